import PyProof.Rows.All
import Wide.All
import OpenK.AllK
import Wide.FinOn
import Lean
import PySem.Challenge.RW_qz0014_01
open PySem PySem.W PyProof.Rows
set_option Elab.async false
set_option maxRecDepth 100000
set_option maxHeartbeats 8000000
set_option linter.unusedVariables false
set_option compiler.extract_closed false
set_option tactic.hygienic false
set_option linter.unusedSimpArgs false
-- Hk
namespace Mine
section
local macro_rules | `(tactic| o_head $_) => `(tactic| contradiction)
theorem hd0 : False → PySem.Challenge.rw_qz0014_01.row.Holds := by
  intro no
  k_head
end
end Mine

-- Model
namespace Mine
/-- the tactic blocks of default arguments, as data (each stands once) -/
def tq (k : Lean.Name) (l : Array Lean.Syntax) : Lean.Syntax := .node .none `Lean.Parser.Tactic.tacticSeq #[.node .none `Lean.Parser.Tactic.tacticSeq1Indented #[.node .none `null #[.node .none k l]]]
def aR : Lean.Syntax := tq `Lean.Parser.Tactic.tacticRfl #[Lean.mkAtom "rfl"]
def aD : Lean.Syntax := tq `Lean.Parser.Tactic.decide #[Lean.mkAtom "decide", .node .none `Lean.Parser.Tactic.optConfig #[.node .none `null #[]]]
def aK : Lean.Syntax := tq `PySem.W.tacticK_is #[Lean.mkAtom "k_is"]

/-! conjunctions and existences taken apart in one step -/
structure A3 (a b c : Prop) : Prop where
  p1 : a
  p2 : b
  p3 : c
structure A4 (a b c d : Prop) : Prop where
  p1 : a
  p2 : b
  p3 : c
  p4 : d
structure A5 (a b c d e : Prop) : Prop where
  p1 : a
  p2 : b
  p3 : c
  p4 : d
  p5 : e
structure A6 (a b c d e f : Prop) : Prop where
  p1 : a
  p2 : b
  p3 : c
  p4 : d
  p5 : e
  p6 : f
structure A7 (a b c d e f g : Prop) : Prop where
  p1 : a
  p2 : b
  p3 : c
  p4 : d
  p5 : e
  p6 : f
  p7 : g
structure A8 (a b c d e f g h : Prop) : Prop where
  p1 : a
  p2 : b
  p3 : c
  p4 : d
  p5 : e
  p6 : f
  p7 : g
  p8 : h
structure A9 (a b c d e f g h i : Prop) : Prop where
  p1 : a
  p2 : b
  p3 : c
  p4 : d
  p5 : e
  p6 : f
  p7 : g
  p8 : h
  p9 : i
structure A10 (a b c d e f g h i j : Prop) : Prop where
  p1 : a
  p2 : b
  p3 : c
  p4 : d
  p5 : e
  p6 : f
  p7 : g
  p8 : h
  p9 : i
  p10 : j
structure A11 (a b c d e f g h i j k : Prop) : Prop where
  p1 : a
  p2 : b
  p3 : c
  p4 : d
  p5 : e
  p6 : f
  p7 : g
  p8 : h
  p9 : i
  p10 : j
  p11 : k
structure A12 (a b c d e f g h i j k l : Prop) : Prop where
  p1 : a
  p2 : b
  p3 : c
  p4 : d
  p5 : e
  p6 : f
  p7 : g
  p8 : h
  p9 : i
  p10 : j
  p11 : k
  p12 : l
inductive E2 {α0 α1 : Type} (p : α0 → α1 → Prop) : Prop
  | mk (x0 : α0) (x1 : α1) (h : p x0 x1)
inductive E3 {α0 α1 α2 : Type} (p : α0 → α1 → α2 → Prop) : Prop
  | mk (x0 : α0) (x1 : α1) (x2 : α2) (h : p x0 x1 x2)
inductive E4 {α0 α1 α2 α3 : Type} (p : α0 → α1 → α2 → α3 → Prop) : Prop
  | mk (x0 : α0) (x1 : α1) (x2 : α2) (x3 : α3) (h : p x0 x1 x2 x3)
inductive E5 {α0 α1 α2 α3 α4 : Type} (p : α0 → α1 → α2 → α3 → α4 → Prop) : Prop
  | mk (x0 : α0) (x1 : α1) (x2 : α2) (x3 : α3) (x4 : α4) (h : p x0 x1 x2 x3 x4)
inductive E6 {α0 α1 α2 α3 α4 α5 : Type} (p : α0 → α1 → α2 → α3 → α4 → α5 → Prop) : Prop
  | mk (x0 : α0) (x1 : α1) (x2 : α2) (x3 : α3) (x4 : α4) (x5 : α5) (h : p x0 x1 x2 x3 x4 x5)
inductive E7 {α0 α1 α2 α3 α4 α5 α6 : Type} (p : α0 → α1 → α2 → α3 → α4 → α5 → α6 → Prop) : Prop
  | mk (x0 : α0) (x1 : α1) (x2 : α2) (x3 : α3) (x4 : α4) (x5 : α5) (x6 : α6) (h : p x0 x1 x2 x3 x4 x5 x6)
inductive E8 {α0 α1 α2 α3 α4 α5 α6 α7 : Type} (p : α0 → α1 → α2 → α3 → α4 → α5 → α6 → α7 → Prop) : Prop
  | mk (x0 : α0) (x1 : α1) (x2 : α2) (x3 : α3) (x4 : α4) (x5 : α5) (x6 : α6) (x7 : α7) (h : p x0 x1 x2 x3 x4 x5 x6 x7)

inductive Ex2 {α : Type} (p q : α → Prop) : Prop
  | mk (a : α) (h : p a) (k : q a)
inductive Ex22 {α β : Type} (p q : α → β → Prop) : Prop
  | mk (a : α) (b : β) (h : p a b) (k : q a b)
theorem lt2s {p : Nat → Prop} (a : p 0) (b : p 1) : ∀ {k}, k < 2 → p k
  | 0, _ => a
  | 1, _ => b
theorem lt3s {p : Nat → Prop} (a : p 0) (b : p 1) (c : p 2) : ∀ {k}, k < 3 → p k
  | 0, _ => a
  | 1, _ => b
  | 2, _ => c
theorem lt4s {p : Nat → Prop} (a : p 0) (b : p 1) (c : p 2) (d : p 3) : ∀ {k}, k < 4 → p k
  | 0, _ => a
  | 1, _ => b
  | 2, _ => c
  | 3, _ => d
theorem gt2 {α : Type} {a b : α} {p : Nat → α → Prop} (x : p 0 a) (y : p 1 b) : ∀ {k v}, [a, b][k]? = some v → p k v
  | 0, _, rfl => x
  | 1, _, rfl => y
theorem noN {α : Type} {x : α} (h : (none : Option α) = some x) {p : Prop} : p := by cases h
theorem fac {α : Type} {p : α → Prop} {a : α} {l : List α} (h : p a) (t : ∀ b ∈ l, p b) : ∀ b ∈ a :: l, p b := List.forall_mem_cons.mpr ⟨h, t⟩
theorem nd1 {a : Nat} : [a].Nodup := List.nodup_cons.mpr ⟨List.not_mem_nil, List.nodup_nil⟩
theorem nd2 {L : Nat} : [L + 1, L + 1 + 1].Nodup := List.nodup_range' (s := L + 1) (n := 2)
theorem nd2' {L : Nat} : [L + 1 + 1, L + 1].Nodup := List.nodup_cons.mpr ⟨fun q => Nat.succ_ne_self _ (List.mem_singleton.mp q), nd1⟩
theorem nd6 {L : Nat} : [L + 1, L + 2, L + 3, L + 4, L + 5, L + 6].Nodup := List.nodup_range' (s := L + 1) (n := 6)
theorem mn {α : Type} {l : List α} {a : α} (i : Nat) (h : autoParam (l[i]? = some a) aR) : a ∈ l := List.mem_of_getElem? h
theorem tl4 {α : Type} {l : List α} {p a b c d : α} (h : p ∈ l) : p ∈ a :: b :: c :: d :: l := .tail _ (.tail _ (.tail _ (.tail _ h)))
theorem tl7 {α : Type} {l : List α} {p a b c d e f g : α} (h : p ∈ l) : p ∈ a :: b :: c :: d :: e :: f :: g :: l := .tail _ (.tail _ (.tail _ (tl4 h)))
set_option tactic.hygienic true in
theorem snoc_get {α : Type} {l : List α} {a b : α} {i : Nat} (e : (l ++ [a])[i]? = some b) : l[i]? = some b ∨ (i = l.length ∧ a = b) := by
  rw [List.getElem?_append] at e
  split at e
  · exact .inl e
  · rename_i h
    cases k : i - l.length with
    | zero => rw [k] at e; exact .inr ⟨Nat.le_antisymm (Nat.le_of_sub_eq_zero k) (Nat.not_lt.mp h), Option.some.inj e⟩
    | succ n => rw [k] at e; cases e
theorem fan {α : Type} {p : α → Prop} : ∀ b ∈ ([] : List α), p b := fun _ h => nomatch h
theorem nd_ne {l : List Nat} (h : l.Nodup) (i j : Nat) (hj : autoParam ((decide (i < j) && decide (j < l.length)) = true) aR) : l.getD i 0 ≠ l.getD j 0 := by
  simp only [Bool.and_eq_true, decide_eq_true_eq] at hj
  intro e
  rw [List.getD_eq_getElem?_getD, List.getD_eq_getElem?_getD, List.getElem?_eq_getElem (Nat.lt_trans hj.1 hj.2), List.getElem?_eq_getElem hj.2] at e
  have := (List.getElem_inj h).mp e
  omega
inductive Op where
  | dummy | tru | fls | app | not | and | or | eq | ite
  deriving DecidableEq

structure Tm where
  op : Op
  args : List Nat
  sort : Nat
  data : Nat
  deriving DecidableEq

noncomputable def dummy : Tm := ⟨.dummy, [], 0, 0⟩

noncomputable def mk (B : List Tm) (tm : Tm) : Nat × List Tm := match B.findIdx? (fun x => decide (x = tm)) with
  | some i => (i, B)
  | none => (B.length, B ++ [tm])

/-- a step upon the bank, that may fail -/
noncomputable abbrev BM (α : Type) := List Tm → Option (α × List Tm)
noncomputable def BM.ret {α : Type} (a : α) : BM α := fun B => some (a, B)
noncomputable def BM.bind {α β : Type} (x : BM α) (f : α → BM β) : BM β := fun B => (x B).bind fun p => f p.1 p.2
noncomputable def BM.fail {α : Type} : BM α := fun _ => none

noncomputable def rd (t : Nat) : BM Tm := fun B => (B[t]?).map fun x => (x, B)
noncomputable def mkM (tm : Tm) : BM Nat := fun B => some (mk B tm)

noncomputable def notOf (t : Nat) : BM Nat := BM.bind (rd t) fun x =>
  if x.sort ≠ 0 then BM.fail
  else if x.op = .not then (match x.args with | a :: _ => BM.ret a | [] => BM.fail)
  else if t = 1 then BM.ret 2 else if t = 2 then BM.ret 1 else mkM ⟨.not, [t], 0, 0⟩

noncomputable def wantM (s : Nat) : List Nat → BM Unit
  | [] => BM.ret ()
  | t :: ts => BM.bind (rd t) fun x => if x.sort ≠ s then BM.fail else wantM s ts

noncomputable def andOf (l : List Nat) : BM Nat := BM.bind (wantM 0 l) fun _ => match l with
  | [] => BM.ret 1
  | [x] => BM.ret x
  | _ => mkM ⟨.and, l, 0, 0⟩
noncomputable def orOf (l : List Nat) : BM Nat := BM.bind (wantM 0 l) fun _ => match l with
  | [] => BM.ret 2
  | [x] => BM.ret x
  | _ => mkM ⟨.or, l, 0, 0⟩
noncomputable def eqM (a b : Nat) : BM Nat := BM.bind (rd a) fun x => BM.bind (wantM x.sort [b]) fun _ =>
  if a = b then BM.ret 1 else mkM ⟨.eq, [min a b, max a b], 0, 0⟩
noncomputable def iffM (a b : Nat) : BM Nat := BM.bind (wantM 0 [a, b]) fun _ => eqM a b
noncomputable def iteM (c a b : Nat) : BM Nat := BM.bind (wantM 0 [c]) fun _ => BM.bind (rd a) fun x => BM.bind (wantM x.sort [b]) fun _ => mkM ⟨.ite, [c, a, b], x.sort, 0⟩

noncomputable def unitOf (op : Op) : Nat := if op = .and then 1 else 2
noncomputable def settleOf (op : Op) : Nat := if op = .and then 2 else 1
noncomputable def otherOf (op : Op) : Op := if op = .and then .or else .and

noncomputable def flatM (op : Op) : Nat → List Nat → List Nat → BM (Option (List Nat))
  | 0, _, _ => BM.fail
  | _ + 1, [], found => if 60 < found.length then BM.fail else BM.ret (some found)
  | n + 1, t :: rest, found =>
    if 1000 < rest.length ∨ 60 < found.length then BM.fail
    else if t = unitOf op then flatM op n rest found
    else if t = settleOf op then BM.ret none
    else BM.bind (notOf t) fun nt => if nt ∈ found then BM.ret none
      else BM.bind (rd t) fun x => if x.op = op then flatM op n (x.args ++ rest) found
        else flatM op n rest (if t ∈ found then found else found ++ [t])

noncomputable def insSorted (a : Nat) : List Nat → List Nat
  | [] => [a]
  | b :: l => if a ≤ b then a :: b :: l else b :: insSorted a l
noncomputable def sortNat : List Nat → List Nat
  | [] => []
  | a :: l => insSorted a (sortNat l)

noncomputable def leftM (found : List Nat) : List Nat → BM (List Nat)
  | [] => BM.ret []
  | a :: as => BM.bind (notOf a) fun n => BM.bind (leftM found as) fun l => BM.ret (if n ∈ found then l else a :: l)

noncomputable def thinM (J : Op → List Nat → BM Nat) (other : Op) (found : List Nat) : List Nat → List Nat → BM (List Nat)
  | [], kept => BM.ret kept
  | t :: ts, kept => BM.bind (rd t) fun x =>
    if x.op ≠ other then thinM J other found ts (kept ++ [t])
    else if 1000 < x.args.length then BM.fail
    else if x.args.any (fun a => decide (a ∈ found)) then thinM J other found ts kept
    else BM.bind (leftM found x.args) fun left =>
      if left.length = x.args.length then thinM J other found ts (kept ++ [t])
      else BM.bind (J other left) fun r => thinM J other found ts (kept ++ [r])

noncomputable def loopM (J : Op → List Nat → BM Nat) (op : Op) : Nat → Option (List Nat) → BM Nat
  | 0, _ => BM.fail
  | _ + 1, none => BM.ret (settleOf op)
  | k + 1, some found => BM.bind (thinM J (otherOf op) found (sortNat found) []) fun kept =>
    if kept = sortNat found then (if op = .and then andOf kept else orOf kept)
    else BM.bind (flatM op 200 kept []) fun f => loopM J op k f

noncomputable def joinM : Nat → Op → List Nat → BM Nat
  | 0, _, _ => BM.fail
  | d + 1, op, l => BM.bind (flatM op 200 l []) fun f => loopM (joinM d) op 50 f

noncomputable def sameM (a b : Nat) : BM Nat :=
  BM.bind (rd a) fun x => BM.bind (if x.op = .not then BM.bind (notOf a) fun a' => BM.ret (a', true) else BM.ret (a, false)) fun p =>
  BM.bind (rd b) fun y => BM.bind (if y.op = .not then BM.bind (notOf b) fun b' => BM.ret (b', !p.2) else BM.ret (b, p.2)) fun q =>
  let ab := if p.1 = 1 ∨ p.1 = 2 then (q.1, p.1) else (p.1, q.1)
  BM.bind (if ab.2 = 1 ∨ ab.2 = 2 then (if ab.2 = 1 then BM.ret ab.1 else notOf ab.1) else iffM ab.1 ab.2) fun r =>
  if q.2 then notOf r else BM.ret r

noncomputable def DEPTH : Nat := 4

noncomputable def chosenBoolM (c a b : Nat) : BM Nat :=
  if a = 1 ∨ a = c then joinM DEPTH .or [c, b] else
  BM.bind (if a = 2 then BM.ret true else BM.bind (notOf c) fun n => BM.ret (decide (a = n))) fun t2 =>
  if t2 then BM.bind (notOf c) fun n => joinM DEPTH .and [n, b] else
  BM.bind (if b = 1 then BM.ret true else BM.bind (notOf c) fun n => BM.ret (decide (b = n))) fun t3 =>
  if t3 then BM.bind (notOf c) fun n => joinM DEPTH .or [n, a] else
  if b = 2 ∨ b = c then joinM DEPTH .and [c, a] else
  BM.bind (notOf b) fun nb => if a = nb then sameM c a else iteM c a b

noncomputable def stripM (t c k : Nat) : BM Nat := BM.bind (rd t) fun x =>
  if x.op = .ite then (match x.args[0]? with
    | none => BM.fail
    | some c' => if c' = c then (match x.args[k]? with | none => BM.fail | some r => BM.ret r) else BM.ret t) else BM.ret t

noncomputable def chosenM (c a b : Nat) : BM Nat :=
  BM.bind (rd c) fun x => BM.bind (if x.op = .not then BM.bind (notOf c) fun c' => BM.ret (c', b, a) else BM.ret (c, a, b)) fun p =>
  BM.bind (stripM p.2.1 p.1 1) fun a => BM.bind (stripM p.2.2 p.1 2) fun b =>
  if p.1 = 1 ∨ a = b then BM.ret a else if p.1 = 2 then BM.ret b else
  BM.bind (rd a) fun y => if y.sort = 0 then chosenBoolM p.1 a b else iteM p.1 a b

noncomputable def partsM (B : List Tm) : Nat → List (Nat × Bool) → List Nat → Option (List Nat)
  | 0, _, _ => none
  | _ + 1, [], found => some found
  | n + 1, (t, o) :: rest, found =>
    if t ∈ found then partsM B n rest found
    else if o then partsM B n rest (found ++ [t])
    else match B[t]? with
      | none => none
      | some x => partsM B n ((x.args.filter fun a => decide (a ∉ found)).map (fun a => (a, false)) ++ (t, true) :: rest) found

end Mine

-- Model2
namespace Mine
/-- Bank.parts_of_all, with the guards the walk needs; the stack top first -/
noncomputable def partsG (B : List Tm) : Nat → List (Nat × Bool) → List Nat → Option (List Nat)
  | 0, _, _ => none
  | _ + 1, [], found => some found
  | n + 1, (t, o) :: rest, found =>
    if 100000 < rest.length ∨ 100000 < found.length then none
    else if t ∈ found then partsG B n rest found
    else if o then partsG B n rest (found ++ [t])
    else match B[t]? with
      | none => none
      | some x => if 1000 < x.args.length then none else partsG B n ((x.args.filter fun a => decide (a ∉ found)).map (fun a => (a, false)) ++ (t, true) :: rest) found
noncomputable def equalM (a b : Nat) : BM Nat := if a = b then BM.ret 1 else
  BM.bind (rd a) fun x => BM.bind (rd b) fun y => if x.op = .app ∧ y.op = .app ∧ x.sort ≠ 0 then eqM a b else BM.fail
end Mine

-- Grow
namespace Mine
theorem ieT {α : Type} {c : Prop} [Decidable c] {f g r : α} (h : c) (e : (if c then f else g) = r) : f = r := by rw [if_pos h] at e; exact e
theorem ieF {α : Type} {c : Prop} [Decidable c] {f g r : α} (h : ¬c) (e : (if c then f else g) = r) : g = r := by rw [if_neg h] at e; exact e
theorem bmT {α : Type} {c : Prop} [Decidable c] {f g : BM α} {B : List Tm} {r : Option (α × List Tm)} (h : c) (e : (if c then f else g) B = r) : f B = r := by rw [if_pos h] at e; exact e
theorem bmF {α : Type} {c : Prop} [Decidable c] {f g : BM α} {B : List Tm} {r : Option (α × List Tm)} (h : ¬c) (e : (if c then f else g) B = r) : g B = r := by rw [if_neg h] at e; exact e

/-- a step that only adds to the bank -/
noncomputable def Gr {α : Type} (f : BM α) : Prop := ∀ B r B', f B = some (r, B') → B <+: B'
theorem Gr.ret {α : Type} (a : α) : Gr (BM.ret a) := fun B r B' e => by cases e; exact List.prefix_refl _
theorem Gr.fail {α : Type} : Gr (BM.fail : BM α) := fun B r B' e => by cases e
theorem Gr.bind {α β : Type} {x : BM α} {f : α → BM β} (hx : Gr x) (hf : ∀ a, Gr (f a)) : Gr (BM.bind x f) := fun B r B' e => by
  unfold BM.bind at e
  cases h : x B with
  | none => rw [h] at e; simp at e
  | some p =>
    rw [h] at e
    obtain ⟨a, B1⟩ := p
    exact (hx B a B1 h).trans (hf a B1 r B' e)
theorem Gr.rd (t : Nat) : Gr (rd t) := fun B r B' e => by
  unfold Mine.rd at e
  cases h : B[t]? with
  | none => rw [h] at e; simp at e
  | some x => rw [h] at e; cases e; exact List.prefix_refl _
theorem Gr.mkM (tm : Tm) : Gr (mkM tm) := fun B r B' e => by
  have e' : mk B tm = (r, B') := Option.some.inj e
  unfold mk at e'
  split at e'
  · cases e'; exact List.prefix_refl _
  · cases e'; exact List.prefix_append _ _
theorem Gr.ite {α : Type} {c : Prop} [Decidable c] {a b : BM α} (ha : Gr a) (hb : Gr b) : Gr (if c then a else b) := by split <;> assumption

theorem gr_notOf (t : Nat) : Gr (notOf t) := Gr.bind (Gr.rd t) fun x => Gr.ite Gr.fail (Gr.ite (by split; exact Gr.ret _; exact Gr.fail) (Gr.ite (Gr.ret _) (Gr.ite (Gr.ret _) (Gr.mkM _))))
theorem gr_wantM (s : Nat) : ∀ l, Gr (wantM s l)
  | [] => Gr.ret _
  | t :: ts => Gr.bind (Gr.rd t) fun _ => Gr.ite Gr.fail (gr_wantM s ts)
theorem gr_andOf (l : List Nat) : Gr (andOf l) := Gr.bind (gr_wantM 0 l) fun _ => by split; exact Gr.ret _; exact Gr.ret _; exact Gr.mkM _
theorem gr_orOf (l : List Nat) : Gr (orOf l) := Gr.bind (gr_wantM 0 l) fun _ => by split; exact Gr.ret _; exact Gr.ret _; exact Gr.mkM _
theorem gr_eqM (a b : Nat) : Gr (eqM a b) := Gr.bind (Gr.rd a) fun _ => Gr.bind (gr_wantM _ _) fun _ => Gr.ite (Gr.ret _) (Gr.mkM _)
theorem gr_iffM (a b : Nat) : Gr (iffM a b) := Gr.bind (gr_wantM _ _) fun _ => gr_eqM a b
theorem gr_iteM (c a b : Nat) : Gr (iteM c a b) := Gr.bind (gr_wantM _ _) fun _ => Gr.bind (Gr.rd a) fun _ => Gr.bind (gr_wantM _ _) fun _ => Gr.mkM _
theorem gr_flatM (op : Op) : ∀ n l found, Gr (flatM op n l found)
  | 0, _, _ => Gr.fail
  | n + 1, [], found => by unfold flatM; exact Gr.ite Gr.fail (Gr.ret _)
  | n + 1, t :: rest, found => by
    unfold flatM
    refine Gr.ite Gr.fail (Gr.ite (gr_flatM op n _ _) (Gr.ite (Gr.ret _) (Gr.bind (gr_notOf t) fun nt => Gr.ite (Gr.ret _) (Gr.bind (Gr.rd t) fun x => Gr.ite (gr_flatM op n _ _) (gr_flatM op n _ _)))))
theorem gr_leftM (found : List Nat) : ∀ l, Gr (leftM found l)
  | [] => Gr.ret _
  | a :: as => Gr.bind (gr_notOf a) fun _ => Gr.bind (gr_leftM found as) fun _ => Gr.ret _
theorem gr_thinM {J : Op → List Nat → BM Nat} (hJ : ∀ o l, Gr (J o l)) (other : Op) (found : List Nat) : ∀ l kept, Gr (thinM J other found l kept)
  | [], kept => Gr.ret _
  | t :: ts, kept => by
    unfold thinM
    refine Gr.bind (Gr.rd t) fun x => Gr.ite (gr_thinM hJ other found ts _) (Gr.ite Gr.fail (Gr.ite (gr_thinM hJ other found ts _) (Gr.bind (gr_leftM found _) fun left => Gr.ite (gr_thinM hJ other found ts _) (Gr.bind (hJ _ _) fun r => gr_thinM hJ other found ts _))))
theorem gr_loopM {J : Op → List Nat → BM Nat} (hJ : ∀ o l, Gr (J o l)) (op : Op) : ∀ k f, Gr (loopM J op k f)
  | 0, _ => Gr.fail
  | _ + 1, none => Gr.ret _
  | k + 1, some found => by
    unfold loopM
    exact Gr.bind (gr_thinM hJ _ found _ _) fun kept => Gr.ite (Gr.ite (gr_andOf _) (gr_orOf _)) (Gr.bind (gr_flatM op 200 kept []) fun f => gr_loopM hJ op k f)
theorem gr_joinM : ∀ d op l, Gr (joinM d op l)
  | 0, _, _ => Gr.fail
  | d + 1, op, l => Gr.bind (gr_flatM op 200 l []) fun f => gr_loopM (gr_joinM d) op 50 f
theorem gr_sameM (a b : Nat) : Gr (sameM a b) := by
  refine Gr.bind (Gr.rd a) fun x => Gr.bind (Gr.ite (Gr.bind (gr_notOf a) fun _ => Gr.ret _) (Gr.ret _)) fun p => Gr.bind (Gr.rd b) fun y => Gr.bind (Gr.ite (Gr.bind (gr_notOf b) fun _ => Gr.ret _) (Gr.ret _)) fun q => ?_
  exact Gr.bind (Gr.ite (Gr.ite (Gr.ret _) (gr_notOf _)) (gr_iffM _ _)) fun r => Gr.ite (gr_notOf r) (Gr.ret r)
theorem gr_chosenBoolM (c a b : Nat) : Gr (chosenBoolM c a b) := by
  unfold chosenBoolM
  refine Gr.ite (gr_joinM _ _ _) (Gr.bind (Gr.ite (Gr.ret _) (Gr.bind (gr_notOf c) fun _ => Gr.ret _)) fun t2 => Gr.ite (Gr.bind (gr_notOf c) fun n => gr_joinM _ _ _) (Gr.bind (Gr.ite (Gr.ret _) (Gr.bind (gr_notOf c) fun _ => Gr.ret _)) fun t3 =>
    Gr.ite (Gr.bind (gr_notOf c) fun n => gr_joinM _ _ _) (Gr.ite (gr_joinM _ _ _) (Gr.bind (gr_notOf b) fun nb => Gr.ite (gr_sameM c a) (gr_iteM c a b)))))
theorem gr_stripM (t c k : Nat) : Gr (stripM t c k) := Gr.bind (Gr.rd t) fun x => Gr.ite (by
  split
  · exact Gr.fail
  · exact Gr.ite (by split; exact Gr.fail; exact Gr.ret _) (Gr.ret _)) (Gr.ret _)
theorem gr_chosenM (c a b : Nat) : Gr (chosenM c a b) := by
  unfold chosenM
  refine Gr.bind (Gr.rd c) fun x => Gr.bind (Gr.ite (Gr.bind (gr_notOf c) fun _ => Gr.ret _) (Gr.ret _)) fun p => Gr.bind (gr_stripM _ _ _) fun a => Gr.bind (gr_stripM _ _ _) fun b => Gr.ite (Gr.ret _) (Gr.ite (Gr.ret _) (Gr.bind (Gr.rd a) fun y => Gr.ite (gr_chosenBoolM _ _ _) (gr_iteM _ _ _)))
theorem Gr.len {α : Type} {f : BM α} (g : Gr f) {B B' : List Tm} {r : α} (e : f B = some (r, B')) : B.length ≤ B'.length := (g B r B' e).length_le
end Mine

-- Dct0
namespace Mine
theorem insSorted_perm (a : Nat) : ∀ l, (insSorted a l).Perm (a :: l)
  | [] => .refl _
  | b :: l => by
    unfold insSorted
    split
    · exact .refl _
    · exact ((insSorted_perm a l).cons b).trans (.swap _ _ _)
theorem sortNat_perm : ∀ l, (sortNat l).Perm l
  | [] => .refl _
  | a :: l => (insSorted_perm a _).trans ((sortNat_perm l).cons a)
set_option tactic.hygienic true in
theorem insSorted_sorted (a : Nat) : ∀ l : List Nat, l.Pairwise (· ≤ ·) → (insSorted a l).Pairwise (· ≤ ·)
  | [], _ => by simp [insSorted]
  | b :: l, h => by
    unfold insSorted
    have hb := List.pairwise_cons.mp h
    split
    · rename_i hab
      refine List.pairwise_cons.mpr ⟨fun c hc => ?_, h⟩
      rcases List.mem_cons.mp hc with rfl | hc
      · exact hab
      · exact Nat.le_trans hab (hb.1 c hc)
    · rename_i hab
      refine List.pairwise_cons.mpr ⟨fun c hc => ?_, insSorted_sorted a l hb.2⟩
      rcases List.mem_cons.mp ((insSorted_perm a l).mem_iff.mp hc) with rfl | hc
      · omega
      · exact hb.1 c hc
theorem sortNat_sorted : ∀ l : List Nat, (sortNat l).Pairwise (· ≤ ·)
  | [] => .nil
  | a :: l => insSorted_sorted a _ (sortNat_sorted l)
end Mine

-- Pure1
namespace Mine

/-! the worth of a term, by a fold over the bank -/
noncomputable def semTm (v : Nat → Bool) (i : Nat) (g : Nat → Bool) (x : Tm) : Bool := match x.op, x.args with
  | .tru, _ => true
  | .app, _ => v i
  | .not, [a] => !g a
  | .and, l => l.all g
  | .or, l => l.any g
  | .eq, [a, b] => g a == g b
  | .ite, [c, a, b] => if g c then g a else g b
  | _, _ => false
noncomputable def semStep (v : Nat → Bool) (acc : List Bool) (x : Tm) : List Bool := acc ++ [semTm v acc.length (fun a => acc.getD a false) x]
noncomputable def semL (v : Nat → Bool) (B : List Tm) : List Bool := B.foldl (semStep v) []
noncomputable def sem (v : Nat → Bool) (B : List Tm) (t : Nat) : Bool := (semL v B).getD t false

section
variable {v : Nat → Bool} {B B' : List Tm} {t : Nat} {x : Tm}
theorem semFold_pre : ∀ (C : List Tm) (acc : List Bool), acc <+: C.foldl (semStep v) acc
  | [], acc => List.prefix_refl _
  | x :: C, acc => (List.prefix_append acc _).trans (semFold_pre C _)
theorem semL_pre (h : B <+: B') : semL v B <+: semL v B' := by
  obtain ⟨C, rfl⟩ := h
  unfold semL
  rw [List.foldl_append]
  exact semFold_pre C _
theorem semFold_len : ∀ (C : List Tm) (acc : List Bool), (C.foldl (semStep v) acc).length = acc.length + C.length
  | [], acc => rfl
  | x :: C, acc => by
    rw [List.foldl_cons, semFold_len C]
    show (acc ++ [_]).length + C.length = acc.length + (C.length + 1)
    rw [List.length_append, Nat.add_assoc]
    exact congrArg (acc.length + ·) (Nat.add_comm 1 C.length)
theorem semL_len : (semL v B).length = B.length := by unfold semL; rw [semFold_len]; simp
theorem getD_pre {a b : List Bool} (h : a <+: b) (ht : t < a.length) : b.getD t false = a.getD t false := by
  obtain ⟨c, rfl⟩ := h
  simp [List.getD_eq_getElem?_getD, List.getElem?_append_left ht]
theorem sem_pre (h : B <+: B') (ht : t < B.length) : sem v B' t = sem v B t := getD_pre (semL_pre h) (by rw [semL_len]; exact ht)
theorem all_c {g g' : Nat → Bool} : ∀ (l : List Nat), (∀ a ∈ l, g a = g' a) → l.all g = l.all g'
  | [], _ => rfl
  | a :: l, h => show (g a && l.all g) = (g' a && l.all g') by rw [h a (.head _), all_c l fun b hb => h b (.tail _ hb)]
theorem any_c {g g' : Nat → Bool} : ∀ (l : List Nat), (∀ a ∈ l, g a = g' a) → l.any g = l.any g'
  | [], _ => rfl
  | a :: l, h => show (g a || l.any g) = (g' a || l.any g') by rw [h a (.head _), any_c l fun b hb => h b (.tail _ hb)]
theorem semTm_congr {i : Nat} {g g' : Nat → Bool} (h : ∀ a ∈ x.args, g a = g' a) : semTm v i g x = semTm v i g' x := by
  obtain ⟨op, args, s, d⟩ := x
  cases op with
  | dummy => rfl
  | tru => rfl
  | fls => rfl
  | app => rfl
  | not => match args, h with
    | [], _ => rfl
    | [a], h => exact congrArg not (h a (mn 0))
    | _ :: _ :: _, _ => rfl
  | and => exact all_c args h
  | or => exact any_c args h
  | eq => match args, h with
    | [], _ => rfl
    | [_], _ => rfl
    | [a, b], h =>
      show (g a == g b) = (g' a == g' b)
      rw [h a (mn 0), h b (mn 1)]
    | _ :: _ :: _ :: _, _ => rfl
  | ite => match args, h with
    | [], _ => rfl
    | [_], _ => rfl
    | [_, _], _ => rfl
    | [a, b, c], h =>
      show (if g a then g b else g c) = (if g' a then g' b else g' c)
      rw [h a (mn 0), h b (mn 1), h c (mn 2)]
    | _ :: _ :: _ :: _ :: _, _ => rfl
theorem get_lt {α : Type} {l : List α} {i : Nat} {x : α} (h : l[i]? = some x) : i < l.length := (List.getElem?_eq_some_iff.mp h).1
theorem take_pre (B : List Tm) (n : Nat) : B.take n <+: B := List.take_prefix n B
theorem take_snoc (hx : B[t]? = some x) : B.take t ++ [x] <+: B := by
  obtain ⟨h, rfl⟩ := List.getElem?_eq_some_iff.mp hx
  rw [List.take_append_getElem h]
  exact take_pre _ _
theorem sem_eq (hx : B[t]? = some x) (hlt : ∀ a ∈ x.args, a < t) : sem v B t = semTm v t (sem v B) x := by
  have hl := get_lt hx
  have hlen : (B.take t).length = t := List.length_take_of_le (Nat.le_of_lt hl)
  have h1 : sem v B t = sem v (B.take t ++ [x]) t := sem_pre (take_snoc hx) (by rw [List.length_append, hlen]; exact Nat.lt_succ_self t)
  have h2 : sem v (B.take t ++ [x]) t = semTm v t (fun a => (semL v (B.take t)).getD a false) x := by
    show (semL v _).getD t false = _
    unfold semL
    rw [List.foldl_append]
    show (semStep v (semL v (B.take t)) x).getD t false = _
    unfold semStep
    have e : (semL v (B.take t)).length = t := by rw [semL_len, hlen]
    rw [List.getD_eq_getElem?_getD, List.getElem?_append_right (Nat.le_of_eq e), e]
    simp only [Nat.sub_self, List.getElem?_cons_zero, Option.getD_some, List.getD_eq_getElem?_getD]
    rfl
  rw [h1, h2]
  refine semTm_congr fun a ha => ?_
  have := hlt a ha
  exact (sem_pre (take_pre B t) (hlen.symm ▸ this)).symm

theorem at_pre (h : B <+: B') (e : B[t]? = some x) : B'[t]? = some x := by
  obtain ⟨C, rfl⟩ := h
  rw [List.getElem?_append_left (get_lt e)]; exact e
end

/-! what stands in the bank -/
noncomputable def HasS (B : List Tm) (a s : Nat) : Prop := Ex2 (fun y => B[a]? = some y) (fun y => y.sort = s ∧ y.op ≠ .dummy)
noncomputable def Lit (B : List Tm) (t : Nat) : Prop := Ex2 (fun y => B[t]? = some y) (fun y => A4 (y.sort = 0) (y.op ≠ .dummy) (y.op ≠ .and) (y.op ≠ .or))
noncomputable def L1 (B : List Tm) (t : Nat) : Prop := Ex2 (fun y => B[t]? = some y) (fun y => A3 (y.sort = 0) (y.op ≠ .dummy) (((y.op = .and ∨ y.op = .or) → ∀ a ∈ y.args, Lit B a)))
noncomputable def wtT (y : Tm) : Nat := if y.op = .and ∨ y.op = .or then max 1 y.args.length else 1
noncomputable def wt (B : List Tm) (t : Nat) : Nat := match B[t]? with | some y => wtT y | none => 1
noncomputable def L1w (B : List Tm) (t : Nat) : Prop := L1 B t ∧ wt B t ≤ 2
noncomputable def NoAg (B : List Tm) (c late : Nat) : Prop := Ex2 (fun y => B[late]? = some y) (fun y => (y.op ≠ .ite ∨ ∃ c', y.args[0]? = some c' ∧ c' ≠ c))
noncomputable def CondC (B : List Tm) (c : Nat) : Prop := Ex2 (fun y => B[c]? = some y) (fun y => A5 (y.sort = 0) (y.op ≠ .dummy) (y.op ≠ .tru) (y.op ≠ .fls) (y.op ≠ .not))

noncomputable def BodyOk (B : List Tm) (i : Nat) (x : Tm) : Prop := match x.op with
  | .dummy => i = 0
  | .tru => i = 1
  | .fls => i = 2
  | .app => 3 ≤ i ∧ i < 9
  | .not => E2 fun a y => A3 (x = ⟨.not, [a], 0, 0⟩) (B[a]? = some y) (A5 (y.sort = 0) (y.op ≠ .dummy) (y.op ≠ .not) (y.op ≠ .tru) (y.op ≠ .fls))
  | .and => x.sort = 0 ∧ 2 ≤ x.args.length ∧ x.args.length ≤ 8 ∧ ∀ a ∈ x.args, HasS B a 0
  | .or => x.sort = 0 ∧ 2 ≤ x.args.length ∧ x.args.length ≤ 8 ∧ ∀ a ∈ x.args, HasS B a 0
  | .eq => E3 fun a b s => A3 (x = ⟨.eq, [a, b], 0, 0⟩) (HasS B a s) (HasS B b s)
  | .ite => E4 fun c a b s => A8 (x = ⟨.ite, [c, a, b], s, 0⟩) (CondC B c) (HasS B a s) (HasS B b s) (a ≠ b) (NoAg B c a) (NoAg B c b) ((s = 0 → L1w B a ∧ L1w B b ∧ ∃ B0 B1, chosenBoolM c a b B0 = some (i, B1) ∧ B1 <+: B))
structure TmOk (B : List Tm) (i : Nat) (x : Tm) : Prop where
  lt : ∀ a ∈ x.args, a < i
  body : BodyOk B i x
noncomputable def base9 : List Tm := [dummy, ⟨.tru, [], 0, 0⟩, ⟨.fls, [], 0, 0⟩, ⟨.app, [], 0, 0⟩, ⟨.app, [], 0, 1⟩, ⟨.app, [], 0, 2⟩, ⟨.app, [], 3, 3⟩, ⟨.app, [], 3, 4⟩, ⟨.app, [], 3, 5⟩]
structure WF (B : List Tm) : Prop where
  nd : B.Nodup
  base : base9 <+: B
  tm : ∀ i x, B[i]? = some x → TmOk B i x

section
variable {v : Nat → Bool} {B B' : List Tm} {t s : Nat} {x : Tm}
theorem HasS.pre (p : B <+: B') (h : HasS B t s) : HasS B' t s := let ⟨y, a, b⟩ := h; ⟨y, at_pre p a, b⟩
theorem HasS.lt (h : HasS B t s) : t < B.length := let ⟨_, a, _⟩ := h; get_lt a
theorem Lit.pre (p : B <+: B') (h : Lit B t) : Lit B' t := let ⟨y, a, b⟩ := h; ⟨y, at_pre p a, b⟩
theorem Lit.has (h : Lit B t) : HasS B t 0 := let ⟨y, a, b, c, _, _⟩ := h; ⟨y, a, b, c⟩
theorem L1.pre (p : B <+: B') (h : L1 B t) : L1 B' t := let ⟨y, a, b, c, d⟩ := h; ⟨y, at_pre p a, b, c, fun q a ha => (d q a ha).pre p⟩
theorem L1.has (h : L1 B t) : HasS B t 0 := let ⟨y, a, b, c, _⟩ := h; ⟨y, a, b, c⟩
theorem Lit.l1 (h : Lit B t) : L1 B t := let ⟨y, a, b, c, d, e⟩ := h; ⟨y, a, b, c, fun q => (q.elim d e).elim⟩
theorem wt_at (e : B[t]? = some x) : wt B t = wtT x := by unfold wt; rw [e]
theorem wt_pre (p : B <+: B') (h : t < B.length) : wt B' t = wt B t := by
  have e : B[t]? = some B[t] := by simp [h]
  rw [wt_at e, wt_at (at_pre p e)]
theorem wt_pos : 1 ≤ wt B t := by
  unfold wt wtT
  split
  · split
    · exact Nat.le_max_left _ _
    · exact Nat.le_refl 1
  · exact Nat.le_refl 1
theorem Lit.wt (h : Lit B t) : wt B t = 1 := by
  obtain ⟨y, a, b, c, d, e⟩ := h
  rw [wt_at a]; unfold wtT
  rw [if_neg (fun q => q.elim d e)]
theorem L1w.pre (p : B <+: B') (h : L1w B t) : L1w B' t := ⟨h.1.pre p, by rw [wt_pre p h.1.has.lt]; exact h.2⟩
theorem Lit.l1w (h : Lit B t) : L1w B t := ⟨h.l1, by rw [h.wt]; exact Nat.le_succ 1⟩
theorem NoAg.pre {c : Nat} (p : B <+: B') (h : NoAg B c t) : NoAg B' c t := let ⟨y, a, b⟩ := h; ⟨y, at_pre p a, b⟩
theorem CondC.pre (p : B <+: B') (h : CondC B t) : CondC B' t := let ⟨y, a, b⟩ := h; ⟨y, at_pre p a, b⟩
theorem CondC.has (h : CondC B t) : HasS B t 0 := let ⟨y, a, b, c, _, _, _⟩ := h; ⟨y, a, b, c⟩
set_option tactic.hygienic true in
theorem BodyOk.pre (p : B <+: B') (h : BodyOk B t x) : BodyOk B' t x := by
  unfold BodyOk at h ⊢
  split <;> rename_i e <;> rw [e] at h <;> dsimp only at h
  · exact h
  · exact h
  · exact h
  · exact h
  · obtain ⟨a, y, h1, h2, h3⟩ := h; exact ⟨a, y, h1, at_pre p h2, h3⟩
  · exact ⟨h.1, h.2.1, h.2.2.1, fun a ha => (h.2.2.2 a ha).pre p⟩
  · exact ⟨h.1, h.2.1, h.2.2.1, fun a ha => (h.2.2.2 a ha).pre p⟩
  · obtain ⟨a, b, s, h1, h2, h3⟩ := h; exact ⟨a, b, s, h1, h2.pre p, h3.pre p⟩
  · obtain ⟨c, a, b, s, h1, h2, h3, h4, h5, h6, h7, h8⟩ := h
    exact ⟨c, a, b, s, h1, h2.pre p, h3.pre p, h4.pre p, h5, h6.pre p, h7.pre p, fun q => ⟨(h8 q).1.pre p, (h8 q).2.1.pre p, let ⟨B0, B1, e, q⟩ := (h8 q).2.2; ⟨B0, B1, e, q.trans p⟩⟩⟩
theorem TmOk.pre (p : B <+: B') (h : TmOk B t x) : TmOk B' t x := ⟨h.lt, h.body.pre p⟩

theorem nodup_at {i j : Nat} (n : B.Nodup) (hi : B[i]? = some x) (hj : B[j]? = some x) : i = j := by
  exact (List.getElem?_inj (get_lt hi) n).mp (hi.trans hj.symm)
theorem base_at (w : WF B) {i : Nat} (h : base9[i]? = some x) : B[i]? = some x := at_pre w.base h
theorem WF.h1 (w : WF B) : B[1]? = some ⟨.tru, [], 0, 0⟩ := base_at w rfl
theorem WF.h2 (w : WF B) : B[2]? = some ⟨.fls, [], 0, 0⟩ := base_at w rfl
theorem WF.len (w : WF B) : 9 ≤ B.length := w.base.length_le
theorem WF.lit1 (w : WF B) : Lit B 1 := ⟨_, w.h1, rfl, by simp, by simp, by simp⟩
theorem WF.lit2 (w : WF B) : Lit B 2 := ⟨_, w.h2, rfl, by simp, by simp, by simp⟩
theorem WF.sem (w : WF B) (e : B[t]? = some x) : sem v B t = semTm v t (sem v B) x := sem_eq e (w.tm _ _ e).lt
theorem WF.sem1 (w : WF B) : Mine.sem v B 1 = true := by rw [w.sem w.h1]; rfl
theorem WF.sem2 (w : WF B) : Mine.sem v B 2 = false := by rw [w.sem w.h2]; rfl

theorem WF.snoc (w : WF B) (hn : x ∉ B) (h : TmOk (B ++ [x]) B.length x) : WF (B ++ [x]) := by
  refine ⟨?_, w.base.trans (List.prefix_append _ _), fun i y e => ?_⟩
  · rw [List.nodup_append]
    refine ⟨w.nd, by simp, fun a ha b hb => ?_⟩
    simp only [List.mem_singleton] at hb
    rintro rfl
    exact hn (hb ▸ ha)
  · rcases snoc_get e with e | ⟨q, e⟩
    · exact (w.tm i y e).pre (List.prefix_append _ _)
    · exact q ▸ e ▸ h
theorem mk_cases (B : List Tm) (x : Tm) : (∃ i, mk B x = (i, B) ∧ B[i]? = some x) ∨ (x ∉ B ∧ mk B x = (B.length, B ++ [x])) := by
  unfold mk
  cases h : B.findIdx? (fun y => decide (y = x)) with
  | some i =>
    refine .inl ⟨i, rfl, ?_⟩
    have := List.findIdx?_eq_some_iff_getElem.mp h
    obtain ⟨hl, e, _⟩ := this
    simp only [decide_eq_true_eq] at e
    rw [List.getElem?_eq_getElem hl, e]
  | none =>
    refine .inr ⟨fun hx => ?_, rfl⟩
    have := List.findIdx?_eq_none_iff.mp h x hx
    simp at this
theorem mk_found (n : B.Nodup) {i : Nat} (h : B[i]? = some x) : mk B x = (i, B) := by
  rcases mk_cases B x with ⟨j, e, hj⟩ | ⟨hn, _⟩
  · rw [e, nodup_at n h hj]
  · exact absurd (List.mem_of_getElem? h) hn
end

/-! steps that go through -/
noncomputable def Ok {α : Type} (f : BM α) (B : List Tm) (k : Nat) (P : α → List Tm → Prop) : Prop := Ex22 (fun r B' => f B = some (r, B')) (fun r B' => A4 (B <+: B') (WF B') (B'.length ≤ B.length + k) (P r B'))
section
variable {α β : Type} {f : BM α} {B B' : List Tm} {k k' : Nat} {P Q : α → List Tm → Prop} {t s : Nat}
theorem Ok.mono (h : Ok f B k P) (hk : k ≤ k') (hp : ∀ r B', B <+: B' → WF B' → P r B' → Q r B') : Ok f B k' Q := by
  obtain ⟨r, B', e, p, w, l, q⟩ := h
  exact ⟨r, B', e, p, w, Nat.le_trans l (Nat.add_le_add_left hk _), hp r B' p w q⟩
theorem Ok.ret {a : α} (w : WF B) (h : P a B) : Ok (BM.ret a) B k P := ⟨a, B, rfl, List.prefix_refl _, w, Nat.le_add_right _ _, h⟩
theorem Ok.bind {g : α → BM β} {R : β → List Tm → Prop} (k1 k2 : Nat) (h : Ok f B k1 P) (hk : k1 + k2 ≤ k) (hg : ∀ a B1, B <+: B1 → WF B1 → P a B1 → Ok (g a) B1 k2 R) : Ok (BM.bind f g) B k R := by
  obtain ⟨a, B1, e, p, w, l, q⟩ := h
  obtain ⟨r, B2, e2, p2, w2, l2, q2⟩ := hg a B1 p w q
  exact ⟨r, B2, by unfold BM.bind; rw [e]; exact e2, p.trans p2, w2, Nat.le_trans l2 (Nat.le_trans (Nat.add_le_add_right l k2) (by rw [Nat.add_assoc]; exact Nat.add_le_add_left hk _)), q2⟩
theorem Ok.rd {x : Tm} {g : Tm → BM β} {R : β → List Tm → Prop} (h : B[t]? = some x) (hg : Ok (g x) B k R) : Ok (BM.bind (rd t) g) B k R := by
  obtain ⟨r, B2, e2, q⟩ := hg
  refine ⟨r, B2, ?_, q⟩
  unfold BM.bind Mine.rd
  rw [h]; exact e2
theorem ok_mkM {x : Tm} {P : Nat → List Tm → Prop} (w : WF B) (hx : ∀ B', B <+: B' → B' = B ++ [x] → TmOk B' B.length x) (hp : ∀ i B', B <+: B' → WF B' → B'[i]? = some x → P i B') : Ok (mkM x) B 1 P := by
  rcases mk_cases B x with ⟨i, e, hi⟩ | ⟨hn, e⟩
  · exact ⟨i, B, by unfold mkM; rw [e], List.prefix_refl _, w, Nat.le_add_right _ _, hp i B (List.prefix_refl _) w hi⟩
  · have w' := w.snoc hn (hx _ (List.prefix_append _ _) rfl)
    exact ⟨B.length, B ++ [x], by unfold mkM; rw [e], List.prefix_append _ _, w', by simp, hp _ _ (List.prefix_append _ _) w' (by simp)⟩

theorem ok_wantM (w : WF B) {l : List Nat} (h : ∀ t ∈ l, HasS B t s) : wantM s l B = some ((), B) := by
  induction l with
  | nil => rfl
  | cons a l ih =>
    obtain ⟨y, e, hs, _⟩ := h a (.head _)
    have e' : (wantM s (a :: l)) B = (if y.sort ≠ s then BM.fail else wantM s l) B := by
      show (BM.bind (Mine.rd a) _) B = _
      unfold BM.bind Mine.rd
      rw [e]; rfl
    rw [e', if_neg (by simpa using hs)]
    exact ih fun t ht => h t (.tail _ ht)
theorem Ok.want {g : Unit → BM β} {R : β → List Tm → Prop} {l : List Nat} (w : WF B) (h : ∀ t ∈ l, HasS B t s) (hg : Ok (g ()) B k R) : Ok (BM.bind (wantM s l) g) B k R := by
  obtain ⟨r, B2, e2, q⟩ := hg
  refine ⟨r, B2, ?_, q⟩
  unfold BM.bind
  rw [ok_wantM w h]; exact e2

/-! denial -/
noncomputable def NegOf (B : List Tm) (t n : Nat) : Prop := B[n]? = some ⟨.not, [t], 0, 0⟩ ∨ B[t]? = some ⟨.not, [n], 0, 0⟩ ∨ (t = 1 ∧ n = 2) ∨ (t = 2 ∧ n = 1)
theorem NegOf.pre {n : Nat} (p : B <+: B') (h : NegOf B t n) : NegOf B' t n := h.imp (at_pre p) (.imp (at_pre p) id)
theorem sem_neg {v : Nat → Bool} {n : Nat} (w : WF B) (h : NegOf B t n) : sem v B n = !sem v B t := by
  rcases h with h | h | ⟨rfl, rfl⟩ | ⟨rfl, rfl⟩
  · rw [w.sem h]; rfl
  · rw [w.sem h]; simp [semTm]
  · rw [w.sem1, w.sem2]; rfl
  · rw [w.sem1, w.sem2]; rfl
theorem WF.not (w : WF B) {a : Nat} {i : Nat} {s d : Nat} (h : B[i]? = some ⟨.not, [a], s, d⟩) : Ex2 (fun y => B[a]? = some y) (fun y => A5 (y.sort = 0) (y.op ≠ .dummy) (y.op ≠ .not) (y.op ≠ .tru) (y.op ≠ .fls)) := by
  obtain ⟨a', y, e, r1, r2⟩ := (w.tm _ _ h).body
  cases e
  exact ⟨y, r1, r2⟩
theorem WF.not_eq (w : WF B) {x : Tm} (h : B[t]? = some x) (ho : x.op = .not) : ∃ a, x = ⟨.not, [a], 0, 0⟩ := by
  have := (w.tm _ _ h).body
  unfold BodyOk at this
  rw [ho] at this
  obtain ⟨a, y, e, _⟩ := this
  exact ⟨a, e⟩
theorem ok_notOf (w : WF B) (h : HasS B t 0) : Ok (notOf t) B 1 (fun n B' => NegOf B' t n ∧ HasS B' n 0) := by
  obtain ⟨x, e, hs, hd⟩ := h
  refine Ok.rd e ?_
  rw [if_neg (by simpa using hs)]
  by_cases ho : x.op = .not
  · rw [if_pos ho]
    obtain ⟨a, rfl⟩ := w.not_eq e ho
    obtain ⟨y, ey, hy, hyd, _⟩ := w.not e
    exact Ok.ret w ⟨.inr (.inl e), ⟨y, ey, hy, hyd⟩⟩
  rw [if_neg ho]
  by_cases h1 : t = 1
  · rw [if_pos h1]
    exact Ok.ret w ⟨.inr (.inr (.inl ⟨h1, rfl⟩)), w.lit2.has⟩
  rw [if_neg h1]
  by_cases h2 : t = 2
  · rw [if_pos h2]
    exact Ok.ret w ⟨.inr (.inr (.inr ⟨h2, rfl⟩)), w.lit1.has⟩
  rw [if_neg h2]
  refine ok_mkM w (fun B' p q => ⟨?_, ?_⟩) fun i B' p w' hi => ⟨.inl hi, ⟨_, hi, rfl, by simp⟩⟩
  · intro a ha
    simp only [List.mem_singleton] at ha
    subst ha; exact get_lt e
  · refine ⟨t, x, rfl, at_pre p e, hs, hd, ho, ?_, ?_⟩
    · intro q
      have := (w.tm _ _ e).body
      unfold BodyOk at this
      rw [q] at this
      exact h1 this
    · intro q
      have := (w.tm _ _ e).body
      unfold BodyOk at this
      rw [q] at this
      exact h2 this
theorem NegOf.lit {n : Nat} (w : WF B) (h : NegOf B t n) {x : Tm} (e : B[t]? = some x) (ho : x.op ≠ .not) : Lit B n := by
  rcases h with h | h | ⟨rfl, rfl⟩ | ⟨rfl, rfl⟩
  · exact ⟨_, h, rfl, by simp, by simp, by simp⟩
  · rw [e] at h; cases h; exact absurd rfl ho
  · exact w.lit2
  · exact w.lit1
end
end Mine

-- Pure2
namespace Mine

/-- the side of the worth that the op asks for -/
noncomputable def vl (op : Op) (v : Nat → Bool) (B : List Tm) (t : Nat) : Prop := sem v B t = decide (op = .and)
noncomputable def AO (op : Op) : Prop := op = .and ∨ op = .or
theorem AO.other {op : Op} (h : AO op) : AO (otherOf op) := by
  rcases h with rfl | rfl
  · exact .inr rfl
  · exact .inl rfl
theorem AO.oo {op : Op} (h : AO op) : otherOf (otherOf op) = op := by rcases h with rfl | rfl <;> rfl
theorem AO.ne {op : Op} (h : AO op) : otherOf op ≠ op := by rcases h with rfl | rfl <;> decide

section
variable {v : Nat → Bool} {B B' : List Tm} {t n : Nat} {op : Op} {x : Tm}
theorem vl_pre (p : B <+: B') (h : t < B.length) : vl op v B' t ↔ vl op v B t := by unfold vl; rw [sem_pre p h]
theorem vl_unit (w : WF B) (h : AO op) : vl op v B (unitOf op) := by
  rcases h with rfl | rfl
  · exact w.sem1
  · exact w.sem2
theorem vl_settle (w : WF B) (h : AO op) : ¬ vl op v B (settleOf op) := by
  rcases h with rfl | rfl
  · intro q; have := w.sem2 (v := v); unfold vl settleOf at q; simp at q; rw [this] at q; cases q
  · intro q; have := w.sem1 (v := v); unfold vl settleOf at q; simp at q; rw [this] at q; cases q
theorem vl_other (h : AO op) : vl (otherOf op) v B t ↔ ¬ vl op v B t := by
  rcases h with rfl | rfl
  · show sem v B t = false ↔ ¬ sem v B t = true
    simp
  · show sem v B t = true ↔ ¬ sem v B t = false
    simp
theorem vl_neg (w : WF B) (h : NegOf B t n) : vl op v B n ↔ ¬ vl op v B t := by
  unfold vl
  rw [sem_neg w h]
  cases sem v B t <;> cases decide (op = .and) <;> simp
theorem vl_same (w : WF B) (h : AO op) (e : B[t]? = some x) (ho : x.op = op) : vl op v B t ↔ ∀ a ∈ x.args, vl op v B a := by
  unfold vl
  rw [w.sem e]
  unfold semTm
  rcases h with rfl | rfl
  · rw [ho]; simp
  · rw [ho]; simp
theorem vl_oth (w : WF B) (h : AO op) (e : B[t]? = some x) (ho : x.op = otherOf op) : vl op v B t ↔ ∃ a ∈ x.args, vl op v B a := by
  have := vl_same (v := v) w h.other e ho
  rw [vl_other h] at this
  constructor
  · intro q
    apply Classical.byContradiction
    intro k
    exact this.mpr (fun a ha => (vl_other h).mpr fun z => k ⟨a, ha, z⟩) q
  · rintro ⟨a, ha, q⟩
    apply Classical.byContradiction
    intro k
    exact (vl_other h).mp (this.mp k a ha) q

/-! sums of weights -/
noncomputable def sumW (B : List Tm) (l : List Nat) : Nat := (l.map (wt B)).sum
noncomputable def csT (y : Tm) : Nat := if y.op = .and ∨ y.op = .or then 1 + y.args.length else 1
noncomputable def cs (B : List Tm) (t : Nat) : Nat := match B[t]? with | some y => csT y | none => 1
noncomputable def sumC (B : List Tm) (l : List Nat) : Nat := (l.map (cs B)).sum
theorem sumW_cons {a : Nat} {l : List Nat} : sumW B (a :: l) = wt B a + sumW B l := by simp [sumW]
theorem sumW_nil : sumW B [] = 0 := rfl
theorem sumW_append {a b : List Nat} : sumW B (a ++ b) = sumW B a + sumW B b := by simp [sumW]
theorem sumC_cons {a : Nat} {l : List Nat} : sumC B (a :: l) = cs B a + sumC B l := by simp [sumC]
theorem sumC_append {a b : List Nat} : sumC B (a ++ b) = sumC B a + sumC B b := by simp [sumC]
theorem sumW_pre (p : B <+: B') {l : List Nat} (h : ∀ t ∈ l, t < B.length) : sumW B' l = sumW B l := by
  unfold sumW
  congr 1
  exact List.map_congr_left fun a ha => wt_pre p (h a ha)
theorem cs_at (e : B[t]? = some x) : cs B t = csT x := by unfold cs; rw [e]
theorem cs_pre (p : B <+: B') (h : t < B.length) : cs B' t = cs B t := by
  have e : B[t]? = some B[t] := by simp [h]
  rw [cs_at e, cs_at (at_pre p e)]
theorem sumC_pre (p : B <+: B') {l : List Nat} (h : ∀ t ∈ l, t < B.length) : sumC B' l = sumC B l := by
  unfold sumC
  congr 1
  exact List.map_congr_left fun a ha => cs_pre p (h a ha)
theorem len_sumW {l : List Nat} : l.length ≤ sumW B l := by
  induction l with
  | nil => simp
  | cons a l ih => rw [sumW_cons, List.length_cons, Nat.add_comm]; exact Nat.add_le_add wt_pos ih
theorem cs_pos : 1 ≤ cs B t := by
  unfold cs csT
  split
  · split
    · exact Nat.le_add_right 1 _
    · exact Nat.le_refl 1
  · exact Nat.le_refl 1
theorem len_sumC {l : List Nat} : l.length ≤ sumC B l := by
  induction l with
  | nil => simp
  | cons a l ih => rw [sumC_cons, List.length_cons, Nat.add_comm]; exact Nat.add_le_add cs_pos ih
theorem cs_wt : cs B t ≤ 1 + wt B t := by
  cases h : B[t]? with
  | none => unfold cs; rw [h]; exact Nat.le_add_right 1 _
  | some y =>
    rw [cs_at h, wt_at h]; unfold csT wtT
    split
    · exact Nat.add_le_add_left (Nat.le_max_right _ _) _
    · exact Nat.le_add_right 1 _
theorem sumC_le {l : List Nat} : sumC B l ≤ l.length + sumW B l := by
  induction l with
  | nil => simp [sumC, sumW]
  | cons a l ih => rw [sumW_cons, sumC_cons, List.length_cons, Nat.add_comm l.length, Nat.add_add_add_comm]; exact Nat.add_le_add cs_wt ih
theorem Lit.cs (h : Lit B t) : Mine.cs B t = 1 := by
  obtain ⟨y, a, b, c, d, e⟩ := h
  rw [cs_at a]; unfold csT
  rw [if_neg (fun q => q.elim d e)]
theorem sumC_lits {l : List Nat} (h : ∀ t ∈ l, Lit B t) : sumC B l = l.length := by
  induction l with
  | nil => rfl
  | cons a l ih => rw [sumC_cons, (h a (.head _)).cs, ih fun t ht => h t (.tail _ ht), List.length_cons, Nat.add_comm]
theorem sumW_lits {l : List Nat} (h : ∀ t ∈ l, Lit B t) : sumW B l = l.length := by
  induction l with
  | nil => rfl
  | cons a l ih => rw [sumW_cons, (h a (.head _)).wt, ih fun t ht => h t (.tail _ ht), List.length_cons, Nat.add_comm]

noncomputable def At (op : Op) (B : List Tm) (t : Nat) : Prop := L1 B t ∧ ∃ y, B[t]? = some y ∧ y.op ≠ op
theorem At.pre (p : B <+: B') (h : At op B t) : At op B' t := ⟨h.1.pre p, let ⟨y, a, b⟩ := h.2; ⟨y, at_pre p a, b⟩⟩
theorem At.lt (h : At op B t) : t < B.length := h.1.has.lt

theorem mem_sumW {l : List Nat} (h : t ∈ l) : wt B t ≤ sumW B l := by
  induction l with
  | nil => cases h
  | cons a l ih =>
    rw [sumW_cons]
    rcases List.mem_cons.mp h with rfl | h
    · exact Nat.le_add_right _ _
    · exact Nat.le_trans (ih h) (Nat.le_add_left _ _)

noncomputable def FlatP (op : Op) (l found : List Nat) (res : Option (List Nat)) (B' : List Tm) : Prop := match res with
  | none => ∀ v, ¬ ∀ t ∈ l ++ found, vl op v B' t
  | some f => A5 (∀ v, (∀ t ∈ f, vl op v B' t) ↔ ∀ t ∈ l ++ found, vl op v B' t) f.Nodup (∀ t ∈ f, At op B' t) (sumW B' f ≤ sumW B' l + sumW B' found) ((∀ t ∈ l ++ found, Lit B' t) → ∀ t ∈ f, t ∈ l ++ found)
theorem FlatP.same {l l' found found' : List Nat} {res : Option (List Nat)} (q : FlatP op l found res B') (key : ∀ v, (∀ y ∈ l ++ found, vl op v B' y) ↔ ∀ y ∈ l' ++ found', vl op v B' y)
    (hw : sumW B' l + sumW B' found ≤ sumW B' l' + sumW B' found') (hl : (∀ y ∈ l' ++ found', Lit B' y) → (∀ y ∈ l ++ found, Lit B' y) ∧ ∀ y ∈ l ++ found, y ∈ l' ++ found') : FlatP op l' found' res B' := by
  cases res with
  | none => exact fun v k => q v ((key v).mpr k)
  | some f =>
    obtain ⟨a, b, c, d, e⟩ := q
    exact ⟨fun v => (a v).trans (key v), b, c, Nat.le_trans d hw, fun k y hy => (hl k).2 y (e (hl k).1 y hy)⟩
theorem fsn {α : Type} {P : α → Prop} {l : List α} {b : α} (h : ∀ a ∈ l, P a) (hb : P b) : ∀ a ∈ l ++ [b], P a := fun _ q => (List.mem_append.mp q).elim (h _) fun e => List.mem_singleton.mp e ▸ hb
theorem fap {α : Type} {P : α → Prop} {l l' : List α} (h : ∀ a ∈ l, P a) (h' : ∀ a ∈ l', P a) : ∀ a ∈ l ++ l', P a := fun _ q => (List.mem_append.mp q).elim (h _) (h' _)

theorem la1 {c r n : Nat} (p : 1 ≤ c) (h : c + r < n + 1) : r < n := Nat.lt_of_lt_of_le (Nat.lt_add_of_pos_left p) (Nat.le_of_lt_succ h)
theorem la2 {c r n : Nat} (h : c + r ≤ n) : r ≤ n := Nat.le_trans (Nat.le_add_left _ _) h
theorem la3 {a b c n : Nat} (h : a + b + c ≤ n) : b + c ≤ n := Nat.le_trans (Nat.add_le_add_right (Nat.le_add_left _ _) _) h
theorem la4 {a b c m n : Nat} (h : a + b + c ≤ n) (e : m = c + a) : b + m ≤ n := Nat.le_trans (Nat.le_of_eq (by rw [e, Nat.add_comm, Nat.add_comm c, Nat.add_right_comm])) h
theorem la13 {a b w : Nat} : a + b ≤ w + a + b := Nat.add_le_add_right (Nat.le_add_left a w) b
theorem la15 {c r : Nat} (p : 1 ≤ c) : 1 + (c + r - 1) ≤ c + r := Nat.le_of_eq (Nat.add_sub_cancel' (Nat.le_trans p (Nat.le_add_right _ _)))
theorem la16 {c r n x : Nat} (e : c = 1 + x) (h : c + r < n + 1) : x + r < n := Nat.lt_of_succ_lt_succ (by rw [e, Nat.add_comm 1, Nat.add_right_comm] at h; exact h)
theorem la17 {c r n x : Nat} (e : c = 1 + x) (h : c + r ≤ n) : x + r ≤ n := Nat.le_trans (Nat.add_le_add_right (e ▸ Nat.le_add_left x 1) r) h
theorem la18 {c r n x f : Nat} (e : c = max 1 x) (h : c + r + f ≤ n) : x + r + f ≤ n := Nat.le_trans (Nat.add_le_add_right (Nat.add_le_add_right (e ▸ Nat.le_max_right 1 x) r) f) h
theorem la19 {c r x : Nat} (e : c = 1 + x) : x + r ≤ c + r - 1 := Nat.le_pred_of_lt (by rw [e, Nat.add_assoc]; exact Nat.lt_add_of_pos_left Nat.one_pos)
theorem la20 {c r x f : Nat} (e : c = max 1 x) : x + r + f ≤ c + r + f := Nat.add_le_add_right (Nat.add_le_add_right (e ▸ Nat.le_max_right 1 x) r) f
theorem la21 {c r : Nat} (p : 1 ≤ c) : r ≤ c + r - 1 := Nat.le_pred_of_lt (Nat.lt_add_of_pos_left p)
theorem la22 {a b w : Nat} : a + (b + (w + 0)) ≤ w + a + b := Nat.le_of_eq (by rw [Nat.add_zero, Nat.add_comm b, ← Nat.add_assoc, Nat.add_comm a])
theorem ok_flatM (hop : AO op) : ∀ (n : Nat) (l found : List Nat) (B : List Tm), WF B → (∀ t ∈ l, L1 B t) → (∀ t ∈ found, At op B t) → found.Nodup → sumC B l < n → sumC B l ≤ 900 → sumW B l + sumW B found ≤ 60 →
    Ok (flatM op n l found) B (sumC B l) (FlatP op l found) := by
  intro n
  induction n with
  | zero => intro l found B w hl hf hn hc; exact absurd hc (Nat.not_lt_zero _)
  | succ n ih =>
    intro l found B w hl hf hn hc h9 h60
    have lf := len_sumW (B := B) (l := found)
    have ltl : ∀ t ∈ l, t < B.length := fun t ht => (hl t ht).has.lt
    have ltf : ∀ t ∈ found, t < B.length := fun t ht => (hf t ht).lt
    match l with
    | [] =>
      unfold flatM
      rw [if_neg (Nat.not_lt.mpr (Nat.le_trans lf (Nat.le_trans (Nat.le_add_left _ _) h60)))]
      exact Ok.ret w ⟨fun v => Iff.rfl, hn, hf, Nat.le_add_left _ _, fun q t ht => ht⟩
    | t :: rest =>
      have lr := len_sumC (B := B) (l := rest)
      rw [sumC_cons] at hc h9 ⊢
      rw [sumW_cons] at h60
      have hl' : ∀ t ∈ rest, L1 B t := fun a ha => hl a (.tail _ ha)
      have cp := cs_pos (B := B) (t := t)
      have wp := wt_pos (B := B) (t := t)
      unfold flatM
      rw [if_neg (fun q => q.elim (Nat.not_lt.mpr (Nat.le_trans lr (Nat.le_trans (la2 h9) (by decide)))) (Nat.not_lt.mpr (Nat.le_trans lf (Nat.le_trans (Nat.le_add_left _ _) h60))))]
      by_cases h1 : t = unitOf op
      · rw [if_pos h1]
        refine (ih rest found B w hl' hf hn (la1 cp hc) (la2 h9) (la3 h60)).mono (Nat.le_add_left _ _) fun res B' p w' q => ?_
        have hu : ∀ v, vl op v B' t := fun v => h1 ▸ vl_unit w' hop
        exact q.same (fun v => ⟨fun k => fac (hu v) k, fun k y hy => k y (.tail _ hy)⟩) (by rw [sumW_cons]; exact la13) fun k => ⟨fun y hy => k y (.tail _ hy), fun y hy => .tail _ hy⟩
      rw [if_neg h1]
      by_cases h2 : t = settleOf op
      · rw [if_pos h2]
        exact Ok.ret w fun v k => vl_settle (v := v) w hop (h2 ▸ k t (.head _))
      rw [if_neg h2]
      refine Ok.bind 1 (cs B t + sumC B rest - 1) (ok_notOf w (hl t (.head _)).has) (la15 cp) fun nt B1 p1 w1 hnt => ?_
      by_cases h3 : nt ∈ found
      · rw [if_pos h3]
        refine Ok.ret w1 fun v k => ?_
        exact (vl_neg w1 hnt.1).mp (k nt (.tail _ (List.mem_append_right _ h3))) (k t (.head _))
      rw [if_neg h3]
      have hl1 : ∀ a ∈ rest, L1 B1 a := fun a ha => (hl' a ha).pre p1
      have hf1 : ∀ a ∈ found, At op B1 a := fun a ha => (hf a ha).pre p1
      have eC : sumC B1 rest = sumC B rest := sumC_pre p1 fun a ha => ltl a (.tail _ ha)
      have eW : sumW B1 rest = sumW B rest := sumW_pre p1 fun a ha => ltl a (.tail _ ha)
      have eF : sumW B1 found = sumW B found := sumW_pre p1 ltf
      obtain ⟨x, ex, hs, hd, hargs⟩ := hl t (.head _)
      refine Ok.rd (at_pre p1 ex) ?_
      by_cases h4 : x.op = op
      · rw [if_pos h4]
        have hao : x.op = .and ∨ x.op = .or := by rw [h4]; exact hop
        have hA : ∀ a ∈ x.args, Lit B1 a := fun a ha => (hargs hao a ha).pre p1
        have ec : cs B t = 1 + x.args.length := by rw [cs_at ex]; unfold csT; rw [if_pos hao]
        have ew : wt B t = max 1 x.args.length := by rw [wt_at ex]; unfold wtT; rw [if_pos hao]
        have eA : sumC B1 (x.args ++ rest) = x.args.length + sumC B rest := by rw [sumC_append, sumC_lits hA, eC]
        have eAW : sumW B1 (x.args ++ rest) = x.args.length + sumW B rest := by rw [sumW_append, sumW_lits hA, eW]
        refine (ih (x.args ++ rest) found B1 w1 (fap (fun a ha => (hA a ha).l1) hl1) hf1 hn (by rw [eA]; exact la16 ec hc) (by rw [eA]; exact la17 ec h9) (by rw [eAW, eF]; exact la18 ew h60)).mono (by rw [eA]; exact la19 ec) fun res B' p w' q => ?_
        have hsame : ∀ v, vl op v B' t ↔ ∀ a ∈ x.args, vl op v B' a := fun v => vl_same w' hop (at_pre (p1.trans p) ex) h4
        have key : ∀ v, (∀ y ∈ x.args ++ rest ++ found, vl op v B' y) ↔ ∀ y ∈ t :: rest ++ found, vl op v B' y := fun v => by
          rw [List.append_assoc]
          constructor
          · intro k y hy
            rcases List.mem_cons.mp hy with h | hy
            · exact h ▸ (hsame v).mpr fun a ha => k a (List.mem_append_left _ ha)
            · exact k y (List.mem_append_right _ hy)
          · intro k y hy
            rcases List.mem_append.mp hy with hy | hy
            · exact (hsame v).mp (k t (.head _)) y hy
            · exact k y (.tail _ hy)
        have eAW' : sumW B' (x.args ++ rest) = x.args.length + sumW B' rest := by rw [sumW_append, sumW_lits fun a ha => (hA a ha).pre p]
        have ew' : wt B' t = max 1 x.args.length := by rw [wt_at (at_pre (p1.trans p) ex)]; unfold wtT; rw [if_pos hao]
        refine q.same key (by rw [sumW_cons, eAW']; exact la20 ew') fun k => ?_
        obtain ⟨y, ey, _, _, n1, n2⟩ := k t (.head _)
        rw [at_pre (p1.trans p) ex] at ey; cases ey
        exact (hao.elim n1 n2).elim
      · rw [if_neg h4]
        have hat : At op B1 t := ⟨(hl t (.head _)).pre p1, x, at_pre p1 ex, h4⟩
        by_cases h5 : t ∈ found
        · rw [if_pos h5]
          refine (ih rest found B1 w1 hl1 hf1 hn (eC ▸ la1 cp hc) (eC ▸ la2 h9) (by rw [eW, eF]; exact la3 h60)).mono (by rw [eC]; exact la21 cp) fun res B' p w' q => ?_
          exact q.same (fun v => ⟨fun k => fac (k t (List.mem_append_right _ h5)) k, fun k y hy => k y (.tail _ hy)⟩) (by rw [sumW_cons]; exact la13) fun k => ⟨fun y hy => k y (.tail _ hy), fun y hy => .tail _ hy⟩
        · rw [if_neg h5]
          have ewt : wt B1 t = wt B t := wt_pre p1 (get_lt ex)
          have eF1 : sumW B1 (found ++ [t]) = sumW B found + wt B t := by rw [sumW_append, sumW_cons, sumW_nil, eF, ewt, Nat.add_zero]
          refine (ih rest (found ++ [t]) B1 w1 hl1 (fsn hf1 hat) (List.nodup_append.mpr ⟨hn, nd1, fun a ha b hb e => h5 (List.mem_singleton.mp hb ▸ e ▸ ha)⟩) (eC ▸ la1 cp hc) (eC ▸ la2 h9) (by rw [eW]; exact la4 h60 eF1)).mono (by rw [eC]; exact la21 cp) fun res B' p w' q => ?_
          have pm : (rest ++ (found ++ [t])).Perm (t :: rest ++ found) := by rw [← List.append_assoc]; exact List.perm_append_singleton t (rest ++ found)
          exact q.same (fun v => ⟨fun k y hy => k y (pm.mem_iff.mpr hy), fun k y hy => k y (pm.mem_iff.mp hy)⟩) (by rw [sumW_append, sumW_cons, sumW_nil, sumW_cons]; exact la22) fun k => ⟨fun y hy => k y (pm.mem_iff.mp hy), fun y hy => pm.mem_iff.mp hy⟩
end
end Mine

-- Pure3
namespace Mine
section
variable {v : Nat → Bool} {B B' : List Tm} {t n : Nat} {op : Op} {x : Tm} {J : Op → List Nat → BM Nat} {found : List Nat}

theorem ok_leftM (op : Op) (found : List Nat) : ∀ (l : List Nat) (B : List Tm), WF B → (∀ a ∈ l, HasS B a 0) →
    Ok (leftM found l) B l.length (fun left B' => left.Sublist l ∧ ∀ v, (∀ t ∈ found, vl op v B' t) → ∀ a ∈ l, vl op v B' a → a ∈ left) := by
  intro l
  induction l with
  | nil => intro B w _; exact Ok.ret w ⟨.slnil, fun v _ a ha => nomatch ha⟩
  | cons a l ih =>
    intro B w h
    unfold leftM
    refine Ok.bind 1 l.length (ok_notOf w (h a (.head _))) (by simp; omega) fun n B1 p1 w1 hn => ?_
    refine Ok.bind l.length 0 (ih B1 w1 fun b hb => (h b (.tail _ hb)).pre p1) (by omega) fun left B2 p2 w2 hl => ?_
    refine Ok.ret w2 ?_
    by_cases hm : n ∈ found
    · rw [if_pos hm]
      refine ⟨hl.1.cons a, fun v k b hb hv => ?_⟩
      rcases List.mem_cons.mp hb with rfl | hb
      · exact absurd hv ((vl_neg w2 (hn.1.pre p2)).mp (k n hm))
      · exact hl.2 v k b hb hv
    · rw [if_neg hm]
      refine ⟨hl.1.cons_cons a, fun v k b hb hv => ?_⟩
      rcases List.mem_cons.mp hb with rfl | hb
      · exact .head _
      · exact .tail _ (hl.2 v k b hb hv)

/-- what a join within a thinning must give -/
noncomputable def JOk (J : Op → List Nat → BM Nat) (o : Op) : Prop := ∀ (B : List Tm) (l : List Nat), WF B → (∀ a ∈ l, Lit B a) → l.length ≤ 8 →
  Ok (J o l) B 20 (fun r B' => (∀ v, vl o v B' r ↔ ∀ a ∈ l, vl o v B' a) ∧ L1 B' r ∧ wt B' r ≤ max 1 l.length)

theorem WF.ao (w : WF B) (h : AO op) (e : B[t]? = some x) (ho : x.op = op) : x.sort = 0 ∧ 2 ≤ x.args.length ∧ x.args.length ≤ 8 ∧ ∀ a ∈ x.args, HasS B a 0 := by
  have := (w.tm _ _ e).body
  unfold BodyOk at this
  rw [ho] at this
  rcases h with rfl | rfl <;> exact this

noncomputable def ThinP (op : Op) (found ts kept : List Nat) (k' : List Nat) (B' : List Tm) : Prop :=
  A5 (∀ t ∈ k', L1 B' t) (k'.length ≤ kept.length + ts.length) (k' = kept ++ ts ∨ sumW B' k' < sumW B' kept + sumW B' ts)
  (∀ v, (∀ t ∈ found, vl op v B' t) → (∀ t ∈ kept, vl op v B' t) → ∀ t ∈ k', vl op v B' t)
  (∀ v, (∀ t ∈ k', vl op v B' t) → (∀ t ∈ kept, vl op v B' t) ∧ (((∀ t ∈ kept, vl op v B' t) → ∀ one ∈ found, one ∉ ts → vl op v B' one) → ∀ one ∈ found, vl op v B' one))


theorem la6 {α : Type} {k : Nat} {l ts : List α} {r t : α} (h : k ≤ (l ++ [r]).length + ts.length) : k ≤ l.length + (t :: ts).length := Nat.le_trans h (Nat.le_of_eq (by rw [List.length_append, Nat.add_right_comm]; rfl))
theorem la7 {α : Type} {ts : List α} {t : α} : 28 * ts.length ≤ 28 * (t :: ts).length := Nat.mul_le_mul_left 28 (Nat.le_succ _)
theorem la8 {a b y : Nat} (h : 0 < y) : a + b < a + (y + b) := Nat.add_lt_add_left (Nat.lt_add_of_pos_left h) a
theorem la9 {x l n : Nat} (h : x ≤ max 1 l) (a : l ≤ n) (b : ¬ l = n) (c : 2 ≤ n) : x < n := Nat.lt_of_le_of_lt h (Nat.max_lt.mpr ⟨c, Nat.lt_of_le_of_ne a b⟩)
theorem la10 {a b x y : Nat} (h : x < y) : a + (x + 0) + b < a + (y + b) := Nat.lt_of_le_of_lt (Nat.le_of_eq (Nat.add_assoc a x b)) (Nat.add_lt_add_left (Nat.add_lt_add_right h b) a)
theorem la41 {a t : Nat} (h : a ≤ 8) : a + (20 + 28 * t) ≤ 28 * (t + 1) := by omega
theorem la42 {a g : Nat} : 28 * a + (2 * a + g) ≤ 30 * a + g := by omega
theorem la43 {s k w m : Nat} (a : s ≤ k + w) (b : k ≤ w) (h : w ≤ m) : s ≤ 2 * (m + 1) := by omega
theorem la12 {x a c l : Nat} (b : x ≤ max 1 a) (e : a = c) (h : c ≤ l) : x ≤ max 1 l := Nat.le_trans b (Nat.max_le.mpr ⟨Nat.le_max_left 1 l, Nat.le_trans (Nat.le_of_eq e) (Nat.le_trans h (Nat.le_max_right 1 l))⟩)
theorem ok_thinM (hop : AO op) (hJ : JOk J (otherOf op)) (found : List Nat) : ∀ (ts kept : List Nat) (B : List Tm), WF B → (∀ t ∈ ts, At op B t ∧ t ∈ found) → (∀ t ∈ kept, L1 B t) → (∀ t ∈ found, t < B.length) → ts.Pairwise (· ≤ ·) →
    Ok (thinM J (otherOf op) found ts kept) B (28 * ts.length) (ThinP op found ts kept) := by
  intro ts
  induction ts with
  | nil =>
    intro kept B w _ hk hf _
    exact Ok.ret w ⟨hk, by simp, .inl (by simp), fun v _ k => k, fun v k => ⟨k, fun q one ho => q k one ho (by simp)⟩⟩
  | cons t ts ih =>
    intro kept B w ht hk hf hs
    obtain ⟨⟨hl1, x, ex, hxo⟩, htf⟩ := ht t (.head _)
    have hs' := List.pairwise_cons.mp hs
    have htl := get_lt ex
    -- t is kept
    have keep : ∀ (B1 : List Tm) (k : Nat), B <+: B1 → WF B1 → 28 * ts.length ≤ k → Ok (thinM J (otherOf op) found ts (kept ++ [t])) B1 k (ThinP op found (t :: ts) kept) := by
      intro B1 k p1 w1 hk28
      refine (ih (kept ++ [t]) B1 w1 (fun a ha => ⟨(ht a (.tail _ ha)).1.pre p1, (ht a (.tail _ ha)).2⟩) (fsn (fun a ha => (hk a ha).pre p1) (hl1.pre p1)) (fun a ha => Nat.lt_of_lt_of_le (hf a ha) p1.length_le) hs'.2).mono hk28 fun k' B' p w' q => ?_
      obtain ⟨q1, q2, q3, q4, q5⟩ := q
      refine ⟨q1, la6 q2, ?_, fun v a b => q4 v a (fsn b (a t htf)), fun v a => ?_⟩
      · rcases q3 with q3 | q3
        · exact .inl (q3.trans (List.append_assoc _ _ _))
        · exact .inr (by rw [sumW_append, sumW_cons, sumW_nil, Nat.add_zero, Nat.add_assoc] at q3; rw [sumW_cons]; exact q3)
      · obtain ⟨r1, r2⟩ := q5 v a
        refine ⟨fun y hy => r1 y (by simp [hy]), fun H => r2 fun r one ho hn => ?_⟩
        by_cases e : one = t
        · subst e; exact r one (by simp)
        · exact H (fun y hy => r1 y (by simp [hy])) one ho (by simp [e, hn])
    unfold thinM
    refine Ok.rd ex ?_
    by_cases h1 : x.op ≠ otherOf op
    · rw [if_pos h1]
      exact keep B _ (List.prefix_refl _) w la7
    rw [if_neg h1]
    have ho : x.op = otherOf op := Classical.not_not.mp h1
    obtain ⟨_, h2l, h8l, hargs⟩ := w.ao hop.other ex ho
    have hlit : ∀ a ∈ x.args, Lit B a := by
      obtain ⟨y, ey, _, _, q⟩ := hl1
      rw [ex] at ey; cases ey
      exact q (by rw [ho]; exact hop.other)
    have hwt : ∀ B', B <+: B' → wt B' t = x.args.length := fun B' p => by
      rw [wt_at (at_pre p ex)]; unfold wtT
      rw [if_pos (by rw [ho]; exact hop.other)]; exact Nat.max_eq_right (Nat.le_of_succ_le h2l)
    rw [if_neg (Nat.not_lt.mpr (Nat.le_trans h8l (by decide)))]
    by_cases h3 : (x.args.any fun a => decide (a ∈ found)) = true
    · rw [if_pos h3]
      obtain ⟨one, ho1, ho2⟩ := List.any_eq_true.mp h3
      have ho2 : one ∈ found := by simpa using ho2
      have hlt := (w.tm _ _ ex).lt one ho1
      refine (ih kept B w (fun a ha => ht a (.tail _ ha)) hk hf hs'.2).mono la7 fun k' B' p w' q => ?_
      obtain ⟨q1, q2, q3, q4, q5⟩ := q
      have hw := hwt B' p
      have hpos : 0 < wt B' t := by rw [hw]; exact Nat.lt_of_lt_of_le (by decide) h2l
      refine ⟨q1, Nat.le_trans q2 (Nat.add_le_add_left (Nat.le_succ _) _), .inr ?_, q4, fun v a => ?_⟩
      · rw [sumW_cons]
        rcases q3 with q3 | q3
        · rw [q3, sumW_append]; exact la8 hpos
        · exact Nat.lt_trans q3 (la8 hpos)
      · obtain ⟨r1, r2⟩ := q5 v a
        refine ⟨r1, fun H => r2 fun r y hy hn => ?_⟩
        by_cases e : y = t
        · subst e
          refine (vl_oth w' hop (at_pre p ex) ho).mpr ⟨one, ho1, H r one ho2 ?_⟩
          intro q
          rcases List.mem_cons.mp q with e | q
          · exact Nat.lt_irrefl _ (e ▸ hlt)
          · exact Nat.lt_irrefl _ (Nat.lt_of_lt_of_le hlt (hs'.1 one q))
        · exact H r y hy (by simp [e, hn])
    rw [if_neg h3]
    refine Ok.bind x.args.length (20 + 28 * ts.length) (ok_leftM op found x.args B w hargs) (la41 h8l) fun left B1 p1 w1 hl => ?_
    obtain ⟨hsub, hleft⟩ := hl
    by_cases h4 : left.length = x.args.length
    · rw [if_pos h4]
      exact keep B1 _ p1 w1 (Nat.le_add_left _ _)
    rw [if_neg h4]
    have hll := hsub.length_le
    refine Ok.bind 20 (28 * ts.length) (hJ B1 left w1 (fun a ha => (hlit a (hsub.subset ha)).pre p1) (Nat.le_trans hll h8l)) (Nat.le_refl _) fun r B2 p2 w2 hr => ?_
    obtain ⟨hr1, hr2, hr3⟩ := hr
    have p12 := p1.trans p2
    refine (ih (kept ++ [r]) B2 w2 (fun a ha => ⟨(ht a (.tail _ ha)).1.pre p12, (ht a (.tail _ ha)).2⟩) (fsn (fun a ha => (hk a ha).pre p12) hr2) (fun a ha => Nat.lt_of_lt_of_le (hf a ha) p12.length_le) hs'.2).mono (Nat.le_refl _) fun k' B' p w' q => ?_
    obtain ⟨q1, q2, q3, q4, q5⟩ := q
    have hw := hwt B' (p12.trans p)
    have hwr : wt B' r = wt B2 r := wt_pre p hr2.has.lt
    have hvr : ∀ v, vl op v B' r ↔ ∃ a ∈ left, vl op v B' a := fun v => by
      have e1 : vl op v B' r ↔ vl op v B2 r := vl_pre p hr2.has.lt
      have e2 : ∀ a ∈ left, (vl op v B' a ↔ vl op v B2 a) := fun a ha => vl_pre p (Nat.lt_of_lt_of_le (hargs a (hsub.subset ha)).lt p12.length_le)
      rw [e1]
      have e3 := hr1 v
      rw [vl_other hop] at e3
      constructor
      · intro q
        apply Classical.byContradiction
        intro k
        exact e3.mpr (fun a ha => (vl_other hop).mpr fun z => k ⟨a, ha, (e2 a ha).mpr z⟩) q
      · rintro ⟨a, ha, z⟩
        apply Classical.byContradiction
        intro k
        exact (vl_other hop).mp (e3.mp k a ha) ((e2 a ha).mp z)
    have hvt : ∀ v, vl op v B' t ↔ ∃ a ∈ x.args, vl op v B' a := fun v => vl_oth w' hop (at_pre (p12.trans p) ex) ho
    refine ⟨q1, la6 q2, .inr ?_, fun v a b => q4 v a (fsn b ?_), fun v a => ?_⟩
    · have hwlt : wt B' r < wt B' t := by rw [hwr, hw]; exact la9 hr3 hll h4 h2l
      rw [sumW_cons]
      rcases q3 with q3 | q3
      · rw [q3, sumW_append, sumW_append, sumW_cons, sumW_nil]; exact la10 hwlt
      · rw [sumW_append, sumW_cons, sumW_nil] at q3; exact Nat.lt_trans q3 (la10 hwlt)
    · obtain ⟨c, hc, z⟩ := (hvt v).mp (a t htf)
      refine (hvr v).mpr ⟨c, hleft v (fun y hy => (vl_pre (p2.trans p) (Nat.lt_of_lt_of_le (hf y hy) p1.length_le)).mp (a y hy)) c hc ((vl_pre (p2.trans p) (Nat.lt_of_lt_of_le (hargs c hc).lt p1.length_le)).mp z), z⟩
    · obtain ⟨r1, r2⟩ := q5 v a
      refine ⟨fun y hy => r1 y (by simp [hy]), fun H => r2 fun rr y hy hn => ?_⟩
      by_cases e : y = t
      · subst e
        obtain ⟨c, hc, z⟩ := (hvr v).mp (rr r (by simp))
        exact (hvt v).mpr ⟨c, hsub.subset hc, z⟩
      · exact H (fun y hy => r1 y (by simp [hy])) y hy (by simp [e, hn])

theorem thinM_lits {o : Op} (ho : AO o) (found : List Nat) : ∀ (ts kept : List Nat) (B : List Tm), (∀ t ∈ ts, Lit B t) → thinM J o found ts kept B = some (kept ++ ts, B) := by
  intro ts
  induction ts with
  | nil => intro kept B _; simp [thinM, BM.ret]
  | cons t ts ih =>
    intro kept B h
    obtain ⟨y, ey, _, _, n1, n2⟩ := h t (.head _)
    have hne : y.op ≠ o := by rcases ho with rfl | rfl <;> assumption
    have e : thinM J o found (t :: ts) kept B = thinM J o found ts (kept ++ [t]) B := by
      show BM.bind (rd t) _ B = _
      unfold BM.bind rd
      rw [ey]
      simp only [Option.map_some, Option.bind_some]
      rw [if_pos hne]
    rw [e, ih _ B fun a ha => h a (.tail _ ha)]
    simp

theorem ok_andor (hop : AO op) (w : WF B) {l : List Nat} (hl : ∀ t ∈ l, HasS B t 0) (h8 : l.length ≤ 8) :
    Ok (if op = .and then andOf l else orOf l) B 1 (fun r B' => HasS B' r 0 ∧ (∀ v, vl op v B' r ↔ ∀ t ∈ l, vl op v B' t) ∧ ((∀ t ∈ l, Lit B t) → L1 B' r ∧ wt B' r ≤ max 1 l.length) ∧ (r ∈ l ∨ r = 1 ∨ r = 2 ∨ ∃ y, B'[r]? = some y ∧ y.op = op)) := by
  have key : Ok (BM.bind (wantM 0 l) fun _ => match l with | [] => BM.ret (unitOf op) | [x] => BM.ret x | _ => mkM ⟨op, l, 0, 0⟩) B 1 (fun r B' => HasS B' r 0 ∧ (∀ v, vl op v B' r ↔ ∀ t ∈ l, vl op v B' t) ∧ ((∀ t ∈ l, Lit B t) → L1 B' r ∧ wt B' r ≤ max 1 l.length) ∧ (r ∈ l ∨ r = 1 ∨ r = 2 ∨ ∃ y, B'[r]? = some y ∧ y.op = op)) := by
    refine Ok.want w hl ?_
    match l, hl, h8 with
    | [], hl, h8 =>
      refine Ok.ret w ⟨?_, fun v => ⟨fun _ t ht => (nomatch ht), fun _ => vl_unit w hop⟩, fun _ => ?_, by rcases hop with rfl | rfl <;> simp [unitOf]⟩
      · rcases hop with rfl | rfl
        · exact w.lit1.has
        · exact w.lit2.has
      · have : Lit B (unitOf op) := by
          rcases hop with rfl | rfl
          · exact w.lit1
          · exact w.lit2
        exact ⟨this.l1, by rw [this.wt]; simp⟩
    | [x], hl, h8 =>
      exact Ok.ret w ⟨hl x (.head _), fun v => ⟨fun q t ht => by simp only [List.mem_singleton] at ht; subst ht; exact q, fun q => q x (.head _)⟩, fun q => ⟨(q x (.head _)).l1, by rw [(q x (.head _)).wt]; simp⟩, .inl (.head _)⟩
    | a :: b :: l, hl, h8 =>
      refine ok_mkM w (fun B' p e => ⟨fun c hc => (hl c hc).lt, ?_⟩) fun i B' p w' hi => ?_
      · have : (0 = 0) ∧ 2 ≤ (a :: b :: l).length ∧ (a :: b :: l).length ≤ 8 ∧ ∀ c ∈ a :: b :: l, HasS B' c 0 := ⟨rfl, by simp, h8, fun c hc => (hl c hc).pre p⟩
        rcases hop with rfl | rfl <;> exact this
      · have hd : op ≠ .dummy := by rcases hop with rfl | rfl <;> decide
        refine ⟨⟨_, hi, rfl, hd⟩, fun v => vl_same w' hop hi rfl, fun q => ⟨⟨_, hi, rfl, hd, fun _ c hc => (q c hc).pre p⟩, ?_⟩, .inr (.inr (.inr ⟨_, hi, rfl⟩))⟩
        rw [wt_at hi]; unfold wtT
        rw [if_pos (show op = .and ∨ op = .or from hop)]; exact Nat.le_refl _
  rcases hop with rfl | rfl
  · rw [if_pos rfl]; exact key
  · rw [if_neg (by decide)]; exact key

noncomputable def gro : Nat → Nat
  | 0 => 1
  | m + 1 => 30 * (m + 1) + gro m
theorem gro_mono {a b : Nat} (h : a ≤ b) : gro a ≤ gro b := by
  induction h with
  | refl => exact Nat.le_refl _
  | step _ ih => exact Nat.le_trans ih (Nat.le_add_left _ _)
theorem gro_pos (m : Nat) : 1 ≤ gro m := gro_mono (a := 0) (Nat.zero_le m)

noncomputable def LoopIn (op : Op) (B : List Tm) (m : Nat) : Option (List Nat) → Prop
  | none => True
  | some found => found.Nodup ∧ (∀ t ∈ found, At op B t) ∧ sumW B found ≤ m
noncomputable def LoopOut (op : Op) (v : Nat → Bool) (B : List Tm) : Option (List Nat) → Prop
  | none => False
  | some found => ∀ t ∈ found, vl op v B t

theorem vl_all {l : List Nat} {v : Nat → Bool} {B1 B' : List Tm} (p : B1 <+: B') (h : ∀ t ∈ l, t < B1.length) : (∀ t ∈ l, vl op v B' t) ↔ ∀ t ∈ l, vl op v B1 t :=
  ⟨fun a t ht => (vl_pre p (h t ht)).mp (a t ht), fun a t ht => (vl_pre p (h t ht)).mpr (a t ht)⟩
theorem FlatP.out {l : List Nat} {f : Option (List Nat)} {v : Nat → Bool} {B2 B' : List Tm} (p : B2 <+: B') (h : FlatP op l [] f B2) (hl : ∀ t ∈ l, t < B2.length) : LoopOut op v B' f ↔ ∀ t ∈ l, vl op v B' t := by
  refine Iff.trans ?_ (vl_all p hl).symm
  cases f with
  | none =>
    have h : ∀ v, ¬ ∀ t ∈ l ++ [], vl op v B2 t := h
    rw [List.append_nil] at h
    exact ⟨fun q => q.elim, fun q => h v q⟩
  | some f =>
    obtain ⟨r1, r2, r3, r4, r5⟩ := h
    have r1 := r1 v
    rw [List.append_nil] at r1
    exact (vl_all p fun t ht => (r3 t ht).lt).trans r1
theorem FlatP.into {l : List Nat} {f : Option (List Nat)} {B2 : List Tm} {m : Nat} (h : FlatP op l [] f B2) (hm : sumW B2 l ≤ m) : LoopIn op B2 m f := by
  cases f with
  | none => trivial
  | some f =>
    obtain ⟨r1, r2, r3, r4, r5⟩ := h
    exact ⟨r2, r3, Nat.le_trans r4 (by rw [sumW_nil]; exact hm)⟩

theorem ok_loopM (hop : AO op) (hJ : JOk J (otherOf op)) : ∀ (k : Nat) (f : Option (List Nat)) (B : List Tm) (m : Nat), WF B → LoopIn op B m f → m < k → m ≤ 8 →
    Ok (loopM J op k f) B (gro m) (fun r B' => HasS B' r 0 ∧ ∀ v, vl op v B' r ↔ LoopOut op v B' f) := by
  intro k
  induction k with
  | zero => intro f B m _ _ h; exact absurd h (Nat.not_lt_zero _)
  | succ k ih =>
    intro f B m w hf hk h8
    match f, hf with
    | none, _ =>
      refine Ok.ret w ⟨?_, fun v => ⟨fun q => absurd q (vl_settle w hop), fun q => q.elim⟩⟩
      rcases hop with rfl | rfl
      · exact w.lit2.has
      · exact w.lit1.has
    | some found, hf =>
      obtain ⟨hnd, hat, hsw⟩ := hf
      have hperm := sortNat_perm found
      have hmem : ∀ a, a ∈ sortNat found ↔ a ∈ found := fun a => hperm.mem_iff
      have hlen : (sortNat found).length = found.length := hperm.length_eq
      have hlm : found.length ≤ m := Nat.le_trans (len_sumW (B := B)) hsw
      have hsum : ∀ B', sumW B' (sortNat found) = sumW B' found := fun B' => by unfold sumW; exact (hperm.map _).sum_nat
      unfold loopM
      cases m with
      | zero =>
        have : found = [] := List.length_eq_zero_iff.mp (Nat.le_zero.mp hlm)
        subst this
        refine Ok.bind 0 1 (P := fun kept B' => kept = []) (Ok.ret w rfl) (Nat.le_refl _) fun kept B1 p1 w1 hkept => ?_
        subst hkept
        rw [if_pos (show ([] : List Nat) = sortNat [] from rfl)]
        exact (ok_andor hop w1 (l := []) (fun t ht => nomatch ht) (by simp)).mono (Nat.le_refl _) fun r B' p w' q => ⟨q.1, q.2.1⟩
      | succ m =>
        refine Ok.bind (28 * (m + 1)) (2 * (m + 1) + gro m) ((ok_thinM hop hJ found (sortNat found) [] B w (fun t ht => ⟨hat t ((hmem t).mp ht), (hmem t).mp ht⟩) (fun t ht => nomatch ht) (fun t ht => (hat t ht).lt) (sortNat_sorted found)).mono (Nat.mul_le_mul_left 28 (Nat.le_trans (Nat.le_of_eq hlen) hlm)) (Q := ThinP op found (sortNat found) []) (fun r B' p w' q => q)) la42 fun kept B1 p1 w1 hth => ?_
        obtain ⟨q1, q2, q3, q4, q5⟩ := hth
        have hat1 : ∀ t ∈ found, At op B1 t := fun t ht => (hat t ht).pre p1
        have hiff : ∀ v, (∀ t ∈ kept, vl op v B1 t) ↔ ∀ t ∈ found, vl op v B1 t := fun v =>
          ⟨fun a => (q5 v a).2 fun _ one ho hn => absurd ((hmem one).mpr ho) hn, fun a => q4 v a fun t ht => nomatch ht⟩
        have hklt : ∀ t ∈ kept, t < B1.length := fun t ht => (q1 t ht).has.lt
        simp only [List.length_nil, Nat.zero_add] at q2
        have hgp := gro_pos m
        by_cases hks : kept = sortNat found
        · rw [if_pos hks]
          refine (ok_andor hop w1 (l := kept) (fun t ht => (q1 t ht).has) (Nat.le_trans q2 (hlen ▸ Nat.le_trans hlm h8))).mono (Nat.le_trans hgp (Nat.le_add_left _ _)) fun r B' p w' q => ⟨q.1, fun v => (q.2.1 v).trans ?_⟩
          have e1 : (∀ t ∈ kept, vl op v B' t) ↔ ∀ t ∈ kept, vl op v B1 t := vl_all p hklt
          have e2 : (∀ t ∈ found, vl op v B' t) ↔ ∀ t ∈ found, vl op v B1 t := vl_all p fun t ht => (hat1 t ht).lt
          exact e1.trans ((hiff v).trans e2.symm)
        · rw [if_neg hks]
          have hlt : sumW B1 kept ≤ m := by
            rcases q3 with q3 | q3
            · exact absurd (by simpa using q3) hks
            · rw [hsum, sumW_pre p1 fun t ht => (hat t ht).lt, sumW_nil, Nat.zero_add] at q3
              exact Nat.le_of_lt_succ (Nat.lt_of_lt_of_le q3 hsw)
          have hc : sumC B1 kept ≤ 2 * (m + 1) := by
            exact la43 sumC_le len_sumW hlt
          refine Ok.bind (2 * (m + 1)) (gro m) ((ok_flatM hop 200 kept [] B1 w1 q1 (fun t ht => nomatch ht) .nil (Nat.lt_of_le_of_lt (Nat.le_trans hc (Nat.mul_le_mul_left 2 h8)) (by decide)) (Nat.le_trans (Nat.le_trans hc (Nat.mul_le_mul_left 2 h8)) (by decide)) (by rw [sumW_nil]; exact Nat.le_trans hlt (Nat.le_trans (Nat.le_of_succ_le h8) (by decide)))).mono hc (Q := FlatP op kept []) (fun r B' p w' q => q)) (Nat.le_refl _) fun f B2 p2 w2 hfl => ?_
          have hin : LoopIn op B2 m f := hfl.into (by rw [sumW_pre p2 hklt]; exact hlt)
          refine (ih f B2 m w2 hin (Nat.lt_of_succ_lt_succ hk) (Nat.le_of_succ_le h8)).mono (Nat.le_refl _) fun r B' p w' q => ⟨q.1, fun v => (q.2 v).trans ?_⟩
          have pp := p2.trans p
          have e1 : (∀ t ∈ kept, vl op v B' t) ↔ ∀ t ∈ kept, vl op v B1 t := vl_all pp hklt
          have e2 : (∀ t ∈ found, vl op v B' t) ↔ ∀ t ∈ found, vl op v B1 t := vl_all pp fun t ht => (hat1 t ht).lt
          exact (hfl.out p fun t ht => Nat.lt_of_lt_of_le (hklt t ht) p2.length_le).trans (e1.trans ((hiff v).trans e2.symm))

/-- a join of things that are no and, no or -/
theorem ok_joinM_lits (hop : AO op) (d : Nat) (w : WF B) {l : List Nat} (hl : ∀ t ∈ l, Lit B t) (h8 : l.length ≤ 8) :
    Ok (joinM (d + 1) op l) B (l.length + 1) (fun r B' => (∀ v, vl op v B' r ↔ ∀ t ∈ l, vl op v B' t) ∧ L1 B' r ∧ wt B' r ≤ max 1 l.length ∧ (r ∈ l ∨ r = 1 ∨ r = 2 ∨ ∃ y, B'[r]? = some y ∧ y.op = op)) := by
  unfold joinM
  have hC : sumC B l = l.length := sumC_lits hl
  have hW : sumW B l = l.length := sumW_lits hl
  refine Ok.bind l.length 1 ((ok_flatM hop 200 l [] B w (fun t ht => (hl t ht).l1) (fun t ht => nomatch ht) .nil (hC ▸ Nat.lt_of_le_of_lt h8 (by decide)) (hC ▸ Nat.le_trans h8 (by decide)) (by rw [sumW_nil, hW]; exact Nat.le_trans h8 (by decide))).mono (Nat.le_of_eq hC) (Q := FlatP op l []) fun r B' p w' q => q) (Nat.le_refl _) fun f B1 p1 w1 hf => ?_
  cases f with
  | none =>
    have hf : ∀ v, ¬ ∀ t ∈ l ++ [], vl op v B1 t := hf
    rw [List.append_nil] at hf
    have hl2 : Lit B1 (settleOf op) := by
      rcases hop with rfl | rfl
      · exact w1.lit2
      · exact w1.lit1
    exact Ok.ret w1 ⟨fun v => ⟨fun q => absurd q (vl_settle w1 hop), fun q => absurd q (hf v)⟩, hl2.l1, by rw [hl2.wt]; exact Nat.le_max_left _ _, by rcases hop with rfl | rfl <;> simp [settleOf]⟩
  | some f =>
    obtain ⟨r1, r2, r3, r4, r5⟩ := hf
    rw [List.append_nil] at r5
    have hsub := r5 fun t ht => (hl t ht).pre p1
    have hlits : ∀ t ∈ f, Lit B1 t := fun t ht => (hl t (hsub t ht)).pre p1
    have hmem : ∀ a, a ∈ sortNat f ↔ a ∈ f := fun a => (sortNat_perm f).mem_iff
    have hlen : f.length ≤ l.length := by
      have := len_sumW (B := B1) (l := f)
      rw [sumW_pre p1 fun t ht => (hl t ht).has.lt, sumW_nil, hW] at r4
      exact Nat.le_trans this r4
    unfold loopM
    have hth : thinM (joinM d) (otherOf op) f (sortNat f) [] B1 = some (sortNat f, B1) := by
      have := thinM_lits (J := joinM d) hop.other f (sortNat f) [] B1 fun t ht => hlits t ((hmem t).mp ht)
      simpa using this
    have hok : Ok (thinM (joinM d) (otherOf op) f (sortNat f) []) B1 0 (fun kept B' => kept = sortNat f ∧ B' = B1) := ⟨_, _, hth, List.prefix_refl _, w1, Nat.le_refl _, rfl, rfl⟩
    refine Ok.bind 0 1 hok (Nat.le_refl _) fun kept B2 p2 w2 hk => ?_
    obtain ⟨rfl, rfl⟩ := hk
    rw [if_pos rfl]
    have hls : (sortNat f).length = f.length := (sortNat_perm f).length_eq
    refine (ok_andor hop w2 (l := sortNat f) (fun t ht => (hlits t ((hmem t).mp ht)).has) (hls ▸ Nat.le_trans hlen h8)).mono (Nat.le_refl _) fun r B' p w' q => ⟨fun v => ?_, ?_⟩
    · refine (q.2.1 v).trans ?_
      have r1 := r1 v
      rw [List.append_nil] at r1
      have e1 : (∀ t ∈ sortNat f, vl op v B' t) ↔ ∀ t ∈ f, vl op v B2 t := ⟨fun a t ht => (vl_pre p (r3 t ht).lt).mp (a t ((hmem t).mpr ht)), fun a t ht => (vl_pre p (r3 t ((hmem t).mp ht)).lt).mpr (a t ((hmem t).mp ht))⟩
      have e2 : (∀ t ∈ l, vl op v B' t) ↔ ∀ t ∈ l, vl op v B2 t := vl_all p fun t ht => ((hl t ht).pre p1).has.lt
      exact e1.trans (r1.trans e2.symm)
    · obtain ⟨a, b⟩ := q.2.2.1 fun t ht => hlits t ((hmem t).mp ht)
      exact ⟨a, la12 b hls hlen, q.2.2.2.imp_left fun h => hsub r ((hmem r).mp h)⟩

/-- a join of things of one storey -/
theorem ok_joinM (hop : AO op) (d : Nat) (w : WF B) {l : List Nat} (hl : ∀ t ∈ l, L1 B t) (h4 : sumW B l ≤ 4) :
    Ok (joinM (d + 2) op l) B 400 (fun r B' => (∀ v, vl op v B' r ↔ ∀ t ∈ l, vl op v B' t) ∧ HasS B' r 0) := by
  have hc8 : sumC B l ≤ 8 := Nat.le_trans sumC_le (Nat.add_le_add (Nat.le_trans len_sumW h4) h4)
  have hJ : JOk (joinM (d + 1)) (otherOf op) := fun B l w hl h8 => (ok_joinM_lits hop.other d w hl h8).mono (Nat.le_trans (Nat.succ_le_succ h8) (by decide)) fun r B' p w' q => ⟨q.1, q.2.1, q.2.2.1⟩
  unfold joinM
  refine Ok.bind 8 301 ((ok_flatM hop 200 l [] B w hl (fun t ht => nomatch ht) .nil (Nat.lt_of_le_of_lt hc8 (by decide)) (Nat.le_trans hc8 (by decide)) (by rw [sumW_nil]; exact Nat.le_trans h4 (by decide))).mono hc8 (Q := FlatP op l []) fun r B' p w' q => q) (by decide) fun f B1 p1 w1 hf => ?_
  have hlt : ∀ t ∈ l, t < B.length := fun t ht => (hl t ht).has.lt
  have hin : LoopIn op B1 4 f := hf.into (by rw [sumW_pre p1 hlt]; exact h4)
  refine (ok_loopM hop hJ 50 f B1 4 w1 hin (by decide) (by decide)).mono (by decide) fun r B' p w' q => ⟨fun v => (q.2 v).trans ?_, q.1⟩
  exact hf.out p fun t ht => Nat.lt_of_lt_of_le (hlt t ht) p1.length_le
end
end Mine

-- Pure4
namespace Mine
section
variable {v : Nat → Bool} {B B' : List Tm} {t n s c a b : Nat} {op : Op} {x : Tm} {P Q : List Tm → Nat → Prop}

theorem vl_or {v : Nat → Bool} : vl .or v B t ↔ sem v B t = false := Iff.rfl
theorem vl_and {v : Nat → Bool} : vl .and v B t ↔ sem v B t = true := Iff.rfl

theorem ok_eqM (w : WF B) (ha : HasS B a s) (hb : HasS B b s) : Ok (eqM a b) B 1 (fun r B' => (∃ y, B'[r]? = some y ∧ y.sort = 0 ∧ (y.op = .tru ∨ y.op = .eq)) ∧ ∀ v, sem v B' r = (sem v B' a == sem v B' b)) := by
  obtain ⟨x, ex, hs, _⟩ := id ha
  refine Ok.rd ex (Ok.want w (l := [b]) (fun t ht => ?_) ?_)
  · simp only [List.mem_singleton] at ht; subst ht; exact hs ▸ hb
  by_cases e : a = b
  · rw [if_pos e]
    subst e
    exact Ok.ret w ⟨⟨_, w.h1, rfl, .inl rfl⟩, fun v => by rw [w.sem1]; simp⟩
  · rw [if_neg e]
    have hm : ∀ B', B <+: B' → HasS B' (min a b) s ∧ HasS B' (max a b) s := fun B' p => by
      rcases Nat.le_total a b with h | h
      · rw [Nat.min_eq_left h, Nat.max_eq_right h]; exact ⟨ha.pre p, hb.pre p⟩
      · rw [Nat.min_eq_right h, Nat.max_eq_left h]; exact ⟨hb.pre p, ha.pre p⟩
    refine ok_mkM w (fun B' p e' => ⟨fun d hd => ?_, ⟨_, _, s, rfl, (hm B' p).1, (hm B' p).2⟩⟩) fun i B' p w' hi => ⟨⟨_, hi, rfl, .inr rfl⟩, fun v => ?_⟩
    · simp only [List.mem_cons, List.not_mem_nil, or_false] at hd
      have h1 := (hm B (List.prefix_refl _)).1.lt
      have h2 := (hm B (List.prefix_refl _)).2.lt
      rcases hd with rfl | rfl <;> assumption
    · rw [w'.sem hi]
      show (sem v B' (min a b) == sem v B' (max a b)) = _
      rcases Nat.le_total a b with h | h
      · rw [Nat.min_eq_left h, Nat.max_eq_right h]
      · rw [Nat.min_eq_right h, Nat.max_eq_left h, Bool.beq_comm]
theorem lit_eq (h : ∃ y, B[t]? = some y ∧ y.sort = 0 ∧ (y.op = .tru ∨ y.op = .eq)) : Lit B t ∧ ∀ y, B[t]? = some y → y.op ≠ .not := by
  obtain ⟨y, e, hs, ho⟩ := h
  refine ⟨⟨y, e, hs, by rcases ho with h | h <;> rw [h] <;> decide, by rcases ho with h | h <;> rw [h] <;> decide, by rcases ho with h | h <;> rw [h] <;> decide⟩, fun z ez => ?_⟩
  · rw [e] at ez; cases ez
    rcases ho with h | h <;> rw [h] <;> simp
theorem ok_iffM (w : WF B) (ha : HasS B a 0) (hb : HasS B b 0) : Ok (iffM a b) B 1 (fun r B' => (∃ y, B'[r]? = some y ∧ y.sort = 0 ∧ (y.op = .tru ∨ y.op = .eq)) ∧ ∀ v, sem v B' r = (sem v B' a == sem v B' b)) := by
  refine Ok.want w (l := [a, b]) (fun t ht => ?_) (ok_eqM w ha hb)
  simp only [List.mem_cons, List.not_mem_nil, or_false] at ht
  rcases ht with rfl | rfl <;> assumption

structure JK (P Q : List Tm → Nat → Prop) : Prop where
  pre : ∀ {B B' : List Tm} {t : Nat}, B <+: B' → P B t → P B' t
  has : ∀ {B : List Tm} {t : Nat}, P B t → HasS B t 0
  l1w : ∀ {B : List Tm} {t : Nat}, P B t → L1w B t
  lit : ∀ {B : List Tm} {t : Nat}, Lit B t → P B t
  qlit : ∀ {B : List Tm} {t : Nat}, Lit B t → Q B t
  qpre : ∀ {B B' : List Tm} {t : Nat}, B <+: B' → Q B t → Q B' t
  qhas : ∀ {B : List Tm} {t : Nat}, Q B t → HasS B t 0
  pq : ∀ {B : List Tm} {t : Nat}, P B t → Q B t
  join : ∀ {op : Op} {B : List Tm} {x y : Nat}, AO op → WF B → P B x → P B y → Ok (joinM DEPTH op [x, y]) B 400 (fun r B' => (∀ v, vl op v B' r ↔ ∀ t ∈ [x, y], vl op v B' t) ∧ Q B' r)

theorem jk_lit : JK Lit L1w where
  pre := fun p h => h.pre p
  has := fun h => h.has
  l1w := fun h => h.l1w
  lit := fun h => h
  qlit := fun h => h.l1w
  qpre := fun p h => h.pre p
  qhas := fun h => h.1.has
  pq := fun h => h.l1w
  join := fun hop w hx hy => (ok_joinM_lits hop 3 w (l := [_, _]) (fun t ht => by
    simp only [List.mem_cons, List.not_mem_nil, or_false] at ht
    rcases ht with rfl | rfl <;> assumption) (by simp)).mono (by simp) fun r B' p w' q => ⟨q.1, q.2.1, by have := q.2.2.1; simpa using this⟩
theorem jk_l1 : JK L1w (fun B t => HasS B t 0) where
  pre := fun p h => h.pre p
  has := fun h => h.1.has
  l1w := fun h => h
  lit := fun h => h.l1w
  qlit := fun h => h.has
  qpre := fun p h => h.pre p
  qhas := fun h => h
  pq := fun h => h.1.has
  join := fun hop w hx hy => (ok_joinM hop 2 w (l := [_, _]) (fac hx.1 (fac hy.1 fan)) (by rw [sumW_cons, sumW_cons, sumW_nil]; exact Nat.add_le_add hx.2 hy.2)).mono (by decide) fun r B' p w' q => q

theorem JK.neg (J : JK P Q) (w : WF B) (e : B[t]? = some x) (ho : x.op ≠ .not) (h : NegOf B t n) : Lit B n := h.lit w e ho

/-- same(c, a), c no denial and no constant -/
theorem ok_sameM (J : JK P Q) (w : WF B) (hc : P B c) (ha : HasS B a 0) (hcx : CondC B c) : Ok (sameM c a) B 4 (fun r B' => Q B' r ∧ ∀ v, sem v B' r = (sem v B' c == sem v B' a)) := by
  obtain ⟨x, ex, hs, hd, ht, hf, hno⟩ := id hcx
  obtain ⟨y, ey, hys, hyd⟩ := id ha
  have hc1 : ∀ B', B <+: B' → WF B' → c ≠ 1 := fun B' p w' q => by subst q; have := w.h1; rw [ex] at this; cases this; exact ht rfl
  have hc2 : ∀ B', B <+: B' → WF B' → c ≠ 2 := fun B' p w' q => by subst q; have := w.h2; rw [ex] at this; cases this; exact hf rfl
  have c1 := hc1 B (List.prefix_refl _) w
  have c2 := hc2 B (List.prefix_refl _) w
  unfold sameM
  refine Ok.rd ex ?_
  rw [if_neg hno]
  refine Ok.bind 0 4 (P := fun p B' => p = (c, false)) (Ok.ret w rfl) (Nat.le_refl _) fun p B1 p1 w1 hp => ?_
  subst hp
  refine Ok.rd (at_pre p1 ey) ?_
  -- b stripped
  refine Ok.bind 1 3 (P := fun (q : Nat × Bool) B' => HasS B' q.1 0 ∧ ∀ v, sem v B' q.1 = (q.2 ^^ sem v B' a)) ?_ (Nat.le_refl _) fun q B2 p2 w2 hq => ?_
  · by_cases hy : y.op = .not
    · rw [if_pos hy]
      refine Ok.bind 1 0 (ok_notOf w1 (ha.pre p1)) (Nat.le_refl _) fun n B2 p2 w2 hn => Ok.ret w2 ⟨hn.2, fun v => ?_⟩
      show sem v B2 n = (!false ^^ sem v B2 a)
      rw [sem_neg w2 hn.1]
      cases sem v B2 a <;> rfl
    · rw [if_neg hy]
      exact Ok.ret w1 ⟨ha.pre p1, fun v => by simp⟩
  obtain ⟨hq1, hq2⟩ := hq
  obtain ⟨b', od⟩ := q
  simp only at hq1 hq2
  have p12 := p1.trans p2
  rw [if_neg fun q => q.elim c1 c2]
  have hc' : P B2 c := J.pre p12 hc
  -- the middle
  refine Ok.bind 1 1 (P := fun r B' => (Q B' r ∧ ∀ n, NegOf B' r n → Q B' n) ∧ ∀ v, sem v B' r = (sem v B' c == sem v B' b')) ?_ (by decide) fun r B3 p3 w3 hr => ?_
  · show Ok (if b' = 1 ∨ b' = 2 then _ else _) _ _ _
    by_cases hb1 : b' = 1 ∨ b' = 2
    · rw [if_pos hb1]
      by_cases hb : b' = 1
      · show Ok (if b' = 1 then _ else _) _ _ _
        rw [if_pos hb]
        refine Ok.ret w2 ⟨⟨J.pq hc', fun n hn => J.qlit (hn.lit w2 (at_pre p12 ex) hno)⟩, fun v => ?_⟩
        rw [hb, w2.sem1]; cases sem v B2 c <;> rfl
      · show Ok (if b' = 1 then _ else _) _ _ _
        rw [if_neg hb]
        have hb2 : b' = 2 := hb1.resolve_left hb
        refine (ok_notOf w2 (J.has hc')).mono (Nat.le_refl _) fun n B3 p3 w3 hn => ⟨⟨J.qlit (hn.1.lit w3 (at_pre (p12.trans p3) ex) hno), fun m hm => ?_⟩, fun v => ?_⟩
        · rcases hm with hm | hm | ⟨h1, h2⟩ | ⟨h1, h2⟩
          · exact J.qlit ⟨_, hm, rfl, by simp, by simp, by simp⟩
          · rcases hn.1 with hn | hn | ⟨h1, h2⟩ | ⟨h1, h2⟩
            · rw [hn] at hm; cases hm; exact J.pq (J.pre p3 hc')
            · rw [at_pre (p12.trans p3) ex] at hn; cases hn; exact absurd rfl hno
            · exact absurd h1 c1
            · exact absurd h1 c2
          · exact J.qlit (h2 ▸ w3.lit2)
          · exact J.qlit (h2 ▸ w3.lit1)
        · rw [hb2, w3.sem2, sem_neg w3 hn.1]; cases sem v B3 c <;> rfl
    · rw [if_neg hb1]
      refine (ok_iffM w2 (J.has hc') hq1).mono (Nat.le_refl _) fun r B3 p3 w3 hr => ⟨⟨J.qlit (lit_eq hr.1).1, fun n hn => ?_⟩, hr.2⟩
      obtain ⟨z, ez, _⟩ := id hr.1
      exact J.qlit (hn.lit w3 ez ((lit_eq hr.1).2 z ez))
  obtain ⟨⟨hQ, hQn⟩, hsm⟩ := hr
  have hodd : ∀ B', B3 <+: B' → ∀ v, sem v B' b' = (od ^^ sem v B' a) := fun B' p v => by
    rw [sem_pre (p3.trans p) hq1.lt, sem_pre (p12.trans (p3.trans p)) ha.lt, hq2, sem_pre p12 ha.lt]
  cases od with
  | true =>
    refine (ok_notOf w3 (J.qhas hQ)).mono (Nat.le_refl _) fun n B4 p4 w4 hn => ⟨?_, fun v => ?_⟩
    · -- the denial of what was made
      rcases hn.1 with h | h | ⟨h1, h2⟩ | ⟨h1, h2⟩
      · exact J.qlit ⟨_, h, rfl, by simp, by simp, by simp⟩
      · have hr3 : B3[r]? = some ⟨.not, [n], 0, 0⟩ := by
          have hl := (J.qhas hQ).lt
          have e : B3[r]? = some B3[r] := by simp [hl]
          rw [at_pre p4 e] at h
          rw [e]; exact h
        exact J.qpre p4 (hQn n (.inr (.inl hr3)))
      · exact J.qlit (h2 ▸ w4.lit2)
      · exact J.qlit (h2 ▸ w4.lit1)
    · rw [sem_neg w4 hn.1, sem_pre p4 (J.qhas hQ).lt, hsm v, sem_pre (p12.trans (p3.trans p4)) (J.has hc).lt, sem_pre (p12.trans (p3.trans p4)) ha.lt, hodd B3 (List.prefix_refl _) v, sem_pre (p12.trans p3) (J.has hc).lt, sem_pre (p12.trans p3) ha.lt]
      cases sem v B c <;> cases sem v B a <;> rfl
  | false =>
    exact Ok.ret w3 ⟨hQ, fun v => by rw [hsm v, hodd B3 (List.prefix_refl _) v]; simp⟩

/-- an ite is made -/
theorem ok_iteM (w : WF B) (hc : CondC B c) (ha : HasS B a s) (hb : HasS B b s) (hab : a ≠ b) (na : NoAg B c a) (nb : NoAg B c b)
    (h0 : s = 0 → L1w B a ∧ L1w B b ∧ ∀ i B1, iteM c a b B = some (i, B1) → ∃ B0, chosenBoolM c a b B0 = some (i, B1)) :
    Ok (iteM c a b) B 1 (fun r B' => B'[r]? = some ⟨.ite, [c, a, b], s, 0⟩ ∧ ∀ v, sem v B' r = if sem v B' c then sem v B' a else sem v B' b) := by
  have heq : iteM c a b B = mkM ⟨.ite, [c, a, b], s, 0⟩ B := by
    obtain ⟨x, ex, hs, _⟩ := id ha
    unfold iteM BM.bind
    rw [ok_wantM w (l := [c]) (s := 0) fun t ht => by simp only [List.mem_singleton] at ht; subst ht; exact hc.has]
    simp only [Option.bind_some]
    unfold rd
    rw [ex]
    simp only [Option.map_some, Option.bind_some]
    rw [ok_wantM w (l := [b]) (s := x.sort) fun t ht => by simp only [List.mem_singleton] at ht; subst ht; exact hs ▸ hb]
    simp only [Option.bind_some]
    rw [hs]
  have hok : Ok (mkM ⟨.ite, [c, a, b], s, 0⟩) B 1 (fun r B' => B'[r]? = some ⟨.ite, [c, a, b], s, 0⟩ ∧ ∀ v, sem v B' r = if sem v B' c then sem v B' a else sem v B' b) := by
    rcases mk_cases B ⟨.ite, [c, a, b], s, 0⟩ with ⟨i, e, hi⟩ | ⟨hn, e⟩
    · exact ⟨i, B, by unfold mkM; rw [e], List.prefix_refl _, w, Nat.le_add_right _ _, hi, fun v => by rw [w.sem hi]; rfl⟩
    · have pp : B <+: B ++ [(⟨.ite, [c, a, b], s, 0⟩ : Tm)] := List.prefix_append _ _
      have hw : WF (B ++ [(⟨.ite, [c, a, b], s, 0⟩ : Tm)]) := by
        refine w.snoc hn ⟨fun d hd => ?_, ⟨c, a, b, s, rfl, hc.pre pp, ha.pre pp, hb.pre pp, hab, na.pre pp, nb.pre pp, fun q => ⟨(h0 q).1.pre pp, (h0 q).2.1.pre pp, ?_⟩⟩⟩
        · simp only [List.mem_cons, List.not_mem_nil, or_false] at hd
          rcases hd with rfl | rfl | rfl
          · exact hc.has.lt
          · exact ha.lt
          · exact hb.lt
        · obtain ⟨B0, e0⟩ := (h0 q).2.2 B.length (B ++ [⟨.ite, [c, a, b], s, 0⟩]) (by rw [heq]; unfold mkM; rw [e])
          exact ⟨B0, _, e0, List.prefix_refl _⟩
      have hi : (B ++ [(⟨.ite, [c, a, b], s, 0⟩ : Tm)])[B.length]? = some ⟨.ite, [c, a, b], s, 0⟩ := by simp
      exact ⟨_, _, by unfold mkM; rw [e], pp, hw, by simp, hi, fun v => by rw [hw.sem hi]; rfl⟩
  obtain ⟨r, B', e, q⟩ := hok
  exact ⟨r, B', heq.trans e, q⟩

theorem bind_eq {α β : Type} {f : BM α} {g : α → BM β} {r : α} (e : f B = some (r, B')) : BM.bind f g B = g r B' := by unfold BM.bind; rw [e]; rfl
theorem Ok.via {α : Type} {f g : BM α} {k k1 k2 : Nat} {R : α → List Tm → Prop} (E : f B = g B') (p : B <+: B') (l : B'.length ≤ B.length + k1) (h : Ok g B' k2 R) (hk : k1 + k2 ≤ k) : Ok f B k R := by
  obtain ⟨r, B2, e, p2, w2, l2, q⟩ := h
  exact ⟨r, B2, E.trans e, p.trans p2, w2, Nat.le_trans l2 (Nat.le_trans (Nat.add_le_add_right l k2) (by rw [Nat.add_assoc]; exact Nat.add_le_add_left hk _)), q⟩
theorem nodup_ne (w : WF B) {y : Tm} (h : B[a]? = some y) (hn : a ≠ b) : B[b]? ≠ some y := fun q => hn (nodup_at w.nd h q)

theorem bo1 : ∀ {c a b r : Bool}, (r = false ↔ c = false ∧ b = false) → (c = true → a = true) → r = if c then a else b := by decide
theorem bo2 : ∀ {c a b r n : Bool}, (r = true ↔ n = true ∧ b = true) → (n = !c) → (c = true → a = false) → r = if c then a else b := by decide
theorem bo3 : ∀ {c a b r n : Bool}, (r = false ↔ n = false ∧ a = false) → (n = !c) → (c = false → b = true) → r = if c then a else b := by decide
theorem bo4 : ∀ {c a b r : Bool}, (r = true ↔ c = true ∧ a = true) → (c = false → b = false) → r = if c then a else b := by decide
set_option maxHeartbeats 1000000 in
theorem ok_chosenBoolM (J : JK P Q) (w : WF B) (hcx : CondC B c) (hc : P B c) (ha : P B a) (hb : P B b) (hab : a ≠ b) (na : NoAg B c a) (nb : NoAg B c b) :
    Ok (chosenBoolM c a b) B 404 (fun r B' => Q B' r ∧ ∀ v, sem v B' r = if sem v B' c then sem v B' a else sem v B' b) := by
  obtain ⟨x, ex, hs, hd, ht, hf, hno⟩ := id hcx
  have jn : ∀ {op : Op} {B1 : List Tm} {k1 : Nat} {y z : Nat}, B <+: B1 → WF B1 → 400 ≤ k1 → AO op → P B1 y → P B1 z → (∀ B', B1 <+: B' → WF B' → ∀ v r, (vl op v B' r ↔ (vl op v B' y ∧ vl op v B' z)) → sem v B' r = if sem v B' c then sem v B' a else sem v B' b) →
      Ok (joinM DEPTH op [y, z]) B1 k1 (fun r B' => Q B' r ∧ ∀ v, sem v B' r = if sem v B' c then sem v B' a else sem v B' b) := by
    intro op B1 k1 y z p1 w1 hk hop hy hz H
    refine (J.join hop w1 hy hz).mono hk fun r B' p w' q => ⟨q.2, fun v => H B' p w' v r ?_⟩
    rw [q.1 v]
    simp
  have tst : ∀ {B1 : List Tm} {g : Nat → Prop} [DecidablePred g] (q : Prop) [Decidable q], B <+: B1 → WF B1 →
      Ok (if q then BM.ret true else BM.bind (notOf c) fun n => BM.ret (decide (g n))) B1 1 (fun t2 B' => (t2 = true → q ∨ ∃ n, NegOf B' c n ∧ g n) ∧ (t2 = false → ¬ q ∧ ∃ n, NegOf B' c n ∧ ¬ g n)) := by
    intro B1 g _ q _ p1 w1
    by_cases hq : q
    · rw [if_pos hq]
      exact Ok.ret w1 ⟨fun _ => .inl hq, fun h => nomatch h⟩
    · rw [if_neg hq]
      refine Ok.bind 1 0 (ok_notOf w1 (J.has (J.pre p1 hc))) (Nat.le_refl _) fun n B2 p2 w2 hn => Ok.ret w2 ?_
      by_cases hg : g n
      · rw [decide_eq_true hg]; exact ⟨fun _ => .inr ⟨n, hn.1, hg⟩, fun h => nomatch h⟩
      · rw [decide_eq_false hg]; exact ⟨fun h => (nomatch h), fun _ => ⟨hq, n, hn.1, hg⟩⟩
  by_cases h1 : a = 1 ∨ a = c
  · unfold chosenBoolM
    rw [if_pos h1]
    refine jn (List.prefix_refl _) w (by decide) (.inr rfl) hc hb fun B' p w' v r H => ?_
    have hav : sem v B' c = true → sem v B' a = true := fun q => by rcases h1 with rfl | rfl; exact w'.sem1; exact q
    exact bo1 H hav
  have E1 : chosenBoolM c a b B = chosenBoolM c a b B := rfl
  conv at E1 =>
    rhs
    unfold chosenBoolM
    rw [if_neg h1]
  obtain ⟨t2, B2, et2, p2, w2, l2, q2⟩ := tst (B1 := B) (g := fun n => a = n) (a = 2) (List.prefix_refl _) w
  rw [bind_eq et2] at E1
  cases t2 with
  | true =>
    rw [if_pos rfl] at E1
    refine Ok.via E1 p2 l2 (k2 := 401) ?_ (by decide)
    refine Ok.bind 1 400 (ok_notOf w2 (J.has (J.pre p2 hc))) (Nat.le_refl _) fun n B3 p3 w3 hn => ?_
    refine (jn (p2.trans p3) w3 (Nat.le_refl _) (.inl rfl) (J.lit (J.neg w3 (at_pre (p2.trans p3) ex) hno hn.1)) (J.pre (p2.trans p3) hb) fun B' p w' v r H => ?_)
    have e1 := sem_neg (v := v) w' (hn.1.pre p)
    have e2 : sem v B' c = true → sem v B' a = false := fun q => by
      rcases q2.1 rfl with h | ⟨m, hm, rfl⟩
      · rw [h]; exact w'.sem2
      · rw [sem_neg w' (hm.pre (p3.trans p)), q]; rfl
    exact bo2 H e1 e2
  | false =>
    rw [if_neg (by decide)] at E1
    obtain ⟨na2, nn, hnn, hann⟩ := q2.2 rfl
    obtain ⟨t3, B3, et3, p3, w3, l3, q3⟩ := tst (B1 := B2) (g := fun n => b = n) (b = 1) p2 w2
    rw [bind_eq et3] at E1
    have p23 := p2.trans p3
    cases t3 with
    | true =>
      rw [if_pos rfl] at E1
      refine Ok.via E1 p23 (k1 := 2) (Nat.le_trans l3 (Nat.add_le_add_right l2 1)) (k2 := 401) ?_ (by decide)
      refine Ok.bind 1 400 (ok_notOf w3 (J.has (J.pre p23 hc))) (Nat.le_refl _) fun n B4 p4 w4 hn => ?_
      refine (jn (p23.trans p4) w4 (Nat.le_refl _) (.inr rfl) (J.lit (J.neg w4 (at_pre (p23.trans p4) ex) hno hn.1)) (J.pre (p23.trans p4) ha) fun B' p w' v r H => ?_)
      have e1 := sem_neg (v := v) w' (hn.1.pre p)
      have e2 : sem v B' c = false → sem v B' b = true := fun q => by
        rcases q3.1 rfl with h | ⟨m, hm, rfl⟩
        · rw [h]; exact w'.sem1
        · rw [sem_neg w' (hm.pre (p4.trans p)), q]; rfl
      exact bo3 H e1 e2
    | false =>
      rw [if_neg (by decide)] at E1
      obtain ⟨nb1, mm, hmm, hbmm⟩ := q3.2 rfl
      by_cases h4 : b = 2 ∨ b = c
      · rw [if_pos h4] at E1
        refine Ok.via E1 p23 (k1 := 2) (Nat.le_trans l3 (Nat.add_le_add_right l2 1)) (k2 := 400) ?_ (by decide)
        refine (jn p23 w3 (Nat.le_refl _) (.inl rfl) (J.pre p23 hc) (J.pre p23 ha) fun B' p w' v r H => ?_)
        have e2 : sem v B' c = false → sem v B' b = false := fun q => by
          rcases h4 with h | h
          · rw [h]; exact w'.sem2
          · rw [h]; exact q
        exact bo4 H e2
      rw [if_neg h4] at E1
      obtain ⟨m, B4, e4, p4, w4, l4, hm, _⟩ := ok_notOf w3 (J.has (J.pre p23 hb))
      rw [bind_eq e4] at E1
      have p24 := p23.trans p4
      by_cases h5 : a = m
      · rw [if_pos h5] at E1
        refine Ok.via E1 p24 (k1 := 3) (Nat.le_trans l4 (Nat.add_le_add_right (Nat.le_trans l3 (Nat.add_le_add_right l2 1)) 1)) (k2 := 4) ?_ (by decide)
        refine (ok_sameM J w4 (J.pre p24 hc) (J.has (J.pre p24 ha)) (hcx.pre p24)).mono (Nat.le_refl _) fun r B' p w' q => ⟨q.1, fun v => ?_⟩
        rw [q.2 v]
        have e1 : sem v B' a = !sem v B' b := by rw [h5]; exact sem_neg w' (hm.pre p)
        rw [e1]
        cases sem v B' c <;> cases sem v B' b <;> rfl
      · rw [if_neg h5] at E1
        refine Ok.via E1 p24 (k1 := 3) (Nat.le_trans l4 (Nat.add_le_add_right (Nat.le_trans l3 (Nat.add_le_add_right l2 1)) 1)) (k2 := 1) ?_ (by decide)
        refine (ok_iteM w4 (hcx.pre p24) (J.has (J.pre p24 ha)) (J.has (J.pre p24 hb)) hab (na.pre p24) (nb.pre p24) fun _ => ⟨J.l1w (J.pre p24 ha), J.l1w (J.pre p24 hb), fun i B1 e => ⟨B, E1.trans e⟩⟩).mono (Nat.le_refl _) fun r B' p w' q => ⟨J.qlit ⟨_, q.1, rfl, by simp, by simp, by simp⟩, q.2⟩
end
end Mine

-- Pure5
namespace Mine

/-- grows alone, and answers the same in a bank that has grown -/
structure SG {α : Type} (f : BM α) : Prop where
  gr : Gr f
  st : ∀ B r B' B'', f B = some (r, B') → B' <+: B'' → B''.Nodup → f B'' = some (r, B'')
theorem SG.ret {α : Type} (a : α) : SG (BM.ret a) := ⟨Gr.ret a, fun B r B' B'' e p n => by cases e; rfl⟩
theorem SG.fail {α : Type} : SG (BM.fail : BM α) := ⟨Gr.fail, fun B r B' B'' e => by cases e⟩
theorem SG.bind {α β : Type} {x : BM α} {f : α → BM β} (hx : SG x) (hf : ∀ a, SG (f a)) : SG (BM.bind x f) := ⟨Gr.bind hx.gr fun a => (hf a).gr, fun B r B' B'' e p n => by
  unfold BM.bind at e ⊢
  cases h : x B with
  | none => rw [h] at e; simp at e
  | some q =>
    obtain ⟨a, B1⟩ := q
    rw [h] at e
    have e : f a B1 = some (r, B') := e
    have g := (hf a).gr B1 r B' e
    rw [hx.st B a B1 B'' h (g.trans p) n]
    exact (hf a).st B1 r B' B'' e p n⟩
theorem SG.rd (t : Nat) : SG (rd t) := ⟨Gr.rd t, fun B r B' B'' e p n => by
  unfold Mine.rd at e ⊢
  cases h : B[t]? with
  | none => rw [h] at e; simp at e
  | some x =>
    rw [h] at e; cases e
    rw [at_pre p h]; rfl⟩
theorem SG.mkM (tm : Tm) : SG (mkM tm) := ⟨Gr.mkM tm, fun B r B' B'' e p n => by
  have e' : Mine.mk B tm = (r, B') := Option.some.inj e
  unfold Mine.mkM
  have hi : B'[r]? = some tm := by
    rcases mk_cases B tm with ⟨i, e2, hi⟩ | ⟨hn, e2⟩
    · rw [e'] at e2; cases e2; exact hi
    · rw [e'] at e2; cases e2; simp
  rw [mk_found n (at_pre p hi)]⟩
theorem SG.ite {α : Type} {c : Prop} [Decidable c] {a b : BM α} (ha : SG a) (hb : SG b) : SG (if c then a else b) := by split <;> assumption

theorem sg_notOf (t : Nat) : SG (notOf t) := SG.bind (SG.rd t) fun x => SG.ite SG.fail (SG.ite (by split; exact SG.ret _; exact SG.fail) (SG.ite (SG.ret _) (SG.ite (SG.ret _) (SG.mkM _))))
theorem sg_wantM (s : Nat) : ∀ l, SG (wantM s l)
  | [] => SG.ret _
  | t :: ts => SG.bind (SG.rd t) fun _ => SG.ite SG.fail (sg_wantM s ts)
theorem sg_andOf (l : List Nat) : SG (andOf l) := SG.bind (sg_wantM 0 l) fun _ => by split; exact SG.ret _; exact SG.ret _; exact SG.mkM _
theorem sg_orOf (l : List Nat) : SG (orOf l) := SG.bind (sg_wantM 0 l) fun _ => by split; exact SG.ret _; exact SG.ret _; exact SG.mkM _
theorem sg_eqM (a b : Nat) : SG (eqM a b) := SG.bind (SG.rd a) fun _ => SG.bind (sg_wantM _ _) fun _ => SG.ite (SG.ret _) (SG.mkM _)
theorem sg_iffM (a b : Nat) : SG (iffM a b) := SG.bind (sg_wantM _ _) fun _ => sg_eqM a b
theorem sg_iteM (c a b : Nat) : SG (iteM c a b) := SG.bind (sg_wantM _ _) fun _ => SG.bind (SG.rd a) fun _ => SG.bind (sg_wantM _ _) fun _ => SG.mkM _
theorem sg_flatM (op : Op) : ∀ n l found, SG (flatM op n l found)
  | 0, _, _ => SG.fail
  | n + 1, [], found => by unfold flatM; exact SG.ite SG.fail (SG.ret _)
  | n + 1, t :: rest, found => by
    unfold flatM
    refine SG.ite SG.fail (SG.ite (sg_flatM op n _ _) (SG.ite (SG.ret _) (SG.bind (sg_notOf t) fun nt => SG.ite (SG.ret _) (SG.bind (SG.rd t) fun x => SG.ite (sg_flatM op n _ _) (sg_flatM op n _ _)))))
theorem sg_leftM (found : List Nat) : ∀ l, SG (leftM found l)
  | [] => SG.ret _
  | a :: as => SG.bind (sg_notOf a) fun _ => SG.bind (sg_leftM found as) fun _ => SG.ret _
theorem sg_thinM {J : Op → List Nat → BM Nat} (hJ : ∀ o l, SG (J o l)) (other : Op) (found : List Nat) : ∀ l kept, SG (thinM J other found l kept)
  | [], kept => SG.ret _
  | t :: ts, kept => by
    unfold thinM
    refine SG.bind (SG.rd t) fun x => SG.ite (sg_thinM hJ other found ts _) (SG.ite SG.fail (SG.ite (sg_thinM hJ other found ts _) (SG.bind (sg_leftM found _) fun left => SG.ite (sg_thinM hJ other found ts _) (SG.bind (hJ _ _) fun r => sg_thinM hJ other found ts _))))
theorem sg_loopM {J : Op → List Nat → BM Nat} (hJ : ∀ o l, SG (J o l)) (op : Op) : ∀ k f, SG (loopM J op k f)
  | 0, _ => SG.fail
  | _ + 1, none => SG.ret _
  | k + 1, some found => by
    unfold loopM
    exact SG.bind (sg_thinM hJ _ found _ _) fun kept => SG.ite (SG.ite (sg_andOf _) (sg_orOf _)) (SG.bind (sg_flatM op 200 kept []) fun f => sg_loopM hJ op k f)
theorem sg_joinM : ∀ d op l, SG (joinM d op l)
  | 0, _, _ => SG.fail
  | d + 1, op, l => SG.bind (sg_flatM op 200 l []) fun f => sg_loopM (sg_joinM d) op 50 f
theorem sg_sameM (a b : Nat) : SG (sameM a b) := by
  refine SG.bind (SG.rd a) fun x => SG.bind (SG.ite (SG.bind (sg_notOf a) fun _ => SG.ret _) (SG.ret _)) fun p => SG.bind (SG.rd b) fun y => SG.bind (SG.ite (SG.bind (sg_notOf b) fun _ => SG.ret _) (SG.ret _)) fun q => ?_
  exact SG.bind (SG.ite (SG.ite (SG.ret _) (sg_notOf _)) (sg_iffM _ _)) fun r => SG.ite (sg_notOf r) (SG.ret r)
theorem sg_chosenBoolM (c a b : Nat) : SG (chosenBoolM c a b) := by
  unfold chosenBoolM
  refine SG.ite (sg_joinM _ _ _) (SG.bind (SG.ite (SG.ret _) (SG.bind (sg_notOf c) fun _ => SG.ret _)) fun t2 => SG.ite (SG.bind (sg_notOf c) fun n => sg_joinM _ _ _) (SG.bind (SG.ite (SG.ret _) (SG.bind (sg_notOf c) fun _ => SG.ret _)) fun t3 =>
    SG.ite (SG.bind (sg_notOf c) fun n => sg_joinM _ _ _) (SG.ite (sg_joinM _ _ _) (SG.bind (sg_notOf b) fun nb => SG.ite (sg_sameM c a) (sg_iteM c a b)))))
theorem sg_stripM (t c k : Nat) : SG (stripM t c k) := SG.bind (SG.rd t) fun x => SG.ite (by
  split
  · exact SG.fail
  · exact SG.ite (by split; exact SG.fail; exact SG.ret _) (SG.ret _)) (SG.ret _)

/-- chosen behind the turning of a denied condition -/
noncomputable def coreM (c a b : Nat) : BM Nat := BM.bind (stripM a c 1) fun a => BM.bind (stripM b c 2) fun b =>
  if c = 1 ∨ a = b then BM.ret a else if c = 2 then BM.ret b else
  BM.bind (rd a) fun y => if y.sort = 0 then chosenBoolM c a b else iteM c a b
theorem sg_coreM (c a b : Nat) : SG (coreM c a b) := SG.bind (sg_stripM _ _ _) fun a => SG.bind (sg_stripM _ _ _) fun b => SG.ite (SG.ret _) (SG.ite (SG.ret _) (SG.bind (SG.rd a) fun y => SG.ite (sg_chosenBoolM _ _ _) (sg_iteM _ _ _)))
theorem sg_chosenM (c a b : Nat) : SG (chosenM c a b) := by
  unfold chosenM
  refine SG.bind (SG.rd c) fun x => SG.bind (SG.ite (SG.bind (sg_notOf c) fun _ => SG.ret _) (SG.ret _)) fun p => sg_coreM p.1 p.2.1 p.2.2

section
variable {v : Nat → Bool} {B B' : List Tm} {t n s c a b : Nat} {op : Op} {x : Tm} {P Q : List Tm → Nat → Prop}
theorem notOf_not {s d : Nat} (w : WF B) (e : B[c]? = some ⟨.not, [x.data], s, d⟩) : notOf c B = some (x.data, B) := by
  obtain ⟨a, e2⟩ := w.not_eq e rfl
  cases e2
  show BM.bind (rd c) _ B = _
  rw [bind_eq (show rd c B = some (_, B) by unfold rd; rw [e]; rfl)]
  rfl
theorem notOf_not' {y : Nat} (w : WF B) (e : B[c]? = some ⟨.not, [y], 0, 0⟩) : notOf c B = some (y, B) := notOf_not (x := ⟨.dummy, [], 0, y⟩) w e
theorem rd_eq (e : B[t]? = some x) : rd t B = some (x, B) := by unfold rd; rw [e]; rfl
theorem chosen_pos (e : B[c]? = some x) (ho : x.op ≠ .not) : chosenM c a b B = coreM c a b B := by
  unfold chosenM
  rw [bind_eq (rd_eq e), if_neg ho]; rfl
theorem chosen_neg {y : Nat} (w : WF B) (e : B[c]? = some ⟨.not, [y], 0, 0⟩) : chosenM c a b B = coreM y b a B := by
  unfold chosenM
  rw [bind_eq (rd_eq e), if_pos rfl, bind_eq (show BM.bind (notOf c) (fun c' => BM.ret (c', b, a)) B = some ((y, b, a), B) by rw [bind_eq (notOf_not' w e)]; rfl)]; rfl

/-- what the strip gives -/
noncomputable def Stp (B : List Tm) (c k a a' : Nat) : Prop := (E3 fun s x y => B[a]? = some ⟨.ite, [c, x, y], s, 0⟩ ∧ a' = if k = 1 then x else y) ∨ (a' = a ∧ NoAg B c a)
theorem WF.ite (w : WF B) {x : Tm} (e : B[t]? = some x) (ho : x.op = .ite) : E4 fun c a b s => A8 (x = ⟨.ite, [c, a, b], s, 0⟩) (CondC B c) (HasS B a s) (HasS B b s) (a ≠ b) (NoAg B c a) (NoAg B c b) ((s = 0 → L1w B a ∧ L1w B b ∧ ∃ B0 B1, chosenBoolM c a b B0 = some (t, B1) ∧ B1 <+: B)) := by
  have := (w.tm _ _ e).body
  unfold BodyOk at this
  rw [ho] at this
  exact this
theorem strip_ok {k : Nat} (hk : k = 1 ∨ k = 2) (w : WF B) (ha : HasS B a s) : Ex2 (fun a' => stripM a c k B = some (a', B)) (fun a' => Stp B c k a a') := by
  obtain ⟨x, ex, hs, hd⟩ := ha
  by_cases ho : x.op = .ite
  · obtain ⟨c', p, q, s', rfl, _⟩ := w.ite ex ho
    have e1 : stripM a c k B = (if c' = c then (match [c', p, q][k]? with | none => BM.fail | some r => BM.ret r) else BM.ret a) B := by
      unfold stripM
      rw [bind_eq (rd_eq ex)]
      rfl
    by_cases hc : c' = c
    · subst hc
      rw [if_pos rfl] at e1
      rcases hk with rfl | rfl
      · exact ⟨p, e1, .inl ⟨s', p, q, ex, rfl⟩⟩
      · exact ⟨q, e1, .inl ⟨s', p, q, ex, rfl⟩⟩
    · rw [if_neg hc] at e1
      exact ⟨a, e1, .inr ⟨rfl, _, ex, .inr ⟨c', rfl, hc⟩⟩⟩
  · refine ⟨a, ?_, .inr ⟨rfl, x, ex, .inl ho⟩⟩
    unfold stripM
    rw [bind_eq (rd_eq ex), if_neg ho]; rfl
theorem Stp.uniq {k a1 a2 : Nat} (h1 : Stp B c k a a1) (h2 : Stp B c k a a2) : a1 = a2 := by
  rcases h1 with ⟨s, x, y, e, h⟩ | ⟨h, z, ez, h3⟩ <;> rcases h2 with ⟨s', x', y', e', h'⟩ | ⟨h', z', ez', h3'⟩
  · rw [e] at e'; cases e'; rw [h, h']
  · rw [e] at ez'; cases ez'
    rcases h3' with h | ⟨c', e1, hne⟩
    · exact absurd rfl h
    · cases e1; exact absurd rfl hne
  · rw [e'] at ez; cases ez
    rcases h3 with h | ⟨c', e1, hne⟩
    · exact absurd rfl h
    · cases e1; exact absurd rfl hne
  · rw [h, h']
theorem Stp.pre {k a' : Nat} (p : B <+: B') (h : Stp B c k a a') : Stp B' c k a a' := h.imp (fun ⟨s, x, y, e, q⟩ => ⟨s, x, y, at_pre p e, q⟩) fun ⟨e, q⟩ => ⟨e, q.pre p⟩
theorem Stp.noAg {k a' : Nat} (w : WF B) (h : Stp B c k a a') : NoAg B c a' := by
  rcases h with ⟨s, x, y, e, rfl⟩ | ⟨rfl, h⟩
  · obtain ⟨c', p, q, s', e', _, _, _, _, h1, h2, _⟩ := w.ite e rfl
    cases e'
    split
    · exact h1
    · exact h2
  · exact h
theorem Stp.has {k a' : Nat} (w : WF B) (h : Stp B c k a a') (ha : HasS B a s) : HasS B a' s := by
  rcases h with ⟨s', x, y, e, rfl⟩ | ⟨rfl, h⟩
  · obtain ⟨z, ez, hs, _⟩ := ha
    rw [e] at ez; cases ez
    obtain ⟨c', p, q, s2, e', _, h1, h2, _⟩ := w.ite e rfl
    cases e'
    simp only at hs
    subst hs
    split
    · exact h1
    · exact h2
  · exact ha
theorem Stp.sem1 {a' : Nat} (w : WF B) (h : Stp B c 1 a a') (hc : sem v B c = true) : sem v B a' = sem v B a := by
  rcases h with ⟨s', x, y, e, rfl⟩ | ⟨rfl, h⟩
  · rw [w.sem e]
    show _ = if sem v B c = true then _ else _
    rw [if_pos hc]
  · rfl
theorem Stp.sem2 {a' : Nat} (w : WF B) (h : Stp B c 2 a a') (hc : sem v B c = false) : sem v B a' = sem v B a := by
  rcases h with ⟨s', x, y, e, rfl⟩ | ⟨rfl, h⟩
  · rw [w.sem e]
    show _ = if sem v B c = true then _ else _
    rw [hc]
    rfl
  · rfl
theorem Stp.back {k a' : Nat} (h : NoAg B c a) (q : Stp B c k a a') : a' = a := q.uniq (.inr ⟨rfl, h⟩)

/-- a condition that is no denial -/
noncomputable def PosC (B : List Tm) (c : Nat) : Prop := Ex2 (fun x => B[c]? = some x) (fun x => A3 (x.sort = 0) (x.op ≠ .dummy) (x.op ≠ .not))
theorem PosC.has (h : PosC B c) : HasS B c 0 := let ⟨y, a, b, d, _⟩ := h; ⟨y, a, b, d⟩
theorem PosC.cond (w : WF B) (h : PosC B c) (h1 : c ≠ 1) (h2 : c ≠ 2) : CondC B c := by
  obtain ⟨x, ex, hs, hd, hn⟩ := h
  refine ⟨x, ex, hs, hd, fun q => ?_, fun q => ?_, hn⟩
  · have := (w.tm _ _ ex).body; unfold BodyOk at this; rw [q] at this; exact h1 this
  · have := (w.tm _ _ ex).body; unfold BodyOk at this; rw [q] at this; exact h2 this
theorem PosC.pre (p : B <+: B') (h : PosC B c) : PosC B' c := let ⟨y, a, b⟩ := h; ⟨y, at_pre p a, b⟩

/-- the core: what it gives, in the bank as it stands -/
theorem core_eq (w : WF B) (hc : PosC B c) (ha : HasS B a s) (hb : HasS B b s) : E2 fun a' b' => A3 (Stp B c 1 a a') (Stp B c 2 b b') (coreM c a b B = (if c = 1 ∨ a' = b' then BM.ret a' else if c = 2 then BM.ret b' else if s = 0 then chosenBoolM c a' b' else iteM c a' b') B) := by
  obtain ⟨a', e1, h1⟩ := strip_ok (c := c) (k := 1) (.inl rfl) w ha
  obtain ⟨b', e2, h2⟩ := strip_ok (c := c) (k := 2) (.inr rfl) w hb
  refine ⟨a', b', h1, h2, ?_⟩
  obtain ⟨y, ey, hs, _⟩ := h1.has w ha
  unfold coreM
  rw [bind_eq e1, bind_eq e2]
  by_cases q1 : c = 1 ∨ a' = b'
  · rw [if_pos q1, if_pos q1]
  rw [if_neg q1, if_neg q1]
  by_cases q2 : c = 2
  · rw [if_pos q2, if_pos q2]
  rw [if_neg q2, if_neg q2, bind_eq (rd_eq ey), hs]

theorem ok_core {k : Nat} (w : WF B) (hc : PosC B c) (ha : HasS B a s) (hb : HasS B b s)
    (hQ : ∀ t, HasS B t s → Q B t) (hmk : ∀ a' b', Stp B c 1 a a' → Stp B c 2 b b' → c ≠ 1 → c ≠ 2 → a' ≠ b' → Ok (if s = 0 then chosenBoolM c a' b' else iteM c a' b') B k (fun r B' => Q B' r ∧ ∀ v, sem v B' r = if sem v B' c then sem v B' a' else sem v B' b')) :
    Ok (coreM c a b) B k (fun r B' => Q B' r ∧ ∀ v, sem v B' r = if sem v B' c then sem v B' a else sem v B' b) := by
  obtain ⟨a', b', h1, h2, E⟩ := core_eq w hc ha hb
  have key : ∀ B', B <+: B' → WF B' → ∀ v, (if sem v B' c then sem v B' a' else sem v B' b') = if sem v B' c then sem v B' a else sem v B' b := fun B' p w' v => by
    cases hv : sem v B' c
    · rw [if_neg (by decide), if_neg (by decide)]; exact (h2.pre p).sem2 w' hv
    · rw [if_pos rfl, if_pos rfl]; exact (h1.pre p).sem1 w' hv
  refine Ok.via E (List.prefix_refl _) (k1 := 0) (Nat.le_refl _) (k2 := k) ?_ (Nat.le_of_eq (Nat.zero_add k))
  by_cases q1 : c = 1 ∨ a' = b'
  · rw [if_pos q1]
    refine Ok.ret w ⟨hQ _ (h1.has w ha), fun v => (?_ : _ = _).trans (key B (List.prefix_refl _) w v)⟩
    rcases q1 with rfl | rfl
    · rw [w.sem1]; rfl
    · simp
  rw [if_neg q1]
  by_cases q2 : c = 2
  · rw [if_pos q2]
    refine Ok.ret w ⟨hQ _ (h2.has w hb), fun v => (?_ : _ = _).trans (key B (List.prefix_refl _) w v)⟩
    rw [q2, w.sem2]; rfl
  rw [if_neg q2]
  exact (hmk a' b' h1 h2 (fun q => q1 (.inl q)) q2 fun q => q1 (.inr q)).mono (Nat.le_refl _) fun r B' p w' q => ⟨q.1, fun v => (q.2 v).trans (key B' p w' v)⟩

theorem ok_core_thing (w : WF B) (hc : PosC B c) (ha : HasS B a s) (hb : HasS B b s) (hs : s ≠ 0) : Ok (coreM c a b) B 1 (fun r B' => HasS B' r s ∧ ∀ v, sem v B' r = if sem v B' c then sem v B' a else sem v B' b) := by
  refine ok_core (Q := fun B t => HasS B t s) w hc ha hb (fun t h => h) fun a' b' h1 h2 c1 c2 hab => ?_
  rw [if_neg hs]
  exact (ok_iteM w (hc.cond w c1 c2) (h1.has w ha) (h2.has w hb) hab (h1.noAg w) (h2.noAg w) fun q => absurd q hs).mono (by decide) fun r B' p w' q => ⟨⟨_, q.1, rfl, by simp⟩, q.2⟩
/-- chosen between things -/
theorem ok_chosen_thing (w : WF B) (hc : HasS B c 0) (ha : HasS B a s) (hb : HasS B b s) (hs : s ≠ 0) : Ok (chosenM c a b) B 1 (fun r B' => HasS B' r s ∧ ∀ v, sem v B' r = if sem v B' c then sem v B' a else sem v B' b) := by
  obtain ⟨x, ex, hxs, hxd⟩ := hc
  by_cases ho : x.op = .not
  · obtain ⟨y, rfl⟩ := w.not_eq ex ho
    obtain ⟨z, ez, hz, hzd, hzn, _⟩ := w.not ex
    refine Ok.via (chosen_neg w ex) (List.prefix_refl _) (k1 := 0) (Nat.le_refl _) (k2 := 1) ((ok_core_thing w ⟨z, ez, hz, hzd, hzn⟩ hb ha hs).mono (Nat.le_refl _) fun r B' p w' q => ⟨q.1, fun v => ?_⟩) (by decide)
    rw [q.2 v, w'.sem (at_pre p ex)]
    show _ = if (!sem v B' y) = true then _ else _
    cases sem v B' y <;> rfl
  · exact Ok.via (chosen_pos ex ho) (List.prefix_refl _) (k1 := 0) (Nat.le_refl _) (k2 := 1) (ok_core_thing w ⟨x, ex, hxs, hxd, ho⟩ ha hb hs) (by decide)

theorem ok_core_bool (J : JK P Q) (w : WF B) (hc : PosC B c) (hcP : P B c) (ha : HasS B a 0) (hb : HasS B b 0) (hA : ∀ k a', Stp B c k a a' → P B a') (hB : ∀ k b', Stp B c k b b' → P B b') :
    Ok (coreM c a b) B 404 (fun r B' => Q B' r ∧ ∀ v, sem v B' r = if sem v B' c then sem v B' a else sem v B' b) := by
  obtain ⟨a', b', h1, h2, E⟩ := core_eq w hc ha hb
  have key : ∀ B', B <+: B' → WF B' → ∀ v, (if sem v B' c then sem v B' a' else sem v B' b') = if sem v B' c then sem v B' a else sem v B' b := fun B' p w' v => by
    cases hv : sem v B' c
    · rw [if_neg (by decide), if_neg (by decide)]; exact (h2.pre p).sem2 w' hv
    · rw [if_pos rfl, if_pos rfl]; exact (h1.pre p).sem1 w' hv
  refine Ok.via E (List.prefix_refl _) (k1 := 0) (Nat.le_refl _) (k2 := 404) ?_ (by decide)
  by_cases q1 : c = 1 ∨ a' = b'
  · rw [if_pos q1]
    refine Ok.ret w ⟨J.pq (hA _ _ h1), fun v => (?_ : _ = _).trans (key B (List.prefix_refl _) w v)⟩
    rcases q1 with rfl | rfl
    · rw [w.sem1]; rfl
    · simp
  rw [if_neg q1]
  by_cases q2 : c = 2
  · rw [if_pos q2]
    refine Ok.ret w ⟨J.pq (hB _ _ h2), fun v => (?_ : _ = _).trans (key B (List.prefix_refl _) w v)⟩
    rw [q2, w.sem2]; rfl
  rw [if_neg q2, if_pos rfl]
  exact (ok_chosenBoolM J w (hc.cond w (fun q => q1 (.inl q)) q2) hcP (hA _ _ h1) (hB _ _ h2) (fun q => q1 (.inr q)) (h1.noAg w) (h2.noAg w)).mono (Nat.le_refl _) fun r B' p w' q => ⟨q.1, fun v => (q.2 v).trans (key B' p w' v)⟩
theorem ok_chosen_bool (J : JK P Q) (w : WF B) (hc : P B c) (hcn : ∀ y, B[c]? = some ⟨.not, [y], 0, 0⟩ → P B y) (ha : HasS B a 0) (hb : HasS B b 0) (hA : ∀ c k a', Stp B c k a a' → P B a') (hB : ∀ c k b', Stp B c k b b' → P B b') :
    Ok (chosenM c a b) B 404 (fun r B' => Q B' r ∧ ∀ v, sem v B' r = if sem v B' c then sem v B' a else sem v B' b) := by
  obtain ⟨x, ex, hxs, hxd⟩ := J.has hc
  by_cases ho : x.op = .not
  · obtain ⟨y, rfl⟩ := w.not_eq ex ho
    obtain ⟨z, ez, hz, hzd, hzn, _⟩ := w.not ex
    refine Ok.via (chosen_neg w ex) (List.prefix_refl _) (k1 := 0) (Nat.le_refl _) (k2 := 404) ((ok_core_bool J w ⟨z, ez, hz, hzd, hzn⟩ (hcn y ex) hb ha (hB y) (hA y)).mono (Nat.le_refl _) fun r B' p w' q => ⟨q.1, fun v => ?_⟩) (by decide)
    rw [q.2 v, w'.sem (at_pre p ex)]
    show _ = if (!sem v B' y) = true then _ else _
    cases sem v B' y <;> rfl
  · exact Ok.via (chosen_pos ex ho) (List.prefix_refl _) (k1 := 0) (Nat.le_refl _) (k2 := 404) (ok_core_bool J w ⟨x, ex, hxs, hxd, ho⟩ hc ha hb (hA c) (hB c)) (by decide)
end
end Mine

-- Pure6
namespace Mine
section
variable {v : Nat → Bool} {B B' B1 B5 : List Tm} {t n s c a b p q r : Nat} {op : Op} {x : Tm}

theorem noAg_const {k : Nat} (w : WF B) (ha : HasS B a s) (hk : k = 1 ∨ k = 2) : NoAg B k a := by
  obtain ⟨y, ey, _⟩ := ha
  refine ⟨y, ey, ?_⟩
  by_cases ho : y.op = .ite
  · obtain ⟨c', p, q, s', rfl, hc, _⟩ := w.ite ey ho
    refine .inr ⟨c', rfl, fun e => ?_⟩
    obtain ⟨z, ez, _, _, h1, h2, _⟩ := hc
    subst e
    rcases hk with rfl | rfl
    · rw [w.h1] at ez; cases ez; exact h1 rfl
    · rw [w.h2] at ez; cases ez; exact h2 rfl
  · exact .inl ho
theorem posC_1 (w : WF B) : PosC B 1 := ⟨_, w.h1, rfl, by simp, by simp⟩
theorem posC_2 (w : WF B) : PosC B 2 := ⟨_, w.h2, rfl, by simp, by simp⟩
theorem core_yes (w : WF B) (ha : HasS B a s) (hb : HasS B b s) : coreM 1 a b B = some (a, B) := by
  obtain ⟨a', b', h1, h2, E⟩ := core_eq w (posC_1 w) ha hb
  rw [E, if_pos (.inl rfl), h1.back (noAg_const w ha (.inl rfl))]; rfl
theorem core_no (w : WF B) (ha : HasS B a s) (hb : HasS B b s) : coreM 2 a b B = some (b, B) := by
  obtain ⟨a', b', h1, h2, E⟩ := core_eq w (posC_2 w) ha hb
  have e1 := h1.back (noAg_const w ha (.inr rfl))
  have e2 := h2.back (noAg_const w hb (.inr rfl))
  subst e1; subst e2
  by_cases h : a' = b'
  · rw [E, if_pos (.inr h), h]; rfl
  · rw [E, if_neg (fun q => q.elim (by decide) h), if_pos rfl]; rfl
theorem chosen_yes (w : WF B) (ha : HasS B a s) (hb : HasS B b s) : chosenM 1 a b B = some (a, B) := (chosen_pos w.h1 (by simp)).trans (core_yes w ha hb)
theorem chosen_no (w : WF B) (ha : HasS B a s) (hb : HasS B b s) : chosenM 2 a b B = some (b, B) := (chosen_pos w.h2 (by simp)).trans (core_no w ha hb)

theorem iteM_eq (w : WF B) (hc : HasS B c 0) (ha : HasS B a s) (hb : HasS B b s) : iteM c a b B = mkM ⟨.ite, [c, a, b], s, 0⟩ B := by
  obtain ⟨x, ex, hs, _⟩ := id ha
  unfold iteM BM.bind
  rw [ok_wantM w (l := [c]) (s := 0) fun t ht => by simp only [List.mem_singleton] at ht; subst ht; exact hc]
  simp only [Option.bind_some]
  unfold rd
  rw [ex]
  simp only [Option.map_some, Option.bind_some]
  rw [ok_wantM w (l := [b]) (s := x.sort) fun t ht => by simp only [List.mem_singleton] at ht; subst ht; exact hs ▸ hb]
  simp only [Option.bind_some]
  rw [hs]
theorem mkM_at (h : mkM x B = some (r, B')) : B'[r]? = some x := by
  have e' : mk B x = (r, B') := Option.some.inj h
  rcases mk_cases B x with ⟨i, e2, hi⟩ | ⟨hn, e2⟩
  · rw [e'] at e2; cases e2; exact hi
  · rw [e'] at e2; cases e2; simp

/-- between like ones -/
theorem core_like (w : WF B) (hc : PosC B c) (ha : HasS B a s) : coreM c a a B = some (a, B) := by
  obtain ⟨a', b', h1, h2, E⟩ := core_eq w hc ha ha
  rw [E]
  rcases h1 with ⟨s', x, y, e, rfl⟩ | ⟨rfl, h⟩
  · have hs' : s' = s := by obtain ⟨z, ez, hs, _⟩ := ha; rw [e] at ez; cases ez; exact hs
    subst hs'
    have h2' : b' = y := h2.uniq (.inl ⟨s', a', y, e, by simp⟩)
    subst h2'
    obtain ⟨c', p, q, s2, e', hcc, hp, hq, hpq, _, _, h0⟩ := w.ite e rfl
    cases e'
    have c1 : c ≠ 1 := fun q => by obtain ⟨z, ez, _, _, h1, _⟩ := hcc; subst q; rw [w.h1] at ez; cases ez; exact h1 rfl
    have c2 : c ≠ 2 := fun q => by obtain ⟨z, ez, _, _, _, h1, _⟩ := hcc; subst q; rw [w.h2] at ez; cases ez; exact h1 rfl
    rw [if_neg (by rintro (h | h); exact c1 h; exact hpq h), if_neg c2]
    by_cases h : s' = 0
    · rw [if_pos h]
      obtain ⟨_, _, B0, B1, e1, p1⟩ := h0 h
      exact (sg_chosenBoolM _ _ _).st B0 _ B1 B e1 p1 w.nd
    · rw [if_neg h, iteM_eq w hcc.has hp hq]
      unfold mkM
      rw [mk_found w.nd e]
  · have h2' : b' = a' := h2.uniq (.inr ⟨rfl, h⟩)
    rw [if_pos (.inr h2'.symm)]; rfl
theorem chosen_like (w : WF B) (hc : HasS B c 0) (ha : HasS B a s) : chosenM c a a B = some (a, B) := by
  obtain ⟨x, ex, hxs, hxd⟩ := hc
  by_cases ho : x.op = .not
  · obtain ⟨y, rfl⟩ := w.not_eq ex ho
    obtain ⟨z, ez, hz, hzd, hzn, _⟩ := w.not ex
    exact (chosen_neg w ex).trans (core_like w ⟨z, ez, hz, hzd, hzn⟩ ha)
  · exact (chosen_pos ex ho).trans (core_like w ⟨x, ex, hxs, hxd, ho⟩ ha)

/-- by the denied condition -/
theorem chosen_denied (w : WF B) (w1 : WF B1) (w5 : WF B5) (hc : HasS B c 0) (ha : HasS B a s) (hb : HasS B b s) (h : chosenM c a b B = some (t, B1)) (p1 : B <+: B1) (p5 : B1 <+: B5) (hn : NegOf B5 c n) : chosenM n b a B5 = some (t, B5) := by
  obtain ⟨x, ex, hxs, hxd⟩ := hc
  have p := p1.trans p5
  by_cases ho : x.op = .not
  · obtain ⟨y, rfl⟩ := w.not_eq ex ho
    obtain ⟨z, ez, hz, hzd, hzn, _⟩ := w.not ex
    have hny : n = y := by
      rcases hn with hn | hn | ⟨h1, _⟩ | ⟨h1, _⟩
      · obtain ⟨z', ez', _, _, h1, _⟩ := w5.not hn
        rw [at_pre p ex] at ez'; cases ez'; exact absurd rfl h1
      · rw [at_pre p ex] at hn; cases hn; rfl
      · subst h1; rw [w.h1] at ex; cases ex
      · subst h1; rw [w.h2] at ex; cases ex
    subst hny
    rw [chosen_neg w ex] at h
    rw [chosen_pos (at_pre p ez) hzn]
    exact (sg_coreM _ _ _).st B _ B1 B5 h p5 w5.nd
  · rw [chosen_pos ex ho] at h
    rcases hn with hn | hn | ⟨h1, h2⟩ | ⟨h1, h2⟩
    · rw [chosen_neg w5 hn]
      exact (sg_coreM _ _ _).st B _ B1 B5 h p5 w5.nd
    · rw [at_pre p ex] at hn; cases hn; exact absurd rfl ho
    · subst h1; subst h2
      rw [core_yes w ha hb] at h
      cases h
      exact chosen_no w5 (hb.pre p) (ha.pre p)
    · subst h1; subst h2
      rw [core_no w ha hb] at h
      cases h
      exact chosen_yes w5 (hb.pre p) (ha.pre p)

/-- what was chosen, in the place of a branch -/
theorem core_out (w : WF B) (w1 : WF B1) (hc : PosC B c) (ha : HasS B a s) (hb : HasS B b s) (hs : s ≠ 0) (h : coreM c a b B = some (t, B1)) (p1 : B <+: B1) :
    (c = 1 ∧ t = a) ∨ (c = 2 ∧ t = b) ∨ (∃ a' b', Stp B1 c 1 a a' ∧ Stp B1 c 2 b b' ∧ Stp B1 c 1 t a' ∧ Stp B1 c 2 t b') := by
  by_cases c1 : c = 1
  · subst c1; rw [core_yes w ha hb] at h; cases h; exact .inl ⟨rfl, rfl⟩
  by_cases c2 : c = 2
  · subst c2; rw [core_no w ha hb] at h; cases h; exact .inr (.inl ⟨rfl, rfl⟩)
  obtain ⟨a', b', h1, h2, E⟩ := core_eq w hc ha hb
  rw [E] at h
  right; right
  refine ⟨a', b', h1.pre p1, h2.pre p1, ?_⟩
  by_cases hab : a' = b'
  · rw [if_pos (.inr hab)] at h
    cases h
    exact ⟨.inr ⟨rfl, (h1.noAg w).pre p1⟩, .inr ⟨hab.symm, (h1.noAg w).pre p1⟩⟩
  · rw [if_neg (by rintro (h | h); exact c1 h; exact hab h), if_neg c2, if_neg hs, iteM_eq w hc.has (h1.has w ha) (h2.has w hb)] at h
    have ht := mkM_at h
    exact ⟨.inl ⟨s, a', b', ht, by simp⟩, .inl ⟨s, a', b', ht, by simp⟩⟩
theorem core_congr (w : WF B) (hc : PosC B c) (ha : HasS B a s) (hb : HasS B b s) (hp : HasS B p s) (hq : HasS B q s) (h1 : ∀ a', Stp B c 1 a a' ↔ Stp B c 1 p a') (h2 : ∀ b', Stp B c 2 b b' ↔ Stp B c 2 q b') : coreM c a b B = coreM c p q B := by
  obtain ⟨a', b', e1, e2, E⟩ := core_eq w hc ha hb
  obtain ⟨p', q', f1, f2, F⟩ := core_eq w hc hp hq
  rw [E, F, ((h1 a').mp e1).uniq f1, ((h2 b').mp e2).uniq f2]
theorem stp_iff {k a' : Nat} (h1 : Stp B c k a a') (h2 : Stp B c k b a') : ∀ d, Stp B c k a d ↔ Stp B c k b d := fun d => ⟨fun h => by rw [h.uniq h1]; exact h2, fun h => by rw [h.uniq h2]; exact h1⟩
theorem core_same1 (w : WF B) (w1 : WF B1) (w5 : WF B5) (hc : PosC B c) (ha : HasS B a s) (hb : HasS B b s) (hs : s ≠ 0) (h : coreM c a b B = some (t, B1)) (p1 : B <+: B1) (p5 : B1 <+: B5) (ht : HasS B1 t s) (hr : HasS B5 r s) : coreM c t r B5 = coreM c a r B5 := by
  have p := p1.trans p5
  rcases core_out w w1 hc ha hb hs h p1 with ⟨rfl, rfl⟩ | ⟨rfl, rfl⟩ | ⟨a', b', h1, h2, h3, h4⟩
  · rfl
  · rw [core_no w5 (ht.pre p5) hr, core_no w5 (ha.pre p) hr]
  · exact core_congr w5 (hc.pre p) (ht.pre p5) hr (ha.pre p) hr (stp_iff (h3.pre p5) (h1.pre p5)) fun _ => Iff.rfl
theorem core_same2 (w : WF B) (w1 : WF B1) (w5 : WF B5) (hc : PosC B c) (ha : HasS B a s) (hb : HasS B b s) (hs : s ≠ 0) (h : coreM c a b B = some (t, B1)) (p1 : B <+: B1) (p5 : B1 <+: B5) (ht : HasS B1 t s) (hr : HasS B5 r s) : coreM c r t B5 = coreM c r b B5 := by
  have p := p1.trans p5
  rcases core_out w w1 hc ha hb hs h p1 with ⟨rfl, rfl⟩ | ⟨rfl, rfl⟩ | ⟨a', b', h1, h2, h3, h4⟩
  · rw [core_yes w5 hr (ht.pre p5), core_yes w5 hr (hb.pre p)]
  · rfl
  · exact core_congr w5 (hc.pre p) hr (ht.pre p5) hr (hb.pre p) (fun _ => Iff.rfl) (stp_iff (h4.pre p5) (h2.pre p5))
theorem chosen_same (w : WF B) (w1 : WF B1) (w5 : WF B5) (hc : HasS B c 0) (ha : HasS B a s) (hb : HasS B b s) (hs : s ≠ 0) (h : chosenM c a b B = some (t, B1)) (p1 : B <+: B1) (p5 : B1 <+: B5) (ht : HasS B1 t s) (hr : HasS B5 r s) :
    chosenM c t r B5 = chosenM c a r B5 ∧ chosenM c r t B5 = chosenM c r b B5 := by
  obtain ⟨x, ex, hxs, hxd⟩ := hc
  have p := p1.trans p5
  by_cases ho : x.op = .not
  · obtain ⟨y, rfl⟩ := w.not_eq ex ho
    obtain ⟨z, ez, hz, hzd, hzn, _⟩ := w.not ex
    rw [chosen_neg w ex] at h
    rw [chosen_neg w5 (at_pre p ex), chosen_neg w5 (at_pre p ex), chosen_neg w5 (at_pre p ex), chosen_neg w5 (at_pre p ex)]
    exact ⟨core_same2 w w1 w5 ⟨z, ez, hz, hzd, hzn⟩ hb ha hs h p1 p5 ht hr, core_same1 w w1 w5 ⟨z, ez, hz, hzd, hzn⟩ hb ha hs h p1 p5 ht hr⟩
  · rw [chosen_pos ex ho] at h
    rw [chosen_pos (at_pre p ex) ho, chosen_pos (at_pre p ex) ho, chosen_pos (at_pre p ex) ho, chosen_pos (at_pre p ex) ho]
    exact ⟨core_same1 w w1 w5 ⟨x, ex, hxs, hxd, ho⟩ ha hb hs h p1 p5 ht hr, core_same2 w w1 w5 ⟨x, ex, hxs, hxd, ho⟩ ha hb hs h p1 p5 ht hr⟩

/-- nothing stands by a constant, a denial, between like ones or above its own condition -/
noncomputable def PlainT (B : List Tm) (t : Nat) : Prop := Ex2 (fun x => B[t]? = some x) (fun x => (x.op ≠ .ite ∨ ∃ c a b cx, x.args = [c, a, b] ∧ B[c]? = some cx ∧ cx.op ≠ .tru ∧ cx.op ≠ .fls ∧ cx.op ≠ .not ∧ a ≠ b ∧ NoAg B c a ∧ NoAg B c b))
theorem plainT (w : WF B) (ht : HasS B t s) : PlainT B t := by
  obtain ⟨x, ex, _⟩ := ht
  refine ⟨x, ex, ?_⟩
  by_cases ho : x.op = .ite
  · obtain ⟨c, a, b, s, rfl, ⟨cx, ecx, _, _, h1, h2, h3⟩, _, _, hab, na, nb, _⟩ := w.ite ex ho
    exact .inr ⟨c, a, b, cx, rfl, ecx, h1, h2, h3, hab, na, nb⟩
  · exact .inl ho

/-! single: a join of two -/
theorem g1 {l f : List Nat} (h1 : l.length ≤ 1000) (h2 : f.length ≤ 60) : ¬ (1000 < l.length ∨ 60 < f.length) := fun q => q.elim (Nat.not_lt.mpr h1) (Nat.not_lt.mpr h2)
theorem flat_unit {f : List Nat} {k : Nat} {l : List Nat} (h1 : l.length ≤ 1000) (h2 : f.length ≤ 60) : flatM op (k + 1) (unitOf op :: l) f B = flatM op k l f B := by
  rw [flatM, if_neg (g1 h1 h2), if_pos rfl]
theorem flat_end {f : List Nat} {k : Nat} (h2 : f.length ≤ 60) : flatM op (k + 1) [] f B = some (some f, B) := by
  rw [flatM, if_neg (Nat.not_lt.mpr h2)]; rfl
theorem flat_settle {f : List Nat} {k : Nat} {l : List Nat} (hop : AO op) (h1 : l.length ≤ 1000) (h2 : f.length ≤ 60) : flatM op (k + 1) (settleOf op :: l) f B = some (none, B) := by
  rw [flatM, if_neg (g1 h1 h2), if_neg (by rcases hop with rfl | rfl <;> decide), if_pos rfl]; rfl
theorem flat_in {f : List Nat} {k : Nat} {l : List Nat} (hop : AO op) (h1 : l.length ≤ 1000) (h2 : f.length ≤ 60) (h3 : t ≠ 1) (h4 : t ≠ 2) (e : notOf t B = some (n, B')) (hn : n ∈ f) : flatM op (k + 1) (t :: l) f B = some (none, B') := by
  rw [flatM, if_neg (g1 h1 h2), if_neg (by rcases hop with rfl | rfl <;> assumption), if_neg (by rcases hop with rfl | rfl <;> assumption), bind_eq e, if_pos hn]; rfl
theorem flat_new {f : List Nat} {k : Nat} {l : List Nat} (hop : AO op) (h1 : l.length ≤ 1000) (h2 : f.length ≤ 60) (h3 : t ≠ 1) (h4 : t ≠ 2) (e : notOf t B = some (n, B')) (hn : n ∉ f) (hl : Lit B' t) : flatM op (k + 1) (t :: l) f B = flatM op k l (if t ∈ f then f else f ++ [t]) B' := by
  obtain ⟨y, ey, _, _, n1, n2⟩ := hl
  rw [flatM, if_neg (g1 h1 h2), if_neg (by rcases hop with rfl | rfl <;> assumption), if_neg (by rcases hop with rfl | rfl <;> assumption), bind_eq e, if_neg hn, bind_eq (rd_eq ey), if_neg (by rcases hop with rfl | rfl <;> assumption)]

theorem join_none {d : Nat} {l : List Nat} (h : flatM op 200 l [] B = some (none, B')) : joinM (d + 1) op l B = some (settleOf op, B') := by
  unfold joinM
  rw [bind_eq h]; rfl
theorem join_one {d : Nat} {l : List Nat} (hop : AO op) (h : flatM op 200 l [] B = some (some [t], B')) (hl : Lit B' t) (w : WF B') : joinM (d + 1) op l B = some (t, B') := by
  have hth : thinM (joinM d) (otherOf op) [t] (sortNat [t]) [] B' = some ([t], B') := thinM_lits hop.other [t] [t] [] B' fun a ha => by simp only [List.mem_singleton] at ha; subst ha; exact hl
  unfold joinM
  rw [bind_eq h]
  unfold loopM
  rw [bind_eq hth, if_pos (show [t] = sortNat [t] from rfl)]
  have hw : wantM 0 [t] B' = some ((), B') := ok_wantM w fun a ha => by simp only [List.mem_singleton] at ha; subst ha; exact hl.has
  rcases hop with rfl | rfl
  · rw [if_pos rfl]; unfold andOf; rw [bind_eq hw]; rfl
  · rw [if_neg (by decide)]; unfold orOf; rw [bind_eq hw]; rfl

theorem negOf_ne {m : Nat} (w : WF B) (ht : B[t]? = some x) (hn : NegOf B t m) : m ≠ t := by
  rintro rfl
  rcases hn with h | h | ⟨h1, h2⟩ | ⟨h1, h2⟩
  · exact Nat.lt_irrefl m ((w.tm _ _ h).lt m (.head _))
  · exact Nat.lt_irrefl m ((w.tm _ _ h).lt m (.head _))
  · exact absurd (h1.symm.trans h2) (by decide)
  · exact absurd (h1.symm.trans h2) (by decide)
theorem NegOf.symm (h : NegOf B t n) : NegOf B n t := by
  rcases h with h | h | ⟨h1, h2⟩ | ⟨h1, h2⟩
  · exact .inr (.inl h)
  · exact .inl h
  · exact .inr (.inr (.inr ⟨h2, h1⟩))
  · exact .inr (.inr (.inl ⟨h2, h1⟩))
theorem notOf_negOf (w : WF B) (ht : HasS B t 0) (hn : NegOf B t n) : notOf t B = some (n, B) := by
  obtain ⟨x, e, hs, hd⟩ := ht
  show BM.bind (rd t) _ B = _
  rw [bind_eq (rd_eq e), if_neg (by simpa using hs)]
  by_cases ho : x.op = .not
  · rw [if_pos ho]
    obtain ⟨a, rfl⟩ := w.not_eq e ho
    rcases hn with h | h | ⟨rfl, _⟩ | ⟨rfl, _⟩
    · obtain ⟨y, ey, _, _, h1, _⟩ := w.not h
      rw [e] at ey; cases ey; exact absurd rfl h1
    · rw [e] at h; cases h; rfl
    · rw [w.h1] at e; cases e
    · rw [w.h2] at e; cases e
  rw [if_neg ho]
  by_cases h1 : t = 1
  · subst h1
    rw [if_pos rfl]
    rcases hn with h | h | ⟨_, rfl⟩ | ⟨h, _⟩
    · obtain ⟨y, ey, _, _, _, h1, _⟩ := w.not h
      rw [w.h1] at ey; cases ey; exact absurd rfl h1
    · rw [w.h1] at h; cases h
    · rfl
    · exact absurd h (by decide)
  rw [if_neg h1]
  by_cases h2 : t = 2
  · subst h2
    rw [if_pos rfl]
    rcases hn with h | h | ⟨h, _⟩ | ⟨_, rfl⟩
    · obtain ⟨y, ey, _, _, _, _, h1⟩ := w.not h
      rw [w.h2] at ey; cases ey; exact absurd rfl h1
    · rw [w.h2] at h; cases h
    · exact absurd h (by decide)
    · rfl
  rw [if_neg h2]
  rcases hn with h | h | ⟨h, _⟩ | ⟨h, _⟩
  · unfold mkM; rw [mk_found w.nd h]
  · rw [e] at h; cases h; exact absurd rfl ho
  · exact absurd h h1
  · exact absurd h h2

/-- a literal and what it meets -/
theorem join_two {d : Nat} (hop : AO op) (w : WF B) (hx : Lit B t) (h1 : t ≠ 1) (h2 : t ≠ 2) (hn : NegOf B t n) {y : Nat} (hy : y = unitOf op ∨ y = settleOf op ∨ y = t ∨ y = n) :
    joinM (d + 1) op [t, y] B = some (if y = unitOf op ∨ y = t then t else settleOf op, B) := by
  obtain ⟨x, ex, _⟩ := id hx
  have e := notOf_negOf w hx.has hn
  have hnt := negOf_ne w ex hn
  have hus : settleOf op ≠ unitOf op := by rcases hop with rfl | rfl <;> decide
  have hsx : settleOf op ≠ t := by
    rcases hop with rfl | rfl
    · exact Ne.symm h2
    · exact Ne.symm h1
  have s1 : ∀ y, flatM op 200 [t, y] [] B = flatM op 199 [y] [t] B := fun y => flat_new (k := 199) hop (Nat.le_of_ble_eq_true rfl) (Nat.zero_le _) h1 h2 e (nomatch ·) hx
  rcases hy with rfl | rfl | rfl | rfl
  · rw [if_pos (.inl rfl)]
    exact join_one hop ((s1 _).trans ((flat_unit (k := 198) (Nat.zero_le _) (Nat.le_of_ble_eq_true rfl)).trans (flat_end (k := 197) (Nat.le_of_ble_eq_true rfl)))) hx w
  · rw [if_neg (by rintro (h | h); exact hus h; exact hsx h)]
    exact join_none ((s1 _).trans (flat_settle (k := 198) hop (Nat.zero_le _) (Nat.le_of_ble_eq_true rfl)))
  · rw [if_pos (.inr rfl)]
    refine join_one hop ((s1 _).trans ((flat_new (k := 198) hop (Nat.zero_le _) (Nat.le_of_ble_eq_true rfl) h1 h2 e (fun q => hnt (List.mem_singleton.mp q)) hx).trans ?_)) hx w
    rw [if_pos (.head _)]
    exact flat_end (k := 197) (Nat.le_of_ble_eq_true rfl)
  · have n1 : y ≠ 1 := by
      rintro rfl
      rcases hn with h | h | ⟨h, _⟩ | ⟨h, _⟩
      · rw [w.h1] at h; cases h
      · obtain ⟨z, ez, _, _, _, q, _⟩ := w.not h; rw [w.h1] at ez; cases ez; exact q rfl
      · exact h1 h
      · exact h2 h
    have n2 : y ≠ 2 := by
      rintro rfl
      rcases hn with h | h | ⟨h, _⟩ | ⟨h, _⟩
      · rw [w.h2] at h; cases h
      · obtain ⟨z, ez, _, _, _, _, q⟩ := w.not h; rw [w.h2] at ez; cases ez; exact q rfl
      · exact h1 h
      · exact h2 h
    rw [if_neg (by
      rintro (h | h)
      · rcases hop with rfl | rfl
        · exact n1 h
        · exact n2 h
      · exact hnt h)]
    have hyl : HasS B y 0 := by
      rcases hn with h | h | ⟨h, _⟩ | ⟨h, _⟩
      · exact ⟨_, h, rfl, by simp⟩
      · obtain ⟨z, ez, hz, hd, _⟩ := w.not h; exact ⟨z, ez, hz, hd⟩
      · exact absurd h h1
      · exact absurd h h2
    exact join_none ((s1 _).trans (flat_in (k := 198) hop (Nat.zero_le _) (Nat.le_of_ble_eq_true rfl) n1 n2 (notOf_negOf w hyl hn.symm) (.head _)))
end
end Mine

-- Pure7
namespace Mine
theorem nodup_bound : ∀ (N : Nat) (l : List Nat), l.Nodup → (∀ x ∈ l, x < N) → l.length ≤ N := by
  intro N
  induction N with
  | zero =>
    intro l hn0 h
    cases l with
    | nil => exact Nat.le_refl _
    | cons a l => exact absurd (h a (.head _)) (Nat.not_lt_zero _)
  | succ N ih =>
    intro l n h
    by_cases hm : N ∈ l
    · have h1 := ih (l.erase N) (n.erase N) fun x hx => by
        have h2 := (List.Nodup.mem_erase_iff n).mp hx
        exact Nat.lt_of_le_of_ne (Nat.le_of_lt_succ (h x h2.2)) h2.1
      rw [List.length_erase_of_mem hm] at h1
      exact Nat.le_succ_of_pred_le h1
    · exact Nat.le_succ_of_le (ih l n fun x hx => Nat.lt_of_le_of_ne (Nat.le_of_lt_succ (h x hx)) fun e => hm (e ▸ hx))

noncomputable def TopoL (B : List Tm) (ps : List Nat) : Prop := ∀ k one, ps[k]? = some one → Ex2 (fun x => B[one]? = some x) (fun x => x.op ≠ .dummy ∧ ∀ a ∈ x.args, a ∈ ps.take k)

section
variable {B : List Tm} {t : Nat} {x : Tm}
theorem WF.base_args (w : WF B) (e : B[t]? = some x) (h : t < 9) : x.args = [] := by
  have : ∀ i, i < 9 → ∃ y, base9[i]? = some y ∧ y.args = [] := by decide
  obtain ⟨y, ey, hy⟩ := this t h
  rw [base_at w ey] at e; cases e; exact hy
theorem WF.arg (w : WF B) (e : B[t]? = some x) : x.args.length ≤ 8 ∧ ∀ a ∈ x.args, ∃ s, HasS B a s := by
  have hb := (w.tm _ _ e).body
  have base : t < 9 → x.args.length ≤ 8 ∧ ∀ a ∈ x.args, ∃ s, HasS B a s := fun h => by
    rw [w.base_args e h]; exact ⟨by simp, fun a ha => nomatch ha⟩
  unfold BodyOk at hb
  split at hb
  · exact base (hb ▸ (by decide))
  · exact base (hb ▸ (by decide))
  · exact base (hb ▸ (by decide))
  · exact base hb.2
  · obtain ⟨a, y, rfl, ey, hs, hd, _⟩ := hb
    exact ⟨by simp, fun b hb => by simp only [List.mem_singleton] at hb; subst hb; exact ⟨0, y, ey, hs, hd⟩⟩
  · exact ⟨hb.2.2.1, fun a ha => ⟨0, hb.2.2.2 a ha⟩⟩
  · exact ⟨hb.2.2.1, fun a ha => ⟨0, hb.2.2.2 a ha⟩⟩
  · obtain ⟨a, b, s, rfl, h1, h2⟩ := hb
    exact ⟨by simp, fun c hc => by
      simp only [List.mem_cons, List.not_mem_nil, or_false] at hc
      rcases hc with rfl | rfl
      · exact ⟨s, h1⟩
      · exact ⟨s, h2⟩⟩
  · obtain ⟨c, a, b, s, rfl, h0, h1, h2, _⟩ := hb
    exact ⟨by simp, fun d hd => by
      simp only [List.mem_cons, List.not_mem_nil, or_false] at hd
      rcases hd with rfl | rfl | rfl
      · exact ⟨0, h0.has⟩
      · exact ⟨s, h1⟩
      · exact ⟨s, h2⟩⟩

theorem TopoL.snoc {F : List Nat} (h : TopoL B F) (e : B[t]? = some x) (hd : x.op ≠ .dummy) (ha : ∀ a ∈ x.args, a ∈ F) : TopoL B (F ++ [t]) := by
  intro k one hk
  rcases snoc_get hk with hk | ⟨q, r⟩
  · obtain ⟨y, ey, hyd, hya⟩ := h k one hk
    exact ⟨y, ey, hyd, fun a h => by rw [List.take_append_of_le_length (Nat.le_of_lt (List.getElem?_eq_some_iff.mp hk).1)]; exact hya a h⟩
  · exact ⟨x, r ▸ e, hd, fun a h => by rw [q, List.take_left]; exact ha a h⟩

structure PS (B : List Tm) (F : List Nat) : Prop where
  topo : TopoL B F
  nd : F.Nodup
  lt : ∀ y ∈ F, y < B.length
theorem PS.len {F : List Nat} (h : PS B F) : F.length ≤ B.length := nodup_bound _ _ h.nd h.lt

theorem la30 {r t f b : Nat} (h : r + 9 * (t + 1) ≤ 100000) (a : f ≤ b) (c : b ≤ 10000) : ¬ (100000 < r ∨ 100000 < f) :=
  fun q => q.elim (Nat.not_lt.mpr (Nat.le_trans (Nat.le_add_right _ _) h)) (Nat.not_lt.mpr (Nat.le_trans a (Nat.le_trans c (by decide))))
theorem la31 {r l a t : Nat} (h : r + (l + 1) + 9 * t ≤ 100000) (k : a < t) : l + r + 9 * (a + 1) ≤ 100000 := Nat.le_trans (Nat.add_le_add (Nat.le_trans (Nat.le_of_eq (Nat.add_comm l r)) (Nat.le_succ _)) (Nat.mul_le_mul_left 9 k)) h
theorem la32 {r l t : Nat} (h : r + (l + 1) + 9 * t ≤ 100000) : r + l + 9 * t ≤ 100000 := Nat.le_trans (Nat.add_le_add_right (Nat.le_succ _) _) h
theorem la33 {r l t : Nat} (h : r + 9 * (t + 1) ≤ 100000) (k : l ≤ 8) : r + 1 + l + 9 * t ≤ 100000 := Nat.le_trans (Nat.add_le_add_right (Nat.le_trans (Nat.le_of_eq (Nat.add_assoc r 1 l)) (Nat.add_le_add_left (Nat.add_le_add_left k 1) r)) (9 * t)) (Nat.le_trans (Nat.le_of_eq ((Nat.add_assoc r 9 (9 * t)).trans (congrArg (r + ·) (Nat.add_comm 9 (9 * t))))) h)
theorem la34 {t b : Nat} (h : t < b) (k : b ≤ 10000) : 0 + 9 * (t + 1) ≤ 100000 := by omega
theorem parts_run (w : WF B) (hB : B.length ≤ 10000) : ∀ (t : Nat), (∃ s, HasS B t s) → ∀ F, PS B F → E2 fun k F' => A4 (PS B F') (F <+: F') (t ∈ F') (∀ n rest, rest.length + 9 * (t + 1) ≤ 100000 → partsG B (n + k) ((t, false) :: rest) F = partsG B n rest F') := by
  intro t
  induction t using Nat.strongRecOn with
  | _ t ih =>
    intro ht F hF
    obtain ⟨s, x, ex, _, hd⟩ := ht
    have hlen := hF.len
    have htl := get_lt ex
    by_cases hm : t ∈ F
    · refine ⟨1, F, hF, List.prefix_refl _, hm, fun n rest hr => ?_⟩
      rw [partsG, if_neg (la30 hr hlen hB), if_pos hm]
    obtain ⟨hal, harg⟩ := w.arg ex
    have hlt := (w.tm _ _ ex).lt
    -- the arguments
    have lst : ∀ (l : List Nat), (∀ a ∈ l, a < t ∧ ∃ s, HasS B a s) → ∀ F, PS B F → E2 fun k F' => A4 (PS B F') (F <+: F') (∀ a ∈ l, a ∈ F') (∀ n rest, rest.length + l.length + 9 * t ≤ 100000 → partsG B (n + k) (l.map (fun a => (a, false)) ++ rest) F = partsG B n rest F') := by
      intro l
      induction l with
      | nil => intro _ F hF; exact ⟨0, F, hF, List.prefix_refl _, fun a ha => (nomatch ha), fun n rest _ => rfl⟩
      | cons a l ihl =>
        intro h F hF
        obtain ⟨k1, F1, hF1, p1, m1, r1⟩ := ih a (h a (.head _)).1 (h a (.head _)).2 F hF
        obtain ⟨k2, F2, hF2, p2, m2, r2⟩ := ihl (fun b hb => h b (.tail _ hb)) F1 hF1
        refine ⟨k2 + k1, F2, hF2, p1.trans p2, fun b hb => ?_, fun n rest hr => ?_⟩
        · rcases List.mem_cons.mp hb with rfl | hb
          · exact p2.subset m1
          · exact m2 b hb
        · have := (h a (.head _)).1
          rw [List.length_cons] at hr
          rw [List.map_cons, List.cons_append, ← Nat.add_assoc, r1 (n + k2) _ (by rw [List.length_append, List.length_map]; exact la31 hr this), r2 n rest (la32 hr)]
    obtain ⟨k1, F1, hF1, p1, m1, r1⟩ := lst (x.args.filter fun a => decide (a ∉ F)) (fun a ha => by
      have := (List.mem_filter.mp ha).1
      exact ⟨hlt a this, harg a this⟩) F hF
    have hfl : (x.args.filter fun a => decide (a ∉ F)).length ≤ 8 := Nat.le_trans (List.length_filter_le _ _) hal
    have hall : ∀ a ∈ x.args, a ∈ F1 := fun a ha => by
      by_cases h : a ∈ F
      · exact p1.subset h
      · exact m1 a (List.mem_filter.mpr ⟨ha, by simpa using h⟩)
    have hlen1 := hF1.len
    have step : ∀ n rest, rest.length + 9 * (t + 1) ≤ 100000 → partsG B (n + (k1 + 2)) ((t, false) :: rest) F = partsG B (n + 1) ((t, true) :: rest) F1 := fun n rest hr => by
      rw [show n + (k1 + 2) = (n + 1 + k1) + 1 from by rw [Nat.add_right_comm n 1, Nat.add_assoc, Nat.add_assoc], partsG, if_neg (la30 hr hlen hB), if_neg hm, if_neg (by decide), ex]
      show (if 1000 < x.args.length then none else _) = _
      rw [if_neg (Nat.not_lt.mpr (Nat.le_trans hal (by decide)))]
      exact r1 (n + 1) ((t, true) :: rest) (la33 hr hfl)
    by_cases hm1 : t ∈ F1
    · refine ⟨k1 + 2, F1, hF1, p1, hm1, fun n rest hr => ?_⟩
      rw [step n rest hr, partsG, if_neg (la30 hr hlen1 hB), if_pos hm1]
    · refine ⟨k1 + 2, F1 ++ [t], ⟨hF1.topo.snoc ex hd hall, List.nodup_append.mpr ⟨hF1.nd, nd1, fun a ha b hb e => hm1 (List.mem_singleton.mp hb ▸ e ▸ ha)⟩, fsn hF1.lt htl⟩, p1.trans (List.prefix_append _ _), List.mem_append_right _ (.head _), fun n rest hr => ?_⟩
      · rw [step n rest hr, partsG, if_neg (la30 hr hlen1 hB), if_neg hm1, if_pos rfl]

noncomputable def PartsOk (B : List Tm) (t : Nat) : Prop := E2 fun n ps => A4 (partsG B n [(t, false)] [] = some ps) (TopoL B ps) (t ∈ ps) (ps.length ≤ 10000)
theorem parts_ok {s : Nat} (w : WF B) (hB : B.length ≤ 10000) (ht : HasS B t s) : PartsOk B t := by
  obtain ⟨k, F', hF, _, hm, hr⟩ := parts_run w hB t ⟨s, ht⟩ [] ⟨fun k one h => by simp at h, .nil, fun y hy => nomatch hy⟩
  have := ht.lt
  refine ⟨1 + k, F', (hr 1 [] (la34 this hB)).trans ?_, hF.topo, hm, Nat.le_trans hF.len hB⟩
  have := hF.len
  rw [partsG]
end
end Mine

-- Dem
namespace Mine
/-- a step that goes through, and what must hold after -/
noncomputable def runW (f : BM Nat) (B : List Tm) (K : Nat → List Tm → Prop) : Prop := ∃ r B', f B = some (r, B') ∧ B'.length ≤ 2 ^ 23 ∧ K r B'
/-- whatever the hand picks -/
noncomputable def condW0 (B : List Tm) (K : Nat → List Tm → Prop) : Prop :=
  (∀ k, k < 3 → K (3 + k) B) ∧ (∀ i j, i < 3 → j < 3 → runW (equalM (6 + i) (6 + j)) B K) ∧ (∀ k, k < 3 → runW (notOf (3 + k)) B K)
noncomputable def condW1 (B : List Tm) (K : Nat → List Tm → Prop) : Prop := condW0 B K ∧
  condW0 B (fun one B₁ => runW (notOf one) B₁ K ∧ condW0 B₁ (fun two B₂ => ∀ op, (op = .and ∨ op = .or) → runW (joinM DEPTH op [one, two]) B₂ K))

noncomputable def condW : Nat → List Tm → (Nat → List Tm → Prop) → Prop
  | 0 => condW0
  | _ + 1 => condW1
theorem condW_base {dd : Nat} {K : Nat → List Tm → Prop} (h : condW dd B K) : condW0 B K := by cases dd with | zero => exact h | succ n => exact h.1

noncomputable def branchW : Nat → List Tm → (Nat → List Tm → Prop) → Prop
  | 0, B, K => ∀ k, k < 3 → K (6 + k) B
  | d + 1, B, K => (∀ k, k < 3 → K (6 + k) B) ∧ condW0 B fun c B₁ => branchW d B₁ fun one B₂ => branchW d B₂ fun two B₃ => runW (chosenM c one two) B₃ K
theorem branchW_base {d : Nat} {B : List Tm} {K : Nat → List Tm → Prop} (h : branchW d B K) : ∀ k, k < 3 → K (6 + k) B := by cases d with | zero => exact h | succ d => exact h.1
noncomputable def claimW : Nat → List Tm → (Nat → List Tm → Prop) → Prop
  | 0, B, K => condW0 B K
  | d + 1, B, K => condW0 B fun c B₁ => K c B₁ ∧ claimW d B₁ fun one B₂ => claimW d B₂ fun two B₃ => runW (chosenM c one two) B₃ K

/-- a branch of an ite that does not ask the same again -/
noncomputable def notAgain (B : List Tm) (c late : Nat) : Prop := Ex2 (fun y => B[late]? = some y) (fun y => (y.op ≠ .ite ∨ ∃ c', y.args[0]? = some c' ∧ c' ≠ c))
noncomputable def IsPlain (B : List Tm) (t : Nat) : Prop := Ex2 (fun x => B[t]? = some x) (fun x => (x.op ≠ .ite ∨ ∃ c a b cx, x.args = [c, a, b] ∧ B[c]? = some cx ∧ cx.op ≠ .tru ∧ cx.op ≠ .fls ∧ cx.op ≠ .not ∧ a ≠ b ∧ notAgain B c a ∧ notAgain B c b))

/-- what the reading of one choice asks of the model -/
noncomputable def rightW (B : List Tm) (c one other : Nat) (K : List Tm → Prop) : Prop := E3 fun s t B1 => A11 (chosenM c one other B = some (t, B1)) (B1.length ≤ 2 ^ 23) (WF B1) (HasS B1 c 0) (HasS B1 one s) (HasS B1 other s) (HasS B1 t s) (PartsOk B1 c) (PartsOk B1 one) (PartsOk B1 other) (A3 (PartsOk B1 t) ((∀ v, sem v B1 t = if sem v B1 c then sem v B1 one else sem v B1 other)) (E2 fun n B2 => A7 (notOf c B1 = some (n, B2)) (B2.length ≤ 2 ^ 23) (chosenM n other one B2 = some (t, B2)) (chosenM c one one B2 = some (one, B2)) (chosenM c other other B2 = some (other, B2)) (IsPlain B2 t) (K B2)))
/-- what the sixteen pairs ask -/
noncomputable def dueAt (i j : Nat) : Nat := if i = 0 ∨ i = 2 then (if j = 0 ∨ j = 3 then 0 else 2) else (if j = 0 ∨ j = 3 then 3 else 1)
noncomputable def singleW (B : List Tm) (p : Nat) (K : List Tm → Prop) : Prop := E3 fun (np : Nat) (B1 : List Tm) (G : Nat → List Tm → Prop) => A6 (notOf p B = some (np, B1)) (B.length ≤ 2 ^ 23) (B1.length ≤ 2 ^ 23) (G 0 B1) ((∀ i j B', i < 4 → j < 4 → G (4 * i + j) B' → ∃ B'', chosenM p ([1, 2, p, np].getD i 0) ([1, 2, p, np].getD j 0) B' = some ([1, 2, p, np].getD (dueAt i j) 0, B'') ∧ B''.length ≤ 2 ^ 23 ∧ G (4 * i + j + 1) B'')) (∀ B', G 16 B' → K B')
/-- one lap of the law -/
noncomputable def lapW (B : List Tm) (K : List Tm → Prop) : Prop :=
  condW1 B fun c B1 => branchW 2 B1 fun one B2 => branchW 2 B2 fun other B3 => branchW 1 B3 fun third B4 => rightW B4 c one other fun B5 =>
    E6 fun t B6 r1 B7 r2 B8 => A11 (chosenM c one other B5 = some (t, B6)) (chosenM c t third B6 = some (r1, B7)) (chosenM c one third B7 = some (r1, B7)) (chosenM c third t B7 = some (r2, B8)) (chosenM c third other B8 = some (r2, B8)) (chosenM 1 one other B8 = some (one, B8)) (chosenM 2 one other B8 = some (other, B8)) (B6.length ≤ 2 ^ 23) (B7.length ≤ 2 ^ 23) (B8.length ≤ 2 ^ 23) (claimW 1 B8 fun x B9 => claimW 1 B9 fun y B10 => rightW B10 c x y K)
noncomputable def finW (B : List Tm) : Prop := singleW B 3 fun B1 => ∃ e B2, eqM 6 7 B1 = some (e, B2) ∧ B1.length ≤ 2 ^ 23 ∧ B2.length ≤ 2 ^ 23 ∧ singleW B2 e fun B3 => B3.length ≤ 2 ^ 23
noncomputable def lawW (B : List Tm) : Prop := ∃ G : Nat → List Tm → Prop, G 0 B ∧ (∀ k B, k < 2 → G k B → B.length ≤ 2 ^ 23 ∧ lapW B (G (k + 1))) ∧ ∀ B, G 2 B → B.length ≤ 2 ^ 23 ∧ finW B
end Mine

-- Pure8
namespace Mine
theorem bstep {a c k Y N : Nat} (h : a + (Y + k) ≤ N) (l : c ≤ a + k) : c + Y ≤ N := Nat.le_trans (Nat.add_le_add_right l Y) (Nat.le_trans (Nat.le_of_eq ((Nat.add_right_comm a k Y).trans (Nat.add_assoc a Y k))) h)
theorem bless {a k Y N : Nat} (h : a + (Y + k) ≤ N) : a + Y ≤ N := Nat.le_trans (Nat.add_le_add_left (Nat.le_add_right Y k) a) h
theorem lbig {a Y : Nat} (h : a + Y ≤ 10000) : a ≤ 2 ^ 23 := Nat.le_trans (Nat.le_trans (Nat.le_add_right a Y) h) (by decide)
theorem l10 {a Y : Nat} (h : a + Y ≤ 10000) : a ≤ 10000 := Nat.le_trans (Nat.le_add_right a Y) h
theorem opS (o : Op) (h : o = .tru ∨ o = .fls ∨ o = .app ∨ o = .eq ∨ o = .not) : A4 (o ≠ .dummy) (o ≠ .and) (o ≠ .or) (o ≠ .ite) := by
  rcases h with h | h | h | h | h <;> subst h <;> exact ⟨by decide, by decide, by decide, by decide⟩
section
variable {v : Nat → Bool} {B B' B1 B2 : List Tm} {t n s c a b p q r k Y : Nat} {op : Op} {x : Tm} {f : BM Nat} {P : Nat → List Tm → Prop} {K : Nat → List Tm → Prop}

theorem Ok.run {m : Nat} (Y : Nat) (h : Ok f B m P) (hl : B.length + (Y + m) ≤ 10000) (hk : ∀ r B', B <+: B' → WF B' → B'.length + Y ≤ 10000 → P r B' → K r B') : runW f B K := by
  obtain ⟨r, B', e, p, w, l, q⟩ := h
  exact ⟨r, B', e, lbig (bstep hl l), hk r B' p w (bstep hl l) q⟩

/-- what the law's short conditions are -/
inductive LitS (B : List Tm) (t : Nat) : Prop
  | mk (y : Tm) (e : B[t]? = some y) (s : y.sort = 0) (h : y.op = .tru ∨ y.op = .fls ∨ y.op = .app ∨ y.op = .eq ∨ ∃ a, y = ⟨.not, [a], 0, 0⟩ ∧ Ex2 (fun z => B[a]? = some z) (fun z => z.sort = 0 ∧ (z.op = .app ∨ z.op = .eq)))
theorem LitS.pre (p : B <+: B') (h : LitS B t) : LitS B' t := by
  obtain ⟨y, e, hs, h⟩ := h
  exact ⟨y, at_pre p e, hs, h.imp_right (.imp_right (.imp_right (.imp_right fun ⟨a, e1, z, e2, q⟩ => ⟨a, e1, z, at_pre p e2, q⟩)))⟩
theorem LitS.ops (h : LitS B t) : Ex2 (fun y => B[t]? = some y) (fun y => y.sort = 0 ∧ A4 (y.op ≠ .dummy) (y.op ≠ .and) (y.op ≠ .or) (y.op ≠ .ite)) := by
  obtain ⟨y, e, hs, h⟩ := h
  exact ⟨y, e, hs, opS y.op (h.imp_right (.imp_right (.imp_right (.imp_right fun ⟨a, e1, _⟩ => by rw [e1]))))⟩
theorem LitS.lit (h : LitS B t) : Lit B t := let ⟨y, e, hs, h1, h2, h3, _⟩ := h.ops; ⟨y, e, hs, h1, h2, h3⟩
theorem LitS.stp (h : LitS B t) (q : Stp B c k t a) : a = t := by
  rcases q with ⟨s, x, y, e, _⟩ | ⟨e, _⟩
  · obtain ⟨z, ez, _, _, _, _, h⟩ := h.ops
    rw [e] at ez; cases ez; exact absurd rfl h
  · exact e
theorem WF.litS1 (w : WF B) : LitS B 1 := ⟨_, w.h1, rfl, .inl rfl⟩
theorem WF.litS2 (w : WF B) : LitS B 2 := ⟨_, w.h2, rfl, .inr (.inl rfl)⟩
theorem WF.truth (w : WF B) (hk : k < 3) : B[3 + k]? = some ⟨.app, [], 0, k⟩ := by
  have : ∀ k, k < 3 → base9[3 + k]? = some ⟨.app, [], 0, k⟩ := by decide
  exact base_at w (this k hk)
theorem WF.thing (w : WF B) (hk : k < 3) : B[6 + k]? = some ⟨.app, [], 3, 3 + k⟩ := by
  have : ∀ k, k < 3 → base9[6 + k]? = some ⟨.app, [], 3, 3 + k⟩ := by decide
  exact base_at w (this k hk)
theorem LitS.under (h : LitS B t) (e : B[t]? = some ⟨.not, [a], 0, 0⟩) : Ex2 (fun z => B[a]? = some z) (fun z => z.sort = 0 ∧ (z.op = .app ∨ z.op = .eq)) := by
  obtain ⟨y, ey, hs, h⟩ := h
  rw [e] at ey; cases ey
  rcases h with h | h | h | h | ⟨b, h, q⟩
  · cases h
  · cases h
  · cases h
  · cases h
  · cases h; exact q
theorem ok_notS (w : WF B) (h : LitS B t) : Ok (notOf t) B 1 fun n B' => LitS B' n ∧ NegOf B' t n := by
  refine (ok_notOf w h.lit.has).mono (Nat.le_refl _) fun n B' p w' q => ⟨?_, q.1⟩
  have h := h.pre p
  rcases q.1 with hn | hn | ⟨rfl, rfl⟩ | ⟨rfl, rfl⟩
  · obtain ⟨z, ez, hz, _, h1, h2, h3⟩ := w'.not hn
    obtain ⟨y, e, hs, h⟩ := h
    rw [e] at ez; cases ez
    refine ⟨_, hn, rfl, .inr (.inr (.inr (.inr ⟨t, rfl, _, e, hz, ?_⟩)))⟩
    rcases h with h | h | h | h | ⟨a, h, _⟩
    · exact absurd h h2
    · exact absurd h h3
    · exact .inl h
    · exact .inr h
    · exact absurd (by rw [h]) h1
  · obtain ⟨z, ez, hz, ho⟩ := h.under hn
    exact ⟨z, ez, hz, .inr (.inr (ho.elim .inl fun q => .inr (.inl q)))⟩
  · exact w'.litS2
  · exact w'.litS1
theorem litS_eq (h : ∃ y, B[t]? = some y ∧ y.sort = 0 ∧ (y.op = .tru ∨ y.op = .eq)) : LitS B t := by
  obtain ⟨y, e, hs, h⟩ := h
  exact ⟨y, e, hs, h.elim .inl fun h => .inr (.inr (.inr (.inl h)))⟩
theorem ok_equalS {i j : Nat} (w : WF B) (hi : i < 3) (hj : j < 3) : Ok (equalM (6 + i) (6 + j)) B 1 fun r B' => LitS B' r := by
  have e1 := w.thing hi
  have e2 := w.thing hj
  unfold equalM
  by_cases h : 6 + i = 6 + j
  · rw [if_pos h]
    exact Ok.ret w w.litS1
  · rw [if_neg h]
    refine Ok.rd e1 (Ok.rd e2 ?_)
    rw [if_pos ⟨rfl, rfl, show (3 : Nat) ≠ 0 by decide⟩]
    exact (ok_eqM w (s := 3) ⟨_, e1, rfl, by simp⟩ ⟨_, e2, rfl, by simp⟩).mono (Nat.le_refl _) fun r B' p w' q => litS_eq q.1
theorem condW0_ok (Y : Nat) (w : WF B) (hl : B.length + (Y + 1) ≤ 10000) (hk : ∀ r B', B <+: B' → WF B' → B'.length + Y ≤ 10000 → LitS B' r → K r B') : condW0 B K := by
  have ht : ∀ k, k < 3 → LitS B (3 + k) := fun k h => ⟨_, w.truth h, rfl, .inr (.inr (.inl rfl))⟩
  exact ⟨fun k h => hk _ _ (List.prefix_refl _) w (bless hl) (ht k h), fun i j hi hj => (ok_equalS w hi hj).run Y hl hk, fun k h => (ok_notS w (ht k h)).run Y hl fun r B' p w' l q => hk r B' p w' l q.1⟩

/-- what the law's conditions are -/
inductive CndS (B : List Tm) (c : Nat) : Prop
  | mk (l : L1w B c) (n : ∀ y, B[c]? = some ⟨.not, [y], 0, 0⟩ → Lit B y)
theorem CndS.l1w (h : CndS B c) : L1w B c := h.casesOn fun l _ => l
theorem CndS.neg (h : CndS B c) (y : Nat) (e : B[c]? = some ⟨.not, [y], 0, 0⟩) : Lit B y := h.casesOn fun _ n => n y e
theorem LitS.cnd (h : LitS B t) : CndS B t := by
  refine ⟨h.lit.l1w, fun y e => ?_⟩
  obtain ⟨z, ez, hz, ho⟩ := h.under e
  obtain ⟨h1, h2, h3, _⟩ := opS z.op (.inr (.inr (ho.elim .inl fun q => .inr (.inl q))))
  exact ⟨z, ez, hz, h1, h2, h3⟩
theorem CndS.has (h : CndS B c) : HasS B c 0 := h.l1w.1.has
theorem CndS.pre (p : B <+: B') (h : CndS B c) : CndS B' c := ⟨h.l1w.pre p, fun y e => by
  obtain ⟨z, ez, _⟩ := h.has
  have := at_pre p ez
  rw [e] at this; cases this
  exact (h.neg y ez).pre p⟩
theorem condW1_ok (Y : Nat) (w : WF B) (hl : B.length + (Y + 6) ≤ 10000) (hk : ∀ r B', B <+: B' → WF B' → B'.length + Y ≤ 10000 → CndS B' r → K r B') : condW1 B K := by
  refine ⟨condW0_ok (Y + 5) w hl fun r B' p w' l h => hk r B' p w' (bless l) h.cnd, condW0_ok (Y + 5) w hl fun one B1 p1 w1 l1 h1 => ⟨(ok_notS w1 h1).run (Y + 4) l1 fun r B' p w' l q => hk r B' (p1.trans p) w' (bless l) q.1.cnd, ?_⟩⟩
  refine condW0_ok (Y + 4) w1 l1 fun two B2 p2 w2 l2 h2 op hop => ?_
  have hl : ∀ t ∈ [one, two], LitS B2 t := List.forall_mem_cons.mpr ⟨h1.pre p2, List.forall_mem_cons.mpr ⟨h2, fun _ h => nomatch h⟩⟩
  refine (ok_joinM_lits hop 3 w2 (l := [one, two]) (fun t ht => (hl t ht).lit) (show 2 ≤ 8 by decide)).run (Y + 1) l2 fun r B3 p3 w3 l3 q => hk r B3 (p1.trans (p2.trans p3)) w3 (bless l3) ?_
  obtain ⟨_, q1, q2, q3⟩ := q
  rcases q3 with h | h | h | ⟨y, e, h⟩
  · exact ((hl r h).pre p3).cnd
  · rw [h]; exact w3.litS1.cnd
  · rw [h]; exact w3.litS2.cnd
  · refine ⟨⟨q1, q2⟩, fun z ez => ?_⟩
    rw [e] at ez; cases ez
    rcases hop with rfl | rfl <;> cases h

theorem L1w.stp (w : WF B) (h : L1w B t) (q : Stp B c k t a) : L1w B a := by
  rcases q with ⟨s, x, y, e, rfl⟩ | ⟨rfl, _⟩
  · obtain ⟨c', a', b', s', h1, _, _, _, _, _, _, h2⟩ := w.ite e rfl
    cases h1
    have hs : s = 0 := by obtain ⟨z, ez, hz, _⟩ := h.1; rw [e] at ez; cases ez; exact hz
    split
    · exact (h2 hs).1
    · exact (h2 hs).2.1
  · exact h
theorem WF.thingHas (w : WF B) (hk : k < 3) : HasS B (6 + k) 3 := ⟨_, w.thing hk, rfl, by simp⟩

noncomputable def BrOk (d g : Nat) : Prop := ∀ (Y : Nat) (B : List Tm) (K : Nat → List Tm → Prop), WF B → B.length + (Y + g) ≤ 10000 → (∀ r B', B <+: B' → WF B' → B'.length + Y ≤ 10000 → HasS B' r 3 → K r B') → branchW d B K
theorem br0 : BrOk 0 0 := fun Y B K w hl hk k h => hk _ _ (List.prefix_refl _) w hl (w.thingHas h)
theorem br_step {d g : Nat} (ih : BrOk d g) : BrOk (d + 1) (1 + g + g + 1) := fun Y B K w hl hk =>
  ⟨fun k h => hk _ _ (List.prefix_refl _) w (bless hl) (w.thingHas h), condW0_ok (Y + (1 + g + g)) w hl fun c B1 p1 w1 l1 hc =>
    ih (Y + (1 + g)) B1 _ w1 (by rw [Nat.add_assoc Y (1 + g) g]; exact l1) fun one B2 p2 w2 l2 h1 => ih (Y + 1) B2 _ w2 (by rw [Nat.add_assoc Y 1 g]; exact l2) fun two B3 p3 w3 l3 h2 =>
    (ok_chosen_thing w3 (hc.lit.has.pre (p2.trans p3)) (h1.pre p3) h2 (by decide)).run Y l3 fun r B4 p4 w4 l4 q => hk r B4 (p1.trans (p2.trans (p3.trans p4))) w4 l4 q.1⟩
theorem br1 : BrOk 1 2 := br_step br0
theorem br2 : BrOk 2 6 := br_step br1

theorem claimW1_ok (Y : Nat) (w : WF B) (hl : B.length + (Y + 407) ≤ 10000) (hk : ∀ r B', B <+: B' → WF B' → B'.length + Y ≤ 10000 → L1w B' r → K r B') : claimW 1 B K := by
  refine condW0_ok (Y + 406) w hl fun c B1 p1 w1 l1 hc => ⟨hk c B1 p1 w1 (bless l1) hc.lit.l1w, condW0_ok (Y + 405) w1 l1 fun one B2 p2 w2 l2 h1 => condW0_ok (Y + 404) w2 l2 fun two B3 p3 w3 l3 h2 => ?_⟩
  have hc3 := hc.pre (p2.trans p3)
  have h13 := h1.pre p3
  exact (ok_chosen_bool jk_lit w3 hc3.lit hc3.cnd.neg h13.lit.has h2.lit.has (fun c k a' q => h13.stp q ▸ h13.lit) (fun c k a' q => h2.stp q ▸ h2.lit)).run Y l3 fun r B4 p4 w4 l4 q => hk r B4 (p1.trans (p2.trans (p3.trans p4))) w4 l4 q.1

theorem right_ok {m : Nat} {K : List Tm → Prop} (Y : Nat) (w : WF B) (hc : HasS B c 0) (ha : HasS B a s) (hb : HasS B b s) (hok : Ok (chosenM c a b) B m (fun r B' => HasS B' r s ∧ ∀ v, sem v B' r = if sem v B' c then sem v B' a else sem v B' b)) (hl : B.length + (Y + 1 + m) ≤ 10000)
    (hk : ∀ t B1 B2, chosenM c a b B = some (t, B1) → B <+: B1 → B1 <+: B2 → WF B1 → WF B2 → HasS B1 t s → B2.length + Y ≤ 10000 → K B2) : rightW B c a b K := by
  obtain ⟨t, B1, e, p1, w1, l1, ht, hsem⟩ := hok
  have l1 := bstep hl l1
  obtain ⟨n, B2, en, p2, w2, l2, hn, _⟩ := ok_notOf w1 (hc.pre p1)
  have l2 := bstep l1 l2
  have p := p1.trans p2
  refine ⟨s, t, B1, e, lbig l1, w1, hc.pre p1, ha.pre p1, hb.pre p1, ht, parts_ok w1 (l10 l1) (hc.pre p1), parts_ok w1 (l10 l1) (ha.pre p1), parts_ok w1 (l10 l1) (hb.pre p1), parts_ok w1 (l10 l1) ht, hsem, ?_⟩
  exact ⟨n, B2, en, lbig l2, chosen_denied w w1 w2 hc ha hb e p1 p2 hn, chosen_like w2 (hc.pre p) (ha.pre p), chosen_like w2 (hc.pre p) (hb.pre p), plainT w2 (ht.pre p2), hk t B1 B2 e p1 p2 w1 w2 ht l2⟩
theorem again {B'' : List Tm} (e : chosenM c a b B = some (r, B')) (p : B' <+: B'') (w : WF B'') : chosenM c a b B'' = some (r, B'') := (sg_chosenM _ _ _).st _ _ _ _ e p w.nd

theorem lap_ok {K : List Tm → Prop} (Y : Nat) (w : WF B) (hl : B.length + (Y + 1243) ≤ 10000) (hk : ∀ B', WF B' → B'.length + Y ≤ 10000 → K B') : lapW B K := by
  refine condW1_ok (Y + 1237) w hl fun c B1 p1 w1 l1 hc => br2 (Y + 1231) B1 _ w1 l1 fun one B2 p2 w2 l2 h1 => br2 (Y + 1225) B2 _ w2 l2 fun other B3 p3 w3 l3 h2 => br1 (Y + 1223) B3 _ w3 l3 fun third B4 p4 w4 l4 h3 => ?_
  have hc4 := hc.pre (p2.trans (p3.trans p4))
  have h14 := h1.pre (p3.trans p4)
  have h24 := h2.pre p4
  clear hc h1 h2 p1 p2 p3 p4 l1 l2 l3 w w1 w2 w3 hl
  refine right_ok (Y + 1221) w4 hc4.has h14 h24 (ok_chosen_thing w4 hc4.has h14 h24 (by decide)) l4 fun t Ba B5 e pa pb wa w5 ht l5 => ?_
  have p5 := pa.trans pb
  obtain ⟨r1, B7, e7, p7, w7, l7, hr1, _⟩ := ok_chosen_thing w5 (hc4.pre p5).has (ht.pre pb) (h3.pre p5) (by decide)
  have l7 : B7.length + (Y + 1220) ≤ 10000 := bstep l5 l7
  obtain ⟨r2, B8, e8, p8, w8, l8, hr2, _⟩ := ok_chosen_thing w7 (hc4.pre (p5.trans p7)).has (h3.pre (p5.trans p7)) (ht.pre (pb.trans p7)) (by decide)
  have l8 : B8.length + (Y + 1219) ≤ 10000 := bstep l7 l8
  have s1 := (chosen_same w4 wa w5 hc4.has h14 h24 (by decide) e pa pb ht (h3.pre p5)).1
  have s2 := (chosen_same w4 wa w7 hc4.has h14 h24 (by decide) e pa (pb.trans p7) ht (h3.pre (p5.trans p7))).2
  have p58 := p5.trans (p7.trans p8)
  refine ⟨t, B5, r1, B7, r2, B8, again e pb w5, e7, again (s1 ▸ e7) (List.prefix_refl _) w7, e8, again (s2 ▸ e8) (List.prefix_refl _) w8, chosen_yes w8 (h14.pre p58) (h24.pre p58), chosen_no w8 (h14.pre p58) (h24.pre p58), lbig l5, lbig l7, lbig l8, ?_⟩
  have hc8 := hc4.pre p58
  clear s1 s2 e e7 e8 hr1 hr2 pa pb p5 p7 p8 p58 ht h14 h24 h3 hc4 l4 l5 l7 wa w4 w5 w7
  refine claimW1_ok (Y + 812) w8 l8 fun x B9 p9 w9 l9 hx => claimW1_ok (Y + 405) w9 l9 fun y B10 p10 w10 l10 hy => ?_
  have hc10 := hc8.pre (p9.trans p10)
  have hx := hx.pre p10
  exact right_ok Y w10 hc10.has hx.1.has hy.1.has (ok_chosen_bool jk_l1 w10 hc10.l1w (fun z e => (hc10.neg z e).l1w) hx.1.has hy.1.has (fun c k a' q => hx.stp w10 q) (fun c k a' q => hy.stp w10 q)) l10 fun t Bb B11 e pa pb wa w11 _ l11 => hk B11 w11 l11

/-- the sixteen pairs -/
theorem strip_no (hx : B[a]? = some x) (h : x.op ≠ .ite) : stripM a p k B = some (a, B) := by
  unfold stripM
  rw [bind_eq (rd_eq hx), if_neg h]; rfl
theorem single_ok {K : List Tm → Prop} (Y : Nat) (w : WF B) (hx : B[p]? = some x) (hs : x.sort = 0) (ho : x.op = .app ∨ x.op = .eq) (hl : B.length + (Y + 1) ≤ 10000) (hk : ∀ B', B <+: B' → WF B' → B'.length + Y ≤ 10000 → K B') : singleW B p K := by
  obtain ⟨d1, d2, d3, d4⟩ := opS x.op (.inr (.inr (ho.elim .inl fun q => .inr (.inl q))))
  have d5 : x.op ≠ .not := by rcases ho with h | h <;> rw [h] <;> decide
  have hlit : Lit B p := ⟨x, hx, hs, d1, d2, d3⟩
  obtain ⟨n, B1, e, p1, w1, l1, hn, hn0⟩ := ok_notOf w hlit.has
  have hx1 := at_pre p1 hx
  have hl1 := hlit.pre p1
  have hp1 : p ≠ 1 := by rintro rfl; rw [w1.h1] at hx1; cases hx1; rcases ho with h | h <;> cases h
  have hp2 : p ≠ 2 := by rintro rfl; rw [w1.h2] at hx1; cases hx1; rcases ho with h | h <;> cases h
  have hnn : B1[n]? = some ⟨.not, [p], 0, 0⟩ := by
    rcases hn with h | h | h | h
    · exact h
    · rw [hx1] at h; cases h; exact absurd rfl d5
    · exact absurd h.1 hp1
    · exact absurd h.1 hp2
  have hnp : n ≠ p := by rintro rfl; rw [hx1] at hnn; cases hnn; exact d5 rfl
  have hn1 : n ≠ 1 := by rintro rfl; rw [w1.h1] at hnn; cases hnn
  have hn2 : n ≠ 2 := by rintro rfl; rw [w1.h2] at hnn; cases hnn
  have hnl : Lit B1 n := ⟨_, hnn, rfl, nofun, nofun, nofun⟩
  have en : notOf p B1 = some (n, B1) := notOf_negOf w1 hl1.has hn
  refine ⟨n, B1, fun _ B' => B' = B1, e, lbig hl, lbig (bstep hl l1), rfl, ?_, fun B' h => h ▸ hk B1 p1 w1 (bstep hl l1)⟩
  rintro i j B' hi hj rfl
  refine ⟨B', ?_, lbig (bstep hl l1), rfl⟩
  clear hk hl l1 hx hlit e p1 w
  have all : ∀ y ∈ [1, 2, p, n], Ex2 (fun z => B'[y]? = some z) (fun z => z.sort = 0 ∧ z.op ≠ .ite) :=
    List.forall_mem_cons.mpr ⟨⟨_, w1.h1, rfl, by decide⟩, List.forall_mem_cons.mpr ⟨⟨_, w1.h2, rfl, by decide⟩, List.forall_mem_cons.mpr ⟨⟨_, hx1, hs, d4⟩, List.forall_mem_cons.mpr ⟨⟨_, hnn, rfl, nofun⟩, fun _ h => nomatch h⟩⟩⟩⟩
  have nd : [1, 2, p, n].Nodup := by
    simp only [List.nodup_cons, List.mem_cons, List.not_mem_nil, or_false, not_or, List.nodup_nil, and_true, not_false_eq_true]
    exact ⟨⟨by decide, hp1.symm, hn1.symm⟩, ⟨hp2.symm, hn2.symm⟩, hnp.symm⟩
  have at4 : ∀ {i}, i < 4 → [1, 2, p, n][i]? = some ([1, 2, p, n].getD i 0) := fun {i} h => by
    rw [List.getD_eq_getElem?_getD, List.getElem?_eq_getElem (show i < [1, 2, p, n].length from h)]; rfl
  obtain ⟨y, ey, hy0, hyi⟩ := all _ (List.mem_of_getElem? (at4 hi))
  obtain ⟨z, ez, hz0, hzi⟩ := all _ (List.mem_of_getElem? (at4 hj))
  rw [chosen_pos hx1 d5]
  unfold coreM
  rw [bind_eq (strip_no ey hyi), bind_eq (strip_no ez hzi)]
  have jor := fun (y : Nat) (hy : y = unitOf .or ∨ y = settleOf .or ∨ y = p ∨ y = n) => join_two (d := 3) (op := .or) (.inr rfl) w1 hl1 hp1 hp2 hn hy
  have jand := fun (y : Nat) (hy : y = unitOf .and ∨ y = settleOf .and ∨ y = n ∨ y = p) => join_two (d := 3) (op := .and) (.inl rfl) w1 hnl hn1 hn2 hn.symm hy
  by_cases hij : [1, 2, p, n].getD i 0 = [1, 2, p, n].getD j 0
  · rw [if_pos (.inr hij)]
    have e : i = j := (List.getElem?_inj (show i < [1, 2, p, n].length from hi) nd).mp (by rw [at4 hi, at4 hj, hij])
    have e2 : dueAt i j = i := by
      have : ∀ i, i < 4 → dueAt i i = i := by decide
      rw [← e]; exact this i hi
    rw [e2]; rfl
  rw [if_neg (by rintro (h | h); exact hp1 h; exact hij h), if_neg hp2, bind_eq (rd_eq ey), if_pos hy0]
  unfold chosenBoolM
  have due1 : i = 0 ∨ i = 2 → joinM DEPTH .or [p, [1, 2, p, n].getD j 0] B' = some ([1, 2, p, n].getD (dueAt i j) 0, B') := fun h => by
    have e1 : dueAt i j = if j = 0 ∨ j = 3 then 0 else 2 := by unfold dueAt; rw [if_pos h]
    rw [e1]
    refine lt4s (p := fun j => joinM DEPTH .or [p, [1, 2, p, n].getD j 0] B' = some ([1, 2, p, n].getD (if j = 0 ∨ j = 3 then 0 else 2) 0, B')) ?_ ?_ ?_ ?_ hj
    · exact (jor 1 (.inr (.inl rfl))).trans (by rw [if_neg (by rintro (h | h); cases h; exact hp1 h.symm)]; rfl)
    · exact (jor 2 (.inl rfl)).trans (by rw [if_pos (.inl rfl)]; rfl)
    · exact (jor p (.inr (.inr (.inl rfl)))).trans (by rw [if_pos (.inr rfl)]; rfl)
    · exact (jor n (.inr (.inr (.inr rfl)))).trans (by rw [if_neg (by rintro (h | h); exact hn2 h; exact hnp h)]; rfl)
  have due2 : ¬(i = 0 ∨ i = 2) → joinM DEPTH .and [n, [1, 2, p, n].getD j 0] B' = some ([1, 2, p, n].getD (dueAt i j) 0, B') := fun h => by
    have e1 : dueAt i j = if j = 0 ∨ j = 3 then 3 else 1 := by unfold dueAt; rw [if_neg h]
    rw [e1]
    refine lt4s (p := fun j => joinM DEPTH .and [n, [1, 2, p, n].getD j 0] B' = some ([1, 2, p, n].getD (if j = 0 ∨ j = 3 then 3 else 1) 0, B')) ?_ ?_ ?_ ?_ hj
    · exact (jand 1 (.inl rfl)).trans (by rw [if_pos (.inl rfl)]; rfl)
    · exact (jand 2 (.inr (.inl rfl))).trans (by rw [if_neg (by rintro (h | h); cases h; exact hn2 h.symm)]; rfl)
    · exact (jand p (.inr (.inr (.inr rfl)))).trans (by rw [if_neg (by rintro (h | h); exact hp1 h; exact hnp h.symm)]; rfl)
    · exact (jand n (.inr (.inr (.inl rfl)))).trans (by rw [if_pos (.inr rfl)]; rfl)
  clear jor jand all nd at4 hij ey ez hl1 hnl
  match i, hi, due1, due2 with
  | 0, _, due1, _ => rw [if_pos (.inl rfl)]; exact due1 (.inl rfl)
  | 2, _, due1, _ => rw [if_pos (.inr rfl)]; exact due1 (.inr rfl)
  | 1, _, _, due2 =>
    rw [if_neg (by rintro (h | h); cases h; exact hp2 h.symm)]
    show BM.bind (if (2 : Nat) = 2 then BM.ret true else _) _ B' = _
    rw [if_pos rfl]
    exact (bind_eq (r := true) rfl).trans (by rw [if_pos rfl, bind_eq en]; exact due2 (by decide))
  | 3, _, _, due2 =>
    rw [if_neg (by rintro (h | h); exact hn1 h; exact hnp h)]
    show BM.bind (if n = 2 then BM.ret true else BM.bind (notOf p) fun m => BM.ret (decide (n = m))) _ B' = _
    rw [if_neg hn2]
    have : (BM.bind (notOf p) fun m => BM.ret (decide (n = m))) B' = some (true, B') := by rw [bind_eq en, decide_eq_true rfl]; rfl
    rw [bind_eq this, if_pos rfl, bind_eq en]
    exact due2 (by decide)

theorem wf_base : WF base9 := by
  refine ⟨by decide, List.prefix_refl _, fun i x e => ?_⟩
  have hi : i < 9 := get_lt e
  match i, hi with
  | 0, _ => cases e; exact ⟨fun a ha => (nomatch ha), rfl⟩
  | 1, _ => cases e; exact ⟨fun a ha => (nomatch ha), rfl⟩
  | 2, _ => cases e; exact ⟨fun a ha => (nomatch ha), rfl⟩
  | 3, _ => cases e; exact ⟨fun a ha => (nomatch ha), by show 3 ≤ 3 ∧ 3 < 9; omega⟩
  | 4, _ => cases e; exact ⟨fun a ha => (nomatch ha), by show 3 ≤ 4 ∧ 4 < 9; omega⟩
  | 5, _ => cases e; exact ⟨fun a ha => (nomatch ha), by show 3 ≤ 5 ∧ 5 < 9; omega⟩
  | 6, _ => cases e; exact ⟨fun a ha => (nomatch ha), by show 3 ≤ 6 ∧ 6 < 9; omega⟩
  | 7, _ => cases e; exact ⟨fun a ha => (nomatch ha), by show 3 ≤ 7 ∧ 7 < 9; omega⟩
  | 8, _ => cases e; exact ⟨fun a ha => (nomatch ha), by show 3 ≤ 8 ∧ 8 < 9; omega⟩

theorem fin_ok (w : WF B) (hl : B.length + 3 ≤ 10000) : finW B := by
  refine single_ok 2 w (x := ⟨.app, [], 0, 0⟩) (w.truth (k := 0) (by decide)) rfl (.inl rfl) hl fun B1 p1 w1 l1 => ?_
  have e1 := w1.thing (k := 0) (by decide)
  have hne : eqM 6 7 B1 = mkM ⟨.eq, [6, 7], 0, 0⟩ B1 := by
    unfold eqM
    rw [bind_eq (rd_eq e1), bind_eq (ok_wantM w1 (l := [7]) (s := 3) fun t ht => by simp only [List.mem_singleton] at ht; subst ht; exact w1.thingHas (k := 1) (by decide))]
    rfl
  obtain ⟨r, B2, e, p2, w2, l2, _⟩ := ok_eqM w1 (s := 3) (w1.thingHas (k := 0) (by decide)) (w1.thingHas (k := 1) (by decide))
  have l2 : B2.length + 1 ≤ 10000 := bstep l1 l2
  exact ⟨r, B2, e, lbig l1, lbig l2, single_ok 0 w2 (mkM_at (hne ▸ e)) rfl (.inr rfl) l2 fun B3 p3 w3 l3 => lbig l3⟩

noncomputable def lawG (k : Nat) (B : List Tm) : Prop := WF B ∧ B.length + (match k with | 0 => 2489 | 1 => 1246 | _ => 3) ≤ 10000
theorem law_ok : lawW base9 := by
  refine ⟨lawG, ⟨wf_base, by decide⟩, fun k B hk => ?_, fun B h => ⟨lbig h.2, fin_ok h.1 h.2⟩⟩
  revert k
  refine fun k hk => lt2s (p := fun k => lawG k B → B.length ≤ 2 ^ 23 ∧ lapW B (lawG (k + 1))) ?_ ?_ hk
  · exact fun h => ⟨lbig h.2, lap_ok 1246 h.1 h.2 fun B' w' l => ⟨w', l⟩⟩
  · exact fun h => ⟨lbig h.2, lap_ok 3 h.1 h.2 fun B' w' l => ⟨w', l⟩⟩
end
end Mine

open PySem.Calls
open Sem (wp)

-- TermKind
namespace Mine

noncomputable def Op.text : Op → String
  | .dummy => "" | .tru => "true" | .fls => "false" | .app => "app" | .not => "not" | .and => "and" | .or => "or" | .eq => "=" | .ite => "ite"
noncomputable def Op.str (o : Op) : Str := Str.ofString o.text
theorem Op.str_inj {a b : Op} (h : a.str = b.str) : a = b := by
  cases a <;> cases b <;> first | rfl | (exact absurd h (by decide +kernel))

noncomputable def nInts (l : List Nat) : List Int := l.map (fun n : Nat => (n : Int))
theorem nInts_inj {a b : List Nat} (h : nInts a = nInts b) : a = b := by
  induction a generalizing b with
  | nil => cases b with
    | nil => rfl
    | cons _ _ => cases h
  | cons x a ih => cases b with
    | nil => cases h
    | cons y b =>
      simp only [nInts, List.map_cons, List.cons.injEq] at h
      rw [ih h.2, Int.ofNat.inj h.1]

section
variable {prog : Program} {w : World}

inductive IsTermKey (prog : Program) (w : World) (h : Heap) (k : Tm) (a : Addr) : Prop
  | mk (o : Obj) (items : Array Value) (n : Nat) (t0 : Tok) (b : Addr) (t2 t3 : Tok) (h1 : h.get? a = some o) (h2 : o.cls = .type "tuple") (h3 : o.data = .seq items n)
    (h4 : items.toList = [.str k.op.str t0, .ref b, .int k.sort t2, .int k.data t3]) (h5 : IsTupleKey (intKind prog w) h (nInts k.args) b)

noncomputable def termHash (prog : Program) (w : World) (k : Tm) : Int :=
  reduceHash (Builtin.Tuple.tupleHashOf [(strKind prog w).hash k.op.str, tupleKeyHash (intKind prog w) (nInts k.args), (intKind prog w).hash k.sort, (intKind prog w).hash k.data])

theorem IsTermKey.typeIs {s : Shared} {k : Tm} {a : Addr} (x : IsTermKey prog w s.heap k a) : s.TypeIs (.ref a) "tuple" := by
  cases x with | mk o _ _ _ _ _ _ ho hc => exact ⟨o, ho, hc⟩

theorem tm_ext {x y : Tm} (a : x.op = y.op) (b : x.args = y.args) (c : x.sort = y.sort) (d : x.data = y.data) : x = y := by
  cases x; cases y; cases a; cases b; cases c; cases d; rfl
theorem four_inj {x y : Str} {a b : Addr} {i j k l : Int} {t0 t2 t3 t0' t2' t3' : Tok} (e : [Value.str x t0, .ref a, .int i t2, .int k t3] = [.str y t0', .ref b, .int j t2', .int l t3']) : A4 (x = y) (a = b) (i = j) (k = l) :=
  have e1 := List.cons.inj e
  have e2 := List.cons.inj e1.2
  have e3 := List.cons.inj e2.2
  ⟨(Value.str.inj e1.1).1, Value.ref.inj e2.1, (Value.int.inj e3.1).1, (Value.int.inj (List.cons.inj e3.2).1).1⟩
theorem IsTermKey.inj {h : Heap} {a : Addr} {x y : Tm} (hx : IsTermKey prog w h x a) (hy : IsTermKey prog w h y a) : x = y := by
  obtain ⟨o, items, n, t0, b, t2, t3, ho, _, hd, hi, hk⟩ := hx
  obtain ⟨o', items', n', t0', b', t2', t3', ho', _, hd', hi', hk'⟩ := hy
  have h1 := (Data.seq.inj (hd.symm.trans ((congrArg Obj.data (Option.some.inj (ho.symm.trans ho'))).trans hd'))).1
  obtain ⟨e1, e2, e3, e4⟩ := four_inj (hi.symm.trans ((congrArg Array.toList h1).trans hi'))
  exact tm_ext (Op.str_inj e1) (nInts_inj (hk.inj (e2 ▸ hk'))) (Int.ofNat.inj e3) (Int.ofNat.inj e4)

theorem IsTermKey.keeps {h h' : Heap} {k : Tm} {a d : Addr} {o : Obj} {es ep} (x : IsTermKey prog w h k a) (ho : h.get? d = some o) (hd : o.data = .dict es ep) (hs : Heap.SameBut d h h') :
    IsTermKey prog w h' k a := by
  obtain ⟨o', items, n, t0, b, t2, t3, ho', hc, hd', hi, hk⟩ := x
  have hne : a ≠ d := by
    rintro rfl
    obtain rfl : o' = o := Option.some.inj (ho'.symm.trans ho)
    rw [hd] at hd'; exact nomatch hd'
  exact ⟨o', items, n, t0, b, t2, t3, (hs.2 a hne).trans ho', hc, hd', hi, hk.keeps ho hd hs⟩

variable {A : Around} {E : Value → Shared → Prop} {s : Shared}

theorem strIs (x : Str) (t : Tok) : (strKind prog w).is x (.str x t) = true := strKind_is prog w x t
theorem intIs (x : Int) (t : Tok) : (intKind prog w).is x (.int x t) = true := intKind_is prog w x t

theorem wpAny_pyHash_term {k : Tm} {a : Addr} {Q : Int → Shared → Prop} (hu : A.units + 1 < cLine) (hk : IsTermKey prog w s.heap k a) (h : Q (termHash prog w k) { s with toks := s.toks + (k.args.length + 5) }) :
    wpAny (model prog w) A (pyHash (.ref a)) Q E s := by
  have hT := hk.typeIs
  obtain ⟨o, items, n, t0, b, t2, t3, ho, _, hd, hi, hb⟩ := hk
  unfold pyHash
  unfold pyHashByItsType
  refine wpAny_bind (wpAny_cRoomFor_or (.inr (by omega)) ?_)
  refine wpAny_bind (wpAny_specialOf hT F.slot_tuple_hash.lookup ?_)
  show wpAny _ _ (if (some (Value.builtin "tuple.__hash__") == some Value.none) = true then _ else _) Q E s
  rw [if_neg (by rw [beq_builtin_none]; exact Bool.false_ne_true)]
  refine wpAny_bind (wpAny_specialOf hT F.slot_tuple_hash.lookup ?_)
  show wpAny _ _ (callSpecialIfBoundUnlessNone? (.ref a) "__hash__" _ >>= _) Q E s
  refine wpAny_bind (wpAny_callSpecialIfBoundUnlessNone?_slot hT F.slot_tuple_hash (wpAny_call_entry F.slot_tuple_hash hT F.entry_tuple_hash ?_ (F.args_tuple_hash_1 _)))
  show wpAny _ _ (Builtin.Tuple.tupleItemsOf (.ref a) >>= _) _ _ s
  refine wpAny_bind (wpAny_tupleItemsOf ho hd ?_)
  refine wpAny_bind ?_
  rw [← Array.forIn_toList, hi]
  simp only [List.forIn_cons, List.forIn_nil]
  have hb' : ∀ tk, IsTupleKey (intKind prog w) ({ s with toks := tk } : Shared).heap (nInts k.args) b := fun _ => hb
  refine wpAny_bind (wpAny_bind ((strKind prog w).pyHash (strIs _ _) (wpAny_pure ?_)))
  refine wpAny_bind (wpAny_bind (wpAny_pyHash_tuple (A := A.in1) (by rw [Around.in1_units]; exact hu) hb (wpAny_pure ?_)))
  refine wpAny_bind (wpAny_bind ((intKind prog w).pyHash (intIs _ _) (wpAny_pure ?_)))
  refine wpAny_bind (wpAny_bind ((intKind prog w).pyHash (intIs _ _) (wpAny_pure (wpAny_pure ?_))))
  have e : nInts k.args = nInts k.args := rfl
  have hl : (nInts k.args).length = k.args.length := by simp [nInts]
  show wpAny _ _ (retInt (Builtin.Tuple.tupleHashOf _)) _ _ _
  refine wpAny_ret_mkInt ?_
  simp only [List.append_nil, List.nil_append, Array.toList_push, List.cons_append]
  have et : s.toks + 1 + ((nInts k.args).length + 1) + 1 + 1 + 1 = s.toks + (k.args.length + 5) := by rw [hl]; omega
  rw [et]
  unfold termHash at h
  generalize Builtin.Tuple.tupleHashOf _ = H at h ⊢
  unfold reduceHash at h
  show wpAny _ _ (if (decide (-(2 : Int) ^ 63 ≤ H) && decide (H < 2 ^ 63)) = true then _ else _) Q E _
  by_cases hr : (decide (-(2 : Int) ^ 63 ≤ H) && decide (H < 2 ^ 63)) = true
  · rw [if_pos hr] at h ⊢
    exact wpAny_pure h
  · rw [if_neg hr] at h ⊢
    exact wpAny_bind (wpAny_rule (wpAny_pure h))

theorem term_eq_tree {x y : Tm} {a b : Addr} {P : Fin → Shared → Prop} (hu : A.units < cLine) (hx : IsTermKey prog w s.heap x a) (hy : IsTermKey prog w s.heap y b) (h : P (.done (.ret (.bool (decide (x = y))))) s) :
    wpAny (model prog w) A (Builtin.«tuple.__eq__» ⟨[.ref a, .ref b], []⟩) P E s := by
  have hTb := hy.typeIs
  obtain ⟨oa, xs, na, t0, b1, t2, t3, hoa, _, hda, hia, hka⟩ := hx
  obtain ⟨ob, ys, nb, u0, b2, u2, u3, hob, _, hdb, hib, hkb⟩ := hy
  show wpAny _ _ (isInstance (.ref b) (.type "tuple") >>= _) _ _ s
  refine wpAny_bind (wpAny_isInstance hTb isSubtype_tuple_tuple ?_)
  simp only [Bool.not_true, Bool.false_eq_true, if_false]
  refine wpAny_bind (wpAny_tupleItemsOf hoa hda ?_)
  refine wpAny_bind (wpAny_tupleItemsOf hob hdb ?_)
  have hsz : (xs.size == ys.size) = true := by
    have e1 : xs.size = 4 := by rw [← Array.length_toList, hia]; rfl
    have e2 : ys.size = 4 := by rw [← Array.length_toList, hib]; rfl
    rw [e1, e2]; rfl
  refine wpAny_bind ?_
  rw [hia, hib]
  simp only [List.zip_cons_cons, List.zip_nil_left, List.forIn_cons, List.forIn_nil]
  have neq : ∀ {p : Prop} [Decidable p], (x = y → p) → ¬p → decide (x = y) = false := fun hp hn => decide_eq_false fun e => hn (hp e)
  refine wpAny_bind (wpAny_bind ((strKind prog w).eqBool (strIs _ _) (strIs _ _) ?_))
  by_cases e1 : x.op.str = y.op.str
  rotate_left
  · rw [neq (fun e => by rw [e]) e1] at h
    rw [decide_eq_false e1]
    simp only [Bool.not_false, if_true]
    exact wpAny_bind (wpAny_pure (wpAny_pure (wpAny_pure (wpAny_pure h))))
  rw [decide_eq_true e1]
  simp only [Bool.not_true, Bool.false_eq_true, if_false]
  refine wpAny_pure (wpAny_bind (wpAny_bind (wpAny_eqBool_tuple hu hka hkb ?_)))
  by_cases e2 : nInts x.args = nInts y.args
  rotate_left
  · rw [neq (fun e => by rw [e]) e2] at h
    rw [decide_eq_false e2]
    simp only [Bool.not_false, if_true]
    exact wpAny_bind (wpAny_pure (wpAny_pure (wpAny_pure (wpAny_pure h))))
  rw [decide_eq_true e2]
  simp only [Bool.not_true, Bool.false_eq_true, if_false]
  refine wpAny_pure (wpAny_bind (wpAny_bind ((intKind prog w).eqBool (intIs _ _) (intIs _ _) ?_)))
  by_cases e3 : (x.sort : Int) = y.sort
  rotate_left
  · rw [neq (fun e => by rw [e]) e3] at h
    rw [decide_eq_false e3]
    simp only [Bool.not_false, if_true]
    exact wpAny_bind (wpAny_pure (wpAny_pure (wpAny_pure (wpAny_pure h))))
  rw [decide_eq_true e3]
  simp only [Bool.not_true, Bool.false_eq_true, if_false]
  refine wpAny_pure (wpAny_bind (wpAny_bind ((intKind prog w).eqBool (intIs _ _) (intIs _ _) ?_)))
  by_cases e4 : (x.data : Int) = y.data
  rotate_left
  · rw [neq (fun e => by rw [e]) e4] at h
    rw [decide_eq_false e4]
    simp only [Bool.not_false, if_true]
    exact wpAny_bind (wpAny_pure (wpAny_pure (wpAny_pure (wpAny_pure h))))
  rw [decide_eq_true e4]
  simp only [Bool.not_true, Bool.false_eq_true, if_false]
  refine wpAny_pure (wpAny_pure ?_)
  have : x = y := by
    obtain ⟨o1, a1, s1, d1⟩ := x
    obtain ⟨o2, a2, s2, d2⟩ := y
    simp only at e1 e2 e3 e4
    rw [Op.str_inj e1, nInts_inj e2, Int.ofNat.inj e3, Int.ofNat.inj e4]
  rw [decide_eq_true this] at h
  show wpAny _ _ (ret (.bool (xs.size == ys.size))) _ _ _
  rw [hsz]
  exact wpAny_pure h

theorem wpAny_eqBool_term {x y : Tm} {a b : Addr} {Q : Bool → Shared → Prop} (hu : A.units + 1 < cLine) (hx : IsTermKey prog w s.heap x a) (hy : IsTermKey prog w s.heap y b) (h : Q (decide (x = y)) s) :
    wpAny (model prog w) A (eqBool (.ref a) (.ref b)) Q E s := by
  unfold eqBool
  try with_reducible refine wpAny_holding ?_
  show wpAny _ _ (if (Value.ref a == Value.ref b) = true then _ else _) Q E s
  by_cases hab : (Value.ref a == Value.ref b) = true
  · rw [if_pos hab]
    have e : a = b := by have := eq_of_beq hab; injection this
    subst e
    obtain rfl := hx.inj hy
    exact wpAny_bind (wpAny_rule (wpAny_pure (by simpa using h)))
  · rw [if_neg hab]
    exact wpAny_bind (wpAny_richCompare_same_room (op := .Eq) hx.typeIs hy.typeIs F.slot_tuple_eq
      (wpAny_call_entry F.slot_tuple_eq hx.typeIs F.entry_tuple_eq (term_eq_tree (A := A.in1) (by rw [Around.in1_units]; exact hu) hx hy ⟨_, rfl, (fun e => nomatch e), wpAny_truthy_bool h⟩) (F.args_tuple_eq_2 _ _)) (by omega))

theorem wpAny_eqIsQuiet_tuple7 {ks : List Int} {a : Addr} {Q : Bool → Shared → Prop} (hk : IsTupleKey (intKind prog w) s.heap ks a) (h : Q true s) : wpAny (model prog w) A (eqIsQuiet 7 (.ref a)) Q E s := by
  have hT := hk.typeIs
  obtain ⟨o, items, n, ho, _, hd, hi⟩ := hk
  unfold eqIsQuiet
  refine wpAny_bind (wpAny_specialOf hT F.slot_tuple_eq.lookup ?_)
  show wpAny _ _ (isInstance (.ref a) (.type "tuple") >>= _) _ _ s
  refine wpAny_bind (wpAny_isInstance hT isSubtype_tuple_tuple ?_)
  simp only [Bool.not_true, Bool.false_eq_true, if_false]
  refine wpAny_bind (wpAny_seqItems ho hd ?_)
  refine wpAny_bind ?_
  show wpAny _ _ (forIn items _ _) _ _ s
  rw [← Array.forIn_toList]
  refine wpAny_forIn_list _ (fun rest r s' => r.1 = none ∧ s' = s ∧ ∀ v ∈ rest, carriedByValue v = true) _ ?_ ?_ _ _ ⟨rfl, rfl, hi.byValue⟩
  · rintro v rest r s' ⟨hr, rfl, hall⟩
    rw [eqIsQuiet_byValue _ (hall v List.mem_cons_self)]
    refine wpAny_bind (wpAny_pure ?_)
    simp only [Bool.not_true, Bool.false_eq_true, if_false]
    exact wpAny_pure ⟨rfl, rfl, fun u hu' => hall u (List.mem_cons_of_mem _ hu')⟩
  · rintro ⟨r1, r2⟩ s' ⟨hr, rfl, _⟩
    simp only at hr
    subst hr
    exact wpAny_pure h

theorem wpAny_eqIsQuiet_term {k : Tm} {a : Addr} {Q : Bool → Shared → Prop} (hk : IsTermKey prog w s.heap k a) (h : Q true s) : wpAny (model prog w) A (eqIsQuiet 8 (.ref a)) Q E s := by
  have hT := hk.typeIs
  obtain ⟨o, items, n, t0, b, t2, t3, ho, _, hd, hi, hb⟩ := hk
  unfold eqIsQuiet
  refine wpAny_bind (wpAny_specialOf hT F.slot_tuple_eq.lookup ?_)
  show wpAny _ _ (isInstance (.ref a) (.type "tuple") >>= _) _ _ s
  refine wpAny_bind (wpAny_isInstance hT isSubtype_tuple_tuple ?_)
  simp only [Bool.not_true, Bool.false_eq_true, if_false]
  refine wpAny_bind (wpAny_seqItems ho hd ?_)
  refine wpAny_bind ?_
  show wpAny _ _ (forIn items _ _) _ _ s
  rw [← Array.forIn_toList, hi]
  simp only [List.forIn_cons, List.forIn_nil]
  refine wpAny_bind (wpAny_bind (wpAny_of_eq (eqIsQuiet_byValue _ rfl) ?_))
  simp only [Bool.not_true, Bool.false_eq_true, if_false]
  refine wpAny_pure (wpAny_bind (wpAny_bind (wpAny_eqIsQuiet_tuple7 hb ?_)))
  simp only [Bool.not_true, Bool.false_eq_true, if_false]
  refine wpAny_pure (wpAny_bind (wpAny_bind (wpAny_of_eq (eqIsQuiet_byValue _ rfl) ?_)))
  simp only [Bool.not_true, Bool.false_eq_true, if_false]
  refine wpAny_pure (wpAny_bind (wpAny_bind (wpAny_of_eq (eqIsQuiet_byValue _ rfl) ?_)))
  simp only [Bool.not_true, Bool.false_eq_true, if_false]
  exact wpAny_pure (wpAny_pure (wpAny_pure h))
end

noncomputable def termKind (prog : Program) (w : World) : HeapKind prog w Tm where
  is := IsTermKey prog w
  hash := termHash prog w
  draws := fun k => k.args.length + 5
  room := fun A => A.units + 1 < cLine
  inj := fun hx hy => hx.inj hy
  keeps := fun x ho hd hs => x.keeps ho hd hs
  pyHash := fun hu hk h => wpAny_pyHash_term hu hk h
  eqBool := fun hu hx hy h => wpAny_eqBool_term hu hx hy h
  quiet := fun hk h => wpAny_eqIsQuiet_term hk h
end Mine

-- Base
namespace Mine

theorem ifT {p : Prop} [Decidable p] {X Y : Prop} (c : p) (q : X) : if decide p = true then X else Y := by rw [decide_eq_true c]; exact q
theorem ifF {p : Prop} [Decidable p] {X Y : Prop} (c : ¬p) (q : Y) : if decide p = true then X else Y := by rw [decide_eq_false c]; exact q
theorem ifNT {p : Prop} [Decidable p] {X Y : Prop} (c : p) (q : Y) : if (!decide p) = true then X else Y := by rw [decide_eq_true c]; exact q
theorem ifNF {p : Prop} [Decidable p] {X Y : Prop} (c : ¬p) (q : X) : if (!decide p) = true then X else Y := by rw [decide_eq_false c]; exact q
theorem ifE {b : Bool} {X Y : Prop} (c : b = true) (q : X) : if b = true then X else Y := by rw [c]; exact q
theorem ifE0 {b : Bool} {X Y : Prop} (c : b = false) (q : Y) : if b = true then X else Y := by rw [c]; exact q
theorem ifC {p : Prop} [Decidable p] {X Y : Prop} (q : p → X) (r : ¬p → Y) : if decide p = true then X else Y := by
  by_cases c : p
  · exact ifT c (q c)
  · exact ifF c (r c)
theorem ifBC {b : Bool} {X Y : Prop} (q : b = true → X) (r : b = false → Y) : if b = true then X else Y := by
  cases b
  · exact r rfl
  · exact q rfl
theorem if1 {X Y : Prop} (q : X) : if true = true then X else Y := q
theorem if0 {X Y : Prop} (q : Y) : if false = true then X else Y := q
theorem opq {M : Model} {A : Around} {α : Type} {t : Sem α} {Q : α → Shared → Prop} {E : Value → Shared → Prop} {s : Shared} (h : ∀ T : α → Shared → Prop, (∀ v s, Q v s → T v s) → wpAny M A t T E s) : wpAny M A t Q E s := h Q fun _ _ x => x
theorem opq2 {M : Model} {A : Around} {α : Type} {t : Sem Bool} {u : Sem α} {P : α → Shared → Prop} {F : Shared → Prop} {E E' : Value → Shared → Prop} {s : Shared} (h : ∀ (T : α → Shared → Prop) (F' : Shared → Prop), (∀ v s, P v s → T v s) → (∀ s, F s → F' s) → wpAny M A t (fun ok s => if ok = true then wpAny M A u T E' s else F' s) E s) :
    wpAny M A t (fun ok s => if ok = true then wpAny M A u P E' s else F s) E s := h P F (fun _ _ x => x) fun _ x => x
theorem mm {α : Type} {l : List α} {a : α} (h : a ∈ l := by repeat first | exact List.Mem.head _ | apply List.Mem.tail | simp) : a ∈ l := h

noncomputable def Ext (h h' : Heap) : Prop := ∀ b o, h.get? b = some o → h'.get? b = some o
theorem Ext.refl (h : Heap) : Ext h h := fun _ _ e => e
theorem Ext.trans {a b c : Heap} (x : Ext a b) (y : Ext b c) : Ext a c := fun _ _ e => y _ _ (x _ _ e)
theorem Ext.push (h : Heap) (o : Obj) : Ext h (h.push o) := fun _ _ e => Heap.get?_push_of_some _ e
theorem get_size (h : Heap) : h.get? h.objs.size = none := by
  cases q : h.get? h.objs.size with
  | none => rfl
  | some o => exact absurd (Heap.lt_size q) (Nat.lt_irrefl _)
theorem Ext.none {h h' : Heap} (x : Ext h h') {a : Addr} (e : h'.get? a = none) : h.get? a = none := by
  cases q : h.get? a with
  | none => rfl
  | some o => rw [x a o q] at e; cases e

noncomputable def Keep (own : List Addr) (h h' : Heap) : Prop := ∀ b o, b ∉ own → h.get? b = some o → h'.get? b = some o
theorem Keep.refl (own : List Addr) (h : Heap) : Keep own h h := fun _ _ _ e => e
theorem Keep.trans {own : List Addr} {a b c : Heap} (x : Keep own a b) (y : Keep own b c) : Keep own a c := fun _ _ n e => y _ _ n (x _ _ n e)
theorem Keep.more {own own' : List Addr} {a b : Heap} (x : Keep own a b) (hs : ∀ c ∈ own, c ∈ own') : Keep own' a b := fun _ _ n e => x _ _ (fun q => n (hs _ q)) e
theorem Ext.keep {own : List Addr} {h h' : Heap} (x : Ext h h') : Keep own h h' := fun _ _ _ e => x _ _ e

noncomputable def isTupObj (o : Obj) : Prop := o.cls = .type "tuple" ∧ ∃ items n, o.data = .seq items n

noncomputable def Agree (own : List Addr) (h h' : Heap) : Prop := ∀ a o, h.get? a = some o → (a ∈ own ∨ isTupObj o) → h'.get? a = some o

structure Wd where
  own : List Addr
  I : Heap → Prop
  stab : ∀ h h', I h → Agree own h h' → I h'
  live : ∀ h, I h → ∀ a ∈ own, h.get? a ≠ none

noncomputable def noWd : Wd := ⟨[], fun _ => True, fun _ _ _ _ => trivial, fun _ _ _ h => nomatch h⟩

inductive Cell where
  | lst (vs : List Value)
  | tup (vs : List Value)
  | dic (kvs : List (Int × Value))
  | obj (o : Obj)
  | sat (S : Obj → Prop)

section
variable (prog : Program) (w : World)
noncomputable def Cell.at (h : Heap) (a : Addr) : Cell → Prop
  | .lst vs => h.PlainList a vs.toArray
  | .tup vs => IsTup h a vs.toArray
  | .dic kvs => h.DictOf (intKind prog w) a kvs
  | .obj o => h.get? a = some o
  | .sat S => ∃ o, h.get? a = some o ∧ S o
end
section
variable {prog : Program} {w : World}
theorem Cell.at_get {h : Heap} {a : Addr} {c : Cell} (x : c.at prog w h a) : ∃ o, h.get? a = some o := by
  cases c with
  | lst vs => obtain ⟨n, e⟩ := x; exact ⟨_, e⟩
  | tup vs => obtain ⟨o, e, _⟩ := x; exact ⟨_, e⟩
  | dic kvs => obtain ⟨o, _, _, e, _⟩ := x; exact ⟨_, e⟩
  | obj o => exact ⟨_, x⟩
  | sat S => obtain ⟨o, e, _⟩ := x; exact ⟨_, e⟩
theorem Cell.at_to {h h' : Heap} {a : Addr} {c : Cell} (x : c.at prog w h a) (hk : ∀ o, h.get? a = some o → h'.get? a = some o) : c.at prog w h' a := by
  cases c with
  | lst vs => obtain ⟨n, e⟩ := x; exact ⟨n, hk _ e⟩
  | tup vs => obtain ⟨o, e, r⟩ := x; exact ⟨o, hk _ e, r⟩
  | dic kvs => obtain ⟨o, es, ep, e, r⟩ := x; exact ⟨o, es, ep, hk _ e, r⟩
  | obj o => exact hk _ x
  | sat S => obtain ⟨o, e, r⟩ := x; exact ⟨o, hk _ e, r⟩

noncomputable def Cell.noTup : Cell → Prop
  | .lst _ => True
  | .tup _ => False
  | .dic _ => True
  | .obj o => ¬ isTupObj o
  | .sat S => ∀ o, S o → ¬ isTupObj o
theorem Cell.noTup_get {h : Heap} {a : Addr} {c : Cell} {o : Obj} (x : c.at prog w h a) (n : c.noTup) (e : h.get? a = some o) : ¬ isTupObj o := by
  cases c with
  | lst vs => obtain ⟨n, e'⟩ := x; rw [e] at e'; cases e'; exact fun q => by have := q.1; simp at this
  | tup vs => exact n.elim
  | dic kvs => obtain ⟨o', _, _, e', hx, _⟩ := x; rw [e] at e'; cases e'; exact fun q => by have := q.1; rw [hx.1] at this; simp at this
  | obj o' => have e' : h.get? a = some o' := x; rw [e] at e'; cases e'; exact n
  | sat S => obtain ⟨o', e', r⟩ := x; rw [e] at e'; cases e'; exact n _ r

structure W (prog : Program) (w : World) (h₀ s₀ : Heap) (D : Wd) (L : Addr) (h : Heap) (m : Str → Option Value) (objs : List (Addr × Cell)) : Prop where
  ext : Ext h₀ h
  keep : Keep D.own s₀ h
  base : Ext h₀ s₀
  inv : D.I h
  ns : h.Ns L m
  obj : ∀ p ∈ objs, p.2.at prog w h p.1
  nd : (L :: objs.map (·.1)).Nodup
  fresh : ∀ a ∈ L :: objs.map (·.1), s₀.get? a = none ∧ a ∉ D.own

namespace W
variable {h₀ s₀ h h' : Heap} {D D' : Wd} {L a : Addr} {m m' : Str → Option Value} {objs : List (Addr × Cell)} {c c' : Cell}

theorem change (x : W prog w h₀ s₀ D L h m objs) (ha : a ∈ L :: objs.map (·.1)) (hs : ∀ b o, b ≠ a → h.get? b = some o → h'.get? b = some o)
    (ht : ∀ o, h.get? a = some o → ¬ isTupObj o) : Ext h₀ h' ∧ Keep D.own s₀ h' ∧ D.I h' := by
  have hn := (x.fresh a ha).1
  have hf := (x.fresh a ha).2
  refine ⟨fun b o e => hs b o ?_ (x.ext b o e), fun b o nb e => hs b o ?_ (x.keep b o nb e), D.stab h h' x.inv fun b o e hb => hs b o ?_ e⟩
  · rintro rfl; rw [x.base.none hn] at e; cases e
  · rintro rfl; rw [hn] at e; cases e
  · rintro rfl
    rcases hb with hb | hb
    · exact hf hb
    · exact ht o e hb

theorem L_notTup (x : W prog w h₀ s₀ D L h m objs) : ∀ o, h.get? L = some o → ¬ isTupObj o := fun o e q => by
  obtain ⟨o', es, ep, e', hd, _⟩ := x.ns
  rw [e] at e'; cases e'
  obtain ⟨_, items, n, q⟩ := q
  rw [hd] at q; cases q

theorem setL (x : W prog w h₀ s₀ D L h m objs) (hs : Heap.SameBut L h h') (hn : h'.Ns L m') : W prog w h₀ s₀ D L h' m' objs := by
  obtain ⟨a1, a2, a3⟩ := x.change (a := L) (.head _) (fun b o hb e => (hs.2 b hb).trans e) x.L_notTup
  refine ⟨a1, a2, x.base, a3, hn, fun p hp => Cell.at_to (x.obj p hp) fun o e => (hs.2 _ ?_).trans e, x.nd, x.fresh⟩
  rintro q
  have := (List.nodup_cons.mp x.nd).1
  exact this (q ▸ List.mem_map_of_mem hp)

theorem setObj {pre post : List (Addr × Cell)} (x : W prog w h₀ s₀ D L h m (pre ++ (a, c) :: post)) (hs : ∀ b o, b ≠ a → h.get? b = some o → h'.get? b = some o)
    (hc : c'.at prog w h' a) (ht : c.noTup) : W prog w h₀ s₀ D L h' m (pre ++ (a, c') :: post) := by
  have hmem : (a, c) ∈ pre ++ (a, c) :: post := by simp
  have hL : L ≠ a := by
    rintro rfl
    exact (List.nodup_cons.mp x.nd).1 (List.mem_map_of_mem (f := (·.1)) hmem)
  have nd2 := (List.nodup_cons.mp x.nd).2
  rw [List.map_append, List.map_cons] at nd2
  obtain ⟨a1, a2, a3⟩ := x.change (a := a) (List.mem_cons_of_mem _ (List.mem_map_of_mem (f := (·.1)) hmem)) hs fun o e => Cell.noTup_get (x.obj _ hmem) ht e
  refine ⟨a1, a2, x.base, a3, ?_, ?_, by simpa using x.nd, by simpa using x.fresh⟩
  · obtain ⟨o, es, ep, e, r⟩ := x.ns
    exact ⟨o, es, ep, hs _ _ hL e, r⟩
  · intro p hp
    have key : ∀ p, p ∈ pre ∨ p ∈ post → p.2.at prog w h' p.1 := fun p hp => by
      refine Cell.at_to (x.obj p (by rcases hp with hp | hp <;> simp [hp])) fun o e => hs _ _ ?_ e
      rintro q
      rcases hp with hp | hp
      · exact (List.nodup_append.mp nd2).2.2 p.1 (List.mem_map_of_mem (f := (·.1)) hp) a (.head _) q
      · have hm : p.1 ∈ post.map (·.1) := List.mem_map_of_mem (f := (·.1)) hp
        rw [q] at hm
        exact (List.nodup_cons.mp (List.nodup_append.mp nd2).2.1).1 hm
    rcases List.mem_append.mp hp with hp | hp
    · exact key p (.inl hp)
    · rcases List.mem_cons.mp hp with rfl | hp
      · exact hc
      · exact key p (.inr hp)

theorem set0 {post : List (Addr × Cell)} (x : W prog w h₀ s₀ D L h m ((a, c) :: post)) (hs : ∀ b o, b ≠ a → h.get? b = some o → h'.get? b = some o)
    (hc : c'.at prog w h' a) (ht : c.noTup) : W prog w h₀ s₀ D L h' m ((a, c') :: post) := setObj (pre := []) x hs hc ht
theorem set1 {p₁ : Addr × Cell} {post : List (Addr × Cell)} (x : W prog w h₀ s₀ D L h m (p₁ :: (a, c) :: post)) (hs : ∀ b o, b ≠ a → h.get? b = some o → h'.get? b = some o)
    (hc : c'.at prog w h' a) (ht : c.noTup) : W prog w h₀ s₀ D L h' m (p₁ :: (a, c') :: post) := setObj (pre := [p₁]) x hs hc ht
theorem set2 {p₁ p₂ : Addr × Cell} {post : List (Addr × Cell)} (x : W prog w h₀ s₀ D L h m (p₁ :: p₂ :: (a, c) :: post)) (hs : ∀ b o, b ≠ a → h.get? b = some o → h'.get? b = some o)
    (hc : c'.at prog w h' a) (ht : c.noTup) : W prog w h₀ s₀ D L h' m (p₁ :: p₂ :: (a, c') :: post) := setObj (pre := [p₁, p₂]) x hs hc ht

theorem live (x : W prog w h₀ s₀ D L h m objs) (ha : a ∈ L :: objs.map (·.1)) : h.get? a ≠ none := by
  rcases List.mem_cons.mp ha with rfl | ha
  · obtain ⟨o, es, ep, e, _⟩ := x.ns; rw [e]; exact fun q => nomatch q
  · obtain ⟨p, hp, rfl⟩ := List.mem_map.mp ha
    obtain ⟨o, e⟩ := Cell.at_get (x.obj p hp)
    rw [e]; exact fun q => nomatch q

theorem grow (x : W prog w h₀ s₀ D L h m objs) (hs : Ext h h') : W prog w h₀ s₀ D L h' m objs :=
  ⟨x.ext.trans hs, fun b o nb e => hs _ _ (x.keep b o nb e), x.base, D.stab h h' x.inv fun b o e _ => hs b o e,
    x.ns.keeps hs, fun p hp => Cell.at_to (x.obj p hp) fun o e => hs _ _ e, x.nd, x.fresh⟩

theorem old (x : W prog w h₀ s₀ D L h m objs) (ha : h.get? a = none) : s₀.get? a = none ∧ a ∉ D.own := by
  have hn : a ∉ D.own := fun q => D.live h x.inv a q ha
  refine ⟨?_, hn⟩
  cases q : s₀.get? a with
  | none => rfl
  | some o => rw [x.keep a o hn q] at ha; cases ha

theorem add (x : W prog w h₀ s₀ D L h m objs) (hs : Ext h h') (ha : h.get? a = none) (hc : c.at prog w h' a) : W prog w h₀ s₀ D L h' m ((a, c) :: objs) := by
  have y := x.grow hs
  have hne : a ∉ L :: objs.map (·.1) := fun q => x.live q ha
  refine ⟨y.ext, y.keep, y.base, y.inv, y.ns, fun p hp => ?_, ?_, ?_⟩
  · rcases List.mem_cons.mp hp with rfl | hp
    · exact hc
    · exact y.obj p hp
  · have nd := List.nodup_cons.mp x.nd
    simp only [List.map_cons]
    refine List.nodup_cons.mpr ⟨?_, List.nodup_cons.mpr ⟨?_, nd.2⟩⟩
    · intro q
      rcases List.mem_cons.mp q with q | q
      · exact hne (q ▸ .head _)
      · exact nd.1 q
    · intro q
      exact hne (.tail _ q)
  · intro b hb
    have : b = a ∨ b ∈ L :: objs.map (·.1) := by
      simp only [List.map_cons, List.mem_cons] at hb ⊢
      rcases hb with hb | hb | hb <;> simp [hb]
    rcases this with rfl | hb
    · exact x.old ha
    · exact x.fresh b hb

theorem push (x : W prog w h₀ s₀ D L h m objs) (o : Obj) (hc : c.at prog w (h.push o) h.objs.size) : W prog w h₀ s₀ D L (h.push o) m ((h.objs.size, c) :: objs) :=
  x.add (Ext.push h o) (get_size h) hc

theorem drop {post : List (Addr × Cell)} {p : Addr × Cell} (x : W prog w h₀ s₀ D L h m (p :: post)) : W prog w h₀ s₀ D L h m post :=
  ⟨x.ext, x.keep, x.base, x.inv, x.ns, fun q hq => x.obj q (.tail _ hq), by
    have := List.nodup_cons.mp x.nd
    simp only [List.map_cons] at this
    exact List.nodup_cons.mpr ⟨fun q => this.1 (.tail _ q), (List.nodup_cons.mp this.2).2⟩,
    fun a ha => x.fresh a (by simp only [List.map_cons, List.mem_cons] at ha ⊢; rcases ha with ha | ha <;> simp [ha])⟩

theorem letGo {post : List (Addr × Cell)} (x : W prog w h₀ s₀ D L h m ((a, c) :: post)) (hs : ∀ b o, b ≠ a → h.get? b = some o → h'.get? b = some o) (ht : c.noTup) : W prog w h₀ s₀ D L h' m post := by
  have hmem : (a, c) ∈ (a, c) :: post := by simp
  have nd := List.nodup_cons.mp x.nd
  have hL : L ≠ a := by
    rintro rfl
    exact nd.1 (List.mem_map_of_mem (f := (·.1)) hmem)
  obtain ⟨a1, a2, a3⟩ := x.change (a := a) (List.mem_cons_of_mem _ (List.mem_map_of_mem (f := (·.1)) hmem)) hs fun o e => Cell.noTup_get (x.obj _ hmem) ht e
  have y := x.drop
  refine ⟨a1, a2, x.base, a3, ?_, fun p hp => Cell.at_to (y.obj p hp) fun o e => hs _ _ ?_ e, y.nd, y.fresh⟩
  · obtain ⟨o, es, ep, e, r⟩ := x.ns
    exact ⟨o, es, ep, hs _ _ hL e, r⟩
  · rintro q
    have hm : p.1 ∈ post.map (·.1) := List.mem_map_of_mem (f := (·.1)) hp
    rw [q] at hm
    exact (List.nodup_cons.mp nd.2).1 hm

theorem perm {objs' : List (Addr × Cell)} (x : W prog w h₀ s₀ D L h m objs) (hp : objs.Perm objs') : W prog w h₀ s₀ D L h m objs' :=
  ⟨x.ext, x.keep, x.base, x.inv, x.ns, fun q hq => x.obj q (hp.mem_iff.mpr hq), ((hp.map (·.1)).cons L).nodup_iff.mp x.nd, fun a ha => x.fresh a (((hp.map (·.1)).cons L).mem_iff.mpr ha)⟩

/-- a call that turns the world's own things alone -/
theorem call (x : W prog w h₀ s₀ D L h m objs) (hown : D'.own = D.own) (hk : Keep D.own h h') (hext : Ext h₀ h') (hi : D'.I h') : W prog w h₀ s₀ D' L h' m objs := by
  refine ⟨hext, hown ▸ x.keep.trans hk, x.base, hi, ?_, fun p hp => Cell.at_to (x.obj p hp) fun o e => hk _ _ (x.fresh _ (.tail _ (List.mem_map_of_mem hp))).2 e, x.nd, hown ▸ x.fresh⟩
  obtain ⟨o, es, ep, e, r⟩ := x.ns
  exact ⟨o, es, ep, hk _ _ (x.fresh L (.head _)).2 e, r⟩

/-- what stood at the start and is not the world's stands -/
theorem was (x : W prog w h₀ s₀ D L h m objs) {o : Obj} (e : s₀.get? a = some o) (ha : a ∉ D.own) : h.get? a = some o := x.keep a o ha e
end W

structure Gd (w : World) (h₀ : Heap) : Prop where
  K : (Mine.hd0.heap_1 w.params).In h₀
  lim : h₀.NoLimit
  g : ∃ mg, h₀.Ns mainGlobals mg
  b : ∃ mb, h₀.Ns builtinsNs mb ∧ ∀ x : Str, x ≠ "__name__" → mb x = bootBuiltins x
  mods : h₀.get? sysModules ≠ none

theorem Gd.at {h₀ h : Heap} (G : Gd w h₀) (e : Ext h₀ h) : Gd w h :=
  ⟨G.K.keeps e, G.lim.keeps e, let ⟨m, x⟩ := G.g; ⟨m, x.keeps e⟩, let ⟨m, x, y⟩ := G.b; ⟨m, x.keeps e, y⟩, fun q => G.mods (e.none q)⟩

theorem Gd.lo {h₀ : Heap} (G : Gd w h₀) {a : Addr} (e : h₀.get? a = none) : (a == sysModules) = false := by
  cases q : a == sysModules with
  | false => rfl
  | true => exact absurd (eq_of_beq q ▸ e) G.mods

structure Room (A : Around) (n : Nat) : Prop where
  hh : A.handled = none
  depth : A.depth + n ≤ recursionLimit
  units : A.units + 6 * n ≤ cLine

theorem Room.less {A : Around} {n k : Nat} (r : Room A n) (h : k ≤ n) : Room A k := ⟨r.hh, Nat.le_trans (Nat.add_le_add_left h _) r.depth, Nat.le_trans (Nat.add_le_add_left (Nat.mul_le_mul_left 6 h) _) r.units⟩
theorem Room.deep {A : Around} {n : Nat} {env : Env} (r : Room A (n + 1)) : Room (A.deeper env) n :=
  ⟨r.hh, Nat.le_trans (Nat.le_of_eq ((Nat.add_assoc A.depth 1 n).trans (congrArg (A.depth + ·) (Nat.add_comm 1 n)))) r.depth,
   Nat.le_trans (Nat.le_trans (Nat.le_of_eq (Nat.add_right_comm A.units 3 (6 * n))) (Nat.add_le_add_left (by decide : 3 ≤ 6) _)) r.units⟩

noncomputable def St (z : Shared) (h : Heap) (t : Nat) : Shared := { z with heap := h, toks := t }
noncomputable def retOf : Flow → Value
  | .ret v => v
  | _ => .none
structure Entered (h h₁ : Heap) (L : Addr) : Prop where
  ext : Ext h h₁
  new : h.get? L = none
noncomputable def lk (l : List (Str × Value)) (y : Str) : Option Value := l.reverse.lookup y
noncomputable def put (x : Str) (v : Value) (m : Str → Option Value) : Str → Option Value := fun y => if y = x then some v else m y

structure Gnd (w : World) (h₀ h : Heap) : Prop where
  G : Gd w h₀
  ext : Ext h₀ h

section
variable {A : Around} {E : Value → Shared → Prop} {z : Shared} {h₀ s₀ h : Heap} {t : Nat} {D : Wd} {L f : Addr} {m : Str → Option Value} {objs : List (Addr × Cell)} {env : Env}

theorem Gnd.at (g : Gnd w h₀ h) : Gd w h := g.G.at g.ext
theorem W.enter {h h₁ : Heap} {m : Str → Option Value} (D : Wd) (g : Gnd w h₀ h) (hI : D.I h) (e : Entered h h₁ L) (hns : h₁.Ns L m) : W prog w h₀ h D L h₁ m [] :=
  ⟨g.ext.trans e.ext, fun b o _ q => e.ext b o q, g.ext, D.stab _ _ hI fun b o q _ => e.ext b o q, hns, (fun _ hp => nomatch hp), by simp,
    fun a ha => by
      rcases List.mem_cons.mp ha with rfl | ha
      · exact ⟨e.new, fun q => D.live _ hI _ q e.new⟩
      · exact nomatch ha⟩
theorem W.lo {a : Addr} (X : W prog w h₀ s₀ D L h m objs) (G : Gd w h₀) (ha : a ∈ L :: objs.map (·.1)) : (a == sysModules) = false := G.lo (X.base.none (X.fresh a ha).1)
theorem W.gnd (X : W prog w h₀ s₀ D L h m objs) (G : Gd w h₀) : Gnd w h₀ h := ⟨G, X.ext⟩
theorem W.gd (X : W prog w h₀ s₀ D L h m objs) (G : Gd w h₀) : Gd w h := G.at X.ext

theorem nmL {x : Str} {pos : Pos} {v : Value} {Q : Value → Shared → Prop} (X : W prog w h₀ s₀ D env.locals h m objs) (hv : m x = some v) (q : Q v (St z h t))
    (hk : autoParam (env.scope.kind = .function) aR) (hl : autoParam (env.kindOf x = some .local) aR) (hd : autoParam ((x == ("__debug__" : Str)) = false) aD) :
    wpAny (model prog w) A (eval (.Name x pos) env) Q E (St z h t) := wpAny_Name (wpAny_loadName_local (s := St z h t) hk hl X.ns hv q) hd

theorem stL {x : Str} {v : Value} {Q : Unit → Shared → Prop} (X : W prog w h₀ s₀ D env.locals h m objs)
    (q : ∀ h' tk, W prog w h₀ s₀ D env.locals h' (put x v m) objs → Q () (St z h' tk))
    (hk : autoParam (env.scope.kind = .function) aR) (hl : autoParam (env.kindOf x = some .local) aR) :
    wpAny (model prog w) A (storeName env x v) Q E (St z h t) :=
  wpAny_storeName_local (s := St z h t) hl X.ns (fun h' hn hs => q h' _ (X.setL hs hn)) (by show (env.scope.kind == .class || (env.scope.kind == .module && _)) = false; rw [hk]; rfl)

/-- a call of a def of the text without cells -/
theorem callF {K : Frag} {args : List Value} {R : Result → Shared → Prop} {name qual : Str} {params : Arguments} {body : List Stmt} {scope : Scope} {dV kV doc pm cdv ct oc : Value} {an od : Option Addr} {osl : Array (Option Value)} (binds : List (Str × Value))
    (X : K.In h) (lim : h.NoLimit) (hroom : A.depth < recursionLimit)
    (ho : K.lookup f = some ⟨oc, od, .func (fnOf name qual params body scope dV kV doc pm an cdv ct), osl⟩) (hcd : codeIn K cdv qual = true)
    (hbind : bindArgs (fnOf name qual params body scope dV kV doc pm an cdv ct) ⟨args, []⟩ = pure binds) (hloc : ∀ y ∈ binds, scope.names.lookup y.1 = some .local)
    (q : ∀ h₁ L A' tk, Entered h h₁ L → h₁.Ns L (lk binds) → (∀ n, Room A (n + 1) → Room A' n) →
      wpAny (model prog w) A' (execs body (envOf qual scope L f cdv))
        (fun fl s' => R (.ok (.ret (retOf fl))) s') (fun _ _ => False) (St z h₁ tk))
    (hco : autoParam (scope.isCoroutine = false) aR) (hgen : autoParam (scope.isGenerator = false) aR) (hk : autoParam (scope.kind = .function) aR)
    (hcell : autoParam (∀ x ∈ scope.names, x.2 ≠ .cell) aD) : codeAny (model prog w) A (.call (.ref f) ⟨args, []⟩) R (St z h t) := by
  refine codeAny_call_def (s := St z h t) (fd := fnOf name qual params body scope dV kV doc pm an cdv ct) (body := body) (binds := binds) hroom (X _ _ ho) rfl lim (codeRec_of X hcd) rfl (BindsTo.of_eq hbind) hcell hloc (fun h₁ hns hk₁ => ?_) hco hgen hk
  exact wpAny_mono (q h₁ _ _ _ ⟨hk₁, get_size _⟩ hns fun n r => r.deep) (fun fl _ z => by cases fl <;> exact z) fun _ _ z => z.elim

/-- what a caller wants of a call -/
noncomputable def Wants (Q : Value → Shared → Prop) (E : Value → Shared → Prop) : Result → Shared → Prop := fun r s' => match r with
  | .ok (.ret v) => Q v s'
  | .ok _ => False
  | .error e => E e s'
theorem callV {g : Value} {args : List Value} {Q : Value → Shared → Prop} {s : Shared} (q : codeAny (model prog w) A (.call g ⟨args, []⟩) (Wants Q E) s) : wpAny (model prog w) A (call g args) Q E s :=
  wpAny_call (codeAny_mono q fun r s' z => by
    cases r with
    | error e => exact z
    | ok fl => cases fl <;> exact z)
end
end
end Mine

-- Rules
namespace Mine

theorem fillK : PySem.Challenge.rw_qz0014_01 = PySem.Challenge.rw_qz0014_01 ∧ Mine.hd0.heap_1 = Mine.hd0.heap_1 := by
  k_fill
  exact ⟨rfl, rfl⟩

/-- an object of class C whose own attributes are f -/
noncomputable def Attrs (h : Heap) (x C dx : Addr) (f : Str → Option Value) (k : Nat) : Prop :=
  h.get? x = some (instObj C dx) ∧ ∃ es n, h.get? dx = some (dictOf es n) ∧ es.length ≤ k ∧ ∀ y, getL y es = some (f y)
theorem Attrs.instAt {h : Heap} {x C dx : Addr} {f : Str → Option Value} {k : Nat} (a : Attrs h x C dx f k) : ∃ es n, InstAt h x (instObj C dx) C (some (dictOf es n)) ∧ ∀ y, getL y es = some (f y) := by
  obtain ⟨a, es, n, b, _, c⟩ := a
  exact ⟨es, n, ⟨a, rfl, rfl, b⟩, c⟩

section
variable {prog : Program} {w : World} {A : Around} {E : Value → Shared → Prop} {z : Shared} {h₀ s₀ h : Heap} {t : Nat} {D : Wd} {L f : Addr} {m : Str → Option Value} {objs : List (Addr × Cell)} {env : Env}

theorem gets388 : findIn (Mine.hd0.heap_1 w.params) (.ref 388) "__getattribute__" = some (some (.builtin "object.__getattribute__")) := by k_is
theorem getn388 : findIn (Mine.hd0.heap_1 w.params) (.ref 388) "__getattr__" = some none := by k_is
theorem hasd388 : hasDictIn (Mine.hd0.heap_1 w.params) 388 = true := by k_is
theorem gets513 : findIn (Mine.hd0.heap_1 w.params) (.ref 513) "__getattribute__" = some (some (.builtin "object.__getattribute__")) := by k_is
theorem getn513 : findIn (Mine.hd0.heap_1 w.params) (.ref 513) "__getattr__" = some none := by k_is
theorem hasd513 : hasDictIn (Mine.hd0.heap_1 w.params) 513 = true := by k_is

structure ClsOk (w : World) (C : Addr) : Prop where
  ga : findIn (Mine.hd0.heap_1 w.params) (.ref C) "__getattribute__" = some (some (.builtin "object.__getattribute__"))
  gn : findIn (Mine.hd0.heap_1 w.params) (.ref C) "__getattr__" = some none
  hd : hasDictIn (Mine.hd0.heap_1 w.params) C = true
theorem cls388 : ClsOk w 388 := ⟨gets388, getn388, hasd388⟩
theorem cls513 : ClsOk w 513 := ⟨gets513, getn513, hasd513⟩

theorem getA {x C dx : Addr} {fA : Str → Option Value} {kA : Nat} {name : Str} {v : Value} {ex : Bool} {Q : Value → Shared → Prop} (G : Gd w h) (c : ClsOk w C) (a : Attrs h x C dx fA kA) (hf : fA name = some v)
    (hc : findIn (Mine.hd0.heap_1 w.params) (.ref C) name = some none) (hv : handedIn v = true) (q : ∀ tk, Q v (St z h tk)) : wpAny (model prog w) A (getAttr (.ref x) name ex) Q E (St z h t) := by
  obtain ⟨es, n, I, hg⟩ := a.instAt
  exact get_value (s := St z h t) G.K I c.ga (findObj_own c.hd hc rfl (by rw [lookIn_dict, hg, hf])) hv (q _)

theorem methA {x C dx g : Addr} {fA : Str → Option Value} {kA : Nat} {name : Str} {pl : Sem Bool} {Q : Value × List Value → Shared → Prop} (G : Gd w h) (c : ClsOk w C) (a : Attrs h x C dx fA kA) (hf : fA name = none)
    (hc : findIn (Mine.hd0.heap_1 w.params) (.ref C) name = some (some (.ref g))) (ht : isFn (Mine.hd0.heap_1 w.params) (.ref g) = true) (q : Q (.ref g, [.ref x]) (St z h t)) : wpAny (model prog w) A (getMethod (.ref x) name pl) Q E (St z h t) := by
  obtain ⟨es, n, I, hg⟩ := a.instAt
  refine method_fn (s := St z h t) G.K I c.ga c.gn hc (beq_iff_eq.mp ht) ?_ q
  show (lookIn name (dictOf es n)).map _ = _
  rw [lookIn_dict, hg, hf]; rfl

theorem cwK {s : Shared} {g : Value} {first : List Value} {e : Expr} {rest : List Expr} {pos : Pos} {Q : Value → Shared → Prop} (hk : keepIn (Mine.hd0.heap_1 w.params) g = true)
    (q : wpAny (model prog w) A (spliced (backTo pos (starEach (e :: rest) env))) (fun vs s₁ => (Mine.hd0.heap_1 w.params).In s₁.heap ∧ codeAny (model prog w) A (.call g ⟨first ++ vs, []⟩) (Wants Q E) s₁) E s)
    (he : autoParam (starEach (e :: rest) env = (false, eval e env) :: starEach rest env) aR) (hplain : autoParam ((backTo pos (starEach rest env)).any (·.1) = false) aR) :
    wpAny (model prog w) A (callWith pos g first (backTo pos (starEach (e :: rest) env)) []) Q E s := by
  rw [he] at q ⊢
  exact callWith_of (by show ((false || (backTo pos (starEach rest env)).any (·.1)) || false) = false; rw [hplain]; rfl) (keeps_K hk)
    (evalArgs_plain (wpAny_mono q (fun vs s₁ z => ⟨z.1, callV z.2⟩) fun _ _ z => z))
theorem cwK0 {g : Value} {first : List Value} {pos : Pos} {Q : Value → Shared → Prop} (G : Gd w h) (hk : keepIn (Mine.hd0.heap_1 w.params) g = true)
    (q : codeAny (model prog w) A (.call g ⟨first ++ [], []⟩) (Wants Q E) (St z h t)) :
    wpAny (model prog w) A (callWith pos g first (backTo pos (starEach [] env)) []) Q E (St z h t) :=
  callWith_K0 (s := St z h t) G.K hk (callV q)

theorem nmG {x : Str} {pos : Pos} {v : Value} {Q : Value → Shared → Prop} (G : Gd w h) (e : nsIn (Mine.hd0.heap_1 w.params) mainGlobals x = some (some v)) (q : Q v (St z h t))
    (hg : autoParam (env.globals = mainGlobals) aR) (hk : autoParam (env.scope.kind = .function) aR) (hx : autoParam (env.kindOf x = some .globalImplicit) aR) (hd : autoParam ((x == ("__debug__" : Str)) = false) aD) :
    wpAny (model prog w) A (eval (.Name x pos) env) Q E (St z h t) := by
  obtain ⟨mg, g⟩ := G.g
  exact Name_function_global (s := St z h t) hk hx (loadGlobal_global (hg ▸ g) (mg_of G.K g e) q) hd
theorem nmB {x : Str} {pos : Pos} {v : Value} {Q : Value → Shared → Prop} (G : Gd w h) (e : nsIn (Mine.hd0.heap_1 w.params) mainGlobals x = some none) (hv : bootBuiltins x = some v) (q : Q v (St z h t))
    (hn : autoParam (x ≠ "__name__") aD) (hg : autoParam (env.globals = mainGlobals) aR) (hb : autoParam (env.builtins = builtinsNs) aR)
    (hk : autoParam (env.scope.kind = .function) aR) (hx : autoParam (env.kindOf x = some .globalImplicit) aR) (hd : autoParam ((x == ("__debug__" : Str)) = false) aD) :
    wpAny (model prog w) A (eval (.Name x pos) env) Q E (St z h t) := by
  obtain ⟨mg, g⟩ := G.g
  obtain ⟨mb, b, hm⟩ := G.b
  exact Name_function_global (s := St z h t) hk hx (loadGlobal_builtin (hg ▸ g) (mg_none_of G.K g e) (hb ▸ b) ((hm x hn).trans hv) q) hd

noncomputable def Nx (prog : Program) (w : World) (A : Around) (rest : List Stmt) (env : Env) (Q : Flow → Shared → Prop) (E : Value → Shared → Prop) : Flow → Shared → Prop := fun f s' => match f with
  | .next => wpAny (model prog w) A (execs rest env) Q E s'
  | f => Q f s'

section
variable {s : Shared}
theorem sAsg {x : Str} {p' pos : Pos} {value : Expr} {rest : List Stmt} {Q : Flow → Shared → Prop}
    (q : wpAny (model prog w) A (eval value env) (fun v s₁ => wpAny (model prog w) A (storeName env x v) (fun _ => wpAny (model prog w) A (execs rest env) Q E) E s₁) E s)
    (hs : autoParam (swapsWith value (some (.Name x p')) pos.line env = pure false) aR) :
    wpAny (model prog w) A (execs (.Assign [.Name x p'] value pos :: rest) env) Q E s := wpAny_execs_cons (wpAny_Assign_Name q hs)
theorem sExpr {e : Expr} {pos : Pos} {rest : List Stmt} {Q : Flow → Shared → Prop}
    (q : wpAny (model prog w) A (eval e env) (fun v s' => match v with | .ref _ => False | _ => wpAny (model prog w) A (execs rest env) Q E s') E s)
    (hi : autoParam (interactive env = false) aR) (hs : autoParam (swapsWith e none pos.line env = pure false) aR) :
    wpAny (model prog w) A (execs (.Expr e pos :: rest) env) Q E s :=
  wpAny_execs_cons (wpAny_Expr (wpAny_mono q (fun v s' z => by cases v <;> exact z) fun _ _ e => e) hi hs)
theorem sIf {test : Expr} {body orelse : List Stmt} {pos : Pos} {rest : List Stmt} {Q : Flow → Shared → Prop}
    (q : wpAny (model prog w) A (isTrue test env (eval test env)) (fun b s₂ => if b then wpAny (model prog w) A (execs body env) (Nx prog w A rest env Q E) E s₂ else wpAny (model prog w) A (execs orelse env) (Nx prog w A rest env Q E) E s₂) E s) :
    wpAny (model prog w) A (execs (.If test body orelse pos :: rest) env) Q E s := wpAny_execs_cons (wpAny_If q)
theorem sNil {Q : Flow → Shared → Prop} (q : Q .next s) : wpAny (model prog w) A (execs [] env) Q E s := wpAny_execs_nil q
theorem sNx {rest : List Stmt} {Q : Flow → Shared → Prop} (q : wpAny (model prog w) A (execs rest env) Q E s) : wpAny (model prog w) A (execs [] env) (Nx prog w A rest env Q E) E s := wpAny_execs_nil q
theorem sRet {e : Expr} {pos : Pos} {rest : List Stmt} {Q : Flow → Shared → Prop} (q : wpAny (model prog w) A (eval e env) (fun v => Q (.ret v)) E s) :
    wpAny (model prog w) A (execs (.Return (some e) pos :: rest) env) Q E s := wpAny_execs_cons (wpAny_Return_some q)
theorem sAsgSub {o i : Expr} {p' pos : Pos} {value : Expr} {rest : List Stmt} {Q : Flow → Shared → Prop}
    (q : wpAny (model prog w) A (eval value env) (fun v s₁ => wpAny (model prog w) A (eval o env) (fun ov s₂ => wpAny (model prog w) A (eval i env) (fun iv s₃ => wpAny (model prog w) A (setItem ov iv v) (fun _ => wpAny (model prog w) A (execs rest env) Q E) E s₃) E s₂) E s₁) E s)
    (hs : autoParam (swapsWith value (some (.Subscript o i p')) pos.line env = pure false) aR) :
    wpAny (model prog w) A (execs (.Assign [.Subscript o i p'] value pos :: rest) env) Q E s := wpAny_execs_cons (wpAny_Assign_Subscript q hs)
end

theorem newTup {vs : List Value} {Q : Value → Shared → Prop} (X : W prog w h₀ s₀ D L h m objs)
    (q : ∀ h' a, W prog w h₀ s₀ D L h' m ((a, .tup vs) :: objs) → Q (.ref a) (St z h' t)) (hsz : vs.length ≤ sizeLine := by simp [sizeLine]) :
    wpAny (model prog w) A (newTuple vs) Q E (St z h t) :=
  wpAny_newObj_type (s := St z h t) (q _ _ (X.push _ (c := .tup vs) (IsTup.new _ _))) (by show vs.toArray.size ≤ sizeLine; rw [List.size_toArray]; exact hsz)
theorem newLst {vs : List Value} {Q : Value → Shared → Prop} (X : W prog w h₀ s₀ D L h m objs)
    (q : ∀ h' a, W prog w h₀ s₀ D L h' m ((a, .lst vs) :: objs) → Q (.ref a) (St z h' t)) (hsz : vs.length ≤ sizeLine := by simp [sizeLine]) :
    wpAny (model prog w) A (newList vs) Q E (St z h t) :=
  wpAny_newObj_type (s := St z h t) (q _ _ (X.push _ (c := .lst vs) ⟨0, Heap.get?_push_size _ rfl⟩)) (by show vs.toArray.size ≤ sizeLine; rw [List.size_toArray]; exact hsz)
theorem cInt {i : Int} {k : Nat} {pos : Pos} {Q : Value → Shared → Prop} (q : ∀ u tk, Q (.int i u) (St z h tk)) : wpAny (model prog w) A (eval (.Constant (.int i) k pos) env) Q E (St z h t) := wpAny_Constant_int (s := St z h t) (q _ _)
theorem cBool {b : Bool} {k : Nat} {pos : Pos} {Q : Value → Shared → Prop} {s : Shared} (q : Q (.bool b) s) : wpAny (model prog w) A (eval (.Constant (.bool b) k pos) env) Q E s := wpAny_pure q
theorem cStr {x : Str} {k : Nat} {pos : Pos} {Q : Value → Shared → Prop} (q : ∀ u tk, Q (.str x u) (St z h tk)) : wpAny (model prog w) A (eval (.Constant (.str x) k pos) env) Q E (St z h t) := wpAny_mkText (s := St z h t) (q _ _)
theorem cNone {k : Nat} {pos : Pos} {Q : Value → Shared → Prop} {s : Shared} (q : Q .none s) : wpAny (model prog w) A (eval (.Constant .none k pos) env) Q E s := wpAny_pure q

theorem getMethodList {s : Shared} {l : Addr} {vs : List Value} {name : Str} {id : String} {pl : Sem Bool} {Q : Value × List Value → Shared → Prop} (slot : Slot "list" name id) (hty : typeOf (.builtin id) = pure (.type "method_descriptor"))
    (hl : s.heap.PlainList l vs.toArray) (q : Q (.builtin id, [.ref l]) s) : wpAny (model prog w) A (getMethod (.ref l) name pl) Q E s :=
  getMethod_builtin hl.isList.typeIs F.plainAttrs_list slot hty (fun a e => by cases e; obtain ⟨n, e⟩ := hl; exact ⟨_, e, rfl⟩) q
theorem getMethodDict {s : Shared} {d : Addr} {o : Obj} {name : Str} {id : String} {pl : Sem Bool} {Q : Value × List Value → Shared → Prop} (slot : Slot "dict" name id) (hty : typeOf (.builtin id) = pure (.type "method_descriptor"))
    (ho : s.heap.get? d = some o) (hx : o.ExactDict) (q : Q (.builtin id, [.ref d]) s) : wpAny (model prog w) A (getMethod (.ref d) name pl) Q E s :=
  getMethod_builtin ⟨o, ho, hx.1⟩ F.plainAttrs_dict slot hty (fun a e => by cases e; exact ⟨_, ho, hx.2.1⟩) q

theorem dictGetH {K : Type} [DecidableEq K] {knd : HeapKind prog w K} {d a : Addr} {k : K} {xs : List (K × Addr × Value)} {dflt : Value} {Q : Value → Shared → Prop} (hu : knd.room A.in1) (hd : (d == sysModules) = false) (hk : knd.is h k a) (hx : h.DictOfH knd d xs)
    (q : ∀ tk, Q (((atKey xs k).map (·.2)).getD dflt) (St z h tk)) : wpAny (model prog w) A (call (.builtin "dict.get") [.ref d, .ref a, dflt]) Q E (St z h t) :=
  call_meetsIn (s := St z h t) F.slot_dict_get (Heap.DictOfH.typeIs (s := St z h t) hx) F.entry_dict_get (F.args_dict_get_3 _ _ _) (meetsH_dict_get_default knd d a hd dflt) ⟨hu, k, xs, hk, hx, q _⟩

theorem lenL {l : Addr} {vs : List Value} {Q : Value → Shared → Prop} (hl : h.PlainList l vs.toArray) (hf : vs.length ≤ 2 ^ 24) (q : ∀ u tk, Q (.int vs.length u) (St z h tk)) : wpAny (model prog w) A (call (.builtin "len") [.ref l]) Q E (St z h t) :=
  Calls.call_len_list (s := St z h t) hl.isList (by simp only [List.size_toArray]; omega) (by simp only [List.size_toArray]; exact q _ _)
theorem appL {l : Addr} {vs : List Value} {v : Value} {Q : Value → Shared → Prop} (hl : h.PlainList l vs.toArray) (hf : vs.length ≤ 2 ^ 24) (q : ∀ h', h'.PlainList l (vs ++ [v]).toArray → Heap.SameBut l h h' → Q .none (St z h' t)) : wpAny (model prog w) A (call (.builtin "list.append") [.ref l, v]) Q E (St z h t) :=
  wpAny_list_append_plain (s := St z h t) hl (fun h' e hs => q h' (by simpa using e) hs) (by simpa [sizeLine] using hf)
theorem setItemH {K : Type} [DecidableEq K] {knd : HeapKind prog w K} {d a : Addr} {k : K} {v : Value} {xs : List (K × Addr × Value)} {Q : Unit → Shared → Prop} (hu : knd.room A.in1) (hk : knd.is h k a) (hx : h.DictOfH knd d xs) (hsz : xs.length ≤ sizeLine)
    (q : ∀ h', h'.DictOfH knd d (storedH xs k a v) → Heap.SameBut d h h' → ∀ tk, Q () (St z h' tk)) : wpAny (model prog w) A (setItem (.ref d) (.ref a) v) Q E (St z h t) :=
  wpAny_setItem_heap (s := St z h t) hu hk hx (fun h' e hs => q h' e hs _) hsz

theorem itL {value slice : Expr} {l : Addr} {vs : List Value} {i : Nat} {u : Tok} {v : Value} {Q : Value → Shared → Prop} (hl : h.PlainList l vs.toArray) (hx : vs[i]? = some v) (hf : vs.length ≤ 2 ^ 24) (q : Q v (St z h t))
    (hs : subscripted slice false (.ref l) (.int (i : Int) u) = operate [.ref l, .int (i : Int) u] (getItem (.ref l) (.int (i : Int) u)) := by with_unfolding_all rfl) :
    wpAny (model prog w) A (subscriptTail value slice (.ref l) (.int (i : Int) u)) Q E (St z h t) := by
  have hlt : i < vs.length := (List.getElem?_eq_some_iff.mp hx).1
  exact tail_any (s := St z h t) hl.isList.typeIs slot_list_getitem.lookup (wpAny_getItem_list (s := St z h t) hl.isList (by omega) (by omega) (by simpa using hx) q) hs
theorem itT {value slice : Expr} {l : Addr} {vs : List Value} {i : Nat} {k : Int} {u : Tok} {v : Value} {Q : Value → Shared → Prop} (hl : IsTup h l vs.toArray) (hx : vs[i]? = some v) (hk : k = i) (hf : i < 2 ^ 60) (q : Q v (St z h t))
    (hs : subscripted slice false (.ref l) (.int k u) = operate [.ref l, .int k u] (getItem (.ref l) (.int k u)) := by with_unfolding_all rfl) :
    wpAny (model prog w) A (subscriptTail value slice (.ref l) (.int k u)) Q E (St z h t) := by
  have hlt : i < vs.length := (List.getElem?_eq_some_iff.mp hx).1
  subst hk
  refine item_tupleT (s := St z h t) (j := i) hl (by omega) (by omega) ?_ hx q hs
  unfold seqIndex?
  have e1 : ¬ ((i : Int) < 0) := by omega
  have e2 : ¬ ((i : Int) < 0 ∨ (vs.length : Int) ≤ i) := by omega
  simp [e1, hlt]

/-- a call of a def, from the caller's side -/
theorem enterF {n : Nat} {args : List Value} {R : Result → Shared → Prop} {name qual : Str} {params : Arguments} {body : List Stmt} {scope : Scope} {dV kV doc pm cdv ct oc : Value} {an od : Option Addr} {osl : Array (Option Value)} (f : Addr) (binds : List (Str × Value))
    (g : Gnd w h₀ h) (hr : Room A (n + 1))
    (q : ∀ h₁ L A' tk, Entered h h₁ L → h₁.Ns L (lk binds) → Room A' n →
      wpAny (model prog w) A' (execs body (envOf qual scope L f cdv))
        (fun fl s' => R (.ok (.ret (retOf fl))) s') (fun _ _ => False) (St z h₁ tk))
    (ho : autoParam ((Mine.hd0.heap_1 w.params).lookup f = some ⟨oc, od, .func (fnOf name qual params body scope dV kV doc pm an cdv ct), osl⟩) aK) (hcd : autoParam (codeIn (Mine.hd0.heap_1 w.params) cdv qual = true) aK)
    (hbind : autoParam (bindArgs (fnOf name qual params body scope dV kV doc pm an cdv ct) ⟨args, []⟩ = pure binds) aR) (hloc : autoParam ((binds.all fun x => decide (scope.names.lookup x.1 = some .local)) = true) aR)
    (hco : autoParam (scope.isCoroutine = false) aR) (hgen : autoParam (scope.isGenerator = false) aR) (hk : autoParam (scope.kind = .function) aR)
    (hcell : autoParam (∀ x ∈ scope.names, x.2 ≠ .cell) aD) : codeAny (model prog w) A (.call (.ref f) ⟨args, []⟩) R (St z h t) :=
  callF binds g.at.K g.at.lim (by have := hr.depth; omega) ho hcd hbind (locs hloc) (fun h₁ L A' tk en hns hA => q h₁ L A' tk en hns (hA n hr)) hco hgen hk hcell
end
end Mine

-- Rules2
namespace Mine
inductive All2 {α β : Type} (R : α → β → Prop) : List α → List β → Prop
  | nil : All2 R [] []
  | cons {a b as bs} : R a b → All2 R as bs → All2 R (a :: as) (b :: bs)
namespace All2
variable {α β : Type} {R S : α → β → Prop} {as : List α} {bs : List β}
theorem len (x : All2 R as bs) : as.length = bs.length := by induction x with | nil => rfl | cons _ _ ih => simp [ih]
theorem mono (x : All2 R as bs) (h : ∀ a b, R a b → S a b) : All2 S as bs := by induction x with | nil => exact .nil | cons r _ ih => exact .cons (h _ _ r) ih
theorem snoc {a : α} {b : β} (x : All2 R as bs) (r : R a b) : All2 R (as ++ [a]) (bs ++ [b]) := by induction x with | nil => exact .cons r .nil | cons r' _ ih => exact .cons r' ih
theorem get {i : Nat} {b : β} (x : All2 R as bs) (h : bs[i]? = some b) : Ex2 (fun a => as[i]? = some a) (fun a => R a b) := by
  induction x generalizing i with
  | nil => simp at h
  | cons r _ ih => cases i with
    | zero => simp only [List.getElem?_cons_zero, Option.some.injEq] at h ⊢; subst h; exact ⟨_, rfl, r⟩
    | succ i => simp only [List.getElem?_cons_succ] at h ⊢; exact ih h
theorem getF {γ : Type} {F : β → γ → α} {i : Nat} {b : β} (x : All2 (fun v b => ∃ u, v = F b u) as bs) (h : bs[i]? = some b) : ∃ u, as[i]? = some (F b u) := by
  obtain ⟨v, hv, u, rfl⟩ := x.get h
  exact ⟨u, hv⟩
end All2
noncomputable def cellO (v : Option Value) : Obj → Prop := fun o => o.data = .cell v

noncomputable def NE : Value → Shared → Prop := fun _ _ => False
noncomputable def Fl (Q : Flow → Shared → Prop) : Result → Shared → Prop := fun r s' => match r with
  | .ok f => Q f s'
  | .error _ => False

noncomputable def itS (kd : String) (a : Addr) (k : Nat) : Obj → Prop := fun o => o.cls = .type kd ∧ o.data = .fields #[.ref a, .int k 0]
noncomputable def SqK (kd : String) (h : Heap) (a : Addr) (vs : List Value) : Prop := (kd = "list_iterator" ∧ h.PlainList a vs.toArray) ∨ (kd = "tuple_iterator" ∧ IsTup h a vs.toArray)
noncomputable def Sq (h : Heap) (a : Addr) (vs : List Value) : Prop := ∃ kd, SqK kd h a vs
theorem SqK.to {kd : String} {h h' : Heap} {a : Addr} {vs : List Value} (x : SqK kd h a vs) (k : ∀ o, h.get? a = some o → h'.get? a = some o) : SqK kd h' a vs :=
  x.elim (fun ⟨e, y⟩ => .inl ⟨e, y.at k⟩) (fun ⟨e, o, y, r⟩ => .inr ⟨e, o, k _ y, r⟩)
theorem itS_noTup {kd : String} {a : Addr} {k : Nat} : ∀ o, itS kd a k o → ¬ isTupObj o := fun o x y => by
  obtain ⟨_, items, n, e⟩ := y
  rw [x.2] at e; cases e
theorem ne_get {h : Heap} {a b : Addr} {o o' : Obj} (x : h.get? a = some o) (y : h.get? b = some o') (n : o ≠ o') : a ≠ b := fun e => n (Option.some.inj (x.symm.trans ((congrArg h.get? e).trans y)))
theorem ne_tupLst {h : Heap} {a b : Addr} {xs ys : Array Value} (x : IsTup h a xs) (y : h.PlainList b ys) : a ≠ b :=
  let ⟨_, e, c, _⟩ := x; let ⟨_, f⟩ := y; ne_get e f fun r => by rw [r] at c; exact absurd c (by simp)
theorem SqK.live {kd : String} {h : Heap} {a : Addr} {vs : List Value} (x : SqK kd h a vs) : ∃ o, h.get? a = some o ∧ o.data ≠ .fields #[] ∧ (∀ b k, ¬ itS kd b k o) := by
  rcases x with ⟨rfl, n, e⟩ | ⟨rfl, o, e, c, n, d⟩
  · exact ⟨_, e, (fun q => by cases q), fun b k q => by have := q.2; cases this⟩
  · exact ⟨o, e, (fun q => by rw [d] at q; cases q), fun b k q => by have := q.2; rw [d] at this; cases this⟩
theorem SqK.ne {kd : String} {h : Heap} {a b it : Addr} {k : Nat} {vs : List Value} (x : SqK kd h a vs) (y : ∃ o, h.get? it = some o ∧ itS kd b k o) : a ≠ it :=
  let ⟨_, e, _, n⟩ := x.live; let ⟨_, f, q⟩ := y; ne_get e f fun r => n b k (r ▸ q)

section
variable {prog : Program} {w : World} {A : Around} {E : Value → Shared → Prop} {z : Shared} {h₀ s₀ h : Heap} {t : Nat} {D : Wd} {L it a : Addr} {m : Str → Option Value} {objs : List (Addr × Cell)} {env : Env} {vs : List Value} {kd : String} {k : Nat}

theorem iterSq {Q : Value → Shared → Prop} (X : W prog w h₀ s₀ D L h m objs) (hs : SqK kd h a vs)
    (q : ∀ h' it, W prog w h₀ s₀ D L h' m ((it, .sat (itS kd a 0)) :: objs) → SqK kd h' a vs → Q (.ref it) (St z h' t)) : wpAny (model prog w) A (pyIter (.ref a)) Q E (St z h t) := by
  rcases id hs with ⟨rfl, hl⟩ | ⟨rfl, hl⟩
  · exact wpAny_pyIter_list (s := St z h t) hl.isList (q _ _ (X.push _ (c := .sat (itS _ a 0)) ⟨_, Heap.get?_push_size _ rfl, rfl, rfl⟩) (hs.to fun o e => Heap.get?_push_of_some _ e))
  · exact wpAny_pyIter_tuple (s := St z h t) hl (q _ _ (X.push _ (c := .sat (itS _ a 0)) ⟨_, Heap.get?_push_size _ rfl, rfl, rfl⟩) (hs.to fun o e => Heap.get?_push_of_some _ e))

theorem nextSq {v : Value} {Q : Option Value → Shared → Prop} (X : W prog w h₀ s₀ D L h m ((it, .sat (itS kd a k)) :: objs)) (hs : SqK kd h a vs) (hv : vs[k]? = some v)
    (q : ∀ h', W prog w h₀ s₀ D L h' m ((it, .sat (itS kd a (k + 1))) :: objs) → SqK kd h' a vs → Q (some v) (St z h' t)) : wpAny (model prog w) A (pyNext (.ref it)) Q E (St z h t) := by
  obtain ⟨o, ho, hc, hd⟩ := X.obj _ (.head _)
  have hne : a ≠ it := hs.ne ⟨o, ho, hc, hd⟩
  have fin : ∀ h', (∃ o, h'.get? it = some o ∧ itS kd a (k + 1) o) → Heap.SameBut it h h' → Q (some v) (St z h' t) := fun h' e sb =>
    q h' (X.set0 (c' := .sat (itS kd a (k + 1))) (fun b o hb e => (sb.2 b hb).trans e) e itS_noTup) (hs.to fun o e => (sb.2 _ hne).trans e)
  rcases id hs with ⟨rfl, hl⟩ | ⟨rfl, hl⟩
  · exact wpAny_pyNext_list_item (s := St z h t) ⟨o, ho, hc, hd⟩ hl.isList (by simpa using hv) fun h' e sb => fin h' e sb
  · exact wpAny_pyNext_tuple_item (s := St z h t) ⟨o, ho, hc, hd⟩ hl (by simpa using hv) fun h' e sb => fin h' e sb

theorem endSq {Q : Option Value → Shared → Prop} (hh : A.handled = none) (X : W prog w h₀ s₀ D L h m ((it, .sat (itS kd a k)) :: objs)) (hs : SqK kd h a vs) (hv : vs[k]? = none)
    (q : ∀ h', W prog w h₀ s₀ D L h' m objs → SqK kd h' a vs → Q none (St z h' t)) : wpAny (model prog w) A (pyNext (.ref it)) Q E (St z h t) := by
  obtain ⟨o, ho, hc, hd⟩ := X.obj _ (.head _)
  have hne : a ≠ it := hs.ne ⟨o, ho, hc, hd⟩
  have fin : ∀ h', Heap.ExtBut it h h' → Q none (St z h' t) := fun h' sb =>
    q h' (W.letGo X (fun b o hb e => sb b o hb e) itS_noTup) (hs.to fun o e => sb _ o hne e)
  rcases id hs with ⟨rfl, hl⟩ | ⟨rfl, hl⟩
  · exact wpAny_pyNext_list_end (s := St z h t) hh ⟨o, ho, hc, hd⟩ hl.isList (by simpa using hv) fun h' e => fin h' e
  · exact wpAny_pyNext_tuple_end (s := St z h t) hh ⟨o, ho, hc, hd⟩ hl (by simpa using hv) fun h' e => fin h' e

theorem sFor {s : Shared} {target iter : Expr} {body : List Stmt} {pos : Pos} {rest : List Stmt} {Q : Flow → Shared → Prop}
    (q : wpAny (model prog w) A (eval iter env) (fun x s₁ => wpAny (model prog w) A (pyIter x) (fun it s₂ =>
      codeAny (model prog w) A (.forLoop target it body [] env) (Fl (Nx prog w A rest env Q NE)) s₂) NE s₁) NE s)
    (hs : ∀ x, foldedSetIterable iter env x = pure x := by intro _; rfl) :
    wpAny (model prog w) A (execs (.For target iter body [] pos :: rest) env) Q NE s :=
  wpAny_execs_cons (wpAny_For (wpAny_mono q (fun x s₁ q => wpAny_mono q (fun it s₂ q => codeAny_mono q fun r s' y => by cases r with | ok f => exact y | error e => exact y.elim) fun _ _ e => e) fun _ _ e => e) hs)

noncomputable def TurnEnd (prog : Program) (w : World) (h₀ s₀ : Heap) (L : Addr) (z : Shared) (ic : Addr × Cell) (J : Wd → (Str → Option Value) → List (Addr × Cell) → Prop) (R : Result → Shared → Prop) (f : Flow) (s' : Shared) : Prop := match f with
  | .next | .cont => E5 fun h' t' D' m' objs' => A3 (s' = St z h' t') (W prog w h₀ s₀ D' L h' m' (ic :: objs')) (J D' m' objs')
  | .brk => R (.ok .next) s'
  | .ret v => R (.ok (.ret v)) s'

/-- a for over a list or tuple that stands as it is -/
theorem loopSq {R : Result → Shared → Prop} {x : Str} {px : Pos} {body : List Stmt} (hh : A.handled = none) (J : Nat → Wd → (Str → Option Value) → List (Addr × Cell) → Prop)
    (X : W prog w h₀ s₀ D env.locals h m ((it, .sat (itS kd a 0)) :: objs)) (_ : SqK kd h a vs) (hj : J 0 D m objs)
    (seq : ∀ k j D m m' objs h, W prog w h₀ s₀ D env.locals h m' ((it, .sat (itS kd a j)) :: objs) → J k D m objs → SqK kd h a vs)
    (turn : ∀ k v D m objs h t, vs[k]? = some v → J k D m objs → W prog w h₀ s₀ D env.locals h (put x v m) ((it, .sat (itS kd a (k + 1))) :: objs) → SqK kd h a vs →
      wpAny (model prog w) A (execs body env) (TurnEnd prog w h₀ s₀ env.locals z (it, .sat (itS kd a (k + 1))) (J (k + 1)) R) NE (St z h t))
    (done : ∀ D m objs h t, J vs.length D m objs → W prog w h₀ s₀ D env.locals h m objs → SqK kd h a vs → R (.ok .next) (St z h t))
    (hk : autoParam (env.scope.kind = .function) aR) (hl : autoParam (env.kindOf x = some .local) aR) :
    codeAny (model prog w) A (.forLoop (.Name x px) (.ref it) body [] env) R (St z h t) := by
  refine codeAny_forLoop (fun n s => E6 fun k h t D m objs => A5 (s = St z h t) (W prog w h₀ s₀ D env.locals h m ((it, .sat (itS kd a k)) :: objs)) (J k D m objs) (k ≤ vs.length) (n = vs.length - k)) ?_ vs.length
    ⟨0, h, t, D, m, objs, rfl, X, hj, Nat.zero_le _, rfl⟩
  rintro n s ⟨k, h, t, D, m, objs, rfl, X, hj, hle, rfl⟩
  have hs := seq k k D m m objs h X hj
  cases hv : vs[k]? with
  | none =>
    have hkl : k = vs.length := Nat.le_antisymm hle (by simpa using hv)
    subst hkl
    refine endSq hh X hs hv fun h' X hs => wpAny_execs_nil (done D m objs h' t hj X hs)
  | some v =>
    have hlt : k < vs.length := (List.getElem?_eq_some_iff.mp hv).1
    refine nextSq X hs hv fun h' X hs => wpAny_assign_Name (stL X (fun h'' tk X' => ?_) hk hl)
    refine wpAny_mono (turn k v D m objs h'' tk hv hj X' (seq k (k + 1) D m _ objs h'' X' hj)) (fun f s' q => ?_) fun _ _ e => e.elim
    cases f with
    | next => obtain ⟨h, t, D, m, objs, rfl, X, hj⟩ := q; exact ⟨vs.length - (k + 1), Nat.sub_lt_sub_left hlt (Nat.lt_succ_self k), k + 1, h, t, D, m, objs, rfl, X, hj, hlt, rfl⟩
    | cont => obtain ⟨h, t, D, m, objs, rfl, X, hj⟩ := q; exact ⟨vs.length - (k + 1), Nat.sub_lt_sub_left hlt (Nat.lt_succ_self k), k + 1, h, t, D, m, objs, rfl, X, hj, hlt, rfl⟩
    | brk => exact q
    | ret v => exact q

/-- a while, its state read off the heap -/
noncomputable def WhileEnd (prog : Program) (w : World) (A : Around) (rest : List Stmt) (env : Env) (Q : Flow → Shared → Prop) (z : Shared) (I : Nat → Heap → Prop) (n : Nat) (f : Flow) (s : Shared) : Prop := match f with
  | .next | .cont => E3 fun m h' t' => A3 (m < n) (s = St z h' t') (I m h')
  | .brk => Nx prog w A rest env Q NE .next s
  | .ret v => Q (.ret v) s
theorem sWhile {test : Expr} {body : List Stmt} {pos : Pos} {rest : List Stmt} {Q : Flow → Shared → Prop} (I : Nat → Heap → Prop) (n : Nat) (hI : I n h)
    (turn : ∀ n h t T, (∀ f s, WhileEnd prog w A rest env Q z I n f s → T f s) → I n h → wpAny (model prog w) A (isTrue test env (eval test env)) (fun b s₂ =>
      if b then wpAny (model prog w) A (execs body env) T NE s₂
      else wpAny (model prog w) A (execs rest env) Q NE s₂) NE (St z h t)) :
    wpAny (model prog w) A (execs (.While test body [] pos :: rest) env) Q NE (St z h t) := by
  refine wpAny_execs_cons (wpAny_While ?_)
  refine codeAny_mono (R := Fl (Nx prog w A rest env Q NE)) ?_ fun r s' y => by cases r with | ok f => exact y | error e => exact y.elim
  refine codeAny_whileLoop (fun n s => E2 fun h t => s = St z h t ∧ I n h) ?_ n ⟨h, t, rfl, hI⟩
  rintro n s ⟨h, t, rfl, hI⟩
  refine wpAny_mono (turn n h t (WhileEnd prog w A rest env Q z I n) (fun _ _ x => x) hI) (fun b s₂ q => ?_) fun _ _ e => e.elim
  cases b with
  | false =>
    simp only [Bool.false_eq_true, if_false] at q ⊢
    exact wpAny_execs_nil q
  | true =>
    simp only [if_true] at q ⊢
    refine wpAny_mono q (fun f s₃ q => ?_) fun _ _ e => e.elim
    cases f with
    | next => obtain ⟨m, h', t', a, rfl, b⟩ := q; exact ⟨m, a, h', t', rfl, b⟩
    | cont => obtain ⟨m, h', t', a, rfl, b⟩ := q; exact ⟨m, a, h', t', rfl, b⟩
    | brk => exact q
    | ret v => exact q

/-- a method of an object, found and called, with arguments -/
theorem mB {x C dx g : Addr} {fA : Str → Option Value} {kA : Nat} {name : Str} {pl : Sem Bool} {e : Expr} {rest : List Expr} {pos : Pos} {Q : Value → Shared → Prop} (G : Gd w h) (c : ClsOk w C) (a : Attrs h x C dx fA kA) (hf : fA name = none)
    (q : wpAny (model prog w) A (spliced (backTo pos (starEach (e :: rest) env))) (fun vs s₁ => (Mine.hd0.heap_1 w.params).In s₁.heap ∧ codeAny (model prog w) A (.call (.ref g) ⟨.ref x :: vs, []⟩) (Wants Q E) s₁) E (St z h t))
    (hc : autoParam (findIn (Mine.hd0.heap_1 w.params) (.ref C) name = some (some (.ref g))) aK) (ht : autoParam (isFn (Mine.hd0.heap_1 w.params) (.ref g) = true) aK) (hk : autoParam (keepIn (Mine.hd0.heap_1 w.params) (.ref g) = true) aK)
    (he : autoParam (starEach (e :: rest) env = (false, eval e env) :: starEach rest env) aR) (hplain : autoParam ((backTo pos (starEach rest env)).any (·.1) = false) aR) :
    wpAny (model prog w) A (getMethod (.ref x) name pl) (fun fx s₂ => wpAny (model prog w) A (callWith pos fx.1 fx.2 (backTo pos (starEach (e :: rest) env)) []) Q E s₂) E (St z h t) :=
  methA G c a hf hc ht (cwK hk q he hplain)
theorem mB0 {x C dx g : Addr} {fA : Str → Option Value} {kA : Nat} {name : Str} {pl : Sem Bool} {pos : Pos} {Q : Value → Shared → Prop} (G : Gd w h) (c : ClsOk w C) (a : Attrs h x C dx fA kA) (hf : fA name = none)
    (q : codeAny (model prog w) A (.call (.ref g) ⟨[.ref x], []⟩) (Wants Q E) (St z h t))
    (hc : autoParam (findIn (Mine.hd0.heap_1 w.params) (.ref C) name = some (some (.ref g))) aK) (ht : autoParam (isFn (Mine.hd0.heap_1 w.params) (.ref g) = true) aK) (hk : autoParam (keepIn (Mine.hd0.heap_1 w.params) (.ref g) = true) aK) :
    wpAny (model prog w) A (getMethod (.ref x) name pl) (fun fx s₂ => wpAny (model prog w) A (callWith pos fx.1 fx.2 (backTo pos (starEach [] env)) []) Q E s₂) E (St z h t) :=
  methA G c a hf hc ht (cwK0 G hk q)
theorem nmC {x : Str} {pos : Pos} {c : Addr} {v : Value} {Q : Value → Shared → Prop} (X : W prog w h₀ s₀ D L h m objs) (hm : (c, .sat (cellO (some v))) ∈ objs) (q : Q v (St z h t)) (hc : autoParam (env.cells.lookup x = some c) aR)
    (hk : autoParam (env.scope.kind = .function) aR) (hl : autoParam (env.kindOf x = some .cell) aR) (hd : autoParam ((x == ("__debug__" : Str)) = false) aD) :
    wpAny (model prog w) A (eval (.Name x pos) env) Q E (St z h t) := by
  obtain ⟨o, ho, hd'⟩ := X.obj _ hm
  exact wpAny_Name (wpAny_loadName_cell (s := St z h t) hk hl hc ⟨o, ho, hd'⟩ q) hd
/-- arguments that are names alone -/
inductive SArg (env : Env) (m : Str → Option Value) (objs : List (Addr × Cell)) : Expr → Value → Prop
  | loc {x : Str} {p : Pos} {v : Value} (h : m x = some v) (hl : autoParam (env.kindOf x = some .local) aR) (hd : autoParam ((x == ("__debug__" : Str)) = false) aD) : SArg env m objs (.Name x p) v
  | cel {x : Str} {p : Pos} {v : Value} (c : Addr) (h : (c, .sat (cellO (some v))) ∈ objs) (hc : autoParam (env.cells.lookup x = some c) aR) (hl : autoParam (env.kindOf x = some .cell) aR) (hd : autoParam ((x == ("__debug__" : Str)) = false) aD) : SArg env m objs (.Name x p) v
theorem argsS {es : List Expr} {vals : List Value} {pos : Pos} {P : List Value → Shared → Prop} (X : W prog w h₀ s₀ D env.locals h m objs) (hs : All2 (fun v e => SArg env m objs e v) vals es) (q : P vals (St z h t)) (hk : autoParam (env.scope.kind = .function) aR) :
    wpAny (model prog w) A (spliced (backTo pos (starEach es env))) P E (St z h t) := by
  induction hs generalizing P with
  | nil => exact args_nil q
  | cons r _ ih =>
    cases r with
    | loc h hl hd => exact args_cons (nmL X h (ih q) hk hl hd)
    | cel c h hc hl hd => exact args_cons (nmC X h (ih q) hc hk hl hd)

/-- a def of the text, named, called with arguments -/
theorem cG {g : Addr} {x : Str} {p pos : Pos} {e : Expr} {rest : List Expr} {Q : Value → Shared → Prop} (G : Gd w h)
    (q : wpAny (model prog w) A (spliced (backTo pos (starEach (e :: rest) env))) (fun vs s₁ => (Mine.hd0.heap_1 w.params).In s₁.heap ∧ codeAny (model prog w) A (.call (.ref g) ⟨vs, []⟩) (Wants Q E) s₁) E (St z h t))
    (hn : autoParam (nsIn (Mine.hd0.heap_1 w.params) mainGlobals x = some (some (.ref g))) aK) (hk : autoParam (keepIn (Mine.hd0.heap_1 w.params) (.ref g) = true) aK)
    (he : autoParam (starEach (e :: rest) env = (false, eval e env) :: starEach rest env) aR) (hplain : autoParam ((backTo pos (starEach rest env)).any (·.1) = false) aR)
    (hg : autoParam (env.globals = mainGlobals) aR) (hkk : autoParam (env.scope.kind = .function) aR) (hx : autoParam (env.kindOf x = some .globalImplicit) aR) (hd : autoParam ((x == ("__debug__" : Str)) = false) aD) :
    wpAny (model prog w) A (eval (.Call (.Name x p) (e :: rest) [] pos) env) Q E (St z h t) :=
  Call_ (nmG G hn (cwK hk q he hplain) hg hkk hx hd)

theorem eqOp {o : Op} (p : Op) {u u' : Tok} {Q : Value → Shared → Prop} {s : Shared} (q : Q (.bool (decide (o = p))) s) : wpAny (model prog w) A (compareOp .Eq (.str o.str u) (.str p.str u')) Q E s := by
  refine PyProof.Rows.eq_str ?_
  have e : (o.str == p.str) = decide (o = p) := by
    by_cases hp : o = p
    · subst hp; simp
    · rw [decide_eq_false hp]
      exact beq_eq_false_iff_ne.mpr fun q => hp (Op.str_inj q)
  rw [e]; exact q
theorem neOp {o : Op} (p : Op) {u u' : Tok} {Q : Value → Shared → Prop} {s : Shared} (q : Q (.bool (decide (o ≠ p))) s) : wpAny (model prog w) A (compareOp .NotEq (.str o.str u) (.str p.str u')) Q E s := by
  refine PyProof.Rows.ne_str ?_
  have e : (o.str != p.str) = decide (o ≠ p) := by
    by_cases hp : o = p
    · subst hp; simp
    · rw [decide_eq_true hp]
      exact bne_iff_ne.mpr fun q => hp (Op.str_inj q)
  rw [e]; exact q
theorem eqN {a b : Nat} {u u' : Tok} {Q : Value → Shared → Prop} {s : Shared} (q : Q (.bool (decide (a = b))) s) : wpAny (model prog w) A (compareOp .Eq (.int (a : Int) u) (.int (b : Int) u')) Q E s := by
  refine PyProof.Rows.eq_int ?_
  have e : ((a : Int) == (b : Int)) = decide (a = b) := by
    by_cases hp : a = b
    · subst hp; simp
    · rw [decide_eq_false hp]; simp; omega
  rw [e]; exact q
theorem neN {a b : Nat} {u u' : Tok} {Q : Value → Shared → Prop} {s : Shared} (q : Q (.bool (decide (a ≠ b))) s) : wpAny (model prog w) A (compareOp .NotEq (.int (a : Int) u) (.int (b : Int) u')) Q E s := by
  refine PyProof.Rows.ne_int ?_
  have e : ((a : Int) != (b : Int)) = decide (a ≠ b) := by
    by_cases hp : a = b
    · subst hp; simp
    · rw [decide_eq_true hp]; simp; omega
  rw [e]; exact q

theorem minN {a b : Nat} {u u' : Tok} {Q : Value → Shared → Prop} (hh : A.handled = none) (q : ∀ h' tk u, Ext h h' → Q (.int ((min a b : Nat) : Int) u) (St z h' tk)) : wpAny (model prog w) A (call (.builtin "min") [.int (a : Int) u, .int (b : Int) u']) Q E (St z h t) :=
  min_two_ints (s := St z h t) hh fun h' tk e => by
    by_cases c : (b : Int) < a
    · rw [if_pos c]; have := q h' tk u' e; rwa [Nat.min_eq_right (by omega)] at this
    · rw [if_neg c]; have := q h' tk u e; rwa [Nat.min_eq_left (by omega)] at this
theorem maxN {a b : Nat} {u u' : Tok} {Q : Value → Shared → Prop} (hh : A.handled = none) (q : ∀ h' tk u, Ext h h' → Q (.int ((max a b : Nat) : Int) u) (St z h' tk)) : wpAny (model prog w) A (call (.builtin "max") [.int (a : Int) u, .int (b : Int) u']) Q E (St z h t) :=
  max_two_ints (s := St z h t) hh fun h' tk e => by
    by_cases c : (b : Int) > a
    · rw [if_pos c]; have := q h' tk u' e; rwa [Nat.max_eq_right (by omega)] at this
    · rw [if_neg c]; have := q h' tk u e; rwa [Nat.max_eq_left (by omega)] at this
end
end Mine

-- Bank
namespace Mine

structure Adr where
  inst : Addr
  dict : Addr
  ops : Addr
  args : Addr
  sorts : Addr
  datas : Addr
  nums : Addr
  f : Str → Option Value
  k : Nat

noncomputable def Adr.own (β : Adr) : List Addr := [β.inst, β.dict, β.ops, β.args, β.sorts, β.datas, β.nums]


noncomputable def IsI (v : Value) (n : Nat) : Prop := ∃ t, v = .int n t
noncomputable def IsO (v : Value) (tm : Tm) : Prop := ∃ t, v = .str tm.op.str t
noncomputable def IsA (prog : Program) (w : World) (h : Heap) (v : Value) (tm : Tm) : Prop := ∃ a, v = .ref a ∧ IsTupleKey (intKind prog w) h (nInts tm.args) a

structure CoreF (β : Adr) : Prop where
  ops : β.f "term_ops" = some (.ref β.ops)
  args : β.f "term_args" = some (.ref β.args)
  sorts : β.f "term_sorts" = some (.ref β.sorts)
  datas : β.f "term_datas" = some (.ref β.datas)
  nums : β.f "numbers" = some (.ref β.nums)
  make : β.f "make" = none

structure BankAt (prog : Program) (w : World) (β : Adr) (B : List Tm) (h : Heap) : Prop where
  attrs : Attrs h β.inst 388 β.dict β.f β.k
  ops : Ex2 (fun vs => h.PlainList β.ops vs.toArray) (fun vs => All2 IsO vs B)
  args : Ex2 (fun vs => h.PlainList β.args vs.toArray) (fun vs => All2 (IsA prog w h) vs B)
  sorts : Ex2 (fun vs => h.PlainList β.sorts vs.toArray) (fun vs => All2 (fun v (tm : Tm) => IsI v tm.sort) vs B)
  datas : Ex2 (fun vs : List Value => h.PlainList β.datas vs.toArray) (fun vs => vs.length = B.length)
  nums : ∃ xs, h.DictOfH (termKind prog w) β.nums xs ∧ xs.map (·.1) = B.tail ∧ ∀ i x, xs[i]? = some x → IsI x.2.2 (i + 1)
  nd : β.own.Nodup
  hd : ∃ tl, B = dummy :: tl

section
variable {prog : Program} {w : World} {β : Adr} {B : List Tm} {h h' : Heap}

theorem tupleKey_agree {own : List Addr} {ks : List Int} {a : Addr} (x : IsTupleKey (intKind prog w) h ks a) (g : Agree own h h') : IsTupleKey (intKind prog w) h' ks a := by
  obtain ⟨o, items, n, e, c, d, r⟩ := x
  exact ⟨o, items, n, g a o e (.inr ⟨c, items, n, d⟩), c, d, r⟩
theorem termKey_agree {own : List Addr} {k : Tm} {a : Addr} (x : IsTermKey prog w h k a) (g : Agree own h h') : IsTermKey prog w h' k a := by
  obtain ⟨o, items, n, t0, b, t2, t3, e, c, d, r, q⟩ := x
  exact ⟨o, items, n, t0, b, t2, t3, g a o e (.inr ⟨c, items, n, d⟩), c, d, r, tupleKey_agree q g⟩

theorem BankAt.agree (x : BankAt prog w β B h) (g : Agree β.own h h') : BankAt prog w β B h' := by
  have g0 : ∀ a o, a ∈ β.own → h.get? a = some o → h'.get? a = some o := fun a o ha e => g a o e (.inl ha)
  refine ⟨⟨g0 _ _ (by simp [Adr.own]) x.attrs.1, ?_⟩, ?_, ?_, ?_, ?_, ?_, x.nd, x.hd⟩
  · obtain ⟨es, n, e, r⟩ := x.attrs.2; exact ⟨es, n, g0 _ _ (by simp [Adr.own]) e, r⟩
  · obtain ⟨vs, e, r⟩ := x.ops; exact ⟨vs, e.at fun o => g0 _ o (by simp [Adr.own]), r⟩
  · obtain ⟨vs, e, r⟩ := x.args; exact ⟨vs, e.at fun o => g0 _ o (by simp [Adr.own]), r.mono fun v tm ⟨a, ea, k⟩ => ⟨a, ea, tupleKey_agree k g⟩⟩
  · obtain ⟨vs, e, r⟩ := x.sorts; exact ⟨vs, e.at fun o => g0 _ o (by simp [Adr.own]), r⟩
  · obtain ⟨vs, e, r⟩ := x.datas; exact ⟨vs, e.at fun o => g0 _ o (by simp [Adr.own]), r⟩
  · obtain ⟨xs, ⟨o, es, ep, e, r1, r2, r3, r4, r5⟩, q⟩ := x.nums
    exact ⟨xs, ⟨o, es, ep, g0 _ _ (by simp [Adr.own]) e, r1, r2, r3, fun y hy => termKey_agree (r4 y hy) g, r5⟩, q⟩

theorem atKey_some {K : Type} [DecidableEq K] {xs : List (K × Addr × Value)} {k : K} {i : Nat} (hi : (xs.map (·.1)).findIdx? (fun x => decide (x = k)) = some i) : ∃ x, xs[i]? = some x ∧ atKey xs k = some x.2 := by
  induction xs generalizing i with
  | nil => simp at hi
  | cons x xs ih =>
    simp only [List.map_cons, List.findIdx?_cons] at hi
    by_cases hx : x.1 = k
    · simp only [hx, decide_true, if_true, Option.some.injEq] at hi
      subst hi
      exact ⟨x, rfl, by simp [atKey, hx]⟩
    · simp only [hx, decide_false, Bool.false_eq_true, if_false, Option.map_eq_some_iff] at hi
      obtain ⟨j, hj, rfl⟩ := hi
      obtain ⟨y, h1, h2⟩ := ih hj
      exact ⟨y, by simpa using h1, by simpa [atKey, hx] using h2⟩
theorem atKey_none {K : Type} [DecidableEq K] {xs : List (K × Addr × Value)} {k : K} (hi : (xs.map (·.1)).findIdx? (fun x => decide (x = k)) = none) : atKey xs k = none := by
  induction xs with
  | nil => rfl
  | cons x xs ih =>
    simp only [List.map_cons, List.findIdx?_cons] at hi
    by_cases hx : x.1 = k
    · simp [hx] at hi
    · simp only [hx, decide_false, Bool.false_eq_true, if_false, Option.map_eq_none_iff] at hi
      simpa [atKey, hx] using ih hi

variable {A : Around} {E : Value → Shared → Prop} {s : Shared}

theorem BankAt.live (x : BankAt prog w β B h) : ∀ a ∈ β.own, h.get? a ≠ none := by
  intro a ha
  have key : ∀ {o}, h.get? a = some o → h.get? a ≠ none := fun e => by rw [e]; exact fun q => nomatch q
  simp only [Adr.own, List.mem_cons, List.not_mem_nil, or_false] at ha
  rcases ha with rfl | rfl | rfl | rfl | rfl | rfl | rfl
  · exact key x.attrs.1
  · obtain ⟨es, n, e, r⟩ := x.attrs.2; exact key e
  · obtain ⟨vs, ⟨n, e⟩, r⟩ := x.ops; exact key e
  · obtain ⟨vs, ⟨n, e⟩, r⟩ := x.args; exact key e
  · obtain ⟨vs, ⟨n, e⟩, r⟩ := x.sorts; exact key e
  · obtain ⟨vs, ⟨n, e⟩, r⟩ := x.datas; exact key e
  · obtain ⟨xs, ⟨o, es, ep, e, _⟩, q⟩ := x.nums; exact key e

theorem BankAt.notTup (x : BankAt prog w β B h) : ∀ a ∈ β.own, ∀ o, h.get? a = some o → ¬ isTupObj o := by
  intro a ha o e q
  have key : ∀ {o'}, h.get? a = some o' → o'.cls ≠ .type "tuple" → False := fun e' n => by rw [e] at e'; cases e'; exact n q.1
  simp only [Adr.own, List.mem_cons, List.not_mem_nil, or_false] at ha
  rcases ha with rfl | rfl | rfl | rfl | rfl | rfl | rfl
  · exact key x.attrs.1 (by simp)
  · obtain ⟨es, n, e, r⟩ := x.attrs.2; exact key e (by simp)
  · obtain ⟨vs, ⟨n, e⟩, r⟩ := x.ops; exact key e (by simp)
  · obtain ⟨vs, ⟨n, e⟩, r⟩ := x.args; exact key e (by simp)
  · obtain ⟨vs, ⟨n, e⟩, r⟩ := x.sorts; exact key e (by simp)
  · obtain ⟨vs, ⟨n, e⟩, r⟩ := x.datas; exact key e (by simp)
  · obtain ⟨xs, ⟨o, es, ep, e, hx, _⟩, q⟩ := x.nums; exact key e (by rw [hx.1]; simp)
theorem BankAt.tup_off (x : BankAt prog w β B h) {a : Addr} {ks : List Int} (k : IsTupleKey (intKind prog w) h ks a) : a ∉ β.own := fun ha => by
  obtain ⟨o, items, n, e, c, d, _⟩ := k
  exact x.notTup a ha o e ⟨c, items, n, d⟩

noncomputable def bankWd (prog : Program) (w : World) (β : Adr) (B : List Tm) : Wd := ⟨β.own, BankAt prog w β B, fun _ _ x g => x.agree g, fun _ x => x.live⟩

end

structure Cx (w : World) (h₀ : Heap) (β : Adr) : Prop where
  core : CoreF β
  new : ∀ a ∈ β.own, h₀.get? a = none

section
variable {prog : Program} {w : World} {β : Adr} {B : List Tm} {A : Around} {E : Value → Shared → Prop} {s : Shared} {h₀ : Heap}

structure Raw (prog : Program) (w : World) (β : Adr) (B : List Tm) (vt vo va vs vd : List Value) (xs : List (Tm × Addr × Value)) (h : Heap) : Prop where
  attrs : Attrs h β.inst 388 β.dict β.f β.k
  ops : h.PlainList β.ops vo.toArray
  args : h.PlainList β.args va.toArray
  sorts : h.PlainList β.sorts vs.toArray
  datas : h.PlainList β.datas vd.toArray
  nums : h.DictOfH (termKind prog w) β.nums xs
  tups : All2 (IsA prog w h) vt B
  nd : β.own.Nodup

theorem isA_agree {own : List Addr} {h h' : Heap} {vt : List Value} (x : All2 (IsA prog w h) vt B) (g : Agree own h h') : All2 (IsA prog w h') vt B := x.mono fun _ _ ⟨a, ea, k⟩ => ⟨a, ea, tupleKey_agree k g⟩
theorem dictOfH_agree {d : Addr} {xs : List (Tm × Addr × Value)} {h h' : Heap} (x : h.DictOfH (termKind prog w) d xs) (g1 : ∀ o, h.get? d = some o → h'.get? d = some o) (g : Agree [] h h') : h'.DictOfH (termKind prog w) d xs := by
  obtain ⟨o, es, ep, e, r1, r2, r3, r4, r5⟩ := x
  exact ⟨o, es, ep, g1 _ e, r1, r2, r3, fun y hy => termKey_agree (r4 y hy) g, r5⟩
theorem attrs_to {h h' : Heap} {x C dx : Addr} {f : Str → Option Value} {k : Nat} (a : Attrs h x C dx f k) (g1 : ∀ o, h.get? x = some o → h'.get? x = some o) (g2 : ∀ o, h.get? dx = some o → h'.get? dx = some o) : Attrs h' x C dx f k :=
  ⟨g1 _ a.1, let ⟨es, n, e, r⟩ := a.2; ⟨es, n, g2 _ e, r⟩⟩

section
variable {h h' : Heap} {vt vo va vs vd : List Value} {xs : List (Tm × Addr × Value)}
theorem Raw.live (x : Raw prog w β B vt vo va vs vd xs h) : ∀ a ∈ β.own, h.get? a ≠ none := by
  intro a ha
  have key : ∀ {o}, h.get? a = some o → h.get? a ≠ none := fun e => by rw [e]; exact fun q => nomatch q
  simp only [Adr.own, List.mem_cons, List.not_mem_nil, or_false] at ha
  rcases ha with rfl | rfl | rfl | rfl | rfl | rfl | rfl
  · exact key x.attrs.1
  · obtain ⟨es, n, e, r⟩ := x.attrs.2; exact key e
  · obtain ⟨n, e⟩ := x.ops; exact key e
  · obtain ⟨n, e⟩ := x.args; exact key e
  · obtain ⟨n, e⟩ := x.sorts; exact key e
  · obtain ⟨n, e⟩ := x.datas; exact key e
  · obtain ⟨o, es, ep, e, _⟩ := x.nums; exact key e
theorem Raw.agree (x : Raw prog w β B vt vo va vs vd xs h) (g : Agree β.own h h') : Raw prog w β B vt vo va vs vd xs h' := by
  have g0 : ∀ a, a ∈ β.own → ∀ o, h.get? a = some o → h'.get? a = some o := fun a ha o e => g a o e (.inl ha)
  exact ⟨attrs_to x.attrs (g0 _ (by simp [Adr.own])) (g0 _ (by simp [Adr.own])), x.ops.at (g0 _ (by simp [Adr.own])), x.args.at (g0 _ (by simp [Adr.own])), x.sorts.at (g0 _ (by simp [Adr.own])), x.datas.at (g0 _ (by simp [Adr.own])),
    dictOfH_agree x.nums (g0 _ (by simp [Adr.own])) fun a o e q => g a o e (q.elim (fun q => nomatch q) .inr), isA_agree x.tups g, x.nd⟩
noncomputable def rawWd (prog : Program) (w : World) (β : Adr) (B : List Tm) (vt vo va vs vd : List Value) (xs : List (Tm × Addr × Value)) : Wd := ⟨β.own, Raw prog w β B vt vo va vs vd xs, fun _ _ x g => x.agree g, fun _ x => x.live⟩

theorem agree_of {a : Addr} {h h' : Heap} (hs : Heap.SameBut a h h') (ht : ∀ o, h.get? a = some o → ¬ isTupObj o) : Agree [] h h' := fun b o e q => by
  rcases q with q | q
  · exact nomatch q
  · exact (hs.2 b (by rintro rfl; exact ht o e q)).trans e
theorem plain_notTup {a : Addr} {h : Heap} {v : Array Value} (x : h.PlainList a v) : ∀ o, h.get? a = some o → ¬ isTupObj o := fun o e q => by
  obtain ⟨n, e'⟩ := x; rw [e] at e'; cases e'; have := q.1; simp at this

theorem dict_notTup {d : Addr} (x : h.DictOfH (termKind prog w) d xs) : ∀ o, h.get? d = some o → ¬ isTupObj o := fun o e q => by
  obtain ⟨o', es, ep, e', r1, _⟩ := x
  rw [e] at e'; cases e'
  have := q.1; rw [r1.1] at this; simp at this

theorem Raw.setOps {v : List Value} (x : Raw prog w β B vt vo va vs vd xs h) (hs : Heap.SameBut β.ops h h') (e : h'.PlainList β.ops v.toArray) : Raw prog w β B vt v va vs vd xs h' := by
  have nd := x.nd
  simp only [Adr.own, List.nodup_cons, List.mem_cons, List.not_mem_nil, or_false, not_or, not_false_eq_true, List.nodup_nil, and_true] at nd
  have k : ∀ b, b ≠ β.ops → ∀ o, h.get? b = some o → h'.get? b = some o := fun b hb o e => (hs.2 b hb).trans e
  exact ⟨attrs_to x.attrs (k _ (by grind)) (k _ (by grind)), e, x.args.at (k _ (by grind)), x.sorts.at (k _ (by grind)), x.datas.at (k _ (by grind)), dictOfH_agree x.nums (k _ (by grind)) (agree_of hs (plain_notTup x.ops)), isA_agree x.tups (agree_of hs (plain_notTup x.ops)), x.nd⟩
theorem Raw.setArgs {v : List Value} (x : Raw prog w β B vt vo va vs vd xs h) (hs : Heap.SameBut β.args h h') (e : h'.PlainList β.args v.toArray) : Raw prog w β B vt vo v vs vd xs h' := by
  have nd := x.nd
  simp only [Adr.own, List.nodup_cons, List.mem_cons, List.not_mem_nil, or_false, not_or, not_false_eq_true, List.nodup_nil, and_true] at nd
  have k : ∀ b, b ≠ β.args → ∀ o, h.get? b = some o → h'.get? b = some o := fun b hb o e => (hs.2 b hb).trans e
  exact ⟨attrs_to x.attrs (k _ (by grind)) (k _ (by grind)), x.ops.at (k _ (by grind)), e, x.sorts.at (k _ (by grind)), x.datas.at (k _ (by grind)), dictOfH_agree x.nums (k _ (by grind)) (agree_of hs (plain_notTup x.args)), isA_agree x.tups (agree_of hs (plain_notTup x.args)), x.nd⟩
theorem Raw.setSorts {v : List Value} (x : Raw prog w β B vt vo va vs vd xs h) (hs : Heap.SameBut β.sorts h h') (e : h'.PlainList β.sorts v.toArray) : Raw prog w β B vt vo va v vd xs h' := by
  have nd := x.nd
  simp only [Adr.own, List.nodup_cons, List.mem_cons, List.not_mem_nil, or_false, not_or, not_false_eq_true, List.nodup_nil, and_true] at nd
  have k : ∀ b, b ≠ β.sorts → ∀ o, h.get? b = some o → h'.get? b = some o := fun b hb o e => (hs.2 b hb).trans e
  exact ⟨attrs_to x.attrs (k _ (by grind)) (k _ (by grind)), x.ops.at (k _ (by grind)), x.args.at (k _ (by grind)), e, x.datas.at (k _ (by grind)), dictOfH_agree x.nums (k _ (by grind)) (agree_of hs (plain_notTup x.sorts)), isA_agree x.tups (agree_of hs (plain_notTup x.sorts)), x.nd⟩
theorem Raw.setDatas {v : List Value} (x : Raw prog w β B vt vo va vs vd xs h) (hs : Heap.SameBut β.datas h h') (e : h'.PlainList β.datas v.toArray) : Raw prog w β B vt vo va vs v xs h' := by
  have nd := x.nd
  simp only [Adr.own, List.nodup_cons, List.mem_cons, List.not_mem_nil, or_false, not_or, not_false_eq_true, List.nodup_nil, and_true] at nd
  have k : ∀ b, b ≠ β.datas → ∀ o, h.get? b = some o → h'.get? b = some o := fun b hb o e => (hs.2 b hb).trans e
  exact ⟨attrs_to x.attrs (k _ (by grind)) (k _ (by grind)), x.ops.at (k _ (by grind)), x.args.at (k _ (by grind)), x.sorts.at (k _ (by grind)), e, dictOfH_agree x.nums (k _ (by grind)) (agree_of hs (plain_notTup x.datas)), isA_agree x.tups (agree_of hs (plain_notTup x.datas)), x.nd⟩
theorem Raw.setNums {ys : List (Tm × Addr × Value)} (x : Raw prog w β B vt vo va vs vd xs h) (hs : Heap.SameBut β.nums h h') (e : h'.DictOfH (termKind prog w) β.nums ys) : Raw prog w β B vt vo va vs vd ys h' := by
  have nd := x.nd
  simp only [Adr.own, List.nodup_cons, List.mem_cons, List.not_mem_nil, or_false, not_or, not_false_eq_true, List.nodup_nil, and_true] at nd
  have k : ∀ b, b ≠ β.nums → ∀ o, h.get? b = some o → h'.get? b = some o := fun b hb o e => (hs.2 b hb).trans e
  exact ⟨attrs_to x.attrs (k _ (by grind)) (k _ (by grind)), x.ops.at (k _ (by grind)), x.args.at (k _ (by grind)), x.sorts.at (k _ (by grind)), x.datas.at (k _ (by grind)), e, isA_agree x.tups (agree_of hs (dict_notTup x.nums)), x.nd⟩
theorem keep_same {own : List Addr} {a : Addr} (hs : Heap.SameBut a h h') (ha : a ∈ own) : Keep own h h' := fun b o hb e => (hs.2 b (by rintro rfl; exact hb ha)).trans e
theorem ext_same {h₀ : Heap} {a : Addr} (x : Ext h₀ h) (hs : Heap.SameBut a h h') (ha : h₀.get? a = none) : Ext h₀ h' := fun b o e => (hs.2 b (by rintro rfl; rw [ha] at e; cases e)).trans (x b o e)
theorem W.own {D D' : Wd} {L a : Addr} {m : Str → Option Value} {objs : List (Addr × Cell)} {s₀ : Heap} (X : W prog w h₀ s₀ D L h m objs) (hown : D'.own = D.own) (ha : a ∈ D.own) (hn : h₀.get? a = none) (hs : Heap.SameBut a h h') (hi : D'.I h') : W prog w h₀ s₀ D' L h' m objs :=
  X.call hown (keep_same hs ha) (ext_same X.ext hs hn) hi
theorem W.raw {vo' va' vs' vd' : List Value} {xs' : List (Tm × Addr × Value)} {L a : Addr} {m : Str → Option Value} {objs : List (Addr × Cell)} {s₀ : Heap} (X : W prog w h₀ s₀ (rawWd prog w β B vt vo va vs vd xs) L h m objs) (hi : Raw prog w β B vt vo' va' vs' vd' xs' h') (hs : Heap.SameBut a h h') (ha : a ∈ β.own) (hn : h₀.get? a = none) :
    W prog w h₀ s₀ (rawWd prog w β B vt vo' va' vs' vd' xs') L h' m objs := W.own (D' := rawWd prog w β B vt vo' va' vs' vd' xs') X rfl ha hn hs hi
end

theorem newTerm {h : Heap} {k a : Addr} {tm : Tm} {t0 t2 t3 : Tok} (hk : IsTup h k [.str tm.op.str t0, .ref a, .int tm.sort t2, .int tm.data t3].toArray) (ha : IsTupleKey (intKind prog w) h (nInts tm.args) a) : IsTermKey prog w h tm k := by
  obtain ⟨o, e, c, n, d⟩ := hk
  exact ⟨o, _, n, t0, a, t2, t3, e, c, d, rfl, ha⟩
theorem tupleKey_keep {own : List Addr} {h h' : Heap} {ks : List Int} {a : Addr} (x : IsTupleKey (intKind prog w) h ks a) (ho : a ∉ own) (g : Keep own h h') : IsTupleKey (intKind prog w) h' ks a := by
  obtain ⟨o, items, n, e, r⟩ := x
  exact ⟨o, items, n, g a o ho e, r⟩

set_option maxHeartbeats 4000000 in
theorem make_spec {tm : Tm} {a : Addr} {t0 t2 t3 : Tok} {R : Result → Shared → Prop} {z : Shared} {h : Heap} {t : Nat} (C : Cx w h₀ β) (g : Gnd w h₀ h) (hr : Room A 2) (hB : BankAt prog w β B h)
    (ha : IsTupleKey (intKind prog w) h (nInts tm.args) a) (hsz : B.length ≤ 2 ^ 23) (hop : tm.op ≠ .dummy)
    (hR : ∀ h' tk u, BankAt prog w β (mk B tm).2 h' → Keep β.own h h' → Ext h₀ h' → R (.ok (.ret (.int (mk B tm).1 u))) (St z h' tk)) :
    codeAny (model prog w) A (.call (.ref 217) ⟨[.ref β.inst, .str tm.op.str t0, .ref a, .int tm.sort t2, .int tm.data t3], []⟩) R (St z h t) := by
  refine' callF (K := Mine.hd0.heap_1 w.params) (f := 217) [("self", .ref β.inst), ("op", .str tm.op.str t0), ("args", .ref a), ("sort", .int tm.sort t2), ("data", .int tm.data t3)] ?k0 ?k1 ?k2 ?k3 ?k4 ?k5 ?k6 ?_ ?k7 ?k8 ?k9 ?k10
  case k3 => k_is
  case k0 => exact g.at.K
  case k1 => exact g.at.lim
  case k2 => have := hr.depth; omega
  case k4 => k_is
  case k5 => rfl
  case k6 => exact locs rfl
  case k7 => rfl
  case k8 => rfl
  case k9 => rfl
  case k10 => decide
  intro h₁ L A' tk en hns room
  have X := W.enter (prog := prog) (bankWd prog w β B) g hB en hns
  have hr' := room _ hr
  have hao : a ∉ β.own := hB.tup_off ha
  clear hns en room
  -- key = (op, args, sort, data)
  refine sAsg ?_
  refine Tuple_ ?_
  refine argsS X (.cons (.loc rfl) (.cons (.loc rfl) (.cons (.loc rfl) (.cons (.loc rfl) .nil)))) ?_
  refine newTup X fun h' k X => stL X fun h' tk X => ?_
  -- found = self.numbers.get(key, 0)
  refine sAsg ?_
  refine MethodCall_ ?_
  refine Attribute_any_ ?_
  refine nmL X rfl ?_
  refine getA (X.gd g.G) cls388 X.inv.attrs C.core.nums (by k_is) rfl fun tk => ?_
  obtain ⟨xs, hxs, hxm, hxi⟩ := X.inv.nums
  obtain ⟨o, es, ep, hxo, hxx, _⟩ := id hxs
  refine getMethodDict F.slot_dict_get F.type_dict_get hxo hxx ?_
  refine callWith_method1 ?_
  refine args_cons (nmL X rfl ?_)
  refine args_cons (cInt fun u tk => ?_)
  refine args_nil ?_
  refine dictGetH (knd := termKind prog w) ?_ (g.G.lo (C.new _ (by simp [Adr.own]))) (newTerm (X.obj _ (.head _)) (tupleKey_keep ha hao X.keep)) hxs fun tk => ?_
  · show A'.units + 1 + 1 < cLine
    have := hr'.units; omega
  refine stL X fun h' tk X => ?_
  obtain ⟨tl, htl⟩ := hB.hd
  have hm : mk B tm = match tl.findIdx? (fun x => decide (x = tm)) with
      | some i => (i + 1, B)
      | none => (B.length, B ++ [tm]) := by
    have hd0 : ¬ dummy = tm := fun e => hop (by rw [← e]; rfl)
    unfold mk
    rw [htl, List.findIdx?_cons, if_neg (by simpa using hd0)]
    cases tl.findIdx? (fun x => decide (x = tm)) <;> rfl
  have hxm' : xs.map (·.1) = tl := by rw [hxm, htl]; rfl
  refine sIf (wpAny_isTrue_Compare1 (nmL X rfl (cInt fun u tk => ?_)))
  cases hi : tl.findIdx? (fun x => decide (x = tm)) with
  | some i =>
    rw [hi] at hm
    rw [← hxm'] at hi
    obtain ⟨x, hx, hk⟩ := atKey_some hi
    obtain ⟨u', hu'⟩ := hxi i x hx
    rw [hk, Option.map_some, Option.getD_some, hu'] at X ⊢
    refine eq_int (wpAny_truthy_bool ?_)
    have e0 : (((i + 1 : Nat) : Int) == 0) = false := by simp; omega
    rw [e0]
    refine sNx ?_
    refine sRet (nmL X rfl ?_)
    rw [hm] at hR
    exact hR _ _ _ X.inv X.keep X.ext
  | none =>
    rw [hi] at hm
    have hi0 := hi
    rw [← hxm'] at hi
    have hk := atKey_none hi
    rw [hk] at X ⊢
    refine eq_int (wpAny_truthy_bool ?_)
    show wpAny _ _ (execs _ _) _ _ _
    obtain ⟨vo, ho, hO⟩ := X.inv.ops
    obtain ⟨va, ha', hA⟩ := X.inv.args
    obtain ⟨vs, hs, hS⟩ := X.inv.sorts
    obtain ⟨vd, hdd, hD⟩ := X.inv.datas
    have hsz' : vo.length ≤ 2 ^ 23 := by rw [hO.len]; exact hsz
    clear hxo hxx hxs hxi hxm hxm' hk hi
    obtain ⟨xs, hxs, hxm, hxi⟩ := X.inv.nums
    have hk : atKey xs tm = none := atKey_none (by rw [hxm, htl]; exact hi0)
    have X : W prog w h₀ h (rawWd prog w β B va vo va vs vd xs) _ h' _ _ := X.call rfl (Keep.refl _ _) X.ext ⟨X.inv.attrs, ho, ha', hs, hdd, hxs, hA, X.inv.nd⟩
    have new := C.new
    refine sAsg ?_
    refine Call_ ?_
    refine nmB (X.gd g.G) (by k_is) boot_len ?_
    refine PyProof.Rows.callWith_builtin1 ?_
    refine args_cons (Attribute_any_ (nmL X rfl (getA (X.gd g.G) cls388 X.inv.attrs C.core.ops (by k_is) rfl fun tk => args_nil ?_)))
    refine lenL X.inv.ops (by omega) fun u tk => stL X fun h' tk X => ?_
    -- the four appends
    refine sExpr (MethodCall_ (Attribute_any_ (nmL X rfl (getA (X.gd g.G) cls388 X.inv.attrs C.core.ops (by k_is) rfl fun tk => ?_))))
    refine getMethodList F.slot_list_append F.type_list_append X.inv.ops (callWith_method1 (argsS X (.cons (.loc rfl) .nil) ?_))
    refine appL X.inv.ops (by omega) fun h' e hs => ?_
    have X := X.raw (X.inv.setOps hs e) hs (by simp [Adr.own]) (new _ (by simp [Adr.own]))
    refine sExpr (MethodCall_ (Attribute_any_ (nmL X rfl (getA (X.gd g.G) cls388 X.inv.attrs C.core.args (by k_is) rfl fun tk => ?_))))
    refine getMethodList F.slot_list_append F.type_list_append X.inv.args (callWith_method1 (argsS X (.cons (.loc rfl) .nil) ?_))
    refine appL X.inv.args (by rw [hA.len]; omega) fun h' e hs => ?_
    have X := X.raw (X.inv.setArgs hs e) hs (by simp [Adr.own]) (new _ (by simp [Adr.own]))
    refine sExpr (MethodCall_ (Attribute_any_ (nmL X rfl (getA (X.gd g.G) cls388 X.inv.attrs C.core.sorts (by k_is) rfl fun tk => ?_))))
    refine getMethodList F.slot_list_append F.type_list_append X.inv.sorts (callWith_method1 (argsS X (.cons (.loc rfl) .nil) ?_))
    refine appL X.inv.sorts (by rw [hS.len]; omega) fun h' e hs => ?_
    have X := X.raw (X.inv.setSorts hs e) hs (by simp [Adr.own]) (new _ (by simp [Adr.own]))
    refine sExpr (MethodCall_ (Attribute_any_ (nmL X rfl (getA (X.gd g.G) cls388 X.inv.attrs C.core.datas (by k_is) rfl fun tk => ?_))))
    refine getMethodList F.slot_list_append F.type_list_append X.inv.datas (callWith_method1 (argsS X (.cons (.loc rfl) .nil) ?_))
    refine appL X.inv.datas (by rw [hD]; omega) fun h' e hs => ?_
    have X := X.raw (X.inv.setDatas hs e) hs (by simp [Adr.own]) (new _ (by simp [Adr.own]))
    -- numbers[key] = found
    refine sAsgSub (nmL X rfl (Attribute_any_ (nmL X rfl (getA (X.gd g.G) cls388 X.inv.attrs C.core.nums (by k_is) rfl fun tk => nmL X rfl ?_))))
    have hxs := X.inv.nums
    have hxl : xs.length ≤ 2 ^ 23 := by
      have e := congrArg List.length hxm
      rw [List.length_map, List.length_tail] at e; omega
    refine setItemH (knd := termKind prog w) ?_ (newTerm (X.obj _ (.head _)) (tupleKey_keep ha hao X.keep)) hxs (by simp only [sizeLine]; omega) fun h' e hs tk => ?_
    · show A'.units + 1 + 1 < cLine
      have := hr'.units; omega
    have X := X.raw (X.inv.setNums hs e) hs (by simp [Adr.own]) (new _ (by simp [Adr.own]))
    refine sNx ?_
    refine sRet (nmL X rfl ?_)
    rw [hm] at hR
    have hB' : BankAt prog w β (B ++ [tm]) h' := by
      have Y := X.inv
      refine ⟨Y.attrs, ⟨_, Y.ops, hO.snoc ⟨_, rfl⟩⟩, ⟨_, Y.args, Y.tups.snoc ⟨_, rfl, tupleKey_keep ha hao X.keep⟩⟩, ⟨_, Y.sorts, hS.snoc ⟨_, rfl⟩⟩, ⟨_, Y.datas, by simp [hD]⟩, ⟨_, Y.nums, ?_, ?_⟩, Y.nd, tl ++ [tm], by rw [htl]; rfl⟩
      · rw [storedH_new hk]
        rw [htl] at hxm ⊢
        simp only [List.map_append, List.map_cons, List.map_nil, List.cons_append, List.tail_cons] at hxm ⊢
        rw [hxm]
      · rw [storedH_new hk]
        intro i x hx
        rcases snoc_get hx with hx | ⟨q, r⟩
        · exact hxi i x hx
        · have hxl2 : xs.length + 1 = vo.length := by
            have e := congrArg List.length hxm
            rw [List.length_map, List.length_tail] at e
            rw [hO.len, htl] at *
            simpa using e
          exact ⟨_, by rw [← r, q, hxl2]⟩
    have e : (vo.length : Int) = B.length := by rw [hO.len]
    rw [e]
    exact hR _ _ _ hB' X.keep X.ext
end
end Mine

-- Fns1
namespace Mine

noncomputable def bankMeths : List Str := ["op", "args", "sort", "make", "is_value", "want", "want_all", "true_term", "false_term", "parts", "parts_of_all", "not_of", "and_of", "or_of", "iff", "eq", "ite", "declare_sort", "declare_fun", "fresh_const"]
structure FullF (β : Adr) : Prop where
  tru : ∃ t, β.f "true_number" = some (.int 1 t)
  fls : ∃ t, β.f "false_number" = some (.int 2 t)
  meths : ∀ n ∈ bankMeths, β.f n = none
structure Cf (w : World) (h₀ : Heap) (β : Adr) : Prop extends Cx w h₀ β where
  full : FullF β

section
variable {prog : Program} {w : World} {β : Adr} {B : List Tm} {A : Around} {E : Value → Shared → Prop} {z : Shared} {h₀ h : Heap} {t : Nat} {R : Result → Shared → Prop} {n i : Nat} {u : Tok} {x : Tm}

theorem retW {h' : Heap} {h₁ : Heap} {L : Addr} {m : Str → Option Value} {objs : List (Addr × Cell)} {tk : Nat} {r₁ r : Nat} {B₁ B' : List Tm} (hR : ∀ h' tk u, BankAt prog w β B' h' → Keep β.own h₁ h' → Ext h₀ h' → R (.ok (.ret (.int r u))) (St z h' tk)) (hm : (some (r₁, B₁) : Option (Nat × List Tm)) = some (r, B'))
    (X : W prog w h₀ h₁ (bankWd prog w β B₁) L h' m objs) : R (.ok (.ret (.int r₁ u))) (St z h' tk) := by cases hm; exact hR _ _ _ X.inv X.keep X.ext

theorem op_spec (C : Cf w h₀ β) (g : Gnd w h₀ h) (hr : Room A 1) (hB : BankAt prog w β B h) (hx : B[i]? = some x) (hsz : B.length ≤ 2 ^ 23)
    (hR : ∀ h' tk u, Ext h h' → R (.ok (.ret (.str x.op.str u))) (St z h' tk)) :
    codeAny (model prog w) A (.call (.ref 175) ⟨[.ref β.inst, .int i u], []⟩) R (St z h t) := by
  refine enterF 175 [("self", .ref β.inst), ("t", .int i u)] g hr fun h₁ L A' tk en hns hr' => ?_
  have X := W.enter (prog := prog) (bankWd prog w β B) g hB en hns
  refine sRet (Subscript_ (Attribute_any_ (nmL X rfl (getA (X.gd g.G) cls388 X.inv.attrs C.core.ops (by k_is) rfl fun tk => nmL X rfl ?_))))
  obtain ⟨vs, hl, hO⟩ := X.inv.ops
  obtain ⟨u', hv⟩ := hO.getF hx
  exact itL hl hv (by rw [hO.len]; omega) (hR _ _ _ en.ext)

theorem args_spec (C : Cf w h₀ β) (g : Gnd w h₀ h) (hr : Room A 1) (hB : BankAt prog w β B h) (hx : B[i]? = some x) (hsz : B.length ≤ 2 ^ 23)
    (hR : ∀ h' tk a, IsTupleKey (intKind prog w) h (nInts x.args) a → Ext h h' → R (.ok (.ret (.ref a))) (St z h' tk)) :
    codeAny (model prog w) A (.call (.ref 182) ⟨[.ref β.inst, .int i u], []⟩) R (St z h t) := by
  refine enterF 182 [("self", .ref β.inst), ("t", .int i u)] g hr fun h₁ L A' tk en hns hr' => ?_
  have X := W.enter (prog := prog) (bankWd prog w β B) g hB en hns
  refine sRet (Subscript_ (Attribute_any_ (nmL X rfl (getA (X.gd g.G) cls388 X.inv.attrs C.core.args (by k_is) rfl fun tk => nmL X rfl ?_))))
  obtain ⟨vs, hl, hA⟩ := hB.args
  obtain ⟨v, hv, a, rfl, hk⟩ := hA.get hx
  exact itL (hl.at fun o e => en.ext _ o e) hv (by rw [hA.len]; omega) (hR _ _ _ hk en.ext)

theorem sort_spec (C : Cf w h₀ β) (g : Gnd w h₀ h) (hr : Room A 1) (hB : BankAt prog w β B h) (hx : B[i]? = some x) (hsz : B.length ≤ 2 ^ 23)
    (hR : ∀ h' tk u, Ext h h' → R (.ok (.ret (.int x.sort u))) (St z h' tk)) :
    codeAny (model prog w) A (.call (.ref 189) ⟨[.ref β.inst, .int i u], []⟩) R (St z h t) := by
  refine enterF 189 [("self", .ref β.inst), ("t", .int i u)] g hr fun h₁ L A' tk en hns hr' => ?_
  have X := W.enter (prog := prog) (bankWd prog w β B) g hB en hns
  refine sRet (Subscript_ (Attribute_any_ (nmL X rfl (getA (X.gd g.G) cls388 X.inv.attrs C.core.sorts (by k_is) rfl fun tk => nmL X rfl ?_))))
  obtain ⟨vs, hl, hO⟩ := X.inv.sorts
  obtain ⟨u', hv⟩ := hO.getF hx
  exact itL hl hv (by rw [hO.len]; omega) (hR _ _ _ en.ext)

theorem true_spec (C : Cf w h₀ β) (g : Gnd w h₀ h) (hr : Room A 1) (hB : BankAt prog w β B h)
    (hR : ∀ h' tk u, Ext h h' → R (.ok (.ret (.int 1 u))) (St z h' tk)) :
    codeAny (model prog w) A (.call (.ref 252) ⟨[.ref β.inst], []⟩) R (St z h t) := by
  refine enterF 252 [("self", .ref β.inst)] g hr fun h₁ L A' tk en hns hr' => ?_
  have X := W.enter (prog := prog) (bankWd prog w β B) g hB en hns
  obtain ⟨u, hu⟩ := C.full.tru
  exact sRet (Attribute_any_ (nmL X rfl (getA (X.gd g.G) cls388 X.inv.attrs hu (by k_is) rfl fun tk => hR _ _ _ en.ext)))
theorem false_spec (C : Cf w h₀ β) (g : Gnd w h₀ h) (hr : Room A 1) (hB : BankAt prog w β B h)
    (hR : ∀ h' tk u, Ext h h' → R (.ok (.ret (.int 2 u))) (St z h' tk)) :
    codeAny (model prog w) A (.call (.ref 259) ⟨[.ref β.inst], []⟩) R (St z h t) := by
  refine enterF 259 [("self", .ref β.inst)] g hr fun h₁ L A' tk en hns hr' => ?_
  have X := W.enter (prog := prog) (bankWd prog w β B) g hB en hns
  obtain ⟨u, hu⟩ := C.full.fls
  exact sRet (Attribute_any_ (nmL X rfl (getA (X.gd g.G) cls388 X.inv.attrs hu (by k_is) rfl fun tk => hR _ _ _ en.ext)))

theorem want_spec {s : Nat} {u₂ : Tok} {wh : Value} (C : Cf w h₀ β) (g : Gnd w h₀ h) (hr : Room A 1) (hB : BankAt prog w β B h) (hx : B[i]? = some x) (hs : x.sort = s) (hsz : B.length ≤ 2 ^ 23)
    (hR : ∀ h' tk, Ext h h' → R (.ok (.ret .none)) (St z h' tk)) :
    codeAny (model prog w) A (.call (.ref 238) ⟨[.ref β.inst, .int i u, .int s u₂, wh], []⟩) R (St z h t) := by
  refine enterF 238 [("self", .ref β.inst), ("t", .int i u), ("s", .int s u₂), ("where", wh)] g hr fun h₁ L A' tk en hns hr' => ?_
  have X := W.enter (prog := prog) (bankWd prog w β B) g hB en hns
  refine sIf (wpAny_isTrue_Compare1 (Subscript_ (Attribute_any_ (nmL X rfl (getA (X.gd g.G) cls388 X.inv.attrs C.core.sorts (by k_is) rfl fun tk => nmL X rfl ?_)))))
  obtain ⟨vs, hl, hO⟩ := X.inv.sorts
  obtain ⟨u', hv⟩ := hO.getF hx
  refine itL hl hv (by rw [hO.len]; omega) (nmL X rfl (ne_int (wpAny_truthy_bool ?_)))
  rw [hs]
  have e : ((s : Int) != s) = false := by simp
  rw [e]
  exact sNx (sNil (hR _ _ en.ext))

theorem wantM_all {s : Nat} : ∀ {l : List Nat} {r}, wantM s l B = some r → ∀ t ∈ l, ∃ x, B[t]? = some x ∧ x.sort = s := by
  intro l
  induction l with
  | nil => intro r _ t ht; exact nomatch ht
  | cons a l ih =>
    intro r hr t ht
    simp only [wantM, BM.bind, rd, Option.bind_map] at hr
    cases hx : B[a]? with
    | none => rw [hx] at hr; simp at hr
    | some x =>
      rw [hx] at hr
      simp only [Option.bind_some, Function.comp] at hr
      by_cases hs : x.sort = s
      · simp only [hs, ne_eq, not_true_eq_false, if_false] at hr
        rcases List.mem_cons.mp ht with rfl | ht
        · exact ⟨x, hx, hs⟩
        · exact ih hr t ht
      · simp [hs, BM.fail] at hr

theorem want_all_spec {s : Nat} {u : Tok} {wh : Value} {a : Addr} {vs : List Value} {l : List Nat} (C : Cf w h₀ β) (g : Gnd w h₀ h) (hr : Room A 2) (hB : BankAt prog w β B h) (hq : Sq h a vs) (ho : a ∉ β.own) (hl : All2 IsI vs l)
    (hx : ∀ t ∈ l, ∃ x, B[t]? = some x ∧ x.sort = s) (hsz : B.length ≤ 2 ^ 23)
    (hR : ∀ h' tk, BankAt prog w β B h' → Keep β.own h h' → Ext h₀ h' → R (.ok (.ret .none)) (St z h' tk)) :
    codeAny (model prog w) A (.call (.ref 245) ⟨[.ref β.inst, .ref a, .int s u, wh], []⟩) R (St z h t) := by
  obtain ⟨kd, hq⟩ := hq
  refine enterF 245 [("self", .ref β.inst), ("some", .ref a), ("s", .int s u), ("where", wh)] g hr fun h₁ L A' tk en hns hr' => ?_
  have X := W.enter (prog := prog) (bankWd prog w β B) g hB en hns
  refine sFor (nmL X rfl (iterSq X (hq.to fun o e => en.ext _ o e) fun h' it X hs => ?_))
  refine loopSq hr'.hh (fun k D m objs => A5 (D = bankWd prog w β B) (objs = []) (m "self" = some (.ref β.inst)) (m "s" = some (.int s u)) (m "where" = some wh)) X hs ⟨rfl, rfl, rfl, rfl, rfl⟩ ?_ ?_ ?_
  · rintro k j D m m' objs h' Y ⟨rfl, rfl, _⟩
    exact hq.to fun o e => Y.keep _ _ ho e
  · rintro k v D m objs h' t' hv ⟨rfl, rfl, h1, h2, h3⟩ Y hs
    refine opq ?_
    intro T hT
    obtain ⟨n', hn', u', rfl⟩ : ∃ n', l[k]? = some n' ∧ IsI v n' := by
      obtain ⟨n', hn'⟩ : ∃ n', l[k]? = some n' := ⟨l[k]'(by have := (List.getElem?_eq_some_iff.mp hv).1; rw [← hl.len]; exact this), by simp⟩
      obtain ⟨v', hv', hi⟩ := hl.get hn'
      rw [hv] at hv'; cases hv'
      exact ⟨n', hn', hi⟩
    obtain ⟨x, hxB, hxs⟩ := hx n' (List.mem_of_getElem? hn')
    refine sExpr (MethodCall_ (nmL Y h1 (methA (Y.gd g.G) cls388 Y.inv.attrs (C.full.meths _ (by decide)) (by k_is) (by k_is) (cwK (by k_is) (argsS Y (.cons (.loc rfl) (.cons (.loc h2) (.cons (.loc h3) .nil))) ⟨(Y.gd g.G).K, ?_⟩))))) 
    refine want_spec C (Y.gnd g.G) (hr'.less (by decide)) Y.inv hxB hxs hsz fun h'' tk e => ?_
    exact sNil (hT _ _ ⟨_, _, _, _, _, rfl, Y.grow e, rfl, rfl, h1, h2, h3⟩)
  · rintro D m objs h' t' ⟨rfl, rfl, _⟩ Y hs
    exact sNil (hR _ _ Y.inv Y.keep Y.ext)

theorem rd_bind {α : Type} {t : Nat} {k : Tm → BM α} {r : α × List Tm} (e : BM.bind (rd t) k B = some r) : Ex2 (fun x => B[t]? = some x) (fun x => k x B = some r) := by
  unfold BM.bind rd at e
  cases hx : B[t]? with
  | none => rw [hx] at e; simp at e
  | some x => rw [hx] at e; exact ⟨x, rfl, e⟩
theorem bind_some {α β : Type} {x : BM α} {f : α → BM β} {r : β × List Tm} (e : BM.bind x f B = some r) : Ex22 (fun a B' => x B = some (a, B')) (fun a B' => f a B' = some r) := by
  unfold BM.bind at e
  cases hx : x B with
  | none => rw [hx] at e; simp at e
  | some p => rw [hx] at e; exact ⟨p.1, p.2, rfl, e⟩

theorem isTup_key {a : Addr} {h : Heap} {l : List Nat} {us : List Value} (e : IsTup h a us.toArray) (hl : All2 IsI us l) : IsTupleKey (intKind prog w) h (nInts l) a := by
  obtain ⟨o, e, c, n, d⟩ := e
  refine ⟨o, _, n, e, c, d, ?_⟩
  show PySem.ItemsAre _ _ us
  clear d e
  induction hl with
  | nil => exact .nil
  | cons r _ ih => obtain ⟨t, rfl⟩ := r; exact .cons (intIs _ _) ih
theorem key_isTup {a : Addr} {h : Heap} {l : List Nat} (e : IsTupleKey (intKind prog w) h (nInts l) a) : Ex2 (fun us : List Value => IsTup h a us.toArray) (fun us => All2 IsI us l) := by
  obtain ⟨o, items, n, e, c, d, r⟩ := e
  refine ⟨items.toList, ⟨o, e, c, n, by simpa using d⟩, ?_⟩
  generalize items.toList = us at r
  clear d e
  induction l generalizing us with
  | nil => cases r; exact .nil
  | cons x l ih =>
    cases r with
    | cons h1 h2 => obtain ⟨t, rfl⟩ := Value.isInt_shape h1; exact .cons ⟨t, rfl⟩ (ih _ h2)

noncomputable def sBOOL (w : World) : Prop := ∃ t, nsIn (Mine.hd0.heap_1 w.params) mainGlobals "BOOL" = some (some (.int 0 t))
theorem hBOOL : sBOOL w := ⟨_, by k_is⟩

theorem not_of_spec {t₀ : Nat} {B' : List Tm} {r : Nat} (C : Cf w h₀ β) (g : Gnd w h₀ h) (hr : Room A 3) (hB : BankAt prog w β B h) (hm : notOf t₀ B = some (r, B')) (hsz : B.length ≤ 2 ^ 23)
    (hR : ∀ h' tk u, BankAt prog w β B' h' → Keep β.own h h' → Ext h₀ h' → R (.ok (.ret (.int r u))) (St z h' tk)) :
    codeAny (model prog w) A (.call (.ref 301) ⟨[.ref β.inst, .int t₀ u], []⟩) R (St z h t) := by
  unfold notOf at hm
  obtain ⟨x, hx, hm⟩ := rd_bind hm
  obtain ⟨ub, hub⟩ := hBOOL (w := w)
  by_cases hs : x.sort = 0
  rotate_left
  · simp [hs, BM.fail] at hm
  simp only [hs, ne_eq, not_true_eq_false, if_false] at hm
  refine enterF 301 [("self", .ref β.inst), ("t", .int t₀ u)] g hr fun h₁ L A' tk en hns hr' => ?_
  have X := W.enter (prog := prog) (bankWd prog w β B) g hB en hns
  refine sExpr (MethodCall_ (nmL X rfl (mB (X.gd g.G) cls388 X.inv.attrs (C.full.meths _ (by decide)) (args_cons (nmL X rfl (args_cons (nmG (X.gd g.G) hub (args_cons (cStr fun u tk => args_nil ⟨(X.gd g.G).K, ?_⟩)))))))))
  refine want_spec C (X.gnd g.G) (hr'.less (by decide)) X.inv hx hs hsz fun h' tk e => ?_
  have X := X.grow e
  -- if self.term_ops[t] == 'not'
  refine sIf (wpAny_isTrue_Compare1 (Subscript_ (Attribute_any_ (nmL X rfl (getA (X.gd g.G) cls388 X.inv.attrs C.core.ops (by k_is) rfl fun tk => nmL X rfl ?_)))))
  obtain ⟨vs, hl, hO⟩ := X.inv.ops
  obtain ⟨u', hv⟩ := hO.getF hx
  refine itL hl hv (by rw [hO.len]; omega) (cStr fun u tk => eqOp .not (wpAny_truthy_bool ?_))
  by_cases hop : x.op = .not
  · replace hm := bmT hop hm
    rw [decide_eq_true hop]
    obtain ⟨vs, hl, hA⟩ := X.inv.args
    obtain ⟨v, hv, a, rfl, hk⟩ := hA.get hx
    obtain ⟨us, hus, hul⟩ := key_isTup hk
    cases hxa : x.args with
    | nil => rw [hxa] at hm; simp [BM.fail] at hm
    | cons r₀ rs =>
      rw [hxa] at hm
      obtain ⟨u₀, hw⟩ := hul.getF (i := 0) (b := r₀) (by rw [hxa]; rfl)
      exact sRet (Subscript_ (Subscript_ (Attribute_any_ (nmL X rfl (getA (X.gd g.G) cls388 X.inv.attrs C.core.args (by k_is) rfl fun tk => nmL X rfl (itL hl hv (by rw [hA.len]; omega) (cInt fun u tk => itT hus hw rfl (by decide) (retW hR hm X))))))))
  replace hm := bmF hop hm
  rw [decide_eq_false hop]
  refine sNx ?_
  obtain ⟨ut, hut⟩ := C.full.tru
  obtain ⟨uf, huf⟩ := C.full.fls
  refine sIf (wpAny_isTrue_Compare1 (nmL X rfl (Attribute_any_ (nmL X rfl (getA (X.gd g.G) cls388 X.inv.attrs hut (by k_is) rfl fun tk => ?_)))))
  refine eqN (b := 1) (wpAny_truthy_bool ?_)
  by_cases h1 : t₀ = 1
  · replace hm := bmT h1 hm
    rw [decide_eq_true h1]
    exact sRet (Attribute_any_ (nmL X rfl (getA (X.gd g.G) cls388 X.inv.attrs huf (by k_is) rfl fun tk => retW hR hm X)))
  replace hm := bmF h1 hm
  rw [decide_eq_false h1]
  refine sNx ?_
  refine sIf (wpAny_isTrue_Compare1 (nmL X rfl (Attribute_any_ (nmL X rfl (getA (X.gd g.G) cls388 X.inv.attrs huf (by k_is) rfl fun tk => ?_)))))
  refine eqN (b := 2) (wpAny_truthy_bool ?_)
  by_cases h2 : t₀ = 2
  · replace hm := bmT h2 hm
    rw [decide_eq_true h2]
    exact sRet (Attribute_any_ (nmL X rfl (getA (X.gd g.G) cls388 X.inv.attrs hut (by k_is) rfl fun tk => retW hR hm X)))
  replace hm := bmF h2 hm
  rw [decide_eq_false h2]
  refine sNx ?_
  refine sRet (MethodCall_ (nmL X rfl (mB (X.gd g.G) cls388 X.inv.attrs (C.full.meths _ (by decide)) (args_cons (cStr fun u tk => args_cons (Tuple_ (argsS X (.cons (.loc rfl) .nil) (newTup X fun h' a X => ?_)))))))) 
  refine args_cons (nmG (X.gd g.G) hub (args_cons (cInt fun u tk => args_nil ⟨(X.gd g.G).K, ?_⟩)))
  have hm' : mk B ⟨.not, [t₀], 0, 0⟩ = (r, B') := Option.some.inj hm
  refine make_spec (tm := ⟨.not, [t₀], 0, 0⟩) C.toCx (X.gnd g.G) (hr'.less (by decide)) X.inv (isTup_key (X.obj _ (.head _)) (.cons ⟨_, rfl⟩ .nil)) hsz (by simp) fun h'' tk u hB' k e => ?_
  rw [hm'] at hB'
  have X := X.call (D' := bankWd prog w β B') rfl k e hB'
  rw [hm']
  exact hR _ _ _ X.inv X.keep X.ext

/-- tuple(list) -/
theorem tupleOf {vs : List Value} {a : Addr} {Q : Value → Shared → Prop} {s₀ : Heap} {D : Wd} {L : Addr} {m : Str → Option Value} {objs : List (Addr × Cell)} (X : W prog w h₀ s₀ D L h m objs) (hl : h.PlainList a vs.toArray) (hsz : vs.length ≤ 2 ^ 20)
    (q : ∀ h' k tk, W prog w h₀ s₀ D L h' m ((k, .tup vs) :: objs) → Q (.ref k) (St z h' tk)) : wpAny (model prog w) A (call (.type "tuple") [.ref a]) Q E (St z h t) :=
  call_tuple_list (s := St z h t) hl.isList (fun h' e => q _ _ _ ((X.grow e).push _ (c := .tup vs) (IsTup.new _ _))) (by simp only [List.size_toArray, sizeLine]; omega)

theorem wantM_same {s : Nat} : ∀ {l : List Nat} {B B' : List Tm} {r}, wantM s l B = some (r, B') → B = B' := by
  intro l
  induction l with
  | nil => intro B B' r e; exact (Prod.mk.inj (Option.some.inj e)).2
  | cons a l ih =>
    intro B B' r hr
    unfold wantM at hr
    obtain ⟨x, hx, hr⟩ := rd_bind hr
    split at hr
    · simp [BM.fail] at hr
    · exact ih hr

theorem and_of_spec {a : Addr} {vs : List Value} {l : List Nat} {B' : List Tm} {r : Nat} (C : Cf w h₀ β) (g : Gnd w h₀ h) (hr : Room A 3) (hB : BankAt prog w β B h) (hq : h.PlainList a vs.toArray) (ho : a ∉ β.own) (hl : All2 IsI vs l) (hm : andOf l B = some (r, B'))
    (hsz : B.length ≤ 2 ^ 23) (hls : l.length ≤ 2 ^ 20)
    (hR : ∀ h' tk u, BankAt prog w β B' h' → Keep β.own h h' → Ext h₀ h' → R (.ok (.ret (.int r u))) (St z h' tk)) :
    codeAny (model prog w) A (.call (.ref 308) ⟨[.ref β.inst, .ref a], []⟩) R (St z h t) := by
  unfold andOf at hm
  obtain ⟨⟨⟩, B1, hw, hm⟩ := bind_some hm
  obtain ⟨ub, hub⟩ := hBOOL (w := w)
  obtain rfl := wantM_same hw
  obtain ⟨ut, hut⟩ := C.full.tru
  refine enterF 308 [("self", .ref β.inst), ("some", .ref a)] g hr fun h₁ L A' tk en hns hr' => ?_
  have X := W.enter (prog := prog) (bankWd prog w β B) g hB en hns
  have hq' : Sq h₁ a vs := ⟨_, .inl ⟨rfl, hq.at fun o e => en.ext _ o e⟩⟩
  refine sExpr (MethodCall_ (nmL X rfl (mB (X.gd g.G) cls388 X.inv.attrs (C.full.meths _ (by decide)) (args_cons (nmL X rfl (args_cons (nmG (X.gd g.G) hub (args_cons (cStr fun u tk => args_nil ⟨(X.gd g.G).K, ?_⟩)))))))))
  refine want_all_spec C (X.gnd g.G) (hr'.less (by decide)) X.inv hq' ho hl (wantM_all hw) hsz fun h' tk hB' k e => ?_
  have X := X.call (D' := bankWd prog w β B) rfl k e hB'
  have hqa : h'.PlainList a vs.toArray := hq.at fun o e => X.keep _ _ ho e
  refine sIf (wpAny_isTrue_Compare1 (Call_ (nmB (X.gd g.G) (by k_is) boot_len (PyProof.Rows.callWith_builtin1 (argsS X (.cons (.loc rfl) .nil) (lenL hqa (by rw [hl.len]; omega) fun u tk => ?_))))))
  refine cInt fun u tk => eqN (b := 0) (wpAny_truthy_bool ?_)
  rw [hl.len]
  match l, hl, hm with
  | [], hl, hm =>
    exact sRet (Attribute_any_ (nmL X rfl (getA (X.gd g.G) cls388 X.inv.attrs hut (by k_is) rfl fun tk => retW hR hm X)))
  | [x], hl, hm =>
    refine sNx (sRet (wpAny_IfExp (wpAny_isTrue_Compare1 (Call_ (nmB (X.gd g.G) (by k_is) boot_len (PyProof.Rows.callWith_builtin1 (argsS X (.cons (.loc rfl) .nil) (lenL hqa (by rw [hl.len]; simp) fun u tk => ?_))))))))
    refine cInt fun u tk => eqN (b := 1) (wpAny_truthy_bool ?_)
    rw [hl.len]
    obtain ⟨u, hv⟩ := hl.getF (i := 0) rfl
    exact Subscript_ (nmL X rfl (cInt fun u tk => itL (i := 0) hqa hv (by rw [hl.len]; simp) (retW hR hm X)))
  | x :: y :: l, hl, hm =>
    refine sNx (sRet (wpAny_IfExp (wpAny_isTrue_Compare1 (Call_ (nmB (X.gd g.G) (by k_is) boot_len (PyProof.Rows.callWith_builtin1 (argsS X (.cons (.loc rfl) .nil) (lenL hqa (by rw [hl.len]; omega) fun u tk => ?_))))))))
    refine cInt fun u tk => eqN (b := 1) (wpAny_truthy_bool ?_)
    rw [hl.len]
    have e1 : decide ((x :: y :: l).length = 1) = false := by simp
    rw [e1]
    refine if0 ?_
    refine MethodCall_ (nmL X rfl (mB (X.gd g.G) cls388 X.inv.attrs (C.full.meths _ (by decide)) (args_cons (cStr fun u tk => args_cons ?_))))
    refine Call_ (nmB (X.gd g.G) (by k_is) PyProof.Rows.boot_tuple (PyProof.Rows.callWith_type1 (argsS X (.cons (.loc rfl) .nil) (tupleOf X hqa (by rw [hl.len]; exact hls) fun h' k tk X => ?_))))
    refine args_cons (nmG (X.gd g.G) hub (args_cons (cInt fun u tk => args_nil ⟨(X.gd g.G).K, ?_⟩)))
    have hm' : mk B ⟨.and, x :: y :: l, 0, 0⟩ = (r, B') := Option.some.inj hm
    refine make_spec (tm := ⟨.and, x :: y :: l, 0, 0⟩) C.toCx (X.gnd g.G) (hr'.less (by decide)) X.inv (isTup_key (X.obj _ (.head _)) hl) hsz (by simp) fun h'' tk u hB' k e => ?_
    rw [hm'] at hB'
    have X := X.call (D' := bankWd prog w β B') rfl k e hB'
    rw [hm']
    exact hR _ _ _ X.inv X.keep X.ext
end
end Mine

-- Fns2
namespace Mine
section
variable {prog : Program} {w : World} {β : Adr} {B : List Tm} {A : Around} {E : Value → Shared → Prop} {z : Shared} {h₀ h : Heap} {t : Nat} {R : Result → Shared → Prop} {n i : Nat} {u : Tok} {x : Tm}

theorem or_of_spec {a : Addr} {vs : List Value} {l : List Nat} {B' : List Tm} {r : Nat} (C : Cf w h₀ β) (g : Gnd w h₀ h) (hr : Room A 3) (hB : BankAt prog w β B h) (hq : h.PlainList a vs.toArray) (ho : a ∉ β.own) (hl : All2 IsI vs l) (hm : orOf l B = some (r, B'))
    (hsz : B.length ≤ 2 ^ 23) (hls : l.length ≤ 2 ^ 20)
    (hR : ∀ h' tk u, BankAt prog w β B' h' → Keep β.own h h' → Ext h₀ h' → R (.ok (.ret (.int r u))) (St z h' tk)) :
    codeAny (model prog w) A (.call (.ref 315) ⟨[.ref β.inst, .ref a], []⟩) R (St z h t) := by
  unfold orOf at hm
  obtain ⟨⟨⟩, B1, hw, hm⟩ := bind_some hm
  obtain ⟨ub, hub⟩ := hBOOL (w := w)
  obtain rfl := wantM_same hw
  obtain ⟨ut, hut⟩ := C.full.fls
  refine enterF 315 [("self", .ref β.inst), ("some", .ref a)] g hr fun h₁ L A' tk en hns hr' => ?_
  have X := W.enter (prog := prog) (bankWd prog w β B) g hB en hns
  have hq' : Sq h₁ a vs := ⟨_, .inl ⟨rfl, hq.at fun o e => en.ext _ o e⟩⟩
  refine sExpr (MethodCall_ (nmL X rfl (mB (X.gd g.G) cls388 X.inv.attrs (C.full.meths _ (by decide)) (args_cons (nmL X rfl (args_cons (nmG (X.gd g.G) hub (args_cons (cStr fun u tk => args_nil ⟨(X.gd g.G).K, ?_⟩)))))))))
  refine want_all_spec C (X.gnd g.G) (hr'.less (by decide)) X.inv hq' ho hl (wantM_all hw) hsz fun h' tk hB' k e => ?_
  have X := X.call (D' := bankWd prog w β B) rfl k e hB'
  have hqa : h'.PlainList a vs.toArray := hq.at fun o e => X.keep _ _ ho e
  refine sIf (wpAny_isTrue_Compare1 (Call_ (nmB (X.gd g.G) (by k_is) boot_len (PyProof.Rows.callWith_builtin1 (argsS X (.cons (.loc rfl) .nil) (lenL hqa (by rw [hl.len]; omega) fun u tk => ?_))))))
  refine cInt fun u tk => eqN (b := 0) (wpAny_truthy_bool ?_)
  rw [hl.len]
  match l, hl, hm with
  | [], hl, hm =>
    exact sRet (Attribute_any_ (nmL X rfl (getA (X.gd g.G) cls388 X.inv.attrs hut (by k_is) rfl fun tk => retW hR hm X)))
  | [x], hl, hm =>
    refine sNx (sRet (wpAny_IfExp (wpAny_isTrue_Compare1 (Call_ (nmB (X.gd g.G) (by k_is) boot_len (PyProof.Rows.callWith_builtin1 (argsS X (.cons (.loc rfl) .nil) (lenL hqa (by rw [hl.len]; simp) fun u tk => ?_))))))))
    refine cInt fun u tk => eqN (b := 1) (wpAny_truthy_bool ?_)
    rw [hl.len]
    obtain ⟨u, hv⟩ := hl.getF (i := 0) rfl
    exact Subscript_ (nmL X rfl (cInt fun u tk => itL (i := 0) hqa hv (by rw [hl.len]; simp) (retW hR hm X)))
  | x :: y :: l, hl, hm =>
    refine sNx (sRet (wpAny_IfExp (wpAny_isTrue_Compare1 (Call_ (nmB (X.gd g.G) (by k_is) boot_len (PyProof.Rows.callWith_builtin1 (argsS X (.cons (.loc rfl) .nil) (lenL hqa (by rw [hl.len]; omega) fun u tk => ?_))))))))
    refine cInt fun u tk => eqN (b := 1) (wpAny_truthy_bool ?_)
    rw [hl.len]
    have e1 : decide ((x :: y :: l).length = 1) = false := by simp
    rw [e1]
    refine if0 ?_
    refine MethodCall_ (nmL X rfl (mB (X.gd g.G) cls388 X.inv.attrs (C.full.meths _ (by decide)) (args_cons (cStr fun u tk => args_cons ?_))))
    refine Call_ (nmB (X.gd g.G) (by k_is) PyProof.Rows.boot_tuple (PyProof.Rows.callWith_type1 (argsS X (.cons (.loc rfl) .nil) (tupleOf X hqa (by rw [hl.len]; exact hls) fun h' k tk X => ?_))))
    refine args_cons (nmG (X.gd g.G) hub (args_cons (cInt fun u tk => args_nil ⟨(X.gd g.G).K, ?_⟩)))
    have hm' : mk B ⟨.or, x :: y :: l, 0, 0⟩ = (r, B') := Option.some.inj hm
    refine make_spec (tm := ⟨.or, x :: y :: l, 0, 0⟩) C.toCx (X.gnd g.G) (hr'.less (by decide)) X.inv (isTup_key (X.obj _ (.head _)) hl) hsz (by simp) fun h'' tk u hB' k e => ?_
    rw [hm'] at hB'
    have X := X.call (D' := bankWd prog w β B') rfl k e hB'
    rw [hm']
    exact hR _ _ _ X.inv X.keep X.ext

theorem eq_spec {a b : Nat} {u₁ u₂ : Tok} {B' : List Tm} {r : Nat} (C : Cf w h₀ β) (g : Gnd w h₀ h) (hr : Room A 3) (hB : BankAt prog w β B h) (hm : eqM a b B = some (r, B')) (hsz : B.length ≤ 2 ^ 23)
    (hR : ∀ h' tk u, BankAt prog w β B' h' → Keep β.own h h' → Ext h₀ h' → R (.ok (.ret (.int r u))) (St z h' tk)) :
    codeAny (model prog w) A (.call (.ref 343) ⟨[.ref β.inst, .int a u₁, .int b u₂], []⟩) R (St z h t) := by
  unfold eqM at hm
  obtain ⟨x, hx, hm⟩ := rd_bind hm
  obtain ⟨⟨⟩, B1, hw, hm⟩ := bind_some hm
  obtain rfl := wantM_same hw
  obtain ⟨y, hy, hys⟩ := wantM_all hw b (by simp)
  obtain ⟨ub, hub⟩ := hBOOL (w := w)
  obtain ⟨ut, hut⟩ := C.full.tru
  refine enterF 343 [("self", .ref β.inst), ("a", .int a u₁), ("b", .int b u₂)] g hr fun h₁ L A' tk en hns hr' => ?_
  have X := W.enter (prog := prog) (bankWd prog w β B) g hB en hns
  obtain ⟨vs, hl, hO⟩ := X.inv.sorts
  obtain ⟨u', hv⟩ := hO.getF hx
  refine sExpr (MethodCall_ (nmL X rfl (mB (X.gd g.G) cls388 X.inv.attrs (C.full.meths _ (by decide)) (args_cons (nmL X rfl (args_cons (Subscript_ (Attribute_any_ (nmL X rfl (getA (X.gd g.G) cls388 X.inv.attrs C.core.sorts (by k_is) rfl fun tk => nmL X rfl (itL hl hv (by rw [hO.len]; omega) ?_)))))))))))
  refine args_cons (cStr fun u tk => args_nil ⟨(X.gd g.G).K, ?_⟩)
  refine want_spec C (X.gnd g.G) (hr'.less (by decide)) X.inv hy hys hsz fun h' tk e => ?_
  have X := X.grow e
  refine sIf (wpAny_isTrue_Compare1 (nmL X rfl (nmL X rfl (eqN (wpAny_truthy_bool ?_)))))
  by_cases hab : a = b
  · rw [decide_eq_true hab]
    replace hm := bmT hab hm
    exact sRet (Attribute_any_ (nmL X rfl (getA (X.gd g.G) cls388 X.inv.attrs hut (by k_is) rfl fun tk => retW hR hm X)))
  rw [decide_eq_false hab]
  replace hm := bmF hab hm
  refine sNx ?_
  refine sRet (MethodCall_ (nmL X rfl (mB (X.gd g.G) cls388 X.inv.attrs (C.full.meths _ (by decide)) (args_cons (cStr fun u tk => args_cons ?_)))))
  refine Tuple_ (args_cons (Call_ (nmB (X.gd g.G) (by k_is) PyProof.Rows.boot_min (PyProof.Rows.callWith_builtin1 (argsS X (.cons (.loc rfl) (.cons (.loc rfl) .nil)) (minN hr'.hh fun h' tk u e => ?_))))))
  have X := X.grow e
  refine args_cons (Call_ (nmB (X.gd g.G) (by k_is) PyProof.Rows.boot_max (PyProof.Rows.callWith_builtin1 (argsS X (.cons (.loc rfl) (.cons (.loc rfl) .nil)) (maxN hr'.hh fun h' tk u e => ?_)))))
  have X := X.grow e
  refine args_nil (newTup X fun h' k X => ?_)
  refine args_cons (nmG (X.gd g.G) hub (args_cons (cInt fun u tk => args_nil ⟨(X.gd g.G).K, ?_⟩)))
  have hm' : mk B ⟨.eq, [min a b, max a b], 0, 0⟩ = (r, B') := Option.some.inj hm
  refine make_spec (tm := ⟨.eq, [min a b, max a b], 0, 0⟩) C.toCx (X.gnd g.G) (hr'.less (by decide)) X.inv (isTup_key (X.obj _ (.head _)) (.cons ⟨_, rfl⟩ (.cons ⟨_, rfl⟩ .nil))) hsz (by simp) fun h'' tk u hB' k e => ?_
  rw [hm'] at hB'
  have X := X.call (D' := bankWd prog w β B') rfl k e hB'
  rw [hm']
  exact hR _ _ _ X.inv X.keep X.ext

theorem iff_spec {a b : Nat} {u₁ u₂ : Tok} {B' : List Tm} {r : Nat} (C : Cf w h₀ β) (g : Gnd w h₀ h) (hr : Room A 4) (hB : BankAt prog w β B h) (hm : iffM a b B = some (r, B')) (hsz : B.length ≤ 2 ^ 23)
    (hR : ∀ h' tk u, BankAt prog w β B' h' → Keep β.own h h' → Ext h₀ h' → R (.ok (.ret (.int r u))) (St z h' tk)) :
    codeAny (model prog w) A (.call (.ref 336) ⟨[.ref β.inst, .int a u₁, .int b u₂], []⟩) R (St z h t) := by
  unfold iffM at hm
  obtain ⟨⟨⟩, B1, hw, hm⟩ := bind_some hm
  obtain rfl := wantM_same hw
  obtain ⟨ub, hub⟩ := hBOOL (w := w)
  refine enterF 336 [("self", .ref β.inst), ("a", .int a u₁), ("b", .int b u₂)] g hr fun h₁ L A' tk en hns hr' => ?_
  have X := W.enter (prog := prog) (bankWd prog w β B) g hB en hns
  refine sExpr (MethodCall_ (nmL X rfl (mB (X.gd g.G) cls388 X.inv.attrs (C.full.meths _ (by decide)) (args_cons (Tuple_ (argsS X (.cons (.loc rfl) (.cons (.loc rfl) .nil)) (newTup X fun h' k X => ?_))))))) 
  refine args_cons (nmG (X.gd g.G) hub (args_cons (cStr fun u tk => args_nil ⟨(X.gd g.G).K, ?_⟩)))
  refine want_all_spec (vs := [.int a u₁, .int b u₂]) C (X.gnd g.G) (hr'.less (by decide)) X.inv ⟨_, .inr ⟨rfl, X.obj _ (.head _)⟩⟩ (X.fresh _ mm).2 (.cons ⟨_, rfl⟩ (.cons ⟨_, rfl⟩ .nil)) (wantM_all hw) hsz fun h' tk hB' k e => ?_
  have X := X.call (D' := bankWd prog w β B) rfl k e hB'
  refine sRet (MethodCall_ (nmL X rfl (mB (X.gd g.G) cls388 X.inv.attrs (C.full.meths _ (by decide)) (argsS X (.cons (.loc rfl) (.cons (.loc rfl) .nil)) ⟨(X.gd g.G).K, ?_⟩)))) 
  refine eq_spec C (X.gnd g.G) (hr'.less (by decide)) X.inv hm hsz fun h'' tk u hB' k e => ?_
  have X := X.call (D' := bankWd prog w β B') rfl k e hB'
  exact hR _ _ _ X.inv X.keep X.ext

theorem ite_spec {c a b : Nat} {u₀ u₁ u₂ : Tok} {B' : List Tm} {r : Nat} (C : Cf w h₀ β) (g : Gnd w h₀ h) (hr : Room A 3) (hB : BankAt prog w β B h) (hm : iteM c a b B = some (r, B')) (hsz : B.length ≤ 2 ^ 23)
    (hR : ∀ h' tk u, BankAt prog w β B' h' → Keep β.own h h' → Ext h₀ h' → R (.ok (.ret (.int r u))) (St z h' tk)) :
    codeAny (model prog w) A (.call (.ref 357) ⟨[.ref β.inst, .int c u₀, .int a u₁, .int b u₂], []⟩) R (St z h t) := by
  unfold iteM at hm
  obtain ⟨⟨⟩, B1, hw, hm⟩ := bind_some hm
  obtain rfl := wantM_same hw
  obtain ⟨x, hx, hm⟩ := rd_bind hm
  obtain ⟨⟨⟩, B1, hw2, hm⟩ := bind_some hm
  obtain rfl := wantM_same hw2
  obtain ⟨ub, hub⟩ := hBOOL (w := w)
  obtain ⟨y, hy, hys⟩ := wantM_all hw c (by simp)
  obtain ⟨y₂, hy₂, hys₂⟩ := wantM_all hw2 b (by simp)
  refine enterF 357 [("self", .ref β.inst), ("c", .int c u₀), ("a", .int a u₁), ("b", .int b u₂)] g hr fun h₁ L A' tk en hns hr' => ?_
  have X := W.enter (prog := prog) (bankWd prog w β B) g hB en hns
  refine sExpr (MethodCall_ (nmL X rfl (mB (X.gd g.G) cls388 X.inv.attrs (C.full.meths _ (by decide)) (args_cons (nmL X rfl (args_cons (nmG (X.gd g.G) hub (args_cons (cStr fun u tk => args_nil ⟨(X.gd g.G).K, ?_⟩)))))))))
  refine want_spec C (X.gnd g.G) (hr'.less (by decide)) X.inv hy hys hsz fun h' tk e => ?_
  have X := X.grow e
  obtain ⟨vs, hl, hO⟩ := X.inv.sorts
  obtain ⟨u', hv⟩ := hO.getF hx
  refine sExpr (MethodCall_ (nmL X rfl (mB (X.gd g.G) cls388 X.inv.attrs (C.full.meths _ (by decide)) (args_cons (nmL X rfl (args_cons (Subscript_ (Attribute_any_ (nmL X rfl (getA (X.gd g.G) cls388 X.inv.attrs C.core.sorts (by k_is) rfl fun tk => nmL X rfl (itL hl hv (by rw [hO.len]; omega) ?_)))))))))))
  refine args_cons (cStr fun u tk => args_nil ⟨(X.gd g.G).K, ?_⟩)
  refine want_spec C (X.gnd g.G) (hr'.less (by decide)) X.inv hy₂ hys₂ hsz fun h' tk e => ?_
  have X := X.grow e
  refine sRet (MethodCall_ (nmL X rfl (mB (X.gd g.G) cls388 X.inv.attrs (C.full.meths _ (by decide)) (args_cons (cStr fun u tk => args_cons ?_)))))
  refine Tuple_ (argsS X (.cons (.loc rfl) (.cons (.loc rfl) (.cons (.loc rfl) .nil))) (newTup X fun h' k X => ?_))
  obtain ⟨vs, hl, hO⟩ := X.inv.sorts
  obtain ⟨u', hv⟩ := hO.getF hx
  refine args_cons (Subscript_ (Attribute_any_ (nmL X rfl (getA (X.gd g.G) cls388 X.inv.attrs C.core.sorts (by k_is) rfl fun tk => nmL X rfl (itL hl hv (by rw [hO.len]; omega) (args_cons (cInt fun u tk => args_nil ⟨(X.gd g.G).K, ?_⟩)))))))
  have hm' : mk B ⟨.ite, [c, a, b], x.sort, 0⟩ = (r, B') := Option.some.inj hm
  refine make_spec (tm := ⟨.ite, [c, a, b], x.sort, 0⟩) C.toCx (X.gnd g.G) (hr'.less (by decide)) X.inv (isTup_key (X.obj _ (.head _)) (.cons ⟨_, rfl⟩ (.cons ⟨_, rfl⟩ (.cons ⟨_, rfl⟩ .nil)))) hsz (by simp) fun h'' tk u hB' k e => ?_
  rw [hm'] at hB'
  have X := X.call (D' := bankWd prog w β B') rfl k e hB'
  rw [hm']
  exact hR _ _ _ X.inv X.keep X.ext
end
end Mine

-- RevIt
namespace Mine

theorem owner_rev : Manifest.owners.lookup (String.ofList ['d', 'e', 's', 'r', 'e', 'v', 'e', 'r'].reverse) = some Manifest.sig_reversed := by kernel_rfl
theorem slot_rev_next : Slot "reversed" "__next__" "reversed.__next__" :=
  .of (owner := "reversed") (n := "__next__") (by rw [typeLookup_type, builtinLookup_eq_fast]; kernel_rfl) (by decide +kernel) (by decide +kernel) (by decide +kernel)
    (by first | exact .inl (by decide +kernel) | exact .inr (by decide +kernel)) (by rw [isSubtype_type]; kernel_rfl)
theorem entry_rev_next : entryFor table "reversed.__next__" = some Builtin.«reversed.__next__» := entryFor_of_tree (by kernel_rfl)
theorem args_rev_next_1 (a : Value) : argsOk "reversed.__next__" ⟨[a], []⟩ := by
  unfold argsOk; rw [signature?_of (id := "reversed.__next__") (n := ['_', '_', 't', 'x', 'e', 'n', '_', '_']) (o := ['d', 'e', 's', 'r', 'e', 'v', 'e', 'r']) (by kernel_rfl) owner_rev]; kernel_rfl
theorem slot_rev_iter : Slot "reversed" "__iter__" "reversed.__iter__" :=
  .of (owner := "reversed") (n := "__iter__") (by rw [typeLookup_type, builtinLookup_eq_fast]; kernel_rfl) (by decide +kernel) (by decide +kernel) (by decide +kernel)
    (by first | exact .inl (by decide +kernel) | exact .inr (by decide +kernel)) (by rw [isSubtype_type]; kernel_rfl)
theorem args_rev_iter_1 (a : Value) : argsOk "reversed.__iter__" ⟨[a], []⟩ := by
  unfold argsOk; rw [signature?_of (id := "reversed.__iter__") (n := ['_', '_', 'r', 'e', 't', 'i', '_', '_']) (o := ['d', 'e', 's', 'r', 'e', 'v', 'e', 'r']) (by kernel_rfl) owner_rev]; kernel_rfl
theorem entry_rev_iter : entryFor table "reversed.__iter__" = some Builtin.«dict_keyiterator.__iter__» :=
  entryFor_alias (id' := "dict_keyiterator.__iter__") (by kernel_rfl) (by first | rfl | decide +kernel | (unfold String.splitOn; simp +decide [String.splitOnAux])) (by decide +kernel) (by kernel_rfl)
theorem slot_rev_hint : Slot "reversed" "__length_hint__" "reversed.__length_hint__" :=
  .of (owner := "reversed") (n := "__length_hint__") (by rw [typeLookup_type, builtinLookup_eq_fast]; kernel_rfl) (by decide +kernel) (by decide +kernel) (by decide +kernel)
    (by first | exact .inl (by decide +kernel) | exact .inr (by decide +kernel)) (by rw [isSubtype_type]; kernel_rfl)
theorem entry_rev_hint : entryFor table "reversed.__length_hint__" = some Builtin.«reversed.__length_hint__» := entryFor_of_tree (by kernel_rfl)
theorem args_rev_hint_1 (a : Value) : argsOk "reversed.__length_hint__" ⟨[a], []⟩ := by
  unfold argsOk; kernel_rfl
theorem rev_no_len : typeLookup (.type "reversed") "__len__" = pure none := by rw [typeLookup_type, builtinLookup_eq_fast]; kernel_rfl
theorem lri_no_len : typeLookup (.type "list_reverseiterator") "__len__" = pure none := by rw [typeLookup_type, builtinLookup_eq_fast]; kernel_rfl
theorem lri_hint : typeLookup (.type "list_reverseiterator") "__length_hint__" = pure (some (.builtin "list_reverseiterator.__length_hint__")) := by rw [typeLookup_type, builtinLookup_eq_fast]; kernel_rfl
theorem tup_no_rev : typeLookup (.type "tuple") "__reversed__" = pure none := by rw [typeLookup_type, builtinLookup_eq_fast]; kernel_rfl
end Mine

-- Rev2
namespace Mine

theorem slot_rev_init : Slot "reversed" "__init__" "object.__init__" :=
  .of (owner := "object") (n := "__init__") (by rw [typeLookup_type, builtinLookup_eq_fast]; kernel_rfl) (by decide +kernel) (by decide +kernel) (by decide +kernel)
    (by first | exact .inl (by decide +kernel) | exact .inr (by decide +kernel)) (by rw [isSubtype_type]; kernel_rfl)
theorem called_reversed : TypeCalled "reversed" "reversed.__new__" "object.__init__" :=
  ⟨by decide +kernel, by decide +kernel, ⟨_, _, F.mro_reversed⟩, F.made_reversed, by decide +kernel, by rw [isSubtype_type]; kernel_rfl, slot_rev_init⟩
theorem tup_no_dict : isSubtype (.type "tuple") (.type "dict") = pure false := by rw [isSubtype_type]; kernel_rfl

noncomputable def rvS (kd : String) (a : Addr) (n : Nat) : Obj → Prop := fun o => o.cls = .type kd ∧ o.data = .fields #[.ref a, rawInt ((n : Int) - 1)]
noncomputable def RvK (kd : String) (h : Heap) (a : Addr) (vs : List Value) : Prop := (kd = "list_reverseiterator" ∧ h.PlainList a vs.toArray) ∨ (kd = "reversed" ∧ IsTup h a vs.toArray)
theorem RvK.to {kd : String} {h h' : Heap} {a : Addr} {vs : List Value} (x : RvK kd h a vs) (k : ∀ o, h.get? a = some o → h'.get? a = some o) : RvK kd h' a vs :=
  x.elim (fun ⟨e, y⟩ => .inl ⟨e, y.at k⟩) (fun ⟨e, o, y, r⟩ => .inr ⟨e, o, k _ y, r⟩)
theorem rvS_noTup {kd : String} {a : Addr} {k : Nat} : ∀ o, rvS kd a k o → ¬ isTupObj o := fun o x y => by
  obtain ⟨_, items, n, e⟩ := y
  rw [x.2] at e; cases e
theorem RvK.live {kd : String} {h : Heap} {a : Addr} {vs : List Value} (x : RvK kd h a vs) : ∃ o, h.get? a = some o ∧ (∀ kd b k, ¬ rvS kd b k o) := by
  rcases x with ⟨rfl, n, e⟩ | ⟨rfl, o, e, c, n, d⟩
  · exact ⟨_, e, fun kd b k q => by have := q.2; cases this⟩
  · exact ⟨o, e, fun kd b k q => by have := q.2; rw [d] at this; cases this⟩
theorem RvK.ne {kd kd' : String} {h : Heap} {a b it : Addr} {k : Nat} {vs : List Value} (x : RvK kd h a vs) (y : ∃ o, h.get? it = some o ∧ rvS kd' b k o) : a ≠ it :=
  let ⟨_, e, n⟩ := x.live; let ⟨_, f, q⟩ := y; ne_get e f fun r => n kd' b k (r ▸ q)

section
variable {prog : Program} {w : World} {A : Around} {E : Value → Shared → Prop}

theorem new_rev_tup {s : Shared} {a : Addr} {items : Array Value} {R : Result → Shared → Prop} (ht : IsTup s.heap a items) (hsz : items.size ≤ 2 ^ 24)
    (q : ∀ tk, R (.ok (.ret (.ref s.heap.objs.size))) { s with heap := s.heap.push { cls := .type "reversed", data := .fields #[.ref a, rawInt ((items.size : Int) - 1)] }, toks := tk }) :
    wpAny (model prog w) A (Builtin.«reversed.__new__» ⟨[.type "reversed", .ref a], []⟩) (fun fin s' => ∃ v, fin = .done (.ret v) ∧ R (.ok (.ret v)) s') (fun e s' => R (.error e) s') s := by
  have hT : s.TypeIs (.ref a) "tuple" := ht.typeIs
  unfold Builtin.«reversed.__new__»
  refine wpAny_bind (wpAny_of_eq (newClass_reversed _) ?_)
  try dsimp only
  refine wpAny_bind (wpAny_of_eq (a := ()) (by first | rfl | kernel_rfl) ?_)
  refine wpAny_bind (wpAny_of_eq (a := ()) (by first | rfl | kernel_rfl) ?_)
  try dsimp only
  refine wpAny_bind (wpAny_specialOf hT tup_no_rev ?_)
  try dsimp only
  refine wpAny_bind ?_
  wp_delta
  refine wpAny_bind (wpAny_isInstance (b := false) hT tup_no_dict ?_)
  rw [if_neg Bool.false_ne_true]
  refine wpAny_bind (wpAny_specialOf hT slot_tuple_getitem.lookup ?_)
  rw [show (["tuple.__getitem__", "str.__getitem__", "bytes.__getitem__", "bytearray.__getitem__", "memoryview.__getitem__", "numpy.ndarray.__getitem__", "sqlite3.Row.__getitem__"] : List String) = ["tuple.__getitem__", "str.__getitem__", "bytes.__getitem__", "bytearray.__getitem__", "memoryview.__getitem__", "numpy.ndarray.__getitem__", "sqlite3.Row.__getitem__"] from rfl]
  refine wpAny_ite_split (fun _ => ?_) (fun hab => absurd (by decide +kernel) hab)
  refine wpAny_pure ?_
  rw [if_neg (by decide)]
  refine wpAny_bind (PyProof.Rows.len_tuple ht (by omega) ?_)
  refine wpAny_bind (wpAny_pure ?_)
  show wpAny _ _ (newObj (.type "reversed") (.fields #[.ref a, rawInt ((items.size : Int) - 1)]) >>= _) _ _ _
  exact wpAny_bind (wpAny_newObj_type (wpAny_pure ⟨_, rfl, q _⟩))

theorem call_reversed_tup {s : Shared} {a : Addr} {items : Array Value} {Q : Value → Shared → Prop} (ht : IsTup s.heap a items) (hsz : items.size ≤ 2 ^ 24)
    (q : ∀ tk, Q (.ref s.heap.objs.size) { s with heap := s.heap.push { cls := .type "reversed", data := .fields #[.ref a, rawInt ((items.size : Int) - 1)] }, toks := tk }) :
    wpAny (model prog w) A (call (.type "reversed") [.ref a]) Q E s := by
  refine callType_newIn (S := fun A R s' => s' = s ∧ ∀ tk, R (.ok (.ret (.ref s.heap.objs.size))) { s with heap := s.heap.push { cls := .type "reversed", data := .fields #[.ref a, rawInt ((items.size : Int) - 1)] }, toks := tk })
    called_reversed (by decide) (F.typeCall_reversed_1 _) (F.newCall_reversed_1 _) (fun obj => F.args_object_init_2 obj _) F.entry_reversed_new (.of_wp fun A R s' h => ?_) ⟨rfl, fun tk => ⟨⟨_, Heap.get?_push_size _ rfl, rfl⟩, q tk⟩⟩
  obtain ⟨rfl, h⟩ := h
  exact new_rev_tup ht hsz h

theorem fitsIdx {n : Nat} (h : n ≤ 2 ^ 24) : Builtin.List.listFitsIndex (n : Int) = true := by
  have e1 : (-(2 ^ 63 : Int) ≤ (n : Int)) := by omega
  have e2 : ((n : Int) < 2 ^ 63) := by omega
  unfold Builtin.List.listFitsIndex
  rw [decide_eq_true e1, decide_eq_true e2]; rfl
theorem notLong {n : Nat} (h : n ≤ 2 ^ 24) : Builtin.List.listTooLong n = false := by
  unfold Builtin.List.listTooLong sizeLine
  exact decide_eq_false (by omega)
theorem seqIdx {n m : Nat} (h : n < m) : seqIndex? (n : Int) m = some n := by
  unfold seqIndex?
  have e1 : ¬ ((n : Int) < 0) := by omega
  simp [e1, h]
theorem rev_next_item {s : Shared} {it a : Addr} {n : Nat} {items : Array Value} {x : Value} {Q : Option Value → Shared → Prop} (hit : ∃ o, s.heap.get? it = some o ∧ rvS "reversed" a (n + 1) o) (ha : IsTup s.heap a items) (hx : items[n]? = some x) (hsz : items.size ≤ 2 ^ 24)
    (hQ : ∀ h' tk, (∃ o, h'.get? it = some o ∧ rvS "reversed" a n o) → Heap.SameBut it s.heap h' → Q (some x) { s with heap := h', toks := tk }) : wpAny (model prog w) A (pyNext (.ref it)) Q E s := by
  obtain ⟨o, ho, hc, hd⟩ := hit
  have hT : s.TypeIs (.ref a) "tuple" := ha.typeIs
  have hlt : n < items.size := (Array.getElem?_eq_some_iff.mp hx).1
  have e1 : (((n + 1 : Nat) : Int) - 1) = (n : Int) := by omega
  rw [e1] at hd
  unfold pyNext
  refine wpAny_bind (wpAny_attempt (wpAny_callSpecial?_slot (name := Str.ofString "__next__") ⟨o, ho, hc⟩ slot_rev_next
    (wpAny_call_entry slot_rev_next ⟨o, ho, hc⟩ entry_rev_next ?_ (args_rev_next_1 _))))
  unfold Builtin.«reversed.__next__»
  refine wpAny_bind (wpAny_of_eq (a := (Value.ref it, [])) rfl ?_)
  try dsimp only
  refine wpAny_bind (wpAny_field ho hd (x := .ref a) rfl ?_)
  refine wpAny_bind (wpAny_field ho hd (x := rawInt (n : Int)) rfl ?_)
  show wpAny _ _ (if (n : Int) < 0 then _ else _) _ _ s
  rw [if_neg (by omega)]
  refine wpAny_bind (wpAny_specialOf hT slot_tuple_getitem.lookup ?_)
  rw [if_neg (by decide)]
  refine wpAny_bind (wpAny_mkInt ?_)
  refine wpAny_bind (wpAny_attempt (PyProof.Rows.getItem_tuple (j := n) ha (by omega) (by omega) (seqIdx hlt) hx ?_))
  refine wpAny_bind (wpAny_field ho hd (x := rawInt (n : Int)) rfl ?_)
  refine wpAny_bind (wpAny_setField ho hd (by simp) ?_)
  refine wpAny_pure ⟨x, rfl, wpAny_pure (hQ _ _ ?_ (Heap.SameBut.update ..))⟩
  exact ⟨_, Heap.get?_update_self _ ho (Obj.isFreed_of_fields (Obj.data_mapFields hd _)), (Obj.cls_mapFields ..).trans hc, by
    rw [Obj.data_mapFields hd]; simp⟩

theorem rev_next_end {s : Shared} {it a : Addr} {Q : Option Value → Shared → Prop} (hh : A.handled = none) (hit : ∃ o, s.heap.get? it = some o ∧ rvS "reversed" a 0 o)
    (hQ : ∀ h', Heap.ExtBut it s.heap h' → Q none { s with heap := h' }) : wpAny (model prog w) A (pyNext (.ref it)) Q E s := by
  obtain ⟨o, ho, hc, hd⟩ := hit
  unfold pyNext
  refine wpAny_bind (wpAny_attempt (wpAny_callSpecial?_slot (name := Str.ofString "__next__") ⟨o, ho, hc⟩ slot_rev_next
    (wpAny_call_entry slot_rev_next ⟨o, ho, hc⟩ entry_rev_next ?_ (args_rev_next_1 _))))
  unfold Builtin.«reversed.__next__»
  refine wpAny_bind (wpAny_of_eq (a := (Value.ref it, [])) rfl ?_)
  try dsimp only
  refine wpAny_bind (wpAny_field ho hd (x := .ref a) rfl ?_)
  refine wpAny_bind (wpAny_field ho hd (x := rawInt (-1)) rfl ?_)
  show wpAny _ _ (if (-1 : Int) < 0 then _ else _) _ _ s
  rw [if_pos (by decide)]
  refine wpAny_bind (wpAny_rule ?_)
  have hu1 := Heap.get?_update_self (Obj.mapFields (·.setIfInBounds 1 (rawInt (-1)))) ho (Obj.isFreed_of_fields (Obj.data_mapFields hd _))
  refine wpAny_bind ?_
  wp_delta
  refine wpAny_bind (wpAny_setField ho hd (by simp) ?_)
  refine wpAny_setField hu1 (Obj.data_mapFields hd _) (by simp) ?_
  refine wpAny_bind ?_
  unfold Builtin.SmallTypes.stopIteration
  refine wpAny_bind ?_
  simp only [newExc, newTuple]
  refine wpAny_bind (wpAny_newObj_type ?_ (by size_fits))
  refine wpAny_bind (m := firstArgMember _ _) (wpAny_of_eq (a := Value.none) (by first | rfl | (simp only [firstArgMember]; rfl)) ?_)
  refine wpAny_newObj_type ?_ (by size_fits)
  simp only [raiseNew]
  refine wpAny_bind (wpAny_handled ?_)
  first | rw [show A.in1.handled = none from hh] | rw [hh]
  refine wpAny_bind (wpAny_pure (wpAny_throw ?_))
  refine wpAny_bind (wpAny_isInstance (T := "StopIteration") (b := true) ⟨_, Heap.get?_push_size _ rfl, rfl⟩ isSubtype_stop ?_)
  refine wpAny_pure (hQ _ fun b o hb e => ?_)
  exact Heap.get?_push_of_some _ (Heap.get?_push_of_some _ ((Heap.get?_update_other _ _ (Ne.symm hb)).trans ((Heap.get?_update_other _ _ (Ne.symm hb)).trans e)))

theorem rev_iter {s : Shared} {it : Addr} {o : Obj} {Q : Value → Shared → Prop} (ho : s.heap.get? it = some o) (hc : o.cls = .type "reversed") (q : Q (.ref it) s) : wpAny (model prog w) A (pyIter (.ref it)) Q E s := by
  refine wpAny_pyIter_slot ⟨o, ho, hc⟩ slot_rev_iter (wpAny_call_entry slot_rev_iter ⟨o, ho, hc⟩ entry_rev_iter ?_ (args_rev_iter_1 _))
  show wpAny _ _ (ret (.ref it)) _ _ s
  exact wpAny_pure ⟨_, rfl, "reversed", _, ⟨o, ho, hc⟩, slot_rev_next.lookup, q⟩

theorem rev_hint {s : Shared} {it a : Addr} {n : Nat} {items : Array Value} {Q : Bool → Shared → Prop} (hit : ∃ o, s.heap.get? it = some o ∧ rvS "reversed" a n o) (ha : IsTup s.heap a items) (hn : n = items.size) (hsz : items.size ≤ 2 ^ 24)
    (q : ∀ b tk, Q b { s with toks := tk }) : wpAny (model prog w) A (Builtin.List.listLengthHint (.ref it)) Q E s := by
  obtain ⟨o, ho, hc, hd⟩ := hit
  subst hn
  have hT : s.TypeIs (.ref it) "reversed" := ⟨o, ho, hc⟩
  unfold Builtin.List.listLengthHint
  refine wpAny_bind (wpAny_specialOf hT rev_no_len ?_)
  wp_delta
  refine wpAny_bind (wpAny_specialOf hT slot_rev_hint.lookup ?_)
  generalize hid : ("reversed.__length_hint__" : String) = id0
  wp_delta
  rw [show splitId id0 = some ("reversed", "__length_hint__") from by subst hid; decide +kernel]
  subst hid
  refine wpAny_bind (wpAny_isInstance (b := true) hT F.sub_reversed_self ?_)
  refine wpAny_ite_split (fun hab => absurd hab (by decide)) (fun _ => ?_)
  refine wpAny_ite_split (fun hab => absurd hab (by decide +kernel)) (fun _ => ?_)
  refine wpAny_bind (wpAny_rule ?_)
  refine wpAny_bind (wpAny_of_eq (slot_rev_hint.bind _) ?_)
  try dsimp only
  refine wpAny_bind (wpAny_attempt (wpAny_call_entry slot_rev_hint hT entry_rev_hint ?_ (args_rev_hint_1 _)))
  unfold Builtin.«reversed.__length_hint__»
  refine wpAny_bind (wpAny_of_eq (a := Value.ref it) rfl ?_)
  try dsimp only
  refine wpAny_bind (wpAny_field ho hd (x := .ref a) rfl ?_)
  rw [if_neg (show ¬ ((Value.ref a == Value.none) = true) from Bool.false_ne_true)]
  refine wpAny_bind (PyProof.Rows.len_tuple ha (by omega) ?_)
  refine wpAny_bind (wpAny_pure ?_)
  refine wpAny_bind (wpAny_field ho hd (x := rawInt ((items.size : Int) - 1)) rfl ?_)
  show wpAny _ _ (if (items.size : Int) < (items.size : Int) - 1 + 1 then _ else _) _ _ _
  rw [if_neg (by omega)]
  show wpAny _ _ (mkInt ((items.size : Int) - 1 + 1) >>= _) _ _ _
  refine wpAny_bind (wpAny_mkInt (wpAny_pure ⟨_, rfl, ?_⟩))
  try dsimp only
  refine wpAny_bind (wpAny_pure ?_)
  try dsimp only
  have e : (items.size : Int) - 1 + 1 = items.size := by omega
  rw [e]
  rw [fitsIdx hsz, Int.toNat_natCast, notLong hsz]
  have e3 : ¬ ((items.size : Int) < 0) := by omega
  simp only [e3, Bool.not_true, Bool.false_eq_true, if_false]
  exact wpAny_pure (q _ _)
end
end Mine

-- Rev3
namespace Mine

theorem entry_list_init' : entryFor table "list.__init__" = some Builtin.«list.__init__» := F.entry_list_init

section
variable {prog : Program} {w : World} {A : Around} {E : Value → Shared → Prop} {z : Shared} {h₀ s₀ h : Heap} {t : Nat} {D : Wd} {L it a : Addr} {m : Str → Option Value} {objs : List (Addr × Cell)} {vs : List Value} {kd : String} {n : Nat}

/-- reversed(list or tuple) -/
theorem revNew {Q : Value → Shared → Prop} (X : W prog w h₀ s₀ D L h m objs) (hs : Sq h a vs) (hsz : vs.length ≤ 2 ^ 24)
    (q : ∀ h' it kd tk, W prog w h₀ s₀ D L h' m ((it, .sat (rvS kd a vs.length)) :: objs) → RvK kd h' a vs → Q (.ref it) (St z h' tk)) : wpAny (model prog w) A (call (.type "reversed") [.ref a]) Q E (St z h t) := by
  obtain ⟨kd, hs⟩ := hs
  rcases hs with ⟨rfl, hl⟩ | ⟨rfl, hl⟩
  · refine call_reversed_list (s := St z h t) hl.isList ?_
    exact q _ _ "list_reverseiterator" t (X.push _ (c := .sat (rvS "list_reverseiterator" a vs.length)) ⟨_, Heap.get?_push_size _ rfl, rfl, by simp [revObj]⟩) (.inl ⟨rfl, hl.at fun o e => Heap.get?_push_of_some _ e⟩)
  · refine call_reversed_tup (s := St z h t) hl (by simpa using hsz) fun tk => ?_
    exact q _ _ "reversed" tk (X.push _ (c := .sat (rvS "reversed" a vs.length)) ⟨_, Heap.get?_push_size _ rfl, rfl, by simp⟩) (RvK.to (.inr ⟨rfl, hl⟩) fun o e => Heap.get?_push_of_some _ e)

theorem revNext {v : Value} {Q : Option Value → Shared → Prop} (X : W prog w h₀ s₀ D L h m ((it, .sat (rvS kd a (n + 1))) :: objs)) (hs : RvK kd h a vs) (hv : vs[n]? = some v) (hsz : vs.length ≤ 2 ^ 24)
    (q : ∀ h' tk, W prog w h₀ s₀ D L h' m ((it, .sat (rvS kd a n)) :: objs) → RvK kd h' a vs → Q (some v) (St z h' tk)) : wpAny (model prog w) A (pyNext (.ref it)) Q E (St z h t) := by
  obtain ⟨o, ho, hc, hd⟩ := X.obj _ (.head _)
  have hne : a ≠ it := hs.ne ⟨o, ho, hc, hd⟩
  have fin : ∀ h' tk, (∃ o, h'.get? it = some o ∧ rvS kd a n o) → Heap.SameBut it h h' → Q (some v) (St z h' tk) := fun h' tk e sb =>
    q h' tk (X.set0 (c' := .sat (rvS kd a n)) (fun b o hb e => (sb.2 b hb).trans e) e rvS_noTup) (hs.to fun o e => (sb.2 _ hne).trans e)
  rcases id hs with ⟨rfl, hl⟩ | ⟨rfl, hl⟩
  · have e1 : (((n + 1 : Nat) : Int) - 1) = (n : Int) := by omega
    rw [e1] at hd
    exact wpAny_pyNext_rev_item (s := St z h t) ⟨o, ho, hc, hd⟩ hl.isList (by simpa using hv) fun h' e sb => fin h' t e sb
  · exact rev_next_item (s := St z h t) ⟨o, ho, hc, hd⟩ hl (by simpa using hv) (by simpa using hsz) fun h' tk e sb => fin h' tk e sb

theorem revEnd {Q : Option Value → Shared → Prop} (hh : A.handled = none) (X : W prog w h₀ s₀ D L h m ((it, .sat (rvS kd a 0)) :: objs)) (hs : RvK kd h a vs)
    (q : ∀ h', W prog w h₀ s₀ D L h' m objs → RvK kd h' a vs → Q none (St z h' t)) : wpAny (model prog w) A (pyNext (.ref it)) Q E (St z h t) := by
  obtain ⟨o, ho, hc, hd⟩ := X.obj _ (.head _)
  have hne : a ≠ it := hs.ne ⟨o, ho, hc, hd⟩
  have fin : ∀ h', Heap.ExtBut it h h' → Q none (St z h' t) := fun h' sb =>
    q h' (W.letGo X (fun b o hb e => sb b o hb e) rvS_noTup) (hs.to fun o e => sb _ o hne e)
  rcases id hs with ⟨rfl, hl⟩ | ⟨rfl, hl⟩
  · exact wpAny_pyNext_rev_end (s := St z h t) hh ⟨o, ho, hc, hd⟩ fun h' e => fin h' e
  · exact rev_next_end (s := St z h t) hh ⟨o, ho, hc, hd⟩ fun h' e => fin h' e

theorem revIter {Q : Value → Shared → Prop} (X : W prog w h₀ s₀ D L h m ((it, .sat (rvS kd a n)) :: objs)) (hs : RvK kd h a vs) (q : Q (.ref it) (St z h t)) : wpAny (model prog w) A (pyIter (.ref it)) Q E (St z h t) := by
  obtain ⟨o, ho, hc, hd⟩ := X.obj _ (.head _)
  rcases hs with ⟨rfl, hl⟩ | ⟨rfl, hl⟩
  · exact wpAny_pyIter_revIter (s := St z h t) ⟨o, ho, hc, hd⟩ q
  · exact rev_iter (s := St z h t) ho hc q

theorem revHint {Q : Bool → Shared → Prop} (X : W prog w h₀ s₀ D L h m ((it, .sat (rvS kd a vs.length)) :: objs)) (hs : RvK kd h a vs) (hsz : vs.length ≤ 2 ^ 24) (q : ∀ b tk, Q b (St z h tk)) : wpAny (model prog w) A (Builtin.List.listLengthHint (.ref it)) Q E (St z h t) := by
  obtain ⟨o, ho, hc, hd⟩ := X.obj _ (.head _)
  rcases hs with ⟨rfl, hl⟩ | ⟨rfl, hl⟩
  · have hT : (St z h t).TypeIs (.ref it) "list_reverseiterator" := ⟨o, ho, hc⟩
    unfold Builtin.List.listLengthHint
    refine wpAny_bind (wpAny_specialOf hT lri_no_len ?_)
    wp_delta
    refine wpAny_bind (wpAny_specialOf hT lri_hint ?_)
    generalize hid : ("list_reverseiterator.__length_hint__" : String) = id0
    wp_delta
    rw [show splitId id0 = some ("list_reverseiterator", "__length_hint__") from by subst hid; decide +kernel]
    subst hid
    refine wpAny_bind (wpAny_isInstance (b := true) hT (by rw [isSubtype_type]; kernel_rfl) ?_)
    refine wpAny_ite_split (fun hab => absurd hab (by decide)) (fun _ => ?_)
    refine wpAny_ite_split (fun _ => ?_) (fun hab => absurd (by decide +kernel) hab)
    refine wpAny_ite_split (fun hab => absurd hab (by decide)) (fun _ => ?_)
    exact wpAny_pure (q _ _)
  · exact rev_hint (s := St z h t) ⟨o, ho, hc, hd⟩ hl (by simp) (by simpa using hsz) fun b tk => q b tk

/-- the loop of list.extend over a reversed walk -/
theorem extLoop {S : Addr} {res : Value} {R : Result → Shared → Prop} (hh : A.handled = none) : ∀ (n : Nat) (h : Heap) (t : Nat) (acc : List Value),
    W prog w h₀ s₀ D L h m ((it, .sat (rvS kd a n)) :: (S, .lst acc) :: objs) → RvK kd h a vs → a ≠ S → n ≤ vs.length → vs.length ≤ 2 ^ 24 → acc.length + n ≤ 2 ^ 24 →
    (∀ h' tk, W prog w h₀ s₀ D L h' m ((S, .lst (acc ++ (vs.take n).reverse)) :: objs) → R (.ok (.ret res)) (St z h' tk)) →
    codeAny (model prog w) A (.builtin "list.extend.loop" ⟨[.ref S, .ref it, res], []⟩) R (St z h t) := by
  intro n
  induction n with
  | zero =>
    intro h t acc X hs hne hn hsz hl q
    refine codeAny_builtin F.entry_extend_loop ?_
    rw [Around.under_plainId F.plain_extend_loop _]
    show wpAny _ A.in1 (pyNext (.ref it) >>= _) _ _ _
    refine wpAny_bind (revEnd (A := A.in1) hh X hs fun h' X hs => ?_)
    exact wpAny_pure (q _ _ (by simpa using X))
  | succ n ih =>
    intro h t acc X hs hne hn hsz hl q
    obtain ⟨v, hv⟩ : ∃ v, vs[n]? = some v := ⟨vs[n]'(by omega), by simp⟩
    refine codeAny_builtin F.entry_extend_loop ?_
    rw [Around.under_plainId F.plain_extend_loop _]
    show wpAny _ A.in1 (pyNext (.ref it) >>= _) _ _ _
    refine wpAny_bind (revNext X hs hv hsz fun h' tk X hs => ?_)
    obtain ⟨nn, hS⟩ := X.obj _ (.tail _ (.head _))
    show wpAny _ A.in1 (updateSeq S (·.push v) >>= _) _ _ _
    refine wpAny_bind (wpAny_updateSeq (s := St z h' tk) hS rfl (wpAny_pure ⟨plainId_quiet F.plain_extend_loop _, ?_⟩) (by simp [sizeLine]; omega) (by simp [sizeLine]; omega))
    have X' := X.set1 (c' := .lst (acc ++ [v])) (h' := h'.update S (Obj.mapSeq (·.push v))) (fun b o hb e => (Heap.get?_update_other _ _ (Ne.symm hb)).trans e)
      ⟨_, by have := Heap.get?_update_self (Obj.mapSeq (·.push v)) hS rfl; simpa [Obj.mapSeq] using this⟩ trivial
    refine ih _ _ (acc ++ [v]) X' (hs.to fun o e => (Heap.get?_update_other _ _ (Ne.symm hne)).trans e) hne (by omega) hsz (by simp; omega) fun h'' tk X => q _ _ ?_
    have e : (vs.take (n + 1)).reverse = v :: (vs.take n).reverse := by
      rw [List.take_add_one, hv]; simp
    rw [e]
    simpa using X
end
end Mine

-- Rev4
namespace Mine
section
variable {prog : Program} {w : World} {A : Around} {E : Value → Shared → Prop} {z : Shared} {h₀ s₀ h : Heap} {t : Nat} {D : Wd} {L it a : Addr} {m : Str → Option Value} {objs : List (Addr × Cell)} {vs : List Value} {kd : String} {n : Nat}

theorem extendWith {S : Addr} {acc : List Value} {res : Value} {R : Result → Shared → Prop} (hh : A.handled = none) (X : W prog w h₀ s₀ D L h m ((it, .sat (rvS kd a vs.length)) :: (S, .lst acc) :: objs)) (hs : RvK kd h a vs) (hne : a ≠ S) (hsz : vs.length ≤ 2 ^ 20) (hl : acc.length ≤ 2 ^ 20)
    (q : ∀ h' tk, W prog w h₀ s₀ D L h' m ((S, .lst (acc ++ vs.reverse)) :: objs) → R (.ok (.ret res)) (St z h' tk)) :
    wpAny (model prog w) A.in1 (Builtin.List.listExtendWith (.ref S) (.ref it) res)
      (fun fin s' => match fin with | .done f => R (.ok f) s' | .again c' => c'.quiet = true ∧ codeAny (model prog w) A c' R s') (fun e s' => R (.error e) s') (St z h t) := by
  obtain ⟨o, ho, hc, hd⟩ := X.obj _ (.head _)
  have hSi : S ≠ it := by
    rintro rfl
    have := (List.nodup_cons.mp (List.nodup_cons.mp X.nd).2).1
    exact this (by simp)
  have hkd : (Value.type kd == Value.type "list") = false ∧ (Value.type kd == Value.type "tuple") = false := by
    rcases hs with ⟨rfl, _⟩ | ⟨rfl, _⟩ <;> exact ⟨by decide, by decide⟩
  have key : ∀ h' tk, W prog w h₀ s₀ D L h' m ((it, .sat (rvS kd a vs.length)) :: (S, .lst acc) :: objs) → RvK kd h' a vs → codeAny (model prog w) A (.builtin "list.extend.loop" ⟨[.ref S, .ref it, res], []⟩) R (St z h' tk) := fun h' tk X hs =>
    extLoop hh vs.length h' tk acc X hs hne (Nat.le_refl _) (by omega) (by omega) fun h'' tk X => q h'' tk (by simpa using X)
  unfold Builtin.List.listExtendWith
  refine wpAny_bind (wpAny_typeOf (T := kd) (v := .ref it) ⟨o, ho, hc⟩ ?_)
  have h1 : Builtin.List.listSameRef (.ref S) (.ref it) = false := by simp [Builtin.List.listSameRef, hSi]
  simp only [h1, hkd.1, hkd.2, Bool.or_false, Bool.false_eq_true, if_false]
  refine wpAny_bind (revIter X hs ?_)
  refine wpAny_bind (wpAny_holding (revHint X hs (by omega) fun b tk => ?_))
  refine wpAny_ite_split (fun _ => ?_) (fun _ => wpAny_pure ⟨plainId_quiet F.plain_extend_loop _, key _ _ X hs⟩)
  refine wpAny_bind (wpAny_rule ?_)
  obtain ⟨nn, hS⟩ := X.obj _ (.tail _ (.head _))
  refine wpAny_bind ?_
  show wpAny _ _ (updateSeq S (·.push .none) >>= fun _ => updateSeq S (·.pop)) _ _ _
  refine wpAny_bind (wpAny_updateSeq (s := St z h tk) hS rfl ?_ (by simp [sizeLine]; omega) (by simp [sizeLine]; omega))
  have hS₂ := Heap.get?_update_self (Obj.mapSeq (·.push Value.none)) hS rfl
  refine wpAny_updateSeq hS₂ rfl ?_ (by simp [sizeLine]; omega) (by simp [sizeLine]; omega)
  have hS₃ := Heap.get?_update_self (Obj.mapSeq (·.pop)) hS₂ rfl
  have oth : ∀ b o, b ≠ S → h.get? b = some o → ((h.update S (Obj.mapSeq (·.push Value.none))).update S (Obj.mapSeq (·.pop))).get? b = some o :=
    fun b o hb e => (Heap.get?_update_other _ _ (Ne.symm hb)).trans ((Heap.get?_update_other _ _ (Ne.symm hb)).trans e)
  refine wpAny_pure ⟨plainId_quiet F.plain_extend_loop _, ?_⟩
  exact key _ tk (X.set1 (c' := .lst acc) oth ⟨nn + 1 + 1, by show ((h.update S (Obj.mapSeq (·.push Value.none))).update S (Obj.mapSeq (·.pop))).get? S = _; simpa [Obj.mapSeq] using hS₃⟩ trivial) (hs.to fun o e => oth _ o hne e)

/-- S.extend(it), it a fresh reversed walk -/
theorem extendL {S : Addr} {acc : List Value} {Q : Value → Shared → Prop} (hh : A.handled = none) (X : W prog w h₀ s₀ D L h m ((it, .sat (rvS kd a vs.length)) :: (S, .lst acc) :: objs)) (hs : RvK kd h a vs) (hne : a ≠ S) (hsz : vs.length ≤ 2 ^ 20) (hl : acc.length ≤ 2 ^ 20)
    (q : ∀ h' tk, W prog w h₀ s₀ D L h' m ((S, .lst (acc ++ vs.reverse)) :: objs) → Q .none (St z h' tk)) : wpAny (model prog w) A (call (.builtin "list.extend") [.ref S, .ref it]) Q E (St z h t) := by
  have hl' : h.PlainList S acc.toArray := X.obj _ (.tail _ (.head _))
  refine call_meetsIn (S := fun A R s => A.handled = none ∧ s = St z h t ∧ ∀ h' tk, W prog w h₀ s₀ D L h' m ((S, .lst (acc ++ vs.reverse)) :: objs) → R (.ok (.ret .none)) (St z h' tk))
    F.slot_list_extend (s := St z h t) hl'.isList.typeIs F.entry_list_extend (F.args_list_extend_2 _ _) ?_ ⟨hh, rfl, q⟩
  rintro A' R s ⟨hh, rfl, q⟩
  unfold Builtin.«list.extend»
  refine wpAny_bind (wpAny_of_eq (a := (Value.ref S, Value.ref it)) rfl ?_)
  exact extendWith hh X hs hne hsz hl q

/-- list(it), it a fresh reversed walk -/
theorem listRev {Q : Value → Shared → Prop} (hh : A.handled = none) (X : W prog w h₀ s₀ D L h m ((it, .sat (rvS kd a vs.length)) :: objs)) (hs : RvK kd h a vs) (hsz : vs.length ≤ 2 ^ 20)
    (q : ∀ h' S tk, W prog w h₀ s₀ D L h' m ((S, .lst vs.reverse) :: objs) → Q (.ref S) (St z h' tk)) : wpAny (model prog w) A (call (.type "list") [.ref it]) Q E (St z h t) := by
  refine callType_codes (Q₁ := fun obj s₁ => obj = .ref h.objs.size ∧ s₁ = { St z h t with heap := h.push { cls := .type "list", data := .seq #[] } }) F.called_list (F.typeCall_list_1 _) F.entry_list_init
    (code_list_new (s := St z h t) _ ⟨rfl, rfl⟩) fun obj s₁ h₁ => ?_
  obtain ⟨rfl, rfl⟩ := h₁
  have hS : (h.push { cls := .type "list", data := .seq #[] }).get? h.objs.size = some { cls := .type "list", data := .seq #[] } := Heap.get?_push_size _ rfl
  have X₁ := X.push { cls := .type "list", data := .seq #[] } (c := .lst []) ⟨0, hS⟩
  have hne : a ≠ h.objs.size := by
    obtain ⟨o, e, _⟩ := hs.live
    exact Nat.ne_of_lt (Heap.lt_size e)
  refine ⟨⟨_, hS, rfl⟩, F.args_list_init_2 _ _, ?_⟩
  show wpAny _ _ (do let old ← Builtin.List.listItems (.ref h.objs.size); Builtin.List.listUpdate (.ref h.objs.size) (fun _ => #[]); letGo old.toList.reverse; Builtin.List.listExtendWith (.ref h.objs.size) (.ref it) .none) _ _ _
  refine wpAny_bind ?_
  unfold Builtin.List.listItems
  refine wpAny_bind (wpAny_seqItems hS rfl (wpAny_pure ?_))
  show wpAny _ _ (updateSeq h.objs.size (fun _ => #[]) >>= fun _ => letGo (#[] : Array Value).toList.reverse >>= fun _ => Builtin.List.listExtendWith (.ref h.objs.size) (.ref it) .none) _ _ _
  refine wpAny_bind (wpAny_updateSeq hS rfl ?_)
  have hS₂ := Heap.get?_update_self (Obj.mapSeq (fun _ => (#[] : Array Value))) hS rfl
  have oth : ∀ b o, b ≠ h.objs.size → (h.push { cls := .type "list", data := .seq #[] }).get? b = some o → ((h.push { cls := .type "list", data := .seq #[] }).update h.objs.size (Obj.mapSeq (fun _ => (#[] : Array Value)))).get? b = some o :=
    fun b o hb e => (Heap.get?_update_other _ _ (Ne.symm hb)).trans e
  refine wpAny_bind (wpAny_letGo ?_)
  have X₂ := (X₁.set0 (c' := .lst []) oth ⟨_, by simpa [Obj.mapSeq] using hS₂⟩ trivial).perm (List.Perm.swap _ _ _)
  refine extendWith (A := A.in1) (z := z) (t := t) hh X₂ ((hs.to fun o e => Heap.get?_push_of_some _ e).to fun o e => oth _ o hne e) hne hsz (by simp) fun h' tk X => ?_
  exact ⟨rfl, q _ _ _ (by simpa using X)⟩
end
end Mine

-- Dct
namespace Mine

noncomputable def dicOf (l : List Nat) : List (Int × Value) := l.map fun (n : Nat) => ((n : Int), Value.bool true)
theorem dicOf_len (l : List Nat) : (dicOf l).length = l.length := by simp [dicOf]
theorem dicOf_mem (l : List Nat) (t : Nat) : (valueAt (dicOf l) (t : Int)).isSome = decide (t ∈ l) := by
  induction l with
  | nil => rfl
  | cons a l ih =>
    simp only [dicOf, valueAt, List.map_cons, List.find?_cons] at ih ⊢
    by_cases h : a = t
    · subst h; simp
    · have h1 : decide ((a : Int) = (t : Int)) = false := decide_eq_false (by omega)
      rw [h1]
      have h2 : decide (t ∈ a :: l) = decide (t ∈ l) := by
        have : t ≠ a := fun e => h e.symm
        simp [this]
      rw [h2]; exact ih
noncomputable def addN (l : List Nat) (t : Nat) : List Nat := if t ∈ l then l else l ++ [t]
theorem dicOf_stored (l : List Nat) (t : Nat) : stored (dicOf l) (t : Int) (.bool true) = dicOf (addN l t) := by
  unfold stored addN
  have e : (dicOf l).any (fun kv => decide (kv.1 = (t : Int))) = decide (t ∈ l) := by
    induction l with
    | nil => rfl
    | cons a l ih =>
      simp only [dicOf, List.map_cons, List.any_cons] at ih ⊢
      rw [ih]
      by_cases h : a = t
      · subst h; simp
      · have h1 : decide ((a : Int) = (t : Int)) = false := decide_eq_false (by omega)
        have : t ≠ a := fun e => h e.symm
        rw [h1]; simp [this]
  simp only [e]
  by_cases h : t ∈ l
  · simp only [h, decide_true, if_true]
    unfold dicOf
    rw [List.map_map]
    refine List.map_congr_left fun a _ => ?_
    simp only [Function.comp]
    split <;> rfl
  · simp only [h, decide_false, if_false, Bool.false_eq_true]
    simp [dicOf]

theorem sorted_unique : ∀ {a b : List Nat}, a.Perm b → a.Pairwise (· ≤ ·) → b.Pairwise (· ≤ ·) → a = b := by
  intro a b p ha hb
  exact p.eq_of_pairwise (fun x y _ _ h1 h2 => Nat.le_antisymm h1 h2) ha hb

section
variable {prog : Program} {w : World} {A : Around} {E : Value → Shared → Prop} {z : Shared} {h₀ s₀ h : Heap} {t : Nat} {D : Wd} {L d a : Addr} {m : Str → Option Value} {objs : List (Addr × Cell)} {vs : List Value} {env : Env}

theorem newD {pos : Pos} {Q : Value → Shared → Prop} (X : W prog w h₀ s₀ D L h m objs) (q : ∀ h' d, W prog w h₀ s₀ D L h' m ((d, .dic []) :: objs) → Q (.ref d) (St z h' t)) : wpAny (model prog w) A (eval (.Dict [] [] pos) env) Q E (St z h t) :=
  wpAny_Dict_empty (s := St z h t) (q _ _ (X.push _ (c := .dic []) (Heap.DictOf.new h)))

theorem inD {l : List Nat} {n : Nat} {u : Tok} {Q : Value → Shared → Prop} (hd : h.DictOf (intKind prog w) d (dicOf l)) (hs : (d == sysModules) = false) (q : ∀ tk, Q (.bool (decide (n ∈ l))) (St z h tk)) :
    wpAny (model prog w) A (compareOp .In (.int (n : Int) u) (.ref d)) Q E (St z h t) :=
  wpAny_in_of (s := St z h t) (knd := intKind prog w) (k := (n : Int)) (intIs _ _) hs hd.mapOf (by rw [dicOf_mem]; exact q _)
theorem notInD {l : List Nat} {n : Nat} {u : Tok} {Q : Value → Shared → Prop} (hd : h.DictOf (intKind prog w) d (dicOf l)) (hs : (d == sysModules) = false) (q : ∀ tk, Q (.bool (!decide (n ∈ l))) (St z h tk)) :
    wpAny (model prog w) A (compareOp .NotIn (.int (n : Int) u) (.ref d)) Q E (St z h t) :=
  wpAny_notIn_of (s := St z h t) (knd := intKind prog w) (k := (n : Int)) (intIs _ _) hs hd.mapOf (by rw [dicOf_mem]; exact q _)
theorem setD {l : List Nat} {n : Nat} {u : Tok} {Q : Unit → Shared → Prop} (hd : h.DictOf (intKind prog w) d (dicOf l)) (hsz : l.length ≤ 2 ^ 24) (q : ∀ h' tk, h'.DictOf (intKind prog w) d (dicOf (addN l n)) → Heap.SameBut d h h' → Q () (St z h' tk)) :
    wpAny (model prog w) A (setItem (.ref d) (.int (n : Int) u) (.bool true)) Q E (St z h t) :=
  wpAny_setItem_pairs (s := St z h t) (knd := intKind prog w) (k := (n : Int)) (intIs _ _) hd (fun h' e hs => q h' _ (by rw [← dicOf_stored]; exact e) hs) (by rw [dicOf_len]; simpa [sizeLine] using hsz)

theorem popL {pos : Pos} {v : Value} {Q : Value → Shared → Prop} (hl : h.PlainList a (vs ++ [v]).toArray) (hsz : vs.length ≤ 2 ^ 23) (q : ∀ h', h'.PlainList a vs.toArray → Heap.SameBut a h h' → Q v (St z h' t)) :
    wpAny (model prog w) A (callWith pos (.builtin "list.pop") [.ref a] [] []) Q E (St z h t) := by
  obtain ⟨n, hl⟩ := hl
  refine PySem.P.pop_list (s := St z h t) hl (y := v) (by simp) (q _ ?_ (Heap.SameBut.update ..)) (by simp [sizeLine]; omega)
  have := Heap.get?_update_self (Obj.mapSeq fun xs => xs.eraseIdxIfInBounds ((vs ++ [v]).toArray.size - 1)) hl rfl
  have e : (vs ++ [v]).toArray.eraseIdxIfInBounds ((vs ++ [v]).toArray.size - 1) = vs.toArray := by
    apply Array.ext'
    unfold Array.eraseIdxIfInBounds
    rw [dif_pos (by simp)]
    simp only [Array.toList_eraseIdx]
    simp only [List.size_toArray, List.length_append, List.length_cons, List.length_nil]
    rw [show vs.length + (0 + 1) - 1 = vs.length by omega]
    simp [List.eraseIdx_append_of_length_le]
  exact ⟨_, this.trans (by simp only [Obj.mapSeq, e]; rfl)⟩

theorem dic_nodup {l : List Nat} {d : Addr} (hd : h.DictOf (intKind prog w) d (dicOf l)) : l.Nodup := by
  obtain ⟨_, _, _, _, _, _, _, _, n⟩ := hd
  have e : (dicOf l).map (·.1) = l.map (fun n : Nat => (n : Int)) := by simp [dicOf]
  rw [e] at n
  exact List.Pairwise.of_map _ (fun a b h e => h (by rw [e])) n

theorem toNat_map (l : List Nat) : (l.map fun n : Nat => (n : Int)).map Int.toNat = l := by
  induction l with
  | nil => rfl
  | cons a l ih => simp only [List.map_cons, ih, Int.toNat_natCast]
theorem intsNat : ∀ {ns : List Int} {l : List Nat}, ns.Perm (l.map fun n : Nat => (n : Int)) → ns.Pairwise (· ≤ ·) → ∃ l' : List Nat, ns = (l'.map fun n : Nat => (n : Int)) ∧ l' = sortNat l := by
  intro ns l hp hs
  have hex : ∃ l' : List Nat, ns = (l'.map fun n : Nat => (n : Int)) := by
    have : ∀ x ∈ ns, ∃ n : Nat, x = (n : Int) := fun x hx => by
      obtain ⟨n, _, e⟩ := List.mem_map.mp (hp.mem_iff.mp hx)
      exact ⟨n, e.symm⟩
    clear hp hs
    induction ns with
    | nil => exact ⟨[], rfl⟩
    | cons x ns ih =>
      obtain ⟨n, rfl⟩ := this x (.head _)
      obtain ⟨l', rfl⟩ := ih fun y hy => this y (.tail _ hy)
      exact ⟨n :: l', rfl⟩
  obtain ⟨l', rfl⟩ := hex
  refine ⟨l', rfl, sorted_unique ?_ ?_ (sortNat_sorted l)⟩
  · refine List.Perm.trans ?_ (sortNat_perm l).symm
    have := hp.map Int.toNat
    rwa [toNat_map, toNat_map] at this
  · exact (List.pairwise_map.mp hs).imp fun h => by omega

theorem ints_all2 : ∀ {vs : List Value} {l : List Nat}, IntsAre vs (l.map fun n : Nat => (n : Int)) → All2 IsI vs l := by
  intro vs l h
  induction l generalizing vs with
  | nil => cases h; exact .nil
  | cons a l ih =>
    cases h with
    | cons _ t h => exact .cons ⟨t, rfl⟩ (ih h)
theorem all2_ints : ∀ {vs : List Value} {l : List Nat}, All2 IsI vs l → IntsAre vs (l.map fun n : Nat => (n : Int)) := by
  intro vs l h
  induction h with
  | nil => exact .nil
  | cons r _ ih => obtain ⟨t, rfl⟩ := r; exact .cons _ t ih

/-- sorted(d), d a dict of small size keyed by naturals -/
theorem sortedD {l : List Nat} {Q : Value → Shared → Prop} (hh : A.handled = none) (X : W prog w h₀ s₀ D L h m objs) (hd : h.DictOf (intKind prog w) d (dicOf l)) (hs : (d == sysModules) = false) (h64 : l.length < 64)
    (q : ∀ h' a vs tk, W prog w h₀ s₀ D L h' m ((a, .lst vs) :: objs) → Ext h h' → All2 IsI vs (sortNat l) → Q (.ref a) (St z h' tk)) :
    wpAny (model prog w) A (call (.builtin "sorted") [.ref d]) Q E (St z h t) := by
  obtain ⟨ep, ha⟩ := hd.dictAt
  refine Calls.call_function_entry kind_sorted plain_sorted entry_sorted (args_sorted1 _) ?_
  unfold Builtin.«sorted»
  refine wpAny_bind (m := checkCount "sorted" 1 1 _) (wpAny_pure ?_)
  have hn : (dicOf l).length ≤ sizeLine := by rw [dicOf_len]; simp [sizeLine]; omega
  refine wpAny_bind (kdu_collect (A := A.in1) (s := St z h t) (kdl_dict hs) hh ha hn fun h' tk acc hk hacc => ?_)
  have hlen : acc.toList.length = (dicOf l).length := by rw [Array.length_toList]; exact hacc.1
  refine wpAny_bind (wpAny_newList ?_ (by rw [hlen]; exact hn))
  have hI : IntsAre acc.toList (l.map fun n : Nat => (n : Int)) := by
    have gen : ∀ (l : List Nat) (us : List Value), us.length = l.length → (∀ (j : Nat) (v : Value), us[j]? = some v → ∃ k x, (dicOf l)[j]? = some (k, x) ∧ (intKind prog w).is k v = true) → IntsAre us (l.map fun n : Nat => (n : Int)) := by
      intro l
      induction l with
      | nil => intro us hl _; cases us with
        | nil => exact .nil
        | cons => simp at hl
      | cons a l ih =>
        intro us hl hj
        cases us with
        | nil => simp at hl
        | cons v us =>
          obtain ⟨k, x, e, hv⟩ := hj 0 v rfl
          have e' : ((a : Int), Value.bool true) = (k, x) := Option.some.inj e
          obtain ⟨rfl, _⟩ := Prod.mk.inj e'
          obtain ⟨t, rfl⟩ := Value.isInt_shape hv
          exact .cons _ t (ih us (by simpa using hl) fun j v hjv => hj (j + 1) v (by simpa using hjv))
    exact gen l _ (by rw [hlen, dicOf_len]) fun j v e => hacc.2 j v (by rw [← Array.getElem?_toList]; exact e)
  have hoL : (h'.push (seqObj "list" acc.toList.toArray 0)).get? h'.objs.size = some (seqObj "list" acc.toList.toArray 0) := Heap.get?_push_size _ rfl
  have X1 := (X.grow hk).push (seqObj "list" acc.toList.toArray 0) (c := .lst acc.toList) ⟨0, hoL⟩
  refine wpAny_bind (wpAny_holding (wpAny_call_entry slot_list_sort ⟨_, hoL, rfl⟩ entry_list_sort (list_sort_tree hoL hI (by rw [hlen, dicOf_len]; exact h64) fun out ns' a1 a2 a3 => ⟨_, rfl, ?_⟩) (args_list_sort _)))
  refine wpAny_pure ⟨_, rfl, ?_⟩
  obtain ⟨l', rfl, hl'⟩ := intsNat a2 a3
  subst hl'
  have hold : ∀ b o, b ≠ h'.objs.size → (h'.push (seqObj "list" acc.toList.toArray 0)).get? b = some o → (sortedHeap (h'.push (seqObj "list" acc.toList.toArray 0)) h'.objs.size acc.toList out).get? b = some o :=
    fun b o hb e => (sortedHeap_old hb (Heap.lt_size e)).trans e
  obtain ⟨e, he⟩ := sortedHeap_at (vs := acc.toList) (out := out) hoL
  refine q _ _ out.toList tk (X1.set0 (c' := .lst out.toList) hold ⟨e, by simpa [seqObj] using he⟩ trivial) (fun b o eb => hold b o (Nat.ne_of_lt (Heap.lt_size (hk b o eb))) (Heap.get?_push_of_some _ (hk b o eb))) (ints_all2 a1)
end
end Mine

-- Cmp
namespace Mine

noncomputable def nsO (m : Str → Option Value) : Obj → Prop := fun o => ∃ es ep, o.data = .dict es ep ∧ StrKeys es ∧ ∀ name, nsFind es name = m name
theorem cellO_noTup {v : Option Value} : ∀ o, cellO v o → ¬ isTupObj o := fun o x y => by
  obtain ⟨_, items, n, e⟩ := y
  rw [show o.data = .cell v from x] at e; cases e
theorem nsO_noTup {m : Str → Option Value} : ∀ o, nsO m o → ¬ isTupObj o := fun o x y => by
  obtain ⟨_, items, n, e⟩ := y
  obtain ⟨es, ep, d, _⟩ := x
  rw [d] at e; cases e

section
variable {prog : Program} {w : World} {A : Around} {E : Value → Shared → Prop} {z : Shared} {h₀ s₀ h : Heap} {t : Nat} {D : Wd} {L C a it : Addr} {m mc : Str → Option Value} {objs : List (Addr × Cell)} {vs : List Value} {env : Env} {kd : String}

theorem ns_nsO {h : Heap} {L : Addr} {m : Str → Option Value} (x : h.Ns L m) : ∃ o, h.get? L = some o ∧ nsO m o := let ⟨o, es, ep, e, d, k, n⟩ := x; ⟨o, e, es, ep, d, k, n⟩
theorem nsO_ns {h : Heap} {L : Addr} {m : Str → Option Value} (x : ∃ o, h.get? L = some o ∧ nsO m o) : h.Ns L m := let ⟨o, e, es, ep, d, k, n⟩ := x; ⟨o, es, ep, e, d, k, n⟩

/-- the same world, seen from another namespace -/
theorem W.turn (X : W prog w h₀ s₀ D L h m ((C, .sat (nsO mc)) :: objs)) : W prog w h₀ s₀ D C h mc ((L, .sat (nsO m)) :: objs) := by
  refine ⟨X.ext, X.keep, X.base, X.inv, nsO_ns (X.obj _ (.head _)), fun p hp => ?_, ?_, fun a ha => X.fresh a ?_⟩
  · rcases List.mem_cons.mp hp with rfl | hp
    · exact ns_nsO X.ns
    · exact X.obj p (.tail _ hp)
  · have n := X.nd
    simp only [List.map_cons] at n ⊢
    exact (List.Perm.swap C L (objs.map (·.1))).nodup_iff.mp n
  · simp only [List.map_cons, List.mem_cons] at ha ⊢
    rcases ha with ha | ha | ha <;> simp [ha]

theorem W.drops (X : W prog w h₀ s₀ D L h m ((a, .sat (nsO mc)) :: objs)) : W prog w h₀ s₀ D L h m objs := X.drop

structure EnteredC (h h₁ : Heap) (L : Addr) : Prop where
  ext : Ext h h₁
  low : h.objs.size ≤ L
theorem EnteredC.of {h h₁ : Heap} {L : Addr} (x : EnteredC h h₁ L) : Entered h h₁ L := ⟨x.ext, by
  cases q : h.get? L with
  | none => rfl
  | some o => exact absurd (Heap.lt_size q) (Nat.not_lt.mpr x.low)⟩

theorem W.enterC {h₁ : Heap} (D : Wd) (g : Gnd w h₀ h) (hI : D.I h) (e : EnteredC h h₁ L) (hns : h₁.Ns L m) (objs : List (Addr × Cell)) (hobj : ∀ p ∈ objs, p.2.at prog w h₁ p.1 ∧ L < p.1) (nd : (objs.map (·.1)).Nodup) :
    W prog w h₀ h D L h₁ m objs := by
  have X := W.enter (prog := prog) D g hI e.of hns
  refine ⟨X.ext, X.keep, X.base, X.inv, X.ns, fun p hp => (hobj p hp).1, List.nodup_cons.mpr ⟨fun q => ?_, nd⟩, fun a ha => ?_⟩
  · obtain ⟨p, hp, rfl⟩ := List.mem_map.mp q
    exact Nat.lt_irrefl _ (hobj p hp).2
  · have hlow : h.objs.size ≤ a := by
      rcases List.mem_cons.mp ha with rfl | ha
      · exact e.low
      · obtain ⟨p, hp, rfl⟩ := List.mem_map.mp ha
        exact Nat.le_trans e.low (Nat.le_of_lt (hobj p hp).2)
    have hn : h.get? a = none := by
      cases q : h.get? a with
      | none => rfl
      | some o => exact absurd (Heap.lt_size q) (Nat.not_lt.mpr hlow)
    exact ⟨hn, fun q => D.live _ hI _ q hn⟩

noncomputable def kindOk (scope : Scope) (L : Addr) (x : Str) : Bool := match scope.names.lookup x with
  | some .local => true
  | some .cell => ((cellsFrom (L + 1) scope.names []).lookup x).isSome
  | _ => false
theorem kindOk_of {scope : Scope} {L : Addr} {x : Str} (h : kindOk scope L x = true) : scope.names.lookup x = some .local ∨ (scope.names.lookup x = some .cell ∧ ((cellsFrom (L + 1) scope.names []).lookup x).isSome = true) := by
  unfold kindOk at h
  split at h
  · exact .inl (by assumption)
  · exact .inr ⟨by assumption, h⟩
  · cases h

/-- a call of a def with cells -/
theorem enterFC {n : Nat} {args : List Value} {R : Result → Shared → Prop} {name qual : Str} {params : Arguments} {body : List Stmt} {scope : Scope} {dV kV doc pm cdv ct oc : Value} {an od : Option Addr} {osl : Array (Option Value)} (f : Addr) (binds : List (Str × Value))
    (g : Gnd w h₀ h) (hr : Room A (n + 1))
    (q : ∀ h₁ L A' tk, EnteredC h h₁ L → h₁.Ns L (bindL (envOfC qual scope L f cdv).kindOf binds fun _ => none) →
      (∀ x c, (cellsFrom (L + 1) scope.names []).lookup x = some c → h₁.IsCell c (bindC (envOfC qual scope L f cdv).kindOf binds (fun _ => none) x)) → Room A' n →
      wpAny (model prog w) A' (execs body (envOfC qual scope L f cdv))
        (fun fl s' => R (.ok (.ret (retOf fl))) s') (fun _ _ => False) (St z h₁ tk))
    (ho : autoParam ((Mine.hd0.heap_1 w.params).lookup f = some ⟨oc, od, .func (fnOf name qual params body scope dV kV doc pm an cdv ct), osl⟩) aK) (hcd : autoParam (codeIn (Mine.hd0.heap_1 w.params) cdv qual = true) aK)
    (hbind : autoParam (bindArgs (fnOf name qual params body scope dV kV doc pm an cdv ct) ⟨args, []⟩ = pure binds) aR)
    (hkind : ∀ L, (binds.all fun x => kindOk scope L x.1) = true := by intro L; rfl)
    (hco : autoParam (scope.isCoroutine = false) aR) (hgen : autoParam (scope.isGenerator = false) aR) (hk : autoParam (scope.kind = .function) aR) : codeAny (model prog w) A (.call (.ref f) ⟨args, []⟩) R (St z h t) := by
  refine codeAny_call_cells (s := St z h t) (fd := fnOf name qual params body scope dV kV doc pm an cdv ct) (body := body) (binds := binds) (by have := hr.depth; omega) (g.at.K _ _ ho) rfl g.at.lim (codeRec_of g.at.K hcd) rfl hbind rfl (fun x hx => kindOk_of (List.all_eq_true.mp (hkind _) x hx)) (fun s₁ x => ?_) hco hgen hk
  obtain ⟨h₁, tk, rfl⟩ := x.toInCall.same
  exact wpAny_mono (q h₁ _ _ tk ⟨x.toInCall.keep, x.toInCall.fresh⟩ x.toInCall.ns x.cell hr.deep) (fun fl _ z => by cases fl <;> exact z) fun _ _ z => z.elim

theorem iterIter {k : Nat} {Q : Value → Shared → Prop} (X : W prog w h₀ s₀ D L h m objs) (hm : (it, .sat (itS kd a k)) ∈ objs) (hs : SqK kd h a vs) (q : Q (.ref it) (St z h t)) : wpAny (model prog w) A (pyIter (.ref it)) Q E (St z h t) := by
  obtain ⟨o, ho, hc, hd⟩ := X.obj _ hm
  rcases hs with ⟨rfl, hl⟩ | ⟨rfl, hl⟩
  · exact wpAny_pyIter_listiter (s := St z h t) ⟨o, ho, hc, hd⟩ q
  · exact wpAny_pyIter_tupleiter (s := St z h t) ⟨o, ho, hc, hd⟩ q

/-- what follows the iterable's value in a list comprehension -/
noncomputable def CompAt (prog : Program) (w : World) (A : Around) (E : Value → Shared → Prop) (env : Env) (scope : Scope) (cl : List (Str × Addr)) (e : Expr) (use : Option (Value → Sem Unit)) (Q : Value → Shared → Prop) (x : Value) (s₁ : Shared) : Prop :=
  wpAny (model prog w) A (pyIter x) (fun it s₂ => wpAny (model prog w) A (newList []) (fun acc s₃ =>
      wpAny (model prog w) A (newFunctionEnv scope env.globals cl [] env.qual none .none (some env)) (fun cenv s₄ =>
        codeAny (model prog w) A (.compStart e 0 it acc { cenv with scope := relabel scope env }) (compPost (model prog w) A E use Q acc cenv.locals) s₄) E s₃) E s₂) E s₁
theorem listComp {elt iter : Expr} {x : Str} {px : Pos} {ifs : List Expr} {scope : Scope} {pos : Pos} {s : Shared} {Q : Value → Shared → Prop} (cl : List (Str × Addr))
    (q : wpAny (model prog w) A (eval iter env) (CompAt prog w A E env scope cl (.ListComp elt [⟨.Name x px, iter, ifs, 0⟩] scope pos) none Q) E s)
    (hclos : autoParam (closureFor scope env = pure cl) aR) (hkind : autoParam (scope.kind = .function) aR)
    (hnames : autoParam (∀ x ∈ scope.names, x.2 = .local → scope.names.lookup x.1 = some .local) aD)
    (hs : ∀ x, foldedSetIterable iter env x = pure x := by intro _; rfl) :
    wpAny (model prog w) A (eval (.ListComp elt [⟨.Name x px, iter, ifs, 0⟩] scope pos) env) Q E s := by
  rw [eval_ListComp]
  exact wpAny_comprehension_free (use := none) rfl hs hclos hkind hnames q

noncomputable def testsOf (ifs : List Expr) (env : Env) : Sem Bool := forIn ifs true fun c r => if r = true then do let ok ← isTrue c env (eval c env); pure (ForInStep.yield ok) else pure (ForInStep.yield r)

noncomputable def CompTurn (prog : Program) (w : World) (A : Around) (h₀ s₀ : Heap) (C : Addr) (z : Shared) (pre : List (Addr × Cell)) (J : Wd → List (Addr × Cell) → Prop) (s' : Shared) : Prop :=
  E5 fun h' t' D' mc objs' => A3 (s' = St z h' t') (W prog w h₀ s₀ D' C h' mc (pre ++ objs')) (J D' objs')

section
variable {R : Result → Shared → Prop}
theorem codeAny_compLoop_gen {elt target iter : Expr} {ifs : List Expr} {scope : Scope} {pos : Pos} {it acc : Value} {env : Env} (I : Nat → Shared → Prop)
    (turn : ∀ n s, I n s → wpAny (model prog w) A (pyNext it) (fun r s₁ => match r with
      | none => R (.ok .next) s₁
      | some v => wpAny (model prog w) A (letOwnedTupleGo target it v) (fun _ s₁' => wpAny (model prog w) A (assign target env v) (fun _ s₂ =>
          wpAny (model prog w) A (testsOf ifs env) (fun ok s₃ =>
            if ok = true then wpAny (model prog w) A (eval elt env) (fun x s₄ =>
              wpAny (model prog w) A (call (.builtin "list.append") [acc, x]) (fun _ s₅ => ∃ m, m < n ∧ I m s₅) (notedBy (model prog w) A env fun e s' => R (.error e) s') s₄) (notedBy (model prog w) A env fun e s' => R (.error e) s') s₃
            else ∃ m, m < n ∧ I m s₃) (notedBy (model prog w) A env fun e s' => R (.error e) s') s₂) (notedBy (model prog w) A env fun e s' => R (.error e) s') s₁') (notedBy (model prog w) A env fun e s' => R (.error e) s') s₁) (notedBy (model prog w) A env fun e s' => R (.error e) s') s)
    (n : Nat) {s : Shared} (h : I n s) :
    codeAny (model prog w) A (.compLoop (.ListComp elt [⟨target, iter, ifs, 0⟩] scope pos) 0 it acc env) R s := by
  refine codeAny_loop rfl I (fun n s hI => ?_) n h
  show wpAny _ A ((compTurn (.ListComp elt [⟨target, iter, ifs, 0⟩] scope pos) 0 it acc env).onRaise (fun x => do noteFrame x env; theTreesLotGoes x)) _ _ s
  refine wpAny_noted ?_
  rw [compTurn_list]
  refine wpAny_bind (wpAny_standAt (wpAny_bind (wpAny_mono (turn n s hI) (fun r s₁ h₁ => ?_) fun _ _ h' => h')))
  cases r with
  | none => exact wpAny_pure h₁
  | some v =>
    refine wpAny_bind (wpAny_mono h₁ (fun _ s₁' h₁' => ?_) fun _ _ h' => h')
    refine wpAny_bind (wpAny_mono h₁' (fun _ s₂ h₂ => wpAny_bind (wpAny_mono h₂ (fun ok s₃ h₃ => ?_) fun _ _ h' => h')) fun _ _ h' => h')
    cases ok with
    | false => exact wpAny_pure ⟨rfl, h₃⟩
    | true =>
      exact wpAny_bind (wpAny_bind (wpAny_mono h₃ (fun x s₄ h₄ => wpAny_bind (wpAny_mono h₄ (fun _ s₅ h₅ => wpAny_pure (wpAny_pure ⟨rfl, h₅⟩)) fun _ _ h' => h')) fun _ _ h' => h'))

end
theorem letNm {x : Str} {px : Pos} {it v : Value} {Q : Unit → Shared → Prop} {s : Shared} (q : Q () s) : wpAny (model prog w) A (letOwnedTupleGo (.Name x px) it v) Q E s := wpAny_pure q

/-- a list comprehension over anything that is walked step by step -/
theorem compU {use : Option (Value → Sem Unit)} {elt iter tgt : Expr} {ifs : List Expr} {scope : Scope} {cl : List (Str × Addr)} {pos : Pos} {Q : Value → Shared → Prop} {N : Nat} (IT : Nat → Cell)
    (J : Nat → List Value → Wd → List (Addr × Cell) → Prop) (X : W prog w h₀ s₀ D env.locals h m ((it, IT 0) :: objs)) (hj : J 0 [] D objs) (hsz : N ≤ 2 ^ 20)
    (self : ∀ C mc acc h t (Q : Value → Shared → Prop) (E : Value → Shared → Prop), W prog w h₀ s₀ D C h mc ((acc, .lst []) :: (it, IT 0) :: (env.locals, .sat (nsO m)) :: objs) → Q (.ref it) (St z h t) → wpAny (model prog w) A (pyIter (.ref it)) Q E (St z h t))
    (step : ∀ C acc k ys D' mc objs' h t, k < N → J k ys D' objs' → W prog w h₀ s₀ D' C h mc ((acc, .lst ys) :: (it, IT k) :: (env.locals, .sat (nsO m)) :: objs') →
      wpAny (model prog w) A (pyNext (.ref it)) (fun r s₁ => ∃ v, r = some v ∧ wpAny (model prog w) A (letOwnedTupleGo tgt (.ref it) v) (fun _ s₁ => wpAny (model prog w) A (assign tgt (compEnvC scope cl C env) v) (fun _ s₂ =>
        wpAny (model prog w) A (testsOf ifs (compEnvC scope cl C env)) (fun ok s₃ => if ok = true then
          wpAny (model prog w) A (eval elt (compEnvC scope cl C env)) (fun y s₄ => CompTurn prog w A h₀ s₀ C z [(acc, .lst ys), (it, IT (k + 1)), (env.locals, .sat (nsO m))] (J (k + 1) (ys ++ [y])) s₄) NE s₃
        else CompTurn prog w A h₀ s₀ C z [(acc, .lst ys), (it, IT (k + 1)), (env.locals, .sat (nsO m))] (J (k + 1) ys) s₃) NE s₂) NE s₁) NE s₁) NE (St z h t))
    (last : ∀ C acc ys D' mc objs' h t, J N ys D' objs' → W prog w h₀ s₀ D' C h mc ((acc, .lst ys) :: (it, IT N) :: (env.locals, .sat (nsO m)) :: objs') →
      wpAny (model prog w) A (pyNext (.ref it)) (fun r s₁ => r = none ∧ compPost (model prog w) A NE use Q (.ref acc) C (.ok .next) s₁) NE (St z h t))
    (hcell : ∀ y ∈ scope.names, y.2 ≠ .cell) (hkind : scope.kind = .function) :
    wpAny (model prog w) A (newList []) (fun acc s₃ =>
      wpAny (model prog w) A (newFunctionEnv scope env.globals cl [] env.qual none .none (some env)) (fun cenv s₄ =>
        codeAny (model prog w) A (.compStart (.ListComp elt [⟨tgt, iter, ifs, 0⟩] scope pos) 0 (.ref it) acc { cenv with scope := relabel scope env }) (compPost (model prog w) A NE use Q acc cenv.locals) s₄) NE s₃) NE (St z h t) := by
  refine newLst X (fun h acc X => ?_) (by simp [sizeLine])
  refine wpAny_newFunctionEnv (s := St z h t) hcell (by intro y hy; simp at hy) (fun h₁ hns hsb => ?_) hkind
  have hext : Ext h h₁ := fun b o e => hsb.extBut b o (Nat.ne_of_lt (Heap.lt_size e)) (Heap.get?_push_of_some _ e)
  have X := (X.add hext (get_size h) (c := .sat (nsO _)) (ns_nsO hns)).turn
  have X := X.perm ((List.Perm.swap _ _ _).trans ((List.Perm.swap _ _ _).cons _))
  have loop : ∀ t, codeAny (model prog w) A (.compLoop (.ListComp elt [⟨tgt, iter, ifs, 0⟩] scope pos) 0 (.ref it) (.ref acc) (compEnvC scope cl h.objs.size env)) (compPost (model prog w) A NE use Q (.ref acc) h.objs.size) (St z h₁ t) := by
    intro t
    refine codeAny_compLoop_gen (fun n s => E7 fun k h' t D mc objs ys => A6 (s = St z h' t) (W prog w h₀ s₀ D h.objs.size h' mc ((acc, .lst ys) :: (it, IT k) :: (env.locals, .sat (nsO m)) :: objs)) (J k ys D objs) (k ≤ N) (ys.length ≤ k) (n = N - k)) ?_ N
      ⟨0, h₁, t, D, _, objs, [], rfl, X, hj, Nat.zero_le _, Nat.zero_le _, rfl⟩
    rintro n s ⟨k, h₂, t, D, mc, objs, ys, rfl, X, hj, hle, hys, rfl⟩
    by_cases hlt : k < N
    · refine wpAny_mono (step _ acc k ys D mc objs h₂ t hlt hj X) (fun r s₁ q => ?_) fun _ _ e => e.elim
      obtain ⟨v, rfl, q⟩ := q
      refine wpAny_mono q (fun _ s₁' q => wpAny_mono q (fun _ s₂ q => wpAny_mono q (fun ok s₃ q => ?_) fun _ _ e => e.elim) fun _ _ e => e.elim) fun _ _ e => e.elim
      cases ok with
      | false =>
        obtain ⟨h', t', D', mc', objs', rfl, X, hj⟩ := q
        exact ⟨N - (k + 1), Nat.sub_succ_lt_self _ _ hlt, k + 1, h', t', D', mc', objs', ys, rfl, X, hj, hlt, Nat.le_succ_of_le hys, rfl⟩
      | true =>
        refine wpAny_mono (show wpAny _ _ _ _ _ _ from q) (fun y s₄ q => ?_) fun _ _ e => e.elim
        obtain ⟨h', t', D', mc', objs', rfl, X, hj⟩ := q
        have hacc : h'.PlainList acc ys.toArray := X.obj _ (.head _)
        refine wpAny_list_append_plain (s := St z h' t') hacc (fun h₅ e sb => ?_) (by simp [sizeLine]; omega)
        exact ⟨N - (k + 1), Nat.sub_succ_lt_self _ _ hlt, k + 1, h₅, t', D', mc', objs', ys ++ [y], rfl, X.set0 (c' := .lst (ys ++ [y])) (fun b o hb e => (sb.2 b hb).trans e) (by show h₅.PlainList _ _; simpa using e) trivial, hj, hlt, by rw [List.length_append]; exact Nat.succ_le_succ hys, rfl⟩
    · have hkl : k = N := Nat.le_antisymm hle (Nat.not_lt.mp hlt)
      refine wpAny_mono (last _ acc ys D mc objs h₂ t (hkl ▸ hj) (hkl ▸ X)) (fun r s₁ q => ?_) fun _ _ e => e.elim
      obtain ⟨rfl, q⟩ := q
      exact q
  exact codeAny_compStart_list (loop _) (self _ _ acc _ _ _ _ X (loop _))

theorem compSqU {use : Option (Value → Sem Unit)} {elt iter : Expr} {x : Str} {px : Pos} {ifs : List Expr} {scope : Scope} {cl : List (Str × Addr)} {pos : Pos} {Q : Value → Shared → Prop} (hh : A.handled = none)
    (J : Nat → List Value → Wd → List (Addr × Cell) → Prop) (X : W prog w h₀ s₀ D env.locals h m objs) (hs : SqK kd h a vs) (hj : J 0 [] D objs) (hsz : vs.length ≤ 2 ^ 20)
    (seq : ∀ k j ys D' mc C acc it objs' h', W prog w h₀ s₀ D' C h' mc ((acc, .lst ys) :: (it, .sat (itS kd a j)) :: (env.locals, .sat (nsO m)) :: objs') → J k ys D' objs' → SqK kd h' a vs)
    (turn : ∀ C acc it k v ys D' mc objs' h' t', vs[k]? = some v → J k ys D' objs' → W prog w h₀ s₀ D' C h' (put x v mc) ((acc, .lst ys) :: (it, .sat (itS kd a (k + 1))) :: (env.locals, .sat (nsO m)) :: objs') → SqK kd h' a vs →
      wpAny (model prog w) A (testsOf ifs (compEnvC scope cl C env)) (fun ok s₃ => if ok = true then
          wpAny (model prog w) A (eval elt (compEnvC scope cl C env)) (fun y s₄ => CompTurn prog w A h₀ s₀ C z [(acc, .lst ys), (it, .sat (itS kd a (k + 1))), (env.locals, .sat (nsO m))] (J (k + 1) (ys ++ [y])) s₄) NE s₃
        else CompTurn prog w A h₀ s₀ C z [(acc, .lst ys), (it, .sat (itS kd a (k + 1))), (env.locals, .sat (nsO m))] (J (k + 1) ys) s₃) NE (St z h' t'))
    (fin : ∀ C acc ys D' mc objs' h' t', J vs.length ys D' objs' → W prog w h₀ s₀ D' env.locals h' m ((C, .sat (nsO mc)) :: (acc, .lst ys) :: objs') → compPost (model prog w) A NE use Q (.ref acc) C (.ok .next) (St z h' t'))
    (hcell : autoParam (∀ y ∈ scope.names, y.2 ≠ .cell) aD) (hkind : autoParam (scope.kind = .function) aR) (hx : autoParam (scope.names.lookup x = some .local) aR) :
    CompAt prog w A NE env scope cl (.ListComp elt [⟨.Name x px, iter, ifs, 0⟩] scope pos) use Q (.ref a) (St z h t) := by
  unfold CompAt
  refine iterSq X hs fun h it X hs => ?_
  refine compU (N := vs.length) (fun k => .sat (itS kd a k)) J X hj hsz (fun C mc acc h t Q E X q => iterIter X (.tail _ (.head _)) (seq 0 0 [] D mc C acc it objs h X hj) q) (fun C acc k ys D' mc objs' h t hk hj X => ?_) (fun C acc ys D' mc objs' h t hj X => ?_) hcell hkind
  · have hv := List.getElem?_eq_getElem hk
    refine nextSq (X.perm (List.Perm.swap _ _ _)) (seq k k ys D' mc C acc it objs' h X hj) hv fun h₃ X _ => ⟨_, rfl, letNm (wpAny_assign_Name (stL (env := compEnvC scope cl C env) X (fun h₄ tk X => ?_) hkind (lookup_relabel_local hx)))⟩
    have X := X.perm (List.Perm.swap _ _ _)
    exact turn C acc it k _ ys D' mc objs' h₄ tk hv hj X (seq k (k + 1) ys D' _ C acc it objs' h₄ X hj)
  · exact endSq hh (X.perm (List.Perm.swap _ _ _)) (seq _ _ ys D' mc C acc it objs' h X hj) (List.getElem?_eq_none (Nat.le_refl _)) fun h₃ X hs => ⟨rfl, fin C acc ys D' mc objs' h₃ t hj (X.perm (List.Perm.swap _ _ _)).turn⟩

theorem compSq {elt iter : Expr} {x : Str} {px : Pos} {ifs : List Expr} {scope : Scope} {cl : List (Str × Addr)} {pos : Pos} {Q : Value → Shared → Prop} (hh : A.handled = none)
    (J : Nat → List Value → Wd → List (Addr × Cell) → Prop) (X : W prog w h₀ s₀ D env.locals h m objs) (hs : SqK kd h a vs) (hj : J 0 [] D objs) (hsz : vs.length ≤ 2 ^ 20)
    (seq : ∀ k j ys D' mc C acc it objs' h', W prog w h₀ s₀ D' C h' mc ((acc, .lst ys) :: (it, .sat (itS kd a j)) :: (env.locals, .sat (nsO m)) :: objs') → J k ys D' objs' → SqK kd h' a vs)
    (turn : ∀ C acc it k v ys D' mc objs' h' t', vs[k]? = some v → J k ys D' objs' → W prog w h₀ s₀ D' C h' (put x v mc) ((acc, .lst ys) :: (it, .sat (itS kd a (k + 1))) :: (env.locals, .sat (nsO m)) :: objs') → SqK kd h' a vs →
      wpAny (model prog w) A (testsOf ifs (compEnvC scope cl C env)) (fun ok s₃ => if ok = true then
          wpAny (model prog w) A (eval elt (compEnvC scope cl C env)) (fun y s₄ => CompTurn prog w A h₀ s₀ C z [(acc, .lst ys), (it, .sat (itS kd a (k + 1))), (env.locals, .sat (nsO m))] (J (k + 1) (ys ++ [y])) s₄) NE s₃
        else CompTurn prog w A h₀ s₀ C z [(acc, .lst ys), (it, .sat (itS kd a (k + 1))), (env.locals, .sat (nsO m))] (J (k + 1) ys) s₃) NE (St z h' t'))
    (done : ∀ acc ys D' objs' h' t', J vs.length ys D' objs' → W prog w h₀ s₀ D' env.locals h' m ((acc, .lst ys) :: objs') → Q (.ref acc) (St z h' t'))
    (hcell : autoParam (∀ y ∈ scope.names, y.2 ≠ .cell) aD) (hkind : autoParam (scope.kind = .function) aR) (hx : autoParam (scope.names.lookup x = some .local) aR) :
    CompAt prog w A NE env scope cl (.ListComp elt [⟨.Name x px, iter, ifs, 0⟩] scope pos) none Q (.ref a) (St z h t) :=
  compSqU hh J X hs hj hsz seq turn (fun C acc ys D' mc objs' h' t' hj X => ⟨mc, nsO_ns (X.obj _ (.head _)), fun h₄ sb => done acc ys D' objs' h₄ t' hj (X.letGo (fun b o hb e => (sb.2 b hb).trans e) nsO_noTup)⟩) hcell hkind hx
theorem compSqA {y : Str} {py : Pos} {elt iter : Expr} {x : Str} {px : Pos} {ifs : List Expr} {scope : Scope} {cl : List (Str × Addr)} {pos : Pos} {Q : Value → Shared → Prop} (hh : A.handled = none)
    (J : Nat → List Value → Wd → List (Addr × Cell) → Prop) (X : W prog w h₀ s₀ D env.locals h m objs) (hs : SqK kd h a vs) (hj : J 0 [] D objs) (hsz : vs.length ≤ 2 ^ 20)
    (seq : ∀ k j ys D' mc C acc it objs' h', W prog w h₀ s₀ D' C h' mc ((acc, .lst ys) :: (it, .sat (itS kd a j)) :: (env.locals, .sat (nsO m)) :: objs') → J k ys D' objs' → SqK kd h' a vs)
    (turn : ∀ C acc it k v ys D' mc objs' h' t', vs[k]? = some v → J k ys D' objs' → W prog w h₀ s₀ D' C h' (put x v mc) ((acc, .lst ys) :: (it, .sat (itS kd a (k + 1))) :: (env.locals, .sat (nsO m)) :: objs') → SqK kd h' a vs →
      wpAny (model prog w) A (testsOf ifs (compEnvC scope cl C env)) (fun ok s₃ => if ok = true then
          wpAny (model prog w) A (eval elt (compEnvC scope cl C env)) (fun y s₄ => CompTurn prog w A h₀ s₀ C z [(acc, .lst ys), (it, .sat (itS kd a (k + 1))), (env.locals, .sat (nsO m))] (J (k + 1) (ys ++ [y])) s₄) NE s₃
        else CompTurn prog w A h₀ s₀ C z [(acc, .lst ys), (it, .sat (itS kd a (k + 1))), (env.locals, .sat (nsO m))] (J (k + 1) ys) s₃) NE (St z h' t'))
    (done : ∀ acc ys D' objs' h' t', J vs.length ys D' objs' → W prog w h₀ s₀ D' env.locals h' (put y (.ref acc) m) ((acc, .lst ys) :: objs') → Q .none (St z h' t'))
    (hcell : autoParam (∀ y ∈ scope.names, y.2 ≠ .cell) aD) (hkind : autoParam (scope.kind = .function) aR) (hkk : autoParam (env.scope.kind = .function) aR) (hly : autoParam (env.kindOf y = some .local) aR) (hx : autoParam (scope.names.lookup x = some .local) aR) :
    CompAt prog w A NE env scope cl (.ListComp elt [⟨.Name x px, iter, ifs, 0⟩] scope pos) (some (assign (.Name y py) env)) Q (.ref a) (St z h t) :=
  compSqU hh J X hs hj hsz seq turn (fun C acc ys D' mc objs' h' t' hj X => wpAny_assign_Name (stL X (fun h₃ t₃ X => ⟨mc, nsO_ns (X.obj _ (.head _)), fun h₄ sb => done acc ys D' objs' h₄ t₃ hj (X.letGo (fun b o hb e => (sb.2 b hb).trans e) nsO_noTup)⟩) hkk hly)) hcell hkind hx

theorem tupAt' {h h' : Heap} {a : Addr} {xs : Array Value} (x : IsTup h a xs) (k : ∀ o, h.get? a = some o → h'.get? a = some o) : IsTup h' a xs := let ⟨o, e, r⟩ := x; ⟨o, k o e, r⟩
/-- a tuple held fast beside the world -/
noncomputable def Wd.pin (D : Wd) (a : Addr) (us : List Value) : Wd := ⟨D.own, fun h => D.I h ∧ IsTup h a us.toArray, fun h h' x g => ⟨D.stab h h' x.1 g, by
  obtain ⟨o, e, c, n, d⟩ := x.2
  exact ⟨o, g a o e (.inr ⟨c, _, n, d⟩), c, n, d⟩⟩, fun h x => D.live h x.1⟩
theorem W.pin {us : List Value} (X : W prog w h₀ s₀ D L h m objs) (ht : IsTup h a us.toArray) : W prog w h₀ s₀ (D.pin a us) L h m objs := ⟨X.ext, X.keep, X.base, ⟨X.inv, ht⟩, X.ns, X.obj, X.nd, X.fresh⟩
theorem W.unpin {us : List Value} (X : W prog w h₀ s₀ (D.pin a us) L h m objs) : W prog w h₀ s₀ D L h m objs := ⟨X.ext, X.keep, X.base, X.inv.1, X.ns, X.obj, X.nd, X.fresh⟩

/-- any(list of bools) -/
theorem anyL {bs : List Bool} {Q : Value → Shared → Prop} (hh : A.handled = none) (hl : h.PlainList a ((bs.map Value.bool).toArray)) (q : ∀ h' tk, Ext h h' → Q (.bool (bs.any id)) (St z h' tk)) : wpAny (model prog w) A (call (.builtin "any") [.ref a]) Q E (St z h t) := by
  refine call_any_walk (wpAny_pyIter_list (s := St z h t) hl.isList ?_)
  have hne : a ≠ h.objs.size := by obtain ⟨n, e⟩ := hl; exact Nat.ne_of_lt (Heap.lt_size e)
  refine ⟨h.objs.size, _, _, _, _, _, fun i => bs.getD i false, rfl, Walks.list (A := A.in1) hh h.objs.size a hne (bs.map Value.bool).toArray, ⟨⟨_, Heap.get?_push_size _ rfl, rfl, rfl⟩, hl.isList.at fun o e => Heap.get?_push_of_some _ e⟩, fun i v s Q E hv hq => ?_, fun h' tk hk => ?_⟩
  · have e : bs[i]? = some (bs.getD i false) ∧ v = .bool (bs.getD i false) := by
      simp only [List.getElem?_toArray, List.getElem?_map] at hv
      cases hb : bs[i]? with
      | none => rw [hb] at hv; cases hv
      | some b =>
        rw [hb] at hv
        simp only [Option.map_some, Option.some.injEq] at hv
        simp [hb, ← hv]
    rw [e.2]
    exact wpAny_truthy_bool hq
  · have e : (List.range (bs.map Value.bool).toArray.size).any (fun i => bs.getD i false) = bs.any id := by
      simp only [List.size_toArray, List.length_map]
      rw [Bool.eq_iff_iff, List.any_eq_true, List.any_eq_true]
      constructor
      · rintro ⟨i, hi, hb⟩
        have hi := List.mem_range.mp hi
        exact ⟨bs[i], List.getElem_mem hi, by simpa [hi] using hb⟩
      · rintro ⟨b, hb, h1⟩
        obtain ⟨i, hi, rfl⟩ := List.mem_iff_getElem.mp hb
        exact ⟨i, List.mem_range.mpr hi, by simpa [hi] using h1⟩
    rw [e]
    refine q h' tk fun b o eb => hk b o ?_ (Heap.get?_push_of_some _ eb)
    simp only [List.mem_singleton]
    exact Nat.ne_of_lt (Heap.lt_size eb)
end
end Mine

-- Tup
namespace Mine
section
variable {prog : Program} {w : World} {A : Around} {E : Value → Shared → Prop} {z : Shared} {h₀ s₀ h : Heap} {t : Nat} {D : Wd} {L C a it : Addr} {m mc : Str → Option Value} {objs : List (Addr × Cell)} {vs : List Value} {env : Env} {kd : String}

theorem aioNil {ts : List (Value → Sem Unit)} {Q : Unit → Shared → Prop} {s : Shared} (q : Q () s) : wpAny (model prog w) A (assignInOrder ts []) Q E s := by
  cases ts <;> exact wpAny_pure q
theorem aioCons {f : Value → Sem Unit} {ts : List (Value → Sem Unit)} {v : Value} {vs : List Value} {Q : Unit → Shared → Prop} {s : Shared} (q : wpAny (model prog w) A (f v) (fun _ => wpAny (model prog w) A (assignInOrder ts vs) Q E) E s) :
    wpAny (model prog w) A (assignInOrder (f :: ts) (v :: vs)) Q E s := wpAny_bind (wpAny_holding q)

theorem sTupS {elts : List Expr} {k : _} {tpos pos : Pos} {value : Expr} {rest : List Stmt} {Q : Flow → Shared → Prop} {s : Shared} (names : List Str)
    (q : wpAny (model prog w) A (eval value env) (fun v s₁ => wpAny (model prog w) A (unpackItems v names.length none) (fun items s₂ =>
      wpAny (model prog w) A (assignInOrder (names.reverse.map fun n => bindName env n) items.reverse) (fun _ => wpAny (model prog w) A (execs rest env) Q E) E s₂) E s₁) E s)
    (hs : autoParam (swapsWithSole [.Tuple elts k tpos] value pos.line env = pure false) aR)
    (hw : autoParam (swappedStores [.Tuple elts k tpos] value env = pure (some names)) aR) :
    wpAny (model prog w) A (execs (.Assign [.Tuple elts k tpos] value pos :: rest) env) Q E s := wpAny_execs_cons (Assign_Tuple_swapped q hs hw)
theorem sTup {elts : List Expr} {k : _} {tpos pos : Pos} {value : Expr} {rest : List Stmt} {Q : Flow → Shared → Prop} {s : Shared}
    (q : wpAny (model prog w) A (eval value env) (fun v s₁ => wpAny (model prog w) A (unpack v (assignEach elts env)) (fun _ => wpAny (model prog w) A (execs rest env) Q E) E s₁) E s)
    (hs : autoParam (swapsWithSole [.Tuple elts k tpos] value pos.line env = pure false) aR)
    (hw : autoParam (swappedStores [.Tuple elts k tpos] value env = pure none) aR) :
    wpAny (model prog w) A (execs (.Assign [.Tuple elts k tpos] value pos :: rest) env) Q E s :=
  wpAny_execs_cons (Assign_Tuple (wpAny_mono q (fun v s₁ q => by rw [assign_Tuple]; exact wpAny_bind (wpAny_standAt q)) fun _ _ e => e) hs hw)

/-- a tuple taken apart, its items handed over -/
theorem unpI {n : Nat} {Q : List Value → Shared → Prop} (hh : A.handled = none) (X : W prog w h₀ s₀ D L h m objs) (ht : IsTup h a vs.toArray) (hn : n = vs.length) (q : ∀ h', W prog w h₀ s₀ D L h' m objs → Ext h h' → Q vs (St z h' t)) :
    wpAny (model prog w) A (unpackItems (.ref a) n none) Q E (St z h t) := by
  have e : n = vs.toArray.size := by simpa using hn
  subst e
  refine unpackItems_tuple (s := St z h t) hh ht fun h' he => ?_
  have hx : Ext h h' := fun b o e => he b o (Nat.ne_of_lt (Heap.lt_size e)) e
  exact q h' (X.grow hx) hx
theorem unp {elts : List Expr} {Q : Unit → Shared → Prop} (hh : A.handled = none) (X : W prog w h₀ s₀ D L h m objs) (ht : IsTup h a vs.toArray)
    (q : ∀ h', W prog w h₀ s₀ D L h' m objs → Ext h h' → wpAny (model prog w) A (assignInOrder ((assignEach elts env).map (·.2)) vs) Q E (St z h' t)) (hn : autoParam ((assignEach elts env).length = vs.length) aR) (hstar : autoParam ((assignEach elts env).findIdx? (·.1) = none) aR) :
    wpAny (model prog w) A (unpack (.ref a) (assignEach elts env)) Q E (St z h t) := by
  refine PyProof.Rows.unpack_tuple (s := St z h t) hh ht (by simpa using hn) hstar fun h' he => ?_
  have hx : Ext h h' := fun b o e => he b o (Nat.ne_of_lt (Heap.lt_size e)) e
  exact q h' (X.grow hx) hx

theorem bindL' {x : Str} {v : Value} {Q : Unit → Shared → Prop} (X : W prog w h₀ s₀ D env.locals h m objs)
    (q : ∀ h' tk, W prog w h₀ s₀ D env.locals h' (put x v m) objs → Q () (St z h' tk))
    (hk : autoParam (env.scope.kind = .function) aR) (hl : autoParam (env.kindOf x = some .local) aR) : wpAny (model prog w) A (bindName env x v) Q E (St z h t) := bindName_ (stL X q hk hl)

/-- names swapped: two -/
theorem swap2 {x y : Str} {v₁ v₂ : Value} {Q : Unit → Shared → Prop} (hh : A.handled = none) (X : W prog w h₀ s₀ D env.locals h m objs) (ht : IsTup h a [v₁, v₂].toArray)
    (q : ∀ h' tk, W prog w h₀ s₀ D env.locals h' (put x v₁ (put y v₂ m)) objs → Q () (St z h' tk))
    (hk : autoParam (env.scope.kind = .function) aR) (hlx : autoParam (env.kindOf x = some .local) aR) (hly : autoParam (env.kindOf y = some .local) aR) :
    wpAny (model prog w) A (unpackItems (.ref a) [x, y].length none) (fun items s₂ => wpAny (model prog w) A (assignInOrder ([x, y].reverse.map fun n => bindName env n) items.reverse) Q E s₂) E (St z h t) :=
  unpI hh X ht rfl fun _ X _ => aioCons (bindL' X (fun _ _ X => aioCons (bindL' X (fun _ _ X => aioNil (q _ _ X)) hk hlx)) hk hly)
theorem swap3 {x y u : Str} {v₁ v₂ v₃ : Value} {Q : Unit → Shared → Prop} (hh : A.handled = none) (X : W prog w h₀ s₀ D env.locals h m objs) (ht : IsTup h a [v₁, v₂, v₃].toArray)
    (q : ∀ h' tk, W prog w h₀ s₀ D env.locals h' (put x v₁ (put y v₂ (put u v₃ m))) objs → Q () (St z h' tk))
    (hk : autoParam (env.scope.kind = .function) aR) (hlx : autoParam (env.kindOf x = some .local) aR) (hly : autoParam (env.kindOf y = some .local) aR) (hlu : autoParam (env.kindOf u = some .local) aR) :
    wpAny (model prog w) A (unpackItems (.ref a) [x, y, u].length none) (fun items s₂ => wpAny (model prog w) A (assignInOrder ([x, y, u].reverse.map fun n => bindName env n) items.reverse) Q E s₂) E (St z h t) :=
  unpI hh X ht rfl fun _ X _ => aioCons (bindL' X (fun _ _ X => aioCons (bindL' X (fun _ _ X => aioCons (bindL' X (fun _ _ X => aioNil (q _ _ X)) hk hlx)) hk hly)) hk hlu)

/-- y = [ .. for .. ], kept in the comprehension's own way -/
theorem sComp {elt iter : Expr} {x y : Str} {px py : Pos} {ifs : List Expr} {scope : Scope} {pos spos : Pos} {s : Shared} {rest : List Stmt} {Q : Flow → Shared → Prop} (cl : List (Str × Addr))
    (q : wpAny (model prog w) A (eval iter env) (CompAt prog w A E env scope cl (.ListComp elt [⟨.Name x px, iter, ifs, 0⟩] scope pos) (some (assign (.Name y py) env)) (fun _ s' => wpAny (model prog w) A (execs rest env) Q E s')) E s)
    (hsw : autoParam (swapsWith (.ListComp elt [⟨.Name x px, iter, ifs, 0⟩] scope pos) (some (.Name y py)) spos.line env = pure true) aR)
    (hclos : autoParam (closureFor scope env = pure cl) aR) (hkind : autoParam (scope.kind = .function) aR)
    (hnames : autoParam (∀ x ∈ scope.names, x.2 = .local → scope.names.lookup x.1 = some .local) aD)
    (hs : ∀ x, foldedSetIterable iter env x = pure x := by intro _; rfl) :
    wpAny (model prog w) A (execs (.Assign [.Name y py] (.ListComp elt [⟨.Name x px, iter, ifs, 0⟩] scope pos) spos :: rest) env) Q E s := by
  refine wpAny_execs_cons ?_
  rw [exec_Assign_Name_used _ _ _ _ hsw]
  refine wpAny_bind (wpAny_standAt (wpAny_bind ?_))
  show wpAny _ A (do let _ ← comprehension (.ListComp elt [⟨.Name x px, iter, ifs, 0⟩] scope pos) scope env _ (newList []) false (eval iter env) (some (assign (.Name y py) env))) _ _ s
  refine wpAny_bind (wpAny_mono (wpAny_comprehension_free (use := some (assign (.Name y py) env)) (Q := fun _ s' => wpAny (model prog w) A (execs rest env) Q E s') rfl hs hclos hkind hnames q) (fun _ s' hq => wpAny_pure (wpAny_pure hq)) fun _ _ e => e)
end
end Mine

-- Rw
namespace Mine

structure Rho where
  inst : Addr
  dict : Addr
  f : Str → Option Value
  k : Nat
noncomputable def rwMeths : List Str := ["flat", "thinned", "joined", "negated", "same", "chosen_bool", "chosen", "equal", "equal_others"]
structure RwOk (β : Adr) (ρ : Rho) : Prop where
  inst : ρ.inst ∉ β.own
  dict : ρ.dict ∉ β.own
  bank : ρ.f "bank" = some (.ref β.inst)
  yes : ∃ t, ρ.f "yes" = some (.int 1 t)
  no : ∃ t, ρ.f "no" = some (.int 2 t)
  meths : ∀ n ∈ rwMeths, ρ.f n = none
noncomputable def RAt (ρ : Rho) (h : Heap) : Prop := Attrs h ρ.inst 513 ρ.dict ρ.f ρ.k

theorem All2.append {α β : Type} {R : α → β → Prop} {a c : List α} {b d : List β} (x : All2 R a b) (y : All2 R c d) : All2 R (a ++ c) (b ++ d) := by
  induction x with
  | nil => exact y
  | cons r _ ih => exact .cons r ih
theorem All2.reverse {α β : Type} {R : α → β → Prop} {a : List α} {b : List β} (x : All2 R a b) : All2 R a.reverse b.reverse := by
  induction x with
  | nil => exact .nil
  | cons r _ ih => simp only [List.reverse_cons]; exact ih.append (.cons r .nil)
set_option tactic.hygienic true in
theorem All2.unsnoc {α β : Type} {R : α → β → Prop} {a : List α} {b : List β} {y : β} (x : All2 R a (b ++ [y])) : ∃ a' v, a = a' ++ [v] ∧ All2 R a' b ∧ R v y := by
  have r := x.reverse
  simp only [List.reverse_append, List.reverse_cons, List.reverse_nil, List.nil_append, List.singleton_append] at r
  generalize e : a.reverse = ar at r
  cases r with
  | cons h t =>
    rename_i v a'
    refine ⟨a'.reverse, v, ?_, by simpa using t.reverse, h⟩
    have : a = (v :: a').reverse := by rw [← e, List.reverse_reverse]
    simpa using this

section
variable {prog : Program} {w : World} {β : Adr} {ρ : Rho} {B : List Tm} {A : Around} {E : Value → Shared → Prop} {z : Shared} {h₀ s₀ h : Heap} {t : Nat} {R : Result → Shared → Prop} {n i : Nat} {u : Tok} {x : Tm} {D D' : Wd} {L a : Addr} {m : Str → Option Value} {objs : List (Addr × Cell)}

theorem RAt.to {h' : Heap} (r : RwOk β ρ) (x : RAt ρ s₀) (X : W prog w h₀ s₀ D L h' m objs) (hD : D.own = β.own) : RAt ρ h' := by
  obtain ⟨a, es, n, b, c⟩ := x
  exact ⟨X.keep _ _ (hD ▸ r.inst) a, es, n, X.keep _ _ (hD ▸ r.dict) b, c⟩
theorem RAt.keep {h' : Heap} (r : RwOk β ρ) (x : RAt ρ h) (k : Keep β.own h h') : RAt ρ h' := by
  obtain ⟨a, es, n, b, c⟩ := x
  exact ⟨k _ _ r.inst a, es, n, k _ _ r.dict b, c⟩

theorem W.addNew {h' : Heap} {c : Cell} (X : W prog w h₀ s₀ D L h m objs) (X' : W prog w h₀ s₀ D' L h' m objs) (hD : D'.own = D.own) (ha : h.get? a = none) (hc : c.at prog w h' a) : W prog w h₀ s₀ D' L h' m ((a, c) :: objs) := by
  have hne : a ∉ L :: objs.map (·.1) := fun q => X.live q ha
  refine ⟨X'.ext, X'.keep, X'.base, X'.inv, X'.ns, fun p hp => ?_, ?_, ?_⟩
  · rcases List.mem_cons.mp hp with rfl | hp
    · exact hc
    · exact X'.obj p hp
  · have nd := List.nodup_cons.mp X'.nd
    simp only [List.map_cons]
    refine List.nodup_cons.mpr ⟨?_, List.nodup_cons.mpr ⟨?_, nd.2⟩⟩
    · intro q
      rcases List.mem_cons.mp q with q | q
      · exact hne (q ▸ .head _)
      · exact nd.1 q
    · intro q
      exact hne (.tail _ q)
  · intro b hb
    have : b = a ∨ b ∈ L :: objs.map (·.1) := by
      simp only [List.map_cons, List.mem_cons] at hb ⊢
      rcases hb with hb | hb | hb <;> simp [hb]
    rcases this with rfl | hb
    · exact ⟨(X.old ha).1, hD ▸ (X.old ha).2⟩
    · exact X'.fresh b hb

theorem lenT {l : Addr} {vs : List Value} {Q : Value → Shared → Prop} (hl : IsTup h l vs.toArray) (hf : vs.length ≤ 2 ^ 24) (q : ∀ u tk, Q (.int vs.length u) (St z h tk)) : wpAny (model prog w) A (call (.builtin "len") [.ref l]) Q E (St z h t) :=
  PyProof.Rows.len_tuple (s := St z h t) hl (by simp only [List.size_toArray]; omega) (by simp only [List.size_toArray]; exact q _ _)

theorem sCont {env : Env} {pos : Pos} {rest : List Stmt} {Q : Flow → Shared → Prop} {s : Shared} (q : Q .cont s) : wpAny (model prog w) A (execs (.Continue pos :: rest) env) Q E s := wpAny_execs_cons (wpAny_Continue q)
section
variable {env : Env}
theorem selfBank {pos p : Pos} {Q : Value → Shared → Prop} (r₀ : RwOk β ρ) (g : Gd w h₀) (hρ : RAt ρ s₀) (X : W prog w h₀ s₀ D env.locals h m objs) (hs : m "self" = some (.ref ρ.inst)) (q : ∀ tk, Q (.ref β.inst) (St z h tk)) (hD : autoParam (D.own = β.own) aR)
    (hk : autoParam (env.scope.kind = .function) aR) (hl : autoParam (env.kindOf "self" = some .local) aR) : wpAny (model prog w) A (eval (.Attribute (.Name "self" p) "bank" pos) env) Q E (St z h t) :=
  Attribute_any_ (nmL X hs (getA (X.gd g) cls513 (hρ.to r₀ X hD) r₀.bank (by k_is) rfl q) hk hl)
theorem selfYes {pos p : Pos} {Q : Value → Shared → Prop} (r₀ : RwOk β ρ) (g : Gd w h₀) (hρ : RAt ρ s₀) (X : W prog w h₀ s₀ D env.locals h m objs) (hs : m "self" = some (.ref ρ.inst)) (q : ∀ u tk, Q (.int 1 u) (St z h tk)) (hD : autoParam (D.own = β.own) aR)
    (hk : autoParam (env.scope.kind = .function) aR) (hl : autoParam (env.kindOf "self" = some .local) aR) : wpAny (model prog w) A (eval (.Attribute (.Name "self" p) "yes" pos) env) Q E (St z h t) := by
  obtain ⟨u, hu⟩ := r₀.yes
  exact Attribute_any_ (nmL X hs (getA (X.gd g) cls513 (hρ.to r₀ X hD) hu (by k_is) rfl (q u)) hk hl)
theorem selfNo {pos p : Pos} {Q : Value → Shared → Prop} (r₀ : RwOk β ρ) (g : Gd w h₀) (hρ : RAt ρ s₀) (X : W prog w h₀ s₀ D env.locals h m objs) (hs : m "self" = some (.ref ρ.inst)) (q : ∀ u tk, Q (.int 2 u) (St z h tk)) (hD : autoParam (D.own = β.own) aR)
    (hk : autoParam (env.scope.kind = .function) aR) (hl : autoParam (env.kindOf "self" = some .local) aR) : wpAny (model prog w) A (eval (.Attribute (.Name "self" p) "no" pos) env) Q E (St z h t) := by
  obtain ⟨u, hu⟩ := r₀.no
  exact Attribute_any_ (nmL X hs (getA (X.gd g) cls513 (hρ.to r₀ X hD) hu (by k_is) rfl (q u)) hk hl)
end

theorem negated_spec {t₀ r : Nat} {B' : List Tm} (C : Cf w h₀ β) (r₀ : RwOk β ρ) (hρ : RAt ρ h) (g : Gnd w h₀ h) (hr : Room A 4) (hB : BankAt prog w β B h) (hm : notOf t₀ B = some (r, B')) (hsz : B.length ≤ 2 ^ 23)
    (hR : ∀ h' tk u, BankAt prog w β B' h' → Keep β.own h h' → Ext h₀ h' → R (.ok (.ret (.int r u))) (St z h' tk)) :
    codeAny (model prog w) A (.call (.ref 444) ⟨[.ref ρ.inst, .int t₀ u], []⟩) R (St z h t) := by
  refine enterF 444 [("self", .ref ρ.inst), ("t", .int t₀ u)] g hr fun h₁ L A' tk en hns hr' => ?_
  have X := W.enter (prog := prog) (bankWd prog w β B) g hB en hns
  refine sRet (MethodCall_ (Attribute_any_ (nmL X rfl (getA (X.gd g.G) cls513 (hρ.to r₀ X rfl) r₀.bank (by k_is) rfl fun tk => ?_))))
  refine mB (X.gd g.G) cls388 X.inv.attrs (C.full.meths _ (by decide)) (argsS X (.cons (.loc rfl) .nil) ⟨(X.gd g.G).K, ?_⟩)
  refine not_of_spec C (X.gnd g.G) hr' X.inv hm hsz fun h' tk u hB' k e => ?_
  have X := X.call (D' := bankWd prog w β B') rfl k e hB'
  exact hR _ _ _ X.inv X.keep X.ext

set_option tactic.hygienic true in
theorem flatM_len {op : Op} {n : Nat} {l found : List Nat} {r : Option (List Nat)} {B B' : List Tm} (e : flatM op n l found B = some (r, B')) : l.length ≤ 1001 ∧ (n ≠ 0) ∧ found.length ≤ 60 := by
  cases n with
  | zero => cases e
  | succ n =>
    cases l with
    | nil =>
      unfold flatM at e
      split at e
      · cases e
      · exact ⟨Nat.zero_le _, Nat.succ_ne_zero _, Nat.not_lt.mp (by assumption)⟩
    | cons t rest =>
      unfold flatM at e
      split at e
      · cases e
      · rename_i hc
        exact ⟨Nat.succ_le_succ (Nat.not_lt.mp fun q => hc (.inl q)), Nat.succ_ne_zero _, Nat.not_lt.mp fun q => hc (.inr q)⟩

/-- rewriter.flat -/
theorem flat_spec {op : Op} {u₁ : Tok} {vs : List Value} {some₀ : List Nat} {r : Option (List Nat)} {B' : List Tm} (C : Cf w h₀ β) (r₀ : RwOk β ρ) (hρ : RAt ρ h) (g : Gnd w h₀ h) (hr : Room A 4) (hB : BankAt prog w β B h)
    (hq : Sq h a vs) (ho : a ∉ β.own) (hl : All2 IsI vs some₀) (hop : op = .and ∨ op = .or) (hm : flatM op n some₀ [] B = some (r, B')) (hsz : B'.length ≤ 2 ^ 23)
    (hR : ∀ h' tk, BankAt prog w β B' h' → Keep β.own h h' → Ext h₀ h' → match r with
      | none => R (.ok (.ret .none)) (St z h' tk)
      | some found => ∀ d, h.get? d = none → h'.DictOf (intKind prog w) d (dicOf found) → R (.ok (.ret (.ref d))) (St z h' tk)) :
    codeAny (model prog w) A (.call (.ref 425) ⟨[.ref ρ.inst, .str op.str u₁, .ref a], []⟩) R (St z h t) := by
  refine enterF 425 [("self", .ref ρ.inst), ("op", .str op.str u₁), ("some", .ref a)] g hr fun h₁ L A' tk en hns hr' => ?_
  have X := W.enter (prog := prog) (bankWd prog w β B) g hB en hns
  refine sTup (wpAny_mono (Q := fun v s₁ => ∃ a₁ h₂ tk ut us, v = .ref a₁ ∧ s₁ = St z h₂ tk ∧ W prog w h₀ h (bankWd prog w β B) L h₂ (lk [("self", .ref ρ.inst), ("op", .str op.str u₁), ("some", .ref a)]) [(a₁, .tup [.int (unitOf op) ut, .int (settleOf op) us])]) ?_ ?_ fun _ _ e => e)
  · refine wpAny_IfExp (wpAny_isTrue_Compare1 (nmL X rfl (cStr fun u tk => eqOp .and (wpAny_truthy_bool ?_))))
    rcases hop with rfl | rfl
    · exact Tuple_ (args_cons (selfYes r₀ g.G hρ X rfl fun u₁ tk => args_cons (selfNo r₀ g.G hρ X rfl fun u₂ tk => args_nil (newTup X fun h' a' X => ⟨a', h', tk, u₁, u₂, rfl, rfl, X⟩))))
    · exact Tuple_ (args_cons (selfNo r₀ g.G hρ X rfl fun u₁ tk => args_cons (selfYes r₀ g.G hρ X rfl fun u₂ tk => args_nil (newTup X fun h' a' X => ⟨a', h', tk, u₁, u₂, rfl, rfl, X⟩))))
  rintro v s₁ ⟨a₁, h₂, tk, ut, us, rfl, rfl, X⟩
  refine unp hr'.hh X (X.obj _ (.head _)) fun h' X e => aioCons (assign_Name (stL X fun h' tk X => aioCons (assign_Name (stL X fun h' tk X => aioNil ?_))))
  have X := X.drop
  have hq' : Sq h' a vs := by
    obtain ⟨kd, hk⟩ := hq
    exact ⟨kd, hk.to fun o e => X.keep _ _ ho e⟩
  have hlen := flatM_len hm
  -- found, stack
  refine sTupS ["found", "stack"] (Tuple_ (args_cons (newD X fun h' d X => args_cons ?_)))
  have hq'' : Sq h' a vs := by
    obtain ⟨kd, hk⟩ := hq
    exact ⟨kd, hk.to fun o e => X.keep _ _ ho e⟩
  refine Call_ (nmB (X.gd g.G) (by k_is) PyProof.Rows.boot_list (PyProof.Rows.callWith_type1 (args_cons ?_)))
  refine Call_ (nmB (X.gd g.G) (by k_is) boot_reversed (PyProof.Rows.callWith_type1 (argsS X (.cons (.loc rfl) .nil) (revNew X hq'' (by rw [hl.len]; omega) fun h' it kd tk X hs => args_nil ?_))))
  refine listRev hr'.hh X hs (by rw [hl.len]; omega) fun h' S tk X => args_nil (newTup X fun h' a₂ X => ?_)
  refine swap2 hr'.hh X (X.obj _ (.head _)) fun h' tk X => ?_
  have X := X.drop
  -- the loop
  have X := X.perm (List.Perm.swap _ _ _)
  refine sWhile (fun n h' => E5 fun B₁ stack found vs m => A9 (W prog w h₀ h (bankWd prog w β B₁) L h' m [(d, .dic (dicOf found)), (S, .lst vs)]) (All2 IsI vs stack.reverse) (flatM op n stack found B₁ = some (r, B')) (m "self" = some (.ref ρ.inst)) (m "op" = some (.str op.str u₁)) (m "unit" = some (.int (unitOf op) ut)) (m "settling" = some (.int (settleOf op) us)) (m "found" = some (.ref d)) (m "stack" = some (.ref S))) n
    ⟨B, some₀, [], vs.reverse, _, X, hl.reverse, hm, rfl, rfl, rfl, rfl, rfl, rfl⟩ ?_
  clear X hq' hq'' hs hlen hm hB
  rintro n h' t T hT ⟨B₁, stack, found, vs, m, X, hl, hm, m1, m2, m3, m4, m5, m6⟩
  have hlen := flatM_len hm
  refine wpAny_isTrue_Compare1 (Call_ (nmB (X.gd g.G) (by k_is) boot_len (PyProof.Rows.callWith_builtin1 (argsS X (.cons (.loc m6) .nil) (lenL (X.obj _ (.tail _ (.head _))) (by rw [hl.len, List.length_reverse]; exact Nat.le_trans hlen.1 (by decide)) fun u tk => ?_)))))
  refine cInt fun u tk => PyProof.Rows.gt_int (wpAny_truthy_bool ?_)
  have e0 : decide ((0 : Int) < (vs.length : Int)) = decide (0 < stack.length) := by rw [hl.len]; simp
  rw [e0]
  obtain ⟨n, rfl⟩ := Nat.exists_eq_succ_of_ne_zero hlen.2.1
  have hgr := (gr_flatM op _ _ _).len hm
  cases stack with
  | nil =>
    simp only [List.length_nil, Nat.lt_irrefl, decide_false, Bool.false_eq_true, if_false]
    unfold flatM at hm
    replace hm := bmF (Nat.not_lt.mpr hlen.2.2) hm
    cases hm
    exact sRet (nmL X m5 (hR _ _ X.inv X.keep X.ext d (X.fresh d (.tail _ (.head _))).1 (X.obj _ (.head _))))
  | cons t₁ rest =>
    simp only [List.length_cons, Nat.zero_lt_succ, decide_true, if_true]
    rw [List.reverse_cons] at hl
    obtain ⟨vs, v, rfl, hl₂, u₁', rfl⟩ := hl.unsnoc
    have hvl := hl₂.len
    simp only [List.length_reverse, List.length_cons] at hvl hlen
    refine sAsg (MethodCall_ (nmL X m6 (getMethodList F.slot_list_pop F.type_list_pop (X.obj _ (.tail _ (.head _))) (popL (X.obj _ (.tail _ (.head _))) (Nat.le_trans (Nat.le_of_eq hvl) (Nat.le_trans (Nat.le_of_succ_le hlen.1) (by decide))) fun h' e sb => ?_))))
    have X := X.set1 (c' := .lst vs) (fun b o hb e => (sb.2 b hb).trans e) e trivial
    refine stL X fun h' tk X => ?_
    unfold flatM at hm
    replace hm := bmF (fun q => q.elim (Nat.not_lt.mpr (Nat.le_of_succ_le_succ hlen.1)) (Nat.not_lt.mpr hlen.2.2)) hm
    -- t == unit
    refine sIf (wpAny_isTrue_Compare1 (nmL X rfl (nmL X m3 (eqN (wpAny_truthy_bool ?_)))))
    by_cases c1 : t₁ = unitOf op
    · rw [decide_eq_true c1]
      replace hm := bmT c1 hm
      refine sCont ?_
      exact hT _ _ ⟨n, h', tk, Nat.lt_succ_self _, rfl, B₁, rest, found, vs, _, X, hl₂, hm, m1, m2, m3, m4, m5, m6⟩
    rw [decide_eq_false c1]
    replace hm := bmF c1 hm
    refine sNx ?_
    refine sIf (wpAny_isTrue_BoolOp (wpAny_allTrue_Or_cons (wpAny_isTrue_Compare1 (nmL X rfl (nmL X m4 (eqN (wpAny_truthy_bool ?_)))))))
    by_cases c2 : t₁ = settleOf op
    · refine ifT c2 ?_
      replace hm := bmT c2 hm
      cases hm
      exact sRet (cNone (hT _ _ (hR _ _ X.inv X.keep X.ext)))
    refine ifF c2 ?_
    replace hm := bmF c2 hm
    obtain ⟨nt, B₂, hn, hm⟩ := bind_some hm
    have hgr₂ : B₂.length ≤ B'.length := by
      split at hm
      · cases hm; exact Nat.le_refl _
      · exact (Gr.bind (Gr.rd _) fun x => Gr.ite (gr_flatM op _ _ _) (gr_flatM op _ _ _)).len hm
    refine wpAny_allTrue_Or_cons (wpAny_isTrue_Compare1 (MethodCall_ (selfBank r₀ g.G hρ X m1 fun tk => ?_)))
    refine mB (X.gd g.G) cls388 X.inv.attrs (C.full.meths _ (by decide)) (argsS X (.cons (.loc rfl) .nil) ⟨(X.gd g.G).K, ?_⟩)
    refine not_of_spec C (X.gnd g.G) hr' X.inv hn (Nat.le_trans hgr hsz) fun h' tk u hB k e => ?_
    have X := X.call (D' := bankWd prog w β B₂) rfl k e hB
    refine nmL X m5 (inD (X.obj _ (.head _)) (X.lo g.G (.tail _ (.head _))) fun tk => wpAny_truthy_bool ?_)
    by_cases c3 : nt ∈ found
    · refine ifT c3 ?_
      replace hm := bmT c3 hm
      cases hm
      exact sRet (cNone (hT _ _ (hR _ _ X.inv X.keep X.ext)))
    refine ifF c3 ?_
    replace hm := bmF c3 hm
    refine wpAny_allTrue_Or_nil ?_
    refine if0 ?_
    refine sNx ?_
    obtain ⟨x, hx, hm⟩ := rd_bind hm
    refine sIf (wpAny_isTrue_Compare1 (MethodCall_ (selfBank r₀ g.G hρ X m1 fun tk => ?_)))
    refine mB (X.gd g.G) cls388 X.inv.attrs (C.full.meths _ (by decide)) (argsS X (.cons (.loc rfl) .nil) ⟨(X.gd g.G).K, ?_⟩)
    refine op_spec C (X.gnd g.G) (hr'.less (by decide)) X.inv hx (Nat.le_trans hgr₂ hsz) fun h' tk u e => ?_
    have X := X.grow e
    refine nmL X m2 (eqOp op (wpAny_truthy_bool ?_))
    by_cases c4 : x.op = op
    · refine ifT c4 ?_
      replace hm := bmT c4 hm
      refine sExpr (MethodCall_ (nmL X m6 (getMethodList F.slot_list_extend F.type_list_extend (X.obj _ (.tail _ (.head _))) (callWith_method1 (args_cons ?_)))))
      refine Call_ (nmB (X.gd g.G) (by k_is) boot_reversed (PyProof.Rows.callWith_type1 (args_cons (MethodCall_ (selfBank r₀ g.G hρ X m1 fun tk => ?_)))))
      refine mB (X.gd g.G) cls388 X.inv.attrs (C.full.meths _ (by decide)) (argsS X (.cons (.loc rfl) .nil) ⟨(X.gd g.G).K, ?_⟩)
      refine args_spec C (X.gnd g.G) (hr'.less (by decide)) X.inv hx (Nat.le_trans hgr₂ hsz) fun h' tk a' hk e => ?_
      have hlen₂ := flatM_len hm
      obtain ⟨us, hus, hul⟩ := key_isTup hk
      have hus := tupAt' hus fun o q => e _ o q
      have X := X.grow e
      have hul2 : us.length ≤ 1001 := Nat.le_trans (Nat.le_of_eq hul.len) (Nat.le_trans (Nat.le_trans (Nat.le_add_right _ _) (Nat.le_of_eq List.length_append.symm)) hlen₂.1)
      have hne : a' ≠ S := ne_tupLst hus (X.obj _ (.tail _ (.head _)))
      refine args_nil (revNew X ⟨_, .inr ⟨rfl, hus⟩⟩ (Nat.le_trans hul2 (by decide)) fun h' it kd tk X hs => args_nil ?_)
      have X := X.perm ((List.Perm.swap _ _ _).cons _)
      refine extendL hr'.hh X hs hne (Nat.le_trans hul2 (by decide)) (Nat.le_trans (Nat.le_of_eq hvl) (Nat.le_trans (Nat.le_of_succ_le hlen.1) (by decide))) fun h' tk X => ?_
      refine sNil ?_
      refine sNil ?_
      refine hT _ _ ⟨n, h', tk, Nat.lt_succ_self _, rfl, B₂, x.args ++ rest, found, vs ++ us.reverse, _, X.perm (List.Perm.swap _ _ _), ?_, hm, m1, m2, m3, m4, m5, m6⟩
      rw [List.reverse_append]
      exact hl₂.append hul.reverse
    · refine ifF c4 ?_
      replace hm := bmF c4 hm
      refine sAsgSub (cBool (nmL X m5 (nmL X rfl (setD (X.obj _ (.head _)) (Nat.le_trans hlen.2.2 (by decide)) fun h' tk e sb => ?_))))
      have X := X.set0 (c' := .dic (dicOf (addN found t₁))) (fun b o hb e => (sb.2 b hb).trans e) e trivial
      refine sNil ?_
      refine sNil ?_
      exact hT _ _ ⟨n, h', tk, Nat.lt_succ_self _, rfl, B₂, rest, addN found t₁, vs, _, X, hl₂, hm, m1, m2, m3, m4, m5, m6⟩
end
end Mine

-- Thin
namespace Mine

noncomputable def JoinedOk (prog : Program) (w : World) (h₀ : Heap) (β : Adr) (ρ : Rho) (k : Nat) (J : Op → List Nat → BM Nat) : Prop :=
  ∀ (A : Around) (z : Shared) (h : Heap) (t : Nat) (R : Result → Shared → Prop) (op : Op) (u : Tok) (vs : List Value) (l : List Nat) (a : Addr) (B B' : List Tm) (r : Nat),
    Room A k → Gnd w h₀ h → RAt ρ h → BankAt prog w β B h → h.PlainList a vs.toArray → a ∉ β.own → All2 IsI vs l → (op = .and ∨ op = .or) → J op l B = some (r, B') → B'.length ≤ 2 ^ 23 →
    (∀ h' tk u, BankAt prog w β B' h' → Keep β.own h h' → Ext h₀ h' → R (.ok (.ret (.int r u))) (St z h' tk)) →
    codeAny (model prog w) A (.call (.ref 437) ⟨[.ref ρ.inst, .str op.str u, .ref a], []⟩) R (St z h t)

theorem All2.get' {α β : Type} {R : α → β → Prop} {as : List α} {bs : List β} (x : All2 R as bs) : ∀ {i : Nat} {a : α}, as[i]? = some a → Ex2 (fun b => bs[i]? = some b) (fun b => R a b) := by
  induction x with
  | nil => intro i a h; simp at h
  | cons r _ ih =>
    intro i a h
    cases i with
    | zero => simp only [List.getElem?_cons_zero, Option.some.injEq] at h ⊢; subst h; exact ⟨_, rfl, r⟩
    | succ i => simp only [List.getElem?_cons_succ] at h ⊢; exact ih h

section
variable {prog : Program} {w : World} {β : Adr} {ρ : Rho} {B : List Tm} {A : Around} {E : Value → Shared → Prop} {z : Shared} {h₀ s₀ h : Heap} {t : Nat} {R : Result → Shared → Prop} {n i : Nat} {u : Tok} {x : Tm} {D D' : Wd} {L a d : Addr} {m : Str → Option Value} {objs : List (Addr × Cell)}

theorem selfBankC {env : Env} {c : Addr} {pos p : Pos} {Q : Value → Shared → Prop} (r₀ : RwOk β ρ) (g : Gd w h₀) (hρ : RAt ρ s₀) (X : W prog w h₀ s₀ D L h m objs) (hm : (c, .sat (cellO (some (.ref ρ.inst)))) ∈ objs) (q : ∀ tk, Q (.ref β.inst) (St z h tk)) (hD : autoParam (D.own = β.own) aR)
    (hc : autoParam (env.cells.lookup ("self" : Str) = some c) aR) (hk : autoParam (env.scope.kind = .function) aR) (hl : autoParam (env.kindOf "self" = some .cell) aR) : wpAny (model prog w) A (eval (.Attribute (.Name "self" p) "bank" pos) env) Q E (St z h t) :=
  Attribute_any_ (nmC X hm (getA (X.gd g) cls513 (hρ.to r₀ X hD) r₀.bank (by k_is) rfl q) hc hk hl)

theorem testsNil {env : Env} {Q : Bool → Shared → Prop} {s : Shared} (q : Q true s) : wpAny (model prog w) A (testsOf [] env) Q E s := by
  unfold testsOf
  rw [List.forIn_nil]
  exact wpAny_pure q
theorem tests1 {env : Env} {c : Expr} {Q : Bool → Shared → Prop} {s : Shared} (q : wpAny (model prog w) A (isTrue c env (eval c env)) Q E s) : wpAny (model prog w) A (testsOf [c] env) Q E s := by
  unfold testsOf
  rw [List.forIn_cons]
  rw [if_pos rfl]
  refine wpAny_bind (wpAny_bind (wpAny_mono q (fun b s' h => wpAny_pure ?_) fun _ _ e => e))
  show wpAny _ _ (forIn [] b _) _ _ _
  rw [List.forIn_nil]
  exact wpAny_pure h
theorem take_map_succ {α γ : Type} {l : List α} {i : Nat} {x : α} (f : α → γ) (h : l[i]? = some x) : (l.take (i + 1)).map f = (l.take i).map f ++ [f x] := by
  rw [List.take_add_one, h]; simp

theorem thinned_spec {k : Nat} {J : Op → List Nat → BM Nat} {other : Op} {u₁ : Tok} {found kept : List Nat} {B' : List Tm} (C : Cf w h₀ β) (r₀ : RwOk β ρ) (hJ : JoinedOk prog w h₀ β ρ k J) (hJg : ∀ o l, Gr (J o l)) (hρ : RAt ρ h) (g : Gnd w h₀ h) (hr : Room A (k + 1)) (hk4 : 4 ≤ k) (hB : BankAt prog w β B h)
    (hd : h.DictOf (intKind prog w) d (dicOf found)) (ho : d ∉ β.own) (hds : (d == sysModules) = false) (hlen : found.length ≤ 60) (hop : other = .and ∨ other = .or) (hm : thinM J other found (sortNat found) [] B = some (kept, B')) (hsz : B'.length ≤ 2 ^ 23)
    (hR : ∀ h' tk a vs, BankAt prog w β B' h' → Keep β.own h h' → Ext h₀ h' → h.get? a = none → h'.PlainList a vs.toArray → All2 IsI vs kept → R (.ok (.ret (.ref a))) (St z h' tk)) :
    codeAny (model prog w) A (.call (.ref 430) ⟨[.ref ρ.inst, .str other.str u₁, .ref d], []⟩) R (St z h t) := by
  refine enterFC 430 [("self", .ref ρ.inst), ("other", .str other.str u₁), ("found", .ref d)] g hr (fun h₁ L A' tk en hns hcs hr' => ?_)
  have rm : Room A' 4 := hr'.less hk4
  have hcf : h₁.IsCell (L + 1 + 1) (some (.ref d)) := hcs "found" _ rfl
  have hcs' : h₁.IsCell (L + 1) (some (.ref ρ.inst)) := hcs "self" _ rfl
  have X := W.enterC (prog := prog) (bankWd prog w β B) g hB en hns [(L + 1 + 1, .sat (cellO (some (.ref d)))), (L + 1, .sat (cellO (some (.ref ρ.inst))))]
    (fac ⟨hcf, Nat.lt_succ_of_lt (Nat.lt_succ_self L)⟩ (fac ⟨hcs', Nat.lt_succ_self L⟩ fan)) nd2'
  clear hcs hcf hcs'
  refine sAsg (List_ (args_nil (newLst X (fun h' K X => ?_) (by simp [sizeLine]))))
  refine stL X fun h' tk X => ?_
  have dAt : ∀ {D : Wd} {L' : Addr} {h' : Heap} {m : Str → Option Value} {objs : List (Addr × Cell)}, W prog w h₀ h D L' h' m objs → D.own = β.own → h'.DictOf (intKind prog w) d (dicOf found) := fun X hD =>
    Cell.at_to (c := .dic (dicOf found)) hd fun o e => X.keep _ _ (by rw [hD]; exact ho) e
  refine sFor (Call_ (nmB (X.gd g.G) (by k_is) PyProof.Rows.boot_sorted (PyProof.Rows.callWith_builtin1 (argsS X (.cons (.cel _ (.tail _ (.head _))) .nil) ?_))))
  refine sortedD hr'.hh X (dAt X rfl) hds (by first | exact Nat.le_trans ‹_› ‹_› | exact Nat.le_trans ‹_› (Nat.le_trans ‹_› ‹_›) | omega) fun h' S svs tk X hx hsv => ?_
  refine iterSq X (kd := "list_iterator") (.inl ⟨rfl, X.obj _ (.head _)⟩) fun h' it X hs => ?_
  refine loopSq hr'.hh (fun j D m objs => E3 fun Bj kj kvs => A7 (D = bankWd prog w β Bj) (objs = [(S, .lst svs), (K, .lst kvs), (L + 1 + 1, .sat (cellO (some (.ref d)))), (L + 1, .sat (cellO (some (.ref ρ.inst))))]) (All2 IsI kvs kj) (kj.length ≤ j) (thinM J other found ((sortNat found).drop j) kj Bj = some (kept, B')) (m "other" = some (.str other.str u₁)) (m "kept" = some (.ref K))) X hs ⟨B, [], [], rfl, rfl, .nil, Nat.zero_le _, hm, rfl, rfl⟩ ?_ ?_ ?_
  · rintro j i D m m' objs h' Y ⟨Bj, kj, kvs, rfl, rfl, _⟩
    exact .inl ⟨rfl, Y.obj _ (.tail _ (.head _))⟩
  · clear X hs hm hx hB
    rintro j v D m objs h' t' hv ⟨Bj, kj, kvs, rfl, rfl, hkv, hkl, hm, m1, m2⟩ X hs
    refine opq ?_
    intro T hT
    have hjs : j < svs.length := (List.getElem?_eq_some_iff.mp hv).1
    have hsl : svs.length = found.length := by rw [hsv.len, (sortNat_perm found).length_eq]
    obtain ⟨t₁, ht₁⟩ : ∃ t₁, (sortNat found)[j]? = some t₁ := ⟨(sortNat found)[j]'(by rw [← hsv.len]; exact hjs), by simp⟩
    obtain ⟨u₀, hv'⟩ := hsv.getF ht₁
    rw [hv] at hv'; cases hv'
    have hdrop : (sortNat found).drop j = t₁ :: (sortNat found).drop (j + 1) := by
      have hlt : j < (sortNat found).length := (List.getElem?_eq_some_iff.mp ht₁).1
      rw [List.drop_eq_getElem_cons hlt]
      congr 1
      rw [List.getElem?_eq_getElem hlt] at ht₁
      exact Option.some.inj ht₁
    rw [hdrop] at hm
    unfold thinM at hm
    obtain ⟨x, hx, hm⟩ := rd_bind hm
    have hgr : Bj.length ≤ B'.length := by
      split at hm
      · exact (gr_thinM hJg _ _ _ _).len hm
      · split at hm
        · cases hm
        · split at hm
          · exact (gr_thinM hJg _ _ _ _).len hm
          · exact (Gr.bind (gr_leftM _ _) fun left => Gr.ite (gr_thinM hJg _ _ _ _) (Gr.bind (hJg _ _) fun r => gr_thinM hJg _ _ _ _)).len hm
    have sz : Bj.length ≤ 2 ^ 23 := Nat.le_trans hgr hsz
    refine sIf (wpAny_isTrue_Compare1 (MethodCall_ (selfBankC (c := L + 1) r₀ g.G hρ X mm fun tk => ?_)))
    refine mB (X.gd g.G) cls388 X.inv.attrs (C.full.meths _ (by decide)) (argsS X (.cons (.loc rfl) .nil) ⟨(X.gd g.G).K, ?_⟩)
    refine op_spec C (X.gnd g.G) (rm.less (by decide)) X.inv hx sz fun h' tk u e => ?_
    have X := X.grow e
    refine nmL X m1 (neOp other (wpAny_truthy_bool ?_))
    by_cases c1 : x.op ≠ other
    · refine ifT c1 ?_
      replace hm := bmT c1 hm
      refine sExpr (MethodCall_ (nmL X m2 (getMethodList F.slot_list_append F.type_list_append (X.obj _ (.tail _ (.tail _ (.head _)))) (callWith_method1 (argsS X (.cons (.loc rfl) .nil) (appL (X.obj _ (.tail _ (.tail _ (.head _)))) (by rw [hkv.len]; omega) fun h' e sb => ?_))))))
      have X := X.set2 (c' := .lst (kvs ++ [Value.int (t₁ : Int) u₀])) (fun b o hb e => (sb.2 b hb).trans e) e trivial
      exact sCont (hT _ _ ⟨_, _, _, _, _, rfl, X, Bj, kj ++ [t₁], _, rfl, rfl, hkv.append (.cons ⟨_, rfl⟩ .nil), by simp; omega, hm, m1, m2⟩)
    refine ifF c1 ?_
    replace hm := bmF c1 hm
    refine sNx ?_
    by_cases c2 : 1000 < x.args.length
    · replace hm := bmT c2 hm; cases hm
    replace hm := bmF c2 hm
    -- any
    refine sIf (wpAny_isTrue_value (Call_ (nmB (X.gd g.G) (by k_is) boot_any (PyProof.Rows.callWith_builtin1 (args_cons ?_)))))
    refine listComp [("found", L + 1 + 1)] (MethodCall_ (selfBankC (c := L + 1) r₀ g.G hρ X mm fun tk => ?_))
    refine mB (X.gd g.G) cls388 X.inv.attrs (C.full.meths _ (by decide)) (argsS X (.cons (.loc rfl) .nil) ⟨(X.gd g.G).K, ?_⟩)
    refine args_spec C (X.gnd g.G) (rm.less (by decide)) X.inv hx sz fun h' tk a' hk e => ?_
    obtain ⟨us, hus, hul⟩ := key_isTup hk
    have hus := tupAt' hus fun o q => e _ o q
    have X := (X.grow e).pin hus
    have hulen := hul.len
    refine compSq (kd := "tuple_iterator") (vs := us) hr'.hh (fun i ys D objs' => A3 (D = (bankWd prog w β Bj).pin a' us) (objs' = (it, .sat (itS "list_iterator" S (j + 1))) :: [(S, .lst svs), (K, .lst kvs), (L + 1 + 1, .sat (cellO (some (.ref d)))), (L + 1, .sat (cellO (some (.ref ρ.inst))))]) (ys = (x.args.take i).map fun y => .bool (decide (y ∈ found)))) X (.inr ⟨rfl, X.inv.2⟩) ⟨rfl, rfl, rfl⟩ (by first | exact Nat.le_trans ‹_› ‹_› | exact Nat.le_trans ‹_› (Nat.le_trans ‹_› ‹_›) | omega) ?_ ?_ ?_
    · rintro i i' ys D mc C' acc it' objs' h' Y ⟨rfl, rfl, rfl⟩
      exact .inr ⟨rfl, Y.inv.2⟩
    · rintro C' acc it' i v ys D mc objs' h' t' hv ⟨rfl, rfl, rfl⟩ Y hs
      obtain ⟨y, hy, uy, rfl⟩ := hul.get' hv
      refine testsNil (if1 (opq fun T hT => ?_))
      refine wpAny_Compare1 (nmL Y rfl (nmC (c := L + 1 + 1) Y mm (inD (dAt Y rfl) hds fun tk => ?_)))
      exact hT _ _ ⟨_, _, _, _, _, rfl, Y, rfl, rfl, by rw [take_map_succ _ hy]⟩
    clear X
    rintro acc ys D objs' h' t' ⟨rfl, rfl, rfl⟩ X
    have hall : (x.args.take us.length).map (fun y => Value.bool (decide (y ∈ found))) = (x.args.map fun y => decide (y ∈ found)).map Value.bool := by
      rw [hulen, List.take_length, List.map_map]; rfl
    rw [hall] at X
    refine args_nil (anyL hr'.hh (X.obj _ (.head _)) fun h' tk e => wpAny_truthy_bool ?_)
    have X := (X.unpin.grow e).drop
    have hany : (x.args.map fun y => decide (y ∈ found)).any id = x.args.any fun a => decide (a ∈ found) := by
      rw [List.any_map]; rfl
    rw [hany]
    by_cases c3 : (x.args.any fun a => decide (a ∈ found)) = true
    · refine ifE c3 ?_
      replace hm := bmT c3 hm
      exact sCont (hT _ _ ⟨_, _, _, _, _, rfl, X, Bj, kj, _, rfl, rfl, hkv, by omega, hm, m1, m2⟩)
    replace hm := bmF c3 hm
    have c3' : (x.args.any fun a => decide (a ∈ found)) = false := by simpa using c3
    refine ifE0 c3' ?_
    refine sNx ?_
    -- left
    obtain ⟨left, B₁, hleft, hm⟩ := bind_some hm
    have hgr₁ : B₁.length ≤ B'.length := by
      split at hm
      · exact (gr_thinM hJg _ _ _ _).len hm
      · exact (Gr.bind (hJg _ _) fun r => gr_thinM hJg _ _ _ _).len hm
    refine sComp [("self", L + 1), ("found", L + 1 + 1)] (MethodCall_ (selfBankC (c := L + 1) r₀ g.G hρ X mm fun tk => ?_))
    refine mB (X.gd g.G) cls388 X.inv.attrs (C.full.meths _ (by decide)) (argsS X (.cons (.loc rfl) .nil) ⟨(X.gd g.G).K, ?_⟩)
    refine args_spec C (X.gnd g.G) (rm.less (by decide)) X.inv hx sz fun h' tk a' hk e => ?_
    have hoff : a' ∉ β.own := X.inv.tup_off hk
    obtain ⟨us, hus, hul⟩ := key_isTup hk
    have hus := tupAt' hus fun o q => e _ o q
    have X := (X.grow e).pin hus
    have hulen := hul.len
    refine compSqA (kd := "tuple_iterator") (vs := us) hr'.hh (fun i ys D objs' => E2 fun Bi lo => A5 (D = (bankWd prog w β Bi).pin a' us) (objs' = (it, .sat (itS "list_iterator" S (j + 1))) :: [(S, .lst svs), (K, .lst kvs), (L + 1 + 1, .sat (cellO (some (.ref d)))), (L + 1, .sat (cellO (some (.ref ρ.inst))))]) (All2 IsI ys lo) (lo.length ≤ i) (∃ l', leftM found (x.args.drop i) Bi = some (l', B₁) ∧ left = lo ++ l')) X (.inr ⟨rfl, X.inv.2⟩) ⟨Bj, [], rfl, rfl, .nil, Nat.zero_le _, left, hleft, rfl⟩ (by first | exact Nat.le_trans ‹_› ‹_› | exact Nat.le_trans ‹_› (Nat.le_trans ‹_› ‹_›) | omega) ?_ ?_ ?_
    · rintro i i' ys D mc C' acc it' objs' h' Y ⟨Bi, lo, rfl, rfl, _⟩
      exact .inr ⟨rfl, Y.inv.2⟩
    · rintro C' acc it' i v ys D mc objs' h' t' hv ⟨Bi, lo, rfl, rfl, hlo, hlol, l', hl', hle⟩ Y hs
      obtain ⟨y, hy, uy, rfl⟩ := hul.get' hv
      have hdr : x.args.drop i = y :: x.args.drop (i + 1) := by
        have hlt : i < x.args.length := (List.getElem?_eq_some_iff.mp hy).1
        rw [List.drop_eq_getElem_cons hlt]
        congr 1
        rw [List.getElem?_eq_getElem hlt] at hy
        exact Option.some.inj hy
      rw [hdr] at hl'
      unfold leftM at hl'
      obtain ⟨ny, B₂, hny, hl'⟩ := bind_some hl'
      obtain ⟨l₂, B₃, hl₂, hl'⟩ := bind_some hl'
      cases hl'
      have hg₂ := (gr_leftM found _).len hl₂
      have hg₃ := (gr_notOf y).len hny
      refine tests1 (opq2 fun T F hT hF => wpAny_isTrue_Compare1 (MethodCall_ (selfBankC (c := L + 1) r₀ g.G hρ Y mm fun tk => ?_)))
      refine mB (Y.gd g.G) cls388 Y.inv.1.attrs (C.full.meths _ (by decide)) (argsS Y (.cons (.loc rfl) .nil) ⟨(Y.gd g.G).K, ?_⟩)
      refine not_of_spec C (Y.gnd g.G) (rm.less (by decide)) Y.inv.1 hny (by first | exact Nat.le_trans ‹_› ‹_› | exact Nat.le_trans ‹_› (Nat.le_trans ‹_› ‹_›) | omega) fun h'' tk u hB k e => ?_
      have hus' : IsTup h'' a' us.toArray := tupAt' Y.inv.2 fun o q => k _ o hoff q
      have Y := Y.call (D' := (bankWd prog w β B₂).pin a' us) rfl k e ⟨hB, hus'⟩
      refine nmC (c := L + 1 + 1) Y mm (notInD (dAt Y rfl) hds fun tk => wpAny_truthy_bool ?_)
      by_cases c4 : ny ∈ found
      · refine ifNT c4 ?_
        refine hF _ ⟨_, _, _, _, _, rfl, Y, B₂, lo, rfl, rfl, hlo, by omega, l₂, hl₂, ?_⟩
        rw [hle, if_pos c4]
      · refine ifNF c4 ?_
        refine nmL Y rfl (hT _ _ ⟨_, _, _, _, _, rfl, Y, B₂, lo ++ [y], rfl, rfl, hlo.append (.cons ⟨_, rfl⟩ .nil), by simp; omega, l₂, hl₂, ?_⟩)
        rw [hle, if_neg c4]; simp
    clear X
    rintro acc ys D objs' h' t' ⟨Bi, lo, rfl, rfl, hlo, hlol, l', hl', hle⟩ X
    rw [hulen, List.drop_length] at hl'
    cases hl'
    have hle : left = lo := by simpa using hle
    subst hle
    have X := X.unpin
    refine sExpr (MethodCall_ (nmL X m2 (getMethodList F.slot_list_append F.type_list_append (X.obj _ (.tail _ (.tail _ (.tail _ (.head _))))) (callWith_method1 (args_cons (wpAny_IfExp (wpAny_isTrue_Compare1 ?_)))))))
    refine Call_ (nmB (X.gd g.G) (by k_is) boot_len (PyProof.Rows.callWith_builtin1 (argsS X (.cons (.loc rfl) .nil) (lenL (X.obj _ (.head _)) (by rw [hlo.len]; omega) fun u tk => ?_))))
    refine Call_ (nmB (X.gd g.G) (by k_is) boot_len (PyProof.Rows.callWith_builtin1 (args_cons (MethodCall_ (selfBankC (c := L + 1) r₀ g.G hρ X mm fun tk => ?_)))))
    refine mB (X.gd g.G) cls388 X.inv.attrs (C.full.meths _ (by decide)) (argsS X (.cons (.loc rfl) .nil) ⟨(X.gd g.G).K, ?_⟩)
    have hxi : B₁[t₁]? = some x := by
      have hp := gr_leftM found _ _ _ _ hleft
      rw [List.prefix_iff_getElem?] at hp
      have hlt : t₁ < Bj.length := (List.getElem?_eq_some_iff.mp hx).1
      rw [hp t₁ hlt]
      exact (List.getElem?_eq_getElem hlt).symm.trans hx
    refine args_spec C (X.gnd g.G) (rm.less (by decide)) X.inv hxi (by first | exact Nat.le_trans ‹_› ‹_› | exact Nat.le_trans ‹_› (Nat.le_trans ‹_› ‹_›) | omega) fun h' tk a₂ hk₂ e => ?_
    obtain ⟨us₂, hus₂, hul₂⟩ := key_isTup hk₂
    have X := X.grow e
    refine args_nil (lenT (tupAt' hus₂ fun o q => e _ o q) (by rw [hul₂.len]; omega) fun u tk => ?_)
    refine eqN (a := ys.length) (b := us₂.length) (wpAny_truthy_bool ?_)
    rw [hlo.len, hul₂.len]
    by_cases c5 : left.length = x.args.length
    · refine ifT c5 ?_
      replace hm := bmT c5 hm
      refine nmL X rfl (args_nil (appL (X.obj _ (.tail _ (.tail _ (.tail _ (.head _))))) (by rw [hkv.len]; omega) fun h' e sb => ?_))
      have X := X.setObj (pre := [_, _, _]) (c' := .lst (kvs ++ [Value.int (t₁ : Int) u₀])) (fun b o hb e => (sb.2 b hb).trans e) e trivial
      exact sNil (hT _ _ ⟨_, _, _, _, _, rfl, X.drop, B₁, kj ++ [t₁], _, rfl, rfl, hkv.append (.cons ⟨_, rfl⟩ .nil), by simp; omega, hm, m1, m2⟩)
    · refine ifF c5 ?_
      replace hm := bmF c5 hm
      obtain ⟨r, B₂, hj, hm⟩ := bind_some hm
      have hgr₂ := (gr_thinM hJg _ _ _ _).len hm
      refine MethodCall_ (nmC (c := L + 1) X mm (mB (X.gd g.G) cls513 (hρ.to r₀ X rfl) (r₀.meths _ (by decide)) (argsS X (.cons (.loc m1) (.cons (.loc rfl) .nil)) ⟨(X.gd g.G).K, ?_⟩)))
      refine hJ _ _ _ _ _ other u₁ ys left acc B₁ B₂ r hr' (X.gnd g.G) (hρ.to r₀ X rfl) X.inv (X.obj _ (.head _)) (X.fresh acc (.tail _ (.head _))).2 hlo hop hj (by first | exact Nat.le_trans ‹_› ‹_› | exact Nat.le_trans ‹_› (Nat.le_trans ‹_› ‹_›) | omega) fun h' tk u hB k e => ?_
      have X := X.call (D' := bankWd prog w β B₂) rfl k e hB
      refine args_nil (appL (X.obj _ (.tail _ (.tail _ (.tail _ (.head _))))) (by rw [hkv.len]; omega) fun h' e sb => ?_)
      have X := X.setObj (pre := [_, _, _]) (c' := .lst (kvs ++ [Value.int (r : Int) u])) (fun b o hb e => (sb.2 b hb).trans e) e trivial
      exact sNil (hT _ _ ⟨_, _, _, _, _, rfl, X.drop, B₂, kj ++ [r], _, rfl, rfl, hkv.append (.cons ⟨_, rfl⟩ .nil), by simp; omega, hm, m1, m2⟩)
  · rintro D m objs h' t' ⟨Bj, kj, kvs, rfl, rfl, hkv, hkl, hm, m1, m2⟩ X hs
    have hend : (sortNat found).drop svs.length = [] := by rw [hsv.len]; simp
    rw [hend] at hm
    cases hm
    exact sRet (nmL X m2 (hR _ _ K kvs X.inv X.keep X.ext (X.fresh K (.tail _ (.tail _ (.head _)))).1 (X.obj _ (.tail _ (.head _))) hkv))
end
end Mine

-- Join
namespace Mine

set_option tactic.hygienic true in
theorem flatM_out {op : Op} : ∀ {n : Nat} {l f f' : List Nat} {B B' : List Tm}, flatM op n l f B = some (some f', B') → f'.length ≤ 60 := by
  intro n
  induction n with
  | zero => intro l f f' B B' e; cases e
  | succ n ih =>
    intro l f f' B B' e
    cases l with
    | nil =>
      unfold flatM at e
      split at e
      · cases e
      · rename_i h; cases e; omega
    | cons t rest =>
      unfold flatM at e
      split at e
      · cases e
      split at e
      · exact ih e
      split at e
      · cases e
      obtain ⟨nt, B₁, _, e⟩ := bind_some e
      split at e
      · cases e
      obtain ⟨x, _, e⟩ := rd_bind e
      split at e
      · exact ih e
      · exact ih e

section
variable {prog : Program} {w : World} {β : Adr} {ρ : Rho} {B : List Tm} {A : Around} {E : Value → Shared → Prop} {z : Shared} {h₀ s₀ h : Heap} {t : Nat} {R : Result → Shared → Prop} {n i : Nat} {u : Tok} {x : Tm} {D D' : Wd} {L a d : Addr} {m : Str → Option Value} {objs : List (Addr × Cell)}

theorem eqLs {a b : Addr} {vs us : List Value} {k l : List Nat} {Q : Value → Shared → Prop} (ha : h.PlainList a vs.toArray) (hk : All2 IsI vs k) (hb : h.PlainList b us.toArray) (hl : All2 IsI us l) (hu : A.units + 64 < cLine) (q : Q (.bool (decide (k = l))) (St z h t)) :
    wpAny (model prog w) A (compareOp .Eq (.ref a) (.ref b)) Q E (St z h t) := by
  refine eq_intsK (s := St z h t) ha.isList (all2_ints hk) hb.isList (all2_ints hl) hu ?_
  have e : decide ((k.map fun n : Nat => (n : Int)) = l.map fun n : Nat => (n : Int)) = decide (k = l) := by
    by_cases c : k = l
    · subst c; simp
    · rw [decide_eq_false c]
      refine decide_eq_false fun q => c ?_
      have := congrArg (List.map Int.toNat) q
      rwa [toNat_map, toNat_map] at this
  rw [e]; exact q

noncomputable def FoundIs : Option (List Nat) → Value → List (Addr × Cell) → Prop
  | none, v, _ => v = .none
  | some f, v, objs => ∃ d, v = .ref d ∧ (d, .dic (dicOf f)) ∈ objs ∧ f.length ≤ 60

theorem flat_call {op : Op} {u₁ : Tok} {vs : List Value} {some₀ : List Nat} {r : Option (List Nat)} {B' : List Tm} (C : Cf w h₀ β) (r₀ : RwOk β ρ) (hρ : RAt ρ s₀) (G : Gd w h₀) (X : W prog w h₀ s₀ (bankWd prog w β B) L h m objs) (hr : Room A 4)
    (hq : Sq h a vs) (ho : a ∉ β.own) (hl : All2 IsI vs some₀) (hop : op = .and ∨ op = .or) (hm : flatM op 200 some₀ [] B = some (r, B')) (hsz : B'.length ≤ 2 ^ 23)
    (hR : ∀ h' tk v objs', W prog w h₀ s₀ (bankWd prog w β B') L h' m objs' → FoundIs r v objs' → R (.ok (.ret v)) (St z h' tk)) :
    codeAny (model prog w) A (.call (.ref 425) ⟨[.ref ρ.inst, .str op.str u₁, .ref a], []⟩) R (St z h t) := by
  refine flat_spec C r₀ (hρ.to r₀ X rfl) (X.gnd G) hr X.inv hq ho hl hop hm hsz fun h' tk hB k e => ?_
  have X' := X.call (D' := bankWd prog w β B') rfl k e hB
  cases r with
  | none => exact hR _ _ _ _ X' rfl
  | some f =>
    intro d hd hdic
    exact hR _ _ _ _ (X.addNew X' rfl hd (c := .dic (dicOf f)) hdic) ⟨d, rfl, .head _, flatM_out hm⟩

theorem joined_step {k : Nat} {J : Op → List Nat → BM Nat} (C : Cf w h₀ β) (r₀ : RwOk β ρ) (hJ : JoinedOk prog w h₀ β ρ k J) (hJg : ∀ o l, Gr (J o l)) (hk : 12 ≤ k) :
    JoinedOk prog w h₀ β ρ (k + 2) (fun op l => BM.bind (flatM op 200 l []) fun f => loopM J op 50 f) := by
  intro A z h t R op u₁ vs l a B B' r hr g hρ hB hl₀ ho hl hop hm hsz hR
  obtain ⟨fo, B₁, hf, hm⟩ := bind_some hm
  have hg₁ := (gr_loopM hJg op 50 fo).len hm
  refine enterF 437 [("self", .ref ρ.inst), ("op", .str op.str u₁), ("some", .ref a)] g hr fun h₁ L A' tk en hns hr' => ?_
  have rm : Room A' 12 := hr'.less (Nat.le_succ_of_le hk)
  have X := W.enter (prog := prog) (bankWd prog w β B) g hB en hns
  refine sTup (wpAny_mono (Q := fun v s₁ => ∃ a₁ h₂ tk us uo, v = .ref a₁ ∧ s₁ = St z h₂ tk ∧ W prog w h₀ h (bankWd prog w β B) L h₂ (lk [("self", .ref ρ.inst), ("op", .str op.str u₁), ("some", .ref a)]) [(a₁, .tup [.int (settleOf op) us, .str (otherOf op).str uo])]) ?_ ?_ fun _ _ e => e)
  · refine wpAny_IfExp (wpAny_isTrue_Compare1 (nmL X rfl (cStr fun u tk => eqOp .and (wpAny_truthy_bool ?_))))
    rcases hop with rfl | rfl
    · exact Tuple_ (args_cons (selfNo r₀ g.G hρ X rfl fun u₁ tk => args_cons (cStr fun u₂ tk => args_nil (newTup X fun h' a' X => ⟨a', h', tk, u₁, u₂, rfl, rfl, X⟩))))
    · exact Tuple_ (args_cons (selfYes r₀ g.G hρ X rfl fun u₁ tk => args_cons (cStr fun u₂ tk => args_nil (newTup X fun h' a' X => ⟨a', h', tk, u₁, u₂, rfl, rfl, X⟩))))
  rintro v s₁ ⟨a₁, h₂, tk, us, uo, rfl, rfl, X⟩
  refine unp hr'.hh X (X.obj _ (.head _)) fun h' X e => aioCons (assign_Name (stL X fun h' tk X => aioCons (assign_Name (stL X fun h' tk X => aioNil ?_))))
  have X := X.drop
  have hqa : h'.PlainList a vs.toArray := hl₀.at fun o e => X.keep _ _ ho e
  -- found = self.flat(op, some)
  refine sAsg (MethodCall_ (nmL X rfl (mB (X.gd g.G) cls513 (hρ.to r₀ X rfl) (r₀.meths _ (by decide)) (argsS X (.cons (.loc rfl) (.cons (.loc rfl) .nil)) ⟨(X.gd g.G).K, ?_⟩))))
  have hother : otherOf op = .and ∨ otherOf op = .or := by rcases hop with rfl | rfl <;> simp [otherOf]
  refine flat_call C r₀ hρ g.G X (rm.less (by decide)) ⟨_, .inl ⟨rfl, hqa⟩⟩ ho hl hop hf (by first | exact Nat.le_trans ‹_› ‹_› | exact Nat.le_trans ‹_› (Nat.le_trans ‹_› ‹_›) | omega) fun h' tk v objs X hv => ?_
  refine stL X fun h' tk X => ?_
  refine sWhile (fun n h' => E5 fun B₁ fo v m objs => A8 (W prog w h₀ h (bankWd prog w β B₁) L h' m objs) (loopM J op n fo B₁ = some (r, B')) (FoundIs fo v objs) (m "self" = some (.ref ρ.inst)) (m "op" = some (.str op.str u₁)) (m "settling" = some (.int (settleOf op) us)) (m "other" = some (.str (otherOf op).str uo)) (m "found" = some v)) 50
    ⟨B₁, fo, v, _, objs, X, hm, hv, rfl, rfl, rfl, rfl, rfl⟩ ?_
  clear X hv hqa hf hg₁ hm hB
  rintro n h' t T hT ⟨B₁, fo, v, m, objs, X, hm, hv, m1, m2, m3, m4, m5⟩
  obtain ⟨n, rfl⟩ : ∃ k, n = k + 1 := by
    cases n with
    | zero => cases hm
    | succ k => exact ⟨k, rfl⟩
  have hg := (gr_loopM hJg op _ _).len hm
  refine wpAny_isTrue_Compare1 (nmL X m5 (cNone ?_))
  cases fo with
  | none =>
    obtain rfl : v = .none := hv
    refine isnot_none_none (wpAny_truthy_bool ?_)
    refine if0 ?_
    cases hm
    exact sRet (nmL X m3 (hR _ _ _ X.inv X.keep X.ext))
  | some f =>
    obtain ⟨d, rfl, hdm, hfl⟩ := hv
    refine isnot_none_ne (by simp) (wpAny_truthy_bool ?_)
    refine if1 ?_
    unfold loopM at hm
    obtain ⟨kept, B₂, hk₂, hm⟩ := bind_some hm
    have hg₂ : B₂.length ≤ B'.length := by
      split at hm
      · split at hm
        · exact (gr_andOf _).len hm
        · exact (gr_orOf _).len hm
      · exact (Gr.bind (gr_flatM _ _ _ _) fun f => gr_loopM hJg op _ f).len hm
    have hdi : d ∈ L :: objs.map (·.1) := .tail _ (List.mem_map_of_mem (f := (·.1)) hdm)
    refine sAsg (MethodCall_ (nmL X m1 (mB (X.gd g.G) cls513 (hρ.to r₀ X rfl) (r₀.meths _ (by decide)) (argsS X (.cons (.loc m4) (.cons (.loc m5) .nil)) ⟨(X.gd g.G).K, ?_⟩))))
    refine thinned_spec C r₀ hJ hJg (hρ.to r₀ X rfl) (X.gnd g.G) hr' (by first | exact Nat.le_trans ‹_› ‹_› | exact Nat.le_trans ‹_› (Nat.le_trans ‹_› ‹_›) | omega) X.inv (X.obj _ hdm) (X.fresh d hdi).2 (X.lo g.G hdi) hfl hother hk₂ (by first | exact Nat.le_trans ‹_› ‹_› | exact Nat.le_trans ‹_› (Nat.le_trans ‹_› ‹_›) | omega) fun h' tk K kvs hB k e hK0 hK hkv => ?_
    have X := X.addNew (X.call (D' := bankWd prog w β B₂) rfl k e hB) rfl hK0 (c := .lst kvs) hK
    refine stL X fun h' tk X => ?_
    refine sIf (wpAny_isTrue_Compare1 (nmL X rfl ?_))
    refine Call_ (nmB (X.gd g.G) (by k_is) PyProof.Rows.boot_sorted (PyProof.Rows.callWith_builtin1 (argsS X (.cons (.loc m5) .nil) ?_)))
    refine sortedD hr'.hh X (X.obj _ (.tail _ hdm)) (X.lo g.G (.tail _ (List.mem_map_of_mem (f := (·.1)) (List.mem_cons_of_mem _ hdm)))) (by first | exact Nat.le_trans ‹_› ‹_› | exact Nat.le_trans ‹_› (Nat.le_trans ‹_› ‹_›) | omega) fun h' S svs tk X hx hsv => ?_
    refine eqLs (X.obj _ (.tail _ (.head _))) hkv (X.obj _ (.head _)) hsv (by have := hr'.units; omega) (wpAny_truthy_bool ?_)
    by_cases c1 : kept = sortNat f
    · refine ifT c1 ?_
      replace hm := bmT c1 hm
      refine sRet (wpAny_IfExp (wpAny_isTrue_Compare1 (nmL X m2 (cStr fun u tk => eqOp .and (wpAny_truthy_bool ?_)))))
      have hkl : kept.length ≤ 2 ^ 20 := by rw [c1, (sortNat_perm f).length_eq]; omega
      have X9 := X
      rcases hop with rfl | rfl
      · replace hm := bmT rfl hm
        simp only [decide_true, if_true]
        refine MethodCall_ (selfBank r₀ g.G hρ X9 m1 fun tk => ?_)
        refine mB (X9.gd g.G) cls388 X9.inv.attrs (C.full.meths _ (by decide)) (argsS X9 (.cons (.loc rfl) .nil) ⟨(X9.gd g.G).K, ?_⟩)
        refine and_of_spec C (X9.gnd g.G) (rm.less (by decide)) X9.inv (X9.obj _ (.tail _ (.head _))) (X9.fresh K mm).2 hkv hm (by first | exact Nat.le_trans ‹_› ‹_› | exact Nat.le_trans ‹_› (Nat.le_trans ‹_› ‹_›) | omega) hkl fun h' tk u hB k e => ?_
        have X' := X9.call (D' := bankWd prog w β B') rfl k e hB
        exact hT _ _ (hR _ _ _ X'.inv X'.keep X'.ext)
      · replace hm := bmF (by decide) hm
        refine ifF (by decide) ?_
        refine MethodCall_ (selfBank r₀ g.G hρ X9 m1 fun tk => ?_)
        refine mB (X9.gd g.G) cls388 X9.inv.attrs (C.full.meths _ (by decide)) (argsS X9 (.cons (.loc rfl) .nil) ⟨(X9.gd g.G).K, ?_⟩)
        refine or_of_spec C (X9.gnd g.G) (rm.less (by decide)) X9.inv (X9.obj _ (.tail _ (.head _))) (X9.fresh K mm).2 hkv hm (by first | exact Nat.le_trans ‹_› ‹_› | exact Nat.le_trans ‹_› (Nat.le_trans ‹_› ‹_›) | omega) hkl fun h' tk u hB k e => ?_
        have X' := X9.call (D' := bankWd prog w β B') rfl k e hB
        exact hT _ _ (hR _ _ _ X'.inv X'.keep X'.ext)
    · refine ifF c1 ?_
      replace hm := bmF c1 hm
      obtain ⟨f', B₃, hf', hm⟩ := bind_some hm
      have hg₃ := (gr_loopM hJg op _ _).len hm
      refine sNx (sAsg (MethodCall_ (nmL X m1 (mB (X.gd g.G) cls513 (hρ.to r₀ X rfl) (r₀.meths _ (by decide)) (argsS X (.cons (.loc m2) (.cons (.loc rfl) .nil)) ⟨(X.gd g.G).K, ?_⟩)))))
      refine flat_call C r₀ hρ g.G X (rm.less (by decide)) ⟨_, .inl ⟨rfl, X.obj _ (.tail _ (.head _))⟩⟩ (X.fresh K mm).2 hkv hop hf' (by first | exact Nat.le_trans ‹_› ‹_› | exact Nat.le_trans ‹_› (Nat.le_trans ‹_› ‹_›) | omega) fun h' tk v objs' X hv => ?_
      refine stL X fun h' tk X => ?_
      exact sNil (hT _ _ ⟨n, h', tk, by omega, rfl, B₃, f', v, _, objs', X, hm, hv, m1, m2, m3, m4, rfl⟩)

theorem joined_spec (C : Cf w h₀ β) (r₀ : RwOk β ρ) : ∀ d, JoinedOk prog w h₀ β ρ (12 + 2 * d) (joinM d)
  | 0 => fun _ _ _ _ _ _ _ _ _ _ _ _ _ _ _ _ _ _ _ _ _ hm => by cases hm
  | d + 1 => by
    show JoinedOk prog w h₀ β ρ (12 + 2 * d + 2) _
    exact joined_step C r₀ (joined_spec C r₀ d) (gr_joinM d) (by first | exact Nat.le_trans ‹_› ‹_› | exact Nat.le_trans ‹_› (Nat.le_trans ‹_› ‹_›) | omega)
end
end Mine

-- Same
namespace Mine

noncomputable def OnlyNext (P : Shared → Prop) : Flow → Shared → Prop := fun f s => match f with
  | .next => P s
  | _ => False

section
variable {prog : Program} {w : World} {β : Adr} {ρ : Rho} {B : List Tm} {A : Around} {E : Value → Shared → Prop} {z : Shared} {h₀ s₀ h : Heap} {t : Nat} {R : Result → Shared → Prop} {n i : Nat} {u : Tok} {x : Tm} {D D' : Wd} {L a d : Addr} {m : Str → Option Value} {objs : List (Addr × Cell)} {env : Env}

theorem notOp {b : Bool} {Q : Value → Shared → Prop} {s : Shared} (q : Q (.bool (!b)) s) : wpAny (model prog w) A (unaryOp .Not (.bool b)) Q E s :=
  wpAny_bind (wpAny_truthy_bool (wpAny_pure q))

/-- an if whose branches meet again -/
theorem sIfM {test : Expr} {body orelse : List Stmt} {pos : Pos} {rest : List Stmt} {Q : Flow → Shared → Prop} {s : Shared} (P : Shared → Prop)
    (q : ∀ P' : Shared → Prop, (∀ s, P s → P' s) → wpAny (model prog w) A (isTrue test env (eval test env)) (fun b s₂ => if b then wpAny (model prog w) A (execs body env) (OnlyNext P') E s₂ else wpAny (model prog w) A (execs orelse env) (OnlyNext P') E s₂) E s)
    (k : ∀ s, P s → wpAny (model prog w) A (execs rest env) Q E s) : wpAny (model prog w) A (execs (.If test body orelse pos :: rest) env) Q E s :=
  wpAny_execs_cons (wpAny_mono (wpAny_If (q P fun _ x => x)) (fun f s' q => by cases f <;> first | exact k _ q | exact q.elim) fun _ _ e => e)

/-- self.negated(y) -/
theorem negCall {pl : Sem Bool} {t₀ r : Nat} {B' : List Tm} {y : Str} {py p pos pos' : Pos} {u₀ : Tok} {Q : Value → Shared → Prop} (C : Cf w h₀ β) (r₀ : RwOk β ρ) (hρ : RAt ρ s₀) (G : Gd w h₀) (hr : Room A 4) (X : W prog w h₀ s₀ (bankWd prog w β B) env.locals h m objs)
    (hs : m "self" = some (.ref ρ.inst)) (hy : m y = some (.int (t₀ : Int) u₀)) (hm : notOf t₀ B = some (r, B')) (hsz : B.length ≤ 2 ^ 23)
    (q : ∀ h' tk u, W prog w h₀ s₀ (bankWd prog w β B') env.locals h' m objs → Q (.int r u) (St z h' tk))
    (hk : autoParam (env.scope.kind = .function) aR) (hl : autoParam (env.kindOf "self" = some .local) aR) (hly : autoParam (env.kindOf y = some .local) aR) (hd : autoParam ((y == ("__debug__" : Str)) = false) aD)
    (he : autoParam (eval (.Call (.Attribute (.Name "self" p) "negated" pos) [.Name y py] [] pos') env = (do
      let ov ← eval (.Name "self" p) env
      standAt pos.atName
      let (f, first) ← holding [ov] (getMethod ov "negated" pl)
      callWith pos' f first (backTo pos' (starEach [.Name y py] env)) [])) aR) :
    wpAny (model prog w) A (eval (.Call (.Attribute (.Name "self" p) "negated" pos) [.Name y py] [] pos') env) Q NE (St z h t) := by
  refine MethodCall_ (he := he) (nmL X hs (mB (X.gd G) cls513 (hρ.to r₀ X rfl) (r₀.meths _ (by decide)) (args_cons (nmL X hy (args_nil ⟨(X.gd G).K, ?_⟩) hk hly hd))) hk hl)
  refine negated_spec C r₀ (hρ.to r₀ X rfl) (X.gnd G) hr X.inv hm hsz fun h' tk u hB k e => ?_
  exact q _ _ _ (X.call (D' := bankWd prog w β B') rfl k e hB)

theorem same_spec {a₀ b₀ r : Nat} {u₁ u₂ : Tok} {B' : List Tm} (C : Cf w h₀ β) (r₀ : RwOk β ρ) (hρ : RAt ρ h) (g : Gnd w h₀ h) (hr : Room A 5) (hB : BankAt prog w β B h) (hm : sameM a₀ b₀ B = some (r, B')) (hsz : B'.length ≤ 2 ^ 23)
    (hR : ∀ h' tk u, BankAt prog w β B' h' → Keep β.own h h' → Ext h₀ h' → R (.ok (.ret (.int r u))) (St z h' tk)) :
    codeAny (model prog w) A (.call (.ref 458) ⟨[.ref ρ.inst, .int a₀ u₁, .int b₀ u₂], []⟩) R (St z h t) := by
  unfold sameM at hm
  obtain ⟨x, hx, hm⟩ := rd_bind hm
  obtain ⟨p, B₁, hp, hm⟩ := bind_some hm
  obtain ⟨y, hy, hm⟩ := rd_bind hm
  obtain ⟨q, B₂, hq, hm⟩ := bind_some hm
  obtain ⟨res, B₃, hres, hm⟩ := bind_some hm
  have g₃ : B₃.length ≤ B'.length := (Gr.ite (gr_notOf res) (Gr.ret res)).len hm
  have g₂ : B₂.length ≤ B₃.length := (Gr.ite (Gr.ite (Gr.ret _) (gr_notOf _)) (gr_iffM _ _)).len hres
  have g₁ : B₁.length ≤ B₂.length := (Gr.ite (Gr.bind (gr_notOf b₀) fun b' => Gr.ret (b', !p.2)) (Gr.ret (b₀, p.2))).len hq
  have g₀ : B.length ≤ B₁.length := (Gr.ite (Gr.bind (gr_notOf a₀) fun a' => Gr.ret (a', true)) (Gr.ret (a₀, false))).len hp
  refine enterF 458 [("self", .ref ρ.inst), ("a", .int a₀ u₁), ("b", .int b₀ u₂)] g hr fun h₁ L A' tk en hns hr' => ?_
  have X := W.enter (prog := prog) (bankWd prog w β B) g hB en hns
  refine sAsg (cBool (stL X fun h' tk X => ?_))
  refine sIfM (fun s => E5 fun h' t' m objs ua => A6 (s = St z h' t') (W prog w h₀ h (bankWd prog w β B₁) L h' m objs) (m "self" = some (.ref ρ.inst)) (m "a" = some (.int p.1 ua)) (m "b" = some (.int b₀ u₂)) (m "is_odd" = some (.bool p.2))) ?_ ?_
  · intro P' hP
    refine wpAny_isTrue_Compare1 (MethodCall_ (selfBank r₀ g.G hρ X rfl fun tk => ?_))
    refine mB (X.gd g.G) cls388 X.inv.attrs (C.full.meths _ (by decide)) (argsS X (.cons (.loc rfl) .nil) ⟨(X.gd g.G).K, ?_⟩)
    refine op_spec C (X.gnd g.G) (hr'.less (by decide)) X.inv hx (by first | exact Nat.le_trans ‹_› ‹_› | exact Nat.le_trans ‹_› (Nat.le_trans ‹_› ‹_›) | omega) fun h' tk u e => ?_
    have X := X.grow e
    refine cStr fun u tk => eqOp .not (wpAny_truthy_bool ?_)
    by_cases c : x.op = .not
    · refine ifT c ?_
      replace hp := bmT c hp
      obtain ⟨a', B₁', ha', hp⟩ := bind_some hp
      cases hp
      refine sTupS ["a", "is_odd"] (Tuple_ (args_cons ?_))
      refine negCall C r₀ hρ g.G hr' X rfl rfl ha' (by first | exact Nat.le_trans ‹_› ‹_› | exact Nat.le_trans ‹_› (Nat.le_trans ‹_› ‹_›) | omega) fun h' tk u X => ?_
      refine args_cons (UnaryOp_ (nmL X rfl (notOp (args_nil (newTup X fun h' a₂ X => ?_)))))
      refine swap2 hr'.hh X (X.obj _ (.head _)) fun h' tk X => ?_
      exact sNil (hP _ ⟨_, _, _, _, _, rfl, X, rfl, rfl, rfl, rfl⟩)
    · refine ifF c ?_
      replace hp := bmF c hp
      cases hp
      exact sNil (hP _ ⟨_, _, _, _, _, rfl, X, rfl, rfl, rfl, rfl⟩)
  clear X
  rintro s ⟨h', t', m, objs, ua, rfl, X, m1, m2, m3, m4⟩
  refine sIfM (fun s => E6 fun h' t' m objs ua ub => A6 (s = St z h' t') (W prog w h₀ h (bankWd prog w β B₂) L h' m objs) (m "self" = some (.ref ρ.inst)) (m "a" = some (.int p.1 ua)) (m "b" = some (.int q.1 ub)) (m "is_odd" = some (.bool q.2))) ?_ ?_
  · intro P' hP
    refine wpAny_isTrue_Compare1 (MethodCall_ (selfBank r₀ g.G hρ X m1 fun tk => ?_))
    refine mB (X.gd g.G) cls388 X.inv.attrs (C.full.meths _ (by decide)) (argsS X (.cons (.loc m3) .nil) ⟨(X.gd g.G).K, ?_⟩)
    refine op_spec C (X.gnd g.G) (hr'.less (by decide)) X.inv hy (by first | exact Nat.le_trans ‹_› ‹_› | exact Nat.le_trans ‹_› (Nat.le_trans ‹_› ‹_›) | omega) fun h' tk u e => ?_
    have X := X.grow e
    refine cStr fun u tk => eqOp .not (wpAny_truthy_bool ?_)
    by_cases c : y.op = .not
    · refine ifT c ?_
      replace hq := bmT c hq
      obtain ⟨b', B₂', hb', hq⟩ := bind_some hq
      cases hq
      refine sTupS ["b", "is_odd"] (Tuple_ (args_cons ?_))
      refine negCall C r₀ hρ g.G hr' X m1 m3 hb' (by first | exact Nat.le_trans ‹_› ‹_› | exact Nat.le_trans ‹_› (Nat.le_trans ‹_› ‹_›) | omega) fun h' tk u X => ?_
      refine args_cons (UnaryOp_ (nmL X m4 (notOp (args_nil (newTup X fun h' a₂ X => ?_)))))
      refine swap2 hr'.hh X (X.obj _ (.head _)) fun h' tk X => ?_
      exact sNil (hP _ ⟨_, _, _, _, _, _, rfl, X, m1, m2, rfl, rfl⟩)
    · refine ifF c ?_
      replace hq := bmF c hq
      cases hq
      exact sNil (hP _ ⟨_, _, _, _, _, _, rfl, X, m1, m2, m3, m4⟩)
  clear X
  rintro s ⟨h', t', m, objs, ua, ub, rfl, X, m1, m2, m3, m4⟩
  -- the constants go to b
  refine sIfM (fun s => E6 fun h' t' m objs ua ub => A6 (s = St z h' t') (W prog w h₀ h (bankWd prog w β B₂) L h' m objs) (m "self" = some (.ref ρ.inst)) (m "a" = some (.int (if p.1 = 1 ∨ p.1 = 2 then (q.1, p.1) else (p.1, q.1)).1 ua)) (m "b" = some (.int (if p.1 = 1 ∨ p.1 = 2 then (q.1, p.1) else (p.1, q.1)).2 ub)) (m "is_odd" = some (.bool q.2))) ?_ ?_
  · intro P' hP
    have sw : ∀ (h' : Heap) (t' : Nat) (c : p.1 = 1 ∨ p.1 = 2), W prog w h₀ h (bankWd prog w β B₂) L h' m objs → True := fun _ _ _ _ => trivial
    refine wpAny_isTrue_BoolOp (wpAny_allTrue_Or_cons (wpAny_isTrue_Compare1 (nmL X m2 (selfYes r₀ g.G hρ X m1 fun u tk => eqN (b := 1) (wpAny_truthy_bool ?_)))))
    by_cases c1 : p.1 = 1
    · refine ifT c1 ?_
      refine sTupS ["a", "b"] (Tuple_ (argsS X (.cons (.loc m3) (.cons (.loc m2) .nil)) (newTup X fun h' a₂ X => ?_)))
      refine swap2 hr'.hh X (X.obj _ (.head _)) fun h' tk X => ?_
      refine sNil (hP _ ⟨_, _, _, _, ub, ua, rfl, X, m1, ?_, ?_, m4⟩)
      · rw [if_pos (.inl c1)]; rfl
      · rw [if_pos (.inl c1)]; rfl
    refine ifF c1 ?_
    refine wpAny_allTrue_Or_cons (wpAny_isTrue_Compare1 (nmL X m2 (selfNo r₀ g.G hρ X m1 fun u tk => eqN (b := 2) (wpAny_truthy_bool ?_))))
    by_cases c2 : p.1 = 2
    · refine ifT c2 ?_
      refine sTupS ["a", "b"] (Tuple_ (argsS X (.cons (.loc m3) (.cons (.loc m2) .nil)) (newTup X fun h' a₂ X => ?_)))
      refine swap2 hr'.hh X (X.obj _ (.head _)) fun h' tk X => ?_
      refine sNil (hP _ ⟨_, _, _, _, ub, ua, rfl, X, m1, ?_, ?_, m4⟩)
      · rw [if_pos (.inr c2)]; rfl
      · rw [if_pos (.inr c2)]; rfl
    refine ifF c2 ?_
    refine wpAny_allTrue_Or_nil ?_
    refine if0 ?_
    refine sNil (hP _ ⟨_, _, _, _, ua, ub, rfl, X, m1, ?_, ?_, m4⟩)
    · rw [if_neg (by first | exact Nat.le_trans ‹_› ‹_› | exact Nat.le_trans ‹_› (Nat.le_trans ‹_› ‹_›) | omega)]; exact m2
    · rw [if_neg (by first | exact Nat.le_trans ‹_› ‹_› | exact Nat.le_trans ‹_› (Nat.le_trans ‹_› ‹_›) | omega)]; exact m3
  clear X m1 m2 m3 m4 objs m
  generalize (if p.1 = 1 ∨ p.1 = 2 then (q.1, p.1) else (p.1, q.1)) = ab at hres ⊢
  rintro s ⟨h', t', m, objs, ua, ub, rfl, X, m1, m2, m3, m4⟩
  -- the result
  refine sIfM (fun s => E5 fun h' t' m objs ur => A5 (s = St z h' t') (W prog w h₀ h (bankWd prog w β B₃) L h' m objs) (m "self" = some (.ref ρ.inst)) (m "result" = some (.int res ur)) (m "is_odd" = some (.bool q.2))) ?_ ?_
  · intro P' hP
    refine wpAny_isTrue_BoolOp (wpAny_allTrue_Or_cons (wpAny_isTrue_Compare1 (nmL X m3 (selfYes r₀ g.G hρ X m1 fun u tk => eqN (b := 1) (wpAny_truthy_bool ?_)))))
    by_cases c1 : ab.2 = 1
    · refine ifT c1 ?_
      rw [if_pos (.inl c1), if_pos c1] at hres
      cases hres
      refine sAsg (wpAny_IfExp (wpAny_isTrue_Compare1 (nmL X m3 (selfYes r₀ g.G hρ X m1 fun u tk => eqN (b := 1) (wpAny_truthy_bool ?_)))))
      refine ifT c1 ?_
      refine nmL X m2 (stL X fun h' tk X => ?_)
      exact sNil (hP _ ⟨_, _, _, _, _, rfl, X, m1, rfl, m4⟩)
    refine ifF c1 ?_
    refine wpAny_allTrue_Or_cons (wpAny_isTrue_Compare1 (nmL X m3 (selfNo r₀ g.G hρ X m1 fun u tk => eqN (b := 2) (wpAny_truthy_bool ?_))))
    by_cases c2 : ab.2 = 2
    · refine ifT c2 ?_
      rw [if_pos (.inr c2), if_neg c1] at hres
      refine sAsg (wpAny_IfExp (wpAny_isTrue_Compare1 (nmL X m3 (selfYes r₀ g.G hρ X m1 fun u tk => eqN (b := 1) (wpAny_truthy_bool ?_)))))
      refine ifF c1 ?_
      refine negCall C r₀ hρ g.G hr' X m1 m2 hres (by first | exact Nat.le_trans ‹_› ‹_› | exact Nat.le_trans ‹_› (Nat.le_trans ‹_› ‹_›) | omega) fun h' tk u X => stL X fun h' tk X => ?_
      exact sNil (hP _ ⟨_, _, _, _, _, rfl, X, m1, rfl, m4⟩)
    refine ifF c2 ?_
    replace hres := bmF (by first | exact Nat.le_trans ‹_› ‹_› | exact Nat.le_trans ‹_› (Nat.le_trans ‹_› ‹_›) | omega) hres
    refine wpAny_allTrue_Or_nil ?_
    refine if0 ?_
    refine sAsg (MethodCall_ (selfBank r₀ g.G hρ X m1 fun tk => ?_))
    refine mB (X.gd g.G) cls388 X.inv.attrs (C.full.meths _ (by decide)) (argsS X (.cons (.loc m2) (.cons (.loc m3) .nil)) ⟨(X.gd g.G).K, ?_⟩)
    refine iff_spec C (X.gnd g.G) hr' X.inv hres (by first | exact Nat.le_trans ‹_› ‹_› | exact Nat.le_trans ‹_› (Nat.le_trans ‹_› ‹_›) | omega) fun h' tk u hB k e => ?_
    have X := X.call (D' := bankWd prog w β B₃) rfl k e hB
    refine stL X fun h' tk X => ?_
    exact sNil (hP _ ⟨_, _, _, _, _, rfl, X, m1, rfl, m4⟩)
  clear X m1 m2 m3 m4 objs m
  rintro s ⟨h', t', m, objs, ur, rfl, X, m1, m2, m3⟩
  refine sRet (wpAny_IfExp (wpAny_isTrue_value (nmL X m3 (wpAny_truthy_bool ?_))))
  by_cases c : q.2 = true
  · refine ifE c ?_
    replace hm := bmT c hm
    exact negCall C r₀ hρ g.G hr' X m1 m2 hm (by first | exact Nat.le_trans ‹_› ‹_› | exact Nat.le_trans ‹_› (Nat.le_trans ‹_› ‹_›) | omega) fun h' tk u X => hR _ _ _ X.inv X.keep X.ext
  · replace hm := bmF c hm
    have c' : q.2 = false := by simpa using c
    refine ifE0 c' ?_
    exact nmL X m2 (retW hR hm X)
end
end Mine

-- ChB
namespace Mine

section
variable {prog : Program} {w : World} {β : Adr} {ρ : Rho} {B : List Tm} {A : Around} {E : Value → Shared → Prop} {z : Shared} {h₀ s₀ h : Heap} {t : Nat} {R : Result → Shared → Prop} {n i : Nat} {u : Tok} {x : Tm} {D D' : Wd} {L a d : Addr} {m : Str → Option Value} {objs : List (Addr × Cell)} {env : Env}

/-- the call self.joined(op, [x, y]), its list laid -/
theorem joinOf {op : Op} {u₁ ux uy : Tok} {x y r : Nat} {K : Addr} {B' : List Tm} {h₁ : Heap} (C : Cf w h₀ β) (r₀ : RwOk β ρ) (hρ : RAt ρ s₀) (G : Gd w h₀) (hr : Room A 20) (X : W prog w h₀ s₀ (bankWd prog w β B) L h m ((K, .lst [.int (x : Int) ux, .int (y : Int) uy]) :: objs))
    (hop : op = .and ∨ op = .or) (hm : joinM DEPTH op [x, y] B = some (r, B')) (hsz : B'.length ≤ 2 ^ 23)
    (hR : ∀ h' tk u, W prog w h₀ s₀ (bankWd prog w β B') L h' m objs → R (.ok (.ret (.int r u))) (St z h' tk)) :
    codeAny (model prog w) A (.call (.ref 437) ⟨[.ref ρ.inst, .str op.str u₁, .ref K], []⟩) R (St z h t) :=
  joined_spec C r₀ 4 A z h t R op u₁ _ [x, y] K B B' r hr (X.gnd G) (hρ.to r₀ X rfl) X.inv (X.obj _ (.head _)) (X.fresh K mm).2 (.cons ⟨_, rfl⟩ (.cons ⟨_, rfl⟩ .nil)) hop hm hsz fun h' tk u hB k e =>
    hR _ _ _ (X.call (D' := bankWd prog w β B') rfl k e hB).drop

theorem sIfP {test : Expr} {body orelse : List Stmt} {pos : Pos} {rest : List Stmt} {Q : Flow → Shared → Prop} {s : Shared} (P : Bool → Shared → Prop)
    (q : ∀ P' : Bool → Shared → Prop, (∀ b s, P b s → P' b s) → wpAny (model prog w) A (isTrue test env (eval test env)) P' E s)
    (k : ∀ b s, P b s → if b then wpAny (model prog w) A (execs body env) (Nx prog w A rest env Q E) E s else wpAny (model prog w) A (execs orelse env) (Nx prog w A rest env Q E) E s) :
    wpAny (model prog w) A (execs (.If test body orelse pos :: rest) env) Q E s := sIf (wpAny_mono (q P fun _ _ x => x) k fun _ _ e => e)
theorem orT {e₁ e₂ : Expr} {pos : Pos} {whole : Sem Value} {P : Bool → Shared → Prop} {s : Shared}
    (q : wpAny (model prog w) A (isTrue e₁ env (eval e₁ env)) (fun b s₁ => if b then P true s₁ else wpAny (model prog w) A (isTrue e₂ env (eval e₂ env)) P E s₁) E s) :
    wpAny (model prog w) A (isTrue (.BoolOp .Or [e₁, e₂] pos) env whole) P E s :=
  wpAny_isTrue_BoolOp (wpAny_allTrue_Or_cons (wpAny_mono q (fun b s q => by
    cases b with
    | true => exact q
    | false =>
      simp only [Bool.false_eq_true, if_false] at q ⊢
      exact wpAny_allTrue_Or_cons (wpAny_mono q (fun b s q => by
        cases b with
        | true => exact q
        | false => simp only [Bool.false_eq_true, if_false]; exact wpAny_allTrue_Or_nil q) fun _ _ e => e)) fun _ _ e => e))

theorem chosen_bool_spec {c₀ a₀ b₀ r : Nat} {u₀ u₁ u₂ : Tok} {B' : List Tm} (C : Cf w h₀ β) (r₀ : RwOk β ρ) (hρ : RAt ρ h) (g : Gnd w h₀ h) (hr : Room A 21) (hB : BankAt prog w β B h) (hm : chosenBoolM c₀ a₀ b₀ B = some (r, B')) (hsz : B'.length ≤ 2 ^ 23)
    (hR : ∀ h' tk u, BankAt prog w β B' h' → Keep β.own h h' → Ext h₀ h' → R (.ok (.ret (.int r u))) (St z h' tk)) :
    codeAny (model prog w) A (.call (.ref 465) ⟨[.ref ρ.inst, .int c₀ u₀, .int a₀ u₁, .int b₀ u₂], []⟩) R (St z h t) := by
  refine enterF 465 [("self", .ref ρ.inst), ("c", .int c₀ u₀), ("a", .int a₀ u₁), ("b", .int b₀ u₂)] g hr fun h₁ L A' tk en hns hr' => ?_
  have X := W.enter (prog := prog) (bankWd prog w β B) g hB en hns
  unfold chosenBoolM at hm
  have fin : ∀ {h' tk u} {B'' : List Tm} {m objs}, B'' = B' → W prog w h₀ h (bankWd prog w β B'') L h' m objs → R (.ok (.ret (.int r u))) (St z h' tk) := fun e X => by subst e; exact hR _ _ _ X.inv X.keep X.ext
  -- a == yes or a == c
  refine sIfP (fun b s => E2 fun h' tk => A3 (s = St z h' tk) (W prog w h₀ h (bankWd prog w β B) L h' (lk [("self", .ref ρ.inst), ("c", .int c₀ u₀), ("a", .int a₀ u₁), ("b", .int b₀ u₂)]) []) (b = decide (a₀ = 1 ∨ a₀ = c₀))) (fun P' hP => orT (wpAny_isTrue_Compare1 (nmL X rfl (selfYes r₀ g.G hρ X rfl fun u tk => eqN (b := 1) (wpAny_truthy_bool ?_))))) ?_
  · by_cases c1 : a₀ = 1
    · refine ifT c1 ?_
      exact hP _ _ ⟨_, _, rfl, X, by simp [c1]⟩
    · refine ifF c1 ?_
      exact wpAny_isTrue_Compare1 (nmL X rfl (nmL X rfl (eqN (wpAny_truthy_bool (hP _ _ ⟨_, _, rfl, X, by simp [c1]⟩)))))
  clear X
  rintro b s ⟨h', tk, rfl, X, rfl⟩
  by_cases c1 : a₀ = 1 ∨ a₀ = c₀
  · replace hm := bmT c1 hm
    refine ifT c1 ?_
    refine sRet (MethodCall_ (nmL X rfl (mB (X.gd g.G) cls513 (hρ.to r₀ X rfl) (r₀.meths _ (by decide)) (args_cons (cStr fun u tk => args_cons (List_ (argsS X (.cons (.loc rfl) (.cons (.loc rfl) .nil)) (newLst X fun h' K X => args_nil ⟨(X.gd g.G).K, ?_⟩))))))))
    exact joinOf (op := .or) (h₁ := h') C r₀ hρ g.G hr' X (.inr rfl) hm hsz fun h' tk u X => fin rfl X
  replace hm := bmF c1 hm
  refine ifF c1 ?_
  refine sNx ?_
  -- a == no or a == not c
  obtain ⟨t2, B₂, h2, hm⟩ := bind_some hm
  have g₂ : B₂.length ≤ B'.length := by
    split at hm
    · exact (Gr.bind (gr_notOf c₀) fun n => gr_joinM _ _ _).len hm
    · exact (Gr.bind (Gr.ite (Gr.ret _) (Gr.bind (gr_notOf c₀) fun n => Gr.ret _)) fun t3 => Gr.ite (Gr.bind (gr_notOf c₀) fun n => gr_joinM _ _ _) (Gr.ite (gr_joinM _ _ _) (Gr.bind (gr_notOf b₀) fun nb => Gr.ite (gr_sameM _ _) (gr_iteM _ _ _)))).len hm
  have g₁ : B.length ≤ B₂.length := (Gr.ite (Gr.ret true) (Gr.bind (gr_notOf c₀) fun n => Gr.ret (decide (a₀ = n)))).len h2
  refine sIfP (fun b s => E2 fun h' tk => A3 (s = St z h' tk) (W prog w h₀ h (bankWd prog w β B₂) L h' (lk [("self", .ref ρ.inst), ("c", .int c₀ u₀), ("a", .int a₀ u₁), ("b", .int b₀ u₂)]) []) (b = t2)) (fun P' hP => orT (wpAny_isTrue_Compare1 (nmL X rfl (selfNo r₀ g.G hρ X rfl fun u tk => eqN (b := 2) (wpAny_truthy_bool ?_))))) ?_
  · by_cases c2 : a₀ = 2
    · replace h2 := bmT c2 h2
      cases h2
      refine ifT c2 ?_
      exact hP _ _ ⟨_, _, rfl, X, rfl⟩
    · replace h2 := bmF c2 h2
      obtain ⟨nc, B₃, hn, h2⟩ := bind_some h2
      cases h2
      refine ifF c2 ?_
      exact wpAny_isTrue_Compare1 (nmL X rfl (negCall C r₀ hρ g.G (hr'.less (by decide)) X rfl rfl hn (by first | exact Nat.le_trans ‹_› ‹_› | exact Nat.le_trans ‹_› (Nat.le_trans ‹_› ‹_›) | omega) fun h' tk u X => eqN (wpAny_truthy_bool (hP _ _ ⟨_, _, rfl, X, rfl⟩))))
  clear X
  rintro b s ⟨h', tk, rfl, X, rfl⟩
  by_cases c2 : b = true
  · replace hm := bmT c2 hm
    rw [if_pos c2]
    obtain ⟨nc, B₃, hn, hm⟩ := bind_some hm
    have g₃ := (gr_joinM _ _ _).len hm
    refine sRet (MethodCall_ (nmL X rfl (mB (X.gd g.G) cls513 (hρ.to r₀ X rfl) (r₀.meths _ (by decide)) (args_cons (cStr fun u tk => args_cons (List_ (args_cons ?_)))))))
    refine negCall C r₀ hρ g.G (hr'.less (by decide)) X rfl rfl hn (by first | exact Nat.le_trans ‹_› ‹_› | exact Nat.le_trans ‹_› (Nat.le_trans ‹_› ‹_›) | omega) fun h' tk u X => argsS X (.cons (.loc rfl) .nil) (newLst X fun h' K X => args_nil ⟨(X.gd g.G).K, ?_⟩)
    exact joinOf (op := .and) (h₁ := h') C r₀ hρ g.G hr' X (.inl rfl) hm hsz fun h' tk u X => fin rfl X
  replace hm := bmF c2 hm
  rw [if_neg c2]
  refine sNx ?_
  -- b == yes or b == not c
  obtain ⟨t3, B₄, h3, hm⟩ := bind_some hm
  have g₄ : B₄.length ≤ B'.length := by
    split at hm
    · exact (Gr.bind (gr_notOf c₀) fun n => gr_joinM _ _ _).len hm
    · exact (Gr.ite (gr_joinM _ _ _) (Gr.bind (gr_notOf b₀) fun nb => Gr.ite (gr_sameM _ _) (gr_iteM _ _ _))).len hm
  have g₃ : B₂.length ≤ B₄.length := (Gr.ite (Gr.ret true) (Gr.bind (gr_notOf c₀) fun n => Gr.ret (decide (b₀ = n)))).len h3
  refine sIfP (fun b s => E2 fun h' tk => A3 (s = St z h' tk) (W prog w h₀ h (bankWd prog w β B₄) L h' (lk [("self", .ref ρ.inst), ("c", .int c₀ u₀), ("a", .int a₀ u₁), ("b", .int b₀ u₂)]) []) (b = t3)) (fun P' hP => orT (wpAny_isTrue_Compare1 (nmL X rfl (selfYes r₀ g.G hρ X rfl fun u tk => eqN (b := 1) (wpAny_truthy_bool ?_))))) ?_
  · by_cases c3 : b₀ = 1
    · replace h3 := bmT c3 h3
      cases h3
      refine ifT c3 ?_
      exact hP _ _ ⟨_, _, rfl, X, rfl⟩
    · replace h3 := bmF c3 h3
      obtain ⟨nc, B₃, hn, h3⟩ := bind_some h3
      cases h3
      refine ifF c3 ?_
      exact wpAny_isTrue_Compare1 (nmL X rfl (negCall C r₀ hρ g.G (hr'.less (by decide)) X rfl rfl hn (by first | exact Nat.le_trans ‹_› ‹_› | exact Nat.le_trans ‹_› (Nat.le_trans ‹_› ‹_›) | omega) fun h' tk u X => eqN (wpAny_truthy_bool (hP _ _ ⟨_, _, rfl, X, rfl⟩))))
  clear X
  rintro b' s ⟨h', tk, rfl, X, rfl⟩
  by_cases c3 : b' = true
  · replace hm := bmT c3 hm
    rw [if_pos c3]
    obtain ⟨nc, B₃, hn, hm⟩ := bind_some hm
    have g₃ := (gr_joinM _ _ _).len hm
    refine sRet (MethodCall_ (nmL X rfl (mB (X.gd g.G) cls513 (hρ.to r₀ X rfl) (r₀.meths _ (by decide)) (args_cons (cStr fun u tk => args_cons (List_ (args_cons ?_)))))))
    refine negCall C r₀ hρ g.G (hr'.less (by decide)) X rfl rfl hn (by first | exact Nat.le_trans ‹_› ‹_› | exact Nat.le_trans ‹_› (Nat.le_trans ‹_› ‹_›) | omega) fun h' tk u X => argsS X (.cons (.loc rfl) .nil) (newLst X fun h' K X => args_nil ⟨(X.gd g.G).K, ?_⟩)
    exact joinOf (op := .or) (h₁ := h') C r₀ hρ g.G hr' X (.inr rfl) hm hsz fun h' tk u X => fin rfl X
  replace hm := bmF c3 hm
  rw [if_neg c3]
  refine sNx ?_
  -- b == no or b == c
  refine sIfP (fun b s => E2 fun h' tk => A3 (s = St z h' tk) (W prog w h₀ h (bankWd prog w β B₄) L h' (lk [("self", .ref ρ.inst), ("c", .int c₀ u₀), ("a", .int a₀ u₁), ("b", .int b₀ u₂)]) []) (b = decide (b₀ = 2 ∨ b₀ = c₀))) (fun P' hP => orT (wpAny_isTrue_Compare1 (nmL X rfl (selfNo r₀ g.G hρ X rfl fun u tk => eqN (b := 2) (wpAny_truthy_bool ?_))))) ?_
  · by_cases c4 : b₀ = 2
    · refine ifT c4 ?_
      exact hP _ _ ⟨_, _, rfl, X, by simp [c4]⟩
    · refine ifF c4 ?_
      exact wpAny_isTrue_Compare1 (nmL X rfl (nmL X rfl (eqN (wpAny_truthy_bool (hP _ _ ⟨_, _, rfl, X, by simp [c4]⟩)))))
  clear X
  rintro b s ⟨h', tk, rfl, X, rfl⟩
  by_cases c4 : b₀ = 2 ∨ b₀ = c₀
  · replace hm := bmT c4 hm
    refine ifT c4 ?_
    refine sRet (MethodCall_ (nmL X rfl (mB (X.gd g.G) cls513 (hρ.to r₀ X rfl) (r₀.meths _ (by decide)) (args_cons (cStr fun u tk => args_cons (List_ (argsS X (.cons (.loc rfl) (.cons (.loc rfl) .nil)) (newLst X fun h' K X => args_nil ⟨(X.gd g.G).K, ?_⟩))))))))
    exact joinOf (op := .and) (h₁ := h') C r₀ hρ g.G hr' X (.inl rfl) hm hsz fun h' tk u X => fin rfl X
  replace hm := bmF c4 hm
  refine ifF c4 ?_
  refine sNx ?_
  obtain ⟨nb, B₅, hn, hm⟩ := bind_some hm
  have g₅ : B₅.length ≤ B'.length := (Gr.ite (gr_sameM _ _) (gr_iteM _ _ _)).len hm
  have g₆ := (gr_notOf b₀).len hn
  refine sIf (wpAny_isTrue_Compare1 (nmL X rfl (negCall C r₀ hρ g.G (hr'.less (by decide)) X rfl rfl hn (by first | exact Nat.le_trans ‹_› ‹_› | exact Nat.le_trans ‹_› (Nat.le_trans ‹_› ‹_›) | omega) fun h' tk u X => eqN (wpAny_truthy_bool ?_))))
  by_cases c5 : a₀ = nb
  · replace hm := bmT c5 hm
    refine ifT c5 ?_
    refine sRet (MethodCall_ (nmL X rfl (mB (X.gd g.G) cls513 (hρ.to r₀ X rfl) (r₀.meths _ (by decide)) (argsS X (.cons (.loc rfl) (.cons (.loc rfl) .nil)) ⟨(X.gd g.G).K, ?_⟩))))
    exact same_spec C r₀ (hρ.to r₀ X rfl) (X.gnd g.G) (hr'.less (by decide)) X.inv hm hsz fun h' tk u hB k e => fin rfl (X.call (D' := bankWd prog w β B') rfl k e hB)
  · replace hm := bmF c5 hm
    refine ifF c5 ?_
    refine sNx (sRet (MethodCall_ (selfBank r₀ g.G hρ X rfl fun tk => ?_)))
    refine mB (X.gd g.G) cls388 X.inv.attrs (C.full.meths _ (by decide)) (argsS X (.cons (.loc rfl) (.cons (.loc rfl) (.cons (.loc rfl) .nil))) ⟨(X.gd g.G).K, ?_⟩)
    exact ite_spec C (X.gnd g.G) (hr'.less (by decide)) X.inv hm (by first | exact Nat.le_trans ‹_› ‹_› | exact Nat.le_trans ‹_› (Nat.le_trans ‹_› ‹_›) | omega) fun h' tk u hB k e => fin rfl (X.call (D' := bankWd prog w β B') rfl k e hB)
end
end Mine

-- Cho
namespace Mine

section
variable {prog : Program} {w : World} {β : Adr} {ρ : Rho} {B : List Tm} {A : Around} {E : Value → Shared → Prop} {z : Shared} {h₀ s₀ h : Heap} {t : Nat} {R : Result → Shared → Prop} {n i : Nat} {u : Tok} {x : Tm} {D D' : Wd} {L a d : Addr} {m : Str → Option Value} {objs : List (Addr × Cell)} {env : Env}

theorem andT {e₁ e₂ : Expr} {pos : Pos} {whole : Sem Value} {P : Bool → Shared → Prop} {s : Shared}
    (q : wpAny (model prog w) A (isTrue e₁ env (eval e₁ env)) (fun b s₁ => if b then wpAny (model prog w) A (isTrue e₂ env (eval e₂ env)) P E s₁ else P false s₁) E s) :
    wpAny (model prog w) A (isTrue (.BoolOp .And [e₁, e₂] pos) env whole) P E s :=
  wpAny_isTrue_BoolOp (wpAny_allTrue_And_cons (wpAny_mono q (fun b s q => by
    cases b with
    | false => exact q
    | true =>
      simp only [if_true] at q ⊢
      exact wpAny_allTrue_And_cons (wpAny_mono q (fun b s q => by
        cases b with
        | false => exact q
        | true => simp only [if_true]; exact wpAny_allTrue_And_nil q) fun _ _ e => e)) fun _ _ e => e))

theorem stripM_same {t c k : Nat} {r : Nat} {B' : List Tm} (e : stripM t c k B = some (r, B')) : B' = B := by
  unfold stripM at e
  obtain ⟨x, hx, e⟩ := rd_bind e
  by_cases h1 : x.op = .ite
  · rw [if_pos h1] at e
    cases h0 : x.args[0]? with
    | none => rw [h0] at e; cases e
    | some c' =>
      rw [h0] at e
      simp only at e
      by_cases h2 : c' = c
      · rw [if_pos h2] at e
        cases h3 : x.args[k]? with
        | none => rw [h3] at e; cases e
        | some r' => rw [h3] at e; cases e; rfl
      · rw [if_neg h2] at e; cases e; rfl
  · rw [if_neg h1] at e; cases e; rfl

/-- self.bank.args(y)[k] -/
theorem chosen_spec {c₀ a₀ b₀ r : Nat} {u₀ u₁ u₂ : Tok} {B' : List Tm} (C : Cf w h₀ β) (r₀ : RwOk β ρ) (hρ : RAt ρ h) (g : Gnd w h₀ h) (hr : Room A 22) (hB : BankAt prog w β B h) (hm : chosenM c₀ a₀ b₀ B = some (r, B')) (hsz : B'.length ≤ 2 ^ 23)
    (hR : ∀ h' tk u, BankAt prog w β B' h' → Keep β.own h h' → Ext h₀ h' → R (.ok (.ret (.int r u))) (St z h' tk)) :
    codeAny (model prog w) A (.call (.ref 472) ⟨[.ref ρ.inst, .int c₀ u₀, .int a₀ u₁, .int b₀ u₂], []⟩) R (St z h t) := by
  unfold chosenM at hm
  obtain ⟨x, hx, k1⟩ := rd_bind hm
  obtain ⟨p, B₃, hp, k2⟩ := bind_some k1
  obtain ⟨a₁, B₂, ha, k3⟩ := bind_some k2
  have e1 := stripM_same ha
  obtain ⟨b₁, B₄, hb, k4⟩ := bind_some k3
  have e2 := stripM_same hb
  clear hm k1 k2 k3
  subst e1 e2
  have hm := k4
  clear k4
  have g₁ : B₄.length ≤ B'.length := (Gr.ite (Gr.ret a₁) (Gr.ite (Gr.ret b₁) (Gr.bind (Gr.rd a₁) fun y => Gr.ite (gr_chosenBoolM _ _ _) (gr_iteM _ _ _)))).len hm
  have g₀ : B.length ≤ B₄.length := (Gr.ite (Gr.bind (gr_notOf c₀) fun c' => Gr.ret (c', b₀, a₀)) (Gr.ret (c₀, a₀, b₀))).len hp
  obtain ⟨c₂, a₂, b₂⟩ := p
  simp only at ha hb hm
  refine enterF 472 [("self", .ref ρ.inst), ("c", .int c₀ u₀), ("a", .int a₀ u₁), ("b", .int b₀ u₂)] g hr fun h₁ L A' tk en hns hr' => ?_
  have X := W.enter (prog := prog) (bankWd prog w β B) g hB en hns
  refine sIfM (fun s => E7 fun h' t' m objs uc ua ub => A6 (s = St z h' t') (W prog w h₀ h (bankWd prog w β B₄) L h' m objs) (m "self" = some (.ref ρ.inst)) (m "c" = some (.int (c₂ : Int) uc)) (m "a" = some (.int (a₂ : Int) ua)) (m "b" = some (.int (b₂ : Int) ub))) ?_ ?_
  · intro P' hP
    refine wpAny_isTrue_Compare1 (MethodCall_ (selfBank r₀ g.G hρ X rfl fun tk => ?_))
    refine mB (X.gd g.G) cls388 X.inv.attrs (C.full.meths _ (by decide)) (argsS X (.cons (.loc rfl) .nil) ⟨(X.gd g.G).K, ?_⟩)
    refine op_spec C (X.gnd g.G) (hr'.less (by decide)) X.inv hx (by first | exact Nat.le_trans ‹_› ‹_› | exact Nat.le_trans ‹_› (Nat.le_trans ‹_› ‹_›) | omega) fun h' tk u e => ?_
    have X := X.grow e
    refine cStr fun u tk => eqOp .not (wpAny_truthy_bool ?_)
    by_cases c : x.op = .not
    · refine ifT c ?_
      replace hp := bmT c hp
      obtain ⟨c', B₁', hc', hp⟩ := bind_some hp
      cases hp
      refine sTupS ["c", "a", "b"] (Tuple_ (args_cons ?_))
      refine negCall C r₀ hρ g.G (hr'.less (by decide)) X rfl rfl hc' (by first | exact Nat.le_trans ‹_› ‹_› | exact Nat.le_trans ‹_› (Nat.le_trans ‹_› ‹_›) | omega) fun h' tk u X => ?_
      refine argsS X (.cons (.loc rfl) (.cons (.loc rfl) .nil)) (newTup X fun h' a₂ X => ?_)
      refine swap3 hr'.hh X (X.obj _ (.head _)) fun h' tk X => ?_
      exact sNil (hP _ ⟨_, _, _, _, _, _, _, rfl, X, rfl, rfl, rfl, rfl⟩)
    · refine ifF c ?_
      replace hp := bmF c hp
      cases hp
      exact sNil (hP _ ⟨_, _, _, _, _, _, _, rfl, X, rfl, rfl, rfl, rfl⟩)
  clear X
  rintro s ⟨h', t', m, objs, uc, ua, ub, rfl, X, m1, m2, m3, m4⟩
  -- a
  refine sIfM (fun s => E5 fun h' t' m objs ua => A6 (s = St z h' t') (W prog w h₀ h (bankWd prog w β B₄) L h' m objs) (m "self" = some (.ref ρ.inst)) (m "c" = some (.int (c₂ : Int) uc)) (m "a" = some (.int (a₁ : Int) ua)) (m "b" = some (.int (b₂ : Int) ub))) ?_ ?_
  · intro P' hP
    unfold stripM at ha
    obtain ⟨y, hy, ha⟩ := rd_bind ha
    refine andT (wpAny_isTrue_Compare1 (MethodCall_ (selfBank r₀ g.G hρ X m1 fun tk => ?_)))
    refine mB (X.gd g.G) cls388 X.inv.attrs (C.full.meths _ (by decide)) (argsS X (.cons (.loc m3) .nil) ⟨(X.gd g.G).K, ?_⟩)
    refine op_spec C (X.gnd g.G) (hr'.less (by decide)) X.inv hy (by first | exact Nat.le_trans ‹_› ‹_› | exact Nat.le_trans ‹_› (Nat.le_trans ‹_› ‹_›) | omega) fun h' tk u e => ?_
    have X := X.grow e
    refine cStr fun u tk => eqOp .ite (wpAny_truthy_bool ?_)
    by_cases c : y.op = .ite
    · refine ifT c ?_
      replace ha := bmT c ha
      refine wpAny_isTrue_Compare1 (Subscript_ (MethodCall_ (selfBank r₀ g.G hρ X m1 fun tk => ?_)))
      refine mB (X.gd g.G) cls388 X.inv.attrs (C.full.meths _ (by decide)) (argsS X (.cons (.loc m3) .nil) ⟨(X.gd g.G).K, ?_⟩)
      refine args_spec C (X.gnd g.G) (hr'.less (by decide)) X.inv hy (by first | exact Nat.le_trans ‹_› ‹_› | exact Nat.le_trans ‹_› (Nat.le_trans ‹_› ‹_›) | omega) fun h' tk a' hk e => ?_
      obtain ⟨us, hus, hul⟩ := key_isTup hk
      have hus := tupAt' hus fun o q => e _ o q
      have X := X.grow e
      cases h0 : y.args[0]? with
      | none => rw [h0] at ha; cases ha
      | some c' =>
        rw [h0] at ha
        simp only at ha
        obtain ⟨u', hv⟩ := hul.getF h0
        refine cInt fun u tk => itT hus hv rfl (by decide) (nmL X m2 (eqN (wpAny_truthy_bool ?_)))
        by_cases cc : c' = c₂
        · refine ifT cc ?_
          replace ha := bmT cc ha
          cases h1 : y.args[1]? with
          | none => rw [h1] at ha; cases ha
          | some r₁ =>
            rw [h1] at ha
            cases ha
            refine sAsg (Subscript_ (MethodCall_ (selfBank r₀ g.G hρ X m1 fun tk => ?_)))
            refine mB (X.gd g.G) cls388 X.inv.attrs (C.full.meths _ (by decide)) (argsS X (.cons (.loc m3) .nil) ⟨(X.gd g.G).K, ?_⟩)
            refine args_spec C (X.gnd g.G) (hr'.less (by decide)) X.inv hy (by first | exact Nat.le_trans ‹_› ‹_› | exact Nat.le_trans ‹_› (Nat.le_trans ‹_› ‹_›) | omega) fun h' tk a' hk e => ?_
            obtain ⟨us, hus, hul⟩ := key_isTup hk
            have hus := tupAt' hus fun o q => e _ o q
            have X := X.grow e
            obtain ⟨u', hv⟩ := hul.getF h1
            refine cInt fun u tk => itT hus hv rfl (by decide) (stL X fun h' tk X => ?_)
            exact sNil (hP _ ⟨_, _, _, _, _, rfl, X, m1, m2, rfl, m4⟩)
        · refine ifF cc ?_
          replace ha := bmF cc ha
          cases ha
          exact sNil (hP _ ⟨_, _, _, _, _, rfl, X, m1, m2, m3, m4⟩)
    · rw [decide_eq_false c, if_neg Bool.false_ne_true, if_neg Bool.false_ne_true]
      replace ha := bmF c ha
      cases ha
      exact sNil (hP _ ⟨_, _, _, _, _, rfl, X, m1, m2, m3, m4⟩)
  clear X m1 m2 m3 m4 objs m
  rintro s ⟨h', t', m, objs, ua, rfl, X, m1, m2, m3, m4⟩
  -- b
  refine sIfM (fun s => E5 fun h' t' m objs ub => A6 (s = St z h' t') (W prog w h₀ h (bankWd prog w β B₄) L h' m objs) (m "self" = some (.ref ρ.inst)) (m "c" = some (.int (c₂ : Int) uc)) (m "a" = some (.int (a₁ : Int) ua)) (m "b" = some (.int (b₁ : Int) ub))) ?_ ?_
  · intro P' hP
    unfold stripM at hb
    obtain ⟨y, hy, hb⟩ := rd_bind hb
    refine andT (wpAny_isTrue_Compare1 (MethodCall_ (selfBank r₀ g.G hρ X m1 fun tk => ?_)))
    refine mB (X.gd g.G) cls388 X.inv.attrs (C.full.meths _ (by decide)) (argsS X (.cons (.loc m4) .nil) ⟨(X.gd g.G).K, ?_⟩)
    refine op_spec C (X.gnd g.G) (hr'.less (by decide)) X.inv hy (by first | exact Nat.le_trans ‹_› ‹_› | exact Nat.le_trans ‹_› (Nat.le_trans ‹_› ‹_›) | omega) fun h' tk u e => ?_
    have X := X.grow e
    refine cStr fun u tk => eqOp .ite (wpAny_truthy_bool ?_)
    by_cases c : y.op = .ite
    · refine ifT c ?_
      replace hb := bmT c hb
      refine wpAny_isTrue_Compare1 (Subscript_ (MethodCall_ (selfBank r₀ g.G hρ X m1 fun tk => ?_)))
      refine mB (X.gd g.G) cls388 X.inv.attrs (C.full.meths _ (by decide)) (argsS X (.cons (.loc m4) .nil) ⟨(X.gd g.G).K, ?_⟩)
      refine args_spec C (X.gnd g.G) (hr'.less (by decide)) X.inv hy (by first | exact Nat.le_trans ‹_› ‹_› | exact Nat.le_trans ‹_› (Nat.le_trans ‹_› ‹_›) | omega) fun h' tk a' hk e => ?_
      obtain ⟨us, hus, hul⟩ := key_isTup hk
      have hus := tupAt' hus fun o q => e _ o q
      have X := X.grow e
      cases h0 : y.args[0]? with
      | none => rw [h0] at hb; cases hb
      | some c' =>
        rw [h0] at hb
        simp only at hb
        obtain ⟨u', hv⟩ := hul.getF h0
        refine cInt fun u tk => itT hus hv rfl (by decide) (nmL X m2 (eqN (wpAny_truthy_bool ?_)))
        by_cases cc : c' = c₂
        · refine ifT cc ?_
          replace hb := bmT cc hb
          cases h1 : y.args[2]? with
          | none => rw [h1] at hb; cases hb
          | some r₁ =>
            rw [h1] at hb
            cases hb
            refine sAsg (Subscript_ (MethodCall_ (selfBank r₀ g.G hρ X m1 fun tk => ?_)))
            refine mB (X.gd g.G) cls388 X.inv.attrs (C.full.meths _ (by decide)) (argsS X (.cons (.loc m4) .nil) ⟨(X.gd g.G).K, ?_⟩)
            refine args_spec C (X.gnd g.G) (hr'.less (by decide)) X.inv hy (by first | exact Nat.le_trans ‹_› ‹_› | exact Nat.le_trans ‹_› (Nat.le_trans ‹_› ‹_›) | omega) fun h' tk a' hk e => ?_
            obtain ⟨us, hus, hul⟩ := key_isTup hk
            have hus := tupAt' hus fun o q => e _ o q
            have X := X.grow e
            obtain ⟨u', hv⟩ := hul.getF h1
            refine cInt fun u tk => itT hus hv rfl (by decide) (stL X fun h' tk X => ?_)
            exact sNil (hP _ ⟨_, _, _, _, _, rfl, X, m1, m2, m3, rfl⟩)
        · refine ifF cc ?_
          replace hb := bmF cc hb
          cases hb
          exact sNil (hP _ ⟨_, _, _, _, _, rfl, X, m1, m2, m3, m4⟩)
    · rw [decide_eq_false c, if_neg Bool.false_ne_true, if_neg Bool.false_ne_true]
      replace hb := bmF c hb
      cases hb
      exact sNil (hP _ ⟨_, _, _, _, _, rfl, X, m1, m2, m3, m4⟩)
  clear X m1 m2 m3 m4 objs m
  rintro s ⟨h', t', m, objs, ub, rfl, X, m1, m2, m3, m4⟩
  refine sIfP (fun b s => E2 fun h' tk => A3 (s = St z h' tk) (W prog w h₀ h (bankWd prog w β B₄) L h' m objs) (b = decide (c₂ = 1 ∨ a₁ = b₁))) (fun P' hP => orT (wpAny_isTrue_Compare1 (nmL X m2 (selfYes r₀ g.G hρ X m1 fun u tk => eqN (b := 1) (wpAny_truthy_bool ?_))))) ?_
  · by_cases c1 : c₂ = 1
    · refine ifT c1 ?_
      exact hP _ _ ⟨_, _, rfl, X, by simp [c1]⟩
    · refine ifF c1 ?_
      exact wpAny_isTrue_Compare1 (nmL X m3 (nmL X m4 (eqN (wpAny_truthy_bool (hP _ _ ⟨_, _, rfl, X, by simp [c1]⟩)))))
  clear X
  rintro b s ⟨h', tk, rfl, X, rfl⟩
  by_cases c1 : c₂ = 1 ∨ a₁ = b₁
  · replace hm := bmT c1 hm
    refine ifT c1 ?_
    exact sRet (nmL X m3 (retW hR hm X))
  replace hm := bmF c1 hm
  refine ifF c1 ?_
  refine sNx (sIf (wpAny_isTrue_Compare1 (nmL X m2 (selfNo r₀ g.G hρ X m1 fun u tk => eqN (b := 2) (wpAny_truthy_bool ?_)))))
  by_cases c2 : c₂ = 2
  · replace hm := bmT c2 hm
    refine ifT c2 ?_
    exact sRet (nmL X m4 (retW hR hm X))
  replace hm := bmF c2 hm
  refine ifF c2 ?_
  obtain ⟨y, hy, hm⟩ := rd_bind hm
  obtain ⟨uB, huB⟩ := hBOOL (w := w)
  refine sNx (sRet (wpAny_IfExp (wpAny_isTrue_Compare1 (MethodCall_ (selfBank r₀ g.G hρ X m1 fun tk => ?_)))))
  refine mB (X.gd g.G) cls388 X.inv.attrs (C.full.meths _ (by decide)) (argsS X (.cons (.loc m3) .nil) ⟨(X.gd g.G).K, ?_⟩)
  refine sort_spec C (X.gnd g.G) (hr'.less (by decide)) X.inv hy (by first | exact Nat.le_trans ‹_› ‹_› | exact Nat.le_trans ‹_› (Nat.le_trans ‹_› ‹_›) | omega) fun h' tk u e => ?_
  have X := X.grow e
  refine nmG (X.gd g.G) huB (eqN (b := 0) (wpAny_truthy_bool ?_))
  by_cases c3 : y.sort = 0
  · replace hm := bmT c3 hm
    refine ifT c3 ?_
    refine MethodCall_ (nmL X m1 (mB (X.gd g.G) cls513 (hρ.to r₀ X rfl) (r₀.meths _ (by decide)) (argsS X (.cons (.loc m2) (.cons (.loc m3) (.cons (.loc m4) .nil))) ⟨(X.gd g.G).K, ?_⟩)))
    refine chosen_bool_spec C r₀ (hρ.to r₀ X rfl) (X.gnd g.G) hr' X.inv hm hsz fun h' tk u hB k e => ?_
    have X := X.call (D' := bankWd prog w β B') rfl k e hB
    exact hR _ _ _ X.inv X.keep X.ext
  · replace hm := bmF c3 hm
    refine ifF c3 ?_
    refine MethodCall_ (selfBank r₀ g.G hρ X m1 fun tk => ?_)
    refine mB (X.gd g.G) cls388 X.inv.attrs (C.full.meths _ (by decide)) (argsS X (.cons (.loc m2) (.cons (.loc m3) (.cons (.loc m4) .nil))) ⟨(X.gd g.G).K, ?_⟩)
    refine ite_spec C (X.gnd g.G) (hr'.less (by decide)) X.inv hm (by first | exact Nat.le_trans ‹_› ‹_› | exact Nat.le_trans ‹_› (Nat.le_trans ‹_› ‹_›) | omega) fun h' tk u hB k e => ?_
    have X := X.call (D' := bankWd prog w β B') rfl k e hB
    exact hR _ _ _ X.inv X.keep X.ext
end
end Mine

-- Eqq
namespace Mine

noncomputable def sVALS (w : World) : Prop := ∃ a t1 t2 t3 t4 n, nsIn (Mine.hd0.heap_1 w.params) mainGlobals "VALUE_OPS" = some (some (.ref a)) ∧ (Mine.hd0.heap_1 w.params).lookup a = some ⟨.type "tuple", none, .seq #[.str "true" t1, .str "false" t2, .str "num" t3, .str "bvnum" t4] n, #[]⟩
theorem hVALS : sVALS w := ⟨_, _, _, _, _, _, by k_is, by k_is⟩

theorem gr_equalM (a b : Nat) : Gr (equalM a b) := Gr.ite (Gr.ret _) (Gr.bind (Gr.rd _) fun _ => Gr.bind (Gr.rd _) fun _ => Gr.ite (gr_eqM _ _) Gr.fail)

section
variable {prog : Program} {w : World} {β : Adr} {ρ : Rho} {B : List Tm} {A : Around} {E : Value → Shared → Prop} {z : Shared} {h₀ s₀ h : Heap} {t : Nat} {R : Result → Shared → Prop} {n i : Nat} {u : Tok} {x : Tm} {D D' : Wd} {L a d it : Addr} {m : Str → Option Value} {objs : List (Addr × Cell)} {env : Env} {vs : List Value} {kd : String}

theorem is_value_app (C : Cf w h₀ β) (g : Gnd w h₀ h) (hr : Room A 1) (hB : BankAt prog w β B h) (hx : B[i]? = some x) (ha : x.op = .app) (hsz : B.length ≤ 2 ^ 23)
    (hR : ∀ h' tk, Ext h h' → R (.ok (.ret (.bool false))) (St z h' tk)) :
    codeAny (model prog w) A (.call (.ref 231) ⟨[.ref β.inst, .int i u], []⟩) R (St z h t) := by
  refine enterF 231 [("self", .ref β.inst), ("t", .int i u)] g hr fun h₁ L A' tk en hns hr' => ?_
  have X := W.enter (prog := prog) (bankWd prog w β B) g hB en hns
  obtain ⟨av, t1, t2, t3, t4, nn, hv1, hv2⟩ := hVALS (w := w)
  refine sRet (wpAny_Compare1 (Subscript_ (Attribute_any_ (nmL X rfl (getA (X.gd g.G) cls388 X.inv.attrs C.core.ops (by k_is) rfl fun tk => nmL X rfl ?_)))))
  obtain ⟨vs, hl, hO⟩ := X.inv.ops
  obtain ⟨u', hv⟩ := hO.getF hx
  refine itL hl hv (by rw [hO.len]; omega) (nmG (X.gd g.G) hv1 ?_)
  refine in_tuple_strs (s := St z _ _) (ys := ["true", "false", "num", "bvnum"]) ⟨_, (X.gd g.G).K _ _ hv2, rfl, nn, rfl⟩ (.cons _ _ (.cons _ _ (.cons _ _ (.cons _ _ .nil)))) ?_
  rw [ha]
  exact hR _ _ en.ext

/-- a call of a def with defaults -/
theorem enterFD {n : Nat} {args : List Value} {R : Result → Shared → Prop} {name qual : Str} {params : Arguments} {body : List Stmt} {scope : Scope} {dV kV doc pm cdv ct oc oc' : Value} {an od od' : Option Addr} {osl osl' : Array (Option Value)} {items : Array Value} {nn : Nat} {k : Option (Array Value) → Sem (List (Str × Value))} (f T : Addr) (binds : List (Str × Value))
    (g : Gnd w h₀ h) (hr : Room A (n + 1))
    (q : ∀ h₁ L A' tk, Entered h h₁ L → h₁.Ns L (lk binds) → Room A' n →
      wpAny (model prog w) A' (execs body (envOf qual scope L f cdv))
        (fun fl s' => R (.ok (.ret (retOf fl))) s') (fun _ _ => False) (St z h₁ tk))
    (ho : autoParam ((Mine.hd0.heap_1 w.params).lookup f = some ⟨oc, od, .func (fnOf name qual params body scope dV kV doc pm an cdv ct), osl⟩) aK) (hcd : autoParam (codeIn (Mine.hd0.heap_1 w.params) cdv qual = true) aK)
    (hT : autoParam ((Mine.hd0.heap_1 w.params).lookup T = some ⟨oc', od', .seq items nn, osl'⟩) aK) (hdv : autoParam (dV = .ref T) aR)
    (h1 : autoParam (bindArgs (fnOf name qual params body scope dV kV doc pm an cdv ct) ⟨args, []⟩ = seqItems? dV >>= k) aR) (h2 : autoParam (k (some items) = pure binds) aR)
    (hloc : autoParam ((binds.all fun x => decide (scope.names.lookup x.1 = some .local)) = true) aR)
    (hco : autoParam (scope.isCoroutine = false) aR) (hgen : autoParam (scope.isGenerator = false) aR) (hk : autoParam (scope.kind = .function) aR)
    (hcell : autoParam (∀ x ∈ scope.names, x.2 ≠ .cell) aD) : codeAny (model prog w) A (.call (.ref f) ⟨args, []⟩) R (St z h t) := by
  refine codeAny_call_def (s := St z h t) (fd := fnOf name qual params body scope dV kV doc pm an cdv ct) (body := body) (binds := binds) (by have := hr.depth; omega) (g.at.K _ _ ho) rfl g.at.lim (codeRec_of g.at.K hcd) rfl
    (BindsTo.of_defaults (T := T) hdv (g.at.K _ _ hT) rfl h1 h2) hcell (locs hloc) (fun h₁ hns hk₁ => ?_) hco hgen hk
  exact wpAny_mono (q h₁ _ _ _ ⟨hk₁, get_size _⟩ hns hr.deep) (fun fl _ z => by cases fl <;> exact z) fun _ _ z => z.elim

theorem equal_others_spec {a₀ b₀ r : Nat} {u₁ u₂ : Tok} {B' : List Tm} {dv : Value} (C : Cf w h₀ β) (r₀ : RwOk β ρ) (hρ : RAt ρ h) (g : Gnd w h₀ h) (hr : Room A 4) (hB : BankAt prog w β B h) (hm : eqM a₀ b₀ B = some (r, B')) (hsz : B.length ≤ 2 ^ 23)
    (hR : ∀ h' tk u, BankAt prog w β B' h' → Keep β.own h h' → Ext h₀ h' → R (.ok (.ret (.int r u))) (St z h' tk)) :
    codeAny (model prog w) A (.call (.ref 488) ⟨[.ref ρ.inst, .int a₀ u₁, .int b₀ u₂, dv], []⟩) R (St z h t) := by
  refine enterFD 488 481 [("self", .ref ρ.inst), ("a", .int a₀ u₁), ("b", .int b₀ u₂), ("deep", dv)] g hr fun h₁ L A' tk en hns hr' => ?_
  have X := W.enter (prog := prog) (bankWd prog w β B) g hB en hns
  refine sRet (MethodCall_ (selfBank r₀ g.G hρ X rfl fun tk => ?_))
  refine mB (X.gd g.G) cls388 X.inv.attrs (C.full.meths _ (by decide)) (argsS X (.cons (.loc rfl) (.cons (.loc rfl) .nil)) ⟨(X.gd g.G).K, ?_⟩)
  refine eq_spec C (X.gnd g.G) hr' X.inv hm hsz fun h' tk u hB k e => ?_
  have X := X.call (D' := bankWd prog w β B') rfl k e hB
  exact hR _ _ _ X.inv X.keep X.ext

theorem letSq {k : Nat} {elts : List Expr} {x1 : _} {pos : Pos} {v : Value} {Q : Unit → Shared → Prop} (X : W prog w h₀ s₀ D L h m ((it, .sat (itS kd a k)) :: objs)) (hs : SqK kd h a vs) (q : Q () (St z h t)) :
    wpAny (model prog w) A (letOwnedTupleGo (.Tuple elts x1 pos) (.ref it) v) Q E (St z h t) := by
  obtain ⟨o, ho, hc, hd⟩ := X.obj _ (.head _)
  have hnot : (["enumerate", "zip", "dict_itemiterator", "dict_reverseitemiterator", "odict_iterator", "itertools.zip_longest", "itertools.pairwise"].contains kd) = false := by
    rcases hs with ⟨rfl, _⟩ | ⟨rfl, _⟩ <;> decide
  unfold letOwnedTupleGo
  cases v with
  | ref b =>
    refine wpAny_bind (wpAny_load ho ?_)
    rw [hc, hd]
    show wpAny _ A (if (["enumerate", "zip", "dict_itemiterator", "dict_reverseitemiterator", "odict_iterator", "itertools.zip_longest", "itertools.pairwise"].contains kd &&
        (#[.ref a, .int k 0] : Array Value)[0]? == some (rawInt b)) = true then _ else _) Q E _
    rw [if_neg (by rw [hnot, Bool.false_and]; exact Bool.false_ne_true)]
    exact wpAny_pure q
  | _ => exact wpAny_pure q

/-- a for over a list or tuple, its target a tuple -/
theorem loopSqT {R : Result → Shared → Prop} {elts : List Expr} {x1 : _} {tpos : Pos} {body : List Stmt} (hh : A.handled = none) (J : Nat → Wd → (Str → Option Value) → List (Addr × Cell) → Prop)
    (X : W prog w h₀ s₀ D env.locals h m ((it, .sat (itS kd a 0)) :: objs)) (hj : J 0 D m objs)
    (seq : ∀ k j D m m' objs h, W prog w h₀ s₀ D env.locals h m' ((it, .sat (itS kd a j)) :: objs) → J k D m objs → SqK kd h a vs)
    (turn : ∀ k v D m objs h t, vs[k]? = some v → J k D m objs → W prog w h₀ s₀ D env.locals h m ((it, .sat (itS kd a (k + 1))) :: objs) → SqK kd h a vs →
      wpAny (model prog w) A (assign (.Tuple elts x1 tpos) env v) (fun _ s => wpAny (model prog w) A (execs body env) (TurnEnd prog w h₀ s₀ env.locals z (it, .sat (itS kd a (k + 1))) (J (k + 1)) R) NE s) NE (St z h t))
    (done : ∀ D m objs h t, J vs.length D m objs → W prog w h₀ s₀ D env.locals h m objs → SqK kd h a vs → R (.ok .next) (St z h t)) :
    codeAny (model prog w) A (.forLoop (.Tuple elts x1 tpos) (.ref it) body [] env) R (St z h t) := by
  refine codeAny_forLoop_any (fun n s => E6 fun k h t D m objs => A5 (s = St z h t) (W prog w h₀ s₀ D env.locals h m ((it, .sat (itS kd a k)) :: objs)) (J k D m objs) (k ≤ vs.length) (n = vs.length - k)) ?_ vs.length
    ⟨0, h, t, D, m, objs, rfl, X, hj, Nat.zero_le _, rfl⟩
  rintro n s ⟨k, h, t, D, m, objs, rfl, X, hj, hle, rfl⟩
  have hs := seq k k D m m objs h X hj
  cases hv : vs[k]? with
  | none =>
    have hkl : k = vs.length := Nat.le_antisymm hle (by simpa using hv)
    subst hkl
    refine endSq hh X hs hv fun h' X hs => wpAny_execs_nil (done D m objs h' t hj X hs)
  | some v =>
    have hlt : k < vs.length := (List.getElem?_eq_some_iff.mp hv).1
    refine nextSq X hs hv fun h' X hs => letSq X hs (wpAny_mono (turn k v D m objs h' t hv hj X hs) (fun _ s q => wpAny_mono q (fun f s' q => ?_) fun _ _ e => e.elim) fun _ _ e => e.elim)
    cases f with
    | next => obtain ⟨h, t, D, m, objs, rfl, X, hj⟩ := q; exact ⟨vs.length - (k + 1), Nat.sub_lt_sub_left hlt (Nat.lt_succ_self k), k + 1, h, t, D, m, objs, rfl, X, hj, hlt, rfl⟩
    | cont => obtain ⟨h, t, D, m, objs, rfl, X, hj⟩ := q; exact ⟨vs.length - (k + 1), Nat.sub_lt_sub_left hlt (Nat.lt_succ_self k), k + 1, h, t, D, m, objs, rfl, X, hj, hlt, rfl⟩
    | brk => exact q
    | ret v => exact q

theorem equal_spec {a₀ b₀ r : Nat} {u₁ u₂ : Tok} {B' : List Tm} (C : Cf w h₀ β) (r₀ : RwOk β ρ) (hρ : RAt ρ h) (g : Gnd w h₀ h) (hr : Room A 5) (hB : BankAt prog w β B h) (hm : equalM a₀ b₀ B = some (r, B')) (hsz : B.length ≤ 2 ^ 23)
    (hR : ∀ h' tk u, BankAt prog w β B' h' → Keep β.own h h' → Ext h₀ h' → R (.ok (.ret (.int r u))) (St z h' tk)) :
    codeAny (model prog w) A (.call (.ref 480) ⟨[.ref ρ.inst, .int a₀ u₁, .int b₀ u₂], []⟩) R (St z h t) := by
  refine enterFD 480 473 [("self", .ref ρ.inst), ("a", .int a₀ u₁), ("b", .int b₀ u₂), ("deep", _)] g hr fun h₁ L A' tk en hns hr' => ?_
  have X := W.enter (prog := prog) (bankWd prog w β B) g hB en hns
  unfold equalM at hm
  refine sIf (wpAny_isTrue_Compare1 (nmL X rfl (nmL X rfl (eqN (wpAny_truthy_bool ?_)))))
  by_cases c1 : a₀ = b₀
  · replace hm := bmT c1 hm
    refine ifT c1 ?_
    exact sRet (selfYes r₀ g.G hρ X rfl fun u tk => retW hR hm X)
  replace hm := bmF c1 hm
  refine ifF c1 ?_
  obtain ⟨x, hx, k1⟩ := rd_bind hm
  obtain ⟨y, hy, k2⟩ := rd_bind k1
  by_cases c2 : x.op = .app ∧ y.op = .app ∧ x.sort ≠ 0
  rotate_left
  · rw [if_neg c2] at k2; cases k2
  rw [if_pos c2] at k2
  obtain ⟨hxo, hyo, hxs⟩ := c2
  obtain ⟨uB, huB⟩ := hBOOL (w := w)
  refine sNx (sIf (wpAny_isTrue_Compare1 (MethodCall_ (selfBank r₀ g.G hρ X rfl fun tk => ?_))))
  refine mB (X.gd g.G) cls388 X.inv.attrs (C.full.meths _ (by decide)) (argsS X (.cons (.loc rfl) .nil) ⟨(X.gd g.G).K, ?_⟩)
  refine sort_spec C (X.gnd g.G) (hr'.less (by decide)) X.inv hx hsz fun h' tk u e => ?_
  have X := X.grow e
  refine nmG (X.gd g.G) huB (eqN (b := 0) (wpAny_truthy_bool ?_))
  refine ifF hxs ?_
  refine sNx (sIf (andT (wpAny_isTrue_value (MethodCall_ (selfBank r₀ g.G hρ X rfl fun tk => ?_)))))
  refine mB (X.gd g.G) cls388 X.inv.attrs (C.full.meths _ (by decide)) (argsS X (.cons (.loc rfl) .nil) ⟨(X.gd g.G).K, ?_⟩)
  refine is_value_app C (X.gnd g.G) (hr'.less (by decide)) X.inv hx hxo hsz fun h' tk e => wpAny_truthy_bool ?_
  have X := X.grow e
  refine if0 ?_
  refine sNx ?_
  refine sFor (Tuple_ (args_cons (Tuple_ (argsS X (.cons (.loc rfl) (.cons (.loc rfl) .nil)) (newTup X fun h' T1 X => ?_)))))
  refine args_cons (Tuple_ (argsS X (.cons (.loc rfl) (.cons (.loc rfl) .nil)) (newTup X fun h' T2 X => args_nil (newTup X fun h' T X => ?_))))
  refine iterSq X (kd := "tuple_iterator") (.inr ⟨rfl, X.obj _ (.head _)⟩) fun h' it X hs => ?_
  have hm := k2
  refine loopSqT (vs := [.ref T1, .ref T2]) hr'.hh (fun j D m objs => A6 (D = bankWd prog w β B) (objs = [(T, .tup [.ref T1, .ref T2]), (T2, .tup [.int b₀ u₂, .int a₀ u₁]), (T1, .tup [.int a₀ u₁, .int b₀ u₂])]) (m "self" = some (.ref ρ.inst)) (m "a" = some (.int a₀ u₁)) (m "b" = some (.int b₀ u₂)) (∃ dv, m "deep" = some dv)) X ⟨rfl, rfl, rfl, rfl, rfl, _, rfl⟩ ?_ ?_ ?_
  · rintro k j D m m' objs h Y ⟨rfl, rfl, _⟩
    exact .inr ⟨rfl, Y.obj _ (.tail _ (.head _))⟩
  · clear X hs
    rintro k v D m objs h' t hv ⟨rfl, rfl, m1, m2, m3, dv, m4⟩ X hs
    have pick := gt2 (p := fun _ v => ∃ (p q : Nat) (up uq : Tok) (xp : Tm) (Ta : Addr), v = .ref Ta ∧ (Ta, Cell.tup [.int (p : Int) up, .int (q : Int) uq]) ∈ [(T, Cell.tup [.ref T1, .ref T2]), (T2, .tup [.int b₀ u₂, .int a₀ u₁]), (T1, .tup [.int a₀ u₁, .int b₀ u₂])] ∧ B[p]? = some xp ∧ xp.op = .app) ⟨a₀, b₀, u₁, u₂, x, T1, rfl, mm, hx, hxo⟩ ⟨b₀, a₀, u₂, u₁, y, T2, rfl, mm, hy, hyo⟩ hv
    obtain ⟨p, q, up, uq, xp, Ta, rfl, hmem, hxp, hxpo⟩ := pick
    rw [assign_Tuple]
    refine wpAny_bind (wpAny_standAt ?_)
    refine unp hr'.hh X (X.obj _ (.tail _ hmem)) fun h' X e => aioCons (assign_Name (stL X fun h' tk X => aioCons (assign_Name (stL X fun h' tk X => aioNil (opq fun TT hT => ?_)))))
    refine sIf (andT (wpAny_isTrue_value (MethodCall_ (selfBank r₀ g.G hρ X m1 fun tk => ?_))))
    refine mB (X.gd g.G) cls388 X.inv.attrs (C.full.meths _ (by decide)) (argsS X (.cons (.loc rfl) .nil) ⟨(X.gd g.G).K, ?_⟩)
    refine is_value_app C (X.gnd g.G) (hr'.less (by decide)) X.inv hxp hxpo hsz fun h' tk e => wpAny_truthy_bool ?_
    have X := X.grow e
    refine if0 ?_
    refine sNil ?_
    refine sNil (hT _ _ ⟨_, _, _, _, _, rfl, X, rfl, rfl, m1, m2, m3, dv, m4⟩)
  · clear X hs
    rintro D m objs h' t ⟨rfl, rfl, m1, m2, m3, dv, m4⟩ X hs
    refine sRet (MethodCall_ (nmL X m1 (mB (X.gd g.G) cls513 (hρ.to r₀ X rfl) (r₀.meths _ (by decide)) (argsS X (.cons (.loc m2) (.cons (.loc m3) (.cons (.loc m4) .nil))) ⟨(X.gd g.G).K, ?_⟩))))
    refine equal_others_spec C r₀ (hρ.to r₀ X rfl) (X.gnd g.G) hr' X.inv hm hsz fun h' tk u hB k e => ?_
    have X := X.call (D' := bankWd prog w β B') rfl k e hB
    exact hR _ _ _ X.inv X.keep X.ext
end
end Mine

-- SetA
namespace Mine

set_option tactic.hygienic true in
theorem isStr_of {v : Value} {n m : Str} (h1 : v.isStr n = true) : v.isStr m = decide (m = n) := by
  obtain ⟨t, rfl⟩ : ∃ t, v = .str n t := by
    cases v <;> simp [Value.isStr] at h1
    rename_i a t
    exact ⟨t, by rw [h1]⟩
  by_cases c : m = n
  · subst c; simp [Value.isStr]
  · have c' : ¬ n = m := fun e => c e.symm
    simp [Value.isStr, c, c']

theorem putL_self {name : Str} {hsh : Int} {tk : Tok} {v : Value} : ∀ es : List DictEntry, ((putL name hsh (.str name tk) v es).find? (·.key.isStr name)).map (·.val) = some v
  | [] => by simp [putL, Value.isStr]
  | e :: r => by
    unfold putL
    cases c : e.key.isStr name with
    | true => simp [c]
    | false =>
      simp only [Bool.false_eq_true, if_false, List.find?_cons, c]
      exact putL_self r
theorem putL_other {name y : Str} {hsh : Int} {tk : Tok} {v : Value} (hy : y ≠ name) : ∀ es : List DictEntry, ((putL name hsh (.str name tk) v es).find? (·.key.isStr y)).map (·.val) = (es.find? (·.key.isStr y)).map (·.val)
  | [] => by
    have : ¬ name = y := fun e => hy e.symm
    simp [putL, Value.isStr, this]
  | e :: r => by
    unfold putL
    cases c : e.key.isStr name with
    | true =>
      have c2 : e.key.isStr y = false := by rw [isStr_of c]; exact decide_eq_false hy
      simp [c2]
    | false =>
      simp only [Bool.false_eq_true, if_false, List.find?_cons]
      cases c2 : e.key.isStr y with
      | true => rfl
      | false => exact putL_other hy r
theorem putL_ref {name : Str} {hsh : Int} {tk : Tok} {v : Value} : ∀ es : List DictEntry, (putL name hsh (.str name tk) v es).any (·.refKey) = es.any (·.refKey)
  | [] => by simp [putL, DictEntry.refKey]
  | e :: r => by
    unfold putL
    cases c : e.key.isStr name with
    | true => simp [DictEntry.refKey]
    | false => simp only [Bool.false_eq_true, if_false, List.any_cons, putL_ref r]
theorem getL_eq (y : Str) (es : List DictEntry) : getL y es = match (es.find? (·.key.isStr y)).map (·.val) with
    | some v => some (some v)
    | none => if es.any (·.refKey) then none else some none := by
  unfold getL
  cases es.find? (·.key.isStr y) <;> rfl
theorem getL_putL {name : Str} {hsh : Int} {tk : Tok} {v : Value} {es : List DictEntry} {f : Str → Option Value} (h : ∀ y, getL y es = some (f y)) : ∀ y, getL y (putL name hsh (.str name tk) v es) = some (put name v f y) := by
  intro y
  rw [getL_eq]
  unfold put
  by_cases c : y = name
  · subst c
    rw [putL_self, if_pos rfl]
  · rw [putL_other c, putL_ref, if_neg c, ← getL_eq]
    exact h y

section
variable {prog : Program} {w : World} {A : Around} {E : Value → Shared → Prop} {z : Shared} {h : Heap} {t : Nat}

theorem putL_len (name : Str) (hsh : Int) (key v : Value) : ∀ es, (putL name hsh key v es).length ≤ es.length + 1
  | [] => by simp [putL]
  | e :: r => by
    unfold putL
    split
    · simp
    · have := putL_len name hsh key v r
      simp; omega

set_option tactic.hygienic true in
theorem setA {x C dx : Addr} {f : Str → Option Value} {k : Nat} {name : Str} {v : Value} {Q : Unit → Shared → Prop} (G : Gd w h) (a : Attrs h x C dx f k) (hk : k ≤ 500)
    (q : ∀ h' tk, Heap.SameBut dx h h' → Attrs h' x C dx (put name v f) (k + 1) → Q () (St z h' tk))
    (hs : autoParam (findIn (Mine.hd0.heap_1 w.params) (.ref C) "__setattr__" = some (some (.builtin "object.__setattr__"))) aK) (hp : autoParam (plainOver (Mine.hd0.heap_1 w.params) C = true) aK)
    (ht : autoParam (takerIn (Mine.hd0.heap_1 w.params) C name = some none) aK) (hh : autoParam ((clsIn (Mine.hd0.heap_1 w.params) C).any (·.hasDict) = true) aK) : wpAny (model prog w) A (setAttr (.ref x) name v) Q E (St z h t) := by
  obtain ⟨hx, es, n, hdx, hlen, hg⟩ := id a
  have I : InstAt h x (instObj C dx) C (some (dictOf es n)) := ⟨hx, rfl, rfl, hdx⟩
  refine set_plain (s := St z h t) G.K I hs ?_
  refine osa_open (s := St z h (t + 1)) G.K I hp ht fun b => ?_
  obtain ⟨cd, hc, hd'⟩ := any_some hh
  have hne : x ≠ dx := by
    rintro rfl
    rw [hx] at hdx
    have := congrArg (fun o => o.map Obj.cls) hdx
    simp [instObj, dictOf] at this
  have D' := Heap.get?_update_self (Obj.putName name (PyData.keyHash w.params name) (.str name (t + 1)) v) hdx (by rw [putName_dict]; rfl)
  rw [putName_dict] at D'
  refine wpAny_bind (wpAny_pure (wpAny_bind (wpAny_bind (wpAny_loadPart hx (wpAny_bind ((looks_clsIn G.K hc).here ?_))))))
  rw [hd']
  refine wpAny_pure (a := some dx) (wpAny_bind (wpAny_pure (wpAny_bind ?_)))
  unfold nsSet
  refine wpAny_bind (wpAny_bind (wpAny_askSetting (wpAny_pure (wpAny_bind (wpAny_mkText (wpAny_bind (wpAny_loadPart hdx ?_)))))))
  have hl := hg name
  have c : (!es.any (·.key.isStr name) && es.any (·.refKey)) = false := by
    unfold getL at hl
    split at hl
    · rename_i en he
      rw [List.any_eq_true.mpr ⟨en, List.mem_of_find?_eq_some he, List.find?_some he⟩]; rfl
    · split at hl
      · cases hl
      · rename_i z; rw [Bool.not_eq_true] at z; rw [z, Bool.and_false]
  dsimp only [dictOf]
  rw [aRefKeyMayBeTheName_at]
  have c2 : (!es.toArray.any (·.key.isStr name) && es.toArray.any (·.refKey)) = false := by simpa using c
  rw [c2]
  refine wpAny_updatePart hdx ?_
  have hl2 := putL_len name (PyData.keyHash w.params name) (.str name (t + 1)) v es
  refine wpAny_bind (wpAny_lookBehind D' (by dsimp only [dictOf]; exact pastItsLine_dict (by rw [List.size_toArray, sizeLine_eq]; omega)) ?_)
  refine wpAny_pure (q _ _ (Heap.SameBut.update ..) ⟨?_, _, _, D', by omega, getL_putL hg⟩)
  exact (Heap.get?_update_other _ _ (Ne.symm hne)).trans hx
end
end Mine

-- Ini
namespace Mine

section
variable {prog : Program} {w : World} {A : Around} {E : Value → Shared → Prop} {z : Shared} {h₀ s₀ h : Heap} {t : Nat} {R : Result → Shared → Prop} {D D' : Wd} {L x dx C : Addr} {m : Str → Option Value} {objs : List (Addr × Cell)} {env : Env} {f : Str → Option Value} {k : Nat}

theorem Room.make {n : Nat} {rest : List Value} (hr : Room A (n + 1)) : Room (A.under (.builtin "type.__call__" ⟨.ref C :: rest, []⟩)) n :=
  ⟨hr.hh, by rw [depth_under_make]; have := hr.depth; omega, by rw [units_under_make]; have := hr.units; omega⟩

/-- C(..): the new object stands, its __init__ is called -/
theorem makeI {n : Nat} {fI : Addr} {rest : List Value} (G : Gd w h₀) (X : W prog w h₀ s₀ D L h m objs) (hr : Room A (n + 1))
    (q : ∀ h' x dx A', W prog w h₀ s₀ D L h' m ((x, .obj (instObj C dx)) :: (dx, .obj emptyDict) :: objs) → Room A' n → codeAny (model prog w) A' (.call (.ref fI) ⟨.ref x :: rest, []⟩) (InitBack x R) (St z h' t))
    (hm : autoParam (makesIn (Mine.hd0.heap_1 w.params) C = true) aK) (hi : autoParam (findIn (Mine.hd0.heap_1 w.params) (.ref C) "__init__" = some (some (.ref fI))) aK) (hf : autoParam (typeIn (Mine.hd0.heap_1 w.params) (.ref fI) = some (.type "function")) aK) :
    codeAny (model prog w) A (.call (.ref C) ⟨rest, []⟩) R (St z h t) := by
  have K := (X.gd G).K
  refine make_core (makes_of K hm) (looks_findIn K hi) (fun self => bind_fn K self hf) (.inl rfl) ?_
  have X1 := X.push emptyDict (c := .obj emptyDict) (Heap.get?_push_size _ rfl)
  have X2 := X1.push (instObj C h.objs.size) (c := .obj (instObj C h.objs.size)) (Heap.get?_push_size _ rfl)
  rw [Heap.size_push] at X2
  exact q _ _ _ _ X2 hr.make

/-- the world of an object under making -/
noncomputable def iniWd (x C dx : Addr) (f : Str → Option Value) (k : Nat) : Wd := ⟨[x, dx], fun h => Attrs h x C dx f k, fun _ _ a g => attrs_to a (fun o e => g _ o e (.inl (by simp))) (fun o e => g _ o e (.inl (by simp))), fun _ a b hb => by
  rcases List.mem_cons.mp hb with rfl | hb
  · rw [a.1]; exact fun q => nomatch q
  · rcases List.mem_cons.mp hb with rfl | hb
    · obtain ⟨es, n, e, _⟩ := a.2; rw [e]; exact fun q => nomatch q
    · exact nomatch hb⟩

theorem attrs_new (hx : h.get? x = some (instObj C dx)) (hd : h.get? dx = some emptyDict) : Attrs h x C dx (fun _ => none) 0 := ⟨hx, [], 0, hd, Nat.le_refl _, fun _ => rfl⟩

/-- self.name = v, in the object's own __init__ -/
theorem setI {name : Str} {v : Value} {Q : Unit → Shared → Prop} (c : ClsOk w C) (G : Gd w h₀) (hdx : h₀.get? dx = none) (X : W prog w h₀ s₀ (iniWd x C dx f k) L h m objs) (hk : k ≤ 500)
    (q : ∀ h' tk, W prog w h₀ s₀ (iniWd x C dx (put name v f) (k + 1)) L h' m objs → Q () (St z h' tk))
    (hs : autoParam (findIn (Mine.hd0.heap_1 w.params) (.ref C) "__setattr__" = some (some (.builtin "object.__setattr__"))) aK) (hp : autoParam (plainOver (Mine.hd0.heap_1 w.params) C = true) aK)
    (ht : autoParam (takerIn (Mine.hd0.heap_1 w.params) C name = some none) aK) : wpAny (model prog w) A (setAttr (.ref x) name v) Q E (St z h t) := by
  refine setA (X.gd G) X.inv hk (fun h' tk sb a => q h' tk (X.call (D' := iniWd x C dx (put name v f) (k + 1)) rfl ?_ ?_ a)) hs hp ht c.hd
  · intro b o hb e
    refine (sb.2 b ?_).trans e
    rintro rfl
    exact hb (by simp [iniWd])
  · intro b o e
    refine (sb.2 b ?_).trans (X.ext b o e)
    rintro rfl
    rw [hdx] at e; cases e

theorem sAsgAttr {o : Expr} {attr : Str} {p' pos : Pos} {value : Expr} {rest : List Stmt} {Q : Flow → Shared → Prop} {s : Shared}
    (q : wpAny (model prog w) A (eval value env) (fun v s₁ => wpAny (model prog w) A (eval o env) (fun ov s₂ => wpAny (model prog w) A (setAttr ov attr v) (fun _ => wpAny (model prog w) A (execs rest env) Q E) E s₂) E s₁) E s)
    (hs : autoParam (swapsWith value (some (.Attribute o attr p')) pos.line env = pure false) aR) :
    wpAny (model prog w) A (execs (.Assign [.Attribute o attr p'] value pos :: rest) env) Q E s := by
  exact wpAny_execs_cons (plainObj_wpAny_Assign_Attribute q hs)

theorem W.absorb (X : W prog w h₀ s₀ D L h m objs) (D' : Wd) (hI : D'.I h) (objs' : List (Addr × Cell)) (hsub : ∀ p ∈ objs', p ∈ objs) (hnd : (objs'.map (·.1)).Nodup) (hL : L ∉ D'.own) (hmem : ∀ a ∈ D.own, a ∈ D'.own) (hoff : ∀ p ∈ objs', p.1 ∉ D'.own) : W prog w h₀ s₀ D' L h m objs' := by
  refine ⟨X.ext, X.keep.more hmem, X.base, hI, X.ns, fun p hp => X.obj p (hsub p hp), List.nodup_cons.mpr ⟨fun q => ?_, hnd⟩, fun a ha => ?_⟩
  · obtain ⟨p, hp, e⟩ := List.mem_map.mp q
    exact (List.nodup_cons.mp X.nd).1 (e ▸ List.mem_map_of_mem (f := (·.1)) (hsub p hp))
  · rcases List.mem_cons.mp ha with rfl | ha
    · exact ⟨(X.fresh _ (.head _)).1, hL⟩
    · obtain ⟨p, hp, rfl⟩ := List.mem_map.mp ha
      exact ⟨(X.fresh _ (.tail _ (List.mem_map_of_mem (f := (·.1)) (hsub p hp)))).1, hoff p hp⟩

theorem newDo {pos : Pos} {Q : Value → Shared → Prop} (X : W prog w h₀ s₀ D L h m objs) (q : ∀ h' d, W prog w h₀ s₀ D L h' m ((d, .obj emptyDict) :: objs) → Q (.ref d) (St z h' t)) : wpAny (model prog w) A (eval (.Dict [] [] pos) env) Q E (St z h t) :=
  wpAny_Dict_empty (s := St z h t) (q _ _ (X.push _ (c := .obj emptyDict) (Heap.get?_push_size _ rfl)))

/-- an attribute of the bank stored -/
theorem setB {β : Adr} {B : List Tm} {name : Str} {v : Value} {Q : Unit → Shared → Prop} (G : Gd w h₀) (hnew : ∀ a ∈ β.own, h₀.get? a = none) (X : W prog w h₀ s₀ (bankWd prog w β B) L h m objs) (hk : β.k ≤ 500)
    (q : ∀ h' tk, W prog w h₀ s₀ (bankWd prog w { β with f := put name v β.f, k := β.k + 1 } B) L h' m objs → Q () (St z h' tk))
    (ht : autoParam (takerIn (Mine.hd0.heap_1 w.params) 388 name = some none) aK) : wpAny (model prog w) A (setAttr (.ref β.inst) name v) Q E (St z h t) := by
  have hB : BankAt prog w β B h := X.inv
  refine setA (X.gd G) hB.attrs hk (fun h' tk sb a => q h' tk (X.call (D' := bankWd prog w { β with f := put name v β.f, k := β.k + 1 } B) rfl ?_ ?_ ?_)) (ht := ht) (hh := hasd388)
  · intro b o hb e
    refine (sb.2 b ?_).trans e
    rintro rfl
    exact hb (by simp [bankWd, Adr.own])
  · intro b o e
    refine (sb.2 b ?_).trans (X.ext b o e)
    rintro rfl
    rw [hnew _ (by simp [Adr.own])] at e; cases e
  · have nd := hB.nd
    simp only [Adr.own, List.nodup_cons, List.mem_cons, List.not_mem_nil, or_false, not_or, not_false_eq_true, List.nodup_nil, and_true] at nd
    have ag : Agree [] h h' := agree_of sb fun o e q => by
      obtain ⟨es, n, e', _⟩ := hB.attrs.2
      rw [e] at e'; cases e'
      obtain ⟨_, items, n, q⟩ := q
      cases q
    have kp : ∀ b, b ≠ β.dict → ∀ o, h.get? b = some o → h'.get? b = some o := fun b hb o e => (sb.2 b hb).trans e
    obtain ⟨vo, ho, hO⟩ := hB.ops
    obtain ⟨va, ha, hA⟩ := hB.args
    obtain ⟨vs, hs, hS⟩ := hB.sorts
    obtain ⟨vd, hd', hDl⟩ := hB.datas
    obtain ⟨xs, hx, hX⟩ := hB.nums
    exact ⟨a, ⟨vo, ho.at (kp _ (by grind)), hO⟩, ⟨va, ha.at (kp _ (by grind)), isA_agree hA ag⟩, ⟨vs, hs.at (kp _ (by grind)), hS⟩, ⟨vd, hd'.at (kp _ (by grind)), hDl⟩, ⟨xs, dictOfH_agree hx (kp _ (by grind)) ag, hX⟩, hB.nd, hB.hd⟩

/-- what stands when a bank is made -/
structure Made (w : World) (h₀ h : Heap) (β : Adr) (x dx sn sw fn fa fr : Addr) : Prop where
  inst : β.inst = x
  dict : β.dict = dx
  k : β.k = 13
  cf : Cf w h₀ β
  fsn : β.f "sort_names" = some (.ref sn)
  fsw : β.f "sort_widths" = some (.ref sw)
  ffn : β.f "fun_names" = some (.ref fn)
  ffa : β.f "fun_args" = some (.ref fa)
  ffr : β.f "fun_results" = some (.ref fr)
  fresh : ∀ a ∈ [β.ops, β.args, β.sorts, β.datas, β.nums, sn, sw, fn, fa, fr], h.get? a = none
  nd : (β.own ++ [sn, sw, fn, fa, fr]).Nodup

theorem inst_ne {C x dx dd : Addr} {h : Heap} (hx : h.get? x = some (instObj C dd)) (hdx : h.get? dx = some emptyDict) : x ≠ dx := by
  rintro rfl
  rw [hx] at hdx
  have := congrArg (fun o => o.map Obj.cls) hdx
  simp [instObj, emptyDict] at this
theorem nodup_pick {l : List Addr} (h : l.Nodup) (is : List Nat) (hi : autoParam (is.Nodup) aD) (hb : autoParam ((is.all fun i => decide (i < l.length)) = true) aR) : (is.map fun i => l.getD i 0).Nodup := by
  induction is with
  | nil => exact List.nodup_nil
  | cons i is ih =>
    have hi2 := List.nodup_cons.mp hi
    simp only [List.all_cons, Bool.and_eq_true, decide_eq_true_eq] at hb
    refine List.nodup_cons.mpr ⟨fun q => ?_, ih hi2.2 hb.2⟩
    obtain ⟨j, hj, e⟩ := List.mem_map.mp q
    have hjl : j < l.length := by simpa using (List.all_eq_true.mp hb.2) j hj
    have e1 : l[j]? = l[i]? := by
      simp only [List.getD_eq_getElem?_getD, List.getElem?_eq_getElem hjl, List.getElem?_eq_getElem hb.1, Option.getD_some] at e ⊢
      rw [e]
    have := (List.getElem?_inj hjl h).mp e1
    exact hi2.1 (this ▸ hj)

theorem bank_init_spec (g : Gnd w h₀ h) (hr : Room A 4) (hx : h.get? x = some (instObj 388 dx)) (hdx : h.get? dx = some emptyDict) (hx0 : h₀.get? x = none) (hd0 : h₀.get? dx = none)
    (hR : ∀ h' tk β sn sw fn fa fr sns sws, Made w h₀ h β x dx sn sw fn fa fr → BankAt prog w β [dummy, ⟨.tru, [], 0, 0⟩, ⟨.fls, [], 0, 0⟩] h' → Keep [x, dx] h h' → Ext h₀ h' →
      h'.PlainList sn sns → h'.PlainList sw sws → sns.size = 3 → sws.size = 3 → h'.PlainList fn #[] → h'.PlainList fa #[] → h'.PlainList fr #[] → R (.ok (.ret .none)) (St z h' tk)) :
    codeAny (model prog w) A (.call (.ref 84) ⟨[.ref x], []⟩) R (St z h t) := by
  obtain ⟨ub, hub⟩ := hBOOL (w := w)
  refine enterF 84 [("self", .ref x)] g hr fun h₁ L A' tk en hns hr' => ?_
  have X := W.enter (prog := prog) (iniWd x 388 dx (fun _ => none) 0) g (attrs_new hx hdx) en hns
  refine sAsgAttr (List_ (args_cons (cStr fun u1 tk => args_cons (cStr fun u2 tk => args_cons (cStr fun u3 tk => args_nil (newLst X fun h' sn X => nmL X rfl (setI cls388 g.G hd0 X (by decide) fun h' tk X => ?_)))))))
  refine sAsgAttr (List_ (args_cons (cInt fun u4 tk => args_cons (cInt fun u5 tk => args_cons (cInt fun u6 tk => args_nil (newLst X fun h' sw X => nmL X rfl (setI cls388 g.G hd0 X (by decide) fun h' tk X => ?_)))))))
  refine sAsgAttr (List_ (args_nil (newLst X fun h' fn X => nmL X rfl (setI cls388 g.G hd0 X (by decide) fun h' tk X => ?_))))
  refine sAsgAttr (List_ (args_nil (newLst X fun h' fa X => nmL X rfl (setI cls388 g.G hd0 X (by decide) fun h' tk X => ?_))))
  refine sAsgAttr (List_ (args_nil (newLst X fun h' fr X => nmL X rfl (setI cls388 g.G hd0 X (by decide) fun h' tk X => ?_))))
  refine sAsgAttr (cInt fun u7 tk => nmL X rfl (setI cls388 g.G hd0 X (by decide) fun h' tk X => ?_))
  refine sAsgAttr (List_ (args_cons (cStr fun u8 tk => args_nil (newLst X fun h' ops X => nmL X rfl (setI cls388 g.G hd0 X (by decide) fun h' tk X => ?_)))))
  refine sAsgAttr (List_ (args_cons (Tuple_ (args_nil (newTup X fun h' T X => args_nil (newLst X fun h' args X => nmL X rfl (setI cls388 g.G hd0 X (by decide) fun h' tk X => ?_)))))))
  refine sAsgAttr (List_ (args_cons (nmG (X.gd g.G) hub (args_nil (newLst X fun h' sorts X => nmL X rfl (setI cls388 g.G hd0 X (by decide) fun h' tk X => ?_))))))
  refine sAsgAttr (List_ (args_cons (cInt fun u9 tk => args_nil (newLst X fun h' datas X => nmL X rfl (setI cls388 g.G hd0 X (by decide) fun h' tk X => ?_)))))
  refine sAsgAttr (newDo X fun h' nums X => nmL X rfl (setI cls388 g.G hd0 X (by decide) fun h' tk X => ?_))
  have hxd : x ≠ dx := inst_ne hx hdx
  let f₁ : Str → Option Value := put "numbers" (Value.ref nums) (put "term_datas" (Value.ref datas) (put "term_sorts" (Value.ref sorts) (put "term_args" (Value.ref args) (put "term_ops" (Value.ref ops) (put "fresh_count" (Value.int 0 u7) (put "fun_results" (Value.ref fr) (put "fun_args" (Value.ref fa) (put "fun_names" (Value.ref fn) (put "sort_widths" (Value.ref sw) (put "sort_names" (Value.ref sn) fun x => none))))))))))
  let β : Adr := ⟨x, dx, ops, args, sorts, datas, nums, f₁, 11⟩
  have fx : ∀ {a : Addr}, a ∈ L :: [nums, datas, sorts, args, T, ops, fr, fa, fn, sw, sn] → h.get? a = none ∧ a ∉ [x, dx] := fun ha => X.fresh _ ha
  have f3 : h.get? nums = none := (fx mm).1
  have f4 : h.get? datas = none := (fx mm).1
  have f5 : h.get? sorts = none := (fx mm).1
  have f6 : h.get? args = none := (fx mm).1
  have f8 : h.get? ops = none := (fx mm).1
  have f9 : h.get? fr = none := (fx mm).1
  have f10 : h.get? fa = none := (fx mm).1
  have f11 : h.get? fn = none := (fx mm).1
  have f12 : h.get? sw = none := (fx mm).1
  have f13 : h.get? sn = none := (fx mm).1
  have big : (x :: dx :: L :: [nums, datas, sorts, args, T, ops, fr, fa, fn, sw, sn]).Nodup := List.nodup_cons.mpr ⟨fun q => (List.mem_cons.mp q).elim hxd fun q => (fx q).2 (.head _), List.nodup_cons.mpr ⟨fun q => (fx q).2 (.tail _ (.head _)), X.nd⟩⟩
  have nd2 : (β.own ++ [sn, sw, fn, fa, fr]).Nodup := nodup_pick big [0, 1, 8, 6, 5, 4, 3, 13, 12, 11, 10, 9]
  have hinv : Attrs h' x 388 dx f₁ 11 := X.inv
  have c1 : h'.PlainList ops [Value.str "" u8].toArray := X.obj (ops, .lst [Value.str "" u8]) mm
  have c2 : h'.PlainList args [Value.ref T].toArray := X.obj (args, .lst [Value.ref T]) mm
  have c3 : IsTup h' T ([] : List Value).toArray := X.obj (T, .tup []) mm
  have c4 : h'.PlainList sorts [Value.int 0 ub].toArray := X.obj (sorts, .lst [Value.int 0 ub]) mm
  have c5 : h'.PlainList datas [Value.int 0 u9].toArray := X.obj (datas, .lst [Value.int 0 u9]) mm
  have c6 : h'.get? nums = some emptyDict := X.obj (nums, .obj emptyDict) mm
  have hB : BankAt prog w β [dummy] h' := ⟨hinv, ⟨_, c1, .cons ⟨_, rfl⟩ .nil⟩, ⟨_, c2, .cons ⟨T, rfl, isTup_key (l := []) c3 .nil⟩ .nil⟩, ⟨_, c4, .cons ⟨_, rfl⟩ .nil⟩, ⟨_, c5, rfl⟩,
    ⟨[], ⟨_, #[], 0, c6, ⟨rfl, rfl, rfl⟩, rfl, rfl, (fun _ hx => by simp at hx), List.nodup_nil⟩, rfl, fun i x e => by simp at e⟩, (List.nodup_append.mp nd2).1, ⟨[], rfl⟩⟩
  have Cx₁ : Cx w h₀ β := ⟨⟨rfl, rfl, rfl, rfl, rfl, rfl⟩, fac hx0 (fac hd0 (fac (X.base.none f8) (fac (X.base.none f6) (fac (X.base.none f5) (fac (X.base.none f4) (fac (X.base.none f3) fan))))))⟩
  have X := X.absorb (bankWd prog w β [dummy]) hB [(fr, .lst []), (fa, .lst []), (fn, .lst []), (sw, .lst [Value.int 0 u4, Value.int 0 u5, Value.int 0 u6]), (sn, .lst [Value.str "Bool" u1, Value.str "Int" u2, Value.str "Real" u3])]
    (fun p hp => List.mem_of_mem_drop (i := 6) hp) (nodup_pick big [9, 10, 11, 12, 13]) (List.nodup_cons.mp (nodup_pick big [2, 0, 1, 8, 6, 5, 4, 3])).1 (fun a ha => List.mem_append_left [ops, args, sorts, datas, nums] ha)
    (fun p hp q => (List.nodup_append.mp (nodup_pick big [9, 10, 11, 12, 13, 0, 1, 8, 6, 5, 4, 3] : ([fr, fa, fn, sw, sn] ++ β.own).Nodup)).2.2 p.1 (List.mem_map_of_mem (f := (·.1)) hp) p.1 q rfl)
  have e1 : mk [dummy] ⟨.tru, [], 0, 0⟩ = (1, [dummy, ⟨.tru, [], 0, 0⟩]) := by decide
  have e2 : mk [dummy, ⟨.tru, [], 0, 0⟩] ⟨.fls, [], 0, 0⟩ = (2, [dummy, ⟨.tru, [], 0, 0⟩, ⟨.fls, [], 0, 0⟩]) := by decide
  refine sAsgAttr (MethodCall_ (nmL X rfl (mB (X.gd g.G) cls388 X.inv.attrs Cx₁.core.make (args_cons (cStr fun u tk => args_cons (Tuple_ (args_nil (newTup X fun h' T X => args_cons (nmG (X.gd g.G) hub (args_cons (cInt fun u tk => args_nil ⟨(X.gd g.G).K, ?_⟩)))))))))))
  refine make_spec (β := β) (tm := ⟨.tru, [], 0, 0⟩) Cx₁ (X.gnd g.G) (hr'.less (by decide)) X.inv (isTup_key (l := []) (X.obj _ (.head _)) .nil) (by simp) (by decide) fun h' tk ut hB k e => ?_
  rw [e1] at hB ⊢
  have X := (X.call (D' := bankWd prog w β [dummy, ⟨.tru, [], 0, 0⟩]) rfl k e hB).drop
  refine nmL X rfl (setB g.G Cx₁.new X (by decide : (11 : Nat) ≤ 500) fun h' tk X => ?_)
  have Cx₂ : Cx w h₀ { β with f := put "true_number" (.int (1 : Nat) ut) β.f, k := β.k + 1 } := ⟨⟨Cx₁.core.ops, Cx₁.core.args, Cx₁.core.sorts, Cx₁.core.datas, Cx₁.core.nums, Cx₁.core.make⟩, Cx₁.new⟩
  refine sAsgAttr (MethodCall_ (nmL X rfl (mB (X.gd g.G) cls388 X.inv.attrs Cx₂.core.make (args_cons (cStr fun u tk => args_cons (Tuple_ (args_nil (newTup X fun h' T X => args_cons (nmG (X.gd g.G) hub (args_cons (cInt fun u tk => args_nil ⟨(X.gd g.G).K, ?_⟩)))))))))))
  refine make_spec (tm := ⟨.fls, [], 0, 0⟩) Cx₂ (X.gnd g.G) (hr'.less (by decide)) X.inv (isTup_key (l := []) (X.obj _ (.head _)) .nil) (by simp) (by decide) fun h' tk uf hB k e => ?_
  rw [e2] at hB ⊢
  have X := (X.call (D' := bankWd prog w { β with f := put "true_number" (.int (1 : Nat) ut) β.f, k := β.k + 1 } [dummy, ⟨.tru, [], 0, 0⟩, ⟨.fls, [], 0, 0⟩]) rfl k e hB).drop
  refine nmL X rfl (setB g.G Cx₂.new X (by decide : (12 : Nat) ≤ 500) fun h' tk X => ?_)
  refine sNil ?_
  refine hR _ _ _ sn sw fn fa fr _ _ ?_ X.inv ?_ X.ext (X.obj (sn, .lst [Value.str "Bool" u1, Value.str "Int" u2, Value.str "Real" u3]) mm) (X.obj (sw, .lst [Value.int 0 u4, Value.int 0 u5, Value.int 0 u6]) mm) rfl rfl (X.obj (fn, .lst []) mm) (X.obj (fa, .lst []) mm) (X.obj (fr, .lst []) mm)
  · exact ⟨rfl, rfl, rfl, ⟨⟨⟨Cx₁.core.ops, Cx₁.core.args, Cx₁.core.sorts, Cx₁.core.datas, Cx₁.core.nums, Cx₁.core.make⟩, Cx₁.new⟩, ⟨⟨_, rfl⟩, ⟨_, rfl⟩, fac rfl (fac rfl (fac rfl (fac rfl (fac rfl (fac rfl (fac rfl (fac rfl (fac rfl (fac rfl (fac rfl (fac rfl (fac rfl (fac rfl (fac rfl (fac rfl (fac rfl (fac rfl (fac rfl (fac rfl (fan))))))))))))))))))))⟩⟩,
      rfl, rfl, rfl, rfl, rfl, fac f8 (fac f6 (fac f5 (fac f4 (fac f3 (fac f13 (fac f12 (fac f11 (fac f10 (fac f9 fan))))))))), nd2⟩
  · have all : ∀ a ∈ β.own, a ∈ [x, dx] ∨ h.get? a = none := fac (.inl mm) (fac (.inl mm) (fac (.inr f8) (fac (.inr f6) (fac (.inr f5) (fac (.inr f4) (fac (.inr f3) fan))))))
    exact fun b o hb e => X.keep b o (fun q => (all b q).elim hb fun hn => by rw [hn] at e; cases e) e
end
end Mine

-- Ini2
namespace Mine

section
variable {prog : Program} {w : World} {A : Around} {E : Value → Shared → Prop} {z : Shared} {h₀ s₀ h : Heap} {t : Nat} {R : Result → Shared → Prop} {D D' : Wd} {L x dx C : Addr} {m : Str → Option Value} {objs : List (Addr × Cell)} {env : Env} {f : Str → Option Value} {k : Nat} {β : Adr} {B : List Tm}

theorem rw_init_spec (Cβ : Cf w h₀ β) (g : Gnd w h₀ h) (hr : Room A 3) (hB : BankAt prog w β B h) (hx : h.get? x = some (instObj 513 dx)) (hdx : h.get? dx = some emptyDict) (hx0 : h₀.get? x = none) (hd0 : h₀.get? dx = none) (hxo : x ∉ β.own) (hdo : dx ∉ β.own)
    (hR : ∀ h' tk ρ, ρ.inst = x → ρ.dict = dx → RwOk β ρ → RAt ρ h' → Keep [x, dx] h h' → Ext h₀ h' → R (.ok (.ret .none)) (St z h' tk)) :
    codeAny (model prog w) A (.call (.ref 404) ⟨[.ref x, .ref β.inst], []⟩) R (St z h t) := by
  refine enterF 404 [("self", .ref x), ("bank", .ref β.inst)] g hr fun h₁ L A' tk en hns hr' => ?_
  have X := W.enter (prog := prog) (iniWd x 513 dx (fun _ => none) 0) g (attrs_new hx hdx) en hns
  have bank : ∀ {f k h' m objs}, W prog w h₀ h (iniWd x 513 dx f k) L h' m objs → BankAt prog w β B h' := fun X => hB.agree fun a o e q => X.keep a o (fun ha => by
    simp only [iniWd, List.mem_cons, List.not_mem_nil, or_false] at ha
    rcases q with q | q
    · rcases ha with rfl | rfl
      · exact hxo q
      · exact hdo q
    · rcases ha with rfl | rfl
      · rw [hx] at e; cases e; exact absurd q.1 (by simp [instObj])
      · rw [hdx] at e; cases e; exact absurd q.1 (by simp [emptyDict])) e
  refine sAsgAttr (nmL X rfl (nmL X rfl (setI cls513 g.G hd0 X (by omega) fun h' tk X => ?_)))
  refine sAsgAttr (MethodCall_ (nmL X rfl (mB0 (X.gd g.G) cls388 (bank X).attrs (Cβ.full.meths _ (by decide)) ?_)))
  refine true_spec Cβ (X.gnd g.G) (hr'.less (by decide)) (bank X) fun h' tk u1 e => ?_
  have X := X.grow e
  refine nmL X rfl (setI cls513 g.G hd0 X (by omega) fun h' tk X => ?_)
  refine sAsgAttr (MethodCall_ (nmL X rfl (mB0 (X.gd g.G) cls388 (bank X).attrs (Cβ.full.meths _ (by decide)) ?_)))
  refine false_spec Cβ (X.gnd g.G) (hr'.less (by decide)) (bank X) fun h' tk u2 e => ?_
  have X := X.grow e
  refine nmL X rfl (setI cls513 g.G hd0 X (by omega) fun h' tk X => ?_)
  refine sAsgAttr (newDo X fun h' d X => nmL X rfl (setI cls513 g.G hd0 X (by omega) fun h' tk X => ?_))
  refine sNil (hR _ _ ⟨x, dx, _, _⟩ rfl rfl ⟨hxo, hdo, rfl, ⟨u1, rfl⟩, ⟨u2, rfl⟩, fun n hn => ?_⟩ X.inv X.keep X.ext)
  simp only [rwMeths, List.mem_cons, List.not_mem_nil, or_false] at hn
  rcases hn with rfl | rfl | rfl | rfl | rfl | rfl | rfl | rfl | rfl <;> rfl

/-- the bank's other lists -/
structure Aux where
  sn : Addr
  sw : Addr
  fn : Addr
  fa : Addr
  fr : Addr
noncomputable def Aux.all (α : Aux) : List Addr := [α.sn, α.sw, α.fn, α.fa, α.fr]
structure AuxL where
  sn : List Value
  sw : List Value
  fn : List Value
  fa : List Value
  fr : List Value
structure AuxAt (α : Aux) (l : AuxL) (h : Heap) : Prop where
  sn : h.PlainList α.sn l.sn.toArray
  sw : h.PlainList α.sw l.sw.toArray
  fn : h.PlainList α.fn l.fn.toArray
  fa : h.PlainList α.fa l.fa.toArray
  fr : h.PlainList α.fr l.fr.toArray
structure BigOk (w : World) (h₀ : Heap) (β : Adr) (α : Aux) : Prop where
  cf : Cf w h₀ β
  sn : β.f "sort_names" = some (.ref α.sn)
  sw : β.f "sort_widths" = some (.ref α.sw)
  fn : β.f "fun_names" = some (.ref α.fn)
  fa : β.f "fun_args" = some (.ref α.fa)
  fr : β.f "fun_results" = some (.ref α.fr)
  nd : (β.own ++ α.all).Nodup
  new : ∀ a ∈ α.all, h₀.get? a = none

theorem plain_live {a : Addr} {v : Array Value} (x : h.PlainList a v) : h.get? a ≠ none := by obtain ⟨n, e⟩ := x; rw [e]; exact fun q => nomatch q
theorem AuxAt.agree {α : Aux} {l : AuxL} {own : List Addr} {h' : Heap} (x : AuxAt α l h) (g : Agree own h h') (hm : ∀ a ∈ α.all, a ∈ own) : AuxAt α l h' :=
  ⟨x.sn.at fun o e => g _ o e (.inl (hm _ (by simp [Aux.all]))), x.sw.at fun o e => g _ o e (.inl (hm _ (by simp [Aux.all]))), x.fn.at fun o e => g _ o e (.inl (hm _ (by simp [Aux.all]))),
    x.fa.at fun o e => g _ o e (.inl (hm _ (by simp [Aux.all]))), x.fr.at fun o e => g _ o e (.inl (hm _ (by simp [Aux.all])))⟩
noncomputable def bigWd (prog : Program) (w : World) (β : Adr) (α : Aux) (B : List Tm) (l : AuxL) : Wd := ⟨β.own ++ α.all, fun h => BankAt prog w β B h ∧ AuxAt α l h,
  fun _ _ x g => ⟨x.1.agree fun a o e q => g a o e (q.imp_left fun q => List.mem_append_left _ q), x.2.agree g fun a ha => List.mem_append_right _ ha⟩,
  fun h x a ha => by
    rcases List.mem_append.mp ha with ha | ha
    · exact x.1.live a ha
    · exact (fac (p := fun a => h.get? a ≠ none) (plain_live x.2.sn) (fac (plain_live x.2.sw) (fac (plain_live x.2.fn) (fac (plain_live x.2.fa) (fac (plain_live x.2.fr) fan))))) a ha⟩

/-- one of the bank's other lists grows -/
theorem W.auxSet {α : Aux} {l l' : AuxL} {a : Addr} {h' : Heap} {v : Array Value} (O : BigOk w h₀ β α) (X : W prog w h₀ s₀ (bigWd prog w β α B l) L h m objs) (ha : a ∈ α.all) (hp : h.PlainList a v) (sb : Heap.SameBut a h h')
    (hl : AuxAt α l' h') : W prog w h₀ s₀ (bigWd prog w β α B l') L h' m objs := by
  refine X.call (D' := bigWd prog w β α B l') rfl (fun b o hb e => (sb.2 b ?_).trans e) (fun b o e => (sb.2 b ?_).trans (X.ext b o e)) ⟨X.inv.1.agree fun b o e q => (sb.2 b ?_).trans e, hl⟩
  · rintro rfl; exact hb (List.mem_append_right _ ha)
  · rintro rfl; rw [O.new _ ha] at e; cases e
  · rintro rfl
    rcases q with q | q
    · exact (List.nodup_append.mp O.nd).2.2 _ q _ ha rfl
    · exact plain_notTup hp o e q

theorem declare_sort_spec {α : Aux} {l : AuxL} {nm : Value} (O : BigOk w h₀ β α) (g : Gnd w h₀ h) (hr : Room A 2) (hB : (bigWd prog w β α B l).I h) (hl1 : l.sn.length ≤ 100) (hl2 : l.sw.length ≤ 100)
    (hR : ∀ h' tk u l', (bigWd prog w β α B l').I h' → l'.fn = l.fn → l'.fa = l.fa → l'.fr = l.fr → Keep (β.own ++ α.all) h h' → Ext h₀ h' → R (.ok (.ret (.int (l.sn.length : Int) u))) (St z h' tk)) :
    codeAny (model prog w) A (.call (.ref 98) ⟨[.ref β.inst, nm], []⟩) R (St z h t) := by
  refine enterF 98 [("self", .ref β.inst), ("name", nm)] g hr fun h₁ L A' tk en hns hr' => ?_
  have X := W.enter (prog := prog) (bigWd prog w β α B l) g hB en hns
  have nd := (List.nodup_append.mp O.nd).2.1
  simp only [Aux.all, List.nodup_cons, List.mem_cons, List.not_mem_nil, or_false, not_or, not_false_eq_true, List.nodup_nil, and_true] at nd
  refine sExpr (MethodCall_ (Attribute_any_ (nmL X rfl (getA (X.gd g.G) cls388 X.inv.1.attrs O.sn (by k_is) rfl fun tk => getMethodList F.slot_list_append F.type_list_append X.inv.2.sn (callWith_method1 (argsS X (.cons (.loc rfl) .nil) (appL X.inv.2.sn (by omega) fun h' e sb => ?_)))))))
  have Y := X.inv.2
  have X := X.auxSet (l' := { l with sn := l.sn ++ [nm] }) O (by simp [Aux.all]) Y.sn sb ⟨e, Y.sw.at fun o q => (sb.2 _ (by grind)).trans q, Y.fn.at fun o q => (sb.2 _ (by grind)).trans q, Y.fa.at fun o q => (sb.2 _ (by grind)).trans q, Y.fr.at fun o q => (sb.2 _ (by grind)).trans q⟩
  refine sExpr (MethodCall_ (Attribute_any_ (nmL X rfl (getA (X.gd g.G) cls388 X.inv.1.attrs O.sw (by k_is) rfl fun tk => getMethodList F.slot_list_append F.type_list_append X.inv.2.sw (callWith_method1 (args_cons (cInt fun u tk => args_nil (appL X.inv.2.sw (by show l.sw.length ≤ _; omega) fun h' e sb => ?_))))))))
  have Y := X.inv.2
  have X := X.auxSet (l' := { l with sn := l.sn ++ [nm], sw := l.sw ++ [Value.int 0 u] }) O (by simp [Aux.all]) Y.sw sb ⟨Y.sn.at fun o q => (sb.2 _ (by grind)).trans q, e, Y.fn.at fun o q => (sb.2 _ (by grind)).trans q, Y.fa.at fun o q => (sb.2 _ (by grind)).trans q, Y.fr.at fun o q => (sb.2 _ (by grind)).trans q⟩
  refine sRet (wpAny_BinOp (Call_ (nmB (X.gd g.G) (by k_is) boot_len (PyProof.Rows.callWith_builtin1 (args_cons (Attribute_any_ (nmL X rfl (getA (X.gd g.G) cls388 X.inv.1.attrs O.sn (by k_is) rfl fun tk => args_nil (lenL X.inv.2.sn (by simp; omega) fun u tk => ?_)))))))))
  refine cInt fun u tk => ?_
  refine PySem.P.sub_int (s := St z _ _) ?_
  have e1 : (((l.sn ++ [nm]).length : Nat) : Int) - 1 = (l.sn.length : Int) := by simp
  rw [e1]
  exact hR _ _ _ _ X.inv rfl rfl rfl X.keep X.ext

theorem declare_fun_spec {α : Aux} {l : AuxL} {nm res : Value} {T : Addr} (O : BigOk w h₀ β α) (g : Gnd w h₀ h) (hr : Room A 2) (hB : (bigWd prog w β α B l).I h) (hT : IsTup h T ([] : List Value).toArray)
    (hl1 : l.fn.length ≤ 100) (hl2 : l.fa.length ≤ 100) (hl3 : l.fr.length ≤ 100)
    (hR : ∀ h' tk u l', (bigWd prog w β α B l').I h' → l'.fn.length = l.fn.length + 1 → l'.fa.length = l.fa.length + 1 → l'.fr.length = l.fr.length + 1 → Keep (β.own ++ α.all) h h' → Ext h₀ h' → R (.ok (.ret (.int (l.fn.length : Int) u))) (St z h' tk)) :
    codeAny (model prog w) A (.call (.ref 126) ⟨[.ref β.inst, nm, .ref T, res], []⟩) R (St z h t) := by
  refine enterF 126 [("self", .ref β.inst), ("name", nm), ("arg_sorts", .ref T), ("result", res)] g hr fun h₁ L A' tk en hns hr' => ?_
  have X := W.enter (prog := prog) (bigWd prog w β α B l) g hB en hns
  have hT := tupAt' hT fun o e => en.ext _ o e
  have X := X.pin hT
  have nd := (List.nodup_append.mp O.nd).2.1
  simp only [Aux.all, List.nodup_cons, List.mem_cons, List.not_mem_nil, or_false, not_or, not_false_eq_true, List.nodup_nil, and_true] at nd
  have tup : ∀ {D : Wd} {m : Str → Option Value} {objs : List (Addr × Cell)} {h' : Heap} (X : W prog w h₀ h (D.pin T []) L h' m objs), IsTup h' T ([] : List Value).toArray := fun X => X.inv.2
  refine sExpr (MethodCall_ (Attribute_any_ (nmL X rfl (getA (X.gd g.G) cls388 X.inv.1.1.attrs O.fn (by k_is) rfl fun tk => getMethodList F.slot_list_append F.type_list_append X.inv.1.2.fn (callWith_method1 (argsS X (.cons (.loc rfl) .nil) (appL X.inv.1.2.fn (by omega) fun h' e sb => ?_)))))))
  have Y := X.inv.1.2
  have hT := tupAt' (tup X) (h' := h') fun o q => (sb.2 _ (by rintro rfl; exact plain_notTup Y.fn o q (by obtain ⟨o', e', c, n, d⟩ := tup X; rw [q] at e'; cases e'; exact ⟨c, _, n, d⟩))).trans q
  have X := (X.unpin.auxSet (l' := { l with fn := l.fn ++ [nm] }) O (by simp [Aux.all]) Y.fn sb ⟨Y.sn.at fun o q => (sb.2 _ (by grind)).trans q, Y.sw.at fun o q => (sb.2 _ (by grind)).trans q, e, Y.fa.at fun o q => (sb.2 _ (by grind)).trans q, Y.fr.at fun o q => (sb.2 _ (by grind)).trans q⟩).pin hT
  refine sExpr (MethodCall_ (Attribute_any_ (nmL X rfl (getA (X.gd g.G) cls388 X.inv.1.1.attrs O.fa (by k_is) rfl fun tk => getMethodList F.slot_list_append F.type_list_append X.inv.1.2.fa (callWith_method1 (args_cons ?_))))))
  refine Call_ (nmB (X.gd g.G) (by k_is) PyProof.Rows.boot_tuple (PyProof.Rows.callWith_type1 (argsS X (.cons (.loc rfl) .nil) (call_tuple_tup (s := St z _ _) (tup X) (args_nil (appL X.inv.1.2.fa (by show l.fa.length ≤ _; omega) fun h' e sb => ?_))))))
  have Y := X.inv.1.2
  have X := X.unpin.auxSet (l' := { l with fn := l.fn ++ [nm], fa := l.fa ++ [.ref T] }) O (by simp [Aux.all]) Y.fa sb ⟨Y.sn.at fun o q => (sb.2 _ (by grind)).trans q, Y.sw.at fun o q => (sb.2 _ (by grind)).trans q, Y.fn.at fun o q => (sb.2 _ (by grind)).trans q, e, Y.fr.at fun o q => (sb.2 _ (by grind)).trans q⟩
  refine sExpr (MethodCall_ (Attribute_any_ (nmL X rfl (getA (X.gd g.G) cls388 X.inv.1.attrs O.fr (by k_is) rfl fun tk => getMethodList F.slot_list_append F.type_list_append X.inv.2.fr (callWith_method1 (argsS X (.cons (.loc rfl) .nil) (appL X.inv.2.fr (by show l.fr.length ≤ _; omega) fun h' e sb => ?_)))))))
  have Y := X.inv.2
  have X := X.auxSet (l' := { l with fn := l.fn ++ [nm], fa := l.fa ++ [.ref T], fr := l.fr ++ [res] }) O (by simp [Aux.all]) Y.fr sb ⟨Y.sn.at fun o q => (sb.2 _ (by grind)).trans q, Y.sw.at fun o q => (sb.2 _ (by grind)).trans q, Y.fn.at fun o q => (sb.2 _ (by grind)).trans q, Y.fa.at fun o q => (sb.2 _ (by grind)).trans q, e⟩
  refine sRet (wpAny_BinOp (Call_ (nmB (X.gd g.G) (by k_is) boot_len (PyProof.Rows.callWith_builtin1 (args_cons (Attribute_any_ (nmL X rfl (getA (X.gd g.G) cls388 X.inv.1.attrs O.fn (by k_is) rfl fun tk => args_nil (lenL X.inv.2.fn (by simp; omega) fun u tk => ?_)))))))))
  refine cInt fun u tk => ?_
  refine PySem.P.sub_int (s := St z _ _) ?_
  have e1 : (((l.fn ++ [nm]).length : Nat) : Int) - 1 = (l.fn.length : Int) := by simp
  rw [e1]
  exact hR _ _ _ _ X.inv (by simp) (by simp) (by simp) X.keep X.ext

theorem fresh_const_spec {α : Aux} {l : AuxL} {nm : Value} {so : Nat} {us : Tok} (O : BigOk w h₀ β α) (g : Gnd w h₀ h) (hr : Room A 3) (hB : (bigWd prog w β α B l).I h) (hsz : B.length ≤ 2 ^ 23)
    (hl1 : l.fn.length ≤ 100) (hl2 : l.fa.length ≤ 100) (hl3 : l.fr.length ≤ 100)
    (hR : ∀ h' tk u l', (bigWd prog w β α (mk B ⟨.app, [], so, l.fn.length⟩).2 l').I h' → l'.fn.length = l.fn.length + 1 → l'.fa.length = l.fa.length + 1 → l'.fr.length = l.fr.length + 1 → Keep (β.own ++ α.all) h h' → Ext h₀ h' →
      R (.ok (.ret (.int ((mk B ⟨.app, [], so, l.fn.length⟩).1 : Int) u))) (St z h' tk)) :
    codeAny (model prog w) A (.call (.ref 140) ⟨[.ref β.inst, nm, .int so us], []⟩) R (St z h t) := by
  refine enterF 140 [("self", .ref β.inst), ("name", nm), ("s", .int so us)] g hr fun h₁ L A' tk en hns hr' => ?_
  have X := W.enter (prog := prog) (bigWd prog w β α B l) g hB en hns
  refine sRet (MethodCall_ (nmL X rfl (mB (X.gd g.G) cls388 X.inv.1.attrs (O.cf.full.meths _ (by decide)) (args_cons (cStr fun u tk => args_cons ?_)))))
  refine Tuple_ (args_nil (newTup X fun h' T X => args_cons (nmL X rfl (args_cons ?_))))
  refine MethodCall_ (nmL X rfl (mB (X.gd g.G) cls388 X.inv.1.attrs (O.cf.full.meths _ (by decide)) (args_cons (nmL X rfl (args_cons ?_)))))
  refine Tuple_ (args_nil (newTup X fun h' T2 X => argsS X (.cons (.loc rfl) .nil) ⟨(X.gd g.G).K, ?_⟩))
  refine declare_fun_spec O (X.gnd g.G) (hr'.less (by decide)) X.inv (X.obj _ (.head _)) hl1 hl2 hl3 fun h' tk u l' hI e1 e2 e3 k e => ?_
  have X := X.call (D' := bigWd prog w β α B l') rfl k e hI
  refine args_nil ⟨(X.gd g.G).K, ?_⟩
  refine make_spec (tm := ⟨.app, [], so, l.fn.length⟩) O.cf.toCx (X.gnd g.G) (hr'.less (by decide)) X.inv.1 (isTup_key (l := []) (X.obj _ (.tail _ (.head _))) .nil) hsz (by simp) fun h' tk u hB k e => ?_
  have hA : AuxAt α l' h' := by
    have Y := X.inv.2
    have off : ∀ a ∈ α.all, a ∉ β.own := fun a ha q => (List.nodup_append.mp O.nd).2.2 _ q _ ha rfl
    exact ⟨Y.sn.at fun o q => k _ _ (off _ (by simp [Aux.all])) q, Y.sw.at fun o q => k _ _ (off _ (by simp [Aux.all])) q, Y.fn.at fun o q => k _ _ (off _ (by simp [Aux.all])) q, Y.fa.at fun o q => k _ _ (off _ (by simp [Aux.all])) q, Y.fr.at fun o q => k _ _ (off _ (by simp [Aux.all])) q⟩
  have X := X.call (D' := bigWd prog w β α (mk B ⟨.app, [], so, l.fn.length⟩).2 l') rfl (k.more fun c hc => List.mem_append_left _ hc) e ⟨hB, hA⟩
  exact hR _ _ _ _ X.inv e1 e2 e3 X.keep X.ext
end
end Mine

-- Prt
namespace Mine

noncomputable def StkIs (h : Heap) (v : Value) (p : Nat × Bool) : Prop := ∃ a u, v = .ref a ∧ IsTup h a [Value.int (p.1 : Int) u, .bool p.2].toArray
theorem StkIs.agree {own : List Addr} {h h' : Heap} {v : Value} {p : Nat × Bool} (x : StkIs h v p) (g : Agree own h h') : StkIs h' v p := by
  obtain ⟨a, u, e, o, eo, c, n, d⟩ := x
  exact ⟨a, u, e, o, g a o eo (.inr ⟨c, _, n, d⟩), c, n, d⟩
/-- tuples of a stack held fast beside the world -/
noncomputable def stkWd (D : Wd) (vs : List Value) (st : List (Nat × Bool)) : Wd := ⟨D.own, fun h => D.I h ∧ All2 (StkIs h) vs st, fun h h' x g => ⟨D.stab h h' x.1 g, x.2.mono fun _ _ y => y.agree g⟩, fun h x => D.live h x.1⟩

section
variable {prog : Program} {w : World} {A : Around} {E : Value → Shared → Prop} {z : Shared} {h₀ s₀ h : Heap} {t : Nat} {R : Result → Shared → Prop} {D D' : Wd} {L x dx C a it : Addr} {m : Str → Option Value} {objs : List (Addr × Cell)} {env : Env} {f : Str → Option Value} {k : Nat} {β : Adr} {B : List Tm} {vs : List Value} {kd : String}

theorem RvK.to' {h' : Heap} (x : RvK kd h a vs) (y : IsTup h' a vs.toArray) (hx : IsTup h a vs.toArray := by assumption) : RvK kd h' a vs := by
  rcases x with ⟨_, n, e⟩ | ⟨rfl, _⟩
  · obtain ⟨o, e', c, _⟩ := hx
    rw [e] at e'; cases e'
    exact absurd c (by simp)
  · exact .inr ⟨rfl, y⟩
theorem W.re (X : W prog w h₀ s₀ D L h m objs) (D' : Wd) (ho : D'.own = D.own) (hI : D'.I h) : W prog w h₀ s₀ D' L h m objs := ⟨X.ext, ho ▸ X.keep, X.base, hI, X.ns, X.obj, X.nd, ho ▸ X.fresh⟩

/-- a for over a fresh reversed walk; J counts what is left -/
theorem loopRv {R : Result → Shared → Prop} {x : Str} {px : Pos} {body : List Stmt} (hh : A.handled = none) (J : Nat → Wd → (Str → Option Value) → List (Addr × Cell) → Prop) (hsz : vs.length ≤ 2 ^ 24)
    (X : W prog w h₀ s₀ D env.locals h m ((it, .sat (rvS kd a vs.length)) :: objs)) (hj : J vs.length D m objs)
    (seq : ∀ k j D m m' objs h, W prog w h₀ s₀ D env.locals h m' ((it, .sat (rvS kd a j)) :: objs) → J k D m objs → RvK kd h a vs)
    (turn : ∀ k v D m objs h t, vs[k]? = some v → J (k + 1) D m objs → W prog w h₀ s₀ D env.locals h (put x v m) ((it, .sat (rvS kd a k)) :: objs) → RvK kd h a vs →
      wpAny (model prog w) A (execs body env) (TurnEnd prog w h₀ s₀ env.locals z (it, .sat (rvS kd a k)) (J k) R) NE (St z h t))
    (done : ∀ D m objs h t, J 0 D m objs → W prog w h₀ s₀ D env.locals h m objs → R (.ok .next) (St z h t))
    (hk : autoParam (env.scope.kind = .function) aR) (hl : autoParam (env.kindOf x = some .local) aR) :
    codeAny (model prog w) A (.forLoop (.Name x px) (.ref it) body [] env) R (St z h t) := by
  refine codeAny_forLoop (fun n s => E5 fun h t D m objs => A4 (s = St z h t) (W prog w h₀ s₀ D env.locals h m ((it, .sat (rvS kd a n)) :: objs)) (J n D m objs) (n ≤ vs.length)) ?_ vs.length
    ⟨h, t, D, m, objs, rfl, X, hj, Nat.le_refl _⟩
  rintro n s ⟨h, t, D, m, objs, rfl, X, hj, hle⟩
  have hs := seq n n D m m objs h X hj
  cases n with
  | zero => exact revEnd hh X hs fun h' X hs => wpAny_execs_nil (done D m objs h' t hj X)
  | succ n =>
    obtain ⟨v, hv⟩ : ∃ v, vs[n]? = some v := ⟨vs[n]'hle, List.getElem?_eq_getElem hle⟩
    refine revNext X hs hv hsz fun h' tk X hs => wpAny_assign_Name (stL X (fun h'' tk X' => ?_) hk hl)
    refine wpAny_mono (turn n v D m objs h'' tk hv hj X' (seq (n + 1) n D m _ objs h'' X' hj)) (fun f s' q => ?_) fun _ _ e => e.elim
    cases f with
    | next => obtain ⟨h, t, D, m, objs, rfl, X, hj⟩ := q; exact ⟨n, Nat.lt_succ_self _, h, t, D, m, objs, rfl, X, hj, Nat.le_of_succ_le hle⟩
    | cont => obtain ⟨h, t, D, m, objs, rfl, X, hj⟩ := q; exact ⟨n, Nat.lt_succ_self _, h, t, D, m, objs, rfl, X, hj, Nat.le_of_succ_le hle⟩
    | brk => exact q
    | ret v => exact q

theorem All2.init {α β : Type} {R : α → β → Prop} {a : List α} {b : List β} {x : α} {y : β} (h : All2 R (a ++ [x]) (b ++ [y])) : All2 R a b := by
  obtain ⟨a', v, e, h', _⟩ := h.unsnoc
  obtain ⟨rfl, _⟩ := List.append_inj' e rfl
  exact h'

theorem partsG_guard {B : List Tm} {n : Nat} {stack : List (Nat × Bool)} {fnd found : List Nat} (hm : partsG B (n + 1) stack fnd = some found) : stack.length ≤ 100001 ∧ (stack ≠ [] → fnd.length ≤ 100000) := by
  cases stack with
  | nil => exact ⟨Nat.zero_le _, fun q => absurd rfl q⟩
  | cons p rest =>
    obtain ⟨t₁, o⟩ := p
    unfold partsG at hm
    by_cases c : 100000 < rest.length ∨ 100000 < fnd.length
    · rw [if_pos c] at hm; cases hm
    · exact ⟨Nat.succ_le_succ (Nat.not_lt.mp fun q => c (.inl q)), fun _ => Nat.not_lt.mp fun q => c (.inr q)⟩
theorem pz1 {a b N : Nat} (e : a = b) (h : b + 1 ≤ 100001) (k : autoParam (100001 ≤ N) aD) : a ≤ N := e ▸ Nat.le_trans (Nat.le_of_succ_le h) k
theorem pz2 {a k : Nat} (h : a ≤ 100002 + (1000 - (k + 1))) : a ≤ 2 ^ 24 := Nat.le_trans h (Nat.le_trans (Nat.add_le_add_left (Nat.sub_le 1000 _) _) (by decide))
theorem pz3 {a k : Nat} (h : a ≤ 100002 + (1000 - (k + 1))) : a ≤ 100002 + (1000 - k) := Nat.le_trans h (Nat.add_le_add_left (Nat.sub_le_sub_left (Nat.le_succ k) 1000) _)
theorem pz4 {a k n : Nat} (h : a ≤ 100002 + (1000 - (k + 1))) (hk : k < n) (hn : ¬1000 < n) : a + 1 ≤ 100002 + (1000 - k) :=
  Nat.le_trans (Nat.succ_le_succ h) (Nat.add_le_add_left (Nat.sub_lt_sub_left (Nat.lt_of_lt_of_le hk (Nat.not_lt.mp hn)) (Nat.lt_succ_self k)) 100002)
theorem pz5 {a b c : Nat} (e : a = b) (h : b + 1 ≤ 100001) : a + 1 ≤ 100002 + c := e ▸ Nat.le_trans h (Nat.le_trans (by decide) (Nat.le_add_right _ _))
theorem parts_of_all_spec {n t₀ T : Nat} {ut : Tok} {found : List Nat} (Cβ : Cf w h₀ β) (g : Gnd w h₀ h) (hr : Room A 2) (hB : BankAt prog w β B h) (hsz : B.length ≤ 2 ^ 23)
    (hT : IsTup h T [Value.int (t₀ : Int) ut].toArray) (hm : partsG B n [(t₀, false)] [] = some found)
    (hR : ∀ h' tk a vs, Ext h h' → h.get? a = none → h'.PlainList a vs.toArray → All2 IsI vs found → R (.ok (.ret (.ref a))) (St z h' tk)) :
    codeAny (model prog w) A (.call (.ref 280) ⟨[.ref β.inst, .ref T], []⟩) R (St z h t) := by
  refine enterF 280 [("self", .ref β.inst), ("some", .ref T)] g hr fun h₁ L A' tk en hns hr' => ?_
  have X := W.enter (prog := prog) noWd g trivial en hns
  have ext : ∀ {D : Wd} {m : Str → Option Value} {objs : List (Addr × Cell)} {h' : Heap}, D.own = [] → W prog w h₀ h D L h' m objs → Ext h h' := fun ho X b o e => X.keep b o (by rw [ho]; simp) e
  have bank : ∀ {D : Wd} {m : Str → Option Value} {objs : List (Addr × Cell)} {h' : Heap}, D.own = [] → W prog w h₀ h D L h' m objs → BankAt prog w β B h' := fun ho X => hB.agree fun a o e _ => ext ho X a o e
  refine sTupS ["found", "done"] (Tuple_ (args_cons (List_ (args_nil (newLst X fun h' Fo X => args_cons (newD X fun h' d X => args_nil (newTup X fun h' Tp X => ?_)))))))
  refine swap2 hr'.hh X (X.obj _ (.head _)) fun h' tk X => ?_
  have X := X.drop
  refine sFor (nmL X rfl (iterSq X (kd := "tuple_iterator") (vs := [Value.int (t₀ : Int) ut]) (.inr ⟨rfl, tupAt' hT fun o e => ext rfl X _ o e⟩) fun h' itr X hs => ?_))
  refine loopSq hr'.hh (fun j D m objs => A5 (D = noWd) (m "self" = some (.ref β.inst)) (m "found" = some (.ref Fo)) (m "done" = some (.ref d)) ((if j = 0 then objs = [(d, .dic (dicOf [])), (Fo, .lst [])] else ∃ fvs rest, All2 IsI fvs found ∧ objs = (d, .dic (dicOf found)) :: (Fo, .lst fvs) :: rest))) X hs ⟨rfl, rfl, rfl, rfl, rfl⟩ ?_ ?_ ?_
  · rintro k j D m m' objs h Y ⟨rfl, _⟩
    exact .inr ⟨rfl, tupAt' hT fun o e => ext rfl Y _ o e⟩
  · clear X hs
    rintro j v D m objs h' t' hv ⟨rfl, m1, m2, m3, hobj⟩ X hs
    refine opq ?_
    intro TO hO
    obtain rfl : j = 0 := Nat.lt_one_iff.mp (List.getElem?_eq_some_iff.mp hv).1
    rw [if_pos rfl] at hobj
    subst hobj
    cases hv
    refine sAsg (List_ (args_cons (Tuple_ (args_cons (nmL X rfl (args_cons (cBool (args_nil (newTup X fun h' Ta X => args_nil (newLst X fun h' S X => ?_)))))))))) 
    refine stL X fun h' tk X => ?_
    have X := X.perm ((List.Perm.swap _ _ _).trans (.refl _))
    have X := (X.re (stkWd noWd [.ref Ta] [(t₀, false)]) rfl ⟨trivial, .cons ⟨Ta, ut, rfl, X.obj _ (.head _)⟩ .nil⟩).drop
    refine sWhile (fun n h' => E5 fun vs stack fnd fvs m => A7 (W prog w h₀ h (stkWd noWd vs stack.reverse) L h' m [(S, .lst vs), (itr, .sat (itS "tuple_iterator" T (0 + 1))), (d, .dic (dicOf fnd)), (Fo, .lst fvs)]) (All2 IsI fvs fnd) (partsG B n stack fnd = some found) (m "self" = some (.ref β.inst)) (m "found" = some (.ref Fo)) (m "done" = some (.ref d)) (m "stack" = some (.ref S))) n ⟨[.ref Ta], [(t₀, false)], [], [], put "stack" (.ref S) (put "root" (.int (t₀ : Int) ut) m), X, .nil, hm, m1, m2, m3, rfl⟩ ?_
    clear X hs hm m1 m2 m3
    rintro n h' t TT hT ⟨vs, stack, fnd, fvs, m, X, hf, hm, m1, m2, m3, m4⟩
    obtain ⟨n, rfl⟩ : ∃ k, n = k + 1 := by
      cases n with
      | zero => cases hm
      | succ k => exact ⟨k, rfl⟩
    have hst : All2 (StkIs h') vs stack.reverse := X.inv.2
    have hlen : vs.length = stack.length := by rw [hst.len, List.length_reverse]
    have hb := partsG_guard hm
    refine wpAny_isTrue_Compare1 (Call_ (nmB (X.gd g.G) (by k_is) boot_len (PyProof.Rows.callWith_builtin1 (argsS X (.cons (.loc m4) .nil) (lenL (X.obj _ (.head _)) (hlen ▸ Nat.le_trans hb.1 (by decide)) fun u tk => ?_)))))
    refine cInt fun u tk => PyProof.Rows.gt_int (wpAny_truthy_bool ?_)
    have e0 : decide ((0 : Int) < (vs.length : Int)) = decide (0 < stack.length) := by rw [hlen]; simp
    rw [e0]
    cases stack with
    | nil =>
      simp only [List.length_nil, Nat.lt_irrefl, decide_false, Bool.false_eq_true, if_false]
      cases hm
      have X := X.drop
      have X := X.re noWd rfl trivial
      refine sNil (hO _ _ ⟨_, _, _, _, _, rfl, X, rfl, m1, m2, m3, ?_⟩)
      rw [if_neg (by decide)]
      exact ⟨fvs, [], hf, rfl⟩
    | cons p rest =>
      obtain ⟨t₁, o⟩ := p
      have hfl := hb.2 (List.cons_ne_nil _ _)
      have hrl := hb.1
      simp only [List.length_cons, Nat.zero_lt_succ, decide_true, if_true] at hrl ⊢
      rw [List.reverse_cons] at hst
      obtain ⟨vs, v, rfl, hst₂, Ta, u₁, rfl, hTa⟩ := hst.unsnoc
      have hvl := hst₂.len
      simp only [List.length_reverse] at hvl
      have X := X.pin hTa
      refine sTup (MethodCall_ (nmL X m4 (getMethodList F.slot_list_pop F.type_list_pop (X.obj _ (.head _)) (popL (X.obj _ (.head _)) (pz1 hvl hrl) fun h' e sb => ?_))))
      have X := X.set0 (c' := .lst vs) (fun b o hb e => (sb.2 b hb).trans e) e trivial
      refine unp hr'.hh X X.inv.2 fun h' X e => aioCons (assign_Name (stL X fun h' tk X => aioCons (assign_Name (stL X fun h' tk X => aioNil ?_))))
      have hst₃ : All2 (StkIs h') vs rest.reverse := by
        have := X.inv.1.2
        rw [List.reverse_cons] at this
        exact this.init
      have X := X.unpin.re (stkWd noWd vs rest.reverse) rfl ⟨trivial, hst₃⟩
      unfold partsG at hm
      replace hm := ieF (fun q => q.elim (Nat.not_lt.mpr (Nat.le_of_succ_le_succ hrl)) (Nat.not_lt.mpr hfl)) hm
      refine sIf (wpAny_isTrue_Compare1 (nmL X rfl (nmL X m3 (inD (X.obj _ (.tail _ (.tail _ (.head _)))) (X.lo g.G (by simp)) fun tk => wpAny_truthy_bool ?_))))
      by_cases c1 : t₁ ∈ fnd
      · replace hm := ieT c1 hm
        refine ifT c1 ?_
        exact sCont (hT _ _ ⟨n, _, _, Nat.lt_succ_self _, rfl, vs, rest, fnd, fvs, _, X, hf, hm, m1, m2, m3, m4⟩)
      replace hm := ieF c1 hm
      refine ifF c1 ?_
      refine sNx (sIf (wpAny_isTrue_value (nmL X rfl (wpAny_truthy_bool ?_))))
      cases o with
      | true =>
        simp only [if_true] at hm ⊢
        refine sAsgSub (cBool (nmL X m3 (nmL X rfl (setD (X.obj _ (.tail _ (.tail _ (.head _)))) (by omega) fun h' tk e sb => ?_))))
        have X := X.set2 (c' := .dic (dicOf (addN fnd t₁))) (fun b o hb e => (sb.2 b hb).trans e) e trivial
        refine sExpr (MethodCall_ (nmL X m2 (getMethodList F.slot_list_append F.type_list_append (X.obj _ (.tail _ (.tail _ (.tail _ (.head _))))) (callWith_method1 (argsS X (.cons (.loc rfl) .nil) (appL (X.obj _ (.tail _ (.tail _ (.tail _ (.head _))))) (by rw [hf.len]; omega) fun h' e sb => ?_))))))
        have X := X.setObj (pre := [_, _, _]) (c' := .lst (fvs ++ [Value.int (t₁ : Int) u₁])) (fun b o hb e => (sb.2 b hb).trans e) e trivial
        have ea : addN fnd t₁ = fnd ++ [t₁] := if_neg c1
        rw [ea] at X
        exact sCont (hT _ _ ⟨n, _, _, Nat.lt_succ_self _, rfl, vs, rest, fnd ++ [t₁], _, _, X, hf.append (.cons ⟨_, rfl⟩ .nil), hm, m1, m2, m3, m4⟩)
      | false =>
        simp only [Bool.false_eq_true, if_false] at hm ⊢
        refine sNx ?_
        cases hx : B[t₁]? with
        | none => rw [hx] at hm; cases hm
        | some x =>
          rw [hx] at hm
          simp only at hm
          by_cases c2 : 1000 < x.args.length
          · replace hm := ieT c2 hm; cases hm
          replace hm := ieF c2 hm
          refine sExpr (MethodCall_ (nmL X m4 (getMethodList F.slot_list_append F.type_list_append (X.obj _ (.head _)) (callWith_method1 (args_cons ?_)))))
          refine Tuple_ (args_cons (nmL X rfl (args_cons (cBool (args_nil (newTup X fun h' Tb X => args_nil (appL (X.obj _ (.tail _ (.head _))) (pz1 hvl hrl) fun h' e sb => ?_)))))))
          have X := X.set1 (c' := .lst (vs ++ [Value.ref Tb])) (fun b o hb e => (sb.2 b hb).trans e) e trivial
          have X := (X.re (stkWd noWd (vs ++ [Value.ref Tb]) ((t₁, true) :: rest).reverse) rfl ⟨trivial, by
            rw [List.reverse_cons]
            exact X.inv.2.append (.cons ⟨Tb, u₁, rfl, X.obj _ (.head _)⟩ .nil)⟩).drop
          obtain ⟨va, hla, hA⟩ := hB.args
          obtain ⟨v, hv, a', rfl, hk⟩ := hA.get hx
          obtain ⟨us, hus, hul⟩ := key_isTup hk
          have husl := hul.len
          refine sFor (Call_ (nmB (X.gd g.G) (by k_is) boot_reversed (PyProof.Rows.callWith_type1 (args_cons (Subscript_ (Attribute_any_ (nmL X m1 (getA (X.gd g.G) cls388 (bank rfl X).attrs Cβ.core.args (by k_is) rfl fun tk => nmL X rfl ?_))))))))
          refine itL (hla.at fun o q => ext rfl X _ o q) hv (by rw [hA.len]; omega) ?_
          refine args_nil (revNew X ⟨_, .inr ⟨rfl, tupAt' hus fun o q => ext rfl X _ o q⟩⟩ (husl ▸ Nat.le_trans (Nat.not_lt.mp c2) (by decide)) fun h' it2 kd2 tk X hs => revIter X hs ?_)
          have hus2 : IsTup h' a' us.toArray := tupAt' hus fun o q => ext rfl X _ o q
          refine loopRv (vs := us) hr'.hh (fun k D m objs => E2 fun vs' st' => A8 (D = stkWd noWd vs' st'.reverse) (objs = [(S, .lst vs'), (itr, .sat (itS "tuple_iterator" T (0 + 1))), (d, .dic (dicOf fnd)), (Fo, .lst fvs)]) (vs'.length ≤ 100002 + (1000 - k)) (st' = ((x.args.drop k).filter fun a => decide (a ∉ fnd)).map (fun a => (a, false)) ++ (t₁, true) :: rest) (m "self" = some (.ref β.inst)) (m "found" = some (.ref Fo)) (m "done" = some (.ref d)) (m "stack" = some (.ref S))) (by omega) X
            ⟨_, _, rfl, rfl, Nat.le_trans (Nat.le_of_eq List.length_append) (pz5 hvl hrl), by rw [husl, List.drop_length]; rfl, m1, m2, m3, m4⟩ ?_ ?_ ?_
          · rintro k j D m m' objs h' Y ⟨vs', st', rfl, rfl, _⟩
            exact hs.to' (tupAt' hus fun o q => ext rfl Y _ o q) hus2
          · clear X hs hst hst₂ hst₃
            rintro k v D m objs h' t hv ⟨vs', st', rfl, rfl, hvl', hst', m1, m2, m3, m4⟩ X hs
            refine opq ?_
            intro TT hT
            obtain ⟨y, hy, uy, rfl⟩ := hul.get' hv
            have hlt : k < x.args.length := (List.getElem?_eq_some_iff.mp hy).1
            have hdr : x.args.drop k = y :: x.args.drop (k + 1) := by
              rw [List.drop_eq_getElem_cons hlt]
              congr 1
              rw [List.getElem?_eq_getElem hlt] at hy
              exact Option.some.inj hy
            refine sIf (wpAny_isTrue_Compare1 (nmL X rfl (nmL X m3 (notInD (X.obj _ (.tail _ (.tail _ (.tail _ (.head _))))) (X.lo g.G (by simp)) fun tk => wpAny_truthy_bool ?_))))
            by_cases c3 : y ∈ fnd
            · refine ifNT c3 ?_
              refine sNil (sNil (hT _ _ ⟨_, _, _, _, _, rfl, X, vs', st', rfl, rfl, pz3 hvl', ?_, m1, m2, m3, m4⟩))
              rw [hst', hdr, List.filter_cons_of_neg (by simpa using c3)]
            · refine ifNF c3 ?_
              refine sExpr (MethodCall_ (nmL X m4 (getMethodList F.slot_list_append F.type_list_append (X.obj _ (.tail _ (.head _))) (callWith_method1 (args_cons ?_)))))
              refine Tuple_ (args_cons (nmL X rfl (args_cons (cBool (args_nil (newTup X fun h' Tc X => args_nil (appL (X.obj _ (.tail _ (.tail _ (.head _)))) (pz2 hvl') fun h' e sb => ?_)))))))
              have X := X.set2 (c' := .lst (vs' ++ [Value.ref Tc])) (fun b o hb e => (sb.2 b hb).trans e) e trivial
              have X := (X.re (stkWd noWd (vs' ++ [Value.ref Tc]) ((y, false) :: st').reverse) rfl ⟨trivial, by
                rw [List.reverse_cons]
                exact X.inv.2.append (.cons ⟨Tc, uy, rfl, X.obj _ (.head _)⟩ .nil)⟩).drop
              refine sNil (sNil (hT _ _ ⟨_, _, _, _, _, rfl, X, _, _, rfl, rfl, Nat.le_trans (Nat.le_of_eq List.length_append) (pz4 hvl' hlt c2), ?_, m1, m2, m3, m4⟩))
              rw [hst', hdr, List.filter_cons_of_pos (by simpa using c3)]
              rfl
          · clear X hs hst hst₂ hst₃
            rintro D m objs h' t ⟨vs', st', rfl, rfl, hvl', hst', m1, m2, m3, m4⟩ X
            rw [List.drop_zero] at hst'
            subst hst'
            exact sNil (hT _ _ ⟨n, _, _, Nat.lt_succ_self _, rfl, vs', _, fnd, fvs, _, X, hf, hm, m1, m2, m3, m4⟩)
  · rintro D m objs h' t' ⟨rfl, m1, m2, m3, hobj⟩ X hs
    obtain ⟨fvs, rest, hf, rfl⟩ := hobj
    exact sRet (nmL X m2 (hR _ _ Fo fvs (ext rfl X) (X.fresh Fo mm).1 (X.obj _ (.tail _ (.head _))) hf))

theorem parts_spec {n t₀ : Nat} {ut : Tok} {found : List Nat} (Cβ : Cf w h₀ β) (g : Gnd w h₀ h) (hr : Room A 3) (hB : BankAt prog w β B h) (hsz : B.length ≤ 2 ^ 23) (hm : partsG B n [(t₀, false)] [] = some found)
    (hR : ∀ h' tk a vs, Ext h h' → h.get? a = none → h'.PlainList a vs.toArray → All2 IsI vs found → R (.ok (.ret (.ref a))) (St z h' tk)) :
    codeAny (model prog w) A (.call (.ref 273) ⟨[.ref β.inst, .int t₀ ut], []⟩) R (St z h t) := by
  refine enterF 273 [("self", .ref β.inst), ("t", .int t₀ ut)] g hr fun h₁ L A' tk en hns hr' => ?_
  have X := W.enter (prog := prog) noWd g trivial en hns
  have ext : ∀ {m : Str → Option Value} {objs : List (Addr × Cell)} {h' : Heap}, W prog w h₀ h noWd L h' m objs → Ext h h' := fun X b o e => X.keep b o List.not_mem_nil e
  have bank : ∀ {m : Str → Option Value} {objs : List (Addr × Cell)} {h' : Heap}, W prog w h₀ h noWd L h' m objs → BankAt prog w β B h' := fun X => hB.agree fun a o e _ => ext X a o e
  refine sRet (MethodCall_ (nmL X rfl (mB (X.gd g.G) cls388 (bank X).attrs (Cβ.full.meths _ (by decide)) (args_cons (Tuple_ (argsS X (.cons (.loc rfl) .nil) (newTup X fun h' T X => args_nil ⟨(X.gd g.G).K, ?_⟩))))))) 
  refine parts_of_all_spec Cβ (X.gnd g.G) hr' (bank X) hsz (X.obj _ (.head _)) hm fun h' tk a vs e ha hl hv => ?_
  refine hR _ _ a vs (fun b o q => e b o (ext X b o q)) ?_ hl hv
  cases q : h.get? a with
  | none => rfl
  | some o => rw [ext X a o q] at ha; cases ha
end
end Mine

-- Pick
namespace Mine

theorem Cell.dict_to {prog : Program} {w : World} {K : Type} [DecidableEq K] {knd : KeyKind prog w K} {h h' : Heap} {a : Addr} {kvs : List (K × Value)} (x : h.DictOf knd a kvs) (g : ∀ o, h.get? a = some o → h'.get? a = some o) : h'.DictOf knd a kvs :=
  let ⟨o, es, ep, e, r⟩ := x; ⟨o, es, ep, g _ e, r⟩
structure Hand where
  d : Addr
  cl : Addr
noncomputable def Hand.own (η : Hand) : List Addr := [η.d, η.cl]
structure HandIs (prog : Program) (w : World) (η : Hand) (h : Heap) (sp st : Int) (vs : List Value) : Prop where
  dict : ∃ u v, h.DictOf (strKind prog w) η.d [("cells", .ref η.cl), ("spot", .int sp u), ("stir", .int st v)]
  sp : 0 ≤ sp
  st : 0 ≤ st ∧ st < 1021
  cells : h.PlainList η.cl vs.toArray
  allInt : ∀ v ∈ vs, ∃ i u, v = .int i u
  len : vs.length ≤ 64
noncomputable def HandOk (prog : Program) (w : World) (η : Hand) (h : Heap) : Prop := ∃ sp st vs, HandIs prog w η h sp st vs
noncomputable def handWd (prog : Program) (w : World) (η : Hand) : Wd := ⟨η.own, HandOk prog w η, fun h h' x g => by
  obtain ⟨sp, st, vs, ⟨u, v, a⟩, b, c, d, e, f⟩ := x
  exact ⟨sp, st, vs, ⟨u, v, Cell.dict_to a fun o q => g _ o q (.inl (.head _))⟩, b, c, d.at fun o q => g _ o q (.inl (.tail _ (.head _))), e, f⟩,
  fun h x a ha => by
    obtain ⟨sp, st, vs, ⟨u, v, x⟩, b, c, d, e, f⟩ := x
    exact (fac (p := fun a => h.get? a ≠ none) (x.elim fun _ q => q.elim fun _ q => q.elim fun _ q => fun r => nomatch q.1.symm.trans r) (fac (plain_live d) fan)) a ha⟩

section
variable {prog : Program} {w : World} {A : Around} {E : Value → Shared → Prop} {z : Shared} {h₀ s₀ h : Heap} {t : Nat} {R : Result → Shared → Prop} {D D' : Wd} {L a it : Addr} {m : Str → Option Value} {objs : List (Addr × Cell)} {env : Env} {η : Hand}

theorem itD {value slice : Expr} {d : Addr} {kvs : List (Str × Value)} {k : Str} {u : Tok} {v : Value} {Q : Value → Shared → Prop} (hd : h.DictOf (strKind prog w) d kvs) (hx : valueAt kvs k = some v) (q : ∀ tk, Q v (St z h tk))
    (hs : subscripted slice false (.ref d) (.str k u) = operate [.ref d, .str k u] (getItem (.ref d) (.str k u)) := by with_unfolding_all rfl) :
    wpAny (model prog w) A (subscriptTail value slice (.ref d) (.str k u)) Q E (St z h t) :=
  tail_any (s := St z h t) hd.typeIs F.slot_dict_getitem.lookup (wpAny_getItem_of (s := St z h t) (knd := strKind prog w) (k := k) (strKind_is prog w k u) hd.mapOf hx (q _)) hs

theorem modN {i : Int} {k : Nat} {u v : Tok} {Q : Value → Shared → Prop} (hk : 0 < k) (q : ∀ (r : Nat) tk u, r < k → i.fmod k = r → Q (.int (r : Int) u) (St z h tk)) : wpAny (model prog w) A (binaryOp .Mod (.int i u) (.int (k : Int) v)) Q E (St z h t) := by
  have h1 : 0 ≤ i.fmod (k : Int) := Int.fmod_nonneg_of_pos _ (by omega)
  have h2 : i.fmod (k : Int) < (k : Int) := Int.fmod_lt_of_pos _ (by omega)
  obtain ⟨r, hr⟩ := Int.eq_ofNat_of_zero_le h1
  refine PySem.AutoIntOps.mod_1 (s := St z h t) (by simp; omega) ?_
  show Q (.int (i.fmod k) t) (St z h (t + 1))
  rw [hr]
  exact q r _ _ (by omega) hr

set_option tactic.hygienic true in
theorem noPylong {i : Int} {k : Nat} (hk : k ≤ 1000) : Builtin.divisionGoesByPylong i (k : Int) = false := by
  unfold Builtin.divisionGoesByPylong
  have : ¬ ((if ((k : Int) == 0) = true then 0 else (k : Int).natAbs.log2 / 30 + 1) > 300) := by
    split
    · omega
    · have : (k : Int).natAbs.log2 ≤ 10 := by
        simp only [Int.natAbs_natCast]
        rcases Nat.eq_zero_or_pos k with rfl | hp
        · rename_i h; simp at h
        · have := (Nat.log2_lt (by omega : k ≠ 0) (k := 11)).mpr (by omega)
          omega
      omega
  simp only [this, decide_false, Bool.false_and]

theorem pick_spec {many : Nat} {um : Tok} (g : Gnd w h₀ h) (hr : Room A 1) (hI : HandOk prog w η h) (hnew : h₀.get? η.d = none) (hmany : 0 < many) (hml : many ≤ 100)
    (hR : ∀ h' tk u (r : Nat), r < many → HandOk prog w η h' → Keep η.own h h' → Ext h₀ h' → R (.ok (.ret (.int (r : Int) u))) (St z h' tk)) :
    codeAny (model prog w) A (.call (.ref 524) ⟨[.ref η.d, .int (many : Int) um], []⟩) R (St z h t) := by
  refine enterF 524 [("hand", .ref η.d), ("many", .int (many : Int) um)] g hr fun h₁ L A' tk en hns hr' => ?_
  have X := W.enter (prog := prog) (handWd prog w η) g hI en hns
  obtain ⟨sp, st, vs, ⟨ua, ub, hd⟩, h1, h2, hc, hi, hlen⟩ := X.inv
  have hne : η.d ≠ η.cl := by
    obtain ⟨n, e'⟩ := hc
    obtain ⟨o, es, ep, e2, hx, _⟩ := hd
    exact ne_get e2 e' fun r => absurd (r ▸ hx.1) (by simp)
  have set : ∀ {h' h'' : Heap} {m : Str → Option Value} {objs : List (Addr × Cell)} {sp st : Int}, W prog w h₀ h (handWd prog w η) L h' m objs → h'.PlainList η.cl vs.toArray → Heap.SameBut η.d h' h'' → (∃ u v, h''.DictOf (strKind prog w) η.d [("cells", .ref η.cl), ("spot", .int sp u), ("stir", .int st v)]) → 0 ≤ sp → 0 ≤ st ∧ st < 1021 →
      W prog w h₀ h (handWd prog w η) L h'' m objs ∧ h''.PlainList η.cl vs.toArray := fun X hc sb hd a b => by
    have hc' := hc.at fun o q => (sb.2 _ hne.symm).trans q
    refine ⟨X.call (D' := handWd prog w η) rfl (fun b o hb e => (sb.2 b ?_).trans e) (fun b o e => (sb.2 b ?_).trans (X.ext b o e)) ⟨_, _, vs, hd, a, b, hc', hi, hlen⟩, hc'⟩
    · rintro rfl; exact hb (by simp [handWd, Hand.own])
    · rintro rfl; rw [hnew] at e; cases e
  refine sAsgSub (wpAny_BinOp (Subscript_ (nmL X rfl (cStr fun u tk => itD hd rfl fun tk => cInt fun u2 tk => PySem.P.add_int (s := St z _ _) ?_))))
  refine nmL X rfl (cStr fun u3 tk => ?_)
  refine wpAny_setItem_pairs (s := St z _ _) (knd := strKind prog w) (k := "spot") (strKind_is prog w "spot" _) hd (fun h' e sb => ?_) (by simp [sizeLine])
  obtain ⟨X, hc⟩ := set (sp := sp + 1) (st := st) X hc sb ⟨_, _, e⟩ (by omega) h2
  have hd : h'.DictOf (strKind prog w) η.d [("cells", .ref η.cl), ("spot", .int (sp + 1) _), ("stir", .int st ub)] := e
  refine sIf (wpAny_isTrue_Compare1 (Subscript_ (nmL (t := _) X rfl (cStr fun u tk => itD hd rfl fun tk => ?_))))
  refine Call_ (nmB (X.gd g.G) (by k_is) boot_len (PyProof.Rows.callWith_builtin1 (args_cons (Subscript_ (nmL X rfl (cStr fun u tk => itD hd rfl fun tk => args_nil (lenL hc (by omega) fun u tk => ?_)))))))
  refine PySem.P.le_int (wpAny_truthy_bool ?_)
  by_cases c1 : sp + 1 ≤ (vs.length : Int)
  · refine ifT c1 ?_
    obtain ⟨n, rfl⟩ := Int.eq_ofNat_of_zero_le h1
    obtain ⟨v, hv⟩ : ∃ v, vs[n]? = some v := ⟨vs[n]'(by omega), by simp⟩
    obtain ⟨i, ui, rfl⟩ := hi v (List.mem_of_getElem? hv)
    refine sRet (wpAny_BinOp (Subscript_ (Subscript_ (nmL X rfl (cStr fun u tk => itD hd rfl fun tk => wpAny_BinOp (Subscript_ (nmL X rfl (cStr fun u tk => itD hd rfl fun tk => cInt fun u tk => PySem.P.sub_int (s := St z _ _) ?_))))))))
    have en : ((n : Int) + 1 - 1) = (n : Int) := by omega
    rw [en]
    refine itL (t := _ + 1) hc hv (by omega) (nmL X rfl (modN hmany fun r tk u hr _ => ?_))
    exact hR _ _ _ r hr X.inv X.keep X.ext
  · refine ifF c1 ?_
    refine sNx (sAsgSub (wpAny_BinOp (wpAny_BinOp (wpAny_BinOp (Subscript_ (nmL X rfl (cStr fun u tk => itD hd rfl fun tk => cInt fun u2 tk => PySem.P.mul_int (s := St z _ _) ?_ ?_)))))))
    · refine cInt (t := _ + 1) fun u tk => PySem.P.add_int (s := St z _ _) ?_
      refine cInt (t := _ + 1) fun u tk => modN (k := 1021) (by decide) fun st' tk u hst _ => ?_
      refine nmL X rfl (cStr fun u3 tk => ?_)
      refine wpAny_setItem_pairs (s := St z _ _) (knd := strKind prog w) (k := "stir") (strKind_is prog w "stir" _) hd (fun h' e sb => ?_) (by simp [sizeLine])
      obtain ⟨X, hc⟩ := set (sp := sp + 1) (st := st') X hc sb ⟨_, _, e⟩ (by omega) ⟨by omega, by omega⟩
      have hd : h'.DictOf (strKind prog w) η.d [("cells", .ref η.cl), ("spot", .int (sp + 1) _), ("stir", .int (st' : Int) _)] := e
      refine sRet (wpAny_BinOp (wpAny_BinOp (Subscript_ (nmL (t := _) X rfl (cStr fun u tk => itD hd rfl fun tk => cInt fun u2 tk => PySem.AutoIntOps.floordiv_1 (s := St z _ _) (by simp) (by rw [show (3 : Int) = ((3 : Nat) : Int) from rfl, noPylong (by decide)]; simp) ?_)))))
      show wpAny _ _ _ _ _ (St z _ (_ + 1))
      refine nmL X rfl (modN hmany fun r tk u hr _ => ?_)
      exact hR _ _ _ r hr X.inv X.keep X.ext
    · exact PySem.IntMulOk.of_right (by decide)
end
end Mine

-- Cond
namespace Mine

noncomputable def lawWd (prog : Program) (w : World) (β : Adr) (η : Hand) (B : List Tm) : Wd := ⟨β.own ++ η.own, fun h => BankAt prog w β B h ∧ HandOk prog w η h,
  fun h h' x g => ⟨x.1.agree fun a o e q => g a o e (q.imp_left fun q => List.mem_append_left _ q), (handWd prog w η).stab h h' x.2 fun a o e q => g a o e (q.imp_left fun q => List.mem_append_right _ q)⟩,
  fun h x a ha => (List.mem_append.mp ha).elim (x.1.live a) ((handWd prog w η).live h x.2 a)⟩
structure LawOk (w : World) (h₀ : Heap) (β : Adr) (ρ : Rho) (η : Hand) (tl th : Addr) : Prop where
  cf : Cf w h₀ β
  rw : RwOk β ρ
  rinst : ρ.inst ∉ β.own ++ η.own
  rdict : ρ.dict ∉ β.own ++ η.own
  disj : ∀ a ∈ β.own, a ∉ η.own
  newη : ∀ a ∈ η.own, h₀.get? a = none
  tl : tl ∉ β.own ++ η.own
  th : th ∉ β.own ++ η.own
structure LawAt (ρ : Rho) (tl th : Addr) (h : Heap) : Prop where
  r : RAt ρ h
  tl : ∃ vs : List Value, h.PlainList tl vs.toArray ∧ All2 IsI vs [3, 4, 5]
  th : ∃ vs : List Value, h.PlainList th vs.toArray ∧ All2 IsI vs [6, 7, 8]

section
variable {prog : Program} {w : World} {A : Around} {E : Value → Shared → Prop} {z : Shared} {h₀ s₀ h : Heap} {t : Nat} {R : Result → Shared → Prop} {D D' : Wd} {L a it tl th : Addr} {m : Str → Option Value} {objs : List (Addr × Cell)} {env : Env} {η : Hand} {β : Adr} {ρ : Rho} {B B' : List Tm}

theorem LawAt.keep {h' : Heap} (O : LawOk w h₀ β ρ η tl th) (x : LawAt ρ tl th h) (k : Keep (β.own ++ η.own) h h') : LawAt ρ tl th h' := by
  obtain ⟨r, ⟨vs, a, b⟩, ⟨us, c, d⟩⟩ := x
  exact ⟨attrs_to r (fun o e => k _ _ O.rinst e) (fun o e => k _ _ O.rdict e), ⟨vs, a.at fun o e => k _ _ O.tl e, b⟩, ⟨us, c.at fun o e => k _ _ O.th e, d⟩⟩
theorem LawAt.to {h' : Heap} (O : LawOk w h₀ β ρ η tl th) (x : LawAt ρ tl th s₀) (X : W prog w h₀ s₀ (lawWd prog w β η B) L h' m objs) : LawAt ρ tl th h' := x.keep O X.keep

/-- after a call on the bank -/
theorem W.lawB {h' : Heap} (O : LawOk w h₀ β ρ η tl th) (X : W prog w h₀ s₀ (lawWd prog w β η B) L h m objs) (hB : BankAt prog w β B' h') (k : Keep β.own h h') (e : Ext h₀ h') : W prog w h₀ s₀ (lawWd prog w β η B') L h' m objs := by
  refine X.call (D' := lawWd prog w β η B') rfl (k.more fun c hc => List.mem_append_left _ hc) e ⟨hB, ?_⟩
  obtain ⟨sp, st, vs, ⟨u, v, a⟩, b, c, d, e, f⟩ := X.inv.2
  have off : ∀ a ∈ η.own, a ∉ β.own := fun a ha hb => O.disj a hb ha
  exact ⟨sp, st, vs, ⟨u, v, Cell.dict_to a fun o q => k _ _ (off _ (by simp [Hand.own])) q⟩, b, c, d.at fun o q => k _ _ (off _ (by simp [Hand.own])) q, e, f⟩
/-- after a pick -/
theorem W.lawH {h' : Heap} (O : LawOk w h₀ β ρ η tl th) (X : W prog w h₀ s₀ (lawWd prog w β η B) L h m objs) (hH : HandOk prog w η h') (k : Keep η.own h h') (e : Ext h₀ h') : W prog w h₀ s₀ (lawWd prog w β η B) L h' m objs := by
  have hnt : ∀ a ∈ η.own, ∀ o, h.get? a = some o → ¬ isTupObj o := by
    obtain ⟨sp, st, vs, ⟨u, v, x⟩, b, c, d, e, f⟩ := X.inv.2
    intro a ha o eo
    simp only [Hand.own, List.mem_cons, List.not_mem_nil, or_false] at ha
    rcases ha with rfl | rfl
    · intro q
      obtain ⟨o', _, _, e', hx, _⟩ := x
      rw [eo] at e'; cases e'
      have := q.1; rw [hx.1] at this; simp at this
    · exact plain_notTup d o eo
  refine X.call (D' := lawWd prog w β η B) rfl (k.more fun c hc => List.mem_append_right _ hc) e ⟨X.inv.1.agree fun a o eo q => k a o (fun ha => ?_) eo, hH⟩
  rcases q with q | q
  · exact O.disj a q ha
  · exact hnt a ha o eo q

/-- _law_pick(hand, k), called by name -/
theorem pickW {many : Nat} {um : Tok} {Q : Value → Shared → Prop} (O : LawOk w h₀ β ρ η tl th) (G : Gd w h₀) (hr : Room A 1) (X : W prog w h₀ s₀ (lawWd prog w β η B) L h m objs) (hk0 : 0 < many) (hk : many ≤ 100)
    (q : ∀ h' tk u (r : Nat), r < many → W prog w h₀ s₀ (lawWd prog w β η B) L h' m objs → Q (.int (r : Int) u) (St z h' tk)) :
    codeAny (model prog w) A (.call (.ref 524) ⟨[.ref η.d, .int (many : Int) um], []⟩) (Wants Q NE) (St z h t) :=
  pick_spec (X.gnd G) hr X.inv.2 (O.newη _ (by simp [Hand.own])) hk0 hk fun h' tk u r hr hH k e => q _ _ _ r hr (X.lawH O hH k e)

noncomputable def CondOk (prog : Program) (w : World) (h₀ : Heap) (β : Adr) (ρ : Rho) (η : Hand) (tl th : Addr) (dd k : Nat) : Prop :=
  ∀ (A : Around) (z : Shared) (h : Heap) (t : Nat) (R : Result → Shared → Prop) (K : Nat → List Tm → Prop) (ud : Tok) (B : List Tm), Room A k → Gnd w h₀ h → (lawWd prog w β η B).I h → LawAt ρ tl th h → condW dd B K → B.length ≤ 2 ^ 23 →
    (∀ h' tk u r B', K r B' → B'.length ≤ 2 ^ 23 → (lawWd prog w β η B').I h' → Keep (β.own ++ η.own) h h' → Ext h₀ h' → R (.ok (.ret (.int (r : Int) u))) (St z h' tk)) →
    codeAny (model prog w) A (.call (.ref 543) ⟨[.ref η.d, .ref ρ.inst, .ref tl, .ref th, .int (dd : Int) ud], []⟩) R (St z h t)

theorem lt3 {l : List Nat} {vs : List Value} {b r : Nat} (hv : All2 IsI vs [b, b + 1, b + 2]) (hr : r < 3) : ∃ u, vs[r]? = some (.int ((b + r : Nat) : Int) u) := by
  have : [b, b + 1, b + 2][r]? = some (b + r) := lt3s (p := fun r => [b, b + 1, b + 2][r]? = some (b + r)) rfl rfl rfl hr
  obtain ⟨u, h⟩ := hv.getF this
  exact ⟨u, h⟩

theorem la50 {way : Nat} (c1 : ¬ (way : Int) < 2) (c2 : ¬ way = 2) (c3 : ¬ way = 3) (h : way < 4) : False := (by decide : ∀ k : Nat, k < 4 → ¬ (k : Int) < 2 → ¬ k = 2 → ¬ k = 3 → False) way h c1 c2 c3
theorem la51 {way : Nat} (c1 : ¬ (way : Int) < 2) (c2 : ¬ way = 2) (c3 : ¬ way = 3) (c6 : ¬ way = 6) (h : way < 7) : way = 4 ∨ way = 5 :=
  (by decide : ∀ k : Nat, k < 7 → (¬ (k : Int) < 2 ∧ ¬ k = 2 ∧ ¬ k = 3 ∧ ¬ k = 6) → k = 4 ∨ k = 5) way h ⟨c1, c2, c3, c6⟩
theorem la52 {way : Nat} (h : way = 4 ∨ way = 5) : (way : Int) - 4 = ((way - 4 : Nat) : Int) := by rcases h with rfl | rfl <;> rfl
theorem la53 {way : Nat} (h : way = 4 ∨ way = 5) : way - 4 < 2 ^ 60 := by rcases h with rfl | rfl <;> decide
theorem condition_core {dd k : Nat} (O : LawOk w h₀ β ρ η tl th) (hdd : dd = 0 ∨ dd = 1) (hk : 8 ≤ k) (hrec : dd = 1 → CondOk prog w h₀ β ρ η tl th 0 8 ∧ 22 ≤ k) : CondOk prog w h₀ β ρ η tl th dd k := by
  intro A z h t R K ud B hr g hI hL hW hsz hR
  obtain ⟨k, rfl⟩ : ∃ n, k = n + 1 := ⟨k - 1, (Nat.succ_pred (Nat.ne_of_gt (Nat.lt_of_lt_of_le (by decide) hk))).symm⟩
  refine enterF 543 [("hand", .ref η.d), ("rewriter", .ref ρ.inst), ("truths", .ref tl), ("things", .ref th), ("deep", .int (dd : Int) ud)] g hr fun h₁ L A' tk en hns hr' => ?_
  have rm : Room A' 7 := hr'.less (Nat.le_of_succ_le_succ hk)
  have X := W.enter (prog := prog) (lawWd prog w β η B) g hI en hns
  have hW0 := condW_base hW
  have hlim : ∃ lim : Nat, lim = (if dd = 0 then 4 else 7) := ⟨_, rfl⟩
  -- way
  refine sAsg (cG (g := 524) (X.gd g.G) (args_cons (nmL X rfl (args_cons (wpAny_mono (Q := fun v s₁ => ∃ tk u, v = .int ((if dd = 0 then 4 else 7 : Nat) : Int) u ∧ s₁ = St z h₁ tk) ?_ ?_ fun _ _ e => e)))))
  · refine wpAny_IfExp (wpAny_isTrue_Compare1 (nmL X rfl (cInt fun u tk => PySem.P.gt_int (wpAny_truthy_bool ?_))))
    rcases hdd with rfl | rfl
    · exact cInt fun u tk => ⟨_, _, rfl, rfl⟩
    · exact cInt fun u tk => ⟨_, _, rfl, rfl⟩
  rintro v s₁ ⟨tk, u, rfl, rfl⟩
  refine args_nil ⟨(X.gd g.G).K, pickW O g.G (rm.less (by decide)) X (by split <;> decide) (by split <;> decide) fun h' tk u way hway X => ?_⟩
  refine stL X fun h' tk X => ?_
  -- way < 2
  refine sIf (wpAny_isTrue_Compare1 (nmL X rfl (cInt fun u tk => PySem.P.lt_int (wpAny_truthy_bool ?_))))
  by_cases c1 : (way : Int) < 2
  · refine ifT c1 ?_
    refine sRet (Subscript_ (nmL X rfl (cG (g := 524) (X.gd g.G) (args_cons (nmL X rfl (args_cons (cInt fun u tk => args_nil ⟨(X.gd g.G).K, pickW (many := 3) O g.G (rm.less (by decide)) X (by decide) (by decide) fun h' tk u r hr3 X => ?_⟩)))))))
    obtain ⟨vs, hl, hv⟩ := (hL.to O X).tl
    obtain ⟨uu, hvr⟩ := lt3 (b := 3) (l := []) hv hr3
    exact itL hl hvr (by rw [hv.len]; decide) (hR _ _ _ _ _ (hW0.1 r hr3) hsz X.inv X.keep X.ext)
  refine ifF c1 ?_
  refine sNx (sIf (wpAny_isTrue_Compare1 (nmL X rfl (cInt fun u tk => eqN (b := 2) (wpAny_truthy_bool ?_)))))
  by_cases c2 : way = 2
  · refine ifT c2 ?_
    refine sAsg (Subscript_ (nmL X rfl (cG (g := 524) (X.gd g.G) (args_cons (nmL X rfl (args_cons (cInt fun u tk => args_nil ⟨(X.gd g.G).K, pickW (many := 3) O g.G (rm.less (by decide)) X (by decide) (by decide) fun h' tk u i hi X => ?_⟩)))))))
    obtain ⟨vs, hl, hv⟩ := (hL.to O X).th
    obtain ⟨uu, hvr⟩ := lt3 (b := 6) (l := []) hv hi
    refine itL hl hvr (by rw [hv.len]; decide) (stL X fun h' tk X => ?_)
    refine sRet (MethodCall_ (nmL X rfl (mB (X.gd g.G) cls513 (hL.to O X).r (O.rw.meths _ (by decide)) (args_cons (nmL X rfl (args_cons ?_))))))
    refine Subscript_ (nmL X rfl (cG (g := 524) (X.gd g.G) (args_cons (nmL X rfl (args_cons (cInt fun u tk => args_nil ⟨(X.gd g.G).K, ?_⟩))))))
    refine pickW (many := 3) O g.G (rm.less (by decide)) X (by decide) (by decide) fun h' tk u j hj X => ?_
    obtain ⟨vs, hl, hv⟩ := (hL.to O X).th
    obtain ⟨uv, hvr⟩ := lt3 (b := 6) (l := []) hv hj
    refine itL hl hvr (by rw [hv.len]; decide) (args_nil ⟨(X.gd g.G).K, ?_⟩)
    obtain ⟨r, B', hm, hB', hK⟩ := hW0.2.1 i j hi hj
    refine equal_spec O.cf O.rw (hL.to O X).r (X.gnd g.G) (rm.less (by decide)) X.inv.1 hm hsz fun h' tk u hB k e => ?_
    have X := X.lawB O hB k e
    exact hR _ _ _ _ _ hK hB' X.inv X.keep X.ext
  refine ifF c2 ?_
  refine sNx (sIf (wpAny_isTrue_Compare1 (nmL X rfl (cInt fun u tk => eqN (b := 3) (wpAny_truthy_bool ?_)))))
  by_cases c3 : way = 3
  · refine ifT c3 ?_
    refine sRet (MethodCall_ (nmL X rfl (mB (X.gd g.G) cls513 (hL.to O X).r (O.rw.meths _ (by decide)) (args_cons ?_))))
    refine Subscript_ (nmL X rfl (cG (g := 524) (X.gd g.G) (args_cons (nmL X rfl (args_cons (cInt fun u tk => args_nil ⟨(X.gd g.G).K, ?_⟩))))))
    refine pickW (many := 3) O g.G (rm.less (by decide)) X (by decide) (by decide) fun h' tk u j hj X => ?_
    obtain ⟨vs, hl, hv⟩ := (hL.to O X).tl
    obtain ⟨uv, hvr⟩ := lt3 (b := 3) (l := []) hv hj
    refine itL hl hvr (by rw [hv.len]; decide) (args_nil ⟨(X.gd g.G).K, ?_⟩)
    obtain ⟨r, B', hm, hB', hK⟩ := hW0.2.2 j hj
    refine negated_spec O.cf O.rw (hL.to O X).r (X.gnd g.G) (rm.less (by decide)) X.inv.1 hm hsz fun h' tk u hB k e => ?_
    have X := X.lawB O hB k e
    exact hR _ _ _ _ _ hK hB' X.inv X.keep X.ext
  refine ifF c3 ?_
  rcases hdd with rfl | rfl
  · exfalso
    exact la50 c1 c2 c3 hway
  obtain ⟨rec0, hk22⟩ := hrec rfl
  have rm2 : Room A' 21 := hr'.less (Nat.le_of_succ_le_succ hk22)
  have hW1 := hW.2
  refine sNx (sAsg (cG (g := 543) (X.gd g.G) (args_cons (nmL X rfl (args_cons (nmL X rfl (args_cons (nmL X rfl (args_cons (nmL X rfl (args_cons (cInt fun u tk => args_nil ⟨(X.gd g.G).K, ?_⟩)))))))))))) 
  refine rec0 _ _ _ _ _ (fun one B₁ => runW (notOf one) B₁ K ∧ condW0 B₁ (fun two B₂ => ∀ op : Op, (op = Op.and ∨ op = Op.or) → runW (joinM DEPTH op [one, two]) B₂ K)) _ B (rm2.less (by decide)) (X.gnd g.G) X.inv (hL.to O X) hW1 hsz fun h' tk uo one B₁ hK1 hsz₁ hI₁ k₁ e₁ => ?_
  have X := X.call (D' := lawWd prog w β η B₁) rfl k₁ e₁ hI₁
  refine stL X fun h' tk X => ?_
  refine sIf (wpAny_isTrue_Compare1 (nmL X rfl (cInt fun u tk => eqN (b := 6) (wpAny_truthy_bool ?_))))
  by_cases c6 : way = 6
  · refine ifT c6 ?_
    obtain ⟨r, B', hm, hB', hK⟩ := hK1.1
    refine sRet (MethodCall_ (nmL X rfl (mB (X.gd g.G) cls513 (hL.to O X).r (O.rw.meths _ (by decide)) (argsS X (.cons (.loc rfl) .nil) ⟨(X.gd g.G).K, ?_⟩))))
    refine negated_spec O.cf O.rw (hL.to O X).r (X.gnd g.G) (rm.less (by decide)) X.inv.1 hm hsz₁ fun h' tk u hB k e => ?_
    have X := X.lawB O hB k e
    exact hR _ _ _ _ _ hK hB' X.inv X.keep X.ext
  refine ifF c6 ?_
  have hway' : way < 7 := hway
  refine sNx (sRet (MethodCall_ (nmL X rfl (mB (X.gd g.G) cls513 (hL.to O X).r (O.rw.meths _ (by decide)) (args_cons (Subscript_ (Tuple_ (args_cons (cStr fun u1 tk => args_cons (cStr fun u2 tk => args_nil (newTup X fun h' T X => ?_)))))))))))
  refine wpAny_BinOp (nmL X rfl (cInt fun u tk => PySem.P.sub_int (s := St z _ _) ?_))
  have h45 := la51 c1 c2 c3 c6 hway'
  obtain ⟨op, hop, hstr⟩ : ∃ op : Op, (op = .and ∨ op = .or) ∧ ∃ us, [Value.str "and" u1, Value.str "or" u2][way - 4]? = some (.str op.str us) := by
    rcases h45 with h | h
    · exact ⟨.and, .inl rfl, u1, by rw [h]; rfl⟩
    · exact ⟨.or, .inr rfl, u2, by rw [h]; rfl⟩
  obtain ⟨us, hstr⟩ := hstr
  refine itT (t := _ + 1) (i := way - 4) (X.obj _ (.head _)) hstr (la52 h45) (la53 h45) (args_cons (List_ (args_cons (nmL X rfl (args_cons ?_)))))
  refine cG (g := 543) (X.gd g.G) (args_cons (nmL X rfl (args_cons (nmL X rfl (args_cons (nmL X rfl (args_cons (nmL X rfl (args_cons (cInt fun u tk => args_nil ⟨(X.gd g.G).K, ?_⟩))))))))))
  refine rec0 _ _ _ _ _ (fun two B₂ => ∀ op : Op, (op = Op.and ∨ op = Op.or) → runW (joinM DEPTH op [one, two]) B₂ K) _ B₁ (rm2.less (by decide)) (X.gnd g.G) X.inv (hL.to O X) hK1.2 hsz₁ fun h' tk ut two B₂ hK2 hsz₂ hI₂ k₂ e₂ => ?_
  have X := X.call (D' := lawWd prog w β η B₂) rfl k₂ e₂ hI₂
  refine args_nil (newLst X fun h' Kl X => args_nil ⟨(X.gd g.G).K, ?_⟩)
  obtain ⟨r, B', hm, hB', hK⟩ := hK2 op hop
  refine joined_spec O.cf O.rw 4 _ _ _ _ _ op us _ [one, two] Kl B₂ B' r (rm2.less (by decide)) (X.gnd g.G) (hL.to O X).r X.inv.1 (X.obj _ (.head _)) (fun q => (X.fresh Kl mm).2 (List.mem_append_left _ q)) (.cons ⟨_, rfl⟩ (.cons ⟨_, rfl⟩ .nil)) hop hm hB' fun h' tk u hB k e => ?_
  have X := X.lawB O hB k e
  exact hR _ _ _ _ _ hK hB' X.inv X.keep X.ext

theorem condition0_spec (O : LawOk w h₀ β ρ η tl th) : CondOk prog w h₀ β ρ η tl th 0 8 := condition_core O (.inl rfl) (by decide) (fun h => by cases h)
theorem condition1_spec (O : LawOk w h₀ β ρ η tl th) : CondOk prog w h₀ β ρ η tl th 1 24 := condition_core O (.inr rfl) (by decide) (fun _ => ⟨condition0_spec O, by decide⟩)
end
end Mine

-- Bran
namespace Mine

section
variable {prog : Program} {w : World} {A : Around} {E : Value → Shared → Prop} {z : Shared} {h₀ s₀ h : Heap} {t : Nat} {R : Result → Shared → Prop} {D D' : Wd} {L a it tl th : Addr} {m : Str → Option Value} {objs : List (Addr × Cell)} {env : Env} {η : Hand} {β : Adr} {ρ : Rho} {B B' : List Tm}

noncomputable def BranchOk (prog : Program) (w : World) (h₀ : Heap) (β : Adr) (ρ : Rho) (η : Hand) (tl th : Addr) (f : Addr) (W : Nat → List Tm → (Nat → List Tm → Prop) → Prop) (dd k : Nat) : Prop :=
  ∀ (A : Around) (z : Shared) (h : Heap) (t : Nat) (R : Result → Shared → Prop) (K : Nat → List Tm → Prop) (ud : Tok) (B : List Tm), Room A k → Gnd w h₀ h → (lawWd prog w β η B).I h → LawAt ρ tl th h → W dd B K → B.length ≤ 2 ^ 23 →
    (∀ h' tk u r B', K r B' → B'.length ≤ 2 ^ 23 → (lawWd prog w β η B').I h' → Keep (β.own ++ η.own) h h' → Ext h₀ h' → R (.ok (.ret (.int (r : Int) u))) (St z h' tk)) →
    codeAny (model prog w) A (.call (.ref f) ⟨[.ref η.d, .ref ρ.inst, .ref tl, .ref th, .int (dd : Int) ud], []⟩) R (St z h t)

theorem branch_spec (O : LawOk w h₀ β ρ η tl th) : ∀ dd, BranchOk prog w h₀ β ρ η tl th 550 branchW dd (24 + dd) := by
  intro dd
  induction dd with
  | zero =>
    intro A z h t R K ud B hr g hI hL hW hsz hR
    refine enterF 550 [("hand", .ref η.d), ("rewriter", .ref ρ.inst), ("truths", .ref tl), ("things", .ref th), ("deep", .int ((0 : Nat) : Int) ud)] g hr fun h₁ L A' tk en hns hr' => ?_
    have X := W.enter (prog := prog) (lawWd prog w β η B) g hI en hns
    refine sIf (orT (wpAny_isTrue_Compare1 (nmL X rfl (cInt fun u tk => eqN (b := 0) (wpAny_truthy_bool ?_)))))
    refine ifT rfl ?_
    refine sRet (Subscript_ (nmL X rfl (cG (g := 524) (X.gd g.G) (args_cons (nmL X rfl (args_cons (cInt fun u tk => args_nil ⟨(X.gd g.G).K, ?_⟩)))))))
    refine pickW (many := 3) O g.G (hr'.less (by decide)) X (by decide) (by decide) fun h' tk u j hj X => ?_
    obtain ⟨vs, hl, hv⟩ := (hL.to O X).th
    obtain ⟨uv, hvr⟩ := lt3 (b := 6) (l := []) hv hj
    exact itL hl hvr (by rw [hv.len]; decide) (hR _ _ _ _ _ (hW j hj) hsz X.inv X.keep X.ext)
  | succ dd ih =>
    intro A z h t R K ud B hr g hI hL hW hsz hR
    refine enterF (n := 24 + dd) 550 [("hand", .ref η.d), ("rewriter", .ref ρ.inst), ("truths", .ref tl), ("things", .ref th), ("deep", .int ((dd + 1 : Nat) : Int) ud)] g hr fun h₁ L A' tk en hns hr' => ?_
    have rm : Room A' 24 := hr'.less (Nat.le_add_right 24 dd)
    have X := W.enter (prog := prog) (lawWd prog w β η B) g hI en hns
    refine sIfP (fun b s => E2 fun h' tk => s = St z h' tk ∧ W prog w h₀ h (lawWd prog w β η B) L h' (lk [("hand", .ref η.d), ("rewriter", .ref ρ.inst), ("truths", .ref tl), ("things", .ref th), ("deep", .int ((dd + 1 : Nat) : Int) ud)]) []) (fun P' hP => orT (wpAny_isTrue_Compare1 (nmL X rfl (cInt fun u tk => eqN (b := 0) (wpAny_truthy_bool ?_))))) ?_
    · refine ifF (by omega) ?_
      refine wpAny_isTrue_Compare1 (cG (g := 524) (X.gd g.G) (args_cons (nmL X rfl (args_cons (cInt fun u tk => args_nil ⟨(X.gd g.G).K, ?_⟩)))))
      refine pickW (many := 3) O g.G (rm.less (by decide)) X (by decide) (by decide) fun h' tk u j hj X => ?_
      exact cInt fun u tk => PySem.P.lt_int (wpAny_truthy_bool (hP _ _ ⟨_, _, rfl, X⟩))
    clear X
    rintro b s ⟨h', tk, rfl, X⟩
    cases b with
    | true =>
      refine if1 ?_
      refine sRet (Subscript_ (nmL X rfl (cG (g := 524) (X.gd g.G) (args_cons (nmL X rfl (args_cons (cInt fun u tk => args_nil ⟨(X.gd g.G).K, ?_⟩)))))))
      refine pickW (many := 3) O g.G (rm.less (by decide)) X (by decide) (by decide) fun h' tk u j hj X => ?_
      obtain ⟨vs, hl, hv⟩ := (hL.to O X).th
      obtain ⟨uv, hvr⟩ := lt3 (b := 6) (l := []) hv hj
      exact itL hl hvr (by rw [hv.len]; decide) (hR _ _ _ _ _ (branchW_base hW j hj) hsz X.inv X.keep X.ext)
    | false =>
      refine if0 ?_
      refine sNx (sAsg (cG (g := 543) (X.gd g.G) (args_cons (nmL X rfl (args_cons (nmL X rfl (args_cons (nmL X rfl (args_cons (nmL X rfl (args_cons (cInt fun u tk => args_nil ⟨(X.gd g.G).K, ?_⟩))))))))))))
      refine condition0_spec O _ _ _ _ _ (fun c B₁ => branchW dd B₁ fun one B₂ => branchW dd B₂ fun two B₃ => runW (chosenM c one two) B₃ K) _ B (rm.less (by decide)) (X.gnd g.G) X.inv (hL.to O X) hW.2 hsz fun h' tk uc c B₁ hK₁ hsz₁ hI₁ k₁ e₁ => ?_
      have X := X.call (D' := lawWd prog w β η B₁) rfl k₁ e₁ hI₁
      refine stL X fun h' tk X => ?_
      have ed : (((dd + 1 : Nat) : Int) - 1) = (dd : Int) := by omega
      refine sAsg (cG (g := 550) (X.gd g.G) (args_cons (nmL X rfl (args_cons (nmL X rfl (args_cons (nmL X rfl (args_cons (nmL X rfl (args_cons (wpAny_BinOp (nmL X rfl (cInt fun u tk => PySem.P.sub_int (s := St z _ _) ?_)))))))))))))
      rw [ed]
      refine args_nil ⟨(X.gd g.G).K, ?_⟩
      refine ih _ _ _ _ _ (fun one B₂ => branchW dd B₂ fun two B₃ => runW (chosenM c one two) B₃ K) _ B₁ hr' (X.gnd g.G) X.inv (hL.to O X) hK₁ hsz₁ fun h' tk uo one B₂ hK₂ hsz₂ hI₂ k₂ e₂ => ?_
      have X := X.call (D' := lawWd prog w β η B₂) rfl k₂ e₂ hI₂
      refine stL X fun h' tk X => ?_
      refine sRet (MethodCall_ (nmL X rfl (mB (X.gd g.G) cls513 (hL.to O X).r (O.rw.meths _ (by decide)) (args_cons (nmL X rfl (args_cons (nmL X rfl (args_cons ?_))))))))
      refine cG (g := 550) (X.gd g.G) (args_cons (nmL X rfl (args_cons (nmL X rfl (args_cons (nmL X rfl (args_cons (nmL X rfl (args_cons (wpAny_BinOp (nmL X rfl (cInt fun u tk => PySem.P.sub_int (s := St z _ _) ?_))))))))))))
      rw [ed]
      refine args_nil ⟨(X.gd g.G).K, ?_⟩
      refine ih _ _ _ _ _ (fun two B₃ => runW (chosenM c one two) B₃ K) _ B₂ hr' (X.gnd g.G) X.inv (hL.to O X) hK₂ hsz₂ fun h' tk ut two B₃ hK₃ hsz₃ hI₃ k₃ e₃ => ?_
      have X := X.call (D' := lawWd prog w β η B₃) rfl k₃ e₃ hI₃
      obtain ⟨r, B', hm, hB', hK⟩ := hK₃
      refine args_nil ⟨(X.gd g.G).K, ?_⟩
      refine chosen_spec O.cf O.rw (hL.to O X).r (X.gnd g.G) (rm.less (by decide)) X.inv.1 hm hB' fun h' tk u hB k e => ?_
      have X := X.lawB O hB k e
      exact hR _ _ _ _ _ hK hB' X.inv X.keep X.ext

theorem claim_spec (O : LawOk w h₀ β ρ η tl th) : ∀ dd, BranchOk prog w h₀ β ρ η tl th 557 claimW dd (24 + dd) := by
  intro dd
  induction dd with
  | zero =>
    intro A z h t R K ud B hr g hI hL hW hsz hR
    refine enterF 557 [("hand", .ref η.d), ("rewriter", .ref ρ.inst), ("truths", .ref tl), ("things", .ref th), ("deep", .int ((0 : Nat) : Int) ud)] g hr fun h₁ L A' tk en hns hr' => ?_
    have X := W.enter (prog := prog) (lawWd prog w β η B) g hI en hns
    refine sAsg (cG (g := 543) (X.gd g.G) (args_cons (nmL X rfl (args_cons (nmL X rfl (args_cons (nmL X rfl (args_cons (nmL X rfl (args_cons (cInt fun u tk => args_nil ⟨(X.gd g.G).K, ?_⟩)))))))))))
    refine condition0_spec O _ _ _ _ _ K _ B (hr'.less (by decide)) (X.gnd g.G) X.inv (hL.to O X) hW hsz fun h' tk uc c B₁ hK₁ hsz₁ hI₁ k₁ e₁ => ?_
    have X := X.call (D' := lawWd prog w β η B₁) rfl k₁ e₁ hI₁
    refine stL X fun h' tk X => ?_
    refine sIf (orT (wpAny_isTrue_Compare1 (nmL X rfl (cInt fun u tk => eqN (b := 0) (wpAny_truthy_bool ?_)))))
    refine ifT rfl ?_
    exact sRet (nmL X rfl (hR _ _ _ _ _ hK₁ hsz₁ X.inv X.keep X.ext))
  | succ dd ih =>
    intro A z h t R K ud B hr g hI hL hW hsz hR
    refine enterF (n := 24 + dd) 557 [("hand", .ref η.d), ("rewriter", .ref ρ.inst), ("truths", .ref tl), ("things", .ref th), ("deep", .int ((dd + 1 : Nat) : Int) ud)] g hr fun h₁ L A' tk en hns hr' => ?_
    have rm : Room A' 24 := hr'.less (Nat.le_add_right 24 dd)
    have X := W.enter (prog := prog) (lawWd prog w β η B) g hI en hns
    refine sAsg (cG (g := 543) (X.gd g.G) (args_cons (nmL X rfl (args_cons (nmL X rfl (args_cons (nmL X rfl (args_cons (nmL X rfl (args_cons (cInt fun u tk => args_nil ⟨(X.gd g.G).K, ?_⟩)))))))))))
    refine condition0_spec O _ _ _ _ _ (fun c B₁ => K c B₁ ∧ claimW dd B₁ fun one B₂ => claimW dd B₂ fun two B₃ => runW (chosenM c one two) B₃ K) _ B (rm.less (by decide)) (X.gnd g.G) X.inv (hL.to O X) hW hsz fun h' tk uc c B₁ hK₁ hsz₁ hI₁ k₁ e₁ => ?_
    have X := X.call (D' := lawWd prog w β η B₁) rfl k₁ e₁ hI₁
    refine stL X fun h' tk X => ?_
    refine sIfP (fun b s => E2 fun h' tk => s = St z h' tk ∧ W prog w h₀ h (lawWd prog w β η B₁) L h' (put "c" (.int (c : Int) uc) (lk [("hand", .ref η.d), ("rewriter", .ref ρ.inst), ("truths", .ref tl), ("things", .ref th), ("deep", .int ((dd + 1 : Nat) : Int) ud)])) []) (fun P' hP => orT (wpAny_isTrue_Compare1 (nmL X rfl (cInt fun u tk => eqN (b := 0) (wpAny_truthy_bool ?_))))) ?_
    · refine ifF (by omega) ?_
      refine wpAny_isTrue_Compare1 (cG (g := 524) (X.gd g.G) (args_cons (nmL X rfl (args_cons (cInt fun u tk => args_nil ⟨(X.gd g.G).K, ?_⟩)))))
      refine pickW (many := 3) O g.G (rm.less (by decide)) X (by decide) (by decide) fun h' tk u j hj X => ?_
      exact cInt fun u tk => PySem.P.lt_int (wpAny_truthy_bool (hP _ _ ⟨_, _, rfl, X⟩))
    clear X
    rintro b s ⟨h', tk, rfl, X⟩
    cases b with
    | true =>
      refine if1 ?_
      exact sRet (nmL X rfl (hR _ _ _ _ _ hK₁.1 hsz₁ X.inv X.keep X.ext))
    | false =>
      refine if0 ?_
      have ed : (((dd + 1 : Nat) : Int) - 1) = (dd : Int) := by omega
      refine sNx (sAsg (cG (g := 557) (X.gd g.G) (args_cons (nmL X rfl (args_cons (nmL X rfl (args_cons (nmL X rfl (args_cons (nmL X rfl (args_cons (wpAny_BinOp (nmL X rfl (cInt fun u tk => PySem.P.sub_int (s := St z _ _) ?_))))))))))))))
      rw [ed]
      refine args_nil ⟨(X.gd g.G).K, ?_⟩
      refine ih _ _ _ _ _ (fun one B₂ => claimW dd B₂ fun two B₃ => runW (chosenM c one two) B₃ K) _ B₁ hr' (X.gnd g.G) X.inv (hL.to O X) hK₁.2 hsz₁ fun h' tk uo one B₂ hK₂ hsz₂ hI₂ k₂ e₂ => ?_
      have X := X.call (D' := lawWd prog w β η B₂) rfl k₂ e₂ hI₂
      refine stL X fun h' tk X => ?_
      refine sRet (MethodCall_ (nmL X rfl (mB (X.gd g.G) cls513 (hL.to O X).r (O.rw.meths _ (by decide)) (args_cons (nmL X rfl (args_cons (nmL X rfl (args_cons ?_))))))))
      refine cG (g := 557) (X.gd g.G) (args_cons (nmL X rfl (args_cons (nmL X rfl (args_cons (nmL X rfl (args_cons (nmL X rfl (args_cons (wpAny_BinOp (nmL X rfl (cInt fun u tk => PySem.P.sub_int (s := St z _ _) ?_))))))))))))
      rw [ed]
      refine args_nil ⟨(X.gd g.G).K, ?_⟩
      refine ih _ _ _ _ _ (fun two B₃ => runW (chosenM c one two) B₃ K) _ B₂ hr' (X.gnd g.G) X.inv (hL.to O X) hK₂ hsz₂ fun h' tk ut two B₃ hK₃ hsz₃ hI₃ k₃ e₃ => ?_
      have X := X.call (D' := lawWd prog w β η B₃) rfl k₃ e₃ hI₃
      obtain ⟨r, B', hm, hB', hK⟩ := hK₃
      refine args_nil ⟨(X.gd g.G).K, ?_⟩
      refine chosen_spec O.cf O.rw (hL.to O X).r (X.gnd g.G) (rm.less (by decide)) X.inv.1 hm hB' fun h' tk u hB k e => ?_
      have X := X.lawB O hB k e
      exact hR _ _ _ _ _ hK hB' X.inv X.keep X.ext
end
end Mine

-- Plain
namespace Mine

section
variable {prog : Program} {w : World} {A : Around} {E : Value → Shared → Prop} {z : Shared} {h₀ s₀ h : Heap} {t : Nat} {R : Result → Shared → Prop} {D D' : Wd} {L a it tl th : Addr} {m : Str → Option Value} {objs : List (Addr × Cell)} {env : Env} {β : Adr} {B B' : List Tm}

theorem stC {pre post : List (Addr × Cell)} {x : Str} {c : Addr} {v₀ : Option Value} {v : Value} {Q : Unit → Shared → Prop} (X : W prog w h₀ s₀ D L h m (pre ++ (c, .sat (cellO v₀)) :: post)) (q : ∀ h', W prog w h₀ s₀ D L h' m (pre ++ (c, .sat (cellO (some v))) :: post) → Q () (St z h' t)) (hc : autoParam (env.cells.lookup x = some c) aR)
    (hk : autoParam (env.scope.kind = .function) aR) (hl : autoParam (env.kindOf x = some .cell) aR) : wpAny (model prog w) A (storeName env x v) Q E (St z h t) := by
  obtain ⟨o, ho, hd'⟩ := X.obj (c, .sat (cellO v₀)) mm
  refine wpAny_storeName_cell (s := St z h t) hk hl hc ⟨o, ho, hd'⟩ fun h' hc' sb => q h' (X.setObj (c' := .sat (cellO (some v))) (fun b o hb e => (sb.2 b hb).trans e) ?_ cellO_noTup)
  obtain ⟨o', e', d'⟩ := hc'
  exact ⟨o', e', d'⟩

theorem is_plain_spec {t₀ : Nat} {ut : Tok} (C : Cf w h₀ β) (g : Gnd w h₀ h) (hr : Room A 20) (hB : BankAt prog w β B h) (hsz : B.length ≤ 2 ^ 23) (hp : IsPlain B t₀)
    (hR : ∀ h' tk, Ext h h' → R (.ok (.ret (.bool true))) (St z h' tk)) :
    codeAny (model prog w) A (.call (.ref 562) ⟨[.ref β.inst, .int (t₀ : Int) ut], []⟩) R (St z h t) := by
  obtain ⟨x, hx, hp⟩ := hp
  refine enterFC 562 [("bank", .ref β.inst), ("t", .int (t₀ : Int) ut)] g hr (fun h₁ L A' tk en hns hcs hr' => ?_)
  have hcf : h₁.IsCell (L + 1 + 1) none := hcs "c" _ rfl
  have hcs' : h₁.IsCell (L + 1) (some (.ref β.inst)) := hcs "bank" _ rfl
  have X := W.enterC (prog := prog) noWd g trivial en hns [(L + 1 + 1, .sat (cellO none)), (L + 1, .sat (cellO (some (.ref β.inst))))]
    (fac ⟨hcf, Nat.lt_succ_of_lt (Nat.lt_succ_self L)⟩ (fac ⟨hcs', Nat.lt_succ_self L⟩ fan)) nd2'
  have ext : ∀ {L : Addr} {m : Str → Option Value} {objs : List (Addr × Cell)} {h' : Heap}, W prog w h₀ h noWd L h' m objs → Ext h h' := fun X b o e => X.keep b o List.not_mem_nil e
  have bank : ∀ {L : Addr} {m : Str → Option Value} {objs : List (Addr × Cell)} {h' : Heap}, W prog w h₀ h noWd L h' m objs → BankAt prog w β B h' := fun X => hB.agree fun a o e _ => ext X a o e
  clear hcs hcf hcs'
  refine sIf (wpAny_isTrue_Compare1 (MethodCall_ (nmC (c := L + 1) X mm (mB (X.gd g.G) cls388 (bank X).attrs (C.full.meths _ (by decide)) (argsS X (.cons (.loc rfl) .nil) ⟨(X.gd g.G).K, ?_⟩)))))
  refine op_spec C (X.gnd g.G) (hr'.less (by decide)) (bank X) hx hsz fun h' tk u e => ?_
  have X := X.grow e
  refine cStr fun u tk => neOp .ite (wpAny_truthy_bool ?_)
  by_cases c1 : x.op ≠ .ite
  · refine ifT c1 ?_
    exact sRet (cBool (hR _ _ (ext X)))
  refine ifF c1 ?_
  obtain ⟨c, a, b, cx, hargs, hcx, n1, n2, n3, hab, pa, pb⟩ := hp.resolve_left c1
  refine sNx (sTup (MethodCall_ (nmC (c := L + 1) X mm (mB (X.gd g.G) cls388 (bank X).attrs (C.full.meths _ (by decide)) (argsS X (.cons (.loc rfl) .nil) ⟨(X.gd g.G).K, ?_⟩)))))
  refine args_spec C (X.gnd g.G) (hr'.less (by decide)) (bank X) hx hsz fun h' tk a' hk e => ?_
  rw [hargs] at hk
  obtain ⟨us, hus, hul⟩ := key_isTup hk
  have X := X.grow e
  obtain ⟨uc, ua, ub, rfl⟩ : ∃ uc ua ub, us = [Value.int (c : Int) uc, .int (a : Int) ua, .int (b : Int) ub] := by
    cases hul with
    | cons r1 q => cases q with
      | cons r2 q => cases q with
        | cons r3 q => cases q; obtain ⟨u1, rfl⟩ := r1; obtain ⟨u2, rfl⟩ := r2; obtain ⟨u3, rfl⟩ := r3; exact ⟨u1, u2, u3, rfl⟩
  refine unp hr'.hh X (tupAt' hus fun o q => e _ o q) fun h' X e => aioCons (assign_Name (stC (pre := []) X fun h' X => aioCons (assign_Name (stL X fun h' tk X => aioCons (assign_Name (stL X fun h' tk X => aioNil ?_))))))
  have X : W prog w h₀ h noWd L _ _ [(L + 1 + 1, .sat (cellO (some (.int (c : Int) uc)))), (L + 1, .sat (cellO (some (.ref β.inst))))] := X
  refine sIf (orT (wpAny_isTrue_Compare1 (MethodCall_ (nmC (c := L + 1) X mm (mB (X.gd g.G) cls388 (bank X).attrs (C.full.meths _ (by decide)) (args_cons (nmC (c := L + 1 + 1) (v := .int (c : Int) uc) X mm (args_nil ⟨(X.gd g.G).K, ?_⟩))))))))
  refine op_spec C (X.gnd g.G) (hr'.less (by decide)) (bank X) hcx hsz fun h' tk u e => ?_
  have X := X.grow e
  refine Tuple_ (args_cons (cStr fun v1 tk => args_cons (cStr fun v2 tk => args_cons (cStr fun v3 tk => args_nil (newTup X fun h' T X => ?_)))))
  refine in_tuple_strs (s := St z _ _) (ys := ["true", "false", "not"]) (X.obj _ (.head _)) (.cons _ _ (.cons _ _ (.cons _ _ .nil))) (wpAny_truthy_bool ?_)
  have hany : ((["true", "false", "not"] : List Str).any (· == cx.op.str)) = false := by
    cases hq : cx.op <;> first | (exact absurd hq n1) | (exact absurd hq n2) | (exact absurd hq n3) | decide
  rw [hany, if_neg Bool.false_ne_true]
  refine wpAny_isTrue_Compare1 (nmL X rfl (nmL X rfl (eqN (wpAny_truthy_bool ?_))))
  refine ifF hab ?_
  refine sNx (sRet (wpAny_Compare1 (listComp [("c", L + 1 + 1), ("bank", L + 1)] ?_)))
  refine Tuple_ (argsS X (.cons (.loc rfl) (.cons (.loc rfl) .nil)) (newTup X fun h' T2 X => ?_))
  have hT2 : IsTup h' T2 [Value.int (a : Int) ua, .int (b : Int) ub].toArray := X.obj _ (.head _)
  refine compSq (kd := "tuple_iterator") (vs := [Value.int (a : Int) ua, .int (b : Int) ub]) hr'.hh (fun i ys D objs' => A3 (D = noWd) (objs' = [(T2, .tup [Value.int (a : Int) ua, .int (b : Int) ub]), (T, .tup [.str "true" v1, .str "false" v2, .str "not" v3]), (L + 1 + 1, .sat (cellO (some (.int (c : Int) uc)))), (L + 1, .sat (cellO (some (.ref β.inst))))]) (ys = [])) X (.inr ⟨rfl, hT2⟩) ⟨rfl, rfl, rfl⟩ (by simp) ?_ ?_ ?_
  · rintro i i' ys D mc C' acc it' objs' h' Y ⟨rfl, rfl, rfl⟩
    exact .inr ⟨rfl, Y.obj (T2, .tup [Value.int (a : Int) ua, .int (b : Int) ub]) mm⟩
  · rintro C' acc it' i v ys D mc objs' h' t' hv ⟨rfl, rfl, rfl⟩ Y hs
    obtain ⟨late, ul, rfl, y, hy, hya⟩ : ∃ (late : Nat) (ul : Tok), v = .int (late : Int) ul ∧ notAgain B c late := by
      exact gt2 (p := fun _ v => ∃ (late : Nat) (ul : Tok), v = .int (late : Int) ul ∧ notAgain B c late) ⟨a, ua, rfl, pa⟩ ⟨b, ub, rfl, pb⟩ hv
    refine tests1 (opq2 fun T F hT hF => andT (wpAny_isTrue_Compare1 (MethodCall_ (nmC (c := L + 1) Y mm (mB (Y.gd g.G) cls388 (bank Y).attrs (C.full.meths _ (by decide)) (argsS Y (.cons (.loc rfl) .nil) ⟨(Y.gd g.G).K, ?_⟩))))))
    refine op_spec C (Y.gnd g.G) (hr'.less (by decide)) (bank Y) hy hsz fun h' tk u e => ?_
    have Y := Y.grow e
    refine cStr fun u tk => eqOp .ite (wpAny_truthy_bool ?_)
    by_cases c2 : y.op = .ite
    · refine ifT c2 ?_
      obtain ⟨c', hc0, hcn⟩ := hya.resolve_left (fun q => q c2)
      refine wpAny_isTrue_Compare1 (Subscript_ (MethodCall_ (nmC (c := L + 1) Y mm (mB (Y.gd g.G) cls388 (bank Y).attrs (C.full.meths _ (by decide)) (argsS Y (.cons (.loc rfl) .nil) ⟨(Y.gd g.G).K, ?_⟩)))))
      refine args_spec C (Y.gnd g.G) (hr'.less (by decide)) (bank Y) hy hsz fun h' tk a2 hk2 e => ?_
      obtain ⟨us2, hus2, hul2⟩ := key_isTup hk2
      have Y := Y.grow e
      obtain ⟨u0, hv0⟩ := hul2.getF hc0
      refine cInt fun u tk => itT (tupAt' hus2 fun o q => e _ o q) hv0 rfl (by decide) (nmC (c := L + 1 + 1) (v := .int (c : Int) uc) Y mm (eqN (wpAny_truthy_bool ?_)))
      refine ifF hcn ?_
      exact hF _ ⟨_, _, _, _, _, rfl, Y, rfl, rfl, rfl⟩
    · refine ifF c2 (if0 ?_)
      exact hF _ ⟨_, _, _, _, _, rfl, Y, rfl, rfl, rfl⟩
  · rintro acc ys D objs' h' t' ⟨rfl, rfl, rfl⟩ Y
    refine List_ (args_nil (newLst Y fun h' N Y => ?_))
    refine eqLs (k := []) (l := []) (Y.obj _ (.tail _ (.head _))) .nil (Y.obj _ (.head _)) .nil (by have := hr'.units; omega) ?_
    exact hR _ _ (ext Y)
end
end Mine

-- Rng
namespace Mine
noncomputable abbrev rgO (x left : Int) : Obj := { cls := .type "range_iterator", dict := none, data := .fields #[rawInt x, rawInt left, rawInt 1], slots := #[] }
theorem rgO_noTup {x l : Int} : ¬ isTupObj (rgO x l) := fun y => by obtain ⟨_, items, n, e⟩ := y; cases e
noncomputable def enO (it : Addr) (k : Nat) : Obj → Prop := fun o => ∃ old, o = { cls := .type "enumerate", dict := none, data := .fields #[.none, .bool false, .ref it, rawInt k, .none, old], slots := #[] }
theorem enO_noTup {it : Addr} {k : Nat} : ∀ o, enO it k o → ¬ isTupObj o := fun o x y => by
  obtain ⟨_, items, n, e⟩ := y
  obtain ⟨old, rfl⟩ := x
  cases e
section
variable {prog : Program} {w : World} {A : Around} {E : Value → Shared → Prop} {z : Shared} {h₀ s₀ h h' : Heap} {t : Nat} {D : Wd} {L it a b e : Addr} {m : Str → Option Value} {objs : List (Addr × Cell)} {env : Env} {n k : Nat} {vs : List Value}

/-- two cells turn at once -/
theorem W.two {c d c' d' : Cell} {post : List (Addr × Cell)} (X : W prog w h₀ s₀ D L h m ((a, c) :: (b, d) :: post)) (hs : ∀ x o, x ≠ a → x ≠ b → h.get? x = some o → h'.get? x = some o)
    (hc : c'.at prog w h' a) (hd : d'.at prog w h' b) (n1 : c.noTup) (n2 : d.noTup) : W prog w h₀ s₀ D L h' m ((a, c') :: (b, d') :: post) := by
  have fa := X.fresh a mm
  have fb := X.fresh b mm
  have nd := X.nd
  simp only [List.map_cons, List.nodup_cons, List.mem_cons, not_or] at nd
  have key : ∀ x o, s₀.get? x = some o → x ≠ a ∧ x ≠ b := fun x o e => by
    refine ⟨fun q => ?_, fun q => ?_⟩
    · subst q; rw [fa.1] at e; cases e
    · subst q; rw [fb.1] at e; cases e
  refine ⟨fun x o e => hs x o (key x o (X.base x o e)).1 (key x o (X.base x o e)).2 (X.ext x o e), fun x o nx e => hs x o (key x o e).1 (key x o e).2 (X.keep x o nx e), X.base, D.stab h h' X.inv fun x o e q => ?_, ?_, fun p hp => ?_, X.nd, X.fresh⟩
  · refine hs x o ?_ ?_ e
    · rintro rfl
      rcases q with q | q
      · exact fa.2 q
      · exact Cell.noTup_get (X.obj _ (.head _)) n1 e q
    · rintro rfl
      rcases q with q | q
      · exact fb.2 q
      · exact Cell.noTup_get (X.obj _ (.tail _ (.head _))) n2 e q
  · obtain ⟨o, es, ep, e, r⟩ := X.ns
    exact ⟨o, es, ep, hs _ _ nd.1.1 nd.1.2.1 e, r⟩
  · rcases List.mem_cons.mp hp with rfl | hp
    · exact hc
    rcases List.mem_cons.mp hp with rfl | hp
    · exact hd
    have hm : p.1 ∈ post.map (·.1) := List.mem_map_of_mem (f := (·.1)) hp
    exact Cell.at_to (X.obj p (.tail _ (.tail _ hp))) fun o e => hs _ _ (fun q => nd.2.1.2 (q ▸ hm)) (fun q => nd.2.2.1 (q ▸ hm)) e

/-- range(n), called -/
theorem rangeNew {u : Tok} {Q : Value → Shared → Prop} (X : W prog w h₀ s₀ D L h m objs)
    (q : ∀ h' r tk t1 t2 t3, W prog w h₀ s₀ D L h' m objs → IsRange h' r 0 n 1 t1 t2 t3 → Q (.ref r) (St z h' tk)) :
    wpAny (model prog w) A (call (.type "range") [.int (n : Int) u]) Q E (St z h t) :=
  call_range_1 (s := St z h t) (q _ _ _ _ _ _ (X.grow (Ext.push _ _)) (Heap.get?_push_size _ rfl))
theorem rangeIter {r : Addr} {t1 t2 t3 : Tok} {Q : Value → Shared → Prop} (hn : n ≤ 1000) (X : W prog w h₀ s₀ D L h m objs) (hr : IsRange h r 0 n 1 t1 t2 t3)
    (q : ∀ h' it, W prog w h₀ s₀ D L h' m ((it, .obj (rgO ((0 : Nat) : Int) ((n : Int) - ((0 : Nat) : Int)))) :: objs) → Q (.ref it) (St z h' t)) : wpAny (model prog w) A (pyIter (.ref r)) Q E (St z h t) := by
  have hsz : Builtin.Range.rangeSize 0 (n : Int) 1 = (n : Int) - ((0 : Nat) : Int) := by
    unfold Builtin.Range.rangeSize
    simp
    rintro rfl; rfl
  refine wpAny_pyIter_range (s := St z h t) hr ?_ ?_
  · unfold Builtin.Range.small
    rw [hsz]
    unfold Builtin.Range.rangeFitsLong
    simp
    omega
  · rw [hsz]
    exact q _ _ (X.push _ (c := .obj (rgO _ _)) (Heap.get?_push_size _ rfl))
theorem rangeNext {Q : Option Value → Shared → Prop} (X : W prog w h₀ s₀ D L h m ((it, .obj (rgO k ((n : Int) - k))) :: objs)) (hk : k < n)
    (q : ∀ h' tk u, W prog w h₀ s₀ D L h' m ((it, .obj (rgO ((k + 1 : Nat) : Int) ((n : Int) - ((k + 1 : Nat) : Int)))) :: objs) → Q (some (.int (k : Int) u)) (St z h' tk)) :
    wpAny (model prog w) A (pyNext (.ref it)) Q E (St z h t) := by
  refine wpAny_pyNext_range_item (s := St z h t) (X.obj _ (.head _)) (by omega) fun h' e sb => ?_
  have e1 : ((k : Int) + 1) = ((k + 1 : Nat) : Int) := rfl
  have e2 : (n : Int) - k - 1 = (n : Int) - ((k + 1 : Nat) : Int) := by omega
  rw [e1, e2] at e
  exact q h' _ _ (X.set0 (c' := .obj _) (fun b o hb e => (sb.2 b hb).trans e) e rgO_noTup)
theorem rangeEnd {Q : Option Value → Shared → Prop} (hh : A.handled = none) (X : W prog w h₀ s₀ D L h m ((it, .obj (rgO n ((n : Int) - n))) :: objs))
    (q : ∀ h', W prog w h₀ s₀ D L h' m objs → Q none (St z h' t)) : wpAny (model prog w) A (pyNext (.ref it)) Q E (St z h t) :=
  wpAny_pyNext_range_end (s := St z h t) hh (X.obj _ (.head _)) (by omega) fun h' sb => q h' (X.letGo (fun b o hb e => sb b o hb e) rgO_noTup)

/-- a for over range(n) -/
theorem loopRg {R : Result → Shared → Prop} {x : Str} {px : Pos} {body : List Stmt} (hh : A.handled = none) (J : Nat → Wd → (Str → Option Value) → List (Addr × Cell) → Prop)
    (X : W prog w h₀ s₀ D env.locals h m ((it, .obj (rgO ((0 : Nat) : Int) ((n : Int) - ((0 : Nat) : Int)))) :: objs)) (hj : J 0 D m objs)
    (turn : ∀ k u D m objs h t, k < n → J k D m objs → W prog w h₀ s₀ D env.locals h (put x (.int (k : Int) u) m) ((it, .obj (rgO ((k + 1 : Nat) : Int) ((n : Int) - ((k + 1 : Nat) : Int)))) :: objs) →
      wpAny (model prog w) A (execs body env) (TurnEnd prog w h₀ s₀ env.locals z (it, .obj (rgO ((k + 1 : Nat) : Int) ((n : Int) - ((k + 1 : Nat) : Int)))) (J (k + 1)) R) NE (St z h t))
    (done : ∀ D m objs h t, J n D m objs → W prog w h₀ s₀ D env.locals h m objs → R (.ok .next) (St z h t))
    (hk : autoParam (env.scope.kind = .function) aR) (hl : autoParam (env.kindOf x = some .local) aR) :
    codeAny (model prog w) A (.forLoop (.Name x px) (.ref it) body [] env) R (St z h t) := by
  refine codeAny_forLoop (fun i s => E6 fun k h t D m objs => A5 (s = St z h t) (W prog w h₀ s₀ D env.locals h m ((it, .obj (rgO (k : Nat) ((n : Int) - (k : Nat)))) :: objs)) (J k D m objs) (k ≤ n) (i = n - k)) ?_ n
    ⟨0, h, t, D, m, objs, rfl, X, hj, Nat.zero_le _, rfl⟩
  rintro i s ⟨k, h, t, D, m, objs, rfl, X, hj, hle, rfl⟩
  by_cases hlt : k < n
  · refine rangeNext X hlt fun h' tk u X => wpAny_assign_Name (stL X (fun h'' tk X' => ?_) hk hl)
    refine wpAny_mono (turn k u D m objs h'' tk hlt hj X') (fun f s' q => ?_) fun _ _ e => e.elim
    cases f with
    | next => obtain ⟨h, t, D, m, objs, rfl, X, hj⟩ := q; exact ⟨n - (k + 1), Nat.sub_lt_sub_left hlt (Nat.lt_succ_self k), k + 1, h, t, D, m, objs, rfl, X, hj, hlt, rfl⟩
    | cont => obtain ⟨h, t, D, m, objs, rfl, X, hj⟩ := q; exact ⟨n - (k + 1), Nat.sub_lt_sub_left hlt (Nat.lt_succ_self k), k + 1, h, t, D, m, objs, rfl, X, hj, hlt, rfl⟩
    | brk => exact q
    | ret v => exact q
  · have hkl : k = n := Nat.le_antisymm hle (Nat.not_lt.mp hlt)
    subst hkl
    exact rangeEnd hh X fun h' X => wpAny_execs_nil (done D m objs h' t hj X)

/-- enumerate(list), called -/
theorem enumNew {Q : Value → Shared → Prop} (X : W prog w h₀ s₀ D L h m objs) (hl : h.PlainList a vs.toArray)
    (q : ∀ h' e it, W prog w h₀ s₀ D L h' m ((e, .sat (enO it 0)) :: (it, .sat (itS "list_iterator" a 0)) :: objs) → Q (.ref e) (St z h' t)) :
    wpAny (model prog w) A (call (.type "enumerate") [.ref a]) Q E (St z h t) := by
  refine call_enumerate_list (s := St z h t) hl.isList fun h' he hit hsz hk => ?_
  have hk : Ext h h' := hk
  have hit : h'.IsListIter h.objs.size a 0 := hit
  have he : IsEnum h' (h.objs.size + 1) h.objs.size 0 .none := he
  have hnone : h.get? (h.objs.size + 1) = none := by
    cases q : h.get? (h.objs.size + 1) with
    | none => rfl
    | some o => exact absurd (Heap.lt_size q) (Nat.not_lt.mpr (Nat.le_succ _))
  have X1 := X.add (c := .sat (itS "list_iterator" a 0)) hk (get_size h) hit
  have X2 : W prog w h₀ s₀ D L h' m ((h.objs.size + 1, .sat (enO h.objs.size 0)) :: (h.objs.size, .sat (itS "list_iterator" a 0)) :: objs) := by
    refine ⟨X1.ext, X1.keep, X1.base, X1.inv, X1.ns, fun p hp => ?_, ?_, fun b hb => ?_⟩
    · rcases List.mem_cons.mp hp with rfl | hp
      · exact ⟨_, he, .none, rfl⟩
      · exact X1.obj p hp
    · have nd := X1.nd
      simp only [List.map_cons, List.nodup_cons, List.mem_cons, not_or] at nd ⊢
      refine ⟨⟨fun q => ?_, nd.1⟩, ⟨Nat.succ_ne_self _, fun q => ?_⟩, nd.2⟩
      · exact X.live (.head _) (q ▸ hnone)
      · exact X.live (.tail _ q) hnone
    · simp only [List.map_cons, List.mem_cons] at hb
      rcases hb with rfl | rfl | hb
      · exact X.fresh _ (.head _)
      · exact X.old hnone
      · exact X1.fresh b (by simp only [List.map_cons, List.mem_cons]; rcases hb with h | h <;> simp [h])
  exact q h' _ _ X2

theorem enumIter {Q : Value → Shared → Prop} (X : W prog w h₀ s₀ D L h m ((e, .sat (enO it k)) :: objs)) (q : Q (.ref e) (St z h t)) : wpAny (model prog w) A (pyIter (.ref e)) Q E (St z h t) := by
  obtain ⟨o, ho, old, rfl⟩ := X.obj _ (.head _)
  exact wpAny_pyIter_enum (s := St z h t) ho q

/-- a for over enumerate(list), two names -/
theorem loopEn {R : Result → Shared → Prop} {xi xv : Str} {pi pv tpos : Pos} {x1 : _} {body : List Stmt} (hh : A.handled = none) (J : Nat → Wd → (Str → Option Value) → List (Addr × Cell) → Prop)
    (X : W prog w h₀ s₀ D env.locals h m ((e, .sat (enO it 0)) :: (it, .sat (itS "list_iterator" a 0)) :: objs)) (hj : J 0 D m objs)
    (seq : ∀ k D m m' objs h, W prog w h₀ s₀ D env.locals h m' objs → J k D m objs → h.PlainList a vs.toArray)
    (turn : ∀ k v u D m objs h t, vs[k]? = some v → J k D m objs → W prog w h₀ s₀ D env.locals h (put xv v (put xi (.int (k : Int) u) m)) ((e, .sat (enO it (k + 1))) :: (it, .sat (itS "list_iterator" a (k + 1))) :: objs) →
      wpAny (model prog w) A (execs body env) (TurnEnd prog w h₀ s₀ env.locals z (e, .sat (enO it (k + 1))) (fun D m objs => ∃ objs', objs = (it, .sat (itS "list_iterator" a (k + 1))) :: objs' ∧ J (k + 1) D m objs') R) NE (St z h t))
    (done : ∀ D m objs h t, J vs.length D m objs → W prog w h₀ s₀ D env.locals h m objs → R (.ok .next) (St z h t))
    (hk : autoParam (env.scope.kind = .function) aR) (hli : autoParam (env.kindOf xi = some .local) aR) (hlv : autoParam (env.kindOf xv = some .local) aR) :
    codeAny (model prog w) A (.forLoop (.Tuple [.Name xi pi, .Name xv pv] x1 tpos) (.ref e) body [] env) R (St z h t) := by
  refine codeAny_forLoop_any (fun i s => E6 fun k h t D m objs => A5 (s = St z h t) (W prog w h₀ s₀ D env.locals h m ((e, .sat (enO it k)) :: (it, .sat (itS "list_iterator" a k)) :: objs)) (J k D m objs) (k ≤ vs.length) (i = vs.length - k)) ?_ vs.length
    ⟨0, h, t, D, m, objs, rfl, X, hj, Nat.zero_le _, rfl⟩
  rintro i s ⟨k, h, t, D, m, objs, rfl, X, hj, hle, rfl⟩
  have hl := seq k D m m objs h X.drop.drop hj
  obtain ⟨oe, hoe, old, rfl⟩ := X.obj _ (.head _)
  have hit : h.IsListIter it a k := X.obj _ (.tail _ (.head _))
  have nd := X.nd
  simp only [List.map_cons, List.nodup_cons, List.mem_cons, not_or] at nd
  cases hv : vs[k]? with
  | none =>
    have hkl : k = vs.length := Nat.le_antisymm hle (by simpa using hv)
    subst hkl
    exact wpAny_pyNext_enum_end (s := St z h t) hh hoe hit hl.isList (by simpa using hv) fun h' sb => wpAny_execs_nil (done D m objs h' t hj (X.drop.letGo (fun b o hb e => sb b o hb e) itS_noTup))
  | some v =>
    have hlt : k < vs.length := (List.getElem?_eq_some_iff.mp hv).1
    refine wpAny_pyNext_enum_item (s := St z h t) hoe hit hl.isList (by simpa using hv) nd.2.1.1 fun h1 heo hit1 ht1 hz1 hk1 => ?_
    have hne : e ≠ h.objs.size := Nat.ne_of_lt (Heap.lt_size hoe)
    refine wpAny_letOwnedTupleGo_enum (s := St z h1 _) heo fun h2 he2 hs2 => ?_
    have hs2 : Heap.SameBut e h1 h2 := hs2
    have ek : ((k : Int) + 1) = ((k + 1 : Nat) : Int) := rfl
    rw [ek] at he2
    have X2 : W prog w h₀ s₀ D env.locals h2 m ((e, .sat (enO it (k + 1))) :: (it, .sat (itS "list_iterator" a (k + 1))) :: objs) := by
      refine X.two (fun x o n1 n2 ex => (hs2.2 x n1).trans (hk1 x o n1 n2 ex)) ⟨_, he2, v, rfl⟩ ?_ enO_noTup itS_noTup
      obtain ⟨o, ho, r⟩ := hit1
      exact ⟨o, (hs2.2 it (Ne.symm nd.2.1.1)).trans ho, r⟩
    have ht2 : IsTup h2 h.objs.size [Value.int (k : Int) t, v].toArray := ⟨_, (hs2.2 _ (Ne.symm hne)).trans ht1, rfl, _, rfl⟩
    rw [assign_Tuple]
    refine wpAny_bind (wpAny_standAt ?_)
    refine unp hh X2 ht2 fun h3 X3 e3 => aioCons (assign_Name (stL X3 (fun h4 tk4 X4 => aioCons (assign_Name (stL X4 (fun h5 tk5 X5 => aioNil ?_) hk hlv))) hk hli))
    refine wpAny_mono (turn k v _ D m objs h5 tk5 hv hj X5) (fun f s' q => ?_) fun _ _ e => e.elim
    cases f with
    | next => obtain ⟨h, t, D, m, _, rfl, X, objs, rfl, hj⟩ := q; exact ⟨vs.length - (k + 1), Nat.sub_lt_sub_left hlt (Nat.lt_succ_self k), k + 1, h, t, D, m, objs, rfl, X, hj, hlt, rfl⟩
    | cont => obtain ⟨h, t, D, m, _, rfl, X, objs, rfl, hj⟩ := q; exact ⟨vs.length - (k + 1), Nat.sub_lt_sub_left hlt (Nat.lt_succ_self k), k + 1, h, t, D, m, objs, rfl, X, hj, hlt, rfl⟩
    | brk => exact q
    | ret v => exact q
end
end Mine

-- Wor
namespace Mine

noncomputable def tblW (r k : Nat) : Nat := (([[0, 0, 1], [0, 1, 1], [0, 1, 0]] : List (List Nat)).getD r []).getD k 0
/-- the worth of a constant in a world -/
noncomputable def wv (n t : Nat) : Bool := if t < 6 then decide (n / 2 ^ (t - 3) % 2 = 1) else decide (tblW ((n % 8 + n / 8) % 3) (t - 6) = 1)
noncomputable def IsV (s : Nat) (b : Bool) (v : Value) : Prop := if s = 0 then v = .bool b else ∃ u, v = .int (if b then 1 else 0) u
noncomputable def KvIs (n : Nat) (kv : Int × Value) (t : Nat) : Prop := kv.1 = (t : Int) ∧ IsV (if t < 6 then 0 else 3) (wv n t) kv.2
noncomputable def ks : Nat → List Nat
  | 0 => []
  | n + 1 => ks n ++ [3 + n]
theorem ks_lt {j a : Nat} (h : a ∈ ks j) : 3 ≤ a ∧ a < 3 + j := by
  induction j with
  | zero => cases h
  | succ j ih =>
    rcases List.mem_append.mp h with h | h
    · exact ⟨(ih h).1, Nat.lt_succ_of_lt (ih h).2⟩
    · rw [List.mem_singleton.mp h]; exact ⟨Nat.le_add_right 3 j, Nat.lt_succ_self _⟩
noncomputable def WorldAt (prog : Program) (w : World) (h : Heap) (d : Addr) (n : Nat) : Prop := ∃ kvs, h.DictOf (intKind prog w) d kvs ∧ All2 (KvIs n) kvs (ks 6)
structure WorldsIs (prog : Program) (w : World) (F : Addr) (ds : List Addr) (h : Heap) : Prop where
  lst : h.PlainList F (ds.map Value.ref).toArray
  len : ds.length = 16
  wat : ∀ n d, ds[n]? = some d → WorldAt prog w h d n

theorem stored_new {kvs : List (Int × Value)} {k : Int} {v : Value} (h : ∀ kv ∈ kvs, kv.1 ≠ k) : stored kvs k v = kvs ++ [(k, v)] := by
  unfold stored
  rw [if_neg]
  simp only [List.any_eq_true, decide_eq_true_eq, not_exists, not_and]
  exact h
theorem All2.mem {α β : Type} {R : α → β → Prop} {as : List α} {bs : List β} (x : All2 R as bs) {a : α} (h : a ∈ as) : ∃ b ∈ bs, R a b := by
  induction x with
  | nil => cases h
  | cons r _ ih =>
    rcases List.mem_cons.mp h with rfl | h
    · exact ⟨_, .head _, r⟩
    · obtain ⟨b, hb, r⟩ := ih h; exact ⟨b, .tail _ hb, r⟩

section
variable {prog : Program} {w : World} {A : Around} {E : Value → Shared → Prop} {z : Shared} {h₀ s₀ h : Heap} {t : Nat} {R : Result → Shared → Prop} {D D' : Wd} {L a it tl th : Addr} {m : Str → Option Value} {objs : List (Addr × Cell)} {env : Env} {β : Adr} {B B' : List Tm}

theorem WorldAt.to {h' : Heap} {d : Addr} {n : Nat} (x : WorldAt prog w h d n) (g : ∀ o, h.get? d = some o → h'.get? d = some o) : WorldAt prog w h' d n := let ⟨kvs, e, r⟩ := x; ⟨kvs, Cell.dict_to e g, r⟩
theorem WorldsIs.to {h' : Heap} {F : Addr} {ds : List Addr} (x : WorldsIs prog w F ds h) (g : ∀ a ∈ F :: ds, ∀ o, h.get? a = some o → h'.get? a = some o) : WorldsIs prog w F ds h' :=
  ⟨x.lst.at fun o e => g _ (.head _) o e, x.len, fun n d e => (x.wat n d e).to fun o q => g _ (.tail _ (List.mem_of_getElem? e)) o q⟩

theorem divN {a b : Nat} {u v : Tok} {Q : Value → Shared → Prop} (hb : 0 < b) (hk : b ≤ 1000) (q : ∀ tk u, Q (.int ((a / b : Nat) : Int) u) (St z h tk)) : wpAny (model prog w) A (binaryOp .FloorDiv (.int (a : Int) u) (.int (b : Int) v)) Q E (St z h t) := by
  refine PySem.AutoIntOps.floordiv_1 (s := St z h t) (by simp; omega) (by rw [noPylong hk]; simp) ?_
  show Q (.int ((a : Int).fdiv b) t) (St z h (t + 1))
  have : (a : Int).fdiv b = ((a / b : Nat) : Int) := by rw [Int.fdiv_eq_ediv_of_nonneg _ (by omega)]; rfl
  rw [this]; exact q _ _
theorem modNN {a b : Nat} {u v : Tok} {Q : Value → Shared → Prop} (hb : 0 < b) (q : ∀ tk u, Q (.int ((a % b : Nat) : Int) u) (St z h tk)) : wpAny (model prog w) A (binaryOp .Mod (.int (a : Int) u) (.int (b : Int) v)) Q E (St z h t) :=
  modN hb fun r tk u _ e => by
    have : ((r : Nat) : Int) = ((a % b : Nat) : Int) := by rw [← e, Int.fmod_eq_emod_of_nonneg _ (by omega)]; rfl
    rw [this]; exact q _ _
theorem powN {k : Nat} {u v : Tok} {Q : Value → Shared → Prop} (hk : k ≤ 10) (q : ∀ tk u, Q (.int ((2 ^ k : Nat) : Int) u) (St z h tk)) : wpAny (model prog w) A (binaryOp .Pow (.int 2 u) (.int (k : Int) v)) Q E (St z h t) := by
  refine pow_int_small (s := St z h t) (by omega) (by omega) (by decide) ?_
  have : (2 : Int) ^ (k : Int).toNat = ((2 ^ k : Nat) : Int) := by rw [Int.toNat_natCast]; simp
  rw [this]; exact q _ _
theorem addN' {a b : Nat} {u v : Tok} {Q : Value → Shared → Prop} (q : ∀ tk u, Q (.int ((a + b : Nat) : Int) u) (St z h tk)) : wpAny (model prog w) A (binaryOp .Add (.int (a : Int) u) (.int (b : Int) v)) Q E (St z h t) :=
  PySem.P.add_int (s := St z h t) (by have : (a : Int) + b = ((a + b : Nat) : Int) := by omega
                                      rw [this]; exact q _ _)
/-- world[t] = v, a new key -/
theorem setW {kvs : List (Int × Value)} {k : Nat} {u : Tok} {v : Value} {Q : Unit → Shared → Prop} {pre post : List (Addr × Cell)} (X : W prog w h₀ s₀ D L h m (pre ++ (a, .dic kvs) :: post)) (hn : ∀ kv ∈ kvs, kv.1 ≠ (k : Int)) (hsz : kvs.length ≤ 2 ^ 20)
    (q : ∀ h' tk, W prog w h₀ s₀ D L h' m (pre ++ (a, .dic (kvs ++ [((k : Int), v)])) :: post) → Q () (St z h' tk)) :
    wpAny (model prog w) A (setItem (.ref a) (.int (k : Int) u) v) Q E (St z h t) :=
  wpAny_setItem_pairs (s := St z h t) (knd := intKind prog w) (k := (k : Int)) (intIs _ _) (X.obj (a, .dic kvs) mm) (fun h' e sb => q h' _ (X.setObj (c' := .dic _) (fun b o hb e => (sb.2 b hb).trans e) (by rw [stored_new hn] at e; exact e) trivial)) (by simpa [sizeLine] using Nat.le_trans hsz (by decide))
theorem keys_lt {n j : Nat} {kvs : List (Int × Value)} (h : All2 (KvIs n) kvs (ks j)) : ∀ kv ∈ kvs, kv.1 ≠ ((3 + j : Nat) : Int) := fun kv hk => by
  obtain ⟨t, ht, e, _⟩ := h.mem hk
  have := ks_lt ht
  rw [e]; exact fun q => Nat.ne_of_lt this.2 (Int.ofNat_inj.mp q)
theorem ks_len {j : Nat} : (ks j).length = j := by
  induction j with
  | zero => rfl
  | succ j ih => show (ks j ++ [3 + j]).length = _; simp [ih]

theorem lt3or {r : Nat} (h : r < 3) : r = 0 ∨ r = 1 ∨ r = 2 := (by decide : ∀ r, r < 3 → r = 0 ∨ r = 1 ∨ r = 2) r h
theorem tblRow {T1 T2 T3 : Addr} {a1 a2 a3 b1 b2 b3 c1 c2 c3 : Tok} {r k : Nat} (t1 : IsTup h T1 [Value.int 0 a1, .int 0 a2, .int 1 a3].toArray) (t2 : IsTup h T2 [Value.int 0 b1, .int 1 b2, .int 1 b3].toArray) (t3 : IsTup h T3 [Value.int 0 c1, .int 1 c2, .int 0 c3].toArray) (hr : r < 3) (hk : k < 3) :
    ∃ (T' : Addr) (row : List Value), [Value.ref T1, .ref T2, .ref T3][r]? = some (.ref T') ∧ IsTup h T' row.toArray ∧ ∃ u', row[k]? = some (.int ((tblW r k : Nat) : Int) u') := by
  have hr := lt3or hr
  have hk := lt3or hk
  rcases hr with rfl | rfl | rfl
  · exact ⟨T1, _, rfl, t1, by rcases hk with rfl | rfl | rfl <;> exact ⟨_, rfl⟩⟩
  · exact ⟨T2, _, rfl, t2, by rcases hk with rfl | rfl | rfl <;> exact ⟨_, rfl⟩⟩
  · exact ⟨T3, _, rfl, t3, by rcases hk with rfl | rfl | rfl <;> exact ⟨_, rfl⟩⟩

theorem worlds_spec {vt vh : List Value} (g : Gnd w h₀ h) (hr : Room A 2) (htl : h.PlainList tl vt.toArray) (hvt : All2 IsI vt [3, 4, 5]) (hth : h.PlainList th vh.toArray) (hvh : All2 IsI vh [6, 7, 8])
    (hR : ∀ h' tk FL ds, Ext h h' → (∀ a ∈ FL :: ds, h.get? a = none) → (FL :: ds).Nodup → WorldsIs prog w FL ds h' → R (.ok (.ret (.ref FL))) (St z h' tk)) :
    codeAny (model prog w) A (.call (.ref 531) ⟨[.ref tl, .ref th], []⟩) R (St z h t) := by
  refine enterF 531 [("truths", .ref tl), ("things", .ref th)] g hr fun h₁ L A' tk en hns hr' => ?_
  have X := W.enter (prog := prog) noWd g trivial en hns
  have ext : ∀ {m : Str → Option Value} {objs : List (Addr × Cell)} {h' : Heap}, W prog w h₀ h noWd L h' m objs → Ext h h' := fun X b o e => X.keep b o List.not_mem_nil e
  refine sAsg (List_ (args_nil (newLst X fun h' FL X => stL X fun h' tk X => ?_)))
  refine sFor (Call_ (nmB (X.gd g.G) (by k_is) boot_range (PyProof.Rows.callWith_type1 (args_cons (cInt fun u tk => args_nil (rangeNew (n := 16) X fun h' r tk t1 t2 t3 X hr => rangeIter (by decide) X hr fun h' it X => ?_))))))
  refine loopRg (n := 16) hr'.hh (fun k D m objs => D = noWd ∧ ∃ dcs : List (Addr × List (Int × Value)), A6 (objs = (FL, .lst (dcs.reverse.map fun p => Value.ref p.1)) :: dcs.map (fun p => (p.1, Cell.dic p.2))) (dcs.length = k) ((∀ (n : Nat) p, dcs.reverse[n]? = some p → All2 (KvIs n) p.2 (ks 6))) (m "found" = some (.ref FL)) (m "truths" = some (.ref tl)) (m "things" = some (.ref th))) X ⟨rfl, [], rfl, rfl, fun n p e => by simp at e, rfl, rfl, rfl⟩ ?_ ?_
  · rintro n u D m objs h₂ t₂ hn ⟨rfl, dcs, rfl, hlen, hdcs, hm1, hm2, hm3⟩ X
    refine opq ?_
    intro TT hT
    refine sAsg (newD X fun h' dw X => stL X fun h' tk X => ?_)
    -- the truths
    refine sFor (Call_ (nmB (X.gd g.G) (by k_is) boot_enumerate (PyProof.Rows.callWith_type1 (argsS X (.cons (.loc hm2) .nil) (enumNew X (htl.at fun o e => ext X _ o e) fun h' e it' X => enumIter X ?_)))))
    refine loopEn (vs := vt) hr'.hh (fun k D m objs => D = noWd ∧ ∃ kvs, A7 (objs = (dw, .dic kvs) :: (it, .obj (rgO ((n + 1 : Nat) : Int) (((16 : Nat) : Int) - ((n + 1 : Nat) : Int)))) :: (FL, .lst (dcs.reverse.map fun p => Value.ref p.1)) :: dcs.map (fun p => (p.1, Cell.dic p.2))) (All2 (KvIs n) kvs (ks k)) (m "found" = some (.ref FL)) (m "truths" = some (.ref tl)) (m "things" = some (.ref th)) (m "world" = some (.ref dw)) (m "number" = some (.int (n : Int) u))) X ⟨rfl, [], rfl, .nil, hm1, hm2, hm3, rfl, rfl⟩ ?_ ?_ ?_
    · rintro k D m m' objs h' Y ⟨rfl, _⟩
      exact htl.at fun o e => ext Y _ o e
    · rintro k v uk D m objs h' t' hv ⟨rfl, kvs, rfl, hkv, hf, ht, hg, hw, hnum⟩ Y
      refine opq ?_
      intro TT hT
      have hk3 : k < 3 := by have := (List.getElem?_eq_some_iff.mp hv).1; rw [hvt.len] at this; exact this
      obtain ⟨ut, e⟩ := lt3 (b := 3) (l := []) hvt hk3
      rw [hv] at e; cases e
      refine sAsgSub (wpAny_Compare1 (wpAny_BinOp (wpAny_BinOp (nmL Y hnum (wpAny_BinOp (cInt fun u2 tk => nmL Y rfl (powN (Nat.le_trans (Nat.le_of_lt hk3) (by decide)) fun tk u => divN (Nat.two_pow_pos k) (Nat.le_trans (Nat.pow_le_pow_right (by decide) (Nat.le_of_lt hk3)) (by decide)) fun tk u => ?_)))))))
      refine cInt fun u2 tk => modNN (b := 2) (by decide) fun tk u => cInt fun u2 tk => eqN (b := 1) (nmL Y hw (nmL Y rfl ?_))
      refine setW (pre := [_, _]) Y (keys_lt hkv) (by rw [hkv.len, ks_len]; exact Nat.le_trans (Nat.le_of_lt hk3) (by decide)) fun h' tk Y => sNil ?_
      refine hT _ _ ⟨h', tk, _, _, _, rfl, Y, _, rfl, rfl, _, rfl, hkv.snoc ⟨rfl, ?_⟩, hf, ht, hg, hw, hnum⟩
      have e1 : 3 + k < 6 := Nat.add_lt_add_left hk3 3
      have e2 : 3 + k - 3 = k := Nat.add_sub_cancel_left _ _
      unfold IsV wv
      rw [if_pos (if_pos e1), if_pos e1, e2]
    · rintro D m objs h' t' ⟨rfl, kvs, rfl, hkv, hf, ht, hg, hw, hnum⟩ Y
      have hkv : All2 (KvIs n) kvs (ks 3) := by rw [hvt.len] at hkv; exact hkv
      -- the things
      refine sFor (Call_ (nmB (Y.gd g.G) (by k_is) boot_enumerate (PyProof.Rows.callWith_type1 (argsS Y (.cons (.loc hg) .nil) (enumNew Y (hth.at fun o e => ext Y _ o e) fun h' e it' Y => enumIter Y ?_)))))
      refine loopEn (vs := vh) hr'.hh (fun k D m objs => D = noWd ∧ ∃ kvs, A7 (objs = (dw, .dic kvs) :: (it, .obj (rgO ((n + 1 : Nat) : Int) (((16 : Nat) : Int) - ((n + 1 : Nat) : Int)))) :: (FL, .lst (dcs.reverse.map fun p => Value.ref p.1)) :: dcs.map (fun p => (p.1, Cell.dic p.2))) (All2 (KvIs n) kvs (ks (3 + k))) (m "found" = some (.ref FL)) (m "truths" = some (.ref tl)) (m "things" = some (.ref th)) (m "world" = some (.ref dw)) (m "number" = some (.int (n : Int) u))) Y ⟨rfl, _, rfl, hkv, hf, ht, hg, hw, hnum⟩ ?_ ?_ ?_
      · rintro k D m m' objs h' Y ⟨rfl, _⟩
        exact hth.at fun o e => ext Y _ o e
      · rintro k v uk D m objs h' t' hv ⟨rfl, kvs, rfl, hkv, hf, ht, hg, hw, hnum⟩ Y
        refine opq ?_
        intro TT hT
        have hk3 : k < 3 := by have := (List.getElem?_eq_some_iff.mp hv).1; rw [hvh.len] at this; exact this
        obtain ⟨ut, e⟩ := lt3 (b := 6) (l := []) hvh hk3
        rw [hv] at e; cases e
        refine sAsgSub ?_
        refine Subscript_ ?_
        refine Subscript_ ?_
        refine Tuple_ ?_
        refine args_cons (Tuple_ (args_cons (cInt fun a1 tk => args_cons (cInt fun a2 tk => args_cons (cInt fun a3 tk => args_nil ?_)))))
        refine newTup Y fun h' T1 Y => ?_
        refine args_cons (Tuple_ (args_cons (cInt fun b1 tk => args_cons (cInt fun b2 tk => args_cons (cInt fun b3 tk => args_nil ?_)))))
        refine newTup Y fun h' T2 Y => ?_
        refine args_cons (Tuple_ (args_cons (cInt fun c1 tk => args_cons (cInt fun c2 tk => args_cons (cInt fun c3 tk => args_nil ?_)))))
        refine newTup Y fun h' T3 Y => args_nil ?_
        refine newTup Y fun h' T Y => ?_
        refine wpAny_BinOp (wpAny_BinOp (wpAny_BinOp (nmL Y hnum (cInt fun u2 tk => modNN (b := 8) (by decide) fun tk u => wpAny_BinOp (nmL Y hnum (cInt fun u2 tk => divN (b := 8) (by decide) (by decide) fun tk u => addN' fun tk u => cInt fun u2 tk => modNN (b := 3) (by decide) fun tk u => ?_))))))
        have hr3 : (n % 8 + n / 8) % 3 < 3 := Nat.mod_lt _ (by decide)
        generalize hr : (n % 8 + n / 8) % 3 = r at hr3
        obtain ⟨T', row, e1, e2, u', e3⟩ := tblRow (Y.obj (T1, .tup [.int 0 a1, .int 0 a2, .int 1 a3]) mm) (Y.obj (T2, .tup [.int 0 b1, .int 1 b2, .int 1 b3]) mm) (Y.obj (T3, .tup [.int 0 c1, .int 1 c2, .int 0 c3]) mm) hr3 hk3
        refine itT (i := r) (Y.obj _ (.head _)) e1 rfl (by omega) (nmL Y rfl (itT (i := k) e2 e3 rfl (by omega) (nmL Y hw (nmL Y rfl ?_))))
        refine setW (pre := [_, _, _, _, _, _]) Y (k := 6 + k) (by have := keys_lt hkv; rw [← Nat.add_assoc] at this; exact this) (by rw [hkv.len, ks_len]; omega) fun h' tk Y => sNil ?_
        refine hT _ _ ⟨h', tk, _, _, _, rfl, Y.drop.drop.drop.drop, _, rfl, rfl, _, rfl, ?_, hf, ht, hg, hw, hnum⟩
        have e4 : ks (3 + (k + 1)) = ks (3 + k) ++ [6 + k] := by show ks (3 + k) ++ [3 + (3 + k)] = _; rw [← Nat.add_assoc]
        rw [e4]
        refine hkv.snoc ⟨rfl, ?_⟩
        have e5 : ¬ 6 + k < 6 := Nat.not_lt.mpr (Nat.le_add_right 6 k)
        have e6 : 6 + k - 6 = k := Nat.add_sub_cancel_left _ _
        unfold IsV wv
        rw [if_neg (by rw [if_neg e5]; decide), if_neg e5, e6, hr]
        refine ⟨u', ?_⟩
        have : tblW r k = 0 ∨ tblW r k = 1 := by
          have : ∀ r, r < 3 → ∀ k, k < 3 → tblW r k = 0 ∨ tblW r k = 1 := by decide
          exact this r hr3 k hk3
        rcases this with h | h <;> rw [h] <;> rfl
      · rintro D m objs h' t' ⟨rfl, kvs, rfl, hkv, hf, ht, hg, hw, hnum⟩ Y
        have hkv : All2 (KvIs n) kvs (ks 6) := by rw [hvh.len] at hkv; exact hkv
        have Y := Y.perm (objs' := (FL, .lst (dcs.reverse.map fun p => Value.ref p.1)) :: (it, .obj (rgO ((n + 1 : Nat) : Int) (((16 : Nat) : Int) - ((n + 1 : Nat) : Int)))) :: (dw, .dic kvs) :: dcs.map (fun p => (p.1, Cell.dic p.2))) (((List.Perm.swap _ _ _).trans ((List.Perm.swap _ _ _).cons _)).trans (List.Perm.swap _ _ _))
        have hFl : h'.PlainList FL (dcs.reverse.map fun p => Value.ref p.1).toArray := Y.obj _ (.head _)
        refine sExpr (MethodCall_ (nmL Y hf (getMethodList F.slot_list_append F.type_list_append hFl (callWith_method1 (argsS Y (.cons (.loc hw) .nil) (appL hFl (by simp; omega) fun h' e sb => ?_))))))
        have Y := Y.set0 (c' := .lst ((dcs.reverse.map fun p => Value.ref p.1) ++ [Value.ref dw])) (fun b o hb e => (sb.2 b hb).trans e) e trivial
        have Y := Y.perm (objs' := (it, .obj (rgO ((n + 1 : Nat) : Int) (((16 : Nat) : Int) - ((n + 1 : Nat) : Int)))) :: (FL, .lst ((((dw, kvs) :: dcs).reverse).map fun p => Value.ref p.1)) :: ((dw, kvs) :: dcs).map (fun p => (p.1, Cell.dic p.2))) (by rw [List.reverse_cons, List.map_append]; exact List.Perm.swap _ _ _)
        refine sNil (hT _ _ ⟨h', _, _, _, _, rfl, Y, rfl, (dw, kvs) :: dcs, rfl, by simp [hlen], fun i p hp => ?_, hf, ht, hg⟩)
        rw [List.reverse_cons] at hp
        rcases snoc_get hp with hp | ⟨e, q⟩
        · exact hdcs i p hp
        · exact (e.trans (List.length_reverse.trans hlen)) ▸ q ▸ hkv
  · rintro D m objs h₂ t₂ ⟨rfl, dcs, rfl, hlen, hdcs, hm1, hm2, hm3⟩ X
    have e1 : (dcs.map fun p : Addr × List (Int × Value) => (p.1, Cell.dic p.2)).map (·.1) = dcs.map (·.1) := by rw [List.map_map]; rfl
    have hmem : ∀ a, a ∈ FL :: (dcs.reverse.map (·.1)) → a ∈ FL :: dcs.map (·.1) := fun a ha => by
      rcases List.mem_cons.mp ha with h | h
      · exact h ▸ .head _
      · rw [List.map_reverse, List.mem_reverse] at h; exact .tail _ h
    refine sRet (nmL X hm1 (hR _ _ FL (dcs.reverse.map (·.1)) (ext X) (fun a ha => (X.fresh a ?_).1) ?_ ⟨?_, by simp [hlen], fun n d e => ?_⟩))
    · have := hmem a ha
      simp only [List.map_cons, e1]
      exact .tail _ this
    · have nd := X.nd
      simp only [List.map_cons, e1] at nd
      have nd := (List.nodup_cons.mp nd).2
      have hp : (FL :: dcs.reverse.map (·.1)).Perm (FL :: dcs.map (·.1)) := by
        rw [List.map_reverse]; exact (List.reverse_perm _).cons _
      exact hp.nodup_iff.mpr nd
    · have := X.obj _ (.head _)
      rw [List.map_map]; exact this
    · rw [List.getElem?_map, Option.map_eq_some_iff] at e
      obtain ⟨p, hp, rfl⟩ := e
      refine ⟨p.2, X.obj (p.1, .dic p.2) (.tail _ (List.mem_map_of_mem (f := fun p : Addr × List (Int × Value) => (p.1, Cell.dic p.2)) ?_)), hdcs n p hp⟩
      exact List.mem_reverse.mp (List.mem_of_getElem? hp)
end
end Mine

-- Wort
namespace Mine

theorem va_map (kvs : List (Int × Value)) (k k' : Int) (v : Value) : valueAt (kvs.map fun kv => if kv.1 = k then (kv.1, v) else kv) k' = if k' = k then (valueAt kvs k').map (fun _ => v) else valueAt kvs k' := by
  induction kvs with
  | nil => simp [valueAt]
  | cons x kvs ih =>
    unfold valueAt at ih ⊢
    simp only [List.map_cons, List.find?_cons]
    have e : (if x.1 = k then (x.1, v) else x).1 = x.1 := by split <;> rfl
    rw [e]
    by_cases h : x.1 = k'
    · simp only [h, decide_true]
      split <;> rfl
    · simp only [h, decide_false]
      exact ih
theorem valueAt_st (kvs : List (Int × Value)) (k k' : Int) (v : Value) : valueAt (stored kvs k v) k' = if k' = k then some v else valueAt kvs k' := by
  unfold stored
  by_cases h : (kvs.any fun kv => decide (kv.1 = k)) = true
  · rw [if_pos h, va_map]
    by_cases hk : k' = k
    · subst hk
      rw [if_pos rfl, if_pos rfl]
      have := PyProof.Rows.valueAt_isSome_eq_any kvs k'
      rw [h] at this
      obtain ⟨u, hu⟩ := Option.isSome_iff_exists.mp this
      rw [hu]; rfl
    · rw [if_neg hk, if_neg hk]
  · rw [if_neg h]
    unfold valueAt
    rw [List.find?_append]
    by_cases hk : k' = k
    · subst hk
      rw [if_pos rfl]
      have := PyProof.Rows.valueAt_isSome_eq_any kvs k'
      have hn : valueAt kvs k' = none := by
        cases q : valueAt kvs k' with
        | none => rfl
        | some _ => rw [q] at this; exact absurd this.symm h
      unfold valueAt at hn
      cases q : kvs.find? fun kv => decide (kv.1 = k') with
      | some _ => rw [q] at hn; cases hn
      | none => simp
    · rw [if_neg hk]
      cases q : kvs.find? fun kv => decide (kv.1 = k') with
      | some _ => rfl
      | none =>
        have : ¬ k = k' := fun e => hk e.symm
        simp [this]

section
variable {prog : Program} {w : World} {A : Around} {E : Value → Shared → Prop} {z : Shared} {h₀ s₀ h : Heap} {t : Nat} {R : Result → Shared → Prop} {D D' : Wd} {L a it tl th : Addr} {m : Str → Option Value} {objs : List (Addr × Cell)} {env : Env} {β : Adr} {B B' : List Tm}

theorem valueAt_all2 {n j : Nat} {kvs : List (Int × Value)} (h : All2 (KvIs n) kvs (ks j)) {t : Nat} (ht : t ∈ ks j) : ∃ v, valueAt kvs (t : Int) = some v ∧ IsV (if t < 6 then 0 else 3) (wv n t) v := by
  generalize ks j = l at h ht
  induction h with
  | nil => cases ht
  | @cons x y xs ys r _ ih =>
    obtain ⟨r1, r2⟩ := r
    unfold valueAt
    rw [List.find?_cons]
    by_cases e : y = t
    · subst e
      rw [decide_eq_true r1]
      exact ⟨_, rfl, r2⟩
    · have : ¬ x.1 = (t : Int) := by rw [r1]; omega
      rw [decide_eq_false this]
      rcases List.mem_cons.mp ht with h | h
      · exact absurd h.symm e
      · exact ih h

/-- dict(d), an int-keyed one -/
theorem dictCopy {d : Addr} {kvs : List (Int × Value)} {Q : Value → Shared → Prop} (X : W prog w h₀ s₀ D L h m objs) (hd : h.DictOf (intKind prog w) d kvs) (hs : (d == sysModules) = false) (hsz : kvs.length ≤ 1000)
    (q : ∀ h' c, W prog w h₀ s₀ D L h' m ((c, .dic kvs) :: objs) → Q (.ref c) (St z h' t)) : wpAny (model prog w) A (call (.type "dict") [.ref d]) Q E (St z h t) :=
  kt_call_dict (s := St z h t) hs hd (by simp [sizeLine]; omega) fun h' e sb => q h' _ ((X.push _ (c := .dic []) (Heap.DictOf.new h)).set0 (c' := .dic kvs) (fun b o hb e => (sb.2 b hb).trans e) e trivial)
theorem itI {value slice : Expr} {d : Addr} {kvs : List (Int × Value)} {k : Nat} {u : Tok} {v : Value} {Q : Value → Shared → Prop} (hd : h.DictOf (intKind prog w) d kvs) (hx : valueAt kvs (k : Int) = some v) (q : ∀ tk, Q v (St z h tk))
    (hs : subscripted slice false (.ref d) (.int (k : Int) u) = operate [.ref d, .int (k : Int) u] (getItem (.ref d) (.int (k : Int) u)) := by with_unfolding_all rfl) :
    wpAny (model prog w) A (subscriptTail value slice (.ref d) (.int (k : Int) u)) Q E (St z h t) :=
  tail_any (s := St z h t) hd.typeIs F.slot_dict_getitem.lookup (wpAny_getItem_of (s := St z h t) (knd := intKind prog w) (k := (k : Int)) (intIs _ _) hd.mapOf hx (q _)) hs
/-- worth[one] = v -/
theorem setV {kvs : List (Int × Value)} {k : Nat} {u : Tok} {v : Value} {Q : Unit → Shared → Prop} {pre post : List (Addr × Cell)} (X : W prog w h₀ s₀ D L h m (pre ++ (a, .dic kvs) :: post)) (hsz : kvs.length ≤ 2 ^ 20)
    (q : ∀ h' tk, W prog w h₀ s₀ D L h' m (pre ++ (a, .dic (stored kvs (k : Int) v)) :: post) → Q () (St z h' tk)) :
    wpAny (model prog w) A (setItem (.ref a) (.int (k : Int) u) v) Q E (St z h t) :=
  wpAny_setItem_pairs (s := St z h t) (knd := intKind prog w) (k := (k : Int)) (intIs _ _) (X.obj (a, .dic kvs) mm) (fun h' e sb => q h' _ (X.setObj (c' := .dic _) (fun b o hb e => (sb.2 b hb).trans e) e trivial)) (by simpa [sizeLine] using Nat.le_trans hsz (by decide))

noncomputable def IsB (b : Bool) (v : Value) : Prop := v = .bool b
/-- v in [bools] -/
theorem inBools {bs : List Bool} {b : Bool} {Q : Value → Shared → Prop} (hl : h.PlainList a (bs.map Value.bool).toArray) (q : Q (.bool (bs.any fun c => c == b)) (St z h t)) : wpAny (model prog w) A (compareOp .In (.bool b) (.ref a)) Q E (St z h t) := by
  refine PySem.SeqAt.in_listAt (s := St z h t) (fun y => match y with | .bool c => c == b | _ => false) hl.isList (fun y hy => ?_) ?_
  · simp only [List.mem_toArray, List.mem_map] at hy
    obtain ⟨c, _, rfl⟩ := hy
    exact PySem.SeqAt.EqAt.bool_bool c b
  · have : ((bs.map Value.bool).toArray.any fun y => match y with | .bool c => c == b | _ => false) = bs.any fun c => c == b := by
      rw [List.any_toArray, List.any_map]; rfl
    rw [this]; exact q
theorem notInBools {bs : List Bool} {b : Bool} {Q : Value → Shared → Prop} (hl : h.PlainList a (bs.map Value.bool).toArray) (q : Q (.bool (!bs.any fun c => c == b)) (St z h t)) : wpAny (model prog w) A (compareOp .NotIn (.bool b) (.ref a)) Q E (St z h t) := by
  refine PySem.SeqAt.notIn_listAt (s := St z h t) (fun y => match y with | .bool c => c == b | _ => false) hl.isList (fun y hy => ?_) ?_
  · simp only [List.mem_toArray, List.mem_map] at hy
    obtain ⟨c, _, rfl⟩ := hy
    exact PySem.SeqAt.EqAt.bool_bool c b
  · have : ((bs.map Value.bool).toArray.any fun y => match y with | .bool c => c == b | _ => false) = bs.any fun c => c == b := by
      rw [List.any_toArray, List.any_map]; rfl
    rw [this]; exact q

theorem WF.sort0 {x : Tm} {t : Nat} (w : WF B) (e : B[t]? = some x) (h1 : x.op ≠ .app) (h2 : x.op ≠ .ite) (h3 : x.op ≠ .dummy) : x.sort = 0 := by
  have hb := (w.tm _ _ e).body
  unfold BodyOk at hb
  split at hb
  · exact absurd (by assumption) h3
  · subst hb; rw [w.h1] at e; cases e; rfl
  · subst hb; rw [w.h2] at e; cases e; rfl
  · exact absurd (by assumption) h1
  · obtain ⟨a, y, rfl, _⟩ := hb; rfl
  · exact hb.1
  · exact hb.1
  · obtain ⟨a, b, s, rfl, _⟩ := hb; rfl
  · exact absurd (by assumption) h2
theorem anyF (l : List Bool) : (!l.any fun c => c == false) = l.all id := by induction l with | nil => rfl | cons a l ih => simp only [List.any_cons, List.all_cons, id, Bool.not_or, ih]; cases a <;> rfl
theorem anyT (l : List Bool) : (l.any fun c => c == true) = l.any id := by induction l with | nil => rfl | cons a l ih => simp only [List.any_cons, id, ih]; cases a <;> rfl
noncomputable def ValIs (B : List Tm) (v : Nat → Bool) (kvs : List (Int × Value)) (a : Nat) : Prop := ∃ x val, B[a]? = some x ∧ valueAt kvs (a : Int) = some val ∧ IsV x.sort (sem v B a) val
noncomputable def TabOk (B : List Tm) (v : Nat → Bool) (kvs : List (Int × Value)) (l : List Nat) : Prop := ∀ a, (3 ≤ a ∧ a < 9) ∨ a ∈ l → ValIs B v kvs a
theorem TabOk.start {n : Nat} {kvs : List (Int × Value)} (hw : WF B) (h : All2 (KvIs n) kvs (ks 6)) : TabOk B (wv n) kvs [] := by
  intro a ha
  have ha := ha.resolve_right (by simp)
  obtain ⟨v, e, hv⟩ := valueAt_all2 h ((by decide : ∀ a, a < 9 → 3 ≤ a → a ∈ ks 6) a ha.2 ha.1)
  have hx := base_at hw ((by decide : ∀ a, a < 9 → 3 ≤ a → base9[a]? = some ⟨.app, [], if a < 6 then 0 else 3, a - 3⟩) a ha.2 ha.1)
  refine ⟨_, v, hx, e, ?_⟩
  rw [hw.sem hx]; exact hv
theorem TabOk.more {v : Nat → Bool} {kvs : List (Int × Value)} {l : List Nat} {one : Nat} {x : Tm} {val : Value} (h : TabOk B v kvs l) (e : B[one]? = some x) (hv : IsV x.sort (sem v B one) val) : TabOk B v (stored kvs (one : Int) val) (l ++ [one]) := by
  intro a ha
  by_cases q : a = one
  · subst q
    exact ⟨x, val, e, by rw [valueAt_st, if_pos rfl], hv⟩
  · have ha' : (3 ≤ a ∧ a < 9) ∨ a ∈ l := ha.imp_right fun k => by
      rcases List.mem_append.mp k with k | k
      · exact k
      · simp only [List.mem_singleton] at k; exact absurd k q
    obtain ⟨y, u, e1, e2, e3⟩ := h a ha'
    exact ⟨y, u, e1, by rw [valueAt_st, if_neg (by omega)]; exact e2, e3⟩
noncomputable def ArgV (B : List Tm) (v : Nat → Bool) (val : Value) (a : Nat) : Prop := ∃ y, B[a]? = some y ∧ IsV y.sort (sem v B a) val
theorem argBools {v : Nat → Bool} : ∀ {l : List Nat} {ys : List Value}, All2 (ArgV B v) ys l → (∀ a ∈ l, HasS B a 0) → ys = (l.map (sem v B)).map Value.bool := by
  intro l ys h
  induction h with
  | nil => intro _; rfl
  | @cons val a ys l r _ ih =>
    intro hs
    obtain ⟨y, ey, hv⟩ := r
    obtain ⟨y', ey', hs', _⟩ := hs a (.head _)
    rw [ey] at ey'; cases ey'
    unfold IsV at hv
    rw [if_pos hs'] at hv
    rw [hv, ih fun b hb => hs b (.tail _ hb)]; rfl

theorem opsTF (o : Op) : ((["true", "false"] : List Str).any (· == o.str)) = decide (o = .tru ∨ o = .fls) := by cases o <;> decide
theorem opsAO (o : Op) : ((["and", "or"] : List Str).any (· == o.str)) = decide (o = .and ∨ o = .or) := by cases o <;> decide
theorem opsEq (o : Op) : ((["=", "xor"] : List Str).any (· == o.str)) = decide (o = .eq) := by cases o <;> decide

theorem eqV {s : Nat} {b1 b2 : Bool} {v1 v2 : Value} {Q : Value → Shared → Prop} {st : Shared} (h1 : IsV s b1 v1) (h2 : IsV s b2 v2) (q : Q (.bool (b1 == b2)) st) : wpAny (model prog w) A (compareOp .Eq v1 v2) Q E st := by
  unfold IsV at h1 h2
  by_cases hs : s = 0
  · rw [if_pos hs] at h1 h2
    subst h1; subst h2
    exact eq_bool q
  · rw [if_neg hs] at h1 h2
    obtain ⟨u1, rfl⟩ := h1
    obtain ⟨u2, rfl⟩ := h2
    refine PyProof.Rows.eq_int ?_
    have : ((if b1 then (1 : Int) else 0) == (if b2 then 1 else 0)) = (b1 == b2) := by cases b1 <;> cases b2 <;> rfl
    rw [this]; exact q

set_option maxHeartbeats 8000000 in
theorem w_tf {x : Tm} {one : Nat} {v : Nat → Bool} (hw : WF B) (hx : B[one]? = some x) (hxd : x.op ≠ .dummy) (c1 : x.op = .tru ∨ x.op = .fls) : IsV x.sort (sem v B one) (.bool (decide (x.op = .tru))) := by
  have h0 := hw.sort0 hx (by rcases c1 with h | h <;> rw [h] <;> decide) (by rcases c1 with h | h <;> rw [h] <;> decide) hxd
  unfold IsV
  rw [if_pos h0, hw.sem (v := v) hx]
  unfold semTm
  rcases c1 with h | h <;> rw [h] <;> rfl
theorem w_not {x : Tm} {one : Nat} {v : Nat → Bool} {ys : List Value} (hw : WF B) (hx : B[one]? = some x) (hys : All2 (ArgV B v) ys x.args) (c2 : x.op = .not) : Ex2 (fun b => ys[0]? = some (.bool b)) (fun b => IsV x.sort (sem v B one) (.bool (!b))) := by
  obtain ⟨a, rfl⟩ := hw.not_eq hx c2
  obtain ⟨y, ey, hy0, hyd, _⟩ := hw.not hx
  have eys := argBools hys fun b hb => by simp only [List.mem_singleton] at hb; subst hb; exact ⟨y, ey, hy0, hyd⟩
  exact ⟨sem v B a, by rw [eys]; rfl, by rw [hw.sem (v := v) hx]; rfl⟩
theorem w_ao {x : Tm} {one : Nat} {v : Nat → Bool} {ys : List Value} (hw : WF B) (hx : B[one]? = some x) (hys : All2 (ArgV B v) ys x.args) (c3 : x.op = .and ∨ x.op = .or) :
    ∃ bs : List Bool, A3 (ys = bs.map Value.bool) (x.op = .and → IsV x.sort (sem v B one) (.bool (!bs.any fun c => c == false))) (x.op ≠ .and → IsV x.sort (sem v B one) (.bool (bs.any fun c => c == true))) := by
  obtain ⟨h0, _, _, hall⟩ := hw.ao (op := x.op) c3 hx rfl
  refine ⟨x.args.map (sem v B), argBools hys hall, fun c4 => ?_, fun c4 => ?_⟩
  · unfold IsV
    rw [if_pos h0, hw.sem (v := v) hx, anyF, List.all_map]
    unfold semTm
    rw [c4]; rfl
  · unfold IsV
    rw [if_pos h0, hw.sem (v := v) hx, anyT, List.any_map]
    unfold semTm
    rw [c3.resolve_left c4]; rfl
theorem w_eq {x : Tm} {one : Nat} {v : Nat → Bool} {ys : List Value} (hw : WF B) (hx : B[one]? = some x) (hys : All2 (ArgV B v) ys x.args) (c5 : x.op = .eq) :
    E5 fun s' b1 b2 va vb => A5 (ys[0]? = some va) (ys[1]? = some vb) (IsV s' b1 va) (IsV s' b2 vb) (IsV x.sort (sem v B one) (.bool ((b1 == b2) == decide (x.op = .eq)))) := by
  have hsem := hw.sem (v := v) hx
  have hbody := (hw.tm _ _ hx).body
  unfold BodyOk at hbody
  rw [c5] at hbody
  obtain ⟨a, b, s', rfl, ⟨ya, ea, hsa, _⟩, ⟨yb, eb, hsb, _⟩⟩ := hbody
  cases hys with
  | cons r1 q => cases q with
    | cons r2 q =>
      cases q
      obtain ⟨y1, e1, k1⟩ := r1
      obtain ⟨y2, e2, k2⟩ := r2
      rw [ea] at e1; cases e1
      rw [eb] at e2; cases e2
      refine ⟨s', sem v B a, sem v B b, _, _, rfl, rfl, hsa ▸ k1, hsb ▸ k2, ?_⟩
      rw [hsem]
      show _ = Value.bool (sem v B a == sem v B b)
      rw [decide_eq_true rfl]; simp
theorem w_ite {x : Tm} {one : Nat} {v : Nat → Bool} {ys : List Value} (hw : WF B) (hx : B[one]? = some x) (hys : All2 (ArgV B v) ys x.args) (c6 : x.op = .ite) :
    E3 fun b va vb => A5 (ys[0]? = some (.bool b)) (ys[1]? = some va) (ys[2]? = some vb) (b = true → IsV x.sort (sem v B one) va) (b = false → IsV x.sort (sem v B one) vb) := by
  have hsem := hw.sem (v := v) hx
  obtain ⟨c, a, b, s', rfl, hcc, ⟨ya, ea, hsa, _⟩, ⟨yb, eb, hsb, _⟩, _⟩ := hw.ite hx c6
  obtain ⟨yc, ec, hsc, _⟩ := hcc
  cases hys with
  | cons r0 q => cases q with
    | cons r1 q => cases q with
      | cons r2 q =>
        cases q
        obtain ⟨y0, e0, k0⟩ := r0
        obtain ⟨y1, e1, k1⟩ := r1
        obtain ⟨y2, e2, k2⟩ := r2
        rw [ec] at e0; cases e0
        rw [ea] at e1; cases e1
        rw [eb] at e2; cases e2
        unfold IsV at k0
        rw [if_pos hsc] at k0
        refine ⟨sem v B c, _, _, by rw [k0]; rfl, rfl, rfl, fun hc => ?_, fun hc => ?_⟩
        · rw [hsem]
          show IsV s' (if sem v B c = true then _ else _) _
          rw [if_pos hc]; exact hsa ▸ k1
        · rw [hsem]
          show IsV s' (if sem v B c = true then _ else _) _
          rw [if_neg (by rw [hc]; decide)]; exact hsb ▸ k2
theorem w_app {x : Tm} {one : Nat} (hw : WF B) (hx : B[one]? = some x) (hxd : x.op ≠ .dummy) (c1 : ¬(x.op = .tru ∨ x.op = .fls)) (c2 : x.op ≠ .not) (c3 : ¬(x.op = .and ∨ x.op = .or)) (c5 : x.op ≠ .eq) (c6 : x.op ≠ .ite) : 3 ≤ one ∧ one < 9 := by
  have hbody := (hw.tm _ _ hx).body
  unfold BodyOk at hbody
  cases ho : x.op
  · exact absurd ho hxd
  · exact absurd (.inl ho) c1
  · exact absurd (.inr ho) c1
  · rw [ho] at hbody; exact hbody
  · exact absurd ho c2
  · exact absurd (.inl ho) c3
  · exact absurd (.inr ho) c3
  · exact absurd ho c5
  · exact absurd ho c6

theorem worths_spec {t₀ s : Nat} {ut : Tok} {FW : Addr} {ds : List Addr} (C : Cf w h₀ β) (g : Gnd w h₀ h) (hr : Room A 8) (hB : BankAt prog w β B h) (hsz : B.length ≤ 2 ^ 23) (hw : WF B) (hp : PartsOk B t₀) (ht : HasS B t₀ s)
    (hW : WorldsIs prog w FW ds h) (hds : ∀ a ∈ FW :: ds, h₀.get? a = none)
    (hR : ∀ h' tk a (vs : List Value), Ext h h' → h.get? a = none → h'.PlainList a vs.toArray → vs.length = 16 → (∀ (i : Nat) v, vs[i]? = some v → IsV s (sem (wv i) B t₀) v) → R (.ok (.ret (.ref a))) (St z h' tk)) :
    codeAny (model prog w) A (.call (.ref 536) ⟨[.ref β.inst, .int (t₀ : Int) ut, .ref FW], []⟩) R (St z h t) := by
  obtain ⟨np, ps, hps, htopo, htps, hpl⟩ := hp
  refine enterFC 536 [("bank", .ref β.inst), ("t", .int (t₀ : Int) ut), ("worlds", .ref FW)] g hr (fun h₁ L A' tk en hns hcs hr' => ?_)
  have hcs' : h₁.IsCell (L + 1) none := hcs "worth" _ rfl
  have X := W.enterC (prog := prog) noWd g trivial en hns [(L + 1, .sat (cellO none))]
    (fac ⟨hcs', Nat.lt_succ_self L⟩ fan) nd1
  have ext : ∀ {L : Addr} {m : Str → Option Value} {objs : List (Addr × Cell)} {h' : Heap}, W prog w h₀ h noWd L h' m objs → Ext h h' := fun X b o e => X.keep b o List.not_mem_nil e
  have bank : ∀ {L : Addr} {m : Str → Option Value} {objs : List (Addr × Cell)} {h' : Heap}, W prog w h₀ h noWd L h' m objs → BankAt prog w β B h' := fun X => hB.agree fun a o e _ => ext X a o e
  clear hcs hcs'
  refine sAsg (List_ (args_nil (newLst X fun h' fl X => stL X fun h' tk X => ?_)))
  refine sFor (nmL X rfl (iterSq (kd := "list_iterator") X (.inl ⟨rfl, hW.lst.at fun o e => ext X _ o e⟩) fun h' it X hs => ?_))
  refine loopSq hr'.hh (fun k D m objs => D = noWd ∧ E2 fun cv us => A6 (objs = [(fl, .lst us), (L + 1, .sat (cellO cv))]) (us.length = k) ((∀ (i : Nat) v, us[i]? = some v → IsV s (sem (wv i) B t₀) v)) (m "bank" = some (.ref β.inst)) (m "t" = some (.int (t₀ : Int) ut)) (m "found" = some (.ref fl))) X hs
    ⟨rfl, none, [], rfl, rfl, fun i v e => by simp at e, rfl, rfl, rfl⟩ ?_ ?_ ?_
  · rintro k j D m m' objs h' Y ⟨rfl, _⟩
    exact .inl ⟨rfl, hW.lst.at fun o e => ext Y _ o e⟩
  · rintro n v D m objs h₂ t₂ hv ⟨rfl, cv, us, rfl, hul, hus, m1, m2, m3⟩ X hs
    refine opq ?_
    intro TO hO
    obtain ⟨d, hd, rfl⟩ : ∃ d, ds[n]? = some d ∧ v = .ref d := by
      rw [List.getElem?_map, Option.map_eq_some_iff] at hv
      obtain ⟨d, hd, e⟩ := hv; exact ⟨d, hd, e.symm⟩
    obtain ⟨kvs0, hdic, hkv⟩ := (hW.wat n d hd).to fun o e => ext X _ o e
    have hn16 : n < 16 := by rw [← hW.len]; exact (List.getElem?_eq_some_iff.mp hd).1
    refine sAsg (Call_ (nmB (X.gd g.G) (by k_is) boot_dict (PyProof.Rows.callWith_type1 (argsS X (.cons (.loc rfl) .nil) (dictCopy X hdic (g.G.lo (hds d (.tail _ (List.mem_of_getElem? hd)))) (by rw [hkv.len, ks_len]; decide) fun h' dw X => ?_))))) 
    refine stC (pre := [_, _, _]) X fun h' X => ?_
    -- the parts
    refine sFor (MethodCall_ (nmL X m1 (mB (X.gd g.G) cls388 (bank X).attrs (C.full.meths _ (by decide)) (argsS X (.cons (.loc m2) .nil) ⟨(X.gd g.G).K, ?_⟩))))
    refine parts_spec C (X.gnd g.G) (hr'.less (by decide)) (bank X) hsz hps fun h' tk pa vs e ha hl hvs => ?_
    have X := X.addNew (X.grow e) rfl ha (c := .lst vs) hl
    refine iterSq (kd := "list_iterator") X (.inl ⟨rfl, hl⟩) fun h' it' X hs => ?_
    refine loopSq hr'.hh (fun k D m objs => D = noWd ∧ ∃ kvs, A6 (objs = [(pa, .lst vs), (dw, .dic kvs), (it, .sat (itS "list_iterator" FW (n + 1))), (fl, .lst us), (L + 1, .sat (cellO (some (.ref dw))))]) (TabOk B (wv n) kvs (ps.take k)) (kvs.length ≤ 6 + k) (m "bank" = some (.ref β.inst)) (m "t" = some (.int (t₀ : Int) ut)) (m "found" = some (.ref fl))) X hs
      ⟨rfl, kvs0, rfl, by rw [List.take_zero]; exact TabOk.start hw hkv, by rw [hkv.len, ks_len]; exact Nat.le_refl _, m1, m2, m3⟩ ?_ ?_ ?_
    · rintro k j D m m' objs h' Y ⟨rfl, kvs, rfl, _⟩
      exact .inl ⟨rfl, Y.obj (pa, .lst vs) mm⟩
    · rintro k v D m objs h₃ t₃ hv ⟨rfl, kvs, rfl, hT, hkl, m1, m2, m3⟩ X hs
      refine opq ?_
      intro TT hTT
      obtain ⟨one, hone, u1, rfl⟩ : ∃ one, ps[k]? = some one ∧ IsI v one := by
        obtain ⟨one, ho⟩ : ∃ one, ps[k]? = some one := ⟨ps[k]'(by rw [← hvs.len]; exact (List.getElem?_eq_some_iff.mp hv).1), by simp⟩
        obtain ⟨v', hv', hi⟩ := hvs.get ho
        rw [hv] at hv'; cases hv'; exact ⟨one, ho, hi⟩
      obtain ⟨x, hx, hxd, hargs⟩ := htopo k one hone
      have hk : k < ps.length := (List.getElem?_eq_some_iff.mp hone).1
      refine sTupS ["some", "op"] (Tuple_ (args_cons (listComp [("worth", L + 1)] (MethodCall_ (nmL X m1 (mB (X.gd g.G) cls388 (bank X).attrs (C.full.meths _ (by decide)) (argsS X (.cons (.loc rfl) .nil) ⟨(X.gd g.G).K, ?_⟩)))))))
      refine args_spec C (X.gnd g.G) (hr'.less (by decide)) (bank X) hx hsz fun h' tk Ta hk2 e => ?_
      obtain ⟨as, hTa, hal⟩ := key_isTup hk2
      have X := X.grow e
      have hTa := tupAt' hTa fun o q => e _ o q
      have X := X.pin hTa
      refine compSq (kd := "tuple_iterator") (vs := as) hr'.hh (fun i ys D objs' => A3 (D = noWd.pin Ta as) (objs' = [(it', .sat (itS "list_iterator" pa (k + 1))), (pa, .lst vs), (dw, .dic kvs), (it, .sat (itS "list_iterator" FW (n + 1))), (fl, .lst us), (L + 1, .sat (cellO (some (.ref dw))))]) (All2 (ArgV B (wv n)) ys (x.args.take i)))
        X (.inr ⟨rfl, hTa⟩) ⟨rfl, rfl, .nil⟩ ?_ ?_ ?_ ?_
      · rw [hal.len]; have := (hw.arg hx).1; omega
      · rintro i j ys D mc C' acc it2 objs' h' Y ⟨rfl, _⟩
        exact .inr ⟨rfl, Y.inv.2⟩
      · rintro C' acc it2 i v ys D mc objs' h' t' hv ⟨rfl, rfl, hys⟩ Y _
        obtain ⟨a, ha, ua, rfl⟩ : ∃ a, x.args[i]? = some a ∧ IsI v a := by
          obtain ⟨a, ho⟩ : ∃ a, x.args[i]? = some a := ⟨x.args[i]'(by rw [← hal.len]; exact (List.getElem?_eq_some_iff.mp hv).1), by simp⟩
          obtain ⟨v', hv', hi⟩ := hal.get ho
          rw [hv] at hv'; cases hv'; exact ⟨a, ho, hi⟩
        obtain ⟨y, val, ey, eval, hval⟩ := hT a (.inr (hargs a (List.mem_of_getElem? ha)))
        refine wpAny_pure (if1 ?_)
        refine opq ?_
        intro TY hTY
        refine Subscript_ (nmC (c := L + 1) Y mm (nmL Y rfl (itI (kvs := kvs) (Y.obj (dw, .dic kvs) mm) eval fun tk => ?_)))
        refine hTY _ _ ⟨_, _, _, _, _, rfl, Y, rfl, rfl, ?_⟩
        rw [List.take_add_one, ha]
        exact hys.snoc ⟨y, ey, hval⟩
      rintro acc ys D objs' h' t' ⟨rfl, rfl, hys⟩ X
      have X := X.unpin
      rw [hal.len, List.take_length] at hys
      refine args_cons (MethodCall_ (nmL X m1 (mB (X.gd g.G) cls388 (bank X).attrs (C.full.meths _ (by decide)) (argsS X (.cons (.loc rfl) .nil) ⟨(X.gd g.G).K, ?_⟩))))
      refine op_spec C (X.gnd g.G) (hr'.less (by decide)) (bank X) hx hsz fun h' tk uo e => ?_
      have X := X.grow e
      refine args_nil (newTup X fun h' T X => ?_)
      refine swap2 hr'.hh X (X.obj _ (.head _)) fun h' tk X => ?_
      have X := X.drop
      have etk : ps.take (k + 1) = ps.take k ++ [one] := by rw [List.take_add_one, hone]; rfl
      have fin : ∀ {h' tk val m'}, IsV x.sort (sem (wv n) B one) val → W prog w h₀ h noWd L h' m' ((acc, .lst ys) :: (it', .sat (itS "list_iterator" pa (k + 1))) :: [(pa, .lst vs), (dw, .dic (stored kvs (one : Int) val)), (it, .sat (itS "list_iterator" FW (n + 1))), (fl, .lst us), (L + 1, .sat (cellO (some (.ref dw))))]) →
          m' "bank" = some (.ref β.inst) → m' "t" = some (.int (t₀ : Int) ut) → m' "found" = some (.ref fl) → TT .next (St z h' tk) :=
        @fun h' tk val m' hv X c d e => hTT _ _ ⟨_, _, _, _, _, rfl, X.drop, rfl, _, rfl, by rw [etk]; exact hT.more hx hv, by have := stored_length_le kvs (one : Int) val; omega, c, d, e⟩
      have hkl2 : kvs.length ≤ 2 ^ 20 := by omega
      have hyl : ys.length ≤ 8 := by rw [hys.len]; exact (hw.arg hx).1
      have hyl : ys.length ≤ 2 ^ 24 := Nat.le_trans hyl (by decide)
      obtain ⟨PF, hPF⟩ : ∃ PF : List (Addr × Cell), PF = [(it, .sat (itS "list_iterator" FW (n + 1))), (fl, .lst us), (L + 1, .sat (cellO (some (.ref dw))))] := ⟨_, rfl⟩
      rw [← hPF] at X
      have mc : (L + 1, Cell.sat (cellO (some (.ref dw)))) ∈ PF := by rw [hPF]; exact mm
      simp only [← hPF] at fin
      have mc4 : ∀ {a b c d : Addr × Cell}, (L + 1, Cell.sat (cellO (some (.ref dw)))) ∈ a :: b :: c :: d :: PF := .tail _ (.tail _ (.tail _ (.tail _ mc)))
      clear mc
      have hacc : ∀ {h' : Heap} {m' : Str → Option Value} {L' : Addr} {post : List (Addr × Cell)}, W prog w h₀ h noWd L' h' m' ((acc, .lst ys) :: post) → h'.PlainList acc ys.toArray := fun X => X.obj _ (.head _)
      -- true, false
      refine sIf (wpAny_isTrue_Compare1 (nmL X rfl (Tuple_ (args_cons (cStr fun v1 tk => args_cons (cStr fun v2 tk => args_nil (newTup X fun h' T X => ?_)))))))
      refine in_tuple_strs (s := St z _ _) (ys := ["true", "false"]) (X.obj _ (.head _)) (.cons _ _ (.cons _ _ .nil)) (wpAny_truthy_bool ?_)
      have X := X.drop
      rw [opsTF]
      refine ifC (fun c1 => ?_) fun c1 => ?_
      · refine sAsgSub (wpAny_Compare1 (nmL X rfl (cStr fun u tk => eqOp .tru ?_)))
        exact nmC (c := L + 1) X mc4 (nmL X rfl (setV (pre := [_, _, _]) X hkl2 fun h' tk X => sNx (sNil (fin (w_tf hw hx hxd c1) X m1 m2 m3))))
      -- not
      refine sIf (wpAny_isTrue_Compare1 (nmL X rfl (cStr fun u tk => eqOp .not (wpAny_truthy_bool ?_))))
      refine ifC (fun c2 => ?_) fun c2 => ?_
      · obtain ⟨b, y0, hv⟩ := w_not (v := wv n) hw hx hys c2
        refine sAsgSub (UnaryOp_ (Subscript_ (nmL X rfl (cInt fun u tk => itL (i := 0) (hacc X) y0 hyl (notOp ?_)))))
        exact nmC (c := L + 1) X mc4 (nmL X rfl (setV (pre := [_, _, _]) X hkl2 fun h' tk X => sNx (sNx (sNil (fin hv X m1 m2 m3)))))
      -- and, or
      refine sIf (wpAny_isTrue_Compare1 (nmL X rfl (Tuple_ (args_cons (cStr fun v1 tk => args_cons (cStr fun v2 tk => args_nil (newTup X fun h' T X => ?_)))))))
      refine in_tuple_strs (s := St z _ _) (ys := ["and", "or"]) (X.obj _ (.head _)) (.cons _ _ (.cons _ _ .nil)) (wpAny_truthy_bool ?_)
      have X := X.drop
      rw [opsAO]
      refine ifC (fun c3 => ?_) fun c3 => ?_
      · obtain ⟨bs, eys, ha, ho⟩ := w_ao (v := wv n) hw hx hys c3
        have hl := hacc X
        rw [eys] at hl
        refine sAsgSub (wpAny_IfExp (wpAny_isTrue_Compare1 (nmL X rfl (cStr fun u tk => eqOp .and (wpAny_truthy_bool ?_)))))
        refine ifC (fun c4 => ?_) fun c4 => ?_
        · refine wpAny_Compare1 (cBool (nmL X rfl (notInBools hl ?_)))
          exact nmC (c := L + 1) X mc4 (nmL X rfl (setV (pre := [_, _, _]) X hkl2 fun h' tk X => sNx (sNx (sNx (sNil (fin (ha c4) X m1 m2 m3))))))
        · refine wpAny_Compare1 (cBool (nmL X rfl (inBools hl ?_)))
          exact nmC (c := L + 1) X mc4 (nmL X rfl (setV (pre := [_, _, _]) X hkl2 fun h' tk X => sNx (sNx (sNx (sNil (fin (ho c4) X m1 m2 m3))))))
      -- =
      refine sIf (wpAny_isTrue_Compare1 (nmL X rfl (Tuple_ (args_cons (cStr fun v1 tk => args_cons (cStr fun v2 tk => args_nil (newTup X fun h' T X => ?_)))))))
      refine in_tuple_strs (s := St z _ _) (ys := ["=", "xor"]) (X.obj _ (.head _)) (.cons _ _ (.cons _ _ .nil)) (wpAny_truthy_bool ?_)
      have X := X.drop
      rw [opsEq]
      refine ifC (fun c5 => ?_) fun c5 => ?_
      · obtain ⟨s', b1, b2, va, vb, y0, y1, hva, hvb, hv⟩ := w_eq (v := wv n) hw hx hys c5
        refine sAsgSub (wpAny_Compare1 (wpAny_Compare1 (Subscript_ (nmL X rfl (cInt fun u tk => itL (i := 0) (hacc X) y0 hyl (Subscript_ (nmL X rfl (cInt fun u tk => itL (i := 1) (hacc X) y1 hyl (eqV hva hvb ?_)))))))))
        refine wpAny_Compare1 (nmL X rfl (cStr fun u tk => eqOp .eq (is_bool ?_)))
        exact nmC (c := L + 1) X mc4 (nmL X rfl (setV (pre := [_, _, _]) X hkl2 fun h' tk X => sNx (sNx (sNx (sNx (sNil (fin hv X m1 m2 m3)))))))
      refine sIf (wpAny_isTrue_Compare1 (nmL X rfl (cStr fun u tk => eqOp .ite (wpAny_truthy_bool ?_))))
      refine ifC (fun c6 => ?_) fun c6 => ?_
      · obtain ⟨b, va, vb, y0, y1, y2, h1, h2⟩ := w_ite (v := wv n) hw hx hys c6
        refine sAsgSub (wpAny_IfExp (isTrue_plain (Subscript_ (nmL X rfl (cInt fun u tk => itL (i := 0) (hacc X) y0 hyl (wpAny_truthy_bool ?_))))))
        refine ifBC (fun hb => ?_) fun hb => ?_
        · refine Subscript_ (nmL X rfl (cInt fun u tk => itL (i := 1) (hacc X) y1 hyl ?_))
          exact nmC (c := L + 1) X mc4 (nmL X rfl (setV (pre := [_, _, _]) X hkl2 fun h' tk X => sNx (sNx (sNx (sNx (sNx (sNil (fin (h1 hb) X m1 m2 m3))))))))
        · refine Subscript_ (nmL X rfl (cInt fun u tk => itL (i := 2) (hacc X) y2 hyl ?_))
          exact nmC (c := L + 1) X mc4 (nmL X rfl (setV (pre := [_, _, _]) X hkl2 fun h' tk X => sNx (sNx (sNx (sNx (sNx (sNil (fin (h2 hb) X m1 m2 m3))))))))
      -- a constant
      have happ := w_app hw hx hxd c1 c2 c3 c5 c6
      refine sNx (sNx (sNx (sNx (sNx (sNil (hTT _ _ ⟨_, _, _, _, _, rfl, X.drop, rfl, kvs, by rw [hPF], fun a ha => ?_, by omega, m1, m2, m3⟩))))))
      rw [etk] at ha
      rcases ha with ha | ha
      · exact hT a (.inl ha)
      rcases List.mem_append.mp ha with ha | ha
      · exact hT a (.inr ha)
      · exact hT a (.inl ((List.mem_singleton.mp ha) ▸ happ))
    · rintro D m objs h₃ t₃ ⟨rfl, kvs, rfl, hT, hkl, m1, m2, m3⟩ X _
      rw [hvs.len, List.take_length] at hT
      obtain ⟨y, val, ey, eval, hval⟩ := hT t₀ (.inr htps)
      have hys : y.sort = s := by obtain ⟨y', ey', hs', _⟩ := ht; rw [ey] at ey'; cases ey'; exact hs'
      have hfl : h₃.PlainList fl us.toArray := X.obj (fl, .lst us) mm
      refine sExpr (MethodCall_ (nmL X m3 (getMethodList F.slot_list_append F.type_list_append hfl (callWith_method1 (args_cons (Subscript_ (nmC (c := L + 1) X mm (nmL X m2 (itI (kvs := kvs) (X.obj (dw, .dic kvs) mm) eval fun tk => args_nil (appL hfl (by omega) fun h' e sb => ?_))))))))))
      have X := X.setObj (pre := [_, _, _]) (c' := .lst (us ++ [val])) (fun b o hb e => (sb.2 b hb).trans e) e trivial
      refine sNil (hO _ _ ⟨_, _, _, _, _, rfl, X.drop.drop, rfl, _, _, rfl, by simp [hul], fun i v hi => ?_, m1, m2, m3⟩)
      rcases snoc_get hi with hi | ⟨e, q⟩
      · exact hus i v hi
      · exact (e.trans hul) ▸ q ▸ hys ▸ hval
  · rintro D m objs h₂ t₂ ⟨rfl, cv, us, rfl, hul, hus, m1, m2, m3⟩ X _
    refine sRet (nmL X m3 (hR _ _ fl us (ext X) (X.fresh fl mm).1 (X.obj _ (.head _)) ?_ hus))
    rw [hul, List.length_map, hW.len]
end
end Mine

-- Zip3
namespace Mine

noncomputable abbrev IsTrip (h : Heap) (T : Addr) (a b c : Value) : Prop := h.get? T = some { cls := .type "tuple", data := .seq #[a, b, c] }
theorem typeCall_zip_3 (a b c : Value) : checkTypeCall "zip" ⟨[a, b, c], []⟩ = pure () := by kernel_rfl
theorem newCall_zip_3 (a b c : Value) : checkBuiltinCall "zip.__new__" ⟨[.type "zip", a, b, c], []⟩ = pure () := by kernel_rfl
theorem args_object_init_4 (a b c d : Value) : argsOk "object.__init__" ⟨[a, b, c, d], []⟩ := by
  unfold argsOk; rw [signature?_of (id := "object.__init__") (n := ['_', '_', 't', 'i', 'n', 'i', '_', '_']) (o := ['t', 'c', 'e', 'j', 'b', 'o']) (by kernel_rfl) PySem.F.owner_object]; kernel_rfl

section
variable {prog : Program} {w : World} {A : Around} {E : Value → Shared → Prop} {s : Shared}

theorem updateTrip {T : Addr} {a b c x : Value} {k : Nat} {Q : Unit → Shared → Prop} (hT : IsTrip s.heap T a b c)
    (h : ∀ h', h'.get? T = some { cls := .type "tuple", data := .seq ((#[a, b, c] : Array Value).setIfInBounds k x) } → Heap.SameBut T s.heap h' → Q () { s with heap := h' }) :
    wpAny (model prog w) A (updateSeq T (·.setIfInBounds k x)) Q E s := by
  refine wpAny_updateSeq hT rfl (h _ ?_ (Heap.SameBut.update ..))
  rw [Heap.get?_update_self _ hT rfl]
  simp [Obj.mapSeq]

theorem zip_next_item3 {z TI TO i1 i2 i3 l1 l2 l3 : Addr} {k : Nat} {xs ys us : Array Value} {x y u a b c : Value} {Q : Value → Shared → Prop} (nd : [z, TI, TO, i1, i2, i3, l1, l2, l3].Nodup)
    (hz : IsZip s.heap z TI TO .none) (hTI : IsTrip s.heap TI (.ref i1) (.ref i2) (.ref i3)) (hTO : IsTrip s.heap TO a b c)
    (h1 : s.heap.IsListIter i1 l1 k) (h2 : s.heap.IsListIter i2 l2 k) (h3 : s.heap.IsListIter i3 l3 k) (hl1 : s.heap.IsList l1 xs) (hl2 : s.heap.IsList l2 ys) (hl3 : s.heap.IsList l3 us) (hx : xs[k]? = some x) (hy : ys[k]? = some y) (hu : us[k]? = some u)
    (hQ : ∀ h', IsZip h' z TI TO (rawInt s.heap.objs.size) → IsTrip h' TO x y u → h'.IsListIter i1 l1 (k + 1) → h'.IsListIter i2 l2 (k + 1) → h'.IsListIter i3 l3 (k + 1) → IsTrip h' s.heap.objs.size x y u →
      (∀ c o, c ≠ z → c ≠ TO → c ≠ i1 → c ≠ i2 → c ≠ i3 → s.heap.get? c = some o → h'.get? c = some o) → Q (.ref s.heap.objs.size) { s with heap := h' }) :
    wpAny (model prog w) A (Builtin.«zip.__next__» ⟨[.ref z], []⟩) (fun fin s' => ∃ v, fin = .done (.ret v) ∧ Q v s') E s := by
  have zTO : z ≠ TO := nd_ne nd 0 2
  have zi1 : z ≠ i1 := nd_ne nd 0 3
  have zi2 : z ≠ i2 := nd_ne nd 0 4
  have zi3 : z ≠ i3 := nd_ne nd 0 5
  have zl1 : z ≠ l1 := nd_ne nd 0 6
  have zl2 : z ≠ l2 := nd_ne nd 0 7
  have zl3 : z ≠ l3 := nd_ne nd 0 8
  have TOi1 : TO ≠ i1 := nd_ne nd 2 3
  have TOi2 : TO ≠ i2 := nd_ne nd 2 4
  have TOi3 : TO ≠ i3 := nd_ne nd 2 5
  have TOl2 : TO ≠ l2 := nd_ne nd 2 7
  have TOl3 : TO ≠ l3 := nd_ne nd 2 8
  have i12 : i1 ≠ i2 := nd_ne nd 3 4
  have i13 : i1 ≠ i3 := nd_ne nd 3 5
  have i1l2 : i1 ≠ l2 := nd_ne nd 3 7
  have i1l3 : i1 ≠ l3 := nd_ne nd 3 8
  have i23 : i2 ≠ i3 := nd_ne nd 4 5
  have i2l3 : i2 ≠ l3 := nd_ne nd 4 8
  show wpAny _ _ (field (.ref z) 2 >>= _) _ _ _
  refine wpAny_bind (wpAny_field hz rfl (x := .bool false) rfl ?_)
  show wpAny _ _ (field (.ref z) 3 >>= _) _ _ _
  refine wpAny_bind (wpAny_field hz rfl (x := .ref TI) rfl ?_)
  refine wpAny_bind (wpAny_seqItems hTI rfl ?_)
  show wpAny _ _ (Builtin.SmallTypes.ownedTupleIsFree (.ref z) >>= _) _ _ _
  refine wpAny_bind ?_
  unfold Builtin.SmallTypes.ownedTupleIsFree
  refine wpAny_bind (wpAny_field hz rfl (x := .none) rfl (wpAny_pure ?_))
  simp only [if_true]
  refine wpAny_bind (wpAny_rule ?_)
  refine wpAny_bind (wpAny_field hz rfl (x := .ref TO) rfl ?_)
  refine wpAny_bind (wpAny_setField_rec hz (by simp) fun h₁ hz₁ hs₁ => ?_)
  replace hz₁ : IsZip h₁ z TI TO .ellipsis := hz₁
  refine wpAny_bind ?_
  simp only [List.zipIdx_cons, List.zipIdx_nil, List.forIn_cons, List.forIn_nil]
  -- one
  refine wpAny_bind (wpAny_bind (wpAny_onRaise ?_))
  show wpAny _ _ (Builtin.SmallTypes.nextOf (.ref i1) >>= _) _ _ _
  refine wpAny_bind (wpAny_nextOf_list_item (h1.extBut hs₁.extBut (Ne.symm zi1)) (hl1.extBut hs₁.extBut (Ne.symm zl1)) hx fun h₂ h1₂ hs₂ => wpAny_pure ?_)
  have hTO₂ : IsTrip h₂ TO a b c := hs₂.extBut _ _ TOi1 (hs₁.extBut _ _ (Ne.symm zTO) hTO)
  refine wpAny_bind (wpAny_seqItems hTO₂ rfl ?_)
  refine wpAny_bind (updateTrip hTO₂ fun h₃ hTO₃ hs₃ => ?_)
  replace hTO₃ : IsTrip h₃ TO x b c := hTO₃
  refine wpAny_bind (wpAny_letGo (wpAny_pure ?_))
  -- two
  have st3 : ∀ d o, d ≠ z → d ≠ i1 → d ≠ TO → s.heap.get? d = some o → h₃.get? d = some o := fun d o a1 a2 a3 e => hs₃.extBut _ _ a3 (hs₂.extBut _ _ a2 (hs₁.extBut _ _ a1 e))
  refine wpAny_bind (wpAny_bind (wpAny_onRaise ?_))
  show wpAny _ _ (Builtin.SmallTypes.nextOf (.ref i2) >>= _) _ _ _
  refine wpAny_bind (wpAny_nextOf_list_item (h2.at fun o e => st3 _ o (Ne.symm zi2) (Ne.symm i12) (Ne.symm TOi2) e) (hl2.at fun o e => st3 _ o (Ne.symm zl2) (Ne.symm i1l2) (Ne.symm TOl2) e) hy fun h₄ h2₄ hs₄ => wpAny_pure ?_)
  have hTO₄ : IsTrip h₄ TO x b c := hs₄.extBut _ _ TOi2 hTO₃
  refine wpAny_bind (wpAny_seqItems hTO₄ rfl ?_)
  refine wpAny_bind (updateTrip hTO₄ fun h₅ hTO₅ hs₅ => ?_)
  replace hTO₅ : IsTrip h₅ TO x y c := hTO₅
  refine wpAny_bind (wpAny_letGo (wpAny_pure ?_))
  -- three
  have st5 : ∀ d o, d ≠ i2 → d ≠ TO → h₃.get? d = some o → h₅.get? d = some o := fun d o a1 a2 e => hs₅.extBut _ _ a2 (hs₄.extBut _ _ a1 e)
  refine wpAny_bind (wpAny_bind (wpAny_onRaise ?_))
  show wpAny _ _ (Builtin.SmallTypes.nextOf (.ref i3) >>= _) _ _ _
  refine wpAny_bind (wpAny_nextOf_list_item (h3.at fun o e => st5 _ o (Ne.symm i23) (Ne.symm TOi3) (st3 _ o (Ne.symm zi3) (Ne.symm i13) (Ne.symm TOi3) e)) (hl3.at fun o e => st5 _ o (Ne.symm i2l3) (Ne.symm TOl3) (st3 _ o (Ne.symm zl3) (Ne.symm i1l3) (Ne.symm TOl3) e)) hu fun h₆ h3₆ hs₆ => wpAny_pure ?_)
  have hTO₆ : IsTrip h₆ TO x y c := hs₆.extBut _ _ TOi3 hTO₅
  refine wpAny_bind (wpAny_seqItems hTO₆ rfl ?_)
  refine wpAny_bind (updateTrip hTO₆ fun h₇ hTO₇ hs₇ => ?_)
  replace hTO₇ : IsTrip h₇ TO x y u := hTO₇
  refine wpAny_bind (wpAny_letGo (wpAny_pure (wpAny_pure ?_)))
  have st7 : ∀ d o, d ≠ i3 → d ≠ TO → h₅.get? d = some o → h₇.get? d = some o := fun d o a1 a2 e => hs₇.extBut _ _ a2 (hs₆.extBut _ _ a1 e)

  refine wpAny_bind (wpAny_seqItems hTO₇ rfl ?_)
  refine wpAny_bind (wpAny_newTuple ?_)
  have hsz : h₇.objs.size = s.heap.objs.size := by rw [hs₇.1, hs₆.1, hs₅.1, hs₄.1, hs₃.1, hs₂.1, hs₁.1]
  have hz₇ : IsZip h₇ z TI TO .ellipsis := st7 _ _ zi3 zTO (st5 _ _ zi2 zTO (hs₃.extBut _ _ zTO (hs₂.extBut _ _ zi1 hz₁)))
  have hk₇ : ∀ d o, d ≠ z → d ≠ TO → d ≠ i1 → d ≠ i2 → d ≠ i3 → s.heap.get? d = some o → h₇.get? d = some o := fun d o c1 c2 c3 c4 c5 e => st7 _ _ c5 c2 (st5 _ _ c4 c2 (st3 _ _ c1 c3 c2 e))
  have h1₇ : h₇.IsListIter i1 l1 (k + 1) := h1₂.at fun o e => st7 _ o i13 (Ne.symm TOi1) (st5 _ o i12 (Ne.symm TOi1) (hs₃.extBut _ _ (Ne.symm TOi1) e))
  have h2₇ : h₇.IsListIter i2 l2 (k + 1) := h2₄.at fun o e => st7 _ o i23 (Ne.symm TOi2) (hs₅.extBut _ _ (Ne.symm TOi2) e)
  have h3₇ : h₇.IsListIter i3 l3 (k + 1) := h3₆.at fun o e => hs₇.extBut _ _ (Ne.symm TOi3) e
  have hzlt : z < h₇.objs.size := Heap.lt_size hz₇
  show wpAny _ _ (Builtin.SmallTypes.ownedTupleHandOut (.ref z) (.ref h₇.objs.size) >>= _) _ _ _
  refine wpAny_bind ?_
  unfold Builtin.SmallTypes.ownedTupleHandOut
  have hz₈ : IsZip (h₇.push { cls := .type "tuple", data := .seq #[x, y, u] }) z TI TO .ellipsis := Heap.get?_push_of_some _ hz₇
  refine wpAny_bind (wpAny_setField_rec hz₈ (by simp) fun h₉ hz₉ hs₉ => ?_)
  replace hz₉ : IsZip h₉ z TI TO (rawInt h₇.objs.size) := hz₉
  refine wpAny_setField_rec hz₉ (by simp) fun ha hza hsa => ?_
  replace hza : IsZip ha z TI TO (rawInt h₇.objs.size) := hza
  have up : ∀ c o, c ≠ z → h₇.get? c = some o → ha.get? c = some o := fun c o c1 e => hsa.extBut _ _ c1 (hs₉.extBut _ _ c1 (Heap.get?_push_of_some _ e))
  have hT : IsTrip ha h₇.objs.size x y u := hsa.extBut _ _ (Nat.ne_of_gt hzlt) (hs₉.extBut _ _ (Nat.ne_of_gt hzlt) (Heap.get?_push_size _ rfl))
  rw [hsz] at hza hT
  refine wpAny_pure ⟨_, rfl, ?_⟩
  show Q (.ref h₇.objs.size) _
  rw [hsz]
  exact hQ ha hza (up _ _ (Ne.symm zTO) hTO₇) (h1₇.at fun o e => up _ o (Ne.symm zi1) e) (h2₇.at fun o e => up _ o (Ne.symm zi2) e) (h3₇.at fun o e => up _ o (Ne.symm zi3) e) hT fun c o c1 c2 c3 c4 c5 e => up c o c1 (hk₇ c o c1 c2 c3 c4 c5 e)

theorem zip_next_end3 {z TI TO i1 i2 i3 l1 : Addr} {k : Nat} {xs : Array Value} {a b c : Value} {Q : Fin → Shared → Prop} (hh : A.handled = none) (nd : [z, TI, TO, i1, i2, i3, l1].Nodup)
    (hz : IsZip s.heap z TI TO .none) (hTI : IsTrip s.heap TI (.ref i1) (.ref i2) (.ref i3)) (hTO : IsTrip s.heap TO a b c)
    (h1 : s.heap.IsListIter i1 l1 k) (hl1 : s.heap.IsList l1 xs) (hend : xs[k]? = none)
    (hE : ∀ h' e, (∀ c o, c ≠ z → c ≠ i1 → s.heap.get? c = some o → h'.get? c = some o) → (∃ o, h'.get? e = some o ∧ o.cls = .type "StopIteration") → E (.ref e) { s with heap := h' }) :
    wpAny (model prog w) A (Builtin.«zip.__next__» ⟨[.ref z], []⟩) Q E s := by
  have zi1 : z ≠ i1 := nd_ne nd 0 3
  have zl1 : z ≠ l1 := nd_ne nd 0 6
  show wpAny _ _ (field (.ref z) 2 >>= _) _ _ _
  refine wpAny_bind (wpAny_field hz rfl (x := .bool false) rfl ?_)
  show wpAny _ _ (field (.ref z) 3 >>= _) _ _ _
  refine wpAny_bind (wpAny_field hz rfl (x := .ref TI) rfl ?_)
  refine wpAny_bind (wpAny_seqItems hTI rfl ?_)
  show wpAny _ _ (Builtin.SmallTypes.ownedTupleIsFree (.ref z) >>= _) _ _ _
  refine wpAny_bind ?_
  unfold Builtin.SmallTypes.ownedTupleIsFree
  refine wpAny_bind (wpAny_field hz rfl (x := .none) rfl (wpAny_pure ?_))
  simp only [if_true]
  refine wpAny_bind (wpAny_rule ?_)
  refine wpAny_bind (wpAny_field hz rfl (x := .ref TO) rfl ?_)
  refine wpAny_bind (wpAny_setField_rec hz (by simp) fun h₁ hz₁ hs₁ => ?_)
  replace hz₁ : IsZip h₁ z TI TO .ellipsis := hz₁
  refine wpAny_bind ?_
  simp only [List.zipIdx_cons, List.zipIdx_nil, List.forIn_cons, List.forIn_nil]
  refine wpAny_bind (wpAny_bind (wpAny_onRaise ?_))
  show wpAny _ _ (Builtin.SmallTypes.nextOf (.ref i1) >>= _) _ _ _
  refine wpAny_bind (wpAny_nextOf_list_end hh (h1.extBut hs₁.extBut (Ne.symm zi1)) (hl1.extBut hs₁.extBut (Ne.symm zl1)) hend fun h₂ e hs₂ he => ?_)
  obtain ⟨oe, hoe, hce⟩ := he
  have hz₂ : IsZip h₂ z TI TO .ellipsis := hs₂ _ _ zi1 hz₁
  have hez : e ≠ z := fun x => by subst x; rw [hz₂] at hoe; cases hoe; simp at hce
  exact wpAny_setField_rec hz₂ (by simp) fun h₃ _ hs₃ => hE h₃ e (fun c o c1 c3 x => hs₃.extBut _ _ c1 (hs₂ _ _ c3 (hs₁.extBut _ _ c1 x))) ⟨oe, hs₃.extBut _ _ hez hoe, hce⟩

noncomputable abbrev zipG1 (h : Heap) (l1 : Addr) : Heap := h.push { cls := .type "list_iterator", data := .fields #[.ref l1, .int 0 0] }
noncomputable abbrev zipG2 (h : Heap) (l1 l2 : Addr) : Heap := (zipG1 h l1).push { cls := .type "list_iterator", data := .fields #[.ref l2, .int 0 0] }
noncomputable abbrev zipG3 (h : Heap) (l1 l2 l3 : Addr) : Heap := (zipG2 h l1 l2).push { cls := .type "list_iterator", data := .fields #[.ref l3, .int 0 0] }
noncomputable abbrev zipG4 (h : Heap) (l1 l2 l3 : Addr) : Heap := (zipG3 h l1 l2 l3).push { cls := .type "tuple", data := .seq #[.ref h.objs.size, .ref (zipG1 h l1).objs.size, .ref (zipG2 h l1 l2).objs.size] }
noncomputable abbrev zipG5 (h : Heap) (l1 l2 l3 : Addr) : Heap := (zipG4 h l1 l2 l3).push { cls := .type "tuple", data := .seq #[.none, .none, .none] }
noncomputable abbrev zipG6 (h : Heap) (l1 l2 l3 : Addr) : Heap := (zipG5 h l1 l2 l3).push { cls := .type "zip", data := .fields #[.none, .bool false, .bool false, .ref (zipG3 h l1 l2 l3).objs.size, .ref (zipG4 h l1 l2 l3).objs.size] }

theorem meets_zip_new3 (l1 l2 l3 : Addr) (xs ys us : Array Value) :
    Meets (Builtin.«zip.__new__» ⟨[.type "zip", .ref l1, .ref l2, .ref l3], []⟩) (fun _ R s => s.heap.IsList l1 xs ∧ s.heap.IsList l2 ys ∧ s.heap.IsList l3 us ∧
      R (.ok (.ret (.ref (zipG5 s.heap l1 l2 l3).objs.size))) { s with heap := zipG6 s.heap l1 l2 l3 }) :=
  .of_wp fun prog w A R s h => by
    obtain ⟨hp, g, d, tk, os⟩ := s; obtain ⟨hl1, hl2, hl3, h⟩ := h
    have hsub := sub_zip
    have hL1 : Heap.IsList (Shared.heap ⟨hp, g, d, tk, os⟩) l1 xs := hl1
    have hL2 : Heap.IsList (Shared.heap ⟨hp.push { cls := .type "list_iterator", data := .fields #[.ref l1, .int 0 0] }, g, d, tk, os⟩) l2 ys := Heap.IsList.push hl2 _
    have hL3 : Heap.IsList (Shared.heap ⟨(hp.push { cls := .type "list_iterator", data := .fields #[.ref l1, .int 0 0] }).push { cls := .type "list_iterator", data := .fields #[.ref l2, .int 0 0] }, g, d, tk, os⟩) l3 us := Heap.IsList.push (Heap.IsList.push hl3 _) _
    wp_walk using wpAny_pyIter_list hL1, wpAny_pyIter_list hL2, wpAny_pyIter_list hL3
    exact ⟨_, rfl, h⟩

/-- what is new behind zip(a, b, c) -/
structure ZipNew (h h' : Heap) (z TI TO i1 i2 i3 l1 l2 l3 : Addr) : Prop where
  hz : IsZip h' z TI TO .none
  hTI : IsTrip h' TI (.ref i1) (.ref i2) (.ref i3)
  hTO : IsTrip h' TO .none .none .none
  h1 : h'.IsListIter i1 l1 0
  h2 : h'.IsListIter i2 l2 0
  h3 : h'.IsListIter i3 l3 0
  ext : Ext h h'
  new : ∀ a ∈ [z, TI, TO, i1, i2, i3], h.get? a = none
  nd : [z, TI, TO, i1, i2, i3].Nodup

theorem call_zip_3 {l1 l2 l3 : Addr} {xs ys us : Array Value} {Q : Value → Shared → Prop} (hl1 : s.heap.IsList l1 xs) (hl2 : s.heap.IsList l2 ys) (hl3 : s.heap.IsList l3 us)
    (h : ∀ h' z TI TO i1 i2 i3, ZipNew s.heap h' z TI TO i1 i2 i3 l1 l2 l3 → Q (.ref z) { s with heap := h' }) :
    wpAny (model prog w) A (call (.type "zip") [.ref l1, .ref l2, .ref l3]) Q E s := by
  refine callType_new PySem.F.called_zip (by decide) (typeCall_zip_3 _ _ _) (newCall_zip_3 _ _ _) (fun obj => args_object_init_4 obj _ _ _) PySem.F.entry_zip_new
    (meets_zip_new3 l1 l2 l3 xs ys us) ⟨hl1, hl2, hl3, ?_⟩
  have z1 : (zipG1 s.heap l1).objs.size = s.heap.objs.size + 1 := Heap.size_push ..
  have z2 : (zipG2 s.heap l1 l2).objs.size = s.heap.objs.size + 2 := by rw [Heap.size_push, z1]
  have z3 : (zipG3 s.heap l1 l2 l3).objs.size = s.heap.objs.size + 3 := by rw [Heap.size_push, z2]
  have z4 : (zipG4 s.heap l1 l2 l3).objs.size = s.heap.objs.size + 4 := by rw [Heap.size_push, z3]
  have z5 : (zipG5 s.heap l1 l2 l3).objs.size = s.heap.objs.size + 5 := by rw [Heap.size_push, z4]
  have g6 : (zipG6 s.heap l1 l2 l3).get? (zipG5 s.heap l1 l2 l3).objs.size = some _ := Heap.get?_push_size _ rfl
  have g5 : (zipG6 s.heap l1 l2 l3).get? (zipG4 s.heap l1 l2 l3).objs.size = some _ := Heap.get?_push_of_some _ (Heap.get?_push_size _ rfl)
  have g4 : (zipG6 s.heap l1 l2 l3).get? (zipG3 s.heap l1 l2 l3).objs.size = some _ := Heap.get?_push_of_some _ (Heap.get?_push_of_some _ (Heap.get?_push_size _ rfl))
  have g3 : (zipG6 s.heap l1 l2 l3).get? (zipG2 s.heap l1 l2).objs.size = some _ := Heap.get?_push_of_some _ (Heap.get?_push_of_some _ (Heap.get?_push_of_some _ (Heap.get?_push_size _ rfl)))
  have g2 : (zipG6 s.heap l1 l2 l3).get? (zipG1 s.heap l1).objs.size = some _ := Heap.get?_push_of_some _ (Heap.get?_push_of_some _ (Heap.get?_push_of_some _ (Heap.get?_push_of_some _ (Heap.get?_push_size _ rfl))))
  have g1 : (zipG6 s.heap l1 l2 l3).get? s.heap.objs.size = some _ := Heap.get?_push_of_some _ (Heap.get?_push_of_some _ (Heap.get?_push_of_some _ (Heap.get?_push_of_some _ (Heap.get?_push_of_some _ (Heap.get?_push_size _ rfl)))))
  show _ ∧ _
  rw [z3, z4, z5] at g6
  rw [z1, z2, z3] at g4
  rw [z4] at g5
  rw [z2] at g3
  rw [z1] at g2
  rw [z5]
  have none_of : ∀ n, s.heap.get? (s.heap.objs.size + n) = none := fun n => by
    cases q : s.heap.get? (s.heap.objs.size + n) with
    | none => rfl
    | some o => exact absurd (Heap.lt_size q) (Nat.not_lt.mpr (Nat.le_add_right _ _))
  refine ⟨⟨_, g6, rfl⟩, h _ _ _ _ _ _ _ ⟨g6, g4, g5, ⟨_, g1, rfl, rfl⟩, ⟨_, g2, rfl, rfl⟩, ⟨_, g3, rfl, rfl⟩, fun c o x =>
    Heap.get?_push_of_some _ (Heap.get?_push_of_some _ (Heap.get?_push_of_some _ (Heap.get?_push_of_some _ (Heap.get?_push_of_some _ (Heap.get?_push_of_some _ x))))), fun a ha => ?_, ?_⟩⟩
  · simp only [List.mem_cons, List.not_mem_nil, or_false] at ha
    rcases ha with rfl | rfl | rfl | rfl | rfl | rfl
    · exact none_of 5
    · exact none_of 3
    · exact none_of 4
    · exact none_of 0
    · exact none_of 1
    · exact none_of 2
  · generalize s.heap.objs.size = n
    simp
end

/-! the world, seen from before -/
noncomputable def snapWd (D : Wd) (hB : Heap) (hD : D.I hB) : Wd := ⟨D.own, fun h => Agree D.own hB h, fun h h' x g a o e q => by
    have e' := x a o e q
    exact g a o e' q,
  fun h x a ha q => by
    have := D.live hB hD a ha
    cases e : hB.get? a with
    | none => exact this e
    | some o => rw [x a o e (.inl ha)] at q; cases q⟩

section
variable {prog : Program} {w : World} {A : Around} {E : Value → Shared → Prop} {z : Shared} {h₀ s₀ h h' : Heap} {t : Nat} {D : Wd} {L it a b e : Addr} {m : Str → Option Value} {objs : List (Addr × Cell)} {env : Env} {n k : Nat} {vs : List Value}
/-- cells turn, the world's own stands -/
theorem W.anyTo {objs' : List (Addr × Cell)} (X : W prog w h₀ s₀ D L h m objs) (cs : List Addr) (hcs : ∀ a ∈ cs, a ∈ objs.map (·.1)) (hs : ∀ x o, x ∉ cs → h.get? x = some o → h'.get? x = some o) (hI : D.I h') (haddr : objs'.map (·.1) = objs.map (·.1))
    (hobj : ∀ p ∈ objs', p.2.at prog w h' p.1) : W prog w h₀ s₀ D L h' m objs' := by
  have off : ∀ x o, s₀.get? x = some o → x ∉ cs := fun x o e q => by
    rw [(X.fresh x (.tail _ (hcs x q))).1] at e; cases e
  refine ⟨fun x o e => hs x o (off x o (X.base x o e)) (X.ext x o e), fun x o nx e => hs x o (off x o e) (X.keep x o nx e), X.base, hI, ?_, hobj, by rw [haddr]; exact X.nd, by rw [haddr]; exact X.fresh⟩
  obtain ⟨o, es, ep, e, r⟩ := X.ns
  exact ⟨o, es, ep, hs _ _ (fun q => (List.nodup_cons.mp X.nd).1 (hcs _ q)) e, r⟩

noncomputable def tripO : Obj → Prop := fun o => ∃ a b c, o = { cls := .type "tuple", data := .seq #[a, b, c] }
noncomputable def zipCells (z TI TO i1 i2 i3 l1 l2 l3 : Addr) (k : Nat) : List (Addr × Cell) := [(z, .obj { cls := .type "zip", dict := none, data := .fields #[.none, .bool false, .bool false, .ref TI, .ref TO], slots := #[] }),
  (TI, .obj { cls := .type "tuple", data := .seq #[.ref i1, .ref i2, .ref i3] }), (TO, .sat tripO), (i1, .sat (itS "list_iterator" l1 k)), (i2, .sat (itS "list_iterator" l2 k)), (i3, .sat (itS "list_iterator" l3 k))]
end
end Mine

-- Comp3
namespace Mine
section
variable {prog : Program} {w : World} {A : Around} {E : Value → Shared → Prop} {z : Shared} {h₀ s₀ h : Heap} {t : Nat} {D : Wd} {L C a it : Addr} {m mc : Str → Option Value} {objs : List (Addr × Cell)} {vs : List Value} {env : Env} {kd : String} {R : Result → Shared → Prop}

theorem listCompT {elt iter target : Expr} {ifs : List Expr} {scope : Scope} {pos : Pos} {s : Shared} {Q : Value → Shared → Prop} (cl : List (Str × Addr))
    (q : wpAny (model prog w) A (eval iter env) (CompAt prog w A E env scope cl (.ListComp elt [⟨target, iter, ifs, 0⟩] scope pos) none Q) E s)
    (hclos : autoParam (closureFor scope env = pure cl) aR) (hkind : autoParam (scope.kind = .function) aR)
    (hnames : autoParam (∀ x ∈ scope.names, x.2 = .local → scope.names.lookup x.1 = some .local) aD)
    (hs : ∀ x, foldedSetIterable iter env x = pure x := by intro _; rfl) :
    wpAny (model prog w) A (eval (.ListComp elt [⟨target, iter, ifs, 0⟩] scope pos) env) Q E s := by
  rw [eval_ListComp]
  exact wpAny_comprehension_free (use := none) rfl hs hclos hkind hnames q
theorem sCompT {elt iter target : Expr} {y : Str} {py : Pos} {ifs : List Expr} {scope : Scope} {pos spos : Pos} {s : Shared} {rest : List Stmt} {Q : Flow → Shared → Prop} (cl : List (Str × Addr))
    (q : wpAny (model prog w) A (eval iter env) (CompAt prog w A E env scope cl (.ListComp elt [⟨target, iter, ifs, 0⟩] scope pos) (some (assign (.Name y py) env)) (fun _ s' => wpAny (model prog w) A (execs rest env) Q E s')) E s)
    (hsw : autoParam (swapsWith (.ListComp elt [⟨target, iter, ifs, 0⟩] scope pos) (some (.Name y py)) spos.line env = pure true) aR)
    (hclos : autoParam (closureFor scope env = pure cl) aR) (hkind : autoParam (scope.kind = .function) aR)
    (hnames : autoParam (∀ x ∈ scope.names, x.2 = .local → scope.names.lookup x.1 = some .local) aD)
    (hs : ∀ x, foldedSetIterable iter env x = pure x := by intro _; rfl) :
    wpAny (model prog w) A (execs (.Assign [.Name y py] (.ListComp elt [⟨target, iter, ifs, 0⟩] scope pos) spos :: rest) env) Q E s := by
  refine wpAny_execs_cons ?_
  rw [exec_Assign_Name_used _ _ _ _ hsw]
  refine wpAny_bind (wpAny_standAt (wpAny_bind ?_))
  show wpAny _ A (do let _ ← comprehension (.ListComp elt [⟨target, iter, ifs, 0⟩] scope pos) scope env _ (newList []) false (eval iter env) (some (assign (.Name y py) env))) _ _ s
  refine wpAny_bind (wpAny_mono (wpAny_comprehension_free (use := some (assign (.Name y py) env)) (Q := fun _ s' => wpAny (model prog w) A (execs rest env) Q E s') rfl hs hclos hkind hnames q) (fun _ s' hq => wpAny_pure (wpAny_pure hq)) fun _ _ e => e)

/-- a comprehension over a list or tuple, its target a tuple of three names -/
theorem compSqT3 {elt iter : Expr} {n1 n2 n3 : Str} {q1 q2 q3 tp : Pos} {x1 : _} {ifs : List Expr} {scope : Scope} {cl : List (Str × Addr)} {pos : Pos} {Q : Value → Shared → Prop} (hh : A.handled = none)
    (P : Nat → Value → Value → Value → Prop) (J : Nat → List Value → Wd → List (Addr × Cell) → Prop) (X : W prog w h₀ s₀ D env.locals h m objs) (hs : SqK kd h a vs) (hj : J 0 [] D objs) (hsz : vs.length ≤ 2 ^ 20)
    (seq : ∀ k j ys D' mc C acc it objs' h', W prog w h₀ s₀ D' C h' mc ((acc, .lst ys) :: (it, .sat (itS kd a j)) :: (env.locals, .sat (nsO m)) :: objs') → J k ys D' objs' → SqK kd h' a vs)
    (tups : ∀ k v ys D' mc C acc it objs' h', vs[k]? = some v → W prog w h₀ s₀ D' C h' mc ((acc, .lst ys) :: (it, .sat (itS kd a (k + 1))) :: (env.locals, .sat (nsO m)) :: objs') → J k ys D' objs' → ∃ T v1 v2 v3, v = .ref T ∧ IsTup h' T [v1, v2, v3].toArray ∧ P k v1 v2 v3)
    (turn : ∀ C acc it k v1 v2 v3 ys D' mc objs' h' t', P k v1 v2 v3 → J k ys D' objs' → W prog w h₀ s₀ D' C h' (put n3 v3 (put n2 v2 (put n1 v1 mc))) ((acc, .lst ys) :: (it, .sat (itS kd a (k + 1))) :: (env.locals, .sat (nsO m)) :: objs') →
      wpAny (model prog w) A (testsOf ifs (compEnvC scope cl C env)) (fun ok s₃ => if ok = true then
          wpAny (model prog w) A (eval elt (compEnvC scope cl C env)) (fun y s₄ => CompTurn prog w A h₀ s₀ C z [(acc, .lst ys), (it, .sat (itS kd a (k + 1))), (env.locals, .sat (nsO m))] (J (k + 1) (ys ++ [y])) s₄) NE s₃
        else CompTurn prog w A h₀ s₀ C z [(acc, .lst ys), (it, .sat (itS kd a (k + 1))), (env.locals, .sat (nsO m))] (J (k + 1) ys) s₃) NE (St z h' t'))
    (done : ∀ acc ys D' objs' h' t', J vs.length ys D' objs' → W prog w h₀ s₀ D' env.locals h' m ((acc, .lst ys) :: objs') → Q (.ref acc) (St z h' t'))
    (hcell : autoParam (∀ y ∈ scope.names, y.2 ≠ .cell) aD) (hkind : autoParam (scope.kind = .function) aR) (hx1 : autoParam (scope.names.lookup n1 = some .local) aR) (hx2 : autoParam (scope.names.lookup n2 = some .local) aR) (hx3 : autoParam (scope.names.lookup n3 = some .local) aR) :
    CompAt prog w A NE env scope cl (.ListComp elt [⟨.Tuple [.Name n1 q1, .Name n2 q2, .Name n3 q3] x1 tp, iter, ifs, 0⟩] scope pos) none Q (.ref a) (St z h t) := by
  unfold CompAt
  refine iterSq X hs fun h it X hs => ?_
  refine compU (N := vs.length) (fun k => .sat (itS kd a k)) J X hj hsz (fun C mc acc h t Q E X q => iterIter X (.tail _ (.head _)) (seq 0 0 [] D mc C acc it objs h X hj) q) (fun C acc k ys D' mc objs' h t hk hj X => ?_) (fun C acc ys D' mc objs' h t hj X => ?_) hcell hkind
  · have hv := List.getElem?_eq_getElem hk
    refine nextSq (X.perm (List.Perm.swap _ _ _)) (seq k k ys D' mc C acc it objs' h X hj) hv fun h₃ X hs => ⟨_, rfl, letSq X hs ?_⟩
    have X := X.perm (List.Perm.swap _ _ _)
    obtain ⟨T, v1, v2, v3, e, hT, hP⟩ := tups k _ ys D' mc C acc it objs' h₃ hv X hj
    rw [assign_Tuple, e]
    refine wpAny_bind (wpAny_standAt (unp (env := compEnvC scope cl C env) hh X hT fun h₄ X e4 => ?_))
    exact aioCons (assign_Name (stL (env := compEnvC scope cl C env) X (fun h₅ tk X => aioCons (assign_Name (stL (env := compEnvC scope cl C env) X (fun h₆ tk X => aioCons (assign_Name (stL (env := compEnvC scope cl C env) X (fun h₇ tk X => aioNil (turn C acc it k v1 v2 v3 ys D' mc objs' h₇ tk hP hj X)) hkind (lookup_relabel_local hx3)))) hkind (lookup_relabel_local hx2)))) hkind (lookup_relabel_local hx1)))
  · refine endSq hh (X.perm (List.Perm.swap _ _ _)) (seq _ _ ys D' mc C acc it objs' h X hj) (List.getElem?_eq_none (Nat.le_refl _)) fun h₃ X hs => ?_
    have Y := (X.perm (List.Perm.swap _ _ _)).turn
    exact ⟨rfl, mc, nsO_ns (Y.obj _ (.head _)), fun h₄ sb => done acc ys D' objs' h₄ t hj (Y.letGo (fun b o hb e => (sb.2 b hb).trans e) nsO_noTup)⟩

/-! zip of three -/
section
variable {hB : Heap} {hD : D.I hB} {zz TI TO i1 i2 i3 l1 l2 l3 : Addr} {xs ys us : List Value} {k : Nat} {rest : List (Addr × Cell)}
theorem zipAddr {k : Nat} : (zipCells zz TI TO i1 i2 i3 l1 l2 l3 k).map (·.1) = [zz, TI, TO, i1, i2, i3] := rfl
theorem zipNd {D' : Wd} (X : W prog w h₀ s₀ D' C h mc (zipCells zz TI TO i1 i2 i3 l1 l2 l3 k ++ rest)) (hm1 : l1 ∈ rest.map (·.1)) (hm2 : l2 ∈ rest.map (·.1)) (hm3 : l3 ∈ rest.map (·.1)) (hl : [l1, l2, l3].Nodup) : [zz, TI, TO, i1, i2, i3, l1, l2, l3].Nodup := by
  have nd := (List.nodup_cons.mp X.nd).2
  rw [List.map_append, zipAddr] at nd
  have nd := List.nodup_append.mp nd
  show ([zz, TI, TO, i1, i2, i3] ++ [l1, l2, l3]).Nodup
  refine List.nodup_append.mpr ⟨nd.1, hl, fun a ha b hb => nd.2.2 a ha b ?_⟩
  simp only [List.mem_cons, List.not_mem_nil, or_false] at hb
  rcases hb with rfl | rfl | rfl <;> assumption

theorem zipTurn {elts : List Expr} {x1 : _} {tp : Pos} {v1 v2 v3 : Value} {Q : Value → Shared → Prop} {Qn : Shared → Prop} (X : W prog w h₀ s₀ (snapWd D hB hD) C h mc (zipCells zz TI TO i1 i2 i3 l1 l2 l3 k ++ rest))
    (hnew : ∀ a ∈ [zz, TI, TO, i1, i2, i3], hB.get? a = none) (hl : [l1, l2, l3].Nodup) (hm1 : (l1, .lst xs) ∈ rest) (hm2 : (l2, .lst ys) ∈ rest) (hm3 : (l3, .lst us) ∈ rest) (e1 : xs[k]? = some v1) (e2 : ys[k]? = some v2) (e3 : us[k]? = some v3)
    (q : ∀ h' T, W prog w h₀ s₀ (snapWd D hB hD) C h' mc (zipCells zz TI TO i1 i2 i3 l1 l2 l3 (k + 1) ++ rest) → IsTup h' T [v1, v2, v3].toArray → Q (.ref T) (St z h' t)) :
    wpAny (model prog w) A (pyNext (.ref zz)) (fun r s₁ => match r with
      | none => Qn s₁
      | some v => wpAny (model prog w) A (letOwnedTupleGo (.Tuple elts x1 tp) (.ref zz) v) (fun _ s₁' => Q v s₁') E s₁) E (St z h t) := by
  have mem : ∀ {a c}, (a, c) ∈ rest → a ∈ rest.map (·.1) := fun h => List.mem_map_of_mem (f := (·.1)) h
  have nd := zipNd X (mem hm1) (mem hm2) (mem hm3) hl
  have hz : IsZip h zz TI TO .none := X.obj (zz, .obj _) mm
  have hTI : IsTrip h TI (.ref i1) (.ref i2) (.ref i3) := X.obj (TI, .obj _) mm
  obtain ⟨oT, hTO, a, b, c, rfl⟩ := X.obj (TO, .sat tripO) mm
  have h1 : h.IsListIter i1 l1 k := X.obj (i1, .sat (itS "list_iterator" l1 k)) mm
  have h2 : h.IsListIter i2 l2 k := X.obj (i2, .sat (itS "list_iterator" l2 k)) mm
  have h3 : h.IsListIter i3 l3 k := X.obj (i3, .sat (itS "list_iterator" l3 k)) mm
  have L1 : h.PlainList l1 xs.toArray := X.obj (l1, .lst xs) (List.mem_append_right _ hm1)
  have L2 : h.PlainList l2 ys.toArray := X.obj (l2, .lst ys) (List.mem_append_right _ hm2)
  have L3 : h.PlainList l3 us.toArray := X.obj (l3, .lst us) (List.mem_append_right _ hm3)
  have hT : (St z h t).TypeIs (.ref zz) "zip" := ⟨_, hz, rfl⟩
  have hzlt : zz < h.objs.size := Heap.lt_size hz
  unfold pyNext
  refine wpAny_bind (wpAny_attempt (wpAny_callSpecial?_slot (name := Str.ofString "__next__") hT PySem.F.slot_zip_next
    (wpAny_call_entry PySem.F.slot_zip_next hT PySem.F.entry_zip_next
      (zip_next_item3 (s := St z h t) nd hz hTI hTO h1 h2 h3 L1.isList L2.isList L3.isList (by simpa using e1) (by simpa using e2) (by simpa using e3) fun h' a1 a2 a3 a4 a5 a6 hk => wpAny_pure ?_) (PySem.F.args_zip_next_1 _))))
  refine wpAny_letOwnedTupleGo_zip (s := St z h' t) a1 fun h'' hz'' hs'' => ?_
  have a6 : IsTrip h' h.objs.size v1 v2 v3 := a6
  have hs'' : Heap.SameBut zz h' h'' := hs''
  have nd6 : [zz, TI, TO, i1, i2, i3].Nodup := by
    have := List.nodup_append.mp (show ([zz, TI, TO, i1, i2, i3] ++ [l1, l2, l3]).Nodup from nd); exact this.1
  have zTI : zz ≠ TI := nd_ne nd6 0 1
  have zTO : zz ≠ TO := nd_ne nd6 0 2
  have zi1 : zz ≠ i1 := nd_ne nd6 0 3
  have zi2 : zz ≠ i2 := nd_ne nd6 0 4
  have zi3 : zz ≠ i3 := nd_ne nd6 0 5
  have TITO : TI ≠ TO := nd_ne nd6 1 2
  have TIi1 : TI ≠ i1 := nd_ne nd6 1 3
  have TIi2 : TI ≠ i2 := nd_ne nd6 1 4
  have TIi3 : TI ≠ i3 := nd_ne nd6 1 5
  have sub5 : ∀ a ∈ [zz, TO, i1, i2, i3], a ∈ [zz, TI, TO, i1, i2, i3] := fac mm (fac mm (fac mm (fac mm (fac mm fan))))
  have hs : ∀ x o, x ∉ [zz, TO, i1, i2, i3] → h.get? x = some o → h''.get? x = some o := fun x o hx e => by
    have ne : ∀ y ∈ [zz, TO, i1, i2, i3], x ≠ y := fun y hy q => hx (q ▸ hy)
    exact hs''.extBut _ _ (ne _ mm) (hk x o (ne _ mm) (ne _ mm) (ne _ mm) (ne _ mm) (ne _ mm) e)
  refine q h'' h.objs.size (X.anyTo [zz, TO, i1, i2, i3] (fun a ha => ?_) hs (fun a o e q => hs a o (fun ha => ?_) (X.inv a o e q)) (by rw [List.map_append, List.map_append]; rfl) fun p hp => ?_) ⟨_, hs''.extBut _ _ (Nat.ne_of_gt hzlt) a6, rfl, _, rfl⟩
  · rw [List.map_append, zipAddr]
    exact List.mem_append_left _ (sub5 a ha)
  · rw [hnew a (sub5 a ha)] at e; cases e
  · rcases List.mem_append.mp hp with hp | hp
    · simp only [zipCells, List.mem_cons, List.not_mem_nil, or_false] at hp
      rcases hp with rfl | rfl | rfl | rfl | rfl | rfl
      · exact hz''
      · exact hs _ _ (fun q => fac (p := fun y => TI ≠ y) (Ne.symm zTI) (fac TITO (fac TIi1 (fac TIi2 (fac TIi3 fan)))) TI q rfl) hTI
      · exact ⟨_, hs''.extBut _ _ (Ne.symm zTO) a2, _, _, _, rfl⟩
      · exact a3.at fun o e => hs''.extBut _ _ (Ne.symm zi1) e
      · exact a4.at fun o e => hs''.extBut _ _ (Ne.symm zi2) e
      · exact a5.at fun o e => hs''.extBut _ _ (Ne.symm zi3) e
    · refine Cell.at_to (X.obj p (List.mem_append_right _ hp)) fun o e => hs _ o (fun ha => ?_) e
      have nd := (List.nodup_cons.mp X.nd).2
      rw [List.map_append, zipAddr] at nd
      exact (List.nodup_append.mp nd).2.2 p.1 (sub5 _ ha) p.1 (List.mem_map_of_mem (f := (·.1)) hp) rfl

theorem zipEnd {Q : Option Value → Shared → Prop} (hh : A.handled = none) (X : W prog w h₀ s₀ (snapWd D hB hD) C h mc (zipCells zz TI TO i1 i2 i3 l1 l2 l3 k ++ rest))
    (hnew : ∀ a ∈ [zz, TI, TO, i1, i2, i3], hB.get? a = none) (hm1 : (l1, .lst xs) ∈ rest) (e1 : xs[k]? = none)
    (q : ∀ h', W prog w h₀ s₀ D C h' mc rest → Q none (St z h' t)) : wpAny (model prog w) A (pyNext (.ref zz)) Q E (St z h t) := by
  have hz : IsZip h zz TI TO .none := X.obj (zz, .obj _) mm
  have hTI : IsTrip h TI (.ref i1) (.ref i2) (.ref i3) := X.obj (TI, .obj _) mm
  obtain ⟨oT, hTO, a, b, c, rfl⟩ := X.obj (TO, .sat tripO) mm
  have h1 : h.IsListIter i1 l1 k := X.obj (i1, .sat (itS "list_iterator" l1 k)) mm
  have L1 : h.PlainList l1 xs.toArray := X.obj (l1, .lst xs) (List.mem_append_right _ hm1)
  have hT : (St z h t).TypeIs (.ref zz) "zip" := ⟨_, hz, rfl⟩
  have ndX := (List.nodup_cons.mp X.nd).2
  rw [List.map_append, zipAddr] at ndX
  have ndX := List.nodup_append.mp ndX
  have nd : [zz, TI, TO, i1, i2, i3, l1].Nodup := by
    show ([zz, TI, TO, i1, i2, i3] ++ [l1]).Nodup
    refine List.nodup_append.mpr ⟨ndX.1, by simp, fun a ha b hb => ndX.2.2 a ha b ?_⟩
    simp only [List.mem_singleton] at hb
    subst hb; exact List.mem_map_of_mem (f := (·.1)) hm1
  unfold pyNext
  refine wpAny_bind (wpAny_attempt (wpAny_callSpecial?_slot (name := Str.ofString "__next__") hT PySem.F.slot_zip_next
    (wpAny_call_entry PySem.F.slot_zip_next hT PySem.F.entry_zip_next (zip_next_end3 (s := St z h t) hh nd hz hTI hTO h1 L1.isList (by simpa using e1) fun h' e hk he => ?_) (PySem.F.args_zip_next_1 _))))
  obtain ⟨o, ho, hc⟩ := he
  refine wpAny_bind (wpAny_isInstance (T := "StopIteration") (b := true) ⟨o, ho, hc⟩ isSubtype_stop ?_)
  have hk : ∀ c o, c ≠ zz → c ≠ i1 → h.get? c = some o → h'.get? c = some o := hk
  have fits : ∀ p ∈ rest, p.1 ≠ zz ∧ p.1 ≠ i1 := fun p hp => by
    have hm := List.mem_map_of_mem (f := (·.1)) hp
    exact ⟨fun q => ndX.2.2 zz mm p.1 hm q.symm, fun q => ndX.2.2 i1 mm p.1 hm q.symm⟩
  have hfz := X.fresh zz mm
  have hfi := X.fresh i1 mm
  have hLn := (List.nodup_cons.mp X.nd).1
  have hag : Agree D.own hB h' := fun a o e q => hk a o (fun ha => by rw [ha, hnew zz mm] at e; cases e) (fun ha => by rw [ha, hnew i1 mm] at e; cases e) (X.inv a o e q)
  have off : ∀ x o, s₀.get? x = some o → x ≠ zz ∧ x ≠ i1 := fun x o e => by
    refine ⟨fun q => ?_, fun q => ?_⟩
    · rw [q, hfz.1] at e; cases e
    · rw [q, hfi.1] at e; cases e
  refine wpAny_pure (q h' ⟨fun x o e => hk x o (off x o (X.base x o e)).1 (off x o (X.base x o e)).2 (X.ext x o e), fun x o nx e => hk x o (off x o e).1 (off x o e).2 (X.keep x o nx e), X.base, D.stab hB h' hD hag, ?_, fun p hp => Cell.at_to (X.obj p (List.mem_append_right _ hp)) fun o e => hk _ o (fits p hp).1 (fits p hp).2 e, ?_, fun a ha => X.fresh a ?_⟩)
  · obtain ⟨o, es, ep, e, r⟩ := X.ns
    exact ⟨o, es, ep, hk _ _ (fun q => hLn (q ▸ mm)) (fun q => hLn (q ▸ mm)) e, r⟩
  · refine List.nodup_cons.mpr ⟨fun q => hLn ?_, ndX.2.1⟩
    rw [List.map_append]; exact List.mem_append_right _ q
  · rcases List.mem_cons.mp ha with rfl | ha
    · exact .head _
    · rw [List.map_append]; exact .tail _ (List.mem_append_right _ ha)
end
end
end Mine

-- CompZ
namespace Mine
section
variable {prog : Program} {w : World} {A : Around} {E : Value → Shared → Prop} {z : Shared} {h₀ s₀ h h' : Heap} {t : Nat} {D D' : Wd} {L C a it : Addr} {m mc : Str → Option Value} {objs : List (Addr × Cell)} {vs : List Value} {env : Env} {kd : String} {R : Result → Shared → Prop}
theorem W.addMany (X : W prog w h₀ s₀ D L h m objs) (X' : W prog w h₀ s₀ D' L h' m objs) (hD : D'.own = D.own) (cells : List (Addr × Cell)) (hnew : ∀ p ∈ cells, h.get? p.1 = none) (hnd : (cells.map (·.1)).Nodup) (hc : ∀ p ∈ cells, p.2.at prog w h' p.1) : W prog w h₀ s₀ D' L h' m (cells ++ objs) := by
  have hn : ∀ a ∈ cells.map (·.1), h.get? a = none := fun a ha => by
    obtain ⟨p, hp, rfl⟩ := List.mem_map.mp ha; exact hnew p hp
  refine ⟨X'.ext, X'.keep, X'.base, X'.inv, X'.ns, fun p hp => (List.mem_append.mp hp).elim (hc p) (X'.obj p), ?_, fun a ha => ?_⟩
  · have nd := List.nodup_cons.mp X.nd
    rw [List.map_append]
    refine List.nodup_cons.mpr ⟨fun q => ?_, List.nodup_append.mpr ⟨hnd, nd.2, fun a ha b hb e => ?_⟩⟩
    · rcases List.mem_append.mp q with q | q
      · exact X.live (.head _) (hn L q)
      · exact nd.1 q
    · subst e; exact X.live (.tail _ hb) (hn a ha)
  · have key : a ∈ cells.map (·.1) ∨ a ∈ L :: objs.map (·.1) := by
      rcases List.mem_cons.mp ha with rfl | ha
      · exact .inr (.head _)
      · rw [List.map_append] at ha
        exact (List.mem_append.mp ha).imp_right fun h => .tail _ h
    rcases key with k | k
    · obtain ⟨a1, a2⟩ := X.old (hn a k)
      exact ⟨a1, by rw [hD]; exact a2⟩
    · exact X'.fresh a k

theorem compZ3A {y : Str} {py : Pos} {elt iter : Expr} {n1 n2 n3 : Str} {q1 q2 q3 tp : Pos} {x1 : _} {scope : Scope} {cl : List (Str × Addr)} {pos : Pos} {Q : Value → Shared → Prop} {zz TI TO i1 i2 i3 l1 l2 l3 : Addr} {xs ys us : List Value} (hh : A.handled = none)
    (J : Nat → List Value → Prop) (X : W prog w h₀ s₀ D env.locals h m objs) (ZN : ZipNew h h' zz TI TO i1 i2 i3 l1 l2 l3) (hm1 : (l1, .lst xs) ∈ objs) (hm2 : (l2, .lst ys) ∈ objs) (hm3 : (l3, .lst us) ∈ objs) (hl : [l1, l2, l3].Nodup)
    (ey : ys.length = xs.length) (eu : us.length = xs.length) (hsz : xs.length ≤ 2 ^ 20) (hj : J 0 [])
    (turn : ∀ C k v1 v2 v3 rs D' mc objs' h' t', xs[k]? = some v1 → ys[k]? = some v2 → us[k]? = some v3 → J k rs → W prog w h₀ s₀ D' C h' (put n3 v3 (put n2 v2 (put n1 v1 mc))) objs' →
      wpAny (model prog w) A (eval elt (compEnvC scope cl C env)) (fun y s₄ => s₄ = St z h' t' ∧ J (k + 1) (rs ++ [y])) NE (St z h' t'))
    (done : ∀ acc rs h' t', J xs.length rs → W prog w h₀ s₀ D env.locals h' (put y (.ref acc) m) ((acc, .lst rs) :: objs) → Q .none (St z h' t'))
    (hcell : autoParam (∀ y ∈ scope.names, y.2 ≠ .cell) aD) (hkind : autoParam (scope.kind = .function) aR) (hkk : autoParam (env.scope.kind = .function) aR) (hly : autoParam (env.kindOf y = some .local) aR) (hx1 : autoParam (scope.names.lookup n1 = some .local) aR) (hx2 : autoParam (scope.names.lookup n2 = some .local) aR) (hx3 : autoParam (scope.names.lookup n3 = some .local) aR) :
    CompAt prog w A NE env scope cl (.ListComp elt [⟨.Tuple [.Name n1 q1, .Name n2 q2, .Name n3 q3] x1 tp, iter, [], 0⟩] scope pos) (some (assign (.Name y py) env)) Q (.ref zz) (St z h' t) := by
  have hag : Agree D.own h h' := fun a o e _ => ZN.ext a o e
  have X1 : W prog w h₀ s₀ (snapWd D h X.inv) env.locals h' m (zipCells zz TI TO i1 i2 i3 l1 l2 l3 0 ++ objs) := by
    refine X.addMany ((X.grow ZN.ext).re (snapWd D h X.inv) rfl hag) rfl _ (fun p hp => ZN.new p.1 ?_) ZN.nd fun p hp => ?_
    · simp only [zipCells, List.mem_cons, List.not_mem_nil, or_false] at hp ⊢
      rcases hp with rfl | rfl | rfl | rfl | rfl | rfl <;> simp
    · simp only [zipCells, List.mem_cons, List.not_mem_nil, or_false] at hp
      rcases hp with rfl | rfl | rfl | rfl | rfl | rfl
      · exact ZN.hz
      · exact ZN.hTI
      · exact ⟨_, ZN.hTO, _, _, _, rfl⟩
      · exact ZN.h1
      · exact ZN.h2
      · exact ZN.h3
  have hnew := ZN.new
  have hDi := X.inv
  unfold CompAt
  refine wpAny_pyIter_zip (s := St z h' t) ZN.hz ?_
  refine newLst X1 (fun h2 acc X2 => ?_) (by simp [sizeLine])
  clear X1
  refine wpAny_newFunctionEnv (s := St z h2 t) hcell (by intro y hy; simp at hy) (fun h3 hns hsb => ?_) hkind
  have hext : Ext h2 h3 := fun b o e => hsb.extBut b o (Nat.ne_of_lt (Heap.lt_size e)) (Heap.get?_push_of_some _ e)
  have X3 := (X2.add hext (get_size h2) (c := .sat (nsO _)) (ns_nsO hns)).turn
  have X3 := X3.perm (objs' := zipCells zz TI TO i1 i2 i3 l1 l2 l3 0 ++ ((acc, .lst []) :: (env.locals, .sat (nsO m)) :: objs)) (by
    show List.Perm ((env.locals, _) :: (acc, _) :: (zipCells zz TI TO i1 i2 i3 l1 l2 l3 0 ++ objs)) _
    exact ((List.Perm.swap _ _ _).trans ((List.perm_middle.symm).cons _)).trans List.perm_middle.symm)
  have loop : ∀ t, codeAny (model prog w) A (.compLoop (.ListComp elt [⟨.Tuple [.Name n1 q1, .Name n2 q2, .Name n3 q3] x1 tp, iter, [], 0⟩] scope pos) 0 (.ref zz) (.ref acc) (compEnvC scope cl h2.objs.size env)) (compPost (model prog w) A NE (some (assign (.Name y py) env)) Q (.ref acc) h2.objs.size) (St z h3 t) := by
    intro t
    refine codeAny_compLoop_gen (fun n s => E5 fun k h' t mc rs => A6 (s = St z h' t) (W prog w h₀ s₀ (snapWd D h hDi) h2.objs.size h' mc (zipCells zz TI TO i1 i2 i3 l1 l2 l3 k ++ ((acc, .lst rs) :: (env.locals, .sat (nsO m)) :: objs))) (J k rs) (k ≤ xs.length) (rs.length ≤ k) (n = xs.length - k)) ?_ xs.length
      ⟨0, h3, t, _, [], rfl, X3, hj, Nat.zero_le _, Nat.zero_le _, rfl⟩
    rintro n s ⟨k, h4, t, mc, rs, rfl, X4, hj, hle, hrs, rfl⟩
    have m1 : (l1, Cell.lst xs) ∈ (acc, Cell.lst rs) :: (env.locals, .sat (nsO m)) :: objs := .tail _ (.tail _ hm1)
    have m2 : (l2, Cell.lst ys) ∈ (acc, Cell.lst rs) :: (env.locals, .sat (nsO m)) :: objs := .tail _ (.tail _ hm2)
    have m3 : (l3, Cell.lst us) ∈ (acc, Cell.lst rs) :: (env.locals, .sat (nsO m)) :: objs := .tail _ (.tail _ hm3)
    cases hv : xs[k]? with
    | none =>
      have hkl : k = xs.length := Nat.le_antisymm hle (by simpa using hv)
      subst hkl
      refine zipEnd hh X4 hnew m1 hv fun h5 X5 => ?_
      have Y := (X5.perm (List.Perm.swap _ _ _)).turn
      refine wpAny_assign_Name (stL Y (fun h6 t6 Y => ?_) hkk hly)
      exact ⟨mc, nsO_ns (Y.obj _ (.head _)), fun h7 sb => done acc rs h7 t6 hj (Y.letGo (fun b o hb e => (sb.2 b hb).trans e) nsO_noTup)⟩
    | some v1 =>
      have hlt : k < xs.length := (List.getElem?_eq_some_iff.mp hv).1
      obtain ⟨v2, e2⟩ : ∃ v2, ys[k]? = some v2 := ⟨ys[k]'(by omega), by simp⟩
      obtain ⟨v3, e3⟩ : ∃ v3, us[k]? = some v3 := ⟨us[k]'(by omega), by simp⟩
      refine zipTurn (Q := fun v s₁' => _) X4 hnew hl m1 m2 m3 hv e2 e3 fun h5 T X5 hT => ?_
      rw [assign_Tuple]
      refine wpAny_bind (wpAny_standAt (unp (env := compEnvC scope cl h2.objs.size env) hh X5 hT fun h6 X6 e6 => ?_))
      refine aioCons (assign_Name (stL (env := compEnvC scope cl h2.objs.size env) X6 (fun h7 tk X7 => aioCons (assign_Name (stL (env := compEnvC scope cl h2.objs.size env) X7 (fun h8 tk X8 => aioCons (assign_Name (stL (env := compEnvC scope cl h2.objs.size env) X8 (fun h9 tk X9 => aioNil ?_) hkind (lookup_relabel_local hx3)))) hkind (lookup_relabel_local hx2)))) hkind (lookup_relabel_local hx1)))
      refine testsNil ?_
      rw [if_pos rfl]
      refine wpAny_mono (turn h2.objs.size k v1 v2 v3 rs _ mc _ h9 tk hv e2 e3 hj X9) (fun y s₄ q => ?_) fun _ _ e => e.elim
      obtain ⟨rfl, hj'⟩ := q
      have hacc : h9.PlainList acc rs.toArray := X9.obj (acc, .lst rs) (by simp)
      refine wpAny_list_append_plain (s := St z h9 tk) hacc (fun h₅ e sb => ?_) (by simp [sizeLine]; omega)
      exact ⟨xs.length - (k + 1), Nat.sub_lt_sub_left hlt (Nat.lt_succ_self k), k + 1, h₅, tk, _, rs ++ [y], rfl, X9.setObj (c' := .lst (rs ++ [y])) (fun b o hb e => (sb.2 b hb).trans e) (by show h₅.PlainList _ _; simpa using e) trivial, hj', hlt, by simp; omega, rfl⟩
  refine codeAny_compStart_list (loop _) (wpAny_pyIter_zip (TI := TI) (TO := TO) (f0 := .none) ?_ (loop _))
  exact X3.obj (zz, .obj _) mm
end
end Mine

-- Chr
namespace Mine
section
variable {prog : Program} {w : World} {A : Around} {E : Value → Shared → Prop} {z : Shared} {h₀ s₀ h : Heap} {t : Nat} {R : Result → Shared → Prop} {D D' : Wd} {L a it tl th : Addr} {m : Str → Option Value} {objs : List (Addr × Cell)} {env : Env} {β : Adr} {ρ : Rho} {B B' : List Tm}

/-- two lists of the same worths are not unlike -/
theorem neVs {a b : Addr} {vs us : List Value} {s : Nat} {f : Nat → Bool} {Q : Value → Shared → Prop} (ha : h.PlainList a vs.toArray) (hb : h.PlainList b us.toArray) (hl : vs.length = us.length) (h1 : ∀ (i : Nat) v, vs[i]? = some v → IsV s (f i) v) (h2 : ∀ (i : Nat) v, us[i]? = some v → IsV s (f i) v)
    (hu : A.units < cLine) (q : Q (.bool false) (St z h t)) : wpAny (model prog w) A (compareOp .NotEq (.ref a) (.ref b)) Q E (St z h t) := by
  refine (PySem.SeqAt.RcNeAt.lists (A := A) (s := St z h t) (e := fun _ => true) ha.isList hb.isList (by simpa using hl) hu fun j g1 g2 => ?_) prog w E Q ?_
  · have i1 : vs[j]? = some (vs.toArray[j]) := by simp at g1 ⊢
    have i2 : us[j]? = some (us.toArray[j]) := by simp at g2 ⊢
    have k1 := h1 j _ i1
    have k2 := h2 j _ i2
    unfold IsV at k1 k2
    by_cases hs : s = 0
    · rw [if_pos hs] at k1 k2
      rw [k1, k2]
      have := PySem.SeqAt.EqAt.bool_bool (A := A.in1) (s := St z h t) (f j) (f j)
      rwa [beq_self_eq_true] at this
    · rw [if_neg hs] at k1 k2
      obtain ⟨u1, k1⟩ := k1
      obtain ⟨u2, k2⟩ := k2
      rw [k1, k2]
      have := PySem.SeqAt.EqAt.int_int (A := A.in1) (s := St z h t) (if f j then 1 else 0) u1 (if f j then 1 else 0) u2
      rwa [beq_self_eq_true] at this
  · have : (!(List.range vs.toArray.size).all fun _ => true) = false := by simp
    rw [this]; exact q

set_option maxHeartbeats 8000000 in
theorem chosen_right_spec {c one other : Nat} {uc uo ut : Tok} {FW : Addr} {ds : List Addr} {K : List Tm → Prop} (C : Cf w h₀ β) (r₀ : RwOk β ρ) (hρ : RAt ρ h) (g : Gnd w h₀ h) (hr : Room A 24) (hB : BankAt prog w β B h)
    (hW : WorldsIs prog w FW ds h) (hds : ∀ a ∈ FW :: ds, h₀.get? a = none ∧ a ∉ β.own) (hd : rightW B c one other K)
    (hR : ∀ h' tk B', K B' → B'.length ≤ 2 ^ 23 → BankAt prog w β B' h' → Keep β.own h h' → Ext h₀ h' → R (.ok (.ret (.bool true))) (St z h' tk)) :
    codeAny (model prog w) A (.call (.ref 567) ⟨[.ref β.inst, .ref ρ.inst, .ref FW, .int (c : Int) uc, .int (one : Int) uo, .int (other : Int) ut], []⟩) R (St z h t) := by
  obtain ⟨s, r, B1, hm, hs1, hw, hc, ho, hot, hrr, pc, po, pot, pr, hsem, n, B2, hn, hs2, hm2, hm3, hm4, hpl, hK⟩ := hd
  refine enterF 567 [("bank", .ref β.inst), ("rewriter", .ref ρ.inst), ("worlds", .ref FW), ("c", .int (c : Int) uc), ("one", .int (one : Int) uo), ("other", .int (other : Int) ut)] g hr fun h₁ L A' tk en hns hr' => ?_
  have X := W.enter (prog := prog) (bankWd prog w β B) g hB en hns
  have rat : ∀ {B : List Tm} {m : Str → Option Value} {objs : List (Addr × Cell)} {h' : Heap}, W prog w h₀ h (bankWd prog w β B) L h' m objs → RAt ρ h' := fun X => hρ.to r₀ X rfl
  have wld : ∀ {B : List Tm} {m : Str → Option Value} {objs : List (Addr × Cell)} {h' : Heap}, W prog w h₀ h (bankWd prog w β B) L h' m objs → WorldsIs prog w FW ds h' := fun X => hW.to fun a ha o e => X.keep a o (hds a ha).2 e
  have hdn : ∀ a ∈ FW :: ds, h₀.get? a = none := fun a ha => (hds a ha).1
  -- t, truths
  refine sTupS ["t", "truths"] ?_
  refine Tuple_ (args_cons (MethodCall_ (nmL X rfl (mB (X.gd g.G) cls513 (rat X) (r₀.meths _ (by decide)) (argsS X (.cons (.loc rfl) (.cons (.loc rfl) (.cons (.loc rfl) .nil))) ⟨(X.gd g.G).K, ?_⟩)))))
  refine chosen_spec C r₀ (rat X) (X.gnd g.G) (hr'.less (by decide)) X.inv hm hs1 fun h' tk ur hB k e => ?_
  have X := X.call (D' := bankWd prog w β B1) rfl k e hB
  refine args_cons (cG (g := 536) (X.gd g.G) (argsS X (.cons (.loc rfl) (.cons (.loc rfl) (.cons (.loc rfl) .nil))) ⟨(X.gd g.G).K, ?_⟩))
  refine worths_spec C (X.gnd g.G) (hr'.less (by decide)) X.inv hs1 hw pc hc (wld X) hdn fun h' tk a1 xs e hnew hl hlen hxs => ?_
  have X := X.addNew (X.grow e) rfl hnew (c := .lst xs) hl
  refine args_nil (newTup X fun h' T X => swap2 hr'.hh X (X.obj _ (.head _)) fun h' tk X => ?_)
  have X := X.drop
  -- firsts, seconds
  refine sTupS ["firsts", "seconds"] ?_
  refine Tuple_ (args_cons (cG (g := 536) (X.gd g.G) (argsS X (.cons (.loc rfl) (.cons (.loc rfl) (.cons (.loc rfl) .nil))) ⟨(X.gd g.G).K, ?_⟩)))
  refine worths_spec C (X.gnd g.G) (hr'.less (by decide)) X.inv hs1 hw po ho (wld X) hdn fun h' tk a2 ys e hnew2 hl2 hlen2 hys => ?_
  have X := X.addNew (X.grow e) rfl hnew2 (c := .lst ys) hl2
  refine args_cons (cG (g := 536) (X.gd g.G) (argsS X (.cons (.loc rfl) (.cons (.loc rfl) (.cons (.loc rfl) .nil))) ⟨(X.gd g.G).K, ?_⟩))
  refine worths_spec C (X.gnd g.G) (hr'.less (by decide)) X.inv hs1 hw pot hot (wld X) hdn fun h' tk a3 us e hnew3 hl3 hlen3 hus => ?_
  have X := X.addNew (X.grow e) rfl hnew3 (c := .lst us) hl3
  refine args_nil (newTup X fun h' T X => swap2 hr'.hh X (X.obj _ (.head _)) fun h' tk X => ?_)
  have X := X.drop
  -- due
  refine sCompT [] (Call_ (nmB (X.gd g.G) (by k_is) boot_zip (PyProof.Rows.callWith_type1 (argsS X (.cons (.loc rfl) (.cons (.loc rfl) (.cons (.loc rfl) .nil))) ?_))))
  have L1 : _ := X.obj (a1, .lst xs) mm
  have L2 : _ := X.obj (a2, .lst ys) mm
  have L3 : _ := X.obj (a3, .lst us) mm
  refine call_zip_3 (s := St z _ _) (Heap.PlainList.isList L1) (Heap.PlainList.isList L2) (Heap.PlainList.isList L3) fun h' zz TI TO i1 i2 i3 ZN => ?_
  have hlt : ∀ {a b : Addr} {c d : Cell} {l : List (Addr × Cell)}, ((a, c) :: l).map (·.1) = a :: l.map (·.1) := rfl
  refine compZ3A (xs := xs) (ys := ys) (us := us) (n1 := "truth") (n2 := "first") (n3 := "second") hr'.hh (fun k rs => rs.length = k ∧ ∀ (i : Nat) v, rs[i]? = some v → IsV s (sem (wv i) B1 r) v) X ZN (by simp) (by simp) (by simp) ?_ (by rw [hlen, hlen2]) (by rw [hlen, hlen3]) (by rw [hlen]; decide) ⟨rfl, fun i v e => by simp at e⟩ ?_ ?_
  · have nd := (List.nodup_cons.mp X.nd).2
    simp only [List.map_cons, List.map_nil] at nd
    simp only [List.nodup_cons, List.mem_cons, List.not_mem_nil, or_false, not_or, List.nodup_nil, and_true, not_false_eq_true] at nd ⊢
    exact ⟨⟨fun e => nd.2 e.symm, fun e => nd.1.2 e.symm⟩, fun e => nd.1.1 e.symm⟩
  · rintro C' k v1 v2 v3 rs D' mc objs' h' t' e1 e2 e3 ⟨hk, hrs⟩ Y
    have k1 := hxs k v1 e1
    have k2 := hys k v2 e2
    have k3 := hus k v3 e3
    have k1 : v1 = .bool (sem (wv k) B1 c) := k1
    subst k1
    have fin : ∀ v, IsV s (sem (wv k) B1 r) v → (rs ++ [v]).length = k + 1 ∧ ∀ (i : Nat) u, (rs ++ [v])[i]? = some u → IsV s (sem (wv i) B1 r) u := fun v hv => by
      refine ⟨by simp [hk], fun i u hi => ?_⟩
      rcases snoc_get hi with hi | ⟨e, q⟩
      · exact hrs i u hi
      · exact (e.trans hk) ▸ q ▸ hv
    refine wpAny_IfExp (isTrue_plain (nmL Y rfl (wpAny_truthy_bool ?_)))
    have hsm := hsem (wv k)
    cases hcv : sem (wv k) B1 c with
    | true =>
      rw [hcv, if_pos rfl] at hsm
      rw [if_pos rfl]
      exact nmL Y rfl ⟨rfl, fin v2 (by rw [hsm]; exact k2)⟩
    | false =>
      rw [hcv, if_neg Bool.false_ne_true] at hsm
      rw [if_neg Bool.false_ne_true]
      exact nmL Y rfl ⟨rfl, fin v3 (by rw [hsm]; exact k3)⟩
  rintro acc rs h' tk ⟨hrl, hrs⟩ X
  -- worths(t) != due
  refine sIf (orT (wpAny_isTrue_Compare1 (cG (g := 536) (X.gd g.G) (argsS X (.cons (.loc rfl) (.cons (.loc rfl) (.cons (.loc rfl) .nil))) ⟨(X.gd g.G).K, ?_⟩))))
  refine worths_spec C (X.gnd g.G) (hr'.less (by decide)) X.inv hs1 hw pr hrr (wld X) hdn fun h' tk a4 ws e hnew4 hl4 hlen4 hws => ?_
  have X := X.addNew (X.grow e) rfl hnew4 (c := .lst ws) hl4
  refine nmL X rfl (neVs (s := s) (f := fun i => sem (wv i) B1 r) (X.obj (a4, .lst ws) mm) (X.obj (acc, .lst rs) mm) (by rw [hlen4, hrl, hlen]) hws hrs (by have := hr'.units; omega) (wpAny_truthy_bool ?_))
  rw [if_neg Bool.false_ne_true]
  -- by the denied condition
  refine wpAny_isTrue_Compare1 (MethodCall_ (nmL X rfl (mB (X.gd g.G) cls513 (rat X) (r₀.meths _ (by decide)) (args_cons (MethodCall_ (nmL X rfl (mB (X.gd g.G) cls513 (rat X) (r₀.meths _ (by decide)) (argsS X (.cons (.loc rfl) .nil) ⟨(X.gd g.G).K, ?_⟩))))))))
  refine negated_spec C r₀ (rat X) (X.gnd g.G) (hr'.less (by decide)) X.inv hn hs1 fun h' tk un hB k e => ?_
  have X := X.call (D' := bankWd prog w β B2) rfl k e hB
  refine argsS X (.cons (.loc rfl) (.cons (.loc rfl) .nil)) ⟨(X.gd g.G).K, ?_⟩
  refine chosen_spec C r₀ (rat X) (X.gnd g.G) (hr'.less (by decide)) X.inv hm2 hs2 fun h' tk u2 hB k e => ?_
  have X := X.call (D' := bankWd prog w β B2) rfl k e hB
  refine nmL X rfl (neN (wpAny_truthy_bool ?_))
  refine ifF (by simp) ?_
  refine sNx (sRet (BoolOp_and (wpAny_Compare1 (MethodCall_ (nmL X rfl (mB (X.gd g.G) cls513 (rat X) (r₀.meths _ (by decide)) (argsS X (.cons (.loc rfl) (.cons (.loc rfl) (.cons (.loc rfl) .nil))) ⟨(X.gd g.G).K, ?_⟩)))))))
  refine chosen_spec C r₀ (rat X) (X.gnd g.G) (hr'.less (by decide)) X.inv hm3 hs2 fun h' tk u2 hB k e => ?_
  have X := X.call (D' := bankWd prog w β B2) rfl k e hB
  refine nmL X rfl (eqN (wpAny_truthy_bool ?_))
  refine ifT rfl ?_
  refine BoolOp_and (wpAny_Compare1 (MethodCall_ (nmL X rfl (mB (X.gd g.G) cls513 (rat X) (r₀.meths _ (by decide)) (argsS X (.cons (.loc rfl) (.cons (.loc rfl) (.cons (.loc rfl) .nil))) ⟨(X.gd g.G).K, ?_⟩)))))
  refine chosen_spec C r₀ (rat X) (X.gnd g.G) (hr'.less (by decide)) X.inv hm4 hs2 fun h' tk u2 hB k e => ?_
  have X := X.call (D' := bankWd prog w β B2) rfl k e hB
  refine nmL X rfl (eqN (wpAny_truthy_bool ?_))
  refine ifT rfl ?_
  refine BoolOp_one (cG (g := 562) (X.gd g.G) (argsS X (.cons (.loc rfl) (.cons (.loc rfl) .nil)) ⟨(X.gd g.G).K, ?_⟩))
  refine is_plain_spec C (X.gnd g.G) (hr'.less (by decide)) X.inv hs2 hpl fun h' tk e => ?_
  have X := X.grow e
  exact hR _ _ B2 hK hs2 X.inv X.keep X.ext
end
end Mine

-- Sing
namespace Mine
section
variable {prog : Program} {w : World} {A : Around} {E : Value → Shared → Prop} {z : Shared} {h₀ s₀ h : Heap} {t : Nat} {R : Result → Shared → Prop} {D D' : Wd} {L a it tl th : Addr} {m : Str → Option Value} {objs : List (Addr × Cell)} {env : Env} {β : Adr} {ρ : Rho} {B B' : List Tm} {kd : String} {vs : List Value}

/-- a for over a list or tuple, its name a cell -/
theorem loopSqC {R : Result → Shared → Prop} {x : Str} {px : Pos} {c : Addr} {cv₀ : Option Value} {body : List Stmt} (hh : A.handled = none) (J : Nat → Wd → (Str → Option Value) → List (Addr × Cell) → Prop)
    (X : W prog w h₀ s₀ D env.locals h m ((it, .sat (itS kd a 0)) :: (c, .sat (cellO cv₀)) :: objs)) (hj : J 0 D m objs)
    (seq : ∀ k D m m' objs h, W prog w h₀ s₀ D env.locals h m' objs → J k D m objs → SqK kd h a vs)
    (turn : ∀ k v D m objs h t, vs[k]? = some v → J k D m objs → W prog w h₀ s₀ D env.locals h m ((it, .sat (itS kd a (k + 1))) :: (c, .sat (cellO (some v))) :: objs) →
      wpAny (model prog w) A (execs body env) (TurnEnd prog w h₀ s₀ env.locals z (it, .sat (itS kd a (k + 1))) (fun D m objs => ∃ cv objs', objs = (c, .sat (cellO cv)) :: objs' ∧ J (k + 1) D m objs') R) NE (St z h t))
    (done : ∀ D m cv objs h t, J vs.length D m objs → W prog w h₀ s₀ D env.locals h m ((c, .sat (cellO cv)) :: objs) → R (.ok .next) (St z h t))
    (hc : autoParam (env.cells.lookup x = some c) aR) (hk : autoParam (env.scope.kind = .function) aR) (hl : autoParam (env.kindOf x = some .cell) aR) :
    codeAny (model prog w) A (.forLoop (.Name x px) (.ref it) body [] env) R (St z h t) := by
  refine codeAny_forLoop (fun n s => E7 fun k h t D m cv objs => A5 (s = St z h t) (W prog w h₀ s₀ D env.locals h m ((it, .sat (itS kd a k)) :: (c, .sat (cellO cv)) :: objs)) (J k D m objs) (k ≤ vs.length) (n = vs.length - k)) ?_ vs.length
    ⟨0, h, t, D, m, cv₀, objs, rfl, X, hj, Nat.zero_le _, rfl⟩
  rintro n s ⟨k, h, t, D, m, cv, objs, rfl, X, hj, hle, rfl⟩
  have hs := seq k D m m objs h X.drop.drop hj
  cases hv : vs[k]? with
  | none =>
    have hkl : k = vs.length := Nat.le_antisymm hle (by simpa using hv)
    subst hkl
    exact endSq hh X hs hv fun h' X hs => wpAny_execs_nil (done D m cv objs h' t hj X)
  | some v =>
    have hlt : k < vs.length := (List.getElem?_eq_some_iff.mp hv).1
    refine nextSq X hs hv fun h' X hs => wpAny_assign_Name (stC (pre := [_]) X (fun h'' X' => ?_) hc hk hl)
    refine wpAny_mono (turn k v D m objs h'' t hv hj X') (fun f s' q => ?_) fun _ _ e => e.elim
    cases f with
    | next => obtain ⟨h, t, D, m, _, rfl, X, cv, objs, rfl, hj⟩ := q; exact ⟨vs.length - (k + 1), Nat.sub_lt_sub_left hlt (Nat.lt_succ_self k), k + 1, h, t, D, m, cv, objs, rfl, X, hj, hlt, rfl⟩
    | cont => obtain ⟨h, t, D, m, _, rfl, X, cv, objs, rfl, hj⟩ := q; exact ⟨vs.length - (k + 1), Nat.sub_lt_sub_left hlt (Nat.lt_succ_self k), k + 1, h, t, D, m, cv, objs, rfl, X, hj, hlt, rfl⟩
    | brk => exact q
    | ret v => exact q

/-- list + list -/
theorem addLs {a b : Addr} {vs us : List Value} {Q : Value → Shared → Prop} (X : W prog w h₀ s₀ D L h m objs) (ha : h.PlainList a vs.toArray) (hb : h.PlainList b us.toArray) (hsz : vs.length + us.length ≤ 1000)
    (q : ∀ h' l, W prog w h₀ s₀ D L h' m ((l, .lst (vs ++ us)) :: objs) → Q (.ref l) (St z h' t)) : wpAny (model prog w) A (binaryOp .Add (.ref a) (.ref b)) Q E (St z h t) := by
  obtain ⟨n1, ha⟩ := ha
  obtain ⟨n2, hb⟩ := hb
  refine PySem.P.add_list (s := St z h t) ha hb (q _ _ (X.push _ (c := .lst (vs ++ us)) ⟨0, ?_⟩)) (by simp [sizeLine]; omega)
  have : (vs ++ us).toArray = vs.toArray ++ us.toArray := by simp
  rw [this]; exact Heap.get?_push_size _ rfl
noncomputable def ff (k : Nat) : Bool := decide (k = 0 ∨ k = 2)
noncomputable def ss (k : Nat) : Bool := decide (k = 0 ∨ k = 3)
theorem due_iff {i j k : Nat} (hi : i < 4) (hj : j < 4) (hk : k < 4) : (ff k = ff i ∧ ss k = ss j) ↔ k = dueAt i j := by
  have : ∀ i, i < 4 → ∀ j, j < 4 → ∀ k, k < 4 → ((ff k = ff i ∧ ss k = ss j) ↔ k = dueAt i j) := by decide
  exact this i hi j hj k hk
theorem due_lt {i j : Nat} : dueAt i j < 4 := by unfold dueAt; split <;> split <;> omega

theorem sing_tab {Ta Tb Tc Td S l1 l2 : Addr} {p np : Nat} {uy uq up un : Tok} : ∃ (V : Nat → Value) (T : Nat → Addr) (F0 : List (Addr × Cell)), A5
    (F0 = [(S, .lst [.ref Ta, .ref Tb, .ref Tc, .ref Td]), (l2, .lst [.ref Tc, .ref Td]), (Td, .tup [.int (np : Int) un, .bool false, .bool true]), (Tc, .tup [.int (p : Int) up, .bool true, .bool false]), (l1, .lst [.ref Ta, .ref Tb]), (Tb, .tup [.int 2 uq, .bool false, .bool false]), (Ta, .tup [.int 1 uy, .bool true, .bool true])])
    (∀ k, k < 4 → (T k, Cell.tup [V k, .bool (ff k), .bool (ss k)]) ∈ F0)
    (∀ {k v}, [Value.ref Ta, .ref Tb, .ref Tc, .ref Td][k]? = some v → k < 4 ∧ v = .ref (T k))
    ((S, Cell.lst [.ref Ta, .ref Tb, .ref Tc, .ref Td]) ∈ F0)
    (∀ k, V k = Value.int ((([1, 2, p, np].getD k 0 : Nat)) : Int) ([uy, uq, up, un].getD k uy)) :=
  ⟨fun k => Value.int ((([1, 2, p, np].getD k 0 : Nat)) : Int) ([uy, uq, up, un].getD k uy), fun k => [Ta, Tb, Tc, Td].getD k 0, _, rfl, fun k hk =>
    lt4s (p := fun k => ([Ta, Tb, Tc, Td].getD k 0, Cell.tup [Value.int ((([1, 2, p, np].getD k 0 : Nat)) : Int) ([uy, uq, up, un].getD k uy), .bool (ff k), .bool (ss k)]) ∈ _) (mn 6) (mn 5) (mn 3) (mn 2) hk, fun {k v} e =>
    have hk := get_lt e
    ⟨hk, (Option.some.inj (e.symm.trans (lt4s (p := fun k => [Value.ref Ta, .ref Tb, .ref Tc, .ref Td][k]? = some (.ref ([Ta, Tb, Tc, Td].getD k 0))) rfl rfl rfl rfl hk)))⟩, .head _, fun _ => rfl⟩

set_option maxHeartbeats 8000000 in
theorem single_right_spec {p : Nat} {up : Tok} {K : List Tm → Prop} (C : Cf w h₀ β) (r₀ : RwOk β ρ) (hρ : RAt ρ h) (g : Gnd w h₀ h) (hr : Room A 24) (hB : BankAt prog w β B h) (hd : singleW B p K)
    (hR : ∀ h' tk B', K B' → BankAt prog w β B' h' → Keep β.own h h' → Ext h₀ h' → R (.ok (.ret (.bool true))) (St z h' tk)) :
    codeAny (model prog w) A (.call (.ref 572) ⟨[.ref ρ.inst, .int (p : Int) up], []⟩) R (St z h t) := by
  obtain ⟨np, B1, G, hn, hs0, hs1, hG0, hG, hGK⟩ := hd
  refine enterFC 572 [("rewriter", .ref ρ.inst), ("p", .int (p : Int) up)] g hr (fun h₁ L A' tk en hns hcs hr' => ?_)
  have hc1 : h₁.IsCell (L + 1) none := hcs "one" _ rfl
  have hc2 : h₁.IsCell (L + 1 + 1) none := hcs "other" _ rfl
  have X := W.enterC (prog := prog) (bankWd prog w β B) g hB en hns [(L + 1, .sat (cellO none)), (L + 1 + 1, .sat (cellO none))]
    (fac ⟨hc1, Nat.lt_succ_self L⟩ (fac ⟨hc2, Nat.lt_succ_of_lt (Nat.lt_succ_self L)⟩ fan)) nd2
  have rat : ∀ {B : List Tm} {L : Addr} {m : Str → Option Value} {objs : List (Addr × Cell)} {h' : Heap}, W prog w h₀ h (bankWd prog w β B) L h' m objs → RAt ρ h' := fun X => hρ.to r₀ X rfl
  clear hcs hc1 hc2
  obtain ⟨uy, hy⟩ := r₀.yes
  obtain ⟨uq, hq⟩ := r₀.no
  refine sAsg (List_ (args_cons (Tuple_ (args_cons (Attribute_any_ (nmL X rfl (getA (X.gd g.G) cls513 (rat X) hy (by k_is) rfl fun tk => args_cons (cBool (args_cons (cBool (args_nil ?_)))))))))))
  refine newTup X fun h' Ta X => ?_
  refine args_cons (Tuple_ (args_cons (Attribute_any_ (nmL X rfl (getA (X.gd g.G) cls513 (rat X) hq (by k_is) rfl fun tk => args_cons (cBool (args_cons (cBool (args_nil ?_)))))))))
  refine newTup X fun h' Tb X => ?_
  refine args_nil (newLst X fun h' l1 X => stL X fun h' tk X => ?_)
  refine sAsg (wpAny_BinOp (nmL X rfl (List_ (args_cons (Tuple_ (args_cons (nmL X rfl (args_cons (cBool (args_cons (cBool (args_nil ?_))))))))))))
  refine newTup X fun h' Tc X => ?_
  refine args_cons (Tuple_ (args_cons (MethodCall_ (nmL X rfl (mB (X.gd g.G) cls513 (rat X) (r₀.meths _ (by decide)) (argsS X (.cons (.loc rfl) .nil) ⟨(X.gd g.G).K, ?_⟩))))))
  refine negated_spec C r₀ (rat X) (X.gnd g.G) (hr'.less (by decide)) X.inv hn hs0 fun h' tk un hB k e => ?_
  have X := X.call (D' := bankWd prog w β B1) rfl k e hB
  refine args_cons (cBool (args_cons (cBool (args_nil ?_))))
  refine newTup X fun h' Td X => args_nil (newLst X fun hS l2 X => ?_)
  refine addLs X (X.obj (l1, .lst [.ref Ta, .ref Tb]) mm) (X.obj (l2, .lst [.ref Tc, .ref Td]) mm) (by simp) fun h' S X => stL X fun h' tk X => ?_
  obtain ⟨V, T, F0, hF0, hTF, four, hS, hV⟩ := sing_tab (Ta := Ta) (Tb := Tb) (Tc := Tc) (Td := Td) (S := S) (l1 := l1) (l2 := l2) (p := p) (np := np) (uy := uy) (uq := uq) (up := up) (un := un)
  have X : W prog w h₀ h (bankWd prog w β B1) L h' _ ((L + 1, .sat (cellO none)) :: (L + 1 + 1, .sat (cellO none)) :: F0) := X.perm (by rw [hF0]; exact List.perm_append_comm (l₁ := [_, _, _, _, _, _, _]) (l₂ := [_, _]))
  have lstAt : ∀ {B : List Tm} {L : Addr} {m : Str → Option Value} {objs : List (Addr × Cell)} {h' : Heap}, W prog w h₀ h (bankWd prog w β B) L h' m objs → (∀ x ∈ F0, x ∈ objs) → h'.PlainList S [Value.ref Ta, .ref Tb, .ref Tc, .ref Td].toArray := fun X hF => X.obj (S, .lst _) (hF _ hS)
  have tupAt : ∀ {B : List Tm} {L : Addr} {m : Str → Option Value} {objs : List (Addr × Cell)} {h' : Heap}, W prog w h₀ h (bankWd prog w β B) L h' m objs → (∀ x ∈ F0, x ∈ objs) → ∀ k, k < 4 → IsTup h' (T k) [V k, .bool (ff k), .bool (ss k)].toArray := fun X hF k hk => by
    exact X.obj (T k, .tup [V k, .bool (ff k), .bool (ss k)]) (hF _ (hTF k hk))
  have m0 : ∀ x ∈ F0, x ∈ (L + 1, Cell.sat (cellO none)) :: (L + 1 + 1, .sat (cellO none)) :: F0 := fun x hx => .tail _ (.tail _ hx)
  refine sFor (nmL X rfl (iterSq (vs := [.ref Ta, .ref Tb, .ref Tc, .ref Td]) (kd := "list_iterator") X (.inl ⟨rfl, lstAt X m0⟩) fun h' it X hs => ?_))
  refine loopSqC (vs := [.ref Ta, .ref Tb, .ref Tc, .ref Td]) (kd := "list_iterator") (c := L + 1) hr'.hh (fun i D m objs => ∃ B', A6 (D = bankWd prog w β B') (G (4 * i) B') ((∃ cv, objs = (L + 1 + 1, .sat (cellO cv)) :: F0)) (m "rewriter" = some (.ref ρ.inst)) (m "p" = some (.int (p : Int) up)) (m "some" = some (.ref S))) X ⟨B1, rfl, hG0, ⟨none, rfl⟩, rfl, rfl, rfl⟩ ?_ ?_ ?_
  · rintro i D m m' objs h' Y ⟨B', rfl, _, ⟨cv, rfl⟩, _⟩
    exact .inl ⟨rfl, lstAt Y fun x hx => .tail _ hx⟩
  · rintro i v D m objs h' t' hv ⟨B', rfl, hGi, ⟨cv, rfl⟩, m1, m2, m3⟩ X
    refine opq ?_
    intro TT hT
    obtain ⟨hi, rfl⟩ := four hv
    refine sFor (nmL X m3 (iterSq (vs := [.ref Ta, .ref Tb, .ref Tc, .ref Td]) (kd := "list_iterator") X (.inl ⟨rfl, lstAt X fun x hx => .tail _ (.tail _ (.tail _ hx))⟩) fun h' it2 X hs => ?_))
    have X := X.perm (objs' := (it2, .sat (itS "list_iterator" S 0)) :: (L + 1 + 1, .sat (cellO cv)) :: (it, .sat (itS "list_iterator" S (i + 1))) :: (L + 1, .sat (cellO (some (.ref (T i))))) :: F0) ((((List.Perm.swap _ _ _).cons _).trans (List.Perm.swap _ _ _)).cons _)
    refine loopSqC (vs := [.ref Ta, .ref Tb, .ref Tc, .ref Td]) (kd := "list_iterator") (c := L + 1 + 1) hr'.hh (fun j D m objs => ∃ B', A6 (D = bankWd prog w β B') (G (4 * i + j) B') (objs = (it, .sat (itS "list_iterator" S (i + 1))) :: (L + 1, .sat (cellO (some (.ref (T i))))) :: F0) (m "rewriter" = some (.ref ρ.inst)) (m "p" = some (.int (p : Int) up)) (m "some" = some (.ref S))) X ⟨B', rfl, hGi, rfl, m1, m2, m3⟩ ?_ ?_ ?_
    · rintro j D m m' objs h' Y ⟨B', rfl, _, rfl, _⟩
      exact .inl ⟨rfl, lstAt Y fun x hx => .tail _ (.tail _ hx)⟩
    · rintro j v D m objs h' t' hv ⟨B', rfl, hGj, rfl, m1, m2, m3⟩ X
      refine opq ?_
      intro TT hT
      obtain ⟨hj, rfl⟩ := four hv
      obtain ⟨B'', hm, hsB, hG'⟩ := hG i j B' hi hj hGj
      refine sAsg (Subscript_ (listCompT [("other", L + 1 + 1), ("one", L + 1)] (nmL X m3 ?_)))
      refine compSqT3 (kd := "list_iterator") (vs := [.ref Ta, .ref Tb, .ref Tc, .ref Td]) (n1 := "t") (n2 := "first") (n3 := "second") hr'.hh (fun k v1 v2 v3 => A4 (k < 4) (v1 = V k) (v2 = .bool (ff k)) (v3 = .bool (ss k)))
        (fun k ys D objs' => D = bankWd prog w β B' ∧ objs' = (it2, .sat (itS "list_iterator" S (j + 1))) :: (L + 1 + 1, .sat (cellO (some (.ref (T j))))) :: (it, .sat (itS "list_iterator" S (i + 1))) :: (L + 1, .sat (cellO (some (.ref (T i))))) :: F0 ∧ ys = if dueAt i j < k then [V (dueAt i j)] else [])
        X (.inl ⟨rfl, lstAt X fun x hx => .tail _ (.tail _ (.tail _ (.tail _ hx)))⟩) ⟨rfl, rfl, rfl⟩ (by simp) ?_ ?_ ?_ ?_
      · rintro k j' ys D' mc C' acc it3 objs' h' Y ⟨rfl, rfl, _⟩
        exact .inl ⟨rfl, lstAt Y fun x hx => tl7 hx⟩
      · rintro k v ys D' mc C' acc it3 objs' h' hv Y ⟨rfl, rfl, _⟩
        obtain ⟨hk, rfl⟩ := four hv
        exact ⟨_, _, _, _, rfl, tupAt Y (fun x hx => tl7 hx) k hk, hk, rfl, rfl, rfl⟩
      · rintro C' acc it3 k v1 v2 v3 ys D' mc objs' h' t' ⟨hk, rfl, rfl, rfl⟩ ⟨rfl, rfl, rfl⟩ Y
        have ti := tupAt Y (fun x hx => tl7 hx) i hi
        have tj := tupAt Y (fun x hx => tl7 hx) j hj
        have hdue := due_iff hi hj hk
        refine tests1 (opq2 fun T F hT hF => andT (wpAny_isTrue_Compare1 (nmL Y rfl (Subscript_ (nmC (c := L + 1) Y mm (cInt fun u tk => itT (i := 1) ti rfl rfl (by decide) (eq_bool (wpAny_truthy_bool ?_))))))))
        by_cases c1 : ff k = ff i
        · refine ifE (by rw [c1]; exact beq_self_eq_true _) ?_
          refine wpAny_isTrue_Compare1 (nmL Y rfl (Subscript_ (nmC (c := L + 1 + 1) Y mm (cInt fun u tk => itT (i := 2) tj rfl rfl (by decide) (eq_bool (wpAny_truthy_bool ?_))))))
          by_cases c2 : ss k = ss j
          · refine ifE (by rw [c2]; exact beq_self_eq_true _) ?_
            have hkd := hdue.mp ⟨c1, c2⟩
            refine nmL Y rfl (hT _ _ ⟨_, _, _, _, _, rfl, Y, rfl, rfl, ?_⟩)
            rw [if_neg (by omega), if_pos (by omega), hkd]; rfl
          · have : (ss k == ss j) = false := by simpa using c2
            refine ifE0 this ?_
            have hkd : k ≠ dueAt i j := fun e => c2 (hdue.mpr e).2
            refine hF _ ⟨_, _, _, _, _, rfl, Y, rfl, rfl, ?_⟩
            by_cases q : dueAt i j < k
            · rw [if_pos q, if_pos (by omega)]
            · rw [if_neg q, if_neg (by omega)]
        · have : (ff k == ff i) = false := by simpa using c1
          refine ifE0 this (if0 ?_)
          have hkd : k ≠ dueAt i j := fun e => c1 (hdue.mpr e).1
          refine hF _ ⟨_, _, _, _, _, rfl, Y, rfl, rfl, ?_⟩
          by_cases q : dueAt i j < k
          · rw [if_pos q, if_pos (by omega)]
          · rw [if_neg q, if_neg (by omega)]
      rintro acc ys D' objs' h' t' ⟨rfl, rfl, rfl⟩ X
      have hdl := due_lt (i := i) (j := j)
      have hacc : h'.PlainList acc [V (dueAt i j)].toArray := by
        have := X.obj _ (.head _)
        rw [if_pos (show dueAt i j < [Value.ref Ta, .ref Tb, .ref Tc, .ref Td].length from hdl)] at this
        exact this
      refine cInt fun u tk => itL (i := 0) hacc rfl (by simp) (stL X fun h' tk X => ?_)
      have X := X.drop
      have ti := tupAt X (fun x hx => tl4 hx) i hi
      have tj := tupAt X (fun x hx => tl4 hx) j hj
      refine sIf (wpAny_isTrue_Compare1 (MethodCall_ (nmL X m1 (mB (X.gd g.G) cls513 (rat X) (r₀.meths _ (by decide)) (args_cons (nmL X m2 (args_cons ?_)))))))
      refine Subscript_ (nmC (c := L + 1) X mm (cInt fun u tk => itT (i := 0) ti rfl rfl (by decide) (args_cons ?_)))
      refine Subscript_ (nmC (c := L + 1 + 1) X mm (cInt fun u tk => itT (i := 0) tj rfl rfl (by decide) (args_nil ⟨(X.gd g.G).K, ?_⟩)))
      rw [hV (dueAt i j)] at X
      rw [hV i, hV j]
      refine chosen_spec C r₀ (rat X) (X.gnd g.G) (hr'.less (by decide)) X.inv hm hsB fun h' tk ur hB k e => ?_
      have X := X.call (D' := bankWd prog w β B'') rfl k e hB
      refine nmL X rfl (neN (wpAny_truthy_bool ?_))
      refine ifF (by simp) ?_
      exact sNx (sNil (hT _ _ ⟨_, _, _, _, _, rfl, X, _, _, rfl, B'', rfl, hG', rfl, m1, m2, m3⟩))
    · rintro D m cv2 objs h' t' ⟨B', rfl, hGj, rfl, m1, m2, m3⟩ X
      have X := X.perm (objs' := (it, .sat (itS "list_iterator" S (i + 1))) :: (L + 1, .sat (cellO (some (.ref (T i))))) :: (L + 1 + 1, .sat (cellO cv2)) :: F0) ((List.Perm.swap _ _ _).trans ((List.Perm.swap _ _ _).cons _))
      exact sNil (hT _ _ ⟨_, _, _, _, _, rfl, X, _, _, rfl, B', rfl, hGj, ⟨cv2, rfl⟩, m1, m2, m3⟩)
  · rintro D m cv objs h' t' ⟨B', rfl, hGi, ⟨cv2, rfl⟩, m1, m2, m3⟩ X
    exact sRet (cBool (hR _ _ B' (hGK B' hGi) X.inv X.keep X.ext))
end
end Mine

-- Lawr
namespace Mine
section
variable {prog : Program} {w : World} {A : Around} {E : Value → Shared → Prop} {z : Shared} {h₀ s₀ h h' : Heap} {t : Nat} {R : Result → Shared → Prop} {D D' : Wd} {L C a it tl th : Addr} {m mc : Str → Option Value} {objs : List (Addr × Cell)} {env : Env} {kd : String} {vs : List Value}

/-- another world, the older one's things being new -/
theorem W.switch (X : W prog w h₀ s₀ D L h m objs) (hf : ∀ a ∈ D.own, s₀.get? a = none) (D' : Wd) (hI : D'.I h) (objs' : List (Addr × Cell)) (hsub : ∀ p ∈ objs', p ∈ objs) (hnd : (objs'.map (·.1)).Nodup) (hdis : ∀ a ∈ L :: objs'.map (·.1), a ∉ D'.own) : W prog w h₀ s₀ D' L h m objs' := by
  refine ⟨X.ext, fun b o _ e => X.keep b o (fun q => by rw [hf b q] at e; cases e) e, X.base, hI, X.ns, fun p hp => X.obj p (hsub p hp), List.nodup_cons.mpr ⟨fun q => ?_, hnd⟩, fun a ha => ⟨?_, hdis a ha⟩⟩
  · obtain ⟨p, hp, e⟩ := List.mem_map.mp q
    exact (List.nodup_cons.mp X.nd).1 (e ▸ List.mem_map_of_mem (f := (·.1)) (hsub p hp))
  · rcases List.mem_cons.mp ha with rfl | ha
    · exact (X.fresh _ (.head _)).1
    · obtain ⟨p, hp, rfl⟩ := List.mem_map.mp ha
      exact (X.fresh _ (.tail _ (List.mem_map_of_mem (f := (·.1)) (hsub p hp)))).1

/-- after a call that turned the first cells alone: they go over to a new world -/
theorem W.adopt {pre : List (Addr × Cell)} (X : W prog w h₀ s₀ D L h m (pre ++ objs)) (hk : Keep (pre.map (·.1)) h h') (he : Ext h₀ h') (D' : Wd) (hI : D'.I h') (hsub : ∀ a ∈ D.own, a ∈ D'.own) (hnew : ∀ a ∈ D'.own, a ∈ D.own ∨ a ∈ pre.map (·.1) ∨ h.get? a = none) :
    W prog w h₀ s₀ D' L h' m objs := by
  have nd := List.nodup_cons.mp X.nd
  rw [List.map_append] at nd
  have nd2 := List.nodup_append.mp nd.2
  have offp : ∀ a, s₀.get? a ≠ none → a ∉ pre.map (·.1) := fun a ha q => ha (X.fresh a (.tail _ (by rw [List.map_append]; exact List.mem_append_left _ q))).1
  have hL : L ∉ pre.map (·.1) := fun q => nd.1 (List.mem_append_left _ q)
  have ho : ∀ p ∈ objs, p.1 ∉ pre.map (·.1) := fun p hp q => nd2.2.2 p.1 q p.1 (List.mem_map_of_mem (f := (·.1)) hp) rfl
  refine ⟨he, fun b o hb e => hk b o (offp b (by rw [e]; exact fun q => nomatch q)) (X.keep b o (fun q => hb (hsub b q)) e), X.base, hI, ?_, fun p hp => Cell.at_to (X.obj p (List.mem_append_right _ hp)) fun o e => hk _ o (ho p hp) e, List.nodup_cons.mpr ⟨fun q => nd.1 (List.mem_append_right _ q), nd2.2.1⟩, fun a ha => ?_⟩
  · obtain ⟨o, es, ep, e, r⟩ := X.ns
    exact ⟨o, es, ep, hk _ o hL e, r⟩
  · have hmem : a ∈ L :: (pre ++ objs).map (·.1) := by
      rcases List.mem_cons.mp ha with rfl | ha
      · exact .head _
      · rw [List.map_append]; exact .tail _ (List.mem_append_right _ ha)
    have hf := X.fresh a hmem
    refine ⟨hf.1, fun q => ?_⟩
    rcases hnew a q with q | q | q
    · exact hf.2 q
    · rcases List.mem_cons.mp ha with rfl | ha
      · exact hL q
      · exact nd2.2.2 a q a ha rfl
    · exact X.live hmem q

/-- a list taken apart -/
theorem unpLs {elts : List Expr} {Q : Unit → Shared → Prop} (hh : A.handled = none) (X : W prog w h₀ s₀ D L h m objs) (hl : h.PlainList a vs.toArray)
    (q : ∀ h', W prog w h₀ s₀ D L h' m objs → Ext h h' → wpAny (model prog w) A (assignInOrder ((assignEach elts env).map (·.2)) vs) Q E (St z h' t)) (hn : autoParam ((assignEach elts env).length = vs.length) aR) (hstar : autoParam ((assignEach elts env).findIdx? (·.1) = none) aR) :
    wpAny (model prog w) A (unpack (.ref a) (assignEach elts env)) Q E (St z h t) := by
  unfold unpack
  rw [hn, hstar]
  refine wpAny_bind (wpAny_holding ?_)
  have e : vs.length = vs.toArray.size := by simp
  rw [e]
  refine kun_itemsOf (s := St z h t) hh hl.isList fun h' he => ?_
  have hx : Ext h h' := fun b o e => he b o (Nat.ne_of_lt (Heap.lt_size e)) e
  exact q h' (X.grow hx) hx

/-- sum(list of ints) -/
theorem sumL {ns : List Int} {Q : Value → Shared → Prop} (hh : A.handled = none) (hl : h.PlainList a vs.toArray) (hi : IntsAre vs ns) (q : ∀ h' tk u, Ext h h' → Q (.int ns.sum u) (St z h' tk)) : wpAny (model prog w) A (call (.builtin "sum") [.ref a]) Q E (St z h t) := by
  obtain ⟨xs, e1, e2⟩ : ∃ xs : List (Int × Tok), vs = xs.map (fun p => Value.int p.1 p.2) ∧ ns = xs.map (·.1) := by
    clear hl q
    induction hi with
    | nil => exact ⟨[], rfl, rfl⟩
    | cons n t _ ih => obtain ⟨xs, rfl, rfl⟩ := ih; exact ⟨(n, t) :: xs, rfl, rfl⟩
  subst e1; subst e2
  have hl' : (St z h t).heap.IsList a (intItems xs.toArray) := by
    have : intItems xs.toArray = (xs.map fun p => Value.int p.1 p.2).toArray := by unfold intItems; simp
    rw [this]; exact hl.isList
  refine sum_intListG (s := St z h t) hh hl' fun h' tk t' hk => ?_
  rw [preSum_eq, List.take_of_length_le (by simp)]
  exact q h' tk t' hk

theorem sliceUpto {value : Expr} {k : Nat} {cpos p pos : Pos} {Q : Value → Shared → Prop} {b : Nat} (hv : ∀ (Q' : Value → Shared → Prop), Q' (.ref a) (St z h t) → wpAny (model prog w) A (eval value env) Q' E (St z h t)) (X : W prog w h₀ s₀ D L h m objs) (hl : h.IsList a vs.toArray) (hsz : vs.length ≤ 2 ^ 20)
    (q : ∀ h' c tk, W prog w h₀ s₀ D L h' m ((c, .lst (vs.take b)) :: objs) → Q (.ref c) (St z h' tk)) (ht : ∀ o r, letTemporaryGo value o r = pure () := by intro _ _; rfl) :
    wpAny (model prog w) A (eval (.Subscript value (.Slice none (some (.Constant (.int (b : Int)) k cpos)) none p) pos) env) Q E (St z h t) := by
  refine wpAny_Subscript_list_slice (hv _ (wpAny_pure (cInt (k := k) (pos := cpos) fun u tk => ⟨a, vs.toArray, none, some (b : Int), rfl, hl, by simp [sizeLine]; omega, .none, .int _ _, ?_⟩))) ht
  have e : slicePick vs.toArray none (some (b : Int)) none = (vs.take b).toArray := by
    have e1 : sliceBounds none (some (b : Int)) none vs.toArray.size = (((0 : Nat) : Int), ((min b vs.toArray.size : Nat) : Int), 1) := by
      simp only [sliceBounds, Option.getD_none, show (1 : Int) > 0 by decide, if_true, if_neg (show ¬ ((b : Int) < 0) by omega)]
      congr 1
      congr 1
      omega
    rw [kmk_pick_nat _ e1]
    simp only [List.drop_zero, Nat.sub_zero, List.size_toArray, kmk_take_min]
  rw [e]
  have X1 := (X.grow (Ext.push h { cls := .type "slice", data := .fields #[.none, .int (b : Int) u, .none] })).push { cls := .type "list", data := .seq (vs.take b).toArray } (c := .lst (vs.take b)) ⟨0, Heap.get?_push_size _ rfl⟩
  have e2 : (h.push { cls := .type "slice", data := .fields #[.none, .int (b : Int) u, .none] }).objs.size = h.objs.size + 1 := Heap.size_push ..
  rw [e2] at X1
  exact q _ _ _ X1

/-- a comprehension over what is walked step by step -/
theorem compG {elt iter : Expr} {x : Str} {px : Pos} {ifs : List Expr} {scope : Scope} {cl : List (Str × Addr)} {pos : Pos} {Q : Value → Shared → Prop} {N : Nat} (hh : A.handled = none) (IT : Nat → Cell) (P : Nat → Value → Prop)
    (J : Nat → List Value → Wd → List (Addr × Cell) → Prop) (X : W prog w h₀ s₀ D env.locals h m ((it, IT 0) :: objs)) (hj : J 0 [] D objs) (hsz : N ≤ 2 ^ 20)
    (next : ∀ k D' C mc objs h t (Q : Option Value → Shared → Prop) (E : Value → Shared → Prop), k < N → W prog w h₀ s₀ D' C h mc ((it, IT k) :: objs) → (∀ h' t' v, P k v → W prog w h₀ s₀ D' C h' mc ((it, IT (k + 1)) :: objs) → Q (some v) (St z h' t')) → wpAny (model prog w) A (pyNext (.ref it)) Q E (St z h t))
    (last : ∀ D' C mc objs h t (Q : Option Value → Shared → Prop) (E : Value → Shared → Prop), W prog w h₀ s₀ D' C h mc ((it, IT N) :: objs) → (∀ h', W prog w h₀ s₀ D' C h' mc objs → Q none (St z h' t)) → wpAny (model prog w) A (pyNext (.ref it)) Q E (St z h t))
    (self : ∀ D' C mc objs h t (Q : Value → Shared → Prop) (E : Value → Shared → Prop), W prog w h₀ s₀ D' C h mc objs → (it, IT 0) ∈ objs → Q (.ref it) (St z h t) → wpAny (model prog w) A (pyIter (.ref it)) Q E (St z h t))
    (turn : ∀ C acc k v ys D' mc objs' h' t', k < N → P k v → J k ys D' objs' → W prog w h₀ s₀ D' C h' (put x v mc) ((acc, .lst ys) :: (it, IT (k + 1)) :: (env.locals, .sat (nsO m)) :: objs') →
      wpAny (model prog w) A (testsOf ifs (compEnvC scope cl C env)) (fun ok s₃ => if ok = true then
          wpAny (model prog w) A (eval elt (compEnvC scope cl C env)) (fun y s₄ => CompTurn prog w A h₀ s₀ C z [(acc, .lst ys), (it, IT (k + 1)), (env.locals, .sat (nsO m))] (J (k + 1) (ys ++ [y])) s₄) NE s₃
        else CompTurn prog w A h₀ s₀ C z [(acc, .lst ys), (it, IT (k + 1)), (env.locals, .sat (nsO m))] (J (k + 1) ys) s₃) NE (St z h' t'))
    (done : ∀ acc ys D' objs' h' t', J N ys D' objs' → W prog w h₀ s₀ D' env.locals h' m ((acc, .lst ys) :: objs') → Q (.ref acc) (St z h' t'))
    (hcell : autoParam (∀ y ∈ scope.names, y.2 ≠ .cell) aD) (hkind : autoParam (scope.kind = .function) aR) (hx : autoParam (scope.names.lookup x = some .local) aR) :
    wpAny (model prog w) A (newList []) (fun acc s₃ =>
      wpAny (model prog w) A (newFunctionEnv scope env.globals cl [] env.qual none .none (some env)) (fun cenv s₄ =>
        codeAny (model prog w) A (.compStart (.ListComp elt [⟨.Name x px, iter, ifs, 0⟩] scope pos) 0 (.ref it) acc { cenv with scope := relabel scope env }) (compPost (model prog w) A NE none Q acc cenv.locals) s₄) NE s₃) NE (St z h t) := by
  refine compU IT J X hj hsz (fun C mc acc h t Q E X q => self _ _ _ _ _ _ _ _ X (.tail _ (.head _)) q) (fun C acc k ys D' mc objs' h t hk hj X => ?_) (fun C acc ys D' mc objs' h t hj X => ?_) hcell hkind
  · exact next k _ _ _ _ _ _ _ _ hk (X.perm (List.Perm.swap _ _ _)) fun h₃ t₃ v hP X => ⟨_, rfl, letNm (wpAny_assign_Name (stL (env := compEnvC scope cl C env) X (fun h₄ tk X => turn C acc k v ys D' mc objs' h₄ tk hk hP hj (X.perm (List.Perm.swap _ _ _))) hkind (lookup_relabel_local hx)))⟩
  · refine last _ _ _ _ _ _ _ _ (X.perm (List.Perm.swap _ _ _)) fun h₃ X => ?_
    have Y := (X.perm (List.Perm.swap _ _ _)).turn
    exact ⟨rfl, mc, nsO_ns (Y.obj _ (.head _)), fun h₄ sb => done acc ys D' objs' h₄ t hj (Y.letGo (fun b o hb e => (sb.2 b hb).trans e) nsO_noTup)⟩
end
end Mine

-- Lawp
namespace Mine
section
variable {prog : Program} {w : World} {A : Around} {E : Value → Shared → Prop} {z : Shared} {h₀ s₀ h h' : Heap} {t : Nat} {R : Result → Shared → Prop} {D D' : Wd} {L C a it tl th : Addr} {m mc : Str → Option Value} {objs : List (Addr × Cell)} {env : Env} {kd : String} {vs : List Value} {η : Hand} {β : Adr} {ρ : Rho} {B B' : List Tm}

theorem ints_mem {ns : List Int} (x : IntsAre vs ns) {v : Value} (h : v ∈ vs) : ∃ i u, v = .int i u := by
  induction x with
  | nil => cases h
  | cons n t _ ih =>
    rcases List.mem_cons.mp h with rfl | h
    · exact ⟨_, _, rfl⟩
    · exact ih h
theorem ints_snoc {ns : List Int} (x : IntsAre vs ns) (i : Int) (u : Tok) : IntsAre (vs ++ [.int i u]) (ns ++ [i]) := by
  induction x with
  | nil => exact .cons _ _ .nil
  | cons n t _ ih => exact .cons _ _ ih

theorem modI {i K : Int} {u v : Tok} {Q : Value → Shared → Prop} (hK : 0 < K) (hb : K.natAbs < 2 ^ 20) (q : ∀ (r : Nat) tk u, (r : Int) < K → Q (.int (r : Int) u) (St z h tk)) : wpAny (model prog w) A (binaryOp .Mod (.int i u) (.int K v)) Q E (St z h t) := by
  obtain ⟨k, rfl⟩ := Int.eq_ofNat_of_zero_le (Int.le_of_lt hK)
  exact modN (k := k) (by omega) fun r tk u hr _ => q r tk u (by omega)

/-- a dict display with text keys -/
theorem newDS {keys : List (Option Expr)} {values : List Expr} {pos : Pos} {Q : Value → Shared → Prop} (X : W prog w h₀ s₀ D L h m objs)
    (q : ∀ h' d, W prog w h₀ s₀ D L h' m ((d, .sat fun o => o.IsDictOf (strKind prog w) []) :: objs) → wpAny (model prog w) A (evalPairs (pairTrees keys values env pos)) (fun vs s₁ => ∃ h₁ t₁ objs' kvs, s₁ = St z h₁ t₁ ∧ W prog w h₀ s₀ D L h₁ m ((d, .sat fun o => o.IsDictOf (strKind prog w) []) :: objs') ∧ Carries (strKind prog w) vs kvs ∧
      ∀ h₂ t₂, W prog w h₀ s₀ D L h₂ m ((d, .sat fun o => o.IsDictOf (strKind prog w) (merged [] kvs)) :: objs') → Q (.ref d) (St z h₂ t₂)) E (St z h' t))
    (hall : autoParam (keys.all (·.isSome) = true) aR) (hl : autoParam (keys.length = values.length) aR) (h0 : keys ≠ [] := by simp) (hlen : autoParam (keys.length ≤ 15) aD) :
    wpAny (model prog w) A (eval (.Dict keys values pos) env) Q E (St z h t) := by
  refine wpAny_Dict_walk (knd := strKind prog w) hall hl h0 hlen ?_
  refine wpAny_mono (q _ h.objs.size (X.push _ (Heap.dictOf_iff.mp (Heap.DictOf.new (knd := strKind prog w) h)))) (fun vs s₁ q => ?_) fun _ _ e => e
  obtain ⟨h₁, t₁, objs', kvs, rfl, X, hc, q⟩ := q
  refine ⟨kvs, hc, Heap.dictOf_iff.mpr (X.obj _ (.head _)), fun h' hd sb => q _ _ (X.set0 (c' := .sat _) (fun b o hb e => (sb.2 b hb).trans e) (Heap.dictOf_iff.mp hd) fun o ho q => ?_)⟩
  have hx := ho.choose_spec.choose_spec.1.1
  have := q.1
  rw [hx] at this
  simp at this

noncomputable def strO (x : Str) (u : Tok) (i : Nat) (o : Obj) : Prop := o.cls = .type "str_ascii_iterator" ∧ o.data = .fields #[.str x u, .int i 0]
theorem strO_noTup {x : Str} {u : Tok} {i : Nat} : (Cell.sat (strO x u i)).noTup := fun o ho q => by have := q.1; rw [ho.1] at this; simp at this

/-- [.. for x in text] -/
theorem compStr {elt iter : Expr} {x xs : Str} {u : Tok} {px : Pos} {ifs : List Expr} {scope : Scope} {cl : List (Str × Addr)} {pos : Pos} {Q : Value → Shared → Prop} (hh : A.handled = none)
    (J : Nat → List Value → Wd → List (Addr × Cell) → Prop) (X : W prog w h₀ s₀ D env.locals h m objs) (hj : J 0 [] D objs)
    (turn : ∀ C acc it k uc c ys D' mc objs' h' t', k < xs.cps.size → J k ys D' objs' → W prog w h₀ s₀ D' C h' (put x (.str ⟨#[c]⟩ uc) mc) ((acc, .lst ys) :: (it, .sat (strO xs u (k + 1))) :: (env.locals, .sat (nsO m)) :: objs') →
      wpAny (model prog w) A (testsOf ifs (compEnvC scope cl C env)) (fun ok s₃ => if ok = true then
          wpAny (model prog w) A (eval elt (compEnvC scope cl C env)) (fun y s₄ => CompTurn prog w A h₀ s₀ C z [(acc, .lst ys), (it, .sat (strO xs u (k + 1))), (env.locals, .sat (nsO m))] (J (k + 1) (ys ++ [y])) s₄) NE s₃
        else CompTurn prog w A h₀ s₀ C z [(acc, .lst ys), (it, .sat (strO xs u (k + 1))), (env.locals, .sat (nsO m))] (J (k + 1) ys) s₃) NE (St z h' t'))
    (done : ∀ acc ys D' objs' h' t', J xs.cps.size ys D' objs' → W prog w h₀ s₀ D' env.locals h' m ((acc, .lst ys) :: objs') → Q (.ref acc) (St z h' t'))
    (hasc : xs.cps.all (· < 128) = true := by decide +kernel) (hsz : xs.cps.size ≤ 2 ^ 20 := by decide +kernel)
    (hcell : autoParam (∀ y ∈ scope.names, y.2 ≠ .cell) aD) (hkind : autoParam (scope.kind = .function) aR) (hx : autoParam (scope.names.lookup x = some .local) aR) :
    CompAt prog w A NE env scope cl (.ListComp elt [⟨.Name x px, iter, ifs, 0⟩] scope pos) none Q (.str xs u) (St z h t) := by
  unfold CompAt
  refine wpAny_pyIter_ascii (s := St z h t) hasc ?_
  have X1 := X.push { cls := .type "str_ascii_iterator", data := .fields #[.str xs u, .int 0 0] } (c := .sat (strO xs u 0)) ⟨_, Heap.get?_push_size _ rfl, rfl, rfl⟩
  refine compG (N := xs.cps.size) hh (fun k => .sat (strO xs u k)) (fun k v => ∃ c uc, v = .str ⟨#[c]⟩ uc) J X1 hj hsz ?_ ?_ ?_ ?_ done hcell hkind hx
  · intro k D' C mc objs h t Q E hk X q
    obtain ⟨o, ho, r⟩ := X.obj _ (.head _)
    refine wpAny_pyNext_ascii_item (s := St z h t) (c := xs.cps[k]) ⟨o, ho, r⟩ (by simp [hk]) fun h' hit sb => ?_
    obtain ⟨o', ho', r'⟩ := hit
    exact q h' _ _ ⟨_, _, rfl⟩ (X.set0 (c' := .sat (strO xs u (k + 1))) (fun b o hb e => (sb.2 b hb).trans e) ⟨o', ho', r'⟩ strO_noTup)
  · intro D' C mc objs h t Q E X q
    obtain ⟨o, ho, r⟩ := X.obj _ (.head _)
    exact wpAny_pyNext_ascii_end (s := St z h t) hh ⟨o, ho, r⟩ (by simp) fun h' sb => q h' (X.letGo (fun b o hb e => sb b o hb e) strO_noTup)
  · intro D' C mc objs h t Q E X hm q
    obtain ⟨o, ho, r⟩ := X.obj _ hm
    exact wpAny_pyIter_striter_ascii (s := St z h t) ⟨o, ho, r⟩ q
  · rintro C acc k v ys D' mc objs' h' t' hk ⟨c, uc, rfl⟩ hj X
    exact turn C acc _ k uc c ys D' mc objs' h' t' hk hj X

/-- [.. for x in range(n)] -/
theorem compRg {elt iter : Expr} {x : Str} {px : Pos} {ifs : List Expr} {scope : Scope} {cl : List (Str × Addr)} {pos : Pos} {Q : Value → Shared → Prop} {n : Nat} {r : Addr} {t1 t2 t3 : Tok} (hh : A.handled = none) (hn : n ≤ 1000)
    (J : Nat → List Value → Wd → List (Addr × Cell) → Prop) (X : W prog w h₀ s₀ D env.locals h m objs) (hr : IsRange h r 0 n 1 t1 t2 t3) (hj : J 0 [] D objs)
    (turn : ∀ C acc it k u ys D' mc objs' h' t', k < n → J k ys D' objs' → W prog w h₀ s₀ D' C h' (put x (.int (k : Int) u) mc) ((acc, .lst ys) :: (it, .obj (rgO ((k + 1 : Nat) : Int) ((n : Int) - ((k + 1 : Nat) : Int)))) :: (env.locals, .sat (nsO m)) :: objs') →
      wpAny (model prog w) A (testsOf ifs (compEnvC scope cl C env)) (fun ok s₃ => if ok = true then
          wpAny (model prog w) A (eval elt (compEnvC scope cl C env)) (fun y s₄ => CompTurn prog w A h₀ s₀ C z [(acc, .lst ys), (it, .obj (rgO ((k + 1 : Nat) : Int) ((n : Int) - ((k + 1 : Nat) : Int)))), (env.locals, .sat (nsO m))] (J (k + 1) (ys ++ [y])) s₄) NE s₃
        else CompTurn prog w A h₀ s₀ C z [(acc, .lst ys), (it, .obj (rgO ((k + 1 : Nat) : Int) ((n : Int) - ((k + 1 : Nat) : Int)))), (env.locals, .sat (nsO m))] (J (k + 1) ys) s₃) NE (St z h' t'))
    (done : ∀ acc ys D' objs' h' t', J n ys D' objs' → W prog w h₀ s₀ D' env.locals h' m ((acc, .lst ys) :: objs') → Q (.ref acc) (St z h' t'))
    (hcell : autoParam (∀ y ∈ scope.names, y.2 ≠ .cell) aD) (hkind : autoParam (scope.kind = .function) aR) (hx : autoParam (scope.names.lookup x = some .local) aR) :
    CompAt prog w A NE env scope cl (.ListComp elt [⟨.Name x px, iter, ifs, 0⟩] scope pos) none Q (.ref r) (St z h t) := by
  unfold CompAt
  refine rangeIter hn X hr fun h it X => ?_
  refine compG (N := n) hh (fun k => .obj (rgO (k : Int) ((n : Int) - (k : Int)))) (fun k v => ∃ u, v = .int (k : Int) u) J X hj (by omega) ?_ ?_ ?_ ?_ done hcell hkind hx
  · intro k D' C mc objs h t Q E hk X q
    exact rangeNext X hk fun h' tk u X => q h' tk _ ⟨_, rfl⟩ X
  · intro D' C mc objs h t Q E X q
    exact rangeEnd hh X q
  · intro D' C mc objs h t Q E X hm q
    exact wpAny_pyIter_rangeiter (s := St z h t) (X.obj _ hm) q
  · rintro C acc k v ys D' mc objs' h' t' hk ⟨u, rfl⟩ hj X
    exact turn C acc _ k u ys D' mc objs' h' t' hk hj X

theorem W.eqv {objs' : List (Addr × Cell)} (X : W prog w h₀ s₀ D L h m objs) (e : objs = objs') : W prog w h₀ s₀ D L h m objs' := e ▸ X
theorem noTup_inst {C dx : Addr} : (Cell.obj (instObj C dx)).noTup := fun q => absurd q.1 (by simp [instObj])
theorem noTup_ed : (Cell.obj emptyDict).noTup := fun q => absurd q.1 (by simp [emptyDict])
noncomputable def rwO (ρ : Rho) (o : Obj) : Prop := ∃ es n, o = dictOf es n ∧ es.length ≤ ρ.k ∧ ∀ y, getL y es = some (ρ.f y)
theorem rat_of (X : W prog w h₀ s₀ D L h m objs) (h1 : (ρ.inst, .obj (instObj 513 ρ.dict)) ∈ objs) (h2 : (ρ.dict, .sat (rwO ρ)) ∈ objs) : RAt ρ h := by
  obtain ⟨o, e, es, n, rfl, q⟩ := X.obj _ h2
  exact ⟨X.obj _ h1, es, n, e, q⟩
theorem W.rwSet {x dx : Addr} {post : List (Addr × Cell)} (X : W prog w h₀ s₀ D L h m ((x, .obj (instObj 513 dx)) :: (dx, .obj emptyDict) :: post)) (hρ : RAt ρ h') (k : Keep [x, dx] h h') (e1 : ρ.inst = x) (e2 : ρ.dict = dx) :
    W prog w h₀ s₀ D L h' m ((ρ.inst, .obj (instObj 513 ρ.dict)) :: (ρ.dict, .sat (rwO ρ)) :: post) := by
  subst e1 e2
  obtain ⟨es, n, q1, q2⟩ := hρ.2
  exact X.two (fun y o n1 n2 q => k y o (by simp [n1, n2]) q) hρ.1 ⟨_, q1, es, n, rfl, q2⟩ noTup_inst noTup_ed

/-- the law's first terms -/
noncomputable def B0 (k : Nat) : List Tm := [dummy, ⟨.tru, [], 0, 0⟩, ⟨.fls, [], 0, 0⟩] ++ (List.range k).map fun i => ⟨.app, [], if i < 3 then 0 else 3, i⟩
theorem mk_B0 {k : Nat} (hk : k < 6) : mk (B0 k) ⟨.app, [], if k < 3 then 0 else 3, k⟩ = (3 + k, B0 (k + 1)) := by
  have : ∀ k, k < 6 → mk (B0 k) ⟨.app, [], if k < 3 then 0 else 3, k⟩ = (3 + k, B0 (k + 1)) := by decide
  exact this k hk
theorem B0_len {k : Nat} : (B0 k).length = 3 + k := List.length_append.trans (congrArg (3 + ·) ((List.length_map _).trans List.length_range))

theorem HandOk.keep (x : HandOk prog w η h) (k : ∀ a ∈ η.own, ∀ o, h.get? a = some o → h'.get? a = some o) : HandOk prog w η h' := by
  obtain ⟨sp, st, vs, ⟨u, v, a⟩, b, c, d, e, f⟩ := x
  exact ⟨sp, st, vs, ⟨u, v, Cell.dict_to a fun o q => k _ (.head _) o q⟩, b, c, d.at fun o q => k _ (.tail _ (.head _)) o q, e, f⟩

/-- the law's whole world -/
noncomputable def fullOwn (β : Adr) (η : Hand) (ρ : Rho) (tl th FW : Addr) (ds : List Addr) : List Addr := (β.own ++ η.own) ++ ([ρ.inst, ρ.dict, tl, th] ++ FW :: ds)
theorem ow4 {a : Addr} {l₁ l₂ l₃ : List Addr} (h : a ∈ l₂) : a ∈ l₁ ++ (l₂ ++ l₃) := List.mem_append_right _ (List.mem_append_left _ h)
noncomputable def fullWd (prog : Program) (w : World) (β : Adr) (η : Hand) (ρ : Rho) (tl th FW : Addr) (ds : List Addr) (B : List Tm) : Wd := ⟨fullOwn β η ρ tl th FW ds, fun h => (lawWd prog w β η B).I h ∧ LawAt ρ tl th h ∧ WorldsIs prog w FW ds h,
  fun h h' x g => ⟨(lawWd prog w β η B).stab h h' x.1 fun a o e q => g a o e (q.imp_left fun q => List.mem_append_left _ q),
    ⟨attrs_to x.2.1.r (fun o e => g _ o e (.inl (ow4 (.head _)))) (fun o e => g _ o e (.inl (ow4 (.tail _ (.head _))))), x.2.1.tl.imp fun vs q => ⟨q.1.at fun o e => g _ o e (.inl (ow4 (.tail _ (.tail _ (.head _))))), q.2⟩, x.2.1.th.imp fun vs q => ⟨q.1.at fun o e => g _ o e (.inl (ow4 (.tail _ (.tail _ (.tail _ (.head _)))))), q.2⟩⟩,
    x.2.2.to fun a ha o e => g a o e (.inl (List.mem_append_right _ (List.mem_append_right _ ha)))⟩,
  fun h x a ha => by
    rcases List.mem_append.mp ha with ha | ha
    · exact (lawWd prog w β η B).live h x.1 a ha
    rcases List.mem_append.mp ha with ha | ha
    · exact (fac (p := fun a => h.get? a ≠ none) (fun q => nomatch x.2.1.r.1.symm.trans q) (fac (x.2.1.r.2.elim fun _ q => q.elim fun _ q => fun r => nomatch q.1.symm.trans r) (fac (x.2.1.tl.elim fun _ q => plain_live q.1) (fac (x.2.1.th.elim fun _ q => plain_live q.1) fan)))) a ha
    · rcases List.mem_cons.mp ha with rfl | ha
      · exact plain_live x.2.2.lst
      · obtain ⟨n, hn⟩ := List.getElem?_of_mem ha
        obtain ⟨kvs, ⟨o, _, _, e, _⟩, _⟩ := x.2.2.wat n _ hn
        rw [e]; exact fun q => nomatch q⟩
structure LapOk (w : World) (h₀ : Heap) (β : Adr) (ρ : Rho) (η : Hand) (tl th FW : Addr) (ds : List Addr) : Prop where
  O : LawOk w h₀ β ρ η tl th
  off : ∀ a ∈ FW :: ds, h₀.get? a = none ∧ a ∉ β.own ++ η.own

theorem W.full (O : LapOk w h₀ β ρ η tl th FW ds) (X : W prog w h₀ s₀ (fullWd prog w β η ρ tl th FW ds B) L h m objs) (hI : (lawWd prog w β η B').I h') (k : Keep (β.own ++ η.own) h h') (e : Ext h₀ h') : W prog w h₀ s₀ (fullWd prog w β η ρ tl th FW ds B') L h' m objs :=
  X.call (D' := fullWd prog w β η ρ tl th FW ds B') rfl (k.more fun c hc => List.mem_append_left _ hc) e ⟨hI, X.inv.2.1.keep O.O k, X.inv.2.2.to fun a ha o q => k a o (O.off a ha).2 q⟩
theorem W.fullB (O : LapOk w h₀ β ρ η tl th FW ds) (X : W prog w h₀ s₀ (fullWd prog w β η ρ tl th FW ds B) L h m objs) (hB : BankAt prog w β B' h') (k : Keep β.own h h') (e : Ext h₀ h') : W prog w h₀ s₀ (fullWd prog w β η ρ tl th FW ds B') L h' m objs :=
  X.full O ⟨hB, X.inv.1.2.keep fun a ha o q => k a o (fun hb => O.O.disj a hb ha) q⟩ (k.more fun c hc => List.mem_append_left _ hc) e
end
end Mine

-- Lawq
namespace Mine
theorem ints_len {vs : List Value} {ns : List Int} (x : IntsAre vs ns) : vs.length = ns.length := by
  induction x with
  | nil => rfl
  | cons _ _ _ ih => simp [ih]
/-- the three branches, one after the other -/
noncomputable def brJ (Q : Nat → Nat → Nat → List Tm → Prop) (k : Nat) (ys : List Value) (B : List Tm) : Prop := match k with
  | 0 => ys = [] ∧ branchW 2 B fun a B => branchW 2 B fun b B => branchW 1 B fun c B => Q a b c B
  | 1 => ∃ (a : Nat) (u : Tok), ys = [.int (a : Int) u] ∧ branchW 2 B fun b B => branchW 1 B fun c B => Q a b c B
  | 2 => ∃ (a : Nat) (u : Tok) (b : Nat) (v : Tok), ys = [.int (a : Int) u, .int (b : Int) v] ∧ branchW 1 B fun c B => Q a b c B
  | _ => ∃ (a : Nat) (u : Tok) (b : Nat) (v : Tok) (c : Nat) (x : Tok), ys = [.int (a : Int) u, .int (b : Int) v, .int (c : Int) x] ∧ Q a b c B
theorem branchW_mono : ∀ {d : Nat} {B : List Tm} {K K' : Nat → List Tm → Prop}, branchW d B K → (∀ r B', K r B' → K' r B') → branchW d B K'
  | 0, B, K, K', h, q => fun k hk => q _ _ (h k hk)
  | d + 1, B, K, K', h, q => by
    have run : ∀ {f : BM Nat} {B : List Tm}, runW f B K → runW f B K' := fun ⟨r, B', e, l, h⟩ => ⟨r, B', e, l, q r B' h⟩
    have c0 : ∀ {B : List Tm} {P P' : Nat → List Tm → Prop}, condW0 B P → (∀ r B', P r B' → P' r B') → condW0 B P' := fun h g =>
      ⟨fun k hk => g _ _ (h.1 k hk), fun i j hi hj => let ⟨r, B', e, l, h⟩ := h.2.1 i j hi hj; ⟨r, B', e, l, g _ _ h⟩, fun k hk => let ⟨r, B', e, l, h⟩ := h.2.2 k hk; ⟨r, B', e, l, g _ _ h⟩⟩
    exact ⟨fun k hk => q _ _ (h.1 k hk), c0 h.2 fun c B1 h1 => branchW_mono h1 fun a B2 h2 => branchW_mono h2 fun b B3 h3 => run h3⟩
theorem brJ_step {Q : Nat → Nat → Nat → List Tm → Prop} {k : Nat} {ys : List Value} {B : List Tm} (h : brJ Q k ys B) (hk : k < 3) :
    ∃ dd : Nat, dd ≤ 2 ∧ (2 : Int) - ((k / 2 : Nat) : Int) = (dd : Int) ∧ branchW dd B fun r B' => ∀ u, brJ Q (k + 1) (ys ++ [.int (r : Int) u]) B' := by
  revert h
  refine lt3s (p := fun k => brJ Q k ys B → ∃ dd : Nat, dd ≤ 2 ∧ (2 : Int) - ((k / 2 : Nat) : Int) = (dd : Int) ∧ branchW dd B fun r B' => ∀ u, brJ Q (k + 1) (ys ++ [.int (r : Int) u]) B') ?_ ?_ ?_ hk
  · rintro ⟨rfl, h⟩
    exact ⟨2, by decide, rfl, branchW_mono h fun a B h u => ⟨a, u, rfl, h⟩⟩
  · rintro ⟨a, u, rfl, h⟩
    exact ⟨2, by decide, rfl, branchW_mono h fun b B h v => ⟨a, u, b, v, rfl, h⟩⟩
  · rintro ⟨a, u, b, v, rfl, h⟩
    exact ⟨1, by decide, rfl, branchW_mono h fun c B h x => ⟨a, u, b, v, c, x, rfl, h⟩⟩

structure SetUp (w : World) (h₀ h : Heap) (β : Adr) (ρ : Rho) (L d cl tl th FW : Addr) (ds fs : List Addr) : Prop where
  ok : LapOk w h₀ β ρ ⟨d, cl⟩ tl th FW ds
  dis : ∀ a ∈ L :: fs, a ∉ fullOwn β ⟨d, cl⟩ ρ tl th FW ds
  fnd : fs.Nodup
  fresh : ∀ a ∈ fullOwn β ⟨d, cl⟩ ρ tl th FW ds, h.get? a = none
theorem law_setup {w : World} {h₀ h : Heap} {β : Adr} {ρ : Rho} {L d cl tl th FW : Addr} {ds fs : List Addr} (cf : Cf w h₀ β) (r₀ : RwOk β ρ) (base : Ext h₀ h) (hβ : ∀ a ∈ β.own, h.get? a = none)
    (nd : (L :: ([th, tl, ρ.inst, ρ.dict, d, cl] ++ fs)).Nodup) (fr : ∀ a ∈ L :: ([th, tl, ρ.inst, ρ.dict, d, cl] ++ fs), h.get? a = none ∧ a ∉ β.own) (hF : ∀ a ∈ FW :: ds, h.get? a = none ∧ a ∉ β.own ∧ a ∉ L :: ([th, tl, ρ.inst, ρ.dict, d, cl] ++ fs)) : SetUp w h₀ h β ρ L d cl tl th FW ds fs := by
  have n1 := List.nodup_cons.mp nd
  have n2 := List.nodup_append.mp n1.2
  have six : ∀ {a}, a ∈ [th, tl, ρ.inst, ρ.dict, d, cl] → a ∈ L :: ([th, tl, ρ.inst, ρ.dict, d, cl] ++ fs) := fun h => .tail _ (List.mem_append_left _ h)
  have off : ∀ {a}, a ∈ [th, tl, ρ.inst, ρ.dict, d, cl] → a ∉ [d, cl] → a ∉ β.own ++ Hand.own ⟨d, cl⟩ := fun ha hb q => (List.mem_append.mp q).elim (fr _ (six ha)).2 hb
  have hη : ∀ {a}, a ∈ Hand.own ⟨d, cl⟩ → a ∈ [th, tl, ρ.inst, ρ.dict, d, cl] := fun h => List.mem_append_right [th, tl, ρ.inst, ρ.dict] h
  have h4 : ∀ {a}, a ∈ [ρ.inst, ρ.dict, tl, th] → a ∈ [th, tl, ρ.inst, ρ.dict, d, cl] := fun h => by
    simp only [List.mem_cons, List.not_mem_nil, or_false] at h ⊢
    rcases h with h | h | h | h <;> simp [h]
  have pk : ∀ (is : List Nat), is.Nodup → (is.all fun i => decide (i < 6)) = true → (is.map fun i => [th, tl, ρ.inst, ρ.dict, d, cl].getD i 0).Nodup := fun is h1 h2 => nodup_pick n2.1 is h1 h2
  have LO : LawOk w h₀ β ρ ⟨d, cl⟩ tl th := ⟨cf, r₀, off mm (List.nodup_cons.mp (pk [2, 4, 5] (by decide) rfl)).1, off mm (List.nodup_cons.mp (pk [3, 4, 5] (by decide) rfl)).1,
    fun a ha q => (fr _ (six (hη q))).2 ha, fun a q => base.none (fr _ (six (hη q))).1, off mm (List.nodup_cons.mp (pk [1, 4, 5] (by decide) rfl)).1, off mm (List.nodup_cons.mp (pk [0, 4, 5] (by decide) rfl)).1⟩
  refine ⟨⟨LO, fun a ha => ⟨base.none (hF a ha).1, fun q => (List.mem_append.mp q).elim (hF a ha).2.1 fun q => (hF a ha).2.2 (six (hη q))⟩⟩, fun a ha q => ?_, n2.2.1, fun a q => ?_⟩
  · have hm : a ∈ L :: ([th, tl, ρ.inst, ρ.dict, d, cl] ++ fs) := by
      rcases List.mem_cons.mp ha with p | p
      · exact p ▸ .head _
      · exact .tail _ (List.mem_append_right _ p)
    have n6 : a ∉ [th, tl, ρ.inst, ρ.dict, d, cl] := fun q => by
      rcases List.mem_cons.mp ha with p | p
      · exact n1.1 (p ▸ List.mem_append_left _ q)
      · exact n2.2.2 a q a p rfl
    rcases List.mem_append.mp q with q | q
    · exact (List.mem_append.mp q).elim (fr a hm).2 fun q => n6 (hη q)
    · exact (List.mem_append.mp q).elim (fun q => n6 (h4 q)) fun q => (hF a q).2.2 hm
  · rcases List.mem_append.mp q with q | q
    · exact (List.mem_append.mp q).elim (hβ a) fun q => (fr a (six (hη q))).1
    · exact (List.mem_append.mp q).elim (fun q => (fr a (six (h4 q))).1) fun q => (hF a q).1
end Mine

-- Law
namespace Mine
section
variable {prog : Program} {w : World} {A : Around} {E : Value → Shared → Prop} {z : Shared} {h₀ s₀ h : Heap} {t : Nat} {R : Result → Shared → Prop} {D D' : Wd} {L a it tl th : Addr} {m : Str → Option Value} {objs : List (Addr × Cell)} {env : Env} {η : Hand} {β : Adr} {ρ : Rho} {B B' : List Tm}

set_option maxHeartbeats 8000000 in
theorem law_spec {vs : List Value} {ns : List Int} (g : Gnd w h₀ h) (hr : Room A 60) (hl : h.IsList a vs.toArray) (hi : IntsAre vs ns) (hlen : vs.length ≤ 63) (hR : ∀ h' tk, Ext h h' → R (.ok (.ret (.bool true))) (St z h' tk)) : codeAny (model prog w) A (.call (.ref 577) ⟨[.ref a], []⟩) R (St z h t) := by
  refine enterFC 577 [("script", .ref a)] g hr (fun h₁ L A' tk en hns hcs hr' => ?_)
  have c1 : h₁.IsCell (L + 1) none := hcs "hand" _ rfl
  have c2 : h₁.IsCell (L + 2) none := hcs "bank" _ rfl
  have c3 : h₁.IsCell (L + 3) none := hcs "s" _ rfl
  have c4 : h₁.IsCell (L + 4) none := hcs "rewriter" _ rfl
  have c5 : h₁.IsCell (L + 5) none := hcs "truths" _ rfl
  have c6 : h₁.IsCell (L + 6) none := hcs "things" _ rfl
  have X := W.enterC (prog := prog) noWd g trivial en hns [(L + 1, .sat (cellO none)), (L + 2, .sat (cellO none)), (L + 3, .sat (cellO none)), (L + 4, .sat (cellO none)), (L + 5, .sat (cellO none)), (L + 6, .sat (cellO none))]
    (fac ⟨c1, Nat.lt_add_of_pos_right (by decide)⟩ (fac ⟨c2, Nat.lt_add_of_pos_right (by decide)⟩ (fac ⟨c3, Nat.lt_add_of_pos_right (by decide)⟩ (fac ⟨c4, Nat.lt_add_of_pos_right (by decide)⟩ (fac ⟨c5, Nat.lt_add_of_pos_right (by decide)⟩ (fac ⟨c6, Nat.lt_add_of_pos_right (by decide)⟩ fan)))))) nd6
  clear c1 c2 c3 c4 c5 c6 hcs
  refine sComp [] (sliceUpto (b := 50) (vs := vs) (fun Q' q => nmL X rfl q) X (let ⟨o, e, q⟩ := hl; ⟨o, X.keep a o List.not_mem_nil e, q⟩) (Nat.le_trans hlen (by decide)) fun h' c tk X => ?_)
  have hlen2 : (vs.take 50).length ≤ 50 := List.length_take_le _ _
  refine compSqA (kd := "list_iterator") (vs := vs.take 50) hr'.hh (fun k ys D' objs' => A4 (D' = noWd) (ys.length = k) ((∃ ms, IntsAre ys ms)) (objs' = (c, .lst (vs.take 50)) :: [(L + 1, .sat (cellO none)), (L + 2, .sat (cellO none)), (L + 3, .sat (cellO none)), (L + 4, .sat (cellO none)), (L + 5, .sat (cellO none)), (L + 6, .sat (cellO none))])) X (.inl ⟨rfl, X.obj _ (.head _)⟩) ⟨rfl, rfl, ⟨[], .nil⟩, rfl⟩ (by omega) ?_ ?_ ?_
  · rintro k j ys D' mc C acc it objs' h' Y ⟨rfl, _, _, rfl⟩
    exact .inl ⟨rfl, Y.obj (c, .lst (vs.take 50)) mm⟩
  · rintro C acc it k v ys D' mc objs' h' t' hv ⟨rfl, hk, ⟨ms, hms⟩, rfl⟩ Y hs
    have hv' : v ∈ vs := List.mem_of_mem_take (List.mem_of_getElem? hv)
    obtain ⟨i, u, rfl⟩ := ints_mem hi hv'
    refine testsNil (if1 (opq fun TT hT => ?_))
    refine wpAny_BinOp (Call_ (nmB (Y.gd g.G) (by k_is) boot_abs (callWith_builtin1 (argsS Y (.cons (.loc rfl) .nil) (call_abs_int fun u tk => cInt fun u2 tk => modI (K := 1000003) (by decide) (by decide) fun r tk u3 _ => ?_)))))
    exact hT _ _ ⟨_, _, _, _, _, rfl, Y, rfl, by simp [hk], ⟨_, ints_snoc hms _ _⟩, rfl⟩
  rintro cl ys D' objs' h' t' ⟨rfl, hyl, ⟨ms, hms⟩, rfl⟩ X
  have hG : ∀ {D L h' m objs}, W prog w h₀ h D L h' m objs → Gd w h' := fun X => X.gd g.G
  -- hand, bank
  refine sTup (hs := by kernel_rfl) (hw := by kernel_rfl) (Tuple_ ?_)
  refine args_cons (newDS X fun h' d X => ?_)
  refine pairTrees_cons_walk (cStr fun u tk => ?_)
  refine nmL X rfl ?_
  refine pairTrees_cons_walk (cStr fun u tk => ?_)
  refine cInt fun u0 tk => ?_
  refine pairTrees_cons_walk (cStr fun u tk => ?_)
  refine wpAny_BinOp (wpAny_BinOp (cInt fun u tk => ?_))
  refine Call_ (nmB (hG X) (by k_is) boot_sum (callWith_builtin1 (argsS X (.cons (.loc rfl) .nil) ?_)))
  refine sumL hr'.hh (X.obj (cl, .lst ys) mm) hms fun h' tk u e => ?_
  have X := X.grow e
  refine PySem.P.add_int (cInt fun u tk => modI (K := 1021) (by decide) (by decide) fun st tk u1 hst => pairTrees_nil_walk ?_)
  refine ⟨_, _, _, [("cells", .ref cl), ("spot", .int 0 u0), ("stir", .int (st : Int) u1)], rfl, X, ⟨strKind_is prog w _ _, rfl, strKind_is prog w _ _, rfl, strKind_is prog w _ _, rfl, trivial⟩, fun h' tk X => ?_⟩
  obtain ⟨cd, hcd⟩ : ∃ c : Cell, c = .sat (fun o => o.IsDictOf (strKind prog w) [("cells", .ref cl), ("spot", .int 0 u0), ("stir", .int (st : Int) u1)]) := ⟨_, rfl⟩
  have X := X.eqv (objs' := [(d, cd), (cl, .lst ys), (c, .lst (vs.take 50)), (L + 1, .sat (cellO none)), (L + 2, .sat (cellO none)), (L + 3, .sat (cellO none)), (L + 4, .sat (cellO none)), (L + 5, .sat (cellO none)), (L + 6, .sat (cellO none))]) (by rw [hcd]; rfl)
  refine args_cons (Call_ (nmG (hG X) (by k_is) (cwK0 (hG X) (by k_is) ?_)))
  refine makeI g.G X (n := 58) hr' fun hb x dx A2 X hr2 => ?_
  have hx0 : ∀ {a : Addr} {c : Cell} {D L h' m objs}, W prog w h₀ h D L h' m ((a, c) :: objs) → h.get? a = none := fun X => (X.fresh _ (.tail _ (.head _))).1
  have hx := X.obj _ (.head _)
  have hdx := X.obj _ (.tail _ (.head _))
  have fx := (X.fresh x (.tail _ (.head _))).1
  have fd := (X.fresh dx (.tail _ (.tail _ (.head _)))).1
  refine bank_init_spec (X.gnd g.G) (hr2.less (by decide)) hx hdx (X.base.none fx) (X.base.none fd) fun h' tk β sn sw fn fa fr sns sws M hB k e q1 q2 z1 z2 q3 q4 q5 => ?_
  refine ⟨rfl, ?_⟩
  have hE : Ext h hb := fun b o e => X.keep b o List.not_mem_nil e
  have hOwn : β.own ++ [sn, sw, fn, fa, fr] = [x, dx] ++ [β.ops, β.args, β.sorts, β.datas, β.nums, sn, sw, fn, fa, fr] := by unfold Adr.own; rw [M.inst, M.dict]; rfl
  obtain ⟨α, hα⟩ : ∃ α : Aux, α = ⟨sn, sw, fn, fa, fr⟩ := ⟨_, rfl⟩
  obtain ⟨l0, hl0⟩ : ∃ l : AuxL, l = ⟨sns.toList, sws.toList, [], [], []⟩ := ⟨_, rfl⟩
  have hnew : ∀ a ∈ β.own ++ α.all, a ∈ [x, dx] ∨ hb.get? a = none := by
    rw [hα]
    exact fun a ha => (List.mem_append.mp (hOwn ▸ (show a ∈ β.own ++ [sn, sw, fn, fa, fr] from ha))).imp id (M.fresh a)
  have hfr : ∀ a ∈ β.own ++ α.all, h.get? a = none := fun a ha => (hnew a ha).elim (fun q => (List.mem_cons.mp q).elim (fun q => q ▸ fx) fun q => (List.mem_singleton.mp q) ▸ fd) hE.none
  have hn : ∀ a ∈ α.all, h₀.get? a = none := fun a ha => X.base.none (hfr a (List.mem_append_right _ ha))
  have O : BigOk w h₀ β α := by
    rw [hα] at hn ⊢
    exact ⟨M.cf, M.fsn, M.fsw, M.ffn, M.ffa, M.ffr, M.nd, hn⟩
  have X := X.adopt (pre := [_, _]) k e (bigWd prog w β α [dummy, ⟨.tru, [], 0, 0⟩, ⟨.fls, [], 0, 0⟩] l0) (by rw [hα, hl0]; exact ⟨hB, by simpa using q1, by simpa using q2, q3, q4, q5⟩) (fun a ha => nomatch ha) (fun a ha => .inr (hnew a ha))
  have hl3 : l0.sn.length = 3 := by rw [hl0]; simp [z1]
  have hl4 : l0.sw.length = 3 := by rw [hl0]; simp [z2]
  have hle : l0.fn.length = 0 ∧ l0.fa.length = 0 ∧ l0.fr.length = 0 := by rw [hl0]; exact ⟨rfl, rfl, rfl⟩
  have hi1 := M.inst
  clear hnew k e q1 q2 q3 q4 q5 hx hdx hB hE hn M hOwn hl0 hα fx fd z1 z2
  refine args_nil (newTup X fun h' T X => ?_)
  refine unp hr'.hh X (X.obj _ (.head _)) fun h' X _ => aioCons (wpAny_assign_Name (stC (pre := [_, _, _, _]) X fun h' X => ?_))
  refine aioCons (wpAny_assign_Name (stC (pre := [_, _, _, _, _]) X fun h' X => aioNil ?_))
  simp only [List.cons_append, List.nil_append] at X
  have X := (X.drop.perm (List.perm_middle (l₁ := [_, _]))).drop
  simp only [List.cons_append, List.nil_append] at X
  rw [← hi1] at X
  -- s, rewriter
  refine sTup (hs := by kernel_rfl) (hw := by kernel_rfl) (Tuple_ ?_)
  refine args_cons (MethodCall_ (nmC (c := L + 2) X (.tail _ (.tail _ (.tail _ (.head _)))) ?_))
  refine mB (hG X) cls388 X.inv.1.attrs (O.cf.full.meths _ (by decide)) (args_cons (cStr fun u tk => args_nil ⟨(hG X).K, ?_⟩))
  refine declare_sort_spec O (X.gnd g.G) (hr'.less (by decide)) X.inv (by rw [hl3]; decide) (by rw [hl4]; decide) fun h' tk us l' hI e1 e2 e3 k e => ?_
  have X := X.call (D' := bigWd prog w β α _ l') rfl k e hI
  refine args_cons (cG (g := 513) (hG X) (argsS X (.cons (.cel (L + 2) (.tail _ (.tail _ (.tail _ (.head _))))) .nil) ⟨(hG X).K, ?_⟩))
  refine makeI g.G X (n := 58) hr' fun hb x2 dx2 A3 X hr3 => ?_
  have hx := X.obj _ (.head _)
  have hdx := X.obj _ (.tail _ (.head _))
  have fx2 := X.fresh x2 (.tail _ (.head _))
  have fd2 := X.fresh dx2 (.tail _ (.tail _ (.head _)))
  refine rw_init_spec O.cf (X.gnd g.G) (hr3.less (by decide)) X.inv.1 hx hdx (X.base.none fx2.1) (X.base.none fd2.1) (fun q => fx2.2 (List.mem_append_left _ q)) (fun q => fd2.2 (List.mem_append_left _ q)) fun h' tk ρ er1 er2 r₀ hρ k e => ⟨rfl, ?_⟩
  have X := X.rwSet hρ k er1 er2
  clear hx hdx fx2 fd2
  refine args_nil (newTup X fun h' T2 X => ?_)
  refine unp hr'.hh X (X.obj _ (.head _)) fun h' X _ => aioCons (wpAny_assign_Name (stC (pre := [_, _, _, _, _, _, _]) X fun h' X => ?_))
  refine aioCons (wpAny_assign_Name (stC (pre := [_, _, _, _, _, _, _, _]) X fun h' X => aioNil ?_))
  have X := X.drop
  obtain ⟨F0, hF0, mb, ms⟩ : ∃ F0 : List (Addr × Cell), Mine.A3 (F0 = [(ρ.inst, Cell.obj (instObj 513 ρ.dict)), (ρ.dict, .sat (rwO ρ)), (d, cd), (cl, .lst ys), (L + 1, .sat (cellO (some (.ref d)))), (L + 2, .sat (cellO (some (.ref β.inst)))), (L + 3, .sat (cellO (some (.int 3 us)))), (L + 4, .sat (cellO (some (.ref ρ.inst)))), (L + 5, .sat (cellO none)), (L + 6, .sat (cellO none))]) ((L + 2, Cell.sat (cellO (some (.ref β.inst)))) ∈ F0) ((L + 3, Cell.sat (cellO (some (.int 3 us)))) ∈ F0) := ⟨_, rfl, mn 5, mn 6⟩
  have X : W prog w h₀ h (bigWd prog w β α (B0 0) l') L h' _ F0 := X.eqv (by rw [hF0, hl3, ← er1]; rfl)
  obtain ⟨uB, huB⟩ := hBOOL (w := w)
  -- truths, things
  refine sTup (hs := by kernel_rfl) (hw := by kernel_rfl) (Tuple_ ?_)
  refine args_cons (listComp [("bank", L + 2)] (cStr fun u tk => ?_))
  have three : ("pqr" : Str).cps.size = 3 := by decide
  refine compStr hr'.hh (fun k ys D' objs' => ∃ l', A4 (D' = bigWd prog w β α (B0 k) l') ((l'.fn.length = k ∧ l'.fa.length = k ∧ l'.fr.length = k)) (All2 IsI ys ((List.range k).map (3 + ·))) (F0 = objs')) X ⟨l', rfl, ⟨by rw [e1]; exact hle.1, by rw [e2]; exact hle.2.1, by rw [e3]; exact hle.2.2⟩, .nil, rfl⟩ ?_ ?_
  · rintro C acc it k uc c ys' D' mc objs' h' t' hk ⟨l', rfl, ⟨f1, f2, f3⟩, hys, rfl⟩ Y
    rw [three] at hk
    refine testsNil (if1 (opq fun TT hT => ?_))
    refine MethodCall_ (nmC (c := L + 2) Y (.tail _ (.tail _ (.tail _ mb))) ?_)
    refine mB (hG Y) cls388 Y.inv.1.attrs (O.cf.full.meths _ (by decide)) (args_cons (nmL Y rfl (args_cons (nmG (hG Y) huB (args_nil ⟨(hG Y).K, ?_⟩)))))
    refine fresh_const_spec (so := 0) O (Y.gnd g.G) (hr'.less (by decide)) Y.inv (by rw [B0_len]; exact Nat.le_trans (Nat.add_le_add_left (Nat.le_of_lt hk) 3) (by decide)) (Nat.le_trans (Nat.le_of_eq f1) (Nat.le_trans (Nat.le_of_lt hk) (by decide))) (Nat.le_trans (Nat.le_of_eq f2) (Nat.le_trans (Nat.le_of_lt hk) (by decide))) (Nat.le_trans (Nat.le_of_eq f3) (Nat.le_trans (Nat.le_of_lt hk) (by decide))) fun h' tk u l2 hI q1 q2 q3 kk e => ?_
    have hmk := mk_B0 (k := k) (Nat.lt_of_lt_of_le hk (by decide))
    rw [if_pos hk] at hmk
    rw [f1, hmk] at hI ⊢
    refine hT _ _ ⟨_, _, _, _, _, rfl, Y.call (D' := bigWd prog w β α _ l2) rfl kk e hI, l2, rfl, ⟨q1.trans (congrArg (· + 1) f1), q2.trans (congrArg (· + 1) f2), q3.trans (congrArg (· + 1) f3)⟩, ?_, rfl⟩
    rw [List.range_succ, List.map_append]
    exact hys.snoc ⟨_, rfl⟩
  rintro tl ts D' objs' h' t' ⟨l1, rfl, f1, hts, rfl⟩ X
  rw [three] at X f1 hts
  refine args_cons (listComp [("s", L + 3), ("bank", L + 2)] (cStr fun u tk => ?_))
  have three : ("uvw" : Str).cps.size = 3 := by decide
  refine compStr hr'.hh (fun k ys D' objs' => ∃ l', A4 (D' = bigWd prog w β α (B0 (3 + k)) l') ((l'.fn.length = 3 + k ∧ l'.fa.length = 3 + k ∧ l'.fr.length = 3 + k)) (All2 IsI ys ((List.range k).map (6 + ·))) (objs' = (tl, .lst ts) :: F0)) X ⟨l1, rfl, f1, .nil, rfl⟩ ?_ ?_
  · rintro C acc it k uc c ys' D' mc objs' h' t' hk ⟨l', rfl, ⟨f1, f2, f3⟩, hys, rfl⟩ Y
    rw [three] at hk
    refine testsNil (if1 (opq fun TT hT => ?_))
    refine MethodCall_ (nmC (c := L + 2) Y (.tail _ (.tail _ (.tail _ (.tail _ mb)))) ?_)
    refine mB (hG Y) cls388 Y.inv.1.attrs (O.cf.full.meths _ (by decide)) (argsS Y (.cons (.loc rfl) (.cons (.cel (L + 3) (.tail _ (.tail _ (.tail _ (.tail _ ms))))) .nil)) ⟨(hG Y).K, ?_⟩)
    refine fresh_const_spec (so := 3) O (Y.gnd g.G) (hr'.less (by decide)) Y.inv (by rw [B0_len]; exact Nat.le_trans (Nat.add_le_add_left (Nat.add_le_add_left (Nat.le_of_lt hk) 3) 3) (by decide)) (Nat.le_trans (Nat.le_of_eq f1) (Nat.le_trans (Nat.add_le_add_left (Nat.le_of_lt hk) 3) (by decide))) (Nat.le_trans (Nat.le_of_eq f2) (Nat.le_trans (Nat.add_le_add_left (Nat.le_of_lt hk) 3) (by decide))) (Nat.le_trans (Nat.le_of_eq f3) (Nat.le_trans (Nat.add_le_add_left (Nat.le_of_lt hk) 3) (by decide))) fun h' tk u l2 hI q1 q2 q3 kk e => ?_
    have hmk := mk_B0 (k := 3 + k) (Nat.add_lt_add_left hk 3)
    rw [if_neg (Nat.not_lt.mpr (Nat.le_add_right 3 k))] at hmk
    rw [f1, hmk] at hI ⊢
    refine hT _ _ ⟨_, _, _, _, _, rfl, Y.call (D' := bigWd prog w β α _ l2) rfl kk e hI, l2, rfl, ⟨q1.trans (congrArg (· + 1) f1), q2.trans (congrArg (· + 1) f2), q3.trans (congrArg (· + 1) f3)⟩, ?_, rfl⟩
    rw [List.range_succ, List.map_append]
    exact hys.snoc ⟨_, by show Value.int ((3 + (3 + k) : Nat) : Int) _ = Value.int ((6 + k : Nat) : Int) _; congr 2; exact (Nat.add_assoc 3 3 k).symm⟩
  rintro th us' D' objs' h' t' ⟨l2, rfl, f2, hus, rfl⟩ X
  rw [three] at X f2 hus
  refine args_nil (newTup X fun h' T X => ?_)
  refine unp hr'.hh X (X.obj _ (.head _)) fun h' X _ => ?_
  have X := X.drop
  rw [hF0] at X
  refine aioCons (wpAny_assign_Name (stC (pre := [_, _, _, _, _, _, _, _, _, _]) X fun h' X => ?_))
  refine aioCons (wpAny_assign_Name (stC (pre := [_, _, _, _, _, _, _, _, _, _, _]) X fun h' X => aioNil ?_))
  simp only [List.cons_append, List.nil_append] at X
  obtain ⟨F, hF, m1, m2, m4, m5, m6⟩ : ∃ F : List (Addr × Cell), Mine.A6 (F = [(L + 1, .sat (cellO (some (.ref d)))), (L + 2, .sat (cellO (some (.ref β.inst)))), (L + 3, .sat (cellO (some (.int 3 us)))), (L + 4, .sat (cellO (some (.ref ρ.inst)))), (L + 5, .sat (cellO (some (.ref tl)))), (L + 6, .sat (cellO (some (.ref th))))]) ((L + 1, Cell.sat (cellO (some (.ref d)))) ∈ F) ((L + 2, Cell.sat (cellO (some (.ref β.inst)))) ∈ F) ((L + 4, Cell.sat (cellO (some (.ref ρ.inst)))) ∈ F) ((L + 5, Cell.sat (cellO (some (.ref tl)))) ∈ F) ((L + 6, Cell.sat (cellO (some (.ref th)))) ∈ F) := ⟨_, rfl, mn 0, mn 1, mn 3, mn 4, mn 5⟩
  have X : W prog w h₀ h (bigWd prog w β α base9 l2) L h' _ ((th, .lst us') :: (tl, .lst ts) :: (ρ.inst, .obj (instObj 513 ρ.dict)) :: (ρ.dict, .sat (rwO ρ)) :: (d, cd) :: (cl, .lst ys) :: F) := X.eqv (by rw [hF])
  have tl6 : ∀ {p : Addr × Cell} {a b c d e f : Addr × Cell}, p ∈ F → p ∈ a :: b :: c :: d :: e :: f :: F := fun h => .tail _ (.tail _ (.tail _ (.tail _ (.tail _ (.tail _ h)))))
  -- worlds
  refine sAsg (cG (g := 531) (hG X) (argsS X (.cons (.cel (L + 5) (tl6 m5)) (.cons (.cel (L + 6) (tl6 m6)) .nil)) ⟨(hG X).K, ?_⟩))
  refine worlds_spec (X.gnd g.G) (hr'.less (by decide)) (X.obj (tl, .lst ts) (.tail _ (.head _))) hts (X.obj (th, .lst us') (.head _)) hus fun h' tk FW ds e hnew hnd hWs => ?_
  have hnew0 : ∀ a ∈ FW :: ds, h.get? a = none ∧ a ∉ β.own ∧ a ∉ L :: ([th, tl, ρ.inst, ρ.dict, d, cl] ++ F.map (·.1)) := fun a ha => ⟨(X.old (hnew a ha)).1, fun q => X.inv.1.live a q (hnew a ha), fun q => X.live q (hnew a ha)⟩
  have X := X.grow e
  have SU : SetUp w h₀ h β ρ L d cl tl th FW ds (F.map (·.1)) := law_setup O.cf r₀ X.base (fun a ha => hfr a (List.mem_append_left _ ha)) X.nd (fun a ha => ⟨(X.fresh a ha).1, fun q => (X.fresh a ha).2 (List.mem_append_left _ q)⟩) hnew0
  have LP := SU.ok
  have LO := LP.O
  have hfull := SU.fresh
  have hI : (fullWd prog w β ⟨d, cl⟩ ρ tl th FW ds base9).I h' := ⟨⟨X.inv.1, 0, (st : Int), ys, ⟨u0, u1, Heap.dictOf_iff.mpr (by have q := X.obj (d, cd) mm; rw [hcd] at q; exact q)⟩, by decide, ⟨by omega, hst⟩, X.obj (cl, .lst ys) mm, fun v hv => ints_mem hms hv, by omega⟩, ⟨rat_of X mm (by simp), ⟨ts, X.obj (tl, .lst ts) mm, hts⟩, ⟨us', X.obj (th, .lst us') mm, hus⟩⟩, hWs⟩
  have X := X.switch (fun a ha => hfr a ha) (fullWd prog w β ⟨d, cl⟩ ρ tl th FW ds base9) hI F (fun p hp => tl6 hp) SU.fnd SU.dis
  clear hI SU hnew0
  refine stL X fun h' tk X => ?_
  obtain ⟨Dw, hDw⟩ : ∃ Dw : List Tm → Wd, Dw = fullWd prog w β ⟨d, cl⟩ ρ tl th FW ds := ⟨_, rfl⟩
  rw [← hDw] at X
  have full : ∀ {B B' : List Tm} {L' h' h'' m objs}, W prog w h₀ h (Dw B) L' h' m objs → (lawWd prog w β ⟨d, cl⟩ B').I h'' → Keep (β.own ++ Hand.own ⟨d, cl⟩) h' h'' → Ext h₀ h'' → W prog w h₀ h (Dw B') L' h'' m objs := by rw [hDw]; exact fun X a b c => X.full LP a b c
  have fullB : ∀ {B B' : List Tm} {L' h' h'' m objs}, W prog w h₀ h (Dw B) L' h' m objs → BankAt prog w β B' h'' → Keep β.own h' h'' → Ext h₀ h'' → W prog w h₀ h (Dw B') L' h'' m objs := by rw [hDw]; exact fun X a b c => X.fullB LP a b c
  have invL : ∀ {B : List Tm} {L' h' m objs}, W prog w h₀ h (Dw B) L' h' m objs → (lawWd prog w β ⟨d, cl⟩ B).I h' := by rw [hDw]; exact fun X => X.inv.1
  have invA : ∀ {B : List Tm} {L' h' m objs}, W prog w h₀ h (Dw B) L' h' m objs → LawAt ρ tl th h' := by rw [hDw]; exact fun X => X.inv.2.1
  have wld : ∀ {B : List Tm} {L' h' m objs}, W prog w h₀ h (Dw B) L' h' m objs → WorldsIs prog w FW ds h' := by rw [hDw]; exact fun X => X.inv.2.2
  have bk : ∀ {B : List Tm} {L' h' m objs}, W prog w h₀ h (Dw B) L' h' m objs → BankAt prog w β B h' := fun X => (invL X).1
  have rat : ∀ {B : List Tm} {L' h' m objs}, W prog w h₀ h (Dw B) L' h' m objs → RAt ρ h' := fun X => (invA X).r
  have hown : ∀ {B : List Tm} a, a ∈ (Dw B).own → h.get? a = none := by rw [hDw]; exact fun a ha => hfull a ha
  have wof : ∀ a ∈ FW :: ds, h₀.get? a = none ∧ a ∉ β.own := fun a ha => ⟨(LP.off a ha).1, fun q => (LP.off a ha).2 (List.mem_append_left _ q)⟩
  clear hDw LP hfull
  obtain ⟨G, hG0, hGl, hGf⟩ := law_ok
  -- the laps
  refine sFor (Call_ (nmB (hG X) (by k_is) boot_range (PyProof.Rows.callWith_type1 (args_cons (cInt fun u tk => args_nil (rangeNew (n := 2) X fun h' r tk t1 t2 t3 X hr => rangeIter (by decide) X hr fun h' it X => ?_))))))
  refine loopRg (n := 2) hr'.hh (fun k D m objs => ∃ B, A4 (D = Dw B) (G k B) (F = objs) (m "worlds" = some (.ref FW))) X ⟨base9, rfl, hG0, rfl, rfl⟩ ?_ ?_
  · rintro n0 u D m objs h' t' hk ⟨B, rfl, hGB, rfl, mw⟩ X
    refine opq ?_
    intro TT hT
    obtain ⟨hs0, hlap⟩ := hGl n0 B hk hGB
    have mw : (put "lap" (.int (n0 : Int) u) m) "worlds" = some (.ref FW) := mw
    -- c
    refine sAsg (cG (g := 543) (hG X) (args_cons (nmC (c := L + 1) X (.tail _ m1) (args_cons (nmC (c := L + 4) X (.tail _ m4) (args_cons (nmC (c := L + 5) X (.tail _ m5) (args_cons (nmC (c := L + 6) X (.tail _ m6) (args_cons (cInt fun u tk => args_nil ⟨(hG X).K, ?_⟩)))))))))))
    refine condition1_spec LO _ _ _ _ _ _ _ B (hr'.less (by decide)) (X.gnd g.G) (invL X) (invA X) hlap hs0 fun h' tk uc c B1 hK1 hs1 hI1 k1 e1 => ?_
    have X := full X hI1 k1 e1
    refine stL X fun h' tk X => ?_
    -- one, other, third
    refine sTup (listComp [("truths", L + 5), ("things", L + 6), ("rewriter", L + 4), ("hand", L + 1)] (Call_ (nmB (hG X) (by k_is) boot_range (PyProof.Rows.callWith_type1 (args_cons (cInt fun u tk => args_nil (rangeNew (n := 3) X fun h' r tk t1 t2 t3 X hr => ?_)))))))
    obtain ⟨Q3, hQ3⟩ : ∃ Q3 : Nat → Nat → Nat → List Tm → Prop, Q3 = fun one other third B4 => rightW B4 c one other fun B5 =>
      E6 fun t B6 r1 B7 r2 B8 => A11 (chosenM c one other B5 = some (t, B6)) (chosenM c t third B6 = some (r1, B7)) (chosenM c one third B7 = some (r1, B7)) (chosenM c third t B7 = some (r2, B8)) (chosenM c third other B8 = some (r2, B8)) (chosenM 1 one other B8 = some (one, B8)) (chosenM 2 one other B8 = some (other, B8)) (B6.length ≤ 2 ^ 23) (B7.length ≤ 2 ^ 23) (B8.length ≤ 2 ^ 23) (claimW 1 B8 fun x B9 => claimW 1 B9 fun y B10 => rightW B10 c x y (G (n0 + 1))) := ⟨_, rfl⟩
    have hJ0 : brJ Q3 0 [] B1 := ⟨rfl, by rw [hQ3]; exact hK1⟩
    refine compRg (n := 3) hr'.hh (by decide) (fun k ys D' objs' => ∃ B, A4 (D' = Dw B) (B.length ≤ 2 ^ 23) (brJ Q3 k ys B) (objs' = (it, .obj (rgO ((n0 + 1 : Nat) : Int) (((2 : Nat) : Int) - ((n0 + 1 : Nat) : Int)))) :: F)) X hr ⟨B1, rfl, hs1, hJ0, rfl⟩ ?_ ?_
    · rintro C acc it2 k u ys' D' mc objs' h' t' hk ⟨B', rfl, hB', hj, rfl⟩ Y
      obtain ⟨dd, hdd, edd, hw⟩ := brJ_step hj hk
      refine testsNil (if1 (opq fun TT hT => ?_))
      refine cG (g := 550) (hG Y) (args_cons (nmC (c := L + 1) Y (.tail _ (.tail _ (.tail _ (.tail _ m1)))) (args_cons (nmC (c := L + 4) Y (.tail _ (.tail _ (.tail _ (.tail _ m4)))) (args_cons (nmC (c := L + 5) Y (.tail _ (.tail _ (.tail _ (.tail _ m5)))) (args_cons (nmC (c := L + 6) Y (.tail _ (.tail _ (.tail _ (.tail _ m6)))) (args_cons ?_)))))))))
      refine wpAny_BinOp (cInt fun u2 tk => wpAny_BinOp (nmL Y rfl (cInt fun u3 tk => divN (b := 2) (by decide) (by decide) fun tk u4 => PySem.P.sub_int (s := St z _ _) ?_)))
      rw [edd]
      refine args_nil ⟨(hG Y).K, ?_⟩
      refine branch_spec LO dd _ _ _ _ _ (fun r B'' => ∀ u, brJ Q3 (k + 1) (ys' ++ [.int (r : Int) u]) B'') _ B' (hr'.less (by omega)) (Y.gnd g.G) (invL Y) (invA Y) hw hB' fun h' tk ur r B'' hK hs hI kk e => ?_
      exact hT _ _ ⟨_, _, _, _, _, rfl, full Y hI kk e, B'', rfl, hs, hK ur, rfl⟩
    rintro acc ys' D' objs' h' t' ⟨B4, rfl, hs4, ⟨one, uo, other, ut, third, uh, rfl, hQ⟩, rfl⟩ X
    rw [hQ3] at hQ
    refine unpLs hr'.hh X (X.obj _ (.head _)) fun h' X _ => aioCons (wpAny_assign_Name (stL X fun h' tk X => aioCons (wpAny_assign_Name (stL X fun h' tk X => aioCons (wpAny_assign_Name (stL X fun h' tk X => aioNil ?_))))))
    have X := X.drop
    -- the first reading
    refine sIf (isTrue_not (isTrue_plain (cG (g := 567) (hG X) (args_cons (nmC (c := L + 2) X (.tail _ m2) (args_cons (nmC (c := L + 4) X (.tail _ m4) (args_cons (nmL (x := "worlds") X mw (argsS X (.cons (.loc rfl) (.cons (.loc rfl) (.cons (.loc rfl) .nil))) ⟨(hG X).K, ?_⟩))))))))))
    refine chosen_right_spec O.cf r₀ (rat X) (X.gnd g.G) (hr'.less (by decide)) (bk X) (wld X) wof hQ fun h' tk B5 hK hs5 hB5 kk e => wpAny_truthy_bool ?_
    obtain ⟨tt, B6, r1, B7, r2, B8, e6, e7, e7', e8, e8', ey, en, hs6, hs7, hs8, hcl⟩ := hK
    have X := fullB X hB5 kk e
    rw [Bool.not_true, if_neg Bool.false_ne_true]
    -- t
    refine sNx (sAsg (MethodCall_ (nmC (c := L + 4) X (.tail _ m4) (mB (hG X) cls513 (rat X) (r₀.meths _ (by decide)) (argsS X (.cons (.loc rfl) (.cons (.loc rfl) (.cons (.loc rfl) .nil))) ⟨(hG X).K, ?_⟩)))))
    refine chosen_spec O.cf r₀ (rat X) (X.gnd g.G) (hr'.less (by decide)) (bk X) e6 hs6 fun h' tk ux hB kk e => ?_
    have X := fullB X hB kk e
    refine stL X fun h' tk X => ?_
    -- again, first
    refine sIf (wpAny_isTrue_Compare1 (MethodCall_ (nmC (c := L + 4) X (.tail _ m4) (mB (hG X) cls513 (rat X) (r₀.meths _ (by decide)) (argsS X (.cons (.loc rfl) (.cons (.loc rfl) (.cons (.loc rfl) .nil))) ⟨(hG X).K, ?_⟩)))))
    refine chosen_spec O.cf r₀ (rat X) (X.gnd g.G) (hr'.less (by decide)) (bk X) e7 hs7 fun h' tk ux hB kk e => ?_
    have X := fullB X hB kk e
    refine MethodCall_ (nmC (c := L + 4) X (.tail _ m4) (mB (hG X) cls513 (rat X) (r₀.meths _ (by decide)) (argsS X (.cons (.loc rfl) (.cons (.loc rfl) (.cons (.loc rfl) .nil))) ⟨(hG X).K, ?_⟩)))
    refine chosen_spec O.cf r₀ (rat X) (X.gnd g.G) (hr'.less (by decide)) (bk X) e7' hs7 fun h' tk ux hB kk e => neN (wpAny_truthy_bool ?_)
    have X := fullB X hB kk e
    refine ifF (by simp) ?_
    -- again, second
    refine sNx (sIf (wpAny_isTrue_Compare1 (MethodCall_ (nmC (c := L + 4) X (.tail _ m4) (mB (hG X) cls513 (rat X) (r₀.meths _ (by decide)) (argsS X (.cons (.loc rfl) (.cons (.loc rfl) (.cons (.loc rfl) .nil))) ⟨(hG X).K, ?_⟩))))))
    refine chosen_spec O.cf r₀ (rat X) (X.gnd g.G) (hr'.less (by decide)) (bk X) e8 hs8 fun h' tk ux hB kk e => ?_
    have X := fullB X hB kk e
    refine MethodCall_ (nmC (c := L + 4) X (.tail _ m4) (mB (hG X) cls513 (rat X) (r₀.meths _ (by decide)) (argsS X (.cons (.loc rfl) (.cons (.loc rfl) (.cons (.loc rfl) .nil))) ⟨(hG X).K, ?_⟩)))
    refine chosen_spec O.cf r₀ (rat X) (X.gnd g.G) (hr'.less (by decide)) (bk X) e8' hs8 fun h' tk ux hB kk e => neN (wpAny_truthy_bool ?_)
    have X := fullB X hB kk e
    refine ifF (by simp) ?_
    -- yes, no
    obtain ⟨uy, hy⟩ := r₀.yes
    obtain ⟨uq, hq⟩ := r₀.no
    refine sNx (sIf (orT (wpAny_isTrue_Compare1 (MethodCall_ (nmC (c := L + 4) X (.tail _ m4) (mB (hG X) cls513 (rat X) (r₀.meths _ (by decide)) (args_cons (Attribute_any_ (nmC (c := L + 4) X (.tail _ m4) (getA (hG X) cls513 (rat X) hy (by k_is) rfl fun tk => argsS X (.cons (.loc rfl) (.cons (.loc rfl) .nil)) ⟨(hG X).K, ?_⟩))))))))))
    refine chosen_spec O.cf r₀ (rat X) (X.gnd g.G) (hr'.less (by decide)) (bk X) ey hs8 fun h' tk ux hB kk e => ?_
    have X := fullB X hB kk e
    refine nmL X rfl (neN (wpAny_truthy_bool ?_))
    refine ifF (by simp) ?_
    refine wpAny_isTrue_Compare1 (MethodCall_ (nmC (c := L + 4) X (.tail _ m4) (mB (hG X) cls513 (rat X) (r₀.meths _ (by decide)) (args_cons (Attribute_any_ (nmC (c := L + 4) X (.tail _ m4) (getA (hG X) cls513 (rat X) hq (by k_is) rfl fun tk => argsS X (.cons (.loc rfl) (.cons (.loc rfl) .nil)) ⟨(hG X).K, ?_⟩)))))))
    refine chosen_spec O.cf r₀ (rat X) (X.gnd g.G) (hr'.less (by decide)) (bk X) en hs8 fun h' tk ux hB kk e => ?_
    have X := fullB X hB kk e
    refine nmL X rfl (neN (wpAny_truthy_bool ?_))
    refine ifF (by simp) ?_
    -- x
    refine sNx (sAsg (cG (g := 557) (hG X) (args_cons (nmC (c := L + 1) X (.tail _ m1) (args_cons (nmC (c := L + 4) X (.tail _ m4) (args_cons (nmC (c := L + 5) X (.tail _ m5) (args_cons (nmC (c := L + 6) X (.tail _ m6) (args_cons (cInt fun u tk => args_nil ⟨(hG X).K, ?_⟩))))))))))))
    refine claim_spec LO 1 _ _ _ _ _ _ _ B8 (hr'.less (by decide)) (X.gnd g.G) (invL X) (invA X) hcl hs8 fun h' tk ux x B9 hK9 hs9 hI9 kk e => ?_
    have X := full X hI9 kk e
    refine stL X fun h' tk X => ?_
    -- the second reading
    refine sIf (isTrue_not (isTrue_plain (cG (g := 567) (hG X) (args_cons (nmC (c := L + 2) X (.tail _ m2) (args_cons (nmC (c := L + 4) X (.tail _ m4) (args_cons (nmL (x := "worlds") X mw (args_cons (nmL X rfl (args_cons (nmL X rfl (args_cons ?_))))))))))))))
    refine cG (g := 557) (hG X) (args_cons (nmC (c := L + 1) X (.tail _ m1) (args_cons (nmC (c := L + 4) X (.tail _ m4) (args_cons (nmC (c := L + 5) X (.tail _ m5) (args_cons (nmC (c := L + 6) X (.tail _ m6) (args_cons (cInt fun u tk => args_nil ⟨(hG X).K, ?_⟩))))))))))
    refine claim_spec LO 1 _ _ _ _ _ _ _ B9 (hr'.less (by decide)) (X.gnd g.G) (invL X) (invA X) hK9 hs9 fun h' tk uy y B10 hK10 hs10 hI10 kk e => ?_
    have X := full X hI10 kk e
    refine args_nil ⟨(hG X).K, ?_⟩
    refine chosen_right_spec O.cf r₀ (rat X) (X.gnd g.G) (hr'.less (by decide)) (bk X) (wld X) wof hK10 fun h' tk B11 hK hs11 hB11 kk e => wpAny_truthy_bool ?_
    have X := fullB X hB11 kk e
    rw [Bool.not_true, if_neg Bool.false_ne_true]
    exact sNx (sNil (hT _ _ ⟨_, _, _, _, _, rfl, X, B11, rfl, hK, rfl, mw⟩))
  · rintro D m objs h' t' ⟨B, rfl, hGB, rfl, mw⟩ X
    obtain ⟨hs0, hf⟩ := hGf B hGB
    have ltl : ∀ {B : List Tm} {L h' m objs}, W prog w h₀ h (Dw B) L h' m objs → ∃ vs : List Value, h'.PlainList tl vs.toArray ∧ All2 IsI vs [3, 4, 5] := fun X => (invA X).tl
    have lth : ∀ {B : List Tm} {L h' m objs}, W prog w h₀ h (Dw B) L h' m objs → ∃ vs : List Value, h'.PlainList th vs.toArray ∧ All2 IsI vs [6, 7, 8] := fun X => (invA X).th
    refine sRet (BoolOp_and (cG (g := 572) (hG X) (args_cons (nmC (c := L + 4) X m4 (args_cons (Subscript_ (nmC (c := L + 5) X m5 (cInt fun u tk => ?_))))))))
    obtain ⟨vs1, hl1, hv1⟩ := ltl X
    obtain ⟨up, hp⟩ := lt3 (b := 3) (l := []) hv1 (r := 0) (by decide)
    refine itL (i := 0) hl1 hp (by rw [hv1.len]; decide) (args_nil ⟨(hG X).K, ?_⟩)
    refine single_right_spec (p := 3) O.cf r₀ (rat X) (X.gnd g.G) (hr'.less (by decide)) (bk X) hf fun h' tk B1 hK hB kk e => wpAny_truthy_bool ?_
    obtain ⟨ee, B2, hm, hs1, hs2, hsw⟩ := hK
    have X := fullB X hB kk e
    rw [if_pos rfl]
    refine BoolOp_one (cG (g := 572) (hG X) (args_cons (nmC (c := L + 4) X m4 (args_cons (MethodCall_ (nmC (c := L + 2) X m2 (mB (hG X) cls388 (bk X).attrs (O.cf.full.meths _ (by decide)) (args_cons ?_))))))))
    refine Subscript_ (nmC (c := L + 6) X m6 (cInt fun u tk => ?_))
    obtain ⟨vs2, hl2, hv2⟩ := lth X
    obtain ⟨uq1, hp1⟩ := lt3 (b := 6) (l := []) hv2 (r := 0) (by decide)
    obtain ⟨uq2, hp2⟩ := lt3 (b := 6) (l := []) hv2 (r := 1) (by decide)
    refine itL (i := 0) hl2 hp1 (by rw [hv2.len]; decide) (args_cons (Subscript_ (nmC (c := L + 6) X m6 (cInt fun u tk => itL (i := 1) hl2 hp2 (by rw [hv2.len]; decide) (args_nil ⟨(hG X).K, ?_⟩)))))
    refine eq_spec (a := 6) (b := 7) O.cf (X.gnd g.G) (hr'.less (by decide)) (bk X) hm hs1 fun h' tk ue hB kk e => ?_
    have X := fullB X hB kk e
    refine args_nil ⟨(hG X).K, ?_⟩
    refine single_right_spec (p := ee) O.cf r₀ (rat X) (X.gnd g.G) (hr'.less (by decide)) (bk X) hsw fun h' tk B3 hK hB kk e => ?_
    have X := fullB X hB kk e
    exact hR _ _ fun b o q => X.keep b o (fun hb => by rw [hown b hb] at q; cases q) q
end
end Mine

-- Fin
set_option Elab.async false
set_option tactic.hygienic true
namespace Mine
theorem hd.tw1903866087469309809 : True := ⟨⟩
theorem hd.tw10012880186880212623 : True := ⟨⟩
theorem hd.tw10024716035694756283 : True := ⟨⟩
theorem hd.tw10030107230732127627 : True := ⟨⟩
theorem hd.tw100483095206116625 : True := ⟨⟩
theorem hd.tw1005483496087919985 : True := ⟨⟩
theorem hd.tw10098268173465320503 : True := ⟨⟩
theorem hd.tw10111801491309104144 : True := ⟨⟩
theorem hd.tw1011335219593555734 : True := ⟨⟩
theorem hd.tw10117440562283002822 : True := ⟨⟩
theorem hd.tw1013155817946168525 : True := ⟨⟩
theorem hd.tw10170382586518783626 : True := ⟨⟩
theorem hd.tw10203026625882799534 : True := ⟨⟩
theorem hd.tw10216474801634566288 : True := ⟨⟩
theorem hd.tw10246146449241189800 : True := ⟨⟩
theorem hd.tw10258999931320997221 : True := ⟨⟩
theorem hd.tw10264135568141901301 : True := ⟨⟩
theorem hd.tw10292235466723388172 : True := ⟨⟩
theorem hd.tw1033889070964956483 : True := ⟨⟩
theorem hd.tw10372647164774476419 : True := ⟨⟩
theorem hd.tw10404513684093684653 : True := ⟨⟩
theorem hd.tw10424393626065333798 : True := ⟨⟩
theorem hd.tw1043307727769730188 : True := ⟨⟩
theorem hd.tw10458740792067480800 : True := ⟨⟩
theorem hd.tw10465514089279642386 : True := ⟨⟩
theorem hd.tw10491609206876299696 : True := ⟨⟩
theorem hd.tw10507497572311344420 : True := ⟨⟩
theorem hd.tw1051681510052472703 : True := ⟨⟩
theorem hd.tw10525666975642140466 : True := ⟨⟩
theorem hd.tw10543509907540572799 : True := ⟨⟩
theorem hd.tw10583446816852156582 : True := ⟨⟩
theorem hd.tw10601615944963115059 : True := ⟨⟩
theorem hd.tw10614716105012338702 : True := ⟨⟩
theorem hd.tw10678649693572172417 : True := ⟨⟩
theorem hd.tw10738003575532504788 : True := ⟨⟩
theorem hd.tw10743916045514856203 : True := ⟨⟩
theorem hd.tw10752148897807903841 : True := ⟨⟩
theorem hd.tw10778013660560245624 : True := ⟨⟩
theorem hd.tw10784824025267889561 : True := ⟨⟩
theorem hd.tw10788059911547816233 : True := ⟨⟩
theorem hd.tw10792051664901133789 : True := ⟨⟩
theorem hd.tw10806950440038215891 : True := ⟨⟩
theorem hd.tw10844753989422098599 : True := ⟨⟩
theorem hd.tw10860895700388868024 : True := ⟨⟩
theorem hd.tw10879034167726328663 : True := ⟨⟩
theorem hd.tw1088296927520436173 : True := ⟨⟩
theorem hd.tw10905682514733158466 : True := ⟨⟩
theorem hd.tw10919297434634762262 : True := ⟨⟩
theorem hd.tw10949625832625181284 : True := ⟨⟩
theorem hd.tw1097998534492414930 : True := ⟨⟩
theorem hd.tw11011131195910976488 : True := ⟨⟩
theorem hd.tw11032806212648032379 : True := ⟨⟩
theorem hd.tw11034497122203965937 : True := ⟨⟩
theorem hd.tw11079593142295127227 : True := ⟨⟩
theorem hd.tw11115866451450875312 : True := ⟨⟩
theorem hd.tw11117797201346649052 : True := ⟨⟩
theorem hd.tw11128854368766332075 : True := ⟨⟩
theorem hd.tw11151547217846952531 : True := ⟨⟩
theorem hd.tw11162318198679636149 : True := ⟨⟩
theorem hd.tw1118553966540926140 : True := ⟨⟩
theorem hd.tw11213053971927718326 : True := ⟨⟩
theorem hd.tw11232374478483605306 : True := ⟨⟩
theorem hd.tw11251137523995926341 : True := ⟨⟩
theorem hd.tw11256106856564762260 : True := ⟨⟩
theorem hd.tw11283319371284918911 : True := ⟨⟩
theorem hd.tw1129884963351977449 : True := ⟨⟩
theorem hd.tw11319097763535126812 : True := ⟨⟩
theorem hd.tw11319892378374348655 : True := ⟨⟩
theorem hd.tw11364443708160879001 : True := ⟨⟩
theorem hd.tw11389486352061984695 : True := ⟨⟩
theorem hd.tw11399449904127653305 : True := ⟨⟩
theorem hd.tw11402939732021071671 : True := ⟨⟩
theorem hd.tw11465210709893060100 : True := ⟨⟩
theorem hd.tw1147470481896660410 : True := ⟨⟩
theorem hd.tw11507959949525687343 : True := ⟨⟩
theorem hd.tw11587034568685482758 : True := ⟨⟩
theorem hd.tw11660266114150955751 : True := ⟨⟩
theorem hd.tw11663481321943121269 : True := ⟨⟩
theorem hd.tw11672842613191775419 : True := ⟨⟩
theorem hd.tw11709330566771433103 : True := ⟨⟩
theorem hd.tw11713075325732132258 : True := ⟨⟩
theorem hd.tw11754176132448286083 : True := ⟨⟩
theorem hd.tw11778180911958503814 : True := ⟨⟩
theorem hd.tw11801993109049149486 : True := ⟨⟩
theorem hd.tw11814627755841444246 : True := ⟨⟩
theorem hd.tw11852641145169952659 : True := ⟨⟩
theorem hd.tw11893437276241958245 : True := ⟨⟩
theorem hd.tw11905163887095721015 : True := ⟨⟩
theorem hd.tw11912922877643110818 : True := ⟨⟩
theorem hd.tw11917015161858427179 : True := ⟨⟩
theorem hd.tw1194904439430580092 : True := ⟨⟩
theorem hd.tw11953376511379268794 : True := ⟨⟩
theorem hd.tw1197925565968671727 : True := ⟨⟩
theorem hd.tw12050417470231563642 : True := ⟨⟩
theorem hd.tw12058812876911547015 : True := ⟨⟩
theorem hd.tw12070051907170230399 : True := ⟨⟩
theorem hd.tw12070654863422294720 : True := ⟨⟩
theorem hd.tw1208734638264122097 : True := ⟨⟩
theorem hd.tw12092154237167983948 : True := ⟨⟩
theorem hd.tw12112201142124510154 : True := ⟨⟩
theorem hd.tw12113243949977362033 : True := ⟨⟩
theorem hd.tw12127338746724423809 : True := ⟨⟩
theorem hd.tw12131494931117144662 : True := ⟨⟩
theorem hd.tw1222794163293265305 : True := ⟨⟩
theorem hd.tw12239354291974867115 : True := ⟨⟩
theorem hd.tw12268275109542032366 : True := ⟨⟩
theorem hd.tw12271959270614036898 : True := ⟨⟩
theorem hd.tw12337632362937886050 : True := ⟨⟩
theorem hd.tw12350410155528471161 : True := ⟨⟩
theorem hd.tw12364972598781006883 : True := ⟨⟩
theorem hd.tw12393119488966705847 : True := ⟨⟩
theorem hd.tw12394076208661396346 : True := ⟨⟩
theorem hd.tw12399718760709695909 : True := ⟨⟩
theorem hd.tw1241404454085649124 : True := ⟨⟩
theorem hd.tw12414669353804360901 : True := ⟨⟩
theorem hd.tw12459740579856956213 : True := ⟨⟩
theorem hd.tw12509009523430927325 : True := ⟨⟩
theorem hd.tw12521463284412890351 : True := ⟨⟩
theorem hd.tw12590977762386282803 : True := ⟨⟩
theorem hd.tw12591134339009171964 : True := ⟨⟩
theorem hd.tw12602439190401603521 : True := ⟨⟩
theorem hd.tw12611767792052310623 : True := ⟨⟩
theorem hd.tw12629568148972539762 : True := ⟨⟩
theorem hd.tw12631932088317031055 : True := ⟨⟩
theorem hd.tw12647368939536790636 : True := ⟨⟩
theorem hd.tw12659318050587179527 : True := ⟨⟩
theorem hd.tw12685813987229840507 : True := ⟨⟩
theorem hd.tw12769127236821124696 : True := ⟨⟩
theorem hd.tw12832683148521936107 : True := ⟨⟩
theorem hd.tw128412058910260475 : True := ⟨⟩
theorem hd.tw12861998865439983172 : True := ⟨⟩
theorem hd.tw12870888531099404533 : True := ⟨⟩
theorem hd.tw12900700647772717614 : True := ⟨⟩
theorem hd.tw12901994302517312135 : True := ⟨⟩
theorem hd.tw12936449754285732098 : True := ⟨⟩
theorem hd.tw12952509933414984302 : True := ⟨⟩
theorem hd.tw1299046323782801668 : True := ⟨⟩
theorem hd.tw12994019391074448376 : True := ⟨⟩
theorem hd.tw13038990169509382042 : True := ⟨⟩
theorem hd.tw13066319289922817542 : True := ⟨⟩
theorem hd.tw13092906067662860646 : True := ⟨⟩
theorem hd.tw13122850982685727845 : True := ⟨⟩
theorem hd.tw13132618709999183898 : True := ⟨⟩
theorem hd.tw13160604113216922460 : True := ⟨⟩
theorem hd.tw13171141561276507362 : True := ⟨⟩
theorem hd.tw13197156393542211057 : True := ⟨⟩
theorem hd.tw13217225542625558698 : True := ⟨⟩
theorem hd.tw13218659294841961345 : True := ⟨⟩
theorem hd.tw13225837485096350037 : True := ⟨⟩
theorem hd.tw13262116225945230012 : True := ⟨⟩
theorem hd.tw13267510147771200024 : True := ⟨⟩
theorem hd.tw13277076834127875243 : True := ⟨⟩
theorem hd.tw13280443560766958183 : True := ⟨⟩
theorem hd.tw13285133528070534704 : True := ⟨⟩
theorem hd.tw13315533130655954831 : True := ⟨⟩
theorem hd.tw13321331477185743149 : True := ⟨⟩
theorem hd.tw13322179722446271537 : True := ⟨⟩
theorem hd.tw13342606739435360313 : True := ⟨⟩
theorem hd.tw13363553139645760527 : True := ⟨⟩
theorem hd.tw13365295217650922812 : True := ⟨⟩
theorem hd.tw13368278939475635651 : True := ⟨⟩
theorem hd.tw13372043803930879067 : True := ⟨⟩
theorem hd.tw13409441903868389331 : True := ⟨⟩
theorem hd.tw13431754692932380062 : True := ⟨⟩
theorem hd.tw13466754112058979494 : True := ⟨⟩
theorem hd.tw13474097485772985973 : True := ⟨⟩
theorem hd.tw13518370688599389936 : True := ⟨⟩
theorem hd.tw13531707123254989501 : True := ⟨⟩
theorem hd.tw13532847315355080253 : True := ⟨⟩
theorem hd.tw13566260322249332789 : True := ⟨⟩
theorem hd.tw1359830224848277088 : True := ⟨⟩
theorem hd.tw13609717118414637909 : True := ⟨⟩
theorem hd.tw13638418597567726942 : True := ⟨⟩
theorem hd.tw13642289790063256904 : True := ⟨⟩
theorem hd.tw13770079208771991547 : True := ⟨⟩
theorem hd.tw13783031573616600631 : True := ⟨⟩
theorem hd.tw13790719812936386609 : True := ⟨⟩
theorem hd.tw1379335367625716243 : True := ⟨⟩
theorem hd.tw13828106393651249627 : True := ⟨⟩
theorem hd.tw1382963296337349011 : True := ⟨⟩
theorem hd.tw13855881374063213867 : True := ⟨⟩
theorem hd.tw13866372431405929976 : True := ⟨⟩
theorem hd.tw13893168526513508166 : True := ⟨⟩
theorem hd.tw13903934854276604550 : True := ⟨⟩
theorem hd.tw13919464512627920130 : True := ⟨⟩
theorem hd.tw13929354066492186541 : True := ⟨⟩
theorem hd.tw14006173549557618073 : True := ⟨⟩
theorem hd.tw14032303710251760311 : True := ⟨⟩
theorem hd.tw14040608126747316905 : True := ⟨⟩
theorem hd.tw14060154772996877548 : True := ⟨⟩
theorem hd.tw14060237666301923597 : True := ⟨⟩
theorem hd.tw1409312971732116557 : True := ⟨⟩
theorem hd.tw14103535550066685397 : True := ⟨⟩
theorem hd.tw14120982254508448379 : True := ⟨⟩
theorem hd.tw1413172679324656950 : True := ⟨⟩
theorem hd.tw14137390275340422267 : True := ⟨⟩
theorem hd.tw14168552714766633299 : True := ⟨⟩
theorem hd.tw14225386564829687435 : True := ⟨⟩
theorem hd.tw14246236162039180721 : True := ⟨⟩
theorem hd.tw1425423193147277237 : True := ⟨⟩
theorem hd.tw14294001040229213422 : True := ⟨⟩
theorem hd.tw14353793391729792155 : True := ⟨⟩
theorem hd.tw1439246655266547700 : True := ⟨⟩
theorem hd.tw14400467628812073631 : True := ⟨⟩
theorem hd.tw14438451200097066615 : True := ⟨⟩
theorem hd.tw14439243815434019604 : True := ⟨⟩
theorem hd.tw14454395111910616485 : True := ⟨⟩
theorem hd.tw14457593812595234344 : True := ⟨⟩
theorem hd.tw14462709497994964445 : True := ⟨⟩
theorem hd.tw14478148883734587675 : True := ⟨⟩
theorem hd.tw14492701947808656938 : True := ⟨⟩
theorem hd.tw1452849714261714991 : True := ⟨⟩
theorem hd.tw14553816603554493358 : True := ⟨⟩
theorem hd.tw14560493823538711346 : True := ⟨⟩
theorem hd.tw14598272352848978880 : True := ⟨⟩
theorem hd.tw14612060388864693735 : True := ⟨⟩
theorem hd.tw14685462170515437407 : True := ⟨⟩
theorem hd.tw14705683404202351889 : True := ⟨⟩
theorem hd.tw14727110085682223627 : True := ⟨⟩
theorem hd.tw14772383043592177042 : True := ⟨⟩
theorem hd.tw14830267203646239459 : True := ⟨⟩
theorem hd.tw14852329139284432860 : True := ⟨⟩
theorem hd.tw14892549342360969540 : True := ⟨⟩
theorem hd.tw14896477498954680388 : True := ⟨⟩
theorem hd.tw14906377314874228009 : True := ⟨⟩
theorem hd.tw14955159897011116063 : True := ⟨⟩
theorem hd.tw14960593345356199642 : True := ⟨⟩
theorem hd.tw14980023328507725902 : True := ⟨⟩
theorem hd.tw14984183105004643987 : True := ⟨⟩
theorem hd.tw14991384322417631237 : True := ⟨⟩
theorem hd.tw15042006015671813226 : True := ⟨⟩
theorem hd.tw15043168886218598503 : True := ⟨⟩
theorem hd.tw15083628210047938546 : True := ⟨⟩
theorem hd.tw15089522573102190283 : True := ⟨⟩
theorem hd.tw15103106377680225435 : True := ⟨⟩
theorem hd.tw15166520500009309586 : True := ⟨⟩
theorem hd.tw15199589371867527261 : True := ⟨⟩
theorem hd.tw15207398651663016943 : True := ⟨⟩
theorem hd.tw15213948185873263833 : True := ⟨⟩
theorem hd.tw15220180469806662145 : True := ⟨⟩
theorem hd.tw15277330632498426303 : True := ⟨⟩
theorem hd.tw15279998641719260112 : True := ⟨⟩
theorem hd.tw15344866539931968096 : True := ⟨⟩
theorem hd.tw1535757262459896012 : True := ⟨⟩
theorem hd.tw15367242080415987702 : True := ⟨⟩
theorem hd.tw15368132723985388332 : True := ⟨⟩
theorem hd.tw15411387601460861337 : True := ⟨⟩
theorem hd.tw15416985209724490359 : True := ⟨⟩
theorem hd.tw15427206886491885616 : True := ⟨⟩
theorem hd.tw15508949281206285077 : True := ⟨⟩
theorem hd.tw15529170255622000948 : True := ⟨⟩
theorem hd.tw15578025631644234493 : True := ⟨⟩
theorem hd.tw15595854959937240912 : True := ⟨⟩
theorem hd.tw15615420239508185596 : True := ⟨⟩
theorem hd.tw15615537253650120727 : True := ⟨⟩
theorem hd.tw15616948245753086127 : True := ⟨⟩
theorem hd.tw1563692795949630186 : True := ⟨⟩
theorem hd.tw15637593595834871717 : True := ⟨⟩
theorem hd.tw15642763164714097627 : True := ⟨⟩
theorem hd.tw15643275761693703936 : True := ⟨⟩
theorem hd.tw15673258824015622330 : True := ⟨⟩
theorem hd.tw15675198926951892251 : True := ⟨⟩
theorem hd.tw15683763237869141255 : True := ⟨⟩
theorem hd.tw15687388767607454252 : True := ⟨⟩
theorem hd.tw15790720579355451973 : True := ⟨⟩
theorem hd.tw1580110805410547442 : True := ⟨⟩
theorem hd.tw15813434630575017362 : True := ⟨⟩
theorem hd.tw15826014557914729019 : True := ⟨⟩
theorem hd.tw15833661619300960221 : True := ⟨⟩
theorem hd.tw15837987909243819085 : True := ⟨⟩
theorem hd.tw1588505670450824345 : True := ⟨⟩
theorem hd.tw1589133516308662214 : True := ⟨⟩
theorem hd.tw15910714762333108613 : True := ⟨⟩
theorem hd.tw15924899543223041283 : True := ⟨⟩
theorem hd.tw15946388913382835224 : True := ⟨⟩
theorem hd.tw15955140184888088701 : True := ⟨⟩
theorem hd.tw15967140613478806237 : True := ⟨⟩
theorem hd.tw15987713032478767096 : True := ⟨⟩
theorem hd.tw15992342658441690333 : True := ⟨⟩
theorem hd.tw1600037746751723098 : True := ⟨⟩
theorem hd.tw16006246977917349235 : True := ⟨⟩
theorem hd.tw16007149819294483003 : True := ⟨⟩
theorem hd.tw16009884308244765898 : True := ⟨⟩
theorem hd.tw16011055738799735888 : True := ⟨⟩
theorem hd.tw1603739661141634737 : True := ⟨⟩
theorem hd.tw16037735763661986305 : True := ⟨⟩
theorem hd.tw16053994301053490033 : True := ⟨⟩
theorem hd.tw16056359734778111409 : True := ⟨⟩
theorem hd.tw16064382804478563927 : True := ⟨⟩
theorem hd.tw16091413853298234908 : True := ⟨⟩
theorem hd.tw1610171440888473627 : True := ⟨⟩
theorem hd.tw16138627921320673191 : True := ⟨⟩
theorem hd.tw16154546982801380032 : True := ⟨⟩
theorem hd.tw16169374299450900766 : True := ⟨⟩
theorem hd.tw16178712458983371728 : True := ⟨⟩
theorem hd.tw16211521421427940678 : True := ⟨⟩
theorem hd.tw16257038226119295666 : True := ⟨⟩
theorem hd.tw16259696140248634718 : True := ⟨⟩
theorem hd.tw16302227732802510677 : True := ⟨⟩
theorem hd.tw16340935385742185233 : True := ⟨⟩
theorem hd.tw16345102440705955213 : True := ⟨⟩
theorem hd.tw16376525773666504680 : True := ⟨⟩
theorem hd.tw16412773359747925120 : True := ⟨⟩
theorem hd.tw16432713993328977331 : True := ⟨⟩
theorem hd.tw16456969618363192440 : True := ⟨⟩
theorem hd.tw16473244170626142550 : True := ⟨⟩
theorem hd.tw16502264421070913907 : True := ⟨⟩
theorem hd.tw16634568088961857937 : True := ⟨⟩
theorem hd.tw16640546478005224243 : True := ⟨⟩
theorem hd.tw1664623461322820018 : True := ⟨⟩
theorem hd.tw16649331688326792143 : True := ⟨⟩
theorem hd.tw1666387254794493845 : True := ⟨⟩
theorem hd.tw16684818696116721337 : True := ⟨⟩
theorem hd.tw16713699803418581334 : True := ⟨⟩
theorem hd.tw16722109127936396110 : True := ⟨⟩
theorem hd.tw16794629799341752650 : True := ⟨⟩
theorem hd.tw16828841361933241965 : True := ⟨⟩
theorem hd.tw16853341256802265648 : True := ⟨⟩
theorem hd.tw16868993833207775613 : True := ⟨⟩
theorem hd.tw16896567674234606475 : True := ⟨⟩
theorem hd.tw16919406825032445293 : True := ⟨⟩
theorem hd.tw16945582573551092051 : True := ⟨⟩
theorem hd.tw16970440968685349367 : True := ⟨⟩
theorem hd.tw1699103778626983548 : True := ⟨⟩
theorem hd.tw17001982702790524580 : True := ⟨⟩
theorem hd.tw17047115858639842297 : True := ⟨⟩
theorem hd.tw17054507655720011243 : True := ⟨⟩
theorem hd.tw17062030032774818151 : True := ⟨⟩
theorem hd.tw17066044127408595049 : True := ⟨⟩
theorem hd.tw17070941380808615275 : True := ⟨⟩
theorem hd.tw17076082267592564974 : True := ⟨⟩
theorem hd.tw17087091549796120035 : True := ⟨⟩
theorem hd.tw1712922718373300912 : True := ⟨⟩
theorem hd.tw17130151131035750659 : True := ⟨⟩
theorem hd.tw17177331786930743035 : True := ⟨⟩
theorem hd.tw17183224562656869120 : True := ⟨⟩
theorem hd.tw17213754286329925777 : True := ⟨⟩
theorem hd.tw17234923516513369237 : True := ⟨⟩
theorem hd.tw17258206423299326598 : True := ⟨⟩
theorem hd.tw17312999752573914782 : True := ⟨⟩
theorem hd.tw17325209927041812611 : True := ⟨⟩
theorem hd.tw17330132731328240911 : True := ⟨⟩
theorem hd.tw17330945745186091897 : True := ⟨⟩
theorem hd.tw17336936450418997793 : True := ⟨⟩
theorem hd.tw17377529257436501650 : True := ⟨⟩
theorem hd.tw17387473266821786944 : True := ⟨⟩
theorem hd.tw17420951861521290806 : True := ⟨⟩
theorem hd.tw17429513623812275283 : True := ⟨⟩
theorem hd.tw17447410573909459338 : True := ⟨⟩
theorem hd.tw17454471701868102899 : True := ⟨⟩
theorem hd.tw17471934795394947791 : True := ⟨⟩
theorem hd.tw17491280204586788870 : True := ⟨⟩
theorem hd.tw17491317419825422843 : True := ⟨⟩
theorem hd.tw17495340751864218003 : True := ⟨⟩
theorem hd.tw17542962492245011380 : True := ⟨⟩
theorem hd.tw17574625026820762457 : True := ⟨⟩
theorem hd.tw17577478241444706838 : True := ⟨⟩
theorem hd.tw17583924267553061668 : True := ⟨⟩
theorem hd.tw17588044629489971554 : True := ⟨⟩
theorem hd.tw17599816209265215132 : True := ⟨⟩
theorem hd.tw1760603350576429475 : True := ⟨⟩
theorem hd.tw17606422857730326317 : True := ⟨⟩
theorem hd.tw17672654358674132775 : True := ⟨⟩
theorem hd.tw17673860158736603733 : True := ⟨⟩
theorem hd.tw17681399029576232318 : True := ⟨⟩
theorem hd.tw17696971302532935780 : True := ⟨⟩
theorem hd.tw17711083657039698284 : True := ⟨⟩
theorem hd.tw17714235663813219645 : True := ⟨⟩
theorem hd.tw17772917993097084435 : True := ⟨⟩
theorem hd.tw1781861727890032366 : True := ⟨⟩
theorem hd.tw17843490464661113860 : True := ⟨⟩
theorem hd.tw17893044597097874663 : True := ⟨⟩
theorem hd.tw17895171251205151618 : True := ⟨⟩
theorem hd.tw17901334829092211166 : True := ⟨⟩
theorem hd.tw17902569758825723728 : True := ⟨⟩
theorem hd.tw17903497710992402801 : True := ⟨⟩
theorem hd.tw17919194246423945575 : True := ⟨⟩
theorem hd.tw17925215291927510665 : True := ⟨⟩
theorem hd.tw1792636949448641307 : True := ⟨⟩
theorem hd.tw17948085552500728524 : True := ⟨⟩
theorem hd.tw17986969038992634876 : True := ⟨⟩
theorem hd.tw1800889605409440832 : True := ⟨⟩
theorem hd.tw18093387381490521874 : True := ⟨⟩
theorem hd.tw18093812233618175256 : True := ⟨⟩
theorem hd.tw18095200977026478895 : True := ⟨⟩
theorem hd.tw18103342009636024947 : True := ⟨⟩
theorem hd.tw18103420901670897651 : True := ⟨⟩
theorem hd.tw18163647496604598072 : True := ⟨⟩
theorem hd.tw18166333605607142505 : True := ⟨⟩
theorem hd.tw18176940659606848779 : True := ⟨⟩
theorem hd.tw18185175575083235020 : True := ⟨⟩
theorem hd.tw18219297243305740317 : True := ⟨⟩
theorem hd.tw18241275227582772068 : True := ⟨⟩
theorem hd.tw18245042118932799458 : True := ⟨⟩
theorem hd.tw18264374347568628810 : True := ⟨⟩
theorem hd.tw18268791191939849864 : True := ⟨⟩
theorem hd.tw18291419657060728153 : True := ⟨⟩
theorem hd.tw18293732401869909652 : True := ⟨⟩
theorem hd.tw18300207936620678264 : True := ⟨⟩
theorem hd.tw18322514126500204803 : True := ⟨⟩
theorem hd.tw18343703819029505601 : True := ⟨⟩
theorem hd.tw18358800413957953924 : True := ⟨⟩
theorem hd.tw1836080755315867724 : True := ⟨⟩
theorem hd.tw1847840615245081061 : True := ⟨⟩
theorem hd.tw1848646778235469078 : True := ⟨⟩
theorem hd.tw185848376630758926 : True := ⟨⟩
theorem hd.tw1865391376527767206 : True := ⟨⟩
theorem hd.tw1882180444382439491 : True := ⟨⟩
theorem hd.tw189712035060473897 : True := ⟨⟩
theorem hd.tw190519026028168232 : True := ⟨⟩
theorem hd.tw1954109241102656831 : True := ⟨⟩
theorem hd.tw1997569388931296116 : True := ⟨⟩
theorem hd.tw2000490053193787569 : True := ⟨⟩
theorem hd.tw2001351230973187099 : True := ⟨⟩
theorem hd.tw2040990291671593033 : True := ⟨⟩
theorem hd.tw2042292140826266357 : True := ⟨⟩
theorem hd.tw2051048951616859547 : True := ⟨⟩
theorem hd.tw212345690472687942 : True := ⟨⟩
theorem hd.tw2134215046882385847 : True := ⟨⟩
theorem hd.tw2167537188350426706 : True := ⟨⟩
theorem hd.tw221497870779424605 : True := ⟨⟩
theorem hd.tw2216850387143573719 : True := ⟨⟩
theorem hd.tw22551697357593593 : True := ⟨⟩
theorem hd.tw2263123870574935043 : True := ⟨⟩
theorem hd.tw226724450230711188 : True := ⟨⟩
theorem hd.tw2274498078352570744 : True := ⟨⟩
theorem hd.tw2284436838669742495 : True := ⟨⟩
theorem hd.tw2295870552580634182 : True := ⟨⟩
theorem hd.tw2304311442786299043 : True := ⟨⟩
theorem hd.tw2323474266016966308 : True := ⟨⟩
theorem hd.tw2327210489368252092 : True := ⟨⟩
theorem hd.tw2329189449893159454 : True := ⟨⟩
theorem hd.tw2386827423013361158 : True := ⟨⟩
theorem hd.tw2391449824757734642 : True := ⟨⟩
theorem hd.tw242841246431481386 : True := ⟨⟩
theorem hd.tw243823211424636713 : True := ⟨⟩
theorem hd.tw2457190517430149469 : True := ⟨⟩
theorem hd.tw2480057099694739299 : True := ⟨⟩
theorem hd.tw2502866573005156581 : True := ⟨⟩
theorem hd.tw250903467453971090 : True := ⟨⟩
theorem hd.tw257007361410690125 : True := ⟨⟩
theorem hd.tw2595994805191909183 : True := ⟨⟩
theorem hd.tw2603259988358896889 : True := ⟨⟩
theorem hd.tw2608437505485318709 : True := ⟨⟩
theorem hd.tw262745018181394680 : True := ⟨⟩
theorem hd.tw2658526732547218105 : True := ⟨⟩
theorem hd.tw2708950531961675432 : True := ⟨⟩
theorem hd.tw2739504486584576224 : True := ⟨⟩
theorem hd.tw2781682124601125471 : True := ⟨⟩
theorem hd.tw2783992281797965187 : True := ⟨⟩
theorem hd.tw2788664435532181463 : True := ⟨⟩
theorem hd.tw2799716289819351777 : True := ⟨⟩
theorem hd.tw280609765759037681 : True := ⟨⟩
theorem hd.tw2845207389951388047 : True := ⟨⟩
theorem hd.tw2845679848157327705 : True := ⟨⟩
theorem hd.tw2855845756224970109 : True := ⟨⟩
theorem hd.tw2887051446865420828 : True := ⟨⟩
theorem hd.tw295042630055866759 : True := ⟨⟩
theorem hd.tw2951005344575393816 : True := ⟨⟩
theorem hd.tw2999033326186475339 : True := ⟨⟩
theorem hd.tw3008623586974134963 : True := ⟨⟩
theorem hd.tw3039998526598829958 : True := ⟨⟩
theorem hd.tw307737655149646647 : True := ⟨⟩
theorem hd.tw3109861748172591687 : True := ⟨⟩
theorem hd.tw3182187488490625086 : True := ⟨⟩
theorem hd.tw3196399650302076718 : True := ⟨⟩
theorem hd.tw3229955645248102723 : True := ⟨⟩
theorem hd.tw3259873300814134281 : True := ⟨⟩
theorem hd.tw3309697970292668127 : True := ⟨⟩
theorem hd.tw3333446698644548216 : True := ⟨⟩
theorem hd.tw3350930974749635488 : True := ⟨⟩
theorem hd.tw3386092968808520798 : True := ⟨⟩
theorem hd.tw3404104791013757517 : True := ⟨⟩
theorem hd.tw3419581819265744254 : True := ⟨⟩
theorem hd.tw3434918251397683217 : True := ⟨⟩
theorem hd.tw3443669649825651883 : True := ⟨⟩
theorem hd.tw3451239065008710300 : True := ⟨⟩
theorem hd.tw3452082135128663414 : True := ⟨⟩
theorem hd.tw3480954088277226078 : True := ⟨⟩
theorem hd.tw3484992998616243462 : True := ⟨⟩
theorem hd.tw3493717111155160527 : True := ⟨⟩
theorem hd.tw3513125359445811510 : True := ⟨⟩
theorem hd.tw3646829019195819677 : True := ⟨⟩
theorem hd.tw3673089383077640791 : True := ⟨⟩
theorem hd.tw368366308016060594 : True := ⟨⟩
theorem hd.tw3694398316872202419 : True := ⟨⟩
theorem hd.tw3704167492566942397 : True := ⟨⟩
theorem hd.tw3722166409189360004 : True := ⟨⟩
theorem hd.tw3759623122121258479 : True := ⟨⟩
theorem hd.tw3789350110615891812 : True := ⟨⟩
theorem hd.tw3795277891434052102 : True := ⟨⟩
theorem hd.tw3816877163431070358 : True := ⟨⟩
theorem hd.tw3828038474966422129 : True := ⟨⟩
theorem hd.tw3878383114103592795 : True := ⟨⟩
theorem hd.tw3915529967508079626 : True := ⟨⟩
theorem hd.tw3919010098100093602 : True := ⟨⟩
theorem hd.tw3920623390966001496 : True := ⟨⟩
theorem hd.tw3940546777539579641 : True := ⟨⟩
theorem hd.tw395138700845864316 : True := ⟨⟩
theorem hd.tw3953601041324332601 : True := ⟨⟩
theorem hd.tw4014540891139286612 : True := ⟨⟩
theorem hd.tw4015398097383911347 : True := ⟨⟩
theorem hd.tw402640490398009360 : True := ⟨⟩
theorem hd.tw4065347644161347641 : True := ⟨⟩
theorem hd.tw4086058157674990017 : True := ⟨⟩
theorem hd.tw4091639524402994376 : True := ⟨⟩
theorem hd.tw4111692666942324129 : True := ⟨⟩
theorem hd.tw4115565904173853331 : True := ⟨⟩
theorem hd.tw4126306136578151734 : True := ⟨⟩
theorem hd.tw4136554803537287180 : True := ⟨⟩
theorem hd.tw4138081844389336918 : True := ⟨⟩
theorem hd.tw4159134105002834734 : True := ⟨⟩
theorem hd.tw4172343393113369950 : True := ⟨⟩
theorem hd.tw4182648748547736412 : True := ⟨⟩
theorem hd.tw4225703048834024713 : True := ⟨⟩
theorem hd.tw4272726840584523970 : True := ⟨⟩
theorem hd.tw4282304852377368616 : True := ⟨⟩
theorem hd.tw4282359134580295075 : True := ⟨⟩
theorem hd.tw4292457097857839397 : True := ⟨⟩
theorem hd.tw4297731678662094536 : True := ⟨⟩
theorem hd.tw4315991029959535628 : True := ⟨⟩
theorem hd.tw432457690288141553 : True := ⟨⟩
theorem hd.tw4360684699965382250 : True := ⟨⟩
theorem hd.tw4363365295628954845 : True := ⟨⟩
theorem hd.tw4367231431732253908 : True := ⟨⟩
theorem hd.tw4377701919642642989 : True := ⟨⟩
theorem hd.tw4383666589626881386 : True := ⟨⟩
theorem hd.tw4402725079659364252 : True := ⟨⟩
theorem hd.tw442638132926106271 : True := ⟨⟩
theorem hd.tw4478166936697009375 : True := ⟨⟩
theorem hd.tw4478964076566166474 : True := ⟨⟩
theorem hd.tw4494801613693538912 : True := ⟨⟩
theorem hd.tw4523669819894539328 : True := ⟨⟩
theorem hd.tw461538923250603899 : True := ⟨⟩
theorem hd.tw4642405928176397000 : True := ⟨⟩
theorem hd.tw4643362625855044894 : True := ⟨⟩
theorem hd.tw4654797750381630734 : True := ⟨⟩
theorem hd.tw4702841417184801058 : True := ⟨⟩
theorem hd.tw4706079058837389440 : True := ⟨⟩
theorem hd.tw4734902545126651661 : True := ⟨⟩
theorem hd.tw4788038989552484473 : True := ⟨⟩
theorem hd.tw4817003022231809500 : True := ⟨⟩
theorem hd.tw4819202231147424091 : True := ⟨⟩
theorem hd.tw4833718069199227053 : True := ⟨⟩
theorem hd.tw4856431653887292112 : True := ⟨⟩
theorem hd.tw4870687313549177768 : True := ⟨⟩
theorem hd.tw4971549296188076032 : True := ⟨⟩
theorem hd.tw4990156530697904881 : True := ⟨⟩
theorem hd.tw5009564483982726761 : True := ⟨⟩
theorem hd.tw5010264101278932077 : True := ⟨⟩
theorem hd.tw5036846961687405229 : True := ⟨⟩
theorem hd.tw5054737718236178183 : True := ⟨⟩
theorem hd.tw5130813555471234732 : True := ⟨⟩
theorem hd.tw5138769234217329475 : True := ⟨⟩
theorem hd.tw5148922909946612681 : True := ⟨⟩
theorem hd.tw5167245352685981253 : True := ⟨⟩
theorem hd.tw5174551420813472067 : True := ⟨⟩
theorem hd.tw5190246844813560578 : True := ⟨⟩
theorem hd.tw519851828213033955 : True := ⟨⟩
theorem hd.tw5238241317806426387 : True := ⟨⟩
theorem hd.tw5245234834050458271 : True := ⟨⟩
theorem hd.tw526207354791536317 : True := ⟨⟩
theorem hd.tw5282504435634884242 : True := ⟨⟩
theorem hd.tw5283464899586487735 : True := ⟨⟩
theorem hd.tw5292301768408028288 : True := ⟨⟩
theorem hd.tw5343241284826551009 : True := ⟨⟩
theorem hd.tw5366084841770067474 : True := ⟨⟩
theorem hd.tw5373601922739893978 : True := ⟨⟩
theorem hd.tw5388632664720090651 : True := ⟨⟩
theorem hd.tw5389524357970545731 : True := ⟨⟩
theorem hd.tw541196102884509978 : True := ⟨⟩
theorem hd.tw5416991563250132298 : True := ⟨⟩
theorem hd.tw5433107678231618845 : True := ⟨⟩
theorem hd.tw5464967688985200232 : True := ⟨⟩
theorem hd.tw5480042469492414594 : True := ⟨⟩
theorem hd.tw5486487638281291605 : True := ⟨⟩
theorem hd.tw5505005885091257285 : True := ⟨⟩
theorem hd.tw5511420028821071320 : True := ⟨⟩
theorem hd.tw5513025101015932971 : True := ⟨⟩
theorem hd.tw5535567543195554156 : True := ⟨⟩
theorem hd.tw5549315172176941698 : True := ⟨⟩
theorem hd.tw5562173858411828344 : True := ⟨⟩
theorem hd.tw5567388512258382067 : True := ⟨⟩
theorem hd.tw5608270528595127837 : True := ⟨⟩
theorem hd.tw561391293025646643 : True := ⟨⟩
theorem hd.tw5629675986466331604 : True := ⟨⟩
theorem hd.tw5635641802508607975 : True := ⟨⟩
theorem hd.tw5657824000916062451 : True := ⟨⟩
theorem hd.tw5715356086224469760 : True := ⟨⟩
theorem hd.tw5716766192118558609 : True := ⟨⟩
theorem hd.tw5732804406350252772 : True := ⟨⟩
theorem hd.tw5781342201191254626 : True := ⟨⟩
theorem hd.tw5859118754885311737 : True := ⟨⟩
theorem hd.tw5873113503399164460 : True := ⟨⟩
theorem hd.tw5899666649113621702 : True := ⟨⟩
theorem hd.tw5902613922787404954 : True := ⟨⟩
theorem hd.tw5976792059365374437 : True := ⟨⟩
theorem hd.tw5978321128707920903 : True := ⟨⟩
theorem hd.tw5983496337302601536 : True := ⟨⟩
theorem hd.tw5987830557187376847 : True := ⟨⟩
theorem hd.tw6019021122589006684 : True := ⟨⟩
theorem hd.tw6038821095411175016 : True := ⟨⟩
theorem hd.tw6046454685291232161 : True := ⟨⟩
theorem hd.tw6060742912462422084 : True := ⟨⟩
theorem hd.tw6082411064634330575 : True := ⟨⟩
theorem hd.tw6123773746684550334 : True := ⟨⟩
theorem hd.tw6140570298594658328 : True := ⟨⟩
theorem hd.tw6164396464334811476 : True := ⟨⟩
theorem hd.tw6184208073178115725 : True := ⟨⟩
theorem hd.tw6186238094035137676 : True := ⟨⟩
theorem hd.tw6196171512934965099 : True := ⟨⟩
theorem hd.tw6264232113106981867 : True := ⟨⟩
theorem hd.tw6276725880618359904 : True := ⟨⟩
theorem hd.tw6293948785866598258 : True := ⟨⟩
theorem hd.tw6305734824756694309 : True := ⟨⟩
theorem hd.tw6308581086252854402 : True := ⟨⟩
theorem hd.tw6320253292602491972 : True := ⟨⟩
theorem hd.tw6394381022753523788 : True := ⟨⟩
theorem hd.tw6407587892757256292 : True := ⟨⟩
theorem hd.tw6411954120941647267 : True := ⟨⟩
theorem hd.tw6423634429210846174 : True := ⟨⟩
theorem hd.tw6438293893037913957 : True := ⟨⟩
theorem hd.tw6442067068224118133 : True := ⟨⟩
theorem hd.tw6449127861642672459 : True := ⟨⟩
theorem hd.tw6482722132109649516 : True := ⟨⟩
theorem hd.tw6528754448969337418 : True := ⟨⟩
theorem hd.tw6545403380812914513 : True := ⟨⟩
theorem hd.tw6547078798241139092 : True := ⟨⟩
theorem hd.tw6555240042291301478 : True := ⟨⟩
theorem hd.tw656455966557771466 : True := ⟨⟩
theorem hd.tw6578402527460240241 : True := ⟨⟩
theorem hd.tw6598312636042714100 : True := ⟨⟩
theorem hd.tw6615107907471364465 : True := ⟨⟩
theorem hd.tw6627881031435992008 : True := ⟨⟩
theorem hd.tw663384727985864361 : True := ⟨⟩
theorem hd.tw6636792957720756321 : True := ⟨⟩
theorem hd.tw6683769817339685419 : True := ⟨⟩
theorem hd.tw6755925336976613232 : True := ⟨⟩
theorem hd.tw6759412095888398321 : True := ⟨⟩
theorem hd.tw6761669909254768831 : True := ⟨⟩
theorem hd.tw6767318904944593275 : True := ⟨⟩
theorem hd.tw6785817131721698500 : True := ⟨⟩
theorem hd.tw6804821044290156842 : True := ⟨⟩
theorem hd.tw6819123309680001836 : True := ⟨⟩
theorem hd.tw6820862383352777685 : True := ⟨⟩
theorem hd.tw6830512106363814048 : True := ⟨⟩
theorem hd.tw6838551448383532254 : True := ⟨⟩
theorem hd.tw6882427118574961969 : True := ⟨⟩
theorem hd.tw6898005170327248138 : True := ⟨⟩
theorem hd.tw6906073325868019850 : True := ⟨⟩
theorem hd.tw6919301186622283592 : True := ⟨⟩
theorem hd.tw6924109203229866365 : True := ⟨⟩
theorem hd.tw6957150274394394060 : True := ⟨⟩
theorem hd.tw6965799899956892507 : True := ⟨⟩
theorem hd.tw697623264460660564 : True := ⟨⟩
theorem hd.tw6990203504111849199 : True := ⟨⟩
theorem hd.tw6998783941825042932 : True := ⟨⟩
theorem hd.tw701333769924781912 : True := ⟨⟩
theorem hd.tw701787995468756871 : True := ⟨⟩
theorem hd.tw7023726343779634624 : True := ⟨⟩
theorem hd.tw7028611270464810887 : True := ⟨⟩
theorem hd.tw7080932558258925280 : True := ⟨⟩
theorem hd.tw7082855905992002993 : True := ⟨⟩
theorem hd.tw7085514621470718492 : True := ⟨⟩
theorem hd.tw7121563811056040697 : True := ⟨⟩
theorem hd.tw7152984921513172624 : True := ⟨⟩
theorem hd.tw7153062008950511462 : True := ⟨⟩
theorem hd.tw7191455744419660376 : True := ⟨⟩
theorem hd.tw7237507109640720828 : True := ⟨⟩
theorem hd.tw7261450039545342454 : True := ⟨⟩
theorem hd.tw7270182246851987180 : True := ⟨⟩
theorem hd.tw728884934406724761 : True := ⟨⟩
theorem hd.tw7289634563603522867 : True := ⟨⟩
theorem hd.tw7292484366425897655 : True := ⟨⟩
theorem hd.tw7317836474542784337 : True := ⟨⟩
theorem hd.tw732345407407602841 : True := ⟨⟩
theorem hd.tw7339039647409124788 : True := ⟨⟩
theorem hd.tw7354087734392854552 : True := ⟨⟩
theorem hd.tw7355570028127101125 : True := ⟨⟩
theorem hd.tw7366208706002141716 : True := ⟨⟩
theorem hd.tw7369741819223213686 : True := ⟨⟩
theorem hd.tw7379015992945566340 : True := ⟨⟩
theorem hd.tw7382370116671421104 : True := ⟨⟩
theorem hd.tw7492773218913965947 : True := ⟨⟩
theorem hd.tw7494724483528729301 : True := ⟨⟩
theorem hd.tw7512474625130614241 : True := ⟨⟩
theorem hd.tw7519716089354478335 : True := ⟨⟩
theorem hd.tw7525542149764818722 : True := ⟨⟩
theorem hd.tw7534799579077118603 : True := ⟨⟩
theorem hd.tw7540655947842036084 : True := ⟨⟩
theorem hd.tw7540741092611519060 : True := ⟨⟩
theorem hd.tw7541792107247259296 : True := ⟨⟩
theorem hd.tw758273949599710562 : True := ⟨⟩
theorem hd.tw7598622570094877466 : True := ⟨⟩
theorem hd.tw7628703163842673926 : True := ⟨⟩
theorem hd.tw7640094616464845771 : True := ⟨⟩
theorem hd.tw7654286748164834634 : True := ⟨⟩
theorem hd.tw7676003278276379012 : True := ⟨⟩
theorem hd.tw7698358502638924378 : True := ⟨⟩
theorem hd.tw7721951785955056133 : True := ⟨⟩
theorem hd.tw7746578258024575070 : True := ⟨⟩
theorem hd.tw7752569895197466512 : True := ⟨⟩
theorem hd.tw7752767780024739350 : True := ⟨⟩
theorem hd.tw7754304195085646258 : True := ⟨⟩
theorem hd.tw7793673504863384051 : True := ⟨⟩
theorem hd.tw7854228177987924090 : True := ⟨⟩
theorem hd.tw7880807054014371918 : True := ⟨⟩
theorem hd.tw7891253978561527248 : True := ⟨⟩
theorem hd.tw7914949630228597729 : True := ⟨⟩
theorem hd.tw7927469264209771579 : True := ⟨⟩
theorem hd.tw8004679753235328684 : True := ⟨⟩
theorem hd.tw8025032847418708242 : True := ⟨⟩
theorem hd.tw8044012406986999415 : True := ⟨⟩
theorem hd.tw8047900516022102942 : True := ⟨⟩
theorem hd.tw8053944837975664402 : True := ⟨⟩
theorem hd.tw8081886968326746073 : True := ⟨⟩
theorem hd.tw8112040973832200146 : True := ⟨⟩
theorem hd.tw8117029840178788049 : True := ⟨⟩
theorem hd.tw8134915037123179040 : True := ⟨⟩
theorem hd.tw8191903926673212241 : True := ⟨⟩
theorem hd.tw8210421348078903774 : True := ⟨⟩
theorem hd.tw8226494294326810461 : True := ⟨⟩
theorem hd.tw8228950375871286339 : True := ⟨⟩
theorem hd.tw8244733829118024811 : True := ⟨⟩
theorem hd.tw825126770350376351 : True := ⟨⟩
theorem hd.tw8268277133935991078 : True := ⟨⟩
theorem hd.tw8269573656231971908 : True := ⟨⟩
theorem hd.tw8273930003744585626 : True := ⟨⟩
theorem hd.tw8312999807965096350 : True := ⟨⟩
theorem hd.tw833173182276230429 : True := ⟨⟩
theorem hd.tw8343274005884668182 : True := ⟨⟩
theorem hd.tw8351282476255451920 : True := ⟨⟩
theorem hd.tw8356816923877370021 : True := ⟨⟩
theorem hd.tw8381844023166312768 : True := ⟨⟩
theorem hd.tw845060206244984605 : True := ⟨⟩
theorem hd.tw8457440626546761165 : True := ⟨⟩
theorem hd.tw8458067239894703972 : True := ⟨⟩
theorem hd.tw8479784124755550697 : True := ⟨⟩
theorem hd.tw8493152586797012548 : True := ⟨⟩
theorem hd.tw8537826242697300014 : True := ⟨⟩
theorem hd.tw8538877666451538035 : True := ⟨⟩
theorem hd.tw8545014587354053640 : True := ⟨⟩
theorem hd.tw8587404781116728655 : True := ⟨⟩
theorem hd.tw8589211134812392127 : True := ⟨⟩
theorem hd.tw8609351116199087170 : True := ⟨⟩
theorem hd.tw8652628183442184457 : True := ⟨⟩
theorem hd.tw8664936974563722654 : True := ⟨⟩
theorem hd.tw8671608845466749128 : True := ⟨⟩
theorem hd.tw8716120427605611371 : True := ⟨⟩
theorem hd.tw8727321023445011275 : True := ⟨⟩
theorem hd.tw876933089483189297 : True := ⟨⟩
theorem hd.tw8770205317985620760 : True := ⟨⟩
theorem hd.tw8801323125487838256 : True := ⟨⟩
theorem hd.tw881544763273948857 : True := ⟨⟩
theorem hd.tw8879563391730754479 : True := ⟨⟩
theorem hd.tw8934143017859847078 : True := ⟨⟩
theorem hd.tw8959176491354863721 : True := ⟨⟩
theorem hd.tw8960069828448710407 : True := ⟨⟩
theorem hd.tw8965841893048198262 : True := ⟨⟩
theorem hd.tw8977307856219701671 : True := ⟨⟩
theorem hd.tw8990313861142287110 : True := ⟨⟩
theorem hd.tw9013056391748086436 : True := ⟨⟩
theorem hd.tw9073681462420916055 : True := ⟨⟩
theorem hd.tw9077708301081682751 : True := ⟨⟩
theorem hd.tw9087110039335098043 : True := ⟨⟩
theorem hd.tw9132557439983319658 : True := ⟨⟩
theorem hd.tw9153386212771759811 : True := ⟨⟩
theorem hd.tw9155422001095189878 : True := ⟨⟩
theorem hd.tw9170477692918782315 : True := ⟨⟩
theorem hd.tw9184186324627900627 : True := ⟨⟩
theorem hd.tw922143313871775805 : True := ⟨⟩
theorem hd.tw9228397985900620932 : True := ⟨⟩
theorem hd.tw9298403506768410418 : True := ⟨⟩
theorem hd.tw9325612240067072397 : True := ⟨⟩
theorem hd.tw9330943631129107780 : True := ⟨⟩
theorem hd.tw9345676750909349944 : True := ⟨⟩
theorem hd.tw9345929723534960622 : True := ⟨⟩
theorem hd.tw9386895884608548742 : True := ⟨⟩
theorem hd.tw9398405308114057262 : True := ⟨⟩
theorem hd.tw940617070666608080 : True := ⟨⟩
theorem hd.tw9420132969298855359 : True := ⟨⟩
theorem hd.tw9421340871869096474 : True := ⟨⟩
theorem hd.tw9427301549700849589 : True := ⟨⟩
theorem hd.tw9430268157657104642 : True := ⟨⟩
theorem hd.tw9449672872311958731 : True := ⟨⟩
theorem hd.tw9459050058782445324 : True := ⟨⟩
theorem hd.tw9496365245306024149 : True := ⟨⟩
theorem hd.tw9499510787657705874 : True := ⟨⟩
theorem hd.tw9533747618267967006 : True := ⟨⟩
theorem hd.tw9555612238305686254 : True := ⟨⟩
theorem hd.tw9557236495431379559 : True := ⟨⟩
theorem hd.tw9566141503761928105 : True := ⟨⟩
theorem hd.tw9571657101598308349 : True := ⟨⟩
theorem hd.tw9577689765879766989 : True := ⟨⟩
theorem hd.tw9598574009544915381 : True := ⟨⟩
theorem hd.tw9631708518359487223 : True := ⟨⟩
theorem hd.tw9641152695372364146 : True := ⟨⟩
theorem hd.tw9657781627882305391 : True := ⟨⟩
theorem hd.tw9673543361469618366 : True := ⟨⟩
theorem hd.tw9719896912496429819 : True := ⟨⟩
theorem hd.tw9731375825926819010 : True := ⟨⟩
theorem hd.tw9741134391959003819 : True := ⟨⟩
theorem hd.tw9748044761591592747 : True := ⟨⟩
theorem hd.tw9753359207989701909 : True := ⟨⟩
theorem hd.tw9763420282994701918 : True := ⟨⟩
theorem hd.tw9783614193127449063 : True := ⟨⟩
theorem hd.tw978945382295711627 : True := ⟨⟩
theorem hd.tw9842699097658496709 : True := ⟨⟩
theorem hd.tw9908193460736022307 : True := ⟨⟩
theorem hd.tw991583007596301734 : True := ⟨⟩
theorem hd.tw9960721518486171458 : True := ⟨⟩
theorem hd.tw9983995961361265002 : True := ⟨⟩
theorem hd.tw9990345226319884068 : True := ⟨⟩
set_option Elab.async true
theorem hd : PySem.Challenge.rw_qz0014_01.Holds := by
  w_on; o_law
  o_head (kHook hd0.heap_1 [2, 3, 15, 17, 18, 20, 21, 22, 25, 30, 31, 33, 34, 36, 37, 38, 40, 41, 43, 44, 45, 46, 47, 48, 51, 58, 60, 61, 63, 64, 65, 66, 67, 70, 78, 80, 81, 83, 84, 85, 87, 88, 90, 91, 92, 94, 95, 97, 98, 99, 101, 102, 104, 105, 106, 108, 109, 111, 112, 113, 115, 116, 118, 119, 120, 122, 123, 125, 126, 127, 129, 130, 132, 133, 134, 136, 137, 139, 140, 141, 143, 144, 146, 147, 148, 150, 151, 153, 154, 155, 157, 158, 160, 161, 162, 164, 165, 167, 168, 169, 171, 172, 174, 175, 176, 178, 179, 181, 182, 183, 185, 186, 188, 189, 190, 192, 193, 195, 196, 197, 199, 200, 202, 203, 204, 206, 207, 209, 210, 211, 213, 214, 216, 217, 218, 220, 221, 223, 224, 225, 227, 228, 230, 231, 232, 234, 235, 237, 238, 239, 241, 242, 244, 245, 246, 248, 249, 251, 252, 253, 255, 256, 258, 259, 260, 262, 263, 265, 266, 267, 269, 270, 272, 273, 274, 276, 277, 279, 280, 281, 282, 283, 284, 285, 288, 295, 297, 298, 300, 301, 302, 304, 305, 307, 308, 309, 311, 312, 314, 315, 316, 318, 319, 321, 322, 323, 325, 326, 328, 329, 330, 332, 333, 335, 336, 337, 339, 340, 342, 343, 344, 346, 347, 349, 350, 351, 353, 354, 356, 357, 358, 360, 361, 363, 364, 365, 367, 368, 370, 371, 372, 374, 375, 377, 378, 379, 381, 382, 384, 385, 386, 387, 388, 398, 400, 401, 403, 404, 405, 407, 408, 410, 411, 412, 414, 415, 417, 418, 419, 421, 422, 424, 425, 426, 429, 430, 431, 433, 434, 436, 437, 438, 440, 441, 443, 444, 445, 447, 448, 450, 451, 452, 454, 455, 457, 458, 459, 461, 462, 464, 465, 466, 468, 469, 471, 472, 473, 474, 476, 477, 479, 480, 481, 482, 484, 485, 487, 488, 489, 490, 492, 493, 495, 496, 497, 499, 500, 502, 503, 504, 506, 507, 509, 510, 511, 512, 513, 514, 515, 518, 520, 521, 523, 524, 525, 527, 528, 530, 531, 532, 535, 536, 537, 539, 540, 542, 543, 544, 546, 547, 549, 550, 551, 553, 554, 556, 557, 558, 561, 562, 563, 566, 567, 568, 571, 572, 573, 576, 577] (fun _ => by kernel_rfl))
  (case hw => w_witness2)
  k_fill
  intro w s₀ s₁ mg mb G Y fa o pm cd doc dV kV ho hdd hcd hD hmg hg args vals as hpre hlay hrd hwl hlo
  have KX := kIn_of Y
  clear Y
  refine Ground.open G ?_
  intro T B D TE TW
  wrow_args hpre hlay hrd hwl hlo
  refine enter_call (codeAny_mono ?_ fun _ _ g => GoodW.toG g)
  clear hdd hcd hD B D TE TW
  have hm : mg "law" = some (.ref fa) := hmg
  have hf : fa = 577 := by
    have h2 := mg_of KX T.g (n := "law") (v := .ref 577) (by k_is)
    rw [hm] at h2
    cases h2; rfl
  subst hf
  have hGd : Mine.Gd w s₁.heap := ⟨KX, T.nolimit, ⟨mg, T.g⟩, ⟨mb, T.b, T.builtins⟩, fun q => by
    obtain ⟨mm, ⟨o, es, ep, e, _⟩, _⟩ := (T.seer (by decide +kernel)).mods
    rw [q] at e; cases e⟩
  rename_i w5 hs hlay0 hL1 hr1 hl2 w4 w3 w2 w1 w0 hL ra w1' r0 hI hr hc1 hc2
  have hlen : w1.length ≤ 63 := by
    have := Mine.ints_len hI
    omega
  refine Mine.law_spec (z := s₁) (h := s₁.heap) (t := s₁.toks) ⟨hGd, fun _ _ e => e⟩ ⟨rfl, by decide +kernel, by decide +kernel⟩ hL hI hlen fun h' tk he => ?_
  refine ⟨.inl ⟨_, _, _, rfl, fun _ => rfl, .bool true, ?_, fun _ => ⟨.nil, fun _ h => nomatch h⟩⟩, he, rfl, hg⟩

  with_unfolding_all rfl
end Mine
set_option Elab.async false
theorem PySem.Challenge.cw_qz0014_01_holds : PySem.Challenge.rw_qz0014_01.Holds :=
  Mine.hd
