import PyProof.Rows.All
import Wide.All
import OpenK.AllK
import Wide.FinOn
import HandS.ForMost
import HandS.ForExc
import HandS.Walk
import HandS.TupAny
import HandS.TupMul
import HandS.Zip
import HandS.Rev
import HandS.IsInst
import HandS.Deep
import HandS.Style
import HandS.Flow
import HandS.Wide
import HandS.TupLe
import HandS.TupLen
import HandS.More
import PySem.Challenge.RW_letterslost_k02_papers_on_parts_judged
set_option Elab.async false
set_option linter.all false
set_option maxRecDepth 100000
set_option maxHeartbeats 4000000
namespace FW
open PySem PySem.Spec PyProof.Rows L2

/-! ## data, objects, frames -/
inductive D where
  | non | bl (b : Bool) | int (i : Int) | str (x : Str)
  | tup (xs : List D) | lst (xs : List D)
  | dk (kvs : List (Key × D)) | dt (kvs : List (List Key × D))
  | scr (ns : List Int)
/-- the drawn-number state of a law -/
structure DS where
  great : List Int
  cells : List Int
  rest : Int
  turn : Int
inductive Ob where
  | lst (xs : List D) | dk (kvs : List (Key × D)) | dt (kvs : List (List Key × D)) | drw (s : DS)
inductive Slot where
  | un | imm (d : D) | own (o : Ob) | ob
structure Rho where
  sl : List Slot
  ob : Option Ob
inductive Val where
  | imm (d : D) | own (o : Ob) | bor (i : Nat) | ob
/-- an exception: its class's name, its own fields -/
structure Exn where
  cls : Str
  fs : List (Str × D)
inductive R (α : Type) where
  | ok (a : α) (ρ : Rho) | exc (x : Exn) (ρ : Rho) | bad
inductive Out where
  | nx (ρ : Rho) | rt (v : Val) (ρ : Rho) | bk (ρ : Rho) | ct (ρ : Rho) | exc (x : Exn) (ρ : Rho) | bad
abbrev EE := Rho → R Val
abbrev EEs := Rho → R (List Val)
abbrev TT' := Rho → R Bool
abbrev SS := Rho → Out

/-! ## how data lies in the heap; B: what is owned -/
def ScrAt (K : PySem.W.Frag) (H : Hp) (a : Addr) (vs : List V) : Prop :=
  (∃ o, H a = some (.frz o (.lst vs))) ∨
    ∃ (o : Obj) (its : Array Value) (n : Nat), K.lookup a = some o ∧ o.cls = .type "list" ∧ o.dict = none ∧ o.data = .seq its n ∧ its.size ≤ sizeLine ∧ Vals vs its.toList
theorem ScrAt.sq {K : PySem.W.Frag} {H : Hp} {a : Addr} {vs : List V} (h : ScrAt K H a vs) : SqL K H a vs := by
  rcases h with ⟨o, h⟩ | h
  · exact .inl (.inr ⟨o, h⟩)
  · exact .inr h
mutual
inductive Fz (K : PySem.W.Frag) (H : Hp) (B : List Addr) : D → V → Prop where
  | non : Fz K H B .non .non
  | bl (b : Bool) : Fz K H B (.bl b) (.bl b)
  | int (i : Int) : Fz K H B (.int i) (.int i)
  | str (x : Str) : Fz K H B (.str x) (.str x)
  | tup {a : Addr} {vs : List V} {xs : List D} : SqT K H a vs → FzL K H B xs vs → Fz K H B (.tup xs) (.ref a)
  | lst {a : Addr} {vs : List V} {xs : List D} : a ∉ B → H a = some (.lst vs) → FzL K H B xs vs → Fz K H B (.lst xs) (.ref a)
  | dk {a : Addr} {ws : List (Key × V)} {kvs : List (Key × D)} : a ∉ B → H a = some (.dK ws) → kvs.map (·.1) = ws.map (·.1) → FzL K H B (kvs.map (·.2)) (ws.map (·.2)) → Fz K H B (.dk kvs) (.ref a)
  | dt {a : Addr} {ws : List (List Key × V)} {kvs : List (List Key × D)} : a ∉ B → H a = some (.dT ws) → kvs.map (·.1) = ws.map (·.1) → FzL K H B (kvs.map (·.2)) (ws.map (·.2)) → Fz K H B (.dt kvs) (.ref a)
  | scr {a : Addr} {ns : List Int} : ScrAt K H a (ns.map V.int) → Fz K H B (.scr ns) (.ref a)
inductive FzL (K : PySem.W.Frag) (H : Hp) (B : List Addr) : List D → List V → Prop where
  | nil : FzL K H B [] []
  | cons {d : D} {v : V} {ds : List D} {vs : List V} : Fz K H B d v → FzL K H B ds vs → FzL K H B (d :: ds) (v :: vs)
end
/-- what is known under the ban B is known under B' -/
structure Kp (H : Hp) (B : List Addr) (H' : Hp) (B' : List Addr) : Prop where
  keep : ∀ a o, H a = some o → a ∉ B → H' a = some o ∧ a ∉ B'
  imm : ∀ a o, H a = some o → ¬ Mut (some o) → H' a = some o
theorem notMut_tup {vs : List V} : ¬ Mut (some (.tup vs)) := fun h => h
theorem notMut_frz {o : Obj} {u : HO} : ¬ Mut (some (.frz o u)) := fun h => h
theorem Kp.sqT {K : PySem.W.Frag} {H H' : Hp} {B B' : List Addr} (k : Kp H B H' B') {a : Addr} {vs : List V} (h : SqT K H a vs) : SqT K H' a vs := by
  rcases h with (h | ⟨o, h⟩) | h
  · exact .inl (.inl (k.imm _ _ h notMut_tup))
  · exact .inl (.inr ⟨o, k.imm _ _ h notMut_frz⟩)
  · exact .inr h
theorem Kp.scr {K : PySem.W.Frag} {H H' : Hp} {B B' : List Addr} (k : Kp H B H' B') {a : Addr} {vs : List V} (h : ScrAt K H a vs) : ScrAt K H' a vs := by
  rcases h with ⟨o, h⟩ | h
  · exact .inl ⟨o, k.imm _ _ h notMut_frz⟩
  · exact .inr h
mutual
theorem Fz.kp {K : PySem.W.Frag} {H H' : Hp} {B B' : List Addr} (k : Kp H B H' B') : ∀ {d : D} {v : V}, Fz K H B d v → Fz K H' B' d v
  | _, _, .non => .non
  | _, _, .bl b => .bl b
  | _, _, .int i => .int i
  | _, _, .str x => .str x
  | _, _, .tup h1 h2 => .tup (k.sqT h1) (FzL.kp k h2)
  | _, _, .lst h0 h1 h2 => .lst (k.keep _ _ h1 h0).2 (k.keep _ _ h1 h0).1 (FzL.kp k h2)
  | _, _, .dk h0 h1 h3 h2 => .dk (k.keep _ _ h1 h0).2 (k.keep _ _ h1 h0).1 h3 (FzL.kp k h2)
  | _, _, .dt h0 h1 h3 h2 => .dt (k.keep _ _ h1 h0).2 (k.keep _ _ h1 h0).1 h3 (FzL.kp k h2)
  | _, _, .scr h => .scr (k.scr h)
theorem FzL.kp {K : PySem.W.Frag} {H H' : Hp} {B B' : List Addr} (k : Kp H B H' B') : ∀ {ds : List D} {vs : List V}, FzL K H B ds vs → FzL K H' B' ds vs
  | _, _, .nil => .nil
  | _, _, .cons h1 h2 => .cons (Fz.kp k h1) (FzL.kp k h2)
end
theorem Kp.weak {H : Hp} {B B' : List Addr} (h : ∀ a ∈ B', a ∈ B) : Kp H B H B' := ⟨fun a _ e n => ⟨e, fun z => n (h a z)⟩, fun _ _ e _ => e⟩
theorem FzL.length {K : PySem.W.Frag} {H : Hp} {B : List Addr} : ∀ {ds : List D} {vs : List V}, FzL K H B ds vs → ds.length = vs.length
  | _, _, .nil => rfl
  | _, _, .cons _ h => congrArg (· + 1) (FzL.length h)
theorem FzL.append {K : PySem.W.Frag} {H : Hp} {B : List Addr} : ∀ {ds es : List D} {vs ws : List V}, FzL K H B ds vs → FzL K H B es ws → FzL K H B (ds ++ es) (vs ++ ws)
  | _, _, _, _, .nil, h => h
  | _, _, _, _, .cons h1 h2, h => .cons h1 (FzL.append h2 h)
theorem FzL.get {K : PySem.W.Frag} {H : Hp} {B : List Addr} : ∀ {ds : List D} {vs : List V} {i : Nat} {d : D}, FzL K H B ds vs → ds[i]? = some d → ∃ v, vs[i]? = some v ∧ Fz K H B d v
  | _, _, _, _, .nil, e => by simp at e
  | _, _, 0, _, .cons h _, e => by simp at e; subst e; exact ⟨_, rfl, h⟩
  | _, _, i + 1, d, .cons _ h, e => by
    obtain ⟨v, h1, h2⟩ := FzL.get (i := i) (d := d) h (by simpa using e)
    exact ⟨v, by simpa using h1, h2⟩
theorem FzL.getV {K : PySem.W.Frag} {H : Hp} {B : List Addr} {ds : List D} {vs : List V} {i : Nat} {v : V} (h : FzL K H B ds vs) (e : vs[i]? = some v) : ∃ d, ds[i]? = some d ∧ Fz K H B d v := by
  have hi : i < vs.length := by
    rcases Nat.lt_or_ge i vs.length with z | z
    · exact z
    · rw [List.getElem?_eq_none z] at e; cases e
  have hd : i < ds.length := by rw [h.length]; exact hi
  obtain ⟨w, h1, h2⟩ := h.get (List.getElem?_eq_getElem hd)
  rw [e] at h1; cases h1
  exact ⟨_, List.getElem?_eq_getElem hd, h2⟩
theorem FzL.take {K : PySem.W.Frag} {H : Hp} {B : List Addr} : ∀ {ds : List D} {vs : List V} (n : Nat), FzL K H B ds vs → FzL K H B (ds.take n) (vs.take n)
  | _, _, 0, _ => .nil
  | _, _, _ + 1, .nil => .nil
  | _, _, n + 1, .cons h1 h2 => .cons h1 (FzL.take n h2)
theorem FzL.drop {K : PySem.W.Frag} {H : Hp} {B : List Addr} : ∀ {ds : List D} {vs : List V} (n : Nat), FzL K H B ds vs → FzL K H B (ds.drop n) (vs.drop n)
  | _, _, 0, h => h
  | _, _, _ + 1, .nil => .nil
  | _, _, n + 1, .cons _ h2 => FzL.drop n h2
theorem FzL.set {K : PySem.W.Frag} {H : Hp} {B : List Addr} {d : D} {v : V} (r : Fz K H B d v) : ∀ {ds : List D} {vs : List V} (n : Nat), FzL K H B ds vs → FzL K H B (ds.set n d) (vs.set n v)
  | _, _, _, .nil => .nil
  | _, _, 0, .cons _ h2 => .cons r h2
  | _, _, n + 1, .cons h1 h2 => .cons h1 (FzL.set r n h2)
theorem FzL.reverse {K : PySem.W.Frag} {H : Hp} {B : List Addr} : ∀ {ds : List D} {vs : List V}, FzL K H B ds vs → FzL K H B ds.reverse vs.reverse
  | _, _, .nil => .nil
  | _, _, .cons h1 h2 => by rw [List.reverse_cons, List.reverse_cons]; exact (FzL.reverse h2).append (.cons h1 .nil)
theorem FzL.ints {K : PySem.W.Frag} {H : Hp} {B : List Addr} : ∀ (ns : List Int), FzL K H B (ns.map D.int) (ns.map V.int)
  | [] => .nil
  | n :: ns => .cons (.int n) (FzL.ints ns)

/-! ## objects that are owned: at a, with all its own addresses L -/
def kGreat : Key := .inr "great"
def kCells : Key := .inr "cells"
def kRest : Key := .inr "rest"
def kTurn : Key := .inr "turn"
inductive Ow (K : PySem.W.Frag) (H : Hp) (B : List Addr) : Ob → Addr → List Addr → Prop where
  | lst {a : Addr} {vs : List V} {xs : List D} : H a = some (.lst vs) → FzL K H B xs vs → Ow K H B (.lst xs) a [a]
  | dk {a : Addr} {ws : List (Key × V)} {kvs : List (Key × D)} : H a = some (.dK ws) → kvs.map (·.1) = ws.map (·.1) → FzL K H B (kvs.map (·.2)) (ws.map (·.2)) → Ow K H B (.dk kvs) a [a]
  | dt {a : Addr} {ws : List (List Key × V)} {kvs : List (List Key × D)} : H a = some (.dT ws) → kvs.map (·.1) = ws.map (·.1) → FzL K H B (kvs.map (·.2)) (ws.map (·.2)) → Ow K H B (.dt kvs) a [a]
  | drw {a g : Addr} {cv : V} {s : DS} : H a = some (.dK [(kGreat, .ref g), (kCells, cv), (kRest, .int s.rest), (kTurn, .int s.turn)]) → H g = some (.lst (s.great.map V.int)) → Fz K H B (.lst (s.cells.map D.int)) cv → Ow K H B (.drw s) a [a, g]
theorem Ow.kp {K : PySem.W.Frag} {H H' : Hp} {B B' : List Addr} {o : Ob} {a : Addr} {L : List Addr} (h : Ow K H B o a L) (k : Kp H B H' B') (e : ∀ b ∈ L, H' b = H b) : Ow K H' B' o a L := by
  cases h with
  | lst h1 h2 => exact .lst (by rw [e _ (by simp)]; exact h1) (h2.kp k)
  | dk h1 h3 h2 => exact .dk (by rw [e _ (by simp)]; exact h1) h3 (h2.kp k)
  | dt h1 h3 h2 => exact .dt (by rw [e _ (by simp)]; exact h1) h3 (h2.kp k)
  | drw h1 h2 h3 => exact .drw (by rw [e _ (by simp)]; exact h1) (by rw [e _ (by simp)]; exact h2) (h3.kp k)
theorem Ow.tr {K : PySem.W.Frag} {H : Hp} {B : List Addr} {o : Ob} {a : Addr} {L : List Addr} (h : Ow K H B o a L) : ∀ b ∈ L, ∃ u, H b = some u ∧ Mut (some u) := by
  cases h with
  | lst h1 _ => intro b hb; simp only [List.mem_singleton] at hb; subst hb; exact ⟨_, h1, True.intro⟩
  | dk h1 _ _ => intro b hb; simp only [List.mem_singleton] at hb; subst hb; exact ⟨_, h1, True.intro⟩
  | dt h1 _ _ => intro b hb; simp only [List.mem_singleton] at hb; subst hb; exact ⟨_, h1, True.intro⟩
  | drw h1 h2 h3 =>
    intro b hb
    simp only [List.mem_cons, List.not_mem_nil, or_false] at hb
    rcases hb with rfl | rfl
    · exact ⟨_, h1, True.intro⟩
    · exact ⟨_, h2, True.intro⟩
def rdO : Ob → Option D
  | .lst xs => some (.lst xs)
  | .dk kvs => some (.dk kvs)
  | .dt kvs => some (.dt kvs)
  | .drw _ => none

/-! ## frames -/
inductive SlR (K : PySem.W.Frag) (H : Hp) (B : List Addr) (a0 : Addr) : Slot → Option V → List Addr → Prop where
  | un {ov : Option V} : SlR K H B a0 .un ov []
  | imm {d : D} {v : V} : Fz K H B d v → SlR K H B a0 (.imm d) (some v) []
  | own {o : Ob} {a : Addr} {L : List Addr} : Ow K H B o a L → SlR K H B a0 (.own o) (some (.ref a)) L
  | ob : SlR K H B a0 .ob (some (.ref a0)) []
inductive SsR (K : PySem.W.Frag) (H : Hp) (B : List Addr) (a0 : Addr) : List Slot → List (Option V) → List Addr → Prop where
  | nil : SsR K H B a0 [] [] []
  | cons {s : Slot} {ov : Option V} {L L' : List Addr} {ss : List Slot} {σ : List (Option V)} : SlR K H B a0 s ov L → SsR K H B a0 ss σ L' → SsR K H B a0 (s :: ss) (ov :: σ) (L ++ L')
inductive ObR (K : PySem.W.Frag) (H : Hp) (B : List Addr) (a0 : Addr) : Option Ob → List Addr → Prop where
  | no : ObR K H B a0 none []
  | so {o : Ob} {L : List Addr} : Ow K H B o a0 L → ObR K H B a0 (some o) L
inductive RR (K : PySem.W.Frag) (H : Hp) (B : List Addr) (a0 : Addr) (ρ : Rho) (σ : List (Option V)) : List Addr → Prop where
  | mk {L1 L2 : List Addr} : ObR K H B a0 ρ.ob L1 → SsR K H B a0 ρ.sl σ L2 → RR K H B a0 ρ σ (L1 ++ L2)
section
variable {K : PySem.W.Frag} {H H' : Hp} {B B' : List Addr} {a0 : Addr}
theorem SlR.kp {s : Slot} {ov : Option V} {L : List Addr} (h : SlR K H B a0 s ov L) (k : Kp H B H' B') (e : ∀ b ∈ L, H' b = H b) : SlR K H' B' a0 s ov L := by
  cases h with
  | un => exact .un
  | imm h => exact .imm (h.kp k)
  | own h => exact .own (h.kp k e)
  | ob => exact .ob
theorem SsR.kp : ∀ {ss : List Slot} {σ : List (Option V)} {L : List Addr}, SsR K H B a0 ss σ L → Kp H B H' B' → (∀ b ∈ L, H' b = H b) → SsR K H' B' a0 ss σ L
  | _, _, _, .nil, _, _ => .nil
  | _, _, _, .cons h t, k, e => .cons (h.kp k fun b z => e b (List.mem_append_left _ z)) (SsR.kp t k fun b z => e b (List.mem_append_right _ z))
theorem ObR.kp {o : Option Ob} {L : List Addr} (h : ObR K H B a0 o L) (k : Kp H B H' B') (e : ∀ b ∈ L, H' b = H b) : ObR K H' B' a0 o L := by
  cases h with
  | no => exact .no
  | so h => exact .so (h.kp k e)
theorem RR.kp {ρ : Rho} {σ : List (Option V)} {L : List Addr} (h : RR K H B a0 ρ σ L) (k : Kp H B H' B') (e : ∀ b ∈ L, H' b = H b) : RR K H' B' a0 ρ σ L := by
  cases h with
  | mk h1 h2 => exact .mk (h1.kp k fun b z => e b (List.mem_append_left _ z)) (h2.kp k fun b z => e b (List.mem_append_right _ z))
theorem RR.weak {ρ : Rho} {σ : List (Option V)} {L : List Addr} (h : RR K H B a0 ρ σ L) (w : ∀ a ∈ B', a ∈ B) : RR K H B' a0 ρ σ L := h.kp (Kp.weak w) fun _ _ => rfl
theorem SlR.tr {s : Slot} {ov : Option V} {L : List Addr} (h : SlR K H B a0 s ov L) : ∀ b ∈ L, ∃ u, H b = some u ∧ Mut (some u) := by
  cases h with
  | un => intro b hb; simp at hb
  | imm _ => intro b hb; simp at hb
  | own h => exact h.tr
  | ob => intro b hb; simp at hb
theorem SsR.tr : ∀ {ss : List Slot} {σ : List (Option V)} {L : List Addr}, SsR K H B a0 ss σ L → ∀ b ∈ L, ∃ u, H b = some u ∧ Mut (some u)
  | _, _, _, .nil, b, hb => by simp at hb
  | _, _, _, .cons h t, b, hb => by
    rcases List.mem_append.mp hb with z | z
    · exact h.tr b z
    · exact SsR.tr t b z
theorem ObR.tr {o : Option Ob} {L : List Addr} (h : ObR K H B a0 o L) : ∀ b ∈ L, ∃ u, H b = some u ∧ Mut (some u) := by
  cases h with
  | no => intro b hb; simp at hb
  | so h => exact h.tr
theorem RR.tr {ρ : Rho} {σ : List (Option V)} {L : List Addr} (h : RR K H B a0 ρ σ L) : ∀ b ∈ L, ∃ u, H b = some u ∧ Mut (some u) := by
  cases h with
  | mk h1 h2 =>
    intro b hb
    rcases List.mem_append.mp hb with z | z
    · exact h1.tr b z
    · exact h2.tr b z
theorem SsR.get : ∀ {ss : List Slot} {σ : List (Option V)} {L : List Addr} {i : Nat} {s : Slot}, SsR K H B a0 ss σ L → ss[i]? = some s → ∃ ov Li, σ[i]? = some ov ∧ SlR K H B a0 s ov Li ∧ ∀ b ∈ Li, b ∈ L
  | _, _, _, _, _, .nil, e => by simp at e
  | _, _, _, 0, _, .cons h t, e => by simp at e; subst e; exact ⟨_, _, rfl, h, fun b z => List.mem_append_left _ z⟩
  | _, _, _, i + 1, s, .cons h t, e => by
    obtain ⟨ov, Li, h1, h2, h3⟩ := SsR.get (i := i) (s := s) t (by simpa using e)
    exact ⟨ov, Li, by simpa using h1, h2, fun b z => List.mem_append_right _ (h3 b z)⟩
/-- a slot is stored -/
theorem SsR.set : ∀ {ss : List Slot} {σ : List (Option V)} {L : List Addr} (i : Nat) {s : Slot} {ov : Option V} {Ls : List Addr}, SsR K H B a0 ss σ L → SlR K H B a0 s ov Ls →
    ∃ L', SsR K H B a0 (ss.set i s) (σ.set i ov) L' ∧ (∀ b ∈ L', b ∈ L ∨ b ∈ Ls) ∧ (∀ M : List Addr, (M ++ (L ++ Ls)).Nodup → (M ++ L').Nodup)
  | _, _, _, _, _, _, Ls, .nil, _ => ⟨[], .nil, fun b z => absurd z (by simp), fun M z => by
      rw [List.nodup_append] at z ⊢; exact ⟨z.1, by simp, by simp⟩⟩
  | _, _, _, 0, s, ov, Ls, .cons (L := L) (L' := L') h t, r => ⟨Ls ++ L', .cons r t, fun b z => by
      rcases List.mem_append.mp z with z | z
      · exact .inr z
      · exact .inl (List.mem_append_right _ z), fun M z => by
      simp only [List.nodup_append, List.mem_append] at z ⊢
      refine ⟨z.1, ⟨z.2.1.2.1, z.2.1.1.2.1, fun a ha b hb => fun e => z.2.1.2.2 b (.inr hb) a ha e.symm⟩, fun a ha b hb => ?_⟩
      rcases hb with hb | hb
      · exact z.2.2 a ha b (.inr hb)
      · exact z.2.2 a ha b (.inl (.inr hb))⟩
  | _, _, _, i + 1, s, ov, Ls, .cons (L := L) (L' := L') h t, r => by
      obtain ⟨L2, h1, h2, h3⟩ := SsR.set i t r
      refine ⟨L ++ L2, .cons h h1, fun b z => ?_, fun M z => ?_⟩
      · rcases List.mem_append.mp z with z | z
        · exact .inl (List.mem_append_left _ z)
        · rcases h2 b z with z | z
          · exact .inl (List.mem_append_right _ z)
          · exact .inr z
      · have e : (M ++ L) ++ (L' ++ Ls) = M ++ ((L ++ L') ++ Ls) := by simp
        have := h3 (M ++ L) (by rw [e]; exact z)
        rw [List.append_assoc] at this
        exact this
def Rho.set (ρ : Rho) (i : Nat) (s : Slot) : Rho := { ρ with sl := ρ.sl.set i s }
def Rho.get (ρ : Rho) (i : Nat) : Slot := (ρ.sl[i]?).getD .un
theorem Rho.get_un {ρ : Rho} {i : Nat} {s : Slot} (h : ρ.get i = s) (n : s ≠ .un) : ρ.sl[i]? = some s := by
  unfold Rho.get at h
  cases e : ρ.sl[i]? with
  | none => rw [e] at h; exact absurd h.symm n
  | some u => rw [e] at h; exact congrArg some h
theorem RR.set {ρ : Rho} {σ : List (Option V)} {L Ls : List Addr} (h : RR K H B a0 ρ σ L) (i : Nat) {s : Slot} {ov : Option V} (r : SlR K H B a0 s ov Ls) (nd : (L ++ Ls).Nodup) :
    ∃ L', RR K H B a0 (ρ.set i s) (σ.set i ov) L' ∧ (∀ b ∈ L', b ∈ L ∨ b ∈ Ls) ∧ L'.Nodup := by
  cases h with
  | @mk L1 L2 h1 h2 =>
    obtain ⟨L', a, b, c⟩ := h2.set i r
    refine ⟨L1 ++ L', .mk h1 a, fun x z => ?_, c L1 (by rw [← List.append_assoc]; exact nd)⟩
    rcases List.mem_append.mp z with z | z
    · exact .inl (List.mem_append_left _ z)
    · rcases b x z with z | z
      · exact .inl (List.mem_append_right _ z)
      · exact .inr z
/-- a slot's own object, its part cut out -/
theorem SsR.cut : ∀ {ss : List Slot} {σ : List (Option V)} {L : List Addr} {i : Nat} {s : Slot}, SsR K H B a0 ss σ L → ss[i]? = some s → ∃ ov Li M N, σ[i]? = some ov ∧ SlR K H B a0 s ov Li ∧ L = M ++ Li ++ N ∧
      ∀ (H' : Hp) (B' : List Addr) (s' : Slot) (Li' : List Addr), SlR K H' B' a0 s' ov Li' → Kp H B H' B' → (∀ b ∈ M ++ N, H' b = H b) → SsR K H' B' a0 (ss.set i s') σ (M ++ Li' ++ N)
  | _, _, _, _, _, .nil, e => by simp at e
  | _, _, _, 0, _, .cons (L := L) (L' := L') h t, e => by
    simp at e; subst e
    refine ⟨_, _, [], L', rfl, h, rfl, fun H' B' s' Li' r k q => ?_⟩
    exact .cons r (t.kp k fun b z => q b (by simpa using z))
  | _, _, _, i + 1, s, .cons (L := L) (L' := L') h t, e => by
    obtain ⟨ov, Li, M, N, h1, h2, h3, h4⟩ := SsR.cut (i := i) (s := s) t (by simpa using e)
    refine ⟨ov, Li, L ++ M, N, by simpa using h1, h2, by rw [h3]; simp, fun H' B' s' Li' r k q => ?_⟩
    have := SsR.cons (h.kp k fun b z => q b (by simp [z])) (h4 H' B' s' Li' r k fun b z => q b (by simp at z ⊢; rcases z with z | z <;> simp [z]))
    have e2 : (L ++ M) ++ Li' ++ N = L ++ (M ++ Li' ++ N) := by simp
    rw [e2]
    exact this
theorem RR.cut {ρ : Rho} {σ : List (Option V)} {L : List Addr} {i : Nat} {s : Slot} (h : RR K H B a0 ρ σ L) (e : ρ.sl[i]? = some s) : ∃ ov Li M N, σ[i]? = some ov ∧ SlR K H B a0 s ov Li ∧ L = M ++ Li ++ N ∧
      ∀ (H' : Hp) (B' : List Addr) (s' : Slot) (Li' : List Addr), SlR K H' B' a0 s' ov Li' → Kp H B H' B' → (∀ b ∈ M ++ N, H' b = H b) → RR K H' B' a0 (ρ.set i s') σ (M ++ Li' ++ N) := by
  cases h with
  | @mk L1 L2 h1 h2 =>
    obtain ⟨ov, Li, M, N, e1, e2, e3, e4⟩ := h2.cut e
    refine ⟨ov, Li, L1 ++ M, N, e1, e2, by rw [e3]; simp, fun H' B' s' Li' r k q => ?_⟩
    have := RR.mk (ρ := ρ.set i s') (h1.kp k fun b z => q b (by simp [z])) (e4 H' B' s' Li' r k fun b z => q b (by simp at z ⊢; rcases z with z | z <;> simp [z]))
    have e5 : (L1 ++ M) ++ Li' ++ N = L1 ++ (M ++ Li' ++ N) := by simp
    rw [e5]
    exact this
/-- the object that was handed in, cut out -/
theorem RR.cutOb {ρ : Rho} {σ : List (Option V)} {L : List Addr} {o : Ob} (h : RR K H B a0 ρ σ L) (e : ρ.ob = some o) : ∃ Li N, Ow K H B o a0 Li ∧ L = Li ++ N ∧
      ∀ (H' : Hp) (B' : List Addr) (o' : Ob) (Li' : List Addr), Ow K H' B' o' a0 Li' → Kp H B H' B' → (∀ b ∈ N, H' b = H b) → RR K H' B' a0 { ρ with ob := some o' } σ (Li' ++ N) := by
  obtain ⟨sl, ob⟩ := ρ
  subst e
  cases h with
  | @mk L1 L2 h1 h2 =>
    cases h1 with
    | so h1 => exact ⟨L1, L2, h1, rfl, fun H' B' o' Li' r k q => .mk (.so r) (h2.kp k q)⟩
theorem RR.slot {ρ : Rho} {σ : List (Option V)} {L : List Addr} {i : Nat} {s : Slot} (h : RR K H B a0 ρ σ L) (e : ρ.sl[i]? = some s) : ∃ ov Li, σ[i]? = some ov ∧ SlR K H B a0 s ov Li ∧ ∀ b ∈ Li, b ∈ L := by
  obtain ⟨ov, Li, M, N, h1, h2, h3, _⟩ := h.cut e
  exact ⟨ov, Li, h1, h2, fun b z => by rw [h3]; simp [z]⟩
theorem SsR.length : ∀ {ss : List Slot} {σ : List (Option V)} {L : List Addr}, SsR K H B a0 ss σ L → ss.length = σ.length
  | _, _, _, .nil => rfl
  | _, _, _, .cons _ t => congrArg (· + 1) (SsR.length t)
end

/-! ## one heap behind another -/
structure Fr (H H' : Hp) (L L' : List Addr) : Prop where
  keep : ∀ a o, H a = some o → a ∉ L → H' a = some o
  imm : ∀ a o, H a = some o → ¬ Mut (some o) → H' a = some o
  new : ∀ a ∈ L', a ∈ L ∨ H a = none
structure WF (H : Hp) (L B : List Addr) : Prop where
  nd : L.Nodup
  dis : ∀ a ∈ B, a ∉ L
  tr : ∀ a ∈ B, ∃ o, H a = some o
section
variable {H H1 H2 H' : Hp} {L L1 L2 L' B : List Addr}
theorem Fr.refl : Fr H H L L := ⟨fun _ _ e _ => e, fun _ _ e _ => e, fun _ z => .inl z⟩
theorem Fr.sub (f : Fr H H' L L') (h : ∀ a ∈ L1, a ∈ L') : Fr H H' L L1 := ⟨f.keep, f.imm, fun a z => f.new a (h a z)⟩
theorem Fr.trans (f : Fr H H1 L L1) (g : Fr H1 H2 L1 L2) : Fr H H2 L L2 where
  keep := fun a o e n => g.keep a o (f.keep a o e n) fun z => by
    rcases f.new a z with q | q
    · exact n q
    · rw [e] at q; cases q
  imm := fun a o e n => g.imm a o (f.imm a o e n) n
  new := fun a z => by
    rcases g.new a z with q | q
    · exact f.new a q
    · by_cases hL : a ∈ L
      · exact .inl hL
      · cases e : H a with
        | none => exact .inr rfl
        | some o => rw [f.keep a o e hL] at q; cases q
theorem Fr.kp (f : Fr H H' L L') (w : WF H L B) : Kp H (L ++ B) H' (L' ++ B) where
  keep := fun a o e n => by
    rw [List.mem_append, not_or] at n
    refine ⟨f.keep a o e n.1, fun z => ?_⟩
    rcases List.mem_append.mp z with z | z
    · rcases f.new a z with q | q
      · exact n.1 q
      · rw [e] at q; cases q
    · exact n.2 z
  imm := f.imm
theorem WF.next (w : WF H L B) (f : Fr H H' L L') (nd : L'.Nodup) : WF H' L' B where
  nd := nd
  dis := fun a z q => by
    rcases f.new a q with y | y
    · exact w.dis a z y
    · obtain ⟨o, e⟩ := w.tr a z; rw [e] at y; cases y
  tr := fun a z => by
    obtain ⟨o, e⟩ := w.tr a z
    exact ⟨o, f.keep a o e (w.dis a z)⟩
theorem WF.cons {Lv : List Addr} (w : WF H L B) (nd : (L ++ Lv).Nodup) (tr : ∀ a ∈ Lv, ∃ o, H a = some o) : WF H L (Lv ++ B) where
  nd := (List.nodup_append.mp nd).1
  dis := fun a z q => by
    rcases List.mem_append.mp z with z | z
    · exact (List.nodup_append.mp nd).2.2 a q a z rfl
    · exact w.dis a z q
  tr := fun a z => by
    rcases List.mem_append.mp z with z | z
    · exact tr a z
    · exact w.tr a z
/-- all that was tracked is as it was -/
def Ex (H H' : Hp) : Prop := ∀ a o, H a = some o → H' a = some o
theorem Ex.refl : Ex H H := fun _ _ e => e
theorem Ex.trans (a : Ex H H1) (b : Ex H1 H2) : Ex H H2 := fun x o e => b x o (a x o e)
theorem Ex.upd {p : Addr} {u : HO} (h : H p = none) : Ex H (upd H p u) := fun a o e => by rw [upd_ne (ne_of_none e h)]; exact e
theorem Ex.kp {Lv : List Addr} (x : Ex H H') (n : ∀ a ∈ Lv, H a = none) : Kp H B H' (Lv ++ B) where
  keep := fun a o e nb => ⟨x a o e, fun z => by
    rcases List.mem_append.mp z with z | z
    · rw [n a z] at e; cases e
    · exact nb z⟩
  imm := fun a o e _ => x a o e
theorem Ex.kp0 (x : Ex H H') : Kp H B H' B := ⟨fun a o e nb => ⟨x a o e, nb⟩, fun a o e _ => x a o e⟩
end
end FW

namespace FW
open PySem PySem.Spec PyProof.Rows L2

def R.bind {α β : Type} (r : R α) (k : α → Rho → R β) : R β := match r with
  | .ok a ρ => k a ρ
  | .exc x ρ => .exc x ρ
  | .bad => .bad
inductive VR (K : PySem.W.Frag) (a0 : Addr) (σ : List (Option V)) (H : Hp) (B : List Addr) : Val → V → List Addr → Prop where
  | imm {d : D} {v : V} : Fz K H B d v → VR K a0 σ H B (.imm d) v []
  | own {o : Ob} {a : Addr} {L : List Addr} : Ow K H B o a L → VR K a0 σ H B (.own o) (.ref a) L
  | bor {i : Nat} {v : V} : σ[i]? = some (some v) → VR K a0 σ H B (.bor i) v []
  | ob : VR K a0 σ H B .ob (.ref a0) []
inductive VRs (K : PySem.W.Frag) (a0 : Addr) (σ : List (Option V)) (H : Hp) (B : List Addr) : List Val → List V → List Addr → Prop where
  | nil : VRs K a0 σ H B [] [] []
  | cons {x : Val} {v : V} {L L' : List Addr} {xs : List Val} {vs : List V} : VR K a0 σ H B x v L → VRs K a0 σ H B xs vs L' → VRs K a0 σ H B (x :: xs) (v :: vs) (L ++ L')
/-- a made value: data or a new object -/
inductive VP (K : PySem.W.Frag) (H : Hp) (B : List Addr) : Val → V → List Addr → Prop where
  | imm {d : D} {v : V} : Fz K H B d v → VP K H B (.imm d) v []
  | own {o : Ob} {a : Addr} {L : List Addr} : Ow K H B o a L → VP K H B (.own o) (.ref a) L
inductive XR (K : PySem.W.Frag) (mg : Str → Option Value) (H : Hp) (B : List Addr) (x : Exn) : Value → Option Addr → Prop where
  | plain {C : Addr} : mg x.cls = some (.ref C) → x.fs = [] → XR K mg H B x (.ref C) none
  | flds {C dx : Addr} {ws : List (Str × V)} : mg x.cls = some (.ref C) → x.fs ≠ [] → H dx = some (.xd ws) → x.fs.map (·.1) = ws.map (·.1) → FzL K H B (x.fs.map (·.2)) (ws.map (·.2)) → XR K mg H B x (.ref C) (some dx)
section
variable {K : PySem.W.Frag} {mg : Str → Option Value} {H H' H1 : Hp} {B B' : List Addr} {a0 : Addr} {σ : List (Option V)}
theorem VR.kp {x : Val} {v : V} {L : List Addr} (h : VR K a0 σ H B x v L) (k : Kp H B H' B') (e : ∀ b ∈ L, H' b = H b) : VR K a0 σ H' B' x v L := by
  cases h with
  | imm h => exact .imm (h.kp k)
  | own h => exact .own (h.kp k e)
  | bor h => exact .bor h
  | ob => exact .ob
theorem VR.tr {x : Val} {v : V} {L : List Addr} (h : VR K a0 σ H B x v L) : ∀ b ∈ L, ∃ o, H b = some o := by
  cases h with
  | imm h => simp
  | own h => exact fun b z => let ⟨o, e, _⟩ := h.tr b z; ⟨o, e⟩
  | bor h => simp
  | ob => simp
theorem VRs.kp : ∀ {xs : List Val} {vs : List V} {L : List Addr}, VRs K a0 σ H B xs vs L → Kp H B H' B' → (∀ b ∈ L, H' b = H b) → VRs K a0 σ H' B' xs vs L
  | _, _, _, .nil, _, _ => .nil
  | _, _, _, .cons h t, k, e => .cons (h.kp k fun b z => e b (List.mem_append_left _ z)) (VRs.kp t k fun b z => e b (List.mem_append_right _ z))
theorem VRs.tr : ∀ {xs : List Val} {vs : List V} {L : List Addr}, VRs K a0 σ H B xs vs L → ∀ b ∈ L, ∃ o, H b = some o
  | _, _, _, .nil, b, z => absurd z (by simp)
  | _, _, _, .cons h t, b, z => by
    rcases List.mem_append.mp z with z | z
    · exact h.tr b z
    · exact VRs.tr t b z
theorem VP.vr {x : Val} {v : V} {L : List Addr} (h : VP K H B x v L) : VR K a0 σ H B x v L := by
  cases h with
  | imm h => exact .imm h
  | own h => exact .own h
theorem VP.kp {x : Val} {v : V} {L : List Addr} (h : VP K H B x v L) (k : Kp H B H' B') (e : ∀ b ∈ L, H' b = H b) : VP K H' B' x v L := by
  cases h with
  | imm h => exact .imm (h.kp k)
  | own h => exact .own (h.kp k e)
theorem VP.tr {x : Val} {v : V} {L : List Addr} (h : VP K H B x v L) : ∀ b ∈ L, ∃ o, H b = some o := by
  cases h with
  | imm h => simp
  | own h => exact fun b z => let ⟨o, e, _⟩ := h.tr b z; ⟨o, e⟩
end

/-! ## readings by evaluators -/
/-- what is to be shown of a result -/
def Pe {α β : Type} (K : PySem.W.Frag) (mg : Str → Option Value) (W : WX) (B : List Addr) (a0 : Addr) (σ : L2.St) (H : Hp) (L : List Addr) (rel : Hp → List Addr → α → β → List Addr → Prop) (Q : β → Hp → Prop) : R α → Prop
  | .ok a ρ' => ∀ b H' L' Lv, RR K H' (L' ++ Lv ++ B) a0 ρ' σ L' → rel H' (L' ++ Lv ++ B) a b Lv → (L' ++ Lv).Nodup → Fr H H' L (L' ++ Lv) → Q b H'
  | .exc x ρ' => ∀ cls d H' L', RR K H' (L' ++ B) a0 ρ' σ L' → XR K mg H' (L' ++ B) x cls d → L'.Nodup → Fr H H' L L' → W cls d σ H'
  | .bad => False
def tEv (K : PySem.W.Frag) (mg : Str → Option Value) (W : WX) (f : EE) : TE := fun σ H Q =>
  ∃ ρ L B a0, RR K H (L ++ B) a0 ρ σ L ∧ WF H L B ∧ Pe K mg W B a0 σ H L (VR K a0 σ) Q (f ρ)
def tEvs (K : PySem.W.Frag) (mg : Str → Option Value) (W : WX) (f : EEs) : TA := fun σ H Q =>
  ∃ ρ L B a0, RR K H (L ++ B) a0 ρ σ L ∧ WF H L B ∧ Pe K mg W B a0 σ H L (VRs K a0 σ) Q (f ρ)
def relB : Hp → List Addr → Bool → Bool → List Addr → Prop := fun _ _ a b Lv => a = b ∧ Lv = []
def tTv (K : PySem.W.Frag) (mg : Str → Option Value) (W : WX) (f : TT') : TT := fun σ H Q =>
  ∃ ρ L B a0, RR K H (L ++ B) a0 ρ σ L ∧ WF H L B ∧ Pe K mg W B a0 σ H L relB Q (f ρ)

theorem _root_.L2.PE.imp {X : Cx} {e : Expr} {t t' : TE} (h : PE X e t) (i : ∀ σ H Q, t' σ H Q → t σ H Q) : PE X e t' := ⟨fun pins s σ H Q I q => h.run pins s σ H Q I (i σ H Q q)⟩
theorem _root_.L2.PT.imp {X : Cx} {e : Expr} {t t' : TT} (h : PT X e t) (i : ∀ σ H Q, t' σ H Q → t σ H Q) : PT X e t' := ⟨fun pins s σ H Q I q => h.run pins s σ H Q I (i σ H Q q)⟩
theorem _root_.L2.PA.imp {X : Cx} {e : List Expr} {t t' : TA} (h : PA X e t) (i : ∀ σ H Q, t' σ H Q → t σ H Q) : PA X e t' := ⟨fun pos pins s σ H Q I q => h.run pos pins s σ H Q I (i σ H Q q)⟩
theorem _root_.L2.PS.imp {X : Cx} {e : Stmt} {t t' : TS} (h : PS X e t) (i : ∀ D σ H, t' D σ H → t D σ H) : PS X e t' := ⟨fun pins s σ H D I q => h.run pins s σ H D I (i D σ H q)⟩
theorem _root_.L2.PSs.imp {X : Cx} {e : List Stmt} {t t' : TS} (h : PSs X e t) (i : ∀ D σ H, t' D σ H → t D σ H) : PSs X e t' := ⟨fun pins s σ H D I q => h.run pins s σ H D I (i D σ H q)⟩
section
variable {K : PySem.W.Frag} {mg : Str → Option Value} {W : WX} {σ : L2.St} {H : Hp}
theorem Pe.mono {α β : Type} {B : List Addr} {a0 : Addr} {L : List Addr} {rel : Hp → List Addr → α → β → List Addr → Prop} {Q Q' : β → Hp → Prop} (m : ∀ b H, Q b H → Q' b H) : ∀ {r : R α}, Pe K mg W B a0 σ H L rel Q r → Pe K mg W B a0 σ H L rel Q' r
  | .ok a ρ, h => fun b H' L' Lv r1 r2 nd f => m _ _ (h b H' L' Lv r1 r2 nd f)
  | .exc _ _, h => h
  | .bad, h => h
theorem tEv.mono {f : EE} {Q Q' : VK} (h : tEv K mg W f σ H Q) (m : ∀ b H, Q b H → Q' b H) : tEv K mg W f σ H Q' := by
  obtain ⟨ρ, L, B, a0, h1, h2, h3⟩ := h
  exact ⟨ρ, L, B, a0, h1, h2, h3.mono m⟩
theorem tEvs.mono {f : EEs} {Q Q' : List V → Hp → Prop} (h : tEvs K mg W f σ H Q) (m : ∀ b H, Q b H → Q' b H) : tEvs K mg W f σ H Q' := by
  obtain ⟨ρ, L, B, a0, h1, h2, h3⟩ := h
  exact ⟨ρ, L, B, a0, h1, h2, h3.mono m⟩
end

/-! ## argument lists -/
def eNil : EEs := fun ρ => .ok [] ρ
def eCons (f : EE) (g : EEs) : EEs := fun ρ => (f ρ).bind fun a ρ1 => (g ρ1).bind fun as ρ2 => .ok (a :: as) ρ2
section
variable {K : PySem.W.Frag} {mg : Str → Option Value} {W : WX} {σ : L2.St} {H : Hp}
theorem evs_nil {Q : List V → Hp → Prop} (h : tEvs K mg W eNil σ H Q) : Q [] H := by
  obtain ⟨ρ, L, B, a0, h1, h2, h3⟩ := h
  exact h3 [] H L [] (by simpa using h1) .nil (by simpa using h2.nd) (by simpa using Fr.refl)
/-- a part is known, the rest is reckoned with what the part owns put aside -/
theorem step_in {α β : Type} {ρ1 : Rho} {H1 : Hp} {L L1 Lv B : List Addr} {a0 : Addr} (w : WF H L B) (f : Fr H H1 L (L1 ++ Lv)) (nd : (L1 ++ Lv).Nodup) (tr : ∀ b ∈ Lv, ∃ o, H1 b = some o) (r : RR K H1 (L1 ++ Lv ++ B) a0 ρ1 σ L1) :
    RR K H1 (L1 ++ (Lv ++ B)) a0 ρ1 σ L1 ∧ WF H1 L1 (Lv ++ B) := by
  refine ⟨by rw [← List.append_assoc]; exact r, ?_⟩
  have w1 : WF H1 L1 B := w.next (f.sub fun a z => List.mem_append_left _ z) (List.nodup_append.mp nd).1
  exact w1.cons nd tr
/-- behind the rest -/
theorem step_out {H1 H2 : Hp} {L L1 L2 Lv1 Lv2 B : List Addr} (w : WF H1 L1 (Lv1 ++ B)) (f1 : Fr H H1 L (L1 ++ Lv1)) (nd1 : (L1 ++ Lv1).Nodup) (tr1 : ∀ b ∈ Lv1, ∃ o, H1 b = some o) (nd2 : (L2 ++ Lv2).Nodup) (f2 : Fr H1 H2 L1 (L2 ++ Lv2)) :
    Fr H H2 L (L2 ++ (Lv1 ++ Lv2)) ∧ (L2 ++ (Lv1 ++ Lv2)).Nodup ∧ (∀ b ∈ Lv1, H2 b = H1 b) ∧ Kp H1 (L1 ++ Lv1 ++ B) H2 (L2 ++ (Lv1 ++ Lv2) ++ B) := by
  have n1 : ∀ b ∈ Lv1, b ∉ L1 := fun b z q => (List.nodup_append.mp nd1).2.2 b q b z rfl
  have n2 : ∀ b ∈ Lv1, b ∉ L2 ++ Lv2 := fun b z q => by
    rcases f2.new b q with y | y
    · exact n1 b z y
    · obtain ⟨o, e⟩ := tr1 b z; rw [e] at y; cases y
  refine ⟨⟨fun a o e n => ?_, fun a o e n => f2.imm a o (f1.imm a o e n) n, fun a z => ?_⟩, ?_, fun b z => ?_, ?_⟩
  · have e1 := f1.keep a o e n
    refine f2.keep a o e1 fun z => ?_
    rcases f1.new a (List.mem_append_left _ z) with q | q
    · exact n q
    · rw [e] at q; cases q
  · have old : ∀ a, a ∈ L1 ++ Lv1 ∨ H1 a = none → a ∈ L ∨ H a = none := fun a y => by
      rcases y with y | y
      · exact f1.new a y
      · by_cases hL : a ∈ L
        · exact .inl hL
        · cases e : H a with
          | none => exact .inr rfl
          | some o => rw [f1.keep a o e hL] at y; cases y
    simp only [List.mem_append] at z
    rcases z with z | z | z
    · rcases f2.new a (List.mem_append_left _ z) with q | q
      · exact old a (.inl (List.mem_append_left _ q))
      · exact old a (.inr q)
    · exact old a (.inl (List.mem_append_right _ z))
    · rcases f2.new a (List.mem_append_right _ z) with q | q
      · exact old a (.inl (List.mem_append_left _ q))
      · exact old a (.inr q)
  · rw [List.nodup_append] at nd1 nd2 ⊢
    refine ⟨nd2.1, List.nodup_append.mpr ⟨nd1.2.1, nd2.2.1, fun a ha b hb e => ?_⟩, fun a ha b hb e => ?_⟩
    · subst e; exact n2 a ha (List.mem_append_right _ hb)
    · subst e
      rcases List.mem_append.mp hb with hb | hb
      · exact n2 a hb (List.mem_append_left _ ha)
      · exact nd2.2.2 a ha a hb rfl
  · obtain ⟨o, e⟩ := tr1 b z
    rw [e]; exact f2.keep b o e (n1 b z)
  · refine ⟨fun a o e n => ?_, f2.imm⟩
    simp only [List.mem_append, not_or] at n
    refine ⟨f2.keep a o e n.1.1, fun z => ?_⟩
    simp only [List.mem_append] at z
    rcases z with (z | z | z) | z
    · rcases f2.new a (List.mem_append_left _ z) with q | q
      · exact n.1.1 q
      · rw [e] at q; cases q
    · exact n.1.2 z
    · rcases f2.new a (List.mem_append_right _ z) with q | q
      · exact n.1.1 q
      · rw [e] at q; cases q
    · exact n.2 z
theorem mem_swap {L2 Lv1 Lv2 B : List Addr} : ∀ a ∈ L2 ++ (Lv1 ++ Lv2) ++ B, a ∈ L2 ++ Lv2 ++ (Lv1 ++ B) := fun a z => by
  simp only [List.mem_append] at z ⊢
  rcases z with (z | z | z) | z <;> simp [z]
theorem evs_cons {f : EE} {g : EEs} {Q : List V → Hp → Prop} (h : tEvs K mg W (eCons f g) σ H Q) : tEv K mg W f σ H fun x H1 => tEvs K mg W g σ H1 fun xs H2 => Q (x :: xs) H2 := by
  obtain ⟨ρ, L, B, a0, h1, h2, h3⟩ := h
  refine ⟨ρ, L, B, a0, h1, h2, ?_⟩
  unfold eCons at h3
  cases e : f ρ with
  | bad => rw [e] at h3; exact h3
  | exc x ρ1 => rw [e] at h3; exact h3
  | ok a ρ1 =>
    rw [e] at h3
    intro v H1 L1 Lv1 r1 v1 nd1 f1
    have tr1 := v1.tr
    obtain ⟨r1', w1⟩ := step_in (α := Nat) (β := Nat) h2 f1 nd1 tr1 r1
    refine ⟨ρ1, L1, Lv1 ++ B, a0, r1', w1, ?_⟩
    have h3 : Pe K mg W B a0 σ H L (VRs K a0 σ) Q ((g ρ1).bind fun as ρ2 => .ok (a :: as) ρ2) := h3
    cases e2 : g ρ1 with
    | bad => rw [e2] at h3; exact h3
    | exc x ρ2 =>
      rw [e2] at h3
      intro cls d H2 L2 r2 x2 nd2 f2
      have o := step_out (Lv2 := []) w1 f1 nd1 tr1 (by simpa using nd2) (by simpa using f2)
      have sub : ∀ a ∈ L2 ++ B, a ∈ L2 ++ (Lv1 ++ B) := fun a z => by
        simp only [List.mem_append] at z ⊢
        rcases z with z | z <;> simp [z]
      refine h3 cls d H2 L2 (r2.weak sub) ?_ nd2 (o.1.sub fun a z => List.mem_append_left _ z)
      cases x2 with
      | plain a b => exact .plain a b
      | flds a b c d e => exact .flds a b c d (e.kp (Kp.weak sub))
    | ok as ρ2 =>
      rw [e2] at h3
      intro vs H2 L2 Lv2 r2 v2 nd2 f2
      obtain ⟨o1, o2, o3, o4⟩ := step_out w1 f1 nd1 tr1 nd2 f2
      refine h3 (v :: vs) H2 L2 (Lv1 ++ Lv2) (r2.weak mem_swap) (.cons (v1.kp o4 o3) (v2.kp (Kp.weak mem_swap) fun _ _ => rfl)) o2 o1
end

/-! ## pure operations by values -/
inductive Rt (K : PySem.W.Frag) (H : Hp) (B : List Addr) : D → V → Prop where
  | fz {d : D} {v : V} : Fz K H B d v → Rt K H B d v
  | lst {a : Addr} {vs : List V} {xs : List D} : H a = some (.lst vs) → FzL K H B xs vs → Rt K H B (.lst xs) (.ref a)
  | dk {a : Addr} {ws : List (Key × V)} {kvs : List (Key × D)} : H a = some (.dK ws) → kvs.map (·.1) = ws.map (·.1) → FzL K H B (kvs.map (·.2)) (ws.map (·.2)) → Rt K H B (.dk kvs) (.ref a)
  | dt {a : Addr} {ws : List (List Key × V)} {kvs : List (List Key × D)} : H a = some (.dT ws) → kvs.map (·.1) = ws.map (·.1) → FzL K H B (kvs.map (·.2)) (ws.map (·.2)) → Rt K H B (.dt kvs) (.ref a)
inductive RtL (K : PySem.W.Frag) (H : Hp) (B : List Addr) : List D → List V → Prop where
  | nil : RtL K H B [] []
  | cons {d : D} {v : V} {ds : List D} {vs : List V} : Rt K H B d v → RtL K H B ds vs → RtL K H B (d :: ds) (v :: vs)
def rd (ρ : Rho) : Val → Option D
  | .imm d => some d
  | .own o => rdO o
  | .bor i => match ρ.get i with
    | .own o => rdO o
    | _ => none
  | .ob => match ρ.ob with
    | some o => rdO o
    | none => none
def rds (ρ : Rho) : List Val → Option (List D)
  | [] => some []
  | v :: vs => match rd ρ v with
    | some d => match rds ρ vs with
      | some ds => some (d :: ds)
      | none => none
    | none => none
section
variable {K : PySem.W.Frag} {mg : Str → Option Value} {W : WX} {σ : L2.St} {H : Hp} {B : List Addr} {a0 : Addr}
theorem Ow.rt {o : Ob} {a : Addr} {L : List Addr} {d : D} (h : Ow K H B o a L) (e : rdO o = some d) : Rt K H B d (.ref a) := by
  cases h with
  | lst h1 h2 => cases e; exact .lst h1 h2
  | dk h1 h3 h2 => cases e; exact .dk h1 h3 h2
  | dt h1 h3 h2 => cases e; exact .dt h1 h3 h2
  | drw => cases e
theorem VR.rt {ρ : Rho} {L Lv : List Addr} {x : Val} {v : V} {d : D} (r : RR K H B a0 ρ σ L) (h : VR K a0 σ H B x v Lv) (e : rd ρ x = some d) : Rt K H B d v := by
  cases h with
  | imm h => cases e; exact .fz h
  | own h => exact h.rt e
  | @bor i v hv =>
    simp only [rd] at e
    cases g : ρ.get i with
    | own o =>
      rw [g] at e
      obtain ⟨ov, Li, s1, s2, _⟩ := r.slot (Rho.get_un g (fun z => nomatch z))
      rw [hv] at s1; cases s1
      cases s2 with
      | own h => exact h.rt e
    | un => rw [g] at e; cases e
    | imm d => rw [g] at e; cases e
    | ob => rw [g] at e; cases e
  | ob =>
    simp only [rd] at e
    cases g : ρ.ob with
    | none => rw [g] at e; cases e
    | some o =>
      rw [g] at e
      obtain ⟨Li, N, s1, _⟩ := r.cutOb g
      exact s1.rt e
theorem VRs.rt {ρ : Rho} {L : List Addr} (r : RR K H B a0 ρ σ L) : ∀ {xs : List Val} {vs : List V} {Lv : List Addr} {ds : List D}, VRs K a0 σ H B xs vs Lv → rds ρ xs = some ds → RtL K H B ds vs
  | _, _, _, _, .nil, e => by cases e; exact .nil
  | x :: xs, _, _, _, .cons h t, e => by
    unfold rds at e
    cases e1 : rd ρ x with
    | none => rw [e1] at e; cases e
    | some d =>
      rw [e1] at e
      cases e2 : rds ρ xs with
      | none => rw [e2] at e; cases e
      | some ds =>
        rw [e2] at e; cases e
        exact .cons (h.rt r e1) (VRs.rt r t e2)
end
/-- by values: r is shown by g -/
def Pure (K : PySem.W.Frag) (r : List V → Hp → VK → Prop) (g : List D → Option Val) : Prop :=
  ∀ (ds : List D) (vs : List V) (H : Hp) (B : List Addr) (Q : VK) (res : Val), RtL K H B ds vs → g ds = some res →
    (∀ v' H' Lv, VP K H' (Lv ++ B) res v' Lv → Ex H H' → Lv.Nodup → (∀ a ∈ Lv, H a = none) → Q v' H') → r vs H Q
def eOp (g : List D → Option Val) (fs : EEs) : EE := fun ρ => (fs ρ).bind fun vals ρ1 => match rds ρ1 vals with
  | some ds => match g ds with
    | some r => .ok r ρ1
    | none => .bad
  | none => .bad
theorem ev_op {K : PySem.W.Frag} {mg : Str → Option Value} {W : WX} {σ : L2.St} {H : Hp} {Q : VK} {g : List D → Option Val} {fs : EEs} {r : List V → Hp → VK → Prop} (p : Pure K r g) (h : tEv K mg W (eOp g fs) σ H Q) : tEvs K mg W fs σ H fun vs H2 => r vs H2 Q := by
  obtain ⟨ρ, L, B, a0, h1, h2, h3⟩ := h
  refine ⟨ρ, L, B, a0, h1, h2, ?_⟩
  unfold eOp at h3
  cases e : fs ρ with
  | bad => rw [e] at h3; exact h3
  | exc x ρ1 => rw [e] at h3; exact h3
  | ok vals ρ1 =>
    rw [e] at h3
    intro vs H1 L1 Lv1 r1 v1 nd1 f1
    simp only [R.bind] at h3
    cases e1 : rds ρ1 vals with
    | none => rw [e1] at h3; exact h3.elim
    | some ds =>
      rw [e1] at h3
      simp only at h3
      cases e2 : g ds with
      | none => rw [e2] at h3; exact h3.elim
      | some res =>
        rw [e2] at h3
        refine p ds vs H1 (L1 ++ Lv1 ++ B) Q res (v1.rt r1 e1) e2 fun v' H2 Lv2 vp ex nd2 fresh => ?_
        have sub : ∀ a ∈ L1 ++ Lv2 ++ B, a ∈ Lv2 ++ (L1 ++ Lv1 ++ B) := fun a z => by
          simp only [List.mem_append] at z ⊢
          rcases z with (z | z) | z <;> simp [z]
        have tr := r1.tr
        have k : Kp H1 (L1 ++ Lv1 ++ B) H2 (L1 ++ Lv2 ++ B) := ⟨fun a o e n => ⟨ex a o e, fun z => by
          simp only [List.mem_append, not_or] at z n
          rcases z with (z | z) | z
          · exact n.1.1 z
          · rw [fresh a z] at e; cases e
          · exact n.2 z⟩, fun a o e _ => ex a o e⟩
        refine h3 v' H2 L1 Lv2 (r1.kp k fun b z => ?_) ((vp.vr (a0 := a0) (σ := σ)).kp (Kp.weak sub) fun _ _ => rfl) ?_ ?_
        · obtain ⟨o, e, _⟩ := tr b z
          rw [e, ex b o e]
        · refine List.nodup_append.mpr ⟨(List.nodup_append.mp nd1).1, nd2, fun a ha b hb e => ?_⟩
          subst e
          obtain ⟨o, e, _⟩ := tr a ha
          rw [fresh a hb] at e; cases e
        · refine ⟨fun a o e n => ex a o (f1.keep a o e n), fun a o e n => ex a o (f1.imm a o e n), fun a z => ?_⟩
          rcases List.mem_append.mp z with z | z
          · exact f1.new a (List.mem_append_left _ z)
          · by_cases hL : a ∈ L
            · exact .inl hL
            · cases e : H a with
              | none => exact .inr rfl
              | some o =>
                have y := fresh a z
                rw [f1.keep a o e hL] at y; cases y
end FW

namespace FW
open PySem PySem.Spec PyProof.Rows L2

/-! ## what a def is worth -/
inductive FR where
  | ok (v : Val) | exc (x : Exn) | bad
inductive FO where
  | ok (v : Val) (o : Ob) | exc (x : Exn) (o : Ob) | bad
/-- a def without effect -/
def spP (K : PySem.W.Frag) (mg : Str → Option Value) (m : List D → FR) : Sp := fun vs H Q E => ∃ ds B, (∀ b ∈ B, ∃ o, H b = some o) ∧ FzL K H B ds vs ∧ match m ds with
  | .ok val => ∀ v H' Lv, VP K H' (Lv ++ B) val v Lv → Ex H H' → Lv.Nodup → (∀ a ∈ Lv, H a = none) → Q v H'
  | .exc x => ∀ cls d H', Ex H H' → XR K mg H' B x cls d → E cls d H'
  | .bad => False
/-- a def whose first parameter is an object that it may change -/
def spR (K : PySem.W.Frag) (mg : Str → Option Value) (m : Ob → List D → FO) : Sp := fun vs H Q E => ∃ o a0 vs' ds L0 B, vs = .ref a0 :: vs' ∧ WF H L0 B ∧ Ow K H (L0 ++ B) o a0 L0 ∧ FzL K H (L0 ++ B) ds vs' ∧ match m o ds with
  | .ok val o' => ∀ v H' L1 Lv, Ow K H' (L1 ++ Lv ++ B) o' a0 L1 → VP K H' (L1 ++ Lv ++ B) val v Lv → (L1 ++ Lv).Nodup → Fr H H' L0 (L1 ++ Lv) → Q v H'
  | .exc x o' => ∀ cls d H' L1, Ow K H' (L1 ++ B) o' a0 L1 → XR K mg H' (L1 ++ B) x cls d → L1.Nodup → Fr H H' L0 L1 → E cls d H'
  | .bad => False

/-! ## plain expressions -/
def eVar (i : Nat) : EE := fun ρ => match ρ.get i with
  | .imm d => .ok (.imm d) ρ
  | .own _ => .ok (.bor i) ρ
  | .ob => .ok .ob ρ
  | .un => .bad
/-- a local's own object goes out of the frame (return x; a last use) -/
def eMv (i : Nat) : EE := fun ρ => match ρ.get i with
  | .imm d => .ok (.imm d) ρ
  | .own o => .ok (.own o) (ρ.set i .un)
  | _ => .bad
def eC (d : D) : EE := fun ρ => .ok (.imm d) ρ
def e1 (g : List D → Option Val) (f : EE) : EE := eOp g (eCons f eNil)
def e2 (g : List D → Option Val) (f h : EE) : EE := eOp g (eCons f (eCons h eNil))
section
variable {X : Cx} {W : WX}
abbrev Cx.ev (X : Cx) (W : WX) (f : EE) : TE := tEv X.K X.mg W f
abbrev Cx.evs (X : Cx) (W : WX) (f : EEs) : TA := tEvs X.K X.mg W f
abbrev Cx.tv (X : Cx) (W : WX) (f : TT') : TT := tTv X.K X.mg W f
theorem app_nil3 {L B : List Addr} : L ++ [] ++ B = L ++ B := by simp
theorem v_var (i : Nat) {x : Str} {pos : Pos} (hN : X.N[i]? = some x := by rfl) (hv : Vis X.env.scope x := by first | exact Or.inl rfl | exact Or.inr (Or.inl rfl) | exact Or.inr (Or.inr rfl)) (hd : (x == ("__debug__" : Str)) = false := by decide)
    (hcd : (x == ("__classdict__" : Str)) = false := by decide) : PE X (.Name x pos) (Cx.ev X W (eVar i)) := by
  refine PE.imp (pe_var hN hv hd hcd) fun σ H Q h => ?_
  obtain ⟨ρ, L, B, a0, h1, h2, h3⟩ := h
  simp only [eVar] at h3
  have nd : (L ++ []).Nodup := by simpa using h2.nd
  have fr : Fr H H L (L ++ []) := by simpa using Fr.refl
  cases g : ρ.get i with
  | un => rw [g] at h3; exact h3.elim
  | imm d =>
    rw [g] at h3
    obtain ⟨ov, Li, s1, s2, _⟩ := h1.slot (Rho.get_un g (fun z => nomatch z))
    cases s2 with
    | imm f => exact ⟨_, s1, h3 _ H L [] (by rw [app_nil3]; exact h1) (.imm (by rw [app_nil3]; exact f)) nd fr⟩
  | own o =>
    rw [g] at h3
    obtain ⟨ov, Li, s1, s2, _⟩ := h1.slot (Rho.get_un g (fun z => nomatch z))
    cases s2 with
    | own f => exact ⟨_, s1, h3 _ H L [] (by rw [app_nil3]; exact h1) (.bor s1) nd fr⟩
  | ob =>
    rw [g] at h3
    obtain ⟨ov, Li, s1, s2, _⟩ := h1.slot (Rho.get_un g (fun z => nomatch z))
    cases s2 with
    | ob => exact ⟨_, s1, h3 _ H L [] (by rw [app_nil3]; exact h1) .ob nd fr⟩
theorem v_mv (i : Nat) {x : Str} {pos : Pos} (hN : X.N[i]? = some x := by rfl) (hv : Vis X.env.scope x := by first | exact Or.inl rfl | exact Or.inr (Or.inl rfl) | exact Or.inr (Or.inr rfl)) (hd : (x == ("__debug__" : Str)) = false := by decide)
    (hcd : (x == ("__classdict__" : Str)) = false := by decide) : PE X (.Name x pos) (Cx.ev X W (eMv i)) := by
  refine PE.imp (pe_var hN hv hd hcd) fun σ H Q h => ?_
  obtain ⟨ρ, L, B, a0, h1, h2, h3⟩ := h
  simp only [eMv] at h3
  have nd : (L ++ []).Nodup := by simpa using h2.nd
  have fr : Fr H H L (L ++ []) := by simpa using Fr.refl
  cases g : ρ.get i with
  | un => rw [g] at h3; exact h3.elim
  | imm d =>
    rw [g] at h3
    obtain ⟨ov, Li, s1, s2, _⟩ := h1.slot (Rho.get_un g (fun z => nomatch z))
    cases s2 with
    | imm f => exact ⟨_, s1, h3 _ H L [] (by rw [app_nil3]; exact h1) (.imm (by rw [app_nil3]; exact f)) nd fr⟩
  | own o =>
    rw [g] at h3
    obtain ⟨ov, Li, M, N, s1, s2, s3, s4⟩ := h1.cut (Rho.get_un g (fun z => nomatch z))
    cases s2 with
    | @own _ a _ f =>
      refine ⟨_, s1, ?_⟩
      have sub : ∀ a ∈ M ++ N ++ Li ++ B, a ∈ L ++ B := fun a z => by
        rw [s3]; simp only [List.mem_append] at z ⊢
        rcases z with ((z | z) | z) | z <;> simp [z]
      have q := s4 H (M ++ N ++ Li ++ B) .un [] .un (Kp.weak sub) fun _ _ => rfl
      rw [List.append_nil] at q
      refine h3 (.ref a) H (M ++ N) Li q (.own (f.kp (Kp.weak sub) fun _ _ => rfl)) ?_ ?_
      · have z := h2.nd
        rw [s3] at z
        simp only [List.nodup_append, List.mem_append] at z ⊢
        refine ⟨⟨z.1.1, z.2.1, fun a ha b hb => z.2.2 a (.inl ha) b hb⟩, z.1.2.1, fun a ha b hb e => ?_⟩
        rcases ha with ha | ha
        · exact z.1.2.2 a ha b hb e
        · exact z.2.2 b (.inr hb) a ha e.symm
      · refine Fr.refl.sub fun a z => ?_
        rw [s3]; simp only [List.mem_append] at z ⊢
        rcases z with (z | z) | z <;> simp [z]
  | ob => rw [g] at h3; exact h3.elim
theorem ev_c {K : PySem.W.Frag} {mg : Str → Option Value} {σ : L2.St} {H : Hp} {Q : VK} {d : D} {v : V} (z : ∀ B, Fz K H B d v) (h : tEv K mg W (eC d) σ H Q) : Q v H := by
  obtain ⟨ρ, L, B, a0, h1, h2, h3⟩ := h
  exact h3 _ H L [] (by rw [app_nil3]; exact h1) (.imm (by rw [app_nil3]; exact z _)) (by simpa using h2.nd) (by simpa using Fr.refl)
theorem v_int {i : Int} {j pos} : PE X (.Constant (.int i) j pos) (Cx.ev X W (eC (.int i))) := pe_int.imp fun _ _ _ h => ev_c (fun _ => .int i) h
theorem v_bl {i : Bool} {j pos} : PE X (.Constant (.bool i) j pos) (Cx.ev X W (eC (.bl i))) := pe_bl.imp fun _ _ _ h => ev_c (fun _ => .bl i) h
theorem v_non {j pos} : PE X (.Constant .none j pos) (Cx.ev X W (eC .non)) := pe_non.imp fun _ _ _ h => ev_c (fun _ => .non) h
theorem v_str {x : Str} {j pos} : PE X (.Constant (.str x) j pos) (Cx.ev X W (eC (.str x))) := pe_str.imp fun _ _ _ h => ev_c (fun _ => .str x) h
/-- a module's constant -/
theorem v_gint {x : Str} {i : Int} {pos : Pos} (hg : Gl X x) (hm : ∃ t, X.mg x = some (.int i t)) (hd : (x == ("__debug__" : Str)) = false := by decide) : PE X (.Name x pos) (Cx.ev X W (eC (.int i))) := by
  obtain ⟨t, hm⟩ := hm
  exact (pe_glob (v := .int i) hg hm ⟨t, rfl⟩ hd).imp fun _ _ _ h => ev_c (fun _ => .int i) h
theorem v_nil : PA X [] (Cx.evs X W eNil) := pa_nil.imp fun _ _ _ h => evs_nil h
theorem v_cons {e : Expr} {es : List Expr} {f : EE} {g : EEs} (ha : PE X e (Cx.ev X W f)) (hr : PA X es (Cx.evs X W g)) (hs : starEach (e :: es) X.env = (false, eval e X.env) :: starEach es X.env := by rfl) : PA X (e :: es) (Cx.evs X W (eCons f g)) :=
  (pa_cons ha hr hs).imp fun _ _ _ h => evs_cons h
def r1' (r : V → Hp → VK → Prop) : List V → Hp → VK → Prop := fun vs H Q => ∃ x, vs = [x] ∧ r x H Q
def r2' (r : R2) : List V → Hp → VK → Prop := fun vs H Q => ∃ x y, vs = [x, y] ∧ r x y H Q
theorem ev_e1 {K : PySem.W.Frag} {mg : Str → Option Value} {σ : L2.St} {H : Hp} {Q : VK} {g : List D → Option Val} {f : EE} {r : V → Hp → VK → Prop} (p : Pure K (r1' r) g) (h : tEv K mg W (e1 g f) σ H Q) : tEv K mg W f σ H fun x H1 => r x H1 Q := by
  refine (evs_cons (ev_op p h)).mono fun x H1 q => ?_
  obtain ⟨_, e, q⟩ := evs_nil q
  cases e; exact q
theorem ev_e2 {K : PySem.W.Frag} {mg : Str → Option Value} {σ : L2.St} {H : Hp} {Q : VK} {g : List D → Option Val} {f f' : EE} {r : R2} (p : Pure K (r2' r) g) (h : tEv K mg W (e2 g f f') σ H Q) : tEv K mg W f σ H fun x H1 => tEv K mg W f' σ H1 fun y H2 => r x y H2 Q := by
  refine (evs_cons (ev_op p h)).mono fun x H1 q => (evs_cons q).mono fun y H2 q => ?_
  obtain ⟨_, _, e, q⟩ := evs_nil q
  cases e; exact q
variable {a b e : Expr} {es : List Expr} {pos : Pos} {f f' : EE} {fs : EEs} {g : List D → Option Val}
theorem v_bin {op : Operator} {r : R2} (ho : OpR X (binaryOp op) r) (p : Pure X.K (r2' r) g) (ha : PE X a (Cx.ev X W f)) (hb : PE X b (Cx.ev X W f')) : PE X (.BinOp a op b pos) (Cx.ev X W (e2 g f f')) :=
  (pe_op ho ha hb).imp fun _ _ _ h => ev_e2 p h
theorem v_una {op : UnaryOp} {r : V → Hp → VK → Prop} (ho : UnR X (unaryOp op) r) (p : Pure X.K (r1' r) g) (ha : PE X a (Cx.ev X W f)) : PE X (.UnaryOp op a pos) (Cx.ev X W (e1 g f)) :=
  (pe_un ho ha).imp fun _ _ _ h => ev_e1 p h
theorem v_cmp {op : CmpOp} {r : R2} (ho : OpR X (compareOp op) r) (p : Pure X.K (r2' r) g) (ha : PE X a (Cx.ev X W f)) (hb : PE X b (Cx.ev X W f')) (hm : behindInMarks op b = false := by first | rfl | exact nomark _) : PE X (.Compare a [op] [b] pos) (Cx.ev X W (e2 g f f')) :=
  (pe_cmpR ho ha hb hm).imp fun _ _ _ h => ev_e2 p h
theorem v_ix {r : R2} (hr : IxR X r) (p : Pure X.K (r2' r) g) (ha : PE X a (Cx.ev X W f)) (hb : PE X b (Cx.ev X W f')) (hs : PlainIx b := by intro _ _; rfl) : PE X (.Subscript a b pos) (Cx.ev X W (e2 g f f')) :=
  (pe_ix hr ha hb hs).imp fun _ _ _ h => ev_e2 p h
/-- a built-in function by its name -/
theorem v_bi {x : Str} {id : String} {pp : Pos} {r : List V → Hp → VK → Prop} (hc : CallR X (.builtin id) r) (p : Pure X.K r g) (hg : Gl X x) (hm : X.mg x = none) (hv : bootBuiltins x = some (.builtin id)) (ha : PA X (e :: es) (Cx.evs X W fs)) (hn : x ≠ "__name__" := by decide) (hdb : (x == ("__debug__" : Str)) = false := by decide)
    (he : starEach (e :: es) X.env = (false, eval e X.env) :: starEach es X.env := by rfl) (hpl : (backTo pos (starEach es X.env)).any (·.1) = false := by rfl) : PE X (.Call (.Name x pp) (e :: es) [] pos) (Cx.ev X W (eOp g fs)) :=
  (pe_callB hc hg hm hv ha hn hdb he hpl).imp fun _ _ _ h => ev_op p h
theorem v_ty {x : Str} {T : String} {pp : Pos} {r : List V → Hp → VK → Prop} (hc : CallR X (.type T) r) (p : Pure X.K r g) (hg : Gl X x) (hm : X.mg x = none) (hv : bootBuiltins x = some (.type T)) (ha : PA X (e :: es) (Cx.evs X W fs)) (hn : x ≠ "__name__" := by decide) (hdb : (x == ("__debug__" : Str)) = false := by decide)
    (he : starEach (e :: es) X.env = (false, eval e X.env) :: starEach es X.env := by rfl) (hpl : (backTo pos (starEach es X.env)).any (·.1) = false := by rfl) : PE X (.Call (.Name x pp) (e :: es) [] pos) (Cx.ev X W (eOp g fs)) :=
  (pe_callTy hc hg hm hv ha hn hdb he hpl).imp fun _ _ _ h => ev_op p h
end

/-! ## displays -/
/-- what is stored or handed on: data, or a new object that changes no more -/
def vImm : Val → Option D
  | .imm d => some d
  | .own o => rdO o
  | _ => none
def vImms : List Val → Option (List D)
  | [] => some []
  | v :: vs => match vImm v with
    | some d => match vImms vs with
      | some ds => some (d :: ds)
      | none => none
    | none => none
section
variable {K : PySem.W.Frag} {mg : Str → Option Value} {W : WX} {σ : L2.St} {H : Hp} {B : List Addr} {a0 : Addr}
theorem Ow.fz {B' : List Addr} {o : Ob} {a : Addr} {L : List Addr} {d : D} (h : Ow K H B o a L) (e : rdO o = some d) (w : ∀ x ∈ B', x ∈ B) (n : ∀ x ∈ L, x ∉ B') : Fz K H B' d (.ref a) := by
  cases h with
  | lst h1 h2 => cases e; exact .lst (n _ (by simp)) h1 (h2.kp (Kp.weak w))
  | dk h1 h3 h2 => cases e; exact .dk (n _ (by simp)) h1 h3 (h2.kp (Kp.weak w))
  | dt h1 h3 h2 => cases e; exact .dt (n _ (by simp)) h1 h3 (h2.kp (Kp.weak w))
  | drw => cases e
theorem VR.fz {B' : List Addr} {x : Val} {v : V} {L : List Addr} {d : D} (h : VR K a0 σ H B x v L) (e : vImm x = some d) (w : ∀ x ∈ B', x ∈ B) (n : ∀ x ∈ L, x ∉ B') : Fz K H B' d v := by
  cases h with
  | imm h => cases e; exact h.kp (Kp.weak w)
  | own h => exact h.fz e w n
  | bor h => cases e
  | ob => cases e
theorem VRs.fz {B' : List Addr} : ∀ {xs : List Val} {vs : List V} {L : List Addr} {ds : List D}, VRs K a0 σ H B xs vs L → vImms xs = some ds → (∀ x ∈ B', x ∈ B) → (∀ x ∈ L, x ∉ B') → FzL K H B' ds vs
  | _, _, _, _, .nil, e, _, _ => by cases e; exact .nil
  | x :: xs, _, _, _, .cons h t, e, w, n => by
    unfold vImms at e
    cases e1 : vImm x with
    | none => rw [e1] at e; cases e
    | some d =>
      rw [e1] at e
      cases e2 : vImms xs with
      | none => rw [e2] at e; cases e
      | some ds =>
        rw [e2] at e; cases e
        exact .cons (h.fz e1 w fun x z => n x (List.mem_append_left _ z)) (VRs.fz t e2 w fun x z => n x (List.mem_append_right _ z))
end
/-- behind arguments: their data, kept from the frame and from what lies outside -/
theorem apart {H H1 : Hp} {L L1 Lv B : List Addr} (w : WF H L B) (f : Fr H H1 L (L1 ++ Lv)) (nd : (L1 ++ Lv).Nodup) : ∀ x ∈ Lv, x ∉ L1 ++ B := fun x z q => by
  rcases List.mem_append.mp q with q | q
  · exact (List.nodup_append.mp nd).2.2 x q x z rfl
  · rcases f.new x (List.mem_append_right _ z) with y | y
    · exact w.dis x q y
    · obtain ⟨o, e⟩ := w.tr x q; rw [e] at y; cases y
theorem keep_in {L1 Lv B : List Addr} : ∀ x ∈ L1 ++ B, x ∈ L1 ++ Lv ++ B := fun x z => by
  simp only [List.mem_append] at z ⊢
  rcases z with z | z <;> simp [z]
/-- an end without effect: a made value at a later heap -/
theorem made {K : PySem.W.Frag} {mg : Str → Option Value} {W : WX} {σ : L2.St} {H H1 H2 : Hp} {L L1 Lv Lv2 B : List Addr} {a0 : Addr} {ρ1 : Rho} {Q : VK} {res : Val} {v' : V} (h2 : WF H L B) (r1 : RR K H1 (L1 ++ Lv ++ B) a0 ρ1 σ L1) (nd1 : (L1 ++ Lv).Nodup) (f1 : Fr H H1 L (L1 ++ Lv))
    (h3 : Pe K mg W B a0 σ H L (VR K a0 σ) Q (.ok res ρ1)) (vp : VP K H2 (Lv2 ++ (L1 ++ B)) res v' Lv2) (ex : Ex H1 H2) (nd2 : Lv2.Nodup) (fresh : ∀ a ∈ Lv2, H1 a = none) : Q v' H2 := by
  have sub : ∀ a ∈ L1 ++ Lv2 ++ B, a ∈ Lv2 ++ (L1 ++ B) := fun a z => by
    simp only [List.mem_append] at z ⊢
    rcases z with (z | z) | z <;> simp [z]
  have tr := r1.tr
  have r1' : RR K H1 (L1 ++ B) a0 ρ1 σ L1 := r1.weak keep_in
  have k : Kp H1 (L1 ++ B) H2 (L1 ++ Lv2 ++ B) := ⟨fun a o e n => ⟨ex a o e, fun z => by
    simp only [List.mem_append, not_or] at z n
    rcases z with (z | z) | z
    · exact n.1 z
    · rw [fresh a z] at e; cases e
    · exact n.2 z⟩, fun a o e _ => ex a o e⟩
  refine h3 v' H2 L1 Lv2 (r1'.kp k fun b z => ?_) ((vp.vr (a0 := a0) (σ := σ)).kp (Kp.weak sub) fun _ _ => rfl) ?_ ?_
  · obtain ⟨o, e, _⟩ := tr b z
    rw [e, ex b o e]
  · refine List.nodup_append.mpr ⟨(List.nodup_append.mp nd1).1, nd2, fun a ha b hb e => ?_⟩
    subst e
    obtain ⟨o, e, _⟩ := tr a ha
    rw [fresh a hb] at e; cases e
  · refine ⟨fun a o e n => ex a o (f1.keep a o e n), fun a o e n => ex a o (f1.imm a o e n), fun a z => ?_⟩
    rcases List.mem_append.mp z with z | z
    · exact f1.new a (List.mem_append_left _ z)
    · by_cases hL : a ∈ L
      · exact .inl hL
      · cases e : H a with
        | none => exact .inr rfl
        | some o =>
          have y := fresh a z
          rw [f1.keep a o e hL] at y; cases y
def eTup (fs : EEs) : EE := fun ρ => (fs ρ).bind fun vals ρ1 => match vImms vals with
  | some ds => if ds.length ≤ 1000 then .ok (.imm (.tup ds)) ρ1 else .bad
  | none => .bad
def eLst (fs : EEs) : EE := fun ρ => (fs ρ).bind fun vals ρ1 => match vImms vals with
  | some ds => if ds.length ≤ 1000 then .ok (.own (.lst ds)) ρ1 else .bad
  | none => .bad
theorem line1000 {n : Nat} (h : n ≤ 1000) : n ≤ sizeLine := Nat.le_trans h (by decide)
section
variable {X : Cx} {W : WX} {es : List Expr} {fs : EEs} {pos : Pos}
theorem v_tup {x1} (h : PA X es (Cx.evs X W fs)) : PE X (.Tuple es x1 pos) (Cx.ev X W (eTup fs)) := by
  refine (pe_tup h).imp fun σ H Q h => ?_
  obtain ⟨ρ, L, B, a0, h1, h2, h3⟩ := h
  refine ⟨ρ, L, B, a0, h1, h2, ?_⟩
  unfold eTup at h3
  cases e : fs ρ with
  | bad => rw [e] at h3; exact h3
  | exc x ρ1 => rw [e] at h3; exact h3
  | ok vals ρ1 =>
    rw [e] at h3
    intro vs H1 L1 Lv1 r1 v1 nd1 f1
    simp only [R.bind] at h3
    cases e1 : vImms vals with
    | none => rw [e1] at h3; exact h3.elim
    | some ds =>
      rw [e1] at h3
      simp only at h3
      by_cases hl : ds.length ≤ 1000
      · rw [if_pos hl] at h3
        have fz := v1.fz e1 keep_in (apart h2 f1 nd1)
        refine ⟨by rw [← fz.length]; exact line1000 hl, fun p np => ?_⟩
        exact made h2 r1 nd1 f1 h3 (Lv2 := []) (.imm (.tup (.inl (.inl upd_same)) (fz.kp (Ex.upd np).kp0))) (Ex.upd np) .nil (by simp)
      · rw [if_neg hl] at h3; exact h3.elim
theorem v_lst (h : PA X es (Cx.evs X W fs)) : PE X (.List es pos) (Cx.ev X W (eLst fs)) := by
  refine (pe_lst h).imp fun σ H Q h => ?_
  obtain ⟨ρ, L, B, a0, h1, h2, h3⟩ := h
  refine ⟨ρ, L, B, a0, h1, h2, ?_⟩
  unfold eLst at h3
  cases e : fs ρ with
  | bad => rw [e] at h3; exact h3
  | exc x ρ1 => rw [e] at h3; exact h3
  | ok vals ρ1 =>
    rw [e] at h3
    intro vs H1 L1 Lv1 r1 v1 nd1 f1
    simp only [R.bind] at h3
    cases e1 : vImms vals with
    | none => rw [e1] at h3; exact h3.elim
    | some ds =>
      rw [e1] at h3
      simp only at h3
      by_cases hl : ds.length ≤ 1000
      · rw [if_pos hl] at h3
        have fz := v1.fz e1 keep_in (apart h2 f1 nd1)
        refine ⟨by rw [← fz.length]; exact line1000 hl, fun p np => ?_⟩
        refine made h2 r1 nd1 f1 h3 (Lv2 := [p]) (.own (.lst upd_same (fz.kp ?_))) (Ex.upd np) (by simp) (by simpa using np)
        exact (Ex.upd np).kp (by simpa using np)
      · rw [if_neg hl] at h3; exact h3.elim
end

/-! ## calls of the text's own defs -/
def eCall (m : List D → FR) (fs : EEs) : EE := fun ρ => (fs ρ).bind fun vals ρ1 => match vImms vals with
  | some ds => match m ds with
    | .ok v => .ok v ρ1
    | .exc x => .exc x ρ1
    | .bad => .bad
  | none => .bad
/-- a def of the text: it stands, keeps its promise, binds its parameters -/
structure Cal (P : Program) (w : World) (K : PySem.W.Frag) (mg : Str → Option Value) (base : Heap) (k : Nat) (x : Str) (sp : Sp) : Prop where
  ex : ∃ (f : Addr) (fd : FuncData) (ps : List Str), FnOk P w K mg base (L2.CX P w) k f fd ps sp ∧ mg x = some (.ref f) ∧ PySem.W.keepIn K (.ref f) = true ∧ L2.Binds K fd ps []
abbrev XCal (X : Cx) (k : Nat) (x : Str) (sp : Sp) : Prop := Cal X.prog X.w X.K X.mg X.base k x sp
section
variable {X : Cx} {W : WX} {e : Expr} {es : List Expr} {fs : EEs} {pos pp : Pos} {x : Str} {k k' n : Nat}
/-- the wish of exceptions at a call -/
abbrev wAt (W : WX) (σ : L2.St) : XK := fun cls d H => W cls d σ H
theorem v_callG {sp : Sp} {f : EE} (C : XCal X k x sp) (hk : k ≤ k') (hr : Room k' X.A) (tk : Takes X W) (hg : Gl X x) (ha : PA X (e :: es) (Cx.evs X W fs)) (hdb : (x == ("__debug__" : Str)) = false) (he : starEach (e :: es) X.env = (false, eval e X.env) :: starEach es X.env)
    (hpl : (backTo pos (starEach es X.env)).any (·.1) = false) (i : ∀ σ H Q, Cx.ev X W f σ H Q → Cx.evs X W fs σ H fun vs H1 => sp vs H1 Q (wAt W σ)) : PE X (.Call (.Name x pp) (e :: es) [] pos) (Cx.ev X W f) := by
  obtain ⟨f0, fd, ps, F, hm, hkp, hb⟩ := C.ex
  refine ⟨fun pins s σ H Q I h => ?_⟩
  refine wpAny_Call_Name_kw (ld_glob I hg hm ?_ hdb)
  refine PySem.W.callWith_K (h₀ := X.base) I.ok.mod.kin hkp (L2.thn (ha.run pos pins s σ H _ I (i σ H Q h)) fun us s1 ⟨vs, H1, I1, r, q⟩ => ⟨I1.kIn, ?_⟩) he hpl
  have r2 : Vals (vs ++ []) (us ++ []) := r.append .nil
  have q' : sp (vs ++ []) H1 Q (wAt W σ) := by rw [List.append_nil]; exact q
  have hl : (us ++ []).length = ps.length := by rw [← r2.length]; exact F.len _ _ _ _ q'
  refine wpAny_call (codeAny_mono (F.run X.A X.stack s1 H1 ⟨us, []⟩ (us ++ []) (vs ++ []) Q _ (hr.mono hk) I1.env0 (hb s1 us I1.kIn hl) r2 q') fun r s' hq => ?_)
  cases r with
  | error e => exact tk e s' (XE.of_call I1 (fun _ _ _ z => z) hq)
  | ok fl =>
    cases fl with
    | ret u => exact I1.after hq
    | next => exact False.elim hq
    | brk => exact False.elim hq
    | cont => exact False.elim hq
theorem v_call {m : List D → FR} (C : XCal X k x (spP X.K X.mg m)) (hk : k ≤ k') (hr : Room k' X.A) (tk : Takes X W) (hg : Gl X x) (ha : PA X (e :: es) (Cx.evs X W fs)) (hdb : (x == ("__debug__" : Str)) = false := by decide)
    (he : starEach (e :: es) X.env = (false, eval e X.env) :: starEach es X.env := by rfl) (hpl : (backTo pos (starEach es X.env)).any (·.1) = false := by rfl) : PE X (.Call (.Name x pp) (e :: es) [] pos) (Cx.ev X W (eCall m fs)) := by
  refine v_callG C hk hr tk hg ha hdb he hpl fun σ H Q h => ?_
  obtain ⟨ρ, L, B, a0, h1, h2, h3⟩ := h
  refine ⟨ρ, L, B, a0, h1, h2, ?_⟩
  unfold eCall at h3
  cases e0 : fs ρ with
  | bad => rw [e0] at h3; exact h3
  | exc x ρ1 => rw [e0] at h3; exact h3
  | ok vals ρ1 =>
    rw [e0] at h3
    intro vs H1 L1 Lv1 r1 v1 nd1 f1
    simp only [R.bind] at h3
    cases e1 : vImms vals with
    | none => rw [e1] at h3; exact h3.elim
    | some ds =>
      rw [e1] at h3
      simp only at h3
      have fz := v1.fz e1 keep_in (apart h2 f1 nd1)
      have w1 : WF H1 L1 B := h2.next (f1.sub fun a z => List.mem_append_left _ z) (List.nodup_append.mp nd1).1
      refine ⟨ds, L1 ++ B, fun b z => ?_, fz, ?_⟩
      · rcases List.mem_append.mp z with z | z
        · obtain ⟨o, e, _⟩ := r1.tr b z; exact ⟨o, e⟩
        · exact w1.tr b z
      · cases e2 : m ds with
        | bad => rw [e2] at h3; exact h3.elim
        | exc x =>
          rw [e2] at h3
          intro cls d H2 ex xr
          have k : Kp H1 (L1 ++ B) H2 (L1 ++ B) := ex.kp0
          refine h3 cls d H2 L1 ((r1.weak keep_in).kp k fun b z => ?_) xr (List.nodup_append.mp nd1).1 ⟨fun a o e n => ex a o (f1.keep a o e n), fun a o e n => ex a o (f1.imm a o e n), fun a z => f1.new a (List.mem_append_left _ z)⟩
          obtain ⟨o, e, _⟩ := r1.tr b z
          rw [e, ex b o e]
        | ok val =>
          rw [e2] at h3
          exact fun v H2 Lv2 vp ex nd2 fresh => made h2 r1 nd1 f1 h3 vp ex nd2 fresh
end
end FW

namespace FW
open PySem PySem.Spec PyProof.Rows L2

/-! ## tests -/
def truD : D → Option Bool
  | .non => some false
  | .bl b => some b
  | .int i => some (i != 0)
  | .str x => if x.length ≤ sizeLine then some (x.length != 0) else none
  | .tup xs => some (!xs.isEmpty)
  | .lst xs => some (!xs.isEmpty)
  | .dk kvs => some (!kvs.isEmpty)
  | .dt _ => none
  | .scr ns => some (!ns.isEmpty)
/-- the truth of a True or False -/
def tE (f : EE) : TT' := fun ρ => (f ρ).bind fun v ρ1 => match v with
  | .imm (.bl b) => .ok b ρ1
  | _ => .bad
/-- the truth of anything -/
def tTru (f : EE) : TT' := fun ρ => (f ρ).bind fun v ρ1 => match rd ρ1 v with
  | some d => match truD d with
    | some b => .ok b ρ1
    | none => .bad
  | none => .bad
def tAnd' (f g : TT') : TT' := fun ρ => (f ρ).bind fun b ρ1 => if b = true then g ρ1 else .ok false ρ1
def tOr' (f g : TT') : TT' := fun ρ => (f ρ).bind fun b ρ1 => if b = true then .ok true ρ1 else g ρ1
def tNot' (f : TT') : TT' := fun ρ => (f ρ).bind fun b ρ1 => .ok (!b) ρ1
def eIf (c : TT') (f g : EE) : EE := fun ρ => (c ρ).bind fun b ρ1 => if b = true then f ρ1 else g ρ1
/-- a and b, a or b, not a as values, over truths -/
def eAnd (f g : EE) : EE := fun ρ => (tE f ρ).bind fun b ρ1 => if b = true then g ρ1 else .ok (.imm (.bl false)) ρ1
def eOr (f g : EE) : EE := fun ρ => (tE f ρ).bind fun b ρ1 => if b = true then .ok (.imm (.bl true)) ρ1 else g ρ1
def eNot (f : EE) : EE := fun ρ => (tE f ρ).bind fun b ρ1 => .ok (.imm (.bl (!b))) ρ1
section
variable {K : PySem.W.Frag} {mg : Str → Option Value} {W : WX} {σ : L2.St} {H : Hp}
theorem tTv.mono {f : TT'} {Q Q' : Bool → Hp → Prop} (h : tTv K mg W f σ H Q) (m : ∀ b H, Q b H → Q' b H) : tTv K mg W f σ H Q' := by
  obtain ⟨ρ, L, B, a0, h1, h2, h3⟩ := h
  exact ⟨ρ, L, B, a0, h1, h2, h3.mono m⟩
/-- behind a test -/
theorem tv_then {c : TT'} {k : Bool → TT'} {Q : Bool → Hp → Prop} (h : tTv K mg W (fun ρ => (c ρ).bind fun b ρ1 => k b ρ1) σ H Q) : tTv K mg W c σ H fun b H1 => tTv K mg W (k b) σ H1 Q := by
  obtain ⟨ρ, L, B, a0, h1, h2, h3⟩ := h
  refine ⟨ρ, L, B, a0, h1, h2, ?_⟩
  dsimp only at h3
  cases e : c ρ with
  | bad => rw [e] at h3; exact h3
  | exc x ρ1 => rw [e] at h3; exact h3
  | ok b ρ1 =>
    rw [e] at h3
    intro b' H1 L1 Lv r1 v1 nd1 f1
    obtain ⟨rfl, rfl⟩ := v1
    rw [app_nil3] at r1
    rw [List.append_nil] at nd1 f1
    refine ⟨ρ1, L1, B, a0, r1, h2.next f1 nd1, ?_⟩
    have h3 : Pe K mg W B a0 σ H L relB Q (k b ρ1) := h3
    cases e2 : k b ρ1 with
    | bad => rw [e2] at h3; exact h3
    | exc x ρ2 => rw [e2] at h3; exact fun cls d H2 L2 r2 x2 nd2 f2 => h3 cls d H2 L2 r2 x2 nd2 (f1.trans f2)
    | ok y ρ2 => rw [e2] at h3; exact fun v H2 L2 Lv2 r2 v2 nd2 f2 => h3 v H2 L2 Lv2 r2 v2 nd2 (f1.trans f2)
theorem tv_thenE {c : TT'} {k : Bool → EE} {Q : VK} (h : tEv K mg W (fun ρ => (c ρ).bind fun b ρ1 => k b ρ1) σ H Q) : tTv K mg W c σ H fun b H1 => tEv K mg W (k b) σ H1 Q := by
  obtain ⟨ρ, L, B, a0, h1, h2, h3⟩ := h
  refine ⟨ρ, L, B, a0, h1, h2, ?_⟩
  dsimp only at h3
  cases e : c ρ with
  | bad => rw [e] at h3; exact h3
  | exc x ρ1 => rw [e] at h3; exact h3
  | ok b ρ1 =>
    rw [e] at h3
    intro b' H1 L1 Lv r1 v1 nd1 f1
    obtain ⟨rfl, rfl⟩ := v1
    rw [app_nil3] at r1
    rw [List.append_nil] at nd1 f1
    refine ⟨ρ1, L1, B, a0, r1, h2.next f1 nd1, ?_⟩
    have h3 : Pe K mg W B a0 σ H L (VR K a0 σ) Q (k b ρ1) := h3
    cases e2 : k b ρ1 with
    | bad => rw [e2] at h3; exact h3
    | exc x ρ2 => rw [e2] at h3; exact fun cls d H2 L2 r2 x2 nd2 f2 => h3 cls d H2 L2 r2 x2 nd2 (f1.trans f2)
    | ok y ρ2 => rw [e2] at h3; exact fun v H2 L2 Lv2 r2 v2 nd2 f2 => h3 v H2 L2 Lv2 r2 v2 nd2 (f1.trans f2)
theorem tv_ok {b : Bool} {Q : Bool → Hp → Prop} (h : tTv K mg W (fun ρ => .ok b ρ) σ H Q) : Q b H := by
  obtain ⟨ρ, L, B, a0, h1, h2, h3⟩ := h
  exact h3 b H L [] (by rw [app_nil3]; exact h1) ⟨rfl, rfl⟩ (by simpa using h2.nd) (by simpa using Fr.refl)
theorem tv_E {f : EE} {Q : Bool → Hp → Prop} (h : tTv K mg W (tE f) σ H Q) : tEv K mg W f σ H fun x H1 => ∃ c, x = .bl c ∧ Q c H1 := by
  obtain ⟨ρ, L, B, a0, h1, h2, h3⟩ := h
  refine ⟨ρ, L, B, a0, h1, h2, ?_⟩
  unfold tE at h3
  cases e : f ρ with
  | bad => rw [e] at h3; exact h3
  | exc x ρ1 => rw [e] at h3; exact h3
  | ok v ρ1 =>
    rw [e] at h3
    intro x H1 L1 Lv r1 v1 nd1 f1
    simp only [R.bind] at h3
    cases v1 with
    | own _ => exact h3.elim
    | bor _ => exact h3.elim
    | ob => exact h3.elim
    | imm fz =>
      cases fz with
      | bl b => exact ⟨b, rfl, h3 b H1 L1 [] r1 ⟨rfl, rfl⟩ nd1 f1⟩
      | _ => exact h3.elim
theorem truD_ok {B : List Addr} {d : D} {v : V} {b : Bool} (h : Rt K H B d v) (e : truD d = some b) : TruV K v H b := by
  cases h with
  | lst h1 h2 =>
    cases e
    refine .inl ⟨_, .inl (.inl h1), ?_⟩
    cases h2 <;> rfl
  | @dk a ws kvs h1 h3 h2 =>
    cases e
    refine .inr (.inr ⟨_, h1, ?_⟩)
    cases kvs with
    | nil => cases ws with
      | nil => rfl
      | cons _ _ => simp at h3
    | cons _ _ => cases ws with
      | nil => simp at h3
      | cons _ _ => rfl
  | dt => cases e
  | fz h =>
    cases h with
    | non => cases e; rfl
    | bl c => cases e; rfl
    | int i => cases e; rfl
    | str x =>
      simp only [truD] at e
      by_cases z : x.length ≤ sizeLine
      · rw [if_pos z] at e
        cases e
        refine ⟨z, ?_⟩
        cases x.length with
        | zero => rfl
        | succ n => rfl
      · rw [if_neg z] at e; cases e
    | tup h1 h2 =>
      cases e
      refine .inr (.inl ⟨_, h1, ?_⟩)
      cases h2 <;> rfl
    | lst h0 h1 h2 =>
      cases e
      refine .inl ⟨_, .inl (.inl h1), ?_⟩
      cases h2 <;> rfl
    | @dk a ws kvs h0 h1 h3 h2 =>
      cases e
      refine .inr (.inr ⟨_, h1, ?_⟩)
      cases kvs with
      | nil => cases ws with
        | nil => rfl
        | cons _ _ => simp at h3
      | cons _ _ => cases ws with
        | nil => simp at h3
        | cons _ _ => rfl
    | dt => cases e
    | @scr a ns h =>
      cases e
      refine .inl ⟨_, h.sq, ?_⟩
      cases ns <;> rfl
theorem tv_Tru {f : EE} {Q : Bool → Hp → Prop} (h : tTv K mg W (tTru f) σ H Q) : tEv K mg W f σ H fun x H1 => ∃ c, TruV K x H1 c ∧ Q c H1 := by
  obtain ⟨ρ, L, B, a0, h1, h2, h3⟩ := h
  refine ⟨ρ, L, B, a0, h1, h2, ?_⟩
  unfold tTru at h3
  cases e : f ρ with
  | bad => rw [e] at h3; exact h3
  | exc x ρ1 => rw [e] at h3; exact h3
  | ok v ρ1 =>
    rw [e] at h3
    intro x H1 L1 Lv r1 v1 nd1 f1
    simp only [R.bind] at h3
    cases e1 : rd ρ1 v with
    | none => rw [e1] at h3; exact h3.elim
    | some d =>
      rw [e1] at h3
      simp only at h3
      cases e2 : truD d with
      | none => rw [e2] at h3; exact h3.elim
      | some b =>
        rw [e2] at h3
        refine ⟨b, truD_ok (v1.rt r1 e1) e2, h3 b H1 L1 [] ?_ ⟨rfl, rfl⟩ (by simpa using (List.nodup_append.mp nd1).1) (f1.sub fun a z => by simp at z ⊢; exact .inl z)⟩
        rw [app_nil3]; exact r1.weak keep_in
end
section
variable {X : Cx} {W : WX} {a b c e : Expr} {rest : List Expr} {pos : Pos} {f f' : EE} {t t' : TT'} {g : List D → Option Val}
theorem w_cmp {op : CmpOp} {r : R2} (ho : OpR X (compareOp op) r) (p : Pure X.K (r2' r) g) (ha : PE X a (Cx.ev X W f)) (hb : PE X b (Cx.ev X W f')) (hm : behindInMarks op b = false := by first | rfl | exact nomark _) : PT X (.Compare a [op] [b] pos) (Cx.tv X W (tE (e2 g f f'))) :=
  (pt_cmpR ho ha hb hm).imp fun _ _ _ h => ev_e2 p (tv_E h)
theorem w_val (h : PE X e (Cx.ev X W f)) (he : ∀ whole, isTrue e X.env whole = (do let v ← whole; standAt e.pos; holding [v] (truthy v)) := by intro _; rfl) : PT X e (Cx.tv X W (tE f)) :=
  (pt_val h he).imp fun _ _ _ h => tv_E h
theorem w_tru (h : PE X e (Cx.ev X W f)) (he : ∀ whole, isTrue e X.env whole = (do let v ← whole; standAt e.pos; holding [v] (truthy v)) := by intro _; rfl) : PT X e (Cx.tv X W (tTru f)) :=
  (pt_truth h he).imp fun _ _ _ h => tv_Tru h
theorem w_not (h : PT X a (Cx.tv X W t)) : PT X (.UnaryOp .Not a pos) (Cx.tv X W (tNot' t)) :=
  (pt_not h).imp fun _ _ _ h => (tv_then (k := fun b ρ1 => .ok (!b) ρ1) h).mono fun _ _ q => tv_ok q
theorem L2pw {e : Expr} {t t' : TT} (h : PW X e t) (i : ∀ σ H Q, t' σ H Q → t σ H Q) : PW X e t' := ⟨fun whole pins s σ H Q I q => h.run whole pins s σ H Q I (i σ H Q q)⟩
theorem w_and1 (h : PT X a (Cx.tv X W t)) : PW X (.BoolOp .And [a] pos) (Cx.tv X W t) := pw_and1 h
theorem w_or1 (h : PT X a (Cx.tv X W t)) : PW X (.BoolOp .Or [a] pos) (Cx.tv X W t) := pw_or1 h
theorem w_and (ha : PT X a (Cx.tv X W t)) (hb : PW X (.BoolOp .And (b :: rest) pos) (Cx.tv X W t')) : PW X (.BoolOp .And (a :: b :: rest) pos) (Cx.tv X W (tAnd' t t')) :=
  L2pw (pw_and ha hb) fun _ _ _ h => (tv_then (k := fun b ρ1 => if b = true then t' ρ1 else .ok false ρ1) h).mono fun b _ q => by
    cases b with
    | true => exact q
    | false => exact tv_ok q
theorem w_or (ha : PT X a (Cx.tv X W t)) (hb : PW X (.BoolOp .Or (b :: rest) pos) (Cx.tv X W t')) : PW X (.BoolOp .Or (a :: b :: rest) pos) (Cx.tv X W (tOr' t t')) :=
  L2pw (pw_or ha hb) fun _ _ _ h => (tv_then (k := fun b ρ1 => if b = true then .ok true ρ1 else t' ρ1) h).mono fun b _ q => by
    cases b with
    | true => exact tv_ok q
    | false => exact q
theorem w_bool (h : PW X e (Cx.tv X W t)) : PT X e (Cx.tv X W t) := h.pt
theorem v_if (hc : PT X c (Cx.tv X W t)) (ha : PE X a (Cx.ev X W f)) (hb : PE X b (Cx.ev X W f')) : PE X (.IfExp c a b pos) (Cx.ev X W (eIf t f f')) :=
  (pe_ifExp hc ha hb).imp fun _ _ _ h => (tv_thenE (k := fun b ρ1 => if b = true then f ρ1 else f' ρ1) h).mono fun b _ q => by
    cases b with
    | true => exact q
    | false => exact q
theorem ev_bl {K : PySem.W.Frag} {mg : Str → Option Value} {σ : L2.St} {H : Hp} {Q : VK} {b : Bool} (h : tEv K mg W (fun ρ => .ok (.imm (.bl b)) ρ) σ H Q) : Q (.bl b) H := ev_c (d := .bl b) (fun _ => .bl b) h
theorem v_one {op} (h : PE X a (Cx.ev X W f)) : PE X (.BoolOp op [a] pos) (Cx.ev X W f) := pe_one h
theorem v_and (ha : PE X a (Cx.ev X W f)) (hb : PE X (.BoolOp .And (b :: rest) pos) (Cx.ev X W f')) : PE X (.BoolOp .And (a :: b :: rest) pos) (Cx.ev X W (eAnd f f')) :=
  (pe_and ha hb).imp fun σ H Q h => tv_E (Q := fun c H1 => if c = true then Cx.ev X W f' σ H1 Q else Q (.bl false) H1) ((tv_thenE (k := fun b ρ1 => if b = true then f' ρ1 else .ok (.imm (.bl false)) ρ1) h).mono fun b _ q => by
    cases b with
    | true => exact q
    | false => exact ev_bl q)
theorem v_or (ha : PE X a (Cx.ev X W f)) (hb : PE X (.BoolOp .Or (b :: rest) pos) (Cx.ev X W f')) : PE X (.BoolOp .Or (a :: b :: rest) pos) (Cx.ev X W (eOr f f')) :=
  (pe_or ha hb).imp fun σ H Q h => tv_E (Q := fun c H1 => if c = true then Q (.bl true) H1 else Cx.ev X W f' σ H1 Q) ((tv_thenE (k := fun b ρ1 => if b = true then .ok (.imm (.bl true)) ρ1 else f' ρ1) h).mono fun b _ q => by
    cases b with
    | true => exact ev_bl q
    | false => exact q)
theorem v_not (ha : PE X a (Cx.ev X W f)) : PE X (.UnaryOp .Not a pos) (Cx.ev X W (eNot f)) :=
  (pe_not ha).imp fun σ H Q h => tv_E (Q := fun c H1 => Q (.bl (!c)) H1) ((tv_thenE (k := fun b ρ1 => .ok (.imm (.bl (!b))) ρ1) h).mono fun b _ q => ev_bl q)
end

/-! ## chains of comparisons of ints -/
def eInt (f : EE) (k : Int → EE) : EE := fun ρ => (f ρ).bind fun v ρ1 => match v with
  | .imm (.int i) => k i ρ1
  | _ => .bad
def eChain (c c' : Int → Int → Bool) (f g h : EE) : EE := eInt f fun i => eInt g fun j => if c i j = true then eInt h fun k => fun ρ => .ok (.imm (.bl (c' j k))) ρ else fun ρ => .ok (.imm (.bl false)) ρ
theorem ev_int {K : PySem.W.Frag} {mg : Str → Option Value} {W : WX} {σ : L2.St} {H : Hp} {f : EE} {k : Int → EE} {Q : VK} (h : tEv K mg W (eInt f k) σ H Q) : tEv K mg W f σ H fun x H1 => ∃ i, x = .int i ∧ tEv K mg W (k i) σ H1 Q := by
  obtain ⟨ρ, L, B, a0, h1, h2, h3⟩ := h
  refine ⟨ρ, L, B, a0, h1, h2, ?_⟩
  unfold eInt at h3
  cases e : f ρ with
  | bad => rw [e] at h3; exact h3
  | exc x ρ1 => rw [e] at h3; exact h3
  | ok v ρ1 =>
    rw [e] at h3
    intro x H1 L1 Lv r1 v1 nd1 f1
    simp only [R.bind] at h3
    cases v1 with
    | own _ => exact h3.elim
    | bor _ => exact h3.elim
    | ob => exact h3.elim
    | imm fz =>
      cases fz with
      | int i =>
        rw [app_nil3] at r1
        rw [List.append_nil] at nd1 f1
        refine ⟨i, rfl, ρ1, L1, B, a0, r1, h2.next f1 nd1, ?_⟩
        have h3 : Pe K mg W B a0 σ H L (VR K a0 σ) Q (k i ρ1) := h3
        cases e2 : k i ρ1 with
        | bad => rw [e2] at h3; exact h3
        | exc x ρ2 => rw [e2] at h3; exact fun cls d H2 L2 r2 x2 nd2 f2 => h3 cls d H2 L2 r2 x2 nd2 (f1.trans f2)
        | ok y ρ2 => rw [e2] at h3; exact fun v H2 L2 Lv2 r2 v2 nd2 f2 => h3 v H2 L2 Lv2 r2 v2 nd2 (f1.trans f2)
      | _ => exact h3.elim
theorem tv_int {K : PySem.W.Frag} {mg : Str → Option Value} {W : WX} {σ : L2.St} {H : Hp} {Q : VK} {c c' : Int → Int → Bool} {f g h : EE}
    (q : tEv K mg W (eChain c c' f g h) σ H Q) : tEv K mg W f σ H fun x H1 => tEv K mg W g σ H1 fun y H2 => ∃ i j, x = .int i ∧ y = .int j ∧ ∃ k, V.bl (c i j) = .bl k ∧ if k = true then tEv K mg W h σ H2 fun w H3 => ∃ i' j', V.int j = .int i' ∧ w = .int j' ∧ Q (.bl (c' i' j')) H3 else Q (.bl false) H2 := by
  refine (ev_int q).mono fun x H1 ⟨i, e1, q⟩ => (ev_int q).mono fun y H2 ⟨j, e2, q⟩ => ⟨i, j, e1, e2, c i j, rfl, ?_⟩
  split
  · rename_i z
    rw [if_pos z] at q
    exact (ev_int q).mono fun w H3 ⟨k, e3, q⟩ => ⟨j, k, rfl, e3, ev_bl q⟩
  · rename_i z
    rw [if_neg z] at q
    exact ev_bl q
section
variable {X : Cx} {W : WX} {a b d : Expr} {pos : Pos} {f g h : EE} {c c' : Int → Int → Bool}
theorem v_chain {op op' : CmpOp} (ho : OpR X (compareOp op) (rI0 fun i j => .bl (c i j))) (ho' : OpR X (compareOp op') (rI0 fun i j => .bl (c' i j))) (ha : PE X a (Cx.ev X W f)) (hb : PE X b (Cx.ev X W g)) (hc : PE X d (Cx.ev X W h))
    (hm : lastMarks [op, op'] [b, d] = false := by with_unfolding_all rfl) : PE X (.Compare a [op, op'] [b, d] pos) (Cx.ev X W (eChain c c' f g h)) :=
  (pe_chain ho ho' ha hb hc hm).imp fun _ _ _ q => (tv_int q).mono fun _ _ q => q.mono fun _ _ ⟨i, j, e1, e2, k, e3, q⟩ => by subst e2; exact ⟨i, j, e1, rfl, k, e3, q⟩
theorem w_chain {op op' : CmpOp} (ho : OpR X (compareOp op) (rI0 fun i j => .bl (c i j))) (ho' : OpR X (compareOp op') (rI0 fun i j => .bl (c' i j))) (ha : PE X a (Cx.ev X W f)) (hb : PE X b (Cx.ev X W g)) (hc : PE X d (Cx.ev X W h)) (hm : lastMarks [op, op'] [b, d] = false := by with_unfolding_all rfl) : PT X (.Compare a [op, op'] [b, d] pos) (Cx.tv X W (tE (eChain c c' f g h))) :=
  (pt_chain ho ho' ha hb hc hm).imp fun _ _ _ q => (tv_int (tv_E q)).mono fun _ _ q => q.mono fun _ _ ⟨i, j, e1, e2, k, e3, q⟩ => by subst e2; exact ⟨i, j, e1, rfl, k, e3, q⟩
end
end FW

namespace FW
open PySem PySem.Spec PyProof.Rows L2

/-! ## statements -/
def PostS (K : PySem.W.Frag) (mg : Str → Option Value) (W : WX) (B : List Addr) (a0 : Addr) (H : Hp) (L : List Addr) (D : Ends) : Out → Prop
  | .nx ρ' => ∀ σ' H' L', RR K H' (L' ++ B) a0 ρ' σ' L' → L'.Nodup → Fr H H' L L' → D.nx σ' H'
  | .bk ρ' => ∀ σ' H' L', RR K H' (L' ++ B) a0 ρ' σ' L' → L'.Nodup → Fr H H' L L' → D.bk σ' H'
  | .ct ρ' => ∀ σ' H' L', RR K H' (L' ++ B) a0 ρ' σ' L' → L'.Nodup → Fr H H' L L' → D.ct σ' H'
  | .rt val ρ' => ∀ v σ' H' L' Lv, RR K H' (L' ++ Lv ++ B) a0 ρ' σ' L' → VR K a0 σ' H' (L' ++ Lv ++ B) val v Lv → (L' ++ Lv).Nodup → Fr H H' L (L' ++ Lv) → D.rt v H'
  | .exc x ρ' => ∀ cls d σ' H' L', RR K H' (L' ++ B) a0 ρ' σ' L' → XR K mg H' (L' ++ B) x cls d → L'.Nodup → Fr H H' L L' → W cls d σ' H'
  | .bad => False
def tSt (K : PySem.W.Frag) (mg : Str → Option Value) (W : WX) (f : SS) : TS := fun D σ H =>
  ∃ ρ L B a0, RR K H (L ++ B) a0 ρ σ L ∧ WF H L B ∧ PostS K mg W B a0 H L D (f ρ)
abbrev Cx.st (X : Cx) (W : WX) (f : SS) : TS := tSt X.K X.mg W f
def RS (r : R Val) (k : Val → Rho → Out) : Out := match r with
  | .ok a ρ => k a ρ
  | .exc x ρ => .exc x ρ
  | .bad => .bad
def sNx : SS := fun ρ => .nx ρ
def sBk : SS := fun ρ => .bk ρ
def sCt : SS := fun ρ => .ct ρ
def sSeq (f g : SS) : SS := fun ρ => match f ρ with
  | .nx ρ1 => g ρ1
  | .rt v ρ1 => .rt v ρ1
  | .bk ρ1 => .bk ρ1
  | .ct ρ1 => .ct ρ1
  | .exc x ρ1 => .exc x ρ1
  | .bad => .bad
def sIf (c : TT') (f g : SS) : SS := fun ρ => match c ρ with
  | .ok b ρ1 => if b = true then f ρ1 else g ρ1
  | .exc x ρ1 => .exc x ρ1
  | .bad => .bad
def sRet (f : EE) : SS := fun ρ => RS (f ρ) fun v ρ1 => .rt v ρ1
def sRetN : SS := fun ρ => .rt (.imm .non) ρ
def sExpr (f : EE) : SS := fun ρ => RS (f ρ) fun _ ρ1 => .nx ρ1
def put (ρ : Rho) (i : Nat) : Val → Option Rho
  | .imm d => some (ρ.set i (.imm d))
  | .own o => some (ρ.set i (.own o))
  | _ => none
def sSet (i : Nat) (f : EE) : SS := fun ρ => RS (f ρ) fun v ρ1 => match put ρ1 i v with
  | some ρ2 => .nx ρ2
  | none => .bad
def sPar (i j : Nat) (fs : EEs) : SS := fun ρ => match fs ρ with
  | .ok [v, w] ρ1 => match put ρ1 i v with
    | some ρ2 => match put ρ2 j w with
      | some ρ3 => .nx ρ3
      | none => .bad
    | none => .bad
  | .ok _ _ => .bad
  | .exc x ρ1 => .exc x ρ1
  | .bad => .bad
section
variable {K : PySem.W.Frag} {mg : Str → Option Value} {W : WX} {σ : L2.St} {H H1 : Hp} {B : List Addr} {a0 : Addr} {L L1 : List Addr} {D D' : Ends}
theorem PostS.shift {o : Out} (f1 : Fr H H1 L L1) (h : PostS K mg W B a0 H L D o) : PostS K mg W B a0 H1 L1 D o := by
  cases o with
  | nx ρ => exact fun σ' H' L' r nd f => h σ' H' L' r nd (f1.trans f)
  | bk ρ => exact fun σ' H' L' r nd f => h σ' H' L' r nd (f1.trans f)
  | ct ρ => exact fun σ' H' L' r nd f => h σ' H' L' r nd (f1.trans f)
  | rt v ρ => exact fun v σ' H' L' Lv r vr nd f => h v σ' H' L' Lv r vr nd (f1.trans f)
  | exc x ρ => exact fun cls d σ' H' L' r xr nd f => h cls d σ' H' L' r xr nd (f1.trans f)
  | bad => exact h
/-- an expression, then what comes of its value -/
theorem ev_S {f : EE} {k : Val → Rho → Out} {Q : VK} (h : tSt K mg W (fun ρ => RS (f ρ) k) D σ H)
    (q : ∀ v val ρ1 H1 L1 Lv B a0, RR K H1 (L1 ++ Lv ++ B) a0 ρ1 σ L1 → VR K a0 σ H1 (L1 ++ Lv ++ B) val v Lv → (L1 ++ Lv).Nodup → WF H1 L1 B → (∀ x ∈ Lv, x ∉ L1 ++ B) → (∀ L2, (∀ a ∈ L2, a ∈ L1 ++ Lv) → PostS K mg W B a0 H1 L2 D (k val ρ1)) → Q v H1) : tEv K mg W f σ H Q := by
  obtain ⟨ρ, L, B, a0, h1, h2, h3⟩ := h
  refine ⟨ρ, L, B, a0, h1, h2, ?_⟩
  dsimp only at h3
  cases e : f ρ with
  | bad => rw [e] at h3; exact h3
  | exc x ρ1 => rw [e] at h3; exact fun cls d H' L' r x n f => h3 cls d σ H' L' r x n f
  | ok val ρ1 =>
    rw [e] at h3
    exact fun v H1 L1 Lv r1 v1 nd1 f1 => q v val ρ1 H1 L1 Lv B a0 r1 v1 nd1 (h2.next (f1.sub fun a z => List.mem_append_left _ z) (List.nodup_append.mp nd1).1) (apart h2 f1 nd1) fun L2 z => PostS.shift (f1.sub z) h3
theorem RR.put {ρ ρ' : Rho} {Lv : List Addr} {i : Nat} {val : Val} {v : V} (r : RR K H (L ++ Lv ++ B) a0 ρ σ L) (h : VR K a0 σ H (L ++ Lv ++ B) val v Lv) (nd : (L ++ Lv).Nodup) (e : put ρ i val = some ρ') :
    ∃ L', RR K H (L' ++ B) a0 ρ' (σ.set i (some v)) L' ∧ (∀ b ∈ L', b ∈ L ++ Lv) ∧ L'.Nodup := by
  have fin : ∀ {s : Slot}, SlR K H (L ++ Lv ++ B) a0 s (some v) Lv → ∃ L', RR K H (L' ++ B) a0 (ρ.set i s) (σ.set i (some v)) L' ∧ (∀ b ∈ L', b ∈ L ++ Lv) ∧ L'.Nodup := fun {s} q => by
    obtain ⟨L', a, b, c⟩ := r.set i q nd
    refine ⟨L', a.weak fun x z => ?_, fun x z => List.mem_append.mpr (b x z), c⟩
    rcases List.mem_append.mp z with z | z
    · rcases b x z with y | y <;> simp [y]
    · simp [z]
  cases h with
  | imm h => cases e; exact fin (.imm h)
  | own h => cases e; exact fin (.own h)
  | bor h => cases e
  | ob => cases e
end
section
variable {X : Cx} {W : WX} {st : Stmt} {sts : List Stmt} {pos : Pos} {f g : SS} {e : Expr} {ef : EE}
theorem z_nil : PSs X [] (Cx.st X W sNx) := pss_nil.imp fun D σ H h => by
  obtain ⟨ρ, L, B, a0, h1, h2, h3⟩ := h
  exact h3 σ H L h1 h2.nd Fr.refl
theorem z_cons (h1 : PS X st (Cx.st X W f)) (h2 : PSs X sts (Cx.st X W g)) : PSs X (st :: sts) (Cx.st X W (sSeq f g)) := (pss_cons h1 h2).imp fun D σ H h => by
  obtain ⟨ρ, L, B, a0, h1, h2, h3⟩ := h
  refine ⟨ρ, L, B, a0, h1, h2, ?_⟩
  simp only [sSeq] at h3
  cases e : f ρ with
  | nx ρ1 =>
    rw [e] at h3
    exact fun σ' H' L' r nd fr => ⟨ρ1, L', B, a0, r, h2.next fr nd, PostS.shift fr h3⟩
  | bk ρ1 => rw [e] at h3; exact h3
  | ct ρ1 => rw [e] at h3; exact h3
  | rt v ρ1 => rw [e] at h3; exact h3
  | exc x ρ1 => rw [e] at h3; exact h3
  | bad => rw [e] at h3; exact h3
theorem z_one (h1 : PS X st (Cx.st X W f)) : PSs X [st] (Cx.st X W f) := pss_one h1
theorem s_pass : PS X (.Pass pos) (Cx.st X W sNx) := ps_pass.imp fun D σ H h => by
  obtain ⟨ρ, L, B, a0, h1, h2, h3⟩ := h
  exact h3 σ H L h1 h2.nd Fr.refl
theorem s_break : PS X (.Break pos) (Cx.st X W sBk) := ps_break.imp fun D σ H h => by
  obtain ⟨ρ, L, B, a0, h1, h2, h3⟩ := h
  exact h3 σ H L h1 h2.nd Fr.refl
theorem s_cont : PS X (.Continue pos) (Cx.st X W sCt) := ps_continue.imp fun D σ H h => by
  obtain ⟨ρ, L, B, a0, h1, h2, h3⟩ := h
  exact h3 σ H L h1 h2.nd Fr.refl
theorem s_doc {x j pos pos'} : PS X (.Expr (.Constant (.str x) j pos) pos') (Cx.st X W sNx) := ps_doc.imp fun D σ H h => by
  obtain ⟨ρ, L, B, a0, h1, h2, h3⟩ := h
  exact h3 σ H L h1 h2.nd Fr.refl
theorem s_if {c : Expr} {a b : List Stmt} {t : TT'} (hc : PT X c (Cx.tv X W t)) (ha : PSs X a (Cx.st X W f)) (hb : PSs X b (Cx.st X W g)) : PS X (.If c a b pos) (Cx.st X W (sIf t f g)) := (ps_if hc ha hb).imp fun D σ H h => by
  obtain ⟨ρ, L, B, a0, h1, h2, h3⟩ := h
  refine ⟨ρ, L, B, a0, h1, h2, ?_⟩
  simp only [sIf] at h3
  cases e : t ρ with
  | bad => rw [e] at h3; exact h3
  | exc x ρ1 => rw [e] at h3; exact fun cls d H' L' r x n f => h3 cls d σ H' L' r x n f
  | ok b ρ1 =>
    rw [e] at h3
    intro b' H1 L1 Lv r1 v1 nd1 f1
    obtain ⟨rfl, rfl⟩ := v1
    rw [app_nil3] at r1
    rw [List.append_nil] at nd1 f1
    cases b with
    | true => exact ⟨ρ1, L1, B, a0, r1, h2.next f1 nd1, PostS.shift f1 h3⟩
    | false => exact ⟨ρ1, L1, B, a0, r1, h2.next f1 nd1, PostS.shift f1 h3⟩
theorem s_ret (he : PE X e (Cx.ev X W ef)) : PS X (.Return (some e) pos) (Cx.st X W (sRet ef)) := (ps_ret he).imp fun D σ H h =>
  ev_S h fun v val ρ1 H1 L1 Lv B a0 r1 v1 nd1 w1 ap p => p (L1 ++ Lv) (fun _ z => z) v σ H1 L1 Lv r1 v1 nd1 Fr.refl
theorem s_retN : PS X (.Return none pos) (Cx.st X W sRetN) := ps_retN.imp fun D σ H h => by
  obtain ⟨ρ, L, B, a0, h1, h2, h3⟩ := h
  exact h3 .non σ H L [] (by rw [app_nil3]; exact h1) (.imm .non) (by simpa using h2.nd) (by simpa using Fr.refl)
theorem s_expr (he : PE X e (Cx.ev X W ef)) (hs : swapsWith e none pos.line X.env = pure false := by rfl) : PS X (.Expr e pos) (Cx.st X W (sExpr ef)) := (ps_expr he hs).imp fun D σ H h =>
  ev_S h fun v val ρ1 H1 L1 Lv B a0 r1 v1 nd1 w1 ap p => p L1 (fun _ z => List.mem_append_left _ z) σ H1 L1 (r1.weak keep_in) w1.nd Fr.refl
theorem s_set {i : Nat} {x : Str} {pos' : Pos} (hN : X.N.Nodup) (he : PE X e (Cx.ev X W ef)) (hi : X.N[i]? = some x := by rfl) (hx : Loc X.env.scope x := by first | exact .inl rfl | exact .inr rfl) (hs : swapsWith e (some (.Name x pos')) pos.line X.env = pure false := by rfl)
    (hf : X.fn x = true ∨ X.env.scope.names.lookup x = some .local := by first | exact .inl rfl | exact .inr rfl) : PS X (.Assign [.Name x pos'] e pos) (Cx.st X W (sSet i ef)) := (ps_set hN hi hx he hs hf).imp fun D σ H h =>
  ev_S h fun v val ρ1 H1 L1 Lv B a0 r1 v1 nd1 w1 ap p => by
    have p := p (L1 ++ Lv) fun _ z => z
    cases e : put ρ1 i val with
    | none => rw [e] at p; exact p.elim
    | some ρ2 =>
      rw [e] at p
      obtain ⟨L', q1, q2, q3⟩ := r1.put v1 nd1 e
      exact p _ H1 L' q1 q3 (Fr.refl.sub q2)
theorem s_par {i j : Nat} {x y : Str} {a b : Expr} {fs : EEs} {px py pt : Pos} {kt k2 pt2} (hc : X.calm = true) (hN : X.N.Nodup) (ha : PA X [a, b] (Cx.evs X W fs)) (hi : X.N[i]? = some x := by rfl) (hj : X.N[j]? = some y := by rfl) (hij : i ≠ j := by decide)
    (hx : X.env.scope.names.lookup x = some .local := by rfl) (hy : X.env.scope.names.lookup y = some .local := by rfl)
    (hw : swappedStores [.Tuple [.Name x px, .Name y py] kt pt] (.Tuple [a, b] k2 pt2) X.env = pure (some [x, y]) := by rfl)
    (hs : swapsWithSole [.Tuple [.Name x px, .Name y py] kt pt] (.Tuple [a, b] k2 pt2) pos.line X.env = pure false := by rfl) : PS X (.Assign [.Tuple [.Name x px, .Name y py] kt pt] (.Tuple [a, b] k2 pt2) pos) (Cx.st X W (sPar i j fs)) :=
  (ps_par hc hN hi hj hij hx hy ha hw hs).imp fun D σ H h => by
    obtain ⟨ρ, L, B, a0, h1, h2, h3⟩ := h
    refine ⟨ρ, L, B, a0, h1, h2, ?_⟩
    simp only [sPar] at h3
    cases e : fs ρ with
    | bad => rw [e] at h3; exact h3
    | exc x ρ1 => rw [e] at h3; exact fun cls d H' L' r x n f => h3 cls d σ H' L' r x n f
    | ok vals ρ1 =>
      rw [e] at h3
      intro vs H1 L1 Lv r1 v1 nd1 f1
      cases v1 with
      | nil => exact h3.elim
      | cons va v1 =>
        cases v1 with
        | nil => exact h3.elim
        | cons vb v1 =>
          cases v1 with
          | cons _ _ => exact h3.elim
          | nil =>
            rename_i x v La x' v' Lb
            simp only [List.append_nil] at r1 va vb nd1 f1
            simp only at h3
            refine ⟨v, v', rfl, ?_⟩
            cases e1 : put ρ1 i x with
            | none => rw [e1] at h3; exact h3.elim
            | some ρ2 =>
              rw [e1] at h3
              simp only at h3
              cases e2 : put ρ2 j x' with
              | none => rw [e2] at h3; exact h3.elim
              | some ρ3 =>
                rw [e2] at h3
                have as : L1 ++ (La ++ Lb) ++ B = L1 ++ La ++ (Lb ++ B) := by simp
                rw [as] at r1 va vb
                have nda : (L1 ++ La).Nodup := by
                  rw [← List.append_assoc] at nd1; exact (List.nodup_append.mp nd1).1
                obtain ⟨L2, q1, q2, q3⟩ := r1.put va nda e1
                rw [← List.append_assoc] at q1
                have sub : ∀ z ∈ L2 ++ Lb ++ B, z ∈ L1 ++ La ++ (Lb ++ B) := fun z hz => by
                  simp only [List.mem_append] at hz ⊢
                  rcases hz with (hz | hz) | hz
                  · rcases List.mem_append.mp (q2 z hz) with y | y <;> simp [y]
                  · simp [hz]
                  · simp [hz]
                have vb' : VR X.K a0 (σ.set i (some v)) H1 (L2 ++ Lb ++ B) x' v' Lb := by
                  cases vb with
                  | imm h => exact .imm (h.kp (Kp.weak sub))
                  | own h => exact .own (h.kp (Kp.weak sub) fun _ _ => rfl)
                  | bor h => cases e2
                  | ob => cases e2
                have ndb : (L2 ++ Lb).Nodup := by
                  rw [← List.append_assoc] at nd1
                  rw [List.nodup_append] at nd1 ⊢
                  exact ⟨q3, nd1.2.1, fun a ha b hb => nd1.2.2 a (q2 a ha) b hb⟩
                obtain ⟨L3, p1, p2, p3⟩ := q1.put vb' ndb e2
                refine h3 _ H1 L3 p1 p3 (f1.sub fun z hz => ?_)
                rcases List.mem_append.mp (p2 z hz) with y | y
                · rcases List.mem_append.mp (q2 z y) with y | y <;> simp [y]
                · simp [y]
end

/-! ## targets -/
inductive Tgt where
  | nm (i : Nat) | tp (ts : List Tgt)
mutual
def bindT : Tgt → D → Rho → Option Rho
  | .nm i, d, ρ => some (ρ.set i (.imm d))
  | .tp ts, .tup ds, ρ => bindTs ts ds ρ
  | .tp _, _, _ => none
def bindTs : List Tgt → List D → Rho → Option Rho
  | [], [], ρ => some ρ
  | t :: ts, d :: ds, ρ => match bindT t d ρ with
    | some ρ1 => bindTs ts ds ρ1
    | none => none
  | _, _, _ => none
end
mutual
def tsl : Tgt → List Nat
  | .nm i => [i]
  | .tp ts => tsls ts
def tsls : List Tgt → List Nat
  | [] => []
  | t :: ts => tsl t ++ tsls ts
end
def AllOut (vs : List Nat) (σ σ' : L2.St) : Prop := ∀ ws : List Nat, (∀ i ∈ vs, i ∈ ws) → wipe σ' ws = wipe σ ws
def gT (K : PySem.W.Frag) (t : Tgt) : TG := fun v σ H Q => ∃ ρ L B a0 d ρ', RR K H (L ++ B) a0 ρ σ L ∧ L.Nodup ∧ Fz K H (L ++ B) d v ∧ bindT t d ρ = some ρ' ∧
  ∀ σ' L', RR K H (L' ++ B) a0 ρ' σ' L' → (∀ a ∈ L', a ∈ L) → L'.Nodup → AllOut (tsl t) σ σ' → Q σ' H
def gTs (K : PySem.W.Frag) (ts : List Tgt) : TGs := fun vs σ H Q => ∃ ρ L B a0 ds ρ', RR K H (L ++ B) a0 ρ σ L ∧ L.Nodup ∧ FzL K H (L ++ B) ds vs ∧ bindTs ts ds ρ = some ρ' ∧
  ∀ σ' L', RR K H (L' ++ B) a0 ρ' σ' L' → (∀ a ∈ L', a ∈ L) → L'.Nodup → AllOut (tsls ts) σ σ' → Q σ' H
theorem _root_.L2.PG.imp {X : Cx} {e : Expr} {t t' : TG} (h : PG X e t) (i : ∀ v σ H Q, t' v σ H Q → t v σ H Q) : PG X e t' := ⟨fun pins s σ H v u Q I r q => h.run pins s σ H v u Q I r (i v σ H Q q)⟩
theorem _root_.L2.PGs.imp {X : Cx} {e : List Expr} {t t' : TGs} (h : PGs X e t) (i : ∀ v σ H Q, t' v σ H Q → t v σ H Q) : PGs X e t' := ⟨fun pins s σ H v u Q I r q => h.run pins s σ H v u Q I r (i v σ H Q q)⟩
theorem wipe_get (σ : L2.St) : ∀ (vs : List Nat) (j : Nat), (wipe σ vs)[j]? = if j ∈ vs then (if j < σ.length then some none else none) else σ[j]?
  | [], j => by simp [wipe]
  | v :: vs, j => by
    unfold wipe
    rw [List.getElem?_set, wipe_length, wipe_get σ vs j]
    by_cases h : v = j
    · subst h; simp
    · rw [if_neg h]
      have : j ≠ v := fun e => h e.symm
      simp [this]
theorem wipe_set {σ : L2.St} {i : Nat} {x : Option V} {vs : List Nat} (h : i ∈ vs) : wipe (σ.set i x) vs = wipe σ vs := by
  apply List.ext_getElem?
  intro j
  rw [wipe_get, wipe_get, List.length_set, List.getElem?_set]
  by_cases hj : j ∈ vs
  · simp [hj]
  · have : i ≠ j := fun e => hj (e ▸ h)
    simp [hj, this]
section
variable {X : Cx} {pos : Pos} {W : WX}
theorem g_nm {i : Nat} {x : Str} (hN : X.N.Nodup) (hi : X.N[i]? = some x := by rfl) (hx : Loc X.env.scope x := by first | exact .inl rfl | exact .inr rfl) (hf : X.fn x = true ∨ X.env.scope.names.lookup x = some .local := by first | exact .inl rfl | exact .inr rfl | assumption) : PG X (.Name x pos) (gT X.K (.nm i)) :=
  (pg_name hN hi hx hf).imp fun v σ H Q h => by
    obtain ⟨ρ, L, B, a0, d, ρ', r, nd, fz, e, q⟩ := h
    simp only [bindT] at e
    cases e
    obtain ⟨L', a, b, c⟩ := r.set (Ls := []) i (.imm fz) (by simpa using nd)
    have b' : ∀ x ∈ L', x ∈ L := fun x z => by
      rcases b x z with y | y
      · exact y
      · simp at y
    refine q _ L' (a.weak fun x z => ?_) b' c fun ws hw => wipe_set (hw i (by simp [tsl]))
    rcases List.mem_append.mp z with z | z
    · exact List.mem_append_left _ (b' x z)
    · exact List.mem_append_right _ z
theorem g_nil : PGs X [] (gTs X.K []) := pgs_nil.imp fun vs σ H Q h => by
  obtain ⟨ρ, L, B, a0, ds, ρ', r, nd, fz, e, q⟩ := h
  cases fz with
  | nil => simp only [bindTs] at e; cases e; exact ⟨rfl, q σ L r (fun _ z => z) nd fun _ _ => rfl⟩
  | cons _ _ => simp only [bindTs] at e; cases e
theorem g_cons {e : Expr} {es : List Expr} {t : Tgt} {ts : List Tgt} (h1 : PG X e (gT X.K t)) (h2 : PGs X es (gTs X.K ts)) (hs : (assignEach (e :: es) X.env).map (·.2) = assign e X.env :: (assignEach es X.env).map (·.2) := by rfl) : PGs X (e :: es) (gTs X.K (t :: ts)) :=
  (pgs_cons h1 h2 hs).imp fun vs σ H Q h => by
    obtain ⟨ρ, L, B, a0, ds, ρ', r, nd, fz, e, q⟩ := h
    cases fz with
    | nil => simp only [bindTs] at e; cases e
    | cons f1 f2 =>
      rename_i d v ds vs
      simp only [bindTs] at e
      cases e1 : bindT t d ρ with
      | none => rw [e1] at e; cases e
      | some ρ1 =>
        rw [e1] at e
        refine ⟨v, vs, rfl, ρ, L, B, a0, d, ρ1, r, nd, f1, e1, fun σ1 L1 r1 s1 n1 o1 => ⟨ρ1, L1, B, a0, ds, ρ', r1, n1, f2.kp (Kp.weak fun x z => ?_), e, fun σ2 L2 r2 s2 n2 o2 => ?_⟩⟩
        · rcases List.mem_append.mp z with z | z
          · exact List.mem_append_left _ (s1 x z)
          · exact List.mem_append_right _ z
        · refine q σ2 L2 r2 (fun a z => s1 a (s2 a z)) n2 fun ws hw => ?_
          rw [o2 ws fun i z => hw i (by simp [tsls, z]), o1 ws fun i z => hw i (by simp [tsls, z])]
theorem g_tp {es : List Expr} {k : Nat} {ts : List Tgt} (hc : X.calm = true) (h : PGs X es (gTs X.K ts)) (hn : (assignEach es X.env).length = ts.length := by rfl) (hst : (assignEach es X.env).findIdx? (·.1) = none := by rfl) : PG X (.Tuple es k pos) (gT X.K (.tp ts)) :=
  (pg_tup hc h hn hst).imp fun v σ H Q h => by
    obtain ⟨ρ, L, B, a0, d, ρ', r, nd, fz, e, q⟩ := h
    cases d with
    | tup ds =>
      simp only [bindT] at e
      cases fz with
      | tup s f =>
        rename_i a vs
        have len : ∀ (ts : List Tgt) (ds : List D) (ρ ρ' : Rho), bindTs ts ds ρ = some ρ' → ds.length = ts.length := by
          intro ts
          induction ts with
          | nil => intro ds ρ ρ' e; cases ds with
            | nil => rfl
            | cons _ _ => simp only [bindTs] at e; cases e
          | cons t ts ih => intro ds ρ ρ' e; cases ds with
            | nil => simp only [bindTs] at e; cases e
            | cons d ds =>
              simp only [bindTs] at e
              cases e1 : bindT t d ρ with
              | none => rw [e1] at e; cases e
              | some ρ1 => rw [e1] at e; simp [ih ds ρ1 ρ' e]
        exact ⟨a, vs, rfl, s, by rw [← f.length, len ts ds ρ ρ' e], ρ, L, B, a0, ds, ρ', r, nd, f, e, fun σ' L' a b c o => q σ' L' a b c fun ws hw => o ws fun i z => hw i (by simpa [tsl] using z)⟩
    | non => simp only [bindT] at e; cases e
    | bl _ => simp only [bindT] at e; cases e
    | int _ => simp only [bindT] at e; cases e
    | str _ => simp only [bindT] at e; cases e
    | lst _ => simp only [bindT] at e; cases e
    | dk _ => simp only [bindT] at e; cases e
    | dt _ => simp only [bindT] at e; cases e
    | scr _ => simp only [bindT] at e; cases e
end
/-- targets = a tuple -/
def sUnp (t : Tgt) (f : EE) : SS := fun ρ => RS (f ρ) fun v ρ1 => match v with
  | .imm d => match bindT t d ρ1 with
    | some ρ2 => .nx ρ2
    | none => .bad
  | _ => .bad
theorem s_unp {X : Cx} {W : WX} {tg e : Expr} {pos : Pos} {ef : EE} {t : Tgt} (he : PE X e (Cx.ev X W ef)) (hg : PG X tg (gT X.K t)) (hs : swapsWithSole [tg] e pos.line X.env = pure false := by rfl) (hw : swappedStores [tg] e X.env = pure none := by rfl) (h1 : (assignEach [tg] X.env).map (·.2) = [assign tg X.env] := by rfl) : PS X (.Assign [tg] e pos) (Cx.st X W (sUnp t ef)) :=
  (ps_asg he hg hs hw h1).imp fun D σ H h => ev_S h fun v val ρ1 H1 L1 Lv B a0 r1 v1 nd1 w1 ap p => by
    have p' := p L1 fun _ z => List.mem_append_left _ z
    clear p
    cases v1 with
    | own h => exact p'.elim
    | bor h => exact p'.elim
    | ob => exact p'.elim
    | @imm d v fz =>
      rw [app_nil3] at r1 fz
      simp only at p'
      cases e : bindT t d ρ1 with
      | none => rw [e] at p'; exact p'.elim
      | some ρ2 =>
        rw [e] at p'
        exact ⟨ρ1, L1, B, a0, d, ρ2, r1, w1.nd, fz, e, fun σ' L' a b c _ => p' σ' H1 L' a c (Fr.refl.sub b)⟩
end FW

namespace FW
open PySem PySem.Spec PyProof.Rows L2

/-! ## what a for walks -/
/-- behind H1, where the frame owned L1 -/
structure Later (H1 : Hp) (L1 : List Addr) (H : Hp) : Prop where
  keep : ∀ a o, H1 a = some o → a ∉ L1 → H a = some o
  imm : ∀ a o, H1 a = some o → ¬ Mut (some o) → H a = some o
theorem Later.of {H1 H : Hp} {L1 L : List Addr} (f : Fr H1 H L1 L) : Later H1 L1 H := ⟨f.keep, f.imm⟩
theorem Later.kp {H1 H : Hp} {L1 Lc B B1 : List Addr} (l : Later H1 L1 H) (h1 : ∀ x ∈ L1, x ∈ B1) (h2 : ∀ x ∈ B, x ∈ B1) (n : ∀ a ∈ Lc, a ∈ L1 ∨ H1 a = none) : Kp H1 B1 H (Lc ++ B) where
  keep := fun a o e nb => ⟨l.keep a o e fun z => nb (h1 a z), fun z => by
    rcases List.mem_append.mp z with z | z
    · rcases n a z with y | y
      · exact nb (h1 a y)
      · rw [e] at y; cases y
    · exact nb (h2 a z)⟩
  imm := l.imm
def WalkD (K : PySem.W.Frag) (J : It) (B : List Addr) (ds : List D) (H1 : Hp) (L1 : List Addr) : Prop :=
  ∃ (G : Hp → Prop) (Y : Nat → Hp → V → Hp → Prop), Walk J ds.length G Y ∧ (∀ H, Later H1 L1 H → G H) ∧
    ∀ i H x H' Lc, i < ds.length → Later H1 L1 H → Y i H x H' → (∀ a ∈ Lc, a ∈ L1 ∨ H1 a = none) → Ex H H' ∧ ∃ d, ds[i]? = some d ∧ Fz K H' (Lc ++ B) d x
def PeI (K : PySem.W.Frag) (mg : Str → Option Value) (W : WX) (B : List Addr) (a0 : Addr) (σ : L2.St) (H : Hp) (L : List Addr) (Rq : It → Hp → Prop) : FW.R (List D) → Prop
  | .ok ds ρ' => ∀ J H' L', RR K H' (L' ++ B) a0 ρ' σ L' → L'.Nodup → Fr H H' L L' → WalkD K J B ds H' L' → Rq J H'
  | .exc x ρ' => ∀ cls d H' L', RR K H' (L' ++ B) a0 ρ' σ L' → XR K mg H' (L' ++ B) x cls d → L'.Nodup → Fr H H' L L' → W cls d σ H'
  | .bad => False
abbrev II := Rho → R (List D)
def tIt (K : PySem.W.Frag) (mg : Str → Option Value) (W : WX) (f : II) : TI := fun σ H R =>
  ∃ ρ L B a0, RR K H (L ++ B) a0 ρ σ L ∧ WF H L B ∧ PeI K mg W B a0 σ H L R (f ρ)
abbrev Cx.it (X : Cx) (W : WX) (f : II) : TI := tIt X.K X.mg W f
theorem _root_.L2.PI.imp {X : Cx} {tg e : Expr} {t t' : TI} (h : PI X tg e t) (i : ∀ σ H R, t' σ H R → t σ H R) : PI X tg e t' := ⟨fun pins s σ H R I q => h.run pins s σ H R I (i σ H R q)⟩
/-- the items of data that stand still -/
def items : D → Option (List D)
  | .tup ds => some ds
  | .lst ds => some ds
  | .scr ns => some (ns.map .int)
  | _ => none
def seqs (ρ : Rho) (v : Val) : Option (List D) := match v with
  | .imm d => items d
  | .own (.lst ds) => some ds
  | _ => none
def iTup' (f : EE) : II := fun ρ => (f ρ).bind fun v ρ1 => match v with
  | .imm (.tup ds) => .ok ds ρ1
  | _ => .bad
def iLst' (f : EE) : II := fun ρ => (f ρ).bind fun v ρ1 => match v with
  | .imm (.lst ds) => .ok ds ρ1
  | .imm (.scr ns) => .ok (ns.map .int) ρ1
  | .own (.lst ds) => .ok ds ρ1
  | _ => .bad
theorem walkD_fix {K : PySem.W.Frag} {J : It} {B B1 : List Addr} {ds : List D} {vs : List V} {H1 : Hp} {L1 : List Addr} {G : Hp → Prop} (w : Walk J vs.length G (YAt vs)) (fz : FzL K H1 B1 ds vs) (h1 : ∀ x ∈ L1, x ∈ B1) (h2 : ∀ x ∈ B, x ∈ B1) (hg : ∀ H, Later H1 L1 H → G H) : WalkD K J B ds H1 L1 := by
  refine ⟨G, YAt vs, by rw [fz.length]; exact w, hg, fun i H x H' Lc hi l y n => ?_⟩
  obtain ⟨rfl, e⟩ := y
  obtain ⟨d, e2, f⟩ := fz.getV e
  exact ⟨Ex.refl, d, e2, f.kp (l.kp h1 h2 n)⟩
section
variable {X : Cx} {W : WX} {tg e : Expr} {f : EE}
theorem i_tup (h : PE X e (Cx.ev X W f)) : PI X tg e (Cx.it X W (iTup' f)) := (pi_tup h).imp fun σ H R h => by
  obtain ⟨ρ, L, B, a0, h1, h2, h3⟩ := h
  refine ⟨ρ, L, B, a0, h1, h2, ?_⟩
  simp only [iTup'] at h3
  cases e : f ρ with
  | bad => rw [e] at h3; exact h3
  | exc x ρ1 => rw [e] at h3; exact h3
  | ok val ρ1 =>
    rw [e] at h3
    intro v H1 L1 Lv r1 v1 nd1 f1
    simp only [FW.R.bind] at h3
    cases v1 with
    | own _ => exact h3.elim
    | bor _ => exact h3.elim
    | ob => exact h3.elim
    | imm fz =>
      cases fz with
      | @tup a vs ds s fz =>
        simp only [List.append_nil] at r1 nd1 f1 fz
        exact ⟨a, rfl, ⟨vs, s⟩, h3 (Itt X.K a) H1 L1 r1 nd1 f1 (walkD_fix walk_tup fz (fun x z => List.mem_append_left _ z) (fun x z => List.mem_append_right _ z) fun H l => (l.kp (Lc := L1) (B := B) (fun x z => List.mem_append_left _ z) (fun x z => List.mem_append_right _ z) fun a z => .inl z).sqT s)⟩
      | _ => exact h3.elim
theorem i_lst (h : PE X e (Cx.ev X W f)) : PI X tg e (Cx.it X W (iLst' f)) := (pi_list h).imp fun σ H R h => by
  obtain ⟨ρ, L, B, a0, h1, h2, h3⟩ := h
  refine ⟨ρ, L, B, a0, h1, h2, ?_⟩
  simp only [iLst'] at h3
  cases e : f ρ with
  | bad => rw [e] at h3; exact h3
  | exc x ρ1 => rw [e] at h3; exact h3
  | ok val ρ1 =>
    rw [e] at h3
    intro v H1 L1 Lv r1 v1 nd1 f1
    simp only [FW.R.bind] at h3
    cases v1 with
    | bor _ => exact h3.elim
    | ob => exact h3.elim
    | @own _ a _ o =>
      cases o with
      | @lst _ vs ds ha fz =>
        have na : a ∉ L1 := fun z => (List.nodup_append.mp nd1).2.2 a z a (by simp) rfl
        refine ⟨a, rfl, ⟨vs, .inl (.inl ha)⟩, h3 (Itl X.K a) H1 L1 (r1.weak keep_in) (List.nodup_append.mp nd1).1 (f1.sub fun a z => List.mem_append_left _ z) (walkD_fix walk_list fz (fun x z => by simp [z]) (fun x z => by simp [z]) fun H l => .inl (.inl (l.keep a _ ha na)))⟩
      | _ => exact h3.elim
    | imm fz =>
      cases fz with
      | @lst a vs ds na ha fz =>
        simp only [List.append_nil] at r1 nd1 f1 fz na
        refine ⟨a, rfl, ⟨vs, .inl (.inl ha)⟩, h3 (Itl X.K a) H1 L1 r1 nd1 f1 (walkD_fix walk_list fz (fun x z => List.mem_append_left _ z) (fun x z => List.mem_append_right _ z) fun H l => .inl (.inl (l.keep a _ ha fun z => na (List.mem_append_left _ z))))⟩
      | @scr a ns hs =>
        simp only [List.append_nil] at r1 nd1 f1
        refine ⟨a, rfl, ⟨_, hs.sq⟩, h3 (Itl X.K a) H1 L1 r1 nd1 f1 (walkD_fix (B1 := L1 ++ B) walk_list (FzL.ints ns) (fun x z => List.mem_append_left _ z) (fun x z => List.mem_append_right _ z) fun H l => ?_)⟩
        exact ((l.kp (Lc := L1) (B := B) (B1 := L1 ++ B) (fun x z => List.mem_append_left _ z) (fun x z => List.mem_append_right _ z) fun a z => .inl z).scr hs).sq
      | _ => exact h3.elim
end
def intsFrom (lo : Int) : Nat → List D
  | 0 => []
  | n + 1 => .int lo :: intsFrom (lo + 1) n
theorem intsFrom_length (lo : Int) (n : Nat) : (intsFrom lo n).length = n := by
  induction n generalizing lo with
  | zero => rfl
  | succ n ih => simp [intsFrom, ih]
theorem intsFrom_get (lo : Int) (n i : Nat) (h : i < n) : (intsFrom lo n)[i]? = some (.int (lo + i)) := by
  induction n generalizing lo i with
  | zero => omega
  | succ n ih =>
    cases i with
    | zero => simp [intsFrom]
    | succ i =>
      simp only [intsFrom, List.getElem?_cons_succ]
      rw [ih (lo + 1) i (by omega)]
      have : lo + 1 + (i : Int) = lo + ((i + 1 : Nat) : Int) := by omega
      rw [this]
theorem walkD_range {K : PySem.W.Frag} {B : List Addr} {lo : Int} {n : Nat} {H1 : Hp} {L1 : List Addr} : WalkD K (Itr lo n) B (intsFrom lo n) H1 L1 := by
  refine ⟨fun _ => True, YFn fun i => .int (lo + i), by rw [intsFrom_length]; exact walk_range, fun _ _ => trivial, fun i H x H' Lc hi l y n => ?_⟩
  obtain ⟨rfl, rfl⟩ := y
  rw [intsFrom_length] at hi
  exact ⟨Ex.refl, _, intsFrom_get lo _ i hi, .int _⟩
noncomputable def inRange (i : Int) : Bool := @decide (-(2 ^ 62) ≤ i ∧ i < 2 ^ 62) (Classical.propDecidable _)
noncomputable def iRng1' (fs : EEs) : II := fun ρ => (fs ρ).bind fun vals ρ1 => match vals with
  | [.imm (.int j)] => if inRange j = true then .ok (intsFrom 0 j.toNat) ρ1 else .bad
  | _ => .bad
noncomputable def iRng2' (fs : EEs) : II := fun ρ => (fs ρ).bind fun vals ρ1 => match vals with
  | [.imm (.int i), .imm (.int j)] => if (inRange i && inRange j) = true then .ok (intsFrom i (j - i).toNat) ρ1 else .bad
  | _ => .bad
theorem inRange_of {i : Int} (h : inRange i = true) : -(2 ^ 62) ≤ i ∧ i < 2 ^ 62 := by
  exact @of_decide_eq_true _ (Classical.propDecidable _) h
section
variable {X : Cx} {W : WX} {tg a b : Expr} {fs : EEs} {p pos : Pos}
theorem i_rng1 (hg : Gl X "range") (hm : X.mg "range" = none) (ha : PA X [a] (Cx.evs X W fs)) (hs : starEach [a] X.env = [(false, eval a X.env)] := by rfl) : PI X tg (.Call (.Name "range" p) [a] [] pos) (Cx.it X W (iRng1' fs)) := (pi_range1 hg hm ha hs).imp fun σ H R h => by
  obtain ⟨ρ, L, B, a0, h1, h2, h3⟩ := h
  refine ⟨ρ, L, B, a0, h1, h2, ?_⟩
  simp only [iRng1'] at h3
  cases e : fs ρ with
  | bad => rw [e] at h3; exact h3
  | exc x ρ1 => rw [e] at h3; exact h3
  | ok vals ρ1 =>
    rw [e] at h3
    intro vs H1 L1 Lv r1 v1 nd1 f1
    simp only [FW.R.bind] at h3
    split at h3
    · rename_i j
      cases v1 with
      | cons va vb =>
        cases vb
        cases va with
        | imm fz =>
          cases fz
          simp only [List.append_nil] at r1 nd1 f1
          by_cases hj : inRange j = true
          · rw [if_pos hj] at h3
            obtain ⟨b1, b2⟩ := inRange_of hj
            exact ⟨j, rfl, b1, b2, h3 _ H1 L1 r1 nd1 f1 walkD_range⟩
          · rw [if_neg hj] at h3; exact h3.elim
    · exact h3.elim
theorem i_rng2 (hg : Gl X "range") (hm : X.mg "range" = none) (ha : PA X [a, b] (Cx.evs X W fs)) (hs : starEach [a, b] X.env = [(false, eval a X.env), (false, eval b X.env)] := by rfl) (hs2 : starEach [b] X.env = [(false, eval b X.env)] := by rfl) : PI X tg (.Call (.Name "range" p) [a, b] [] pos) (Cx.it X W (iRng2' fs)) := (pi_range2 hg hm ha hs hs2).imp fun σ H R h => by
  obtain ⟨ρ, L, B, a0, h1, h2, h3⟩ := h
  refine ⟨ρ, L, B, a0, h1, h2, ?_⟩
  simp only [iRng2'] at h3
  cases e : fs ρ with
  | bad => rw [e] at h3; exact h3
  | exc x ρ1 => rw [e] at h3; exact h3
  | ok vals ρ1 =>
    rw [e] at h3
    intro vs H1 L1 Lv r1 v1 nd1 f1
    simp only [FW.R.bind] at h3
    split at h3
    · rename_i i j
      cases v1 with
      | cons va vb =>
        cases vb with
        | cons vb vc =>
          cases vc
          cases va with
          | imm fz =>
            cases vb with
            | imm fz' =>
              cases fz
              cases fz'
              simp only [List.append_nil] at r1 nd1 f1
              by_cases hj : (inRange i && inRange j) = true
              · rw [if_pos hj] at h3
                rw [Bool.and_eq_true] at hj
                obtain ⟨b1, b2⟩ := inRange_of hj.1
                obtain ⟨b3, b4⟩ := inRange_of hj.2
                exact ⟨i, j, rfl, ⟨b1, b2, b3, b4⟩, h3 _ H1 L1 r1 nd1 f1 walkD_range⟩
              · rw [if_neg hj] at h3; exact h3.elim
    · exact h3.elim
end
/-- pairs of two lists' items -/
def zipD : List D → List D → List D
  | x :: xs, y :: ys => .tup [x, y] :: zipD xs ys
  | _, _ => []
theorem zipD_length : ∀ xs ys : List D, (zipD xs ys).length = min xs.length ys.length
  | [], ys => by simp [zipD]
  | x :: xs, [] => by simp [zipD]
  | x :: xs, y :: ys => by simp [zipD, zipD_length xs ys]
theorem zipD_get : ∀ (xs ys : List D) (i : Nat) (x y : D), xs[i]? = some x → ys[i]? = some y → (zipD xs ys)[i]? = some (.tup [x, y])
  | [], _, _, _, _, e, _ => by simp at e
  | _ :: _, [], _, _, _, _, e => by simp at e
  | a :: xs, b :: ys, 0, x, y, e1, e2 => by simp at e1 e2; subst e1 e2; rfl
  | a :: xs, b :: ys, i + 1, x, y, e1, e2 => by
    simp only [zipD, List.getElem?_cons_succ]
    exact zipD_get xs ys i x y (by simpa using e1) (by simpa using e2)
theorem walkD_pair {K : PySem.W.Frag} {J : It} {B B1 : List Addr} {n : Nat} {xs ys : List V} {ps : List D} {H1 : Hp} {L1 : List Addr} {G : Hp → Prop} (hn : ps.length = n) (w : Walk J n G (YPair (fun i => xs[i]?) (fun i => ys[i]?)))
    (ht : ∀ i x y, i < n → xs[i]? = some x → ys[i]? = some y → ∃ dx dy, ps[i]? = some (.tup [dx, dy]) ∧ Fz K H1 B1 dx x ∧ Fz K H1 B1 dy y)
    (h1 : ∀ x ∈ L1, x ∈ B1) (h2 : ∀ x ∈ B, x ∈ B1) (hg : ∀ H, Later H1 L1 H → G H) : WalkD K J B ps H1 L1 := by
  subst hn
  refine ⟨G, _, w, hg, fun i H x H' Lc hi l y n => ?_⟩
  obtain ⟨T, a, b, rfl, nT, rfl, e1, e2⟩ := y
  obtain ⟨dx, dy, e, f1, f2⟩ := ht i a b hi e1 e2
  have k := l.kp (Lc := Lc) h1 h2 n
  have ex : Ex H (upd H T (.tup [a, b])) := Ex.upd nT
  exact ⟨ex, _, e, .tup (.inl (.inl upd_same)) (.cons ((f1.kp k).kp ex.kp0) (.cons ((f2.kp k).kp ex.kp0) .nil))⟩
def iZipT' (fs : EEs) : II := fun ρ => (fs ρ).bind fun vals ρ1 => match vals with
  | [.imm (.tup xs), .imm (.tup ys)] => .ok (zipD xs ys) ρ1
  | _ => .bad
theorem walk_zipT {K : PySem.W.Frag} {a b : Addr} {xs ys : List V} {n : Nat} (hn : n = min xs.length ys.length) : Walk (RZ.ItzT K a b) n (fun H => SqT K H a xs ∧ SqT K H b ys) (YPair (fun i => xs[i]?) (fun i => ys[i]?)) := by
  subst hn
  refine ⟨fun i _ hi q => ?_, fun _ q => ⟨xs, ys, q.1, q.2, by omega⟩, fun i H v H' _ q y => ?_⟩
  · have h1 : i < xs.length := by omega
    have h2 : i < ys.length := by omega
    exact ⟨xs, ys, xs[i], ys[i], q.1, q.2, by simp [h1], by simp [h2]⟩
  · obtain ⟨T, x, z, h1, h2, h3, h4, h5⟩ := y
    exact ⟨T, x, z, h1, h2, h3, h4 xs q.1, h5 ys q.2⟩
theorem i_zipT {X : Cx} {W : WX} {e e2 : Expr} {fs : EEs} {p pos tpos : Pos} {elts : List Expr} {kk : Nat} (hg : Gl X "zip") (hm : X.mg "zip" = none) (ha : PA X [e, e2] (Cx.evs X W fs)) (hs : starEach [e, e2] X.env = (false, eval e X.env) :: starEach [e2] X.env := by rfl) (hpl : (backTo pos (starEach [e2] X.env)).any (·.1) = false := by rfl) : PI X (.Tuple elts kk tpos) (.Call (.Name "zip" p) [e, e2] [] pos) (Cx.it X W (iZipT' fs)) := (RZ.pi_zipA hg hm ha hs hpl).imp fun σ H R h => by
  obtain ⟨ρ, L, B, a0, h1, h2, h3⟩ := h
  refine ⟨ρ, L, B, a0, h1, h2, ?_⟩
  simp only [iZipT'] at h3
  cases e : fs ρ with
  | bad => rw [e] at h3; exact h3
  | exc x ρ1 => rw [e] at h3; exact h3
  | ok vals ρ1 =>
    rw [e] at h3
    intro vs H1 L1 Lv r1 v1 nd1 f1
    simp only [FW.R.bind] at h3
    split at h3
    · rename_i xs ys
      cases v1 with
      | cons va vb =>
        cases vb with
        | cons vb vc =>
          cases vc
          cases va with
          | imm fz =>
            cases vb with
            | imm fz' =>
              cases fz with
              | @tup a us _ s1 f1' =>
                cases fz' with
                | @tup b ws _ s2 f2' =>
                  simp only [List.append_nil] at r1 nd1 f1 f1' f2'
                  refine ⟨a, b, us, ws, rfl, .inr ⟨s1, s2, h3 _ H1 L1 r1 nd1 f1 (walkD_pair (B1 := L1 ++ B) (zipD_length xs ys) (walk_zipT (by rw [f1'.length, f2'.length])) (fun i x y hi e1 e2 => ?_) (fun x z => List.mem_append_left _ z) (fun x z => List.mem_append_right _ z) fun H l => ?_)⟩⟩
                  · obtain ⟨dx, g1, g2⟩ := f1'.getV e1
                    obtain ⟨dy, g3, g4⟩ := f2'.getV e2
                    exact ⟨dx, dy, zipD_get xs ys i dx dy g1 g3, g2, g4⟩
                  · have k := l.kp (Lc := L1) (B := B) (B1 := L1 ++ B) (fun x z => List.mem_append_left _ z) (fun x z => List.mem_append_right _ z) fun a z => .inl z
                    exact ⟨k.sqT s1, k.sqT s2⟩
    · exact h3.elim

/-! ## loops -/
def forL (t : Tgt) (body : SS) : List D → SS
  | [], ρ => .nx ρ
  | d :: ds, ρ => match bindT t d ρ with
    | none => .bad
    | some ρ1 => match body ρ1 with
      | .nx ρ2 => forL t body ds ρ2
      | .ct ρ2 => forL t body ds ρ2
      | .bk ρ2 => .nx ρ2
      | .rt v ρ2 => .rt v ρ2
      | .exc x ρ2 => .exc x ρ2
      | .bad => .bad
def sFor (t : Tgt) (it : II) (body : SS) : SS := fun ρ => match it ρ with
  | .ok ds ρ1 => forL t body ds ρ1
  | .exc x ρ1 => .exc x ρ1
  | .bad => .bad
theorem s_for {X : Cx} {W : WX} {tg iter : Expr} {body : List Stmt} {pos : Pos} {t : Tgt} {it : II} {bs : SS} (hp : PassesOwn (model X.prog X.w) X.A X.env X.xe) (hc : X.calm = true) (hi : PI X tg iter (Cx.it X W it)) (hg : PG X tg (gT X.K t)) (hb : PSs X body (Cx.st X W bs))
    (hs : ∀ x, foldedSetIterable iter X.env x = pure x := by intro _; rfl) : PS X (.For tg iter body [] pos) (Cx.st X W (sFor t it bs)) := (ps_for hp hc hi hg hb hs).imp fun D σ H h => by
  obtain ⟨ρ, L, B, a0, h1, h2, h3⟩ := h
  refine ⟨ρ, L, B, a0, h1, h2, ?_⟩
  simp only [sFor] at h3
  cases e : it ρ with
  | bad => rw [e] at h3; exact h3
  | exc x ρ1 => rw [e] at h3; exact fun cls d H' L' r x n f => h3 cls d σ H' L' r x n f
  | ok ds ρ1 =>
    rw [e] at h3
    intro J H1 L1 r1 nd1 f1 wk
    obtain ⟨G, Y, wk, hG, hY⟩ := wk
    refine for_it wk (fun i σ' H' => i ≤ ds.length ∧ ∃ ρ' L', RR X.K H' (L' ++ B) a0 ρ' σ' L' ∧ L'.Nodup ∧ Fr H1 H' L1 L' ∧ PostS X.K X.mg W B a0 H L D (forL t bs (ds.drop i) ρ'))
      ⟨Nat.zero_le _, ρ1, L1, r1, nd1, Fr.refl, by simpa using h3⟩ (fun i σ' H' _ q => ?_) (fun i x σ' H' H'' hi q y => ?_) (fun σ' H' q => ?_)
    · obtain ⟨_, ρ', L', _, _, f, _⟩ := q
      exact hG H' (Later.of f)
    · obtain ⟨_, ρ', L', r', nd', f', p'⟩ := q
      obtain ⟨ex, d, ed, fz⟩ := hY i H' x H'' L' hi (Later.of f') y f'.new
      have hdrop : ds.drop i = d :: ds.drop (i + 1) := by
        rw [List.drop_eq_getElem_cons hi]
        rw [List.getElem?_eq_getElem hi] at ed
        cases ed; rfl
      rw [hdrop] at p'
      simp only [forL] at p'
      have w0 : WF H1 L1 B := h2.next f1 nd1
      have w' : WF H' L' B := w0.next f' nd'
      have frx : Fr H' H'' L' L' := ⟨fun a o e _ => ex a o e, fun a o e _ => ex a o e, fun a z => .inl z⟩
      have r'' : RR X.K H'' (L' ++ B) a0 ρ' σ' L' := r'.kp ex.kp0 fun b z => by
        obtain ⟨o, e, _⟩ := r'.tr b z
        rw [e, ex b o e]
      cases eb : bindT t d ρ' with
      | none => rw [eb] at p'; exact p'.elim
      | some ρ2 =>
        rw [eb] at p'
        dsimp only at p'
        refine ⟨ρ', L', B, a0, d, ρ2, r'', nd', fz, eb, fun σ2 L2 r2 s2 n2 _ => ?_⟩
        have f2 : Fr H' H'' L' L2 := frx.sub s2
        refine ⟨ρ2, L2, B, a0, r2, w'.next f2 n2, ?_⟩
        have ft : Fr H1 H'' L1 L2 := f'.trans f2
        cases ebd : bs ρ2 with
        | nx ρ3 => rw [ebd] at p'; exact fun σ3 H3 L3 r3 n3 f3 => ⟨hi, ρ3, L3, r3, n3, ft.trans f3, p'⟩
        | ct ρ3 => rw [ebd] at p'; exact fun σ3 H3 L3 r3 n3 f3 => ⟨hi, ρ3, L3, r3, n3, ft.trans f3, p'⟩
        | bk ρ3 => rw [ebd] at p'; exact fun σ3 H3 L3 r3 n3 f3 => p' σ3 H3 L3 r3 n3 (f1.trans (ft.trans f3))
        | rt v ρ3 => rw [ebd] at p'; exact fun v σ3 H3 L3 Lv r3 vr n3 f3 => p' v σ3 H3 L3 Lv r3 vr n3 (f1.trans (ft.trans f3))
        | exc x ρ3 => rw [ebd] at p'; exact fun cls d σ3 H3 L3 r3 xr n3 f3 => p' cls d σ3 H3 L3 r3 xr n3 (f1.trans (ft.trans f3))
        | bad => rw [ebd] at p'; exact p'.elim
    · obtain ⟨_, ρ', L', r', nd', f', p'⟩ := q
      rw [List.drop_length] at p'
      exact p' σ' H' L' r' nd' (f1.trans f')
/-- n turns of a while -/
def whileN (c : TT') (body : SS) : Nat → Rho → Option Out
  | 0, _ => none
  | n + 1, ρ => match c ρ with
    | .bad => some .bad
    | .exc x ρ1 => some (.exc x ρ1)
    | .ok b ρ1 => if b = true then match body ρ1 with
        | .nx ρ2 => whileN c body n ρ2
        | .ct ρ2 => whileN c body n ρ2
        | .bk ρ2 => some (.nx ρ2)
        | .rt v ρ2 => some (.rt v ρ2)
        | .exc x ρ2 => some (.exc x ρ2)
        | .bad => some .bad
      else some (.nx ρ1)
theorem whileN_mono (c : TT') (body : SS) : ∀ (n : Nat) (ρ : Rho) (o : Out), whileN c body n ρ = some o → ∀ m, n ≤ m → whileN c body m ρ = some o
  | 0, _, _, e, _, _ => by simp [whileN] at e
  | n + 1, ρ, o, e, 0, h => by omega
  | n + 1, ρ, o, e, m + 1, h => by
    simp only [whileN] at e ⊢
    cases ec : c ρ with
    | bad => rw [ec] at e; exact e
    | exc x ρ1 => rw [ec] at e; exact e
    | ok b ρ1 =>
      rw [ec] at e
      cases b with
      | false => exact e
      | true =>
        simp only [if_true] at e ⊢
        cases eb : body ρ1 with
        | nx ρ2 => rw [eb] at e; exact whileN_mono c body n ρ2 o e m (by omega)
        | ct ρ2 => rw [eb] at e; exact whileN_mono c body n ρ2 o e m (by omega)
        | bk ρ2 => rw [eb] at e; exact e
        | rt v ρ2 => rw [eb] at e; exact e
        | exc x ρ2 => rw [eb] at e; exact e
        | bad => rw [eb] at e; exact e
open Classical in
noncomputable def sWhile (c : TT') (body : SS) : SS := fun ρ => if h : ∃ (o : Out) (n : Nat), whileN c body n ρ = some o then choose h else .bad
theorem sWhile_of {c : TT'} {body : SS} {n : Nat} {ρ : Rho} {o : Out} (e : whileN c body n ρ = some o) : sWhile c body ρ = o := by
  have h : ∃ (o : Out) (n : Nat), whileN c body n ρ = some o := ⟨o, n, e⟩
  unfold sWhile
  rw [dif_pos h]
  obtain ⟨m, hm⟩ := Classical.choose_spec h
  have a := whileN_mono c body n ρ o e (max n m) (Nat.le_max_left _ _)
  have b := whileN_mono c body m ρ _ hm (max n m) (Nat.le_max_right _ _)
  rw [a] at b
  exact (Option.some.inj b).symm
theorem sWhile_ends {c : TT'} {body : SS} {ρ : Rho} (h : sWhile c body ρ ≠ .bad) : ∃ n, whileN c body n ρ = some (sWhile c body ρ) := by
  by_cases z : ∃ (o : Out) (n : Nat), whileN c body n ρ = some o
  · obtain ⟨o, n, e⟩ := z
    exact ⟨n, by rw [sWhile_of e]; exact e⟩
  · unfold sWhile at h
    rw [dif_neg z] at h
    exact absurd rfl h
/-- a turn more -/
theorem sWhile_step (c : TT') (body : SS) (ρ : Rho) : sWhile c body ρ = (match c ρ with
    | .bad => .bad
    | .exc x ρ1 => .exc x ρ1
    | .ok b ρ1 => if b = true then match body ρ1 with
        | .nx ρ2 => sWhile c body ρ2
        | .ct ρ2 => sWhile c body ρ2
        | .bk ρ2 => .nx ρ2
        | .rt v ρ2 => .rt v ρ2
        | .exc x ρ2 => .exc x ρ2
        | .bad => .bad
      else .nx ρ1) := by
  have more : ∀ ρ2, (∀ n, whileN c body (n + 1) ρ = whileN c body n ρ2) → sWhile c body ρ = sWhile c body ρ2 := fun ρ2 h => by
    by_cases z : ∃ (o : Out) (n : Nat), whileN c body n ρ2 = some o
    · obtain ⟨o, n, e⟩ := z
      rw [sWhile_of e]
      exact sWhile_of (n := n + 1) (by rw [h]; exact e)
    · have z' : ¬ ∃ (o : Out) (n : Nat), whileN c body n ρ = some o := fun ⟨o, n, e⟩ => by
        cases n with
        | zero => simp [whileN] at e
        | succ n => exact z ⟨o, n, by rw [← h]; exact e⟩
      unfold sWhile
      rw [dif_neg z, dif_neg z']
  cases ec : c ρ with
  | bad => exact sWhile_of (n := 1) (by simp [whileN, ec])
  | exc x ρ1 => exact sWhile_of (n := 1) (by simp [whileN, ec])
  | ok b ρ1 =>
    cases b with
    | false => exact sWhile_of (n := 1) (by simp [whileN, ec])
    | true =>
      simp only [if_true]
      cases eb : body ρ1 with
      | nx ρ2 => exact more ρ2 fun n => by simp [whileN, ec, eb]
      | ct ρ2 => exact more ρ2 fun n => by simp [whileN, ec, eb]
      | bk ρ2 => exact sWhile_of (n := 1) (by simp [whileN, ec, eb])
      | rt v ρ2 => exact sWhile_of (n := 1) (by simp [whileN, ec, eb])
      | exc x ρ2 => exact sWhile_of (n := 1) (by simp [whileN, ec, eb])
      | bad => exact sWhile_of (n := 1) (by simp [whileN, ec, eb])
theorem s_while {X : Cx} {W : WX} {ce : Expr} {body : List Stmt} {pos : Pos} {c : TT'} {bs : SS} (hp : PassesOwn (model X.prog X.w) X.A X.env X.xe) (hc : PT X ce (Cx.tv X W c)) (hb : PSs X body (Cx.st X W bs)) : PS X (.While ce body [] pos) (Cx.st X W (sWhile c bs)) := (ps_while hp hc hb).imp fun D σ H h => by
  obtain ⟨ρ, L, B, a0, h1, h2, h3⟩ := h
  have nb : sWhile c bs ρ ≠ .bad := fun e => by rw [e] at h3; exact h3
  obtain ⟨n, hn⟩ := sWhile_ends nb
  refine ⟨fun m σ' H' => ∃ ρ' L' o, RR X.K H' (L' ++ B) a0 ρ' σ' L' ∧ L'.Nodup ∧ Fr H H' L L' ∧ whileN c bs m ρ' = some o ∧ PostS X.K X.mg W B a0 H L D o, ⟨n, ρ, L, _, h1, h2.nd, Fr.refl, hn, h3⟩, fun m σ' H' q => ?_⟩
  obtain ⟨ρ', L', o, r', nd', f', e', p'⟩ := q
  have w' : WF H' L' B := h2.next f' nd'
  refine ⟨ρ', L', B, a0, r', w', ?_⟩
  cases m with
  | zero => simp [whileN] at e'
  | succ m =>
    simp only [whileN] at e'
    cases ec : c ρ' with
    | bad => rw [ec] at e'; cases e'; exact p'
    | exc x ρ1 => rw [ec] at e'; cases e'; exact fun cls d H1 L1 r x n f => p' cls d σ' H1 L1 r x n (f'.trans f)
    | ok b ρ1 =>
      rw [ec] at e'
      intro b' H1 L1 Lv r1 v1 nd1 f1
      obtain ⟨rfl, rfl⟩ := v1
      rw [app_nil3] at r1
      rw [List.append_nil] at nd1 f1
      cases b with
      | false => cases e'; exact p' σ' H1 L1 r1 nd1 (f'.trans f1)
      | true =>
        simp only [if_true] at e' ⊢
        refine ⟨fun σ2 H2 => ∃ ρ2 L2 o, RR X.K H2 (L2 ++ B) a0 ρ2 σ2 L2 ∧ L2.Nodup ∧ Fr H H2 L L2 ∧ whileN c bs m ρ2 = some o ∧ PostS X.K X.mg W B a0 H L D o, fun σ2 H2 q => ⟨m, Nat.lt_succ_self m, q⟩, ρ1, L1, B, a0, r1, w'.next f1 nd1, ?_⟩
        have ft := f'.trans f1
        cases eb : bs ρ1 with
        | nx ρ2 => rw [eb] at e'; exact fun σ3 H3 L3 r3 n3 f3 => ⟨ρ2, L3, o, r3, n3, ft.trans f3, e', p'⟩
        | ct ρ2 => rw [eb] at e'; exact fun σ3 H3 L3 r3 n3 f3 => ⟨ρ2, L3, o, r3, n3, ft.trans f3, e', p'⟩
        | bk ρ2 => rw [eb] at e'; cases e'; exact fun σ3 H3 L3 r3 n3 f3 => p' σ3 H3 L3 r3 n3 (ft.trans f3)
        | rt v ρ2 => rw [eb] at e'; cases e'; exact fun v σ3 H3 L3 Lv r3 vr n3 f3 => p' v σ3 H3 L3 Lv r3 vr n3 (ft.trans f3)
        | exc x ρ2 => rw [eb] at e'; cases e'; exact fun cls d σ3 H3 L3 r3 xr n3 f3 => p' cls d σ3 H3 L3 r3 xr n3 (ft.trans f3)
        | bad => rw [eb] at e'; cases e'; exact p'
end FW

namespace FW
open PySem PySem.Spec PyProof.Rows L2

/-! ## list comprehensions -/
def wipeR (ρ : Rho) : List Nat → Rho
  | [] => ρ
  | v :: vs => (wipeR ρ vs).set v .un
def lcL (vs : List Nat) (t : Tgt) (c : TT') (f : EE) : List D → List D → Rho → R (List D)
  | [], acc, ρ => .ok acc (wipeR ρ vs)
  | d :: ds, acc, ρ => match bindT t d (wipeR ρ vs) with
    | none => .bad
    | some ρ1 => match c ρ1 with
      | .ok false ρ2 => lcL vs t c f ds acc ρ2
      | .ok true ρ2 => match f ρ2 with
        | .ok v ρ3 => match vImm v with
          | some d' => lcL vs t c f ds (acc ++ [d']) ρ3
          | none => .bad
        | _ => .bad
      | _ => .bad
def eLc (vs : List Nat) (it : II) (t : Tgt) (c : TT') (f : EE) : EE := fun ρ => match it ρ with
  | .ok ds ρ1 => if ds.length ≤ 16777216 then match lcL vs t c f ds [] ρ1 with
      | .ok acc ρ2 => .ok (.own (.lst acc)) ρ2
      | _ => .bad
    else .bad
  | .exc x ρ1 => .exc x ρ1
  | .bad => .bad
def tYes' : TT' := fun ρ => .ok true ρ
section
variable {K : PySem.W.Frag} {H : Hp} {B : List Addr} {a0 : Addr} {σ : L2.St}
theorem RR.wipe {ρ : Rho} {L : List Addr} (r : RR K H (L ++ B) a0 ρ σ L) (nd : L.Nodup) : ∀ vs : List Nat, ∃ L', RR K H (L' ++ B) a0 (wipeR ρ vs) (L2.wipe σ vs) L' ∧ (∀ a ∈ L', a ∈ L) ∧ L'.Nodup
  | [] => ⟨L, r, fun _ z => z, nd⟩
  | v :: vs => by
    obtain ⟨L1, r1, s1, n1⟩ := RR.wipe r nd vs
    obtain ⟨L2, r2, s2, n2⟩ := r1.set (Ls := []) v (ov := none) (s := .un) .un (by simpa using n1)
    have s2' : ∀ a ∈ L2, a ∈ L1 := fun a z => (s2 a z).elim id fun y => absurd y (by simp)
    refine ⟨L2, r2.weak fun x z => ?_, fun a z => s1 a (s2' a z), n2⟩
    rcases List.mem_append.mp z with z | z
    · exact List.mem_append_left _ (s2' x z)
    · exact List.mem_append_right _ z
theorem SsR.unwipe {vs : List Nat} : ∀ {ss : List Slot} {σw σ : List (Option V)} {L : List Addr}, SsR K H B a0 ss σw L → σw.length = σ.length → (∀ i, i ∉ vs → σw[i]? = σ[i]?) → (∀ i ∈ vs, i < ss.length → ss[i]? = some .un) → SsR K H B a0 ss σ L := by
  intro ss σw σ L h
  induction h generalizing σ vs with
  | nil => intro hl _ _; cases σ with
    | nil => exact .nil
    | cons _ _ => simp at hl
  | @cons s ov L L' ss σw h t ih =>
    intro hl ho hu
    cases σ with
    | nil => simp at hl
    | cons ov' σ =>
      have ht : SsR K H B a0 ss σ L' := by
        refine ih (vs := (vs.filter (· != 0)).map (· - 1)) (by simpa using hl) (fun i hi => ?_) fun i hi hl' => ?_
        · have : i + 1 ∉ vs := fun z => hi (List.mem_map.mpr ⟨i + 1, List.mem_filter.mpr ⟨z, by simp⟩, by simp⟩)
          simpa using ho (i + 1) this
        · obtain ⟨j, hj, e⟩ := List.mem_map.mp hi
          obtain ⟨hj1, hj2⟩ := List.mem_filter.mp hj
          have hj2 : j ≠ 0 := by simpa using hj2
          have e2 : j = i + 1 := by omega
          subst e2
          simpa using hu (i + 1) hj1 (by simpa using hl')
      by_cases h0 : 0 ∈ vs
      · have := hu 0 h0 (by simp)
        simp at this
        subst this
        cases h
        exact .cons .un ht
      · have := ho 0 h0
        simp at this
        subst this
        exact .cons h ht
theorem wipeR_un {ρ : Rho} : ∀ {vs : List Nat} {i : Nat}, i ∈ vs → i < ρ.sl.length → (wipeR ρ vs).sl[i]? = some .un
  | [], i, h, _ => by simp at h
  | v :: vs, i, h, hl => by
    have len : ∀ vs : List Nat, (wipeR ρ vs).sl.length = ρ.sl.length := fun vs => by
      induction vs with
      | nil => rfl
      | cons v vs ih => simp [wipeR, Rho.set, ih]
    simp only [wipeR, Rho.set]
    rw [List.getElem?_set]
    by_cases hv : v = i
    · subst hv; simp [len, hl]
    · rw [if_neg hv]
      exact wipeR_un ((List.mem_cons.mp h).resolve_left fun e => hv e.symm) hl
theorem RR.unwipe {ρ : Rho} {L : List Addr} {vs : List Nat} (r : RR K H B a0 (wipeR ρ vs) (L2.wipe σ vs) L) : RR K H B a0 (wipeR ρ vs) σ L := by
  have lenR : (wipeR ρ vs).sl.length = ρ.sl.length := by
    induction vs with
    | nil => rfl
    | cons v vs ih =>
      have : ∀ vs : List Nat, (wipeR ρ vs).sl.length = ρ.sl.length := fun vs => by
        induction vs with
        | nil => rfl
        | cons v vs ih => simp [wipeR, Rho.set, ih]
      exact this _
  cases r with
  | mk h1 h2 =>
    refine .mk h1 (h2.unwipe (vs := vs) (wipe_length σ vs) (fun i hi => ?_) fun i hi hl => wipeR_un hi (by rw [← lenR]; exact hl))
    rw [wipe_get, if_neg hi]
end
theorem wipe_wipe {σ : L2.St} {vs : List Nat} : L2.wipe (L2.wipe σ vs) vs = L2.wipe σ vs := by
  apply List.ext_getElem?
  intro j
  rw [wipe_get, wipe_get, wipe_length]
  split <;> simp
section
variable {X : Cx} {W : WX}
abbrev noW : WX := fun _ _ _ _ => False
theorem pts_tv {ifs : List Expr} {t t' : TT} (h : PTs X ifs t) (i : ∀ σ H Q, t' σ H Q → t σ H Q) : PTs X ifs t' := ⟨fun pins s σ H Q I q => h.run pins s σ H Q I (i σ H Q q)⟩
theorem p_nil : PTs X [] (Cx.tv X W tYes') := pts_tv pts_nil fun _ _ _ h => tv_ok (W := W) h
theorem p_one {c : Expr} {t : TT'} (h : PT X c (Cx.tv X W t)) : PTs X [c] (Cx.tv X W t) := pts_one h
/-- the comprehension's reading -/
theorem lc_ev {vs : List Nat} {it : II} {t : Tgt} {c : TT'} {f : EE} (hts : ∀ i ∈ tsl t, i ∈ vs) {σ : L2.St} {H : Hp} {Q : VK} (h : Cx.ev X W (eLc vs it t c f) σ H Q) : tLc (Cx.it X W it) (gT X.K t) (tTv X.K X.mg noW c) (tEv X.K X.mg noW f) vs σ H Q := by
  obtain ⟨ρ, L, B, a0, h1, h2, h3⟩ := h
  refine ⟨ρ, L, B, a0, h1, h2, ?_⟩
  simp only [eLc] at h3
  cases e : it ρ with
  | bad => rw [e] at h3; exact h3
  | exc x ρ1 => rw [e] at h3; exact h3
  | ok ds ρ1 =>
    rw [e] at h3
    simp only at h3
    by_cases hl : ds.length ≤ 16777216
    · rw [if_pos hl] at h3
      intro J H1 L1 r1 nd1 f1 wk D nD
      obtain ⟨G, Y, wk, hG, hY⟩ := wk
      have w1 : WF H1 L1 B := h2.next f1 nd1
      have exD : Ex H1 (upd H1 D (.lst [])) := Ex.upd nD
      -- the new list lies outside
      have tr1 := r1.tr
      have nDL : ∀ x ∈ L1 ++ B, x ≠ D := fun x z e => by
        subst e
        rcases List.mem_append.mp z with z | z
        · obtain ⟨o, e, _⟩ := tr1 x z; rw [nD] at e; cases e
        · obtain ⟨o, e⟩ := w1.tr x z; rw [nD] at e; cases e
      have r1D : RR X.K (upd H1 D (.lst [])) (L1 ++ (D :: B)) a0 ρ1 σ L1 := by
        refine r1.kp ⟨fun a o e n => ⟨exD a o e, fun z => ?_⟩, fun a o e _ => exD a o e⟩ fun b z => by
          obtain ⟨o, e, _⟩ := tr1 b z
          rw [e, exD b o e]
        simp only [List.mem_append, List.mem_cons] at z n
        rcases z with z | rfl | z
        · exact n (.inl z)
        · rw [nD] at e; cases e
        · exact n (.inr z)
      obtain ⟨Lw, rw0, sw0, nw0⟩ := r1D.wipe nd1 vs
      have fr0 : Fr H1 (upd H1 D (.lst [])) L1 Lw := ⟨fun a o e _ => exD a o e, fun a o e _ => exD a o e, fun a z => .inl (sw0 a z)⟩
      have w0 : WF (upd H1 D (.lst [])) Lw (D :: B) := by
        have q := w1.next fr0 nw0
        refine ⟨nw0, fun a z y => ?_, fun a z => ?_⟩
        · rcases List.mem_cons.mp z with rfl | z
          · exact nDL a (List.mem_append_left _ (sw0 a y)) rfl
          · exact q.dis a z y
        · rcases List.mem_cons.mp z with rfl | z
          · exact ⟨_, upd_same⟩
          · exact q.tr a z
      -- the accumulated loop
      refine lc_it wk (fun i H' => i ≤ ds.length ∧ ∃ ρ' L' acc av, RR X.K H' (L' ++ (D :: B)) a0 (wipeR ρ' vs) (L2.wipe σ vs) L' ∧ WF H' L' (D :: B) ∧ Fr H1 H' L1 L' ∧ H' D = some (.lst av) ∧ FzL X.K H' (L' ++ (D :: B)) acc av ∧ acc.length ≤ i ∧
          Pe X.K X.mg W B a0 σ H L (VR X.K a0 σ) Q (match lcL vs t c f (ds.drop i) acc ρ' with
            | .ok acc ρ2 => .ok (.own (.lst acc)) ρ2
            | _ => .bad))
        ⟨Nat.zero_le _, ρ1, Lw, [], [], rw0, w0, fr0, upd_same, .nil, Nat.le_refl _, by simpa using h3⟩ (fun i H' _ q => ?_) (fun i x H' H'' hi q y => ?_) (fun H' q => ?_)
      · obtain ⟨_, ρ', L', acc, av, _, _, f', _⟩ := q
        exact hG H' (Later.of f')
      · obtain ⟨_, ρ', L', acc, av, r', w', f', hD, fza, hac, p'⟩ := q
        obtain ⟨ex, d, ed, fz⟩ := hY i H' x H'' (L' ++ [D]) hi (Later.of f') y fun a z => by
          rcases List.mem_append.mp z with z | z
          · exact f'.new a z
          · simp at z; subst z; exact .inr nD
        have hdrop : ds.drop i = d :: ds.drop (i + 1) := by
          rw [List.drop_eq_getElem_cons hi]
          rw [List.getElem?_eq_getElem hi] at ed
          cases ed; rfl
        rw [hdrop] at p'
        simp only [lcL] at p'
        have frx : Fr H' H'' L' L' := ⟨fun a o e _ => ex a o e, fun a o e _ => ex a o e, fun a z => .inl z⟩
        have r'' : RR X.K H'' (L' ++ (D :: B)) a0 (wipeR ρ' vs) (L2.wipe σ vs) L' := r'.kp ex.kp0 fun b z => by
          obtain ⟨o, e, _⟩ := r'.tr b z
          rw [e, ex b o e]
        have fz' : Fz X.K H'' (L' ++ (D :: B)) d x := by simpa using fz
        cases eb : bindT t d (wipeR ρ' vs) with
        | none => rw [eb] at p'; exact p'.elim
        | some ρ2 =>
          rw [eb] at p'
          dsimp only at p'
          refine ⟨wipeR ρ' vs, L', D :: B, a0, d, ρ2, r'', w'.nd, fz', eb, fun σ2 L2 r2 s2 n2 ao => ?_⟩
          have wp : _root_.L2.wipe σ2 vs = _root_.L2.wipe σ vs := by rw [ao vs hts, wipe_wipe]
          have f2 : Fr H' H'' L' L2 := frx.sub s2
          have w2 : WF H'' L2 (D :: B) := w'.next f2 n2
          refine ⟨wp, ρ2, L2, D :: B, a0, r2, w2, ?_⟩
          cases ec : c ρ2 with
          | bad => rw [ec] at p'; exact p'.elim
          | exc _ _ => rw [ec] at p'; exact p'.elim
          | ok b ρ3 =>
            rw [ec] at p'
            intro b' H3 L3 Lv r3 v3 nd3 f3
            obtain ⟨rfl, rfl⟩ := v3
            rw [app_nil3] at r3
            rw [List.append_nil] at nd3 f3
            have w3 : WF H3 L3 (D :: B) := w2.next f3 nd3
            have hD3 : H3 D = some (.lst av) := f3.keep D _ (ex D _ hD) fun z => w2.dis D (by simp) z
            have ft3 : Fr H1 H3 L1 L3 := (f'.trans f2).trans f3
            have k3 : Kp H' (L' ++ (D :: B)) H3 (L3 ++ (D :: B)) := (f2.trans f3).kp w'
            cases b with
            | false =>
              simp only [Bool.false_eq_true, if_false]
              obtain ⟨L5, r5, s5, n5⟩ := r3.wipe nd3 vs
              rw [wp] at r5
              refine ⟨hi, ρ3, L5, acc, av, r5, w3.next (Fr.refl.sub s5) n5, ft3.sub s5, hD3, (fza.kp k3).kp (Kp.weak fun a z => ?_), by omega, p'⟩
              rcases List.mem_append.mp z with z | z
              · exact List.mem_append_left _ (s5 a z)
              · exact List.mem_append_right _ z
            | true =>
              simp only [if_true]
              refine ⟨ρ3, L3, D :: B, a0, r3, w3, ?_⟩
              cases ef : f ρ3 with
              | bad => simp only [ef] at p'; exact p'.elim
              | exc _ _ => simp only [ef] at p'; exact p'.elim
              | ok v ρ4 =>
                simp only [ef] at p'
                intro yv H4 L4 Lv4 r4 v4 nd4 f4
                cases ev : vImm v with
                | none => rw [ev] at p'; exact p'.elim
                | some d' =>
                  rw [ev] at p'
                  simp only at p'
                  have fy : Fz X.K H4 (L4 ++ (D :: B)) d' yv := v4.fz ev keep_in (apart w3 f4 nd4)
                  have f4' : Fr H3 H4 L3 L4 := f4.sub fun a z => List.mem_append_left _ z
                  have nd4' : L4.Nodup := (List.nodup_append.mp nd4).1
                  have w4 : WF H4 L4 (D :: B) := w3.next f4' nd4'
                  have hD4 : H4 D = some (.lst av) := f4.keep D _ hD3 fun z => w3.dis D (by simp) z
                  obtain ⟨L5, r5, s5, n5⟩ := (r4.weak keep_in).wipe nd4' vs
                  rw [wp] at r5
                  have w5 : WF H4 L5 (D :: B) := w4.next (Fr.refl.sub s5) n5
                  have sub5 : ∀ a ∈ L5 ++ (D :: B), a ∈ L4 ++ (D :: B) := fun a z => by
                    rcases List.mem_append.mp z with z | z
                    · exact List.mem_append_left _ (s5 a z)
                    · exact List.mem_append_right _ z
                  have kD : Kp H4 (L5 ++ (D :: B)) (upd H4 D (.lst (av ++ [yv]))) (L5 ++ (D :: B)) := ⟨fun a o e n => ⟨by
                    rw [upd_ne (show a ≠ D from fun z => n (by subst z; simp))]; exact e, n⟩, fun a o e n => by
                    by_cases h : a = D
                    · subst h; rw [hD4] at e; cases e; exact absurd True.intro n
                    · rw [upd_ne h]; exact e⟩
                  have nL5 : ∀ b ∈ L5, b ≠ D := fun b z e => w5.dis D (by simp) (e ▸ z)
                  refine ⟨av, hD4, ?_, hi, ρ4, L5, acc ++ [d'], av ++ [yv], r5.kp kD fun b z => upd_ne (nL5 b z), ?_, ?_, upd_same, ?_, by simp; omega, p'⟩
                  · rw [← fza.length]; show acc.length < 2 ^ 24; omega
                  · refine ⟨n5, w5.dis, fun a z => ?_⟩
                    by_cases h : a = D
                    · exact ⟨_, by rw [h]; exact upd_same⟩
                    · rw [upd_ne h]; exact w5.tr a z
                  · have g := ft3.trans (f4'.sub s5)
                    refine ⟨fun a o e n => ?_, fun a o e n => ?_, g.new⟩
                    · rw [upd_ne (ne_of_none e nD)]; exact g.keep a o e n
                    · rw [upd_ne (ne_of_none e nD)]; exact g.imm a o e n
                  · have a1 := ((fza.kp k3).kp (f4'.kp w3)).append (.cons fy .nil)
                    exact (a1.kp (Kp.weak sub5)).kp kD
      · obtain ⟨_, ρ', L', acc, av, r', w', f', hD, fza, hac, p'⟩ := q
        rw [List.drop_length] at p'
        simp only [lcL] at p'
        have e1 : L' ++ [D] ++ B = L' ++ (D :: B) := by simp
        refine p' (.ref D) H' L' [D] (by rw [e1]; exact r'.unwipe) (.own (.lst hD (by rw [e1]; exact fza))) ?_ ?_
        · refine List.nodup_append.mpr ⟨w'.nd, by simp, fun a ha b hb e => ?_⟩
          simp at hb
          subst hb; subst e
          exact w'.dis a (by simp) ha
        · have g := f1.trans f'
          refine ⟨g.keep, g.imm, fun a z => ?_⟩
          rcases List.mem_append.mp z with z | z
          · exact g.new a z
          · simp at z; subst z
            by_cases hL : a ∈ L
            · exact .inl hL
            · cases e : H a with
              | none => exact .inr rfl
              | some o => rw [f1.keep a o e hL] at nD; cases nD
    · rw [if_neg hl] at h3; exact h3.elim
theorem v_lc {own : List (Str × Nat)} {elt tg iter : Expr} {ifs : List Expr} {scope : Scope} {pos : Pos} {it : II} {t : Tgt} {c : TT'} {f : EE} (hc : X.calm = true) (hN : X.N.Nodup) (hi : PI X tg iter (Cx.it X W it)) (ok : BlkOk X.N X.env.scope scope own)
    (hg : ∀ (s : Shared) (H : Hp) (C : Addr) (cl : List (Str × Addr)) (fp : List Addr), PG (X.blk s H scope (compEnvC scope cl C X.env) fp) tg (gT X.K t)) (ht : ∀ (s : Shared) (H : Hp) (C : Addr) (cl : List (Str × Addr)) (fp : List Addr), PTs (X.blk s H scope (compEnvC scope cl C X.env) fp) ifs (tTv X.K X.mg noW c))
    (he : ∀ (s : Shared) (H : Hp) (C : Addr) (cl : List (Str × Addr)) (fp : List Addr), PE (X.blk s H scope (compEnvC scope cl C X.env) fp) elt (tEv X.K X.mg noW f)) (hts : ∀ i ∈ tsl t, i ∈ own.map (·.2) := by decide) (hs : ∀ x, foldedSetIterable iter X.env x = pure x := by intro _; rfl) :
    PE X (.ListComp elt [⟨tg, iter, ifs, 0⟩] scope pos) (Cx.ev X W (eLc (own.map (·.2)) it t c f)) := (pe_lc hc hN hi ok hg ht he hs).imp fun _ _ _ h => lc_ev hts h
theorem s_setLc {own : List (Str × Nat)} {i : Nat} {y : Str} {py : Pos} {elt tg iter : Expr} {ifs : List Expr} {scope : Scope} {pos spos : Pos} {it : II} {t : Tgt} {c : TT'} {f : EE} (hc : X.calm = true) (hN : X.N.Nodup)
    (hi : PI X tg iter (Cx.it X W it)) (ok : BlkOk X.N X.env.scope scope own)
    (hg : ∀ (s : Shared) (H : Hp) (C : Addr) (cl : List (Str × Addr)) (fp : List Addr), PG (X.blk s H scope (compEnvC scope cl C X.env) fp) tg (gT X.K t)) (ht : ∀ (s : Shared) (H : Hp) (C : Addr) (cl : List (Str × Addr)) (fp : List Addr), PTs (X.blk s H scope (compEnvC scope cl C X.env) fp) ifs (tTv X.K X.mg noW c))
    (he : ∀ (s : Shared) (H : Hp) (C : Addr) (cl : List (Str × Addr)) (fp : List Addr), PE (X.blk s H scope (compEnvC scope cl C X.env) fp) elt (tEv X.K X.mg noW f)) (hsw : swapsWith (.ListComp elt [⟨tg, iter, ifs, 0⟩] scope pos) (some (.Name y py)) spos.line X.env = pure true) (hts : ∀ i ∈ tsl t, i ∈ own.map (·.2) := by decide) (hs : ∀ x, foldedSetIterable iter X.env x = pure x := by intro _; rfl)
    (hy : X.N[i]? = some y := by rfl) (hyl : X.env.scope.names.lookup y = some .local := by rfl) : PS X (.Assign [.Name y py] (.ListComp elt [⟨tg, iter, ifs, 0⟩] scope pos) spos) (Cx.st X W (sSet i (eLc (own.map (·.2)) it t c f))) :=
  (ps_setLc hc hN hy hyl hsw hi ok hg ht he hs).imp fun D σ H h => lc_ev hts (ev_S h fun v val ρ1 H1 L1 Lv B a0 r1 v1 nd1 w1 ap p => by
    have p := p (L1 ++ Lv) fun _ z => z
    cases e : put ρ1 i val with
    | none => rw [e] at p; exact p.elim
    | some ρ2 =>
      rw [e] at p
      obtain ⟨L', q1, q2, q3⟩ := r1.put v1 nd1 e
      exact p _ H1 L' q1 q3 (Fr.refl.sub q2))
end
end FW

namespace FW
open PySem PySem.Spec PyProof.Rows L2

/-! ## defs -/
def finP : Out → FR
  | .rt (.imm d) _ => .ok (.imm d)
  | .rt (.own o) _ => .ok (.own o)
  | .nx _ => .ok (.imm .non)
  | .exc x _ => .exc x
  | _ => .bad
def finR : Out → FO
  | .rt (.imm d) ρ => match ρ.ob with
    | some o => .ok (.imm d) o
    | none => .bad
  | .rt (.own u) ρ => match ρ.ob with
    | some o => .ok (.own u) o
    | none => .bad
  | .nx ρ => match ρ.ob with
    | some o => .ok (.imm .non) o
    | none => .bad
  | .exc x ρ => match ρ.ob with
    | some o => .exc x o
    | none => .bad
  | _ => .bad
/-- n parameters, N names -/
def mkP (n N : Nat) (body : SS) : List D → FR := fun ds => if ds.length = n then finP (body ⟨ds.map .imm ++ List.replicate (N - n) .un, none⟩) else .bad
def mkR (n N : Nat) (body : SS) : Ob → List D → FO := fun o ds => if ds.length + 1 = n then finR (body ⟨.ob :: (ds.map .imm ++ List.replicate (N - n) .un), some o⟩) else .bad
section
variable {K : PySem.W.Frag} {H : Hp} {B : List Addr} {a0 : Addr}
theorem SsR.imms : ∀ {ds : List D} {vs : List V}, FzL K H B ds vs → SsR K H B a0 (ds.map .imm) (vs.map some) []
  | _, _, .nil => .nil
  | _, _, .cons h t => .cons (L := []) (.imm h) (SsR.imms t)
theorem SsR.uns : ∀ n : Nat, SsR K H B a0 (List.replicate n .un) (List.replicate n none) []
  | 0 => .nil
  | n + 1 => .cons (L := []) .un (SsR.uns n)
theorem SsR.append : ∀ {ss ss' : List Slot} {σ σ' : List (Option V)} {L L' : List Addr}, SsR K H B a0 ss σ L → SsR K H B a0 ss' σ' L' → SsR K H B a0 (ss ++ ss') (σ ++ σ') (L ++ L')
  | _, _, _, _, _, _, .nil, h => h
  | _, _, _, _, _, _, .cons h t, h' => by
    rw [List.append_assoc]
    exact .cons h (SsR.append t h')
end
/-- a def stands at a name of the module -/
structure Def (K : PySem.W.Frag) (mg : Str → Option Value) (x : Str) (st : Stmt) : Prop where
  ex : ∃ (f : Addr) (fd : FuncData), Fun K x x st f fd ∧ mg x = some (.ref f)
/-- how its arguments bind -/
def Bnd (x : Str) (st : Stmt) (ps : List Str) : Prop := ∀ (kV doc pm : Value) (an : Option Addr) (cdv ct : Value) (us : List Value), us.length = ps.length →
  bindArgs (PySem.W.fnOf x x (defArgs st) (defBody st) (defScope st) .none kV doc pm an cdv ct) ⟨us, []⟩ = pure (ps.zip us)
section
variable {P : Program} {w : World} {K : PySem.W.Frag} {mg : Str → Option Value} {base : Heap} {x : Str} {st : Stmt} {N ps : List Str} {k : Nat} {body : SS}
/-- the wish of a body -/
abbrev wOf (E : XK) : WX := fun cls d _ H => E cls d H
/-- the body's derivation, in every context -/
def BodyOk (P : Program) (w : World) (K : PySem.W.Frag) (mg : Str → Option Value) (base : Heap) (k : Nat) (x : Str) (st : Stmt) (N : List Str) (body : SS) : Prop :=
  ∀ (f : Addr) (cdv : Value) (A : Around) (outer : List Env) (s : Shared) (H : Hp) (E : XK), Room k (A.deeper (envOfC x (defScope st) s.heap.objs.size f cdv)) →
    Takes (cxOf (L2.CX P w) P w K mg base N x (defScope st) f cdv A outer s H E) (wOf E) → PSs (cxOf (L2.CX P w) P w K mg base N x (defScope st) f cdv A outer s H E) (defBody st) (tSt K mg (wOf E) body)
theorem fn_P {f : Addr} {fd : FuncData} (F : Fun K x x st f fd) (S : FnScope N ps (defScope st)) (hb : BodyOk P w K mg base k x st N body) : FnOk P w K mg base (L2.CX P w) (k + 1) f fd ps (spP K mg (mkP ps.length N.length body)) := by
  have len : ∀ vs H Q E, spP K mg (mkP ps.length N.length body) vs H Q E → vs.length = ps.length := fun vs H Q E h => by
    obtain ⟨ds, B, _, fz, h⟩ := h
    by_cases z : ds.length = ps.length
    · rw [← fz.length]; exact z
    · unfold mkP at h; rw [if_neg z] at h; exact h.elim
  have hpl : ps.length ≤ N.length := by have := congrArg List.length S.pre; rw [List.length_take] at this; omega
  refine F.okX S len (fun cdv A outer s H vs Q E hr h => ⟨_, hb f cdv A outer s H E hr (takes_of (E₁ := fun e' s'' => L2.CX P w outer H s E e' s'') rfl rfl rfl rfl), ?_⟩)
  have hl := len vs H Q E h
  obtain ⟨ds, B, tr, fz, h⟩ := h
  have dl : ds.length = ps.length := by rw [fz.length]; exact hl
  refine ⟨⟨ds.map .imm ++ List.replicate (N.length - ps.length) .un, none⟩, [], B, 0, ?_, ⟨.nil, fun _ _ => by simp, tr⟩, ?_⟩
  · have e : L2.start N vs = vs.map some ++ List.replicate (N.length - ps.length) none := by unfold L2.start; rw [hl]
    rw [e]
    exact .mk (L1 := []) .no ((SsR.imms fz).append (SsR.uns _))
  · unfold mkP at h
    rw [if_pos dl] at h
    cases eb : body ⟨ds.map .imm ++ List.replicate (N.length - ps.length) .un, none⟩ with
    | bad => rw [eb] at h; exact h
    | bk ρ => rw [eb] at h; exact h.elim
    | ct ρ => rw [eb] at h; exact h.elim
    | nx ρ =>
      rw [eb] at h
      exact fun σ' H' L' r nd f => h .non H' [] (.imm .non) (fun a o e => f.keep a o e (by simp)) .nil (by simp)
    | exc x ρ =>
      rw [eb] at h
      refine fun cls d σ' H' L' r xr nd f => h cls d H' (fun a o e => f.keep a o e (by simp)) ?_
      cases xr with
      | plain a b => exact .plain a b
      | flds a b c d e => exact .flds a b c d (e.kp (Kp.weak fun a z => List.mem_append_right _ z))
    | rt val ρ =>
      rw [eb] at h
      have sub : ∀ {L' Lv : List Addr}, ∀ a ∈ Lv ++ B, a ∈ L' ++ Lv ++ B := fun a z => by
        simp only [List.mem_append] at z ⊢
        rcases z with z | z <;> simp [z]
      intro v σ' H' L' Lv r vr nd f
      have ex : Ex H H' := fun a o e => f.keep a o e (by simp)
      have fresh : ∀ a ∈ Lv, H a = none := fun a z => (f.new a (List.mem_append_right _ z)).resolve_left (by simp)
      cases vr with
      | imm fz => exact h v H' [] (.imm (fz.kp (Kp.weak sub))) ex .nil (by simp)
      | own ow => exact h _ H' Lv (.own (ow.kp (Kp.weak sub) fun _ _ => rfl)) ex (List.nodup_append.mp nd).2.1 fresh
      | bor _ => exact h.elim
      | ob => exact h.elim
theorem cal_P (D0 : Def K mg x st) (S : FnScope N ps (defScope st)) (bd : Bnd x st ps) (hb : BodyOk P w K mg base k x st N body) : Cal P w K mg base (k + 1) x (spP K mg (mkP ps.length N.length body)) := by
  obtain ⟨f, fd, F, hm⟩ := D0.ex
  exact ⟨f, fd, ps, fn_P F S hb, hm, F.kp, F.binds bd⟩
theorem cal_R (D0 : Def K mg x st) (S : FnScope N ps (defScope st)) (bd : Bnd x st ps) (hb : BodyOk P w K mg base k x st N body) : Cal P w K mg base (k + 1) x (spR K mg (mkR ps.length N.length body)) := by
  obtain ⟨f, fd, F, hm⟩ := D0.ex
  have len : ∀ vs H Q E, spR K mg (mkR ps.length N.length body) vs H Q E → vs.length = ps.length := fun vs H Q E h => by
    obtain ⟨o, a0, vs', ds, L0, B, rfl, _, _, fz, h⟩ := h
    by_cases z : ds.length + 1 = ps.length
    · rw [List.length_cons, ← fz.length]; exact z
    · unfold mkR at h; rw [if_neg z] at h; exact h.elim
  have hpl : ps.length ≤ N.length := by have := congrArg List.length S.pre; rw [List.length_take] at this; omega
  refine ⟨f, fd, ps, F.okX S len (fun cdv A outer s H vs Q E hr h => ⟨_, hb f cdv A outer s H E hr (takes_of (E₁ := fun e' s'' => L2.CX P w outer H s E e' s'') rfl rfl rfl rfl), ?_⟩), hm, F.kp, F.binds bd⟩
  have hl := len vs H Q E h
  obtain ⟨o, a0, vs', ds, L0, B, rfl, wf, ow, fz, h⟩ := h
  have dl : ds.length + 1 = ps.length := by rw [fz.length]; exact hl
  refine ⟨⟨.ob :: (ds.map .imm ++ List.replicate (N.length - ps.length) .un), some o⟩, L0, B, a0, ?_, wf, ?_⟩
  · have e : L2.start N (.ref a0 :: vs') = some (.ref a0) :: (vs'.map some ++ List.replicate (N.length - ps.length) none) := by unfold L2.start; rw [hl]; rfl
    rw [e]
    have := RR.mk (ρ := ⟨.ob :: (ds.map .imm ++ List.replicate (N.length - ps.length) .un), some o⟩) (.so ow) (SsR.cons (L := []) (.ob (K := K) (H := H) (B := L0 ++ B) (a0 := a0)) ((SsR.imms fz).append (SsR.uns (N.length - ps.length))))
    simpa using this
  · unfold mkR at h
    rw [if_pos dl] at h
    have gone : ∀ {ρ : Rho} {σ' : List (Option V)} {H' : Hp} {L' B' : List Addr} {o : Ob}, ρ.ob = some o → RR K H' B' a0 ρ σ' L' → ∃ L1, Ow K H' B' o a0 L1 ∧ (∀ a ∈ L1, a ∈ L') ∧ (∀ M : List Addr, (L' ++ M).Nodup → (L1 ++ M).Nodup) := fun {ρ σ' H' L' B' o} e r => by
      obtain ⟨Li, N', h1, h2, _⟩ := r.cutOb e
      refine ⟨Li, h1, fun a z => by rw [h2]; exact List.mem_append_left _ z, fun M z => ?_⟩
      rw [h2] at z
      simp only [List.nodup_append, List.mem_append] at z ⊢
      exact ⟨z.1.1, z.2.1, fun a ha b hb => z.2.2 a (.inl ha) b hb⟩
    cases eb : body ⟨.ob :: (ds.map .imm ++ List.replicate (N.length - ps.length) .un), some o⟩ with
    | bad => rw [eb] at h; exact h
    | bk ρ => rw [eb] at h; exact h.elim
    | ct ρ => rw [eb] at h; exact h.elim
    | nx ρ =>
      rw [eb] at h
      simp only [finR] at h
      cases eo : ρ.ob with
      | none => rw [eo] at h; exact h.elim
      | some o' =>
        rw [eo] at h
        intro σ' H' L' r nd f
        obtain ⟨L1, q1, q2, q3⟩ := gone eo r
        refine h .non H' L1 [] (q1.kp (Kp.weak fun a z => ?_) fun _ _ => rfl) (.imm .non) (q3 [] (by simpa using nd)) (f.sub fun a z => q2 a (by simpa using z))
        simp only [List.append_nil, List.mem_append] at z ⊢
        rcases z with z | z
        · exact .inl (q2 a z)
        · exact .inr z
    | exc x ρ =>
      rw [eb] at h
      simp only [finR] at h
      cases eo : ρ.ob with
      | none => rw [eo] at h; exact h.elim
      | some o' =>
        rw [eo] at h
        intro cls d σ' H' L' r xr nd f
        obtain ⟨L1, q1, q2, q3⟩ := gone eo r
        have sub : ∀ a ∈ L1 ++ B, a ∈ L' ++ B := fun a z => by
          simp only [List.mem_append] at z ⊢
          rcases z with z | z
          · exact .inl (q2 a z)
          · exact .inr z
        refine h cls d H' L1 (q1.kp (Kp.weak sub) fun _ _ => rfl) ?_ (by simpa using q3 [] (by simpa using nd)) (f.sub q2)
        cases xr with
        | plain a b => exact .plain a b
        | flds a b c d e => exact .flds a b c d (e.kp (Kp.weak sub))
    | rt val ρ =>
      rw [eb] at h
      simp only [finR] at h
      intro v σ' H' L' Lv r vr nd f
      cases eo : ρ.ob with
      | none => cases vr <;> simp only [eo] at h
      | some o' =>
        obtain ⟨L1, q1, q2, q3⟩ := gone eo r
        have sub : ∀ a ∈ L1 ++ Lv ++ B, a ∈ L' ++ Lv ++ B := fun a z => by
          simp only [List.mem_append] at z ⊢
          rcases z with (z | z) | z
          · exact .inl (.inl (q2 a z))
          · exact .inl (.inr z)
          · exact .inr z
        have fs : Fr H H' L0 (L1 ++ Lv) := f.sub fun a z => by
          rcases List.mem_append.mp z with z | z
          · exact List.mem_append_left _ (q2 a z)
          · exact List.mem_append_right _ z
        cases vr with
        | imm fz => simp only [eo] at h; exact h v H' L1 [] (q1.kp (Kp.weak sub) fun _ _ => rfl) (.imm (fz.kp (Kp.weak sub))) (q3 [] nd) fs
        | own ow => simp only [eo] at h; exact h _ H' L1 Lv (q1.kp (Kp.weak sub) fun _ _ => rfl) (.own (ow.kp (Kp.weak sub) fun _ _ => rfl)) (q3 Lv nd) fs
        | bor _ => exact h.elim
        | ob => exact h.elim
end

/-! ## calls that hand on an object -/
def getO (ρ : Rho) : Val → Option Ob
  | .bor i => match ρ.get i with
    | .own o => some o
    | _ => none
  | .ob => ρ.ob
  | _ => none
def setO (ρ : Rho) (o : Ob) : Val → Rho
  | .bor i => ρ.set i (.own o)
  | _ => { ρ with ob := some o }
def eCallR (m : Ob → List D → FO) (fs : EEs) : EE := fun ρ => (fs ρ).bind fun vals ρ1 => match vals with
  | r :: vals => match getO ρ1 r with
    | some o => match vImms vals with
      | some ds => match m o ds with
        | .ok v o' => .ok v (setO ρ1 o' r)
        | .exc x o' => .exc x (setO ρ1 o' r)
        | .bad => .bad
      | none => .bad
    | none => .bad
  | [] => .bad
/-- the object that a value names, cut out -/
theorem RR.cutV {K : PySem.W.Frag} {H : Hp} {B : List Addr} {a0 : Addr} {σ : L2.St} {ρ : Rho} {L Lv : List Addr} {r : Val} {v : V} {o : Ob} (h : RR K H B a0 ρ σ L) (hv : VR K a0 σ H B r v Lv) (e : getO ρ r = some o) : ∃ a Li M N, v = .ref a ∧ Lv = [] ∧ Ow K H B o a Li ∧ L = M ++ Li ++ N ∧
    ∀ (H' : Hp) (B' : List Addr) (o' : Ob) (Li' : List Addr), Ow K H' B' o' a Li' → Kp H B H' B' → (∀ b ∈ M ++ N, H' b = H b) → RR K H' B' a0 (setO ρ o' r) σ (M ++ Li' ++ N) := by
  cases hv with
  | imm _ => cases e
  | own _ => cases e
  | @bor i v hv =>
    simp only [getO] at e
    cases g : ρ.get i with
    | un => rw [g] at e; cases e
    | imm _ => rw [g] at e; cases e
    | ob => rw [g] at e; cases e
    | own o2 =>
      rw [g] at e; cases e
      obtain ⟨ov, Li, M, N, s1, s2, s3, s4⟩ := h.cut (Rho.get_un g (fun z => nomatch z))
      rw [hv] at s1; cases s1
      cases s2 with
      | @own _ a _ ow => exact ⟨a, Li, M, N, rfl, rfl, ow, s3, fun H' B' o' Li' w k q => s4 H' B' (.own o') Li' (.own w) k q⟩
  | ob =>
    simp only [getO] at e
    obtain ⟨Li, N, s1, s2, s3⟩ := h.cutOb e
    exact ⟨a0, Li, [], N, rfl, rfl, s1, by simpa using s2, fun H' B' o' Li' w k q => by simpa [setO] using s3 H' B' o' Li' w k (fun b z => q b (by simpa using z))⟩
theorem v_callR {X : Cx} {W : WX} {e : Expr} {es : List Expr} {fs : EEs} {pos pp : Pos} {x : Str} {k k' : Nat} {m : Ob → List D → FO} (C : XCal X k x (spR X.K X.mg m)) (hk : k ≤ k') (hr : Room k' X.A) (tk : Takes X W) (hg : Gl X x) (ha : PA X (e :: es) (Cx.evs X W fs)) (hdb : (x == ("__debug__" : Str)) = false := by decide)
    (he : starEach (e :: es) X.env = (false, eval e X.env) :: starEach es X.env := by rfl) (hpl : (backTo pos (starEach es X.env)).any (·.1) = false := by rfl) : PE X (.Call (.Name x pp) (e :: es) [] pos) (Cx.ev X W (eCallR m fs)) := by
  refine v_callG C hk hr tk hg ha hdb he hpl fun σ H Q h => ?_
  obtain ⟨ρ, L, B, a0, h1, h2, h3⟩ := h
  refine ⟨ρ, L, B, a0, h1, h2, ?_⟩
  simp only [eCallR] at h3
  cases e0 : fs ρ with
  | bad => rw [e0] at h3; exact h3
  | exc x ρ1 => rw [e0] at h3; exact h3
  | ok vals ρ1 =>
    rw [e0] at h3
    intro vs H1 L1 Lv r1 v1 nd1 f1
    simp only [R.bind] at h3
    cases v1 with
    | nil => exact h3.elim
    | @cons r v La Lb vals' vs' va vb =>
      simp only at h3
      cases e1 : getO ρ1 r with
      | none => rw [e1] at h3; exact h3.elim
      | some o =>
        rw [e1] at h3
        simp only at h3
        cases e2 : vImms vals' with
        | none => rw [e2] at h3; exact h3.elim
        | some ds =>
          rw [e2] at h3
          simp only at h3
          obtain ⟨a, Li, M, N, rfl, rfl, ow, hL, back⟩ := r1.cutV va e1
          simp only [List.nil_append] at r1 vb nd1 f1 ow back
          have fz := vb.fz e2 keep_in (apart h2 f1 nd1)
          have w1 : WF H1 L1 B := h2.next (f1.sub fun a z => List.mem_append_left _ z) (List.nodup_append.mp nd1).1
          have trL := r1.tr
          -- the callee's view
          have memL : ∀ z, z ∈ L1 ↔ z ∈ Li ∨ z ∈ M ++ N := fun z => by rw [hL]; simp only [List.mem_append]; constructor <;> (intro h; rcases h with h | h <;> simp_all) <;> rcases h with h | h <;> simp [h]
          have ndL : (Li ++ (M ++ N)).Nodup := by
            have z := w1.nd
            rw [hL] at z
            simp only [List.nodup_append, List.mem_append] at z ⊢
            refine ⟨z.1.2.1, ⟨z.1.1, z.2.1, fun a ha b hb => z.2.2 a (.inl ha) b hb⟩, fun a ha b hb e => ?_⟩
            rcases hb with hb | hb
            · exact z.1.2.2 b hb a ha e.symm
            · exact z.2.2 a (.inr ha) b hb e
          have wc : WF H1 Li (M ++ N ++ B) := by
            refine ⟨(List.nodup_append.mp ndL).1, fun z hz q => ?_, fun z hz => ?_⟩
            · rcases List.mem_append.mp hz with hz | hz
              · exact (List.nodup_append.mp ndL).2.2 z q z hz rfl
              · exact w1.dis z hz ((memL z).mpr (.inl q))
            · rcases List.mem_append.mp hz with hz | hz
              · obtain ⟨o, e, _⟩ := trL z ((memL z).mpr (.inr hz)); exact ⟨o, e⟩
              · exact w1.tr z hz
          have sub1 : ∀ z ∈ Li ++ (M ++ N ++ B), z ∈ L1 ++ B := fun z hz => by
            rcases List.mem_append.mp hz with hz | hz
            · exact List.mem_append_left _ ((memL z).mpr (.inl hz))
            · rcases List.mem_append.mp hz with hz | hz
              · exact List.mem_append_left _ ((memL z).mpr (.inr hz))
              · exact List.mem_append_right _ hz
          refine ⟨o, a, vs', ds, Li, M ++ N ++ B, rfl, wc, ow.kp (Kp.weak fun z hz => keep_in z (sub1 z hz)) fun _ _ => rfl, fz.kp (Kp.weak sub1), ?_⟩
          -- back
          have again : ∀ {H2 : Hp} {L2 Lv2 : List Addr} {o' : Ob}, Ow X.K H2 (L2 ++ Lv2 ++ (M ++ N ++ B)) o' a L2 → (L2 ++ Lv2).Nodup → Fr H1 H2 Li (L2 ++ Lv2) →
              RR X.K H2 (M ++ L2 ++ N ++ Lv2 ++ B) a0 (setO ρ1 o' r) σ (M ++ L2 ++ N) ∧ (M ++ L2 ++ N ++ Lv2).Nodup ∧ Fr H1 H2 L1 (M ++ L2 ++ N ++ Lv2) := fun {H2 L2 Lv2 o'} ow2 nd2 f2 => by
            have kp2 : Kp H1 (L1 ++ B) H2 (M ++ L2 ++ N ++ Lv2 ++ B) := by
              refine ⟨fun z o e n => ?_, f2.imm⟩
              simp only [List.mem_append, not_or, memL] at n
              refine ⟨f2.keep z o e n.1.1, fun q => ?_⟩
              simp only [List.mem_append] at q
              rcases q with (((q | q) | q) | q) | q
              · exact n.1.2.1 q
              · rcases f2.new z (by simp [q]) with y | y
                · exact n.1.1 y
                · rw [e] at y; cases y
              · exact n.1.2.2 q
              · rcases f2.new z (by simp [q]) with y | y
                · exact n.1.1 y
                · rw [e] at y; cases y
              · exact n.2 q
            have sm : ∀ b ∈ M ++ N, H2 b = H1 b := fun b hb => by
              obtain ⟨o, e, _⟩ := trL b ((memL b).mpr (.inr hb))
              rw [e]
              exact f2.keep b o e fun q => (List.nodup_append.mp ndL).2.2 b q b hb rfl
            refine ⟨?_, ?_, ⟨fun z o e n => f2.keep z o e fun q => n ((memL z).mpr (.inl q)), f2.imm, fun z hz => ?_⟩⟩
            · refine back H2 _ o' L2 (ow2.kp (Kp.weak fun z hz => ?_) fun _ _ => rfl) ⟨fun z o e n => kp2.keep z o e fun q => n (keep_in z q), kp2.imm⟩ sm
              simp only [List.mem_append] at hz ⊢
              rcases hz with (((hz | hz) | hz) | hz) | hz <;> simp [hz]
            · have dj : ∀ z ∈ M ++ N, z ∉ L2 ++ Lv2 := fun z hz q => by
                rcases f2.new z q with y | y
                · exact (List.nodup_append.mp ndL).2.2 z y z hz rfl
                · obtain ⟨o, e, _⟩ := trL z ((memL z).mpr (.inr hz)); rw [e] at y; cases y
              have ndMN := (List.nodup_append.mp ndL).2.1
              simp only [List.nodup_append, List.mem_append] at nd2 ndMN ⊢
              refine ⟨⟨⟨ndMN.1, nd2.1, fun x hx y hy e => dj x (by simp [hx]) (by subst e; simp [hy])⟩, ndMN.2.1, fun x hx y hy e => ?_⟩, nd2.2.1, fun x hx y hy e => ?_⟩
              · rcases hx with hx | hx
                · exact ndMN.2.2 x hx y hy e
                · exact dj y (by simp [hy]) (by subst e; simp [hx])
              · rcases hx with (hx | hx) | hx
                · exact dj x (by simp [hx]) (by subst e; simp [hy])
                · exact nd2.2.2 x hx y hy e
                · exact dj x (by simp [hx]) (by subst e; simp [hy])
            · simp only [List.mem_append] at hz
              rcases hz with ((hz | hz) | hz) | hz
              · exact .inl ((memL z).mpr (.inr (by simp [hz])))
              · exact (f2.new z (by simp [hz])).imp (fun y => (memL z).mpr (.inl y)) id
              · exact .inl ((memL z).mpr (.inr (by simp [hz])))
              · exact (f2.new z (by simp [hz])).imp (fun y => (memL z).mpr (.inl y)) id
          have f1' : Fr H H1 L L1 := f1.sub fun a z => List.mem_append_left _ z
          cases e3 : m o ds with
          | bad => rw [e3] at h3; exact h3.elim
          | exc x o' =>
            rw [e3] at h3
            intro cls d H2 L2 ow2 xr nd2 f2
            obtain ⟨q1, q2, q3⟩ := again (Lv2 := []) (by simpa using ow2) (by simpa using nd2) (by simpa using f2)
            refine h3 cls d H2 (M ++ L2 ++ N) (by simpa using q1) ?_ (by simpa using q2) (f1'.trans (by simpa using q3))
            have sub2 : ∀ z ∈ M ++ L2 ++ N ++ B, z ∈ L2 ++ (M ++ N ++ B) := fun z hz => by
              simp only [List.mem_append] at hz ⊢
              rcases hz with ((hz | hz) | hz) | hz <;> simp [hz]
            cases xr with
            | plain a b => exact .plain a b
            | flds a b c d e => exact .flds a b c d (e.kp (Kp.weak sub2))
          | ok val o' =>
            rw [e3] at h3
            intro v2 H2 L2 Lv2 ow2 vp nd2 f2
            obtain ⟨q1, q2, q3⟩ := again ow2 nd2 f2
            refine h3 v2 H2 (M ++ L2 ++ N) Lv2 q1 ((vp.vr (a0 := a0) (σ := σ)).kp (Kp.weak fun z hz => ?_) fun _ _ => rfl) q2 (f1'.trans q3)
            simp only [List.mem_append] at hz ⊢
            rcases hz with (((hz | hz) | hz) | hz) | hz <;> simp [hz]
end FW

namespace FX
open PySem PySem.Spec PyProof.Rows L2 HT
section
variable {prog : Program} {w : World} {A : Around} {E : Value → Shared → Prop} {s : Shared}
theorem adjust_rev (n : Nat) : Builtin.Slice.sliceAdjust none none (-1) (n : Int) = ((n : Int) - 1, -1) := by
  unfold Builtin.Slice.sliceAdjust
  simp
theorem places_rev (n : Nat) : Builtin.Slice.slicePlaces ((n : Int) - 1) (-1) (-1) = n := by
  unfold Builtin.Slice.slicePlaces
  have h1 : ¬ ((-1 : Int) > 0) := by decide
  simp only [h1, if_false]
  by_cases h : (n : Int) - 1 > -1
  · rw [if_pos h, show (- -1 : Int) = 1 by decide, Int.ediv_one]; omega
  · rw [if_neg h]; omega
theorem sliceApplied_rev {sl : Addr} {vl vu vs : Value} {n : Nat} {Q : Int × Int × Nat → Shared → Prop} (hs : s.heap.IsSliceOf sl vl vu vs) (pl : IsPart vl none) (pu : IsPart vu none) (ps : IsPart vs (some (-1)))
    (h : Q ((n : Int) - 1, -1, n) s) : wpAny (model prog w) A (Builtin.Slice.sliceApplied (.ref sl) (pure (n : Int))) Q E s := by
  obtain ⟨os, hos, hcs, hds⟩ := id hs
  unfold Builtin.Slice.sliceApplied Builtin.Slice.sliceFields
  refine wpAny_bind (wpAny_bind (wpAny_field hos hds (x := vl) rfl (wpAny_bind (wpAny_field hos hds (x := vu) rfl (wpAny_bind (wpAny_field hos hds (x := vs) rfl (wpAny_pure ?_)))))))
  refine wpAny_bind (slicePart_ ps ?_)
  show wpAny _ _ (if ((-1 : Int) == 0) = true then _ else _) _ _ s
  rw [if_neg (by decide)]
  refine wpAny_bind (slicePart_ pl (wpAny_bind (slicePart_ pu (wpAny_bind (wpAny_pure ?_)))))
  show wpAny _ _ (match Builtin.Slice.sliceAdjust none none (-1) (n : Int) with | (lo, hi) => pure (lo, (-1 : Int), Builtin.Slice.slicePlaces lo hi (-1))) _ _ s
  rw [adjust_rev n]
  show wpAny _ _ (pure ((n : Int) - 1, (-1 : Int), Builtin.Slice.slicePlaces ((n : Int) - 1) (-1) (-1))) _ _ s
  rw [places_rev]
  exact wpAny_pure h
theorem pick_rev (xs : Array Value) : ((List.range xs.size).filterMap fun (m : Nat) => xs[(((xs.size : Nat) : Int) - 1 + (m : Int) * (-1)).toNat]?).toArray = xs.toList.reverse.toArray := by
  have e : (fun (m : Nat) => xs[(((xs.size : Nat) : Int) - 1 + (m : Int) * (-1)).toNat]?) = (fun x => xs[x]?) ∘ fun m => xs.size - 1 - m := by
    funext m
    have : (((xs.size : Nat) : Int) - 1 + (m : Int) * (-1)).toNat = xs.size - 1 - m := by omega
    show xs[_]? = xs[_]?
    rw [this]
  rw [e, ← List.filterMap_map, PySem.W.krv_range, List.filterMap_reverse, PySem.W.krv_all]
theorem getItem_tuple_rev {t sl : Addr} {items : Array Value} {vl vu vs : Value} {Q : Value → Shared → Prop} (ht : IsTup s.heap t items) (hs : s.heap.IsSliceOf sl vl vu vs) (pl : IsPart vl none) (pu : IsPart vu none) (ps : IsPart vs (some (-1)))
    (h : Q (.ref s.heap.objs.size) { s with heap := s.heap.push { cls := .type "tuple", data := .seq items.toList.reverse.toArray } })
    (hsz : items.size ≤ sizeLine) : wpAny (model prog w) A (getItem (.ref t) (.ref sl)) Q E s := by
  have htake : sizeOk (.seq items.toList.reverse.toArray) := by
    show items.toList.reverse.toArray.size ≤ sizeLine
    simpa using hsz
  obtain ⟨os, hos, hcs, hds⟩ := id hs
  have hTs : s.TypeIs (.ref sl) "slice" := ⟨os, hos, hcs⟩
  unfold getItem
  try with_reducible refine wpAny_holding ?_
  first | refine wpAny_bind (wpAny_pure ?_) | skip
  refine wpAny_bind (wpAny_sequenceKey ht.typeIs (by decide) ?_)
  refine wpAny_bind (wpAny_callSpecial?_slot (name := Str.ofString "__getitem__") ht.typeIs PyProof.Rows.slot_tuple_getitem
    (wpAny_call_entry PyProof.Rows.slot_tuple_getitem ht.typeIs entry_tuple_getitem ?_ (args_tuple_getitem _ _)))
  show wpAny _ _ (Builtin.Tuple.tupleItemsOf (.ref t) >>= _) _ _ s
  refine wpAny_bind (tupleItemsOf_ ht ?_)
  refine wpAny_bind (wpAny_typeOf hTs ?_)
  rw [if_pos (by decide)]
  refine wpAny_bind (sliceApplied_rev hs pl pu ps ?_)
  have hno : ¬ ((((items.size : Nat) : Int) - 1 == 0 && (-1 : Int) == 1 && items.size == items.size) = true) := by
    simp
  show wpAny _ _ (if (((items.size : Nat) : Int) - 1 == 0 && (-1 : Int) == 1 && items.size == items.size) = true then _ else _) _ _ s
  rw [if_neg hno, pick_rev]
  first
    | exact wpAny_bind (m := Builtin.Tuple.tupleExact _) (wpAny_newObj_type (wpAny_pure ⟨_, rfl, wpAny_pure h⟩) htake)
    | exact wpAny_bind (m := Builtin.Tuple.tupleExact _) (wpAny_newObj_type (wpAny_bind (wpAny_pure (wpAny_pure ⟨_, rfl, wpAny_pure h⟩))) htake)
    | exact wpAny_bind (wpAny_bind (m := Builtin.Tuple.tupleExact _) (wpAny_newObj_type (wpAny_pure (wpAny_pure ⟨_, rfl, wpAny_pure h⟩)) htake))
    | exact wpAny_bind (wpAny_bind (m := Builtin.Tuple.tupleExact _) (wpAny_newObj_type (wpAny_pure ⟨_, rfl, wpAny_pure h⟩) htake))
end
section
variable {X : Cx}
def tRevA (K : PySem.W.Frag) (te : TE) : TE := fun σ H Q => te σ H fun x H1 => ∃ a xs, x = .ref a ∧ ((SqT K H1 a xs ∧ ∀ p, H1 p = none → Q (.ref p) (upd H1 p (.tup xs.reverse))) ∨ (SqL K H1 a xs ∧ ∀ p, H1 p = none → Q (.ref p) (upd H1 p (.lst xs.reverse))))
theorem pe_revA {e : Expr} {te : TE} {k : Nat} {p1 p2 p3 pos : Pos} (he : PE X e te) : PE X (.Subscript e (.Slice none none (some (.UnaryOp .USub (.Constant (.int 1) k p1) p2)) p3) pos) (tRevA X.K te) := by
  refine ⟨fun pins s σ H Q I h => ?_⟩
  refine Subscript_ (L2.thn (he.run pins s σ H _ I h) fun v s1 ⟨x, H1, I1, r1, q1⟩ => ?_)
  obtain ⟨a, xs, ex, q⟩ := q1
  subst ex
  cases r1
  have hst : PO X (some (.UnaryOp .USub (.Constant (.int 1) k p1) p2)) (tPart (tUn (rU fun i => .int (-i)) (tC (.int 1)))) := po_some (pe_un un_neg pe_int)
  refine wpAny_Slice (L2.thn (po_none.run pins s1 σ H1 (fun o H2 => o = none ∧ H2 = H1) I1 ⟨rfl, rfl⟩) fun vl s2 ⟨l, H2, I2, pl, el, e2⟩ => ?_)
  subst el e2
  refine L2.thn (po_none.run pins s2 σ H2 (fun o H3 => o = none ∧ H3 = H2) I2 ⟨rfl, rfl⟩) fun vu s3 ⟨u, H3, I3, pu, eu, e3⟩ => ?_
  subst eu e3
  refine L2.thn (hst.run pins s3 σ H3 (fun o H4 => o = some (-1) ∧ H4 = H3) I3 ⟨1, rfl, -1, rfl, rfl, rfl⟩) fun vs s4 ⟨o, H4, I4, ps, eo, e4⟩ => ?_
  subst eo e4
  have I5 : Inv X pins σ H4 { s4 with heap := s4.heap.push { cls := .type "slice", data := .fields #[vl, vu, vs] } } := I4.kept (t' := s4.toks) fun b ob q => Heap.get?_push_of_some _ q
  show wpAny (model X.prog X.w) X.A (subscriptTail e (.Slice none none (some (.UnaryOp .USub (.Constant (.int 1) k p1) p2)) p3) (.ref a) (.ref s4.heap.objs.size)) (EP X pins σ Q) X.xe { s4 with heap := s4.heap.push { cls := .type "slice", data := .fields #[vl, vu, vs] } }
  rcases q with ⟨hx, q⟩ | ⟨hx, q⟩
  · obtain ⟨its, r, ht, hz⟩ := I5.tuple hx
    have hlen := r.length
    refine tail_any (ops := [.ref a, .ref s4.heap.objs.size]) ht.typeIs (PyProof.Rows.slot_tuple_getitem.lookup) ?_ (by with_unfolding_all rfl)
    refine getItem_tuple_rev ht (Heap.IsSliceOf.new _ vl vu vs) pl pu ps ?_ (by rw [List.size_toArray]; omega)
    refine ⟨.ref _, _, I5.laid (t' := s4.toks) (o := .tup xs.reverse) (fun b ob q => Heap.get?_push_of_some _ q) (Nat.le_refl _) ?_, rfl, q _ (I5.hok.fresh (Nat.le_refl _))⟩
    exact ⟨by rw [List.length_reverse]; exact hz, its.reverse, r.reverse, IsTup.new _ _⟩
  · obtain ⟨its, r, ht, hz⟩ := I5.list hx
    have hlen := r.length
    refine tail_any (ops := [.ref a, .ref s4.heap.objs.size]) ht.isList.typeIs (PySem.slot_list_getitem.lookup) ?_ (by with_unfolding_all rfl)
    refine wpAny_getItem_list_slice ht.isList (Heap.IsSliceOf.new _ vl vu vs) pl pu ps (by decide) ?_ (by rw [List.size_toArray]; omega)
    rw [PySem.W.krv_pick]
    refine ⟨.ref _, _, I5.laid (t' := s4.toks) (o := .lst xs.reverse) (fun b ob q => Heap.get?_push_of_some _ q) (Nat.le_refl _) ?_, rfl, q _ (I5.hok.fresh (Nat.le_refl _))⟩
    exact ⟨by rw [List.length_reverse]; exact hz, _, 0, r.reverse, Heap.get?_push_size _ rfl⟩

/-! ### tuple * int -/
theorem tuple_mul1 (l : Addr) (items : Array Value) (n : Nat) (dd : Option Addr) (sl : Array (Option Value)) (x : Int) (u : Tok) (c0 : (decide (x < -(2 ^ 63)) || decide (x ≥ 2 ^ 63)) = false) (c1 : (items.isEmpty || x == 1) = true) :
    Meets (Builtin.«tuple.__mul__» ⟨[.ref l, .int x u], []⟩) (fun _ R s => s.heap.get? l = some { cls := .type "tuple", dict := dd, data := .seq items n, slots := sl } ∧
      R (.ok (.ret (Value.ref l))) s) :=
  .of_wp fun prog w A R s h => by
    obtain ⟨hp, g, d, tk, os⟩ := s
    obtain ⟨hl, h⟩ := h
    have f1 := AutoSeq1.idx_int
    wp_walk using wpAny_loadPart' hl
    repeat (first
      | (refine wpAny_ite_false (decide_eq_false (by rw [c0]; exact Bool.false_ne_true)) ?_; wp_walk using wpAny_loadPart' hl)
      | (refine wpAny_ite_true (decide_eq_true (by rw [c1])) ?_; wp_walk using wpAny_loadPart' hl))
    exact ⟨_, rfl, h⟩
theorem tuple_mul0 (l : Addr) (items : Array Value) (n : Nat) (dd : Option Addr) (sl : Array (Option Value)) (x : Int) (u : Tok) (c0 : (decide (x < -(2 ^ 63)) || decide (x ≥ 2 ^ 63)) = false) (c1 : (items.isEmpty || x == 1) = false) (c2 : (decide (x ≤ 0) || items.isEmpty) = true) :
    Meets (Builtin.«tuple.__mul__» ⟨[.ref l, .int x u], []⟩) (fun _ R s => s.heap.get? l = some { cls := .type "tuple", dict := dd, data := .seq items n, slots := sl } ∧
      R (.ok (.ret (Value.ref s.heap.objs.size))) { s with heap := s.heap.push { cls := Value.type "tuple", data := Data.seq #[] }, toks := s.toks }) :=
  .of_wp fun prog w A R s h => by
    obtain ⟨hp, g, d, tk, os⟩ := s
    obtain ⟨hl, h⟩ := h
    have f1 := AutoSeq1.idx_int
    wp_walk using wpAny_loadPart' hl
    repeat (first
      | (refine wpAny_ite_false (decide_eq_false (by rw [c0]; exact Bool.false_ne_true)) ?_; wp_walk using wpAny_loadPart' hl)
      | (refine wpAny_ite_false (decide_eq_false (by rw [c1]; exact Bool.false_ne_true)) ?_; wp_walk using wpAny_loadPart' hl)
      | (refine wpAny_ite_true (decide_eq_true (by rw [c2])) ?_; wp_walk using wpAny_loadPart' hl))
    exact ⟨_, rfl, h⟩
def rRepA (K : PySem.W.Frag) : R2 := fun x y H Q => ∃ l k xs, x = .ref l ∧ y = .int k ∧ SqT K H l xs ∧ -1000000 ≤ k ∧ k ≤ 1000 ∧ xs.length ≤ 1000 ∧ ((xs = [] ∨ k = 1) → Q (.ref l) H) ∧ (xs ≠ [] → k ≤ 0 → ∀ p, H p = none → Q (.ref p) (upd H p (.tup []))) ∧
  (xs ≠ [] → 2 ≤ k → ∀ p, H p = none → Q (.ref p) (upd H p (.tup (List.replicate k.toNat xs).flatten)))
theorem op_repA : OpR X (binaryOp .Mult) (rRepA X.K) := by
  intro pins s σ H x y v u Q I rx ry h
  obtain ⟨l, k, xs, rfl, rfl, hT, h1, h2, hz, q1, q2, q3⟩ := h
  by_cases hb : xs ≠ [] ∧ 2 ≤ k
  · exact op_repT pins s σ H _ _ v u Q I rx ry ⟨l, k, xs, rfl, rfl, hT, hb.1, hb.2, h2, hz, q3 hb.1 hb.2⟩
  cases rx
  obtain ⟨t, rfl⟩ := ry
  obtain ⟨its, r, ⟨⟨cls, dd, data, sl⟩, ho, hc, n, hd⟩, hs⟩ := I.tuple hT
  simp only at hc hd
  subst hc hd
  have hle : its.length = xs.length := r.length.symm
  have c0 : (decide (k < -(2 ^ 63)) || decide (k ≥ 2 ^ 63)) = false := by
    rw [decide_eq_false (by omega), decide_eq_false (by omega)] <;> rfl
  by_cases h0 : xs = [] ∨ k = 1
  · have c1 : (its.toArray.isEmpty || k == 1) = true := by
      rcases h0 with z | z
      · subst z
        have : its = [] := List.eq_nil_of_length_eq_zero hle
        subst this; rfl
      · subst z; simp
    refine wpAny_binaryOp_repeat_ref (T := "tuple") (U := "int") (by decide) ⟨_, ho, rfl⟩ (fun s' => typeIs_int s' k t) noFill_tuple_mul F.fills_int_mul F.slot_int_rmul repeat_tuple F.slot_int_index.lookup
      (call_meets F.slot_int_rmul (typeIs_int s k t) F.entry_int_rmul (F.args_int_rmul_2 _ _) (int_rmul_tuple k t l its.toArray n dd sl)
        ⟨ho, rfl, ⟨_, ho, rfl⟩, call_meets F.slot_tuple_mul ⟨_, ho, rfl⟩ F.entry_tuple_mul (F.args_tuple_mul_2 _ _) (tuple_mul1 l its.toArray n dd sl k t c0 c1) ⟨ho, ?_⟩⟩)
    exact ⟨.ref l, H, I, rfl, q1 h0⟩
  · have hx : xs ≠ [] := fun z => h0 (.inl z)
    have hk : k ≤ 0 := by
      rcases Int.lt_or_le 0 k with z | z
      · exact absurd (show xs ≠ [] ∧ 2 ≤ k from ⟨hx, by have : k ≠ 1 := fun e => h0 (.inr e); omega⟩) hb
      · exact z
    have hi : its.toArray.isEmpty = false := by
      cases its with
      | nil => exact absurd (List.eq_nil_of_length_eq_zero hle.symm) hx
      | cons a b => rfl
    have c1 : (its.toArray.isEmpty || k == 1) = false := by
      rw [hi, Bool.false_or]
      exact beq_eq_false_iff_ne.mpr (by omega)
    have c2 : (decide (k ≤ 0) || its.toArray.isEmpty) = true := by rw [decide_eq_true hk]; rfl
    refine wpAny_binaryOp_repeat_ref (T := "tuple") (U := "int") (by decide) ⟨_, ho, rfl⟩ (fun s' => typeIs_int s' k t) noFill_tuple_mul F.fills_int_mul F.slot_int_rmul repeat_tuple F.slot_int_index.lookup
      (call_meets F.slot_int_rmul (typeIs_int s k t) F.entry_int_rmul (F.args_int_rmul_2 _ _) (int_rmul_tuple k t l its.toArray n dd sl)
        ⟨ho, rfl, ⟨_, ho, rfl⟩, call_meets F.slot_tuple_mul ⟨_, ho, rfl⟩ F.entry_tuple_mul (F.args_tuple_mul_2 _ _) (tuple_mul0 l its.toArray n dd sl k t c0 c1 c2) ⟨ho, ?_⟩⟩)
    refine ⟨.ref s.heap.objs.size, _, I.laid (t' := s.toks) (o := .tup []) (fun b ob q => Heap.get?_push_of_some _ q) (Nat.le_refl _) ?_, rfl, q2 hx hk _ (I.hok.fresh (Nat.le_refl _))⟩
    exact ⟨by decide, [], .nil, IsTup.new _ _⟩
end
end FX

namespace FW
open PySem PySem.Spec PyProof.Rows L2

/-! ## methods that change a local's own list -/
/-- g: from the list and the arguments the value and the list behind -/
def eMut (i : Nat) (g : List D → List D → Option (D × List D)) (fs : EEs) : EE := fun ρ => match ρ.get i with
  | .own (.lst _) => (fs ρ).bind fun vals ρ1 => match ρ1.get i with
    | .own (.lst xs) => match vImms vals with
      | some ds => match g xs ds with
        | some (r, ys) => .ok (.imm r) (ρ1.set i (.own (.lst ys)))
        | none => .bad
      | none => .bad
    | _ => .bad
  | _ => .bad
def PureM (K : PySem.W.Frag) (r : V → List V → Hp → VK → Prop) (g : List D → List D → Option (D × List D)) : Prop :=
  ∀ (xs ds : List D) (vs us : List V) (H : Hp) (B : List Addr) (a : Addr) (res : D) (ys : List D) (Q : VK), H a = some (.lst vs) → a ∈ B → FzL K H B xs vs → FzL K H B ds us → g xs ds = some (res, ys) →
    (∀ v vs', FzL K H B ys vs' → Fz K H B res v → Q v (upd H a (.lst vs'))) → r (.ref a) us H Q
/-- a is owned: what is known stays known when it is written -/
theorem kp_upd {H : Hp} {a : Addr} {o u : HO} {B : List Addr} (ha : H a = some u) (hm : Mut (some u)) (hb : a ∈ B) : Kp H B (upd H a o) B := ⟨fun b w e n => ⟨by
    rw [upd_ne (show b ≠ a from fun z => n (by subst z; exact hb))]; exact e, n⟩, fun b w e n => by
    by_cases h : b = a
    · subst h; rw [ha] at e; cases e; exact absurd hm n
    · rw [upd_ne h]; exact e⟩
theorem fr_upd {H : Hp} {a : Addr} {o u : HO} {L : List Addr} (ha : H a = some u) (hm : Mut (some u)) (hb : a ∈ L) : Fr H (upd H a o) L L := ⟨fun b w e n => by
    rw [upd_ne (show b ≠ a from fun z => n (by subst z; exact hb))]; exact e, fun b w e n => by
    by_cases h : b = a
    · subst h; rw [ha] at e; cases e; exact absurd hm n
    · rw [upd_ne h]; exact e, fun _ z => .inl z⟩
theorem ev_mut {K : PySem.W.Frag} {mg : Str → Option Value} {W : WX} {i : Nat} {g : List D → List D → Option (D × List D)} {fs : EEs} {r : V → List V → Hp → VK → Prop} (p : PureM K r g) {σ : L2.St} {H : Hp} {Q : VK} (h : tEv K mg W (eMut i g fs) σ H Q) :
    ∃ a, σ[i]? = some (some (.ref a)) ∧ (∃ xs, H a = some (.lst xs)) ∧ tEvs K mg W fs σ H fun us H1 => r (.ref a) us H1 Q := by
  obtain ⟨ρ, L, B, a0, h1, h2, h3⟩ := h
  simp only [eMut] at h3
  cases g0 : ρ.get i with
  | un => rw [g0] at h3; exact h3.elim
  | imm d => rw [g0] at h3; exact h3.elim
  | ob => rw [g0] at h3; exact h3.elim
  | own o =>
    rw [g0] at h3
    cases o with
    | dk _ => exact h3.elim
    | dt _ => exact h3.elim
    | drw _ => exact h3.elim
    | lst xs0 =>
      simp only at h3
      obtain ⟨ov, Li, s1, s2, _⟩ := h1.slot (Rho.get_un g0 (fun z => nomatch z))
      cases s2 with
      | @own _ a _ ow =>
        cases ow with
        | lst ha _ =>
          refine ⟨a, s1, ⟨_, ha⟩, ρ, L, B, a0, h1, h2, ?_⟩
          cases e : fs ρ with
          | bad => rw [e] at h3; exact h3
          | exc x ρ1 => rw [e] at h3; exact h3
          | ok vals ρ1 =>
            rw [e] at h3
            intro us H1 L1 Lv r1 v1 nd1 f1
            simp only [R.bind] at h3
            cases g1 : ρ1.get i with
            | un => rw [g1] at h3; exact h3.elim
            | imm d => rw [g1] at h3; exact h3.elim
            | ob => rw [g1] at h3; exact h3.elim
            | own o =>
              rw [g1] at h3
              cases o with
              | dk _ => exact h3.elim
              | dt _ => exact h3.elim
              | drw _ => exact h3.elim
              | lst xs =>
                simp only at h3
                cases e1 : vImms vals with
                | none => rw [e1] at h3; exact h3.elim
                | some ds =>
                  rw [e1] at h3
                  simp only at h3
                  cases e2 : g xs ds with
                  | none => rw [e2] at h3; exact h3.elim
                  | some ry =>
                    obtain ⟨res, ys⟩ := ry
                    rw [e2] at h3
                    simp only at h3
                    have fz := v1.fz e1 keep_in (apart h2 f1 nd1)
                    obtain ⟨ov, Li, M, N, t1, t2, t3, back⟩ := (r1.weak keep_in).cut (Rho.get_un g1 (fun z => nomatch z))
                    rw [s1] at t1; cases t1
                    cases t2 with
                    | own ow =>
                      cases ow with
                      | @lst _ vs _ ha1 fx =>
                        have haL : a ∈ L1 := by rw [t3]; simp
                        have nd : L1.Nodup := (List.nodup_append.mp nd1).1
                        refine p xs ds vs us H1 (L1 ++ B) a res ys Q ha1 (List.mem_append_left _ haL) fx fz e2 fun v vs' fy fr => ?_
                        have k : Kp H1 (L1 ++ B) (upd H1 a (.lst vs')) (L1 ++ B) := kp_upd ha1 True.intro (List.mem_append_left _ haL)
                        have na : ∀ b ∈ M ++ N, b ≠ a := fun b hb z => by
                          subst z
                          rw [t3] at nd
                          simp only [List.nodup_append, List.mem_append] at nd
                          rcases List.mem_append.mp hb with hb | hb
                          · exact nd.1.2.2 b hb b (by simp) rfl
                          · exact nd.2.2 b (.inr (by simp)) b hb rfl
                        have q := back (upd H1 a (.lst vs')) (L1 ++ B) (.own (.lst ys)) [a] (.own (.lst upd_same (fy.kp k))) k fun b hb => upd_ne (na b hb)
                        rw [← t3] at q
                        refine h3 v _ L1 [] (by rw [app_nil3]; exact q) (.imm (by rw [app_nil3]; exact fr.kp k)) (by simpa using nd) ?_
                        have f1' : Fr H H1 L L1 := f1.sub fun a z => List.mem_append_left _ z
                        simpa using f1'.trans (fr_upd ha1 True.intro haL)
section
variable {X : Cx} {W : WX} {e : Expr} {es : List Expr} {fs : EEs} {x name : Str} {id : String} {p apos cpos : Pos} {r : V → List V → Hp → VK → Prop} {g : List D → List D → Option (D × List D)}
theorem v_mut (i : Nat) (slot : PySem.Slot "list" name id) (hty : typeOf (.builtin id) = pure (.type "method_descriptor")) (hm : MtR X id r) (pm : PureM X.K r g) (ha : PA X (e :: es) (Cx.evs X W fs)) (hN : X.N[i]? = some x := by rfl)
    (hv : Vis X.env.scope x := by first | exact Or.inl rfl | exact Or.inr (Or.inl rfl) | exact Or.inr (Or.inr rfl)) (hd : (x == ("__debug__" : Str)) = false := by decide)
    (hcd : (x == ("__classdict__" : Str)) = false := by decide) (hbase : attributeBase (.Name x p) name X.env (eval (.Name x p) X.env) = eval (.Name x p) X.env := by rfl)
    (hfew : ((backTo cpos (starEach (e :: es) X.env)).all (fun x => !x.1) && (backToKw cpos (keywordEach [] X.env)).all (fun x => x.1.isSome)
      && decide ((e :: es).length + ([] : List Keyword).length + (if ([] : List Keyword).isEmpty then 0 else 1) < 30)) = true := by rfl)
    (hline : (apos.endLine == cpos.line) = true := by rfl) (he : starEach (e :: es) X.env = (false, eval e X.env) :: starEach es X.env := by rfl) (hpl : (backTo cpos (starEach es X.env)).any (·.1) = false := by rfl) :
    PE X (.Call (.Attribute (.Name x p) name apos) (e :: es) [] cpos) (Cx.ev X W (eMut i g fs)) :=
  (pe_bm PySem.F.plainAttrs_list slot hty hm (pe_var hN hv hd hcd) ha hbase hfew hline he hpl).imp fun σ H Q h => by
    obtain ⟨a, s1, ⟨xs, ha⟩, q⟩ := ev_mut pm h
    exact ⟨.ref a, s1, .inl ⟨rfl, xs, .inl (.inl ha)⟩, q⟩
theorem v_mut0 (i : Nat) (slot : PySem.Slot "list" name id) (hty : typeOf (.builtin id) = pure (.type "method_descriptor")) (hm : MtR X id r) (pm : PureM X.K r g) (hN : X.N[i]? = some x := by rfl)
    (hv : Vis X.env.scope x := by first | exact Or.inl rfl | exact Or.inr (Or.inl rfl) | exact Or.inr (Or.inr rfl)) (hd : (x == ("__debug__" : Str)) = false := by decide)
    (hcd : (x == ("__classdict__" : Str)) = false := by decide) (hbase : attributeBase (.Name x p) name X.env (eval (.Name x p) X.env) = eval (.Name x p) X.env := by rfl) (hline : (apos.endLine == cpos.line) = true := by rfl) :
    PE X (.Call (.Attribute (.Name x p) name apos) [] [] cpos) (Cx.ev X W (eMut i g eNil)) :=
  (pe_bm0 PySem.F.plainAttrs_list slot hty hm (pe_var hN hv hd hcd) hbase hline).imp fun σ H Q h => by
    obtain ⟨a, s1, ⟨xs, ha⟩, q⟩ := ev_mut pm h
    exact ⟨.ref a, s1, .inl ⟨rfl, xs, .inl (.inl ha)⟩, evs_nil q⟩
end
def mApp : List D → List D → Option (D × List D)
  | xs, [d] => if xs.length < 16777216 then some (.non, xs ++ [d]) else none
  | _, _ => none
def mPop : List D → List D → Option (D × List D)
  | xs, [] => match xs.getLast? with
    | some d => some (d, xs.dropLast)
    | none => none
  | _, _ => none
def mPopAt : List D → List D → Option (D × List D)
  | xs, [.int i] => if 0 ≤ i ∧ i < 9223372036854775808 then match xs[i.toNat]? with
      | some d => some (d, xs.eraseIdx i.toNat)
      | none => none
    else none
  | _, _ => none
def mIns : List D → List D → Option (D × List D)
  | xs, [.int i, d] => if 0 ≤ i ∧ i < 9223372036854775808 ∧ xs.length < 16777216 then some (.non, xs.take i.toNat ++ [d] ++ xs.drop i.toNat) else none
  | _, _ => none
def mExt : List D → List D → Option (D × List D)
  | xs, [.lst ys] => if xs.length + ys.length ≤ 16777216 then some (.non, xs ++ ys) else none
  | _, _ => none
def mRev : List D → List D → Option (D × List D)
  | xs, [] => some (.non, xs.reverse)
  | _, _ => none
section
variable {K : PySem.W.Frag}
theorem m_app : PureM K rAppend mApp := fun xs ds vs us H B a res ys Q ha hb fx fd e q => by
  unfold mApp at e
  split at e
  · cases fd with
    | cons f1 f2 =>
      cases f2
      split at e
      · cases e
        rename_i hl
        exact ⟨a, vs, _, rfl, rfl, ha, by rw [← fx.length]; show xs.length < 2 ^ 24; omega, q _ _ (fx.append (.cons f1 .nil)) .non⟩
      · cases e
  · cases e
theorem FzL.dropLast {H : Hp} {B : List Addr} {ds : List D} {vs : List V} (h : FzL K H B ds vs) : FzL K H B ds.dropLast vs.dropLast := by
  rw [List.dropLast_eq_take, List.dropLast_eq_take, h.length]; exact h.take _
theorem m_pop : PureM K rPop mPop := fun xs ds vs us H B a res ys Q ha hb fx fd e q => by
  unfold mPop at e
  split at e
  · cases fd
    split at e
    · cases e
      rename_i hl
      have e1 : xs[xs.length - 1]? = some res := by rw [← List.getLast?_eq_getElem?]; exact hl
      obtain ⟨v, h1, h2⟩ := fx.get e1
      exact ⟨a, vs, v, rfl, rfl, ha, by rw [← fx.length]; exact h1, q _ _ fx.dropLast h2⟩
    · cases e
  · cases e
theorem FzL.eraseIdx {H : Hp} {B : List Addr} : ∀ {ds : List D} {vs : List V} (n : Nat), FzL K H B ds vs → FzL K H B (ds.eraseIdx n) (vs.eraseIdx n)
  | _, _, _, .nil => .nil
  | _, _, 0, .cons _ h2 => h2
  | _, _, n + 1, .cons h1 h2 => .cons h1 (FzL.eraseIdx n h2)
theorem m_popAt : PureM K rPopAt mPopAt := fun xs ds vs us H B a res ys Q ha hb fx fd e q => by
  unfold mPopAt at e
  split at e
  · rename_i i
    cases fd with
    | cons f1 f2 =>
      cases f2
      cases f1
      split at e
      · rename_i h0
        split at e
        · rename_i d hd
          cases e
          obtain ⟨v, h1, h2⟩ := fx.get hd
          have hi : i.toNat < vs.length := by
            rcases Nat.lt_or_ge i.toNat vs.length with z | z
            · exact z
            · rw [List.getElem?_eq_none z] at h1; cases h1
          have hsi : seqIndex? i vs.length = some i.toNat := by
            have := L2.ixN_seq (n := vs.length) (i := i) (j := i.toNat) (by unfold L2.ixN; rw [if_pos h0.1, if_pos (by omega)])
            exact this.1
          exact ⟨a, vs, i, i.toNat, v, rfl, rfl, ha, by omega, h0.2, hsi, h1, q _ _ (fx.eraseIdx _) h2⟩
        · cases e
      · cases e
  · cases e
theorem m_ins : PureM K (fun x vs H Q => ∃ (l : Addr) (xs : List V) (i : Int) (y : V), x = .ref l ∧ vs = [.int i, y] ∧ H l = some (.lst xs) ∧ xs.length < sizeLine ∧ 0 ≤ i ∧ i < 2 ^ 63 ∧
    Q .non (upd H l (.lst (xs.take i.toNat ++ [y] ++ xs.drop i.toNat)))) mIns := fun xs ds vs us H B a res ys Q ha hb fx fd e q => by
  unfold mIns at e
  split at e
  · rename_i i d
    cases fd with
    | cons f1 f2 =>
      cases f1
      cases f2 with
      | cons f2 f3 =>
        cases f3
        split at e
        · rename_i h0
          cases e
          exact ⟨a, vs, i, _, rfl, rfl, ha, by rw [← fx.length]; show xs.length < 2 ^ 24; omega, h0.1, h0.2.1, q _ _ (((fx.take _).append (.cons f2 .nil)).append (fx.drop _)) .non⟩
        · cases e
  · cases e
theorem m_ext : PureM K rExtend mExt := fun xs ds vs us H B a res ys Q ha hb fx fd e q => by
  unfold mExt at e
  split at e
  · rename_i zs
    cases fd with
    | cons f1 f2 =>
      cases f2
      cases f1 with
      | lst h0 h1 h2 =>
        split at e
        · cases e
          exact ⟨a, _, vs, _, rfl, rfl, ha, h1, by rw [← fx.length, ← h2.length]; show xs.length + zs.length ≤ 2 ^ 24; omega, q _ _ (fx.append h2) .non⟩
        · cases e
  · cases e
theorem m_rev : PureM K rReverse mRev := fun xs ds vs us H B a res ys Q ha hb fx fd e q => by
  unfold mRev at e
  split at e
  · cases fd
    cases e
    exact ⟨a, vs, rfl, rfl, ha, q _ _ fx.reverse .non⟩
  · cases e
end

/-! ## xs[k] = e, xs a local's own list -/
def sSetIx (i : Nat) (f fi : EE) : SS := fun ρ => match ρ.get i with
  | .own (.lst _) => match eCons f (eCons fi eNil) ρ with
    | .ok [v, .imm (.int k)] ρ1 => match ρ1.get i with
      | .own (.lst xs) => match vImm v with
        | some d => if 0 ≤ k ∧ k < xs.length then .nx (ρ1.set i (.own (.lst (xs.set k.toNat d)))) else .bad
        | none => .bad
      | _ => .bad
    | .ok _ _ => .bad
    | .exc x ρ1 => .exc x ρ1
    | .bad => .bad
  | _ => .bad
theorem s_setIx {X : Cx} {W : WX} (i : Nat) {e ie : Expr} {x : Str} {p sp pos : Pos} {f fi : EE} (he : PE X e (Cx.ev X W f)) (hg : PG X (.Subscript (.Name x p) ie sp) (gSub (tVar i) (Cx.ev X W fi) rSetL))
    (hs : swapsWithSole [.Subscript (.Name x p) ie sp] e pos.line X.env = pure false := by rfl) (hw : swappedStores [.Subscript (.Name x p) ie sp] e X.env = pure none := by rfl) (h1 : (assignEach [.Subscript (.Name x p) ie sp] X.env).map (·.2) = [assign (.Subscript (.Name x p) ie sp) X.env] := by rfl) :
    PS X (.Assign [.Subscript (.Name x p) ie sp] e pos) (Cx.st X W (sSetIx i f fi)) :=
  (ps_asg he hg hs hw h1).imp fun D σ H h => by
    obtain ⟨ρ, L, B, a0, h1, h2, h3⟩ := h
    simp only [sSetIx] at h3
    cases g0 : ρ.get i with
    | un => rw [g0] at h3; exact h3.elim
    | imm d => rw [g0] at h3; exact h3.elim
    | ob => rw [g0] at h3; exact h3.elim
    | own o =>
      rw [g0] at h3
      cases o with
      | dk _ => exact h3.elim
      | dt _ => exact h3.elim
      | drw _ => exact h3.elim
      | lst xs0 =>
        simp only at h3
        obtain ⟨ov, Li, s1, s2, _⟩ := h1.slot (Rho.get_un g0 (fun z => nomatch z))
        cases s2 with
        | @own _ a _ ow =>
          have key : tEvs X.K X.mg W (eCons f (eCons fi eNil)) σ H fun us H2 => ∃ v k vs j, us = [v, .int k] ∧ H2 a = some (.lst vs) ∧ L2.ixN vs.length k = some j ∧ D.nx σ (upd H2 a (.lst (vs.set j v))) := by
            refine ⟨ρ, L, B, a0, h1, h2, ?_⟩
            cases e : eCons f (eCons fi eNil) ρ with
            | bad => rw [e] at h3; exact h3
            | exc x ρ1 => rw [e] at h3; exact fun cls d H' L' r x n f => h3 cls d σ H' L' r x n f
            | ok vals ρ1 =>
              rw [e] at h3
              intro us H1 L1 Lv r1 v1 nd1 f1
              split at h3
              · rename_i v k ρ2 he
                cases he
                cases v1 with
                | @cons _ va La _ _ _ v1 vr =>
                  cases vr with
                  | cons v2 vr =>
                    cases vr
                    cases v2 with
                    | imm fk =>
                      cases fk
                      cases g1 : ρ1.get i with
                      | un => rw [g1] at h3; exact h3.elim
                      | imm d => rw [g1] at h3; exact h3.elim
                      | ob => rw [g1] at h3; exact h3.elim
                      | own o =>
                        rw [g1] at h3
                        cases o with
                        | dk _ => exact h3.elim
                        | dt _ => exact h3.elim
                        | drw _ => exact h3.elim
                        | lst xs =>
                          simp only at h3
                          cases ev : vImm v with
                          | none => rw [ev] at h3; exact h3.elim
                          | some d =>
                            rw [ev] at h3
                            simp only at h3
                            split at h3
                            · rename_i hk
                              have fz := v1.fz ev keep_in fun z hz => apart h2 f1 nd1 z (by simp [hz])
                              obtain ⟨ov, Li, M, N, t1, t2, t3, back⟩ := (r1.weak keep_in).cut (Rho.get_un g1 (fun z => nomatch z))
                              rw [s1] at t1; cases t1
                              cases t2 with
                              | own ow =>
                                cases ow with
                                | @lst _ vs _ ha1 fx =>
                                  have haL : a ∈ L1 := by rw [t3]; simp
                                  have nd : L1.Nodup := (List.nodup_append.mp nd1).1
                                  have kk : Kp H1 (L1 ++ B) (upd H1 a (.lst (vs.set k.toNat va))) (L1 ++ B) := kp_upd ha1 True.intro (List.mem_append_left _ haL)
                                  have na : ∀ b ∈ M ++ N, b ≠ a := fun b hb z => by
                                    subst z
                                    rw [t3] at nd
                                    simp only [List.nodup_append, List.mem_append] at nd
                                    rcases List.mem_append.mp hb with hb | hb
                                    · exact nd.1.2.2 b hb b (by simp) rfl
                                    · exact nd.2.2 b (.inr (by simp)) b hb rfl
                                  have q := back (upd H1 a (.lst (vs.set k.toNat va))) (L1 ++ B) (.own (.lst (xs.set k.toNat d))) [a] (.own (.lst upd_same ((fx.set fz k.toNat).kp kk))) kk fun b hb => upd_ne (na b hb)
                                  rw [← t3] at q
                                  refine ⟨va, k, vs, k.toNat, rfl, ha1, ?_, ?_⟩
                                  · unfold L2.ixN; rw [if_pos hk.1, if_pos (by rw [← fx.length]; exact hk.2)]
                                  · refine h3 σ _ L1 q nd ?_
                                    have f1' : Fr H H1 L L1 := f1.sub fun a z => List.mem_append_left _ z
                                    exact f1'.trans (fr_upd ha1 True.intro haL)
                            · exact h3.elim
              · exact h3.elim
              · rename_i z; cases z
              · rename_i z; cases z
          refine (evs_cons key).mono fun v H1 q => ⟨.ref a, s1, (evs_cons q).mono fun k H2 q => ?_⟩
          obtain ⟨_, k', vs, j, e, q1, q2, q3⟩ := evs_nil q
          cases e
          exact ⟨a, vs, k', j, rfl, rfl, q1, q2, q3⟩
end FW

namespace FW
open PySem PySem.Spec PyProof.Rows L2

/-! ## what operations give, by data -/
section
variable {K : PySem.W.Frag} {H : Hp} {B : List Addr}
theorem RtL.one {d : D} {vs : List V} (h : RtL K H B [d] vs) : ∃ v, vs = [v] ∧ Rt K H B d v := by
  cases h with
  | cons h t => cases t; exact ⟨_, rfl, h⟩
theorem RtL.two {d e : D} {vs : List V} (h : RtL K H B [d, e] vs) : ∃ v w, vs = [v, w] ∧ Rt K H B d v ∧ Rt K H B e w := by
  cases h with
  | cons h t => cases t with
    | cons h' t => cases t; exact ⟨_, _, rfl, h, h'⟩
theorem RtL.three {d e f : D} {vs : List V} (h : RtL K H B [d, e, f] vs) : ∃ v w u, vs = [v, w, u] ∧ Rt K H B d v ∧ Rt K H B e w ∧ Rt K H B f u := by
  cases h with
  | cons h t => cases t with
    | cons h' t => cases t with
      | cons h'' t => cases t; exact ⟨_, _, _, rfl, h, h', h''⟩
theorem Rt.int {i : Int} {v : V} (h : Rt K H B (.int i) v) : v = .int i := by
  cases h with
  | fz h => cases h; rfl
theorem Rt.bl {i : Bool} {v : V} (h : Rt K H B (.bl i) v) : v = .bl i := by
  cases h with
  | fz h => cases h; rfl
theorem Rt.str {i : Str} {v : V} (h : Rt K H B (.str i) v) : v = .str i := by
  cases h with
  | fz h => cases h; rfl
theorem Rt.tup {xs : List D} {v : V} (h : Rt K H B (.tup xs) v) : ∃ a vs, v = .ref a ∧ SqT K H a vs ∧ FzL K H B xs vs := by
  cases h with
  | fz h => cases h with
    | tup a b => exact ⟨_, _, rfl, a, b⟩
theorem Rt.lst' {xs : List D} {v : V} (h : Rt K H B (.lst xs) v) : ∃ a vs, v = .ref a ∧ H a = some (.lst vs) ∧ FzL K H B xs vs := by
  cases h with
  | fz h => cases h with
    | lst _ a b => exact ⟨_, _, rfl, a, b⟩
  | lst a b => exact ⟨_, _, rfl, a, b⟩
theorem Rt.dk' {kvs : List (Key × D)} {v : V} (h : Rt K H B (.dk kvs) v) : ∃ a ws, v = .ref a ∧ H a = some (.dK ws) ∧ kvs.map (·.1) = ws.map (·.1) ∧ FzL K H B (kvs.map (·.2)) (ws.map (·.2)) := by
  cases h with
  | fz h => cases h with
    | dk _ a b c => exact ⟨_, _, rfl, a, b, c⟩
  | dk a b c => exact ⟨_, _, rfl, a, b, c⟩
theorem Rt.dt' {kvs : List (List Key × D)} {v : V} (h : Rt K H B (.dt kvs) v) : ∃ a ws, v = .ref a ∧ H a = some (.dT ws) ∧ kvs.map (·.1) = ws.map (·.1) ∧ FzL K H B (kvs.map (·.2)) (ws.map (·.2)) := by
  cases h with
  | fz h => cases h with
    | dt _ a b c => exact ⟨_, _, rfl, a, b, c⟩
  | dt a b c => exact ⟨_, _, rfl, a, b, c⟩
theorem Rt.scr' {ns : List Int} {v : V} (h : Rt K H B (.scr ns) v) : ∃ a, v = .ref a ∧ SqL K H a (ns.map V.int) := by
  cases h with
  | fz h => cases h with
    | scr a => exact ⟨_, rfl, a.sq⟩
end
/-- the answer: data or a new object at the same heap, or at a new place -/
abbrev Done (K : PySem.W.Frag) (H : Hp) (B : List Addr) (res : Val) (Q : VK) : Prop := ∀ v' H' Lv, VP K H' (Lv ++ B) res v' Lv → Ex H H' → Lv.Nodup → (∀ a ∈ Lv, H a = none) → Q v' H'
section
variable {K : PySem.W.Frag} {H : Hp} {B : List Addr} {Q : VK}
theorem Done.imm {d : D} {v : V} (h : Done K H B (.imm d) Q) (f : Fz K H B d v) : Q v H := h v H [] (.imm f) Ex.refl .nil (by simp)
theorem Done.tup {xs : List D} {vs : List V} (h : Done K H B (.imm (.tup xs)) Q) (f : FzL K H B xs vs) : ∀ p, H p = none → Q (.ref p) (upd H p (.tup vs)) := fun p np =>
  h (.ref p) _ [] (.imm (.tup (.inl (.inl upd_same)) (f.kp (Ex.upd np).kp0))) (Ex.upd np) .nil (by simp)
theorem Done.lst {xs : List D} {vs : List V} (h : Done K H B (.own (.lst xs)) Q) (f : FzL K H B xs vs) : ∀ p, H p = none → Q (.ref p) (upd H p (.lst vs)) := fun p np =>
  h (.ref p) _ [p] (.own (.lst upd_same (f.kp ((Ex.upd np).kp (by simpa using np))))) (Ex.upd np) (by simp) (by simpa using np)
end
def two (g : D → D → Option Val) : List D → Option Val := fun ds => match ds with | [d, e] => g d e | _ => none
def one (g : D → Option Val) : List D → Option Val := fun ds => match ds with | [d] => g d | _ => none
theorem pure1 {K : PySem.W.Frag} {r : V → Hp → VK → Prop} {g : D → Option Val} (h : ∀ (d : D) (v : V) (H : Hp) (B : List Addr) (Q : VK) (res : Val), Rt K H B d v → g d = some res → Done K H B res Q → r v H Q) :
    Pure K (r1' r) (one g) := fun ds vs H B Q res hr e q => by
  unfold one at e
  split at e
  · obtain ⟨v, rfl, h1⟩ := hr.one
    exact ⟨v, rfl, h _ _ _ _ _ _ h1 e q⟩
  · cases e
theorem pure2 {K : PySem.W.Frag} {r : R2} {g : D → D → Option Val} (h : ∀ (d e : D) (v w : V) (H : Hp) (B : List Addr) (Q : VK) (res : Val), Rt K H B d v → Rt K H B e w → g d e = some res → Done K H B res Q → r v w H Q) :
    Pure K (r2' r) (two g) := fun ds vs H B Q res hr e q => by
  unfold two at e
  split at e
  · obtain ⟨v, w, rfl, h1, h2⟩ := hr.two
    exact ⟨v, w, rfl, h _ _ _ _ _ _ _ _ h1 h2 e q⟩
  · cases e

/-! ### arithmetic -/
def aAdd : D → D → Option Val
  | .int i, .int j => some (.imm (.int (i + j)))
  | .tup xs, .tup ys => if xs.length + ys.length ≤ 16777216 then some (.imm (.tup (xs ++ ys))) else none
  | .lst xs, .lst ys => if xs.length + ys.length ≤ 16777216 then some (.own (.lst (xs ++ ys))) else none
  | .str x, .str y => if x.length + y.length ≤ 16777216 then some (.imm (.str (x ++ y))) else none
  | _, _ => none
def aSub : D → D → Option Val
  | .int i, .int j => some (.imm (.int (i - j)))
  | _, _ => none
noncomputable def small64 (i : Int) : Bool := @decide (-(2 ^ 64) < i ∧ i < 2 ^ 64) (Classical.propDecidable _)
noncomputable def aMul : D → D → Option Val
  | .int i, .int j => if (small64 i || small64 j) = true then some (.imm (.int (i * j))) else none
  | .tup xs, .int k => if -1000000 ≤ k ∧ k ≤ 1000 ∧ xs.length ≤ 1000 then some (.imm (.tup (List.replicate k.toNat xs).flatten)) else none
  | .lst xs, .int k => if -(2 ^ 63) ≤ k ∧ k < 2 ^ 63 ∧ xs.length * k.toNat ≤ 16777216 then some (.own (.lst (List.replicate k.toNat xs).flatten)) else none
  | _, _ => none
def aDiv : D → D → Option Val
  | .int i, .int j => if 0 < j ∧ j < 1073741824 then some (.imm (.int (i / j))) else none
  | _, _ => none
def aMod : D → D → Option Val
  | .int i, .int j => if 0 < j then some (.imm (.int (i % j))) else none
  | _, _ => none
def aPow : D → D → Option Val
  | .int i, .int j => if 0 ≤ j ∧ j ≤ 1000000 ∧ i.natAbs < 2 ^ 64 then some (.imm (.int (i ^ j.toNat))) else none
  | _, _ => none
def aNeg : D → Option Val
  | .int i => some (.imm (.int (-i)))
  | _ => none
def rAddAll (K : PySem.W.Frag) : R2 := fun x y H Q => rI0 (fun i j => .int (i + j)) x y H Q ∨ rCatA K x y H Q ∨ rCat x y H Q ∨ ∃ i j, x = .str i ∧ y = .str j ∧ i.length + j.length ≤ sizeLine ∧ Q (.str (i ++ j)) H
section
variable {X : Cx} {K : PySem.W.Frag}
theorem o_add : OpR X (binaryOp .Add) (rAddAll X.K) := OpR.or op_add (OpR.or op_catA (OpR.or op_cat op_add_str))
theorem FzL.ne_nil {H : Hp} {B : List Addr} {xs : List D} {vs : List V} (h : FzL K H B xs vs) : vs = [] ↔ xs = [] := by
  cases h <;> simp
theorem p_add : Pure K (r2' (rAddAll K)) (two aAdd) := pure2 fun d e v w H B Q res h1 h2 eq q => by
  unfold aAdd at eq
  split at eq
  · cases eq; cases h1.int; cases h2.int
    exact .inl ⟨_, _, rfl, rfl, q.imm (.int _)⟩
  · split at eq
    · cases eq
      rename_i xs ys hl
      obtain ⟨a, vs, rfl, s1, f1⟩ := h1.tup
      obtain ⟨b, ws, rfl, s2, f2⟩ := h2.tup
      refine .inr (.inl ⟨a, b, vs, ws, rfl, rfl, s1, s2, by rw [← f1.length, ← f2.length]; exact hl, fun z => ?_, fun _ z => ?_, fun _ _ => q.tup (f1.append f2)⟩)
      · rw [f1.ne_nil] at z; subst z; exact q.imm (by simpa using .tup s2 f2)
      · rw [f2.ne_nil] at z; subst z; exact q.imm (by simpa using .tup s1 f1)
    · cases eq
  · split at eq
    · cases eq
      rename_i xs ys hl
      obtain ⟨a, vs, rfl, s1, f1⟩ := h1.lst'
      obtain ⟨b, ws, rfl, s2, f2⟩ := h2.lst'
      exact .inr (.inr (.inl ⟨a, b, vs, ws, rfl, rfl, s1, s2, by rw [← f1.length, ← f2.length]; exact hl, q.lst (f1.append f2)⟩))
    · cases eq
  · split at eq
    · cases eq
      cases h1.str; cases h2.str
      exact .inr (.inr (.inr ⟨_, _, rfl, rfl, by assumption, q.imm (.str _)⟩))
    · cases eq
  · cases eq
theorem p_sub : Pure K (r2' (rI0 fun i j => .int (i - j))) (two aSub) := pure2 fun d e v w H B Q res h1 h2 eq q => by
  unfold aSub at eq
  split at eq
  · cases eq; cases h1.int; cases h2.int
    exact ⟨_, _, rfl, rfl, q.imm (.int _)⟩
  · cases eq
def rMulAll (K : PySem.W.Frag) : R2 := fun x y H Q => rI CMul (fun i j => .int (i * j)) x y H Q ∨ FX.rRepA K x y H Q ∨ rRep x y H Q
theorem o_mul : OpR X (binaryOp .Mult) (rMulAll X.K) := OpR.or op_mul (OpR.or FX.op_repA op_rep)
theorem small64_of {i : Int} (h : small64 i = true) : -(2 ^ 64) < i ∧ i < 2 ^ 64 := by
  exact @of_decide_eq_true _ (Classical.propDecidable _) h
theorem FzL.rep {H : Hp} {B : List Addr} {xs : List D} {vs : List V} (h : FzL K H B xs vs) : ∀ n : Nat, FzL K H B (List.replicate n xs).flatten (List.replicate n vs).flatten
  | 0 => .nil
  | n + 1 => by simp only [List.replicate_succ, List.flatten_cons]; exact h.append (FzL.rep h n)
theorem rep_nil {α : Type} (n : Nat) : (List.replicate n ([] : List α)).flatten = [] := by simp
theorem p_mul : Pure K (r2' (rMulAll K)) (two aMul) := pure2 fun d e v w H B Q res h1 h2 eq q => by
  unfold aMul at eq
  split at eq
  · split at eq
    · rename_i hs
      cases eq; cases h1.int; cases h2.int
      rw [Bool.or_eq_true] at hs
      exact .inl ⟨_, _, rfl, rfl, hs.imp small64_of small64_of, q.imm (.int _)⟩
    · cases eq
  · rename_i xs k
    split at eq
    · rename_i hk
      cases eq
      cases h2.int
      obtain ⟨a, vs, rfl, s1, f1⟩ := h1.tup
      refine .inr (.inl ⟨a, k, vs, rfl, rfl, s1, hk.1, hk.2.1, by rw [← f1.length]; exact hk.2.2, fun z => ?_, fun z h0 => ?_, fun _ _ => q.tup (f1.rep _)⟩)
      · rcases z with z | rfl
        · rw [f1.ne_nil] at z; subst z
          rw [rep_nil] at q
          exact q.imm (.tup s1 f1)
        · simp only [show (1 : Int).toNat = 1 from rfl, List.replicate_one, List.flatten_cons, List.flatten_nil, List.append_nil] at q
          exact q.imm (.tup s1 f1)
      · have e0 : k.toNat = 0 := by omega
        rw [e0] at q
        exact q.tup .nil
    · cases eq
  · rename_i xs k
    split at eq
    · rename_i hk
      cases eq
      cases h2.int
      obtain ⟨a, vs, rfl, s1, f1⟩ := h1.lst'
      exact .inr (.inr ⟨a, k, vs, rfl, rfl, s1, hk.1, hk.2.1, by rw [← f1.length]; exact hk.2.2, q.lst (f1.rep _)⟩)
    · cases eq
  · cases eq
theorem p_div : Pure K (r2' (rI CDiv fun i j => .int (i / j))) (two aDiv) := pure2 fun d e v w H B Q res h1 h2 eq q => by
  unfold aDiv at eq
  split at eq
  · split at eq
    · cases eq; cases h1.int; cases h2.int
      exact ⟨_, _, rfl, rfl, by assumption, q.imm (.int _)⟩
    · cases eq
  · cases eq
theorem p_mod : Pure K (r2' (rI (fun _ j => 0 < j) fun i j => .int (i % j))) (two aMod) := pure2 fun d e v w H B Q res h1 h2 eq q => by
  unfold aMod at eq
  split at eq
  · split at eq
    · cases eq; cases h1.int; cases h2.int
      exact ⟨_, _, rfl, rfl, by assumption, q.imm (.int _)⟩
    · cases eq
  · cases eq
theorem p_pow : Pure K (r2' (rI CPow fun i j => .int (i ^ j.toNat))) (two aPow) := pure2 fun d e v w H B Q res h1 h2 eq q => by
  unfold aPow at eq
  split at eq
  · split at eq
    · cases eq; cases h1.int; cases h2.int
      exact ⟨_, _, rfl, rfl, by assumption, q.imm (.int _)⟩
    · cases eq
  · cases eq
theorem p_neg : Pure K (r1' (rU fun i => .int (-i))) (one aNeg) := pure1 fun d v H B Q res h1 eq q => by
  unfold aNeg at eq
  split at eq
  · cases eq; cases h1.int
    exact ⟨_, rfl, q.imm (.int _)⟩
  · cases eq
end

/-! ### comparisons -/
def aLt : D → D → Option Val
  | .int i, .int j => some (.imm (.bl (decide (i < j))))
  | _, _ => none
def aLe : D → D → Option Val
  | .int i, .int j => some (.imm (.bl (decide (i ≤ j))))
  | _, _ => none
def aGt : D → D → Option Val
  | .int i, .int j => some (.imm (.bl (decide (j < i))))
  | _, _ => none
def aGe : D → D → Option Val
  | .int i, .int j => some (.imm (.bl (decide (j ≤ i))))
  | _, _ => none
mutual
def toPy : D → PyData
  | .non => .none
  | .bl b => .bool b
  | .int i => .int i
  | .str x => .str x
  | .tup xs => .tuple (toPys xs)
  | .lst xs => .list (toPys xs)
  | .dk _ => .dict []
  | .dt _ => .dict []
  | .scr _ => .dict []
def toPys : List D → List PyData
  | [] => []
  | d :: ds => toPy d :: toPys ds
end
def okD (d : D) : Bool := SeqAt.shaped (toPy d)
def dEq (d e : D) : Bool := PyData.eqv (toPy d) (toPy e)
def aEq : D → D → Option Val
  | .int i, .int j => some (.imm (.bl (decide (i = j))))
  | .str x, .str y => some (.imm (.bl (decide (x = y))))
  | d, e => if (okD d && okD e) = true then some (.imm (.bl (dEq d e))) else none
def aNe : D → D → Option Val
  | .int i, .int j => some (.imm (.bl (!decide (i = j))))
  | .str x, .str y => some (.imm (.bl (!decide (x = y))))
  | d, e => if (okD d && okD e) = true then some (.imm (.bl (!dEq d e))) else none
def aIs : D → D → Option Val
  | .bl a, .bl b => some (.imm (.bl (decide (a = b))))
  | .non, .non => some (.imm (.bl true))
  | .bl _, .non => some (.imm (.bl false))
  | .int _, .non => some (.imm (.bl false))
  | .str _, .non => some (.imm (.bl false))
  | .tup _, .non => some (.imm (.bl false))
  | .lst _, .non => some (.imm (.bl false))
  | .dk _, .non => some (.imm (.bl false))
  | _, _ => none
def aIsNot : D → D → Option Val := fun d e => match aIs d e with
  | some (.imm (.bl b)) => some (.imm (.bl (!b)))
  | _ => none
def flatD : D → Bool
  | .non | .bl _ | .int _ | .str _ => true
  | _ => false
def vD : D → V
  | .non => .non
  | .bl b => .bl b
  | .int i => .int i
  | .str x => .str x
  | _ => .non
def inD (d : D) (xs : List D) : Bool := xs.any fun y => eqV (vD y) (vD d)
def aIn : D → D → Option Val
  | d, .tup xs => if (flatD d && xs.all flatD) = true then some (.imm (.bl (inD d xs))) else none
  | d, .lst xs => if (flatD d && xs.all flatD) = true then some (.imm (.bl (inD d xs))) else none
  | _, _ => none
def aNotIn : D → D → Option Val := fun d e => match aIn d e with
  | some (.imm (.bl b)) => some (.imm (.bl (!b)))
  | _ => none
section
variable {X : Cx} {K : PySem.W.Frag} {H : Hp} {B : List Addr}
theorem p_lt : Pure K (r2' (rI0 fun i j => .bl (decide (i < j)))) (two aLt) := pure2 fun d e v w H B Q res h1 h2 eq q => by
  unfold aLt at eq
  split at eq
  · cases eq; cases h1.int; cases h2.int
    exact ⟨_, _, rfl, rfl, q.imm (.bl _)⟩
  · cases eq
theorem p_le : Pure K (r2' (rI0 fun i j => .bl (decide (i ≤ j)))) (two aLe) := pure2 fun d e v w H B Q res h1 h2 eq q => by
  unfold aLe at eq
  split at eq
  · cases eq; cases h1.int; cases h2.int
    exact ⟨_, _, rfl, rfl, q.imm (.bl _)⟩
  · cases eq
theorem p_gt : Pure K (r2' (rI0 fun i j => .bl (decide (j < i)))) (two aGt) := pure2 fun d e v w H B Q res h1 h2 eq q => by
  unfold aGt at eq
  split at eq
  · cases eq; cases h1.int; cases h2.int
    exact ⟨_, _, rfl, rfl, q.imm (.bl _)⟩
  · cases eq
theorem p_ge : Pure K (r2' (rI0 fun i j => .bl (decide (j ≤ i)))) (two aGe) := pure2 fun d e v w H B Q res h1 h2 eq q => by
  unfold aGe at eq
  split at eq
  · cases eq; cases h1.int; cases h2.int
    exact ⟨_, _, rfl, rfl, q.imm (.bl _)⟩
  · cases eq
mutual
theorem Fz.dp : ∀ {d : D} {v : V}, Fz K H B d v → (toPy d).canLay0 = true → Dp K H v (toPy d)
  | _, _, .non, _ => .non
  | _, _, .bl b, _ => .bl b
  | _, _, .int i, _ => .int i
  | _, _, .str x, _ => .str x
  | _, _, .tup h1 h2, c => .tup h1 (FzL.dp h2 (by simpa [toPy, PyData.canLay0] using c))
  | _, _, .lst h0 h1 h2, c => .lst (.inl (.inl h1)) (FzL.dp h2 (by simpa [toPy, PyData.canLay0] using c))
  | _, _, .dk _ _ _ _, c => by simp [toPy, PyData.canLay0] at c
  | _, _, .dt _ _ _ _, c => by simp [toPy, PyData.canLay0] at c
  | _, _, .scr _, c => by simp [toPy, PyData.canLay0] at c
theorem FzL.dp : ∀ {ds : List D} {vs : List V}, FzL K H B ds vs → PyData.canLayAll0 (toPys ds) = true → DpAll K H vs (toPys ds)
  | _, _, .nil, _ => .nil
  | _, _, .cons h1 h2, c => by
    simp only [toPys, PyData.canLayAll0, Bool.and_eq_true] at c
    exact .cons (Fz.dp h1 c.1) (FzL.dp h2 c.2)
end
theorem Rt.dp {d : D} {v : V} (h : Rt K H B d v) (c : okD d = true) : Dp K H v (toPy d) := by
  have c' := SeqAt.canLay_of_shaped c
  cases h with
  | fz h => exact h.dp c'
  | lst h1 h2 => exact .lst (.inl (.inl h1)) (h2.dp (by simpa [toPy, PyData.canLay0] using c'))
  | dk => simp [toPy, PyData.canLay0] at c'
  | dt => simp [toPy, PyData.canLay0] at c'
def rEqAll (K : PySem.W.Frag) : R2 := fun x y H Q => rEq x y H Q ∨ rEqD K x y H Q
def rNeAll (K : PySem.W.Frag) : R2 := fun x y H Q => rNe x y H Q ∨ rNeD K x y H Q
theorem o_eq {k : Nat} (hr : Room k X.A) : OpR X (compareOp .Eq) (rEqAll X.K) := OpR.or op_eq (op_eqD hr.units)
theorem o_ne {k : Nat} (hr : Room k X.A) : OpR X (compareOp .NotEq) (rNeAll X.K) := OpR.or op_ne (op_neD hr.units)
theorem p_eq : Pure K (r2' (rEqAll K)) (two aEq) := pure2 fun d e v w H B Q res h1 h2 eq q => by
  unfold aEq at eq
  split at eq
  · cases eq; cases h1.int; cases h2.int
    refine .inl ⟨rfl, ?_⟩
    rw [dec_int, Bool.beq_eq_decide_eq]
    exact q.imm (.bl _)
  · cases eq; cases h1.str; cases h2.str
    refine .inl ⟨rfl, ?_⟩
    rw [dec_str, Bool.beq_eq_decide_eq]
    exact q.imm (.bl _)
  · split at eq
    · rename_i c
      cases eq
      rw [Bool.and_eq_true] at c
      exact .inr ⟨_, _, h1.dp c.1, h2.dp c.2, c.1, c.2, q.imm (.bl _)⟩
    · cases eq
theorem p_ne : Pure K (r2' (rNeAll K)) (two aNe) := pure2 fun d e v w H B Q res h1 h2 eq q => by
  unfold aNe at eq
  split at eq
  · cases eq; cases h1.int; cases h2.int
    refine .inl ⟨rfl, ?_⟩
    rw [dec_int, Bool.beq_eq_decide_eq]
    exact q.imm (.bl _)
  · cases eq; cases h1.str; cases h2.str
    refine .inl ⟨rfl, ?_⟩
    rw [dec_str, Bool.beq_eq_decide_eq]
    exact q.imm (.bl _)
  · split at eq
    · rename_i c
      cases eq
      rw [Bool.and_eq_true] at c
      exact .inr ⟨_, _, h1.dp c.1, h2.dp c.2, c.1, c.2, q.imm (.bl _)⟩
    · cases eq
def rIsAll : R2 := fun x y H Q => (y = .non ∧ Q (.bl (decide (x = .non))) H) ∨ ∃ a b, x = .bl a ∧ y = .bl b ∧ Q (.bl (decide (a = b))) H
def rNotAll : R2 := fun x y H Q => (y = .non ∧ Q (.bl (!decide (x = .non))) H) ∨ ∃ a b, x = .bl a ∧ y = .bl b ∧ Q (.bl (!decide (a = b))) H
theorem o_is : OpR X (compareOp .Is) rIsAll := OpR.or op_isN op_is_bl
theorem o_isnot : OpR X (compareOp .IsNot) rNotAll := OpR.or op_notN op_isnot_bl
theorem Rt.non {v : V} (h : Rt K H B .non v) : v = .non := by
  cases h with
  | fz h => cases h; rfl
theorem aIs_ok {d e : D} {v w : V} {b : Bool} (h1 : Rt K H B d v) (h2 : Rt K H B e w) (eq : aIs d e = some (.imm (.bl b))) : (w = .non ∧ decide (v = .non) = b) ∨ ∃ i j, v = .bl i ∧ w = .bl j ∧ decide (i = j) = b := by
  unfold aIs at eq
  split at eq
  · cases eq; cases h1.bl; cases h2.bl; exact .inr ⟨_, _, rfl, rfl, rfl⟩
  · cases eq; cases h1.non; cases h2.non; exact .inl ⟨rfl, rfl⟩
  · cases eq; cases h1.bl; cases h2.non; exact .inl ⟨rfl, rfl⟩
  · cases eq; cases h1.int; cases h2.non; exact .inl ⟨rfl, rfl⟩
  · cases eq; cases h1.str; cases h2.non; exact .inl ⟨rfl, rfl⟩
  · cases eq; obtain ⟨a, vs, rfl, _⟩ := h1.tup; cases h2.non; exact .inl ⟨rfl, rfl⟩
  · cases eq; obtain ⟨a, vs, rfl, _⟩ := h1.lst'; cases h2.non; exact .inl ⟨rfl, rfl⟩
  · cases eq; obtain ⟨a, vs, rfl, _⟩ := h1.dk'; cases h2.non; exact .inl ⟨rfl, rfl⟩
  · cases eq
theorem aIs_bl {d e : D} {res : Val} (h : aIs d e = some res) : ∃ b, res = .imm (.bl b) := by
  unfold aIs at h
  split at h <;> first | (cases h; exact ⟨_, rfl⟩) | cases h
theorem p_is : Pure K (r2' rIsAll) (two aIs) := pure2 fun d e v w H B Q res h1 h2 eq q => by
  obtain ⟨b, rfl⟩ := aIs_bl eq
  rcases aIs_ok h1 h2 eq with ⟨e1, e2⟩ | ⟨i, j, e1, e2, e3⟩
  · exact .inl ⟨e1, by rw [e2]; exact q.imm (.bl _)⟩
  · exact .inr ⟨i, j, e1, e2, by rw [e3]; exact q.imm (.bl _)⟩
theorem p_isnot : Pure K (r2' rNotAll) (two aIsNot) := pure2 fun d e v w H B Q res h1 h2 eq q => by
  unfold aIsNot at eq
  split at eq
  · rename_i b hb
    cases eq
    rcases aIs_ok h1 h2 hb with ⟨e1, e2⟩ | ⟨i, j, e1, e2, e3⟩
    · exact .inl ⟨e1, by rw [e2]; exact q.imm (.bl _)⟩
    · exact .inr ⟨i, j, e1, e2, by rw [e3]; exact q.imm (.bl _)⟩
  · cases eq
theorem Fz.flat {d : D} {v : V} (h : Fz K H B d v) (f : flatD d = true) : v = vD d ∧ flatV v = true := by
  cases h <;> first | exact ⟨rfl, rfl⟩ | cases f
theorem Rt.flat {d : D} {v : V} (h : Rt K H B d v) (f : flatD d = true) : v = vD d ∧ flatV v = true := by
  cases h with
  | fz h => exact h.flat f
  | _ => cases f
theorem FzL.flat : ∀ {ds : List D} {vs : List V}, FzL K H B ds vs → ds.all flatD = true → vs = ds.map vD ∧ vs.all flatV = true
  | _, _, .nil, _ => ⟨rfl, rfl⟩
  | _, _, .cons h t, f => by
    simp only [List.all_cons, Bool.and_eq_true] at f
    obtain ⟨a, b⟩ := h.flat f.1
    obtain ⟨c, d⟩ := FzL.flat t f.2
    exact ⟨by rw [a, c]; rfl, by simp only [List.all_cons, Bool.and_eq_true]; exact ⟨b, d⟩⟩
theorem inV_inD {d : D} {xs : List D} : inV (vD d) (xs.map vD) = inD d xs := by
  unfold inV inD
  rw [List.any_map]; rfl
theorem in_ok {d e : D} {v w : V} {b : Bool} (h1 : Rt K H B d v) (h2 : Rt K H B e w) (eq : aIn d e = some (.imm (.bl b))) : ∃ p xs, w = .ref p ∧ (SqL K H p xs ∨ SqT K H p xs) ∧ flatV v = true ∧ xs.all flatV = true ∧ inV v xs = b := by
  unfold aIn at eq
  split at eq
  · split at eq
    · rename_i c
      rw [Bool.and_eq_true] at c
      cases eq
      obtain ⟨a, vs, rfl, s, f⟩ := h2.tup
      obtain ⟨e1, e2⟩ := h1.flat c.1
      obtain ⟨e3, e4⟩ := f.flat c.2
      exact ⟨a, vs, rfl, .inr s, e2, e4, by rw [e1, e3]; exact inV_inD⟩
    · cases eq
  · split at eq
    · rename_i c
      rw [Bool.and_eq_true] at c
      cases eq
      obtain ⟨a, vs, rfl, s, f⟩ := h2.lst'
      obtain ⟨e1, e2⟩ := h1.flat c.1
      obtain ⟨e3, e4⟩ := f.flat c.2
      exact ⟨a, vs, rfl, .inl (.inl (.inl s)), e2, e4, by rw [e1, e3]; exact inV_inD⟩
    · cases eq
  · cases eq
theorem aIn_bl {d e : D} {res : Val} (h : aIn d e = some res) : ∃ b, res = .imm (.bl b) := by
  unfold aIn at h
  split at h
  · split at h
    · cases h; exact ⟨_, rfl⟩
    · cases h
  · split at h
    · cases h; exact ⟨_, rfl⟩
    · cases h
  · cases h
theorem p_in : Pure K (r2' (rIn K false)) (two aIn) := pure2 fun d e v w H B Q res h1 h2 eq q => by
  obtain ⟨b, rfl⟩ := aIn_bl eq
  obtain ⟨p, xs, a1, a2, a3, a4, a5⟩ := in_ok h1 h2 eq
  exact ⟨p, xs, a1, a2, a3, a4, by rw [if_neg Bool.false_ne_true, a5]; exact q.imm (.bl _)⟩
theorem p_notin : Pure K (r2' (rIn K true)) (two aNotIn) := pure2 fun d e v w H B Q res h1 h2 eq q => by
  unfold aNotIn at eq
  split at eq
  · rename_i b hb
    cases eq
    obtain ⟨p, xs, a1, a2, a3, a4, a5⟩ := in_ok h1 h2 hb
    exact ⟨p, xs, a1, a2, a3, a4, by rw [if_pos rfl, a5]; exact q.imm (.bl _)⟩
  · cases eq
end
end FW

namespace FW
open PySem PySem.Spec PyProof.Rows L2

/-! ## subscripts and slices -/
def aIx : D → D → Option Val
  | .tup xs, .int i => (L2.atI xs i).map .imm
  | .lst xs, .int i => (L2.atI xs i).map .imm
  | _, _ => none
section
variable {X : Cx} {W : WX} {K : PySem.W.Frag} {H : Hp} {B : List Addr}
theorem FzL.atI {xs : List D} {vs : List V} {i : Int} {d : D} (h : FzL K H B xs vs) (e : L2.atI xs i = some d) : ∃ v, L2.atI vs i = some v ∧ Fz K H B d v := by
  unfold L2.atI at e ⊢
  rw [h.length] at e
  cases e1 : L2.ixN vs.length i with
  | none => rw [e1] at e; cases e
  | some j =>
    rw [e1] at e
    exact h.get e
theorem p_ix : Pure K (r2' (rIx K)) (two aIx) := pure2 fun d e v w H B Q res h1 h2 eq q => by
  unfold aIx at eq
  split at eq
  · rename_i xs i
    cases e1 : L2.atI xs i with
    | none => rw [e1] at eq; cases eq
    | some d =>
      rw [e1] at eq; cases eq
      cases h2.int
      obtain ⟨a, vs, rfl, s, f⟩ := h1.tup
      obtain ⟨u, g1, g2⟩ := f.atI e1
      exact .inr (.inl ⟨a, vs, i, u, rfl, rfl, s, g1, q.imm g2⟩)
  · rename_i xs i
    cases e1 : L2.atI xs i with
    | none => rw [e1] at eq; cases eq
    | some d =>
      rw [e1] at eq; cases eq
      cases h2.int
      obtain ⟨a, vs, rfl, s, f⟩ := h1.lst'
      obtain ⟨u, g1, g2⟩ := f.atI e1
      exact .inl ⟨a, vs, i, u, rfl, rfl, .inl (.inl s), g1, q.imm g2⟩
  · cases eq
def cutD (xs : List D) (lo hi : Option Int) : List D := (xs.drop (HT.sIx xs.length 0 lo)).take (HT.sIx xs.length xs.length hi - HT.sIx xs.length 0 lo)
def aSl (d : D) (lo hi : Option Int) : Option Val := match d with
  | .tup xs => some (.imm (.tup (cutD xs lo hi)))
  | .lst xs => some (.own (.lst (cutD xs lo hi)))
  | _ => none
theorem FzL.cut {xs : List D} {vs : List V} (h : FzL K H B xs vs) (lo hi : Option Int) : FzL K H B (cutD xs lo hi) (cutV vs lo hi) := by
  unfold cutD cutV
  rw [h.length]
  exact (h.drop _).take _
def rSlAll (K : PySem.W.Frag) : V → Option Int → Option Int → Hp → VK → Prop := fun x lo hi H Q => rSlA K x lo hi H Q ∨ rSlL K x lo hi H Q
theorem o_sl : _root_.L2.SlR X (rSlAll X.K) := _root_.L2.SlR.or sl_tupA sl_list
theorem p_sl {d : D} {v : V} {lo hi : Option Int} {Q : VK} {res : Val} (h : Rt K H B d v) (e : aSl d lo hi = some res) (q : Done K H B res Q) : rSlAll K v lo hi H Q := by
  unfold aSl at e
  split at e
  · rename_i xs
    cases e
    obtain ⟨a, vs, rfl, s, f⟩ := h.tup
    refine .inl ⟨a, vs, rfl, s, fun z => ?_, fun _ => q.tup (f.cut lo hi)⟩
    have e : cutD xs lo hi = xs := by
      unfold cutD
      rw [f.length, z.1, z.2]
      simp [← f.length]
    rw [e] at q
    exact q.imm (.tup s f)
  · cases e
    obtain ⟨a, vs, rfl, s, f⟩ := h.lst'
    exact .inr ⟨a, vs, rfl, .inl (.inl s), q.lst (f.cut lo hi)⟩
  · cases e
def eSl00 (f : EE) : EE := eOp (one fun d => aSl d none none) (eCons f eNil)
def eSl10 (f l : EE) : EE := eOp (two fun d l => match l with | .int i => aSl d (some i) none | _ => none) (eCons f (eCons l eNil))
def eSl01 (f h : EE) : EE := eOp (two fun d h => match h with | .int j => aSl d none (some j) | _ => none) (eCons f (eCons h eNil))
def three (g : D → D → D → Option Val) : List D → Option Val := fun ds => match ds with | [d, e, f] => g d e f | _ => none
def eConsI (f : EE) (g : EEs) : EEs := fun ρ => (f ρ).bind fun a ρ1 => match a with
  | .imm (.int i) => (g ρ1).bind fun as ρ2 => .ok (.imm (.int i) :: as) ρ2
  | _ => .bad
theorem evsI_cons {K : PySem.W.Frag} {mg : Str → Option Value} {σ : L2.St} {H : Hp} {f : EE} {g : EEs} {Q : List V → Hp → Prop} (h : tEvs K mg W (eConsI f g) σ H Q) : tEv K mg W f σ H fun x H1 => ∃ i, x = .int i ∧ tEvs K mg W g σ H1 fun xs H2 => Q (x :: xs) H2 := by
  obtain ⟨ρ, L, B, a0, h1, h2, h3⟩ := h
  refine ⟨ρ, L, B, a0, h1, h2, ?_⟩
  unfold eConsI at h3
  cases e : f ρ with
  | bad => rw [e] at h3; exact h3
  | exc x ρ1 => rw [e] at h3; exact h3
  | ok v ρ1 =>
    rw [e] at h3
    intro x H1 L1 Lv r1 v1 nd1 f1
    simp only [R.bind] at h3
    cases v1 with
    | own _ => exact h3.elim
    | bor _ => exact h3.elim
    | ob => exact h3.elim
    | imm fz =>
      cases fz with
      | int i =>
        rw [app_nil3] at r1
        rw [List.append_nil] at nd1 f1
        refine ⟨i, rfl, ρ1, L1, B, a0, r1, h2.next f1 nd1, ?_⟩
        simp only at h3
        cases e2 : g ρ1 with
        | bad => rw [e2] at h3; exact h3
        | exc x ρ2 => rw [e2] at h3; exact fun cls d H2 L2 r2 x2 nd2 f2 => h3 cls d H2 L2 r2 x2 nd2 (f1.trans f2)
        | ok as ρ2 =>
          rw [e2] at h3
          exact fun vs H2 L2 Lv2 r2 v2 nd2 f2 => h3 _ H2 L2 Lv2 r2 (.cons (L := []) (.imm (.int i)) v2) nd2 (f1.trans f2)
      | _ => exact h3.elim
def eSl11 (f l h : EE) : EE := eOp (three fun d l h => match l, h with | .int i, .int j => aSl d (some i) (some j) | _, _ => none) (eCons f (eConsI l (eConsI h eNil)))
variable {e l h : Expr} {p2 pos : Pos} {f fl fh : EE}
theorem v_sl00 (he : PE X e (Cx.ev X W f)) : PE X (.Subscript e (.Slice none none none p2) pos) (Cx.ev X W (eSl00 f)) := (pe_slice o_sl he po_none po_none).imp fun σ H Q q => by
  refine ev_e1 (r := fun x H Q => rSlAll X.K x none none H Q) ?_ q
  exact pure1 fun d v H B Q res h1 eq q => p_sl h1 eq q
theorem v_sl10 (he : PE X e (Cx.ev X W f)) (hl : PE X l (Cx.ev X W fl)) : PE X (.Subscript e (.Slice (some l) none none p2) pos) (Cx.ev X W (eSl10 f fl)) := (pe_slice o_sl he (po_some hl) po_none).imp fun σ H Q q => by
  refine ev_e2 (r := fun x y H Q => ∃ i, y = .int i ∧ rSlAll X.K x (some i) none H Q) ?_ q
  refine pure2 fun d e v w H B Q res h1 h2 eq q => ?_
  split at eq
  · cases h2.int; exact ⟨_, rfl, p_sl h1 eq q⟩
  · cases eq
theorem v_sl01 (he : PE X e (Cx.ev X W f)) (hh : PE X h (Cx.ev X W fh)) : PE X (.Subscript e (.Slice none (some h) none p2) pos) (Cx.ev X W (eSl01 f fh)) := (pe_slice o_sl he po_none (po_some hh)).imp fun σ H Q q => by
  refine ev_e2 (r := fun x y H Q => ∃ i, y = .int i ∧ rSlAll X.K x none (some i) H Q) ?_ q
  refine pure2 fun d e v w H B Q res h1 h2 eq q => ?_
  split at eq
  · cases h2.int; exact ⟨_, rfl, p_sl h1 eq q⟩
  · cases eq
theorem v_sl11 (he : PE X e (Cx.ev X W f)) (hl : PE X l (Cx.ev X W fl)) (hh : PE X h (Cx.ev X W fh)) : PE X (.Subscript e (.Slice (some l) (some h) none p2) pos) (Cx.ev X W (eSl11 f fl fh)) := (pe_slice o_sl he (po_some hl) (po_some hh)).imp fun σ H Q q => by
  have p : Pure X.K (fun vs H Q => ∃ x y z, vs = [x, y, z] ∧ ∃ i, y = .int i ∧ ∃ j, z = .int j ∧ rSlAll X.K x (some i) (some j) H Q) (three fun d l h => match l, h with | .int i, .int j => aSl d (some i) (some j) | _, _ => none) := fun ds vs H B Q res hr e q => by
    unfold three at e
    split at e
    · obtain ⟨v, w, u, rfl, h1, h2, h3⟩ := hr.three
      dsimp only at e
      split at e
      · cases h2.int; cases h3.int
        exact ⟨_, _, _, rfl, _, rfl, _, rfl, p_sl h1 e q⟩
      · cases e
    · cases e
  refine (evs_cons (ev_op p q)).mono fun x H1 q => (evsI_cons q).mono fun y H2 ⟨i, ey, q⟩ => ⟨i, ey, (evsI_cons q).mono fun z H3 ⟨j, ez, q⟩ => ⟨j, ez, ?_⟩⟩
  obtain ⟨_, _, _, e, i', e1, j', e2, q⟩ := evs_nil q
  cases e
  rw [ey] at e1; cases e1
  rw [ez] at e2; cases e2
  exact q
def aRev : D → Option Val
  | .tup xs => some (.imm (.tup xs.reverse))
  | .lst xs => some (.own (.lst xs.reverse))
  | _ => none
def eRev (f : EE) : EE := e1 (one aRev) f
theorem v_rev {k : Nat} {p1 p2 p3 : Pos} (he : PE X e (Cx.ev X W f)) : PE X (.Subscript e (.Slice none none (some (.UnaryOp .USub (.Constant (.int 1) k p1) p2)) p3) pos) (Cx.ev X W (eRev f)) := (FX.pe_revA he).imp fun σ H Q q => by
  refine ev_e1 (r := fun x H1 Q => ∃ a xs, x = .ref a ∧ ((SqT X.K H1 a xs ∧ ∀ p, H1 p = none → Q (.ref p) (upd H1 p (.tup xs.reverse))) ∨ (SqL X.K H1 a xs ∧ ∀ p, H1 p = none → Q (.ref p) (upd H1 p (.lst xs.reverse))))) ?_ q
  refine pure1 fun d v H B Q res h1 eq q => ?_
  unfold aRev at eq
  split at eq
  · cases eq
    obtain ⟨a, vs, rfl, s, f⟩ := h1.tup
    exact ⟨a, vs, rfl, .inl ⟨s, q.tup f.reverse⟩⟩
  · cases eq
    obtain ⟨a, vs, rfl, s, f⟩ := h1.lst'
    exact ⟨a, vs, rfl, .inr ⟨.inl (.inl s), q.lst f.reverse⟩⟩
  · cases eq
end

/-! ## built-ins -/
def aLen : D → Option Val
  | .tup xs => some (.imm (.int xs.length))
  | .lst xs => some (.imm (.int xs.length))
  | .scr ns => some (.imm (.int ns.length))
  | .dk kvs => some (.imm (.int kvs.length))
  | .dt kvs => some (.imm (.int kvs.length))
  | .str z => if z.length ≤ 16777216 then some (.imm (.int z.length)) else none
  | _ => none
def aTuple : D → Option Val
  | .tup xs => some (.imm (.tup xs))
  | .lst xs => some (.imm (.tup xs))
  | _ => none
def aList : D → Option Val
  | .tup xs => some (.own (.lst xs))
  | .lst xs => some (.own (.lst xs))
  | .scr ns => some (.own (.lst (ns.map .int)))
  | _ => none
def blsD : List D → Option (List Bool)
  | [] => some []
  | .bl b :: r => (blsD r).map (b :: ·)
  | _ => none
def intsD : List D → Option (List Int)
  | [] => some []
  | .int b :: r => (intsD r).map (b :: ·)
  | _ => none
def aAll : D → Option Val
  | .lst xs => (blsD xs).map fun bs => .imm (.bl (bs.all id))
  | _ => none
def aAny : D → Option Val
  | .lst xs => (blsD xs).map fun bs => .imm (.bl (bs.any id))
  | _ => none
def aSum : D → Option Val
  | .lst xs => (intsD xs).map fun bs => .imm (.int bs.sum)
  | _ => none
def aAbs : D → Option Val
  | .int i => some (.imm (.int (if i < 0 then -i else i)))
  | _ => none
def aInt : D → Option Val
  | .int i => some (.imm (.int i))
  | .bl k => some (.imm (.int (if k then 1 else 0)))
  | _ => none
def aMin2 : D → D → Option Val
  | .int i, .int j => some (.imm (.int (if j < i then j else i)))
  | _, _ => none
def aMax2 : D → D → Option Val
  | .int i, .int j => some (.imm (.int (if j > i then j else i)))
  | _, _ => none
section
variable {X : Cx} {K : PySem.W.Frag} {H : Hp} {B : List Addr}
theorem pureL1 {r : List V → Hp → VK → Prop} {g : D → Option Val} (h : ∀ (d : D) (v : V) (H : Hp) (B : List Addr) (Q : VK) (res : Val), Rt K H B d v → g d = some res → Done K H B res Q → r [v] H Q) :
    Pure K r (one g) := fun ds vs H B Q res hr e q => by
  unfold one at e
  split at e
  · obtain ⟨v, rfl, h1⟩ := hr.one
    exact h _ _ _ _ _ _ h1 e q
  · cases e
theorem pureL2 {r : List V → Hp → VK → Prop} {g : D → D → Option Val} (h : ∀ (d e : D) (v w : V) (H : Hp) (B : List Addr) (Q : VK) (res : Val), Rt K H B d v → Rt K H B e w → g d e = some res → Done K H B res Q → r [v, w] H Q) :
    Pure K r (two g) := fun ds vs H B Q res hr e q => by
  unfold two at e
  split at e
  · obtain ⟨v, w, rfl, h1, h2⟩ := hr.two
    exact h _ _ _ _ _ _ _ _ h1 h2 e q
  · cases e
def rLenAll (K : PySem.W.Frag) : List V → Hp → VK → Prop := fun xs H Q => (∃ p ys, xs = [.ref p] ∧ (SqL K H p ys ∨ SqT K H p ys) ∧ Q (.int ys.length) H) ∨ (∃ z, xs = [.str z] ∧ z.length ≤ sizeLine ∧ Q (.int z.length) H) ∨
  (∃ a kvs, xs = [V.ref a] ∧ H a = some (.dK kvs) ∧ Q (.int kvs.length) H) ∨ rLenT xs H Q
theorem c_len : CallR X (.builtin "len") (rLenAll X.K) := CallR.or call_len_seq (CallR.or call_len_str (CallR.or call_lenD call_len_dT))
theorem p_len : Pure K (rLenAll K) (one aLen) := pureL1 fun d v H B Q res h1 eq q => by
  unfold aLen at eq
  split at eq
  · cases eq
    obtain ⟨a, vs, rfl, s, f⟩ := h1.tup
    exact .inl ⟨a, vs, rfl, .inr s, by rw [← f.length]; exact q.imm (.int _)⟩
  · cases eq
    obtain ⟨a, vs, rfl, s, f⟩ := h1.lst'
    exact .inl ⟨a, vs, rfl, .inl (.inl (.inl s)), by rw [← f.length]; exact q.imm (.int _)⟩
  · cases eq
    obtain ⟨a, rfl, s⟩ := h1.scr'
    exact .inl ⟨a, _, rfl, .inl s, by rw [List.length_map]; exact q.imm (.int _)⟩
  · cases eq
    obtain ⟨a, ws, rfl, s, e, _⟩ := h1.dk'
    have e := congrArg List.length e
    rw [List.length_map, List.length_map] at e
    exact .inr (.inr (.inl ⟨a, ws, rfl, s, by rw [← e]; exact q.imm (.int _)⟩))
  · cases eq
    obtain ⟨a, ws, rfl, s, e, _⟩ := h1.dt'
    have e := congrArg List.length e
    rw [List.length_map, List.length_map] at e
    exact .inr (.inr (.inr ⟨a, ws, rfl, s, by rw [← e]; exact q.imm (.int _)⟩))
  · split at eq
    · cases eq
      cases h1.str
      exact .inr (.inl ⟨_, rfl, by assumption, q.imm (.int _)⟩)
    · cases eq
  · cases eq
theorem p_tuple : Pure K (fun xs H Q => ∃ p ys, xs = [.ref p] ∧ ((SqL K H p ys ∧ ∀ l, H l = none → Q (.ref l) (upd H l (.tup ys))) ∨ (SqT K H p ys ∧ Q (.ref p) H))) (one aTuple) := pureL1 fun d v H B Q res h1 eq q => by
  unfold aTuple at eq
  split at eq
  · cases eq
    obtain ⟨a, vs, rfl, s, f⟩ := h1.tup
    exact ⟨a, vs, rfl, .inr ⟨s, q.imm (.tup s f)⟩⟩
  · cases eq
    obtain ⟨a, vs, rfl, s, f⟩ := h1.lst'
    exact ⟨a, vs, rfl, .inl ⟨.inl (.inl s), q.tup f⟩⟩
  · cases eq
theorem p_list : Pure K (fun xs H Q => ∃ p ys, xs = [.ref p] ∧ (SqL K H p ys ∨ SqT K H p ys) ∧ ∀ l, H l = none → Q (.ref l) (upd H l (.lst ys))) (one aList) := pureL1 fun d v H B Q res h1 eq q => by
  unfold aList at eq
  split at eq
  · cases eq
    obtain ⟨a, vs, rfl, s, f⟩ := h1.tup
    exact ⟨a, vs, rfl, .inr s, q.lst f⟩
  · cases eq
    obtain ⟨a, vs, rfl, s, f⟩ := h1.lst'
    exact ⟨a, vs, rfl, .inl (.inl (.inl s)), q.lst f⟩
  · cases eq
    obtain ⟨a, rfl, s⟩ := h1.scr'
    exact ⟨a, _, rfl, .inl s, q.lst (FzL.ints _)⟩
  · cases eq
theorem FzL.bls : ∀ {ds : List D} {vs : List V} {bs : List Bool}, FzL K H B ds vs → blsD ds = some bs → vs = bs.map V.bl
  | _, _, _, .nil, e => by cases e; rfl
  | _, _, bs, .cons h t, e => by
    cases h with
    | bl b =>
      simp only [blsD] at e
      rename_i ds vs
      cases e1 : blsD ds with
      | none => rw [e1] at e; cases e
      | some cs => rw [e1] at e; cases e; rw [FzL.bls t e1]; rfl
    | _ => simp [blsD] at e
theorem FzL.intsOf : ∀ {ds : List D} {vs : List V} {bs : List Int}, FzL K H B ds vs → intsD ds = some bs → vs = bs.map V.int
  | _, _, _, .nil, e => by cases e; rfl
  | _, _, bs, .cons h t, e => by
    cases h with
    | int b =>
      simp only [intsD] at e
      rename_i ds vs
      cases e1 : intsD ds with
      | none => rw [e1] at e; cases e
      | some cs => rw [e1] at e; cases e; rw [FzL.intsOf t e1]; rfl
    | _ => simp [intsD] at e
theorem p_all : Pure K (rAll K) (one aAll) := pureL1 fun d v H B Q res h1 eq q => by
  unfold aAll at eq
  split at eq
  · rename_i xs
    cases e : blsD xs with
    | none => rw [e] at eq; cases eq
    | some bs =>
      rw [e] at eq; cases eq
      obtain ⟨a, vs, rfl, s, f⟩ := h1.lst'
      exact ⟨a, bs, rfl, by rw [← f.bls e]; exact .inl (.inl s), q.imm (.bl _)⟩
  · cases eq
theorem p_any : Pure K (rAny K) (one aAny) := pureL1 fun d v H B Q res h1 eq q => by
  unfold aAny at eq
  split at eq
  · rename_i xs
    cases e : blsD xs with
    | none => rw [e] at eq; cases eq
    | some bs =>
      rw [e] at eq; cases eq
      obtain ⟨a, vs, rfl, s, f⟩ := h1.lst'
      exact ⟨a, bs, rfl, by rw [← f.bls e]; exact .inl (.inl s), q.imm (.bl _)⟩
  · cases eq
theorem p_sum : Pure K (rSum K) (one aSum) := pureL1 fun d v H B Q res h1 eq q => by
  unfold aSum at eq
  split at eq
  · rename_i xs
    cases e : intsD xs with
    | none => rw [e] at eq; cases eq
    | some bs =>
      rw [e] at eq; cases eq
      obtain ⟨a, vs, rfl, s, f⟩ := h1.lst'
      exact ⟨a, bs, rfl, by rw [← f.intsOf e]; exact .inl (.inl s), q.imm (.int _)⟩
  · cases eq
theorem p_abs : Pure K (fun xs H Q => ∃ i, xs = [.int i] ∧ Q (.int (if i < 0 then -i else i)) H) (one aAbs) := pureL1 fun d v H B Q res h1 eq q => by
  unfold aAbs at eq
  split at eq
  · cases eq; cases h1.int; exact ⟨_, rfl, q.imm (.int _)⟩
  · cases eq
theorem p_int : Pure K (fun xs H Q => (∃ i, xs = [.int i] ∧ Q (.int i) H) ∨ ∃ k, xs = [.bl k] ∧ Q (.int (if k then 1 else 0)) H) (one aInt) := pureL1 fun d v H B Q res h1 eq q => by
  unfold aInt at eq
  split at eq
  · cases eq; cases h1.int; exact .inl ⟨_, rfl, q.imm (.int _)⟩
  · cases eq; cases h1.bl; exact .inr ⟨_, rfl, q.imm (.int _)⟩
  · cases eq
theorem p_min2 : Pure K (fun xs H Q => ∃ i j, xs = [.int i, .int j] ∧ Q (.int (if j < i then j else i)) H) (two aMin2) := pureL2 fun d e v w H B Q res h1 h2 eq q => by
  unfold aMin2 at eq
  split at eq
  · cases eq; cases h1.int; cases h2.int; exact ⟨_, _, rfl, q.imm (.int _)⟩
  · cases eq
theorem p_max2 : Pure K (fun xs H Q => ∃ i j, xs = [.int i, .int j] ∧ Q (.int (if j > i then j else i)) H) (two aMax2) := pureL2 fun d e v w H B Q res h1 h2 eq q => by
  unfold aMax2 at eq
  split at eq
  · cases eq; cases h1.int; cases h2.int; exact ⟨_, _, rfl, q.imm (.int _)⟩
  · cases eq
end

/-! ## isinstance against built-in classes -/
def tyD : D → String
  | .non => "NoneType" | .bl _ => "bool" | .int _ => "int" | .str _ => "str" | .tup _ => "tuple" | .lst _ => "list" | .dk _ => "dict" | .dt _ => "dict" | .scr _ => "list"
inductive Ty6 where
  | tuple | int | bool | str | list | dict
def Ty6.nm : Ty6 → String
  | tuple => "tuple" | int => "int" | bool => "bool" | str => "str" | list => "list" | dict => "dict"
def isD : Ty6 → D → Bool
  | .tuple, .tup _ => true
  | .int, .int _ => true
  | .int, .bl _ => true
  | .bool, .bl _ => true
  | .str, .str _ => true
  | .list, .lst _ => true
  | .list, .scr _ => true
  | .dict, .dk _ => true
  | .dict, .dt _ => true
  | _, _ => false
def aIsi (T : Ty6) : D → Option Val := fun d => some (.imm (.bl (isD T d)))
theorem isD_kit (T : Ty6) (d : D) : kitB (tyD d) T.nm = some (isD T d) := by
  have t : ∀ n ∈ ["NoneType", "bool", "int", "str", "tuple", "list", "dict"], ∀ m ∈ ["tuple", "int", "bool", "str", "list", "dict"], kitB n m = some (decide (n = m) || (n == "bool" && m == "int")) := by decide +kernel
  have a : tyD d ∈ ["NoneType", "bool", "int", "str", "tuple", "list", "dict"] := by cases d <;> simp [tyD]
  have b : T.nm ∈ ["tuple", "int", "bool", "str", "list", "dict"] := by cases T <;> simp [Ty6.nm]
  rw [t _ a _ b]
  congr 1
  cases T <;> cases d <;> simp [tyD, Ty6.nm, isD]
section
variable {X : Cx} {W : WX} {K : PySem.W.Frag} {H : Hp} {B : List Addr}
theorem Rt.ty {d : D} {v : V} (h : Rt K H B d v) : TyX K H v (.type (tyD d)) := by
  cases h with
  | lst a _ => exact .base (.lst a)
  | dk a _ _ => exact .base (.dK a)
  | dt a _ _ => exact .base (.dT a)
  | fz h =>
    cases h with
    | non => exact .base .non
    | bl b => exact .base (.bl b)
    | int b => exact .base (.int b)
    | str b => exact .base (.str b)
    | lst _ a _ => exact .base (.lst a)
    | dk _ a _ _ => exact .base (.dK a)
    | dt _ a _ _ => exact .base (.dT a)
    | tup s _ =>
      rcases s with (s | ⟨o, s⟩) | ⟨o, its, n, a, b, _⟩
      · exact .base (.tup s)
      · exact .fTuple s
      · exact .kTuple a b
    | scr s =>
      rcases s with ⟨o, s⟩ | ⟨o, its, n, a, b, _⟩
      · exact .base (.frz s)
      · exact .kList a b
theorem v_isi (T : Ty6) {e : Expr} {f : EE} {pp p2 pos : Pos} {y : Str} (he : PE X e (Cx.ev X W f)) (hg : Gl X "isinstance") (hm : X.mg "isinstance" = none) (hv : bootBuiltins "isinstance" = some (.builtin "isinstance")) (hg2 : Gl X y) (hm2 : X.mg y = none) (hv2 : bootBuiltins y = some (.type T.nm))
    (hn : y ≠ "__name__" := by decide) (hd : (y == ("__debug__" : Str)) = false := by decide)
    (hs : starEach [e, .Name y p2] X.env = (false, eval e X.env) :: starEach [.Name y p2] X.env := by rfl) (hpl : (backTo pos (starEach [.Name y p2] X.env)).any (·.1) = false := by rfl) :
    PE X (.Call (.Name "isinstance" pp) [e, .Name y p2] [] pos) (Cx.ev X W (e1 (one (aIsi T)) f)) :=
  (pe_callB call_isi hg hm hv (pa_cons he (pa_cons (pe_bltn (v := .ty T.nm) hg2 hm2 hv2 rfl hn hd) pa_nil) hs) (by decide) (by decide) hs hpl).imp fun σ H Q q => by
    refine ev_e1 (r := fun x H1 Q => rIsi X.K [x, .ty T.nm] H1 Q) ?_ q
    refine pure1 fun d v H B Q res h1 eq q => ?_
    unfold aIsi at eq
    cases eq
    exact ⟨v, _, _, _, _, rfl, .ty _, h1.ty, kit_ty (isD_kit T d), q.imm (.bl _)⟩
end
end FW

namespace FW
open PySem PySem.Spec PyProof.Rows L2

/-! ## the drawn-number state -/
inductive DK where
  | rest | turn
def DK.nm : DK → Str
  | rest => "rest" | turn => "turn"
def DS.get (s : DS) : DK → Int
  | .rest => s.rest | .turn => s.turn
def DS.put (s : DS) (v : Int) : DK → DS
  | .rest => { s with rest := v } | .turn => { s with turn := v }
def drwOf (ρ : Rho) (i : Nat) : Option DS := match ρ.get i with
  | .ob => match ρ.ob with
    | some (.drw s) => some s
    | _ => none
  | _ => none
def putDr (ρ : Rho) (s : DS) : Rho := { ρ with ob := some (.drw s) }
def eDGet (i : Nat) (k : DK) : EE := fun ρ => match drwOf ρ i with
  | some s => .ok (.imm (.int (s.get k))) ρ
  | none => .bad
def eDCells (i : Nat) : EE := fun ρ => match drwOf ρ i with
  | some s => .ok (.imm (.lst (s.cells.map .int))) ρ
  | none => .bad
def eDPop (i : Nat) : EE := fun ρ => match drwOf ρ i with
  | some s => match s.great with
    | g :: gs => .ok (.imm (.int g)) (putDr ρ { s with great := gs })
    | [] => .bad
  | none => .bad
def tDNe (i : Nat) : TT' := fun ρ => match drwOf ρ i with
  | some s => .ok (!s.great.isEmpty) ρ
  | none => .bad
def sDSet (i : Nat) (k : DK) (f : EE) : SS := fun ρ => RS (f ρ) fun v ρ1 => match v with
  | .imm (.int n) => match drwOf ρ1 i with
    | some s => .nx (putDr ρ1 (s.put n k))
    | none => .bad
  | _ => .bad
abbrev drwL (g : Addr) (cv : V) (r t : Int) : List (Key × V) := [(kGreat, .ref g), (kCells, cv), (kRest, .int r), (kTurn, .int t)]
theorem k12 : ¬ kGreat = kCells := by decide
theorem k13 : ¬ kGreat = kRest := by decide
theorem k14 : ¬ kGreat = kTurn := by decide
theorem k23 : ¬ kCells = kRest := by decide
theorem k24 : ¬ kCells = kTurn := by decide
theorem k34 : ¬ kRest = kTurn := by decide
theorem k43 : ¬ kTurn = kRest := by decide
section
variable {g : Addr} {cv : V} {r t : Int}
theorem drw_great : valV (drwL g cv r t) kGreat = some (.ref g) := by unfold drwL; rw [valV_pos rfl]
theorem drw_cells : valV (drwL g cv r t) kCells = some cv := by unfold drwL; rw [valV_neg k12, valV_pos rfl]
theorem drw_rest : valV (drwL g cv r t) kRest = some (.int r) := by unfold drwL; rw [valV_neg k13, valV_neg k23, valV_pos rfl]
theorem drw_turn : valV (drwL g cv r t) kTurn = some (.int t) := by unfold drwL; rw [valV_neg k14, valV_neg k24, valV_neg k34, valV_pos rfl]
theorem put_rest (n : Int) : putK (drwL g cv r t) kRest (.int n) = drwL g cv n t := by
  unfold putK drwL
  simp [k13, k23, k34, k43]
theorem put_turn (n : Int) : putK (drwL g cv r t) kTurn (.int n) = drwL g cv r n := by
  unfold putK drwL
  simp [k14, k24, k43, k34]
end
section
variable {K : PySem.W.Frag} {mg : Str → Option Value} {W : WX} {σ : L2.St} {H : Hp} {B : List Addr} {a0 : Addr}
theorem RR.drw {ρ : Rho} {L : List Addr} {i : Nat} {s : DS} (h : RR K H B a0 ρ σ L) (e : drwOf ρ i = some s) : σ[i]? = some (some (.ref a0)) ∧ ∃ g cv N, H a0 = some (.dK (drwL g cv s.rest s.turn)) ∧ H g = some (.lst (s.great.map V.int)) ∧ Fz K H B (.lst (s.cells.map D.int)) cv ∧ L = [a0, g] ++ N ∧
    ∀ (H' : Hp) (B' : List Addr) (s' : DS), Ow K H' B' (.drw s') a0 [a0, g] → Kp H B H' B' → (∀ b ∈ N, H' b = H b) → RR K H' B' a0 (putDr ρ s') σ L := by
  unfold drwOf at e
  cases g0 : ρ.get i with
  | un => rw [g0] at e; cases e
  | imm _ => rw [g0] at e; cases e
  | own _ => rw [g0] at e; cases e
  | ob =>
    rw [g0] at e
    simp only at e
    cases eo : ρ.ob with
    | none => rw [eo] at e; cases e
    | some o =>
      rw [eo] at e
      cases o with
      | lst _ => cases e
      | dk _ => cases e
      | dt _ => cases e
      | drw s2 =>
        cases e
        obtain ⟨ov, Li, s1, s2, _⟩ := h.slot (Rho.get_un g0 (fun z => nomatch z))
        cases s2
        obtain ⟨Li, N, ow, hL, back⟩ := h.cutOb eo
        refine ⟨s1, ?_⟩
        cases ow with
        | @drw _ g cv _ h1 h2 h3 =>
          exact ⟨g, cv, N, h1, h2, h3, hL, fun H' B' s' o k q => by rw [hL]; exact back H' B' (.drw s') _ o k q⟩
end
section
variable {X : Cx} {W : WX} {x : Str} {p pos : Pos} {j : Nat} {k' : Nat} {p2 : Pos}
theorem v_dget (i : Nat) (k : DK) {n : Nat} (hr : Room n X.A) (hN : X.N[i]? = some x := by rfl) (hv : Vis X.env.scope x := by first | exact Or.inl rfl | exact Or.inr (Or.inl rfl) | exact Or.inr (Or.inr rfl)) (hd : (x == ("__debug__" : Str)) = false := by decide)
    (hcd : (x == ("__classdict__" : Str)) = false := by decide) (hs : NoSl (.Constant (.str k.nm) j p2) := by intro _ _; rfl) : PE X (.Subscript (.Name x p) (.Constant (.str k.nm) j p2) pos) (Cx.ev X W (eDGet i k)) :=
  (pe_dget (hu_of hr) (pe_var hN hv hd hcd) pe_str hs).imp fun σ H Q h => by
    obtain ⟨ρ, L, B, a0, h1, h2, h3⟩ := h
    simp only [eDGet] at h3
    cases e : drwOf ρ i with
    | none => rw [e] at h3; exact h3.elim
    | some s =>
      rw [e] at h3
      obtain ⟨s1, g, cv, N, q1, q2, q3, _⟩ := h1.drw e
      have fin : Q (.int (s.get k)) H := h3 _ H L [] (by rw [app_nil3]; exact h1) (.imm (.int _)) (by simpa using h2.nd) (by simpa using Fr.refl)
      refine ⟨_, s1, a0, _, rfl, ?_, fin⟩
      cases k with
      | rest => exact drw_rest (g := g) (cv := cv) ▸ DGet.k (k := kRest) q1
      | turn => exact drw_turn (g := g) (cv := cv) ▸ DGet.k (k := kTurn) q1
theorem v_dcells (i : Nat) {n : Nat} (hr : Room n X.A) (hN : X.N[i]? = some x := by rfl) (hv : Vis X.env.scope x := by first | exact Or.inl rfl | exact Or.inr (Or.inl rfl) | exact Or.inr (Or.inr rfl)) (hd : (x == ("__debug__" : Str)) = false := by decide)
    (hcd : (x == ("__classdict__" : Str)) = false := by decide) (hs : NoSl (.Constant (.str "cells") j p2) := by intro _ _; rfl) : PE X (.Subscript (.Name x p) (.Constant (.str "cells") j p2) pos) (Cx.ev X W (eDCells i)) :=
  (pe_dget (hu_of hr) (pe_var hN hv hd hcd) pe_str hs).imp fun σ H Q h => by
    obtain ⟨ρ, L, B, a0, h1, h2, h3⟩ := h
    simp only [eDCells] at h3
    cases e : drwOf ρ i with
    | none => rw [e] at h3; exact h3.elim
    | some s =>
      rw [e] at h3
      obtain ⟨s1, g, cv, N, q1, q2, q3, _⟩ := h1.drw e
      have fin : Q cv H := h3 _ H L [] (by rw [app_nil3]; exact h1) (.imm (by rw [app_nil3]; exact q3)) (by simpa using h2.nd) (by simpa using Fr.refl)
      exact ⟨_, s1, a0, _, rfl, drw_cells (g := g) (cv := cv) ▸ DGet.k (k := kCells) q1, fin⟩
theorem v_dpop (i : Nat) {n : Nat} {p3 p4 p5 : Pos} {j2 : Nat} (hr : Room n X.A) (hN : X.N[i]? = some x := by rfl) (hv : Vis X.env.scope x := by first | exact Or.inl rfl | exact Or.inr (Or.inl rfl) | exact Or.inr (Or.inr rfl)) (hd : (x == ("__debug__" : Str)) = false := by decide)
    (hcd : (x == ("__classdict__" : Str)) = false := by decide) (hs : NoSl (.Constant (.str "great") j p2) := by intro _ _; rfl) (hline : (p3.endLine == p4.line) = true := by rfl) : PE X (.Call (.Attribute (.Subscript (.Name x p) (.Constant (.str "great") j p2) pos) "pop" p3) [.Constant (.int 0) j2 p5] [] p4) (Cx.ev X W (eDPop i)) :=
  (pe_bm PySem.F.plainAttrs_list PySem.F.slot_list_pop PySem.F.type_list_pop mt_popAt (pe_dget (hu_of hr) (pe_var hN hv hd hcd) pe_str hs) (pa_cons pe_int pa_nil) (by rfl) (by rfl) hline).imp fun σ H Q h => by
    obtain ⟨ρ, L, B, a0, h1, h2, h3⟩ := h
    simp only [eDPop] at h3
    cases e : drwOf ρ i with
    | none => rw [e] at h3; exact h3.elim
    | some s =>
      rw [e] at h3
      obtain ⟨s1, g, cv, N, q1, q2, q3, hL, back⟩ := h1.drw e
      simp only at h3
      cases eg : s.great with
      | nil => rw [eg] at h3; exact h3.elim
      | cons y gs =>
        rw [eg] at h3 q2
        have ng : a0 ≠ g := ne_of q1 q2 (by intro z; cases z)
        have hg : g ∈ L ++ B := by rw [hL]; simp
        have k := kp_upd (o := .lst (gs.map V.int)) q2 True.intro hg
        have nd := h2.nd
        rw [hL] at nd
        have nN : ∀ b ∈ N, b ≠ g := fun b hb z => by
          subst z
          simp only [List.nodup_append] at nd
          exact nd.2.2 b (by simp) b hb rfl
        have r2 := back (upd H g (.lst (gs.map V.int))) (L ++ B) { s with great := gs } (.drw (g := g) (by rw [upd_ne ng]; exact q1) upd_same (q3.kp k)) k fun b hb => upd_ne (nN b hb)
        refine ⟨_, s1, a0, .ref g, rfl, drw_great (cv := cv) ▸ DGet.k (k := kGreat) q1, .inl ⟨rfl, _, .inl (.inl q2)⟩, g, _, 0, 0, .int y, rfl, rfl, q2, by decide, by decide, ?_, rfl, ?_⟩
        · simp [seqIndex?]
        · exact h3 (.int y) _ L [] (by rw [app_nil3]; exact r2) (.imm (.int _)) (by simpa using h2.nd) (by simpa using fr_upd q2 True.intro (by rw [hL]; simp))
theorem w_dne (i : Nat) {n : Nat} {p3 p4 : Pos} (hr : Room n X.A) (hN : X.N[i]? = some x := by rfl) (hv : Vis X.env.scope x := by first | exact Or.inl rfl | exact Or.inr (Or.inl rfl) | exact Or.inr (Or.inr rfl)) (hd : (x == ("__debug__" : Str)) = false := by decide)
    (hcd : (x == ("__classdict__" : Str)) = false := by decide) (hs : NoSl (.Constant (.str "great") j p2) := by intro _ _; rfl) : PT X (.Compare (.Subscript (.Name x p) (.Constant (.str "great") j p2) pos) [.NotEq] [.List [] p3] p4) (Cx.tv X W (tDNe i)) :=
  (pt_cmpR (op_neD hr.units) (pe_dget (hu_of hr) (pe_var hN hv hd hcd) pe_str hs) (pe_lst pa_nil) (nomark _)).imp fun σ H Q h => by
    obtain ⟨ρ, L, B, a0, h1, h2, h3⟩ := h
    simp only [tDNe] at h3
    cases e : drwOf ρ i with
    | none => rw [e] at h3; exact h3.elim
    | some s =>
      rw [e] at h3
      obtain ⟨s1, g, cv, N, q1, q2, q3, hL, back⟩ := h1.drw e
      refine ⟨_, s1, a0, .ref g, rfl, drw_great (cv := cv) ▸ DGet.k (k := kGreat) q1, by decide, fun l nl => ?_⟩
      have dpInts : ∀ ns : List Int, DpAll X.K (upd H l (.lst [])) (ns.map V.int) (ns.map PyData.int) := fun ns => by
        induction ns with
        | nil => exact .nil
        | cons n ns ih => exact .cons (.int n) ih
      have can : ∀ ns : List Int, PyData.canLayAll0 (ns.map PyData.int) = true ∧ PyData.depthAll (ns.map PyData.int) = 0 := fun ns => by
        induction ns with
        | nil => exact ⟨by simp [PyData.canLayAll0], by simp [PyData.depthAll]⟩
        | cons n ns ih => exact ⟨by simp [PyData.canLayAll0, PyData.canLay0, ih.1], by simp [PyData.depthAll, PyData.depth, ih.2]⟩
      refine ⟨.list (s.great.map PyData.int), .list [], .lst (.inl (.inl (by rw [upd_ne (ne_of_none q2 nl)]; exact q2))) (dpInts _), .lst (.inl (.inl upd_same)) .nil, ?_, by decide, _, rfl, ?_⟩
      · unfold SeqAt.shaped
        simp [PyData.canLay0, PyData.depth, (can s.great).1, (can s.great).2]
      · have ev : (!PyData.eqv (.list (s.great.map PyData.int)) (.list [])) = !s.great.isEmpty := by
          cases s.great <;> simp [PyData.eqv, PyData.eqvAll]
        rw [ev]
        refine h3 _ (upd H l (.lst [])) L [] ?_ ⟨rfl, rfl⟩ (by simpa using h2.nd) ?_
        · rw [app_nil3]
          exact h1.kp (Ex.upd nl).kp0 fun b z => by
            obtain ⟨o, e, _⟩ := h1.tr b z
            rw [e, Ex.upd nl b o e]
        · simpa using (⟨fun a o e _ => Ex.upd nl a o e, fun a o e _ => Ex.upd nl a o e, fun a z => .inl z⟩ : Fr H (upd H l (.lst [])) L L)
theorem s_dset (i : Nat) (k : DK) {n : Nat} {e : Expr} {f : EE} {p3 : Pos} (hr : Room n X.A) (he : PE X e (Cx.ev X W f)) (hN : X.N[i]? = some x := by rfl) (hv : Vis X.env.scope x := by first | exact Or.inl rfl | exact Or.inr (Or.inl rfl) | exact Or.inr (Or.inr rfl)) (hd : (x == ("__debug__" : Str)) = false := by decide)
    (hcd : (x == ("__classdict__" : Str)) = false := by decide) (hsw : swapsWith e (some (.Subscript (.Name x p) (.Constant (.str k.nm) j p2) p3)) pos.line X.env = pure false := by rfl) : PS X (.Assign [.Subscript (.Name x p) (.Constant (.str k.nm) j p2) p3] e pos) (Cx.st X W (sDSet i k f)) :=
  (ps_dput (hu_of hr) (pe_var (pos := p) hN hv hd hcd) pe_str he hsw).imp fun D σ H h => ev_S h fun v val ρ1 H1 L1 Lv B a0 r1 v1 nd1 w1 ap pp => by
    have p' := pp L1 fun _ z => List.mem_append_left _ z
    clear pp
    cases v1 with
    | own _ => exact p'.elim
    | bor _ => exact p'.elim
    | ob => exact p'.elim
    | imm fz =>
      cases fz with
      | int m =>
        simp only at p'
        rw [app_nil3] at r1
        cases e : drwOf ρ1 i with
        | none => rw [e] at p'; exact p'.elim
        | some s =>
          rw [e] at p'
          obtain ⟨s1, g, cv, N, q1, q2, q3, hL, back⟩ := r1.drw e
          have ng : g ≠ a0 := (ne_of q1 q2 (by intro z; cases z)).symm
          have ha : a0 ∈ L1 := by rw [hL]; simp
          have kk : ∀ o, Kp H1 (L1 ++ B) (upd H1 a0 o) (L1 ++ B) := fun o => kp_upd q1 True.intro (List.mem_append_left _ ha)
          have nd := w1.nd
          rw [hL] at nd
          have nN : ∀ b ∈ N, b ≠ a0 := fun b hb z => by
            subst z
            simp only [List.nodup_append] at nd
            exact nd.2.2 b (by simp) b hb rfl
          have hz : (drwL g cv s.rest s.turn).length < sizeLine := by show 4 < 2 ^ 24; decide
          cases k with
          | rest =>
            refine ⟨_, s1, a0, _, rfl, DPut.k (k := kRest) (v := .int m) q1 hz, ?_⟩
            rw [put_rest]
            have r2 := back (upd H1 a0 (.dK (drwL g cv m s.turn))) (L1 ++ B) (s.put m .rest) (.drw upd_same (by rw [upd_ne ng]; exact q2) (q3.kp (kk _))) (kk _) fun b hb => upd_ne (nN b hb)
            exact p' σ _ L1 r2 w1.nd (fr_upd q1 True.intro ha)
          | turn =>
            refine ⟨_, s1, a0, _, rfl, DPut.k (k := kTurn) (v := .int m) q1 hz, ?_⟩
            rw [put_turn]
            have r2 := back (upd H1 a0 (.dK (drwL g cv s.rest m))) (L1 ++ B) (s.put m .turn) (.drw upd_same (by rw [upd_ne ng]; exact q2) (q3.kp (kk _))) (kk _) fun b hb => upd_ne (nN b hb)
            exact p' σ _ L1 r2 w1.nd (fr_upd q1 True.intro ha)
      | _ => exact p'.elim
end

/-! ## the drawn-number state is made -/
def eDNew (fg fc : EE) : EE := fun ρ => (eCons fg (eCons fc eNil) ρ).bind fun vals ρ1 => match vals with
  | [.own (.lst gs), c] => match intsD gs, vImm c with
    | some g, some (.lst cs) => match intsD cs with
      | some c => .ok (.own (.drw ⟨g, c, 0, 0⟩)) ρ1
      | none => .bad
    | _, _ => .bad
  | _ => .bad
theorem intsD_map : ∀ {cs : List D} {ns : List Int}, intsD cs = some ns → cs = ns.map .int
  | [], ns, e => by cases e; rfl
  | c :: cs, ns, e => by
    cases c with
    | int i =>
      simp only [intsD] at e
      cases e1 : intsD cs with
      | none => rw [e1] at e; cases e
      | some ms => rw [e1] at e; cases e; rw [intsD_map e1]; rfl
    | _ => simp [intsD] at e
theorem merge_drw (g : Addr) (cv : V) : mergeK [] (drwL g cv 0 0) = drwL g cv 0 0 := by
  simp [mergeK, drwL, putK, k12, k13, k14, k23, k24, k34]
section
variable {X : Cx} {W : WX} {eg ec : Expr} {fg fc : EE} {pos p1 p2 p3 p4 p5 p6 : Pos} {j1 j2 j3 j4 j5 j6 : Nat}
theorem v_dnew (hg : PE X eg (Cx.ev X W fg)) (hc : PE X ec (Cx.ev X W fc)) : PE X (.Dict [some (.Constant (.str "great") j1 p1), some (.Constant (.str "cells") j2 p2), some (.Constant (.str "rest") j3 p3), some (.Constant (.str "turn") j4 p4)] [eg, ec, .Constant (.int 0) j5 p5, .Constant (.int 0) j6 p6] pos) (Cx.ev X W (eDNew fg fc)) :=
  (pe_disp (pps_cons pe_str hg (pps_cons pe_str hc (pps_cons pe_str pe_int (pps_cons pe_str pe_int pps_nil)))) (by rfl) (by rfl) (fun z => by cases z) (by show 4 ≤ 15; decide)).imp fun σ H Q h => by
    intro p np
    have key : tEvs X.K X.mg W (eCons fg (eCons fc eNil)) σ (upd H p (.dK [])) fun vs H2 => ∃ a b, vs = [a, b] ∧ H2 p = some (.dK []) ∧ ∃ g, a = .ref g ∧ Q (.ref p) (upd H2 p (.dK (drwL g b 0 0))) := by
      obtain ⟨ρ, L, B, a0, h1, h2, h3⟩ := h
      have exp : Ex H (upd H p (.dK [])) := Ex.upd np
      have tr := h1.tr
      have npL : p ∉ L := fun z => by obtain ⟨o, e, _⟩ := tr p z; rw [np] at e; cases e
      have npB : p ∉ B := fun z => by obtain ⟨o, e⟩ := h2.tr p z; rw [np] at e; cases e
      have r0 : RR X.K (upd H p (.dK [])) (L ++ (p :: B)) a0 ρ σ L := by
        refine h1.kp ⟨fun a o e n => ⟨exp a o e, fun z => ?_⟩, fun a o e _ => exp a o e⟩ fun b z => by
          obtain ⟨o, e, _⟩ := tr b z
          rw [e, exp b o e]
        simp only [List.mem_append, List.mem_cons] at z n
        rcases z with z | rfl | z
        · exact n (.inl z)
        · rw [np] at e; cases e
        · exact n (.inr z)
      have w0 : WF (upd H p (.dK [])) L (p :: B) := ⟨h2.nd, fun a z => by
        rcases List.mem_cons.mp z with rfl | z
        · exact npL
        · exact h2.dis a z, fun a z => by
        rcases List.mem_cons.mp z with rfl | z
        · exact ⟨_, upd_same⟩
        · obtain ⟨o, e⟩ := h2.tr a z; exact ⟨o, exp a o e⟩⟩
      have f0 : Fr H (upd H p (.dK [])) L L := ⟨fun a o e _ => exp a o e, fun a o e _ => exp a o e, fun a z => .inl z⟩
      refine ⟨ρ, L, p :: B, a0, r0, w0, ?_⟩
      simp only [eDNew] at h3
      cases e : eCons fg (eCons fc eNil) ρ with
      | bad => rw [e] at h3; exact h3
      | exc x ρ1 =>
        rw [e] at h3
        intro cls d H' L' r x n f
        have sub : ∀ a ∈ L' ++ B, a ∈ L' ++ (p :: B) := fun a z => by
          rcases List.mem_append.mp z with z | z <;> simp [z]
        refine h3 cls d H' L' (r.weak sub) ?_ n (f0.trans f)
        cases x with
        | plain a b => exact .plain a b
        | flds a b c d e => exact .flds a b c d (e.kp (Kp.weak sub))
      | ok vals ρ1 =>
        rw [e] at h3
        intro vs H1 L1 Lv r1 v1 nd1 f1
        simp only [R.bind] at h3
        split at h3
        · rename_i gs c
          split at h3
          · rename_i g' cs eg' ec'
            cases eci : intsD cs with
            | none => rw [eci] at h3; exact h3.elim
            | some ns =>
              rw [eci] at h3
              simp only at h3
              cases v1 with
              | cons va vb =>
                cases vb with
                | @cons _ b Lc _ _ _ vb vc =>
                  cases vc
                  cases va with
                  | @own _ g _ ow =>
                    cases ow with
                    | @lst _ gv _ hg1 fg1 =>
                      have pB : p ∈ L1 ++ ([g] ++ (Lc ++ [])) ++ (p :: B) := by simp
                      have npL1 : p ∉ L1 := fun z => (w0.next (f1.sub fun a z => List.mem_append_left _ z) (List.nodup_append.mp nd1).1).dis p (by simp) z
                      have apt := apart w0 f1 nd1
                      have hp1 : H1 p = some (.dK []) := f1.keep p _ upd_same npL
                      have ngp : g ≠ p := ne_of hg1 hp1 (by intro z; cases z)
                      refine ⟨.ref g, b, rfl, hp1, g, rfl, ?_⟩
                      have nd1' := nd1
                      simp only [List.append_nil] at nd1' r1 f1 apt vb
                      have fzc : Fz X.K H1 (L1 ++ ([p, g] ++ B)) (.lst cs) b := vb.fz ec' (fun x z => by simp only [List.mem_append, List.mem_cons, List.not_mem_nil, or_false] at z ⊢; rcases z with z | (z | z) | z <;> simp [z]) fun x hx z => by
                        simp only [List.mem_append, List.mem_cons, List.not_mem_nil, or_false] at z
                        have ax := apt x (by simp [hx])
                        simp only [List.mem_append, List.mem_cons, not_or] at ax
                        rcases z with z | (z | z) | z
                        · exact ax.1 z
                        · exact ax.2.1 z
                        · subst z
                          simp only [List.nodup_append, List.mem_append] at nd1'
                          exact nd1'.2.1.2.2 x (by simp) x hx rfl
                        · exact ax.2.2 z
                      have kk : Kp H1 (L1 ++ ([p, g] ++ B)) (upd H1 p (.dK (drwL g b 0 0))) (L1 ++ ([p, g] ++ B)) := kp_upd hp1 True.intro (by simp)
                      rw [intsD_map eci] at fzc
                      have gvi : gv = g'.map V.int := fg1.intsOf eg'
                      have asc : L1 ++ [p, g] ++ B = L1 ++ ([p, g] ++ B) := by simp
                      refine h3 (.ref p) _ L1 [p, g] ?_ (.own (.drw upd_same (by rw [upd_ne ngp, hg1, gvi]) (by rw [asc]; exact fzc.kp kk))) ?_ ?_
                      · rw [asc]
                        refine (r1.weak fun x z => ?_).kp kk fun b hb => upd_ne fun z => npL1 (z ▸ hb)
                        simp only [List.mem_append, List.mem_cons, List.not_mem_nil, or_false] at z ⊢
                        rcases z with z | (z | z) | z <;> simp [z]
                      · have n2 : g ∉ L1 := fun z => by
                          simp only [List.nodup_append, List.mem_append] at nd1'
                          exact nd1'.2.2 g z g (.inl (by simp)) rfl
                        rw [List.nodup_append]
                        refine ⟨(List.nodup_append.mp nd1').1, by simp [Ne.symm ngp], fun a ha b hb e => ?_⟩
                        subst e
                        simp only [List.mem_cons, List.not_mem_nil, or_false] at hb
                        rcases hb with rfl | rfl
                        · exact npL1 ha
                        · exact n2 ha
                      · have ft := f0.trans f1
                        refine ⟨fun a o e n => ?_, fun a o e n => ?_, fun a z => ?_⟩
                        · rw [upd_ne (ne_of_none e np)]; exact ft.keep a o e n
                        · rw [upd_ne (ne_of_none e np)]; exact ft.imm a o e n
                        · simp only [List.mem_append, List.mem_cons, List.not_mem_nil, or_false] at z
                          rcases z with z | z | z
                          · exact ft.new a (by simp [z])
                          · subst z; exact .inr np
                          · exact ft.new a (by simp [z])
          · exact h3.elim
        · exact h3.elim
    refine (evs_cons key).mono fun a H1 q => (evs_cons q).mono fun b H2 q => ?_
    obtain ⟨a', b', e, hp2, g, eg, q9⟩ := evs_nil q
    clear q
    cases e
    subst eg
    refine ⟨hp2, drwL g b 0 0, rfl, by show 4 ≤ 15; decide, ?_⟩
    rw [merge_drw]
    exact q9
end
end FW

namespace FW
open PySem PySem.Spec PyProof.Rows L2

/-! ## built-ins by their names -/
theorem bb_len : bootBuiltins "len" = some (.builtin "len") := by decide +kernel
theorem bb_all : bootBuiltins "all" = some (.builtin "all") := by decide +kernel
theorem bb_any : bootBuiltins "any" = some (.builtin "any") := by decide +kernel
theorem bb_sum : bootBuiltins "sum" = some (.builtin "sum") := by decide +kernel
theorem bb_abs : bootBuiltins "abs" = some (.builtin "abs") := by decide +kernel
theorem bb_min : bootBuiltins "min" = some (.builtin "min") := by decide +kernel
theorem bb_max : bootBuiltins "max" = some (.builtin "max") := by decide +kernel
theorem bb_sorted : bootBuiltins "sorted" = some (.builtin "sorted") := by decide +kernel
theorem bb_isinstance : bootBuiltins "isinstance" = some (.builtin "isinstance") := by decide +kernel
theorem bb_tuple : bootBuiltins "tuple" = some (.type "tuple") := by decide +kernel
theorem bb_list : bootBuiltins "list" = some (.type "list") := by decide +kernel
theorem bb_int : bootBuiltins "int" = some (.type "int") := by decide +kernel
theorem bb_bool : bootBuiltins "bool" = some (.type "bool") := by decide +kernel
theorem bb_str : bootBuiltins "str" = some (.type "str") := by decide +kernel
theorem bb_dict : bootBuiltins "dict" = some (.type "dict") := by decide +kernel
theorem bb_set : bootBuiltins "set" = some (.type "set") := by decide +kernel

/-! ## a statement that is never reached -/
def sNever : SS := fun _ => .bad
theorem s_never {X : Cx} {W : WX} {st : Stmt} : PS X st (Cx.st X W sNever) := ps_never.imp fun D σ H h => by
  obtain ⟨ρ, L, B, a0, h1, h2, h3⟩ := h
  exact h3

/-! ## x += e -/
def aAddI : D → D → Option Val
  | .int i, .int j => some (.imm (.int (i + j)))
  | _, _ => none
theorem p_iadd {K : PySem.W.Frag} : Pure K (r2' (rI0 fun i j => .int (i + j))) (two aAddI) := pure2 fun d e v w H B Q res h1 h2 eq q => by
  unfold aAddI at eq
  split at eq
  · cases eq; cases h1.int; cases h2.int
    exact ⟨_, _, rfl, rfl, q.imm (.int _)⟩
  · cases eq
theorem s_aug {X : Cx} {W : WX} {i : Nat} {x : Str} {e : Expr} {op : Operator} {f : EE} {g : List D → Option Val} {r : R2} {pos pos' : Pos} (hN : X.N.Nodup) (ho : OpR X (inplaceOp op) r) (p : Pure X.K (r2' r) g) (he : PE X e (Cx.ev X W f)) (hi : X.N[i]? = some x := by rfl)
    (hx : Loc X.env.scope x := by first | exact .inl rfl | exact .inr rfl) (hf : X.fn x = true ∨ X.env.scope.names.lookup x = some .local := by first | exact .inl rfl | exact .inr rfl) :
    PS X (.AugAssign (.Name x pos') op e pos) (Cx.st X W (sSet i (e2 g (eVar i) f))) := (ps_aug hN hi hx he (show PIp X op r from ho) hf).imp fun D σ H h => by
  have h' : tEv X.K X.mg W (eVar i) σ H fun x0 H1 => tEv X.K X.mg W f σ H1 fun y H2 => r x0 y H2 fun z H3 => D.nx (σ.set i (some z)) H3 := by
    refine ev_e2 p (ev_S h fun v val ρ1 H1 L1 Lv B a0 r1 v1 nd1 w1 ap p => ?_)
    have p := p (L1 ++ Lv) fun _ z => z
    cases e : put ρ1 i val with
    | none => rw [e] at p; exact p.elim
    | some ρ2 =>
      rw [e] at p
      obtain ⟨L', q1, q2, q3⟩ := r1.put v1 nd1 e
      exact p _ H1 L' q1 q3 (Fr.refl.sub q2)
  -- the name's value
  obtain ⟨ρ, L, B, a0, h1, h2, h3⟩ := h'
  simp only [eVar] at h3
  have nd : (L ++ []).Nodup := by simpa using h2.nd
  have fr : Fr H H L (L ++ []) := by simpa using Fr.refl
  cases g0 : ρ.get i with
  | un => rw [g0] at h3; exact h3.elim
  | imm d =>
    rw [g0] at h3
    obtain ⟨ov, Li, s1, s2, _⟩ := h1.slot (Rho.get_un g0 (fun z => nomatch z))
    cases s2 with
    | imm f => exact ⟨_, s1, h3 _ H L [] (by rw [app_nil3]; exact h1) (.imm (by rw [app_nil3]; exact f)) nd fr⟩
  | own o =>
    rw [g0] at h3
    obtain ⟨ov, Li, s1, s2, _⟩ := h1.slot (Rho.get_un g0 (fun z => nomatch z))
    cases s2 with
    | own f => exact ⟨_, s1, h3 _ H L [] (by rw [app_nil3]; exact h1) (.bor s1) nd fr⟩
  | ob =>
    rw [g0] at h3
    obtain ⟨ov, Li, s1, s2, _⟩ := h1.slot (Rho.get_un g0 (fun z => nomatch z))
    cases s2 with
    | ob => exact ⟨_, s1, h3 _ H L [] (by rw [app_nil3]; exact h1) .ob nd fr⟩

/-! ## a law's own end -/
def spT (K : PySem.W.Frag) : Sp := fun vs H Q _ => ∃ (a : Addr) (ns : List Int), vs = [.ref a] ∧ ScrAt K H a (ns.map V.int) ∧ ns.length ≤ 63 ∧ ∀ H', Q (.bl true) H'
theorem spT_of {K : PySem.W.Frag} {mg : Str → Option Value} {m : List D → FR} (h : ∀ ns : List Int, ns.length ≤ 63 → m [.scr ns] = .ok (.imm (.bl true))) : ∀ vs H Q E, spT K vs H Q E → spP K mg m vs H Q E := fun vs H Q E q => by
  obtain ⟨a, ns, rfl, s, hl, q⟩ := q
  refine ⟨[.scr ns], [], by simp, .cons (.scr s) .nil, ?_⟩
  rw [h ns hl]
  intro v H' Lv vp ex nd fr
  cases vp with
  | imm fz => cases fz; exact q H'
theorem only_scr {K : PySem.W.Frag} {H : Hp} {a : Addr} {vs : List V} (o : L2.Only H) (s : SqL K H a vs) : ScrAt K H a vs := by
  rcases s with (s | s) | s
  · rcases o a with z | ⟨ob, xs, z⟩
    · rw [s] at z; cases z
    · rw [s] at z; cases z
  · exact .inl s
  · exact .inr s
theorem cx_end {P : Program} {w : World} {H : Hp} {s s' : Shared} {e : Value} (h : L2.CX P w [] H s (fun _ _ _ => False) e s') : False := by
  obtain ⟨_, _, _, _, _, _, _, _, _, _, _, _, z⟩ := h
  exact z
/-- the law's def, for walk_of -/
theorem law_F {P : Program} {w : World} {K : PySem.W.Frag} {mg : Str → Option Value} {fa : Addr} {st : Stmt} {N : List Str} {k : Nat} {body : SS} (D0 : Def K mg "law" st) (hfa : mg "law" = some (.ref fa)) (S : FnScope N ["script"] (defScope st)) (bn : Bnd "law" st ["script"])
    (hb : ∀ base : Heap, BodyOk P w K mg base k "law" st N body) (h : ∀ ns : List Int, ns.length ≤ 63 → mkP 1 N.length body [.scr ns] = .ok (.imm (.bl true))) :
    ∃ fd : FuncData, (∀ (s : Shared) (v : Value), BindsTo s fd ⟨[v], []⟩ [("script", v)]) ∧ ∀ base : Heap, K.In base → base.Ns mainGlobals mg → FnOk P w K mg base (L2.CX P w) (k + 1) fa fd ["script"] (spT K) := by
  obtain ⟨f, fd, F, hm⟩ := D0.ex
  rw [hfa] at hm; cases hm
  refine ⟨fd, fun s v => ?_, fun base _ _ => ?_⟩
  · obtain ⟨oc, od, kV, doc, pm, an, cdv, ct, osl, rfl, lk, hcd⟩ := F.ex
    exact .of_eq (bn kV doc pm an cdv ct [v] rfl)
  · exact (fn_P F S (hb base)).imp fun vs H Q E q => spT_of h vs H Q E q
end FW
namespace FW
theorem with_K {K : PySem.W.Frag} {h : PySem.Heap} (X : K.In h) {G : Prop} {T : PySem.W.Frag → Prop} (t : T K) (k : T K → G) : G := k t
end FW

namespace FW
/-! # evaluating: rewriting rules -/
section
variable {α β : Type} (ρ : Rho) (f g h : EE) (fs : EEs) (t t' : TT') (i : Nat)
@[simp] theorem bind_ok (a : α) (k : α → Rho → R β) : (R.ok a ρ).bind k = k a ρ := rfl
@[simp] theorem bind_exc (x : Exn) (k : α → Rho → R β) : (R.exc x ρ : R α).bind k = .exc x ρ := rfl
@[simp] theorem get_mk0 (s : Slot) (ss : List Slot) (o : Option Ob) : Rho.get ⟨s :: ss, o⟩ 0 = s := rfl
@[simp] theorem get_mkS (s : Slot) (ss : List Slot) (o : Option Ob) (n : Nat) : Rho.get ⟨s :: ss, o⟩ (n + 1) = Rho.get ⟨ss, o⟩ n := rfl
@[simp] theorem set_mk (ss : List Slot) (o : Option Ob) (n : Nat) (s : Slot) : Rho.set ⟨ss, o⟩ n s = ⟨ss.set n s, o⟩ := rfl
@[simp] theorem put_imm (d : D) : put ρ i (.imm d) = some (ρ.set i (.imm d)) := rfl
@[simp] theorem put_own (d : Ob) : put ρ i (.own d) = some (ρ.set i (.own d)) := rfl
@[simp] theorem RS_ok (a : Val) (k : Val → Rho → Out) : RS (.ok a ρ) k = k a ρ := rfl
@[simp] theorem rd_imm (d : D) : rd ρ (.imm d) = some d := rfl
@[simp] theorem rd_ownl (d : List D) : rd ρ (.own (.lst d)) = some (.lst d) := rfl
@[simp] theorem rd_bor : rd ρ (.bor i) = (match ρ.get i with | .own o => rdO o | _ => none) := rfl
@[simp] theorem rdO_lst (d : List D) : rdO (.lst d) = some (.lst d) := rfl
@[simp] theorem rds_nil : rds ρ [] = some [] := rfl
@[simp] theorem rds_cons (v : Val) (vs : List Val) : rds ρ (v :: vs) = (rd ρ v).bind fun d => (rds ρ vs).map (d :: ·) := by
  simp only [rds]; cases rd ρ v <;> cases rds ρ vs <;> rfl
@[simp] theorem vImm_imm (d : D) : vImm (.imm d) = some d := rfl
@[simp] theorem vImm_ownl (d : List D) : vImm (.own (.lst d)) = some (.lst d) := rfl
@[simp] theorem vImms_nil : vImms [] = some [] := rfl
@[simp] theorem vImms_cons (v : Val) (vs : List Val) : vImms (v :: vs) = (vImm v).bind fun d => (vImms vs).map (d :: ·) := by
  simp only [vImms]; cases vImm v <;> cases vImms vs <;> rfl
@[simp] theorem u_nil : eNil ρ = .ok [] ρ := rfl
@[simp] theorem u_cons : eCons f fs ρ = (f ρ).bind fun a ρ1 => (fs ρ1).bind fun as ρ2 => .ok (a :: as) ρ2 := rfl
@[simp] theorem u_op (G : List D → Option Val) : eOp G fs ρ = (fs ρ).bind fun vals ρ1 => match (rds ρ1 vals).bind G with
  | some r => .ok r ρ1
  | none => .bad := by
  unfold eOp; congr 1; funext vals ρ1; cases rds ρ1 vals <;> rfl
@[simp] theorem u_1 (G : List D → Option Val) : e1 G f ρ = eOp G (eCons f eNil) ρ := rfl
@[simp] theorem u_2 (G : List D → Option Val) : e2 G f g ρ = eOp G (eCons f (eCons g eNil)) ρ := rfl
@[simp] theorem u_C (d : D) : eC d ρ = .ok (.imm d) ρ := rfl
@[simp] theorem u_var : eVar i ρ = (match ρ.get i with | .imm d => .ok (.imm d) ρ | .own _ => .ok (.bor i) ρ | .ob => .ok .ob ρ | .un => .bad) := rfl
@[simp] theorem u_mv : eMv i ρ = (match ρ.get i with | .imm d => .ok (.imm d) ρ | .own o => .ok (.own o) (ρ.set i .un) | _ => .bad) := rfl
@[simp] theorem u_tup : eTup fs ρ = (fs ρ).bind fun vals ρ1 => match vImms vals with
  | some ds => if ds.length ≤ 1000 then .ok (.imm (.tup ds)) ρ1 else .bad
  | none => .bad := rfl
@[simp] theorem u_lst : eLst fs ρ = (fs ρ).bind fun vals ρ1 => match vImms vals with
  | some ds => if ds.length ≤ 1000 then .ok (.own (.lst ds)) ρ1 else .bad
  | none => .bad := rfl
@[simp] theorem u_call (m : List D → FR) : eCall m fs ρ = (fs ρ).bind fun vals ρ1 => match (match vImms vals with | some ds => m ds | none => .bad) with
  | .ok v => .ok v ρ1
  | .exc x => .exc x ρ1
  | .bad => .bad := by
  unfold eCall; congr 1; funext vals ρ1; cases vImms vals <;> rfl
@[simp] theorem u_callR (m : Ob → List D → FO) : eCallR m fs ρ = (fs ρ).bind fun vals ρ1 => match vals with
  | r :: vals => match getO ρ1 r with
    | some o => match (match vImms vals with | some ds => m o ds | none => .bad) with
      | .ok v o' => .ok v (setO ρ1 o' r)
      | .exc x o' => .exc x (setO ρ1 o' r)
      | .bad => .bad
    | none => .bad
  | [] => .bad := by
  unfold eCallR; congr 1; funext vals ρ1; rcases vals with _ | ⟨r, vals⟩
  · rfl
  · simp only []; cases getO ρ1 r
    · rfl
    · simp only []; cases vImms vals <;> rfl
@[simp] theorem getO_bor : getO ρ (.bor i) = (match ρ.get i with | .own o => some o | _ => none) := rfl
@[simp] theorem getO_ob : getO ρ .ob = ρ.ob := rfl
@[simp] theorem setO_bor (o : Ob) : setO ρ o (.bor i) = ρ.set i (.own o) := rfl
@[simp] theorem setO_ob (o o' : Option Ob) (o2 : Ob) (ss : List Slot) : setO ⟨ss, o⟩ o2 .ob = ⟨ss, some o2⟩ := rfl
@[simp] theorem u_E : tE f ρ = (f ρ).bind fun v ρ1 => match v with
  | .imm (.bl b) => .ok b ρ1
  | _ => .bad := rfl
@[simp] theorem u_Tru : tTru f ρ = (f ρ).bind fun v ρ1 => match (rd ρ1 v).bind truD with
  | some b => .ok b ρ1
  | none => .bad := by
  unfold tTru; congr 1; funext v ρ1; cases rd ρ1 v <;> rfl
@[simp] theorem u_tAnd : tAnd' t t' ρ = (t ρ).bind fun b ρ1 => if b = true then t' ρ1 else .ok false ρ1 := rfl
@[simp] theorem u_tOr : tOr' t t' ρ = (t ρ).bind fun b ρ1 => if b = true then .ok true ρ1 else t' ρ1 := rfl
@[simp] theorem u_tNot : tNot' t ρ = (t ρ).bind fun b ρ1 => .ok (!b) ρ1 := rfl
@[simp] theorem u_if : eIf t f g ρ = (t ρ).bind fun b ρ1 => if b = true then f ρ1 else g ρ1 := rfl
@[simp] theorem u_and : eAnd f g ρ = (tE f ρ).bind fun b ρ1 => if b = true then g ρ1 else .ok (.imm (.bl false)) ρ1 := rfl
@[simp] theorem u_or : eOr f g ρ = (tE f ρ).bind fun b ρ1 => if b = true then .ok (.imm (.bl true)) ρ1 else g ρ1 := rfl
@[simp] theorem u_not : eNot f ρ = (tE f ρ).bind fun b ρ1 => .ok (.imm (.bl (!b))) ρ1 := rfl
@[simp] theorem u_yes : tYes' ρ = .ok true ρ := rfl
@[simp] theorem u_int (k : Int → EE) : eInt f k ρ = (f ρ).bind fun v ρ1 => match v with
  | .imm (.int i) => k i ρ1
  | _ => .bad := rfl
@[simp] theorem u_chain (c c' : Int → Int → Bool) : eChain c c' f g h ρ = eInt f (fun i => eInt g fun j => fun ρ2 => if c i j = true then eInt h (fun k => fun ρ => .ok (.imm (.bl (c' j k))) ρ) ρ2 else .ok (.imm (.bl false)) ρ2) ρ := by
  unfold eChain
  simp only [eInt]
  congr 1; funext v ρ1; cases v <;> try rfl
  rename_i d; cases d <;> try rfl
  simp only []
  congr 1; funext v ρ1; cases v <;> try rfl
  rename_i d; cases d <;> try rfl
  simp only []
  split <;> rfl
@[simp] theorem one_1 (G : D → Option Val) (d : D) : one G [d] = G d := rfl
@[simp] theorem two_2 (G : D → D → Option Val) (d e : D) : two G [d, e] = G d e := rfl
@[simp] theorem three_3 (G : D → D → D → Option Val) (d e f : D) : three G [d, e, f] = G d e f := rfl
@[simp] theorem u_consI : eConsI f fs ρ = (f ρ).bind fun a ρ1 => match a with
  | .imm (.int i) => (fs ρ1).bind fun as ρ2 => .ok (.imm (.int i) :: as) ρ2
  | _ => .bad := rfl
/-! statements -/
variable (a b : SS)
@[simp] theorem u_sNx : sNx ρ = .nx ρ := rfl
@[simp] theorem u_sBk : sBk ρ = .bk ρ := rfl
@[simp] theorem u_sCt : sCt ρ = .ct ρ := rfl
@[simp] theorem u_sSeq : sSeq a b ρ = (match a ρ with
  | .nx ρ1 => b ρ1
  | .rt v ρ1 => .rt v ρ1
  | .bk ρ1 => .bk ρ1
  | .ct ρ1 => .ct ρ1
  | .exc x ρ1 => .exc x ρ1
  | .bad => .bad) := rfl
@[simp] theorem u_sIf : sIf t a b ρ = (match t ρ with
  | .ok c ρ1 => if c = true then a ρ1 else b ρ1
  | .exc x ρ1 => .exc x ρ1
  | .bad => .bad) := rfl
@[simp] theorem u_sRet : sRet f ρ = RS (f ρ) fun v ρ1 => .rt v ρ1 := rfl
@[simp] theorem u_sRetN : sRetN ρ = .rt (.imm .non) ρ := rfl
@[simp] theorem u_sExpr : sExpr f ρ = RS (f ρ) fun _ ρ1 => .nx ρ1 := rfl
@[simp] theorem u_sSet : sSet i f ρ = RS (f ρ) fun v ρ1 => match put ρ1 i v with
  | some ρ2 => .nx ρ2
  | none => .bad := rfl
@[simp] theorem u_sUnp (tg : Tgt) : sUnp tg f ρ = RS (f ρ) fun v ρ1 => match v with
  | .imm d => match bindT tg d ρ1 with
    | some ρ2 => .nx ρ2
    | none => .bad
  | _ => .bad := rfl
@[simp] theorem bindT_nm (d : D) : bindT (.nm i) d ρ = some (ρ.set i (.imm d)) := by simp [bindT]
@[simp] theorem bindT_tp (ts : List Tgt) (ds : List D) : bindT (.tp ts) (.tup ds) ρ = bindTs ts ds ρ := by simp [bindT]
@[simp] theorem bindTs_nil : bindTs [] [] ρ = some ρ := by simp [bindTs]
@[simp] theorem bindTs_cons (tg : Tgt) (ts : List Tgt) (d : D) (ds : List D) : bindTs (tg :: ts) (d :: ds) ρ = (bindT tg d ρ).bind fun ρ1 => bindTs ts ds ρ1 := by
  rw [bindTs]; cases bindT tg d ρ <;> rfl
@[simp] theorem u_sFor (tg : Tgt) (it : II) : sFor tg it a ρ = (match it ρ with
  | .ok ds ρ1 => forL tg a ds ρ1
  | .exc x ρ1 => .exc x ρ1
  | .bad => .bad) := rfl
@[simp] theorem finP_imm (d : D) : finP (.rt (.imm d) ρ) = .ok (.imm d) := rfl
@[simp] theorem finP_own (d : Ob) : finP (.rt (.own d) ρ) = .ok (.own d) := rfl
@[simp] theorem finP_nx : finP (.nx ρ) = .ok (.imm .non) := rfl
@[simp] theorem finR_imm (d : D) (ss : List Slot) (o : Ob) : finR (.rt (.imm d) ⟨ss, some o⟩) = .ok (.imm d) o := rfl
@[simp] theorem finR_own (d : Ob) (ss : List Slot) (o : Ob) : finR (.rt (.own d) ⟨ss, some o⟩) = .ok (.own d) o := rfl
@[simp] theorem finR_nx (ss : List Slot) (o : Ob) : finR (.nx ⟨ss, some o⟩) = .ok (.imm .non) o := rfl
@[simp] theorem u_sPar (j : Nat) : sPar i j fs ρ = (match fs ρ with
  | .ok [v, w] ρ1 => match put ρ1 i v with
    | some ρ2 => match put ρ2 j w with
      | some ρ3 => .nx ρ3
      | none => .bad
    | none => .bad
  | .ok _ _ => .bad
  | .exc x ρ1 => .exc x ρ1
  | .bad => .bad) := rfl
@[simp] theorem drw_mk (s : DS) (ss : List Slot) : drwOf ⟨.ob :: ss, some (.drw s)⟩ 0 = some s := rfl
@[simp] theorem putDr_mk (s : DS) (ss : List Slot) (o : Option Ob) : putDr ⟨ss, o⟩ s = ⟨ss, some (.drw s)⟩ := rfl
@[simp] theorem u_DGet (k : DK) : eDGet i k ρ = (match drwOf ρ i with
  | some s => .ok (.imm (.int (s.get k))) ρ
  | none => .bad) := rfl
@[simp] theorem u_DCells : eDCells i ρ = (match drwOf ρ i with
  | some s => .ok (.imm (.lst (s.cells.map .int))) ρ
  | none => .bad) := rfl
@[simp] theorem u_DPop : eDPop i ρ = (match drwOf ρ i with
  | some s => match s.great with
    | g :: gs => .ok (.imm (.int g)) (putDr ρ { s with great := gs })
    | [] => .bad
  | none => .bad) := rfl
@[simp] theorem u_DNe : tDNe i ρ = (match drwOf ρ i with
  | some s => .ok (!s.great.isEmpty) ρ
  | none => .bad) := rfl
@[simp] theorem u_DSet (k : DK) : sDSet i k f ρ = RS (f ρ) fun v ρ1 => match v with
  | .imm (.int n) => match drwOf ρ1 i with
    | some s => .nx (putDr ρ1 (s.put n k))
    | none => .bad
  | _ => .bad := rfl
@[simp] theorem get_rest (s : DS) : s.get .rest = s.rest := rfl
@[simp] theorem get_turn (s : DS) : s.get .turn = s.turn := rfl
@[simp] theorem putS_rest (s : DS) (n : Int) : s.put n .rest = { s with rest := n } := rfl
@[simp] theorem putS_turn (s : DS) (n : Int) : s.put n .turn = { s with turn := n } := rfl
@[simp] theorem u_DNew : eDNew f g ρ = (eCons f (eCons g eNil) ρ).bind fun vals ρ1 => match vals with
  | [.own (.lst gs), c] => match intsD gs, vImm c with
    | some g, some (.lst cs) => match intsD cs with
      | some c => .ok (.own (.drw ⟨g, c, 0, 0⟩)) ρ1
      | none => .bad
    | _, _ => .bad
  | _ => .bad := rfl
@[simp] theorem u_Mut (G : List D → List D → Option (D × List D)) : eMut i G fs ρ = (match ρ.get i with
  | .own (.lst _) => (fs ρ).bind fun vals ρ1 => match ρ1.get i with
    | .own (.lst xs) => match vImms vals with
      | some ds => match G xs ds with
        | some (r, ys) => .ok (.imm r) (ρ1.set i (.own (.lst ys)))
        | none => .bad
      | none => .bad
    | _ => .bad
  | _ => .bad) := rfl
@[simp] theorem u_SetIx : sSetIx i f g ρ = (match ρ.get i with
  | .own (.lst _) => match eCons f (eCons g eNil) ρ with
    | .ok [v, .imm (.int k)] ρ1 => match ρ1.get i with
      | .own (.lst xs) => match vImm v with
        | some d => if 0 ≤ k ∧ k < xs.length then .nx (ρ1.set i (.own (.lst (xs.set k.toNat d)))) else .bad
        | none => .bad
      | _ => .bad
    | .ok _ _ => .bad
    | .exc x ρ1 => .exc x ρ1
    | .bad => .bad
  | _ => .bad) := rfl
@[simp] theorem wipe_nil : wipeR ρ [] = ρ := rfl
@[simp] theorem wipe_cons (v : Nat) (vs : List Nat) : wipeR ρ (v :: vs) = (wipeR ρ vs).set v .un := rfl
@[simp] theorem u_sl10 : eSl10 f g ρ = eOp (two fun d l => match l with | .int i => aSl d (some i) none | _ => none) (eCons f (eCons g eNil)) ρ := rfl
@[simp] theorem u_sl01 : eSl01 f g ρ = eOp (two fun d h => match h with | .int j => aSl d none (some j) | _ => none) (eCons f (eCons g eNil)) ρ := rfl
@[simp] theorem u_sl00 : eSl00 f ρ = eOp (one fun d => aSl d none none) (eCons f eNil) ρ := rfl
@[simp] theorem u_sl11 : eSl11 f g h ρ = eOp (three fun d l h => match l, h with | .int i, .int j => aSl d (some i) (some j) | _, _ => none) (eCons f (eConsI g (eConsI h eNil))) ρ := rfl
@[simp] theorem u_rev : eRev f ρ = e1 (one aRev) f ρ := rfl
/-! iterables -/
@[simp] theorem u_iTup : iTup' f ρ = (f ρ).bind fun v ρ1 => match v with
  | .imm (.tup ds) => .ok ds ρ1
  | _ => .bad := rfl
@[simp] theorem u_iLst : iLst' f ρ = (f ρ).bind fun v ρ1 => match v with
  | .imm (.lst ds) => .ok ds ρ1
  | .imm (.scr ns) => .ok (ns.map .int) ρ1
  | .own (.lst ds) => .ok ds ρ1
  | _ => .bad := rfl
@[simp] theorem u_iZipT : iZipT' fs ρ = (fs ρ).bind fun vals ρ1 => match vals with
  | [.imm (.tup xs), .imm (.tup ys)] => .ok (zipD xs ys) ρ1
  | _ => .bad := rfl
noncomputable def rng (i j : Int) (ρ : Rho) : R (List D) := if (inRange i && inRange j) = true then .ok (intsFrom i (j - i).toNat) ρ else .bad
@[simp] theorem rng_ok {i j : Int} (hi : inRange i = true) (hj : inRange j = true) : rng i j ρ = .ok (intsFrom i (j - i).toNat) ρ := by
  unfold rng; rw [hi, hj]; rfl
noncomputable def rng0 (j : Int) (ρ : Rho) : R (List D) := if inRange j = true then .ok (intsFrom 0 j.toNat) ρ else .bad
@[simp] theorem rng0_ok {j : Int} (hj : inRange j = true) : rng0 j ρ = .ok (intsFrom 0 j.toNat) ρ := by
  unfold rng0; rw [if_pos hj]
@[simp] theorem u_iRng1 : iRng1' fs ρ = (fs ρ).bind fun vals ρ1 => match vals with
  | [.imm (.int j)] => rng0 j ρ1
  | _ => .bad := rfl
@[simp] theorem u_iRng2 : iRng2' fs ρ = (fs ρ).bind fun vals ρ1 => match vals with
  | [.imm (.int i), .imm (.int j)] => rng i j ρ1
  | _ => .bad := rfl
/-! what differs by a condition -/
@[simp] theorem ite_ok {p : Prop} [Decidable p] (a b : α) : (if p then R.ok a ρ else R.ok b ρ) = R.ok (if p then a else b) ρ := by split <;> rfl
@[simp] theorem ite_imm {p : Prop} [Decidable p] (a b : D) : (if p then Val.imm a else Val.imm b) = Val.imm (if p then a else b) := by split <;> rfl
@[simp] theorem ite_bl {p : Prop} [Decidable p] (a b : Bool) : (if p then D.bl a else D.bl b) = D.bl (if p then a else b) := by split <;> rfl
@[simp] theorem ite_int {p : Prop} [Decidable p] (a b : Int) : (if p then D.int a else D.int b) = D.int (if p then a else b) := by split <;> rfl
@[simp] theorem ite_rt {p : Prop} [Decidable p] (a b : Val) : (if p then Out.rt a ρ else Out.rt b ρ) = Out.rt (if p then a else b) ρ := by split <;> rfl
end
/-! data -/
@[simp] theorem aAdd_int (i j : Int) : aAdd (.int i) (.int j) = some (.imm (.int (i + j))) := rfl
@[simp] theorem aAddI_int (i j : Int) : aAddI (.int i) (.int j) = some (.imm (.int (i + j))) := rfl
@[simp] theorem aAdd_tup (xs ys : List D) : aAdd (.tup xs) (.tup ys) = if xs.length + ys.length ≤ 16777216 then some (.imm (.tup (xs ++ ys))) else none := rfl
@[simp] theorem aSub_int (i j : Int) : aSub (.int i) (.int j) = some (.imm (.int (i - j))) := rfl
@[simp] theorem aMul_int (i j : Int) : aMul (.int i) (.int j) = if (small64 i || small64 j) = true then some (.imm (.int (i * j))) else none := rfl
@[simp] theorem aMul_tup (xs : List D) (k : Int) : aMul (.tup xs) (.int k) = if -1000000 ≤ k ∧ k ≤ 1000 ∧ xs.length ≤ 1000 then some (.imm (.tup (List.replicate k.toNat xs).flatten)) else none := rfl
@[simp] theorem aDiv_int (i j : Int) : aDiv (.int i) (.int j) = if 0 < j ∧ j < 1073741824 then some (.imm (.int (i / j))) else none := rfl
@[simp] theorem aMod_int (i j : Int) : aMod (.int i) (.int j) = if 0 < j then some (.imm (.int (i % j))) else none := rfl
@[simp] theorem aPow_int (i j : Int) : aPow (.int i) (.int j) = if 0 ≤ j ∧ j ≤ 1000000 ∧ i.natAbs < 2 ^ 64 then some (.imm (.int (i ^ j.toNat))) else none := rfl
@[simp] theorem aLt_int (i j : Int) : aLt (.int i) (.int j) = some (.imm (.bl (decide (i < j)))) := rfl
@[simp] theorem aLe_int (i j : Int) : aLe (.int i) (.int j) = some (.imm (.bl (decide (i ≤ j)))) := rfl
@[simp] theorem aGt_int (i j : Int) : aGt (.int i) (.int j) = some (.imm (.bl (decide (j < i)))) := rfl
@[simp] theorem aGe_int (i j : Int) : aGe (.int i) (.int j) = some (.imm (.bl (decide (j ≤ i)))) := rfl
@[simp] theorem aEq_int (i j : Int) : aEq (.int i) (.int j) = some (.imm (.bl (decide (i = j)))) := rfl
@[simp] theorem aEq_str (i j : PySem.Str) : aEq (.str i) (.str j) = some (.imm (.bl (decide (i = j)))) := rfl
@[simp] theorem aNe_int (i j : Int) : aNe (.int i) (.int j) = some (.imm (.bl (!decide (i = j)))) := rfl
@[simp] theorem aNe_str (i j : PySem.Str) : aNe (.str i) (.str j) = some (.imm (.bl (!decide (i = j)))) := rfl
@[simp] theorem aIs_bb (i j : Bool) : aIs (.bl i) (.bl j) = some (.imm (.bl (decide (i = j)))) := rfl
@[simp] theorem aIsNot_bl (i j : Bool) : aIsNot (.bl i) (.bl j) = some (.imm (.bl (!decide (i = j)))) := rfl
@[simp] theorem aLen_tup (xs : List D) : aLen (.tup xs) = some (.imm (.int xs.length)) := rfl
@[simp] theorem aLen_lst (xs : List D) : aLen (.lst xs) = some (.imm (.int xs.length)) := rfl
@[simp] theorem aLen_scr (xs : List Int) : aLen (.scr xs) = some (.imm (.int xs.length)) := rfl
@[simp] theorem aTuple_tup (xs : List D) : aTuple (.tup xs) = some (.imm (.tup xs)) := rfl
@[simp] theorem aTuple_lst (xs : List D) : aTuple (.lst xs) = some (.imm (.tup xs)) := rfl
@[simp] theorem aList_tup (xs : List D) : aList (.tup xs) = some (.own (.lst xs)) := rfl
@[simp] theorem aList_lst (xs : List D) : aList (.lst xs) = some (.own (.lst xs)) := rfl
@[simp] theorem aInt_int (i : Int) : aInt (.int i) = some (.imm (.int i)) := rfl
@[simp] theorem aAbs_int (i : Int) : aAbs (.int i) = some (.imm (.int (if i < 0 then -i else i))) := rfl
@[simp] theorem aMin2_int (i j : Int) : aMin2 (.int i) (.int j) = some (.imm (.int (if j < i then j else i))) := rfl
@[simp] theorem aMax2_int (i j : Int) : aMax2 (.int i) (.int j) = some (.imm (.int (if j > i then j else i))) := rfl
@[simp] theorem aIsi_d (T : Ty6) (d : D) : aIsi T d = some (.imm (.bl (isD T d))) := rfl
@[simp] theorem aRev_tup (xs : List D) : aRev (.tup xs) = some (.imm (.tup xs.reverse)) := rfl
@[simp] theorem blsD_map {α : Type} (xs : List α) (f : α → Bool) : blsD (xs.map fun x => .bl (f x)) = some (xs.map f) := by
  induction xs with
  | nil => rfl
  | cons x xs ih => simp [blsD, ih]
@[simp] theorem intsD_mapf {α : Type} (xs : List α) (f : α → Int) : intsD (xs.map fun x => .int (f x)) = some (xs.map f) := by
  induction xs with
  | nil => rfl
  | cons x xs ih => simp [intsD, ih]
@[simp] theorem intsD_int (xs : List Int) : intsD (xs.map .int) = some xs := by
  have := intsD_mapf xs id
  simpa using this
@[simp] theorem aAll_map {α : Type} (xs : List α) (f : α → Bool) : aAll (.lst (xs.map fun x => .bl (f x))) = some (.imm (.bl (xs.all f))) := by
  simp [aAll]
@[simp] theorem aAny_map {α : Type} (xs : List α) (f : α → Bool) : aAny (.lst (xs.map fun x => .bl (f x))) = some (.imm (.bl (xs.any f))) := by
  simp [aAny]
theorem aIx_nat {xs : List D} {i : Nat} {d : D} (h : xs[i]? = some d) : aIx (.tup xs) (.int i) = some (.imm d) := by
  have hi : i < xs.length := by
    rcases Nat.lt_or_ge i xs.length with z | z
    · exact z
    · rw [List.getElem?_eq_none z] at h; cases h
  have e : L2.ixN xs.length (i : Int) = some i := by
    unfold L2.ixN
    rw [if_pos (by omega), if_pos (by omega)]
    simp
  simp only [aIx, L2.atI, e, Option.bind_some, h, Option.map_some]
/-! loops -/
def forS (t : Tgt) (body : SS) (d : D) (ρ : Rho) : Out := match bindT t d ρ with
  | none => .bad
  | some ρ1 => match body ρ1 with
    | .nx ρ2 => .nx ρ2
    | .ct ρ2 => .nx ρ2
    | .bk ρ2 => .bk ρ2
    | .rt v ρ2 => .rt v ρ2
    | .exc x ρ2 => .exc x ρ2
    | .bad => .bad
theorem forL_cons (t : Tgt) (body : SS) (d : D) (ds : List D) (ρ : Rho) : forL t body (d :: ds) ρ = (match forS t body d ρ with
    | .nx ρ2 => forL t body ds ρ2
    | .bk ρ2 => .nx ρ2
    | .rt v ρ2 => .rt v ρ2
    | .exc x ρ2 => .exc x ρ2
    | _ => .bad) := by
  rw [forL, forS]
  cases bindT t d ρ with
  | none => rfl
  | some ρ1 => simp only []; cases body ρ1 <;> rfl
theorem forL_nil (t : Tgt) (body : SS) (ρ : Rho) : forL t body [] ρ = .nx ρ := rfl
/-- a loop that goes on to its end; n: how many turns are left -/
theorem forL_nx {t : Tgt} {body : SS} (I : Nat → Rho → Prop) : ∀ (ds : List D) (ρ : Rho), I ds.length ρ → (∀ n d ρ, d ∈ ds → I (n + 1) ρ → ∃ ρ2, forS t body d ρ = .nx ρ2 ∧ I n ρ2) → ∃ ρ2, forL t body ds ρ = .nx ρ2 ∧ I 0 ρ2
  | [], ρ, h, _ => ⟨ρ, rfl, h⟩
  | d :: ds, ρ, h, k => by
    obtain ⟨ρ1, e, i⟩ := k ds.length d ρ (by simp) h
    obtain ⟨ρ2, e2, i2⟩ := forL_nx I ds ρ1 i fun n d' ρ' m => k n d' ρ' (List.mem_cons_of_mem _ m)
    exact ⟨ρ2, by rw [forL_cons, e]; exact e2, i2⟩
/-- comprehensions: one turn -/
def lcS (vs : List Nat) (t : Tgt) (c : TT') (f : EE) (d : D) (ρ : Rho) : R (Option D) := match bindT t d (wipeR ρ vs) with
  | none => .bad
  | some ρ1 => match c ρ1 with
    | .ok b ρ2 => if b = true then match f ρ2 with
        | .ok v ρ3 => match vImm v with
          | some d' => .ok (some d') ρ3
          | none => .bad
        | _ => .bad
      else .ok none ρ2
    | _ => .bad
theorem lcL_nil (vs : List Nat) (t : Tgt) (c : TT') (f : EE) (acc : List D) (ρ : Rho) : lcL vs t c f [] acc ρ = .ok acc (wipeR ρ vs) := rfl
theorem lcL_cons (vs : List Nat) (t : Tgt) (c : TT') (f : EE) (d : D) (ds acc : List D) (ρ : Rho) : lcL vs t c f (d :: ds) acc ρ = (match lcS vs t c f d ρ with
    | .ok none ρ2 => lcL vs t c f ds acc ρ2
    | .ok (some d') ρ2 => lcL vs t c f ds (acc ++ [d']) ρ2
    | _ => .bad) := by
  rw [lcL, lcS]
  cases bindT t d (wipeR ρ vs) with
  | none => rfl
  | some ρ1 =>
    simp only []
    cases c ρ1 with
    | bad => rfl
    | exc x ρ2 => rfl
    | ok b ρ2 =>
      cases b with
      | false => rfl
      | true =>
        simp only []
        cases f ρ2 with
        | bad => rfl
        | exc x ρ3 => rfl
        | ok v ρ3 => simp only []; cases vImm v <;> rfl
/-- a comprehension without a trace: its frame stays -/
theorem lcL_pure {vs : List Nat} {t : Tgt} {c : TT'} {f : EE} (F : D → Option D) (ρ0 : Rho) : ∀ (ds acc : List D) (ρ : Rho), wipeR ρ vs = ρ0 → (∀ d ρ, d ∈ ds → wipeR ρ vs = ρ0 → ∃ ρ', lcS vs t c f d ρ = .ok (F d) ρ' ∧ wipeR ρ' vs = ρ0) →
    lcL vs t c f ds acc ρ = .ok (acc ++ ds.filterMap F) ρ0
  | [], acc, ρ, w, _ => by rw [lcL_nil, w]; simp
  | d :: ds, acc, ρ, w, h => by
    obtain ⟨ρ', e, w'⟩ := h d ρ (by simp) w
    rw [lcL_cons, e]
    cases ed : F d with
    | none => simp only []; rw [lcL_pure F ρ0 ds acc ρ' w' fun d' r m => h d' r (List.mem_cons_of_mem _ m)]; simp [ed]
    | some d1 => simp only []; rw [lcL_pure F ρ0 ds _ ρ' w' fun d' r m => h d' r (List.mem_cons_of_mem _ m)]; simp [ed]
/-- a comprehension with a trace -/
theorem lcL_inv {vs : List Nat} {t : Tgt} {c : TT'} {f : EE} (I : Nat → Rho → Prop) (P : D → Prop) (hw : ∀ n ρ, I n ρ → I n (wipeR ρ vs)) : ∀ (ds acc : List D) (ρ : Rho), I ds.length ρ →
    (∀ n d ρ, d ∈ ds → I (n + 1) ρ → ∃ o ρ', lcS vs t c f d ρ = .ok o ρ' ∧ (∀ x, o = some x → P x) ∧ I n ρ') →
    ∃ out ρ', lcL vs t c f ds acc ρ = .ok (acc ++ out) ρ' ∧ (∀ x ∈ out, P x) ∧ out.length ≤ ds.length ∧ I 0 ρ'
  | [], acc, ρ, h, _ => ⟨[], _, by rw [lcL_nil]; simp, by simp, by simp, hw _ _ h⟩
  | d :: ds, acc, ρ, h, k => by
    obtain ⟨o, ρ1, e, po, i⟩ := k ds.length d ρ (by simp) h
    have k' := fun n d' ρ' (m : d' ∈ ds) => k n d' ρ' (List.mem_cons_of_mem _ m)
    cases o with
    | none =>
      obtain ⟨out, ρ2, e2, p2, l2, i2⟩ := lcL_inv I P hw ds acc ρ1 i k'
      exact ⟨out, ρ2, by rw [lcL_cons, e]; exact e2, p2, by simp; omega, i2⟩
    | some x =>
      obtain ⟨out, ρ2, e2, p2, l2, i2⟩ := lcL_inv I P hw ds (acc ++ [x]) ρ1 i k'
      refine ⟨x :: out, ρ2, by rw [lcL_cons, e]; simp only []; rw [e2]; simp, fun y m => ?_, by simp; omega, i2⟩
      rcases List.mem_cons.mp m with rfl | m
      · exact po _ rfl
      · exact p2 y m
end FW

namespace Com
open PySem PySem.Spec PyProof.Rows L2 FW
noncomputable def b__law_begun : SS := (sSeq (sSet 1 (eLc [2] (iLst' (eVar 0)) (.nm 2) (tE (e2 (two aGe) (eOp (one aAbs) (eCons (eVar 2) eNil)) (e2 (two aPow) (eC (.int 10)) (eC (.int 18))))) (e2 (two aSub) (eOp (one aAbs) (eCons (eVar 2) eNil)) (e2 (two aPow) (eC (.int 10)) (eC (.int 18))))))
  (sRet (eDNew (eMv 1) (eLc [2] (iLst' (eVar 0)) (.nm 2) tYes' (eOp (one aAbs) (eCons (eVar 2) eNil))))))
noncomputable def m__law_begun := mkP 1 3 b__law_begun

noncomputable def b__law_blended : SS := (sSeq (sPar 1 2 (eCons (e2 (two aAdd) (eDGet 0 .turn) (eC (.int 1))) (eCons (eC (.int 0)) eNil)))
  (sSeq (sDSet 0 .turn (eVar 1))
  (sSeq (sFor (.nm 3) (iLst' (eLst (eCons (eC (.int 2147483399)) (eCons (eC (.int 2147483353)) (eCons (eC (.int 2147483323)) eNil)))))
  (sSeq (sSet 4 (e2 (two aAdd) (e2 (two aMul) (eC (.int 41011)) (eVar 1)) (e2 (two aDiv) (eVar 3) (eC (.int 67)))))
  (sSeq (sFor (.nm 5) (iLst' (eDCells 0))
  (sSet 4 (e2 (two aMod) (eOp (one aInt) (eCons (e2 (two aAdd) (e2 (two aAdd) (e2 (two aMul) (eVar 4) (eC (.int 61283))) (eVar 5)) (eVar 1)) eNil)) (eVar 3))))
  (sSet 2 (e2 (two aAdd) (e2 (two aMul) (eVar 2) (eC (.int 2147483647))) (e2 (two aMod) (eOp (one aInt) (eCons (e2 (two aPow) (eVar 4) (eC (.int 5))) eNil)) (eVar 3)))))))
  (sRet (eMv 2)))))
noncomputable def m__law_blended := mkR 1 6 b__law_blended

noncomputable def b__law_draw : SS := (sSeq (sIf (tE (e2 (two aEq) (eDGet 0 .rest) (eC (.int 0))))
  (sDSet 0 .rest (eIf (tDNe 0) (eDPop 0) (eCallR m__law_blended (eCons (eVar 0) eNil))))
  sNx)
  (sSeq (sSet 2 (e2 (two aMod) (eOp (one aInt) (eCons (eDGet 0 .rest) eNil)) (eVar 1)))
  (sSeq (sDSet 0 .rest (e2 (two aDiv) (eDGet 0 .rest) (eVar 1)))
  (sRet (eMv 2)))))
noncomputable def m__law_draw := mkR 2 3 b__law_draw

noncomputable def b__law_pick : SS := (sRet (e2 (two aIx) (eVar 1) (eCallR m__law_draw (eCons (eVar 0) (eCons (eOp (one aLen) (eCons (eVar 1) eNil)) eNil)))))
noncomputable def m__law_pick := mkR 2 2 b__law_pick

noncomputable def b__law_is_truth : SS := (sRet (eIf (tTru (eVar 1)) (e2 (two aIs) (eVar 0) (eC (.bl true))) (e2 (two aIs) (eVar 0) (eC (.bl false)))))
noncomputable def m__law_is_truth := mkP 2 2 b__law_is_truth

noncomputable def b__law_word : SS := (sSeq (sPar 3 4 (eCons (eCallR m__law_draw (eCons (eVar 0) (eCons (eC (.int 5)) eNil))) (eCons (eCallR m__law_draw (eCons (eVar 0) (eCons (e2 (two aAdd) (eVar 2) (eC (.int 1))) eNil))) eNil)))
  (sSeq (sIf (tE (e2 (two aEq) (eVar 3) (eC (.int 0))))
  (sRet (e2 (two aMul) (eTup (eCons (eCallR m__law_draw (eCons (eVar 0) (eCons (eVar 1) eNil))) eNil)) (eVar 4)))
  sNx)
  (sSeq (sIf (tE (e2 (two aEq) (eVar 3) (eC (.int 1))))
  (sSeq (sSet 5 (eCallR m__law_draw (eCons (eVar 0) (eCons (eVar 1) eNil))))
  (sRet (eOp (one aTuple) (eCons (eLc [6] (iRng1' (eCons (eVar 4) eNil)) (.nm 6) tYes' (e2 (two aMod) (eOp (one aInt) (eCons (e2 (two aAdd) (eVar 5) (eVar 6)) eNil)) (eVar 1))) eNil))))
  sNx)
  (sSeq (sIf (tE (e2 (two aEq) (eVar 3) (eC (.int 2))))
  (sSeq (sSet 7 (eTup eNil))
  (sSeq (sWhile (tE (e2 (two aLt) (eOp (one aLen) (eCons (eVar 7) eNil)) (eVar 4)))
  (sSet 7 (e2 (two aAdd) (eVar 7) (e2 (two aMul) (eTup (eCons (eCallR m__law_draw (eCons (eVar 0) (eCons (eVar 1) eNil))) eNil)) (e2 (two aAdd) (eC (.int 1)) (eCallR m__law_draw (eCons (eVar 0) (eCons (eC (.int 5)) eNil))))))))
  (sRet (eSl01 (eVar 7) (eVar 4)))))
  sNx)
  (sRet (eOp (one aTuple) (eCons (eLc [6] (iRng1' (eCons (eVar 4) eNil)) (.nm 6) tYes' (eCallR m__law_draw (eCons (eVar 0) (eCons (eVar 1) eNil)))) eNil)))))))
noncomputable def m__law_word := mkR 3 8 b__law_word

noncomputable def b__law_off : SS := (sSeq (sSet 5 (eOp (one aList) (eCons (eVar 1) eNil)))
  (sSeq (sFor (.nm 6) (iRng1' (eCons (eCallR m__law_draw (eCons (eVar 0) (eCons (e2 (two aAdd) (eVar 3) (eC (.int 1))) eNil))) eNil))
  (sSeq (sSet 7 (eCallR m__law_draw (eCons (eVar 0) (eCons (eC (.int 3)) eNil))))
  (sIf (tAnd' (tE (e2 (two aEq) (eVar 7) (eC (.int 0)))) (tE (e2 (two aNe) (eVar 5) (eLst eNil))))
  (sExpr (eMut 5 mPopAt (eCons (eCallR m__law_draw (eCons (eVar 0) (eCons (eOp (one aLen) (eCons (eVar 5) eNil)) eNil))) eNil)))
  (sIf (tAnd' (tE (e2 (two aEq) (eVar 7) (eC (.int 1)))) (tE (e2 (two aLt) (eOp (one aLen) (eCons (eVar 5) eNil)) (eVar 4))))
  (sExpr (eMut 5 mIns (eCons (eCallR m__law_draw (eCons (eVar 0) (eCons (e2 (two aAdd) (eOp (one aLen) (eCons (eVar 5) eNil)) (eC (.int 1))) eNil))) (eCons (eCallR m__law_draw (eCons (eVar 0) (eCons (eVar 2) eNil))) eNil))))
  (sIf (tE (e2 (two aNe) (eVar 5) (eLst eNil)))
  (sSetIx 5 (eCallR m__law_draw (eCons (eVar 0) (eCons (eVar 2) eNil))) (eCallR m__law_draw (eCons (eVar 0) (eCons (eOp (one aLen) (eCons (eVar 5) eNil)) eNil))))
  sNx)))))
  (sRet (eOp (one aTuple) (eCons (eVar 5) eNil)))))
noncomputable def m__law_off := mkR 5 8 b__law_off
end Com

namespace K02
open PySem PySem.Spec PyProof.Rows L2 FW
noncomputable def b_is_counted : SS := (sRet (eAnd (e1 (one (aIsi .int)) (eVar 0)) (eAnd (eNot (e1 (one (aIsi .bool)) (eVar 0))) (eChain (fun i j => decide (i ≤ j)) (fun i j => decide (i ≤ j)) (eVar 1) (eVar 0) (eVar 2)))))
noncomputable def m_is_counted := mkP 3 3 b_is_counted

noncomputable def b_is_spelt : SS := (sSeq (sIf (tOr' (tNot' (tTru (e1 (one (aIsi .tuple)) (eVar 0)))) (tE (e2 (two aGt) (eOp (one aLen) (eCons (eVar 0) eNil)) (eVar 2))))
  (sRet (eC (.bl false)))
  sNx)
  (sRet (eOp (one aAll) (eCons (eLc [3] (iTup' (eVar 0)) (.nm 3) tYes' (eCall m_is_counted (eCons (eVar 3) (eCons (eC (.int 0)) (eCons (e2 (two aSub) (eVar 1) (eC (.int 1))) eNil))))) eNil))))
noncomputable def m_is_spelt := mkP 3 4 b_is_spelt

noncomputable def b_is_word : SS := (sRet (eCall m_is_spelt (eCons (eVar 0) (eCons (eC (.int 4)) (eCons (eC (.int 24)) eNil)))))
noncomputable def m_is_word := mkP 1 1 b_is_word

noncomputable def b_want_word : SS := (sIf (tNot' (tTru (eCall m_is_word (eCons (eVar 0) eNil))))
  sNever
  sNx)
noncomputable def m_want_word := mkP 1 1 b_want_word

noncomputable def b_want_words : SS := (sSeq (sExpr (eCall m_want_word (eCons (eVar 0) eNil)))
  (sExpr (eCall m_want_word (eCons (eVar 1) eNil))))
noncomputable def m_want_words := mkP 2 2 b_want_words

noncomputable def b_leftmost : SS := (sSeq (sPar 2 3 (eCons (eLst eNil) (eCons (eC (.int 0)) eNil)))
  (sSeq (sFor (.nm 4) (iTup' (eVar 1))
  (sSeq (sWhile (tAnd' (tE (e2 (two aLt) (eVar 3) (eOp (one aLen) (eCons (eVar 0) eNil)))) (tE (e2 (two aNe) (e2 (two aIx) (eVar 0) (eVar 3)) (eVar 4))))
  (sSet 3 (e2 (two aAddI) (eVar 3) (eC (.int 1)))))
  (sSeq (sIf (tE (e2 (two aEq) (eVar 3) (eOp (one aLen) (eCons (eVar 0) eNil))))
  sBk
  sNx)
  (sSeq (sExpr (eMut 2 mApp (eCons (eVar 3) eNil)))
  (sSet 3 (e2 (two aAddI) (eVar 3) (eC (.int 1))))))))
  (sRet (eMv 2))))
noncomputable def m_leftmost := mkP 2 5 b_leftmost

noncomputable def b_part_paper : SS := (sSeq (sExpr (eCall m_want_words (eCons (eVar 0) (eCons (eVar 1) eNil))))
  (sSeq (sSet 2 (eOp (one aTuple) (eCons (eCall m_leftmost (eCons (eVar 0) (eCons (eVar 1) eNil))) eNil)))
  (sRet (eIf (tE (e2 (two aEq) (eOp (one aLen) (eCons (eVar 2) eNil)) (eOp (one aLen) (eCons (eVar 1) eNil)))) (eTup (eCons (eC (.str "places")) (eCons (eVar 2) eNil))) (eTup (eCons (eC (.str "stops")) (eCons (eVar 2) eNil)))))))
noncomputable def m_part_paper := mkP 2 3 b_part_paper

noncomputable def b_are_places : SS := (sSeq (sIf (tOr' (tNot' (tTru (e1 (one (aIsi .tuple)) (eVar 2)))) (tE (e2 (two aNe) (eOp (one aLen) (eCons (eVar 2) eNil)) (eOp (one aLen) (eCons (eVar 1) eNil)))))
  (sRet (eC (.bl false)))
  sNx)
  (sSeq (sIf (tNot' (tTru (eOp (one aAll) (eCons (eLc [3] (iTup' (eVar 2)) (.nm 3) tYes' (eCall m_is_counted (eCons (eVar 3) (eCons (eC (.int 0)) (eCons (e2 (two aSub) (eOp (one aLen) (eCons (eVar 0) eNil)) (eC (.int 1))) eNil))))) eNil))))
  (sRet (eC (.bl false)))
  sNx)
  (sSeq (sIf (tTru (eOp (one aAny) (eCons (eLc [4, 5] (iZipT' (eCons (eVar 2) (eCons (eSl10 (eVar 2) (eC (.int 1))) eNil))) (.tp [(.nm 4), (.nm 5)]) tYes' (e2 (two aGe) (eVar 4) (eVar 5))) eNil)))
  (sRet (eC (.bl false)))
  sNx)
  (sRet (eOp (one aAll) (eCons (eLc [3, 6] (iZipT' (eCons (eVar 2) (eCons (eVar 1) eNil))) (.tp [(.nm 3), (.nm 6)]) tYes' (e2 (two aEq) (e2 (two aIx) (eVar 0) (eVar 3)) (eVar 6))) eNil))))))
noncomputable def m_are_places := mkP 3 7 b_are_places

noncomputable def b_are_stops : SS := (sSeq (sIf (tOr' (tNot' (tTru (e1 (one (aIsi .tuple)) (eVar 2)))) (tE (e2 (two aGe) (eOp (one aLen) (eCons (eVar 2) eNil)) (eOp (one aLen) (eCons (eVar 1) eNil)))))
  (sRet (eC (.bl false)))
  sNx)
  (sSeq (sIf (tNot' (tTru (eCall m_are_places (eCons (eVar 0) (eCons (eSl01 (eVar 1) (eOp (one aLen) (eCons (eVar 2) eNil))) (eCons (eVar 2) eNil))))))
  (sRet (eC (.bl false)))
  sNx)
  (sSeq (sSet 3 (eC (.int 0)))
  (sSeq (sFor (.tp [(.nm 4), (.nm 5)]) (iZipT' (eCons (eVar 2) (eCons (eVar 1) eNil)))
  (sSeq (sIf (tE (e2 (two aIn) (eVar 5) (eSl11 (eVar 0) (eVar 3) (eVar 4))))
  (sRet (eC (.bl false)))
  sNx)
  (sSet 3 (e2 (two aAdd) (eVar 4) (eC (.int 1))))))
  (sRet (e2 (two aNotIn) (e2 (two aIx) (eVar 1) (eOp (one aLen) (eCons (eVar 2) eNil))) (eSl10 (eVar 0) (eVar 3))))))))
noncomputable def m_are_stops := mkP 3 6 b_are_stops

noncomputable def b_is_part_paper : SS := (sSeq (sExpr (eCall m_want_words (eCons (eVar 0) (eCons (eVar 1) eNil))))
  (sSeq (sIf (tOr' (tNot' (tTru (e1 (one (aIsi .tuple)) (eVar 2)))) (tOr' (tE (e2 (two aNe) (eOp (one aLen) (eCons (eVar 2) eNil)) (eC (.int 2)))) (tNot' (tTru (e1 (one (aIsi .str)) (e2 (two aIx) (eVar 2) (eC (.int 0))))))))
  (sRet (eC (.bl false)))
  sNx)
  (sSeq (sIf (tE (e2 (two aEq) (e2 (two aIx) (eVar 2) (eC (.int 0))) (eC (.str "places"))))
  (sRet (eCall m_are_places (eCons (eVar 0) (eCons (eVar 1) (eCons (e2 (two aIx) (eVar 2) (eC (.int 1))) eNil)))))
  sNx)
  (sRet (eAnd (e2 (two aEq) (e2 (two aIx) (eVar 2) (eC (.int 0))) (eC (.str "stops"))) (eCall m_are_stops (eCons (eVar 0) (eCons (eVar 1) (eCons (e2 (two aIx) (eVar 2) (eC (.int 1))) eNil)))))))))
noncomputable def m_is_part_paper := mkP 3 3 b_is_part_paper


noncomputable def b__law_is_place : SS := (sRet (eAnd (e1 (one (aIsi .int)) (eVar 0)) (eAnd (eNot (e1 (one (aIsi .bool)) (eVar 0))) (eChain (fun i j => decide (i ≤ j)) (fun i j => decide (i < j)) (eC (.int 0)) (eVar 0) (eVar 1)))))
noncomputable def m__law_is_place := mkP 2 2 b__law_is_place

noncomputable def b__law_shown : SS := (sSeq (sIf (tOr' (tE (e2 (two aNe) (eLc [3] (iTup' (eVar 1)) (.nm 3) (tNot' (tTru (eCall m__law_is_place (eCons (eVar 3) (eCons (eOp (one aLen) (eCons (eVar 0) eNil)) eNil))))) (eC (.int 1))) (eLst eNil))) (tE (e2 (two aNe) (eOp (one aLen) (eCons (eVar 1) eNil)) (eOp (one aLen) (eCons (eVar 2) eNil)))))
  (sRet (eC (.bl false)))
  sNx)
  (sRet (eAnd (e2 (two aEq) (eLc [4, 5] (iZipT' (eCons (eVar 1) (eCons (eSl10 (eVar 1) (eC (.int 1))) eNil))) (.tp [(.nm 4), (.nm 5)]) (tE (e2 (two aGe) (eVar 4) (eVar 5))) (eC (.int 1))) (eLst eNil)) (e2 (two aEq) (eOp (one aTuple) (eCons (eLc [3] (iTup' (eVar 1)) (.nm 3) tYes' (e2 (two aIx) (eVar 0) (eVar 3))) eNil)) (eVar 2)))))
noncomputable def m__law_shown := mkP 3 6 b__law_shown

noncomputable def b__law_judged : SS := (sSeq (sIf (tOr' (tNot' (tTru (e1 (one (aIsi .tuple)) (eVar 2)))) (tOr' (tE (e2 (two aNe) (eOp (one aLen) (eCons (eVar 2) eNil)) (eC (.int 2)))) (tOr' (tNot' (tTru (e1 (one (aIsi .str)) (e2 (two aIx) (eVar 2) (eC (.int 0)))))) (tNot' (tTru (e1 (one (aIsi .tuple)) (e2 (two aIx) (eVar 2) (eC (.int 1)))))))))
  (sRet (eC (.bl false)))
  sNx)
  (sSeq (sUnp (.tp [(.nm 3), (.nm 4)]) (eVar 2))
  (sSeq (sIf (tE (e2 (two aEq) (eVar 3) (eC (.str "places"))))
  (sRet (eCall m__law_shown (eCons (eVar 0) (eCons (eVar 4) (eCons (eVar 1) eNil)))))
  sNx)
  (sSeq (sIf (tOr' (tE (e2 (two aNe) (eVar 3) (eC (.str "stops")))) (tOr' (tE (e2 (two aGe) (eOp (one aLen) (eCons (eVar 4) eNil)) (eOp (one aLen) (eCons (eVar 1) eNil)))) (tNot' (tTru (eCall m__law_shown (eCons (eVar 0) (eCons (eVar 4) (eCons (eSl01 (eVar 1) (eOp (one aLen) (eCons (eVar 4) eNil))) eNil))))))))
  (sRet (eC (.bl false)))
  sNx)
  (sSeq (sSet 5 (e2 (two aAdd) (e2 (two aAdd) (eTup (eCons (e2 (two aSub) (eC (.int 0)) (eC (.int 1))) eNil)) (eVar 4)) (eTup (eCons (eOp (one aLen) (eCons (eVar 0) eNil)) eNil))))
  (sRet (e2 (two aEq) (eLc [6] (iRng1' (eCons (e2 (two aAdd) (eOp (one aLen) (eCons (eVar 4) eNil)) (eC (.int 1))) eNil)) (.nm 6) (tE (e2 (two aIn) (e2 (two aIx) (eVar 1) (eVar 6)) (eSl11 (eVar 0) (e2 (two aAdd) (e2 (two aIx) (eVar 5) (eVar 6)) (eC (.int 1))) (e2 (two aIx) (eVar 5) (e2 (two aAdd) (eVar 6) (eC (.int 1))))))) (eC (.int 1))) (eLst eNil))))))))
noncomputable def m__law_judged := mkP 3 7 b__law_judged

noncomputable def b__law_altered : SS := (sSeq (sUnp (.tp [(.nm 3), (.nm 4)]) (eVar 2))
  (sSeq (sPar 5 6 (eCons (eCallR Com.m__law_draw (eCons (eVar 0) (eCons (eC (.int 9)) eNil))) (eCons (eCallR Com.m__law_draw (eCons (eVar 0) (eCons (e2 (two aAdd) (eOp (one aLen) (eCons (eVar 4) eNil)) (eC (.int 1))) eNil))) eNil)))
  (sSeq (sIf (tE (e2 (two aEq) (eVar 5) (eC (.int 0))))
  (sRet (eTup (eCons (eVar 3) (eCons (e2 (two aAdd) (eSl01 (eVar 4) (eVar 6)) (eSl10 (eVar 4) (e2 (two aAdd) (eVar 6) (eC (.int 1))))) eNil))))
  sNx)
  (sSeq (sIf (tE (e2 (two aEq) (eVar 5) (eC (.int 1))))
  (sRet (eTup (eCons (eVar 3) (eCons (e2 (two aAdd) (e2 (two aAdd) (eSl01 (eVar 4) (eVar 6)) (eTup (eCons (eCallR Com.m__law_draw (eCons (eVar 0) (eCons (e2 (two aAdd) (eOp (one aLen) (eCons (eVar 1) eNil)) (eC (.int 1))) eNil))) eNil))) (eSl10 (eVar 4) (eVar 6))) eNil))))
  sNx)
  (sSeq (sIf (tE (e2 (two aEq) (eVar 5) (eC (.int 2))))
  (sRet (eTup (eCons (eVar 3) (eCons (e2 (two aAdd) (e2 (two aAdd) (eSl01 (eVar 4) (eVar 6)) (eTup (eCons (e2 (two aSub) (eCallR Com.m__law_draw (eCons (eVar 0) (eCons (e2 (two aAdd) (eOp (one aLen) (eCons (eVar 1) eNil)) (eC (.int 2))) eNil))) (eC (.int 1))) eNil))) (eSl10 (eVar 4) (e2 (two aAdd) (eVar 6) (eC (.int 1))))) eNil))))
  sNx)
  (sSeq (sIf (tE (e2 (two aEq) (eVar 5) (eC (.int 3))))
  (sRet (eTup (eCons (eIf (tE (e2 (two aEq) (eVar 3) (eC (.str "places")))) (eC (.str "stops")) (eC (.str "places"))) (eCons (eVar 4) eNil))))
  sNx)
  (sSeq (sIf (tE (e2 (two aEq) (eVar 5) (eC (.int 4))))
  (sRet (eTup (eCons (eVar 3) (eCons (eOp (one aList) (eCons (eVar 4) eNil)) eNil))))
  sNx)
  (sSeq (sIf (tE (e2 (two aEq) (eVar 5) (eC (.int 5))))
  (sRet (eTup (eCons (eVar 3) (eCons (e2 (two aAdd) (e2 (two aAdd) (eSl01 (eVar 4) (eVar 6)) (eTup (eCons (eCallR Com.m__law_pick (eCons (eVar 0) (eCons (eLst (eCons (eC (.bl true)) (eCons (eC .non) (eCons (eC (.str "0")) (eCons (eTup (eCons (eC (.int 0)) eNil)) (eCons (e2 (two aSub) (eC (.int 0)) (eC (.int 1))) eNil)))))) eNil))) eNil))) (eSl10 (eVar 4) (e2 (two aAdd) (eVar 6) (eC (.int 1))))) eNil))))
  sNx)
  (sSeq (sIf (tE (e2 (two aEq) (eVar 5) (eC (.int 6))))
  (sRet (eCallR Com.m__law_pick (eCons (eVar 0) (eCons (eLst (eCons (eC .non) (eCons (eLst (eCons (eVar 3) (eCons (eVar 4) eNil))) (eCons (eTup (eCons (eVar 3) eNil)) (eCons (eTup (eCons (eVar 3) (eCons (eVar 4) (eCons (eC (.int 0)) eNil)))) (eCons (eTup (eCons (eC (.int 5)) (eCons (eVar 4) eNil))) (eCons (eTup (eCons (eVar 3) (eCons (eC .non) eNil))) (eCons (eVar 3) eNil)))))))) eNil))))
  sNx)
  (sRet (eTup (eCons (eVar 3) (eCons (eIf (tE (e2 (two aEq) (eVar 5) (eC (.int 7)))) (eOp (one aTuple) (eCons (eLc [7] (iTup' (eVar 4)) (.nm 7) tYes' (e2 (two aAdd) (eVar 7) (eC (.int 1)))) eNil)) (eRev (eVar 4))) eNil)))))))))))))
noncomputable def m__law_altered := mkR 3 8 b__law_altered

noncomputable def b_law : SS := (sSeq (sSet 1 (eCall Com.m__law_begun (eCons (eVar 0) eNil)))
  (sSeq (sFor (.nm 2) (iRng1' (eCons (e2 (two aAdd) (eC (.int 8)) (eOp (two aMin2) (eCons (eOp (one aLen) (eCons (eVar 0) eNil)) (eCons (eC (.int 12)) eNil)))) eNil))
  (sSeq (sSet 3 (e2 (two aAdd) (eC (.int 2)) (eCallR Com.m__law_draw (eCons (eVar 1) (eCons (eC (.int 3)) eNil)))))
  (sSeq (sSet 4 (eCallR Com.m__law_word (eCons (eVar 1) (eCons (eVar 3) (eCons (eCallR Com.m__law_pick (eCons (eVar 1) (eCons (eLst (eCons (eC (.int 4)) (eCons (eC (.int 10)) (eCons (eC (.int 24)) eNil)))) eNil))) eNil)))))
  (sSeq (sSet 5 (eIf (tE (e2 (two aEq) (eCallR Com.m__law_draw (eCons (eVar 1) (eCons (eC (.int 2)) eNil))) (eC (.int 0)))) (eOp (one aTuple) (eCons (eLc [6] (iTup' (eVar 4)) (.nm 6) (tE (e2 (two aEq) (eCallR Com.m__law_draw (eCons (eVar 1) (eCons (eC (.int 2)) eNil))) (eC (.int 0)))) (eVar 6)) eNil)) (eCallR Com.m__law_word (eCons (eVar 1) (eCons (eVar 3) (eCons (eC (.int 8)) eNil))))))
  (sSeq (sSet 7 (eCall m_part_paper (eCons (eVar 4) (eCons (eVar 5) eNil))))
  (sSeq (sIf (tOr' (tE (e2 (two aIsNot) (eCall m_is_part_paper (eCons (eVar 4) (eCons (eVar 5) (eCons (eVar 7) eNil)))) (eC (.bl true)))) (tNot' (tTru (eCall m__law_judged (eCons (eVar 4) (eCons (eVar 5) (eCons (eVar 7) eNil)))))))
  (sRet (eC (.bl false)))
  sNx)
  (sSeq (sFor (.nm 8) (iRng1' (eCons (eC (.int 6)) eNil))
  (sSeq (sSet 9 (eCallR m__law_altered (eCons (eVar 1) (eCons (eVar 4) (eCons (eVar 7) eNil)))))
  (sIf (tNot' (tTru (eCall Com.m__law_is_truth (eCons (eCall m_is_part_paper (eCons (eVar 4) (eCons (eVar 5) (eCons (eVar 9) eNil)))) (eCons (eCall m__law_judged (eCons (eVar 4) (eCons (eVar 5) (eCons (eVar 9) eNil)))) eNil)))))
  (sRet (eC (.bl false)))
  sNx)))
  (sSeq (sSet 10 (eCallR Com.m__law_off (eCons (eVar 1) (eCons (eVar 5) (eCons (eVar 3) (eCons (eC (.int 2)) (eCons (eC (.int 24)) eNil)))))))
  (sIf (tNot' (tTru (eCall Com.m__law_is_truth (eCons (eCall m_is_part_paper (eCons (eVar 4) (eCons (eVar 10) (eCons (eVar 7) eNil)))) (eCons (eCall m__law_judged (eCons (eVar 4) (eCons (eVar 10) (eCons (eVar 7) eNil)))) eNil)))))
  (sRet (eC (.bl false)))
  sNx)))))))))
  (sRet (eC (.bl true)))))
noncomputable def m_law := mkP 1 11 b_law
end K02

namespace K02
open PySem PySem.Spec PyProof.Rows L2 FW
def topS (i : Nat) : Stmt := PySem.Challenge.pw_letterslost_k02_papers_on_parts_judged.main.body.getD i (.Pass ⟨0, 0, 0, 0⟩)
abbrev s_is_counted : Stmt := topS 6
abbrev N_is_counted : List Str := ["value", "low", "high"]
theorem sc_is_counted : FnScope N_is_counted ["value", "low", "high"] (defScope s_is_counted) := ⟨rfl, rfl, rfl, by decide +kernel, rfl, by decide +kernel, by decide +kernel⟩
theorem bn_is_counted : Bnd "is_counted" s_is_counted ["value", "low", "high"] := fun _ _ _ _ _ _ us hl => match us, hl with | [_, _, _], _ => rfl

abbrev s_is_spelt : Stmt := topS 7
abbrev N_is_spelt : List Str := ["value", "letters", "most", "letter"]
theorem sc_is_spelt : FnScope N_is_spelt ["value", "letters", "most"] (defScope s_is_spelt) := ⟨rfl, rfl, rfl, by decide +kernel, rfl, by decide +kernel, by decide +kernel⟩
theorem bn_is_spelt : Bnd "is_spelt" s_is_spelt ["value", "letters", "most"] := fun _ _ _ _ _ _ us hl => match us, hl with | [_, _, _], _ => rfl

abbrev s_is_word : Stmt := topS 8
abbrev N_is_word : List Str := ["value"]
theorem sc_is_word : FnScope N_is_word ["value"] (defScope s_is_word) := ⟨rfl, rfl, rfl, by decide +kernel, rfl, by decide +kernel, by decide +kernel⟩
theorem bn_is_word : Bnd "is_word" s_is_word ["value"] := fun _ _ _ _ _ _ us hl => match us, hl with | [_], _ => rfl

abbrev s_want_word : Stmt := topS 9
abbrev N_want_word : List Str := ["word"]
theorem sc_want_word : FnScope N_want_word ["word"] (defScope s_want_word) := ⟨rfl, rfl, rfl, by decide +kernel, rfl, by decide +kernel, by decide +kernel⟩
theorem bn_want_word : Bnd "want_word" s_want_word ["word"] := fun _ _ _ _ _ _ us hl => match us, hl with | [_], _ => rfl

abbrev s_want_words : Stmt := topS 10
abbrev N_want_words : List Str := ["one", "other"]
theorem sc_want_words : FnScope N_want_words ["one", "other"] (defScope s_want_words) := ⟨rfl, rfl, rfl, by decide +kernel, rfl, by decide +kernel, by decide +kernel⟩
theorem bn_want_words : Bnd "want_words" s_want_words ["one", "other"] := fun _ _ _ _ _ _ us hl => match us, hl with | [_, _], _ => rfl

abbrev s_leftmost : Stmt := topS 12
abbrev N_leftmost : List Str := ["word", "part", "places", "here", "letter"]
theorem sc_leftmost : FnScope N_leftmost ["word", "part"] (defScope s_leftmost) := ⟨rfl, rfl, rfl, by decide +kernel, rfl, by decide +kernel, by decide +kernel⟩
theorem bn_leftmost : Bnd "leftmost" s_leftmost ["word", "part"] := fun _ _ _ _ _ _ us hl => match us, hl with | [_, _], _ => rfl

abbrev s_part_paper : Stmt := topS 13
abbrev N_part_paper : List Str := ["word", "part", "places"]
theorem sc_part_paper : FnScope N_part_paper ["word", "part"] (defScope s_part_paper) := ⟨rfl, rfl, rfl, by decide +kernel, rfl, by decide +kernel, by decide +kernel⟩
theorem bn_part_paper : Bnd "part_paper" s_part_paper ["word", "part"] := fun _ _ _ _ _ _ us hl => match us, hl with | [_, _], _ => rfl

abbrev s_are_places : Stmt := topS 14
abbrev N_are_places : List Str := ["word", "part", "value", "place", "first", "second", "letter"]
theorem sc_are_places : FnScope N_are_places ["word", "part", "value"] (defScope s_are_places) := ⟨rfl, rfl, rfl, by decide +kernel, rfl, by decide +kernel, by decide +kernel⟩
theorem bn_are_places : Bnd "are_places" s_are_places ["word", "part", "value"] := fun _ _ _ _ _ _ us hl => match us, hl with | [_, _, _], _ => rfl

abbrev s_are_stops : Stmt := topS 15
abbrev N_are_stops : List Str := ["word", "part", "value", "begin", "mark", "letter"]
theorem sc_are_stops : FnScope N_are_stops ["word", "part", "value"] (defScope s_are_stops) := ⟨rfl, rfl, rfl, by decide +kernel, rfl, by decide +kernel, by decide +kernel⟩
theorem bn_are_stops : Bnd "are_stops" s_are_stops ["word", "part", "value"] := fun _ _ _ _ _ _ us hl => match us, hl with | [_, _, _], _ => rfl

abbrev s_is_part_paper : Stmt := topS 16
abbrev N_is_part_paper : List Str := ["word", "part", "value"]
theorem sc_is_part_paper : FnScope N_is_part_paper ["word", "part", "value"] (defScope s_is_part_paper) := ⟨rfl, rfl, rfl, by decide +kernel, rfl, by decide +kernel, by decide +kernel⟩
theorem bn_is_part_paper : Bnd "is_part_paper" s_is_part_paper ["word", "part", "value"] := fun _ _ _ _ _ _ us hl => match us, hl with | [_, _, _], _ => rfl

abbrev s__law_begun : Stmt := topS 18
abbrev N__law_begun : List Str := ["script", "great", "cell"]
theorem sc__law_begun : FnScope N__law_begun ["script"] (defScope s__law_begun) := ⟨rfl, rfl, rfl, by decide +kernel, rfl, by decide +kernel, by decide +kernel⟩
theorem bn__law_begun : Bnd "_law_begun" s__law_begun ["script"] := fun _ _ _ _ _ _ us hl => match us, hl with | [_], _ => rfl

abbrev s__law_blended : Stmt := topS 19
abbrev N__law_blended : List Str := ["state", "turn", "found", "prime", "blend", "cell"]
theorem sc__law_blended : FnScope N__law_blended ["state"] (defScope s__law_blended) := ⟨rfl, rfl, rfl, by decide +kernel, rfl, by decide +kernel, by decide +kernel⟩
theorem bn__law_blended : Bnd "_law_blended" s__law_blended ["state"] := fun _ _ _ _ _ _ us hl => match us, hl with | [_], _ => rfl

abbrev s__law_draw : Stmt := topS 20
abbrev N__law_draw : List Str := ["state", "room", "found"]
theorem sc__law_draw : FnScope N__law_draw ["state", "room"] (defScope s__law_draw) := ⟨rfl, rfl, rfl, by decide +kernel, rfl, by decide +kernel, by decide +kernel⟩
theorem bn__law_draw : Bnd "_law_draw" s__law_draw ["state", "room"] := fun _ _ _ _ _ _ us hl => match us, hl with | [_, _], _ => rfl

abbrev s__law_pick : Stmt := topS 21
abbrev N__law_pick : List Str := ["state", "some"]
theorem sc__law_pick : FnScope N__law_pick ["state", "some"] (defScope s__law_pick) := ⟨rfl, rfl, rfl, by decide +kernel, rfl, by decide +kernel, by decide +kernel⟩
theorem bn__law_pick : Bnd "_law_pick" s__law_pick ["state", "some"] := fun _ _ _ _ _ _ us hl => match us, hl with | [_, _], _ => rfl

abbrev s__law_is_truth : Stmt := topS 22
abbrev N__law_is_truth : List Str := ["found", "due"]
theorem sc__law_is_truth : FnScope N__law_is_truth ["found", "due"] (defScope s__law_is_truth) := ⟨rfl, rfl, rfl, by decide +kernel, rfl, by decide +kernel, by decide +kernel⟩
theorem bn__law_is_truth : Bnd "_law_is_truth" s__law_is_truth ["found", "due"] := fun _ _ _ _ _ _ us hl => match us, hl with | [_, _], _ => rfl

abbrev s__law_word : Stmt := topS 23
abbrev N__law_word : List Str := ["draws", "kinds", "most", "way", "long", "begin", "spot", "found"]
theorem sc__law_word : FnScope N__law_word ["draws", "kinds", "most"] (defScope s__law_word) := ⟨rfl, rfl, rfl, by decide +kernel, rfl, by decide +kernel, by decide +kernel⟩
theorem bn__law_word : Bnd "_law_word" s__law_word ["draws", "kinds", "most"] := fun _ _ _ _ _ _ us hl => match us, hl with | [_, _, _], _ => rfl

abbrev s__law_off : Stmt := topS 24
abbrev N__law_off : List Str := ["draws", "word", "kinds", "many", "most", "found", "lap", "way"]
theorem sc__law_off : FnScope N__law_off ["draws", "word", "kinds", "many", "most"] (defScope s__law_off) := ⟨rfl, rfl, rfl, by decide +kernel, rfl, by decide +kernel, by decide +kernel⟩
theorem bn__law_off : Bnd "_law_off" s__law_off ["draws", "word", "kinds", "many", "most"] := fun _ _ _ _ _ _ us hl => match us, hl with | [_, _, _, _, _], _ => rfl

abbrev s__law_is_place : Stmt := topS 25
abbrev N__law_is_place : List Str := ["value", "many"]
theorem sc__law_is_place : FnScope N__law_is_place ["value", "many"] (defScope s__law_is_place) := ⟨rfl, rfl, rfl, by decide +kernel, rfl, by decide +kernel, by decide +kernel⟩
theorem bn__law_is_place : Bnd "_law_is_place" s__law_is_place ["value", "many"] := fun _ _ _ _ _ _ us hl => match us, hl with | [_, _], _ => rfl

abbrev s__law_shown : Stmt := topS 26
abbrev N__law_shown : List Str := ["word", "places", "letters", "place", "low", "high"]
theorem sc__law_shown : FnScope N__law_shown ["word", "places", "letters"] (defScope s__law_shown) := ⟨rfl, rfl, rfl, by decide +kernel, rfl, by decide +kernel, by decide +kernel⟩
theorem bn__law_shown : Bnd "_law_shown" s__law_shown ["word", "places", "letters"] := fun _ _ _ _ _ _ us hl => match us, hl with | [_, _, _], _ => rfl

abbrev s__law_judged : Stmt := topS 27
abbrev N__law_judged : List Str := ["word", "part", "value", "kind", "places", "marks", "spot"]
theorem sc__law_judged : FnScope N__law_judged ["word", "part", "value"] (defScope s__law_judged) := ⟨rfl, rfl, rfl, by decide +kernel, rfl, by decide +kernel, by decide +kernel⟩
theorem bn__law_judged : Bnd "_law_judged" s__law_judged ["word", "part", "value"] := fun _ _ _ _ _ _ us hl => match us, hl with | [_, _, _], _ => rfl

abbrev s__law_altered : Stmt := topS 28
abbrev N__law_altered : List Str := ["draws", "word", "value", "kind", "places", "way", "spot", "place"]
theorem sc__law_altered : FnScope N__law_altered ["draws", "word", "value"] (defScope s__law_altered) := ⟨rfl, rfl, rfl, by decide +kernel, rfl, by decide +kernel, by decide +kernel⟩
theorem bn__law_altered : Bnd "_law_altered" s__law_altered ["draws", "word", "value"] := fun _ _ _ _ _ _ us hl => match us, hl with | [_, _, _], _ => rfl

abbrev s_law : Stmt := topS 29
abbrev N_law : List Str := ["script", "draws", "turn", "kinds", "word", "part", "letter", "value", "lap", "other", "near"]
theorem sc_law : FnScope N_law ["script"] (defScope s_law) := ⟨rfl, rfl, rfl, by decide +kernel, rfl, by decide +kernel, by decide +kernel⟩
theorem bn_law : Bnd "law" s_law ["script"] := fun _ _ _ _ _ _ us hl => match us, hl with | [_], _ => rfl
structure Top (K : PySem.W.Frag) (mg : Str → Option Value) : Prop where
  d_is_counted : Def K mg "is_counted" s_is_counted
  d_is_spelt : Def K mg "is_spelt" s_is_spelt
  d_is_word : Def K mg "is_word" s_is_word
  d_want_word : Def K mg "want_word" s_want_word
  d_want_words : Def K mg "want_words" s_want_words
  d_leftmost : Def K mg "leftmost" s_leftmost
  d_part_paper : Def K mg "part_paper" s_part_paper
  d_are_places : Def K mg "are_places" s_are_places
  d_are_stops : Def K mg "are_stops" s_are_stops
  d_is_part_paper : Def K mg "is_part_paper" s_is_part_paper
  d__law_begun : Def K mg "_law_begun" s__law_begun
  d__law_blended : Def K mg "_law_blended" s__law_blended
  d__law_draw : Def K mg "_law_draw" s__law_draw
  d__law_pick : Def K mg "_law_pick" s__law_pick
  d__law_is_truth : Def K mg "_law_is_truth" s__law_is_truth
  d__law_word : Def K mg "_law_word" s__law_word
  d__law_off : Def K mg "_law_off" s__law_off
  d__law_is_place : Def K mg "_law_is_place" s__law_is_place
  d__law_shown : Def K mg "_law_shown" s__law_shown
  d__law_judged : Def K mg "_law_judged" s__law_judged
  d__law_altered : Def K mg "_law_altered" s__law_altered
  d_law : Def K mg "law" s_law
  g_LETTERS : ∃ t, mg "LETTERS" = some (.int 4 t)
  g_LONGEST : ∃ t, mg "LONGEST" = some (.int 24 t)
  b_abs : mg "abs" = none
  b_all : mg "all" = none
  b_any : mg "any" = none
  b_bool : mg "bool" = none
  b_int : mg "int" = none
  b_isinstance : mg "isinstance" = none
  b_len : mg "len" = none
  b_list : mg "list" = none
  b_min : mg "min" = none
  b_range : mg "range" = none
  b_str : mg "str" = none
  b_tuple : mg "tuple" = none
  b_zip : mg "zip" = none
section
variable {P : Program} {w : World} {K : PySem.W.Frag} {mg : Str → Option Value} {base : Heap}
theorem bd_is_counted (T : Top K mg) : BodyOk P w K mg base 0 "is_counted" s_is_counted N_is_counted b_is_counted := fun f cdv A outer s H E hr tk => by
  have nd : N_is_counted.Nodup := sc_is_counted.nd
  exact (z_one (s_ret (v_and (v_isi .int (v_var 0) (by rfl) T.b_isinstance bb_isinstance (by rfl) T.b_int bb_int) (v_and (v_not (v_isi .bool (v_var 0) (by rfl) T.b_isinstance bb_isinstance (by rfl) T.b_bool bb_bool)) (v_one (v_chain op_le op_le (v_var 1) (v_var 0) (v_var 2)))))))
theorem c_is_counted (T : Top K mg) : Cal P w K mg base 1 "is_counted" (spP K mg m_is_counted) := cal_P T.d_is_counted sc_is_counted bn_is_counted (bd_is_counted T)

theorem bd_is_spelt (T : Top K mg) : BodyOk P w K mg base 1 "is_spelt" s_is_spelt N_is_spelt b_is_spelt := fun f cdv A outer s H E hr tk => by
  have nd : N_is_spelt.Nodup := sc_is_spelt.nd
  exact (z_cons (s_if (w_bool (w_or (w_not (w_tru (v_isi .tuple (v_var 0) (by rfl) T.b_isinstance bb_isinstance (by rfl) T.b_tuple bb_tuple))) (w_or1 (w_cmp op_gt p_gt (v_bi c_len p_len (by rfl) T.b_len bb_len (v_cons (v_var 0) v_nil)) (v_var 2)))))
  (z_one (s_ret v_bl))
  z_nil)
  (z_one (s_ret (v_bi (cr_all (by rfl)) p_all (by rfl) T.b_all bb_all (v_cons (v_lc (own := [("letter", 3)]) (by rfl) nd (i_tup (v_var 0)) (blkOk_by (N := N_is_spelt) (sc := defScope s_is_spelt) (by decide +kernel)) (fun _ _ _ _ _ => (g_nm nd)) (fun _ _ _ _ _ => p_nil) (fun _ _ _ _ _ => (v_call (c_is_counted T) (by decide) hr takes0 (by rfl) (v_cons (v_var 3) (v_cons v_int (v_cons (v_bin op_sub p_sub (v_var 1) v_int) v_nil)))))) v_nil)))))
theorem c_is_spelt (T : Top K mg) : Cal P w K mg base 2 "is_spelt" (spP K mg m_is_spelt) := cal_P T.d_is_spelt sc_is_spelt bn_is_spelt (bd_is_spelt T)

theorem bd_is_word (T : Top K mg) : BodyOk P w K mg base 2 "is_word" s_is_word N_is_word b_is_word := fun f cdv A outer s H E hr tk => by
  have nd : N_is_word.Nodup := sc_is_word.nd
  exact (z_one (s_ret (v_call (c_is_spelt T) (by decide) hr tk (by rfl) (v_cons (v_var 0) (v_cons (v_gint (by rfl) T.g_LETTERS) (v_cons (v_gint (by rfl) T.g_LONGEST) v_nil))))))
theorem c_is_word (T : Top K mg) : Cal P w K mg base 3 "is_word" (spP K mg m_is_word) := cal_P T.d_is_word sc_is_word bn_is_word (bd_is_word T)

theorem bd_want_word (T : Top K mg) : BodyOk P w K mg base 3 "want_word" s_want_word N_want_word b_want_word := fun f cdv A outer s H E hr tk => by
  have nd : N_want_word.Nodup := sc_want_word.nd
  exact (z_one (s_if (w_not (w_tru (v_call (c_is_word T) (by decide) hr tk (by rfl) (v_cons (v_var 0) v_nil))))
  (z_one s_never)
  z_nil))
theorem c_want_word (T : Top K mg) : Cal P w K mg base 4 "want_word" (spP K mg m_want_word) := cal_P T.d_want_word sc_want_word bn_want_word (bd_want_word T)

theorem bd_want_words (T : Top K mg) : BodyOk P w K mg base 4 "want_words" s_want_words N_want_words b_want_words := fun f cdv A outer s H E hr tk => by
  have nd : N_want_words.Nodup := sc_want_words.nd
  exact (z_cons (s_expr (v_call (c_want_word T) (by decide) hr tk (by rfl) (v_cons (v_var 0) v_nil)))
  (z_one (s_expr (v_call (c_want_word T) (by decide) hr tk (by rfl) (v_cons (v_var 1) v_nil)))))
theorem c_want_words (T : Top K mg) : Cal P w K mg base 5 "want_words" (spP K mg m_want_words) := cal_P T.d_want_words sc_want_words bn_want_words (bd_want_words T)

theorem bd_leftmost (T : Top K mg) : BodyOk P w K mg base 0 "leftmost" s_leftmost N_leftmost b_leftmost := fun f cdv A outer s H E hr tk => by
  have nd : N_leftmost.Nodup := sc_leftmost.nd
  exact (z_cons (s_par (i := 2) (j := 3) (by rfl) nd (v_cons (v_lst v_nil) (v_cons v_int v_nil)))
  (z_cons (s_for (passes_of rfl) (by rfl) (i_tup (v_var 1)) (g_nm nd)
  (z_cons (s_while (passes_of rfl) (w_bool (w_and (w_cmp op_lt p_lt (v_var 3) (v_bi c_len p_len (by rfl) T.b_len bb_len (v_cons (v_var 0) v_nil))) (w_and1 (w_cmp (o_ne hr) p_ne (v_ix ix_seq p_ix (v_var 0) (v_var 3)) (v_var 4)))))
  (z_one (s_aug (i := 3) nd iop_add p_iadd v_int)))
  (z_cons (s_if (w_cmp (o_eq hr) p_eq (v_var 3) (v_bi c_len p_len (by rfl) T.b_len bb_len (v_cons (v_var 0) v_nil)))
  (z_one s_break)
  z_nil)
  (z_cons (s_expr (v_mut 2 PySem.F.slot_list_append PySem.F.type_list_append mt_append m_app (v_cons (v_var 3) v_nil)))
  (z_one (s_aug (i := 3) nd iop_add p_iadd v_int))))))
  (z_one (s_ret (v_mv 2)))))
theorem c_leftmost (T : Top K mg) : Cal P w K mg base 1 "leftmost" (spP K mg m_leftmost) := cal_P T.d_leftmost sc_leftmost bn_leftmost (bd_leftmost T)

theorem bd_part_paper (T : Top K mg) : BodyOk P w K mg base 5 "part_paper" s_part_paper N_part_paper b_part_paper := fun f cdv A outer s H E hr tk => by
  have nd : N_part_paper.Nodup := sc_part_paper.nd
  exact (z_cons (s_expr (v_call (c_want_words T) (by decide) hr tk (by rfl) (v_cons (v_var 0) (v_cons (v_var 1) v_nil))))
  (z_cons (s_set (i := 2) nd (v_ty call_tuple_of p_tuple (by rfl) T.b_tuple bb_tuple (v_cons (v_call (c_leftmost T) (by decide) hr tk (by rfl) (v_cons (v_var 0) (v_cons (v_var 1) v_nil))) v_nil)))
  (z_one (s_ret (v_if (w_cmp (o_eq hr) p_eq (v_bi c_len p_len (by rfl) T.b_len bb_len (v_cons (v_var 2) v_nil)) (v_bi c_len p_len (by rfl) T.b_len bb_len (v_cons (v_var 1) v_nil))) (v_tup (v_cons v_str (v_cons (v_var 2) v_nil))) (v_tup (v_cons v_str (v_cons (v_var 2) v_nil))))))))
theorem c_part_paper (T : Top K mg) : Cal P w K mg base 6 "part_paper" (spP K mg m_part_paper) := cal_P T.d_part_paper sc_part_paper bn_part_paper (bd_part_paper T)

theorem bd_are_places (T : Top K mg) : BodyOk P w K mg base 1 "are_places" s_are_places N_are_places b_are_places := fun f cdv A outer s H E hr tk => by
  have nd : N_are_places.Nodup := sc_are_places.nd
  exact (z_cons (s_if (w_bool (w_or (w_not (w_tru (v_isi .tuple (v_var 2) (by rfl) T.b_isinstance bb_isinstance (by rfl) T.b_tuple bb_tuple))) (w_or1 (w_cmp (o_ne hr) p_ne (v_bi c_len p_len (by rfl) T.b_len bb_len (v_cons (v_var 2) v_nil)) (v_bi c_len p_len (by rfl) T.b_len bb_len (v_cons (v_var 1) v_nil))))))
  (z_one (s_ret v_bl))
  z_nil)
  (z_cons (s_if (w_not (w_tru (v_bi (cr_all (by rfl)) p_all (by rfl) T.b_all bb_all (v_cons (v_lc (own := [("place", 3)]) (by rfl) nd (i_tup (v_var 2)) (blkOk_by (N := N_are_places) (sc := defScope s_are_places) (by decide +kernel)) (fun _ _ _ _ _ => (g_nm nd)) (fun _ _ _ _ _ => p_nil) (fun _ _ _ _ _ => (v_call (c_is_counted T) (by decide) hr takes0 (by rfl) (v_cons (v_var 3) (v_cons v_int (v_cons (v_bin op_sub p_sub (v_bi c_len p_len (by rfl) T.b_len bb_len (v_cons (v_var 0) v_nil)) v_int) v_nil)))))) v_nil))))
  (z_one (s_ret v_bl))
  z_nil)
  (z_cons (s_if (w_tru (v_bi (cr_any (by rfl)) p_any (by rfl) T.b_any bb_any (v_cons (v_lc (own := [("first", 4), ("second", 5)]) (by rfl) nd (i_zipT (by rfl) T.b_zip (v_cons (v_var 2) (v_cons (v_sl10 (v_var 2) v_int) v_nil))) (blkOk_by (N := N_are_places) (sc := defScope s_are_places) (by decide +kernel)) (fun _ _ _ _ _ => (g_tp (by rfl) (g_cons (g_nm nd) (g_cons (g_nm nd) g_nil)))) (fun _ _ _ _ _ => p_nil) (fun _ _ _ _ _ => (v_cmp op_ge p_ge (v_var 4) (v_var 5)))) v_nil)))
  (z_one (s_ret v_bl))
  z_nil)
  (z_one (s_ret (v_bi (cr_all (by rfl)) p_all (by rfl) T.b_all bb_all (v_cons (v_lc (own := [("place", 3), ("letter", 6)]) (by rfl) nd (i_zipT (by rfl) T.b_zip (v_cons (v_var 2) (v_cons (v_var 1) v_nil))) (blkOk_by (N := N_are_places) (sc := defScope s_are_places) (by decide +kernel)) (fun _ _ _ _ _ => (g_tp (by rfl) (g_cons (g_nm nd) (g_cons (g_nm nd) g_nil)))) (fun _ _ _ _ _ => p_nil) (fun _ _ _ _ _ => (v_cmp (o_eq hr) p_eq (v_ix ix_seq p_ix (v_var 0) (v_var 3)) (v_var 6)))) v_nil)))))))
theorem c_are_places (T : Top K mg) : Cal P w K mg base 2 "are_places" (spP K mg m_are_places) := cal_P T.d_are_places sc_are_places bn_are_places (bd_are_places T)

theorem bd_are_stops (T : Top K mg) : BodyOk P w K mg base 2 "are_stops" s_are_stops N_are_stops b_are_stops := fun f cdv A outer s H E hr tk => by
  have nd : N_are_stops.Nodup := sc_are_stops.nd
  exact (z_cons (s_if (w_bool (w_or (w_not (w_tru (v_isi .tuple (v_var 2) (by rfl) T.b_isinstance bb_isinstance (by rfl) T.b_tuple bb_tuple))) (w_or1 (w_cmp op_ge p_ge (v_bi c_len p_len (by rfl) T.b_len bb_len (v_cons (v_var 2) v_nil)) (v_bi c_len p_len (by rfl) T.b_len bb_len (v_cons (v_var 1) v_nil))))))
  (z_one (s_ret v_bl))
  z_nil)
  (z_cons (s_if (w_not (w_tru (v_call (c_are_places T) (by decide) hr tk (by rfl) (v_cons (v_var 0) (v_cons (v_sl01 (v_var 1) (v_bi c_len p_len (by rfl) T.b_len bb_len (v_cons (v_var 2) v_nil))) (v_cons (v_var 2) v_nil))))))
  (z_one (s_ret v_bl))
  z_nil)
  (z_cons (s_set (i := 3) nd v_int)
  (z_cons (s_for (passes_of rfl) (by rfl) (i_zipT (by rfl) T.b_zip (v_cons (v_var 2) (v_cons (v_var 1) v_nil))) (g_tp (by rfl) (g_cons (g_nm nd) (g_cons (g_nm nd) g_nil)))
  (z_cons (s_if (w_cmp op_in_seq p_in (v_var 5) (v_sl11 (v_var 0) (v_var 3) (v_var 4)))
  (z_one (s_ret v_bl))
  z_nil)
  (z_one (s_set (i := 3) nd (v_bin o_add p_add (v_var 4) v_int)))))
  (z_one (s_ret (v_cmp op_notIn_seq p_notin (v_ix ix_seq p_ix (v_var 1) (v_bi c_len p_len (by rfl) T.b_len bb_len (v_cons (v_var 2) v_nil))) (v_sl10 (v_var 0) (v_var 3)))))))))
theorem c_are_stops (T : Top K mg) : Cal P w K mg base 3 "are_stops" (spP K mg m_are_stops) := cal_P T.d_are_stops sc_are_stops bn_are_stops (bd_are_stops T)

theorem bd_is_part_paper (T : Top K mg) : BodyOk P w K mg base 5 "is_part_paper" s_is_part_paper N_is_part_paper b_is_part_paper := fun f cdv A outer s H E hr tk => by
  have nd : N_is_part_paper.Nodup := sc_is_part_paper.nd
  exact (z_cons (s_expr (v_call (c_want_words T) (by decide) hr tk (by rfl) (v_cons (v_var 0) (v_cons (v_var 1) v_nil))))
  (z_cons (s_if (w_bool (w_or (w_not (w_tru (v_isi .tuple (v_var 2) (by rfl) T.b_isinstance bb_isinstance (by rfl) T.b_tuple bb_tuple))) (w_or (w_cmp (o_ne hr) p_ne (v_bi c_len p_len (by rfl) T.b_len bb_len (v_cons (v_var 2) v_nil)) v_int) (w_or1 (w_not (w_tru (v_isi .str (v_ix ix_seq p_ix (v_var 2) v_int) (by rfl) T.b_isinstance bb_isinstance (by rfl) T.b_str bb_str)))))))
  (z_one (s_ret v_bl))
  z_nil)
  (z_cons (s_if (w_cmp (o_eq hr) p_eq (v_ix ix_seq p_ix (v_var 2) v_int) v_str)
  (z_one (s_ret (v_call (c_are_places T) (by decide) hr tk (by rfl) (v_cons (v_var 0) (v_cons (v_var 1) (v_cons (v_ix ix_seq p_ix (v_var 2) v_int) v_nil))))))
  z_nil)
  (z_one (s_ret (v_and (v_cmp (o_eq hr) p_eq (v_ix ix_seq p_ix (v_var 2) v_int) v_str) (v_one (v_call (c_are_stops T) (by decide) hr tk (by rfl) (v_cons (v_var 0) (v_cons (v_var 1) (v_cons (v_ix ix_seq p_ix (v_var 2) v_int) v_nil)))))))))))
theorem c_is_part_paper (T : Top K mg) : Cal P w K mg base 6 "is_part_paper" (spP K mg m_is_part_paper) := cal_P T.d_is_part_paper sc_is_part_paper bn_is_part_paper (bd_is_part_paper T)

theorem bd__law_begun (T : Top K mg) : BodyOk P w K mg base 0 "_law_begun" s__law_begun N__law_begun Com.b__law_begun := fun f cdv A outer s H E hr tk => by
  have nd : N__law_begun.Nodup := sc__law_begun.nd
  exact (z_cons (s_setLc (i := 1) (own := [("cell", 2)]) (by rfl) nd (i_lst (v_var 0)) (blkOk_by (N := N__law_begun) (sc := defScope s__law_begun) (by decide +kernel)) (fun _ _ _ _ _ => (g_nm nd)) (fun _ _ _ _ _ => (p_one (w_cmp op_ge p_ge (v_bi call_abs p_abs (by rfl) T.b_abs bb_abs (v_cons (v_var 2) v_nil)) (v_bin op_pow p_pow v_int v_int)))) (fun _ _ _ _ _ => (v_bin op_sub p_sub (v_bi call_abs p_abs (by rfl) T.b_abs bb_abs (v_cons (v_var 2) v_nil)) (v_bin op_pow p_pow v_int v_int))) (sw_true (by rfl) (by rfl) (by rfl) (by decide +kernel)))
  (z_one (s_ret (v_dnew (v_mv 1) (v_lc (own := [("cell", 2)]) (by rfl) nd (i_lst (v_var 0)) (blkOk_by (N := N__law_begun) (sc := defScope s__law_begun) (by decide +kernel)) (fun _ _ _ _ _ => (g_nm nd)) (fun _ _ _ _ _ => p_nil) (fun _ _ _ _ _ => (v_bi call_abs p_abs (by rfl) T.b_abs bb_abs (v_cons (v_var 2) v_nil))))))))
theorem c__law_begun (T : Top K mg) : Cal P w K mg base 1 "_law_begun" (spP K mg Com.m__law_begun) := cal_P T.d__law_begun sc__law_begun bn__law_begun (bd__law_begun T)

theorem bd__law_blended (T : Top K mg) : BodyOk P w K mg base 0 "_law_blended" s__law_blended N__law_blended Com.b__law_blended := fun f cdv A outer s H E hr tk => by
  have nd : N__law_blended.Nodup := sc__law_blended.nd
  exact (z_cons (s_par (i := 1) (j := 2) (by rfl) nd (v_cons (v_bin o_add p_add (v_dget 0 .turn hr) v_int) (v_cons v_int v_nil)))
  (z_cons (s_dset 0 .turn hr (v_var 1))
  (z_cons (s_for (passes_of rfl) (by rfl) (i_lst (v_lst (v_cons v_int (v_cons v_int (v_cons v_int v_nil))))) (g_nm nd)
  (z_cons (s_set (i := 4) nd (v_bin o_add p_add (v_bin o_mul p_mul v_int (v_var 1)) (v_bin op_fdiv p_div (v_var 3) v_int)))
  (z_cons (s_for (passes_of rfl) (by rfl) (i_lst (v_dcells 0 hr)) (g_nm nd)
  (z_one (s_set (i := 4) nd (v_bin op_mod p_mod (v_ty call_int1 p_int (by rfl) T.b_int bb_int (v_cons (v_bin o_add p_add (v_bin o_add p_add (v_bin o_mul p_mul (v_var 4) v_int) (v_var 5)) (v_var 1)) v_nil)) (v_var 3)))))
  (z_one (s_set (i := 2) nd (v_bin o_add p_add (v_bin o_mul p_mul (v_var 2) v_int) (v_bin op_mod p_mod (v_ty call_int1 p_int (by rfl) T.b_int bb_int (v_cons (v_bin op_pow p_pow (v_var 4) v_int) v_nil)) (v_var 3))))))))
  (z_one (s_ret (v_mv 2))))))
theorem c__law_blended (T : Top K mg) : Cal P w K mg base 1 "_law_blended" (spR K mg Com.m__law_blended) := cal_R T.d__law_blended sc__law_blended bn__law_blended (bd__law_blended T)

theorem bd__law_draw (T : Top K mg) : BodyOk P w K mg base 1 "_law_draw" s__law_draw N__law_draw Com.b__law_draw := fun f cdv A outer s H E hr tk => by
  have nd : N__law_draw.Nodup := sc__law_draw.nd
  exact (z_cons (s_if (w_cmp (o_eq hr) p_eq (v_dget 0 .rest hr) v_int)
  (z_one (s_dset 0 .rest hr (v_if (w_dne 0 hr) (v_dpop 0 hr) (v_callR (c__law_blended T) (by decide) hr tk (by rfl) (v_cons (v_var 0) v_nil)))))
  z_nil)
  (z_cons (s_set (i := 2) nd (v_bin op_mod p_mod (v_ty call_int1 p_int (by rfl) T.b_int bb_int (v_cons (v_dget 0 .rest hr) v_nil)) (v_var 1)))
  (z_cons (s_dset 0 .rest hr (v_bin op_fdiv p_div (v_dget 0 .rest hr) (v_var 1)))
  (z_one (s_ret (v_mv 2))))))
theorem c__law_draw (T : Top K mg) : Cal P w K mg base 2 "_law_draw" (spR K mg Com.m__law_draw) := cal_R T.d__law_draw sc__law_draw bn__law_draw (bd__law_draw T)

theorem bd__law_pick (T : Top K mg) : BodyOk P w K mg base 2 "_law_pick" s__law_pick N__law_pick Com.b__law_pick := fun f cdv A outer s H E hr tk => by
  have nd : N__law_pick.Nodup := sc__law_pick.nd
  exact (z_one (s_ret (v_ix ix_seq p_ix (v_var 1) (v_callR (c__law_draw T) (by decide) hr tk (by rfl) (v_cons (v_var 0) (v_cons (v_bi c_len p_len (by rfl) T.b_len bb_len (v_cons (v_var 1) v_nil)) v_nil))))))
theorem c__law_pick (T : Top K mg) : Cal P w K mg base 3 "_law_pick" (spR K mg Com.m__law_pick) := cal_R T.d__law_pick sc__law_pick bn__law_pick (bd__law_pick T)

theorem bd__law_is_truth (T : Top K mg) : BodyOk P w K mg base 0 "_law_is_truth" s__law_is_truth N__law_is_truth Com.b__law_is_truth := fun f cdv A outer s H E hr tk => by
  have nd : N__law_is_truth.Nodup := sc__law_is_truth.nd
  exact (z_one (s_ret (v_if (w_tru (v_var 1)) (v_cmp o_is p_is (v_var 0) v_bl) (v_cmp o_is p_is (v_var 0) v_bl))))
theorem c__law_is_truth (T : Top K mg) : Cal P w K mg base 1 "_law_is_truth" (spP K mg Com.m__law_is_truth) := cal_P T.d__law_is_truth sc__law_is_truth bn__law_is_truth (bd__law_is_truth T)

theorem bd__law_word (T : Top K mg) : BodyOk P w K mg base 2 "_law_word" s__law_word N__law_word Com.b__law_word := fun f cdv A outer s H E hr tk => by
  have nd : N__law_word.Nodup := sc__law_word.nd
  exact (z_cons (s_par (i := 3) (j := 4) (by rfl) nd (v_cons (v_callR (c__law_draw T) (by decide) hr tk (by rfl) (v_cons (v_var 0) (v_cons v_int v_nil))) (v_cons (v_callR (c__law_draw T) (by decide) hr tk (by rfl) (v_cons (v_var 0) (v_cons (v_bin o_add p_add (v_var 2) v_int) v_nil))) v_nil)))
  (z_cons (s_if (w_cmp (o_eq hr) p_eq (v_var 3) v_int)
  (z_one (s_ret (v_bin o_mul p_mul (v_tup (v_cons (v_callR (c__law_draw T) (by decide) hr tk (by rfl) (v_cons (v_var 0) (v_cons (v_var 1) v_nil))) v_nil)) (v_var 4))))
  z_nil)
  (z_cons (s_if (w_cmp (o_eq hr) p_eq (v_var 3) v_int)
  (z_cons (s_set (i := 5) nd (v_callR (c__law_draw T) (by decide) hr tk (by rfl) (v_cons (v_var 0) (v_cons (v_var 1) v_nil))))
  (z_one (s_ret (v_ty call_tuple_of p_tuple (by rfl) T.b_tuple bb_tuple (v_cons (v_lc (own := [("spot", 6)]) (by rfl) nd (i_rng1 (by rfl) T.b_range (v_cons (v_var 4) v_nil)) (blkOk_by (N := N__law_word) (sc := defScope s__law_word) (by decide +kernel)) (fun _ _ _ _ _ => (g_nm nd)) (fun _ _ _ _ _ => p_nil) (fun _ _ _ _ _ => (v_bin op_mod p_mod (v_ty call_int1 p_int (by rfl) T.b_int bb_int (v_cons (v_bin o_add p_add (v_var 5) (v_var 6)) v_nil)) (v_var 1)))) v_nil)))))
  z_nil)
  (z_cons (s_if (w_cmp (o_eq hr) p_eq (v_var 3) v_int)
  (z_cons (s_set (i := 7) nd (v_tup v_nil))
  (z_cons (s_while (passes_of rfl) (w_cmp op_lt p_lt (v_bi c_len p_len (by rfl) T.b_len bb_len (v_cons (v_var 7) v_nil)) (v_var 4))
  (z_one (s_set (i := 7) nd (v_bin o_add p_add (v_var 7) (v_bin o_mul p_mul (v_tup (v_cons (v_callR (c__law_draw T) (by decide) hr tk (by rfl) (v_cons (v_var 0) (v_cons (v_var 1) v_nil))) v_nil)) (v_bin o_add p_add v_int (v_callR (c__law_draw T) (by decide) hr tk (by rfl) (v_cons (v_var 0) (v_cons v_int v_nil)))))))))
  (z_one (s_ret (v_sl01 (v_var 7) (v_var 4))))))
  z_nil)
  (z_one (s_ret (v_ty call_tuple_of p_tuple (by rfl) T.b_tuple bb_tuple (v_cons (v_lc (own := [("spot", 6)]) (by rfl) nd (i_rng1 (by rfl) T.b_range (v_cons (v_var 4) v_nil)) (blkOk_by (N := N__law_word) (sc := defScope s__law_word) (by decide +kernel)) (fun _ _ _ _ _ => (g_nm nd)) (fun _ _ _ _ _ => p_nil) (fun _ _ _ _ _ => (v_callR (c__law_draw T) (by decide) hr takes0 (by rfl) (v_cons (v_var 0) (v_cons (v_var 1) v_nil))))) v_nil))))))))
theorem c__law_word (T : Top K mg) : Cal P w K mg base 3 "_law_word" (spR K mg Com.m__law_word) := cal_R T.d__law_word sc__law_word bn__law_word (bd__law_word T)

theorem bd__law_off (T : Top K mg) : BodyOk P w K mg base 2 "_law_off" s__law_off N__law_off Com.b__law_off := fun f cdv A outer s H E hr tk => by
  have nd : N__law_off.Nodup := sc__law_off.nd
  exact (z_cons (s_set (i := 5) nd (v_ty call_list_of p_list (by rfl) T.b_list bb_list (v_cons (v_var 1) v_nil)))
  (z_cons (s_for (passes_of rfl) (by rfl) (i_rng1 (by rfl) T.b_range (v_cons (v_callR (c__law_draw T) (by decide) hr tk (by rfl) (v_cons (v_var 0) (v_cons (v_bin o_add p_add (v_var 3) v_int) v_nil))) v_nil)) (g_nm nd)
  (z_cons (s_set (i := 7) nd (v_callR (c__law_draw T) (by decide) hr tk (by rfl) (v_cons (v_var 0) (v_cons v_int v_nil))))
  (z_one (s_if (w_bool (w_and (w_cmp (o_eq hr) p_eq (v_var 7) v_int) (w_and1 (w_cmp (o_ne hr) p_ne (v_var 5) (v_lst v_nil)))))
  (z_one (s_expr (v_mut 5 PySem.F.slot_list_pop PySem.F.type_list_pop mt_popAt m_popAt (v_cons (v_callR (c__law_draw T) (by decide) hr tk (by rfl) (v_cons (v_var 0) (v_cons (v_bi c_len p_len (by rfl) T.b_len bb_len (v_cons (v_var 5) v_nil)) v_nil))) v_nil))))
  (z_one (s_if (w_bool (w_and (w_cmp (o_eq hr) p_eq (v_var 7) v_int) (w_and1 (w_cmp op_lt p_lt (v_bi c_len p_len (by rfl) T.b_len bb_len (v_cons (v_var 5) v_nil)) (v_var 4)))))
  (z_one (s_expr (v_mut 5 PySem.F.slot_list_insert PySem.F.type_list_insert mt_insert m_ins (v_cons (v_callR (c__law_draw T) (by decide) hr tk (by rfl) (v_cons (v_var 0) (v_cons (v_bin o_add p_add (v_bi c_len p_len (by rfl) T.b_len bb_len (v_cons (v_var 5) v_nil)) v_int) v_nil))) (v_cons (v_callR (c__law_draw T) (by decide) hr tk (by rfl) (v_cons (v_var 0) (v_cons (v_var 2) v_nil))) v_nil)))))
  (z_one (s_if (w_cmp (o_ne hr) p_ne (v_var 5) (v_lst v_nil))
  (z_one (s_setIx 5 (v_callR (c__law_draw T) (by decide) hr tk (by rfl) (v_cons (v_var 0) (v_cons (v_var 2) v_nil))) (pg_sub (pv 5) (v_callR (c__law_draw T) (by decide) hr tk (by rfl) (v_cons (v_var 0) (v_cons (v_bi c_len p_len (by rfl) T.b_len bb_len (v_cons (v_var 5) v_nil)) v_nil))) set_list)))
  z_nil))))))))
  (z_one (s_ret (v_ty call_tuple_of p_tuple (by rfl) T.b_tuple bb_tuple (v_cons (v_var 5) v_nil))))))
theorem c__law_off (T : Top K mg) : Cal P w K mg base 3 "_law_off" (spR K mg Com.m__law_off) := cal_R T.d__law_off sc__law_off bn__law_off (bd__law_off T)

theorem bd__law_is_place (T : Top K mg) : BodyOk P w K mg base 0 "_law_is_place" s__law_is_place N__law_is_place b__law_is_place := fun f cdv A outer s H E hr tk => by
  have nd : N__law_is_place.Nodup := sc__law_is_place.nd
  exact (z_one (s_ret (v_and (v_isi .int (v_var 0) (by rfl) T.b_isinstance bb_isinstance (by rfl) T.b_int bb_int) (v_and (v_not (v_isi .bool (v_var 0) (by rfl) T.b_isinstance bb_isinstance (by rfl) T.b_bool bb_bool)) (v_one (v_chain op_le op_lt v_int (v_var 0) (v_var 1)))))))
theorem c__law_is_place (T : Top K mg) : Cal P w K mg base 1 "_law_is_place" (spP K mg m__law_is_place) := cal_P T.d__law_is_place sc__law_is_place bn__law_is_place (bd__law_is_place T)

theorem bd__law_shown (T : Top K mg) : BodyOk P w K mg base 1 "_law_shown" s__law_shown N__law_shown b__law_shown := fun f cdv A outer s H E hr tk => by
  have nd : N__law_shown.Nodup := sc__law_shown.nd
  exact (z_cons (s_if (w_bool (w_or (w_cmp (o_ne hr) p_ne (v_lc (own := [("place", 3)]) (by rfl) nd (i_tup (v_var 1)) (blkOk_by (N := N__law_shown) (sc := defScope s__law_shown) (by decide +kernel)) (fun _ _ _ _ _ => (g_nm nd)) (fun _ _ _ _ _ => (p_one (w_not (w_tru (v_call (c__law_is_place T) (by decide) hr takes0 (by rfl) (v_cons (v_var 3) (v_cons (v_bi c_len p_len (by rfl) T.b_len bb_len (v_cons (v_var 0) v_nil)) v_nil))))))) (fun _ _ _ _ _ => v_int)) (v_lst v_nil)) (w_or1 (w_cmp (o_ne hr) p_ne (v_bi c_len p_len (by rfl) T.b_len bb_len (v_cons (v_var 1) v_nil)) (v_bi c_len p_len (by rfl) T.b_len bb_len (v_cons (v_var 2) v_nil))))))
  (z_one (s_ret v_bl))
  z_nil)
  (z_one (s_ret (v_and (v_cmp (o_eq hr) p_eq (v_lc (own := [("low", 4), ("high", 5)]) (by rfl) nd (i_zipT (by rfl) T.b_zip (v_cons (v_var 1) (v_cons (v_sl10 (v_var 1) v_int) v_nil))) (blkOk_by (N := N__law_shown) (sc := defScope s__law_shown) (by decide +kernel)) (fun _ _ _ _ _ => (g_tp (by rfl) (g_cons (g_nm nd) (g_cons (g_nm nd) g_nil)))) (fun _ _ _ _ _ => (p_one (w_cmp op_ge p_ge (v_var 4) (v_var 5)))) (fun _ _ _ _ _ => v_int)) (v_lst v_nil)) (v_one (v_cmp (o_eq hr) p_eq (v_ty call_tuple_of p_tuple (by rfl) T.b_tuple bb_tuple (v_cons (v_lc (own := [("place", 3)]) (by rfl) nd (i_tup (v_var 1)) (blkOk_by (N := N__law_shown) (sc := defScope s__law_shown) (by decide +kernel)) (fun _ _ _ _ _ => (g_nm nd)) (fun _ _ _ _ _ => p_nil) (fun _ _ _ _ _ => (v_ix ix_seq p_ix (v_var 0) (v_var 3)))) v_nil)) (v_var 2)))))))
theorem c__law_shown (T : Top K mg) : Cal P w K mg base 2 "_law_shown" (spP K mg m__law_shown) := cal_P T.d__law_shown sc__law_shown bn__law_shown (bd__law_shown T)

theorem bd__law_judged (T : Top K mg) : BodyOk P w K mg base 2 "_law_judged" s__law_judged N__law_judged b__law_judged := fun f cdv A outer s H E hr tk => by
  have nd : N__law_judged.Nodup := sc__law_judged.nd
  exact (z_cons (s_if (w_bool (w_or (w_not (w_tru (v_isi .tuple (v_var 2) (by rfl) T.b_isinstance bb_isinstance (by rfl) T.b_tuple bb_tuple))) (w_or (w_cmp (o_ne hr) p_ne (v_bi c_len p_len (by rfl) T.b_len bb_len (v_cons (v_var 2) v_nil)) v_int) (w_or (w_not (w_tru (v_isi .str (v_ix ix_seq p_ix (v_var 2) v_int) (by rfl) T.b_isinstance bb_isinstance (by rfl) T.b_str bb_str))) (w_or1 (w_not (w_tru (v_isi .tuple (v_ix ix_seq p_ix (v_var 2) v_int) (by rfl) T.b_isinstance bb_isinstance (by rfl) T.b_tuple bb_tuple))))))))
  (z_one (s_ret v_bl))
  z_nil)
  (z_cons (s_unp (v_var 2) (g_tp (by rfl) (g_cons (g_nm nd) (g_cons (g_nm nd) g_nil))))
  (z_cons (s_if (w_cmp (o_eq hr) p_eq (v_var 3) v_str)
  (z_one (s_ret (v_call (c__law_shown T) (by decide) hr tk (by rfl) (v_cons (v_var 0) (v_cons (v_var 4) (v_cons (v_var 1) v_nil))))))
  z_nil)
  (z_cons (s_if (w_bool (w_or (w_cmp (o_ne hr) p_ne (v_var 3) v_str) (w_or (w_cmp op_ge p_ge (v_bi c_len p_len (by rfl) T.b_len bb_len (v_cons (v_var 4) v_nil)) (v_bi c_len p_len (by rfl) T.b_len bb_len (v_cons (v_var 1) v_nil))) (w_or1 (w_not (w_tru (v_call (c__law_shown T) (by decide) hr tk (by rfl) (v_cons (v_var 0) (v_cons (v_var 4) (v_cons (v_sl01 (v_var 1) (v_bi c_len p_len (by rfl) T.b_len bb_len (v_cons (v_var 4) v_nil))) v_nil))))))))))
  (z_one (s_ret v_bl))
  z_nil)
  (z_cons (s_set (i := 5) nd (v_bin o_add p_add (v_bin o_add p_add (v_tup (v_cons (v_bin op_sub p_sub v_int v_int) v_nil)) (v_var 4)) (v_tup (v_cons (v_bi c_len p_len (by rfl) T.b_len bb_len (v_cons (v_var 0) v_nil)) v_nil))))
  (z_one (s_ret (v_cmp (o_eq hr) p_eq (v_lc (own := [("spot", 6)]) (by rfl) nd (i_rng1 (by rfl) T.b_range (v_cons (v_bin o_add p_add (v_bi c_len p_len (by rfl) T.b_len bb_len (v_cons (v_var 4) v_nil)) v_int) v_nil)) (blkOk_by (N := N__law_judged) (sc := defScope s__law_judged) (by decide +kernel)) (fun _ _ _ _ _ => (g_nm nd)) (fun _ _ _ _ _ => (p_one (w_cmp op_in_seq p_in (v_ix ix_seq p_ix (v_var 1) (v_var 6)) (v_sl11 (v_var 0) (v_bin o_add p_add (v_ix ix_seq p_ix (v_var 5) (v_var 6)) v_int) (v_ix ix_seq p_ix (v_var 5) (v_bin o_add p_add (v_var 6) v_int)))))) (fun _ _ _ _ _ => v_int)) (v_lst v_nil)))))))))
theorem c__law_judged (T : Top K mg) : Cal P w K mg base 3 "_law_judged" (spP K mg m__law_judged) := cal_P T.d__law_judged sc__law_judged bn__law_judged (bd__law_judged T)

theorem bd__law_altered (T : Top K mg) : BodyOk P w K mg base 3 "_law_altered" s__law_altered N__law_altered b__law_altered := fun f cdv A outer s H E hr tk => by
  have nd : N__law_altered.Nodup := sc__law_altered.nd
  exact (z_cons (s_unp (v_var 2) (g_tp (by rfl) (g_cons (g_nm nd) (g_cons (g_nm nd) g_nil))))
  (z_cons (s_par (i := 5) (j := 6) (by rfl) nd (v_cons (v_callR (c__law_draw T) (by decide) hr tk (by rfl) (v_cons (v_var 0) (v_cons v_int v_nil))) (v_cons (v_callR (c__law_draw T) (by decide) hr tk (by rfl) (v_cons (v_var 0) (v_cons (v_bin o_add p_add (v_bi c_len p_len (by rfl) T.b_len bb_len (v_cons (v_var 4) v_nil)) v_int) v_nil))) v_nil)))
  (z_cons (s_if (w_cmp (o_eq hr) p_eq (v_var 5) v_int)
  (z_one (s_ret (v_tup (v_cons (v_var 3) (v_cons (v_bin o_add p_add (v_sl01 (v_var 4) (v_var 6)) (v_sl10 (v_var 4) (v_bin o_add p_add (v_var 6) v_int))) v_nil)))))
  z_nil)
  (z_cons (s_if (w_cmp (o_eq hr) p_eq (v_var 5) v_int)
  (z_one (s_ret (v_tup (v_cons (v_var 3) (v_cons (v_bin o_add p_add (v_bin o_add p_add (v_sl01 (v_var 4) (v_var 6)) (v_tup (v_cons (v_callR (c__law_draw T) (by decide) hr tk (by rfl) (v_cons (v_var 0) (v_cons (v_bin o_add p_add (v_bi c_len p_len (by rfl) T.b_len bb_len (v_cons (v_var 1) v_nil)) v_int) v_nil))) v_nil))) (v_sl10 (v_var 4) (v_var 6))) v_nil)))))
  z_nil)
  (z_cons (s_if (w_cmp (o_eq hr) p_eq (v_var 5) v_int)
  (z_one (s_ret (v_tup (v_cons (v_var 3) (v_cons (v_bin o_add p_add (v_bin o_add p_add (v_sl01 (v_var 4) (v_var 6)) (v_tup (v_cons (v_bin op_sub p_sub (v_callR (c__law_draw T) (by decide) hr tk (by rfl) (v_cons (v_var 0) (v_cons (v_bin o_add p_add (v_bi c_len p_len (by rfl) T.b_len bb_len (v_cons (v_var 1) v_nil)) v_int) v_nil))) v_int) v_nil))) (v_sl10 (v_var 4) (v_bin o_add p_add (v_var 6) v_int))) v_nil)))))
  z_nil)
  (z_cons (s_if (w_cmp (o_eq hr) p_eq (v_var 5) v_int)
  (z_one (s_ret (v_tup (v_cons (v_if (w_cmp (o_eq hr) p_eq (v_var 3) v_str) v_str v_str) (v_cons (v_var 4) v_nil)))))
  z_nil)
  (z_cons (s_if (w_cmp (o_eq hr) p_eq (v_var 5) v_int)
  (z_one (s_ret (v_tup (v_cons (v_var 3) (v_cons (v_ty call_list_of p_list (by rfl) T.b_list bb_list (v_cons (v_var 4) v_nil)) v_nil)))))
  z_nil)
  (z_cons (s_if (w_cmp (o_eq hr) p_eq (v_var 5) v_int)
  (z_one (s_ret (v_tup (v_cons (v_var 3) (v_cons (v_bin o_add p_add (v_bin o_add p_add (v_sl01 (v_var 4) (v_var 6)) (v_tup (v_cons (v_callR (c__law_pick T) (by decide) hr tk (by rfl) (v_cons (v_var 0) (v_cons (v_lst (v_cons v_bl (v_cons v_non (v_cons v_str (v_cons (v_tup (v_cons v_int v_nil)) (v_cons (v_bin op_sub p_sub v_int v_int) v_nil)))))) v_nil))) v_nil))) (v_sl10 (v_var 4) (v_bin o_add p_add (v_var 6) v_int))) v_nil)))))
  z_nil)
  (z_cons (s_if (w_cmp (o_eq hr) p_eq (v_var 5) v_int)
  (z_one (s_ret (v_callR (c__law_pick T) (by decide) hr tk (by rfl) (v_cons (v_var 0) (v_cons (v_lst (v_cons v_non (v_cons (v_lst (v_cons (v_var 3) (v_cons (v_var 4) v_nil))) (v_cons (v_tup (v_cons (v_var 3) v_nil)) (v_cons (v_tup (v_cons (v_var 3) (v_cons (v_var 4) (v_cons v_int v_nil)))) (v_cons (v_tup (v_cons v_int (v_cons (v_var 4) v_nil))) (v_cons (v_tup (v_cons (v_var 3) (v_cons v_non v_nil))) (v_cons (v_var 3) v_nil)))))))) v_nil)))))
  z_nil)
  (z_one (s_ret (v_tup (v_cons (v_var 3) (v_cons (v_if (w_cmp (o_eq hr) p_eq (v_var 5) v_int) (v_ty call_tuple_of p_tuple (by rfl) T.b_tuple bb_tuple (v_cons (v_lc (own := [("place", 7)]) (by rfl) nd (i_tup (v_var 4)) (blkOk_by (N := N__law_altered) (sc := defScope s__law_altered) (by decide +kernel)) (fun _ _ _ _ _ => (g_nm nd)) (fun _ _ _ _ _ => p_nil) (fun _ _ _ _ _ => (v_bin o_add p_add (v_var 7) v_int))) v_nil)) (v_rev (v_var 4))) v_nil))))))))))))))
theorem c__law_altered (T : Top K mg) : Cal P w K mg base 4 "_law_altered" (spR K mg m__law_altered) := cal_R T.d__law_altered sc__law_altered bn__law_altered (bd__law_altered T)

theorem bd_law (T : Top K mg) : BodyOk P w K mg base 6 "law" s_law N_law b_law := fun f cdv A outer s H E hr tk => by
  have nd : N_law.Nodup := sc_law.nd
  exact (z_cons (s_set (i := 1) nd (v_call (c__law_begun T) (by decide) hr tk (by rfl) (v_cons (v_var 0) v_nil)))
  (z_cons (s_for (passes_of rfl) (by rfl) (i_rng1 (by rfl) T.b_range (v_cons (v_bin o_add p_add v_int (v_bi (call_min2 (by rfl)) p_min2 (by rfl) T.b_min bb_min (v_cons (v_bi c_len p_len (by rfl) T.b_len bb_len (v_cons (v_var 0) v_nil)) (v_cons v_int v_nil)))) v_nil)) (g_nm nd)
  (z_cons (s_set (i := 3) nd (v_bin o_add p_add v_int (v_callR (c__law_draw T) (by decide) hr tk (by rfl) (v_cons (v_var 1) (v_cons v_int v_nil)))))
  (z_cons (s_set (i := 4) nd (v_callR (c__law_word T) (by decide) hr tk (by rfl) (v_cons (v_var 1) (v_cons (v_var 3) (v_cons (v_callR (c__law_pick T) (by decide) hr tk (by rfl) (v_cons (v_var 1) (v_cons (v_lst (v_cons v_int (v_cons v_int (v_cons v_int v_nil)))) v_nil))) v_nil)))))
  (z_cons (s_set (i := 5) nd (v_if (w_cmp (o_eq hr) p_eq (v_callR (c__law_draw T) (by decide) hr tk (by rfl) (v_cons (v_var 1) (v_cons v_int v_nil))) v_int) (v_ty call_tuple_of p_tuple (by rfl) T.b_tuple bb_tuple (v_cons (v_lc (own := [("letter", 6)]) (by rfl) nd (i_tup (v_var 4)) (blkOk_by (N := N_law) (sc := defScope s_law) (by decide +kernel)) (fun _ _ _ _ _ => (g_nm nd)) (fun _ _ _ _ _ => (p_one (w_cmp (o_eq hr) p_eq (v_callR (c__law_draw T) (by decide) hr takes0 (by rfl) (v_cons (v_var 1) (v_cons v_int v_nil))) v_int))) (fun _ _ _ _ _ => (v_var 6))) v_nil)) (v_callR (c__law_word T) (by decide) hr tk (by rfl) (v_cons (v_var 1) (v_cons (v_var 3) (v_cons v_int v_nil))))))
  (z_cons (s_set (i := 7) nd (v_call (c_part_paper T) (by decide) hr tk (by rfl) (v_cons (v_var 4) (v_cons (v_var 5) v_nil))))
  (z_cons (s_if (w_bool (w_or (w_cmp o_isnot p_isnot (v_call (c_is_part_paper T) (by decide) hr tk (by rfl) (v_cons (v_var 4) (v_cons (v_var 5) (v_cons (v_var 7) v_nil)))) v_bl) (w_or1 (w_not (w_tru (v_call (c__law_judged T) (by decide) hr tk (by rfl) (v_cons (v_var 4) (v_cons (v_var 5) (v_cons (v_var 7) v_nil)))))))))
  (z_one (s_ret v_bl))
  z_nil)
  (z_cons (s_for (passes_of rfl) (by rfl) (i_rng1 (by rfl) T.b_range (v_cons v_int v_nil)) (g_nm nd)
  (z_cons (s_set (i := 9) nd (v_callR (c__law_altered T) (by decide) hr tk (by rfl) (v_cons (v_var 1) (v_cons (v_var 4) (v_cons (v_var 7) v_nil)))))
  (z_one (s_if (w_not (w_tru (v_call (c__law_is_truth T) (by decide) hr tk (by rfl) (v_cons (v_call (c_is_part_paper T) (by decide) hr tk (by rfl) (v_cons (v_var 4) (v_cons (v_var 5) (v_cons (v_var 9) v_nil)))) (v_cons (v_call (c__law_judged T) (by decide) hr tk (by rfl) (v_cons (v_var 4) (v_cons (v_var 5) (v_cons (v_var 9) v_nil)))) v_nil)))))
  (z_one (s_ret v_bl))
  z_nil))))
  (z_cons (s_set (i := 10) nd (v_callR (c__law_off T) (by decide) hr tk (by rfl) (v_cons (v_var 1) (v_cons (v_var 5) (v_cons (v_var 3) (v_cons v_int (v_cons v_int v_nil)))))))
  (z_one (s_if (w_not (w_tru (v_call (c__law_is_truth T) (by decide) hr tk (by rfl) (v_cons (v_call (c_is_part_paper T) (by decide) hr tk (by rfl) (v_cons (v_var 4) (v_cons (v_var 10) (v_cons (v_var 7) v_nil)))) (v_cons (v_call (c__law_judged T) (by decide) hr tk (by rfl) (v_cons (v_var 4) (v_cons (v_var 10) (v_cons (v_var 7) v_nil)))) v_nil)))))
  (z_one (s_ret v_bl))
  z_nil))))))))))
  (z_one (s_ret v_bl))))
theorem c_law (T : Top K mg) : Cal P w K mg base 7 "law" (spP K mg m_law) := cal_P T.d_law sc_law bn_law (bd_law T)
end
end K02

namespace FW
/-- turns may be counted on for a while -/
def Good (s : DS) (n : Nat) : Prop := 0 ≤ s.turn ∧ s.turn + n ≤ 140000000000000
theorem Good.mono {s : DS} {n m : Nat} (h : Good s n) (l : m ≤ n) : Good s m := ⟨h.1, by have := h.2; omega⟩
theorem sSeq_nx {a b : SS} {ρ ρ1 : Rho} (h : a ρ = .nx ρ1) : sSeq a b ρ = b ρ1 := by rw [u_sSeq, h]
theorem small64_lit {i : Int} (h : -(2 ^ 64) < i ∧ i < 2 ^ 64) : small64 i = true := by
  exact @decide_eq_true _ (Classical.propDecidable _) h
theorem cells_ok (p t : Int) (hp : 0 < p) (hp2 : p < 2147483648) (s : DS) (ds : List D) (hd : ∀ d ∈ ds, ∃ n, d = .int n) (found b : Int) (hb : b.natAbs < 18446744073709551616) (x : Slot) :
    ∃ b' x', b'.natAbs < 18446744073709551616 ∧ forL (.nm 5) (sSet 4 (e2 (two aMod) (eOp (one aInt) (eCons (e2 (two aAdd) (e2 (two aAdd) (e2 (two aMul) (eVar 4) (eC (.int 61283))) (eVar 5)) (eVar 1)) eNil)) (eVar 3))) ds ⟨[.ob, .imm (.int t), .imm (.int found), .imm (.int p), .imm (.int b), x], some (.drw s)⟩ = .nx ⟨[.ob, .imm (.int t), .imm (.int found), .imm (.int p), .imm (.int b'), x'], some (.drw s)⟩ := by
  induction ds generalizing b x with
  | nil => exact ⟨b, x, hb, rfl⟩
  | cons d ds ih =>
    obtain ⟨n, rfl⟩ := hd d (by simp)
    have e1 : small64 61283 = true := small64_lit (by decide)
    have h0 := Int.emod_nonneg (b * 61283 + n + t) (by omega : p ≠ 0)
    have h1 := Int.emod_lt_of_pos (b * 61283 + n + t) hp
    obtain ⟨b', x', hb', e⟩ := ih (fun d m => hd d (by simp [m])) ((b * 61283 + n + t) % p) (by omega) (.imm (.int n))
    refine ⟨b', x', hb', ?_⟩
    rw [forL_cons]
    simp [forS, e1, hp]
    exact e
theorem primes_ok (t : Int) (ht : 0 ≤ t ∧ t ≤ 140000000000000) (s : DS) (ds : List D) (hd : ∀ d ∈ ds, ∃ n : Int, d = .int n ∧ 0 < n ∧ n < 2147483648) (found : Int) (x y z : Slot) :
    ∃ r x' y' z', forL (.nm 3) (sSeq (sSet 4 (e2 (two aAdd) (e2 (two aMul) (eC (.int 41011)) (eVar 1)) (e2 (two aDiv) (eVar 3) (eC (.int 67)))))
  (sSeq (sFor (.nm 5) (iLst' (eDCells 0))
  (sSet 4 (e2 (two aMod) (eOp (one aInt) (eCons (e2 (two aAdd) (e2 (two aAdd) (e2 (two aMul) (eVar 4) (eC (.int 61283))) (eVar 5)) (eVar 1)) eNil)) (eVar 3))))
  (sSet 2 (e2 (two aAdd) (e2 (two aMul) (eVar 2) (eC (.int 2147483647))) (e2 (two aMod) (eOp (one aInt) (eCons (e2 (two aPow) (eVar 4) (eC (.int 5))) eNil)) (eVar 3)))))) ds ⟨[.ob, .imm (.int t), .imm (.int found), x, y, z], some (.drw s)⟩ = .nx ⟨[.ob, .imm (.int t), .imm (.int r), x', y', z'], some (.drw s)⟩ := by
  induction ds generalizing found x y z with
  | nil => exact ⟨found, x, y, z, rfl⟩
  | cons d ds ih =>
    obtain ⟨p, rfl, hp, hp2⟩ := hd d (by simp)
    have e1 : small64 41011 = true := small64_lit (by decide)
    have e2 : small64 2147483647 = true := small64_lit (by decide)
    obtain ⟨b, x1, hb, ec⟩ := cells_ok p t hp hp2 s (s.cells.map .int) (by simp) found (41011 * t + p / 67) (by omega) z
    obtain ⟨r, x', y', z', e⟩ := ih (fun d m => hd d (by simp [m])) (found * 2147483647 + b ^ 5 % p) (.imm (.int p)) (.imm (.int b)) x1
    refine ⟨r, x', y', z', ?_⟩
    rw [forL_cons]
    have e5 : (5 : Int).toNat = 5 := rfl
    simp [forS, e1, e2, hp, ec, hb]
    simpa using e
theorem blended_ok (s : DS) (n : Nat) (h : Good s (n + 1)) : ∃ r s', Com.m__law_blended (.drw s) [] = .ok (.imm (.int r)) (.drw s') ∧ Good s' n := by
  obtain ⟨h0, h1⟩ := h
  obtain ⟨r, x, y, z, e⟩ := primes_ok (s.turn + 1) (by omega) { s with turn := s.turn + 1 } [.int 2147483399, .int 2147483353, .int 2147483323] (by simp) 0 .un .un .un
  refine ⟨r, { s with turn := s.turn + 1 }, ?_, by constructor <;> simp <;> omega⟩
  simp [Com.m__law_blended, mkR, Com.b__law_blended]
  simp [e]
theorem draw_ok (s : DS) (m : Int) (n : Nat) (h : Good s (n + 1)) (hm : 0 < m) (hm2 : m < 1073741824) : ∃ r s', Com.m__law_draw (.drw s) [.int m] = .ok (.imm (.int r)) (.drw s') ∧ Good s' n ∧ 0 ≤ r ∧ r < m := by
  obtain ⟨s1, e1, g1⟩ : ∃ s1, (sIf (tE (e2 (two aEq) (eDGet 0 .rest) (eC (.int 0))))
  (sDSet 0 .rest (eIf (tDNe 0) (eDPop 0) (eCallR Com.m__law_blended (eCons (eVar 0) eNil))))
  sNx) ⟨[.ob, .imm (.int m), .un], some (.drw s)⟩ = .nx ⟨[.ob, .imm (.int m), .un], some (.drw s1)⟩ ∧ Good s1 n := by
    by_cases hr : s.rest = 0
    · cases hg : s.great with
      | nil =>
        obtain ⟨r, s', e, g⟩ := blended_ok s n h
        exact ⟨{ s' with rest := r }, by simp [hr, hg, e], g⟩
      | cons g gs =>
        exact ⟨{ s with great := gs, rest := g }, by simp [hr, hg], h.mono (by omega)⟩
    · exact ⟨s, by simp [hr], h.mono (by omega)⟩
  refine ⟨s1.rest % m, { s1 with rest := s1.rest / m }, ?_, g1, Int.emod_nonneg _ (by omega), Int.emod_lt_of_pos _ hm⟩
  rw [show Com.m__law_draw (.drw s) [.int m] = finR (Com.b__law_draw ⟨[.ob, .imm (.int m), .un], some (.drw s)⟩) from rfl, Com.b__law_draw, sSeq_nx e1]
  simp [hm, hm2]
theorem atI_lt {xs : List D} {r : Int} (h0 : 0 ≤ r) (h1 : r < xs.length) : ∃ d, d ∈ xs ∧ L2.atI xs r = some d := by
  have e : L2.ixN xs.length r = some r.toNat := by
    unfold L2.ixN
    rw [if_pos (by omega), if_pos (by omega)]
  have hi : r.toNat < xs.length := by omega
  exact ⟨xs[r.toNat], List.getElem_mem hi, by simp [L2.atI, e, hi]⟩
theorem pick_ok (s : DS) (xs : List D) (n : Nat) (h : Good s (n + 1)) (hx : xs ≠ []) (hl : xs.length < 1073741824) : ∃ d s', Com.m__law_pick (.drw s) [.lst xs] = .ok (.imm d) (.drw s') ∧ Good s' n ∧ d ∈ xs := by
  have hpos : 0 < xs.length := List.length_pos_iff.mpr hx
  obtain ⟨r, s', e, g, h0, h1⟩ := draw_ok s xs.length n h (by omega) (by omega)
  obtain ⟨d, hd, ed⟩ := atI_lt h0 h1
  refine ⟨d, s', ?_, g, hd⟩
  simp [Com.m__law_pick, mkR, Com.b__law_pick, e, aIx, ed]
theorem pickT_ok (s : DS) (xs : List D) (n : Nat) (h : Good s (n + 1)) (hx : xs ≠ []) (hl : xs.length < 1073741824) : ∃ d s', Com.m__law_pick (.drw s) [.tup xs] = .ok (.imm d) (.drw s') ∧ Good s' n ∧ d ∈ xs := by
  have hpos : 0 < xs.length := List.length_pos_iff.mpr hx
  obtain ⟨r, s', e, g, h0, h1⟩ := draw_ok s xs.length n h (by omega) (by omega)
  obtain ⟨d, hd, ed⟩ := atI_lt h0 h1
  refine ⟨d, s', ?_, g, hd⟩
  simp [Com.m__law_pick, mkR, Com.b__law_pick, e, aIx, ed]
theorem truth_ok (a b : Bool) : Com.m__law_is_truth [.bl a, .bl b] = .ok (.imm (.bl (decide (a = b)))) := by
  cases a <;> cases b <;> simp [Com.m__law_is_truth, mkP, Com.b__law_is_truth, truD]
end FW

namespace FW
@[simp] theorem u_lc (vs : List Nat) (it : II) (t : Tgt) (c : TT') (f : EE) (ρ : Rho) : eLc vs it t c f ρ = (match it ρ with
  | .ok ds ρ1 => if ds.length ≤ 16777216 then match lcL vs t c f ds [] ρ1 with
      | .ok acc ρ2 => .ok (.own (.lst acc)) ρ2
      | _ => .bad
    else .bad
  | .exc x ρ1 => .exc x ρ1
  | .bad => .bad) := rfl
theorem cut_to {xs : List D} {j : Int} (h : 0 ≤ j) : cutD xs none (some j) = xs.take j.toNat := by
  unfold cutD
  simp only [HT.sIx, if_neg (show ¬ j < 0 by omega), List.drop_zero, Nat.sub_zero]
  rw [List.take_eq_take_iff]; omega
theorem cut_from {xs : List D} {i : Int} (h : 0 ≤ i) : cutD xs (some i) none = xs.drop i.toNat := by
  unfold cutD
  simp only [HT.sIx, if_neg (show ¬ i < 0 by omega)]
  rw [List.take_of_length_le (by simp)]
  rcases Nat.le_total i.toNat xs.length with z | z
  · rw [Nat.min_eq_left z]
  · rw [Nat.min_eq_right z, List.drop_eq_nil_of_le (Nat.le_refl _), List.drop_eq_nil_of_le z]
theorem cut_both {xs : List D} {i j : Int} (h : 0 ≤ i) (h' : 0 ≤ j) : cutD xs (some i) (some j) = (xs.take j.toNat).drop i.toNat := by
  unfold cutD
  simp only [HT.sIx, if_neg (show ¬ i < 0 by omega), if_neg (show ¬ j < 0 by omega), List.drop_take]
  rcases Nat.le_total i.toNat xs.length with z | z
  · rw [Nat.min_eq_left z, List.take_eq_take_iff, List.length_drop]; omega
  · rw [Nat.min_eq_right z, List.drop_eq_nil_of_le (Nat.le_refl _), List.drop_eq_nil_of_le z]; simp
@[simp] theorem cut_1 (xs : List D) : cutD xs (some 1) none = xs.drop 1 := cut_from (by decide)
@[simp] theorem aSl_tup (xs : List D) (lo hi : Option Int) : aSl (.tup xs) lo hi = some (.imm (.tup (cutD xs lo hi))) := rfl
@[simp] theorem aSl_lst (xs : List D) (lo hi : Option Int) : aSl (.lst xs) lo hi = some (.own (.lst (cutD xs lo hi))) := rfl
theorem intsD_of : ∀ {xs : List D}, (∀ d ∈ xs, ∃ n, d = .int n) → ∃ is, intsD xs = some is ∧ xs = is.map .int
  | [], _ => ⟨[], rfl, rfl⟩
  | d :: xs, h => by
    obtain ⟨n, rfl⟩ := h d (by simp)
    obtain ⟨is, e, e2⟩ := intsD_of (xs := xs) fun d m => h d (by simp [m])
    exact ⟨n :: is, by simp [intsD, e], by simp [e2]⟩
theorem ints_len (lo : Int) (n : Nat) : (intsFrom lo n).length = n := by
  induction n generalizing lo with
  | zero => rfl
  | succ n ih => simp [intsFrom, ih]
theorem ints_mem {lo : Int} {n : Nat} {d : D} (h : d ∈ intsFrom lo n) : ∃ i, d = .int i ∧ lo ≤ i ∧ i < lo + n := by
  induction n generalizing lo with
  | zero => simp [intsFrom] at h
  | succ n ih =>
    rcases List.mem_cons.mp h with rfl | h
    · exact ⟨lo, rfl, by omega, by omega⟩
    · obtain ⟨i, e, a, b⟩ := ih h
      exact ⟨i, e, by omega, by omega⟩
theorem inR {i : Int} (h : -4611686018427387904 ≤ i ∧ i < 4611686018427387904) : inRange i = true := by
  exact @decide_eq_true _ (Classical.propDecidable _) h
theorem begun_ok (ns : List Int) (hl : ns.length ≤ 63) : ∃ s, Com.m__law_begun [.scr ns] = .ok (.own (.drw s)) ∧ s.turn = 0 := by
  have e1 := lcL_pure (vs := [2]) (t := .nm 2) (c := tE (e2 (two aGe) (eOp (one aAbs) (eCons (eVar 2) eNil)) (e2 (two aPow) (eC (.int 10)) (eC (.int 18))))) (f := e2 (two aSub) (eOp (one aAbs) (eCons (eVar 2) eNil)) (e2 (two aPow) (eC (.int 10)) (eC (.int 18))))
    (fun d => match d with | .int i => if 1000000000000000000 ≤ (if i < 0 then -i else i) then some (.int ((if i < 0 then -i else i) - 1000000000000000000)) else none | _ => none) ⟨[.imm (.scr ns), .un, .un], none⟩ (ns.map .int) [] ⟨[.imm (.scr ns), .un, .un], none⟩ (by simp) (by
      intro d ρ hd hw
      obtain ⟨i, _, rfl⟩ := List.mem_map.mp hd
      refine ⟨⟨[.imm (.scr ns), .un, .imm (.int i)], none⟩, ?_, by simp⟩
      have e10 : (10 : Int) ^ (Int.toNat 18) = 1000000000000000000 := by decide
      rw [lcS, hw]
      by_cases c : 1000000000000000000 ≤ (if i < 0 then -i else i) <;> simp [e10, c])
  have e2 := fun u => lcL_pure (vs := [2]) (t := .nm 2) (c := tYes') (f := eOp (one aAbs) (eCons (eVar 2) eNil))
    (fun d => match d with | .int i => some (.int (if i < 0 then -i else i)) | _ => none) ⟨[.imm (.scr ns), u, .un], none⟩ (ns.map .int) [] ⟨[.imm (.scr ns), u, .un], none⟩ (by simp) (by
      intro d ρ hd hw
      obtain ⟨i, _, rfl⟩ := List.mem_map.mp hd
      refine ⟨⟨[.imm (.scr ns), u, .imm (.int i)], none⟩, ?_, by simp⟩
      rw [lcS, hw]
      simp)
  obtain ⟨g1, hg, hg'⟩ := intsD_of (xs := (ns.map D.int).filterMap fun d => match d with | .int i => if 1000000000000000000 ≤ (if i < 0 then -i else i) then some (.int ((if i < 0 then -i else i) - 1000000000000000000)) else none | _ => none) (by
    intro d hd
    obtain ⟨e, he, h⟩ := List.mem_filterMap.mp hd
    obtain ⟨i, _, rfl⟩ := List.mem_map.mp he
    simp only [] at h
    by_cases c : 1000000000000000000 ≤ (if i < 0 then -i else i)
    · rw [if_pos c] at h; cases h; exact ⟨_, rfl⟩
    · rw [if_neg c] at h; cases h)
  obtain ⟨g2, hc, hc'⟩ := intsD_of (xs := (ns.map D.int).filterMap fun d => match d with | .int i => some (.int (if i < 0 then -i else i)) | _ => none) (by
    intro d hd
    obtain ⟨e, he, h⟩ := List.mem_filterMap.mp hd
    obtain ⟨i, _, rfl⟩ := List.mem_map.mp he
    simp only [] at h; cases h; exact ⟨_, rfl⟩)
  have hl' : ns.length ≤ 16777216 := by omega
  refine ⟨⟨g1, g2, 0, 0⟩, ?_, rfl⟩
  rw [show Com.m__law_begun [.scr ns] = finP (Com.b__law_begun ⟨[.imm (.scr ns), .un, .un], none⟩) from rfl, Com.b__law_begun]
  simp only [u_sSeq, u_sSet, u_lc, u_iLst, u_var, get_mk0, bind_ok, List.length_map, hl', e1, RS_ok, put_own, if_true, List.nil_append, set_mk, List.set_cons_succ, List.set_cons_zero]
  simp only [u_sRet, u_DNew, u_cons, u_mv, get_mk0, get_mkS, bind_ok, set_mk, List.set_cons_succ, List.set_cons_zero, u_lc, u_iLst, u_var, List.length_map, hl', e2, if_true, u_nil, hg, List.nil_append, vImm_ownl, hc, RS_ok, finP_own]
end FW

namespace FW
/-- whole numbers from 0 on, below k -/
def Bel (k : Int) (w : List Int) : Prop := ∀ x ∈ w, 0 ≤ x ∧ x < k
abbrev tupI (w : List Int) : D := .tup (w.map .int)
theorem rep_ints (n : Nat) (r : Int) : (List.replicate n [D.int r]).flatten = (List.replicate n r).map .int := by
  induction n with
  | zero => rfl
  | succ n ih => simp [List.replicate_succ, ih]
theorem Bel.app {k : Int} {a b : List Int} (h : Bel k a) (h' : Bel k b) : Bel k (a ++ b) := fun x m => by
  rcases List.mem_append.mp m with z | z
  · exact h x z
  · exact h' x z
theorem Bel.rep {k r : Int} (n : Nat) (h : 0 ≤ r ∧ r < k) : Bel k (List.replicate n r) := fun x m => by
  have := List.eq_of_mem_replicate m; subst this; exact h
theorem Bel.take {k : Int} {a : List Int} (n : Nat) (h : Bel k a) : Bel k (a.take n) := fun x m => h x (List.mem_of_mem_take m)
theorem word_while (k most way long : Int) (hk : 0 < k) (hk2 : k < 1073741824) (hl : long ≤ 1000) (n : Nat) (u v : _root_.FW.Slot) : ∀ (fuel : Nat) (s : DS) (w : List Int), long - w.length ≤ fuel → w.length ≤ 2000 → Good s (n + 2 * fuel) → Bel k w →
    ∃ w' s', sWhile (tE (e2 (two aLt) (eOp (one aLen) (eCons (eVar 7) eNil)) (eVar 4)))
  (sSet 7 (e2 (two aAdd) (eVar 7) (e2 (two aMul) (eTup (eCons (eCallR Com.m__law_draw (eCons (eVar 0) (eCons (eVar 1) eNil))) eNil)) (e2 (two aAdd) (eC (.int 1)) (eCallR Com.m__law_draw (eCons (eVar 0) (eCons (eC (.int 5)) eNil)))))))
      ⟨[.ob, .imm (.int k), .imm (.int most), .imm (.int way), .imm (.int long), u, v, .imm (tupI w)], some (.drw s)⟩ = .nx ⟨[.ob, .imm (.int k), .imm (.int most), .imm (.int way), .imm (.int long), u, v, .imm (tupI w')], some (.drw s')⟩ ∧ Good s' n ∧ Bel k w' ∧ long ≤ w'.length := by
  intro fuel
  induction fuel with
  | zero =>
    intro s w hf hw g b
    refine ⟨w, s, ?_, g, b, by omega⟩
    rw [sWhile_step]
    simp [show ¬ (w.length : Int) < long by omega]
  | succ fuel ih =>
    intro s w hf hw g b
    by_cases c : (w.length : Int) < long
    · obtain ⟨r, s1, e1, g1, h0, h1⟩ := draw_ok s k (n + 2 * fuel + 1) (g.mono (by omega)) hk hk2
      obtain ⟨q, s2, e2, g2, q0, q1⟩ := draw_ok s1 5 (n + 2 * fuel) g1 (by omega) (by omega)
      have e3 : (w ++ List.replicate (1 + q).toNat r).map D.int = w.map .int ++ (List.replicate (1 + q).toNat [D.int r]).flatten := by rw [rep_ints, List.map_append]
      obtain ⟨w', s', e, g', b', l'⟩ := ih s2 (w ++ List.replicate (1 + q).toNat r) (by simp; omega) (by simp; omega) g2 (b.app (.rep _ ⟨h0, h1⟩))
      refine ⟨w', s', ?_, g', b', l'⟩
      rw [sWhile_step]
      have c1 : -1000000 ≤ 1 + q ∧ 1 + q ≤ 1000 := by omega
      have c2 : w.length + (1 + q).toNat ≤ 16777216 := by omega
      unfold tupI at e
      rw [e3] at e
      simp [c, e1, e2, c1, rep_ints, c2]
      simpa [rep_ints] using e
    · refine ⟨w, s, ?_, g.mono (by omega), b, by omega⟩
      rw [sWhile_step]
      simp [c]
theorem map_int {xs : List D} (h : ∀ d ∈ xs, ∃ n, d = .int n) : ∃ w : List Int, xs = w.map .int := by
  obtain ⟨w, _, e⟩ := intsD_of h; exact ⟨w, e⟩
theorem word_ok (s : DS) (k most : Int) (n : Nat) (h : Good s (n + (2 * most.toNat + 3))) (hk : 0 < k) (hk2 : k < 1073741824) (hm : 0 ≤ most) (hm2 : most ≤ 1000) :
    ∃ w s', Com.m__law_word (.drw s) [.int k, .int most] = .ok (.imm (tupI w)) (.drw s') ∧ Good s' n ∧ Bel k w ∧ w.length ≤ most := by
  obtain ⟨way, s1, e1, g1, w0, w1⟩ := draw_ok s 5 (n + (2 * most.toNat + 2)) (h.mono (by omega)) (by omega) (by omega)
  obtain ⟨long, s2, ed2, g2, l0, l1⟩ := draw_ok s1 (most + 1) (n + (2 * most.toNat + 1)) (g1.mono (by omega)) (by omega) (by omega)
  rw [show Com.m__law_word (.drw s) [.int k, .int most] = finR (Com.b__law_word ⟨[.ob, .imm (.int k), .imm (.int most), .un, .un, .un, .un, .un], some (.drw s)⟩) from rfl, Com.b__law_word]
  rw [sSeq_nx (ρ1 := ⟨[.ob, .imm (.int k), .imm (.int most), .imm (.int way), .imm (.int long), .un, .un, .un], some (.drw s2)⟩) (by simp [e1, ed2])]
  by_cases c0 : way = 0
  · obtain ⟨r, s3, e3, g3, h0, h1⟩ := draw_ok s2 k (n + 2 * most.toNat) (g2.mono (by omega)) hk hk2
    refine ⟨List.replicate long.toNat r, s3, ?_, g3.mono (by omega), .rep _ ⟨h0, h1⟩, by simp; omega⟩
    have c1 : -1000000 ≤ long ∧ long ≤ 1000 := by omega
    simp [c0, e3, c1, rep_ints, tupI]
  · rw [sSeq_nx (ρ1 := ⟨[.ob, .imm (.int k), .imm (.int most), .imm (.int way), .imm (.int long), .un, .un, .un], some (.drw s2)⟩) (by simp [c0])]
    have hr : inRange long = true := inR (by omega)
    have hsz : long.toNat ≤ 16777216 := by omega
    by_cases c1 : way = 1
    · obtain ⟨r, s3, e3, g3, h0, h1⟩ := draw_ok s2 k (n + 2 * most.toNat) (g2.mono (by omega)) hk hk2
      have el := lcL_pure (vs := [6]) (t := .nm 6) (c := tYes') (f := e2 (two aMod) (eOp (one aInt) (eCons (e2 (two aAdd) (eVar 5) (eVar 6)) eNil)) (eVar 1))
        (fun d => match d with | .int i => some (.int ((r + i) % k)) | _ => none) ⟨[.ob, .imm (.int k), .imm (.int most), .imm (.int way), .imm (.int long), .imm (.int r), .un, .un], some (.drw s3)⟩ (intsFrom 0 long.toNat) [] ⟨[.ob, .imm (.int k), .imm (.int most), .imm (.int way), .imm (.int long), .imm (.int r), .un, .un], some (.drw s3)⟩ (by simp) (by
          intro d ρ hd hw
          obtain ⟨i, rfl, _, _⟩ := ints_mem hd
          refine ⟨⟨[.ob, .imm (.int k), .imm (.int most), .imm (.int way), .imm (.int long), .imm (.int r), .imm (.int i), .un], some (.drw s3)⟩, ?_, by simp⟩
          rw [lcS, hw]
          simp [hk])
      have hmem : ∀ d ∈ (intsFrom 0 long.toNat).filterMap (fun d => match d with | .int i => some (D.int ((r + i) % k)) | _ => none), ∃ x, d = .int x ∧ 0 ≤ x ∧ x < k := by
        intro d hd
        obtain ⟨y, hy, h⟩ := List.mem_filterMap.mp hd
        obtain ⟨i, rfl, _, _⟩ := ints_mem hy
        simp only [] at h; cases h
        exact ⟨_, rfl, Int.emod_nonneg _ (by omega), Int.emod_lt_of_pos _ hk⟩
      obtain ⟨w, hw⟩ := map_int (xs := (intsFrom 0 long.toNat).filterMap (fun d => match d with | .int i => some (D.int ((r + i) % k)) | _ => none)) fun d hd => by
        obtain ⟨x, e, _⟩ := hmem d hd; exact ⟨x, e⟩
      refine ⟨w, s3, ?_, g3.mono (by omega), ?_, ?_⟩
      · rw [hw] at el
        simp [c1, e3, hr, ints_len, hsz]
        rw [c1] at el
        simp [el]
      · intro x hx
        have : D.int x ∈ w.map D.int := List.mem_map_of_mem hx
        rw [← hw] at this
        obtain ⟨y, e, h⟩ := hmem _ this
        cases e; exact h
      · have := congrArg List.length hw
        have l2 := List.length_filterMap_le (fun d => match d with | D.int i => some (D.int ((r + i) % k)) | _ => none) (intsFrom 0 long.toNat)
        rw [ints_len] at l2
        rw [List.length_map] at this
        omega
    · rw [sSeq_nx (ρ1 := ⟨[.ob, .imm (.int k), .imm (.int most), .imm (.int way), .imm (.int long), .un, .un, .un], some (.drw s2)⟩) (by simp [c1])]
      by_cases c2 : way = 2
      · obtain ⟨w, s3, e3, g3, b3, l3⟩ := word_while k most way long hk hk2 (by omega) n .un .un long.toNat s2 [] (by have z : ([] : List Int).length = 0 := rfl; omega) (by simp) (g2.mono (by omega)) (by intro x hx; simp at hx)
        refine ⟨w.take long.toNat, s3, ?_, g3, b3.take _, by rw [List.length_take]; omega⟩
        rw [c2] at e3
        unfold tupI at e3
        simp only [List.map_nil] at e3
        simp [c2, e3, aSl, cut_to l0, tupI, List.map_take]
      · rw [sSeq_nx (ρ1 := ⟨[.ob, .imm (.int k), .imm (.int most), .imm (.int way), .imm (.int long), .un, .un, .un], some (.drw s2)⟩) (by simp [c2])]
        obtain ⟨out, ρ', el, hp, hlen, s3, x, rfl, g3⟩ := lcL_inv (vs := [6]) (t := .nm 6) (c := tYes') (f := eCallR Com.m__law_draw (eCons (eVar 0) (eCons (eVar 1) eNil)))
          (fun m ρ => ∃ s x, ρ = ⟨[.ob, .imm (.int k), .imm (.int most), .imm (.int way), .imm (.int long), .un, x, .un], some (.drw s)⟩ ∧ Good s (n + m)) (fun d => ∃ i, d = .int i ∧ 0 ≤ i ∧ i < k) (by
            rintro m _ ⟨s, x, rfl, g⟩; exact ⟨s, .un, by simp, g⟩) (intsFrom 0 long.toNat) [] ⟨[.ob, .imm (.int k), .imm (.int most), .imm (.int way), .imm (.int long), .un, .un, .un], some (.drw s2)⟩ ⟨s2, .un, rfl, g2.mono (by rw [ints_len]; omega)⟩ (by
            rintro m d _ hd ⟨s, x, rfl, g⟩
            obtain ⟨r, s3, e3, g3, h0, h1⟩ := draw_ok s k (n + m) (g.mono (by omega)) hk hk2
            refine ⟨some (.int r), ⟨[.ob, .imm (.int k), .imm (.int most), .imm (.int way), .imm (.int long), .un, .imm d, .un], some (.drw s3)⟩, ?_, ?_, s3, .imm d, rfl, g3⟩
            · simp [lcS, e3]
            · intro y hy; cases hy; exact ⟨r, rfl, h0, h1⟩)
        obtain ⟨w, hw⟩ := map_int (xs := out) fun d hd => by
          obtain ⟨x, e, _⟩ := hp d hd; exact ⟨x, e⟩
        subst hw
        rw [ints_len] at hlen
        refine ⟨w, s3, ?_, g3.mono (by omega), ?_, ?_⟩
        · simp [hr, ints_len, hsz]
          simp [el]
        · intro y hy
          obtain ⟨z, e, h⟩ := hp _ (List.mem_map_of_mem hy)
          cases e; exact h
        · simp at hlen; omega
end FW

namespace FW
open PySem PySem.Spec PyProof.Rows L2
/-! # comparing data -/
/-- can be compared: of depth n at most -/
def okN : Nat → D → Bool
  | _, .non | _, .bl _ | _, .int _ => true
  | _, .str x => PyData.strOk x
  | 0, _ => false
  | n + 1, .tup xs => xs.all (okN n)
  | n + 1, .lst xs => xs.all (okN n)
  | _, _ => false
theorem okN_ok : ∀ (n : Nat) (d : D), okN n d = true → (toPy d).canLay0 = true ∧ (toPy d).depth ≤ n := by
  have all : ∀ (n : Nat), (∀ d : D, okN n d = true → (toPy d).canLay0 = true ∧ (toPy d).depth ≤ n) → ∀ xs : List D, xs.all (okN n) = true → PyData.canLayAll0 (toPys xs) = true ∧ PyData.depthAll (toPys xs) ≤ n := by
    intro n ih xs
    induction xs with
    | nil => intro _; simp [toPys, PyData.canLayAll0, PyData.depthAll]
    | cons d xs ihx =>
      intro h
      rw [List.all_cons, Bool.and_eq_true] at h
      have a := ih d h.1
      have b := ihx h.2
      simp [toPys, PyData.canLayAll0, PyData.depthAll, a, b]
      omega
  intro n
  induction n with
  | zero =>
    intro d h
    cases d <;> simp_all [okN, toPy, PyData.canLay0, PyData.depth]
  | succ n ih =>
    intro d h
    cases d <;> simp [okN, toPy, PyData.canLay0, PyData.depth] at h ⊢
    · exact h
    · have := all n ih _ (by simpa using h); exact this
    · have := all n ih _ (by simpa using h); exact this
theorem okD_of {d : D} (n : Nat) (h : okN n d = true) (hn : n ≤ 64 := by decide) : okD d = true := by
  obtain ⟨a, b⟩ := okN_ok n d h
  unfold okD SeqAt.shaped
  rw [a, Bool.true_and, decide_eq_true_eq]
  omega
@[simp] theorem okD_int (i : Int) : okD (.int i) = true := okD_of 0 rfl
@[simp] theorem okD_bl (i : Bool) : okD (.bl i) = true := okD_of 0 rfl
@[simp] theorem okD_non : okD .non = true := okD_of 0 rfl
@[simp] theorem okD_tupI (w : List Int) : okD (.tup (w.map .int)) = true := okD_of 1 (by simp [okN])
@[simp] theorem okD_lstI (w : List Int) : okD (.lst (w.map .int)) = true := okD_of 1 (by simp [okN])
@[simp] theorem okD_tup0 : okD (.tup []) = true := okD_of 1 (by simp [okN])
@[simp] theorem okD_lst0 : okD (.lst []) = true := okD_of 1 (by simp [okN])
theorem okD_lst1 {xs : List D} (h : ∀ d ∈ xs, okN 10 d = true) : okD (.lst xs) = true := okD_of 11 (by simpa [okN] using h)
theorem okD_tup1 {xs : List D} (h : ∀ d ∈ xs, okN 10 d = true) : okD (.tup xs) = true := okD_of 11 (by simpa [okN] using h)
theorem toPys_map (xs : List D) : toPys xs = xs.map toPy := by
  induction xs with
  | nil => rfl
  | cons d xs ih => simp [toPys, ih]
theorem eqvAll_map {α : Type} [DecidableEq α] (f : α → D) (hf : ∀ x y, dEq (f x) (f y) = decide (x = y)) : ∀ xs ys : List α, PyData.eqvAll (toPys (xs.map f)) (toPys (ys.map f)) = decide (xs = ys)
  | [], [] => by simp [toPys, PyData.eqvAll]
  | [], y :: ys => by simp [toPys, PyData.eqvAll]
  | x :: xs, [] => by simp [toPys, PyData.eqvAll]
  | x :: xs, y :: ys => by
    have h := hf x y
    unfold dEq at h
    simp [toPys, PyData.eqvAll, h, eqvAll_map f hf xs ys]
theorem dEq_tups {α : Type} [DecidableEq α] (f : α → D) (hf : ∀ x y, dEq (f x) (f y) = decide (x = y)) (xs ys : List α) : dEq (.tup (xs.map f)) (.tup (ys.map f)) = decide (xs = ys) := by
  unfold dEq; simp only [toPy, PyData.eqv]; exact eqvAll_map f hf xs ys
theorem dEq_lsts {α : Type} [DecidableEq α] (f : α → D) (hf : ∀ x y, dEq (f x) (f y) = decide (x = y)) (xs ys : List α) : dEq (.lst (xs.map f)) (.lst (ys.map f)) = decide (xs = ys) := by
  unfold dEq; simp only [toPy, PyData.eqv]; exact eqvAll_map f hf xs ys
@[simp] theorem dEq_int (i j : Int) : dEq (.int i) (.int j) = decide (i = j) := by
  unfold dEq; simp only [toPy, PyData.eqv]; exact Bool.eq_iff_iff.mpr (by simp)
@[simp] theorem dEq_tupI (a b : List Int) : dEq (.tup (a.map .int)) (.tup (b.map .int)) = decide (a = b) := dEq_tups D.int dEq_int a b
@[simp] theorem dEq_lstI (a b : List Int) : dEq (.lst (a.map .int)) (.lst (b.map .int)) = decide (a = b) := dEq_lsts D.int dEq_int a b
@[simp] theorem dEq_lst0 (xs : List D) : dEq (.lst xs) (.lst []) = xs.isEmpty := by
  unfold dEq; cases xs <;> simp [toPy, toPys, PyData.eqv, PyData.eqvAll]
@[simp] theorem dEq_tup0 (xs : List D) : dEq (.tup xs) (.tup []) = xs.isEmpty := by
  unfold dEq; cases xs <;> simp [toPy, toPys, PyData.eqv, PyData.eqvAll]
@[simp] theorem aEq_lst (xs ys : List D) : aEq (.lst xs) (.lst ys) = if (okD (.lst xs) && okD (.lst ys)) = true then some (.imm (.bl (dEq (.lst xs) (.lst ys)))) else none := rfl
@[simp] theorem aNe_lst (xs ys : List D) : aNe (.lst xs) (.lst ys) = if (okD (.lst xs) && okD (.lst ys)) = true then some (.imm (.bl (!dEq (.lst xs) (.lst ys)))) else none := rfl
@[simp] theorem aEq_tup (xs ys : List D) : aEq (.tup xs) (.tup ys) = if (okD (.tup xs) && okD (.tup ys)) = true then some (.imm (.bl (dEq (.tup xs) (.tup ys)))) else none := rfl
@[simp] theorem aNe_tup (xs ys : List D) : aNe (.tup xs) (.tup ys) = if (okD (.tup xs) && okD (.tup ys)) = true then some (.imm (.bl (!dEq (.tup xs) (.tup ys)))) else none := rfl
/-! ## a letter in a word -/
@[simp] theorem flat_ints (w : List Int) : (w.map D.int).all flatD = true := by simp [flatD]
@[simp] theorem flat_int (i : Int) : flatD (.int i) = true := rfl
@[simp] theorem inD_ints (i : Int) (w : List Int) : inD (.int i) (w.map .int) = decide (i ∈ w) := by
  induction w with
  | nil => rfl
  | cons x w ih =>
    unfold inD at ih ⊢
    rw [List.map_cons, List.any_cons, ih]
    have : eqV (vD (.int x)) (vD (.int i)) = decide (x = i) := by
      simp only [vD, eqV]; exact Bool.eq_iff_iff.mpr (by simp)
    rw [this]
    by_cases c : x = i
    · simp [c]
    · simp [c, Ne.symm c]
theorem aIn_tup (d : D) (xs : List D) : aIn d (.tup xs) = if (flatD d && xs.all flatD) = true then some (.imm (.bl (inD d xs))) else none := rfl
theorem aIn_lst (d : D) (xs : List D) : aIn d (.lst xs) = if (flatD d && xs.all flatD) = true then some (.imm (.bl (inD d xs))) else none := rfl
theorem map_erase (w : List Int) (i : Nat) : (w.map D.int).eraseIdx i = (w.eraseIdx i).map .int := by
  induction w generalizing i with
  | nil => rfl
  | cons x w ih => cases i <;> simp [ih]
theorem map_set {w : List Int} {i : Nat} {x : Int} : (w.map D.int).set i (.int x) = (w.set i x).map .int := by
  rw [List.map_set]
@[simp] theorem aIn_ints (i : Int) (w : List Int) : aIn (.int i) (.tup (w.map D.int)) = some (.imm (.bl (decide (i ∈ w)))) := by
  rw [aIn_tup, flat_ints, inD_ints]; rfl
@[simp] theorem aIn_intsL (i : Int) (w : List Int) : aIn (.int i) (.lst (w.map D.int)) = some (.imm (.bl (decide (i ∈ w)))) := by
  rw [aIn_lst, flat_ints, inD_ints]; rfl
theorem filterMap_some {α β : Type} (F : α → β) (ds : List α) : ds.filterMap (fun d => some (F d)) = ds.map F := by
  induction ds with
  | nil => rfl
  | cons d ds ih => simp [ih]
/-- a comprehension without test or trace -/
theorem lcL_map {vs : List Nat} {t : Tgt} {c : TT'} {f : EE} (F : D → D) (ρ0 : Rho) (ds : List D) (ρ : Rho) (hw : wipeR ρ vs = ρ0) (h : ∀ d ρ, d ∈ ds → wipeR ρ vs = ρ0 → ∃ ρ', lcS vs t c f d ρ = .ok (some (F d)) ρ' ∧ wipeR ρ' vs = ρ0) :
    lcL vs t c f ds [] ρ = .ok (ds.map F) ρ0 := by
  rw [lcL_pure (fun d => some (F d)) ρ0 ds [] ρ hw h, filterMap_some]; rfl
/-- a comprehension over told items -/
theorem lcL_of {α : Type} {vs : List Nat} {t : Tgt} {c : TT'} {f : EE} (g : α → D) (F : α → Option D) (ρ0 : Rho) : ∀ (zs : List α) (acc : List D) (ρ : Rho), wipeR ρ vs = ρ0 → (∀ z ρ, z ∈ zs → wipeR ρ vs = ρ0 → ∃ ρ', lcS vs t c f (g z) ρ = .ok (F z) ρ' ∧ wipeR ρ' vs = ρ0) →
    lcL vs t c f (zs.map g) acc ρ = .ok (acc ++ zs.filterMap F) ρ0
  | [], acc, ρ, w, _ => by rw [List.map_nil, lcL_nil, w]; simp
  | d :: ds, acc, ρ, w, h => by
    obtain ⟨ρ', e, w'⟩ := h d ρ (by simp) w
    rw [List.map_cons, lcL_cons, e]
    cases ed : F d with
    | none => simp only []; rw [lcL_of g F ρ0 ds acc ρ' w' fun d' r m => h d' r (List.mem_cons_of_mem _ m)]; simp [ed]
    | some d1 => simp only []; rw [lcL_of g F ρ0 ds _ ρ' w' fun d' r m => h d' r (List.mem_cons_of_mem _ m)]; simp [ed]
theorem lcL_ofM {α : Type} {vs : List Nat} {t : Tgt} {c : TT'} {f : EE} (g : α → D) (F : α → D) (ρ0 : Rho) (zs : List α) (ρ : Rho) (hw : wipeR ρ vs = ρ0) (h : ∀ z ρ, z ∈ zs → wipeR ρ vs = ρ0 → ∃ ρ', lcS vs t c f (g z) ρ = .ok (some (F z)) ρ' ∧ wipeR ρ' vs = ρ0) :
    lcL vs t c f (zs.map g) [] ρ = .ok (zs.map F) ρ0 := by
  rw [lcL_of g (fun d => some (F d)) ρ0 zs [] ρ hw h, filterMap_some]; rfl
theorem zipD_map {α β : Type} (f : α → D) (g : β → D) : ∀ (xs : List α) (ys : List β), zipD (xs.map f) (ys.map g) = (xs.zip ys).map fun z => .tup [f z.1, g z.2]
  | [], _ => rfl
  | _ :: _, [] => rfl
  | x :: xs, y :: ys => by simp [zipD, zipD_map f g xs ys]
/-! ## a word by some letters otherwise -/
theorem off_ok (s : DS) (w : List Int) (k many most : Int) (n : Nat) (hg : Good s (n + (3 * many.toNat + 1))) (hw : Bel k w) (hwl : w.length ≤ 10000) (hk : 0 < k) (hk2 : k < 1073741824) (hm : 0 ≤ many) (hm2 : many ≤ 1000) (hl : w.length ≤ most) (hmost : most ≤ 10000) :
    ∃ w' s', Com.m__law_off (.drw s) [tupI w, .int k, .int many, .int most] = .ok (.imm (tupI w')) (.drw s') ∧ Good s' n ∧ Bel k w' ∧ w'.length ≤ most := by
  obtain ⟨laps, s1, e1, g1, l0, l1⟩ := draw_ok s (many + 1) (n + 3 * many.toNat) (hg.mono (by omega)) (by omega) (by omega)
  rw [show Com.m__law_off (.drw s) [tupI w, .int k, .int many, .int most] = finR (Com.b__law_off ⟨[.ob, .imm (tupI w), .imm (.int k), .imm (.int many), .imm (.int most), .un, .un, .un], some (.drw s)⟩) from rfl, Com.b__law_off]
  rw [sSeq_nx (ρ1 := ⟨[.ob, .imm (tupI w), .imm (.int k), .imm (.int many), .imm (.int most), .own (.lst (w.map .int)), .un, .un], some (.drw s)⟩) (by simp [tupI])]
  have hr : inRange laps = true := inR (by omega)
  have hf : ∀ body : SS, sFor (.nm 6) (iRng1' (eCons (eCallR Com.m__law_draw (eCons (eVar 0) (eCons (e2 (two aAdd) (eVar 3) (eC (.int 1))) eNil))) eNil)) body ⟨[.ob, .imm (tupI w), .imm (.int k), .imm (.int many), .imm (.int most), .own (.lst (w.map .int)), .un, .un], some (.drw s)⟩ = forL (.nm 6) body (intsFrom 0 laps.toNat) ⟨[.ob, .imm (tupI w), .imm (.int k), .imm (.int many), .imm (.int most), .own (.lst (w.map .int)), .un, .un], some (.drw s1)⟩ := by
    intro body
    simp [e1, hr]
  obtain ⟨ρ2, e2, s2, w2, x2, y2, rfl, g2, b2, l2⟩ := forL_nx (t := .nm 6) (body := (sSeq (sSet 7 (eCallR Com.m__law_draw (eCons (eVar 0) (eCons (eC (.int 3)) eNil))))
  (sIf (tAnd' (tE (e2 (two aEq) (eVar 7) (eC (.int 0)))) (tE (e2 (two aNe) (eVar 5) (eLst eNil))))
  (sExpr (eMut 5 mPopAt (eCons (eCallR Com.m__law_draw (eCons (eVar 0) (eCons (eOp (one aLen) (eCons (eVar 5) eNil)) eNil))) eNil)))
  (sIf (tAnd' (tE (e2 (two aEq) (eVar 7) (eC (.int 1)))) (tE (e2 (two aLt) (eOp (one aLen) (eCons (eVar 5) eNil)) (eVar 4))))
  (sExpr (eMut 5 mIns (eCons (eCallR Com.m__law_draw (eCons (eVar 0) (eCons (e2 (two aAdd) (eOp (one aLen) (eCons (eVar 5) eNil)) (eC (.int 1))) eNil))) (eCons (eCallR Com.m__law_draw (eCons (eVar 0) (eCons (eVar 2) eNil))) eNil))))
  (sIf (tE (e2 (two aNe) (eVar 5) (eLst eNil)))
  (sSetIx 5 (eCallR Com.m__law_draw (eCons (eVar 0) (eCons (eVar 2) eNil))) (eCallR Com.m__law_draw (eCons (eVar 0) (eCons (eOp (one aLen) (eCons (eVar 5) eNil)) eNil))))
  sNx)))))
    (fun m ρ => ∃ (s : DS) (w' : List Int) (x y : _root_.FW.Slot), ρ = ⟨[.ob, .imm (tupI w), .imm (.int k), .imm (.int many), .imm (.int most), .own (.lst (w'.map .int)), x, y], some (.drw s)⟩ ∧ Good s (n + 3 * m) ∧ Bel k w' ∧ w'.length ≤ most)
    (intsFrom 0 laps.toNat) ⟨[.ob, .imm (tupI w), .imm (.int k), .imm (.int many), .imm (.int most), .own (.lst (w.map .int)), .un, .un], some (.drw s1)⟩
    ⟨s1, w, .un, .un, rfl, g1.mono (by rw [ints_len]; omega), hw, hl⟩ (by
      rintro m d _ hd ⟨s, w', x, y, rfl, g, b, l⟩
      obtain ⟨i, rfl, _, _⟩ := ints_mem hd
      obtain ⟨way, s1, e1, g1, w0, w1⟩ := draw_ok s 3 (n + 3 * m + 2) (g.mono (by omega)) (by omega) (by omega)
      have z0 : w'.isEmpty = decide (w' = []) := by cases w' <;> simp
      by_cases c0 : w' = []
      · subst c0
        by_cases c1 : way = 1 ∧ (0 : Int) < most
        · obtain ⟨r, s2, e2, g2, r0, r1⟩ := draw_ok s1 1 (n + 3 * m + 1) g1 (by omega) (by omega)
          obtain ⟨q, s3, e3, g3, q0, q1⟩ := draw_ok s2 k (n + 3 * m) g2 hk hk2
          have hr0 : r = 0 := by omega
          subst hr0
          refine ⟨⟨[.ob, .imm (tupI w), .imm (.int k), .imm (.int many), .imm (.int most), .own (.lst ([q].map .int)), .imm (.int i), .imm (.int way)], some (.drw s3)⟩, ?_, s3, [q], .imm (.int i), .imm (.int way), rfl, g3, ?_, by simp; omega⟩
          · simp [forS, e1, c1, e2, e3, mIns]
          · intro z hz; simp at hz; subst hz; exact ⟨q0, q1⟩
        · refine ⟨⟨[.ob, .imm (tupI w), .imm (.int k), .imm (.int many), .imm (.int most), .own (.lst ([].map .int)), .imm (.int i), .imm (.int way)], some (.drw s1)⟩, ?_, s1, [], .imm (.int i), .imm (.int way), rfl, g1.mono (by omega), b, l⟩
          by_cases c2 : way = 1
          · have c3 : ¬ (0 : Int) < most := fun z => c1 ⟨c2, z⟩
            simp [forS, e1, c2, c3]
          · simp [forS, e1, c2]
      · have hpos : 0 < w'.length := List.length_pos_iff.mpr c0
        by_cases c1 : way = 0
        · obtain ⟨r, s2, e2, g2, r0, r1⟩ := draw_ok s1 w'.length (n + 3 * m + 1) g1 (by omega) (by omega)
          have hr1 : r.toNat < w'.length := by omega
          refine ⟨⟨[.ob, .imm (tupI w), .imm (.int k), .imm (.int many), .imm (.int most), .own (.lst ((w'.eraseIdx r.toNat).map .int)), .imm (.int i), .imm (.int way)], some (.drw s2)⟩, ?_, s2, w'.eraseIdx r.toNat, .imm (.int i), .imm (.int way), rfl, g2.mono (by omega), ?_, ?_⟩
          · have hb : r < 9223372036854775808 := by omega
            simp [forS, e1, c1, c0, e2, mPopAt, r0, hb, hr1, map_erase]
          · intro z hz; exact b z (List.mem_of_mem_eraseIdx hz)
          · rw [List.length_eraseIdx]; split <;> omega
        · by_cases c2 : way = 1 ∧ (w'.length : Int) < most
          · obtain ⟨r, s2, e2, g2, r0, r1⟩ := draw_ok s1 (w'.length + 1) (n + 3 * m + 1) g1 (by omega) (by omega)
            obtain ⟨q, s3, e3, g3, q0, q1⟩ := draw_ok s2 k (n + 3 * m) g2 hk hk2
            refine ⟨⟨[.ob, .imm (tupI w), .imm (.int k), .imm (.int many), .imm (.int most), .own (.lst ((w'.take r.toNat ++ [q] ++ w'.drop r.toNat).map .int)), .imm (.int i), .imm (.int way)], some (.drw s3)⟩, ?_, s3, w'.take r.toNat ++ [q] ++ w'.drop r.toNat, .imm (.int i), .imm (.int way), rfl, g3, ?_, ?_⟩
            · have hb : r < 9223372036854775808 ∧ w'.length < 16777216 := by omega
              simp [forS, e1, c2, c0, e2, e3, mIns, r0, hb, List.map_take, List.map_drop]
            · intro z hz
              simp at hz
              rcases hz with hz | rfl | hz
              · exact b z (List.mem_of_mem_take hz)
              · exact ⟨q0, q1⟩
              · exact b z (List.mem_of_mem_drop hz)
            · simp; omega
          · obtain ⟨q, s2, e2, g2, q0, q1⟩ := draw_ok s1 k (n + 3 * m + 1) g1 hk hk2
            obtain ⟨r, s3, e3, g3, r0, r1⟩ := draw_ok s2 w'.length (n + 3 * m) g2 (by omega) (by omega)
            refine ⟨⟨[.ob, .imm (tupI w), .imm (.int k), .imm (.int many), .imm (.int most), .own (.lst ((w'.set r.toNat q).map .int)), .imm (.int i), .imm (.int way)], some (.drw s3)⟩, ?_, s3, w'.set r.toNat q, .imm (.int i), .imm (.int way), rfl, g3, ?_, by simpa using l⟩
            · by_cases c3 : way = 1
              · have c4 : ¬ (w'.length : Int) < most := fun z => c2 ⟨c3, z⟩
                simp [forS, e1, c3, c4, c0, e2, e3, r0, r1, List.map_set]
              · simp [forS, e1, c1, c3, c0, e2, e3, r0, r1, List.map_set]
            · intro z hz
              rcases List.mem_or_eq_of_mem_set hz with hz | rfl
              · exact b z hz
              · exact ⟨q0, q1⟩)
  refine ⟨w2, s2, ?_, g2, b2, l2⟩
  rw [sSeq_nx ((hf _).trans e2)]
  simp [tupI]
/-! ## statements, one behind another -/
theorem ex_seq {a b : SS} {ρ ρ1 : Rho} {I : Rho → Prop} (h : a ρ = .nx ρ1) (k : ∃ ρ2, b ρ1 = .nx ρ2 ∧ I ρ2) : ∃ ρ2, sSeq a b ρ = .nx ρ2 ∧ I ρ2 := by
  rw [sSeq_nx h]; exact k
theorem ex_one {a : SS} {ρ ρ1 : Rho} {I : Rho → Prop} (h : a ρ = .nx ρ1) (i : I ρ1) : ∃ ρ2, a ρ = .nx ρ2 ∧ I ρ2 := ⟨ρ1, h, i⟩
theorem ex_turn {t : Tgt} {body : SS} {d : D} {ρ ρ1 : Rho} {I : Rho → Prop} (e : bindT t d ρ = some ρ1) (k : ∃ ρ2, body ρ1 = .nx ρ2 ∧ I ρ2) : ∃ ρ2, forS t body d ρ = .nx ρ2 ∧ I ρ2 := by
  obtain ⟨ρ2, h, i⟩ := k
  exact ⟨ρ2, by rw [forS, e]; simp only []; rw [h], i⟩
theorem ex_for {t : Tgt} {it : II} {body k : SS} {ρ ρ1 : Rho} {ds : List D} {I : Rho → Prop} (J : Nat → Rho → Prop) (hit : it ρ = .ok ds ρ1) (h0 : J ds.length ρ1)
    (hs : ∀ n d ρ, d ∈ ds → J (n + 1) ρ → ∃ ρ2, forS t body d ρ = .nx ρ2 ∧ J n ρ2) (hk : ∀ ρ2, J 0 ρ2 → ∃ ρ3, k ρ2 = .nx ρ3 ∧ I ρ3) : ∃ ρ3, sSeq (sFor t it body) k ρ = .nx ρ3 ∧ I ρ3 := by
  obtain ⟨ρ2, e, j⟩ := forL_nx J ds ρ1 h0 hs
  rw [sSeq_nx (ρ1 := ρ2) (by rw [u_sFor, hit]; exact e)]
  exact hk ρ2 j
theorem g_for {β : Type} {g : Out → β} {o : β} {t : Tgt} {it : II} {body k : SS} {ρ ρ1 : Rho} {ds : List D} (J : Nat → Rho → Prop) (hit : it ρ = .ok ds ρ1) (h0 : J ds.length ρ1)
    (hs : ∀ n d ρ, d ∈ ds → J (n + 1) ρ → ∃ ρ2, forS t body d ρ = .nx ρ2 ∧ J n ρ2) (hk : ∀ ρ2, J 0 ρ2 → g (k ρ2) = o) : g (sSeq (sFor t it body) k ρ) = o := by
  obtain ⟨ρ2, e, j⟩ := forL_nx J ds ρ1 h0 hs
  rw [sSeq_nx (ρ1 := ρ2) (by rw [u_sFor, hit]; exact e)]
  exact hk ρ2 j
theorem g_seq {β : Type} {g : Out → β} {o : β} {a b : SS} {ρ ρ1 : Rho} (h : a ρ = .nx ρ1) (k : g (b ρ1) = o) : g (sSeq a b ρ) = o := by
  rw [sSeq_nx h]; exact k
end FW

namespace K02
open PySem PySem.Spec PyProof.Rows L2 FW
abbrev natD (q : Nat) : D := .int q
def cnt (d : D) (lo hi : Int) : Bool := match d with
  | .int i => decide (lo ≤ i) && decide (i ≤ hi)
  | _ => false
theorem e_counted (d : D) (lo hi : Int) : m_is_counted [d, .int lo, .int hi] = .ok (.imm (.bl (cnt d lo hi))) := by
  cases d <;> simp [m_is_counted, mkP, b_is_counted, isD, cnt]
theorem e_word {w : List Int} (h : Bel 4 w) (hl : w.length ≤ 24) : m_is_word [tupI w] = .ok (.imm (.bl true)) := by
  have hs : m_is_spelt [tupI w, .int 4, .int 24] = .ok (.imm (.bl true)) := by
    have el := lcL_map (vs := [3]) (t := .nm 3) (c := tYes') (f := eCall m_is_counted (eCons (eVar 3) (eCons (eC (.int 0)) (eCons (e2 (two aSub) (eVar 1) (eC (.int 1))) eNil))))
      (fun d => .bl true) ⟨[.imm (tupI w), .imm (.int 4), .imm (.int 24), .un], none⟩ (w.map .int) ⟨[.imm (tupI w), .imm (.int 4), .imm (.int 24), .un], none⟩ (by simp) (by
        intro d ρ hd hw
        obtain ⟨i, hi, rfl⟩ := List.mem_map.mp hd
        refine ⟨⟨[.imm (tupI w), .imm (.int 4), .imm (.int 24), .imm (.int i)], none⟩, ?_, by simp⟩
        rw [lcS, hw]
        have := h i hi
        have c : cnt (.int i) 0 3 = true := by simp only [cnt, Bool.and_eq_true, decide_eq_true_eq]; omega
        simp [e_counted, c])
    have hl' : ¬ (24 : Int) < w.length := by omega
    have hl2 : w.length ≤ 16777216 := by omega
    rw [List.map_map] at el
    have ha : (fun d => D.bl true) ∘ D.int = fun x => .bl ((fun _ => true) x) := rfl
    rw [ha] at el
    simp [m_is_spelt, mkP, b_is_spelt, isD, truD, hl', hl2, tupI] at el ⊢
    simp [el, aAll, blsD_map w fun _ => true]
  simp [m_is_word, mkP, b_is_word] at hs ⊢
  simp [hs]
theorem e_want {w : List Int} (h : Bel 4 w) (hl : w.length ≤ 24) : m_want_word [tupI w] = .ok (.imm .non) := by
  have := e_word h hl
  simp [m_want_word, mkP, b_want_word, truD] at this ⊢
  simp [this, truD]
theorem e_wants {w p : List Int} (h : Bel 4 w) (hl : w.length ≤ 24) (h' : Bel 4 p) (hl' : p.length ≤ 24) : m_want_words [tupI w, tupI p] = .ok (.imm .non) := by
  have a := e_want h hl
  have b := e_want h' hl'
  simp [m_want_words, mkP, b_want_words, tupI] at a b ⊢
  simp [a, b]
/-! ## the leftmost places -/
def fnd (w : List Int) (l : Int) (h : Nat) : Nat := h + (w.drop h).idxOf l
def lm (w : List Int) : List Int → Nat → List Nat
  | [], _ => []
  | l :: ls, h => if fnd w l h = w.length then [] else fnd w l h :: lm w ls (fnd w l h + 1)
theorem fnd_le {w : List Int} {l : Int} {h : Nat} (hh : h ≤ w.length) : fnd w l h ≤ w.length := by
  unfold fnd
  have := List.idxOf_le_length (a := l) (l := w.drop h)
  rw [List.length_drop] at this
  omega
theorem fnd_here {w : List Int} {l : Int} {h : Nat} (hh : h < w.length) (e : w[h] = l) : fnd w l h = h := by
  unfold fnd
  rw [List.drop_eq_getElem_cons hh, e, List.idxOf_cons_self]; rfl
theorem fnd_next {w : List Int} {l : Int} {h : Nat} (hh : h < w.length) (e : w[h] ≠ l) : fnd w l h = fnd w l (h + 1) := by
  unfold fnd
  rw [List.drop_eq_getElem_cons hh]; rw [List.idxOf_cons, show (w[h] == l) = false by simpa using e]; simp only [cond_false]; omega
theorem fnd_end {w : List Int} {l : Int} : fnd w l w.length = w.length := by
  unfold fnd; simp
theorem left_whileP (w : List Int) (P : D) (acc : Slot) (l : Int) : ∀ (n h : Nat), h ≤ w.length → w.length - h ≤ n →
    sWhile (tAnd' (tE (e2 (two aLt) (eVar 3) (eOp (one aLen) (eCons (eVar 0) eNil)))) (tE (e2 (two aNe) (e2 (two aIx) (eVar 0) (eVar 3)) (eVar 4))))
  (sSet 3 (e2 (two aAddI) (eVar 3) (eC (.int 1)))) ⟨[.imm (tupI w), .imm P, acc, .imm (natD h), .imm (.int l)], none⟩ = .nx ⟨[.imm (tupI w), .imm P, acc, .imm (natD (fnd w l h)), .imm (.int l)], none⟩ := by
  intro n
  induction n with
  | zero =>
    intro h hh hn
    have e : h = w.length := by omega
    subst e
    rw [sWhile_step, fnd_end]
    simp
  | succ n ih =>
    intro h hh hn
    rcases Nat.lt_or_ge h w.length with c | c
    · have hx : (w.map D.int)[h]? = some (.int w[h]) := by simp [c]
      by_cases e : w[h] = l
      · rw [sWhile_step, fnd_here c e]
        simp [c, aIx_nat hx, e]
      · rw [sWhile_step, fnd_next c e]
        have := ih (h + 1) (by omega) (by omega)
        simp [c, aIx_nat hx, e]
        exact this
    · have e : h = w.length := by omega
      subst e
      rw [sWhile_step, fnd_end]
      simp
theorem left_for (w : List Int) (P : D) (hwl : w.length ≤ 24) : ∀ (p : List Int) (acc : List Nat) (h : Nat) (x : Slot), h ≤ w.length → acc.length + p.length ≤ 1000 → p.length ≤ 24 → ∃ y z, forL (.nm 4) (sSeq (sWhile (tAnd' (tE (e2 (two aLt) (eVar 3) (eOp (one aLen) (eCons (eVar 0) eNil)))) (tE (e2 (two aNe) (e2 (two aIx) (eVar 0) (eVar 3)) (eVar 4))))
  (sSet 3 (e2 (two aAddI) (eVar 3) (eC (.int 1)))))
  (sSeq (sIf (tE (e2 (two aEq) (eVar 3) (eOp (one aLen) (eCons (eVar 0) eNil))))
  sBk
  sNx)
  (sSeq (sExpr (eMut 2 mApp (eCons (eVar 3) eNil)))
  (sSet 3 (e2 (two aAddI) (eVar 3) (eC (.int 1))))))) (p.map .int) ⟨[.imm (tupI w), .imm P, .own (.lst (acc.map natD)), .imm (natD h), x], none⟩ = .nx ⟨[.imm (tupI w), .imm P, .own (.lst ((acc ++ lm w p h).map natD)), y, z], none⟩ := by
  intro p
  induction p with
  | nil => intro acc h x _ _ _; exact ⟨.imm (natD h), x, by simp [forL_nil, lm]⟩
  | cons l p ih =>
    intro acc h x hh ha hp
    have ew := left_whileP w P (.own (.lst (acc.map natD))) l w.length h hh (by omega)
    rw [List.map_cons, forL_cons]
    have hf := fnd_le (l := l) hh
    by_cases c : fnd w l h = w.length
    · refine ⟨.imm (natD (fnd w l h)), .imm (.int l), ?_⟩
      rw [c] at ew
      simp [forS, ew, lm, c]
    · obtain ⟨y, z, e⟩ := ih (acc ++ [fnd w l h]) (fnd w l h + 1) (.imm (.int l)) (by omega) (by simp at ha ⊢; omega) (by simp at hp; omega)
      refine ⟨y, z, ?_⟩
      have ha2 : acc.length < 16777216 := by omega
      have c' : ¬ (fnd w l h : Int) = w.length := by omega
      simp only [natD] at e ew
      simp [forS, ew, lm, c, c', mApp, ha2, natD]
      simp at e
      exact e
theorem e_leftmost {w p : List Int} (hw : w.length ≤ 24) (hp : p.length ≤ 24) : m_leftmost [tupI w, tupI p] = .ok (.own (.lst ((lm w p 0).map natD))) := by
  obtain ⟨y, z, e⟩ := left_for w (tupI p) hw p [] 0 .un (by omega) (by simp; omega) hp
  rw [show m_leftmost [tupI w, tupI p] = finP (b_leftmost ⟨[.imm (tupI w), .imm (tupI p), .un, .un, .un], none⟩) from rfl, b_leftmost]
  simp only [List.map_nil, natD, List.nil_append] at e
  simp [tupI] at e ⊢
  simp [e, natD]
theorem lm_len (w p : List Int) (h : Nat) : (lm w p h).length ≤ p.length := by
  induction p generalizing h with
  | nil => simp [lm]
  | cons l p ih =>
    rw [lm]
    split
    · simp
    · simpa using ih _
theorem e_paper {w p : List Int} (h : Bel 4 w) (hl : w.length ≤ 24) (h' : Bel 4 p) (hl' : p.length ≤ 24) :
    m_part_paper [tupI w, tupI p] = .ok (.imm (.tup [.str (if (lm w p 0).length = p.length then "places" else "stops"), .tup ((lm w p 0).map natD)])) := by
  have a := e_wants h hl h' hl'
  have b := e_leftmost hl hl'
  rw [show m_part_paper [tupI w, tupI p] = finP (b_part_paper ⟨[.imm (tupI w), .imm (tupI p), .un], none⟩) from rfl, b_part_paper]
  simp only [tupI] at a b ⊢
  by_cases c : (lm w p 0).length = p.length
  · simp [a, b, c]
  · have c' : ¬ ((lm w p 0).length : Int) = p.length := by omega
    simp [a, b, c, c']
end K02

namespace K02
open PySem PySem.Spec PyProof.Rows L2 FW
theorem cnt_nats {n : Nat} : ∀ {xs : List D}, (∀ d ∈ xs, cnt d 0 (n - 1) = true) → ∃ ps : List Nat, xs = ps.map natD ∧ ∀ q ∈ ps, q < n
  | [], _ => ⟨[], rfl, by simp⟩
  | d :: xs, h => by
    obtain ⟨ps, e, b⟩ := cnt_nats (xs := xs) fun d m => h d (by simp [m])
    have hd := h d (by simp)
    cases d with
    | int i =>
      simp only [cnt, Bool.and_eq_true, decide_eq_true_eq] at hd
      refine ⟨i.toNat :: ps, ?_, ?_⟩
      · simp [e, natD]; omega
      · intro q hq
        rcases List.mem_cons.mp hq with rfl | hq
        · omega
        · exact b q hq
    | _ => simp [cnt] at hd
def asc (ps : List Nat) : Bool := (ps.zip ps.tail).all fun z => decide (z.1 < z.2)
def fit (w : List Int) (ps : List Nat) (p : List Int) : Bool := decide (ps.map (fun q => w[q]?.getD 0) = p)
/-- what both judges look for -/
def shown (w p : List Int) (xs : List D) : Bool := decide (xs.length = p.length) && xs.all (fun d => cnt d 0 (w.length - 1)) && (let ps := xs.map fun d => match d with | .int i => i.toNat | _ => 0; asc ps && fit w ps p)
theorem nats_back (ps : List Nat) : (ps.map natD).map (fun d => match d with | .int i => i.toNat | _ => 0) = ps := by
  rw [List.map_map]
  conv => rhs; rw [← List.map_id ps]
  congr 1
theorem natI (f : Nat → Int) (ps : List Nat) : ps.map (fun q => D.int (f q)) = (ps.map f).map .int := by rw [List.map_map]; rfl
theorem fit_zip (w : List Int) : ∀ (ps : List Nat) (p : List Int), ps.length = p.length → ((ps.zip p).all fun z => decide (w[z.1]?.getD 0 = z.2)) = fit w ps p
  | [], [], _ => by simp [fit]
  | [], _ :: _, h => by simp at h
  | _ :: _, [], h => by simp at h
  | q :: ps, l :: p, h => by
    have := fit_zip w ps p (by simpa using h)
    unfold fit at this ⊢
    simp only [List.zip_cons_cons, List.all_cons, this, List.map_cons, List.cons.injEq, Bool.decide_and]
theorem getD_w {w : List Int} {q : Nat} (h : q < w.length) : (w.map D.int)[q]? = some (.int (w[q]?.getD 0)) := by
  simp [h]
theorem asc_not (ps : List Nat) : ((ps.zip ps.tail).any fun z => decide (z.2 ≤ z.1)) = !asc ps := by
  unfold asc
  rw [List.not_all_eq_any_not]
  congr 1
  funext z
  by_cases h : z.1 < z.2
  · rw [decide_eq_false (by omega), decide_eq_true h]; rfl
  · rw [decide_eq_true (by omega), decide_eq_false h]; rfl
theorem e_places (w p : List Int) (xs : List D) (hl : w.length ≤ 24) (hx : xs.length ≤ 1000) : m_are_places [tupI w, tupI p, .tup xs] = .ok (.imm (.bl (shown w p xs))) := by
  rw [show m_are_places [tupI w, tupI p, .tup xs] = finP (b_are_places ⟨[.imm (tupI w), .imm (tupI p), .imm (.tup xs), .un, .un, .un, .un], none⟩) from rfl, b_are_places]
  by_cases h1 : xs.length = p.length
  · have h1' : (xs.length : Int) = p.length := by omega
    rw [sSeq_nx (ρ1 := ⟨[.imm (tupI w), .imm (tupI p), .imm (.tup xs), .un, .un, .un, .un], none⟩) (by simp [isD, truD, h1'])]
    have el := lcL_map (vs := [3]) (t := .nm 3) (c := tYes') (f := eCall m_is_counted (eCons (eVar 3) (eCons (eC (.int 0)) (eCons (e2 (two aSub) (eOp (one aLen) (eCons (eVar 0) eNil)) (eC (.int 1))) eNil))))
      (fun d => .bl (cnt d 0 (w.length - 1))) ⟨[.imm (tupI w), .imm (tupI p), .imm (.tup xs), .un, .un, .un, .un], none⟩ xs ⟨[.imm (tupI w), .imm (tupI p), .imm (.tup xs), .un, .un, .un, .un], none⟩ (by simp) (by
        intro d ρ hd hw
        refine ⟨⟨[.imm (tupI w), .imm (tupI p), .imm (.tup xs), .imm d, .un, .un, .un], none⟩, ?_, by simp⟩
        rw [lcS, hw]
        simp [e_counted])
    have hx2 : xs.length ≤ 16777216 := by omega
    by_cases h2 : xs.all (fun d => cnt d 0 (w.length - 1)) = true
    · rw [sSeq_nx (ρ1 := ⟨[.imm (tupI w), .imm (tupI p), .imm (.tup xs), .un, .un, .un, .un], none⟩) (by
        rw [u_sIf]
        simp [hx2, el, truD] at h2 ⊢
        simpa using h2)]
      obtain ⟨ps, rfl, hps⟩ := cnt_nats (n := w.length) (xs := xs) (by simpa using h2)
      have e2' : ∀ u v : Slot, lcL [4, 5] (.tp [(.nm 4), (.nm 5)]) tYes' (e2 (two aGe) (eVar 4) (eVar 5)) (zipD (ps.map natD) ((ps.map natD).drop 1)) [] ⟨[.imm (tupI w), .imm (tupI p), .imm (.tup (ps.map natD)), .un, .un, .un, .un], none⟩ = .ok ((ps.zip ps.tail).map fun z => .bl (decide (z.2 ≤ z.1))) ⟨[.imm (tupI w), .imm (tupI p), .imm (.tup (ps.map natD)), .un, .un, .un, .un], none⟩ := by
        intro u v
        rw [← List.map_drop, zipD_map, List.drop_one]
        refine lcL_ofM (α := Nat × Nat) _ (fun z => .bl (decide (z.2 ≤ z.1))) _ _ _ (by simp) ?_
        intro z ρ hz hw
        refine ⟨⟨[.imm (tupI w), .imm (tupI p), .imm (.tup (ps.map natD)), .un, .imm (natD z.1), .imm (natD z.2), .un], none⟩, ?_, by simp⟩
        rw [lcS, hw]
        simp [natD]
      have hx3 : (zipD (ps.map natD) ((ps.map natD).drop 1)).length ≤ 16777216 := by
        rw [← List.map_drop, zipD_map]; simp at hx ⊢; omega
      have h1n : ps.length = p.length := by simpa using h1
      have ea : aAny (.lst ((ps.zip ps.tail).map fun z => .bl (decide (z.2 ≤ z.1)))) = some (.imm (.bl (!asc ps))) := by
        rw [aAny_map _ (fun z : Nat × Nat => decide (z.2 ≤ z.1)), asc_not]
      have e3 := e2' .un .un
      have e4 : lcL [3, 6] (.tp [(.nm 3), (.nm 6)]) tYes' (e2 (two aEq) (e2 (two aIx) (eVar 0) (eVar 3)) (eVar 6)) (zipD (ps.map natD) (p.map D.int)) [] ⟨[.imm (tupI w), .imm (tupI p), .imm (.tup (ps.map natD)), .un, .un, .un, .un], none⟩ = .ok ((ps.zip p).map fun z => .bl (decide (w[z.1]?.getD 0 = z.2))) ⟨[.imm (tupI w), .imm (tupI p), .imm (.tup (ps.map natD)), .un, .un, .un, .un], none⟩ := by
        rw [zipD_map]
        refine lcL_ofM (α := Nat × Int) _ (fun z => .bl (decide (w[z.1]?.getD 0 = z.2))) _ _ _ (by simp) ?_
        intro z ρ hz hw
        refine ⟨⟨[.imm (tupI w), .imm (tupI p), .imm (.tup (ps.map natD)), .imm (natD z.1), .un, .un, .imm (.int z.2)], none⟩, ?_, by simp⟩
        rw [lcS, hw]
        have hq : z.1 < w.length := hps _ (List.of_mem_zip hz).1
        have := aIx_nat (getD_w hq)
        simp [natD, this]
      have e5 : aAll (.lst ((ps.zip p).map fun z => .bl (decide (w[z.1]?.getD 0 = z.2)))) = some (.imm (.bl (fit w ps p))) := by
        rw [aAll_map _ (fun z : Nat × Int => decide (w[z.1]?.getD 0 = z.2)), fit_zip w ps p h1n]
      have hx4 : (zipD (ps.map natD) (p.map D.int)).length ≤ 16777216 := by
        rw [zipD_map]; simp at hx ⊢; omega
      have es : shown w p (ps.map natD) = (asc ps && fit w ps p) := by
        simp only [shown, h1, h2, decide_true, Bool.true_and, nats_back]
      rw [es]
      have e6 : (sIf (tTru (eOp (one aAny) (eCons (eLc [4, 5] (iZipT' (eCons (eVar 2) (eCons (eSl10 (eVar 2) (eC (.int 1))) eNil))) (.tp [(.nm 4), (.nm 5)]) tYes' (e2 (two aGe) (eVar 4) (eVar 5))) eNil)))
          (sRet (eC (.bl false)))
          sNx) ⟨[.imm (tupI w), .imm (tupI p), .imm (.tup (ps.map natD)), .un, .un, .un, .un], none⟩ = if asc ps = true then .nx ⟨[.imm (tupI w), .imm (tupI p), .imm (.tup (ps.map natD)), .un, .un, .un, .un], none⟩ else .rt (.imm (.bl false)) ⟨[.imm (tupI w), .imm (tupI p), .imm (.tup (ps.map natD)), .un, .un, .un, .un], none⟩ := by
        have hx3' := hx3
        simp only [List.drop_one] at e3 hx3
        simp [hx3, e3, ea, truD]
        cases asc ps <;> rfl
      cases h3 : asc ps with
      | true =>
        rw [h3] at e6
        rw [sSeq_nx e6]
        simp [e4, hx4, fit_zip w ps p h1n]
      | false =>
        rw [h3] at e6
        rw [u_sSeq, e6]
        simp
    · rw [u_sSeq]
      have es : shown w p xs = false := by
        simp [shown, h2]
      rw [es]
      have ea : aAll (.lst (xs.map fun d => .bl (cnt d 0 (w.length - 1)))) = some (.imm (.bl false)) := by
        rw [aAll_map _ (fun d => cnt d 0 (w.length - 1))]
        simp only [Bool.not_eq_true] at h2
        rw [h2]
      simp [hx2, el, truD, ea]
  · have h1' : ¬ (xs.length : Int) = p.length := by omega
    simp [isD, truD, h1', shown, h1]
end K02

namespace K02
open PySem PySem.Spec PyProof.Rows L2 FW
theorem e_is_place (d : D) (n : Int) : m__law_is_place [d, .int n] = .ok (.imm (.bl (cnt d 0 (n - 1)))) := by
  cases d <;> simp [m__law_is_place, mkP, b__law_is_place, isD, cnt]
  rename_i i
  congr 1; exact decide_eq_decide.mpr (by omega)
/-- ones for what is otherwise -/
def ones {α : Type} (f : α → Bool) (xs : List α) : List D := xs.filterMap fun x => if f x = true then some (.int 1) else none
theorem ones_ok {α : Type} (f : α → Bool) (xs : List α) : okD (.lst (ones f xs)) = true := okD_lst1 fun d hd => by
  obtain ⟨x, _, h⟩ := List.mem_filterMap.mp hd
  split at h
  · cases h; rfl
  · cases h
theorem ones_none {α : Type} (f : α → Bool) (xs : List α) : (ones f xs).isEmpty = !xs.any f := by
  unfold ones
  induction xs with
  | nil => rfl
  | cons x xs ih =>
    cases h : f x with
    | true => simp [h]
    | false => simpa [h] using ih
theorem e_shown (w p : List Int) (xs : List D) (hl : w.length ≤ 24) (hx : xs.length ≤ 1000) : m__law_shown [tupI w, .tup xs, tupI p] = .ok (.imm (.bl (shown w p xs))) := by
  rw [show m__law_shown [tupI w, .tup xs, tupI p] = finP (b__law_shown ⟨[.imm (tupI w), .imm (.tup xs), .imm (tupI p), .un, .un, .un], none⟩) from rfl, b__law_shown]
  have el : lcL [3] (.nm 3) (tNot' (tTru (eCall m__law_is_place (eCons (eVar 3) (eCons (eOp (one aLen) (eCons (eVar 0) eNil)) eNil))))) (eC (.int 1)) xs [] ⟨[.imm (tupI w), .imm (.tup xs), .imm (tupI p), .un, .un, .un], none⟩ = .ok (ones (fun d => !cnt d 0 (w.length - 1)) xs) ⟨[.imm (tupI w), .imm (.tup xs), .imm (tupI p), .un, .un, .un], none⟩ := by
    have := lcL_of (vs := [3]) (t := .nm 3) (c := tNot' (tTru (eCall m__law_is_place (eCons (eVar 3) (eCons (eOp (one aLen) (eCons (eVar 0) eNil)) eNil))))) (f := eC (.int 1)) (id : D → D)
      (fun d => if (!cnt d 0 (w.length - 1)) = true then some (.int 1) else none) ⟨[.imm (tupI w), .imm (.tup xs), .imm (tupI p), .un, .un, .un], none⟩ xs [] ⟨[.imm (tupI w), .imm (.tup xs), .imm (tupI p), .un, .un, .un], none⟩ (by simp) (by
        intro d ρ hd hw
        refine ⟨⟨[.imm (tupI w), .imm (.tup xs), .imm (tupI p), .imm d, .un, .un], none⟩, ?_, by simp⟩
        rw [lcS, hw]
        cases hc : cnt d 0 (w.length - 1) <;> simp [e_is_place, truD, hc])
    rw [List.map_id] at this
    exact this
  have hx2 : xs.length ≤ 16777216 := by omega
  have hn : (ones (fun d => !cnt d 0 (w.length - 1)) xs).isEmpty = xs.all (fun d => cnt d 0 (w.length - 1)) := by
    rw [ones_none, List.not_any_eq_all_not]; simp
  have hk := ones_ok (fun d => !cnt d 0 (w.length - 1)) xs
  by_cases h2 : xs.all (fun d => cnt d 0 (w.length - 1)) = true
  · by_cases h1 : xs.length = p.length
    · have h1' : (xs.length : Int) = p.length := by omega
      rw [h2] at hn
      rw [sSeq_nx (ρ1 := ⟨[.imm (tupI w), .imm (.tup xs), .imm (tupI p), .un, .un, .un], none⟩) (by
        simp only [u_sIf, u_tOr, u_E, u_2, u_op, u_cons, u_lc, u_iTup, u_var, get_mk0, get_mkS, bind_ok, hx2, if_true, el, u_lst, u_nil, vImms_nil, List.length_nil, Nat.zero_le, rds_cons, rds_nil, rd_ownl, Option.bind_some, Option.map_some, two_2, aNe_lst, hk, okD_lst0, Bool.and_self, dEq_lst0, hn]
        simp [h1'])]
      obtain ⟨ps, rfl, hps⟩ := cnt_nats (n := w.length) (xs := xs) (by simpa using h2)
      have es : shown w p (ps.map natD) = (asc ps && fit w ps p) := by
        simp only [shown, h1, h2, decide_true, Bool.true_and, nats_back]
      rw [es]
      have e3 : lcL [4, 5] (.tp [(.nm 4), (.nm 5)]) (tE (e2 (two aGe) (eVar 4) (eVar 5))) (eC (.int 1)) (zipD (ps.map natD) ((ps.map natD).tail)) [] ⟨[.imm (tupI w), .imm (.tup (ps.map natD)), .imm (tupI p), .un, .un, .un], none⟩ = .ok (ones (fun z : Nat × Nat => decide (z.2 ≤ z.1)) (ps.zip ps.tail)) ⟨[.imm (tupI w), .imm (.tup (ps.map natD)), .imm (tupI p), .un, .un, .un], none⟩ := by
        rw [← List.map_tail, zipD_map]
        refine lcL_of (α := Nat × Nat) _ (fun z => if (decide (z.2 ≤ z.1)) = true then some (.int 1) else none) _ _ _ _ (by simp) ?_
        intro z ρ hz hw
        refine ⟨⟨[.imm (tupI w), .imm (.tup (ps.map natD)), .imm (tupI p), .un, .imm (natD z.1), .imm (natD z.2)], none⟩, ?_, by simp⟩
        rw [lcS, hw]
        by_cases c : z.2 ≤ z.1 <;> simp [natD, c]
      have e4 : lcL [3] (.nm 3) tYes' (e2 (two aIx) (eVar 0) (eVar 3)) (ps.map natD) [] ⟨[.imm (tupI w), .imm (.tup (ps.map natD)), .imm (tupI p), .un, .un, .un], none⟩ = .ok ((ps.map fun q => w[q]?.getD 0).map .int) ⟨[.imm (tupI w), .imm (.tup (ps.map natD)), .imm (tupI p), .un, .un, .un], none⟩ := by
        rw [← natI]
        refine lcL_ofM (α := Nat) natD (fun z => .int (w[z]?.getD 0)) _ _ _ (by simp) ?_
        intro z ρ hz hw
        refine ⟨⟨[.imm (tupI w), .imm (.tup (ps.map natD)), .imm (tupI p), .imm (natD z), .un, .un], none⟩, ?_, by simp⟩
        rw [lcS, hw]
        have hq : z < w.length := hps _ hz
        have := aIx_nat (getD_w hq)
        simp [natD, this]
      have hx3 : (zipD (ps.map natD) ((ps.map natD).tail)).length ≤ 16777216 := by
        rw [← List.map_tail, zipD_map]; simp at hx ⊢; omega
      have hk3 := ones_ok (fun z : Nat × Nat => decide (z.2 ≤ z.1)) (ps.zip ps.tail)
      have hn3 := ones_none (fun z : Nat × Nat => decide (z.2 ≤ z.1)) (ps.zip ps.tail)
      rw [asc_not, Bool.not_not] at hn3
      have hx5 : ps.length ≤ 16777216 := by simpa using hx2
      unfold fit
      generalize ps.map (fun q => w[q]?.getD 0) = u at e4 ⊢
      cases h3 : asc ps with
      | true =>
        rw [h3] at hn3
        simp [hx3, hx5, e3, hk3, hn3, e4]
      | false =>
        rw [h3] at hn3
        simp [hx3, hx5, e3, hk3, hn3, e4]
    · have h1' : ¬ (xs.length : Int) = p.length := by omega
      rw [h2] at hn
      have es : shown w p xs = false := by simp [shown, h1]
      rw [es]
      simp [hx2, el, hk, hn, h1']
  · have es : shown w p xs = false := by simp [shown, h2]
    rw [es]
    rw [Bool.not_eq_true] at h2
    rw [h2] at hn
    simp [hx2, el, hk, hn]
end K02

namespace K02
open PySem PySem.Spec PyProof.Rows L2 FW
def gaps (w : List Int) : List Nat → List Int → Nat → Bool
  | q :: ps, l :: ls, b => !decide (l ∈ (w.take q).drop b) && gaps w ps ls (q + 1)
  | _, _, _ => true
def endb : List Nat → Nat → Nat
  | [], b => b
  | q :: ps, _ => endb ps (q + 1)
def nats (xs : List D) : List Nat := xs.map fun d => match d with | .int i => i.toNat | _ => 0
def stops (w p : List Int) (xs : List D) : Bool := decide (xs.length < p.length) && (shown w (p.take xs.length) xs && (gaps w (nats xs) p 0 && !decide (p[xs.length]?.getD 0 ∈ w.drop (endb (nats xs) 0))))
theorem shown_nats {w p : List Int} {xs : List D} (h : shown w p xs = true) : ∃ ps : List Nat, xs = ps.map natD ∧ (∀ q ∈ ps, q < w.length) ∧ ps.length = p.length := by
  simp only [shown, Bool.and_eq_true, decide_eq_true_eq] at h
  obtain ⟨ps, rfl, hps⟩ := cnt_nats (n := w.length) (xs := xs) (by simpa using h.1.2)
  exact ⟨ps, rfl, hps, by simpa using h.1.1⟩
theorem stops_for (W P V : D) (w : List Int) : ∀ (ps : List Nat) (p : List Int) (b : Nat) (x y : Slot), W = tupI w →
    (gaps w ps p b = true → ps.length ≤ p.length → ∃ x' y', forL (.tp [(.nm 4), (.nm 5)]) (sSeq (sIf (tE (e2 (two aIn) (eVar 5) (eSl11 (eVar 0) (eVar 3) (eVar 4))))
  (sRet (eC (.bl false)))
  sNx)
  (sSet 3 (e2 (two aAdd) (eVar 4) (eC (.int 1))))) (zipD (ps.map natD) (p.map .int)) ⟨[.imm W, .imm P, .imm V, .imm (natD b), x, y], none⟩ = .nx ⟨[.imm W, .imm P, .imm V, .imm (natD (endb ps b)), x', y'], none⟩) ∧
    (gaps w ps p b = false → ∃ ρ, forL (.tp [(.nm 4), (.nm 5)]) (sSeq (sIf (tE (e2 (two aIn) (eVar 5) (eSl11 (eVar 0) (eVar 3) (eVar 4))))
  (sRet (eC (.bl false)))
  sNx)
  (sSet 3 (e2 (two aAdd) (eVar 4) (eC (.int 1))))) (zipD (ps.map natD) (p.map .int)) ⟨[.imm W, .imm P, .imm V, .imm (natD b), x, y], none⟩ = .rt (.imm (.bl false)) ρ)
  | [], p, b, x, y, _ => ⟨fun _ _ => ⟨x, y, by simp [zipD, forL_nil, endb]⟩, fun h => by simp [gaps] at h⟩
  | q :: ps, [], b, x, y, _ => ⟨fun _ h => by simp at h, fun h => by simp [gaps] at h⟩
  | q :: ps, l :: p, b, x, y, hW => by
    subst hW
    have ih := stops_for (tupI w) P V w ps p (q + 1) (.imm (natD q)) (.imm (.int l)) rfl
    have hc : cutD (w.map D.int) (some (b : Int)) (some (q : Int)) = ((w.take q).drop b).map .int := by
      rw [cut_both (by omega) (by omega)]; simp [List.map_take, List.map_drop]
    have hin : aIn (.int l) (.tup (cutD (w.map D.int) (some (b : Int)) (some (q : Int)))) = some (.imm (.bl (decide (l ∈ (w.take q).drop b)))) := by rw [hc, aIn_ints]
    simp only [List.map_cons, zipD, forL_cons]
    by_cases c : l ∈ (w.take q).drop b
    · refine ⟨fun h => by simp [gaps, c] at h, fun _ => ⟨⟨[.imm (tupI w), .imm P, .imm V, .imm (natD b), .imm (natD q), .imm (.int l)], none⟩, ?_⟩⟩
      simp [forS, hin, c]
    · have e : forS (.tp [(.nm 4), (.nm 5)]) (sSeq (sIf (tE (e2 (two aIn) (eVar 5) (eSl11 (eVar 0) (eVar 3) (eVar 4))))
  (sRet (eC (.bl false)))
  sNx)
  (sSet 3 (e2 (two aAdd) (eVar 4) (eC (.int 1))))) (.tup [natD q, .int l]) ⟨[.imm (tupI w), .imm P, .imm V, .imm (natD b), x, y], none⟩ = .nx ⟨[.imm (tupI w), .imm P, .imm V, .imm (natD (q + 1)), .imm (natD q), .imm (.int l)], none⟩ := by
        simp [forS, hin, c]
      simp only [e]
      have g : gaps w (q :: ps) (l :: p) b = gaps w ps p (q + 1) := by simp [gaps, c]
      rw [g]
      exact ⟨fun h hl => ih.1 h (by simpa using hl), ih.2⟩
theorem e_stops (w p : List Int) (xs : List D) (hl : w.length ≤ 24) (hp : p.length ≤ 24) : m_are_stops [tupI w, tupI p, .tup xs] = .ok (.imm (.bl (stops w p xs))) := by
  rw [show m_are_stops [tupI w, tupI p, .tup xs] = finP (b_are_stops ⟨[.imm (tupI w), .imm (tupI p), .imm (.tup xs), .un, .un, .un], none⟩) from rfl, b_are_stops]
  by_cases h1 : xs.length < p.length
  · have h1' : ¬ (p.length : Int) ≤ xs.length := by omega
    rw [sSeq_nx (ρ1 := ⟨[.imm (tupI w), .imm (tupI p), .imm (.tup xs), .un, .un, .un], none⟩) (by simp [isD, truD, h1'])]
    have hc : cutD (p.map D.int) none (some (xs.length : Int)) = (p.take xs.length).map .int := by
      rw [cut_to (by omega)]; simp [List.map_take]
    have ep := e_places w (p.take xs.length) xs hl (by omega)
    cases h2 : shown w (p.take xs.length) xs with
    | false =>
      rw [h2] at ep
      rw [u_sSeq]
      simp [-List.map_take, hc, truD, ep, stops, h2]
    | true =>
      rw [h2] at ep
      rw [sSeq_nx (ρ1 := ⟨[.imm (tupI w), .imm (tupI p), .imm (.tup xs), .un, .un, .un], none⟩) (by simp [-List.map_take, hc, truD, ep])]
      obtain ⟨ps, rfl, hps, hlen⟩ := shown_nats h2
      rw [sSeq_nx (ρ1 := ⟨[.imm (tupI w), .imm (tupI p), .imm (.tup (ps.map natD)), .imm (natD 0), .un, .un], none⟩) (by simp [natD])]
      have hb : nats (ps.map natD) = ps := nats_back ps
      have h1n : ps.length < p.length := by simpa using h1
      have hk : (p.map D.int)[ps.length]? = some (.int (p[ps.length]?.getD 0)) := by simp [h1n]
      have hf := stops_for (tupI w) (tupI p) (.tup (ps.map natD)) w ps p 0 .un .un rfl
      cases h3 : gaps w ps p 0 with
      | false =>
        obtain ⟨ρ, e⟩ := hf.2 h3
        rw [u_sSeq]
        simp only [u_sFor, u_iZipT, u_cons, u_var, get_mk0, get_mkS, bind_ok, u_nil, e, finP_imm, stops, hb, h3, Bool.false_and, Bool.and_false]
      | true =>
        obtain ⟨x, y, e⟩ := hf.1 h3 (by omega)
        rw [sSeq_nx (ρ1 := ⟨[.imm (tupI w), .imm (tupI p), .imm (.tup (ps.map natD)), .imm (natD (endb ps 0)), x, y], none⟩) (by
          simp only [u_sFor, u_iZipT, u_cons, u_var, get_mk0, get_mkS, bind_ok, u_nil, e])]
        have hd : cutD (w.map D.int) (some ((endb ps 0 : Nat) : Int)) none = (w.drop (endb ps 0)).map .int := by
          rw [cut_from (by omega)]; simp [List.map_drop]
        have := aIx_nat hk
        have hin : aIn (.int (p[ps.length]?.getD 0)) (.tup (cutD (w.map D.int) (some ((endb ps 0 : Nat) : Int)) none)) = some (.imm (.bl (decide (p[ps.length]?.getD 0 ∈ w.drop (endb ps 0))))) := by rw [hd, aIn_ints]
        have h2' : shown w (p.take ps.length) (ps.map natD) = true := by simpa using h2
        have es : stops w p (ps.map natD) = !decide (p[ps.length]?.getD 0 ∈ w.drop (endb ps 0)) := by
          simp only [stops, hb, h3, Bool.true_and, List.length_map, decide_eq_true h1n, h2']
        rw [es]
        generalize p[ps.length]?.getD 0 = v at this hin ⊢
        simp [this, aNotIn, hin]
  · have h1' : (p.length : Int) ≤ xs.length := by omega
    simp [isD, truD, h1', stops, h1]
end K02

namespace K02
open PySem PySem.Spec PyProof.Rows L2 FW
def lo (ps : List Nat) (b i : Nat) : Nat := ((b :: ps.map (· + 1))[i]?).getD 0
def hi (ps : List Nat) (n i : Nat) : Nat := ((ps ++ [n])[i]?).getD 0
theorem gaps_all (w : List Int) : ∀ (ps : List Nat) (p : List Int) (b : Nat), ps.length < p.length →
    (List.range (ps.length + 1)).any (fun i => decide (p[i]?.getD 0 ∈ (w.take (hi ps w.length i)).drop (lo ps b i))) = !(gaps w ps p b && !decide (p[ps.length]?.getD 0 ∈ w.drop (endb ps b)))
  | [], p, b, h => by
    simp [List.range_succ, hi, lo, gaps, endb]
    exact decide_eq_decide.mpr Iff.rfl
  | q :: ps, [], b, h => by simp at h
  | q :: ps, l :: p, b, h => by
    have ih := gaps_all w ps p (q + 1) (by simpa using h)
    rw [List.length_cons, List.range_succ_eq_map, List.any_cons, List.any_map]
    have e : ((fun i => decide ((l :: p)[i]?.getD 0 ∈ (w.take (hi (q :: ps) w.length i)).drop (lo (q :: ps) b i))) ∘ Nat.succ) = fun i => decide (p[i]?.getD 0 ∈ (w.take (hi ps w.length i)).drop (lo ps (q + 1) i)) := by
      funext i
      simp [hi, lo]
      exact decide_eq_decide.mpr Iff.rfl
    rw [e, ih]
    have e0 : decide ((l :: p)[0]?.getD 0 ∈ (w.take (hi (q :: ps) w.length 0)).drop (lo (q :: ps) b 0)) = decide (l ∈ (w.take q).drop b) := decide_eq_decide.mpr Iff.rfl
    have e1 : (l :: p)[ps.length + 1]?.getD 0 = p[ps.length]?.getD 0 := rfl
    rw [e0]
    simp only [gaps, endb, List.length_cons, e1]
    cases decide (l ∈ (w.take q).drop b) <;> cases gaps w ps p (q + 1) <;> cases decide (p[ps.length]?.getD 0 ∈ w.drop (endb ps (q + 1))) <;> rfl
theorem rng_nats (n : Nat) : FW.intsFrom 0 n = (List.range n).map natD := by
  have h : ∀ (n k : Nat), FW.intsFrom (k : Int) n = (List.range' k n).map natD := by
    intro n
    induction n with
    | zero => intro k; rfl
    | succ n ih =>
      intro k
      have := ih (k + 1)
      rw [List.range'_succ, List.map_cons, FW.intsFrom, ← this]; rfl
  have := h n 0
  rw [List.range_eq_range']
  exact this
theorem marks_lo (ps : List Nat) (n i : Nat) (h : i ≤ ps.length) : (D.int (-1) :: (ps.map natD ++ [D.int (n : Int)]))[i]? = some (.int ((lo ps 0 i : Int) - 1)) := by
  cases i with
  | zero => rfl
  | succ i =>
    have hi' : i < ps.length := by omega
    simp [lo, hi', List.getElem?_append_left, natD]
theorem marks_hi (ps : List Nat) (n i : Nat) (h : i ≤ ps.length) : (D.int (-1) :: (ps.map natD ++ [D.int (n : Int)]))[i + 1]? = some (.int (hi ps n i : Int)) := by
  have e : ps.map natD ++ [D.int (n : Int)] = (ps ++ [n]).map natD := by simp [natD]
  rw [List.getElem?_cons_succ, e, List.getElem?_map]
  have : i < (ps ++ [n]).length := by simp; omega
  simp only [hi, List.getElem?_eq_getElem this, Option.map_some, Option.getD_some, natD]
/-- what both judges find -/
def right (w p : List Int) (v : D) : Bool := match v with
  | .tup [.str k, .tup xs] => if k = "places" then shown w p xs else decide (k = "stops") && stops w p xs
  | _ => false
theorem e_marks (w p : List Int) (ps : List Nat) (hl : w.length ≤ 24) (hp : p.length ≤ 24) (h : ps.length < p.length) (a b c d e : Slot) :
    eLc [6] (iRng1' (eCons (e2 (two aAdd) (eOp (one aLen) (eCons (eVar 4) eNil)) (eC (.int 1))) eNil)) (.nm 6) (tE (e2 (two aIn) (e2 (two aIx) (eVar 1) (eVar 6)) (eSl11 (eVar 0) (e2 (two aAdd) (e2 (two aIx) (eVar 5) (eVar 6)) (eC (.int 1))) (e2 (two aIx) (eVar 5) (e2 (two aAdd) (eVar 6) (eC (.int 1))))))) (eC (.int 1))
      ⟨[.imm (tupI w), .imm (tupI p), b, c, .imm (.tup (ps.map natD)), .imm (.tup (.int (-1) :: (ps.map natD ++ [.int (w.length : Int)]))), .un], none⟩ =
    .ok (.own (.lst (ones (fun i => decide (p[i]?.getD 0 ∈ (w.take (hi ps w.length i)).drop (lo ps 0 i))) (List.range (ps.length + 1))))) ⟨[.imm (tupI w), .imm (tupI p), b, c, .imm (.tup (ps.map natD)), .imm (.tup (.int (-1) :: (ps.map natD ++ [.int (w.length : Int)]))), .un], none⟩ := by
  have el := lcL_of (α := Nat) (vs := [6]) (t := .nm 6) (c := tE (e2 (two aIn) (e2 (two aIx) (eVar 1) (eVar 6)) (eSl11 (eVar 0) (e2 (two aAdd) (e2 (two aIx) (eVar 5) (eVar 6)) (eC (.int 1))) (e2 (two aIx) (eVar 5) (e2 (two aAdd) (eVar 6) (eC (.int 1))))))) (f := eC (.int 1)) natD
    (fun i => if decide (p[i]?.getD 0 ∈ (w.take (hi ps w.length i)).drop (lo ps 0 i)) = true then some (.int 1) else none)
    ⟨[.imm (tupI w), .imm (tupI p), b, c, .imm (.tup (ps.map natD)), .imm (.tup (.int (-1) :: (ps.map natD ++ [.int (w.length : Int)]))), .un], none⟩ (List.range (ps.length + 1)) [] ⟨[.imm (tupI w), .imm (tupI p), b, c, .imm (.tup (ps.map natD)), .imm (.tup (.int (-1) :: (ps.map natD ++ [.int (w.length : Int)]))), .un], none⟩ (by simp) (by
      intro i ρ hi' hw
      have hi2 : i ≤ ps.length := by have := List.mem_range.mp hi'; omega
      have hi3 : i < p.length := by omega
      refine ⟨⟨[.imm (tupI w), .imm (tupI p), b, c, .imm (.tup (ps.map natD)), .imm (.tup (.int (-1) :: (ps.map natD ++ [.int (w.length : Int)]))), .imm (natD i)], none⟩, ?_, by simp⟩
      rw [lcS, hw]
      have m1 := aIx_nat (marks_lo ps w.length i hi2)
      have m2 := aIx_nat (marks_hi ps w.length i hi2)
      have m3 : aIx (tupI p) (.int i) = some (.imm (.int (p[i]?.getD 0))) := aIx_nat (by simp [hi3])
      have hin : aIn (.int (p[i]?.getD 0)) (.tup (cutD (w.map D.int) (some (lo ps 0 i : Int)) (some (hi ps w.length i : Int)))) = some (.imm (.bl (decide (p[i]?.getD 0 ∈ (w.take (hi ps w.length i)).drop (lo ps 0 i))))) := by
        rw [cut_both (by omega) (by omega), ← aIn_ints]; simp
      generalize p[i]?.getD 0 = v at m3 hin ⊢
      generalize lo ps 0 i = l at m1 hin ⊢
      generalize hi ps w.length i = h at m2 hin ⊢
      generalize D.int (-1) :: (ps.map natD ++ [.int (w.length : Int)]) = M at m1 m2 ⊢
      simp only [Int.natCast_add, Int.cast_ofNat_Int] at m2
      cases hd : decide (v ∈ (w.take h).drop l) with
      | true =>
        rw [hd] at hin
        simp [natD, m1, m2, m3, hin]
      | false =>
        rw [hd] at hin
        simp [natD, m1, m2, m3, hin])
  have hr : inRange ((ps.length : Int) + 1) = true := inR (by omega)
  have hn : ((ps.length : Int) + 1).toNat = ps.length + 1 := by omega
  have h3 : ((List.range (ps.length + 1)).map natD).length ≤ 16777216 := by rw [List.length_map, List.length_range]; omega
  rw [u_lc]
  simp only [u_iRng1, u_cons, u_nil, u_2, u_1, u_op, u_var, u_C, get_mk0, get_mkS, bind_ok, rds_cons, rds_nil, rd_imm, Option.bind_some, Option.map_some, one_1, two_2, aLen_tup, aAdd_int, List.length_map, rng0_ok _ hr, hn, rng_nats]
  rw [List.length_map] at h3
  simp only [h3, if_true, el, List.nil_append]
  rfl
end K02

namespace K02
open PySem PySem.Spec PyProof.Rows L2 FW
theorem stops_ne : ¬ (("stops" : Str) = "places") := by decide
theorem e_judged2 (w p : List Int) (k : Str) (xs : List D) (hl : w.length ≤ 24) (hp : p.length ≤ 24) (hx : xs.length ≤ 1000) : m__law_judged [tupI w, tupI p, .tup [.str k, .tup xs]] = .ok (.imm (.bl (right w p (.tup [.str k, .tup xs])))) := by
  have i0 : aIx (.tup [.str k, .tup xs]) (.int 0) = some (.imm (.str k)) := rfl
  have i1 : aIx (.tup [.str k, .tup xs]) (.int 1) = some (.imm (.tup xs)) := rfl
  rw [show m__law_judged [tupI w, tupI p, .tup [.str k, .tup xs]] = finP (b__law_judged ⟨[.imm (tupI w), .imm (tupI p), .imm (.tup [.str k, .tup xs]), .un, .un, .un, .un], none⟩) from rfl, b__law_judged]
  rw [sSeq_nx (ρ1 := ⟨[.imm (tupI w), .imm (tupI p), .imm (.tup [.str k, .tup xs]), .un, .un, .un, .un], none⟩) (by simp [isD, truD, i0, i1])]
  rw [sSeq_nx (ρ1 := ⟨[.imm (tupI w), .imm (tupI p), .imm (.tup [.str k, .tup xs]), .imm (.str k), .imm (.tup xs), .un, .un], none⟩) (by simp)]
  by_cases hk : k = "places"
  · rw [u_sSeq]
    have es : right w p (.tup [.str k, .tup xs]) = shown w p xs := by simp [right, hk]
    rw [es]
    have e := e_shown w p xs hl hx
    simp only [tupI] at e
    simp [hk, e]
  · rw [sSeq_nx (ρ1 := ⟨[.imm (tupI w), .imm (tupI p), .imm (.tup [.str k, .tup xs]), .imm (.str k), .imm (.tup xs), .un, .un], none⟩) (by simp [hk])]
    have es : right w p (.tup [.str k, .tup xs]) = (decide (k = "stops") && stops w p xs) := by simp [right, hk]
    rw [es]
    by_cases hs : k = "stops"
    · by_cases h1 : xs.length < p.length
      · have h1' : ¬ (p.length : Int) ≤ xs.length := by omega
        have e := e_shown w (p.take xs.length) xs hl hx
        have hc : cutD (p.map D.int) none (some (xs.length : Int)) = (p.take xs.length).map .int := by
          rw [cut_to (by omega)]; simp [List.map_take]
        cases h2 : shown w (p.take xs.length) xs with
        | false =>
          rw [h2] at e
          rw [u_sSeq]
          simp [-List.map_take, hs, h1', hc, e, truD, stops, h2]
        | true =>
          rw [h2] at e
          rw [sSeq_nx (ρ1 := ⟨[.imm (tupI w), .imm (tupI p), .imm (.tup [.str k, .tup xs]), .imm (.str k), .imm (.tup xs), .un, .un], none⟩) (by simp [-List.map_take, hs, h1', hc, e, truD])]
          obtain ⟨ps, rfl, hps, hlen⟩ := shown_nats h2
          have h1n : ps.length < p.length := by simpa using h1
          have hsz : ps.length ≤ 16777214 ∧ 1 + ps.length ≤ 16777216 := by omega
          rw [sSeq_nx (ρ1 := ⟨[.imm (tupI w), .imm (tupI p), .imm (.tup [.str k, .tup (ps.map natD)]), .imm (.str k), .imm (.tup (ps.map natD)), .imm (.tup (.int (-1) :: (ps.map natD ++ [.int (w.length : Int)]))), .un], none⟩) (by
            simp [hsz])]
          have em := e_marks w p ps hl hp h1n (.imm (tupI w)) (.imm (.tup [.str k, .tup (ps.map natD)])) (.imm (.str k)) .un .un
          rw [u_sRet, u_2, u_op, u_cons, em]
          have hb : nats (ps.map natD) = ps := nats_back ps
          have h2' : shown w (p.take ps.length) (ps.map natD) = true := by simpa using h2
          have eg := gaps_all w ps p 0 h1n
          have eo := ones_none (fun i => decide (p[i]?.getD 0 ∈ (w.take (hi ps w.length i)).drop (lo ps 0 i))) (List.range (ps.length + 1))
          have ek := ones_ok (fun i => decide (p[i]?.getD 0 ∈ (w.take (hi ps w.length i)).drop (lo ps 0 i))) (List.range (ps.length + 1))
          rw [eg, Bool.not_not] at eo
          have est : stops w p (ps.map natD) = (gaps w ps p 0 && !decide (p[ps.length]?.getD 0 ∈ w.drop (endb ps 0))) := by
            simp only [stops, hb, Bool.true_and, List.length_map, decide_eq_true h1n, h2']
          rw [est, ← eo]
          simp [ek, hs]
      · have h1' : (p.length : Int) ≤ xs.length := by omega
        rw [u_sSeq]
        simp [hs, h1', stops, h1]
    · rw [u_sSeq]
      simp [hs]
theorem e_judged (w p : List Int) (v : D) (hl : w.length ≤ 24) (hp : p.length ≤ 24) (hx : ∀ a xs, v = .tup [a, .tup xs] → xs.length ≤ 1000) : m__law_judged [tupI w, tupI p, v] = .ok (.imm (.bl (right w p v))) := by
  match v, hx with
  | .tup [.str k, .tup xs], hx => exact e_judged2 w p k xs hl hp (hx _ _ rfl)
  | .non, _ | .bl _, _ | .int _, _ | .str _, _ | .lst _, _ | .dk _, _ | .dt _, _ | .scr _, _ => simp [m__law_judged, mkP, b__law_judged, isD, truD, right]
  | .tup [], _ => simp [m__law_judged, mkP, b__law_judged, isD, truD, right]
  | .tup [a], _ => simp [m__law_judged, mkP, b__law_judged, isD, truD, right]
  | .tup (a :: b :: c :: r), _ =>
    have h : ¬ (r.length : Int) + 1 + 1 + 1 = 2 := by omega
    simp [m__law_judged, mkP, b__law_judged, isD, truD, right, h]
  | .tup [.non, b], _ | .tup [.bl _, b], _ | .tup [.int _, b], _ | .tup [.tup _, b], _ | .tup [.lst _, b], _ | .tup [.dk _, b], _ | .tup [.dt _, b], _ | .tup [.scr _, b], _ =>
    simp [m__law_judged, mkP, b__law_judged, isD, truD, right, aIx, L2.atI, L2.ixN]
  | .tup [.str k, .non], _ | .tup [.str k, .bl _], _ | .tup [.str k, .int _], _ | .tup [.str k, .str _], _ | .tup [.str k, .lst _], _ | .tup [.str k, .dk _], _ | .tup [.str k, .dt _], _ | .tup [.str k, .scr _], _ =>
    simp [m__law_judged, mkP, b__law_judged, isD, truD, right, aIx, L2.atI, L2.ixN]
theorem e_placesN (w p : List Int) (v : D) (h : isD .tuple v = false) : m_are_places [tupI w, tupI p, v] = .ok (.imm (.bl false)) := by
  simp [m_are_places, mkP, b_are_places, h, truD]
theorem e_stopsN (w p : List Int) (v : D) (h : isD .tuple v = false) : m_are_stops [tupI w, tupI p, v] = .ok (.imm (.bl false)) := by
  simp [m_are_stops, mkP, b_are_stops, h, truD]
theorem e_is (w p : List Int) (v : D) (hw : Bel 4 w) (hl : w.length ≤ 24) (hb : Bel 4 p) (hp : p.length ≤ 24) (hx : ∀ a xs, v = .tup [a, .tup xs] → xs.length ≤ 1000) : m_is_part_paper [tupI w, tupI p, v] = .ok (.imm (.bl (right w p v))) := by
  have ew := e_wants hw hl hb hp
  rw [show m_is_part_paper [tupI w, tupI p, v] = finP (b_is_part_paper ⟨[.imm (tupI w), .imm (tupI p), .imm v], none⟩) from rfl, b_is_part_paper]
  rw [sSeq_nx (ρ1 := ⟨[.imm (tupI w), .imm (tupI p), .imm v], none⟩) (by simp only [tupI] at ew; simp [ew])]
  have two : ∀ (k : Str) (b : D) (r1 r2 : Bool), m_are_places [tupI w, tupI p, b] = .ok (.imm (.bl r1)) → m_are_stops [tupI w, tupI p, b] = .ok (.imm (.bl r2)) →
      right w p (.tup [.str k, b]) = (if k = "places" then r1 else decide (k = "stops") && r2) → v = .tup [.str k, b] →
      finP (sSeq (sIf (tOr' (tNot' (tTru (e1 (one (aIsi .tuple)) (eVar 2)))) (tOr' (tE (e2 (FW.two aNe) (eOp (one aLen) (eCons (eVar 2) eNil)) (eC (.int 2)))) (tNot' (tTru (e1 (one (aIsi .str)) (e2 (FW.two aIx) (eVar 2) (eC (.int 0))))))))
  (sRet (eC (.bl false)))
  sNx)
  (sSeq (sIf (tE (e2 (FW.two aEq) (e2 (FW.two aIx) (eVar 2) (eC (.int 0))) (eC (.str "places"))))
  (sRet (eCall m_are_places (eCons (eVar 0) (eCons (eVar 1) (eCons (e2 (FW.two aIx) (eVar 2) (eC (.int 1))) eNil)))))
  sNx)
  (sRet (eAnd (e2 (FW.two aEq) (e2 (FW.two aIx) (eVar 2) (eC (.int 0))) (eC (.str "stops"))) (eCall m_are_stops (eCons (eVar 0) (eCons (eVar 1) (eCons (e2 (FW.two aIx) (eVar 2) (eC (.int 1))) eNil))))))) ⟨[.imm (tupI w), .imm (tupI p), .imm v], none⟩) = .ok (.imm (.bl (right w p v))) := by
    intro k b r1 r2 h1 h2 hr hv
    subst hv
    have i0 : aIx (.tup [.str k, b]) (.int 0) = some (.imm (.str k)) := rfl
    have i1 : aIx (.tup [.str k, b]) (.int 1) = some (.imm b) := rfl
    rw [hr]
    simp only [tupI] at h1 h2
    by_cases hk : k = "places"
    · subst hk
      simp [isD, truD, i0, i1, h1]
    · by_cases hs : k = "stops"
      · subst hs
        have hne : ¬ (("stops" : Str) = "places") := by decide
        simp [isD, truD, i0, i1, hne, h2]
      · simp [isD, truD, i0, i1, hk, hs]
  match v, hx, two with
  | .tup [.str k, .tup xs], hx, two => exact two k (.tup xs) _ _ (e_places w p xs hl (hx _ _ rfl)) (e_stops w p xs hl hp) rfl rfl
  | .non, _, _ | .bl _, _, _ | .int _, _, _ | .str _, _, _ | .lst _, _, _ | .dk _, _, _ | .dt _, _, _ | .scr _, _, _ => simp [isD, truD, right]
  | .tup [], _, _ => simp [isD, truD, right]
  | .tup [a], _, _ => simp [isD, truD, right]
  | .tup (a :: b :: c :: r), _, _ =>
    have h : ¬ (r.length : Int) + 1 + 1 + 1 = 2 := by omega
    simp [isD, truD, right, h]
  | .tup [.non, b], _, _ | .tup [.bl _, b], _, _ | .tup [.int _, b], _, _ | .tup [.tup _, b], _, _ | .tup [.lst _, b], _, _ | .tup [.dk _, b], _, _ | .tup [.dt _, b], _, _ | .tup [.scr _, b], _, _ =>
    simp [isD, truD, right, aIx, L2.atI, L2.ixN]
  | .tup [.str k, .non], _, two | .tup [.str k, .bl _], _, two | .tup [.str k, .int _], _, two | .tup [.str k, .str _], _, two | .tup [.str k, .lst _], _, two | .tup [.str k, .dk _], _, two | .tup [.str k, .dt _], _, two | .tup [.str k, .scr _], _, two =>
    exact two k _ _ _ (e_placesN w p _ rfl) (e_stopsN w p _ rfl) (by simp [right]) rfl
end K02

namespace K02
open PySem PySem.Spec PyProof.Rows L2 FW
/-- a value that is small enough to be judged -/
def Sm (v : D) : Prop := ∀ a xs, v = .tup [a, .tup xs] → xs.length ≤ 1000
theorem Sm.two {a : D} {xs : List D} (h : xs.length ≤ 1000) : Sm (.tup [a, .tup xs]) := fun _ _ e => by cases e; exact h
theorem altered_ok (s : DS) (w : List Int) (k : Str) (ps : List D) (n : Nat) (hg : Good s (n + 3)) (hl : w.length ≤ 24) (hp : ps.length ≤ 24) (hps : ∀ d ∈ ps, ∃ i, d = .int i) :
    ∃ v s', m__law_altered (.drw s) [tupI w, .tup [.str k, .tup ps]] = .ok (.imm v) (.drw s') ∧ Good s' n ∧ Sm v := by
  obtain ⟨way, s1, e1, g1, w0, w1⟩ := draw_ok s 9 (n + 2) (hg.mono (by omega)) (by omega) (by omega)
  obtain ⟨spot, s2, ed2, g2, p0, p1⟩ := draw_ok s1 (ps.length + 1) (n + 1) g1 (by omega) (by omega)
  rw [show m__law_altered (.drw s) [tupI w, .tup [.str k, .tup ps]] = finR (b__law_altered ⟨[.ob, .imm (tupI w), .imm (.tup [.str k, .tup ps]), .un, .un, .un, .un, .un], some (.drw s)⟩) from rfl, b__law_altered]
  rw [sSeq_nx (ρ1 := ⟨[.ob, .imm (tupI w), .imm (.tup [.str k, .tup ps]), .imm (.str k), .imm (.tup ps), .un, .un, .un], some (.drw s)⟩) (by simp)]
  rw [sSeq_nx (ρ1 := ⟨[.ob, .imm (tupI w), .imm (.tup [.str k, .tup ps]), .imm (.str k), .imm (.tup ps), .imm (.int way), .imm (.int spot), .un], some (.drw s2)⟩) (by simp [e1, ed2])]
  have c1 : cutD ps none (some spot) = ps.take spot.toNat := cut_to p0
  have c2 : cutD ps (some spot) none = ps.drop spot.toNat := cut_from p0
  have c3 : cutD ps (some (spot + 1)) none = ps.drop (spot + 1).toNat := cut_from (by omega)
  have z1 : (ps.take spot.toNat).length ≤ 24 := by rw [List.length_take]; omega
  have z2 : (ps.drop spot.toNat).length ≤ 24 := by rw [List.length_drop]; omega
  have z3 : (ps.drop (spot + 1).toNat).length ≤ 24 := by rw [List.length_drop]; omega
  generalize ps.take spot.toNat = A at c1 z1
  generalize ps.drop spot.toNat = B at c2 z2
  generalize ps.drop (spot + 1).toNat = C at c3 z3
  have y1 : A.length + C.length ≤ 16777216 := by omega
  have y2 : A.length + 1 ≤ 16777216 := by omega
  have y2' : A.length ≤ 16777215 := by omega
  have y3 : A.length + 1 + B.length ≤ 16777216 := by omega
  have y4 : A.length + 1 + C.length ≤ 16777216 := by omega
  have y5 : A.length + (B.length + 1) ≤ 16777216 := by omega
  have y6 : A.length + (C.length + 1) ≤ 16777216 := by omega
  by_cases h0 : way = 0
  · refine ⟨.tup [.str k, .tup (A ++ C)], s2, ?_, g2.mono (by omega), .two (by simp; omega)⟩
    rw [u_sSeq]
    simp [h0, c1, c3, y1]
  rw [sSeq_nx (ρ1 := ⟨[.ob, .imm (tupI w), .imm (.tup [.str k, .tup ps]), .imm (.str k), .imm (.tup ps), .imm (.int way), .imm (.int spot), .un], some (.drw s2)⟩) (by simp [h0])]
  by_cases h1 : way = 1
  · obtain ⟨r, s3, e3, g3, r0, r1⟩ := draw_ok s2 (w.length + 1) n g2 (by omega) (by omega)
    refine ⟨.tup [.str k, .tup (A ++ [.int r] ++ B)], s3, ?_, g3, .two (by simp; omega)⟩
    rw [u_sSeq]
    simp [h1, c1, c2, y2, y2', y3, e3]
  rw [sSeq_nx (ρ1 := ⟨[.ob, .imm (tupI w), .imm (.tup [.str k, .tup ps]), .imm (.str k), .imm (.tup ps), .imm (.int way), .imm (.int spot), .un], some (.drw s2)⟩) (by simp [h1])]
  by_cases h2 : way = 2
  · obtain ⟨r, s3, e3, g3, r0, r1⟩ := draw_ok s2 (w.length + 2) n g2 (by omega) (by omega)
    refine ⟨.tup [.str k, .tup (A ++ [.int (r - 1)] ++ C)], s3, ?_, g3, .two (by simp; omega)⟩
    rw [u_sSeq]
    simp [h2, c1, c3, y2, y2', y4, e3]
  rw [sSeq_nx (ρ1 := ⟨[.ob, .imm (tupI w), .imm (.tup [.str k, .tup ps]), .imm (.str k), .imm (.tup ps), .imm (.int way), .imm (.int spot), .un], some (.drw s2)⟩) (by simp [h2])]
  by_cases h3 : way = 3
  · refine ⟨.tup [.str (if k = "places" then "stops" else "places"), .tup ps], s2, ?_, g2.mono (by omega), .two (by omega)⟩
    rw [u_sSeq]
    by_cases hk : k = "places" <;> simp [h3, hk]
  rw [sSeq_nx (ρ1 := ⟨[.ob, .imm (tupI w), .imm (.tup [.str k, .tup ps]), .imm (.str k), .imm (.tup ps), .imm (.int way), .imm (.int spot), .un], some (.drw s2)⟩) (by simp [h3])]
  by_cases h4 : way = 4
  · refine ⟨.tup [.str k, .lst ps], s2, ?_, g2.mono (by omega), fun _ _ e => by cases e⟩
    rw [u_sSeq]
    simp [h4]
  rw [sSeq_nx (ρ1 := ⟨[.ob, .imm (tupI w), .imm (.tup [.str k, .tup ps]), .imm (.str k), .imm (.tup ps), .imm (.int way), .imm (.int spot), .un], some (.drw s2)⟩) (by simp [h4])]
  by_cases h5 : way = 5
  · obtain ⟨d, s3, e3, g3, hd⟩ := pick_ok s2 [.bl true, .non, .str "0", .tup [.int 0], .int (0 - 1)] n g2 (by simp) (by simp)
    refine ⟨.tup [.str k, .tup (A ++ [d] ++ C)], s3, ?_, g3, .two (by simp; omega)⟩
    rw [u_sSeq]
    simp at e3
    simp [h5, c1, c3, y2, y2', y4, e3]
  rw [sSeq_nx (ρ1 := ⟨[.ob, .imm (tupI w), .imm (.tup [.str k, .tup ps]), .imm (.str k), .imm (.tup ps), .imm (.int way), .imm (.int spot), .un], some (.drw s2)⟩) (by simp [h5])]
  by_cases h6 : way = 6
  · obtain ⟨d, s3, e3, g3, hd⟩ := pick_ok s2 [.non, .lst [.str k, .tup ps], .tup [.str k], .tup [.str k, .tup ps, .int 0], .tup [.int 5, .tup ps], .tup [.str k, .non], .str k] n g2 (by simp) (by simp)
    refine ⟨d, s3, ?_, g3, ?_⟩
    · rw [u_sSeq]
      simp [h6, e3]
    · intro a xs e
      subst e
      simp at hd
      rw [hd.2]; omega
  rw [sSeq_nx (ρ1 := ⟨[.ob, .imm (tupI w), .imm (.tup [.str k, .tup ps]), .imm (.str k), .imm (.tup ps), .imm (.int way), .imm (.int spot), .un], some (.drw s2)⟩) (by simp [h6])]
  by_cases h7 : way = 7
  · have el := lcL_map (vs := [7]) (t := .nm 7) (c := tYes') (f := e2 (two aAdd) (eVar 7) (eC (.int 1))) (fun d => match d with | .int i => .int (i + 1) | _ => .non)
      ⟨[.ob, .imm (tupI w), .imm (.tup [.str k, .tup ps]), .imm (.str k), .imm (.tup ps), .imm (.int way), .imm (.int spot), .un], some (.drw s2)⟩ ps ⟨[.ob, .imm (tupI w), .imm (.tup [.str k, .tup ps]), .imm (.str k), .imm (.tup ps), .imm (.int way), .imm (.int spot), .un], some (.drw s2)⟩ (by simp) (by
        intro d ρ hd hw
        obtain ⟨i, rfl⟩ := hps d hd
        refine ⟨⟨[.ob, .imm (tupI w), .imm (.tup [.str k, .tup ps]), .imm (.str k), .imm (.tup ps), .imm (.int way), .imm (.int spot), .imm (.int i)], some (.drw s2)⟩, ?_, by simp⟩
        rw [lcS, hw]
        simp)
    have hz : ps.length ≤ 16777216 := by omega
    refine ⟨.tup [.str k, .tup (ps.map (fun d => match d with | .int i => .int (i + 1) | _ => .non))], s2, ?_, g2.mono (by omega), .two (by simp; omega)⟩
    subst h7
    simp [hz, el]
  · refine ⟨.tup [.str k, .tup ps.reverse], s2, ?_, g2.mono (by omega), .two (by simp; omega)⟩
    simp [h7]
end K02

namespace K02
open PySem PySem.Spec PyProof.Rows L2 FW
/-! ## the leftmost places are right -/
theorem take_idx (l : Int) : ∀ xs : List Int, l ∉ xs.take (xs.idxOf l)
  | [] => by simp
  | x :: xs => by
    by_cases c : x = l
    · simp [List.idxOf_cons, c]
    · rw [List.idxOf_cons, show (x == l) = false by simpa using c]
      simp only [cond_false, List.take_succ_cons, List.mem_cons, not_or]
      exact ⟨fun z => c z.symm, take_idx l xs⟩
theorem idx_end (l : Int) : ∀ xs : List Int, xs.idxOf l = xs.length → l ∉ xs
  | [], _ => by simp
  | x :: xs, h => by
    by_cases c : x = l
    · rw [List.idxOf_cons, show (x == l) = true by simpa using c] at h; simp at h
    · rw [List.idxOf_cons, show (x == l) = false by simpa using c] at h
      simp only [cond_false, List.length_cons, Nat.add_right_cancel_iff] at h
      rw [List.mem_cons, not_or]
      exact ⟨fun z => c z.symm, idx_end l xs h⟩
theorem idx_at (l : Int) : ∀ xs : List Int, xs.idxOf l < xs.length → xs[xs.idxOf l]? = some l
  | [], h => by simp at h
  | x :: xs, h => by
    by_cases c : x = l
    · rw [List.idxOf_cons, show (x == l) = true by simpa using c]; simp [c]
    · rw [List.idxOf_cons, show (x == l) = false by simpa using c] at h ⊢
      simp only [cond_false, List.length_cons, Nat.add_lt_add_iff_right] at h ⊢
      rw [List.getElem?_cons_succ]
      exact idx_at l xs h
theorem fnd_not (w : List Int) (l : Int) (h : Nat) : l ∉ (w.take (fnd w l h)).drop h := by
  unfold fnd
  have : (w.take (h + (w.drop h).idxOf l)).drop h = (w.drop h).take ((w.drop h).idxOf l) := by
    rw [List.drop_take]; congr 1; omega
  rw [this]; exact take_idx l _
theorem fnd_none {w : List Int} {l : Int} {h : Nat} (hh : h ≤ w.length) (e : fnd w l h = w.length) : l ∉ w.drop h := by
  refine idx_end l _ ?_
  unfold fnd at e
  rw [List.length_drop]; omega
theorem fnd_at {w : List Int} {l : Int} {h : Nat} (hh : h ≤ w.length) (e : fnd w l h ≠ w.length) : fnd w l h < w.length ∧ h ≤ fnd w l h ∧ w[fnd w l h]? = some l := by
  have h1 := fnd_le (l := l) hh
  have h2 : (w.drop h).idxOf l < (w.drop h).length := by
    unfold fnd at e h1; rw [List.length_drop]; omega
  have h3 := idx_at l _ h2
  rw [List.getElem?_drop] at h3
  exact ⟨by omega, by unfold fnd; omega, h3⟩
theorem asc_cons {q : Nat} {ps : List Nat} (h : ∀ r ∈ ps, q < r) (a : asc ps = true) : asc (q :: ps) = true := by
  cases ps with
  | nil => rfl
  | cons r rs =>
    unfold asc at a ⊢
    simp only [List.tail_cons, List.zip_cons_cons, List.all_cons, Bool.and_eq_true, decide_eq_true_eq] at a ⊢
    exact ⟨h r (by simp), a⟩
theorem lm_ok (w : List Int) : ∀ (p : List Int) (h : Nat), h ≤ w.length → (∀ q ∈ lm w p h, h ≤ q ∧ q < w.length) ∧ asc (lm w p h) = true ∧ (lm w p h).map (fun q => w[q]?.getD 0) = p.take (lm w p h).length ∧
    gaps w (lm w p h) p h = true ∧ ((lm w p h).length < p.length → p[(lm w p h).length]?.getD 0 ∉ w.drop (endb (lm w p h) h))
  | [], h, _ => by simp [lm, asc, gaps]
  | l :: p, h, hh => by
    rw [lm]
    by_cases c : fnd w l h = w.length
    · rw [if_pos c]
      refine ⟨by simp, rfl, by simp, rfl, fun _ => ?_⟩
      exact fnd_none hh c
    · rw [if_neg c]
      obtain ⟨f1, f2, f3⟩ := fnd_at hh c
      obtain ⟨a1, a2, a3, a4, a5⟩ := lm_ok w p (fnd w l h + 1) (by omega)
      refine ⟨?_, ?_, ?_, ?_, ?_⟩
      · intro q hq
        rcases List.mem_cons.mp hq with rfl | hq
        · exact ⟨f2, f1⟩
        · have := a1 q hq; omega
      · exact asc_cons (fun r hr => by have := a1 r hr; omega) a2
      · simp [f3, a3]
      · simp only [gaps, a4, Bool.and_true, Bool.not_eq_true', decide_eq_false_iff_not]
        exact fnd_not w l h
      · intro hl
        exact a5 (by simpa using hl)
theorem shown_of {w p : List Int} {ps : List Nat} (h1 : ps.length = p.length) (h2 : ∀ q ∈ ps, q < w.length) (h3 : asc ps = true) (h4 : ps.map (fun q => w[q]?.getD 0) = p) : shown w p (ps.map natD) = true := by
  simp only [shown, nats_back, List.length_map, decide_eq_true h1, Bool.true_and, h3, fit, h4, decide_true, Bool.and_true]
  rw [List.all_eq_true]
  intro d hd
  obtain ⟨q, hq, rfl⟩ := List.mem_map.mp hd
  have := h2 q hq
  simp only [cnt, natD, Bool.and_eq_true, decide_eq_true_eq]
  omega
theorem right_paper (w p : List Int) : right w p (.tup [.str (if (lm w p 0).length = p.length then "places" else "stops"), .tup ((lm w p 0).map natD)]) = true := by
  obtain ⟨a1, a2, a3, a4, a5⟩ := lm_ok w p 0 (by omega)
  have hle := lm_len w p 0
  by_cases c : (lm w p 0).length = p.length
  · rw [if_pos c]
    simp only [right, if_true]
    refine shown_of c (fun q hq => (a1 q hq).2) a2 ?_
    rw [a3, c, List.take_length]
  · rw [if_neg c]
    have hne : ¬ (("stops" : Str) = "places") := by decide
    simp only [right, if_neg hne, decide_true, Bool.true_and]
    have hlt : (lm w p 0).length < p.length := by omega
    have hb : nats ((lm w p 0).map natD) = lm w p 0 := nats_back _
    have hs : shown w (p.take (lm w p 0).length) ((lm w p 0).map natD) = true := shown_of (by rw [List.length_take]; omega) (fun q hq => (a1 q hq).2) a2 a3
    simp only [stops, hb, List.length_map, decide_eq_true hlt, hs, a4, Bool.true_and, decide_eq_false (a5 hlt), Bool.not_false]
end K02

namespace K02
open PySem PySem.Spec PyProof.Rows L2 FW
abbrev Fr (ns : List Int) (s : DS) (x2 x3 x4 x5 x6 x7 x8 x9 x10 : FW.Slot) : Rho := ⟨[.imm (.scr ns), .own (.drw s), x2, x3, x4, x5, x6, x7, x8, x9, x10], none⟩
theorem Bel.up {k k' : Int} {w : List Int} (h : Bel k w) (l : k ≤ k') : Bel k' w := fun x m => ⟨(h x m).1, by have := (h x m).2; omega⟩
theorem part_ok (ns : List Int) (s : DS) (w : List Int) (kinds : Int) (n : Nat) (hg : Good s (n + 30)) (hw : Bel kinds w) (hl : w.length ≤ 24) (hk : 0 < kinds) (hk2 : kinds ≤ 4) (x2 x5 x6 x7 x8 x9 x10 : FW.Slot) :
    ∃ p s' y6, (sSet 5 (eIf (tE (e2 (two aEq) (eCallR Com.m__law_draw (eCons (eVar 1) (eCons (eC (.int 2)) eNil))) (eC (.int 0)))) (eOp (one aTuple) (eCons (eLc [6] (iTup' (eVar 4)) (.nm 6) (tE (e2 (two aEq) (eCallR Com.m__law_draw (eCons (eVar 1) (eCons (eC (.int 2)) eNil))) (eC (.int 0)))) (eVar 6)) eNil)) (eCallR Com.m__law_word (eCons (eVar 1) (eCons (eVar 3) (eCons (eC (.int 8)) eNil)))))) (Fr ns s x2 (.imm (.int kinds)) (.imm (tupI w)) x5 x6 x7 x8 x9 x10) = .nx (Fr ns s' x2 (.imm (.int kinds)) (.imm (tupI w)) (.imm (tupI p)) y6 x7 x8 x9 x10) ∧ Good s' n ∧ Bel kinds p ∧ p.length ≤ 24 := by
  obtain ⟨c, s1, e1, g1, c0, c1⟩ := draw_ok s 2 (n + 29) (hg.mono (by omega)) (by omega) (by omega)
  by_cases h0 : c = 0
  · obtain ⟨out, ρ', el, hp, hlen, s3, x, rfl, g3⟩ := lcL_inv (vs := [6]) (t := .nm 6) (c := tE (e2 (two aEq) (eCallR Com.m__law_draw (eCons (eVar 1) (eCons (eC (.int 2)) eNil))) (eC (.int 0)))) (f := eVar 6)
      (fun m ρ => ∃ s x, ρ = Fr ns s x2 (.imm (.int kinds)) (.imm (tupI w)) x5 x x7 x8 x9 x10 ∧ Good s (n + m)) (fun d => ∃ i, d = .int i ∧ 0 ≤ i ∧ i < kinds) (by
        rintro m _ ⟨s, x, rfl, g⟩; exact ⟨s, .un, by simp, g⟩) (w.map .int) [] (Fr ns s1 x2 (.imm (.int kinds)) (.imm (tupI w)) x5 x6 x7 x8 x9 x10) ⟨s1, x6, rfl, g1.mono (by rw [List.length_map]; omega)⟩ (by
        rintro m d _ hd ⟨s, x, rfl, g⟩
        obtain ⟨i, hi, rfl⟩ := List.mem_map.mp hd
        obtain ⟨r, s3, e3, g3, h0, h1⟩ := draw_ok s 2 (n + m) (g.mono (by omega)) (by omega) (by omega)
        by_cases hr : r = 0
        · refine ⟨some (.int i), Fr ns s3 x2 (.imm (.int kinds)) (.imm (tupI w)) x5 (.imm (.int i)) x7 x8 x9 x10, ?_, ?_, s3, _, rfl, g3⟩
          · simp [lcS, e3, hr]
          · intro y hy; cases hy; exact ⟨i, rfl, hw i hi⟩
        · refine ⟨none, Fr ns s3 x2 (.imm (.int kinds)) (.imm (tupI w)) x5 (.imm (.int i)) x7 x8 x9 x10, ?_, by simp, s3, _, rfl, g3⟩
          simp [lcS, e3, hr])
    obtain ⟨p, hp'⟩ := map_int (xs := out) fun d hd => by
      obtain ⟨x, e, _⟩ := hp d hd; exact ⟨x, e⟩
    subst hp'
    have hz : w.length ≤ 16777216 := by omega
    refine ⟨p, s3, x, ?_, g3.mono (by omega), ?_, ?_⟩
    · simp [e1, h0, hz, tupI]
      simp [tupI] at el
      simp [el]
    · intro y hy
      obtain ⟨z, e, h⟩ := hp _ (List.mem_map_of_mem hy)
      cases e; exact h
    · simp at hlen; omega
  · obtain ⟨p, s2, e2', g2, b2, l2⟩ := word_ok s1 kinds 8 n (g1.mono (by simp)) hk (by omega) (by omega) (by omega)
    refine ⟨p, s2, x6, ?_, g2, b2, by omega⟩
    simp [e1, h0, e2', tupI]
theorem law_true (ns : List Int) (hns : ns.length ≤ 63) : m_law [.scr ns] = .ok (.imm (.bl true)) := by
  obtain ⟨s0, e0, t0⟩ := begun_ok ns hns
  rw [show m_law [.scr ns] = finP (b_law ⟨[.imm (.scr ns), .un, .un, .un, .un, .un, .un, .un, .un, .un, .un], none⟩) from rfl, b_law]
  refine g_seq (ρ1 := Fr ns s0 .un .un .un .un .un .un .un .un .un) (by simp [e0]) ?_
  have hr : inRange (8 + if (12 : Int) < ns.length then 12 else (ns.length : Int)) = true := inR (by split <;> omega)
  refine g_for (fun m ρ => ∃ s x2 x3 x4 x5 x6 x7 x8 x9 x10, ρ = Fr ns s x2 x3 x4 x5 x6 x7 x8 x9 x10 ∧ Good s (m * 200)) (ρ1 := Fr ns s0 .un .un .un .un .un .un .un .un .un) (ds := FW.intsFrom 0 ((8 + if (12 : Int) < ns.length then 12 else (ns.length : Int)).toNat)) ?_ ?_ ?_ ?_
  · generalize hj : (8 + if (12 : Int) < ns.length then 12 else (ns.length : Int)) = j at hr
    simp [hj, hr]
  · refine ⟨s0, .un, .un, .un, .un, .un, .un, .un, .un, .un, rfl, ?_, ?_⟩
    · rw [t0]; omega
    · rw [t0, ints_len]; split <;> omega
  · rintro m d _ hd ⟨s, x2, x3, x4, x5, x6, x7, x8, x9, x10, rfl, g⟩
    obtain ⟨turn, rfl, _, _⟩ := ints_mem hd
    refine ex_turn (ρ1 := Fr ns s (.imm (.int turn)) x3 x4 x5 x6 x7 x8 x9 x10) (by simp) ?_
    obtain ⟨k0, s1, e1, g1, k1, k2⟩ := draw_ok s 3 (m * 200 + 190) (g.mono (by omega)) (by omega) (by omega)
    refine ex_seq (ρ1 := Fr ns s1 (.imm (.int turn)) (.imm (.int (2 + k0))) x4 x5 x6 x7 x8 x9 x10) (by simp [e1]) ?_
    obtain ⟨kinds, hk⟩ : ∃ kinds, kinds = 2 + k0 := ⟨_, rfl⟩
    rw [← hk]
    obtain ⟨d, s2, e2', g2, hd2⟩ := pick_ok s1 [.int 4, .int 10, .int 24] (m * 200 + 189) g1 (by simp) (by simp)
    obtain ⟨most, rfl, m0, m1⟩ : ∃ most, d = .int most ∧ 0 ≤ most ∧ most ≤ 24 := by
      simp at hd2
      rcases hd2 with rfl | rfl | rfl
      · exact ⟨4, rfl, by omega, by omega⟩
      · exact ⟨10, rfl, by omega, by omega⟩
      · exact ⟨24, rfl, by omega, by omega⟩
    obtain ⟨w, s3, e3, g3, bw, lw⟩ := word_ok s2 kinds most (m * 200 + 130) (g2.mono (by omega)) (by omega) (by omega) m0 (by omega)
    refine ex_seq (ρ1 := Fr ns s3 (.imm (.int turn)) (.imm (.int kinds)) (.imm (tupI w)) x5 x6 x7 x8 x9 x10) (by simp [e2', e3]) ?_
    obtain ⟨p, s4, y6, e4, g4, bp, lp⟩ := part_ok ns s3 w kinds (m * 200 + 100) (g3.mono (by omega)) bw (by omega) (by omega) (by omega) (.imm (.int turn)) x5 x6 x7 x8 x9 x10
    refine ex_seq e4 ?_
    have bw4 : Bel 4 w := Bel.up bw (by omega)
    have bp4 : Bel 4 p := Bel.up bp (by omega)
    have lw4 : w.length ≤ 24 := by omega
    have ep := e_paper bw4 lw4 bp4 lp
    have er := right_paper w p
    have hlm := lm_len w p 0
    obtain ⟨v, hv⟩ : ∃ v, v = D.tup [.str (if (lm w p 0).length = p.length then "places" else "stops"), .tup ((lm w p 0).map natD)] := ⟨_, rfl⟩
    rw [← hv] at ep er
    have sv : Sm v := by rw [hv]; exact .two (by rw [List.length_map]; omega)
    refine ex_seq (ρ1 := Fr ns s4 (.imm (.int turn)) (.imm (.int kinds)) (.imm (tupI w)) (.imm (tupI p)) y6 (.imm v) x8 x9 x10) (by simp [ep]) ?_
    have i1 := e_is w p v bw4 lw4 bp4 lp sv
    have j1 := e_judged w p v lw4 lp sv
    rw [er] at i1 j1
    refine ex_seq (ρ1 := Fr ns s4 (.imm (.int turn)) (.imm (.int kinds)) (.imm (tupI w)) (.imm (tupI p)) y6 (.imm v) x8 x9 x10) (by simp [i1, j1, truD]) ?_
    refine ex_for (fun q ρ => ∃ s x8 x9, ρ = Fr ns s (.imm (.int turn)) (.imm (.int kinds)) (.imm (tupI w)) (.imm (tupI p)) y6 (.imm v) x8 x9 x10 ∧ Good s (m * 200 + 70 + q * 3)) (ρ1 := Fr ns s4 (.imm (.int turn)) (.imm (.int kinds)) (.imm (tupI w)) (.imm (tupI p)) y6 (.imm v) x8 x9 x10) (ds := FW.intsFrom 0 6) ?_ ?_ ?_ ?_
    · have h6 : inRange 6 = true := inR (by omega)
      simp [h6]
    · exact ⟨s4, x8, x9, rfl, g4.mono (by rw [ints_len]; omega)⟩
    · rintro q d _ hd ⟨s, x8, x9, rfl, g⟩
      obtain ⟨lap, rfl, _, _⟩ := ints_mem hd
      refine ex_turn (ρ1 := Fr ns s (.imm (.int turn)) (.imm (.int kinds)) (.imm (tupI w)) (.imm (tupI p)) y6 (.imm v) (.imm (.int lap)) x9 x10) (by simp) ?_
      obtain ⟨u, s5, e5, g5, su⟩ := altered_ok s w (if (lm w p 0).length = p.length then "places" else "stops") ((lm w p 0).map natD) (m * 200 + 70 + q * 3) (g.mono (by omega)) lw4 (by rw [List.length_map]; omega) (by
        intro d hd
        obtain ⟨q, _, rfl⟩ := List.mem_map.mp hd
        exact ⟨q, rfl⟩)
      rw [← hv] at e5
      refine ex_seq (ρ1 := Fr ns s5 (.imm (.int turn)) (.imm (.int kinds)) (.imm (tupI w)) (.imm (tupI p)) y6 (.imm v) (.imm (.int lap)) (.imm u) x10) (by simp [e5]) ?_
      have i2 := e_is w p u bw4 lw4 bp4 lp su
      have j2 := e_judged w p u lw4 lp su
      have tr := truth_ok (right w p u) (right w p u)
      refine ex_one (ρ1 := Fr ns s5 (.imm (.int turn)) (.imm (.int kinds)) (.imm (tupI w)) (.imm (tupI p)) y6 (.imm v) (.imm (.int lap)) (.imm u) x10) (by simp [i2, j2, tr, truD]) ⟨s5, _, _, rfl, g5⟩
    · rintro _ ⟨s5, x8, x9, rfl, g5⟩
      obtain ⟨near, s6, e6, g6, bn, ln⟩ := off_ok s5 p kinds 2 24 (m * 200) (g5.mono (by simp)) bp (by omega) (by omega) (by omega) (by omega) (by omega) (by omega) (by omega)
      refine ex_seq (ρ1 := Fr ns s6 (.imm (.int turn)) (.imm (.int kinds)) (.imm (tupI w)) (.imm (tupI p)) y6 (.imm v) x8 x9 (.imm (tupI near))) (by simp [e6]) ?_
      have i2 := e_is w near v bw4 lw4 (Bel.up bn (by omega)) (by omega) sv
      have j2 := e_judged w near v lw4 (by omega) sv
      have tr := truth_ok (right w near v) (right w near v)
      exact ex_one (ρ1 := Fr ns s6 (.imm (.int turn)) (.imm (.int kinds)) (.imm (tupI w)) (.imm (tupI p)) y6 (.imm v) x8 x9 (.imm (tupI near))) (by simp [i2, j2, tr, truD]) ⟨s6, _, _, _, _, _, _, _, _, _, rfl, g6⟩
  · rintro _ ⟨s, x2, x3, x4, x5, x6, x7, x8, x9, x10, rfl, g⟩
    simp
end K02

namespace K02
open PySem PySem.Spec PyProof.Rows L2 FW
theorem top_mk {K : PySem.W.Frag} {h : Heap} {mg : Str → Option Value} (X : K.In h) (G : h.Ns mainGlobals mg)
  {f0 : Addr} {od0 an0 : Option Addr} {sl0 : Array (Option Value)} {oc0 kV0 dc0 pm0 cd0 ct0 : Value}
  (a0 : PySem.W.nsIn K mainGlobals "is_counted" = some (some (.ref f0))) (l0 : K.lookup f0 = some ⟨oc0, od0, .func (PySem.W.fnOf "is_counted" "is_counted" (defArgs s_is_counted) (defBody s_is_counted) (defScope s_is_counted) .none kV0 dc0 pm0 an0 cd0 ct0), sl0⟩) (q0 : PySem.W.codeIn K cd0 "is_counted" = true) (k0 : PySem.W.keepIn K (.ref f0) = true)
  {f1 : Addr} {od1 an1 : Option Addr} {sl1 : Array (Option Value)} {oc1 kV1 dc1 pm1 cd1 ct1 : Value}
  (a1 : PySem.W.nsIn K mainGlobals "is_spelt" = some (some (.ref f1))) (l1 : K.lookup f1 = some ⟨oc1, od1, .func (PySem.W.fnOf "is_spelt" "is_spelt" (defArgs s_is_spelt) (defBody s_is_spelt) (defScope s_is_spelt) .none kV1 dc1 pm1 an1 cd1 ct1), sl1⟩) (q1 : PySem.W.codeIn K cd1 "is_spelt" = true) (k1 : PySem.W.keepIn K (.ref f1) = true)
  {f2 : Addr} {od2 an2 : Option Addr} {sl2 : Array (Option Value)} {oc2 kV2 dc2 pm2 cd2 ct2 : Value}
  (a2 : PySem.W.nsIn K mainGlobals "is_word" = some (some (.ref f2))) (l2 : K.lookup f2 = some ⟨oc2, od2, .func (PySem.W.fnOf "is_word" "is_word" (defArgs s_is_word) (defBody s_is_word) (defScope s_is_word) .none kV2 dc2 pm2 an2 cd2 ct2), sl2⟩) (q2 : PySem.W.codeIn K cd2 "is_word" = true) (k2 : PySem.W.keepIn K (.ref f2) = true)
  {f3 : Addr} {od3 an3 : Option Addr} {sl3 : Array (Option Value)} {oc3 kV3 dc3 pm3 cd3 ct3 : Value}
  (a3 : PySem.W.nsIn K mainGlobals "want_word" = some (some (.ref f3))) (l3 : K.lookup f3 = some ⟨oc3, od3, .func (PySem.W.fnOf "want_word" "want_word" (defArgs s_want_word) (defBody s_want_word) (defScope s_want_word) .none kV3 dc3 pm3 an3 cd3 ct3), sl3⟩) (q3 : PySem.W.codeIn K cd3 "want_word" = true) (k3 : PySem.W.keepIn K (.ref f3) = true)
  {f4 : Addr} {od4 an4 : Option Addr} {sl4 : Array (Option Value)} {oc4 kV4 dc4 pm4 cd4 ct4 : Value}
  (a4 : PySem.W.nsIn K mainGlobals "want_words" = some (some (.ref f4))) (l4 : K.lookup f4 = some ⟨oc4, od4, .func (PySem.W.fnOf "want_words" "want_words" (defArgs s_want_words) (defBody s_want_words) (defScope s_want_words) .none kV4 dc4 pm4 an4 cd4 ct4), sl4⟩) (q4 : PySem.W.codeIn K cd4 "want_words" = true) (k4 : PySem.W.keepIn K (.ref f4) = true)
  {f5 : Addr} {od5 an5 : Option Addr} {sl5 : Array (Option Value)} {oc5 kV5 dc5 pm5 cd5 ct5 : Value}
  (a5 : PySem.W.nsIn K mainGlobals "leftmost" = some (some (.ref f5))) (l5 : K.lookup f5 = some ⟨oc5, od5, .func (PySem.W.fnOf "leftmost" "leftmost" (defArgs s_leftmost) (defBody s_leftmost) (defScope s_leftmost) .none kV5 dc5 pm5 an5 cd5 ct5), sl5⟩) (q5 : PySem.W.codeIn K cd5 "leftmost" = true) (k5 : PySem.W.keepIn K (.ref f5) = true)
  {f6 : Addr} {od6 an6 : Option Addr} {sl6 : Array (Option Value)} {oc6 kV6 dc6 pm6 cd6 ct6 : Value}
  (a6 : PySem.W.nsIn K mainGlobals "part_paper" = some (some (.ref f6))) (l6 : K.lookup f6 = some ⟨oc6, od6, .func (PySem.W.fnOf "part_paper" "part_paper" (defArgs s_part_paper) (defBody s_part_paper) (defScope s_part_paper) .none kV6 dc6 pm6 an6 cd6 ct6), sl6⟩) (q6 : PySem.W.codeIn K cd6 "part_paper" = true) (k6 : PySem.W.keepIn K (.ref f6) = true)
  {f7 : Addr} {od7 an7 : Option Addr} {sl7 : Array (Option Value)} {oc7 kV7 dc7 pm7 cd7 ct7 : Value}
  (a7 : PySem.W.nsIn K mainGlobals "are_places" = some (some (.ref f7))) (l7 : K.lookup f7 = some ⟨oc7, od7, .func (PySem.W.fnOf "are_places" "are_places" (defArgs s_are_places) (defBody s_are_places) (defScope s_are_places) .none kV7 dc7 pm7 an7 cd7 ct7), sl7⟩) (q7 : PySem.W.codeIn K cd7 "are_places" = true) (k7 : PySem.W.keepIn K (.ref f7) = true)
  {f8 : Addr} {od8 an8 : Option Addr} {sl8 : Array (Option Value)} {oc8 kV8 dc8 pm8 cd8 ct8 : Value}
  (a8 : PySem.W.nsIn K mainGlobals "are_stops" = some (some (.ref f8))) (l8 : K.lookup f8 = some ⟨oc8, od8, .func (PySem.W.fnOf "are_stops" "are_stops" (defArgs s_are_stops) (defBody s_are_stops) (defScope s_are_stops) .none kV8 dc8 pm8 an8 cd8 ct8), sl8⟩) (q8 : PySem.W.codeIn K cd8 "are_stops" = true) (k8 : PySem.W.keepIn K (.ref f8) = true)
  {f9 : Addr} {od9 an9 : Option Addr} {sl9 : Array (Option Value)} {oc9 kV9 dc9 pm9 cd9 ct9 : Value}
  (a9 : PySem.W.nsIn K mainGlobals "is_part_paper" = some (some (.ref f9))) (l9 : K.lookup f9 = some ⟨oc9, od9, .func (PySem.W.fnOf "is_part_paper" "is_part_paper" (defArgs s_is_part_paper) (defBody s_is_part_paper) (defScope s_is_part_paper) .none kV9 dc9 pm9 an9 cd9 ct9), sl9⟩) (q9 : PySem.W.codeIn K cd9 "is_part_paper" = true) (k9 : PySem.W.keepIn K (.ref f9) = true)
  {f10 : Addr} {od10 an10 : Option Addr} {sl10 : Array (Option Value)} {oc10 kV10 dc10 pm10 cd10 ct10 : Value}
  (a10 : PySem.W.nsIn K mainGlobals "_law_begun" = some (some (.ref f10))) (l10 : K.lookup f10 = some ⟨oc10, od10, .func (PySem.W.fnOf "_law_begun" "_law_begun" (defArgs s__law_begun) (defBody s__law_begun) (defScope s__law_begun) .none kV10 dc10 pm10 an10 cd10 ct10), sl10⟩) (q10 : PySem.W.codeIn K cd10 "_law_begun" = true) (k10 : PySem.W.keepIn K (.ref f10) = true)
  {f11 : Addr} {od11 an11 : Option Addr} {sl11 : Array (Option Value)} {oc11 kV11 dc11 pm11 cd11 ct11 : Value}
  (a11 : PySem.W.nsIn K mainGlobals "_law_blended" = some (some (.ref f11))) (l11 : K.lookup f11 = some ⟨oc11, od11, .func (PySem.W.fnOf "_law_blended" "_law_blended" (defArgs s__law_blended) (defBody s__law_blended) (defScope s__law_blended) .none kV11 dc11 pm11 an11 cd11 ct11), sl11⟩) (q11 : PySem.W.codeIn K cd11 "_law_blended" = true) (k11 : PySem.W.keepIn K (.ref f11) = true)
  {f12 : Addr} {od12 an12 : Option Addr} {sl12 : Array (Option Value)} {oc12 kV12 dc12 pm12 cd12 ct12 : Value}
  (a12 : PySem.W.nsIn K mainGlobals "_law_draw" = some (some (.ref f12))) (l12 : K.lookup f12 = some ⟨oc12, od12, .func (PySem.W.fnOf "_law_draw" "_law_draw" (defArgs s__law_draw) (defBody s__law_draw) (defScope s__law_draw) .none kV12 dc12 pm12 an12 cd12 ct12), sl12⟩) (q12 : PySem.W.codeIn K cd12 "_law_draw" = true) (k12 : PySem.W.keepIn K (.ref f12) = true)
  {f13 : Addr} {od13 an13 : Option Addr} {sl13 : Array (Option Value)} {oc13 kV13 dc13 pm13 cd13 ct13 : Value}
  (a13 : PySem.W.nsIn K mainGlobals "_law_pick" = some (some (.ref f13))) (l13 : K.lookup f13 = some ⟨oc13, od13, .func (PySem.W.fnOf "_law_pick" "_law_pick" (defArgs s__law_pick) (defBody s__law_pick) (defScope s__law_pick) .none kV13 dc13 pm13 an13 cd13 ct13), sl13⟩) (q13 : PySem.W.codeIn K cd13 "_law_pick" = true) (k13 : PySem.W.keepIn K (.ref f13) = true)
  {f14 : Addr} {od14 an14 : Option Addr} {sl14 : Array (Option Value)} {oc14 kV14 dc14 pm14 cd14 ct14 : Value}
  (a14 : PySem.W.nsIn K mainGlobals "_law_is_truth" = some (some (.ref f14))) (l14 : K.lookup f14 = some ⟨oc14, od14, .func (PySem.W.fnOf "_law_is_truth" "_law_is_truth" (defArgs s__law_is_truth) (defBody s__law_is_truth) (defScope s__law_is_truth) .none kV14 dc14 pm14 an14 cd14 ct14), sl14⟩) (q14 : PySem.W.codeIn K cd14 "_law_is_truth" = true) (k14 : PySem.W.keepIn K (.ref f14) = true)
  {f15 : Addr} {od15 an15 : Option Addr} {sl15 : Array (Option Value)} {oc15 kV15 dc15 pm15 cd15 ct15 : Value}
  (a15 : PySem.W.nsIn K mainGlobals "_law_word" = some (some (.ref f15))) (l15 : K.lookup f15 = some ⟨oc15, od15, .func (PySem.W.fnOf "_law_word" "_law_word" (defArgs s__law_word) (defBody s__law_word) (defScope s__law_word) .none kV15 dc15 pm15 an15 cd15 ct15), sl15⟩) (q15 : PySem.W.codeIn K cd15 "_law_word" = true) (k15 : PySem.W.keepIn K (.ref f15) = true)
  {f16 : Addr} {od16 an16 : Option Addr} {sl16 : Array (Option Value)} {oc16 kV16 dc16 pm16 cd16 ct16 : Value}
  (a16 : PySem.W.nsIn K mainGlobals "_law_off" = some (some (.ref f16))) (l16 : K.lookup f16 = some ⟨oc16, od16, .func (PySem.W.fnOf "_law_off" "_law_off" (defArgs s__law_off) (defBody s__law_off) (defScope s__law_off) .none kV16 dc16 pm16 an16 cd16 ct16), sl16⟩) (q16 : PySem.W.codeIn K cd16 "_law_off" = true) (k16 : PySem.W.keepIn K (.ref f16) = true)
  {f17 : Addr} {od17 an17 : Option Addr} {sl17 : Array (Option Value)} {oc17 kV17 dc17 pm17 cd17 ct17 : Value}
  (a17 : PySem.W.nsIn K mainGlobals "_law_is_place" = some (some (.ref f17))) (l17 : K.lookup f17 = some ⟨oc17, od17, .func (PySem.W.fnOf "_law_is_place" "_law_is_place" (defArgs s__law_is_place) (defBody s__law_is_place) (defScope s__law_is_place) .none kV17 dc17 pm17 an17 cd17 ct17), sl17⟩) (q17 : PySem.W.codeIn K cd17 "_law_is_place" = true) (k17 : PySem.W.keepIn K (.ref f17) = true)
  {f18 : Addr} {od18 an18 : Option Addr} {sl18 : Array (Option Value)} {oc18 kV18 dc18 pm18 cd18 ct18 : Value}
  (a18 : PySem.W.nsIn K mainGlobals "_law_shown" = some (some (.ref f18))) (l18 : K.lookup f18 = some ⟨oc18, od18, .func (PySem.W.fnOf "_law_shown" "_law_shown" (defArgs s__law_shown) (defBody s__law_shown) (defScope s__law_shown) .none kV18 dc18 pm18 an18 cd18 ct18), sl18⟩) (q18 : PySem.W.codeIn K cd18 "_law_shown" = true) (k18 : PySem.W.keepIn K (.ref f18) = true)
  {f19 : Addr} {od19 an19 : Option Addr} {sl19 : Array (Option Value)} {oc19 kV19 dc19 pm19 cd19 ct19 : Value}
  (a19 : PySem.W.nsIn K mainGlobals "_law_judged" = some (some (.ref f19))) (l19 : K.lookup f19 = some ⟨oc19, od19, .func (PySem.W.fnOf "_law_judged" "_law_judged" (defArgs s__law_judged) (defBody s__law_judged) (defScope s__law_judged) .none kV19 dc19 pm19 an19 cd19 ct19), sl19⟩) (q19 : PySem.W.codeIn K cd19 "_law_judged" = true) (k19 : PySem.W.keepIn K (.ref f19) = true)
  {f20 : Addr} {od20 an20 : Option Addr} {sl20 : Array (Option Value)} {oc20 kV20 dc20 pm20 cd20 ct20 : Value}
  (a20 : PySem.W.nsIn K mainGlobals "_law_altered" = some (some (.ref f20))) (l20 : K.lookup f20 = some ⟨oc20, od20, .func (PySem.W.fnOf "_law_altered" "_law_altered" (defArgs s__law_altered) (defBody s__law_altered) (defScope s__law_altered) .none kV20 dc20 pm20 an20 cd20 ct20), sl20⟩) (q20 : PySem.W.codeIn K cd20 "_law_altered" = true) (k20 : PySem.W.keepIn K (.ref f20) = true)
  {f21 : Addr} {od21 an21 : Option Addr} {sl21 : Array (Option Value)} {oc21 kV21 dc21 pm21 cd21 ct21 : Value}
  (a21 : PySem.W.nsIn K mainGlobals "law" = some (some (.ref f21))) (l21 : K.lookup f21 = some ⟨oc21, od21, .func (PySem.W.fnOf "law" "law" (defArgs s_law) (defBody s_law) (defScope s_law) .none kV21 dc21 pm21 an21 cd21 ct21), sl21⟩) (q21 : PySem.W.codeIn K cd21 "law" = true) (k21 : PySem.W.keepIn K (.ref f21) = true)
  {tk0 : Tok} {tk1 : Tok} (cst0 : PySem.W.nsIn K mainGlobals "LETTERS" = some (some (.int 4 tk0))) (cst1 : PySem.W.nsIn K mainGlobals "LONGEST" = some (some (.int 24 tk1)))
  (z0 : PySem.W.nsIn K mainGlobals "abs" = some none) (z1 : PySem.W.nsIn K mainGlobals "all" = some none) (z2 : PySem.W.nsIn K mainGlobals "any" = some none) (z3 : PySem.W.nsIn K mainGlobals "bool" = some none) (z4 : PySem.W.nsIn K mainGlobals "int" = some none) (z5 : PySem.W.nsIn K mainGlobals "isinstance" = some none) (z6 : PySem.W.nsIn K mainGlobals "len" = some none) (z7 : PySem.W.nsIn K mainGlobals "list" = some none) (z8 : PySem.W.nsIn K mainGlobals "min" = some none) (z9 : PySem.W.nsIn K mainGlobals "range" = some none) (z10 : PySem.W.nsIn K mainGlobals "str" = some none) (z11 : PySem.W.nsIn K mainGlobals "tuple" = some none) (z12 : PySem.W.nsIn K mainGlobals "zip" = some none) : Top K mg where
  d_is_counted := ⟨_, _, fun_mk (st := s_is_counted) l0 q0 k0, PySem.W.mg_of X G a0⟩
  d_is_spelt := ⟨_, _, fun_mk (st := s_is_spelt) l1 q1 k1, PySem.W.mg_of X G a1⟩
  d_is_word := ⟨_, _, fun_mk (st := s_is_word) l2 q2 k2, PySem.W.mg_of X G a2⟩
  d_want_word := ⟨_, _, fun_mk (st := s_want_word) l3 q3 k3, PySem.W.mg_of X G a3⟩
  d_want_words := ⟨_, _, fun_mk (st := s_want_words) l4 q4 k4, PySem.W.mg_of X G a4⟩
  d_leftmost := ⟨_, _, fun_mk (st := s_leftmost) l5 q5 k5, PySem.W.mg_of X G a5⟩
  d_part_paper := ⟨_, _, fun_mk (st := s_part_paper) l6 q6 k6, PySem.W.mg_of X G a6⟩
  d_are_places := ⟨_, _, fun_mk (st := s_are_places) l7 q7 k7, PySem.W.mg_of X G a7⟩
  d_are_stops := ⟨_, _, fun_mk (st := s_are_stops) l8 q8 k8, PySem.W.mg_of X G a8⟩
  d_is_part_paper := ⟨_, _, fun_mk (st := s_is_part_paper) l9 q9 k9, PySem.W.mg_of X G a9⟩
  d__law_begun := ⟨_, _, fun_mk (st := s__law_begun) l10 q10 k10, PySem.W.mg_of X G a10⟩
  d__law_blended := ⟨_, _, fun_mk (st := s__law_blended) l11 q11 k11, PySem.W.mg_of X G a11⟩
  d__law_draw := ⟨_, _, fun_mk (st := s__law_draw) l12 q12 k12, PySem.W.mg_of X G a12⟩
  d__law_pick := ⟨_, _, fun_mk (st := s__law_pick) l13 q13 k13, PySem.W.mg_of X G a13⟩
  d__law_is_truth := ⟨_, _, fun_mk (st := s__law_is_truth) l14 q14 k14, PySem.W.mg_of X G a14⟩
  d__law_word := ⟨_, _, fun_mk (st := s__law_word) l15 q15 k15, PySem.W.mg_of X G a15⟩
  d__law_off := ⟨_, _, fun_mk (st := s__law_off) l16 q16 k16, PySem.W.mg_of X G a16⟩
  d__law_is_place := ⟨_, _, fun_mk (st := s__law_is_place) l17 q17 k17, PySem.W.mg_of X G a17⟩
  d__law_shown := ⟨_, _, fun_mk (st := s__law_shown) l18 q18 k18, PySem.W.mg_of X G a18⟩
  d__law_judged := ⟨_, _, fun_mk (st := s__law_judged) l19 q19 k19, PySem.W.mg_of X G a19⟩
  d__law_altered := ⟨_, _, fun_mk (st := s__law_altered) l20 q20 k20, PySem.W.mg_of X G a20⟩
  d_law := ⟨_, _, fun_mk (st := s_law) l21 q21 k21, PySem.W.mg_of X G a21⟩
  g_LETTERS := ⟨_, PySem.W.mg_of X G cst0⟩
  g_LONGEST := ⟨_, PySem.W.mg_of X G cst1⟩
  b_abs := PySem.W.mg_none_of X G z0
  b_all := PySem.W.mg_none_of X G z1
  b_any := PySem.W.mg_none_of X G z2
  b_bool := PySem.W.mg_none_of X G z3
  b_int := PySem.W.mg_none_of X G z4
  b_isinstance := PySem.W.mg_none_of X G z5
  b_len := PySem.W.mg_none_of X G z6
  b_list := PySem.W.mg_none_of X G z7
  b_min := PySem.W.mg_none_of X G z8
  b_range := PySem.W.mg_none_of X G z9
  b_str := PySem.W.mg_none_of X G z10
  b_tuple := PySem.W.mg_none_of X G z11
  b_zip := PySem.W.mg_none_of X G z12
end K02
open PySem PySem.W PyProof.Rows
set_option maxRecDepth 100000 in
set_option maxHeartbeats 0 in
theorem PySem.Challenge.cw_letterslost_k02_papers_on_parts_judged_holds : PySem.Challenge.rw_letterslost_k02_papers_on_parts_judged.Holds := by
  w_on; o_law; k_head; (case hw => w_witness2)
  k_fill
  refine L2.walk_of (l := PySem.Challenge.rw_letterslost_k02_papers_on_parts_judged) (n := 63) (k := 7) (x := "script") (CX := fun w => L2.CX PySem.Challenge.rw_letterslost_k02_papers_on_parts_judged.prog w) (sp := fun w => FW.spT _) rfl (by decide) rfl ⟨rfl, by decide, by decide⟩ (fun w h Y => PySem.W.kIn_of Y) ?F (fun _ _ a ns hl ho hS => ⟨a, ns, rfl, FW.only_scr ho hS, hl, fun _ => rfl⟩) (fun _ _ _ _ _ h => FW.cx_end h)
  case F =>
    intro w mg fa h KX G hmg
    refine' FW.with_K KX (T := fun K => K02.Top K mg) ?tt (fun T => ?kk)
    case tt =>
      refine' K02.top_mk KX G ?a0 ?l0 ?q0 ?k0 ?a1 ?l1 ?q1 ?k1 ?a2 ?l2 ?q2 ?k2 ?a3 ?l3 ?q3 ?k3 ?a4 ?l4 ?q4 ?k4 ?a5 ?l5 ?q5 ?k5 ?a6 ?l6 ?q6 ?k6 ?a7 ?l7 ?q7 ?k7 ?a8 ?l8 ?q8 ?k8 ?a9 ?l9 ?q9 ?k9 ?a10 ?l10 ?q10 ?k10 ?a11 ?l11 ?q11 ?k11 ?a12 ?l12 ?q12 ?k12 ?a13 ?l13 ?q13 ?k13 ?a14 ?l14 ?q14 ?k14 ?a15 ?l15 ?q15 ?k15 ?a16 ?l16 ?q16 ?k16 ?a17 ?l17 ?q17 ?k17 ?a18 ?l18 ?q18 ?k18 ?a19 ?l19 ?q19 ?k19 ?a20 ?l20 ?q20 ?k20 ?a21 ?l21 ?q21 ?k21 ?cst0 ?cst1 ?z0 ?z1 ?z2 ?z3 ?z4 ?z5 ?z6 ?z7 ?z8 ?z9 ?z10 ?z11 ?z12
      (case a0 => k_is); (case l0 => k_is); (case q0 => k_is); (case k0 => k_is); (case a1 => k_is); (case l1 => k_is); (case q1 => k_is); (case k1 => k_is); (case a2 => k_is); (case l2 => k_is); (case q2 => k_is); (case k2 => k_is); (case a3 => k_is); (case l3 => k_is); (case q3 => k_is); (case k3 => k_is); (case a4 => k_is); (case l4 => k_is); (case q4 => k_is); (case k4 => k_is); (case a5 => k_is); (case l5 => k_is); (case q5 => k_is); (case k5 => k_is); (case a6 => k_is); (case l6 => k_is); (case q6 => k_is); (case k6 => k_is); (case a7 => k_is); (case l7 => k_is); (case q7 => k_is); (case k7 => k_is); (case a8 => k_is); (case l8 => k_is); (case q8 => k_is); (case k8 => k_is); (case a9 => k_is); (case l9 => k_is); (case q9 => k_is); (case k9 => k_is); (case a10 => k_is); (case l10 => k_is); (case q10 => k_is); (case k10 => k_is); (case a11 => k_is); (case l11 => k_is); (case q11 => k_is); (case k11 => k_is); (case a12 => k_is); (case l12 => k_is); (case q12 => k_is); (case k12 => k_is); (case a13 => k_is); (case l13 => k_is); (case q13 => k_is); (case k13 => k_is); (case a14 => k_is); (case l14 => k_is); (case q14 => k_is); (case k14 => k_is); (case a15 => k_is); (case l15 => k_is); (case q15 => k_is); (case k15 => k_is); (case a16 => k_is); (case l16 => k_is); (case q16 => k_is); (case k16 => k_is); (case a17 => k_is); (case l17 => k_is); (case q17 => k_is); (case k17 => k_is); (case a18 => k_is); (case l18 => k_is); (case q18 => k_is); (case k18 => k_is); (case a19 => k_is); (case l19 => k_is); (case q19 => k_is); (case k19 => k_is); (case a20 => k_is); (case l20 => k_is); (case q20 => k_is); (case k20 => k_is); (case a21 => k_is); (case l21 => k_is); (case q21 => k_is); (case k21 => k_is); (case cst0 => k_is); (case cst1 => k_is); (case z0 => k_is); (case z1 => k_is); (case z2 => k_is); (case z3 => k_is); (case z4 => k_is); (case z5 => k_is); (case z6 => k_is); (case z7 => k_is); (case z8 => k_is); (case z9 => k_is); (case z10 => k_is); (case z11 => k_is); (case z12 => k_is)
    exact FW.law_F T.d_law hmg K02.sc_law K02.bn_law (fun base => K02.bd_law T) K02.law_true

