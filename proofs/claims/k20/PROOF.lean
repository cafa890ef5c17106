import PyProof.Rows.All
import HandS.ForMost
import HandS.ForExc
import HandS.TupAny
import HandS.Deep
import HandS.Style
import HandS.SortInts
import HandS.Sort
import HandS.IsInst
import HandS.Conv
import HandS.Strs
import PySem.Challenge.RW_splithouse_k20_one_use

set_option Elab.async false
set_option linter.all false
set_option maxRecDepth 100000

/-! The value layer: Python values without a heap (PV), what stands for them in the abstract heap (Rep), environments of slots, and what a piece of code does to them. -/
namespace L3
open PySem PySem.Spec PyProof.Rows L2

/-- an exception of the program: the number of its class, its line -/
structure Exc where
  cls : Nat
  pay : Option Int
  deriving DecidableEq

inductive PV where
  | non | bl (b : Bool) | int (i : Int) | str (x : Str)
  | tup (xs : List PV) | lst (xs : List PV) | ktup (xs : List PV) | scr (ns : List Int)
  | dk (ks : List Key) (vs : List PV) | dt (ks : List (List Key)) (vs : List PV)
  | mat (rows : List PV) | box (ps : List PV) | desk (names : PV) (rules : List PV)
  | exc (e : Exc) | ty (n : String) | cls (n : Nat)

inductive Slot where
  | junk | val (v : PV) | own (v : PV) | prm (v : PV)
abbrev Gm := List Slot

inductive R (α : Type) where
  | ok (a : α) | err (e : Exc) (g : Gm) | stuck
def R.bind {α β : Type} (r : R α) (f : α → R β) : R β :=
  match r with
  | .ok a => f a
  | .err e g => .err e g
  | .stuck => .stuck
@[simp] theorem R.bind_ok {α β : Type} (a : α) (f : α → R β) : (R.ok a).bind f = f a := (rfl)
@[simp] theorem R.bind_err {α β : Type} (e : Exc) (g : Gm) (f : α → R β) : (R.err e g : R α).bind f = .err e g := (rfl)
@[simp] theorem R.bind_stuck {α β : Type} (f : α → R β) : (R.stuck : R α).bind f = .stuck := (rfl)

/-- the exceptions' classes by their numbers -/
abbrev Xc := Nat → Addr
/-- an exception object: its class, its own dict -/
def ExAt (xc : Xc) (e : Exc) (cls : Value) (d : Option Addr) (H : Hp) : Prop :=
  cls = .ref (xc e.cls) ∧ match e.pay with
    | none => d = none
    | some n => ∃ a, d = some a ∧ H a = some (.xd [("line", .int n)])
/-- a caught exception that is tracked -/
def ExObj (cls : Value) (d : Option Addr) (a : Addr) : HO := .ext fun h => ∃ (oe : Obj), h.get? a = some oe ∧ Zc cls d oe ∧ ∃ vs, oe.data = .fields vs

def isSca : PV → Bool
  | .non => true
  | .bl _ => true
  | .int _ => true
  | .str _ => true
  | _ => false
/-- the script's list -/
def Scr (K : PySem.W.Frag) (H : Hp) (a : Addr) (ns : List Int) : Prop := (∃ o, H a = some (.frz o (.lst (ns.map V.int)))) ∨
  ∃ (o : Obj) (its : Array Value) (n : Nat), K.lookup a = some o ∧ o.cls = .type "list" ∧ o.dict = none ∧ o.data = .seq its n ∧ its.size ≤ sizeLine ∧ Vals (ns.map V.int) its.toList
section
variable (K : PySem.W.Frag) (xc : Xc) (S : Addr → Prop) (H : Hp)
mutual
def Rep : PV → V → Prop
  | .non, u => u = .non
  | .bl b, u => u = .bl b
  | .int i, u => u = .int i
  | .str x, u => u = .str x
  | .tup ps, u => ∃ a xs, u = .ref a ∧ H a = some (.tup xs) ∧ RepL ps xs
  | .lst ps, u => ∃ a xs, u = .ref a ∧ S a ∧ H a = some (.lst xs) ∧ RepL ps xs
  | .ktup ps, u => ∃ a xs, u = .ref a ∧ (∃ (o : Obj) (its : Array Value) (n : Nat), K.lookup a = some o ∧ o.cls = .type "tuple" ∧ o.data = .seq its n ∧ its.size ≤ sizeLine ∧ Vals xs its.toList) ∧ RepL ps xs
  | .scr ns, u => ∃ a, u = .ref a ∧ Scr K H a ns
  | .dk ks ps, u => ∃ a kvs, u = .ref a ∧ S a ∧ H a = some (.dK kvs) ∧ kvs.map (·.1) = ks ∧ RepL ps (kvs.map (·.2))
  | .dt ks ps, u => ∃ a kvs, u = .ref a ∧ S a ∧ H a = some (.dT kvs) ∧ kvs.map (·.1) = ks ∧ RepL ps (kvs.map (·.2))
  | .mat _, _ => False
  | .box _, _ => False
  | .desk _ _, _ => False
  | .ty n, u => u = .ty n
  | .cls n, u => u = .ref (xc n)
  | .exc e, u => ∃ a d, u = .ref a ∧ H a = some (ExObj (.ref (xc e.cls)) d a) ∧ ∀ b, d = some b → ∃ fs, H b = some (.xd fs)
def RepL : List PV → List V → Prop
  | [], xs => xs = []
  | p :: ps, xs => ∃ x r, xs = x :: r ∧ Rep p x ∧ RepL ps r
end

/-- the further addresses of a thing that may change, besides its own -/
def Sub (v : PV) (p a : Addr) : Prop := match v with
  | .mat _ => ∃ xs, H p = some (.lst xs) ∧ V.ref a ∈ xs
  | .box _ => ∃ xs, H p = some (.tup xs) ∧ V.ref a ∈ xs
  | .desk _ _ => ∃ C dx fs, H p = some (.ins C dx fs) ∧ (a = dx ∨ fs.lookup ("rules" : Str) = some (V.ref a))
  | _ => False
/-- the content of a thing that may change -/
def Ob (v : PV) (p : Addr) : Prop := match v with
  | .lst ps => ∃ xs, H p = some (.lst xs) ∧ RepL K xc S H ps xs
  | .dk ks ps => ∃ kvs, H p = some (.dK kvs) ∧ kvs.map (·.1) = ks ∧ RepL K xc S H ps (kvs.map (·.2))
  | .dt ks ps => ∃ kvs, H p = some (.dT kvs) ∧ kvs.map (·.1) = ks ∧ RepL K xc S H ps (kvs.map (·.2))
  | .mat rows => ∃ qs : List Addr, H p = some (.lst (qs.map V.ref)) ∧ (p :: qs).Nodup ∧
      Paired (fun q row => ∃ ps xs, row = PV.lst ps ∧ H q = some (.lst xs) ∧ RepL K xc S H ps xs) qs rows
  | .box rows => ∃ qs : List V, H p = some (.tup qs) ∧ qs.Pairwise (fun x y => ∀ q, x = V.ref q → y ≠ V.ref q) ∧
      Paired (fun u row => (isSca row = true ∧ Rep K xc S H row u ∧ ∀ q, u ≠ V.ref q) ∨ ∃ q ps xs, row = PV.lst ps ∧ u = V.ref q ∧ q ≠ p ∧ H q = some (.lst xs) ∧ RepL K xc S H ps xs) qs rows
  | .desk names rules => ∃ C dx r n xs, H p = some (.ins C dx [("names", V.ref n), ("rules", V.ref r)]) ∧ H dx = some (.own p) ∧ Rep K xc S H names (V.ref n) ∧
      H r = some (.lst xs) ∧ RepL K xc S H rules xs ∧ [p, dx, r].Nodup
  | _ => False
end

/-- the content of a slot that may change -/
def Slot.cont : Slot → Option PV
  | .own v => some v
  | .prm v => some v
  | _ => none
/-- an address that the code may change at these slots -/
def Foot (σ : L2.St) (H : Hp) (g : Gm) (a : Addr) : Prop := ∃ (i : Nat) (s : Slot) (v : PV) (p : Addr), g[i]? = some s ∧ s.cont = some v ∧ σ[i]? = some (some (V.ref p)) ∧ (a = p ∨ Sub H v p a)

/-- what stays the same through a body -/
structure Ctx where
  P : Program
  w : World
  K : PySem.W.Frag
  mg : Str → Option Value
  base : Heap
  N : List Str
  k : Nat
  xc : Xc
  W : WX

/-- the slots stand as told -/
structure Sta (C : Ctx) (S : Addr → Prop) (σ : L2.St) (H : Hp) (g : Gm) : Prop where
  len : σ.length = g.length
  val : ∀ (i : Nat) (v : PV), g[i]? = some (Slot.val v) → ∃ u, σ[i]? = some (some u) ∧ Rep C.K C.xc S H v u
  own : ∀ (i : Nat) (s : Slot) (v : PV), g[i]? = some s → s.cont = some v → ∃ p, σ[i]? = some (some (V.ref p)) ∧ Ob C.K C.xc S H v p
  apart : ∀ (i j : Nat) (s t : Slot) (v w : PV) (p q a : Addr), i ≠ j → g[i]? = some s → s.cont = some v → g[j]? = some t → t.cont = some w → σ[i]? = some (some (V.ref p)) → σ[j]? = some (some (V.ref q)) →
    (a = p ∨ Sub H v p a) → (a = q ∨ Sub H w q a) → False
  out : ∀ a, Foot σ H g a → ¬ S a
  live : ∀ a, S a → H a ≠ none

/-- an object that is never changed -/
def Imm : HO → Prop
  | .tup _ => True
  | .frz _ _ => True
  | .ext _ => True
  | .xd _ => True
  | _ => False
/-- one state and a later one -/
structure Stp (S : Addr → Prop) (σ : L2.St) (H : Hp) (g : Gm) (S' : Addr → Prop) (σ' : L2.St) (H' : Hp) (g' : Gm) : Prop where
  sub : ∀ a, S a → S' a
  new : ∀ a, S' a → S a ∨ H a = none ∨ Foot σ H g a
  frm : ∀ a o, H a = some o → (¬ Foot σ H g a ∨ Imm o) → H' a = some o
  grw : ∀ a, Foot σ' H' g' a → Foot σ H g a ∨ H a = none
  alive : ∀ a, H a ≠ none → H' a ≠ none
  len : σ'.length = σ.length
  keep : ∀ (i : Nat) (v : PV), g[i]? = some (Slot.prm v) → σ'[i]? = σ[i]? ∧ ∃ v' : PV, g'[i]? = some (Slot.prm v')
theorem Stp.refl {S : Addr → Prop} {σ : L2.St} {H : Hp} {g : Gm} : Stp S σ H g S σ H g :=
  ⟨fun _ h => h, fun _ h => .inl h, fun _ _ h _ => h, fun _ h => .inl h, fun _ h => h, rfl, fun _ v h => ⟨rfl, v, h⟩⟩
theorem Stp.trans {S S1 S2 : Addr → Prop} {σ σ1 σ2 : L2.St} {H H1 H2 : Hp} {g g1 g2 : Gm} (a : Stp S σ H g S1 σ1 H1 g1) (b : Stp S1 σ1 H1 g1 S2 σ2 H2 g2) : Stp S σ H g S2 σ2 H2 g2 := by
  refine ⟨fun x h => b.sub x (a.sub x h), fun x h => ?_, fun x o h hf => ?_, fun x h => ?_, fun x h => b.alive x (a.alive x h), b.len.trans a.len, fun i v h => ?_⟩
  · rcases b.new x h with h | h | h
    · exact a.new x h
    · by_cases e : H x = none
      · exact .inr (.inl e)
      · exact absurd h (a.alive x e)
    · rcases a.grw x h with h | h
      · exact .inr (.inr h)
      · exact .inr (.inl h)
  · rcases hf with hf | hi
    · refine b.frm x o (a.frm x o h (.inl hf)) (.inl fun hf1 => ?_)
      rcases a.grw x hf1 with z | z
      · exact hf z
      · rw [h] at z; cases z
    · exact b.frm x o (a.frm x o h (.inr hi)) (.inr hi)
  · rcases b.grw x h with z | z
    · exact a.grw x z
    · by_cases e : H x = none
      · exact .inr e
      · exact absurd z (a.alive x e)
  · obtain ⟨e1, v1, h1⟩ := a.keep i v h
    obtain ⟨e2, v2, h2⟩ := b.keep i v1 h1
    exact ⟨e2.trans e1, v2, h2⟩
end L3

namespace L3
open PySem PySem.Spec PyProof.Rows L2
/-! ### what stands for a value stays where what it leans on stays -/
/-- what is leant on stays -/
structure Kee (S : Addr → Prop) (H : Hp) (S' : Addr → Prop) (H' : Hp) : Prop where
  sub : ∀ a, S a → S' a
  at_ : ∀ a o, H a = some o → (S a ∨ Imm o) → H' a = some o
theorem Kee.refl {S : Addr → Prop} {H : Hp} : Kee S H S H := ⟨fun _ h => h, fun _ _ h _ => h⟩
theorem Kee.trans {S S1 S2 : Addr → Prop} {H H1 H2 : Hp} (a : Kee S H S1 H1) (b : Kee S1 H1 S2 H2) : Kee S H S2 H2 :=
  ⟨fun x h => b.sub x (a.sub x h), fun x o h i => b.at_ x o (a.at_ x o h i) (i.imp (a.sub x) id)⟩
section
variable {K : PySem.W.Frag} {xc : Xc} {S S' : Addr → Prop} {H H' : Hp}
mutual
theorem Rep.kee (k : Kee S H S' H') : ∀ {v : PV} {u : V}, Rep K xc S H v u → Rep K xc S' H' v u
  | .non, _, h => by unfold Rep at h ⊢; exact h
  | .bl _, _, h => by unfold Rep at h ⊢; exact h
  | .int _, _, h => by unfold Rep at h ⊢; exact h
  | .str _, _, h => by unfold Rep at h ⊢; exact h
  | .tup ps, _, h => by
    unfold Rep at h ⊢
    obtain ⟨a, xs, e, h1, h2⟩ := h
    exact ⟨a, xs, e, k.at_ a _ h1 (.inr True.intro), RepL.kee k h2⟩
  | .lst ps, _, h => by
    unfold Rep at h ⊢
    obtain ⟨a, xs, e, h0, h1, h2⟩ := h
    exact ⟨a, xs, e, k.sub a h0, k.at_ a _ h1 (.inl h0), RepL.kee k h2⟩
  | .ktup ps, _, h => by
    unfold Rep at h ⊢
    obtain ⟨a, xs, e, h1, h2⟩ := h
    exact ⟨a, xs, e, h1, RepL.kee k h2⟩
  | .scr ns, _, h => by
    unfold Rep at h ⊢
    obtain ⟨a, e, h1⟩ := h
    exact ⟨a, e, h1.imp (fun ⟨o, h1⟩ => ⟨o, k.at_ a _ h1 (.inr True.intro)⟩) id⟩
  | .dk ks ps, _, h => by
    unfold Rep at h ⊢
    obtain ⟨a, kvs, e, h0, h1, h2, h3⟩ := h
    exact ⟨a, kvs, e, k.sub a h0, k.at_ a _ h1 (.inl h0), h2, RepL.kee k h3⟩
  | .dt ks ps, _, h => by
    unfold Rep at h ⊢
    obtain ⟨a, kvs, e, h0, h1, h2, h3⟩ := h
    exact ⟨a, kvs, e, k.sub a h0, k.at_ a _ h1 (.inl h0), h2, RepL.kee k h3⟩
  | .mat _, _, h => by unfold Rep at h; exact h.elim
  | .box _, _, h => by unfold Rep at h; exact h.elim
  | .desk _ _, _, h => by unfold Rep at h; exact h.elim
  | .ty _, _, h => by unfold Rep at h ⊢; exact h
  | .cls _, _, h => by unfold Rep at h ⊢; exact h
  | .exc e, _, h => by
    unfold Rep at h ⊢
    obtain ⟨a, d, e, h1, h2⟩ := h
    refine ⟨a, d, e, k.at_ a _ h1 (.inr True.intro), fun b hb => ?_⟩
    obtain ⟨fs, q⟩ := h2 b hb
    exact ⟨fs, k.at_ b _ q (.inr True.intro)⟩
theorem RepL.kee (k : Kee S H S' H') : ∀ {ps : List PV} {xs : List V}, RepL K xc S H ps xs → RepL K xc S' H' ps xs
  | [], _, h => by unfold RepL at h ⊢; exact h
  | p :: ps, _, h => by
    unfold RepL at h ⊢
    obtain ⟨x, r, e, h1, h2⟩ := h
    exact ⟨x, r, e, Rep.kee k h1, RepL.kee k h2⟩
end
theorem RepL.nil {xs : List V} : RepL K xc S H [] xs ↔ xs = [] := by unfold RepL; exact Iff.rfl
theorem RepL.cons {p : PV} {ps : List PV} {xs : List V} : RepL K xc S H (p :: ps) xs ↔ ∃ x r, xs = x :: r ∧ Rep K xc S H p x ∧ RepL K xc S H ps r := by
  conv => lhs; unfold RepL
theorem RepL.len : ∀ {ps : List PV} {xs : List V}, RepL K xc S H ps xs → ps.length = xs.length
  | [], _, h => by rw [RepL.nil] at h; subst h; rfl
  | p :: ps, _, h => by
    obtain ⟨x, r, e, _, h2⟩ := RepL.cons.mp h
    subst e
    rw [List.length_cons, List.length_cons, RepL.len h2]
theorem RepL.get : ∀ {ps : List PV} {xs : List V} {i : Nat} {p : PV}, RepL K xc S H ps xs → ps[i]? = some p → ∃ x, xs[i]? = some x ∧ Rep K xc S H p x
  | [], _, _, _, _, e => by simp at e
  | q :: ps, _, 0, p, h, e => by
    obtain ⟨x, r, e1, h1, _⟩ := RepL.cons.mp h
    subst e1
    simp at e; subst e
    exact ⟨x, rfl, h1⟩
  | q :: ps, _, i + 1, p, h, e => by
    obtain ⟨x, r, e1, _, h2⟩ := RepL.cons.mp h
    subst e1
    obtain ⟨y, h3, h4⟩ := RepL.get (i := i) h2 (by simpa using e)
    exact ⟨y, by simpa using h3, h4⟩
theorem RepL.get' : ∀ {ps : List PV} {xs : List V} {i : Nat} {x : V}, RepL K xc S H ps xs → xs[i]? = some x → ∃ p, ps[i]? = some p ∧ Rep K xc S H p x
  | [], _, _, _, h, e => by rw [RepL.nil] at h; subst h; simp at e
  | q :: ps, _, 0, p, h, e => by
    obtain ⟨x, r, e1, h1, _⟩ := RepL.cons.mp h
    subst e1
    simp at e; subst e
    exact ⟨q, rfl, h1⟩
  | q :: ps, _, i + 1, p, h, e => by
    obtain ⟨x, r, e1, _, h2⟩ := RepL.cons.mp h
    subst e1
    obtain ⟨y, h3, h4⟩ := RepL.get' (i := i) h2 (by simpa using e)
    exact ⟨y, by simpa using h3, h4⟩
theorem RepL.app : ∀ {ps qs : List PV} {xs ys : List V}, RepL K xc S H ps xs → RepL K xc S H qs ys → RepL K xc S H (ps ++ qs) (xs ++ ys)
  | [], _, _, _, h, h' => by rw [RepL.nil] at h; subst h; exact h'
  | p :: ps, _, _, _, h, h' => by
    obtain ⟨x, r, e1, h1, h2⟩ := RepL.cons.mp h
    subst e1
    exact RepL.cons.mpr ⟨x, _, rfl, h1, RepL.app h2 h'⟩
theorem RepL.one {p : PV} {x : V} (h : Rep K xc S H p x) : RepL K xc S H [p] [x] := RepL.cons.mpr ⟨x, [], rfl, h, RepL.nil.mpr rfl⟩
theorem RepL.take : ∀ {ps : List PV} {xs : List V} (n : Nat), RepL K xc S H ps xs → RepL K xc S H (ps.take n) (xs.take n)
  | _, _, 0, h => by simp only [List.take_zero]; exact RepL.nil.mpr rfl
  | [], _, n + 1, h => by rw [RepL.nil] at h; subst h; exact RepL.nil.mpr rfl
  | p :: ps, _, n + 1, h => by
    obtain ⟨x, r, e1, h1, h2⟩ := RepL.cons.mp h
    subst e1
    exact RepL.cons.mpr ⟨x, _, rfl, h1, RepL.take n h2⟩
theorem RepL.drop : ∀ {ps : List PV} {xs : List V} (n : Nat), RepL K xc S H ps xs → RepL K xc S H (ps.drop n) (xs.drop n)
  | _, _, 0, h => h
  | [], _, n + 1, h => by rw [RepL.nil] at h; subst h; exact RepL.nil.mpr rfl
  | p :: ps, _, n + 1, h => by
    obtain ⟨x, r, e1, h1, h2⟩ := RepL.cons.mp h
    subst e1
    exact RepL.drop n h2
theorem RepL.set : ∀ {ps : List PV} {xs : List V} {p : PV} {x : V} (n : Nat), RepL K xc S H ps xs → Rep K xc S H p x → RepL K xc S H (ps.set n p) (xs.set n x)
  | [], _, _, _, n, h, _ => by rw [RepL.nil] at h; subst h; exact RepL.nil.mpr rfl
  | q :: ps, _, p, x, 0, h, hp => by
    obtain ⟨y, r, e1, h1, h2⟩ := RepL.cons.mp h
    subst e1
    exact RepL.cons.mpr ⟨x, r, rfl, hp, h2⟩
  | q :: ps, _, p, x, n + 1, h, hp => by
    obtain ⟨y, r, e1, h1, h2⟩ := RepL.cons.mp h
    subst e1
    exact RepL.cons.mpr ⟨y, _, rfl, h1, RepL.set n h2 hp⟩
theorem RepL.erase : ∀ {ps : List PV} {xs : List V} (n : Nat), RepL K xc S H ps xs → RepL K xc S H (ps.eraseIdx n) (xs.eraseIdx n)
  | [], _, n, h => by rw [RepL.nil] at h; subst h; exact RepL.nil.mpr rfl
  | q :: ps, _, 0, h => by
    obtain ⟨y, r, e1, h1, h2⟩ := RepL.cons.mp h
    subst e1
    exact h2
  | q :: ps, _, n + 1, h => by
    obtain ⟨y, r, e1, h1, h2⟩ := RepL.cons.mp h
    subst e1
    exact RepL.cons.mpr ⟨y, _, rfl, h1, RepL.erase n h2⟩
theorem RepL.rev : ∀ {ps : List PV} {xs : List V}, RepL K xc S H ps xs → RepL K xc S H ps.reverse xs.reverse
  | [], _, h => by rw [RepL.nil] at h; subst h; exact RepL.nil.mpr rfl
  | q :: ps, _, h => by
    obtain ⟨y, r, e1, h1, h2⟩ := RepL.cons.mp h
    subst e1
    rw [List.reverse_cons, List.reverse_cons]
    exact RepL.app (RepL.rev h2) (RepL.one h1)
end
theorem Stp.kee {C : Ctx} {S S' : Addr → Prop} {σ σ' : L2.St} {H H' : Hp} {g g' : Gm} (st : Sta C S σ H g) (k : Stp S σ H g S' σ' H' g') : Kee S H S' H' :=
  ⟨k.sub, fun a o e i => k.frm a o e (i.elim (fun hs => .inl fun f => st.out a f hs) .inr)⟩
end L3

namespace L3
open PySem PySem.Spec PyProof.Rows L2
/-! ### only new objects -/
structure Gro (S : Addr → Prop) (H : Hp) (S' : Addr → Prop) (H' : Hp) : Prop where
  sub : ∀ a, S a → S' a
  new : ∀ a, S' a → S a ∨ (H a = none ∧ H' a ≠ none)
  same : Same H H'
theorem Gro.refl {S : Addr → Prop} {H : Hp} : Gro S H S H := ⟨fun _ h => h, fun _ h => .inl h, Same.refl H⟩
theorem Gro.trans {S S1 S2 : Addr → Prop} {H H1 H2 : Hp} (a : Gro S H S1 H1) (b : Gro S1 H1 S2 H2) : Gro S H S2 H2 := by
  refine ⟨fun x h => b.sub x (a.sub x h), fun x h => ?_, a.same.trans b.same⟩
  rcases b.new x h with z | ⟨z1, z2⟩
  · rcases a.new x z with q | ⟨q1, q2⟩
    · exact .inl q
    · refine .inr ⟨q1, fun e => ?_⟩
      have := b.same.free (l := x) e
      exact q2 this
  · exact .inr ⟨a.same.free z1, z2⟩
theorem Gro.kee {S S' : Addr → Prop} {H H' : Hp} (k : Gro S H S' H') : Kee S H S' H' := ⟨k.sub, fun a o e _ => k.same a o e⟩
theorem same_upd {H : Hp} {p : Addr} {o : HO} (h : H p = none) : Same H (upd H p o) := fun b x e => by
  rw [upd_ne (ne_of_none e h)]; exact e
/-- a new object, which may be leant on -/
def plus (S : Addr → Prop) (p : Addr) : Addr → Prop := fun a => S a ∨ a = p
theorem Gro.upd {S : Addr → Prop} {H : Hp} {p : Addr} {o : HO} (h : H p = none) : Gro S H S (upd H p o) := ⟨fun _ h => h, fun _ h => .inl h, same_upd h⟩
theorem Gro.plus {S : Addr → Prop} {H : Hp} {p : Addr} {o : HO} (h : H p = none) : Gro S H (plus S p) (L2.upd H p o) :=
  ⟨fun _ h => .inl h, fun a z => z.imp id fun e => by subst e; exact ⟨h, by rw [upd_same]; simp⟩, same_upd h⟩
section
variable {K : PySem.W.Frag} {xc : Xc} {S S' : Addr → Prop} {H H' : Hp}
theorem Ob.alive {v : PV} {p : Addr} (h : Ob K xc S H v p) : H p ≠ none := by
  cases v with
  | lst ps => obtain ⟨xs, h1, _⟩ := h; rw [h1]; simp
  | dk ks ps => obtain ⟨xs, h1, _⟩ := h; rw [h1]; simp
  | dt ks ps => obtain ⟨xs, h1, _⟩ := h; rw [h1]; simp
  | mat rows => obtain ⟨xs, h1, _⟩ := h; rw [h1]; simp
  | box rows => obtain ⟨xs, h1, _⟩ := h; rw [h1]; simp
  | desk names rules => obtain ⟨C, dx, r, n, xs, h1, _⟩ := h; rw [h1]; simp
  | _ => exact h.elim
theorem paired_get {α β : Type} {F : α → β → Prop} : ∀ {xs : List α} {ys : List β} {x : α}, Paired F xs ys → x ∈ xs → ∃ y, y ∈ ys ∧ F x y
  | _, _, _, .nil, h => by simp at h
  | _, _, x, .cons r t, h => by
    rcases List.mem_cons.mp h with e | h
    · subst e; exact ⟨_, List.mem_cons_self, r⟩
    · obtain ⟨y, h1, h2⟩ := paired_get t h
      exact ⟨y, List.mem_cons_of_mem _ h1, h2⟩
theorem Ob.aliveSub {v : PV} {p a : Addr} (h : Ob K xc S H v p) (ha : a = p ∨ Sub H v p a) : H a ≠ none := by
  rcases ha with rfl | ha
  · exact h.alive
  · cases v with
    | mat rows =>
      obtain ⟨qs, h1, _, h3⟩ := h
      obtain ⟨xs, q1, q2⟩ := ha
      rw [h1] at q1; cases q1
      obtain ⟨q, hq, e⟩ := List.mem_map.mp q2
      cases e
      obtain ⟨row, _, ps, xs, _, z, _⟩ := paired_get h3 hq
      rw [z]; simp
    | box rows =>
      obtain ⟨qs, h1, _, h3⟩ := h
      obtain ⟨xs, q1, q2⟩ := ha
      rw [h1] at q1; cases q1
      obtain ⟨row, _, z⟩ := paired_get h3 q2
      rcases z with ⟨_, _, z⟩ | ⟨q, ps, xs, _, e, _, z, _⟩
      · exact absurd rfl (z a)
      · cases e; rw [z]; simp
    | desk names rules =>
      obtain ⟨C, dx, r, n, xs, h1, h2, h3, h4, _⟩ := h
      obtain ⟨C', dx', fs, q, z⟩ := ha
      rw [h1] at q; cases q
      rcases z with rfl | z
      · rw [h2]; simp
      · have z' : some (V.ref r) = some (V.ref a) := z
        cases z'
        rw [h4]; simp
    | _ => exact ha.elim
/-- the content stays where its objects and what it leans on stay -/
theorem Ob.stay {v : PV} {p : Addr} (k : Kee S H S' H') (h : Ob K xc S H v p) (hs : ∀ a o, (a = p ∨ Sub H v p a) → H a = some o → H' a = some o) : Ob K xc S' H' v p := by
  cases v with
  | lst ps => obtain ⟨xs, h1, h2⟩ := h; exact ⟨xs, hs p _ (.inl rfl) h1, h2.kee k⟩
  | dk ks ps => obtain ⟨xs, h1, h2, h3⟩ := h; exact ⟨xs, hs p _ (.inl rfl) h1, h2, h3.kee k⟩
  | dt ks ps => obtain ⟨xs, h1, h2, h3⟩ := h; exact ⟨xs, hs p _ (.inl rfl) h1, h2, h3.kee k⟩
  | mat rows =>
    obtain ⟨qs, h1, h2, h3⟩ := h
    refine ⟨qs, hs p _ (.inl rfl) h1, h2, ?_⟩
    have sb : ∀ q ∈ qs, ∀ o, H q = some o → H' q = some o := fun q hq o e => hs q o (.inr ⟨_, h1, List.mem_map.mpr ⟨q, hq, rfl⟩⟩) e
    clear h1 h2 hs
    induction h3 with
    | nil => exact .nil
    | cons r t ih =>
      obtain ⟨ps, xs, e1, e2, e3⟩ := r
      refine .cons ⟨ps, xs, e1, sb _ List.mem_cons_self _ e2, e3.kee k⟩ (ih fun q hq => sb q (List.mem_cons_of_mem _ hq))
  | box rows =>
    obtain ⟨qs, h1, h2, h3⟩ := h
    refine ⟨qs, hs p _ (.inl rfl) h1, h2, ?_⟩
    have sb : ∀ q, V.ref q ∈ qs → ∀ o, H q = some o → H' q = some o := fun q hq o e => hs q o (.inr ⟨_, h1, hq⟩) e
    clear h1 h2 hs
    induction h3 with
    | nil => exact .nil
    | cons r t ih =>
      refine .cons ?_ (ih fun q hq => sb q (List.mem_cons_of_mem _ hq))
      rcases r with ⟨e1, e2, e3⟩ | ⟨q, ps, xs, e1, e2, e3, e4, e5⟩
      · exact .inl ⟨e1, e2.kee k, e3⟩
      · exact .inr ⟨q, ps, xs, e1, e2, e3, sb q (by rw [e2]; exact List.mem_cons_self) _ e4, e5.kee k⟩
  | desk names rules =>
    obtain ⟨C, dx, r, n, xs, h1, h2, h3, h4, h5, h6⟩ := h
    exact ⟨C, dx, r, n, xs, hs p _ (.inl rfl) h1, hs dx _ (.inr ⟨_, _, _, h1, .inl rfl⟩) h2, h3.kee k, hs r _ (.inr ⟨_, _, _, h1, .inr rfl⟩) h4, h5.kee k, h6⟩
  | _ => exact h.elim
/-- .. and its addresses are the same -/
theorem Ob.subs {v : PV} {p a : Addr} (h : Ob K xc S H v p) (hp : ∀ o, H p = some o → H' p = some o) (z : Sub H' v p a) : Sub H v p a := by
  cases v with
  | mat rows =>
    obtain ⟨qs, h1, _⟩ := h
    obtain ⟨xs, q1, q2⟩ := z
    rw [hp _ h1] at q1; cases q1
    exact ⟨_, h1, q2⟩
  | box rows =>
    obtain ⟨qs, h1, _⟩ := h
    obtain ⟨xs, q1, q2⟩ := z
    rw [hp _ h1] at q1; cases q1
    exact ⟨_, h1, q2⟩
  | desk names rules =>
    obtain ⟨C, dx, r, n, xs, h1, _⟩ := h
    obtain ⟨C', dx', fs, q, z⟩ := z
    rw [hp _ h1] at q; cases q
    exact ⟨_, _, _, h1, z⟩
  | _ => exact z
end
section
variable {C : Ctx} {S S' : Addr → Prop} {σ : L2.St} {H H' : Hp} {g : Gm}
theorem Sta.aliveF (st : Sta C S σ H g) {a : Addr} (f : Foot σ H g a) : H a ≠ none := by
  obtain ⟨i, s, v, p, h1, h2, h3, h4⟩ := f
  obtain ⟨p', q1, q2⟩ := st.own i s v h1 h2
  rw [h3] at q1; cases q1
  exact q2.aliveSub h4
theorem Sta.footG (st : Sta C S σ H g) (k : Gro S H S' H') {a : Addr} (f : Foot σ H' g a) : Foot σ H g a := by
  obtain ⟨i, s, v, p, h1, h2, h3, h4⟩ := f
  obtain ⟨p', q1, q2⟩ := st.own i s v h1 h2
  rw [h3] at q1; cases q1
  exact ⟨i, s, v, p, h1, h2, h3, h4.imp id fun z => q2.subs (fun o e => k.same _ _ e) z⟩
theorem Sta.gro (st : Sta C S σ H g) (k : Gro S H S' H') : Sta C S' σ H' g where
  len := st.len
  val := fun i v e => let ⟨u, h1, h2⟩ := st.val i v e; ⟨u, h1, h2.kee k.kee⟩
  own := fun i s v e c => let ⟨p, h1, h2⟩ := st.own i s v e c; ⟨p, h1, h2.stay k.kee fun a o _ q => k.same a o q⟩
  apart := fun i j s t v w p q a hij h1 h2 h3 h4 h5 h6 h7 h8 => by
    obtain ⟨p', e1, o1⟩ := st.own i s v h1 h2
    rw [h5] at e1; cases e1
    obtain ⟨q', e2, o2⟩ := st.own j t w h3 h4
    rw [h6] at e2; cases e2
    exact st.apart i j s t v w p q a hij h1 h2 h3 h4 h5 h6 (h7.imp id fun z => o1.subs (fun o e => k.same _ _ e) z) (h8.imp id fun z => o2.subs (fun o e => k.same _ _ e) z)
  out := fun a f hs => by
    have f' := st.footG k f
    rcases k.new a hs with z | ⟨z, _⟩
    · exact st.out a f' z
    · exact st.aliveF f' z
  live := fun a hs => by
    rcases k.new a hs with z | ⟨_, z⟩
    · intro e
      exact st.live a z (k.same.free e)
    · exact z
theorem Sta.stpG (st : Sta C S σ H g) (k : Gro S H S' H') : Stp S σ H g S' σ H' g where
  sub := k.sub
  new := fun a h => by
    rcases k.new a h with z | ⟨z, _⟩
    · exact .inl z
    · exact .inr (.inl z)
  frm := fun a o e _ => k.same a o e
  grw := fun a f => .inl (st.footG k f)
  alive := fun a h e => h (k.same.free e)
  len := rfl
  keep := fun _ v h => ⟨rfl, v, h⟩
theorem Sta.wish (st : Sta C S σ H g) {W : WX} : Sta { C with W := W } S σ H g := ⟨st.len, st.val, st.own, st.apart, st.out, st.live⟩
theorem Sta.unwish {W : WX} (st : Sta { C with W := W } S σ H g) : Sta C S σ H g := ⟨st.len, st.val, st.own, st.apart, st.out, st.live⟩
end

/-! ### what code does to the slots -/
abbrev EF := Gm → R (PV × Gm)
abbrev BF := Gm → R (Bool × Gm)
abbrev AF := Gm → R (List PV × Gm)
inductive Out where
  | nx (g : Gm) | rt (v : PV) (g : Gm) | rn (v : PV) (g : Gm) | bk (g : Gm) | ct (g : Gm)
abbrev SF := Gm → R Out

section
variable (C : Ctx) (S : Addr → Prop) (σ : L2.St) (H : Hp) (g : Gm)
/-- an exception leaves -/
def PostX (x : Exc) (g' : Gm) : Prop := ∀ S' σ' H' cls d, Stp S σ H g S' σ' H' g' → Sta C S' σ' H' g' → ExAt C.xc x cls d H' → C.W cls d σ' H'
def PostE (r : R (PV × Gm)) (Q : VK) : Prop := match r with
  | .ok (v, g') => ∀ S' H' u, Stp S σ H g S' σ H' g' → Sta C S' σ H' g' → Rep C.K C.xc S' H' v u → Q u H'
  | .err x g' => PostX C S σ H g x g'
  | .stuck => False
def PostB (r : R (Bool × Gm)) (Q : Bool → Hp → Prop) : Prop := match r with
  | .ok (b, g') => ∀ S' H', Stp S σ H g S' σ H' g' → Sta C S' σ H' g' → Q b H'
  | .err x g' => PostX C S σ H g x g'
  | .stuck => False
def PostA (r : R (List PV × Gm)) (Q : List V → Hp → Prop) : Prop := match r with
  | .ok (vs, g') => ∀ S' H' us, Stp S σ H g S' σ H' g' → Sta C S' σ H' g' → RepL C.K C.xc S' H' vs us → Q us H'
  | .err x g' => PostX C S σ H g x g'
  | .stuck => False
/-- a new thing of one's own -/
def New (S : Addr → Prop) (H : Hp) (S' : Addr → Prop) (σ' : L2.St) (H' : Hp) (g' : Gm) (v : PV) (p : Addr) : Prop := Ob C.K C.xc S' H' v p ∧ ∀ a, (a = p ∨ Sub H' v p a) → (H a = none ∨ Foot σ H g a) ∧ ¬ S' a ∧ ¬ Foot σ' H' g' a
def PostS (r : R Out) (D : Ends) : Prop := match r with
  | .ok (.nx g') => ∀ S' σ' H', Stp S σ H g S' σ' H' g' → Sta C S' σ' H' g' → D.nx σ' H'
  | .ok (.bk g') => ∀ S' σ' H', Stp S σ H g S' σ' H' g' → Sta C S' σ' H' g' → D.bk σ' H'
  | .ok (.ct g') => ∀ S' σ' H', Stp S σ H g S' σ' H' g' → Sta C S' σ' H' g' → D.ct σ' H'
  | .ok (.rt v g') => ∀ S' σ' H' u, Stp S σ H g S' σ' H' g' → Sta C S' σ' H' g' → Rep C.K C.xc S' H' v u → D.rt u H'
  | .ok (.rn v g') => ∀ S' σ' H' p, Stp S σ H g S' σ' H' g' → Sta C S' σ' H' g' → New C σ g S H S' σ' H' g' v p → D.rt (.ref p) H'
  | .err x g' => PostX C S σ H g x g'
  | .stuck => False
end
section
variable {C : Ctx} {S S1 : Addr → Prop} {σ σ1 : L2.St} {H H1 : Hp} {g g1 : Gm}
theorem PostX.on {x : Exc} {g' : Gm} (k : Stp S σ H g S1 σ1 H1 g1) (h : PostX C S σ H g x g') : PostX C S1 σ1 H1 g1 x g' := fun S' σ' H' cls d k' => h S' σ' H' cls d (k.trans k')
theorem PostE.on {r : R (PV × Gm)} {Q : VK} (k : Stp S σ H g S1 σ H1 g1) (h : PostE C S σ H g r Q) : PostE C S1 σ H1 g1 r Q := by
  match r, h with
  | .ok (v, g'), h => exact fun S' H' u k' => h S' H' u (k.trans k')
  | .err x g', h => exact PostX.on k h
  | .stuck, h => exact h
theorem PostB.on {r : R (Bool × Gm)} {Q : Bool → Hp → Prop} (k : Stp S σ H g S1 σ H1 g1) (h : PostB C S σ H g r Q) : PostB C S1 σ H1 g1 r Q := by
  match r, h with
  | .ok (v, g'), h => exact fun S' H' k' => h S' H' (k.trans k')
  | .err x g', h => exact PostX.on k h
  | .stuck, h => exact h
theorem PostA.on {r : R (List PV × Gm)} {Q : List V → Hp → Prop} (k : Stp S σ H g S1 σ H1 g1) (h : PostA C S σ H g r Q) : PostA C S1 σ H1 g1 r Q := by
  match r, h with
  | .ok (v, g'), h => exact fun S' H' u k' => h S' H' u (k.trans k')
  | .err x g', h => exact PostX.on k h
  | .stuck, h => exact h
theorem New.on {S' : Addr → Prop} {σ' : L2.St} {H' : Hp} {g' : Gm} {v : PV} {p : Addr} (k : Stp S σ H g S1 σ1 H1 g1) (h : New C σ1 g1 S1 H1 S' σ' H' g' v p) : New C σ g S H S' σ' H' g' v p :=
  ⟨h.1, fun a z => ⟨by
    rcases (h.2 a z).1 with q | q
    · by_cases e : H a = none
      · exact .inl e
      · exact absurd q (k.alive a e)
    · exact (k.grw a q).symm, (h.2 a z).2⟩⟩
theorem PostS.on {r : R Out} {D : Ends} (k : Stp S σ H g S1 σ1 H1 g1) (h : PostS C S σ H g r D) : PostS C S1 σ1 H1 g1 r D := by
  match r, h with
  | .ok (.nx g'), h => exact fun S' σ' H' k' => h S' σ' H' (k.trans k')
  | .ok (.bk g'), h => exact fun S' σ' H' k' => h S' σ' H' (k.trans k')
  | .ok (.ct g'), h => exact fun S' σ' H' k' => h S' σ' H' (k.trans k')
  | .ok (.rt v g'), h => exact fun S' σ' H' u k' => h S' σ' H' u (k.trans k')
  | .ok (.rn v g'), h => exact fun S' σ' H' u k' s' n => h S' σ' H' u (k.trans k') s' (n.on k)
  | .err x g', h => exact PostX.on k h
  | .stuck, h => exact h
end
/-- a reading does what a function on slots says -/
def SimE (C : Ctx) (t : TE) (f : EF) : Prop := ∀ S σ H g Q, Sta C S σ H g → PostE C S σ H g (f g) Q → t σ H Q
def SimB (C : Ctx) (t : TT) (f : BF) : Prop := ∀ S σ H g Q, Sta C S σ H g → PostB C S σ H g (f g) Q → t σ H Q
def SimA (C : Ctx) (t : TA) (f : AF) : Prop := ∀ S σ H g Q, Sta C S σ H g → PostA C S σ H g (f g) Q → t σ H Q
def SimS (C : Ctx) (t : TS) (f : SF) : Prop := ∀ S σ H g D, Sta C S σ H g → PostS C S σ H g (f g) D → t D σ H

/-- contexts of one kind -/
structure Fam {ι : Type} (X : ι → Cx) (C : Ctx) : Prop where
  P : ∀ i, (X i).prog = C.P
  w : ∀ i, (X i).w = C.w
  K : ∀ i, (X i).K = C.K
  mg : ∀ i, (X i).mg = C.mg
  base : ∀ i, (X i).base = C.base
  N : ∀ i, (X i).N = C.N
  room : ∀ i, Room C.k (X i).A
  calm : ∀ i, (X i).calm = true
  tk : ∀ i, Takes (X i) C.W
  own : ∀ i, PassesOwn (model (X i).prog (X i).w) (X i).A (X i).env (X i).xe
def EX {ι : Type} (X : ι → Cx) (C : Ctx) (e : Expr) (f : EF) : Prop := ∃ t, (∀ i, PE (X i) e t) ∧ SimE C t f
def BX {ι : Type} (X : ι → Cx) (C : Ctx) (e : Expr) (f : BF) : Prop := ∃ t, (∀ i, PT (X i) e t) ∧ SimB C t f
def AX {ι : Type} (X : ι → Cx) (C : Ctx) (es : List Expr) (f : AF) : Prop := ∃ t, (∀ i, PA (X i) es t) ∧ SimA C t f
def SX {ι : Type} (X : ι → Cx) (C : Ctx) (st : Stmt) (f : SF) : Prop := ∃ t, (∀ i, PS (X i) st t) ∧ SimS C t f
def BkX {ι : Type} (X : ι → Cx) (C : Ctx) (sts : List Stmt) (f : SF) : Prop := ∃ t, (∀ i, PSs (X i) sts t) ∧ SimS C t f
end L3

namespace L3
open PySem PySem.Spec PyProof.Rows L2
def R.of {α : Type} : Option α → R α
  | some a => .ok a
  | none => .stuck
@[simp] theorem R.of_some {α : Type} (a : α) : R.of (some a) = .ok a := (rfl)
@[simp] theorem R.of_none {α : Type} : (R.of none : R α) = .stuck := (rfl)
/-! ### expressions that only make new objects -/
abbrev PF := Gm → R PV
abbrev QF := Gm → R Bool
abbrev LF := Gm → R (List PV)
section
variable (C : Ctx) (S : Addr → Prop) (σ : L2.St) (H : Hp) (g : Gm)
def PostPX (x : Exc) : Prop := ∀ S' H' cls d, Gro S H S' H' → ExAt C.xc x cls d H' → C.W cls d σ H'
def PostP (r : R PV) (Q : VK) : Prop := match r with
  | .ok v => ∀ S' H' u, Gro S H S' H' → Rep C.K C.xc S' H' v u → Q u H'
  | .err x _ => PostPX C S σ H x
  | .stuck => False
/-- a new object that may be changed -/
def PostN (r : R PV) (Q : VK) : Prop := match r with
  | .ok v => ∀ S' H' p, Gro S H S' H' → H p = none → ¬ S' p → Ob C.K C.xc S' H' v p → (∀ a, Sub H' v p a → H a = none ∧ ¬ S' a) → Q (.ref p) H'
  | .err x _ => PostPX C S σ H x
  | .stuck => False
def PostQ (r : R Bool) (Q : Bool → Hp → Prop) : Prop := match r with
  | .ok b => ∀ S' H', Gro S H S' H' → Q b H'
  | .err x _ => PostPX C S σ H x
  | .stuck => False
def PostL (r : R (List PV)) (Q : List V → Hp → Prop) : Prop := match r with
  | .ok vs => ∀ S' H' us, Gro S H S' H' → RepL C.K C.xc S' H' vs us → Q us H'
  | .err x _ => PostPX C S σ H x
  | .stuck => False
end
section
variable {C : Ctx} {S S1 : Addr → Prop} {σ : L2.St} {H H1 : Hp} {g : Gm}
theorem PostPX.on {x : Exc} (k : Gro S H S1 H1) (h : PostPX C S σ H x) : PostPX C S1 σ H1 x := fun S' H' cls d k' => h S' H' cls d (k.trans k')
theorem PostP.on {r : R PV} {Q : VK} (k : Gro S H S1 H1) (h : PostP C S σ H r Q) : PostP C S1 σ H1 r Q := by
  match r, h with
  | .ok v, h => exact fun S' H' u k' => h S' H' u (k.trans k')
  | .err x g', h => exact PostPX.on k h
  | .stuck, h => exact h
theorem PostN.on {r : R PV} {Q : VK} (k : Gro S H S1 H1) (h : PostN C S σ H r Q) : PostN C S1 σ H1 r Q := by
  match r, h with
  | .ok v, h => exact fun S' H' u k' e n o s => h S' H' u (k.trans k') (k.same.free e) n o fun a z => ⟨k.same.free (s a z).1, (s a z).2⟩
  | .err x g', h => exact PostPX.on k h
  | .stuck, h => exact h
theorem PostQ.on {r : R Bool} {Q : Bool → Hp → Prop} (k : Gro S H S1 H1) (h : PostQ C S σ H r Q) : PostQ C S1 σ H1 r Q := by
  match r, h with
  | .ok v, h => exact fun S' H' k' => h S' H' (k.trans k')
  | .err x g', h => exact PostPX.on k h
  | .stuck, h => exact h
theorem PostL.on {r : R (List PV)} {Q : List V → Hp → Prop} (k : Gro S H S1 H1) (h : PostL C S σ H r Q) : PostL C S1 σ H1 r Q := by
  match r, h with
  | .ok v, h => exact fun S' H' u k' => h S' H' u (k.trans k')
  | .err x g', h => exact PostPX.on k h
  | .stuck, h => exact h
end
def SimP (C : Ctx) (t : TE) (f : PF) : Prop := ∀ S σ H g Q, Sta C S σ H g → PostP C S σ H (f g) Q → t σ H Q
def SimN (C : Ctx) (t : TE) (f : PF) : Prop := ∀ S σ H g Q, Sta C S σ H g → PostN C S σ H (f g) Q → t σ H Q
def SimQ (C : Ctx) (t : TT) (f : QF) : Prop := ∀ S σ H g Q, Sta C S σ H g → PostQ C S σ H (f g) Q → t σ H Q
def SimL (C : Ctx) (t : TA) (f : LF) : Prop := ∀ S σ H g Q, Sta C S σ H g → PostL C S σ H (f g) Q → t σ H Q
section
variable {ι : Type} (X : ι → Cx) (C : Ctx)
def PX (e : Expr) (f : PF) : Prop := ∃ t, (∀ i, PE (X i) e t) ∧ SimP C t f
def NX (e : Expr) (f : PF) : Prop := ∃ t, (∀ i, PE (X i) e t) ∧ SimN C t f
def QX (e : Expr) (f : QF) : Prop := ∃ t, (∀ i, PT (X i) e t) ∧ SimQ C t f
/-- for and, or -/
def WX' (e : Expr) (f : QF) : Prop := ∃ t, (∀ i, PW (X i) e t) ∧ SimQ C t f
def LX (es : List Expr) (f : LF) : Prop := ∃ t, (∀ i, PA (X i) es t) ∧ SimL C t f
end
/-! #### by values -/
def OpS (K : PySem.W.Frag) (xc : Xc) (r : R2) (f : PV → PV → Option PV) : Prop := ∀ S H x y z u v Q, f x y = some z → Rep K xc S H x u → Rep K xc S H y v →
  (∀ S' H' w, Gro S H S' H' → Rep K xc S' H' z w → Q w H') → r u v H Q
def OpN (K : PySem.W.Frag) (xc : Xc) (r : R2) (f : PV → PV → Option PV) : Prop := ∀ S H x y z u v Q, f x y = some z → Rep K xc S H x u → Rep K xc S H y v → (∀ a, S a → H a ≠ none) →
  (∀ S' H' p, Gro S H S' H' → H p = none → ¬ S' p → Ob K xc S' H' z p → (∀ a, Sub H' z p a → H a = none ∧ ¬ S' a) → Q (.ref p) H') → r u v H Q
def UnS (K : PySem.W.Frag) (xc : Xc) (r : V → Hp → VK → Prop) (f : PV → Option PV) : Prop := ∀ S H x z u Q, f x = some z → Rep K xc S H x u → (∀ S' H' w, Gro S H S' H' → Rep K xc S' H' z w → Q w H') → r u H Q
def CaS (K : PySem.W.Frag) (xc : Xc) (r : List V → Hp → VK → Prop) (f : List PV → Option PV) : Prop := ∀ S H xs z us Q, f xs = some z → RepL K xc S H xs us →
  (∀ S' H' w, Gro S H S' H' → Rep K xc S' H' z w → Q w H') → r us H Q
def CaN (K : PySem.W.Frag) (xc : Xc) (r : List V → Hp → VK → Prop) (f : List PV → Option PV) : Prop := ∀ S H xs z us Q, f xs = some z → RepL K xc S H xs us → (∀ a, S a → H a ≠ none) →
  (∀ S' H' p, Gro S H S' H' → H p = none → ¬ S' p → Ob K xc S' H' z p → (∀ a, Sub H' z p a → H a = none ∧ ¬ S' a) → Q (.ref p) H') → r us H Q

def pVar (i : Nat) : PF := fun g => match g[i]? with
  | some (.val v) => .ok v
  | _ => .stuck
def pC (v : PV) : PF := fun _ => .ok v
def pOp (f : PV → PV → Option PV) (a b : PF) : PF := fun g => (a g).bind fun x => (b g).bind fun y => R.of (f x y)
def pUn (f : PV → Option PV) (a : PF) : PF := fun g => (a g).bind fun x => R.of (f x)
def asB : PV → Option Bool
  | .bl b => some b
  | _ => none
@[simp] theorem asB_bl (b : Bool) : asB (.bl b) = some b := (rfl)
theorem of_asB {v : PV} {b : Bool} (h : asB v = some b) : v = .bl b := by
  cases v <;> simp [asB] at h
  rw [h]
def pAnd (a b : PF) : PF := fun g => (a g).bind fun x => (R.of (asB x)).bind fun c => if c = true then b g else .ok (.bl false)
def pOr (a b : PF) : PF := fun g => (a g).bind fun x => (R.of (asB x)).bind fun c => if c = true then .ok (.bl true) else b g
def pNot (a : PF) : PF := fun g => (a g).bind fun x => (R.of (asB x)).bind fun c => .ok (.bl !c)
def lNil : LF := fun _ => .ok []
def lCons (a : PF) (l : LF) : LF := fun g => (a g).bind fun x => (l g).bind fun xs => .ok (x :: xs)
def pTup (l : LF) : PF := fun g => (l g).bind fun xs => if xs.length ≤ 1000 then .ok (.tup xs) else .stuck
def pLst (l : LF) : PF := fun g => (l g).bind fun xs => if xs.length ≤ 1000 then .ok (.lst xs) else .stuck
def pCa (f : List PV → Option PV) (l : LF) : PF := fun g => (l g).bind fun xs => R.of (f xs)
def pMt (f : PV → List PV → Option PV) (a : PF) (l : LF) : PF := fun g => (a g).bind fun x => (l g).bind fun xs => R.of (f x xs)
/-- a test -/
def qV (a : PF) : QF := fun g => (a g).bind fun x => R.of (asB x)
def qAnd (a b : QF) : QF := fun g => (a g).bind fun x => if x = true then b g else .ok false
def qOr (a b : QF) : QF := fun g => (a g).bind fun x => if x = true then .ok true else b g
def qNot (a : QF) : QF := fun g => (a g).bind fun x => .ok !x

section
variable {ι : Type} {X : ι → Cx} {C : Ctx} {e a b : Expr} {f fa fb : PF} {pos : Pos} {es : List Expr} {fl : LF}
theorem small_le {n : Nat} (h : n ≤ 1000) : n ≤ sizeLine := Nat.le_of_lt (small1000 h)
theorem SimP.bind2 {ta tb : TE} {R' : V → V → Hp → Prop} {h : PV → PV → R PV} {Q : VK} (ha : SimP C ta fa) (hb : SimP C tb fb) {S : Addr → Prop} {σ : L2.St} {H : Hp} {g : Gm} (st : Sta C S σ H g)
    (hp : PostP C S σ H ((fa g).bind fun x => (fb g).bind fun y => h x y) Q)
    (hR : ∀ x y u v S2 H2, Gro S H S2 H2 → Sta C S2 σ H2 g → Rep C.K C.xc S2 H2 x u → Rep C.K C.xc S2 H2 y v → PostP C S2 σ H2 (h x y) Q → R' u v H2) :
    ta σ H fun u H1 => tb σ H1 fun v H2 => R' u v H2 := by
  refine ha S σ H g _ st ?_
  match e1 : fa g, hp with
  | .stuck, hp => exact hp
  | .err x g', hp => exact hp
  | .ok x, hp =>
    rw [R.bind_ok] at hp
    intro S1 H1 u k1 r1
    refine hb S1 σ H1 g _ (st.gro k1) ?_
    match e2 : fb g, hp with
    | .stuck, hp => exact hp
    | .err x g', hp => exact PostPX.on k1 hp
    | .ok y, hp =>
      rw [R.bind_ok] at hp
      intro S2 H2 v k2 r2
      exact hR x y u v S2 H2 (k1.trans k2) (st.gro (k1.trans k2)) (r1.kee k2.kee) r2 (PostP.on (k1.trans k2) hp)
theorem SimP.bind1 {ta : TE} {R' : V → Hp → Prop} {h : PV → R PV} {Q : VK} (ha : SimP C ta fa) {S : Addr → Prop} {σ : L2.St} {H : Hp} {g : Gm} (st : Sta C S σ H g) (hp : PostP C S σ H ((fa g).bind h) Q)
    (hR : ∀ x u S1 H1, Gro S H S1 H1 → Sta C S1 σ H1 g → Rep C.K C.xc S1 H1 x u → PostP C S1 σ H1 (h x) Q → R' u H1) : ta σ H R' := by
  refine ha S σ H g _ st ?_
  match e1 : fa g, hp with
  | .stuck, hp => exact hp
  | .err x g', hp => exact hp
  | .ok x, hp =>
    rw [R.bind_ok] at hp
    intro S1 H1 u k1 r1
    exact hR x u S1 H1 k1 (st.gro k1) r1 (PostP.on k1 hp)
theorem p_var {i : Nat} {x : Str} (hN : ∀ j, (X j).N[i]? = some x) (hv : ∀ j, Vis (X j).env.scope x) (hd : (x == ("__debug__" : Str)) = false := by decide) (hcd : (x == ("__classdict__" : Str)) = false := by decide) : PX X C (.Name x pos) (pVar i) := by
  refine ⟨tVar i, fun j => pe_var (hN j) (hv j) hd hcd, fun S σ H g Q st hp => ?_⟩
  unfold pVar at hp
  match h : g[i]?, hp with
  | some (.val v), hp =>
    obtain ⟨u, h1, h2⟩ := st.val i v h
    exact ⟨u, h1, hp S H u .refl h2⟩
  | some (.junk), hp => exact hp.elim
  | some (.own v), hp => exact hp.elim
  | some (.prm v), hp => exact hp.elim
  | none, hp => exact hp.elim
theorem p_c {v : PV} {u : V} (h : ∀ i, PE (X i) e (tC u)) (hr : ∀ S H, Rep C.K C.xc S H v u) : PX X C e (pC v) :=
  ⟨tC u, h, fun S σ H g Q _ hp => hp S H u .refl (hr S H)⟩
theorem p_int {n : Int} {j : Nat} : PX X C (.Constant (.int n) j pos) (pC (.int n)) := p_c (u := .int n) (fun _ => pe_int) fun _ _ => by unfold Rep; rfl
theorem p_bl {n : Bool} {j : Nat} : PX X C (.Constant (.bool n) j pos) (pC (.bl n)) := p_c (u := .bl n) (fun _ => pe_bl) fun _ _ => by unfold Rep; rfl
theorem p_non {j : Nat} : PX X C (.Constant .none j pos) (pC .non) := p_c (u := .non) (fun _ => pe_non) fun _ _ => by unfold Rep; rfl
theorem p_str {n : Str} {j : Nat} : PX X C (.Constant (.str n) j pos) (pC (.str n)) := p_c (u := .str n) (fun _ => pe_str) fun _ _ => by unfold Rep; rfl
theorem p_op {op : Operator} {r : R2} {h : PV → PV → Option PV} (ho : ∀ i, OpR (X i) (binaryOp op) r) (hs : OpS C.K C.xc r h) (ha : PX X C a fa) (hb : PX X C b fb) : PX X C (.BinOp a op b pos) (pOp h fa fb) := by
  obtain ⟨ta, pa, sa⟩ := ha
  obtain ⟨tb, pb, sb⟩ := hb
  refine ⟨tOp r ta tb, fun i => pe_op (ho i) (pa i) (pb i), fun S σ H g Q st hp => ?_⟩
  refine SimP.bind2 sa sb st hp fun x y u v S2 H2 k s2 ru rv q => ?_
  match e : h x y, q with
  | none, q => exact q.elim
  | some z, q => exact hs S2 H2 x y z u v Q e ru rv fun S' H' w k' rw' => q S' H' w k' rw'
theorem p_cmp {op : CmpOp} {r : R2} {h : PV → PV → Option PV} (ho : ∀ i, OpR (X i) (compareOp op) r) (hs : OpS C.K C.xc r h) (ha : PX X C a fa) (hb : PX X C b fb) (hm : behindInMarks op b = false) : PX X C (.Compare a [op] [b] pos) (pOp h fa fb) := by
  obtain ⟨ta, pa, sa⟩ := ha
  obtain ⟨tb, pb, sb⟩ := hb
  refine ⟨tOp r ta tb, fun i => pe_cmpR (ho i) (pa i) (pb i) hm, fun S σ H g Q st hp => ?_⟩
  refine SimP.bind2 sa sb st hp fun x y u v S2 H2 k s2 ru rv q => ?_
  match e : h x y, q with
  | none, q => exact q.elim
  | some z, q => exact hs S2 H2 x y z u v Q e ru rv fun S' H' w k' rw' => q S' H' w k' rw'
theorem p_un {op : UnaryOp} {r : V → Hp → VK → Prop} {h : PV → Option PV} (ho : ∀ i, UnR (X i) (unaryOp op) r) (hs : UnS C.K C.xc r h) (ha : PX X C a fa) : PX X C (.UnaryOp op a pos) (pUn h fa) := by
  obtain ⟨ta, pa, sa⟩ := ha
  refine ⟨tUn r ta, fun i => pe_un (ho i) (pa i), fun S σ H g Q st hp => ?_⟩
  refine SimP.bind1 sa st hp fun x u S1 H1 k s1 ru q => ?_
  match e : h x, q with
  | none, q => exact q.elim
  | some z, q => exact hs S1 H1 x z u Q e ru fun S' H' w k' rw' => q S' H' w k' rw'
theorem rep_bl {K : PySem.W.Frag} {xc : Xc} {S : Addr → Prop} {H : Hp} {b : Bool} {u : V} : Rep K xc S H (.bl b) u ↔ u = .bl b := by unfold Rep; exact Iff.rfl
theorem p_and {rest : List Expr} (ha : PX X C a fa) (hb : PX X C (.BoolOp .And (b :: rest) pos) fb) : PX X C (.BoolOp .And (a :: b :: rest) pos) (pAnd fa fb) := by
  obtain ⟨ta, pa, sa⟩ := ha
  obtain ⟨tb, pb, sb⟩ := hb
  refine ⟨tAndV ta tb, fun i => pe_and (pa i) (pb i), fun S σ H g Q st hp => ?_⟩
  refine SimP.bind1 sa st hp fun x u S1 H1 k s1 ru q => ?_
  match e : asB x, q with
  | none, q => exact q.elim
  | some true, q => rw [of_asB e] at ru; exact ⟨true, rep_bl.mp ru, iteT (sb S1 σ H1 g Q s1 q)⟩
  | some false, q => rw [of_asB e] at ru; exact ⟨false, rep_bl.mp ru, iteF (q S1 H1 _ .refl (rep_bl.mpr rfl))⟩
theorem p_or {rest : List Expr} (ha : PX X C a fa) (hb : PX X C (.BoolOp .Or (b :: rest) pos) fb) : PX X C (.BoolOp .Or (a :: b :: rest) pos) (pOr fa fb) := by
  obtain ⟨ta, pa, sa⟩ := ha
  obtain ⟨tb, pb, sb⟩ := hb
  refine ⟨tOrV ta tb, fun i => pe_or (pa i) (pb i), fun S σ H g Q st hp => ?_⟩
  refine SimP.bind1 sa st hp fun x u S1 H1 k s1 ru q => ?_
  match e : asB x, q with
  | none, q => exact q.elim
  | some true, q => rw [of_asB e] at ru; exact ⟨true, rep_bl.mp ru, iteT (q S1 H1 _ .refl (rep_bl.mpr rfl))⟩
  | some false, q => rw [of_asB e] at ru; exact ⟨false, rep_bl.mp ru, iteF (sb S1 σ H1 g Q s1 q)⟩
theorem p_one {op} (ha : PX X C a fa) : PX X C (.BoolOp op [a] pos) fa := let ⟨ta, pa, sa⟩ := ha; ⟨ta, fun i => pe_one (pa i), sa⟩
theorem p_not (ha : PX X C a fa) : PX X C (.UnaryOp .Not a pos) (pNot fa) := by
  obtain ⟨ta, pa, sa⟩ := ha
  refine ⟨tNotV ta, fun i => pe_not (pa i), fun S σ H g Q st hp => ?_⟩
  refine SimP.bind1 sa st hp fun x u S1 H1 k s1 ru q => ?_
  match e : asB x, q with
  | none, q => exact q.elim
  | some b, q => rw [of_asB e] at ru; exact ⟨b, rep_bl.mp ru, q S1 H1 _ .refl (rep_bl.mpr rfl)⟩
theorem l_nil : LX X C [] lNil := ⟨tNil, fun _ => pa_nil, fun S σ H g Q _ hp => hp S H [] .refl (RepL.nil.mpr rfl)⟩
theorem l_cons (ha : PX X C a fa) (hl : LX X C es fl) (hs : ∀ i, starEach (a :: es) (X i).env = (false, eval a (X i).env) :: starEach es (X i).env := by intro _; rfl) : LX X C (a :: es) (lCons fa fl) := by
  obtain ⟨ta, pa, sa⟩ := ha
  obtain ⟨tl, pl, sl⟩ := hl
  refine ⟨tCons ta tl, fun i => pa_cons (pa i) (pl i) (hs i), fun S σ H g Q st hp => ?_⟩
  refine sa S σ H g _ st ?_
  unfold lCons at hp
  match e1 : fa g, hp with
  | .stuck, hp => exact hp
  | .err x g', hp => exact hp
  | .ok x, hp =>
    rw [R.bind_ok] at hp
    intro S1 H1 u k1 r1
    refine sl S1 σ H1 g _ (st.gro k1) ?_
    match e2 : fl g, hp with
    | .stuck, hp => exact hp
    | .err x g', hp => exact PostPX.on k1 hp
    | .ok xs, hp =>
      rw [R.bind_ok] at hp
      intro S2 H2 us k2 r2
      exact hp S2 H2 (u :: us) (k1.trans k2) (RepL.cons.mpr ⟨u, us, rfl, r1.kee k2.kee, r2⟩)
theorem SimL.bind1 {tl : TA} {R' : List V → Hp → Prop} {h : List PV → R PV} {Q : VK} (hl : SimL C tl fl) {S : Addr → Prop} {σ : L2.St} {H : Hp} {g : Gm} (st : Sta C S σ H g) (hp : PostP C S σ H ((fl g).bind h) Q)
    (hR : ∀ xs us S1 H1, Gro S H S1 H1 → Sta C S1 σ H1 g → RepL C.K C.xc S1 H1 xs us → PostP C S1 σ H1 (h xs) Q → R' us H1) : tl σ H R' := by
  refine hl S σ H g _ st ?_
  match e1 : fl g, hp with
  | .stuck, hp => exact hp
  | .err x g', hp => exact hp
  | .ok x, hp =>
    rw [R.bind_ok] at hp
    intro S1 H1 u k1 r1
    exact hR x u S1 H1 k1 (st.gro k1) r1 (PostP.on k1 hp)
theorem SimL.bindN {tl : TA} {R' : List V → Hp → Prop} {h : List PV → R PV} {Q : VK} (hl : SimL C tl fl) {S : Addr → Prop} {σ : L2.St} {H : Hp} {g : Gm} (st : Sta C S σ H g) (hp : PostN C S σ H ((fl g).bind h) Q)
    (hR : ∀ xs us S1 H1, Gro S H S1 H1 → Sta C S1 σ H1 g → RepL C.K C.xc S1 H1 xs us → PostN C S1 σ H1 (h xs) Q → R' us H1) : tl σ H R' := by
  refine hl S σ H g _ st ?_
  match e1 : fl g, hp with
  | .stuck, hp => exact hp
  | .err x g', hp => exact hp
  | .ok x, hp =>
    rw [R.bind_ok] at hp
    intro S1 H1 u k1 r1
    exact hR x u S1 H1 k1 (st.gro k1) r1 (PostN.on k1 hp)
theorem rep_tup {K : PySem.W.Frag} {xc : Xc} {S : Addr → Prop} {H : Hp} {ps : List PV} {u : V} : Rep K xc S H (.tup ps) u ↔ ∃ a xs, u = .ref a ∧ H a = some (.tup xs) ∧ RepL K xc S H ps xs := by
  conv => lhs; unfold Rep
theorem rep_lst {K : PySem.W.Frag} {xc : Xc} {S : Addr → Prop} {H : Hp} {ps : List PV} {u : V} : Rep K xc S H (.lst ps) u ↔ ∃ a xs, u = .ref a ∧ S a ∧ H a = some (.lst xs) ∧ RepL K xc S H ps xs := by
  conv => lhs; unfold Rep
theorem p_tup {k : Nat} (hl : LX X C es fl) : PX X C (.Tuple es k pos) (pTup fl) := by
  obtain ⟨tl, pl, sl⟩ := hl
  refine ⟨tTup tl, fun i => pe_tup (pl i), fun S σ H g Q st hp => ?_⟩
  refine SimL.bind1 sl st hp fun xs us S1 H1 k s1 ru q => ?_
  by_cases hz : xs.length ≤ 1000
  · rw [if_pos hz] at q
    refine ⟨by rw [← ru.len]; exact small_le hz, fun p np => q S1 _ _ (Gro.upd np) (rep_tup.mpr ⟨p, us, rfl, upd_same, ru.kee (Gro.upd np).kee⟩)⟩
  · rw [if_neg hz] at q; exact q.elim
theorem n_lst (hl : LX X C es fl) : NX X C (.List es pos) (pLst fl) := by
  obtain ⟨tl, pl, sl⟩ := hl
  refine ⟨tLst tl, fun i => pe_lst (pl i), fun S σ H g Q st hp => ?_⟩
  refine SimL.bindN sl st hp fun xs us S1 H1 k s1 ru q => ?_
  by_cases hz : xs.length ≤ 1000
  · rw [if_pos hz] at q
    refine ⟨by rw [← ru.len]; exact small_le hz, fun p np => ?_⟩
    exact q S1 _ p (Gro.upd np) np (fun z => s1.live p z np) ⟨us, upd_same, ru.kee (Gro.upd np).kee⟩ fun a z => z.elim
  · rw [if_neg hz] at q; exact q.elim
/-- a new list, dict as a value that is only read from now on -/
def seen : PV → Option PV
  | .lst ps => some (.lst ps)
  | .dk ks ps => some (.dk ks ps)
  | .dt ks ps => some (.dt ks ps)
  | _ => none
def pSeen (f : PF) : PF := fun g => (f g).bind fun v => R.of (seen v)
theorem p_new (hn : NX X C e f) : PX X C e (pSeen f) := by
  obtain ⟨t, p, s⟩ := hn
  refine ⟨t, p, fun S σ H g Q st hp => s S σ H g Q st ?_⟩
  unfold pSeen at hp
  match e1 : f g, hp with
  | .stuck, hp => exact hp
  | .err x g', hp => exact hp
  | .ok v, hp =>
    rw [R.bind_ok] at hp
    intro S' H' p k np ns ob _
    have k2 : Gro S H (plus S' p) H' := ⟨fun a z => .inl (k.sub a z), fun a z => by
      rcases z with z | rfl
      · exact k.new a z
      · exact .inr ⟨np, ob.alive⟩, k.same⟩
    have k3 : Kee S' H' (plus S' p) H' := ⟨fun a z => .inl z, fun _ _ z _ => z⟩
    match v, ob, hp with
    | .lst ps, ⟨xs, h1, h2⟩, hp => exact hp _ H' _ k2 (rep_lst.mpr ⟨p, xs, rfl, .inr rfl, h1, h2.kee k3⟩)
    | .dk ks ps, ⟨xs, h1, h2, h3⟩, hp => exact hp _ H' _ k2 (by unfold Rep; exact ⟨p, xs, rfl, .inr rfl, h1, h2, h3.kee k3⟩)
    | .dt ks ps, ⟨xs, h1, h2, h3⟩, hp => exact hp _ H' _ k2 (by unfold Rep; exact ⟨p, xs, rfl, .inr rfl, h1, h2, h3.kee k3⟩)
end
end L3

namespace L3
open PySem PySem.Spec PyProof.Rows L2
/-! ### operators by values -/
section
variable {K : PySem.W.Frag} {xc : Xc} {S : Addr → Prop} {H : Hp}
theorem rep_int {i : Int} {u : V} : Rep K xc S H (.int i) u ↔ u = .int i := by unfold Rep; exact Iff.rfl
theorem rep_str {i : Str} {u : V} : Rep K xc S H (.str i) u ↔ u = .str i := by unfold Rep; exact Iff.rfl
theorem rep_non {u : V} : Rep K xc S H .non u ↔ u = .non := by unfold Rep; exact Iff.rfl
theorem rep_ktup {ps : List PV} {u : V} : Rep K xc S H (.ktup ps) u ↔ ∃ a xs, u = .ref a ∧ (∃ (o : Obj) (its : Array Value) (n : Nat), K.lookup a = some o ∧ o.cls = .type "tuple" ∧ o.data = .seq its n ∧ its.size ≤ sizeLine ∧ Vals xs its.toList) ∧ RepL K xc S H ps xs := by
  conv => lhs; unfold Rep
theorem rep_scr {ns : List Int} {u : V} : Rep K xc S H (.scr ns) u ↔ ∃ a, u = .ref a ∧ Scr K H a ns := by
  conv => lhs; unfold Rep
theorem Scr.sq {ns : List Int} {a : Addr} (h : Scr K H a ns) : SqL K H a (ns.map V.int) := h.elim (fun ⟨o, z⟩ => .inl (.inr ⟨o, z⟩)) .inr
theorem rep_dk {ks : List Key} {ps : List PV} {u : V} : Rep K xc S H (.dk ks ps) u ↔ ∃ a kvs, u = .ref a ∧ S a ∧ H a = some (.dK kvs) ∧ kvs.map (·.1) = ks ∧ RepL K xc S H ps (kvs.map (·.2)) := by
  conv => lhs; unfold Rep
theorem rep_dt {ks : List (List Key)} {ps : List PV} {u : V} : Rep K xc S H (.dt ks ps) u ↔ ∃ a kvs, u = .ref a ∧ S a ∧ H a = some (.dT kvs) ∧ kvs.map (·.1) = ks ∧ RepL K xc S H ps (kvs.map (·.2)) := by
  conv => lhs; unfold Rep
/-- a sequence that is read -/
def Sq (K : PySem.W.Frag) (H : Hp) (a : Addr) (xs : List V) : Prop := SqL K H a xs ∨ SqT K H a xs
/-- the items of a sequence -/
def items : PV → Option (List PV)
  | .lst ps => some ps
  | .tup ps => some ps
  | .ktup ps => some ps
  | .scr ns => some (ns.map PV.int)
  | _ => none
theorem repL_ints : ∀ ns : List Int, RepL K xc S H (ns.map PV.int) (ns.map V.int)
  | [] => RepL.nil.mpr rfl
  | n :: ns => RepL.cons.mpr ⟨_, _, rfl, rep_int.mpr rfl, repL_ints ns⟩
theorem Rep.items {v : PV} {ps : List PV} {u : V} (h : items v = some ps) (r : Rep K xc S H v u) : ∃ a xs, u = .ref a ∧ Sq K H a xs ∧ RepL K xc S H ps xs := by
  cases v with
  | lst qs =>
    cases h
    obtain ⟨a, xs, e, _, h1, h2⟩ := rep_lst.mp r
    exact ⟨a, xs, e, .inl (SqL.of h1), h2⟩
  | tup qs =>
    cases h
    obtain ⟨a, xs, e, h1, h2⟩ := rep_tup.mp r
    exact ⟨a, xs, e, .inr (SqT.of h1), h2⟩
  | ktup qs =>
    cases h
    obtain ⟨a, xs, e, h1, h2⟩ := rep_ktup.mp r
    exact ⟨a, xs, e, .inr (.inr h1), h2⟩
  | scr ns =>
    cases h
    obtain ⟨a, e, h1⟩ := rep_scr.mp r
    exact ⟨a, _, e, .inl h1.sq, repL_ints ns⟩
  | _ => cases h
end
/-! #### numbers -/
def i2 (f : Int → Int → Option PV) : PV → PV → Option PV
  | .int i, .int j => f i j
  | _, _ => none
@[simp] theorem i2_int (f : Int → Int → Option PV) (i j : Int) : i2 f (.int i) (.int j) = f i j := (rfl)
theorem of_i2 {f : Int → Int → Option PV} {x y z : PV} (h : i2 f x y = some z) : ∃ i j, x = .int i ∧ y = .int j ∧ f i j = some z := by
  cases x <;> cases y <;> simp [i2] at h
  exact ⟨_, _, rfl, rfl, h⟩
def mulOk (i j : Int) : Bool := (decide (-18446744073709551616 < i) && decide (i < 18446744073709551616)) || (decide (-18446744073709551616 < j) && decide (j < 18446744073709551616))
def vMulI (i j : Int) : Option PV := if mulOk i j = true then some (.int (i * j)) else none
def vFdivI (i j : Int) : Option PV := if 0 < j ∧ j < 1073741824 then some (.int (i / j)) else none
def vModI (i j : Int) : Option PV := if 0 < j then some (.int (i % j)) else none
def powOk (i j : Int) : Bool := decide (0 ≤ j) && decide (j ≤ 1000000) && decide (i.natAbs < 18446744073709551616)
def vPowI (i j : Int) : Option PV := if powOk i j = true then some (.int (i ^ j.toNat)) else none
def vShlI (i j : Int) : Option PV := if powOk i j = true then some (.int (i * 2 ^ j.toNat)) else none
def vShrI (i j : Int) : Option PV := if 0 ≤ j then some (.int (i / 2 ^ j.toNat)) else none
def vAddI (i j : Int) : Option PV := some (.int (i + j))
def vSubI (i j : Int) : Option PV := some (.int (i - j))
def vAndI (i j : Int) : Option PV := some (.int (Builtin.bitAnd i j))
def vOrI (i j : Int) : Option PV := some (.int (Builtin.bitOr i j))
def vLtI (i j : Int) : Option PV := some (.bl (decide (i < j)))
def vLeI (i j : Int) : Option PV := some (.bl (decide (i ≤ j)))
def vGtI (i j : Int) : Option PV := some (.bl (decide (j < i)))
def vGeI (i j : Int) : Option PV := some (.bl (decide (j ≤ i)))
section
variable {K : PySem.W.Frag} {xc : Xc}
theorem sI0 {g : Int → Int → V} {f : Int → Int → Option PV} (h : ∀ i j z, f i j = some z → ∀ S H, Rep K xc S H z (g i j)) : OpS K xc (rI0 g) (i2 f) := by
  intro S H x y z u v Q e ru rv q
  obtain ⟨i, j, rfl, rfl, e⟩ := of_i2 e
  exact ⟨i, j, rep_int.mp ru, rep_int.mp rv, q S H _ .refl (h i j z e S H)⟩
theorem sI {g : Int → Int → V} {c : Int → Int → Prop} {f : Int → Int → Option PV} (h : ∀ i j z, f i j = some z → c i j ∧ ∀ S H, Rep K xc S H z (g i j)) : OpS K xc (rI c g) (i2 f) := by
  intro S H x y z u v Q e ru rv q
  obtain ⟨i, j, rfl, rfl, e⟩ := of_i2 e
  exact ⟨i, j, rep_int.mp ru, rep_int.mp rv, (h i j z e).1, q S H _ .refl ((h i j z e).2 S H)⟩
theorem s_sub : OpS K xc (rI0 fun i j => .int (i - j)) (i2 vSubI) := sI0 fun i j z e S H => by cases e; exact rep_int.mpr rfl
theorem s_and : OpS K xc (rI0 fun i j => .int (Builtin.bitAnd i j)) (i2 vAndI) := sI0 fun i j z e S H => by cases e; exact rep_int.mpr rfl
theorem s_or : OpS K xc (rI0 fun i j => .int (Builtin.bitOr i j)) (i2 vOrI) := sI0 fun i j z e S H => by cases e; exact rep_int.mpr rfl
theorem s_lt : OpS K xc (rI0 fun i j => .bl (decide (i < j))) (i2 vLtI) := sI0 fun i j z e S H => by cases e; exact rep_bl.mpr rfl
theorem s_le : OpS K xc (rI0 fun i j => .bl (decide (i ≤ j))) (i2 vLeI) := sI0 fun i j z e S H => by cases e; exact rep_bl.mpr rfl
theorem s_gt : OpS K xc (rI0 fun i j => .bl (decide (j < i))) (i2 vGtI) := sI0 fun i j z e S H => by cases e; exact rep_bl.mpr rfl
theorem s_ge : OpS K xc (rI0 fun i j => .bl (decide (j ≤ i))) (i2 vGeI) := sI0 fun i j z e S H => by cases e; exact rep_bl.mpr rfl
theorem s_fdiv : OpS K xc (rI CDiv fun i j => .int (i / j)) (i2 vFdivI) := sI fun i j z e => by
  unfold vFdivI at e
  split at e
  · rename_i h; cases e; exact ⟨h, fun S H => rep_int.mpr rfl⟩
  · cases e
theorem s_mod : OpS K xc (rI (fun _ j => 0 < j) fun i j => .int (i % j)) (i2 vModI) := sI fun i j z e => by
  unfold vModI at e
  split at e
  · rename_i h; cases e; exact ⟨h, fun S H => rep_int.mpr rfl⟩
  · cases e
theorem powOk_of {i j : Int} (h : powOk i j = true) : CPow i j := by
  unfold powOk at h
  simp only [Bool.and_eq_true, decide_eq_true_eq] at h
  exact ⟨h.1.1, h.1.2, Nat.lt_of_lt_of_le h.2 (by decide)⟩
theorem s_pow : OpS K xc (rI CPow fun i j => .int (i ^ j.toNat)) (i2 vPowI) := sI fun i j z e => by
  unfold vPowI at e
  split at e
  · rename_i h; cases e; exact ⟨powOk_of h, fun S H => rep_int.mpr rfl⟩
  · cases e
theorem s_shl : OpS K xc (rI CPow fun i j => .int (i * 2 ^ j.toNat)) (i2 vShlI) := sI fun i j z e => by
  unfold vShlI at e
  split at e
  · rename_i h; cases e; exact ⟨powOk_of h, fun S H => rep_int.mpr rfl⟩
  · cases e
theorem s_shr : OpS K xc (rI (fun _ j => 0 ≤ j) fun i j => .int (i / 2 ^ j.toNat)) (i2 vShrI) := sI fun i j z e => by
  unfold vShrI at e
  split at e
  · rename_i h; cases e; exact ⟨h, fun S H => rep_int.mpr rfl⟩
  · cases e
theorem mulOk_of {i j : Int} (h : mulOk i j = true) : CMul i j := by
  unfold mulOk at h
  simp only [Bool.or_eq_true, Bool.and_eq_true, decide_eq_true_eq] at h
  exact h
/-- a * b of ints, a list times an int -/
def vMul : PV → PV → Option PV
  | .int i, .int j => vMulI i j
  | .lst ps, .int k => if 0 ≤ k ∧ k ≤ 1000 ∧ ps.length ≤ 1000 then some (.lst (List.replicate k.toNat ps).flatten) else none
  | _, _ => none
@[simp] theorem vMul_int (i j : Int) : vMul (.int i) (.int j) = vMulI i j := (rfl)
def rMul : R2 := fun x y H Q => rI CMul (fun i j => .int (i * j)) x y H Q ∨ rRep x y H Q
theorem o_mul {X : Cx} : OpR X (binaryOp .Mult) rMul := op_mul.or op_rep
theorem RepL.reps {S : Addr → Prop} {H : Hp} {ps : List PV} {xs : List V} (r : RepL K xc S H ps xs) : ∀ n : Nat, RepL K xc S H (List.replicate n ps).flatten (List.replicate n xs).flatten
  | 0 => RepL.nil.mpr rfl
  | n + 1 => by
    rw [List.replicate_succ, List.replicate_succ, List.flatten_cons, List.flatten_cons]
    exact r.app (RepL.reps r n)
theorem flat_len {α : Type} (xs : List α) : ∀ n : Nat, (List.replicate n xs).flatten.length = n * xs.length
  | 0 => by simp
  | n + 1 => by rw [List.replicate_succ, List.flatten_cons, List.length_append, flat_len xs n, Nat.succ_mul, Nat.add_comm]
theorem rep_new {S : Addr → Prop} {H : Hp} {ps : List PV} {xs : List V} {p : Addr} (r : RepL K xc S H ps xs) (np : H p = none) : Rep K xc (plus S p) (upd H p (.lst xs)) (.lst ps) (.ref p) :=
  rep_lst.mpr ⟨p, xs, rfl, .inr rfl, upd_same, r.kee (Gro.plus np).kee⟩
theorem ob_new {S : Addr → Prop} {H : Hp} {ps : List PV} {xs : List V} {p : Addr} (r : RepL K xc S H ps xs) (np : H p = none) : Ob K xc S (upd H p (.lst xs)) (.lst ps) p :=
  ⟨xs, upd_same, r.kee (Gro.upd np).kee⟩
theorem line_mul {a b : Nat} (h1 : a ≤ 1000) (h2 : b ≤ 1000) : b * a ≤ sizeLine := by
  rw [sizeLine_eq]
  exact Nat.le_trans (Nat.mul_le_mul h2 h1) (by decide)
theorem s_rep {x y z : PV} {ps : List PV} {k : Int} {S : Addr → Prop} {H : Hp} {u v : V} {Q : VK} (hk : 0 ≤ k ∧ k ≤ 1000 ∧ ps.length ≤ 1000) (ru : Rep K xc S H (.lst ps) u) (rv : Rep K xc S H (.int k) v)
    (q : ∀ p xs, H p = none → RepL K xc S H (List.replicate k.toNat ps).flatten xs → Q (.ref p) (upd H p (.lst xs))) : rRep u v H Q := by
  obtain ⟨a, xs, rfl, _, h1, h2⟩ := rep_lst.mp ru
  obtain ⟨k0, k1, k2⟩ := hk
  have hl := h2.len
  refine ⟨a, k, xs, rfl, rep_int.mp rv, h1, by omega, by omega, ?_, fun p np => q p _ np (h2.reps _)⟩
  have hm := line_mul (a := k.toNat) (b := xs.length) (by omega) (by omega)
  exact hm
theorem s_mul : OpS K xc rMul vMul := by
  intro S H x y z u v Q e ru rv q
  cases x <;> cases y <;> simp only [vMul, reduceCtorEq] at e
  · rename_i i j
    unfold vMulI at e
    split at e
    · rename_i h
      cases e
      exact .inl ⟨i, j, rep_int.mp ru, rep_int.mp rv, mulOk_of h, q S H _ .refl (rep_int.mpr rfl)⟩
    · cases e
  · rename_i ps k
    split at e
    · rename_i h
      cases e
      exact .inr (s_rep (x := .non) (y := .non) (z := .non) h ru rv fun p xs np r => q _ _ _ (Gro.plus np) (rep_new r np))
    · cases e
theorem n_mulv : OpN K xc rMul fun x y => match x, y with
    | .lst ps, .int k => vMul (.lst ps) (.int k)
    | _, _ => none := by
  intro S H x y z u v Q e ru rv hl q
  cases x <;> cases y <;> simp only [vMul, reduceCtorEq] at e
  rename_i ps k
  split at e
  · rename_i h
    cases e
    exact .inr (s_rep (x := .non) (y := .non) (z := .non) h ru rv fun p xs np r => q _ _ p (Gro.upd np) np (fun z => hl p z np) (ob_new r np) fun a z => z.elim)
  · cases e
/-! #### + -/
def vAdd : PV → PV → Option PV
  | .int i, .int j => some (.int (i + j))
  | .str x, .str y => if x.length + y.length ≤ 1000000 then some (.str (x ++ y)) else none
  | .tup xs, .tup ys => if xs.length + ys.length ≤ 100000 then some (.tup (xs ++ ys)) else none
  | .lst xs, .lst ys => if xs.length + ys.length ≤ 100000 then some (.lst (xs ++ ys)) else none
  | _, _ => none
@[simp] theorem vAdd_int (i j : Int) : vAdd (.int i) (.int j) = some (.int (i + j)) := (rfl)
def rAdd (K : PySem.W.Frag) : R2 := fun x y H Q => (rI0 (fun i j => .int (i + j)) x y H Q ∨ (∃ i j, x = .str i ∧ y = .str j ∧ i.length + j.length ≤ sizeLine ∧ Q (.str (i ++ j)) H)) ∨ (rCatA K x y H Q ∨ rCat x y H Q)
theorem o_add {X : Cx} : OpR X (binaryOp .Add) (rAdd X.K) := (op_add.or op_add_str).or (op_catA.or op_cat)
theorem line_le {n : Nat} (h : n ≤ 1000000) : n ≤ sizeLine := by rw [sizeLine_eq]; omega
theorem s_add : OpS K xc (rAdd K) vAdd := by
  intro S H x y z u v Q e ru rv q
  cases x <;> cases y <;> simp only [vAdd, reduceCtorEq] at e
  · cases e
    exact .inl (.inl ⟨_, _, rep_int.mp ru, rep_int.mp rv, q S H _ .refl (rep_int.mpr rfl)⟩)
  · split at e
    · rename_i h
      cases e
      exact .inl (.inr ⟨_, _, rep_str.mp ru, rep_str.mp rv, line_le h, q S H _ .refl (rep_str.mpr rfl)⟩)
    · cases e
  · rename_i xs ys
    split at e
    · rename_i h
      cases e
      obtain ⟨a, us, rfl, h1, r1⟩ := rep_tup.mp ru
      obtain ⟨b, vs, rfl, h2, r2⟩ := rep_tup.mp rv
      refine .inr (.inl ⟨a, b, us, vs, rfl, rfl, SqT.of h1, SqT.of h2, ?_, fun e => ?_, fun _ e => ?_, fun _ _ p np => ?_⟩)
      · rw [← r1.len, ← r2.len]; exact line_le (by omega)
      · subst e
        have e2 : xs = [] := List.length_eq_zero_iff.mp (by rw [r1.len]; rfl)
        subst e2
        exact q S H _ .refl rv
      · subst e
        have e2 : ys = [] := List.length_eq_zero_iff.mp (by rw [r2.len]; rfl)
        subst e2
        exact q S H _ .refl (by rw [List.append_nil]; exact ru)
      · exact q S _ _ (Gro.upd np) (rep_tup.mpr ⟨p, _, rfl, upd_same, (r1.app r2).kee (Gro.upd np).kee⟩)
    · cases e
  · rename_i xs ys
    split at e
    · rename_i h
      cases e
      obtain ⟨a, us, rfl, _, h1, r1⟩ := rep_lst.mp ru
      obtain ⟨b, vs, rfl, _, h2, r2⟩ := rep_lst.mp rv
      exact .inr (.inr ⟨a, b, us, vs, rfl, rfl, h1, h2, by rw [← r1.len, ← r2.len]; exact line_le (by omega), fun p np => q _ _ _ (Gro.plus np) (rep_new (r1.app r2) np)⟩)
    · cases e
def vCat : PV → PV → Option PV
  | .lst xs, .lst ys => if xs.length + ys.length ≤ 100000 then some (.lst (xs ++ ys)) else none
  | _, _ => none
theorem n_add : OpN K xc (rAdd K) vCat := by
  intro S H x y z u v Q e ru rv hl q
  cases x <;> cases y <;> simp only [vCat, reduceCtorEq] at e
  rename_i xs ys
  split at e
  · rename_i h
    cases e
    obtain ⟨a, us, rfl, _, h1, r1⟩ := rep_lst.mp ru
    obtain ⟨b, vs, rfl, _, h2, r2⟩ := rep_lst.mp rv
    exact .inr (.inr ⟨a, b, us, vs, rfl, rfl, h1, h2, by rw [← r1.len, ← r2.len]; exact line_le (by omega), fun p np => q _ _ p (Gro.upd np) np (fun z => hl p z np) (ob_new (r1.app r2) np) fun a z => z.elim⟩)
  · cases e
end
end L3

namespace L3
open PySem PySem.Spec PyProof.Rows L2
/-! ### == of data -/
mutual
/-- the value as data (what is none counts as nothing) -/
def toD : PV → PyData
  | .non => .none
  | .bl b => .bool b
  | .int i => .int i
  | .str x => .str x
  | .tup ps => .tuple (toDs ps)
  | .lst ps => .list (toDs ps)
  | .ktup ps => .tuple (toDs ps)
  | .scr ns => .list (ns.map .int)
  | _ => .none
def toDs : List PV → List PyData
  | [] => []
  | p :: ps => toD p :: toDs ps
end
mutual
/-- it is data -/
def isD : PV → Bool
  | .non => true
  | .bl _ => true
  | .int _ => true
  | .str x => PyData.strOk x
  | .tup ps => isDs ps
  | .lst ps => isDs ps
  | .ktup ps => isDs ps
  | .scr _ => true
  | _ => false
def isDs : List PV → Bool
  | [] => true
  | p :: ps => isD p && isDs ps
end
mutual
def dep : PV → Nat
  | .tup ps => deps ps + 1
  | .lst ps => deps ps + 1
  | .ktup ps => deps ps + 1
  | .scr _ => 1
  | _ => 0
def deps : List PV → Nat
  | [] => 0
  | p :: ps => max (dep p) (deps ps)
end
def isC (v : PV) : Bool := isD v && decide (dep v ≤ 64)
section
variable {K : PySem.W.Frag} {xc : Xc} {S : Addr → Prop} {H : Hp}
theorem dp_ints : ∀ ns : List Int, DpAll K H (ns.map V.int) (ns.map PyData.int)
  | [] => .nil
  | n :: ns => .cons (.int n) (dp_ints ns)
mutual
theorem Rep.dp : ∀ {v : PV} {u : V}, isD v = true → Rep K xc S H v u → Dp K H u (toD v)
  | .non, _, _, r => by rw [rep_non.mp r]; exact .non
  | .bl b, _, _, r => by rw [rep_bl.mp r]; exact .bl b
  | .int i, _, _, r => by rw [rep_int.mp r]; exact .int i
  | .str x, _, _, r => by rw [rep_str.mp r]; exact .str x
  | .tup ps, _, h, r => by
    obtain ⟨a, xs, rfl, h1, h2⟩ := rep_tup.mp r
    exact .tup (SqT.of h1) (RepL.dp (by simpa [isD] using h) h2)
  | .lst ps, _, h, r => by
    obtain ⟨a, xs, rfl, _, h1, h2⟩ := rep_lst.mp r
    exact .lst (SqL.of h1) (RepL.dp (by simpa [isD] using h) h2)
  | .ktup ps, _, h, r => by
    obtain ⟨a, xs, rfl, h1, h2⟩ := rep_ktup.mp r
    exact .tup (.inr h1) (RepL.dp (by simpa [isD] using h) h2)
  | .scr ns, _, h, r => by
    obtain ⟨a, rfl, h1⟩ := rep_scr.mp r
    exact .lst h1.sq (dp_ints ns)
  | .dk _ _, _, h, _ => by simp [isD] at h
  | .dt _ _, _, h, _ => by simp [isD] at h
  | .mat _, _, h, _ => by simp [isD] at h
  | .desk _ _, _, h, _ => by simp [isD] at h
  | .exc _, _, h, _ => by simp [isD] at h
  | .ty _, _, h, _ => by simp [isD] at h
  | .cls _, _, h, _ => by simp [isD] at h
theorem RepL.dp : ∀ {ps : List PV} {xs : List V}, isDs ps = true → RepL K xc S H ps xs → DpAll K H xs (toDs ps)
  | [], _, _, r => by rw [RepL.nil.mp r]; exact .nil
  | p :: ps, _, h, r => by
    obtain ⟨x, t, rfl, h1, h2⟩ := RepL.cons.mp r
    have h' : isD p = true ∧ isDs ps = true := by simpa [isDs] using h
    exact .cons (Rep.dp h'.1 h1) (RepL.dp h'.2 h2)
end
end
theorem can_ints : ∀ ns : List Int, PyData.canLayAll0 (ns.map PyData.int) = true
  | [] => rfl
  | n :: ns => by
    show (PyData.canLay0 (.int n) && PyData.canLayAll0 (ns.map PyData.int)) = true
    rw [can_ints ns]; rfl
theorem dep_ints : ∀ ns : List Int, PyData.depthAll (ns.map PyData.int) = 0
  | [] => rfl
  | n :: ns => by
    show max 0 (PyData.depthAll (ns.map PyData.int)) = 0
    rw [dep_ints ns]; rfl
mutual
theorem can_D : ∀ v : PV, isD v = true → PyData.canLay0 (toD v) = true
  | .non, _ => rfl
  | .bl b, _ => rfl
  | .int i, _ => rfl
  | .str x, h => by simpa [toD, PyData.canLay0, isD] using h
  | .tup ps, h => by simpa [toD, PyData.canLay0] using can_Ds ps (by simpa [isD] using h)
  | .lst ps, h => by simpa [toD, PyData.canLay0] using can_Ds ps (by simpa [isD] using h)
  | .ktup ps, h => by simpa [toD, PyData.canLay0] using can_Ds ps (by simpa [isD] using h)
  | .scr ns, h => by simpa [toD, PyData.canLay0] using can_ints ns
  | .dk _ _, h => by simp [isD] at h
  | .dt _ _, h => by simp [isD] at h
  | .mat _, h => by simp [isD] at h
  | .desk _ _, h => by simp [isD] at h
  | .exc _, h => by simp [isD] at h
  | .ty _, h => by simp [isD] at h
  | .cls _, h => by simp [isD] at h
theorem can_Ds : ∀ ps : List PV, isDs ps = true → PyData.canLayAll0 (toDs ps) = true
  | [], _ => rfl
  | p :: ps, h => by
    have h' : isD p = true ∧ isDs ps = true := by simpa [isDs] using h
    show (PyData.canLay0 (toD p) && PyData.canLayAll0 (toDs ps)) = true
    rw [can_D p h'.1, can_Ds ps h'.2]; rfl
end
mutual
theorem dep_D : ∀ v : PV, isD v = true → PyData.depth (toD v) = dep v
  | .non, _ => rfl
  | .bl b, _ => rfl
  | .int i, _ => rfl
  | .str x, h => rfl
  | .tup ps, h => by simp [toD, PyData.depth, dep, dep_Ds ps (by simpa [isD] using h)]
  | .lst ps, h => by simp [toD, PyData.depth, dep, dep_Ds ps (by simpa [isD] using h)]
  | .ktup ps, h => by simp [toD, PyData.depth, dep, dep_Ds ps (by simpa [isD] using h)]
  | .scr ns, h => by simp [toD, PyData.depth, dep, dep_ints]
  | .dk _ _, h => by simp [isD] at h
  | .dt _ _, h => by simp [isD] at h
  | .mat _, h => by simp [isD] at h
  | .desk _ _, h => by simp [isD] at h
  | .exc _, h => by simp [isD] at h
  | .ty _, h => by simp [isD] at h
  | .cls _, h => by simp [isD] at h
theorem dep_Ds : ∀ ps : List PV, isDs ps = true → PyData.depthAll (toDs ps) = deps ps
  | [], _ => rfl
  | p :: ps, h => by
    have h' : isD p = true ∧ isDs ps = true := by simpa [isDs] using h
    show max (PyData.depth (toD p)) (PyData.depthAll (toDs ps)) = max (dep p) (deps ps)
    rw [dep_D p h'.1, dep_Ds ps h'.2]
end
theorem shaped_C {v : PV} (h : isC v = true) : SeqAt.shaped (toD v) = true := by
  unfold isC at h
  rw [Bool.and_eq_true, decide_eq_true_eq] at h
  unfold SeqAt.shaped
  rw [can_D v h.1, dep_D v h.1, Bool.true_and, decide_eq_true_eq]
  exact h.2
def vEq (x y : PV) : Option PV := if isC x = true ∧ isC y = true then some (.bl (PyData.eqv (toD x) (toD y))) else none
def vNe (x y : PV) : Option PV := if isC x = true ∧ isC y = true then some (.bl (!PyData.eqv (toD x) (toD y))) else none
/-- x in a list -/
def vIn (x y : PV) : Option PV := match items y with
  | some ps => if isC x = true ∧ isC (.lst ps) = true then some (.bl ((toDs ps).any fun z => PyData.eqv z (toD x))) else none
  | none => none
def isTup : PV → Bool
  | .tup _ => true
  | .ktup _ => true
  | _ => false
section
variable {K : PySem.W.Frag} {xc : Xc}
theorem isD_of {v : PV} (h : isC v = true) : isD v = true := by
  unfold isC at h
  rw [Bool.and_eq_true] at h
  exact h.1
theorem s_eq : OpS K xc (rEqD K) vEq := by
  intro S H x y z u v Q e ru rv q
  unfold vEq at e
  split at e
  · rename_i h
    cases e
    exact ⟨_, _, ru.dp (isD_of h.1), rv.dp (isD_of h.2), shaped_C h.1, shaped_C h.2, q S H _ .refl (rep_bl.mpr rfl)⟩
  · cases e
theorem s_ne : OpS K xc (rNeD K) vNe := by
  intro S H x y z u v Q e ru rv q
  unfold vNe at e
  split at e
  · rename_i h
    cases e
    exact ⟨_, _, ru.dp (isD_of h.1), rv.dp (isD_of h.2), shaped_C h.1, shaped_C h.2, q S H _ .refl (rep_bl.mpr rfl)⟩
  · cases e
/-! #### is None, is True -/
def vIs : PV → PV → Option PV
  | .non, .non => some (.bl true)
  | .bl a, .bl b => some (.bl (a == b))
  | .mat _, _ => none
  | .desk _ _, _ => none
  | .ty _, .ty _ => none
  | .cls _, .cls _ => none
  | _, .non => some (.bl false)
  | .non, .bl _ => none
  | _, _ => none
def vIsNot (x y : PV) : Option PV := match vIs x y with
  | some (.bl b) => some (.bl !b)
  | _ => none
def rIs : R2 := fun x y H Q => (y = .non ∧ Q (.bl (decide (x = .non))) H) ∨ rIsB x y H Q
def rIsNot : R2 := fun x y H Q => (y = .non ∧ Q (.bl (!decide (x = .non))) H) ∨ rNotB x y H Q
theorem o_is {X : Cx} : OpR X (compareOp .Is) rIs := op_isN.or op_isBl
theorem o_isnot {X : Cx} : OpR X (compareOp .IsNot) rIsNot := op_notN.or op_notBl
theorem rep_notnon {S : Addr → Prop} {H : Hp} {x : PV} {u : V} (h : Rep K xc S H x u) (hx : x ≠ .non) : u ≠ .non := by
  intro e
  subst e
  cases x <;> unfold Rep at h
  case non => exact hx rfl
  all_goals first | (cases h; done) | (obtain ⟨_, _, z, _⟩ := h; cases z; done) | (obtain ⟨_, z, _⟩ := h; cases z; done) | exact h.elim
theorem vIs_cases {x y z : PV} (e : vIs x y = some z) : (y = .non ∧ ((x = .non ∧ z = .bl true) ∨ (x ≠ .non ∧ z = .bl false))) ∨ ∃ a b, x = .bl a ∧ y = .bl b ∧ z = .bl (a == b) := by
  cases x <;> cases y <;> simp [vIs] at e <;> subst e <;> first | exact .inl ⟨rfl, .inl ⟨rfl, rfl⟩⟩ | exact .inl ⟨rfl, .inr ⟨by simp, rfl⟩⟩ | exact .inr ⟨_, _, rfl, rfl, rfl⟩
theorem s_is : OpS K xc rIs vIs := by
  intro S H x y z u v Q e ru rv q
  rcases vIs_cases e with ⟨rfl, ⟨rfl, rfl⟩ | ⟨hx, rfl⟩⟩ | ⟨a, b, rfl, rfl, rfl⟩
  · refine .inl ⟨rep_non.mp rv, ?_⟩
    rw [rep_non.mp ru]
    exact q S H _ .refl (rep_bl.mpr rfl)
  · refine .inl ⟨rep_non.mp rv, ?_⟩
    rw [decide_eq_false (rep_notnon ru hx)]
    exact q S H _ .refl (rep_bl.mpr rfl)
  · refine .inr ⟨a, b, rep_bl.mp ru, rep_bl.mp rv, ?_⟩
    exact q S H _ .refl (rep_bl.mpr (by congr 1))
theorem s_isnot : OpS K xc rIsNot vIsNot := by
  intro S H x y z u v Q e ru rv q
  unfold vIsNot at e
  cases h : vIs x y with
  | none => rw [h] at e; cases e
  | some w =>
    rw [h] at e
    rcases vIs_cases h with ⟨rfl, ⟨rfl, rfl⟩ | ⟨hx, rfl⟩⟩ | ⟨a, b, rfl, rfl, rfl⟩
    · cases e
      refine .inl ⟨rep_non.mp rv, ?_⟩
      rw [rep_non.mp ru]
      exact q S H _ .refl (rep_bl.mpr rfl)
    · cases e
      refine .inl ⟨rep_non.mp rv, ?_⟩
      rw [decide_eq_false (rep_notnon ru hx)]
      exact q S H _ .refl (rep_bl.mpr rfl)
    · cases e
      refine .inr ⟨a, b, rep_bl.mp ru, rep_bl.mp rv, ?_⟩
      exact q S H _ .refl (rep_bl.mpr (by congr 2))
end
end L3

namespace L3
open PySem PySem.Spec PyProof.Rows L2
/-! ### in, subscripts, slices -/
section
variable {K : PySem.W.Frag} {xc : Xc}
/-- a flat value: no object -/
def flt : PV → Bool
  | .non => true
  | .bl _ => true
  | .int _ => true
  | .str _ => true
  | _ => false
def eqF : PV → PV → Bool
  | .non, .non => true
  | .bl a, .bl b => a == b
  | .bl a, .int b => (if a then 1 else 0) == b
  | .int a, .bl b => a == (if b then 1 else 0)
  | .int a, .int b => a == b
  | .str a, .str b => a == b
  | _, _ => false
theorem flt_V {S : Addr → Prop} {H : Hp} {x : PV} {u : V} (h : flt x = true) (r : Rep K xc S H x u) : flatV u = true := by
  cases x <;> simp [flt] at h
  · rw [rep_non.mp r]; rfl
  · rw [rep_bl.mp r]; rfl
  · rw [rep_int.mp r]; rfl
  · rw [rep_str.mp r]; rfl
theorem eqF_V {S : Addr → Prop} {H : Hp} {x y : PV} {u v : V} (h : flt x = true) (h' : flt y = true) (r : Rep K xc S H x u) (r' : Rep K xc S H y v) : eqV u v = eqF x y := by
  cases x <;> simp [flt] at h <;> cases y <;> simp [flt] at h' <;> (first | rw [rep_non.mp r] | rw [rep_bl.mp r] | rw [rep_int.mp r] | rw [rep_str.mp r]) <;>
    (first | rw [rep_non.mp r'] | rw [rep_bl.mp r'] | rw [rep_int.mp r'] | rw [rep_str.mp r']) <;> rfl
theorem flts_V {S : Addr → Prop} {H : Hp} : ∀ {ps : List PV} {xs : List V}, ps.all flt = true → RepL K xc S H ps xs → xs.all flatV = true
  | [], _, _, r => by rw [RepL.nil.mp r]; rfl
  | p :: ps, _, h, r => by
    obtain ⟨x, t, rfl, h1, h2⟩ := RepL.cons.mp r
    rw [List.all_cons, Bool.and_eq_true] at h ⊢
    exact ⟨flt_V h.1 h1, flts_V h.2 h2⟩
theorem anyF_V {S : Addr → Prop} {H : Hp} {x : PV} {u : V} (hx : flt x = true) (rx : Rep K xc S H x u) : ∀ {ps : List PV} {xs : List V}, ps.all flt = true → RepL K xc S H ps xs → inV u xs = ps.any fun y => eqF y x
  | [], _, _, r => by rw [RepL.nil.mp r]; rfl
  | p :: ps, _, h, r => by
    obtain ⟨y, t, rfl, h1, h2⟩ := RepL.cons.mp r
    rw [List.all_cons, Bool.and_eq_true] at h
    show (eqV y u || inV u t) = _
    rw [List.any_cons, anyF_V hx rx h.2 h2, eqF_V h.1 hx h1 rx]
/-- x in y: a sign in a text, a flat value in a sequence, data in a list -/
def vInB (x y : PV) : Option Bool := match y with
  | .str z => match x with
    | .str c => if c.length = 1 then some (decide (c.cps.getD 0 0 ∈ z.cps.toList)) else none
    | _ => none
  | _ => match items y with
    | some ps => if flt x = true ∧ ps.all flt = true then some (ps.any fun y => eqF y x)
      else match y with
        | .lst _ => if isC x = true ∧ isC y = true then some ((toDs ps).any fun z => PyData.eqv z (toD x)) else none
        | _ => none
    | none => none
def vInV (x y : PV) : Option PV := (vInB x y).map PV.bl
def vNotInV (x y : PV) : Option PV := (vInB x y).map fun b => PV.bl !b
def rInA (K : PySem.W.Frag) : R2 := fun x y H Q => ((∃ (c : Nat) (z : Str), x = .str ⟨#[c]⟩ ∧ y = .str z ∧ Q (.bl (decide (c ∈ z.cps.toList))) H) ∨ rIn K false x y H Q) ∨ rInD K x y H Q
def rNotInA (K : PySem.W.Frag) : R2 := fun x y H Q => ((∃ (c : Nat) (z : Str), x = .str ⟨#[c]⟩ ∧ y = .str z ∧ Q (.bl (!decide (c ∈ z.cps.toList))) H) ∨ rIn K true x y H Q) ∨ rNotInD K x y H Q
theorem o_in {X : Cx} (hu : X.A.units + 65 < cLine) : OpR X (compareOp .In) (rInA X.K) := (op_in_sign.or op_in_seq).or (op_inD hu)
theorem o_notin {X : Cx} (hu : X.A.units + 65 < cLine) : OpR X (compareOp .NotIn) (rNotInA X.K) := (op_notIn_sign.or op_notIn_seq).or (op_notInD hu)
theorem str_one {c : Str} (h : c.length = 1) : c = ⟨#[c.cps.getD 0 0]⟩ := by
  obtain ⟨a⟩ := c
  have h' : a.size = 1 := h
  congr 1
  apply Array.ext
  · rw [h']; rfl
  · intro i h1 h2
    have : i = 0 := by omega
    subst this
    simp [h']
/-- the three ways of in -/
theorem inB_cases {S : Addr → Prop} {H : Hp} {x y : PV} {b : Bool} {u v : V} (e : vInB x y = some b) (ru : Rep K xc S H x u) (rv : Rep K xc S H y v) :
    (∃ (c : Nat) (z : Str), u = .str ⟨#[c]⟩ ∧ v = .str z ∧ decide (c ∈ z.cps.toList) = b) ∨ (∃ p xs, v = .ref p ∧ (SqL K H p xs ∨ SqT K H p xs) ∧ flatV u = true ∧ xs.all flatV = true ∧ inV u xs = b) ∨
    ∃ d ds, Dp K H u d ∧ Dp K H v (.list ds) ∧ SeqAt.shaped d = true ∧ SeqAt.shaped (.list ds) = true ∧ (ds.any fun z => PyData.eqv z d) = b := by
  have gen : ∀ {ps : List PV}, items y = some ps → (if flt x = true ∧ ps.all flt = true then some (ps.any fun y => eqF y x)
      else match y with
        | .lst _ => if isC x = true ∧ isC y = true then some ((toDs ps).any fun z => PyData.eqv z (toD x)) else none
        | _ => none) = some b → (∃ p xs, v = .ref p ∧ (SqL K H p xs ∨ SqT K H p xs) ∧ flatV u = true ∧ xs.all flatV = true ∧ inV u xs = b) ∨
    ∃ d ds, Dp K H u d ∧ Dp K H v (.list ds) ∧ SeqAt.shaped d = true ∧ SeqAt.shaped (.list ds) = true ∧ (ds.any fun z => PyData.eqv z d) = b := by
    intro ps hi e
    split at e
    · rename_i h
      cases e
      obtain ⟨a, xs, rfl, hq, hr⟩ := rv.items hi
      exact .inl ⟨a, xs, rfl, hq, flt_V h.1 ru, flts_V h.2 hr, anyF_V h.1 ru h.2 hr⟩
    · cases y with
      | lst qs =>
        cases hi
        dsimp only at e
        split at e
        · rename_i h
          cases e
          exact .inr ⟨_, toDs ps, ru.dp (isD_of h.1), rv.dp (isD_of h.2), shaped_C h.1, shaped_C h.2, rfl⟩
        · cases e
      | _ => cases e
  unfold vInB at e
  cases y with
  | str z =>
    cases x with
    | str c =>
      dsimp only at e
      split at e
      · rename_i h
        cases e
        refine .inl ⟨c.cps.getD 0 0, z, ?_, rep_str.mp rv, rfl⟩
        rw [rep_str.mp ru, ← str_one h]
      · cases e
    | _ => cases e
  | lst ps => exact .inr (gen rfl e)
  | tup ps => exact .inr (gen rfl e)
  | ktup ps => exact .inr (gen rfl e)
  | scr ns => exact .inr (gen rfl e)
  | _ => cases e
theorem s_in : OpS K xc (rInA K) vInV := by
  intro S H x y z u v Q e ru rv q
  unfold vInV at e
  cases h : vInB x y with
  | none => rw [h] at e; cases e
  | some b =>
    rw [h] at e
    cases e
    rcases inB_cases h ru rv with ⟨c, z, h1, h2, h3⟩ | ⟨p, xs, h1, h2, h3, h4, h5⟩ | ⟨d, ds, h1, h2, h3, h4, h5⟩
    · exact .inl (.inl ⟨c, z, h1, h2, by rw [h3]; exact q S H _ .refl (rep_bl.mpr rfl)⟩)
    · exact .inl (.inr ⟨p, xs, h1, h2, h3, h4, by rw [if_neg (by decide), h5]; exact q S H _ .refl (rep_bl.mpr rfl)⟩)
    · exact .inr ⟨d, ds, h1, h2, h3, h4, by rw [h5]; exact q S H _ .refl (rep_bl.mpr rfl)⟩
theorem s_notin : OpS K xc (rNotInA K) vNotInV := by
  intro S H x y z u v Q e ru rv q
  unfold vNotInV at e
  cases h : vInB x y with
  | none => rw [h] at e; cases e
  | some b =>
    rw [h] at e
    cases e
    rcases inB_cases h ru rv with ⟨c, z, h1, h2, h3⟩ | ⟨p, xs, h1, h2, h3, h4, h5⟩ | ⟨d, ds, h1, h2, h3, h4, h5⟩
    · exact .inl (.inl ⟨c, z, h1, h2, by rw [h3]; exact q S H _ .refl (rep_bl.mpr rfl)⟩)
    · exact .inl (.inr ⟨p, xs, h1, h2, h3, h4, by rw [if_pos rfl, h5]; exact q S H _ .refl (rep_bl.mpr rfl)⟩)
    · exact .inr ⟨d, ds, h1, h2, h3, h4, by rw [h5]; exact q S H _ .refl (rep_bl.mpr rfl)⟩
/-! #### x[i] -/
def vIx (x i : PV) : Option PV := match i with
  | .int n => match x with
    | .str z => if z.length ≤ 1000000 then (atI z.cps.toList n).map fun c => PV.str ⟨#[c]⟩ else none
    | _ => (items x).bind fun ps => atI ps n
  | _ => none
theorem RepL.at {S : Addr → Prop} {H : Hp} {ps : List PV} {xs : List V} {n : Int} {p : PV} (r : RepL K xc S H ps xs) (h : atI ps n = some p) : ∃ u, atI xs n = some u ∧ Rep K xc S H p u := by
  unfold atI at h ⊢
  rw [← r.len]
  cases e : ixN ps.length n with
  | none => rw [e] at h; cases h
  | some j =>
    rw [e] at h
    exact r.get h
theorem s_ix : OpS K xc (rIx K) vIx := by
  intro S H x y z u v Q e ru rv q
  unfold vIx at e
  cases y with
  | int n =>
    have hv := rep_int.mp rv
    have gen : ∀ {ps : List PV}, items x = some ps → atI ps n = some z → rIx K u v H Q := by
      intro ps hi h
      obtain ⟨a, xs, rfl, hq, hr⟩ := ru.items hi
      obtain ⟨w, h1, h2⟩ := hr.at h
      rcases hq with hq | hq
      · exact .inl ⟨a, xs, n, w, rfl, hv, hq, h1, q S H _ .refl h2⟩
      · exact .inr (.inl ⟨a, xs, n, w, rfl, hv, hq, h1, q S H _ .refl h2⟩)
    cases x with
    | str t =>
      dsimp only at e
      split at e
      · rename_i hz
        cases h : atI t.cps.toList n with
        | none => rw [h] at e; cases e
        | some c =>
          rw [h] at e
          cases e
          exact .inr (.inr ⟨t, n, c, rep_str.mp ru, hv, line_le hz, h, q S H _ .refl (rep_str.mpr rfl)⟩)
      · cases e
    | lst ps => exact gen rfl e
    | tup ps => exact gen rfl e
    | ktup ps => exact gen rfl e
    | scr ns => exact gen rfl e
    | _ => cases e
  | _ => cases e
/-! #### x[lo:hi] -/
def cut {α : Type} (xs : List α) (lo hi : Option Int) : List α := (xs.drop (HT.sIx xs.length 0 lo)).take (HT.sIx xs.length xs.length hi - HT.sIx xs.length 0 lo)
theorem RepL.cut {S : Addr → Prop} {H : Hp} {ps : List PV} {xs : List V} (r : RepL K xc S H ps xs) (lo hi : Option Int) : RepL K xc S H (L3.cut ps lo hi) (cutV xs lo hi) := by
  unfold L3.cut cutV
  rw [← r.len]
  exact (r.drop _).take _
def vSl (x : PV) (lo hi : Option Int) : Option PV := match x with
  | .str z => if z.length ≤ 1000000 then some (.str (cutS z lo hi)) else none
  | .lst ps => some (.lst (cut ps lo hi))
  | .tup ps => some (.tup (cut ps lo hi))
  | _ => none
def rSl (K : PySem.W.Frag) : V → Option Int → Option Int → Hp → VK → Prop := fun x lo hi H Q => (rSlS x lo hi H Q ∨ rSlL K x lo hi H Q) ∨ rSlA K x lo hi H Q
theorem o_sl {X : Cx} : SlR X (rSl X.K) := (sl_str.or sl_list).or sl_tupA
theorem s_sl {S : Addr → Prop} {H : Hp} {x z : PV} {lo hi : Option Int} {u : V} {Q : VK} (e : vSl x lo hi = some z) (ru : Rep K xc S H x u) (q : ∀ S' H' w, Gro S H S' H' → Rep K xc S' H' z w → Q w H') : rSl K u lo hi H Q := by
  cases x with
  | str t =>
    unfold vSl at e
    dsimp only at e
    split at e
    · rename_i hz
      cases e
      exact .inl (.inl ⟨t, rep_str.mp ru, line_le hz, q S H _ .refl (rep_str.mpr rfl)⟩)
    · cases e
  | lst ps =>
    cases e
    obtain ⟨a, xs, rfl, _, h1, h2⟩ := rep_lst.mp ru
    exact .inl (.inr ⟨a, xs, rfl, SqL.of h1, fun p np => q _ _ _ (Gro.plus np) (rep_new (h2.cut lo hi) np)⟩)
  | tup ps =>
    cases e
    obtain ⟨a, xs, rfl, h1, h2⟩ := rep_tup.mp ru
    refine .inr ⟨a, xs, rfl, SqT.of h1, fun hw => ?_, fun _ p np => q S _ _ (Gro.upd np) (rep_tup.mpr ⟨p, _, rfl, upd_same, (h2.cut lo hi).kee (Gro.upd np).kee⟩)⟩
    have e : L3.cut ps lo hi = ps := by
      unfold L3.cut
      rw [h2.len, hw.1, hw.2, List.drop_zero, Nat.sub_zero, ← h2.len, List.take_length]
    rw [e] at q
    exact q S H _ .refl ru
  | _ => cases e
theorem n_sl {S : Addr → Prop} {H : Hp} {ps : List PV} {lo hi : Option Int} {u : V} {Q : VK} (ru : Rep K xc S H (.lst ps) u) (hl : ∀ a, S a → H a ≠ none)
    (q : ∀ S' H' p, Gro S H S' H' → H p = none → ¬ S' p → Ob K xc S' H' (.lst (cut ps lo hi)) p → (∀ a, Sub H' (.lst (cut ps lo hi)) p a → H a = none ∧ ¬ S' a) → Q (.ref p) H') : rSl K u lo hi H Q := by
  obtain ⟨a, xs, rfl, _, h1, h2⟩ := rep_lst.mp ru
  exact .inl (.inr ⟨a, xs, rfl, SqL.of h1, fun p np => q _ _ p (Gro.upd np) np (fun z => hl p z np) (ob_new (h2.cut lo hi) np) fun a z => z.elim⟩)
end
/-! #### the parts of a slice -/
def SimO (C : Ctx) (t : TO) (f : Gm → R (Option Int)) : Prop := ∀ S σ H g (Q : Option Int → Hp → Prop), Sta C S σ H g → (match f g with
  | .ok o => ∀ S' H', Gro S H S' H' → Q o H'
  | .err x _ => PostPX C S σ H x
  | .stuck => False) → t σ H Q
def OX {ι : Type} (X : ι → Cx) (C : Ctx) (e : Option Expr) (f : Gm → R (Option Int)) : Prop := ∃ t, (∀ i, PO (X i) e t) ∧ SimO C t f
def asI : PV → Option Int
  | .int i => some i
  | _ => none
@[simp] theorem asI_int (i : Int) : asI (.int i) = some i := (rfl)
theorem of_asI {v : PV} {b : Int} (h : asI v = some b) : v = .int b := by
  cases v <;> simp [asI] at h
  rw [h]
def oNo : Gm → R (Option Int) := fun _ => .ok none
def oSo (f : PF) : Gm → R (Option Int) := fun g => (f g).bind fun v => (R.of (asI v)).bind fun i => .ok (some i)
def pSl (f : PF) (lo hi : Gm → R (Option Int)) : PF := fun g => (f g).bind fun v => (lo g).bind fun l => (hi g).bind fun h => R.of (vSl v l h)
def nSl (f : PF) (lo hi : Gm → R (Option Int)) : PF := fun g => (f g).bind fun v => (lo g).bind fun l => (hi g).bind fun h => match v with
  | .lst ps => .ok (.lst (cut ps l h))
  | _ => .stuck
section
variable {ι : Type} {X : ι → Cx} {C : Ctx} {e a b : Expr} {f fa fb : PF} {pos p2 : Pos} {lo hi : Option Expr} {fl fh : Gm → R (Option Int)}
theorem o_no : OX X C none oNo := ⟨tNoPart, fun _ => po_none, fun S σ H g Q _ q => q S H .refl⟩
theorem o_so (h : PX X C e f) : OX X C (some e) (oSo f) := by
  obtain ⟨t, p, s⟩ := h
  refine ⟨tPart t, fun i => po_some (p i), fun S σ H g Q st q => ?_⟩
  unfold oSo at q
  refine s S σ H g _ st ?_
  match e1 : f g, q with
  | .stuck, q => exact q
  | .err x g', q => exact q
  | .ok v, q =>
    rw [R.bind_ok] at q
    match e2 : asI v, q with
    | none, q => exact q.elim
    | some i, q =>
      intro S1 H1 u k r
      rw [of_asI e2] at r
      exact ⟨i, rep_int.mp r, q S1 H1 k⟩
theorem p_ix (hK : ∀ i, (X i).K = C.K) (ha : PX X C a fa) (hb : PX X C b fb) (hs : PlainIx b) : PX X C (.Subscript a b pos) (pOp vIx fa fb) := by
  obtain ⟨ta, pa, sa⟩ := ha
  obtain ⟨tb, pb, sb⟩ := hb
  refine ⟨tOp (rIx C.K) ta tb, fun i => pe_ix (by rw [← hK i]; exact ix_seq) (pa i) (pb i) hs, fun S σ H g Q st hp => ?_⟩
  refine SimP.bind2 sa sb st hp fun x y u v S2 H2 k s2 ru rv q => ?_
  match e : vIx x y, q with
  | none, q => exact q.elim
  | some z, q => exact s_ix S2 H2 x y z u v Q e ru rv fun S' H' w k' rw' => q S' H' w k' rw'
theorem p_sl (hK : ∀ i, (X i).K = C.K) (ha : PX X C a fa) (hl : OX X C lo fl) (hh : OX X C hi fh) : PX X C (.Subscript a (.Slice lo hi none p2) pos) (pSl fa fl fh) := by
  obtain ⟨ta, pa, sa⟩ := ha
  obtain ⟨tl, pl, sl⟩ := hl
  obtain ⟨th, ph, sh⟩ := hh
  refine ⟨tSl (rSl C.K) ta tl th, fun i => pe_slice (by rw [← hK i]; exact o_sl) (pa i) (pl i) (ph i), fun S σ H g Q st hp => ?_⟩
  refine SimP.bind1 sa st hp fun x u S1 H1 k1 s1 ru q => ?_
  refine sl S1 σ H1 g _ s1 ?_
  match e1 : fl g, q with
  | .stuck, q => exact q
  | .err x g', q => exact q
  | .ok l, q =>
    rw [R.bind_ok] at q
    intro S2 H2 k2
    refine sh S2 σ H2 g _ (s1.gro k2) ?_
    match e2 : fh g, q with
    | .stuck, q => exact q
    | .err x g', q => exact PostPX.on k2 q
    | .ok h, q =>
      rw [R.bind_ok] at q
      intro S3 H3 k3
      match e3 : vSl x l h, q with
      | none, q => exact q.elim
      | some z, q => exact s_sl e3 (ru.kee (k2.trans k3).kee) fun S' H' w k' r' => q S' H' w ((k2.trans k3).trans k') r'
theorem n_slice (hK : ∀ i, (X i).K = C.K) (ha : PX X C a fa) (hl : OX X C lo fl) (hh : OX X C hi fh) : NX X C (.Subscript a (.Slice lo hi none p2) pos) (nSl fa fl fh) := by
  obtain ⟨ta, pa, sa⟩ := ha
  obtain ⟨tl, pl, sl⟩ := hl
  obtain ⟨th, ph, sh⟩ := hh
  refine ⟨tSl (rSl C.K) ta tl th, fun i => pe_slice (by rw [← hK i]; exact o_sl) (pa i) (pl i) (ph i), fun S σ H g Q st hp => ?_⟩
  unfold nSl at hp
  refine sa S σ H g _ st ?_
  match e1 : fa g, hp with
  | .stuck, q => exact q
  | .err x g', q => exact q
  | .ok x, q =>
    rw [R.bind_ok] at q
    intro S1 H1 u k1 ru
    refine sl S1 σ H1 g _ (st.gro k1) ?_
    match e1 : fl g, q with
    | .stuck, q => exact q
    | .err x g', q => exact PostPX.on k1 q
    | .ok l, q =>
      rw [R.bind_ok] at q
      intro S2 H2 k2
      refine sh S2 σ H2 g _ (st.gro (k1.trans k2)) ?_
      match e2 : fh g, q with
      | .stuck, q => exact q
      | .err x g', q => exact PostPX.on (k1.trans k2) q
      | .ok h, q =>
        rw [R.bind_ok] at q
        intro S3 H3 k3
        have k := (k1.trans k2).trans k3
        cases x with
        | lst ps => exact n_sl (ru.kee (k2.trans k3).kee) (st.gro k).live fun S' H' p k' np ns o sb => q S' H' p (k.trans k') (k.same.free np) ns o fun a z => z.elim
        | _ => exact q.elim
end
end L3

namespace L3
open PySem PySem.Spec PyProof.Rows L2
/-! ### calls of built-ins -/
def asInts : List PV → Option (List Int)
  | [] => some []
  | .int i :: ps => (asInts ps).map (i :: ·)
  | _ :: _ => none
@[simp] theorem asInts_map : ∀ ns : List Int, asInts (ns.map PV.int) = some ns
  | [] => rfl
  | n :: ns => by
    show (asInts (ns.map PV.int)).map (n :: ·) = _
    rw [asInts_map ns]; rfl
theorem of_asInts : ∀ {ps : List PV} {ns : List Int}, asInts ps = some ns → ps = ns.map PV.int
  | [], ns, h => by cases h; rfl
  | p :: ps, ns, h => by
    cases p with
    | int i =>
      have h' : (asInts ps).map (i :: ·) = some ns := h
      cases e : asInts ps with
      | none => rw [e] at h'; cases h'
      | some ms => rw [e] at h'; cases h'; rw [of_asInts e]; rfl
    | _ => cases h
def asBls : List PV → Option (List Bool)
  | [] => some []
  | .bl i :: ps => (asBls ps).map (i :: ·)
  | _ :: _ => none
@[simp] theorem asBls_map : ∀ ns : List Bool, asBls (ns.map PV.bl) = some ns
  | [] => rfl
  | n :: ns => by
    show (asBls (ns.map PV.bl)).map (n :: ·) = _
    rw [asBls_map ns]; rfl
theorem of_asBls : ∀ {ps : List PV} {ns : List Bool}, asBls ps = some ns → ps = ns.map PV.bl
  | [], ns, h => by cases h; rfl
  | p :: ps, ns, h => by
    cases p with
    | bl i =>
      have h' : (asBls ps).map (i :: ·) = some ns := h
      cases e : asBls ps with
      | none => rw [e] at h'; cases h'
      | some ms => rw [e] at h'; cases h'; rw [of_asBls e]; rfl
    | _ => cases h
def asSts : List PV → Option (List Str)
  | [] => some []
  | .str i :: ps => (asSts ps).map (i :: ·)
  | _ :: _ => none
@[simp] theorem asSts_map : ∀ ns : List Str, asSts (ns.map PV.str) = some ns
  | [] => rfl
  | n :: ns => by
    show (asSts (ns.map PV.str)).map (n :: ·) = _
    rw [asSts_map ns]; rfl
theorem of_asSts : ∀ {ps : List PV} {ns : List Str}, asSts ps = some ns → ps = ns.map PV.str
  | [], ns, h => by cases h; rfl
  | p :: ps, ns, h => by
    cases p with
    | str i =>
      have h' : (asSts ps).map (i :: ·) = some ns := h
      cases e : asSts ps with
      | none => rw [e] at h'; cases h'
      | some ms => rw [e] at h'; cases h'; rw [of_asSts e]; rfl
    | _ => cases h
section
variable {K : PySem.W.Frag} {xc : Xc} {S : Addr → Prop} {H : Hp}
theorem RepL.ints : ∀ {ns : List Int} {xs : List V}, RepL K xc S H (ns.map PV.int) xs → xs = ns.map V.int
  | [], _, r => RepL.nil.mp r
  | n :: ns, _, r => by
    obtain ⟨x, t, rfl, h1, h2⟩ := RepL.cons.mp r
    rw [rep_int.mp h1, RepL.ints h2]; rfl
theorem RepL.bls : ∀ {ns : List Bool} {xs : List V}, RepL K xc S H (ns.map PV.bl) xs → xs = ns.map V.bl
  | [], _, r => RepL.nil.mp r
  | n :: ns, _, r => by
    obtain ⟨x, t, rfl, h1, h2⟩ := RepL.cons.mp r
    rw [rep_bl.mp h1, RepL.bls h2]; rfl
theorem RepL.sts : ∀ {ns : List Str} {xs : List V}, RepL K xc S H (ns.map PV.str) xs → xs = ns.map V.str
  | [], _, r => RepL.nil.mp r
  | n :: ns, _, r => by
    obtain ⟨x, t, rfl, h1, h2⟩ := RepL.cons.mp r
    rw [rep_str.mp h1, RepL.sts h2]; rfl
theorem repL_sts : ∀ ns : List Str, RepL K xc S H (ns.map PV.str) (ns.map V.str)
  | [] => RepL.nil.mpr rfl
  | n :: ns => RepL.cons.mpr ⟨_, _, rfl, rep_str.mpr rfl, repL_sts ns⟩
theorem RepL.one_inv {p : PV} {xs : List V} (r : RepL K xc S H [p] xs) : ∃ x, xs = [x] ∧ Rep K xc S H p x := by
  obtain ⟨x, t, rfl, h1, h2⟩ := RepL.cons.mp r
  rw [RepL.nil.mp h2]
  exact ⟨x, rfl, h1⟩
theorem RepL.two_inv {p q : PV} {xs : List V} (r : RepL K xc S H [p, q] xs) : ∃ x y, xs = [x, y] ∧ Rep K xc S H p x ∧ Rep K xc S H q y := by
  obtain ⟨x, t, rfl, h1, h2⟩ := RepL.cons.mp r
  obtain ⟨y, rfl, h3⟩ := RepL.one_inv h2
  exact ⟨x, y, rfl, h1, h3⟩
end
/-- one argument -/
def f1 (f : PV → Option PV) : List PV → Option PV
  | [x] => f x
  | _ => none
def f2 (f : PV → PV → Option PV) : List PV → Option PV
  | [x, y] => f x y
  | _ => none
@[simp] theorem f1_one (f : PV → Option PV) (x : PV) : f1 f [x] = f x := (rfl)
@[simp] theorem f2_two (f : PV → PV → Option PV) (x y : PV) : f2 f [x, y] = f x y := (rfl)
theorem of_f1 {f : PV → Option PV} {xs : List PV} {z : PV} (h : f1 f xs = some z) : ∃ x, xs = [x] ∧ f x = some z := by
  match xs, h with
  | [x], h => exact ⟨x, rfl, h⟩
theorem of_f2 {f : PV → PV → Option PV} {xs : List PV} {z : PV} (h : f2 f xs = some z) : ∃ x y, xs = [x, y] ∧ f x y = some z := by
  match xs, h with
  | [x, y], h => exact ⟨x, y, rfl, h⟩
def vLen (x : PV) : Option PV := match x with
  | .str z => if z.length ≤ 1000000 then some (.int z.length) else none
  | _ => (items x).map fun ps => PV.int ps.length
def vInt (x : PV) : Option PV := match x with
  | .int i => some (.int i)
  | .bl b => some (.int (if b then 1 else 0))
  | .str a => match PySem.intText? a with
    | some n => if a.length ≤ 640 then some (.int n) else none
    | none => none
  | _ => none
def vList (x : PV) : Option PV := match x with
  | .lst ps => some (.lst ps)
  | .tup ps => some (.lst ps)
  | .scr ns => some (.lst (ns.map .int))
  | _ => none
def vTuple (x : PV) : Option PV := match x with
  | .lst ps => some (.tup ps)
  | .tup ps => some (.tup ps)
  | _ => none
def vSum (x : PV) : Option PV := match x with
  | .lst ps => (asInts ps).map fun ns => PV.int ns.sum
  | _ => none
def vAny (x : PV) : Option PV := match x with
  | .lst ps => (asBls ps).map fun bs => PV.bl (bs.any id)
  | _ => none
def vAll (x : PV) : Option PV := match x with
  | .lst ps => (asBls ps).map fun bs => PV.bl (bs.all id)
  | _ => none
def vMinI (i j : Int) : Option PV := some (.int (if j < i then j else i))
def vMaxI (i j : Int) : Option PV := some (.int (if j > i then j else i))
def ins (x : Int) : List Int → List Int
  | [] => [x]
  | y :: ys => if x ≤ y then x :: y :: ys else y :: ins x ys
def isort : List Int → List Int
  | [] => []
  | x :: xs => ins x (isort xs)
theorem ins_perm (x : Int) : ∀ ys, (ins x ys).Perm (x :: ys)
  | [] => List.Perm.refl _
  | y :: ys => by
    unfold ins
    split
    · exact List.Perm.refl _
    · exact ((ins_perm x ys).cons y).trans (List.Perm.swap x y ys)
theorem isort_perm : ∀ xs, (isort xs).Perm xs
  | [] => List.Perm.refl _
  | x :: xs => (ins_perm x (isort xs)).trans ((isort_perm xs).cons x)
theorem ins_sorted (x : Int) : ∀ ys, ys.Pairwise (· ≤ ·) → (ins x ys).Pairwise (· ≤ ·)
  | [], _ => List.pairwise_singleton _ _
  | y :: ys, h => by
    obtain ⟨h1, h2⟩ := List.pairwise_cons.mp h
    unfold ins
    split
    · rename_i hxy
      refine List.pairwise_cons.mpr ⟨fun z hz => ?_, h⟩
      rcases List.mem_cons.mp hz with rfl | hz
      · exact hxy
      · exact Int.le_trans hxy (h1 z hz)
    · rename_i hxy
      refine List.pairwise_cons.mpr ⟨fun z hz => ?_, ins_sorted x ys h2⟩
      rcases List.mem_cons.mp ((ins_perm x ys).mem_iff.mp hz) with rfl | hz
      · omega
      · exact h1 z hz
theorem isort_sorted : ∀ xs, (isort xs).Pairwise (· ≤ ·)
  | [] => List.Pairwise.nil
  | x :: xs => ins_sorted x _ (isort_sorted xs)
theorem isort_uniq {xs ys : List Int} (p : ys.Perm xs) (s : ys.Pairwise (· ≤ ·)) : ys = isort xs :=
  (p.trans (isort_perm xs).symm).eq_of_pairwise (fun _ _ _ _ h1 h2 => Int.le_antisymm h1 h2) s (isort_sorted xs)
def vSortI (x : PV) : Option PV := match x with
  | .lst ps => (asInts ps).map fun ns => PV.lst ((isort ns).map .int)
  | _ => none
section
variable {K : PySem.W.Frag} {xc : Xc}
/-- the value has this name -/
theorem repc {S : Addr → Prop} {H : Hp} {p : PV} {xs : List V} {R' : List V → Prop} (r : RepL K xc S H [p] xs) (h : ∀ x, Rep K xc S H p x → R' [x]) : R' xs := by
  obtain ⟨x, rfl, h1⟩ := r.one_inv
  exact h x h1
def rLen (K : PySem.W.Frag) : List V → Hp → VK → Prop := fun xs H Q => ∃ x n, xs = [x] ∧ LenV K x H n ∧ Q (.int n) H
theorem c_len : CaS K xc (rLen K) (f1 vLen) := by
  intro S H xs z us Q e ru q
  replace e := of_f1 e; obtain ⟨x, rfl, e⟩ := e
  obtain ⟨u, rfl, r⟩ := ru.one_inv
  have gen : ∀ {ps : List PV}, items x = some ps → some (PV.int ps.length) = some z → rLen K [u] H Q := by
    intro ps hi h
    cases h
    obtain ⟨a, ys, rfl, hq, hr⟩ := r.items hi
    have hl := hr.len
    refine ⟨.ref a, ys.length, rfl, ?_, q S H _ .refl (rep_int.mpr (by rw [hl]))⟩
    rcases hq with hq | hq
    · exact .inl ⟨ys, hq, rfl⟩
    · exact .inr ⟨ys, hq, rfl⟩
  unfold vLen at e
  cases x with
  | str t =>
    dsimp only at e
    split at e
    · rename_i hz
      cases e
      rw [rep_str.mp r]
      exact ⟨.str t, t.length, rfl, ⟨line_le hz, rfl⟩, q S H _ .refl (rep_int.mpr rfl)⟩
    · cases e
  | lst ps => exact gen rfl e
  | tup ps => exact gen rfl e
  | ktup ps => exact gen rfl e
  | scr ns => exact gen rfl e
  | _ => cases e
def rInt : List V → Hp → VK → Prop := fun xs H Q => ((∃ i, xs = [.int i] ∧ Q (.int i) H) ∨ ∃ k, xs = [.bl k] ∧ Q (.int (if k then 1 else 0)) H) ∨ ∃ a n, xs = [.str a] ∧ PySem.intText? a = some n ∧ a.length ≤ 640 ∧ Q (.int n) H
theorem o_int {X : Cx} : CallR X (.type "int") rInt := call_int1.or call_int_str
theorem c_int : CaS K xc rInt (f1 vInt) := by
  intro S H xs z us Q e ru q
  replace e := of_f1 e; obtain ⟨x, rfl, e⟩ := e
  obtain ⟨u, rfl, r⟩ := ru.one_inv
  unfold vInt at e
  cases x with
  | int i => cases e; rw [rep_int.mp r]; exact .inl (.inl ⟨i, rfl, q S H _ .refl (rep_int.mpr rfl)⟩)
  | bl i => cases e; rw [rep_bl.mp r]; exact .inl (.inr ⟨i, rfl, q S H _ .refl (rep_int.mpr rfl)⟩)
  | str a =>
    dsimp only at e
    rw [rep_str.mp r]
    cases h : PySem.intText? a with
    | none => rw [h] at e; cases e
    | some n =>
      rw [h] at e
      dsimp only at e
      split at e
      · rename_i hz
        cases e
        exact .inr ⟨a, n, rfl, h, hz, q S H _ .refl (rep_int.mpr rfl)⟩
      · cases e
  | _ => cases e
def rList (K : PySem.W.Frag) : List V → Hp → VK → Prop := fun xs H Q => ∃ p ys, xs = [.ref p] ∧ (SqL K H p ys ∨ SqT K H p ys) ∧ ∀ l, H l = none → Q (.ref l) (upd H l (.lst ys))
theorem c_list : CaN K xc (rList K) (f1 vList) := by
  intro S H xs z us Q e ru hl q
  replace e := of_f1 e; obtain ⟨x, rfl, e⟩ := e
  obtain ⟨u, rfl, r⟩ := ru.one_inv
  have gen : ∀ {ps : List PV}, items x = some ps → some (PV.lst ps) = some z → rList K [u] H Q := by
    intro ps hi h
    cases h
    obtain ⟨a, ys, rfl, hq, hr⟩ := r.items hi
    exact ⟨a, ys, rfl, hq, fun p np => q S _ p (Gro.upd np) np (fun z => hl p z np) (ob_new hr np) fun a z => z.elim⟩
  cases x with
  | lst ps => exact gen rfl e
  | tup ps => exact gen rfl e
  | scr ns => exact gen rfl e
  | _ => cases e
def rTupC (K : PySem.W.Frag) : List V → Hp → VK → Prop := fun xs H Q => ∃ p ys, xs = [.ref p] ∧ ((SqL K H p ys ∧ ∀ l, H l = none → Q (.ref l) (upd H l (.tup ys))) ∨ (SqT K H p ys ∧ Q (.ref p) H))
theorem c_tuple : CaS K xc (rTupC K) (f1 vTuple) := by
  intro S H xs z us Q e ru q
  replace e := of_f1 e; obtain ⟨x, rfl, e⟩ := e
  obtain ⟨u, rfl, r⟩ := ru.one_inv
  cases x with
  | lst ps =>
    cases e
    obtain ⟨a, ys, rfl, _, h1, h2⟩ := rep_lst.mp r
    exact ⟨a, ys, rfl, .inl ⟨SqL.of h1, fun p np => q S _ _ (Gro.upd np) (rep_tup.mpr ⟨p, ys, rfl, upd_same, h2.kee (Gro.upd np).kee⟩)⟩⟩
  | tup ps =>
    cases e
    obtain ⟨a, ys, rfl, h1, h2⟩ := rep_tup.mp r
    exact ⟨a, ys, rfl, .inr ⟨SqT.of h1, q S H _ .refl r⟩⟩
  | _ => cases e
theorem c_sum : CaS K xc (rSum K) (f1 vSum) := by
  intro S H xs z us Q e ru q
  replace e := of_f1 e; obtain ⟨x, rfl, e⟩ := e
  obtain ⟨u, rfl, r⟩ := ru.one_inv
  cases x with
  | lst ps =>
    unfold vSum at e
    dsimp only at e
    cases h : asInts ps with
    | none => rw [h] at e; cases e
    | some ns =>
      rw [h] at e
      cases e
      obtain ⟨a, ys, rfl, _, h1, h2⟩ := rep_lst.mp r
      rw [of_asInts h] at h2
      exact ⟨a, ns, rfl, by rw [← h2.ints]; exact SqL.of h1, q S H _ .refl (rep_int.mpr rfl)⟩
  | _ => cases e
theorem c_any : CaS K xc (rAny K) (f1 vAny) := by
  intro S H xs z us Q e ru q
  replace e := of_f1 e; obtain ⟨x, rfl, e⟩ := e
  obtain ⟨u, rfl, r⟩ := ru.one_inv
  cases x with
  | lst ps =>
    unfold vAny at e
    dsimp only at e
    cases h : asBls ps with
    | none => rw [h] at e; cases e
    | some ns =>
      rw [h] at e
      cases e
      obtain ⟨a, ys, rfl, _, h1, h2⟩ := rep_lst.mp r
      rw [of_asBls h] at h2
      exact ⟨a, ns, rfl, by rw [← h2.bls]; exact SqL.of h1, q S H _ .refl (rep_bl.mpr rfl)⟩
  | _ => cases e
theorem c_all : CaS K xc (rAll K) (f1 vAll) := by
  intro S H xs z us Q e ru q
  replace e := of_f1 e; obtain ⟨x, rfl, e⟩ := e
  obtain ⟨u, rfl, r⟩ := ru.one_inv
  cases x with
  | lst ps =>
    unfold vAll at e
    dsimp only at e
    cases h : asBls ps with
    | none => rw [h] at e; cases e
    | some ns =>
      rw [h] at e
      cases e
      obtain ⟨a, ys, rfl, _, h1, h2⟩ := rep_lst.mp r
      rw [of_asBls h] at h2
      exact ⟨a, ns, rfl, by rw [← h2.bls]; exact SqL.of h1, q S H _ .refl (rep_bl.mpr rfl)⟩
  | _ => cases e
theorem c_sortI : CaN K xc (rSortedI K) (f1 vSortI) := by
  intro S H xs z us Q e ru hl q
  replace e := of_f1 e; obtain ⟨x, rfl, e⟩ := e
  obtain ⟨u, rfl, r⟩ := ru.one_inv
  cases x with
  | lst ps =>
    unfold vSortI at e
    dsimp only at e
    cases h : asInts ps with
    | none => rw [h] at e; cases e
    | some ns =>
      rw [h] at e
      cases e
      obtain ⟨a, ys, rfl, _, h1, h2⟩ := rep_lst.mp r
      rw [of_asInts h] at h2
      refine ⟨a, ns, rfl, by rw [← h2.ints]; exact SqL.of h1, fun ns' p hp hs np => ?_⟩
      rw [isort_uniq hp hs]
      exact q S _ p (Gro.upd np) np (fun z => hl p z np) (ob_new (repL_ints _) np) fun a z => z.elim
  | _ => cases e
theorem c_min2 : CaS K xc (fun xs H Q => ∃ i j, xs = [.int i, .int j] ∧ Q (.int (if j < i then j else i)) H) (f2 (i2 vMinI)) := by
  intro S H xs z us Q e ru q
  replace e := of_f2 e; obtain ⟨x, y, rfl, e⟩ := e
  replace e := of_i2 e; obtain ⟨i, j, rfl, rfl, e⟩ := e
  cases e
  obtain ⟨u, v, rfl, r1, r2⟩ := ru.two_inv
  rw [rep_int.mp r1, rep_int.mp r2]
  exact ⟨i, j, rfl, q S H _ .refl (rep_int.mpr rfl)⟩
theorem c_max2 : CaS K xc (fun xs H Q => ∃ i j, xs = [.int i, .int j] ∧ Q (.int (if j > i then j else i)) H) (f2 (i2 vMaxI)) := by
  intro S H xs z us Q e ru q
  replace e := of_f2 e; obtain ⟨x, y, rfl, e⟩ := e
  replace e := of_i2 e; obtain ⟨i, j, rfl, rfl, e⟩ := e
  cases e
  obtain ⟨u, v, rfl, r1, r2⟩ := ru.two_inv
  rw [rep_int.mp r1, rep_int.mp r2]
  exact ⟨i, j, rfl, q S H _ .refl (rep_int.mpr rfl)⟩
end
/-! #### isinstance -/
/-- the built-in class of a value -/
def tyN : PV → Option String
  | .non => some "NoneType"
  | .bl _ => some "bool"
  | .int _ => some "int"
  | .str _ => some "str"
  | .tup _ => some "tuple"
  | .lst _ => some "list"
  | .dk _ _ => some "dict"
  | .dt _ _ => some "dict"
  | _ => none
def vIsT (t n : String) : Option Bool := if ["NoneType", "bool", "int", "str", "tuple", "list", "dict"].contains t && ["bool", "int", "str", "tuple", "list", "dict"].contains n then some (t == n || (t == "bool" && n == "int")) else none
def vIsInst (x c : PV) : Option PV := match c with
  | .ty n => (tyN x).bind fun t => (vIsT t n).map PV.bl
  | _ => none
theorem vIsT_kit {t n : String} {b : Bool} (h : vIsT t n = some b) : kitB t n = some b := by
  unfold vIsT at h
  split at h
  · rename_i hc
    cases h
    rw [Bool.and_eq_true] at hc
    obtain ⟨h1, h2⟩ := hc
    simp only [List.contains_cons, List.contains_nil, Bool.or_false, Bool.or_eq_true, beq_iff_eq] at h1 h2
    rcases h1 with rfl | rfl | rfl | rfl | rfl | rfl | rfl <;> rcases h2 with rfl | rfl | rfl | rfl | rfl | rfl <;> decide +kernel
  · cases h
section
variable {K : PySem.W.Frag} {xc : Xc}
theorem rep_ty {S : Addr → Prop} {H : Hp} {n : String} {u : V} : Rep K xc S H (.ty n) u ↔ u = .ty n := by unfold Rep; exact Iff.rfl
theorem tyN_of {S : Addr → Prop} {H : Hp} {x : PV} {u : V} {t : String} (h : tyN x = some t) (r : Rep K xc S H x u) : TyX K H u (.type t) := by
  cases x with
  | non => cases h; rw [rep_non.mp r]; exact .base .non
  | bl b => cases h; rw [rep_bl.mp r]; exact .base (.bl b)
  | int i => cases h; rw [rep_int.mp r]; exact .base (.int i)
  | str i => cases h; rw [rep_str.mp r]; exact .base (.str i)
  | tup ps => cases h; obtain ⟨a, xs, rfl, h1, _⟩ := rep_tup.mp r; exact .base (.tup h1)
  | lst ps => cases h; obtain ⟨a, xs, rfl, _, h1, _⟩ := rep_lst.mp r; exact .base (.lst h1)
  | dk ks ps => cases h; obtain ⟨a, xs, rfl, _, h1, _⟩ := rep_dk.mp r; exact .base (.dK h1)
  | dt ks ps => cases h; obtain ⟨a, xs, rfl, _, h1, _⟩ := rep_dt.mp r; exact .base (.dT h1)
  | _ => cases h
theorem c_isi : CaS K xc (rIsi K) (f2 vIsInst) := by
  intro S H xs z us Q e ru q
  replace e := of_f2 e; obtain ⟨x, y, rfl, e⟩ := e
  obtain ⟨u, v, rfl, r1, r2⟩ := ru.two_inv
  unfold vIsInst at e
  cases y with
  | ty n =>
    cases h : tyN x with
    | none => rw [h] at e; cases e
    | some t =>
      rw [h] at e
      have e2 : (vIsT t n).map PV.bl = some z := e
      cases h2 : vIsT t n with
      | none => rw [h2] at e2; cases e2
      | some b =>
        rw [h2] at e2
        cases e2
        rw [rep_ty.mp r2]
        exact ⟨u, .ty n, .type t, .type n, b, rfl, .ty n, tyN_of h r1, kit_ty (vIsT_kit h2), q S H _ .refl (rep_bl.mpr rfl)⟩
  | _ => cases e
end
/-! #### the rules -/
section
variable {ι : Type} {X : ι → Cx} {C : Ctx} {e o : Expr} {f fo : PF} {pos p apos : Pos} {es : List Expr} {fl : LF} {x : Str} {r : List V → Hp → VK → Prop} {h : List PV → Option PV} {id T : String}
theorem sim_ca {t : TA} (hs : CaS C.K C.xc r h) (sl : SimL C t fl) : SimP C (tCB r t) (pCa h fl) := fun S σ H g Q st hp =>
  SimL.bind1 sl st hp fun xs us S1 H1 k s1 ru q => by
    match e : h xs, q with
    | none, q => exact q.elim
    | some z, q => exact hs S1 H1 xs z us Q e ru fun S' H' w k' rw' => q S' H' w k' rw'
theorem sim_cn {t : TA} (hs : CaN C.K C.xc r h) (sl : SimL C t fl) : SimN C (tCB r t) (pCa h fl) := fun S σ H g Q st hp =>
  SimL.bindN sl st hp fun xs us S1 H1 k s1 ru q => by
    match e : h xs, q with
    | none, q => exact q.elim
    | some z, q => exact hs S1 H1 xs z us Q e ru s1.live fun S' H' w k' np ns ob sb => q S' H' w k' np ns ob sb
theorem p_cb (hc : ∀ i, CallR (X i) (.builtin id) r) (hs : CaS C.K C.xc r h) (F : Fam X C) (hg : ∀ i, Gl (X i) x) (hm : C.mg x = none) (hv : bootBuiltins x = some (.builtin id)) (ha : LX X C (e :: es) fl) (hn : x ≠ "__name__" := by decide) (hdb : (x == ("__debug__" : Str)) = false := by decide)
    (he : ∀ i, starEach (e :: es) (X i).env = (false, eval e (X i).env) :: starEach es (X i).env := by intro _; rfl) (hpl : ∀ i, (backTo pos (starEach es (X i).env)).any (·.1) = false := by intro _; rfl) : PX X C (.Call (.Name x p) (e :: es) [] pos) (pCa h fl) := by
  obtain ⟨t, pa, sl⟩ := ha
  exact ⟨tCB r t, fun i => pe_callB (hc i) (hg i) (by rw [F.mg i]; exact hm) hv (pa i) hn hdb (he i) (hpl i), sim_ca hs sl⟩
theorem n_cb (hc : ∀ i, CallR (X i) (.builtin id) r) (hs : CaN C.K C.xc r h) (F : Fam X C) (hg : ∀ i, Gl (X i) x) (hm : C.mg x = none) (hv : bootBuiltins x = some (.builtin id)) (ha : LX X C (e :: es) fl) (hn : x ≠ "__name__" := by decide) (hdb : (x == ("__debug__" : Str)) = false := by decide)
    (he : ∀ i, starEach (e :: es) (X i).env = (false, eval e (X i).env) :: starEach es (X i).env := by intro _; rfl) (hpl : ∀ i, (backTo pos (starEach es (X i).env)).any (·.1) = false := by intro _; rfl) : NX X C (.Call (.Name x p) (e :: es) [] pos) (pCa h fl) := by
  obtain ⟨t, pa, sl⟩ := ha
  exact ⟨tCB r t, fun i => pe_callB (hc i) (hg i) (by rw [F.mg i]; exact hm) hv (pa i) hn hdb (he i) (hpl i), sim_cn hs sl⟩
theorem p_ct (hc : ∀ i, CallR (X i) (.type T) r) (hs : CaS C.K C.xc r h) (F : Fam X C) (hg : ∀ i, Gl (X i) x) (hm : C.mg x = none) (hv : bootBuiltins x = some (.type T)) (ha : LX X C (e :: es) fl) (hn : x ≠ "__name__" := by decide) (hdb : (x == ("__debug__" : Str)) = false := by decide)
    (he : ∀ i, starEach (e :: es) (X i).env = (false, eval e (X i).env) :: starEach es (X i).env := by intro _; rfl) (hpl : ∀ i, (backTo pos (starEach es (X i).env)).any (·.1) = false := by intro _; rfl) : PX X C (.Call (.Name x p) (e :: es) [] pos) (pCa h fl) := by
  obtain ⟨t, pa, sl⟩ := ha
  exact ⟨tCB r t, fun i => pe_callTy (hc i) (hg i) (by rw [F.mg i]; exact hm) hv (pa i) hn hdb (he i) (hpl i), sim_ca hs sl⟩
theorem n_ct (hc : ∀ i, CallR (X i) (.type T) r) (hs : CaN C.K C.xc r h) (F : Fam X C) (hg : ∀ i, Gl (X i) x) (hm : C.mg x = none) (hv : bootBuiltins x = some (.type T)) (ha : LX X C (e :: es) fl) (hn : x ≠ "__name__" := by decide) (hdb : (x == ("__debug__" : Str)) = false := by decide)
    (he : ∀ i, starEach (e :: es) (X i).env = (false, eval e (X i).env) :: starEach es (X i).env := by intro _; rfl) (hpl : ∀ i, (backTo pos (starEach es (X i).env)).any (·.1) = false := by intro _; rfl) : NX X C (.Call (.Name x p) (e :: es) [] pos) (pCa h fl) := by
  obtain ⟨t, pa, sl⟩ := ha
  exact ⟨tCB r t, fun i => pe_callTy (hc i) (hg i) (by rw [F.mg i]; exact hm) hv (pa i) hn hdb (he i) (hpl i), sim_cn hs sl⟩
end
end L3

namespace L3
open PySem PySem.Spec PyProof.Rows L2
/-! ### defs -/
inductive FR where
  | ok (r : PV) (cs : List PV) | new (r : PV) (cs : List PV) | err (x : Exc) (cs : List PV) | stuck
abbrev MF := List PV → FR
/-- the slots at the entry: mu tells which parameters may be changed -/
def slots : List Bool → List PV → Gm
  | true :: mu, p :: ps => .prm p :: slots mu ps
  | false :: mu, p :: ps => .val p :: slots mu ps
  | _, _ => []
/-- .. as the caller sees them -/
def slO : List Bool → List PV → Gm
  | true :: mu, p :: ps => .own p :: slO mu ps
  | false :: mu, p :: ps => .val p :: slO mu ps
  | _, _ => []
/-- .. behind the call -/
def afO : List Bool → List PV → Gm
  | true :: mu, p :: ps => .own p :: afO mu ps
  | false :: mu, _ :: ps => .junk :: afO mu ps
  | _, _ => []
/-- the contents of the changeable parameters, at their places -/
def conts : List Bool → Gm → List PV
  | true :: mu, .prm v :: g => v :: conts mu g
  | _ :: mu, _ :: g => .non :: conts mu g
  | _, _ => []
def mirOf (mu : List Bool) (n : Nat) (body : SF) : MF := fun ps => if ps.length = mu.length then
  match body (slots mu ps ++ List.replicate n .junk) with
  | .ok (.nx g) => .ok .non (conts mu g)
  | .ok (.rt v g) => .ok v (conts mu g)
  | .ok (.rn v g) => .new v (conts mu g)
  | .err x g => .err x (conts mu g)
  | _ => .stuck
  else .stuck
/-- what a def with this mirror promises -/
def spOf (K : PySem.W.Frag) (xc : Xc) (mu : List Bool) (mir : MF) : Sp := fun vs H Q E => ∃ (S : Addr → Prop) (ps : List PV) (C : Ctx), vs.length = mu.length ∧ ps.length = mu.length ∧ C.K = K ∧ C.xc = xc ∧ Sta C S (vs.map some) H (slO mu ps) ∧
  match mir ps with
  | .ok r cs => ∀ S' H' u, Stp S (vs.map some) H (slO mu ps) S' (vs.map some) H' (afO mu cs) → Sta C S' (vs.map some) H' (afO mu cs) → Rep K xc S' H' r u → Q u H'
  | .new r cs => ∀ S' H' p, Stp S (vs.map some) H (slO mu ps) S' (vs.map some) H' (afO mu cs) → Sta C S' (vs.map some) H' (afO mu cs) → New C (vs.map some) (slO mu ps) S H S' (vs.map some) H' (afO mu cs) r p → Q (.ref p) H'
  | .err x cs => ∀ S' H' cls d, Stp S (vs.map some) H (slO mu ps) S' (vs.map some) H' (afO mu cs) → Sta C S' (vs.map some) H' (afO mu cs) → ExAt xc x cls d H' → E cls d H'
  | .stuck => False
section
variable {S S' : Addr → Prop} {σ σ' : L2.St} {H H' : Hp}
/-! #### a part of the slots -/
/-- each slot that counts in the one stands in the other with the same value and the same content -/
def Part (σ : L2.St) (g : Gm) (σ1 : L2.St) (g1 : Gm) : Prop := ∀ (i : Nat) (s1 : Slot), g1[i]? = some s1 → s1 = .junk ∨ (σ1[i]? = σ[i]? ∧ ∃ s, g[i]? = some s ∧ s1.cont = s.cont ∧ ∀ v, s1 = .val v → s = .val v)
theorem Part.foot {g g1 : Gm} {σ1 : L2.St} (h : Part σ g σ1 g1) {a : Addr} (f : Foot σ1 H g1 a) : Foot σ H g a := by
  obtain ⟨i, s, v, p, h1, h2, h3, h4⟩ := f
  rcases h i s h1 with rfl | ⟨e, s', q1, q2, _⟩
  · cases h2
  · exact ⟨i, s', v, p, q1, q2 ▸ h2, e ▸ h3, h4⟩
theorem Sta.part {C C1 : Ctx} {g g1 : Gm} {σ1 : L2.St} (st : Sta C S σ H g) (hK : C1.K = C.K) (hx : C1.xc = C.xc) (h : Part σ g σ1 g1) (hl : σ1.length = g1.length) : Sta C1 S σ1 H g1 where
  len := hl
  val := fun i v e => by
    rcases h i _ e with z | ⟨e1, s, h1, _, h3⟩
    · cases z
    · rw [h3 v rfl] at h1
      rw [e1, hK, hx]
      exact st.val i v h1
  own := fun i s v e c => by
    rcases h i _ e with rfl | ⟨e1, s', h1, h2, _⟩
    · cases c
    · rw [e1, hK, hx]
      exact st.own i s' v h1 (h2 ▸ c)
  apart := fun i j s t v w p q a hij h1 h2 h3 h4 h5 h6 => by
    rcases h i _ h1 with rfl | ⟨e1, s', k1, k2, _⟩
    · cases h2
    · rcases h j _ h3 with rfl | ⟨e2, t', k3, k4, _⟩
      · cases h4
      · exact st.apart i j s' t' v w p q a hij k1 (k2 ▸ h2) k3 (k4 ▸ h4) (e1 ▸ h5) (e2 ▸ h6)
  out := fun a f => st.out a (h.foot f)
  live := st.live
theorem slots_len : ∀ {mu : List Bool} {ps : List PV}, ps.length = mu.length → (slots mu ps).length = ps.length ∧ (slO mu ps).length = ps.length ∧ (afO mu ps).length = ps.length
  | [], [], _ => ⟨rfl, rfl, rfl⟩
  | true :: mu, p :: ps, h => by
    obtain ⟨h1, h2, h3⟩ := slots_len (mu := mu) (ps := ps) (by simpa using h)
    simp [slots, slO, afO, h1, h2, h3]
  | false :: mu, p :: ps, h => by
    obtain ⟨h1, h2, h3⟩ := slots_len (mu := mu) (ps := ps) (by simpa using h)
    simp [slots, slO, afO, h1, h2, h3]
theorem slots_get : ∀ {mu : List Bool} {ps : List PV} {i : Nat} {s : Slot}, (slots mu ps)[i]? = some s → ∃ b p, mu[i]? = some b ∧ ps[i]? = some p ∧ s = (if b = true then .prm p else .val p) ∧ (slO mu ps)[i]? = some (if b = true then .own p else .val p)
  | [], _, _, _, h => by simp [slots] at h
  | true :: mu, [], _, _, h => by simp [slots] at h
  | false :: mu, [], _, _, h => by simp [slots] at h
  | true :: mu, p :: ps, 0, s, h => by simp [slots] at h; subst h; exact ⟨true, p, rfl, rfl, rfl, rfl⟩
  | false :: mu, p :: ps, 0, s, h => by simp [slots] at h; subst h; exact ⟨false, p, rfl, rfl, rfl, rfl⟩
  | true :: mu, p :: ps, i + 1, s, h => by
    obtain ⟨b, q, h1, h2, h3, h4⟩ := slots_get (mu := mu) (ps := ps) (i := i) (by simpa [slots] using h)
    exact ⟨b, q, by simpa using h1, by simpa using h2, h3, by simpa [slO] using h4⟩
  | false :: mu, p :: ps, i + 1, s, h => by
    obtain ⟨b, q, h1, h2, h3, h4⟩ := slots_get (mu := mu) (ps := ps) (i := i) (by simpa [slots] using h)
    exact ⟨b, q, by simpa using h1, by simpa using h2, h3, by simpa [slO] using h4⟩
theorem slO_get : ∀ {mu : List Bool} {ps : List PV} {i : Nat} {s : Slot}, (slO mu ps)[i]? = some s → ∃ b p, mu[i]? = some b ∧ ps[i]? = some p ∧ s = (if b = true then .own p else .val p) ∧ (slots mu ps)[i]? = some (if b = true then .prm p else .val p)
  | [], _, _, _, h => by simp [slO] at h
  | true :: mu, [], _, _, h => by simp [slO] at h
  | false :: mu, [], _, _, h => by simp [slO] at h
  | true :: mu, p :: ps, 0, s, h => by simp [slO] at h; subst h; exact ⟨true, p, rfl, rfl, rfl, rfl⟩
  | false :: mu, p :: ps, 0, s, h => by simp [slO] at h; subst h; exact ⟨false, p, rfl, rfl, rfl, rfl⟩
  | true :: mu, p :: ps, i + 1, s, h => by
    obtain ⟨b, q, h1, h2, h3, h4⟩ := slO_get (mu := mu) (ps := ps) (i := i) (by simpa [slO] using h)
    exact ⟨b, q, by simpa using h1, by simpa using h2, h3, by simpa [slots] using h4⟩
  | false :: mu, p :: ps, i + 1, s, h => by
    obtain ⟨b, q, h1, h2, h3, h4⟩ := slO_get (mu := mu) (ps := ps) (i := i) (by simpa [slO] using h)
    exact ⟨b, q, by simpa using h1, by simpa using h2, h3, by simpa [slots] using h4⟩
theorem afO_get : ∀ {mu : List Bool} {ps : List PV} {i : Nat} {s : Slot}, (afO mu ps)[i]? = some s → ∃ b p, mu[i]? = some b ∧ ps[i]? = some p ∧ s = (if b = true then .own p else .junk)
  | [], _, _, _, h => by simp [afO] at h
  | true :: mu, [], _, _, h => by simp [afO] at h
  | false :: mu, [], _, _, h => by simp [afO] at h
  | true :: mu, p :: ps, 0, s, h => by simp [afO] at h; subst h; exact ⟨true, p, rfl, rfl, rfl⟩
  | false :: mu, p :: ps, 0, s, h => by simp [afO] at h; subst h; exact ⟨false, p, rfl, rfl, rfl⟩
  | true :: mu, p :: ps, i + 1, s, h => by
    obtain ⟨b, q, h1, h2, h3⟩ := afO_get (mu := mu) (ps := ps) (i := i) (by simpa [afO] using h)
    exact ⟨b, q, by simpa using h1, by simpa using h2, h3⟩
  | false :: mu, p :: ps, i + 1, s, h => by
    obtain ⟨b, q, h1, h2, h3⟩ := afO_get (mu := mu) (ps := ps) (i := i) (by simpa [afO] using h)
    exact ⟨b, q, by simpa using h1, by simpa using h2, h3⟩
theorem conts_len : ∀ {mu : List Bool} {g : Gm}, mu.length ≤ g.length → (conts mu g).length = mu.length
  | [], _, _ => by simp [conts]
  | b :: mu, [], h => by simp at h
  | true :: mu, s :: g, h => by
    have ih := conts_len (mu := mu) (g := g) (by simpa using h)
    cases s <;> simp [conts, ih]
  | false :: mu, s :: g, h => by
    have ih := conts_len (mu := mu) (g := g) (by simpa using h)
    cases s <;> simp [conts, ih]
theorem conts_get : ∀ {mu : List Bool} {g : Gm} {i : Nat} {v : PV}, mu[i]? = some true → g[i]? = some (.prm v) → (conts mu g)[i]? = some v
  | [], _, _, _, h, _ => by simp at h
  | _ :: mu, [], _, _, _, h => by simp at h
  | b :: mu, s :: g, 0, v, h, h' => by simp at h h'; subst h h'; rfl
  | true :: mu, s :: g, i + 1, v, h, h' => by
    have ih := conts_get (mu := mu) (g := g) (i := i) (v := v) (by simpa using h) (by simpa using h')
    cases s <;> simpa [conts] using ih
  | false :: mu, s :: g, i + 1, v, h, h' => by
    have ih := conts_get (mu := mu) (g := g) (i := i) (v := v) (by simpa using h) (by simpa using h')
    cases s <;> simpa [conts] using ih
end
/-- a state at a def's end, seen from the call -/
theorem end_of {C C1 : Ctx} {S S' : Addr → Prop} {vs : List V} {N : List Str} {σ' : L2.St} {H H' : Hp} {mu : List Bool} {ps : List PV} {n : Nat} {g' : Gm} (hK : C1.K = C.K) (hx : C1.xc = C.xc) (hv : vs.length = mu.length) (hp : ps.length = mu.length) (hN : mu.length ≤ g'.length)
    (k : Stp S (L2.start N vs) H (slots mu ps ++ List.replicate n .junk) S' σ' H' g') (st' : Sta C S' σ' H' g') : Stp S (vs.map some) H (slO mu ps) S' (vs.map some) H' (afO mu (conts mu g')) ∧ Sta C1 S' (vs.map some) H' (afO mu (conts mu g')) ∧
    (∀ a, Foot (L2.start N vs) H (slots mu ps ++ List.replicate n .junk) a → Foot (vs.map some) H (slO mu ps) a) ∧ (∀ a, Foot (vs.map some) H' (afO mu (conts mu g')) a → Foot σ' H' g' a) := by
  have hsl := slots_len (mu := mu) (ps := ps) hp
  have atS : ∀ i, i < vs.length → (L2.start N vs)[i]? = (vs.map some)[i]? := fun i hi => by
    unfold L2.start
    rw [List.getElem?_append_left (by simpa using hi)]
  have gS : ∀ i, i < vs.length → (slots mu ps ++ List.replicate n Slot.junk)[i]? = (slots mu ps)[i]? := fun i hi => by
    rw [List.getElem?_append_left (by rw [hsl.1, hp, ← hv]; exact hi)]
  have ltO : ∀ {i : Nat} {s : Slot}, (slO mu ps)[i]? = some s → i < vs.length := fun {i s} e => by
    have := (List.getElem?_eq_some_iff.mp e).1
    rw [hsl.2.1, hp, ← hv] at this; exact this
  have ltA : ∀ {i : Nat} {s : Slot}, (afO mu (conts mu g'))[i]? = some s → i < vs.length := fun {i s} e => by
    have := (List.getElem?_eq_some_iff.mp e).1
    rw [(slots_len (mu := mu) (ps := conts mu g') (by rw [conts_len hN])).2.2, conts_len hN, ← hv] at this; exact this
  have footI : ∀ {a : Addr}, Foot (vs.map some) H (slO mu ps) a ↔ Foot (L2.start N vs) H (slots mu ps ++ List.replicate n .junk) a := fun {a} => by
    constructor
    · rintro ⟨i, s, v, p, h1, h2, h3, h4⟩
      have hi := ltO h1
      obtain ⟨b, q, m1, m2, m3, m4⟩ := slO_get h1
      subst m3
      cases b with
      | false => cases h2
      | true =>
        refine ⟨i, .prm q, v, p, by rw [gS i hi]; exact m4, h2, by rw [atS i hi]; exact h3, h4⟩
    · rintro ⟨i, s, v, p, h1, h2, h3, h4⟩
      have hi : i < (slots mu ps).length := by
        by_cases z : i < (slots mu ps).length
        · exact z
        · rw [List.getElem?_append_right (by omega), List.getElem?_replicate] at h1
          split at h1
          · cases h1; cases h2
          · cases h1
      rw [List.getElem?_append_left hi] at h1
      have hi' : i < vs.length := by rw [hsl.1, hp, ← hv] at hi; exact hi
      obtain ⟨b, q, m1, m2, m3, m4⟩ := slots_get h1
      subst m3
      cases b with
      | false => cases h2
      | true => exact ⟨i, .own q, v, p, m4, h2, by rw [← atS i hi']; exact h3, h4⟩
  have prt : Part σ' g' (vs.map some) (afO mu (conts mu g')) := by
    intro i s1 h1
    have hi := ltA h1
    obtain ⟨b, q, m1, m2, m3⟩ := afO_get h1
    subst m3
    cases b with
    | false => exact .inl rfl
    | true =>
      have hs : ∃ v0, (slots mu ps)[i]? = some (.prm v0) := by
        cases e : (slots mu ps)[i]? with
        | none =>
          have := List.getElem?_eq_none_iff.mp e
          rw [hsl.1, hp, ← hv] at this; omega
        | some s0 =>
          obtain ⟨b', q', k1, k2, k3, _⟩ := slots_get e
          rw [m1] at k1; cases k1
          exact ⟨q', by rw [k3]; rfl⟩
      obtain ⟨v0, hs⟩ := hs
      obtain ⟨e1, v', e2⟩ := k.keep i v0 (by rw [gS i hi]; exact hs)
      refine .inr ⟨by rw [e1, atS i hi], .prm v', e2, ?_, fun v z => by cases z⟩
      rw [conts_get m1 e2] at m2
      cases m2; rfl
  refine ⟨⟨k.sub, fun a h => (k.new a h).imp id fun z => z.imp id footI.mpr, fun a o h hf => k.frm a o h (hf.imp (fun hf z => hf (footI.mpr z)) id), fun a f => ?_, k.alive, rfl, fun i v h => ?_⟩, st'.part hK hx prt ?_, fun a f => footI.mpr f, fun a f => prt.foot f⟩
  · exact (k.grw a (prt.foot f)).imp footI.mpr id
  · obtain ⟨b, q, _, _, m3, _⟩ := slO_get h
    cases b <;> cases m3
  · rw [List.length_map, (slots_len (mu := mu) (ps := conts mu g') (by rw [conts_len hN])).2.2, conts_len hN, hv]
theorem start_sta {C C1 : Ctx} {S : Addr → Prop} {vs : List V} {N : List Str} {H : Hp} {mu : List Bool} {ps : List PV} (hK : C1.K = C.K) (hx : C1.xc = C.xc) (hv : vs.length = mu.length) (hp : ps.length = mu.length) (hN : vs.length ≤ N.length)
    (st : Sta C S (vs.map some) H (slO mu ps)) : Sta C1 S (L2.start N vs) H (slots mu ps ++ List.replicate (N.length - mu.length) .junk) := by
  have hsl := slots_len (mu := mu) (ps := ps) hp
  refine st.part hK hx (fun i s1 h1 => ?_) ?_
  · by_cases hi : i < (slots mu ps).length
    · rw [List.getElem?_append_left hi] at h1
      have hi' : i < vs.length := by rw [hsl.1, hp, ← hv] at hi; exact hi
      obtain ⟨b, q, m1, m2, m3, m4⟩ := slots_get h1
      refine .inr ⟨by unfold L2.start; rw [List.getElem?_append_left (by simpa using hi')], _, m4, ?_, fun v e => ?_⟩
      · subst m3; cases b <;> rfl
      · subst m3
        cases b with
        | true => cases e
        | false => exact e
    · rw [List.getElem?_append_right (by omega), List.getElem?_replicate] at h1
      split at h1
      · cases h1; exact .inl rfl
      · cases h1
  · unfold L2.start
    rw [List.length_append, List.length_append, List.length_map, List.length_replicate, List.length_replicate, hsl.1, hp, hv]
/-- THE RULE for a def, by its mirror -/
theorem fn_ok {P : Program} {w : World} {K : PySem.W.Frag} {mg : Str → Option Value} {base : Heap} {xc : Xc} {x qual : Str} {st : Stmt} {f : Addr} {fd : FuncData} {N ps : List Str} {k : Nat} {mu : List Bool} {body : SF} (F : Fun K x qual st f fd) (SC : FnScope N ps (defScope st)) (hmu : mu.length = ps.length)
    (hb : ∀ (cdv : Value) (A : Around) (outer : List Env) (s : Shared) (H : Hp) (E : XK), Fam (fun _ : Unit => cxOf (L2.CX P w) P w K mg base N qual (defScope st) f cdv A outer s H E) ⟨P, w, K, mg, base, N, k, xc, fun cls d _ H' => E cls d H'⟩ →
      BkX (fun _ : Unit => cxOf (L2.CX P w) P w K mg base N qual (defScope st) f cdv A outer s H E) ⟨P, w, K, mg, base, N, k, xc, fun cls d _ H' => E cls d H'⟩ (defBody st) body) :
    FnOk P w K mg base (L2.CX P w) (k + 1) f fd ps (spOf K xc mu (mirOf mu (N.length - ps.length) body)) := by
  have hpl : ps.length ≤ N.length := by have := congrArg List.length SC.pre; rw [List.length_take] at this; omega
  refine F.okX SC (fun vs H Q E h => ?_) (fun cdv A outer s H vs Q E hr h => ?_)
  · obtain ⟨S, qs, C, h1, _⟩ := h
    rw [h1, hmu]
  · obtain ⟨S, qs, C, hv, hq, hK, hx, stt, hm⟩ := h
    obtain ⟨t, pt, sim⟩ := hb cdv A outer s H E ⟨fun _ => rfl, fun _ => rfl, fun _ => rfl, fun _ => rfl, fun _ => rfl, fun _ => rfl, fun _ => hr, fun _ => rfl, fun _ => takes_of rfl rfl rfl rfl, fun _ => passes_of (K := fun e s'' => L2.CX P w outer H s E e s'') (E₁ := fun e' s'' => L2.CX P w outer H s E e' s'') rfl⟩
    refine ⟨t, pt (), sim S _ H _ _ (start_sta (C := C) hK.symm hx.symm hv hq (by rw [hv, hmu]; exact hpl) stt) ?_⟩
    unfold mirOf at hm
    rw [if_pos hq, ← hmu] at hm
    have lenOf : ∀ {S' : Addr → Prop} {σ' : L2.St} {H' : Hp} {g' : Gm}, Stp S (L2.start N vs) H (slots mu qs ++ List.replicate (N.length - mu.length) .junk) S' σ' H' g' → Sta (⟨P, w, K, mg, base, N, k, xc, fun cls d _ H' => E cls d H'⟩ : Ctx) S' σ' H' g' → mu.length ≤ g'.length := fun k s => by
      rw [← s.len, k.len]
      unfold L2.start
      rw [List.length_append, List.length_map, List.length_replicate, hv]
      omega
    generalize body (slots mu qs ++ List.replicate (N.length - mu.length) .junk) = r at hm
    cases r with
    | stuck => exact hm
    | err x g' =>
      intro S' σ' H' cls d k' st' ex
      obtain ⟨k2, st2, ft1, ft2⟩ := end_of (C1 := C) hK hx hv hq (lenOf k' st') k' st'
      exact hm S' H' cls d k2 st2 ex
    | ok o =>
      cases o with
      | bk g' => exact hm.elim
      | ct g' => exact hm.elim
      | nx g' =>
        intro S' σ' H' k' st'
        obtain ⟨k2, st2, ft1, ft2⟩ := end_of (C1 := C) hK hx hv hq (lenOf k' st') k' st'
        exact hm S' H' .non k2 st2 (rep_non.mpr rfl)
      | rt v g' =>
        intro S' σ' H' u k' st' r
        obtain ⟨k2, st2, ft1, ft2⟩ := end_of (C1 := C) hK hx hv hq (lenOf k' st') k' st'
        exact hm S' H' u k2 st2 r
      | rn v g' =>
        intro S' σ' H' p k' st' r
        obtain ⟨k2, st2, ft1, ft2⟩ := end_of (C1 := C) hK hx hv hq (lenOf k' st') k' st'
        refine hm S' H' p k2 st2 ⟨?_, fun a z => ⟨(r.2 a z).1.imp id (ft1 a), (r.2 a z).2.1, fun f => (r.2 a z).2.2 (ft2 a f)⟩⟩
        rw [hK, hx]; exact r.1
/-- freely read: a thing of one's own, in a part of the code where it stays -/
def seenM : PV → Option PV
  | .lst ps => some (.lst ps)
  | .dk ks ps => some (.dk ks ps)
  | .dt ks ps => some (.dt ks ps)
  | .mat rows => some (.lst rows)
  | .box rows => some (.tup rows)
  | _ => none
section
variable {K : PySem.W.Frag} {xc : Xc} {S S' : Addr → Prop} {H H' : Hp}
/-- a thing of one's own as a value -/
theorem Ob.seen {v w : PV} {p : Addr} (h : seenM v = some w) (ob : Ob K xc S H v p) : Rep K xc (fun a => S a ∨ a = p ∨ Sub H v p a) H w (.ref p) := by
  have k : Kee S H (fun a => S a ∨ a = p ∨ Sub H v p a) H := ⟨fun a z => .inl z, fun _ _ z _ => z⟩
  cases v with
  | lst ps => cases h; obtain ⟨xs, h1, h2⟩ := ob; exact rep_lst.mpr ⟨p, xs, rfl, .inr (.inl rfl), h1, h2.kee k⟩
  | dk ks ps => cases h; obtain ⟨xs, h1, h2, h3⟩ := ob; exact rep_dk.mpr ⟨p, xs, rfl, .inr (.inl rfl), h1, h2, h3.kee k⟩
  | dt ks ps => cases h; obtain ⟨xs, h1, h2, h3⟩ := ob; exact rep_dt.mpr ⟨p, xs, rfl, .inr (.inl rfl), h1, h2, h3.kee k⟩
  | mat rows =>
    cases h
    obtain ⟨qs, h1, _, h3⟩ := ob
    refine rep_lst.mpr ⟨p, qs.map V.ref, rfl, .inr (.inl rfl), h1, ?_⟩
    have all : ∀ {l : List Addr} {rs : List PV}, (∀ q ∈ l, V.ref q ∈ qs.map V.ref) → Paired (fun q row => ∃ ps xs, row = PV.lst ps ∧ H q = some (.lst xs) ∧ RepL K xc S H ps xs) l rs →
        RepL K xc (fun a => S a ∨ a = p ∨ Sub H (.mat rows) p a) H rs (l.map V.ref) := by
      intro l rs hm hr
      induction hr with
      | nil => exact RepL.nil.mpr rfl
      | cons r t ih =>
        obtain ⟨ps, xs, e1, e2, e3⟩ := r
        subst e1
        refine RepL.cons.mpr ⟨_, _, rfl, rep_lst.mpr ⟨_, xs, rfl, .inr (.inr ⟨_, h1, hm _ List.mem_cons_self⟩), e2, e3.kee k⟩, ih fun q hq => hm q (List.mem_cons_of_mem _ hq)⟩
    exact all (fun q hq => List.mem_map.mpr ⟨q, hq, rfl⟩) h3
  | box rows =>
    cases h
    obtain ⟨qs, h1, _, h3⟩ := ob
    refine rep_tup.mpr ⟨p, qs, rfl, h1, ?_⟩
    have all : ∀ {l : List V} {rs : List PV}, (∀ q ∈ l, q ∈ qs) → Paired (fun u row => (isSca row = true ∧ Rep K xc S H row u ∧ ∀ q, u ≠ V.ref q) ∨ ∃ q ps xs, row = PV.lst ps ∧ u = V.ref q ∧ q ≠ p ∧ H q = some (.lst xs) ∧ RepL K xc S H ps xs) l rs →
        RepL K xc (fun a => S a ∨ a = p ∨ Sub H (.box rows) p a) H rs l := by
      intro l rs hm hr
      induction hr with
      | nil => exact RepL.nil.mpr rfl
      | cons r t ih =>
        refine RepL.cons.mpr ⟨_, _, rfl, ?_, ih fun q hq => hm q (List.mem_cons_of_mem _ hq)⟩
        rcases r with ⟨_, e2, _⟩ | ⟨q, ps, xs, e1, e2, e3, e4, e5⟩
        · exact e2.kee k
        · subst e1 e2
          exact rep_lst.mpr ⟨q, xs, rfl, .inr (.inr ⟨_, h1, hm _ List.mem_cons_self⟩), e4, e5.kee k⟩
    exact all (fun q hq => hq) h3
  | _ => cases h
end
end L3

namespace L3
open PySem PySem.Spec PyProof.Rows L2
/-! ### calls of the program's defs -/
structure Cal (P : Program) (w : World) (K : PySem.W.Frag) (mg : Str → Option Value) (base : Heap) (xc : Xc) (x : Str) (k : Nat) (mu : List Bool) (mir : MF) : Prop where
  ex : ∃ f fd ps, FnOk P w K mg base (L2.CX P w) k f fd ps (spOf K xc mu mir) ∧ mg x = some (.ref f) ∧ PySem.W.keepIn K (.ref f) = true ∧ Binds K fd ps []
abbrev CalC (C : Ctx) (x : Str) (k : Nat) (mu : List Bool) (mir : MF) : Prop := Cal C.P C.w C.K C.mg C.base C.xc x k mu mir
theorem callS_x {x0 : Cx} {P : Program} {w : World} {K : PySem.W.Frag} {mg : Str → Option Value} {base : Heap} {x : Str} {k n : Nat} {f : Addr} {fd : FuncData} {ps : List Str} {sp : Sp} {W : WX} {p pos : Pos} {e : Expr} {es : List Expr} {t : TA}
    (hP : x0.prog = P) (hw : x0.w = w) (hK : x0.K = K) (hm : x0.mg = mg) (hb : x0.base = base) (hr : Room n x0.A) (tk : Takes x0 W) (F : FnOk P w K mg base (L2.CX P w) k f fd ps sp) (hk : k ≤ n) (hg : Gl x0 x) (hx : mg x = some (.ref f)) (kp : PySem.W.keepIn K (.ref f) = true) (bd : Binds K fd ps [])
    (ha : PA x0 (e :: es) t) (hdb : (x == ("__debug__" : Str)) = false) (he : starEach (e :: es) x0.env = (false, eval e x0.env) :: starEach es x0.env) (hpl : (backTo pos (starEach es x0.env)).any (·.1) = false) :
    PE x0 (.Call (.Name x p) (e :: es) [] pos) (tCallS sp (WE W) t) := by
  subst hP hw hK hm hb
  exact pe_callS F (hr.mono hk) hg hx kp bd (fun σ => passAt tk σ) ha hdb he hpl
def pCall (n : Nat) (mir : MF) (l : LF) : PF := fun g => (l g).bind fun ps => if ps.length = n then
  match mir ps with
  | .ok r _ => .ok r
  | .new r _ => R.of (seenM r)
  | .err x _ => .err x g
  | .stuck => .stuck
  else .stuck
theorem slO_vals : ∀ (n : Nat) {ps : List PV}, ps.length = n → slO (List.replicate n false) ps = ps.map Slot.val
  | 0, [], _ => rfl
  | n + 1, p :: ps, h => by
    rw [List.replicate_succ]
    show Slot.val p :: slO (List.replicate n false) ps = _
    rw [slO_vals n (by simpa using h)]; rfl
theorem sta_vals {C : Ctx} {S : Addr → Prop} {H : Hp} {ps : List PV} {us : List V} (r : RepL C.K C.xc S H ps us) (hl : ∀ a, S a → H a ≠ none) : Sta C S (us.map some) H (ps.map Slot.val) where
  len := by rw [List.length_map, List.length_map, r.len]
  val := fun i v e => by
    rw [List.getElem?_map] at e
    cases h : ps[i]? with
    | none => rw [h] at e; cases e
    | some p =>
      rw [h] at e
      cases e
      obtain ⟨u, h1, h2⟩ := r.get h
      exact ⟨u, by rw [List.getElem?_map, h1]; rfl, h2⟩
  own := fun i s v e c => by
    rw [List.getElem?_map] at e
    cases h : ps[i]? with
    | none => rw [h] at e; cases e
    | some p => rw [h] at e; cases e; cases c
  apart := fun i j s t v w p q a _ e c => by
    rw [List.getElem?_map] at e
    cases h : ps[i]? with
    | none => rw [h] at e; cases e
    | some p => rw [h] at e; cases e; cases c
  out := fun a ⟨i, s, v, p, e, c, _⟩ => by
    rw [List.getElem?_map] at e
    cases h : ps[i]? with
    | none => rw [h] at e; cases e
    | some p => rw [h] at e; cases e; cases c
  live := hl
theorem nofoot_vals {σ : L2.St} {H : Hp} {ps : List PV} {a : Addr} : ¬ Foot σ H (ps.map Slot.val) a := fun ⟨i, s, v, p, e, c, _⟩ => by
  rw [List.getElem?_map] at e
  cases h : ps[i]? with
  | none => rw [h] at e; cases e
  | some p => rw [h] at e; cases e; cases c
theorem Stp.gro {C : Ctx} {S S' : Addr → Prop} {σ : L2.St} {H H' : Hp} {ps : List PV} {g' : Gm} (k : Stp S σ H (ps.map Slot.val) S' σ H' g') (hl : ∀ a, S' a → H' a ≠ none) : Gro S H S' H' :=
  ⟨k.sub, fun a h => by
    rcases k.new a h with z | z | z
    · exact .inl z
    · exact .inr ⟨z, hl a h⟩
    · exact absurd z nofoot_vals, fun a o e => k.frm a o e (.inl nofoot_vals)⟩
section
variable {ι : Type} {X : ι → Cx} {C : Ctx} {e a b : Expr} {f fa fb : PF} {pos p : Pos} {es : List Expr} {fl : LF} {x : Str} {k n : Nat} {mir : MF}
theorem p_call (F : Fam X C) (c : CalC C x k (List.replicate n false) mir) (hk : k ≤ C.k) (hg : ∀ i, Gl (X i) x) (ha : LX X C (e :: es) fl) (hdb : (x == ("__debug__" : Str)) = false := by decide)
    (he : ∀ i, starEach (e :: es) (X i).env = (false, eval e (X i).env) :: starEach es (X i).env := by intro _; rfl) (hpl : ∀ i, (backTo pos (starEach es (X i).env)).any (·.1) = false := by intro _; rfl) : PX X C (.Call (.Name x p) (e :: es) [] pos) (pCall n mir fl) := by
  obtain ⟨fA, fd, ps, G, h1, h2, h3⟩ := c.ex
  obtain ⟨t, pa, sl⟩ := ha
  refine ⟨tCallS _ (WE C.W) t, fun i => callS_x (F.P i) (F.w i) (F.K i) (F.mg i) (F.base i) (F.room i) (F.tk i) G hk (hg i) h1 h2 h3 (pa i) hdb (he i) (hpl i), fun S σ H g Q st hp => ?_⟩
  refine SimL.bind1 sl st hp fun xs us S1 H1 k1 s1 ru q => ?_
  by_cases hz : xs.length = n
  · rw [if_pos hz] at q
    refine ⟨S1, xs, C, by rw [← ru.len, hz, List.length_replicate], by rw [hz, List.length_replicate], rfl, rfl, by rw [slO_vals n hz]; exact sta_vals ru s1.live, ?_⟩
    match e : mir xs, q with
    | .stuck, q => exact q
    | .err x cs, q =>
      intro S' H' cls d k' st' ex
      rw [slO_vals n hz] at k'
      exact q S' H' cls d (k'.gro (C := C) st'.live) ex
    | .ok r cs, q =>
      intro S' H' u k' st' rr
      rw [slO_vals n hz] at k'
      exact q S' H' u (k'.gro (C := C) st'.live) rr
    | .new r cs, q =>
      intro S' H' p k' st' nw
      rw [slO_vals n hz] at k'
      dsimp only at q
      match e2 : seenM r, q with
      | none, q => exact q.elim
      | some w, q =>
        have g1 := k'.gro (C := C) st'.live
        have nw2 := nw.2
        rw [slO_vals n hz] at nw2
        refine q _ H' _ ⟨fun a z => .inl (g1.sub a z), fun a z => ?_, g1.same⟩ (nw.1.seen e2)
        rcases z with z | z
        · exact g1.new a z
        · refine .inr ⟨?_, nw.1.aliveSub z⟩
          rcases (nw2 a z).1 with y | y
          · exact y
          · exact absurd y nofoot_vals
  · rw [if_neg hz] at q; exact q.elim
end
/-! ### expressions that change slots -/
def R.wit {α : Type} (r : R α) (g : Gm) : R (α × Gm) := match r with
  | .ok v => .ok (v, g)
  | .err x _ => .err x g
  | .stuck => .stuck
@[simp] theorem R.wit_ok {α : Type} (a : α) (g : Gm) : (R.ok a).wit g = .ok (a, g) := (rfl)
@[simp] theorem R.wit_err {α : Type} (e : Exc) (g g' : Gm) : (R.err e g' : R α).wit g = .err e g := (rfl)
@[simp] theorem R.wit_stuck {α : Type} (g : Gm) : (R.stuck : R α).wit g = .stuck := (rfl)
def eP (f : PF) : EF := fun g => (f g).wit g
def eOp (f : PV → PV → Option PV) (a b : EF) : EF := fun g => (a g).bind fun x => (b x.2).bind fun y => (R.of (f x.1 y.1)).bind fun z => .ok (z, y.2)
def aNil : AF := fun g => .ok ([], g)
def aCons (a : EF) (l : AF) : AF := fun g => (a g).bind fun x => (l x.2).bind fun xs => .ok (x.1 :: xs.1, xs.2)
def eTup (l : AF) : EF := fun g => (l g).bind fun xs => if xs.1.length ≤ 1000 then .ok (.tup xs.1, xs.2) else .stuck
def eLst (l : AF) : EF := fun g => (l g).bind fun xs => if xs.1.length ≤ 1000 then .ok (.lst xs.1, xs.2) else .stuck
section
variable {C : Ctx} {S S1 : Addr → Prop} {σ : L2.St} {H H1 : Hp} {g g1 : Gm}
theorem PostPX.of (st : Sta C S σ H g) {x : Exc} {g' : Gm} (h : PostX C S σ H g x g) : PostPX C S σ H x := fun S' H' cls d k e => h S' σ H' cls d (st.stpG k) (st.gro k) e
theorem Rep.stp {K : PySem.W.Frag} {xc : Xc} {S' : Addr → Prop} {σ' : L2.St} {H' : Hp} {g' : Gm} {v : PV} {u : V} (r : Rep C.K C.xc S H v u) (st : Sta C S σ H g) (k : Stp S σ H g S' σ' H' g') : Rep C.K C.xc S' H' v u := r.kee (k.kee st)
end
section
variable {ι : Type} {X : ι → Cx} {C : Ctx} {e a b : Expr} {f : PF} {fa fb : EF} {pos p : Pos} {es : List Expr} {fl : AF} {x : Str}
/-- a pure reading's end, said of slots -/
theorem SimP.toE {t : TE} (s : SimP C t f) : SimE C t (eP f) := fun S σ H g Q st hp => by
  refine s S σ H g Q st ?_
  unfold eP at hp
  match h : f g, hp with
  | .stuck, hp => exact hp
  | .err x g', hp => exact PostPX.of st (g' := g) hp
  | .ok v, hp => exact fun S' H' u k r => hp S' H' u (st.stpG k) (st.gro k) r
theorem e_p (h : PX X C e f) : EX X C e (eP f) := let ⟨t, p, s⟩ := h; ⟨t, p, s.toE⟩
theorem SimE.bind2 {ta tb : TE} {R' : V → V → Hp → Prop} {h : PV → PV → Gm → R (PV × Gm)} {Q : VK} (ha : SimE C ta fa) (hb : SimE C tb fb) {S : Addr → Prop} {σ : L2.St} {H : Hp} {g : Gm} (st : Sta C S σ H g)
    (hp : PostE C S σ H g ((fa g).bind fun x => (fb x.2).bind fun y => h x.1 y.1 y.2) Q)
    (hR : ∀ x y u v S2 H2 g2, Sta C S2 σ H2 g2 → Rep C.K C.xc S2 H2 x u → Rep C.K C.xc S2 H2 y v → PostE C S2 σ H2 g2 (h x y g2) Q → R' u v H2) :
    ta σ H fun u H1 => tb σ H1 fun v H2 => R' u v H2 := by
  refine ha S σ H g _ st ?_
  match e1 : fa g, hp with
  | .stuck, hp => exact hp
  | .err x g', hp => exact hp
  | .ok (x, g1), hp =>
    rw [R.bind_ok] at hp
    intro S1 H1 u k1 s1 r1
    refine hb S1 σ H1 g1 _ s1 ?_
    match e2 : fb g1, hp with
    | .stuck, hp => exact hp
    | .err x g', hp => exact PostX.on k1 hp
    | .ok (y, g2), hp =>
      rw [R.bind_ok] at hp
      intro S2 H2 v k2 s2 r2
      exact hR x y u v S2 H2 g2 s2 (r1.kee (k2.kee s1)) r2 (PostE.on (k1.trans k2) hp)
theorem SimE.bind1 {ta : TE} {R' : V → Hp → Prop} {h : PV → Gm → R (PV × Gm)} {Q : VK} (ha : SimE C ta fa) {S : Addr → Prop} {σ : L2.St} {H : Hp} {g : Gm} (st : Sta C S σ H g) (hp : PostE C S σ H g ((fa g).bind fun x => h x.1 x.2) Q)
    (hR : ∀ x u S1 H1 g1, Sta C S1 σ H1 g1 → Rep C.K C.xc S1 H1 x u → PostE C S1 σ H1 g1 (h x g1) Q → R' u H1) : ta σ H R' := by
  refine ha S σ H g _ st ?_
  match e1 : fa g, hp with
  | .stuck, hp => exact hp
  | .err x g', hp => exact hp
  | .ok (x, g1), hp =>
    rw [R.bind_ok] at hp
    intro S1 H1 u k1 s1 r1
    exact hR x u S1 H1 g1 s1 r1 (PostE.on k1 hp)
theorem SimA.bind1 {tl : TA} {R' : List V → Hp → Prop} {h : List PV → Gm → R (PV × Gm)} {Q : VK} (hl : SimA C tl fl) {S : Addr → Prop} {σ : L2.St} {H : Hp} {g : Gm} (st : Sta C S σ H g) (hp : PostE C S σ H g ((fl g).bind fun x => h x.1 x.2) Q)
    (hR : ∀ xs us S1 H1 g1, Sta C S1 σ H1 g1 → RepL C.K C.xc S1 H1 xs us → PostE C S1 σ H1 g1 (h xs g1) Q → R' us H1) : tl σ H R' := by
  refine hl S σ H g _ st ?_
  match e1 : fl g, hp with
  | .stuck, hp => exact hp
  | .err x g', hp => exact hp
  | .ok (x, g1), hp =>
    rw [R.bind_ok] at hp
    intro S1 H1 u k1 s1 r1
    exact hR x u S1 H1 g1 s1 r1 (PostE.on k1 hp)
/-- the end of a pure step -/
theorem PostE.fin {S : Addr → Prop} {σ : L2.St} {H : Hp} {g : Gm} {z : PV} {Q : VK} (st : Sta C S σ H g) (q : PostE C S σ H g (.ok (z, g)) Q) : ∀ S' H' w, Gro S H S' H' → Rep C.K C.xc S' H' z w → Q w H' := fun S' H' w k r => q S' H' w (st.stpG k) (st.gro k) r
theorem e_op {op : Operator} {r : R2} {h : PV → PV → Option PV} (ho : ∀ i, OpR (X i) (binaryOp op) r) (hs : OpS C.K C.xc r h) (ha : EX X C a fa) (hb : EX X C b fb) : EX X C (.BinOp a op b pos) (eOp h fa fb) := by
  obtain ⟨ta, pa, sa⟩ := ha
  obtain ⟨tb, pb, sb⟩ := hb
  refine ⟨tOp r ta tb, fun i => pe_op (ho i) (pa i) (pb i), fun S σ H g Q st hp => ?_⟩
  refine SimE.bind2 (h := fun x y g => (R.of (h x y)).bind fun z => .ok (z, g)) sa sb st hp fun x y u v S2 H2 g2 s2 ru rv q => ?_
  match e : h x y, q with
  | none, q => exact q.elim
  | some z, q => exact hs S2 H2 x y z u v Q e ru rv (PostE.fin s2 q)
theorem e_cmp {op : CmpOp} {r : R2} {h : PV → PV → Option PV} (ho : ∀ i, OpR (X i) (compareOp op) r) (hs : OpS C.K C.xc r h) (ha : EX X C a fa) (hb : EX X C b fb) (hm : behindInMarks op b = false) : EX X C (.Compare a [op] [b] pos) (eOp h fa fb) := by
  obtain ⟨ta, pa, sa⟩ := ha
  obtain ⟨tb, pb, sb⟩ := hb
  refine ⟨tOp r ta tb, fun i => pe_cmpR (ho i) (pa i) (pb i) hm, fun S σ H g Q st hp => ?_⟩
  refine SimE.bind2 (h := fun x y g => (R.of (h x y)).bind fun z => .ok (z, g)) sa sb st hp fun x y u v S2 H2 g2 s2 ru rv q => ?_
  match e : h x y, q with
  | none, q => exact q.elim
  | some z, q => exact hs S2 H2 x y z u v Q e ru rv (PostE.fin s2 q)
theorem e_ix (hK : ∀ i, (X i).K = C.K) (ha : EX X C a fa) (hb : EX X C b fb) (hs : PlainIx b) : EX X C (.Subscript a b pos) (eOp vIx fa fb) := by
  obtain ⟨ta, pa, sa⟩ := ha
  obtain ⟨tb, pb, sb⟩ := hb
  refine ⟨tOp (rIx C.K) ta tb, fun i => pe_ix (by rw [← hK i]; exact ix_seq) (pa i) (pb i) hs, fun S σ H g Q st hp => ?_⟩
  refine SimE.bind2 (h := fun x y g => (R.of (vIx x y)).bind fun z => .ok (z, g)) sa sb st hp fun x y u v S2 H2 g2 s2 ru rv q => ?_
  match e : vIx x y, q with
  | none, q => exact q.elim
  | some z, q => exact s_ix S2 H2 x y z u v Q e ru rv (PostE.fin s2 q)
theorem a_nil : AX X C [] aNil := ⟨tNil, fun _ => pa_nil, fun S σ H g Q st hp => hp S H [] .refl st (RepL.nil.mpr rfl)⟩
theorem a_cons (ha : EX X C a fa) (hl : AX X C es fl) (hs : ∀ i, starEach (a :: es) (X i).env = (false, eval a (X i).env) :: starEach es (X i).env := by intro _; rfl) : AX X C (a :: es) (aCons fa fl) := by
  obtain ⟨ta, pa, sa⟩ := ha
  obtain ⟨tl, pl, sl⟩ := hl
  refine ⟨tCons ta tl, fun i => pa_cons (pa i) (pl i) (hs i), fun S σ H g Q st hp => ?_⟩
  unfold aCons at hp
  refine sa S σ H g _ st ?_
  match e1 : fa g, hp with
  | .stuck, hp => exact hp
  | .err x g', hp => exact hp
  | .ok (x, g1), hp =>
    rw [R.bind_ok] at hp
    intro S1 H1 u k1 s1 r1
    refine sl S1 σ H1 g1 _ s1 ?_
    match e2 : fl g1, hp with
    | .stuck, hp => exact hp
    | .err x g', hp => exact PostX.on k1 hp
    | .ok (xs, g2), hp =>
      rw [R.bind_ok] at hp
      intro S2 H2 us k2 s2 r2
      exact hp S2 H2 (u :: us) (k1.trans k2) s2 (RepL.cons.mpr ⟨u, us, rfl, r1.kee (k2.kee s1), r2⟩)
theorem e_tup {k : Nat} (hl : AX X C es fl) : EX X C (.Tuple es k pos) (eTup fl) := by
  obtain ⟨tl, pl, sl⟩ := hl
  refine ⟨tTup tl, fun i => pe_tup (pl i), fun S σ H g Q st hp => ?_⟩
  refine SimA.bind1 (h := fun xs g => if xs.length ≤ 1000 then .ok (.tup xs, g) else .stuck) sl st hp fun xs us S1 H1 g1 s1 ru q => ?_
  by_cases hz : xs.length ≤ 1000
  · rw [if_pos hz] at q
    refine ⟨by rw [← ru.len]; exact small_le hz, fun p np => PostE.fin s1 q S1 _ _ (Gro.upd np) (rep_tup.mpr ⟨p, us, rfl, upd_same, ru.kee (Gro.upd np).kee⟩)⟩
  · rw [if_neg hz] at q; exact q.elim
theorem e_lst (hl : AX X C es fl) : EX X C (.List es pos) (eLst fl) := by
  obtain ⟨tl, pl, sl⟩ := hl
  refine ⟨tLst tl, fun i => pe_lst (pl i), fun S σ H g Q st hp => ?_⟩
  refine SimA.bind1 (h := fun xs g => if xs.length ≤ 1000 then .ok (.lst xs, g) else .stuck) sl st hp fun xs us S1 H1 g1 s1 ru q => ?_
  by_cases hz : xs.length ≤ 1000
  · rw [if_pos hz] at q
    exact ⟨by rw [← ru.len]; exact small_le hz, fun p np => PostE.fin s1 q _ _ _ (Gro.plus np) (rep_new ru np)⟩
  · rw [if_neg hz] at q; exact q.elim
end
end L3

namespace L3
open PySem PySem.Spec PyProof.Rows L2
/-! ### calls that change their arguments -/
inductive Arg where
  | av (p : PV) | as (i : Nat)
abbrev GF := Gm → R (List Arg × Gm)
section
variable (K : PySem.W.Frag) (xc : Xc) (S : Addr → Prop) (H : Hp) (σ : L2.St)
def ArgR : List Arg → List V → Prop
  | [], us => us = []
  | .av p :: as, us => ∃ u r, us = u :: r ∧ Rep K xc S H p u ∧ ArgR as r
  | .as i :: as, us => ∃ u r, us = u :: r ∧ σ[i]? = some (some u) ∧ ArgR as r
end
theorem ArgR.kee {K : PySem.W.Frag} {xc : Xc} {S S' : Addr → Prop} {H H' : Hp} {σ : L2.St} (k : Kee S H S' H') : ∀ {as : List Arg} {us : List V}, ArgR K xc S H σ as us → ArgR K xc S' H' σ as us
  | [], _, h => h
  | .av p :: as, _, ⟨u, r, e, h1, h2⟩ => ⟨u, r, e, h1.kee k, ArgR.kee k h2⟩
  | .as i :: as, _, ⟨u, r, e, h1, h2⟩ => ⟨u, r, e, h1, ArgR.kee k h2⟩
def PostG (C : Ctx) (S : Addr → Prop) (σ : L2.St) (H : Hp) (g : Gm) (r : R (List Arg × Gm)) (Q : List V → Hp → Prop) : Prop := match r with
  | .ok (as, g') => ∀ S' H' us, Stp S σ H g S' σ H' g' → Sta C S' σ H' g' → ArgR C.K C.xc S' H' σ as us → Q us H'
  | .err x g' => PostX C S σ H g x g'
  | .stuck => False
def SimG (C : Ctx) (t : TA) (f : GF) : Prop := ∀ S σ H g Q, Sta C S σ H g → PostG C S σ H g (f g) Q → t σ H Q
def GX {ι : Type} (X : ι → Cx) (C : Ctx) (es : List Expr) (f : GF) : Prop := ∃ t, (∀ i, PA (X i) es t) ∧ SimG C t f
/-- the contents that the callee sees -/
def fill : List Bool → List Arg → Gm → Option (List PV)
  | [], [], _ => some []
  | false :: mu, .av p :: as, g => (fill mu as g).map (p :: ·)
  | true :: mu, .as i :: as, g => ((g[i]?).bind Slot.cont).bind fun v => (fill mu as g).map (v :: ·)
  | _, _, _ => none
def setC (g : Gm) (i : Nat) (c : PV) : Gm := match g[i]? with
  | some (.own _) => g.set i (.own c)
  | some (.prm _) => g.set i (.prm c)
  | _ => g
def put : List Bool → List Arg → List PV → Gm → Gm
  | true :: mu, .as i :: as, c :: cs, g => put mu as cs (setC g i c)
  | _ :: mu, _ :: as, _ :: cs, g => put mu as cs g
  | _, _, _, g => g
def slotsOf : List Arg → List Nat
  | [] => []
  | .as i :: as => i :: slotsOf as
  | .av _ :: as => slotsOf as
def cgNil : GF := fun g => .ok ([], g)
def cgVal (a : EF) (l : GF) : GF := fun g => (a g).bind fun x => (l x.2).bind fun xs => .ok (.av x.1 :: xs.1, xs.2)
def cgSlot (i : Nat) (l : GF) : GF := fun g => (R.of ((g[i]?).bind Slot.cont)).bind fun _ => (l g).bind fun xs => .ok (.as i :: xs.1, xs.2)
def eCall (mu : List Bool) (mir : MF) (l : GF) : EF := fun g => (l g).bind fun as =>
  if (slotsOf as.1).Nodup then (R.of (fill mu as.1 as.2)).bind fun ps => match mir ps with
    | .ok r cs => if cs.length = mu.length then .ok (r, put mu as.1 cs as.2) else .stuck
    | .new r cs => if cs.length = mu.length then (R.of (seenM r)).bind fun w => .ok (w, put mu as.1 cs as.2) else .stuck
    | .err x cs => if cs.length = mu.length then .err x (put mu as.1 cs as.2) else .stuck
    | .stuck => .stuck
  else .stuck
section
variable {C : Ctx} {S S' : Addr → Prop} {σ σ' : L2.St} {H H' : Hp} {g g' : Gm}
theorem setC_len (g : Gm) (i : Nat) (c : PV) : (setC g i c).length = g.length := by
  unfold setC; split <;> simp
theorem put_len : ∀ (mu : List Bool) (as : List Arg) (cs : List PV) (g : Gm), (put mu as cs g).length = g.length
  | [], _, _, _ => by unfold put; rfl
  | true :: mu, [], _, _ => by unfold put; rfl
  | false :: mu, [], _, _ => by unfold put; rfl
  | true :: mu, .as i :: as, [], _ => by unfold put; rfl
  | true :: mu, .av p :: as, [], _ => by unfold put; rfl
  | false :: mu, .as i :: as, [], _ => by unfold put; rfl
  | false :: mu, .av p :: as, [], _ => by unfold put; rfl
  | true :: mu, .as i :: as, c :: cs, g => by unfold put; rw [put_len mu as cs, setC_len]
  | true :: mu, .av p :: as, c :: cs, g => by unfold put; exact put_len mu as cs g
  | false :: mu, .as i :: as, c :: cs, g => by unfold put; exact put_len mu as cs g
  | false :: mu, .av p :: as, c :: cs, g => by unfold put; exact put_len mu as cs g
theorem setC_ne {g : Gm} {i j : Nat} {c : PV} (h : j ≠ i) : (setC g i c)[j]? = g[j]? := by
  unfold setC; split <;> first | rfl | exact List.getElem?_set_ne (Ne.symm h)
/-- the slot i is handed over, at place j -/
def Hand (mu : List Bool) (as : List Arg) (j i : Nat) : Prop := mu[j]? = some true ∧ as[j]? = some (.as i)
theorem hand_slot : ∀ {mu : List Bool} {as : List Arg} {j i : Nat}, Hand mu as j i → i ∈ slotsOf as
  | _, [], _, _, ⟨_, h⟩ => by simp at h
  | _, a :: as, 0, i, ⟨_, h⟩ => by
    simp at h; subst h; simp [slotsOf]
  | [], a :: as, j + 1, i, ⟨h, _⟩ => by simp at h
  | m :: mu, a :: as, j + 1, i, ⟨h1, h2⟩ => by
    have ih := hand_slot (mu := mu) (as := as) (j := j) (i := i) ⟨by simpa using h1, by simpa using h2⟩
    cases a <;> simp [slotsOf, ih]
theorem put_out : ∀ {mu : List Bool} {as : List Arg} {cs : List PV} {g : Gm} {i : Nat}, (∀ j, ¬ Hand mu as j i) → (put mu as cs g)[i]? = g[i]?
  | [], _, _, _, _, _ => by unfold put; rfl
  | true :: mu, [], _, _, _, _ => by unfold put; rfl
  | false :: mu, [], _, _, _, _ => by unfold put; rfl
  | true :: mu, .as _ :: as, [], _, _, _ => by unfold put; rfl
  | true :: mu, .av p :: as, [], _, _, _ => by unfold put; rfl
  | false :: mu, .as _ :: as, [], _, _, _ => by unfold put; rfl
  | false :: mu, .av p :: as, [], _, _, _ => by unfold put; rfl
  | true :: mu, .as i' :: as, c :: cs, g, i, h => by
    unfold put
    rw [put_out fun j z => h (j + 1) ⟨by simpa using z.1, by simpa using z.2⟩]
    exact setC_ne fun e => h 0 ⟨rfl, by rw [e]; rfl⟩
  | true :: mu, .av p :: as, c :: cs, g, i, h => by
    unfold put
    exact put_out fun j z => h (j + 1) ⟨by simpa using z.1, by simpa using z.2⟩
  | false :: mu, .as i' :: as, c :: cs, g, i, h => by
    unfold put
    exact put_out fun j z => h (j + 1) ⟨by simpa using z.1, by simpa using z.2⟩
  | false :: mu, .av p :: as, c :: cs, g, i, h => by
    unfold put
    exact put_out fun j z => h (j + 1) ⟨by simpa using z.1, by simpa using z.2⟩
/-- what stands in a slot that was handed over -/
theorem put_in : ∀ {mu : List Bool} {as : List Arg} {cs : List PV} {g : Gm} {j i : Nat} {s : Slot} {v : PV}, (slotsOf as).Nodup → cs.length = mu.length → Hand mu as j i → g[i]? = some s → s.cont = some v →
    ∃ s' c, (put mu as cs g)[i]? = some s' ∧ s'.cont = some c ∧ (afO mu cs)[j]? = some (.own c) ∧ (∀ w, s = .prm w → s' = .prm c)
  | [], _, _, _, _, _, _, _, _, _, h, _, _ => by simp [Hand] at h
  | _ :: _, [], _, _, _, _, _, _, _, _, h, _, _ => by simp [Hand] at h
  | _ :: _, _ :: _, [], _, _, _, _, _, _, h, _, _, _ => by simp at h
  | m :: mu, .as i' :: as, c :: cs, g, 0, i, s, v, nd, hl, h, hs, hc => by
    obtain ⟨h1, h2⟩ := h
    simp at h1 h2
    subst h1 h2
    have ni : i' ∉ slotsOf as := (List.nodup_cons.mp nd).1
    unfold put
    rw [put_out fun j z => ni (hand_slot z)]
    have hlt : i' < g.length := (List.getElem?_eq_some_iff.mp hs).1
    unfold setC
    cases s with
    | own w => rw [hs]; exact ⟨.own c, c, List.getElem?_set_self hlt, rfl, rfl, fun w z => by cases z⟩
    | prm w => rw [hs]; exact ⟨.prm c, c, List.getElem?_set_self hlt, rfl, rfl, fun w z => rfl⟩
    | _ => cases hc
  | m :: mu, .av p :: as, c :: cs, g, 0, i, s, v, nd, hl, h, hs, hc => by simp [Hand] at h
  | true :: mu, .as i' :: as, c :: cs, g, j + 1, i, s, v, nd, hl, h, hs, hc => by
    have h' : Hand mu as j i := ⟨by simpa using h.1, by simpa using h.2⟩
    obtain ⟨n1, n2⟩ := List.nodup_cons.mp nd
    have ne : i ≠ i' := fun e => n1 (e ▸ hand_slot h')
    unfold put
    obtain ⟨s', c', k1, k2, k3, k4⟩ := put_in (cs := cs) (g := setC g i' c) n2 (by simpa using hl) h' (by rw [setC_ne ne]; exact hs) hc
    exact ⟨s', c', k1, k2, by simpa [afO] using k3, k4⟩
  | false :: mu, .as i' :: as, c :: cs, g, j + 1, i, s, v, nd, hl, h, hs, hc => by
    have h' : Hand mu as j i := ⟨by simpa using h.1, by simpa using h.2⟩
    unfold put
    obtain ⟨s', c', k1, k2, k3, k4⟩ := put_in (cs := cs) (g := g) (List.nodup_cons.mp nd).2 (by simpa using hl) h' hs hc
    exact ⟨s', c', k1, k2, by simpa [afO] using k3, k4⟩
  | true :: mu, .av p :: as, c :: cs, g, j + 1, i, s, v, nd, hl, h, hs, hc => by
    have h' : Hand mu as j i := ⟨by simpa using h.1, by simpa using h.2⟩
    unfold put
    obtain ⟨s', c', k1, k2, k3, k4⟩ := put_in (cs := cs) (g := g) (by simpa [slotsOf] using nd) (by simpa using hl) h' hs hc
    exact ⟨s', c', k1, k2, by simpa [afO] using k3, k4⟩
  | false :: mu, .av p :: as, c :: cs, g, j + 1, i, s, v, nd, hl, h, hs, hc => by
    have h' : Hand mu as j i := ⟨by simpa using h.1, by simpa using h.2⟩
    unfold put
    obtain ⟨s', c', k1, k2, k3, k4⟩ := put_in (cs := cs) (g := g) (by simpa [slotsOf] using nd) (by simpa using hl) h' hs hc
    exact ⟨s', c', k1, k2, by simpa [afO] using k3, k4⟩
/-- what the callee's slots are -/
theorem fill_get : ∀ {mu : List Bool} {as : List Arg} {g : Gm} {ps : List PV} {us : List V}, fill mu as g = some ps → ArgR C.K C.xc S H σ as us → ps.length = mu.length ∧ us.length = mu.length ∧
    ∀ j s, (slO mu ps)[j]? = some s → (∃ p u, s = .val p ∧ us[j]? = some u ∧ Rep C.K C.xc S H p u) ∨ (∃ i s0 v, s = .own v ∧ Hand mu as j i ∧ g[i]? = some s0 ∧ s0.cont = some v ∧ (us.map some)[j]? = σ[i]?)
  | [], [], g, ps, us, h, r => by
    unfold fill at h; cases h
    have r' : us = [] := r
    subst r'
    exact ⟨rfl, rfl, fun j s z => by simp [slO] at z⟩
  | [], _ :: _, g, ps, us, h, r => by unfold fill at h; cases h
  | true :: mu, [], g, ps, us, h, r => by unfold fill at h; cases h
  | false :: mu, [], g, ps, us, h, r => by unfold fill at h; cases h
  | true :: mu, .av p :: as, g, ps, us, h, r => by unfold fill at h; cases h
  | false :: mu, .as p :: as, g, ps, us, h, r => by unfold fill at h; cases h
  | false :: mu, .av p :: as, g, ps, us, h, r => by
    unfold fill at h
    obtain ⟨u, t, rfl, r1, r2⟩ := r
    cases e : fill mu as g with
    | none => rw [e] at h; cases h
    | some qs =>
      rw [e] at h; cases h
      obtain ⟨l1, l2, ih⟩ := fill_get e r2
      refine ⟨by simp [l1], by simp [l2], fun j s z => ?_⟩
      cases j with
      | zero => simp [slO] at z; subst z; exact .inl ⟨p, u, rfl, rfl, r1⟩
      | succ j =>
        rcases ih j s (by simpa [slO] using z) with ⟨p', u', z1, z2, z3⟩ | ⟨i, s0, v, z1, z2, z3, z4, z5⟩
        · exact .inl ⟨p', u', z1, by simpa using z2, z3⟩
        · exact .inr ⟨i, s0, v, z1, ⟨by simpa using z2.1, by simpa using z2.2⟩, z3, z4, by simpa using z5⟩
  | true :: mu, .as i :: as, g, ps, us, h, r => by
    unfold fill at h
    obtain ⟨u, t, rfl, r1, r2⟩ := r
    cases hg : g[i]? with
    | none => rw [hg] at h; cases h
    | some s0 =>
      rw [hg] at h
      have h' : (s0.cont).bind (fun v => (fill mu as g).map (v :: ·)) = some ps := h
      cases hc : s0.cont with
      | none => rw [hc] at h'; cases h'
      | some v =>
        rw [hc] at h'
        have h2 : (fill mu as g).map (v :: ·) = some ps := h'
        cases e : fill mu as g with
        | none => rw [e] at h2; cases h2
        | some qs =>
          rw [e] at h2; cases h2
          obtain ⟨l1, l2, ih⟩ := fill_get e r2
          refine ⟨by simp [l1], by simp [l2], fun j s z => ?_⟩
          cases j with
          | zero => simp [slO] at z; subst z; exact .inr ⟨i, s0, v, rfl, ⟨rfl, rfl⟩, hg, hc, by simpa using r1.symm⟩
          | succ j =>
            rcases ih j s (by simpa [slO] using z) with ⟨p', u', z1, z2, z3⟩ | ⟨i, s0, v, z1, z2, z3, z4, z5⟩
            · exact .inl ⟨p', u', z1, by simpa using z2, z3⟩
            · exact .inr ⟨i, s0, v, z1, ⟨by simpa using z2.1, by simpa using z2.2⟩, z3, z4, by simpa using z5⟩
/-- a slot is handed over once -/
theorem hand_inj : ∀ {mu : List Bool} {as : List Arg} {j j' i : Nat}, (slotsOf as).Nodup → Hand mu as j i → Hand mu as j' i → j = j'
  | _, [], _, _, _, _, ⟨_, h⟩, _ => by simp at h
  | _, _ :: _, 0, 0, _, _, _, _ => rfl
  | [], _ :: _, _ + 1, _, _, _, ⟨h, _⟩, _ => by simp at h
  | [], _ :: _, 0, _ + 1, _, _, _, ⟨h, _⟩ => by simp at h
  | m :: mu, a :: as, 0, j + 1, i, nd, ⟨_, h1⟩, ⟨h2, h3⟩ => by
    simp at h1; subst h1
    exact absurd (hand_slot (mu := mu) (as := as) (j := j) ⟨by simpa using h2, by simpa using h3⟩) (List.nodup_cons.mp nd).1
  | m :: mu, a :: as, j + 1, 0, i, nd, ⟨h2, h3⟩, ⟨_, h1⟩ => by
    simp at h1; subst h1
    exact absurd (hand_slot (mu := mu) (as := as) (j := j) ⟨by simpa using h2, by simpa using h3⟩) (List.nodup_cons.mp nd).1
  | m :: mu, a :: as, j + 1, j' + 1, i, nd, ⟨h1, h2⟩, ⟨h3, h4⟩ => by
    have nd' : (slotsOf as).Nodup := by
      cases a with
      | av p => exact nd
      | as i => exact (List.nodup_cons.mp nd).2
    rw [hand_inj nd' (mu := mu) (j := j) (j' := j') ⟨by simpa using h1, by simpa using h2⟩ ⟨by simpa using h3, by simpa using h4⟩]
/-- two places, two slots -/
theorem hand_ne {mu : List Bool} {as : List Arg} {j i i' : Nat} (h : Hand mu as j i) (h' : Hand mu as j i') : i = i' := by
  obtain ⟨_, a⟩ := h
  obtain ⟨_, b⟩ := h'
  rw [a] at b
  cases b; rfl
section
variable {mu : List Bool} {as : List Arg} {ps cs : List PV} {us : List V}
/-- the callee's slots stand -/
theorem call_sta (st : Sta C S σ H g) (nd : (slotsOf as).Nodup) (hf : fill mu as g = some ps) (r : ArgR C.K C.xc S H σ as us) : Sta C S (us.map some) H (slO mu ps) ∧ (∀ a, Foot (us.map some) H (slO mu ps) a → Foot σ H g a) := by
  obtain ⟨l1, l2, get⟩ := fill_get hf r
  have ownG : ∀ {j : Nat} {s : Slot} {v : PV}, (slO mu ps)[j]? = some s → s.cont = some v → ∃ i s0, Hand mu as j i ∧ g[i]? = some s0 ∧ s0.cont = some v ∧ (us.map some)[j]? = σ[i]? := fun {j s v} h c => by
    rcases get j s h with ⟨p, u, rfl, _⟩ | ⟨i, s0, v', rfl, h2, h3, h4, h5⟩
    · cases c
    · cases c; exact ⟨i, s0, h2, h3, h4, h5⟩
  refine ⟨⟨?_, fun i v h => ?_, fun j s v h c => ?_, fun j j' s t v w p q a hij h1 h2 h3 h4 h5 h6 h7 h8 => ?_, fun a ⟨j, s, v, p, h1, h2, h3, h4⟩ => ?_, st.live⟩, fun a ⟨j, s, v, p, h1, h2, h3, h4⟩ => ?_⟩
  · rw [List.length_map, (slots_len (mu := mu) (ps := ps) l1).2.1, l1, l2]
  · rcases get i _ h with ⟨p, u, h1, h2, h3⟩ | ⟨_, _, _, h1, _⟩
    · cases h1
      exact ⟨u, by rw [List.getElem?_map, h2]; rfl, h3⟩
    · cases h1
  · obtain ⟨i, s0, _, h3, h4, h5⟩ := ownG h c
    rw [h5]
    exact st.own i s0 v h3 h4
  · obtain ⟨i, s0, a1, a2, a3, a4⟩ := ownG h1 h2
    obtain ⟨i', t0, b1, b2, b3, b4⟩ := ownG h3 h4
    have ne : i ≠ i' := fun e => hij (hand_inj nd a1 (e ▸ b1))
    exact st.apart i i' s0 t0 v w p q a ne a2 a3 b2 b3 (a4 ▸ h5) (b4 ▸ h6) h7 h8
  · obtain ⟨i, s0, _, a2, a3, a4⟩ := ownG h1 h2
    exact st.out a ⟨i, s0, v, p, a2, a3, a4 ▸ h3, h4⟩
  · obtain ⟨i, s0, _, a2, a3, a4⟩ := ownG h1 h2
    exact ⟨i, s0, v, p, a2, a3, a4 ▸ h3, h4⟩
/-- .. and the caller's behind the call -/
theorem call_end (st : Sta C S σ H g) (nd : (slotsOf as).Nodup) (hf : fill mu as g = some ps) (r : ArgR C.K C.xc S H σ as us) (hcs : cs.length = mu.length) (k : Stp S (us.map some) H (slO mu ps) S' (us.map some) H' (afO mu cs)) (st' : Sta C S' (us.map some) H' (afO mu cs)) :
    Stp S σ H g S' σ H' (put mu as cs g) ∧ Sta C S' σ H' (put mu as cs g) ∧
    ((∀ a, Foot (us.map some) H (slO mu ps) a → Foot σ H g a) ∧ ∀ a, (H a = none ∨ Foot (us.map some) H (slO mu ps) a) → ¬ Foot (us.map some) H' (afO mu cs) a → ¬ Foot σ H' (put mu as cs g) a) := by
  obtain ⟨l1, l2, get⟩ := fill_get hf r
  obtain ⟨stc, inc⟩ := call_sta st nd hf r
  -- what is handed over
  have hand : ∀ {i j : Nat} {s0 : Slot} {v : PV}, Hand mu as j i → g[i]? = some s0 → s0.cont = some v → (slO mu ps)[j]? = some (.own v) ∧ (us.map some)[j]? = σ[i]? := fun {i j s0 v} h h1 h2 => by
    have hj : j < mu.length := (List.getElem?_eq_some_iff.mp h.1).1
    cases e : (slO mu ps)[j]? with
    | none =>
      have := List.getElem?_eq_none_iff.mp e
      rw [(slots_len (mu := mu) (ps := ps) l1).2.1, l1] at this; omega
    | some s =>
      rcases get j s e with ⟨p, u, rfl, _⟩ | ⟨i', s0', v', rfl, a1, a2, a3, a4⟩
      · obtain ⟨b, q, m1, _, m3, _⟩ := slO_get e
        rw [h.1] at m1; cases m1; cases m3
      · have := hand_ne h a1
        subst this
        rw [h1] at a2; cases a2
        rw [h2] at a3; cases a3
        exact ⟨rfl, a4⟩
  -- the slots behind: handed over, or as they were
  have look : ∀ {i : Nat} {s : Slot} {v : PV}, (put mu as cs g)[i]? = some s → s.cont = some v → (∃ j s0 w, Hand mu as j i ∧ g[i]? = some s0 ∧ s0.cont = some w ∧ (afO mu cs)[j]? = some (.own v) ∧ (us.map some)[j]? = σ[i]?) ∨ ((∀ j, ¬ Hand mu as j i) ∧ g[i]? = some s) := fun {i s v} h c => by
    by_cases hh : ∃ j, Hand mu as j i
    · obtain ⟨j, hh⟩ := hh
      have hj : j < mu.length := (List.getElem?_eq_some_iff.mp hh.1).1
      have hex : ∃ s0 w, g[i]? = some s0 ∧ s0.cont = some w := by
        cases e : (slO mu ps)[j]? with
        | none =>
          have := List.getElem?_eq_none_iff.mp e
          rw [(slots_len (mu := mu) (ps := ps) l1).2.1, l1] at this; omega
        | some s1 =>
          rcases get j s1 e with ⟨p, u, rfl, _⟩ | ⟨i', s0', v', rfl, a1, a2, a3, a4⟩
          · obtain ⟨b, q, m1, _, m3, _⟩ := slO_get e
            rw [hh.1] at m1; cases m1; cases m3
          · have := hand_ne hh a1
            subst this
            exact ⟨s0', v', a2, a3⟩
      obtain ⟨s0, w, h1, h2⟩ := hex
      obtain ⟨s', c', k1, k2, k3, _⟩ := put_in nd hcs hh h1 h2
      rw [h] at k1; cases k1
      rw [c] at k2; cases k2
      exact .inl ⟨j, s0, w, hh, h1, h2, k3, (hand hh h1 h2).2⟩
    · have hh' : ∀ j, ¬ Hand mu as j i := fun j z => hh ⟨j, z⟩
      rw [put_out hh'] at h
      exact .inr ⟨hh', h⟩
  -- the callee's addresses are not those of a slot that stayed
  have away : ∀ {i : Nat} {s : Slot} {v : PV} {p a : Addr}, (∀ j, ¬ Hand mu as j i) → g[i]? = some s → s.cont = some v → σ[i]? = some (some (V.ref p)) → (a = p ∨ Sub H v p a) → ¬ Foot (us.map some) H (slO mu ps) a := fun {i s v p a} hn h1 h2 h3 h4 ⟨j, s', v', p', b1, b2, b3, b4⟩ => by
    rcases get j s' b1 with ⟨_, _, rfl, _⟩ | ⟨i', s0', w', rfl, a1, a2, a3, a4⟩
    · cases b2
    · cases b2
      exact st.apart i i' s s0' v _ p p' a (fun e => hn j (e ▸ a1)) h1 h2 a2 a3 h3 (a4 ▸ b3) h4 b4
  have stayP : ∀ {i : Nat} {s : Slot} {v : PV} {p : Addr}, (∀ j, ¬ Hand mu as j i) → g[i]? = some s → s.cont = some v → σ[i]? = some (some (V.ref p)) → ∀ a o, (a = p ∨ Sub H v p a) → H a = some o → H' a = some o := fun {i s v p} hn h1 h2 h3 a o h4 h5 => k.frm a o h5 (.inl (away hn h1 h2 h3 h4))
  have obOf : ∀ {i : Nat} {s : Slot} {v : PV} {p : Addr}, g[i]? = some s → s.cont = some v → σ[i]? = some (some (V.ref p)) → Ob C.K C.xc S H v p := fun {i s v p} h1 h2 h3 => by
    obtain ⟨p', q1, q2⟩ := st.own i s v h1 h2
    rw [h3] at q1; cases q1; exact q2
  have subB : ∀ {i : Nat} {s : Slot} {v : PV} {p a : Addr}, (∀ j, ¬ Hand mu as j i) → g[i]? = some s → s.cont = some v → σ[i]? = some (some (V.ref p)) → (a = p ∨ Sub H' v p a) → (a = p ∨ Sub H v p a) := fun {i s v p a} hn h1 h2 h3 h4 =>
    h4.imp id fun z => (obOf h1 h2 h3).subs (fun o e => stayP hn h1 h2 h3 p o (.inl rfl) e) z
  have footB : ∀ a, Foot σ H' (put mu as cs g) a → Foot σ H g a ∨ H a = none := fun a ⟨i, s, v, p, h1, h2, h3, h4⟩ => by
    rcases look h1 h2 with ⟨j, s0, w, _, b1, b2, b3, b4⟩ | ⟨hn, b1⟩
    · exact (k.grw a ⟨j, _, v, p, b3, rfl, b4 ▸ h3, h4⟩).imp (inc a) id
    · exact .inl ⟨i, s, v, p, b1, h2, h3, subB hn b1 h2 h3 h4⟩
  have kk : Stp S σ H g S' σ H' (put mu as cs g) := ⟨k.sub, fun a h => (k.new a h).imp id fun z => z.imp id (inc a), fun a o h hf => k.frm a o h (hf.imp (fun hf z => hf (inc a z)) id), footB, k.alive, rfl, fun i v h => ⟨rfl, by
    by_cases hh : ∃ j, Hand mu as j i
    · obtain ⟨j, hh⟩ := hh
      obtain ⟨s', c', k1, _, _, k4⟩ := put_in nd hcs hh h (v := v) rfl
      exact ⟨c', by rw [k1, k4 v rfl]⟩
    · exact ⟨v, by rw [put_out fun j z => hh ⟨j, z⟩]; exact h⟩⟩⟩
  have valP : ∀ {i : Nat} {v : PV}, (put mu as cs g)[i]? = some (.val v) → g[i]? = some (.val v) := fun {i v} h => by
    by_cases hh : ∃ j, Hand mu as j i
    · obtain ⟨j, hh⟩ := hh
      have hj : j < mu.length := (List.getElem?_eq_some_iff.mp hh.1).1
      cases e : (slO mu ps)[j]? with
      | none =>
        have := List.getElem?_eq_none_iff.mp e
        rw [(slots_len (mu := mu) (ps := ps) l1).2.1, l1] at this; omega
      | some s1 =>
        rcases get j s1 e with ⟨p, u, rfl, _⟩ | ⟨i', s0', v', rfl, a1, a2, a3, a4⟩
        · obtain ⟨b, q, m1, _, m3, _⟩ := slO_get e
          rw [hh.1] at m1; cases m1; cases m3
        · have := hand_ne hh a1
          subst this
          obtain ⟨s', c', k1, k2, _, _⟩ := put_in nd hcs hh a2 a3
          rw [h] at k1; cases k1; cases k2
    · rw [put_out fun j z => hh ⟨j, z⟩] at h; exact h
  refine ⟨kk, ⟨by rw [put_len, st.len], fun i v h => ?_, fun i s v h c => ?_, fun i j s t v w p q a hij h1 h2 h3 h4 h5 h6 h7 h8 => ?_, fun a ⟨i, s, v, p, h1, h2, h3, h4⟩ hS => ?_, st'.live⟩, inc, fun a h0 hn0 ⟨i, s, v, p, h1, h2, h3, h4⟩ => ?_⟩
  · obtain ⟨u, h1, h2⟩ := st.val i v (valP h)
    exact ⟨u, h1, h2.kee (kk.kee st)⟩
  · rcases look h c with ⟨j, s0, w, _, b1, b2, b3, b4⟩ | ⟨hn, b1⟩
    · obtain ⟨p, q1, q2⟩ := st'.own j _ v b3 rfl
      exact ⟨p, b4 ▸ q1, q2⟩
    · obtain ⟨p, q1, q2⟩ := st.own i s v b1 c
      exact ⟨p, q1, q2.stay (kk.kee st) (stayP hn b1 c q1)⟩
  · rcases look h1 h2 with ⟨j1, s0, w1, a0, a1, a2, a3, a4⟩ | ⟨hn1, a1⟩
    · rcases look h3 h4 with ⟨j2, t0, w2, b0, b1, b2, b3, b4⟩ | ⟨hn2, b1⟩
      · exact st'.apart j1 j2 _ _ v w p q a (fun e => hij (hand_ne a0 (e ▸ b0))) a3 rfl b3 rfl (a4 ▸ h5) (b4 ▸ h6) h7 h8
      · have z := subB hn2 b1 h4 h6 h8
        rcases k.grw a ⟨j1, _, v, p, a3, rfl, a4 ▸ h5, h7⟩ with f | f
        · exact away hn2 b1 h4 h6 z f
        · exact (obOf b1 h4 h6).aliveSub z f
    · have z := subB hn1 a1 h2 h5 h7
      rcases look h3 h4 with ⟨j2, t0, w2, b0, b1, b2, b3, b4⟩ | ⟨hn2, b1⟩
      · rcases k.grw a ⟨j2, _, w, q, b3, rfl, b4 ▸ h6, h8⟩ with f | f
        · exact away hn1 a1 h2 h5 z f
        · exact (obOf a1 h2 h5).aliveSub z f
      · exact st.apart i j s t v w p q a hij a1 h2 b1 h4 h5 h6 z (subB hn2 b1 h4 h6 h8)
  · rcases look h1 h2 with ⟨j, s0, w, _, b1, b2, b3, b4⟩ | ⟨hn, b1⟩
    · exact st'.out a ⟨j, _, v, p, b3, rfl, b4 ▸ h3, h4⟩ hS
    · have z := subB hn b1 h2 h3 h4
      rcases k.new a hS with f | f | f
      · exact st.out a ⟨i, s, v, p, b1, h2, h3, z⟩ f
      · exact (obOf b1 h2 h3).aliveSub z f
      · exact away hn b1 h2 h3 z f
  · rcases look h1 h2 with ⟨j, s0, w, _, b1, b2, b3, b4⟩ | ⟨hn, b1⟩
    · exact hn0 ⟨j, _, v, p, b3, rfl, b4 ▸ h3, h4⟩
    · have z := subB hn b1 h2 h3 h4
      rcases h0 with f | f
      · exact (obOf b1 h2 h3).aliveSub z f
      · exact away hn b1 h2 h3 z f
end
/-- a new thing as a value -/
theorem take_new (k : Stp S σ H g S' σ' H' g') (st : Sta C S' σ' H' g') {v w : PV} {p : Addr} (nw : New C σ g S H S' σ' H' g' v p) (e : seenM v = some w) :
    Stp S σ H g (fun a => S' a ∨ a = p ∨ Sub H' v p a) σ' H' g' ∧ Sta C (fun a => S' a ∨ a = p ∨ Sub H' v p a) σ' H' g' ∧ Rep C.K C.xc (fun a => S' a ∨ a = p ∨ Sub H' v p a) H' w (.ref p) := by
  have k3 : Kee S' H' (fun a => S' a ∨ a = p ∨ Sub H' v p a) H' := ⟨fun a z => .inl z, fun _ _ z _ => z⟩
  refine ⟨⟨fun a z => .inl (k.sub a z), fun a z => ?_, k.frm, k.grw, k.alive, k.len, k.keep⟩, ⟨st.len, fun j u h => let ⟨x, h1, h2⟩ := st.val j u h; ⟨x, h1, h2.kee k3⟩, fun j t u h c => let ⟨x, h1, h2⟩ := st.own j t u h c; ⟨x, h1, h2.stay k3 fun a o _ e => e⟩, st.apart, fun a f z => ?_, fun a z => ?_⟩, nw.1.seen e⟩
  · rcases z with z | z
    · exact k.new a z
    · exact .inr (nw.2 a z).1
  · rcases z with z | z
    · exact st.out a f z
    · exact (nw.2 a z).2.2 f
  · rcases z with z | z
    · exact st.live a z
    · exact nw.1.aliveSub z
end
section
variable {ι : Type} {X : ι → Cx} {C : Ctx} {e a b : Expr} {fa : EF} {pos p : Pos} {es : List Expr} {fl : GF} {x : Str} {k : Nat} {mu : List Bool} {mir : MF}
theorem g_nil : GX X C [] cgNil := ⟨tNil, fun _ => pa_nil, fun S σ H g Q st hp => hp S H [] .refl st rfl⟩
theorem g_val (ha : EX X C a fa) (hl : GX X C es fl) (hs : ∀ i, starEach (a :: es) (X i).env = (false, eval a (X i).env) :: starEach es (X i).env := by intro _; rfl) : GX X C (a :: es) (cgVal fa fl) := by
  obtain ⟨ta, pa, sa⟩ := ha
  obtain ⟨tl, pl, sl⟩ := hl
  refine ⟨tCons ta tl, fun i => pa_cons (pa i) (pl i) (hs i), fun S σ H g Q st hp => ?_⟩
  unfold cgVal at hp
  refine sa S σ H g _ st ?_
  match e1 : fa g, hp with
  | .stuck, hp => exact hp
  | .err x g', hp => exact hp
  | .ok (x, g1), hp =>
    rw [R.bind_ok] at hp
    intro S1 H1 u k1 s1 r1
    refine sl S1 σ H1 g1 _ s1 ?_
    match e2 : fl g1, hp with
    | .stuck, hp => exact hp
    | .err x g', hp => exact PostX.on k1 hp
    | .ok (xs, g2), hp =>
      rw [R.bind_ok] at hp
      intro S2 H2 us k2 s2 r2
      exact hp S2 H2 (u :: us) (k1.trans k2) s2 ⟨u, us, rfl, r1.kee (k2.kee s1), r2⟩
theorem g_slot {i : Nat} {y : Str} (hN : ∀ j, (X j).N[i]? = some y) (hv : ∀ j, Vis (X j).env.scope y) (hl : GX X C es fl) (hd : (y == ("__debug__" : Str)) = false := by decide) (hcd : (y == ("__classdict__" : Str)) = false := by decide)
    (hs : ∀ j, starEach (.Name y p :: es) (X j).env = (false, eval (.Name y p) (X j).env) :: starEach es (X j).env := by intro _; rfl) : GX X C (.Name y p :: es) (cgSlot i fl) := by
  obtain ⟨tl, pl, sl⟩ := hl
  refine ⟨tCons (tVar i) tl, fun j => pa_cons (pe_var (hN j) (hv j) hd hcd) (pl j) (hs j), fun S σ H g Q st hp => ?_⟩
  unfold cgSlot at hp
  match e0 : (g[i]?).bind Slot.cont, hp with
  | none, hp => exact hp.elim
  | some v, hp =>
    rw [R.of_some, R.bind_ok] at hp
    obtain ⟨s0, h1, h2⟩ := Option.bind_eq_some_iff.mp e0
    obtain ⟨q, h3, _⟩ := st.own i s0 v h1 h2
    refine ⟨_, h3, ?_⟩
    refine sl S σ H g _ st ?_
    match e2 : fl g, hp with
    | .stuck, hp => exact hp
    | .err x g', hp => exact hp
    | .ok (xs, g2), hp =>
      rw [R.bind_ok] at hp
      intro S2 H2 us k2 s2 r2
      exact hp S2 H2 (.ref q :: us) k2 s2 ⟨.ref q, us, rfl, h3, r2⟩
theorem e_call (F : Fam X C) (c : CalC C x k mu mir) (hk : k ≤ C.k) (hg : ∀ i, Gl (X i) x) (ha : GX X C (e :: es) fl) (hdb : (x == ("__debug__" : Str)) = false := by decide)
    (he : ∀ i, starEach (e :: es) (X i).env = (false, eval e (X i).env) :: starEach es (X i).env := by intro _; rfl) (hpl : ∀ i, (backTo pos (starEach es (X i).env)).any (·.1) = false := by intro _; rfl) : EX X C (.Call (.Name x p) (e :: es) [] pos) (eCall mu mir fl) := by
  obtain ⟨fA, fd, ps, G, h1, h2, h3⟩ := c.ex
  obtain ⟨t, pa, sl⟩ := ha
  refine ⟨tCallS _ (WE C.W) t, fun i => callS_x (F.P i) (F.w i) (F.K i) (F.mg i) (F.base i) (F.room i) (F.tk i) G hk (hg i) h1 h2 h3 (pa i) hdb (he i) (hpl i), fun S σ H g Q st hp => ?_⟩
  refine sl S σ H g _ st ?_
  unfold eCall at hp
  match e1 : fl g, hp with
  | .stuck, hp => exact hp
  | .err x g', hp => exact hp
  | .ok (as, g1), hp =>
    rw [R.bind_ok] at hp
    intro S1 H1 us k1 s1 r1
    dsimp only at hp
    by_cases nd : (slotsOf as).Nodup
    · rw [if_pos nd] at hp
      match e2 : fill mu as g1, hp with
      | none, hp => exact hp.elim
      | some qs, hp =>
        rw [R.of_some, R.bind_ok] at hp
        obtain ⟨l1, l2, _⟩ := fill_get e2 r1
        refine ⟨S1, qs, C, l2, l1, rfl, rfl, (call_sta s1 nd e2 r1).1, ?_⟩
        match e3 : mir qs, hp with
        | .stuck, hp => exact hp
        | .err x cs, hp =>
          dsimp only at hp
          by_cases hz : cs.length = mu.length
          · rw [if_pos hz] at hp
            intro S' H' cls d k' st' ex
            obtain ⟨k2, st2, _⟩ := call_end s1 nd e2 r1 hz k' st'
            exact hp S' σ H' cls d (k1.trans k2) st2 ex
          · rw [if_neg hz] at hp; exact hp.elim
        | .ok r cs, hp =>
          dsimp only at hp
          by_cases hz : cs.length = mu.length
          · rw [if_pos hz] at hp
            intro S' H' u k' st' rr
            obtain ⟨k2, st2, _⟩ := call_end s1 nd e2 r1 hz k' st'
            exact hp S' H' u (k1.trans k2) st2 rr
          · rw [if_neg hz] at hp; exact hp.elim
        | .new r cs, hp =>
          dsimp only at hp
          by_cases hz : cs.length = mu.length
          · rw [if_pos hz] at hp
            match e4 : seenM r, hp with
            | none, hp => exact hp.elim
            | some w, hp =>
              rw [R.of_some, R.bind_ok] at hp
              intro S' H' p k' st' nw
              obtain ⟨k2, st2, ft1, ft2⟩ := call_end s1 nd e2 r1 hz k' st'
              have nw2 : New C σ g S H S' σ H' (put mu as cs g1) r p := New.on k1 ⟨nw.1, fun a z => ⟨(nw.2 a z).1.imp id (ft1 a), (nw.2 a z).2.1, ft2 a (nw.2 a z).1 (nw.2 a z).2.2⟩⟩
              obtain ⟨y1, y2, y3⟩ := take_new (k1.trans k2) st2 nw2 e4
              exact hp _ H' _ y1 y2 y3
          · rw [if_neg hz] at hp; exact hp.elim
    · rw [if_neg nd] at hp; exact hp.elim
end
end L3

namespace L3
open PySem PySem.Spec PyProof.Rows L2
/-! ### a slot is set -/
def setV (g : Gm) (i : Nat) (s : Slot) : R Gm := match g[i]? with
  | some (.prm _) => .stuck
  | some _ => .ok (g.set i s)
  | none => .stuck
theorem of_setV {g g' : Gm} {i : Nat} {s : Slot} (h : setV g i s = .ok g') : g' = g.set i s ∧ i < g.length ∧ ∀ v, g[i]? ≠ some (.prm v) := by
  unfold setV at h
  cases e : g[i]? with
  | none => rw [e] at h; cases h
  | some t =>
    rw [e] at h
    have hl := (List.getElem?_eq_some_iff.mp e).1
    cases t <;> cases h <;> exact ⟨rfl, hl, fun v z => by cases z⟩
section
variable {C : Ctx} {S S' : Addr → Prop} {σ σ' : L2.St} {H H' : Hp} {g g' : Gm} {i : Nat}
theorem foot_set {s : Slot} {u : V} {a : Addr} (hi : i < g.length) (hc : s.cont = none) (f : Foot (σ.set i (some u)) H (g.set i s) a) : Foot σ H g a := by
  obtain ⟨j, t, v, p, h1, h2, h3, h4⟩ := f
  by_cases e : j = i
  · subst e
    rw [List.getElem?_set_self hi] at h1
    cases h1
    rw [hc] at h2; cases h2
  · rw [List.getElem?_set_ne (Ne.symm e)] at h1
    rw [List.getElem?_set_ne (Ne.symm e)] at h3
    exact ⟨j, t, v, p, h1, h2, h3, h4⟩
theorem Sta.setV (st : Sta C S σ H g) {v : PV} {u : V} (r : Rep C.K C.xc S H v u) (hi : i < g.length) (hp : ∀ v, g[i]? ≠ some (.prm v)) : Sta C S (σ.set i (some u)) H (g.set i (.val v)) ∧ Stp S σ H g S (σ.set i (some u)) H (g.set i (.val v)) := by
  have hσ : i < σ.length := by rw [st.len]; exact hi
  refine ⟨⟨by rw [List.length_set, List.length_set, st.len], fun j w h => ?_, fun j s w h c => ?_, fun j k s t v1 w1 p q a hjk h1 h2 h3 h4 h5 h6 h7 h8 => ?_, fun a f => st.out a (foot_set hi rfl f), st.live⟩,
    ⟨fun _ h => h, fun _ h => .inl h, fun _ _ h _ => h, fun a f => .inl (foot_set hi rfl f), fun _ h => h, by rw [List.length_set], fun j w h => ?_⟩⟩
  · by_cases e : j = i
    · subst e
      rw [List.getElem?_set_self hi] at h
      cases h
      exact ⟨u, List.getElem?_set_self hσ, r⟩
    · rw [List.getElem?_set_ne (Ne.symm e)] at h ⊢
      exact st.val j w h
  · by_cases e : j = i
    · subst e
      rw [List.getElem?_set_self hi] at h
      cases h; cases c
    · rw [List.getElem?_set_ne (Ne.symm e)] at h ⊢
      exact st.own j s w h c
  · have n1 : j ≠ i := fun e => by subst e; rw [List.getElem?_set_self hi] at h1; cases h1; cases h2
    have n2 : k ≠ i := fun e => by subst e; rw [List.getElem?_set_self hi] at h3; cases h3; cases h4
    rw [List.getElem?_set_ne (Ne.symm n1)] at h1 h5
    rw [List.getElem?_set_ne (Ne.symm n2)] at h3 h6
    exact st.apart j k s t v1 w1 p q a hjk h1 h2 h3 h4 h5 h6 h7 h8
  · have n1 : j ≠ i := fun e => hp w (e ▸ h)
    exact ⟨List.getElem?_set_ne (Ne.symm n1), w, by rw [List.getElem?_set_ne (Ne.symm n1)]; exact h⟩
/-- a new thing of one's own -/
theorem Sta.setO (st : Sta C S σ H g) {v : PV} {p : Addr} (ob : Ob C.K C.xc S H v p) (hn : ∀ a, (a = p ∨ Sub H v p a) → ¬ Foot σ H g a ∧ ¬ S a) (hi : i < g.length) : Sta C S (σ.set i (some (.ref p))) H (g.set i (.own v)) := by
  have hσ : i < σ.length := by rw [st.len]; exact hi
  have lo : ∀ {j : Nat} {s : Slot} {w : PV} {q : Addr}, (g.set i (Slot.own v))[j]? = some s → s.cont = some w → (σ.set i (some (V.ref p)))[j]? = some (some (V.ref q)) → (j = i ∧ w = v ∧ q = p) ∨ (j ≠ i ∧ g[j]? = some s ∧ σ[j]? = some (some (V.ref q))) := fun {j s w q} h c hq => by
    by_cases e : j = i
    · subst e
      rw [List.getElem?_set_self hi] at h
      rw [List.getElem?_set_self hσ] at hq
      cases h; cases c; cases hq
      exact .inl ⟨rfl, rfl, rfl⟩
    · rw [List.getElem?_set_ne (Ne.symm e)] at h hq
      exact .inr ⟨e, h, hq⟩
  refine ⟨by rw [List.length_set, List.length_set, st.len], fun j w h => ?_, fun j s w h c => ?_, fun j k s t v1 w1 q r a hjk h1 h2 h3 h4 h5 h6 h7 h8 => ?_, fun a ⟨j, s, w, q, h1, h2, h3, h4⟩ => ?_, st.live⟩
  · by_cases e : j = i
    · subst e
      rw [List.getElem?_set_self hi] at h
      cases h
    · rw [List.getElem?_set_ne (Ne.symm e)] at h ⊢
      exact st.val j w h
  · by_cases e : j = i
    · subst e
      rw [List.getElem?_set_self hi] at h
      cases h; cases c
      exact ⟨p, List.getElem?_set_self hσ, ob⟩
    · rw [List.getElem?_set_ne (Ne.symm e)] at h ⊢
      exact st.own j s w h c
  · rcases lo h1 h2 h5 with ⟨e1, e2, e3⟩ | ⟨e1, m1, m5⟩
    · rcases lo h3 h4 h6 with ⟨e4, _, _⟩ | ⟨e2, m3, m6⟩
      · exact hjk (e1.trans e4.symm)
      · subst e3
        rename_i e5
        subst e5
        exact (hn a h7).1 ⟨k, t, w1, r, m3, h4, m6, h8⟩
    · rcases lo h3 h4 h6 with ⟨_, e5, e3⟩ | ⟨e2, m3, m6⟩
      · subst e3 e5
        exact (hn a h8).1 ⟨j, s, v1, q, m1, h2, m5, h7⟩
      · exact st.apart j k s t v1 w1 q r a hjk m1 h2 m3 h4 m5 m6 h7 h8
  · rcases lo h1 h2 h3 with ⟨rfl, rfl, rfl⟩ | ⟨e1, h1, h3⟩
    · exact (hn a h4).2
    · exact st.out a ⟨j, s, w, q, h1, h2, h3, h4⟩
theorem stp_setO (st : Sta C S' σ H' g') (k : Stp S σ H g S' σ H' g') {v : PV} {p : Addr} (hn : ∀ a, (a = p ∨ Sub H' v p a) → H a = none ∨ Foot σ H g a) (hi : i < g'.length) (hp : ∀ v, g'[i]? ≠ some (.prm v)) :
    Stp S σ H g S' (σ.set i (some (.ref p))) H' (g'.set i (.own v)) := by
  have hσ : i < σ.length := by rw [st.len]; exact hi
  refine ⟨k.sub, k.new, k.frm, fun a ⟨j, s, w, q, h1, h2, h3, h4⟩ => ?_, k.alive, by rw [List.length_set], fun j w h => ?_⟩
  · by_cases e : j = i
    · subst e
      rw [List.getElem?_set_self hi] at h1
      rw [List.getElem?_set_self hσ] at h3
      cases h1; cases h2; cases h3
      exact (hn a h4).symm
    · rw [List.getElem?_set_ne (Ne.symm e)] at h1 h3
      exact k.grw a ⟨j, s, w, q, h1, h2, h3, h4⟩
  · obtain ⟨e1, v', e2⟩ := k.keep j w h
    have n1 : j ≠ i := fun e => hp v' (e ▸ e2)
    exact ⟨by rw [List.getElem?_set_ne (Ne.symm n1)], v', by rw [List.getElem?_set_ne (Ne.symm n1)]; exact e2⟩
/-- a slot's thing is changed -/
theorem mut_end (st : Sta C S σ H g) {s : Slot} {v c : PV} {p : Addr} (hi : g[i]? = some s) (hc : s.cont = some v) (hp : σ[i]? = some (some (.ref p))) (hfrm : ∀ a o, H a = some o → (¬ (a = p ∨ Sub H v p a) ∨ Imm o) → H' a = some o)
    (hob : Ob C.K C.xc S H' c p) (hft : ∀ a, (a = p ∨ Sub H' c p a) → ((a = p ∨ Sub H v p a) ∨ (H a = none ∧ ¬ S a))) (hal : ∀ a, H a ≠ none → H' a ≠ none) :
    Stp S σ H g S σ H' (setC g i c) ∧ Sta C S σ H' (setC g i c) := by
  have f0 : ∀ a, Foot [some (V.ref p)] H [Slot.own v] a ↔ (a = p ∨ Sub H v p a) := fun a => by
    constructor
    · rintro ⟨j, s', w, q, h1, h2, h3, h4⟩
      cases j with
      | zero => simp at h1 h3; subst h1; cases h2; subst h3; exact h4
      | succ j => simp at h1
    · exact fun h => ⟨0, .own v, v, p, rfl, rfl, rfl, h⟩
  have f1 : ∀ a, Foot [some (V.ref p)] H' [Slot.own c] a ↔ (a = p ∨ Sub H' c p a) := fun a => by
    constructor
    · rintro ⟨j, s', w, q, h1, h2, h3, h4⟩
      cases j with
      | zero => simp at h1 h3; subst h1; cases h2; subst h3; exact h4
      | succ j => simp at h1
    · exact fun h => ⟨0, .own c, c, p, rfl, rfl, rfl, h⟩
  have outS : ∀ a, (a = p ∨ Sub H v p a) → ¬ S a := fun a h => st.out a ⟨i, s, v, p, hi, hc, hp, h⟩
  have k : Stp S ([V.ref p].map some) H (slO [true] [v]) S ([V.ref p].map some) H' (afO [true] [c]) :=
    ⟨fun _ h => h, fun _ h => .inl h, fun a o h hf => hfrm a o h (hf.imp (fun hf z => hf ((f0 a).mpr z)) id), fun a f => by
      rcases hft a ((f1 a).mp f) with z | z
      · exact .inl ((f0 a).mpr z)
      · exact .inr z.1, hal, rfl, fun j w h => by
      cases j with
      | zero => cases h
      | succ j => simp [slO] at h⟩
  have stc : Sta C S ([V.ref p].map some) H' (afO [true] [c]) := by
    refine ⟨rfl, fun j w h => ?_, fun j s' w h e => ?_, fun j j' s t v1 w1 q r a hjk h1 h2 h3 h4 h5 h6 h7 h8 => ?_, fun a f => ?_, fun a h => hal a (st.live a h)⟩
    · cases j with
      | zero => cases h
      | succ j => simp [afO] at h
    · cases j with
      | zero => cases h; cases e; exact ⟨p, rfl, hob⟩
      | succ j => simp [afO] at h
    · cases j with
      | zero =>
        cases j' with
        | zero => exact hjk rfl
        | succ j' => simp [afO] at h3
      | succ j => simp [afO] at h1
    · rcases hft a ((f1 a).mp f) with z | z
      · exact outS a z
      · exact z.2
  have e := call_end (mu := [true]) (as := [.as i]) (ps := [v]) (cs := [c]) (us := [.ref p]) st (by simp [slotsOf]) (by simp [fill, hi, hc]) ⟨.ref p, [], rfl, hp, rfl⟩ rfl k stc
  have ep : put [true] [.as i] [c] g = setC g i c := by simp [put]
  rw [ep] at e
  exact ⟨e.1, e.2.1⟩
/-- a list, a dict is changed as a whole -/
theorem mut_one (st : Sta C S σ H g) {s : Slot} {v c : PV} {p : Addr} {o : HO} (hi : g[i]? = some s) (hc : s.cont = some v) (hp : σ[i]? = some (some (.ref p))) (hsv : ∀ H a, ¬ Sub H v p a) (hsc : ∀ H a, ¬ Sub H c p a) (him : ∀ x, H p = some x → ¬ Imm x)
    (hob : Kee S H S (upd H p o) → Ob C.K C.xc S (upd H p o) c p) : Stp S σ H g S σ (upd H p o) (setC g i c) ∧ Sta C S σ (upd H p o) (setC g i c) := by
  obtain ⟨p', q1, q2⟩ := st.own i s v hi hc
  rw [hp] at q1; cases q1
  have nS : ¬ S p := st.out p ⟨i, s, v, p, hi, hc, hp, .inl rfl⟩
  have kee : Kee S H S (upd H p o) := ⟨fun _ h => h, fun a x e z => by
    have ne : a ≠ p := fun e2 => by
      subst e2
      rcases z with z | z
      · exact nS z
      · exact him _ e z
    rw [upd_ne ne]; exact e⟩
  refine mut_end st hi hc hp (fun a x e hn => ?_) (hob kee) (fun a h => ?_) (fun a h => ?_)
  · rw [upd_ne fun e2 => ?_]; exact e
    subst e2
    rcases hn with hn | hn
    · exact hn (.inl rfl)
    · exact him _ e hn
  · exact .inl (h.imp id fun z => (hsc _ a z).elim)
  · by_cases e : a = p
    · subst e; rw [upd_same]; simp
    · rw [upd_ne e]; exact h
end
end L3

namespace L3
open PySem PySem.Spec PyProof.Rows L2
/-! ### tests -/
def bV (f : EF) : BF := fun g => (f g).bind fun x => (R.of (asB x.1)).bind fun b => .ok (b, x.2)
def bAnd (a b : BF) : BF := fun g => (a g).bind fun x => if x.1 = true then b x.2 else .ok (false, x.2)
def bOr (a b : BF) : BF := fun g => (a g).bind fun x => if x.1 = true then .ok (true, x.2) else b x.2
def bNot (a : BF) : BF := fun g => (a g).bind fun x => .ok (!x.1, x.2)
section
variable {ι : Type} (X : ι → Cx) (C : Ctx)
def VX (e : Expr) (f : BF) : Prop := ∃ t, (∀ i, PW (X i) e t) ∧ SimB C t f
end
section
variable {ι : Type} {X : ι → Cx} {C : Ctx} {e a b : Expr} {f : EF} {fa fb : BF} {ea eb : EF} {pos : Pos} {rest : List Expr}
theorem SimB.bind1 {ta : TT} {R' : Bool → Hp → Prop} {h : Bool → Gm → R (Bool × Gm)} {Q : Bool → Hp → Prop} (ha : SimB C ta fa) {S : Addr → Prop} {σ : L2.St} {H : Hp} {g : Gm} (st : Sta C S σ H g) (hp : PostB C S σ H g ((fa g).bind fun x => h x.1 x.2) Q)
    (hR : ∀ x S1 H1 g1, Sta C S1 σ H1 g1 → PostB C S1 σ H1 g1 (h x g1) Q → R' x H1) : ta σ H R' := by
  refine ha S σ H g _ st ?_
  match e1 : fa g, hp with
  | .stuck, hp => exact hp
  | .err x g', hp => exact hp
  | .ok (x, g1), hp =>
    rw [R.bind_ok] at hp
    intro S1 H1 k1 s1
    exact hR x S1 H1 g1 s1 (PostB.on k1 hp)
theorem SimE.bindB {ta : TE} {R' : V → Hp → Prop} {h : PV → Gm → R (Bool × Gm)} {Q : Bool → Hp → Prop} (ha : SimE C ta f) {S : Addr → Prop} {σ : L2.St} {H : Hp} {g : Gm} (st : Sta C S σ H g) (hp : PostB C S σ H g ((f g).bind fun x => h x.1 x.2) Q)
    (hR : ∀ x u S1 H1 g1, Sta C S1 σ H1 g1 → Rep C.K C.xc S1 H1 x u → PostB C S1 σ H1 g1 (h x g1) Q → R' u H1) : ta σ H R' := by
  refine ha S σ H g _ st ?_
  match e1 : f g, hp with
  | .stuck, hp => exact hp
  | .err x g', hp => exact hp
  | .ok (x, g1), hp =>
    rw [R.bind_ok] at hp
    intro S1 H1 u k1 s1 r1
    exact hR x u S1 H1 g1 s1 r1 (PostB.on k1 hp)
theorem b_val (h : EX X C e f) (he : ∀ i whole, isTrue e (X i).env whole = (do let v ← whole; standAt e.pos; holding [v] (truthy v)) := by intro _ _; rfl) : BX X C e (bV f) := by
  obtain ⟨t, p, s⟩ := h
  refine ⟨tB t, fun i => pt_val (p i) (he i), fun S σ H g Q st hp => ?_⟩
  refine SimE.bindB (h := fun x g => (R.of (asB x)).bind fun b => .ok (b, g)) s st hp fun x u S1 H1 g1 s1 r q => ?_
  match h : asB x, q with
  | none, q => exact q.elim
  | some c, q =>
    rw [of_asB h] at r
    exact ⟨c, rep_bl.mp r, q S1 H1 .refl s1⟩
theorem b_cmp {op : CmpOp} {r : R2} {h : PV → PV → Option PV} (ho : ∀ i, OpR (X i) (compareOp op) r) (hs : OpS C.K C.xc r h) (ha : EX X C a ea) (hb : EX X C b eb) (hm : behindInMarks op b = false) : BX X C (.Compare a [op] [b] pos) (bV (eOp h ea eb)) := by
  obtain ⟨ta, pa, sa⟩ := ha
  obtain ⟨tb, pb, sb⟩ := hb
  refine ⟨tTest (tOp r ta tb), fun i => pt_cmpR (ho i) (pa i) (pb i) hm, fun S σ H g Q st hp => ?_⟩
  have s : SimE C (tOp r ta tb) (eOp h ea eb) := fun S σ H g Q st hp =>
    SimE.bind2 (h := fun x y g => (R.of (h x y)).bind fun z => .ok (z, g)) sa sb st hp fun x y u v S2 H2 g2 s2 ru rv q => by
      match e : h x y, q with
      | none, q => exact q.elim
      | some z, q => exact hs S2 H2 x y z u v Q e ru rv (PostE.fin s2 q)
  refine SimE.bindB (h := fun x g => (R.of (asB x)).bind fun b => .ok (b, g)) s st hp fun x u S1 H1 g1 s1 r q => ?_
  match h : asB x, q with
  | none, q => exact q.elim
  | some c, q =>
    rw [of_asB h] at r
    exact ⟨c, rep_bl.mp r, q S1 H1 .refl s1⟩
theorem v_and1 (ha : BX X C a fa) : VX X C (.BoolOp .And [a] pos) fa := let ⟨t, p, s⟩ := ha; ⟨t, fun i => pw_and1 (p i), s⟩
theorem v_or1 (ha : BX X C a fa) : VX X C (.BoolOp .Or [a] pos) fa := let ⟨t, p, s⟩ := ha; ⟨t, fun i => pw_or1 (p i), s⟩
theorem v_and (ha : BX X C a fa) (hb : VX X C (.BoolOp .And (b :: rest) pos) fb) : VX X C (.BoolOp .And (a :: b :: rest) pos) (bAnd fa fb) := by
  obtain ⟨ta, pa, sa⟩ := ha
  obtain ⟨tb, pb, sb⟩ := hb
  refine ⟨tAnd ta tb, fun i => pw_and (pa i) (pb i), fun S σ H g Q st hp => ?_⟩
  refine SimB.bind1 (h := fun x g => if x = true then fb g else .ok (false, g)) sa st hp fun x S1 H1 g1 s1 q => ?_
  cases x with
  | true => exact iteT (sb S1 σ H1 g1 Q s1 q)
  | false => exact iteF (q S1 H1 .refl s1)
theorem v_or (ha : BX X C a fa) (hb : VX X C (.BoolOp .Or (b :: rest) pos) fb) : VX X C (.BoolOp .Or (a :: b :: rest) pos) (bOr fa fb) := by
  obtain ⟨ta, pa, sa⟩ := ha
  obtain ⟨tb, pb, sb⟩ := hb
  refine ⟨tOr ta tb, fun i => pw_or (pa i) (pb i), fun S σ H g Q st hp => ?_⟩
  refine SimB.bind1 (h := fun x g => if x = true then .ok (true, g) else fb g) sa st hp fun x S1 H1 g1 s1 q => ?_
  cases x with
  | true => exact iteT (q S1 H1 .refl s1)
  | false => exact iteF (sb S1 σ H1 g1 Q s1 q)
theorem b_v (h : VX X C e fa) : BX X C e fa := let ⟨t, p, s⟩ := h; ⟨t, fun i => (p i).pt, s⟩
theorem b_not (ha : BX X C a fa) : BX X C (.UnaryOp .Not a pos) (bNot fa) := by
  obtain ⟨ta, pa, sa⟩ := ha
  refine ⟨tNot ta, fun i => pt_not (pa i), fun S σ H g Q st hp => ?_⟩
  exact SimB.bind1 (h := fun x g => .ok (!x, g)) sa st hp fun x S1 H1 g1 s1 q => q S1 H1 .refl s1
end
/-! ### targets -/
abbrev TF := PV → Gm → R Gm
abbrev TFs := List PV → Gm → R Gm
def SimT (C : Ctx) (pr : Nat → Bool) (t : TG) (f : TF) : Prop := ∀ S σ H g v u (Q : L2.St → Hp → Prop), Sta C S σ H g → Rep C.K C.xc S H v u → (match f v g with
  | .ok g' => ∀ σ', Stp S σ H g S σ' H g' → Sta C S σ' H g' → (∀ j, pr j = false → σ'[j]? = σ[j]?) → Q σ' H
  | _ => False) → t u σ H Q
def SimTs (C : Ctx) (pr : Nat → Bool) (t : TGs) (f : TFs) : Prop := ∀ S σ H g vs us (Q : L2.St → Hp → Prop), Sta C S σ H g → RepL C.K C.xc S H vs us → (match f vs g with
  | .ok g' => ∀ σ', Stp S σ H g S σ' H g' → Sta C S σ' H g' → (∀ j, pr j = false → σ'[j]? = σ[j]?) → Q σ' H
  | _ => False) → t us σ H Q
def TX {ι : Type} (X : ι → Cx) (C : Ctx) (pr : Nat → Bool) (e : Expr) (f : TF) : Prop := ∃ t, (∀ i, PG (X i) e t) ∧ SimT C pr t f
def TXs {ι : Type} (X : ι → Cx) (C : Ctx) (pr : Nat → Bool) (es : List Expr) (f : TFs) : Prop := ∃ t, (∀ i, PGs (X i) es t) ∧ SimTs C pr t f
abbrev anyS : Nat → Bool := fun _ => true
def tN (i : Nat) : TF := fun v g => setV g i (.val v)
def tsNil : TFs := fun vs g => match vs with
  | [] => .ok g
  | _ => .stuck
def tsCons (a : TF) (l : TFs) : TFs := fun vs g => match vs with
  | v :: vs => (a v g).bind fun g => l vs g
  | [] => .stuck
def tUn (n : Nat) (l : TFs) : TF := fun v g => match items v with
  | some vs => if vs.length = n then l vs g else .stuck
  | none => .stuck
section
variable {ι : Type} {X : ι → Cx} {C : Ctx} {e a b : Expr} {fa : TF} {fl : TFs} {pos : Pos} {es : List Expr} {pr : Nat → Bool}
theorem t_name {i : Nat} {x : Str} (hN : ∀ j, (X j).N.Nodup) (hi : ∀ j, (X j).N[i]? = some x) (hx : ∀ j, Loc (X j).env.scope x) (hf : ∀ j, (X j).fn x = true ∨ (X j).env.scope.names.lookup x = some .local) (hpr : pr i = true := by rfl) : TX X C pr (.Name x pos) (tN i) := by
  refine ⟨gName i, fun j => pg_name (hN j) (hi j) (hx j) (hf j), fun S σ H g v u Q st r hp => ?_⟩
  unfold tN at hp
  cases h : setV g i (.val v) with
  | stuck => rw [h] at hp; exact hp.elim
  | err x g' => rw [h] at hp; exact hp.elim
  | ok g' =>
    rw [h] at hp
    obtain ⟨rfl, h1, h2⟩ := of_setV h
    obtain ⟨s1, k1⟩ := st.setV r h1 h2
    exact hp _ k1 s1 fun j hj => List.getElem?_set_ne fun e => by rw [← e, hpr] at hj; cases hj
theorem ts_nil : TXs X C pr [] tsNil := by
  refine ⟨gNil, fun _ => pgs_nil, fun S σ H g vs us Q st r hp => ?_⟩
  cases vs with
  | nil => exact ⟨RepL.nil.mp r, hp σ .refl st fun _ _ => rfl⟩
  | cons v vs => exact hp.elim
theorem ts_cons (ha : TX X C pr a fa) (hl : TXs X C pr es fl) (hs : ∀ i, (assignEach (a :: es) (X i).env).map (·.2) = assign a (X i).env :: (assignEach es (X i).env).map (·.2) := by intro _; rfl) : TXs X C pr (a :: es) (tsCons fa fl) := by
  obtain ⟨ta, pa, sa⟩ := ha
  obtain ⟨tl, pl, sl⟩ := hl
  refine ⟨gCons ta tl, fun i => pgs_cons (pa i) (pl i) (hs i), fun S σ H g vs us Q st r hp => ?_⟩
  cases vs with
  | nil => exact hp.elim
  | cons v vs =>
    obtain ⟨u, rr, rfl, r1, r2⟩ := RepL.cons.mp r
    refine ⟨u, rr, rfl, sa S σ H g v u _ st r1 ?_⟩
    unfold tsCons at hp
    dsimp only at hp
    cases h : fa v g with
    | stuck => rw [h] at hp; exact hp.elim
    | err x g' => rw [h] at hp; exact hp.elim
    | ok g1 =>
      rw [h, R.bind_ok] at hp
      intro σ1 k1 s1 w1
      refine sl S σ1 H g1 vs rr Q s1 r2 ?_
      cases h2 : fl vs g1 with
      | stuck => rw [h2] at hp; exact hp.elim
      | err x g' => rw [h2] at hp; exact hp.elim
      | ok g2 =>
        rw [h2] at hp
        exact fun σ2 k2 s2 w2 => hp σ2 (k1.trans k2) s2 fun j hj => (w2 j hj).trans (w1 j hj)
theorem PGor {X : Cx} {tg : Expr} {t t' : TG} (h : PG X tg t) (h' : PG X tg t') : PG X tg (fun v σ H Q => t v σ H Q ∨ t' v σ H Q) :=
  ⟨fun pins s σ H v u Q I r hq => hq.elim (h.run pins s σ H v u Q I r) (h'.run pins s σ H v u Q I r)⟩
theorem t_un {k n : Nat} (F : Fam X C) (hl : TXs X C pr es fl) (hn : ∀ i, (assignEach es (X i).env).length = n := by intro _; rfl) (hst : ∀ i, (assignEach es (X i).env).findIdx? (·.1) = none := by intro _; rfl) : TX X C pr (.Tuple es k pos) (tUn n fl) := by
  obtain ⟨tl, pl, sl⟩ := hl
  refine ⟨fun v σ H Q => gLst C.K n tl v σ H Q ∨ gTup C.K n tl v σ H Q, fun i => by rw [← F.K i]; exact PGor (pg_lst (F.calm i) (pl i) (hn i) (hst i)) (pg_tup (F.calm i) (pl i) (hn i) (hst i)), fun S σ H g v u Q st r hp => ?_⟩
  unfold tUn at hp
  cases h : items v with
  | none => rw [h] at hp; exact hp.elim
  | some vs =>
    rw [h] at hp
    dsimp only at hp
    by_cases hz : vs.length = n
    · rw [if_pos hz] at hp
      obtain ⟨a, us, rfl, hq, hr⟩ := r.items h
      have hlen : us.length = n := by rw [← hr.len]; exact hz
      have z := sl S σ H g vs us Q st hr hp
      rcases hq with hq | hq
      · exact .inl ⟨a, us, rfl, hq, hlen, z⟩
      · exact .inr ⟨a, us, rfl, hq, hlen, z⟩
    · rw [if_neg hz] at hp; exact hp.elim
end
/-! ### what loops walk -/
/-- the items come one after another -/
def Wlk (C : Ctx) (S : Addr → Prop) (H : Hp) (J : It) (vs : List PV) : Prop := ∀ S2 H2, Kee S H S2 H2 → (∀ a, S2 a → H2 a ≠ none) →
  (∀ i v, vs[i]? = some v → J.go i H2 ∧ ∀ x H3, J.yld i H2 x H3 → ∃ S3, Gro S2 H2 S3 H3 ∧ Rep C.K C.xc S3 H3 v x) ∧ (∀ i, vs.length ≤ i → J.stop i H2)
abbrev IF := Gm → R (List PV × Gm)
def SimI (C : Ctx) (wi : TI) (f : IF) : Prop := ∀ S σ H g (Rq : It → Hp → Prop), Sta C S σ H g → (match f g with
  | .ok (vs, g') => ∀ S' H' J, Stp S σ H g S' σ H' g' → Sta C S' σ H' g' → Wlk C S' H' J vs → Rq J H'
  | .err x g' => PostX C S σ H g x g'
  | .stuck => False) → wi σ H Rq
def IX {ι : Type} (X : ι → Cx) (C : Ctx) (tg e : Expr) (f : IF) : Prop := ∃ wi, (∀ i, PI (X i) tg e wi) ∧ SimI C wi f
def iSeq (f : EF) : IF := fun g => (f g).bind fun x => (R.of (items x.1)).bind fun vs => .ok (vs, x.2)
def rng (lo hi : Int) : List PV := (List.range (hi - lo).toNat).map fun k => PV.int (lo + (k : Nat))
def iR1 (f : EF) : IF := fun g => (f g).bind fun x => (R.of (asI x.1)).bind fun n => if n ≤ 1000000 ∧ -1000000 ≤ n then .ok (rng 0 n, x.2) else .stuck
def iR2 (a b : EF) : IF := fun g => (a g).bind fun x => (b x.2).bind fun y => (R.of (asI x.1)).bind fun m => (R.of (asI y.1)).bind fun n => if n ≤ 1000000 ∧ -1000000 ≤ n ∧ m ≤ 1000000 ∧ -1000000 ≤ m then .ok (rng m n, y.2) else .stuck
def enum (i : Nat) : List PV → List PV
  | [] => []
  | v :: vs => .tup [.int (i : Nat), v] :: enum (i + 1) vs
def iEn (f : EF) : IF := fun g => (f g).bind fun x => match x.1 with
  | .lst vs => .ok (enum 0 vs, x.2)
  | _ => .stuck
theorem enum_get : ∀ {vs : List PV} {i j : Nat}, (enum j vs)[i]? = (vs[i]?).map fun v => PV.tup [.int ((j + i : Nat) : Int), v]
  | [], _, _ => by simp [enum]
  | v :: vs, 0, j => by simp [enum]
  | v :: vs, i + 1, j => by
    have ih := enum_get (vs := vs) (i := i) (j := j + 1)
    have e : (enum j (v :: vs))[i + 1]? = (enum (j + 1) vs)[i]? := by simp [enum]
    rw [e, ih]
    rw [show j + 1 + i = j + (i + 1) by omega]
    simp
theorem enum_len : ∀ (vs : List PV) (j : Nat), (enum j vs).length = vs.length
  | [], _ => rfl
  | v :: vs, j => by simp [enum, enum_len vs]
section
variable {C : Ctx} {S : Addr → Prop} {H : Hp}
theorem wlk_list {a : Addr} {xs : List V} {vs : List PV} (hs : ∀ S2 H2, Kee S H S2 H2 → SqL C.K H2 a xs) (hr : RepL C.K C.xc S H vs xs) : Wlk C S H (Itl C.K a) vs := fun S2 H2 k hl => by
  have h1 := hs S2 H2 k
  have h2 := hr.kee k
  refine ⟨fun i v e => ?_, fun i e => ⟨xs, h1, by rw [← h2.len]; exact e⟩⟩
  obtain ⟨x, e1, r1⟩ := h2.get e
  refine ⟨⟨xs, x, h1, e1⟩, fun y H3 ⟨z1, z2⟩ => ?_⟩
  subst z1
  rw [z2 xs h1] at e1
  cases e1
  exact ⟨S2, .refl, r1⟩
theorem wlk_tup {a : Addr} {xs : List V} {vs : List PV} (hs : ∀ S2 H2, Kee S H S2 H2 → SqT C.K H2 a xs) (hr : RepL C.K C.xc S H vs xs) : Wlk C S H (Itt C.K a) vs := fun S2 H2 k hl => by
  have h1 := hs S2 H2 k
  have h2 := hr.kee k
  refine ⟨fun i v e => ?_, fun i e => ⟨xs, h1, by rw [← h2.len]; exact e⟩⟩
  obtain ⟨x, e1, r1⟩ := h2.get e
  refine ⟨⟨xs, x, h1, e1⟩, fun y H3 ⟨z1, z2⟩ => ?_⟩
  subst z1
  rw [z2 xs h1] at e1
  cases e1
  exact ⟨S2, .refl, r1⟩
theorem rng_get {lo hi : Int} {i : Nat} : (rng lo hi)[i]? = if i < (hi - lo).toNat then some (PV.int (lo + (i : Nat))) else none := by
  unfold rng
  rw [List.getElem?_map]
  by_cases h : i < (hi - lo).toNat
  · rw [List.getElem?_range h, if_pos h]; rfl
  · rw [List.getElem?_eq_none (by simpa using h), if_neg h]; rfl
theorem wlk_rng {lo hi : Int} : Wlk C S H (Itr lo (hi - lo).toNat) (rng lo hi) := fun S2 H2 k hl => by
  refine ⟨fun i v e => ?_, fun i e => ?_⟩
  · rw [rng_get] at e
    split at e
    · rename_i h
      cases e
      exact ⟨h, fun x H3 ⟨z1, z2⟩ => by subst z1 z2; exact ⟨S2, .refl, rep_int.mpr rfl⟩⟩
    · cases e
  · have h : (rng lo hi).length ≤ i := e
    unfold rng at h
    rw [List.length_map, List.length_range] at h
    exact h
theorem wlk_enum {a : Addr} {xs : List V} {vs : List PV} (hs : ∀ S2 H2, Kee S H S2 H2 → SqL C.K H2 a xs) (hr : RepL C.K C.xc S H vs xs) : Wlk C S H (Ite C.K a) (enum 0 vs) := fun S2 H2 k hl => by
  have h1 := hs S2 H2 k
  have h2 := hr.kee k
  refine ⟨fun i v e => ?_, fun i e => ⟨xs, h1, by rw [← h2.len]; rw [enum_len] at e; exact e⟩⟩
  rw [enum_get] at e
  cases hv : vs[i]? with
  | none => rw [hv] at e; cases e
  | some w =>
    rw [hv] at e
    cases e
    obtain ⟨x, e1, r1⟩ := h2.get hv
    refine ⟨⟨xs, x, h1, e1⟩, fun y H3 ⟨T, x', e2, nT, e3, z2⟩ => ?_⟩
    subst e2 e3
    rw [z2 xs h1] at e1
    cases e1
    refine ⟨S2, Gro.upd nT, rep_tup.mpr ⟨T, _, rfl, upd_same, ?_⟩⟩
    exact RepL.cons.mpr ⟨_, _, rfl, rep_int.mpr (by rw [Nat.zero_add]), RepL.one (r1.kee (Gro.upd nT).kee)⟩
end
section
variable {ι : Type} {X : ι → Cx} {C : Ctx} {e a b tg : Expr} {f fa fb : EF} {pos p tpos : Pos} {elts : List Expr} {kk : Nat}
theorem PIor {X : Cx} {tg e : Expr} {w w' : TI} (h : PI X tg e w) (h' : PI X tg e w') : PI X tg e (fun σ H R => w σ H R ∨ w' σ H R) :=
  ⟨fun pins s σ H R I q => q.elim (h.run pins s σ H R I) (h'.run pins s σ H R I)⟩
theorem Rep.walk {S : Addr → Prop} {H : Hp} {v : PV} {vs : List PV} {u : V} (h : L3.items v = some vs) (r : Rep C.K C.xc S H v u) : ∃ a, u = .ref a ∧ ((isTup v = false ∧ ∃ xs, SqL C.K H a xs ∧ Wlk C S H (Itl C.K a) vs) ∨ (isTup v = true ∧ ∃ xs, SqT C.K H a xs ∧ Wlk C S H (Itt C.K a) vs)) := by
  cases v with
  | lst qs =>
    cases h
    obtain ⟨a, xs, e, h0, h1, h2⟩ := rep_lst.mp r
    exact ⟨a, e, .inl ⟨rfl, xs, SqL.of h1, wlk_list (fun S2 H2 k => SqL.of (k.at_ a _ h1 (.inl h0))) h2⟩⟩
  | tup qs =>
    cases h
    obtain ⟨a, xs, e, h1, h2⟩ := rep_tup.mp r
    exact ⟨a, e, .inr ⟨rfl, xs, SqT.of h1, wlk_tup (fun S2 H2 k => SqT.of (k.at_ a _ h1 (.inr True.intro))) h2⟩⟩
  | ktup qs =>
    cases h
    obtain ⟨a, xs, e, h1, h2⟩ := rep_ktup.mp r
    exact ⟨a, e, .inr ⟨rfl, xs, .inr h1, wlk_tup (fun S2 H2 k => .inr h1) h2⟩⟩
  | scr ns =>
    cases h
    obtain ⟨a, e, h1⟩ := rep_scr.mp r
    exact ⟨a, e, .inl ⟨rfl, _, h1.sq, wlk_list (fun S2 H2 k => Scr.sq (h1.imp (fun ⟨o, h1⟩ => ⟨o, k.at_ a _ h1 (.inr True.intro)⟩) id)) (repL_ints ns)⟩⟩
  | _ => cases h
theorem i_seq (F : Fam X C) (h : EX X C e f) : IX X C tg e (iSeq f) := by
  obtain ⟨t, p, s⟩ := h
  refine ⟨fun σ H R => iList C.K t σ H R ∨ iTup C.K t σ H R, fun i => by rw [← F.K i]; exact PIor (pi_list (p i)) (pi_tup (p i)), fun S σ H g Rq st hp => ?_⟩
  unfold iSeq at hp
  match h : f g, hp with
  | .stuck, hp => exact hp.elim
  | .err x g', hp => exact .inl (s S σ H g _ st (by rw [h]; exact hp))
  | .ok (x, g1), hp =>
    rw [R.bind_ok] at hp
    dsimp only at hp
    match h2 : items x, hp with
    | none, hp => exact hp.elim
    | some vs, hp =>
      cases ht : isTup x with
      | false =>
        refine .inl (s S σ H g _ st ?_)
        rw [h]
        intro S1 H1 u k1 s1 r1
        obtain ⟨a, e, ⟨_, xs, z1, z2⟩ | ⟨z, _⟩⟩ := r1.walk h2
        · exact ⟨a, e, ⟨xs, z1⟩, hp S1 H1 _ k1 s1 z2⟩
        · rw [ht] at z; cases z
      | true =>
        refine .inr (s S σ H g _ st ?_)
        rw [h]
        intro S1 H1 u k1 s1 r1
        obtain ⟨a, e, ⟨z, _⟩ | ⟨_, xs, z1, z2⟩⟩ := r1.walk h2
        · rw [ht] at z; cases z
        · exact ⟨a, e, ⟨xs, z1⟩, hp S1 H1 _ k1 s1 z2⟩
theorem i_r1 (F : Fam X C) (hg : ∀ i, Gl (X i) "range") (hm : C.mg "range" = none) (h : EX X C a f) (hs : ∀ i, starEach [a] (X i).env = [(false, eval a (X i).env)] := by intro _; rfl) : IX X C tg (.Call (.Name "range" p) [a] [] pos) (iR1 f) := by
  obtain ⟨t, pa, s⟩ := h
  refine ⟨iRng1 (tCons t tNil), fun i => pi_range1 (hg i) (by rw [F.mg i]; exact hm) (pa_cons (pa i) pa_nil (hs i)) (hs i), fun S σ H g Rq st hp => ?_⟩
  refine s S σ H g _ st ?_
  unfold iR1 at hp
  match h : f g, hp with
  | .stuck, hp => exact hp
  | .err x g', hp => exact hp
  | .ok (x, g1), hp =>
    rw [R.bind_ok] at hp
    intro S1 H1 u k1 s1 r1
    dsimp only at hp
    match h2 : asI x, hp with
    | none, hp => exact hp.elim
    | some n, hp =>
      rw [R.of_some, R.bind_ok] at hp
      by_cases hz : n ≤ 1000000 ∧ -1000000 ≤ n
      · rw [if_pos hz] at hp
        rw [of_asI h2] at r1
        refine ⟨n, by rw [rep_int.mp r1], by omega, by omega, ?_⟩
        have e : n.toNat = (n - 0).toNat := by rw [Int.sub_zero]
        rw [e]
        exact hp S1 H1 _ k1 s1 wlk_rng
      · rw [if_neg hz] at hp; exact hp.elim
theorem i_r2 (F : Fam X C) (hg : ∀ i, Gl (X i) "range") (hm : C.mg "range" = none) (ha : EX X C a fa) (hb : EX X C b fb) (hs : ∀ i, starEach [a, b] (X i).env = [(false, eval a (X i).env), (false, eval b (X i).env)] := by intro _; rfl) (hs2 : ∀ i, starEach [b] (X i).env = [(false, eval b (X i).env)] := by intro _; rfl) :
    IX X C tg (.Call (.Name "range" p) [a, b] [] pos) (iR2 fa fb) := by
  obtain ⟨ta, pa, sa⟩ := ha
  obtain ⟨tb, pb, sb⟩ := hb
  refine ⟨iRng2 (tCons ta (tCons tb tNil)), fun i => pi_range2 (hg i) (by rw [F.mg i]; exact hm) (pa_cons (pa i) (pa_cons (pb i) pa_nil (hs2 i)) (by rw [hs i, hs2 i])) (hs i) (hs2 i), fun S σ H g Rq st hp => ?_⟩
  unfold iR2 at hp
  refine sa S σ H g _ st ?_
  match h : fa g, hp with
  | .stuck, hp => exact hp
  | .err x g', hp => exact hp
  | .ok (x, g1), hp =>
    rw [R.bind_ok] at hp
    intro S1 H1 u k1 s1 r1
    refine sb S1 σ H1 g1 _ s1 ?_
    dsimp only at hp
    match h3 : fb g1, hp with
    | .stuck, hp => exact hp
    | .err x g', hp => exact PostX.on k1 hp
    | .ok (y, g2), hp =>
      rw [R.bind_ok] at hp
      intro S2 H2 v k2 s2 r2
      dsimp only at hp
      match h2 : asI x, hp with
      | none, hp => exact hp.elim
      | some m, hp =>
        rw [R.of_some, R.bind_ok] at hp
        match h4 : asI y, hp with
        | none, hp => exact hp.elim
        | some n, hp =>
          rw [R.of_some, R.bind_ok] at hp
          by_cases hz : n ≤ 1000000 ∧ -1000000 ≤ n ∧ m ≤ 1000000 ∧ -1000000 ≤ m
          · rw [if_pos hz] at hp
            rw [of_asI h2] at r1
            rw [of_asI h4] at r2
            exact ⟨m, n, by rw [rep_int.mp r1, rep_int.mp r2], ⟨by omega, by omega, by omega, by omega⟩, hp S2 H2 _ (k1.trans k2) s2 wlk_rng⟩
          · rw [if_neg hz] at hp; exact hp.elim
theorem i_enum (F : Fam X C) (hg : ∀ i, Gl (X i) "enumerate") (hm : C.mg "enumerate" = none) (h : EX X C e f) (hs : ∀ i, starEach [e] (X i).env = [(false, eval e (X i).env)] := by intro _; rfl) : IX X C (.Tuple elts kk tpos) (.Call (.Name "enumerate" p) [e] [] pos) (iEn f) := by
  obtain ⟨t, pa, s⟩ := h
  refine ⟨iEnum C.K (tCons t tNil), fun i => by rw [← F.K i]; exact pi_enum (hg i) (by rw [F.mg i]; exact hm) (pa_cons (pa i) pa_nil (hs i)) (hs i), fun S σ H g Rq st hp => ?_⟩
  refine s S σ H g _ st ?_
  unfold iEn at hp
  match h : f g, hp with
  | .stuck, hp => exact hp
  | .err x g', hp => exact hp
  | .ok (x, g1), hp =>
    rw [R.bind_ok] at hp
    intro S1 H1 u k1 s1 r1
    cases x with
    | lst vs =>
      obtain ⟨a, xs, e, h0, h1, h2⟩ := rep_lst.mp r1
      subst e
      exact ⟨a, xs, rfl, SqL.of h1, hp S1 H1 _ k1 s1 (wlk_enum (fun S2 H2 k => SqL.of (k.at_ a _ h1 (.inl h0))) h2)⟩
    | _ => exact hp.elim
end
end L3

namespace L3
open PySem PySem.Spec PyProof.Rows L2
/-! ### statements -/
def R.go (r : R Gm) (f : SF) : R Out := match r with
  | .ok g => f g
  | _ => .stuck
@[simp] theorem R.go_ok (g : Gm) (f : SF) : (R.ok g).go f = f g := (rfl)
@[simp] theorem R.go_stuck (f : SF) : (R.stuck : R Gm).go f = .stuck := (rfl)
def sNil : SF := fun g => .ok (.nx g)
def sSeq (a b : SF) : SF := fun g => match a g with
  | .ok (.nx g) => b g
  | r => r
def sRet (f : EF) : SF := fun g => (f g).bind fun x => .ok (.rt x.1 x.2)
def sRetN : SF := fun g => .ok (.rt .non g)
def sIf (c : BF) (a b : SF) : SF := fun g => (c g).bind fun x => if x.1 = true then a x.2 else b x.2
def sExpr (f : EF) : SF := fun g => (f g).bind fun x => .ok (.nx x.2)
def sSet (t : TF) (f : EF) : SF := fun g => (f g).bind fun x => (t x.1 x.2).go fun g => .ok (.nx g)
def whl (c : BF) (b : SF) : Nat → SF
  | 0, _ => .stuck
  | n + 1, g => (c g).bind fun x => if x.1 = true then
      match b x.2 with
      | .ok (.nx g) => whl c b n g
      | .ok (.ct g) => whl c b n g
      | .ok (.bk g) => .ok (.nx g)
      | r => r
    else .ok (.nx x.2)
def loopL (t : TF) (b : SF) : List PV → SF
  | [], g => .ok (.nx g)
  | v :: vs, g => match (t v g).go b with
    | .ok (.nx g) => loopL t b vs g
    | .ok (.ct g) => loopL t b vs g
    | .ok (.bk g) => .ok (.nx g)
    | r => r
def sFor (i : IF) (t : TF) (b : SF) : SF := fun g => (i g).bind fun x => loopL t b x.1 x.2
section
variable {ι : Type} {X : ι → Cx} {C : Ctx} {e c tg iter : Expr} {st : Stmt} {sts a b rest : List Stmt} {f : EF} {fb : BF} {fs fu : SF} {tf : TF} {fi : IF} {pos : Pos} {pr : Nat → Bool}
theorem k_nil : BkX X C [] sNil := ⟨tNext, fun _ => pss_nil, fun S σ H g D s hp => hp S σ H .refl s⟩
theorem sim_seq {t u : TS} (ha : SimS C t fs) (hb : SimS C u fu) : SimS C (tSeq t u) (sSeq fs fu) := fun S σ H g D st hp => by
  refine ha S σ H g _ st ?_
  unfold sSeq at hp
  match h : fs g, hp with
  | .stuck, hp => exact hp
  | .err x g', hp => exact hp
  | .ok (.nx g'), hp => exact fun S1 σ1 H1 k1 s1 => hb S1 σ1 H1 g' D s1 (PostS.on k1 hp)
  | .ok (.rt v g'), hp => exact hp
  | .ok (.rn v g'), hp => exact hp
  | .ok (.bk g'), hp => exact hp
  | .ok (.ct g'), hp => exact hp
theorem k_cons (ha : SX X C st fs) (hb : BkX X C rest fu) : BkX X C (st :: rest) (sSeq fs fu) := by
  obtain ⟨ta, pa, sa⟩ := ha
  obtain ⟨tb, pb, sb⟩ := hb
  exact ⟨tSeq ta tb, fun i => pss_cons (pa i) (pb i), sim_seq sa sb⟩
theorem k_one (ha : SX X C st fs) : BkX X C [st] fs := let ⟨t, p, s⟩ := ha; ⟨t, fun i => pss_one (p i), s⟩
theorem s_pass : SX X C (.Pass pos) sNil := ⟨tNext, fun _ => ps_pass, fun S σ H g D s hp => hp S σ H .refl s⟩
theorem s_ret (h : EX X C e f) : SX X C (.Return (some e) pos) (sRet f) := by
  obtain ⟨t, p, s⟩ := h
  refine ⟨tRet t, fun i => ps_ret (p i), fun S σ H g D st hp => s S σ H g _ st ?_⟩
  unfold sRet at hp
  match h : f g, hp with
  | .stuck, hp => exact hp
  | .err x g', hp => exact hp
  | .ok (v, g'), hp => exact fun S1 H1 u k1 s1 r1 => hp S1 σ H1 u k1 s1 r1
theorem s_retN : SX X C (.Return none pos) sRetN := ⟨L2.tRetN, fun _ => ps_retN, fun S σ H g D s hp => hp S σ H .non .refl s (rep_non.mpr rfl)⟩
theorem s_if (hc : BX X C c fb) (ha : BkX X C a fs) (hb : BkX X C b fu) : SX X C (.If c a b pos) (sIf fb fs fu) := by
  obtain ⟨tc, pc, sc⟩ := hc
  obtain ⟨ta, pa, sa⟩ := ha
  obtain ⟨tb, pb, sb⟩ := hb
  refine ⟨tIfS tc ta tb, fun i => ps_if (pc i) (pa i) (pb i), fun S σ H g D st hp => sc S σ H g _ st ?_⟩
  unfold sIf at hp
  match h : fb g, hp with
  | .stuck, hp => exact hp
  | .err x g', hp => exact hp
  | .ok (true, g'), hp => exact fun S1 H1 k1 s1 => iteT (sa S1 σ H1 g' D s1 (PostS.on k1 hp))
  | .ok (false, g'), hp => exact fun S1 H1 k1 s1 => iteF (sb S1 σ H1 g' D s1 (PostS.on k1 hp))
theorem s_expr (h : EX X C e f) (hs : ∀ i, swapsWith e none pos.line (X i).env = pure false := by intro _; rfl) : SX X C (.Expr e pos) (sExpr f) := by
  obtain ⟨t, p, s⟩ := h
  refine ⟨tDrop t, fun i => ps_expr (p i) (hs i), fun S σ H g D st hp => s S σ H g _ st ?_⟩
  unfold sExpr at hp
  match h : f g, hp with
  | .stuck, hp => exact hp
  | .err x g', hp => exact hp
  | .ok (v, g'), hp => exact fun S1 H1 u k1 s1 r1 => hp S1 σ H1 k1 s1
theorem sim_set {te : TE} {tg : TG} (se : SimE C te f) (stt : SimT C pr tg tf) : SimS C (tAsg te tg) (sSet tf f) := fun S σ H g D st hp => by
  refine se S σ H g _ st ?_
  unfold sSet at hp
  match h : f g, hp with
  | .stuck, hp => exact hp
  | .err x g', hp => exact hp
  | .ok (v, g'), hp =>
    intro S1 H1 u k1 s1 r1
    refine stt S1 σ H1 g' v u _ s1 r1 ?_
    rw [R.bind_ok] at hp
    dsimp only at hp
    match h2 : tf v g', hp with
    | .stuck, hp => exact hp
    | .err x g', hp => exact hp.elim
    | .ok g2, hp => exact fun σ2 k2 s2 _ => hp S1 σ2 H1 (k1.trans k2) s2
theorem sim_tn {i : Nat} : SimT C anyS (gName i) (tN i) := fun S σ H g v u Q st r hp => by
  unfold tN at hp
  cases h : setV g i (.val v) with
  | stuck => rw [h] at hp; exact hp.elim
  | err x g' => rw [h] at hp; exact hp.elim
  | ok g' =>
    rw [h] at hp
    obtain ⟨rfl, h1, h2⟩ := of_setV h
    obtain ⟨s1, k1⟩ := st.setV r h1 h2
    exact hp _ k1 s1 fun j hj => by cases hj
theorem s_set {i : Nat} {x : Str} {pos' : Pos} (hN : ∀ j, (X j).N.Nodup) (hi : ∀ j, (X j).N[i]? = some x) (hx : ∀ j, Loc (X j).env.scope x) (hf : ∀ j, (X j).fn x = true ∨ (X j).env.scope.names.lookup x = some .local) (he : EX X C e f)
    (hs : ∀ j, swapsWith e (some (.Name x pos')) pos.line (X j).env = pure false := by intro _; rfl) : SX X C (.Assign [.Name x pos'] e pos) (sSet (tN i) f) := by
  obtain ⟨t, p, s⟩ := he
  exact ⟨tAsg t (gName i), fun j => ps_set (hN j) (hi j) (hx j) (p j) (hs j) (hf j), sim_set s sim_tn⟩
theorem s_asg (he : EX X C e f) (ht : TX X C anyS tg tf) (hs : ∀ i, swapsWithSole [tg] e pos.line (X i).env = pure false := by intro _; rfl) (hw : ∀ i, swappedStores [tg] e (X i).env = pure none := by intro _; rfl)
    (h1 : ∀ i, (assignEach [tg] (X i).env).map (·.2) = [assign tg (X i).env] := by intro _; rfl) : SX X C (.Assign [tg] e pos) (sSet tf f) := by
  obtain ⟨t, p, s⟩ := he
  obtain ⟨tt, pt, stt⟩ := ht
  exact ⟨tAsg t tt, fun i => ps_asg (p i) (pt i) (hs i) (hw i) (h1 i), sim_set s stt⟩
theorem s_while (n : Nat) (F : Fam X C) (hc : BX X C c fb) (hb : BkX X C a fs) : SX X C (.While c a [] pos) (whl fb fs n) := by
  obtain ⟨tc, pc, sc⟩ := hc
  obtain ⟨tb, pb, sb⟩ := hb
  refine ⟨tWhile tc tb, fun i => ps_while (F.own i) (pc i) (pb i), fun S σ H g D st hp => ?_⟩
  refine ⟨fun m σ H => ∃ S g, Sta C S σ H g ∧ PostS C S σ H g (whl fb fs m g) D, ⟨n, S, g, st, hp⟩, ?_⟩
  rintro m σ H ⟨S, g, st, hp⟩
  cases m with
  | zero => exact hp.elim
  | succ m =>
    refine sc S σ H g _ st ?_
    unfold whl at hp
    match h : fb g, hp with
    | .stuck, hp => exact hp
    | .err x g', hp => exact hp
    | .ok (false, g'), hp => exact fun S1 H1 k1 s1 => iteF (hp S1 σ H1 k1 s1)
    | .ok (true, g'), hp =>
      intro S1 H1 k1 s1
      refine iteT ⟨fun σ' H' => ∃ S g, Sta C S σ' H' g ∧ PostS C S σ' H' g (whl fb fs m g) D, fun σ' H' z => ⟨m, Nat.lt_succ_self m, z⟩, sb S1 σ H1 g' _ s1 ?_⟩
      rw [R.bind_ok, if_pos rfl] at hp
      dsimp only at hp
      match h2 : fs g', hp with
      | .stuck, hp => exact hp
      | .err x g2, hp => exact PostX.on k1 hp
      | .ok (.nx g2), hp => exact fun S2 σ2 H2 k2 s2 => ⟨S2, g2, s2, PostS.on (k1.trans k2) hp⟩
      | .ok (.ct g2), hp => exact fun S2 σ2 H2 k2 s2 => ⟨S2, g2, s2, PostS.on (k1.trans k2) hp⟩
      | .ok (.bk g2), hp => exact fun S2 σ2 H2 k2 s2 => hp S2 σ2 H2 (k1.trans k2) s2
      | .ok (.rt v g2), hp => exact fun S2 σ2 H2 u k2 s2 r => hp S2 σ2 H2 u (k1.trans k2) s2 r
      | .ok (.rn v g2), hp => exact fun S2 σ2 H2 u k2 s2 r => hp S2 σ2 H2 u (k1.trans k2) s2 (r.on k1)
theorem drop_cons {α : Type} {l : List α} {i : Nat} {v : α} (h : l[i]? = some v) : l.drop i = v :: l.drop (i + 1) := by
  obtain ⟨h1, h2⟩ := List.getElem?_eq_some_iff.mp h
  rw [List.drop_eq_getElem_cons h1, h2]
theorem s_for (F : Fam X C) (hi : IX X C tg iter fi) (ht : TX X C anyS tg tf) (hb : BkX X C a fs) (hs : ∀ i x, foldedSetIterable iter (X i).env x = pure x := by intro _ _; rfl) : SX X C (.For tg iter a [] pos) (sFor fi tf fs) := by
  obtain ⟨wi, pi, si⟩ := hi
  obtain ⟨tt, pt, stt⟩ := ht
  obtain ⟨tb, pb, sb⟩ := hb
  refine ⟨tFor wi tt tb, fun i => ps_for (F.own i) (F.calm i) (pi i) (pt i) (pb i) (hs i), fun S σ H g D st hp => ?_⟩
  refine si S σ H g _ st ?_
  unfold sFor at hp
  match h : fi g, hp with
  | .stuck, hp => exact hp
  | .err x g', hp => exact hp
  | .ok (vs, g0), hp =>
    rw [R.bind_ok] at hp
    intro S0 H0 J k0 s0 wk
    refine ⟨fun i m σ H => i + m = vs.length ∧ ∃ S g, Kee S0 H0 S H ∧ Sta C S σ H g ∧ PostS C S σ H g (loopL tf fs (vs.drop i) g) D, ⟨vs.length, by omega, S0, g0, .refl, s0, PostS.on k0 hp⟩, ?_⟩
    rintro i m σ H ⟨him, S, g, kk, st, hp⟩
    obtain ⟨w1, w2⟩ := wk S H kk st.live
    cases hv : vs[i]? with
    | none =>
      have hl := List.getElem?_eq_none_iff.mp hv
      rw [List.drop_eq_nil_of_le hl] at hp
      exact .inl ⟨w2 i hl, hp S σ H .refl st⟩
    | some v =>
      have hlt := (List.getElem?_eq_some_iff.mp hv).1
      obtain ⟨go, yl⟩ := w1 i v hv
      rw [drop_cons hv] at hp
      unfold loopL at hp
      refine .inr ⟨go, fun σ' H' => ∃ S g, Kee S0 H0 S H' ∧ Sta C S σ' H' g ∧ PostS C S σ' H' g (loopL tf fs (vs.drop (i + 1)) g) D, fun σ' H' z => ⟨m - 1, by omega, by omega, z⟩, fun x H' y => ?_⟩
      obtain ⟨S3, gr, rx⟩ := yl x H' y
      refine stt S3 σ H' g v x _ (st.gro gr) rx ?_
      match h3 : tf v g, hp with
      | .stuck, hp => exact hp
      | .err x g', hp => exact hp.elim
      | .ok g1, hp =>
        intro σ1 k1 s1 _
        refine sb S3 σ1 H' g1 _ s1 ?_
        rw [R.go_ok] at hp
        have k3 := (st.stpG gr).trans k1
        match h2 : fs g1, hp with
        | .stuck, hp => exact hp
        | .err x g2, hp => exact PostX.on k3 hp
        | .ok (.nx g2), hp => exact fun S2 σ2 H2 k2 s2 => ⟨S2, g2, kk.trans ((k3.trans k2).kee st), s2, PostS.on (k3.trans k2) hp⟩
        | .ok (.ct g2), hp => exact fun S2 σ2 H2 k2 s2 => ⟨S2, g2, kk.trans ((k3.trans k2).kee st), s2, PostS.on (k3.trans k2) hp⟩
        | .ok (.bk g2), hp => exact fun S2 σ2 H2 k2 s2 => hp S2 σ2 H2 (k3.trans k2) s2
        | .ok (.rt v g2), hp => exact fun S2 σ2 H2 u k2 s2 r => hp S2 σ2 H2 u (k3.trans k2) s2 r
        | .ok (.rn v g2), hp => exact fun S2 σ2 H2 u k2 s2 r => hp S2 σ2 H2 u (k3.trans k2) s2 (r.on k3)
end
end L3

namespace L3
open PySem PySem.Spec PyProof.Rows L2
/-! ### new things, kept in a slot -/
def PostEN (C : Ctx) (S : Addr → Prop) (σ : L2.St) (H : Hp) (g : Gm) (r : R (PV × Gm)) (Q : VK) : Prop := match r with
  | .ok (v, g') => ∀ S' H' p, Stp S σ H g S' σ H' g' → Sta C S' σ H' g' → New C σ g S H S' σ H' g' v p → Q (.ref p) H'
  | .err x g' => PostX C S σ H g x g'
  | .stuck => False
def SimEN (C : Ctx) (t : TE) (f : EF) : Prop := ∀ S σ H g Q, Sta C S σ H g → PostEN C S σ H g (f g) Q → t σ H Q
def ENX {ι : Type} (X : ι → Cx) (C : Ctx) (e : Expr) (f : EF) : Prop := ∃ t, (∀ i, PE (X i) e t) ∧ SimEN C t f
def sNew (i : Nat) (f : EF) : SF := fun g => (f g).bind fun x => (setV x.2 i (.own x.1)).go sNil
mutual
/-- no list within -/
def fla : PV → Bool
  | .non => true
  | .bl _ => true
  | .int _ => true
  | .str _ => true
  | .tup ps => flas ps
  | .ktup ps => flas ps
  | .scr _ => true
  | .exc _ => true
  | .ty _ => true
  | .cls _ => true
  | _ => false
def flas : List PV → Bool
  | [] => true
  | p :: ps => fla p && flas ps
end
def pFrz (i : Nat) (f : PF) : PF := fun g => (R.of ((g[i]?).bind Slot.cont)).bind fun v => (R.of (seenM v)).bind fun w => (f (g.set i (.val w))).bind fun r => if fla r = true then .ok r else .stuck
def nFrz (i : Nat) (f : PF) : PF := fun g => (R.of ((g[i]?).bind Slot.cont)).bind fun v => (R.of (seenM v)).bind fun w => (f (g.set i (.val w))).bind fun r => match r with
  | .lst ps => if flas ps = true then .ok (.lst ps) else .stuck
  | _ => .stuck
def sFrz (i : Nat) : SF := fun g => match g[i]? with
  | some (.own v) => (R.of (seenM v)).bind fun w => .ok (.nx (g.set i (.val w)))
  | _ => .stuck
section
variable {K : PySem.W.Frag} {xc : Xc} {S S' : Addr → Prop} {H H' : Hp}
mutual
theorem fla_any : ∀ {v : PV} {u : V}, fla v = true → Rep K xc S H v u → Rep K xc S' H v u
  | .non, _, _, h => by unfold Rep at h ⊢; exact h
  | .bl _, _, _, h => by unfold Rep at h ⊢; exact h
  | .int _, _, _, h => by unfold Rep at h ⊢; exact h
  | .str _, _, _, h => by unfold Rep at h ⊢; exact h
  | .tup ps, _, hf, h => by
    obtain ⟨a, xs, e, h1, h2⟩ := rep_tup.mp h
    exact rep_tup.mpr ⟨a, xs, e, h1, flas_any (by simpa [fla] using hf) h2⟩
  | .ktup ps, _, hf, h => by
    obtain ⟨a, xs, e, h1, h2⟩ := rep_ktup.mp h
    exact rep_ktup.mpr ⟨a, xs, e, h1, flas_any (by simpa [fla] using hf) h2⟩
  | .exc _, _, _, h => by unfold Rep at h ⊢; exact h
  | .ty _, _, _, h => by unfold Rep at h ⊢; exact h
  | .cls _, _, _, h => by unfold Rep at h ⊢; exact h
  | .lst _, _, hf, _ => by simp [fla] at hf
  | .scr _, _, _, h => by unfold Rep at h ⊢; exact h
  | .dk _ _, _, hf, _ => by simp [fla] at hf
  | .dt _ _, _, hf, _ => by simp [fla] at hf
  | .mat _, _, hf, _ => by simp [fla] at hf
  | .box _, _, hf, _ => by simp [fla] at hf
  | .desk _ _, _, hf, _ => by simp [fla] at hf
theorem flas_any : ∀ {ps : List PV} {us : List V}, flas ps = true → RepL K xc S H ps us → RepL K xc S' H ps us
  | [], _, _, h => by rw [RepL.nil] at h ⊢; exact h
  | p :: ps, _, hf, h => by
    obtain ⟨x, r, e, h1, h2⟩ := RepL.cons.mp h
    have hf' : fla p = true ∧ flas ps = true := by simpa [flas] using hf
    exact RepL.cons.mpr ⟨x, r, e, fla_any hf'.1 h1, flas_any hf'.2 h2⟩
end
end
section
variable {C : Ctx} {S S' : Addr → Prop} {σ σ' : L2.St} {H H' : Hp} {g g' : Gm} {i : Nat}
/-- slot i's thing is read as a value -/
theorem Sta.seen (st : Sta C S σ H g) {s : Slot} {v w : PV} {p : Addr} (hi : g[i]? = some s) (hc : s.cont = some v) (hp : σ[i]? = some (some (.ref p))) (hw : seenM v = some w) : Sta C (fun a => S a ∨ a = p ∨ Sub H v p a) σ H (g.set i (.val w)) := by
  have hlt := (List.getElem?_eq_some_iff.mp hi).1
  obtain ⟨p', q1, q2⟩ := st.own i s v hi hc
  rw [hp] at q1; cases q1
  have k : Kee S H (fun a => S a ∨ a = p ∨ Sub H v p a) H := ⟨fun a z => .inl z, fun _ _ z _ => z⟩
  have old : ∀ {j : Nat} {t : Slot}, j ≠ i → (g.set i (Slot.val w))[j]? = some t → g[j]? = some t := fun {j t} e h => by rwa [List.getElem?_set_ne (Ne.symm e)] at h
  have ne : ∀ {j : Nat} {t : Slot} {u : PV}, (g.set i (Slot.val w))[j]? = some t → t.cont = some u → j ≠ i := fun {j t u} h c e => by
    subst e; rw [List.getElem?_set_self hlt] at h; cases h; cases c
  refine ⟨by rw [List.length_set, st.len], fun j u h => ?_, fun j t u h c => ?_, fun j l t r u x q q' a hjl h1 h2 h3 h4 h5 h6 h7 h8 => st.apart j l t r u x q q' a hjl (old (ne h1 h2) h1) h2 (old (ne h3 h4) h3) h4 h5 h6 h7 h8,
    fun a ⟨j, t, u, q, h1, h2, h3, h4⟩ z => ?_, fun a z => ?_⟩
  · by_cases e : j = i
    · subst e
      rw [List.getElem?_set_self hlt] at h
      cases h
      exact ⟨_, hp, q2.seen hw⟩
    · obtain ⟨x, h1, h2⟩ := st.val j u (old e h)
      exact ⟨x, h1, h2.kee k⟩
  · obtain ⟨q, h1, h2⟩ := st.own j t u (old (ne h c) h) c
    exact ⟨q, h1, h2.stay k fun a o _ e => e⟩
  · have e := ne h1 h2
    have h1' := old e h1
    rcases z with z | z
    · exact st.out a ⟨j, t, u, q, h1', h2, h3, h4⟩ z
    · exact st.apart j i t s u v q p a e h1' h2 hi hc h3 hp h4 z
  · rcases z with z | z
    · exact st.live a z
    · exact q2.aliveSub z
end
section
variable {ι : Type} {X : ι → Cx} {C : Ctx} {e a b : Expr} {f : PF} {fe : EF} {fs : SF} {pos : Pos} {sts : List Stmt}
/-- behind a reading in the wider view: only new things were made -/
theorem gro_back {S S' T : Addr → Prop} {H H' : Hp} (k : Gro T H S' H') : Gro S H (fun a => S a ∨ (H a = none ∧ H' a ≠ none)) H' := ⟨fun a z => .inl z, fun a z => z, k.same⟩
theorem sim_frz {t : TE} {i : Nat} (s : SimP C t f) : SimP C t (pFrz i f) := fun S σ H g Q st hp => by
  unfold pFrz at hp
  match e1 : (g[i]?).bind Slot.cont, hp with
  | none, hp => exact hp.elim
  | some v, hp =>
    rw [R.of_some, R.bind_ok] at hp
    obtain ⟨s0, h1, h2⟩ := Option.bind_eq_some_iff.mp e1
    obtain ⟨p, h3, ob⟩ := st.own i s0 v h1 h2
    match e2 : seenM v, hp with
    | none, hp => exact hp.elim
    | some w, hp =>
      rw [R.of_some, R.bind_ok] at hp
      refine s _ σ H _ Q (st.seen h1 h2 h3 e2) ?_
      match e3 : f (g.set i (.val w)), hp with
      | .stuck, hp => exact hp
      | .err x g', hp => exact fun S' H' cls d k ex => hp _ H' cls d (gro_back k) ex
      | .ok r, hp =>
        rw [R.bind_ok] at hp
        by_cases hf : fla r = true
        · rw [if_pos hf] at hp
          exact fun S' H' u k r => hp _ H' u (gro_back k) (fla_any hf r)
        · rw [if_neg hf] at hp; exact hp.elim
theorem p_frz (i : Nat) (h : PX X C e f) : PX X C e (pFrz i f) := let ⟨t, p, s⟩ := h; ⟨t, p, sim_frz s⟩
theorem n_frz (i : Nat) (h : NX X C e f) : NX X C e (nFrz i f) := by
  obtain ⟨t, p, s⟩ := h
  refine ⟨t, p, fun S σ H g Q st hp => ?_⟩
  unfold nFrz at hp
  match e1 : (g[i]?).bind Slot.cont, hp with
  | none, hp => exact hp.elim
  | some v, hp =>
    rw [R.of_some, R.bind_ok] at hp
    obtain ⟨s0, h1, h2⟩ := Option.bind_eq_some_iff.mp e1
    obtain ⟨p, h3, ob⟩ := st.own i s0 v h1 h2
    match e2 : seenM v, hp with
    | none, hp => exact hp.elim
    | some w, hp =>
      rw [R.of_some, R.bind_ok] at hp
      refine s _ σ H _ Q (st.seen h1 h2 h3 e2) ?_
      match e3 : f (g.set i (.val w)), hp with
      | .stuck, hp => exact hp
      | .err x g', hp => exact fun S' H' cls d k ex => hp _ H' cls d (gro_back k) ex
      | .ok r, hp =>
        rw [R.bind_ok] at hp
        cases r with
        | lst ps =>
          dsimp only at hp
          by_cases hf : flas ps = true
          · rw [if_pos hf] at hp
            intro S' H' q k np ns ⟨xs, o1, o2⟩ _
            refine hp (fun a => S a ∨ (H a = none ∧ H' a ≠ none ∧ a ≠ q)) H' q ⟨fun a z => .inl z, fun a z => z.imp id fun z => ⟨z.1, z.2.1⟩, k.same⟩ np ?_ ⟨xs, o1, flas_any hf o2⟩ fun a z => z.elim
            rintro (z | z)
            · exact st.live q z np
            · exact z.2.2 rfl
          · rw [if_neg hf] at hp; exact hp.elim
        | _ => exact hp.elim
theorem k_frz (i : Nat) (h : BkX X C sts fs) : BkX X C sts (sSeq (sFrz i) fs) := by
  obtain ⟨t, p, s⟩ := h
  refine ⟨t, p, fun S σ H g D st hp => ?_⟩
  unfold sSeq sFrz at hp
  match e1 : g[i]?, hp with
  | none, hp => exact hp.elim
  | some .junk, hp => exact hp.elim
  | some (.val v), hp => exact hp.elim
  | some (.prm v), hp => exact hp.elim
  | some (.own v), hp =>
    dsimp only at hp
    obtain ⟨q, h3, ob⟩ := st.own i _ v e1 rfl
    match e2 : seenM v, hp with
    | none, hp => exact hp.elim
    | some w, hp =>
      rw [R.of_some, R.bind_ok] at hp
      have s2 := st.seen e1 rfl h3 e2
      have hlt := (List.getElem?_eq_some_iff.mp e1).1
      have fo : ∀ a, (a = q ∨ Sub H v q a) → Foot σ H g a := fun a z => ⟨i, _, v, q, e1, rfl, h3, z⟩
      have k : Stp S σ H g (fun a => S a ∨ a = q ∨ Sub H v q a) σ H (g.set i (.val w)) := ⟨fun a z => .inl z, fun a z => z.imp id fun z => .inr (fo a z), fun _ _ z _ => z, fun a ⟨j, t, u, r, h1, h2, h4, h5⟩ => by
        have e : j ≠ i := fun e => by subst e; rw [List.getElem?_set_self hlt] at h1; cases h1; cases h2
        rw [List.getElem?_set_ne (Ne.symm e)] at h1
        exact .inl ⟨j, t, u, r, h1, h2, h4, h5⟩, fun _ z => z, rfl, fun j u h => by
        have e : j ≠ i := fun e => by subst e; rw [e1] at h; cases h
        exact ⟨rfl, u, by rw [List.getElem?_set_ne (Ne.symm e)]; exact h⟩⟩
      exact s _ σ H _ D s2 (PostS.on k hp)
theorem en_n (h : NX X C e f) : ENX X C e (eP f) := by
  obtain ⟨t, p, s⟩ := h
  refine ⟨t, p, fun S σ H g Q st hp => s S σ H g Q st ?_⟩
  unfold eP at hp
  match e1 : f g, hp with
  | .stuck, hp => exact hp
  | .err x g', hp => exact PostPX.of st (g' := g) hp
  | .ok v, hp =>
    intro S' H' q k np ns ob sb
    refine hp S' H' q (st.stpG k) (st.gro k) ⟨ob, fun a z => ?_⟩
    have h0 : H a = none ∧ ¬ S' a := by
      rcases z with rfl | z
      · exact ⟨np, ns⟩
      · exact sb a z
    exact ⟨.inl h0.1, h0.2, fun f => st.aliveF (st.footG k f) h0.1⟩
/-- a new list as a value -/
def eSeen (f : EF) : EF := fun g => (f g).bind fun x => (R.of (seen x.1)).bind fun v => .ok (v, x.2)
theorem sim_seen {t : TE} (s : SimEN C t fe) : SimE C t (eSeen fe) := fun S σ H g Q st hp => by
  refine s S σ H g Q st ?_
  unfold eSeen at hp
  match e1 : fe g, hp with
  | .stuck, hp => exact hp
  | .err x g', hp => exact hp
  | .ok (v, g'), hp =>
    rw [R.bind_ok] at hp
    dsimp only at hp
    intro S' H' q k s1 ⟨ob, hn⟩
    match e2 : seen v, hp with
    | none, hp => exact hp.elim
    | some w, hp =>
      rw [R.of_some, R.bind_ok] at hp
      have k3 : Kee S' H' (plus S' q) H' := ⟨fun a z => .inl z, fun _ _ z _ => z⟩
      have s2 : Sta C (plus S' q) σ H' g' := ⟨s1.len, fun j u h => let ⟨x, h1, h2⟩ := s1.val j u h; ⟨x, h1, h2.kee k3⟩, fun j t u h c => let ⟨x, h1, h2⟩ := s1.own j t u h c; ⟨x, h1, h2.stay k3 fun a o _ e => e⟩, s1.apart, fun a f z => by
        rcases z with z | rfl
        · exact s1.out a f z
        · exact (hn a (.inl rfl)).2.2 f, fun a z => by
        rcases z with z | rfl
        · exact s1.live a z
        · exact ob.alive⟩
      have k2 : Stp S σ H g (plus S' q) σ H' g' := ⟨fun a z => .inl (k.sub a z), fun a z => by
        rcases z with z | rfl
        · exact k.new a z
        · exact .inr (hn a (.inl rfl)).1, k.frm, k.grw, k.alive, k.len, k.keep⟩
      have rr : Rep C.K C.xc (plus S' q) H' w (.ref q) := by
        cases v with
        | lst ps => cases e2; obtain ⟨xs, h1, h2⟩ := ob; exact rep_lst.mpr ⟨q, xs, rfl, .inr rfl, h1, h2.kee k3⟩
        | dk ks ps => cases e2; obtain ⟨xs, h1, h2, h3⟩ := ob; exact rep_dk.mpr ⟨q, xs, rfl, .inr rfl, h1, h2, h3.kee k3⟩
        | dt ks ps => cases e2; obtain ⟨xs, h1, h2, h3⟩ := ob; exact rep_dt.mpr ⟨q, xs, rfl, .inr rfl, h1, h2, h3.kee k3⟩
        | _ => cases e2
      exact hp _ H' _ k2 s2 rr
theorem e_en (h : ENX X C e fe) : EX X C e (eSeen fe) := let ⟨t, p, s⟩ := h; ⟨t, p, sim_seen s⟩
theorem sim_new {te : TE} {i : Nat} (se : SimEN C te fe) : SimS C (tAsg te (gName i)) (sNew i fe) := fun S σ H g D st hp => by
  refine se S σ H g _ st ?_
  unfold sNew at hp
  match h : fe g, hp with
  | .stuck, hp => exact hp
  | .err x g', hp => exact hp
  | .ok (v, g'), hp =>
    intro S1 H1 p k1 s1 ⟨ob, hn⟩
    rw [R.bind_ok] at hp
    dsimp only at hp
    match h2 : setV g' i (.own v), hp with
    | .stuck, hp => exact hp.elim
    | .err x g', hp => exact hp.elim
    | .ok g2, hp =>
      obtain ⟨rfl, z1, z2⟩ := of_setV h2
      exact hp S1 _ H1 (stp_setO s1 k1 (fun a z => (hn a z).1) z1 z2) (s1.setO ob (fun a z => ⟨(hn a z).2.2, (hn a z).2.1⟩) z1)
theorem s_new {i : Nat} {x : Str} {pos' : Pos} (hN : ∀ j, (X j).N.Nodup) (hi : ∀ j, (X j).N[i]? = some x) (hx : ∀ j, Loc (X j).env.scope x) (hf : ∀ j, (X j).fn x = true ∨ (X j).env.scope.names.lookup x = some .local) (he : ENX X C e fe)
    (hs : ∀ j, swapsWith e (some (.Name x pos')) pos.line (X j).env = pure false := by intro _; rfl) : SX X C (.Assign [.Name x pos'] e pos) (sNew i fe) := by
  obtain ⟨t, p, s⟩ := he
  exact ⟨tAsg t (gName i), fun j => ps_set (hN j) (hi j) (hx j) (p j) (hs j) (hf j), sim_new s⟩
/-! ### comparisons -/
def CX' {ι : Type} (X : ι → Cx) (C : Ctx) (op : CmpOp) (a b : Expr) (f : PF) : Prop := ∃ t, (∀ i, PC (X i) op a b t) ∧ SimP C t f
theorem c_cmp {op : CmpOp} {r : R2} {h : PV → PV → Option PV} {fa fb : PF} (ho : ∀ i, OpR (X i) (compareOp op) r) (hs : OpS C.K C.xc r h) (ha : PX X C a fa) (hb : PX X C b fb) : CX' X C op a b (pOp h fa fb) := by
  obtain ⟨ta, pa, sa⟩ := ha
  obtain ⟨tb, pb, sb⟩ := hb
  refine ⟨tOp r ta tb, fun i => ⟨fun pins s σ H Q I hq => binT (pa i) (pb i) I hq fun v u s2 x y H2 I2 rx ry q => ho i pins s2 σ H2 x y v u Q I2 rx ry q⟩, fun S σ H g Q st hp => ?_⟩
  refine SimP.bind2 sa sb st hp fun x y u v S2 H2 k s2 ru rv q => ?_
  match e : h x y, q with
  | none, q => exact q.elim
  | some z, q => exact hs S2 H2 x y z u v Q e ru rv fun S' H' w k' rw' => q S' H' w k' rw'
theorem c_frz {op : CmpOp} (i : Nat) (h : CX' X C op a b f) : CX' X C op a b (pFrz i f) := let ⟨t, p, s⟩ := h; ⟨t, p, sim_frz s⟩
theorem p_c' {op : CmpOp} (h : CX' X C op a b f) (hm : behindInMarks op b = false) : PX X C (.Compare a [op] [b] pos) f := let ⟨t, p, s⟩ := h; ⟨t, fun i => pe_cmp (p i) hm, s⟩
theorem b_c {op : CmpOp} (h : CX' X C op a b f) (hm : behindInMarks op b = false) : BX X C (.Compare a [op] [b] pos) (bV (eP f)) := by
  obtain ⟨t, p, s⟩ := h
  refine ⟨tB t, fun i => pt_cmp (p i) hm, fun S σ H g Q st hp => ?_⟩
  refine SimE.bindB (h := fun x g => (R.of (asB x)).bind fun b => .ok (b, g)) s.toE st hp fun x u S1 H1 g1 s1 r q => ?_
  match h : asB x, q with
  | none, q => exact q.elim
  | some c, q =>
    rw [of_asB h] at r
    exact ⟨c, rep_bl.mp r, q S1 H1 .refl s1⟩
end
end L3

namespace L3
open PySem PySem.Spec PyProof.Rows L2
/-! ### methods that change a slot's list -/
/-- a method by contents: what stands behind it, what it answers -/
def MutS (K : PySem.W.Frag) (xc : Xc) (r : V → List V → Hp → VK → Prop) (f : List PV → List PV → Option (List PV × PV)) : Prop := ∀ (S : Addr → Prop) (H : Hp) (vs : List PV) (us : List V) (args cs : List PV) (z : PV) (p : Addr) (au : List V),
  f vs args = some (cs, z) → H p = some (.lst us) → RepL K xc S H vs us → RepL K xc S H args au → ∃ ys w, RepL K xc S H cs ys ∧ Rep K xc S H z w ∧ ∀ Q : VK, Q w (upd H p (.lst ys)) → r (.ref p) au H Q
def isL : PV → Bool
  | .lst _ => true
  | _ => false
def asL : PV → Option (List PV)
  | .lst vs => some vs
  | _ => none
theorem of_asL {v : PV} {vs : List PV} (h : asL v = some vs) : v = .lst vs := by
  cases v <;> simp [asL] at h
  rw [h]
/-- the list in slot i -/
def atL (g : Gm) (i : Nat) : Option (List PV) := ((g[i]?).bind Slot.cont).bind asL
theorem of_atL {g : Gm} {i : Nat} {vs : List PV} (h : atL g i = some vs) : ∃ s, g[i]? = some s ∧ s.cont = some (.lst vs) := by
  unfold atL at h
  obtain ⟨v, h1, h2⟩ := Option.bind_eq_some_iff.mp h
  obtain ⟨s, h3, h4⟩ := Option.bind_eq_some_iff.mp h1
  rw [of_asL h2] at h4
  exact ⟨s, h3, h4⟩
def eMut (i : Nat) (f : List PV → List PV → Option (List PV × PV)) (l : AF) : EF := fun g => (R.of (atL g i)).bind fun _ => (l g).bind fun xs => (R.of (atL xs.2 i)).bind fun vs => (R.of (f vs xs.1)).bind fun z => .ok (z.2, setC xs.2 i (.lst z.1))
def fAppend (vs args : List PV) : Option (List PV × PV) := match args with
  | [x] => if vs.length < 1000000 then some (vs ++ [x], .non) else none
  | _ => none
def fExtend (vs args : List PV) : Option (List PV × PV) := match args with
  | [.lst xs] => if vs.length + xs.length < 1000000 then some (vs ++ xs, .non) else none
  | _ => none
def fPop (vs args : List PV) : Option (List PV × PV) := match args with
  | [.int i] => if 0 ≤ i ∧ i < 1000000 then (vs[i.toNat]?).map fun x => (vs.eraseIdx i.toNat, x) else none
  | _ => none
def fInsert (vs args : List PV) : Option (List PV × PV) := match args with
  | [.int i, x] => if 0 ≤ i ∧ i < 1000000 ∧ vs.length < 1000000 then some (vs.take i.toNat ++ [x] ++ vs.drop i.toNat, .non) else none
  | _ => none
def fReverse (vs args : List PV) : Option (List PV × PV) := match args with
  | [] => some (vs.reverse, .non)
  | _ => none
theorem m6 {n : Nat} (h : n < 1000000) : n < sizeLine := Nat.lt_trans h (by decide)
section
variable {K : PySem.W.Frag} {xc : Xc}
theorem u_append : MutS K xc rAppend fAppend := by
  intro S H vs us args cs z p au e hp rv ra
  unfold fAppend at e
  split at e
  · rename_i x
    split at e
    · rename_i hz
      cases e
      obtain ⟨u, rfl, r⟩ := ra.one_inv
      exact ⟨us ++ [u], .non, rv.app (RepL.one r), rep_non.mpr rfl, fun Q q => ⟨p, us, u, rfl, rfl, hp, m6 (by rw [← rv.len]; exact hz), q⟩⟩
    · cases e
  · cases e
theorem u_pop : MutS K xc rPopAt fPop := by
  intro S H vs us args cs z p au e hp rv ra
  unfold fPop at e
  split at e
  · rename_i i
    split at e
    · rename_i hz
      obtain ⟨h0, h1⟩ := hz
      cases hx : vs[i.toNat]? with
      | none => rw [hx] at e; cases e
      | some x =>
        rw [hx] at e
        cases e
        obtain ⟨u, rfl, r⟩ := ra.one_inv
        rw [rep_int.mp r]
        obtain ⟨w, hw, rw'⟩ := rv.get hx
        have hlt := (List.getElem?_eq_some_iff.mp hw).1
        exact ⟨us.eraseIdx i.toNat, w, rv.erase _, rw', fun Q q => ⟨p, us, i, i.toNat, w, rfl, rfl, hp, by omega, by omega, seqIndex_of h0 (by omega), hw, q⟩⟩
    · cases e
  · cases e
theorem u_insert : MutS K xc (fun x vs H Q => ∃ (l : Addr) (xs : List V) (i : Int) (y : V), x = .ref l ∧ vs = [.int i, y] ∧ H l = some (.lst xs) ∧ xs.length < sizeLine ∧ 0 ≤ i ∧ i < 2 ^ 63 ∧
    Q .non (upd H l (.lst (xs.take i.toNat ++ [y] ++ xs.drop i.toNat)))) fInsert := by
  intro S H vs us args cs z p au e hp rv ra
  unfold fInsert at e
  split at e
  · rename_i i x
    split at e
    · rename_i hz
      obtain ⟨h0, h1, h2⟩ := hz
      cases e
      obtain ⟨u, v, rfl, r1, r2⟩ := ra.two_inv
      rw [rep_int.mp r1]
      exact ⟨_, .non, ((rv.take _).app (RepL.one r2)).app (rv.drop _), rep_non.mpr rfl, fun Q q => ⟨p, us, i, v, rfl, rfl, hp, m6 (by rw [← rv.len]; exact h2), h0, by omega, q⟩⟩
    · cases e
  · cases e
theorem u_reverse : MutS K xc rReverse fReverse := by
  intro S H vs us args cs z p au e hp rv ra
  unfold fReverse at e
  split at e
  · cases e
    exact ⟨_, .non, rv.rev, rep_non.mpr rfl, fun Q q => ⟨p, us, rfl, RepL.nil.mp ra, hp, q⟩⟩
  · cases e
end
section
variable {C : Ctx} {S S' : Addr → Prop} {σ σ' : L2.St} {H H' : Hp} {g g' : Gm} {i : Nat}
/-- slot i's list becomes another -/
theorem mut_lst (st : Sta C S σ H g) {s : Slot} {vs cs : List PV} {p : Addr} {ys : List V} (hi : g[i]? = some s) (hc : s.cont = some (.lst vs)) (hp : σ[i]? = some (some (.ref p))) (hr : RepL C.K C.xc S H cs ys) :
    Stp S σ H g S σ (upd H p (.lst ys)) (setC g i (.lst cs)) ∧ Sta C S σ (upd H p (.lst ys)) (setC g i (.lst cs)) ∧ Kee S H S (upd H p (.lst ys)) := by
  obtain ⟨p', q1, us, q2, q3⟩ := st.own i s _ hi hc
  rw [hp] at q1; cases q1
  obtain ⟨k, s2⟩ := mut_one (c := .lst cs) (o := .lst ys) st hi hc hp (fun _ _ z => z) (fun _ _ z => z) (fun x e => by rw [q2] at e; cases e; exact fun z => z) (fun kee => ⟨ys, upd_same, hr.kee kee⟩)
  exact ⟨k, s2, k.kee st⟩
end
section
variable {ι : Type} {X : ι → Cx} {C : Ctx} {e e2 a b : Expr} {fe fi : EF} {fl : AF} {fs : SF} {pos p p2 ap : Pos} {es : List Expr} {x name : Str} {i : Nat} {id : String} {r : V → List V → Hp → VK → Prop} {f : List PV → List PV → Option (List PV × PV)}
theorem sim_mut {t : TA} (hs : MutS C.K C.xc r f) (sl : SimA C t fl) : SimE C (tBM C.K "list" r (tVar i) t) (eMut i f fl) := fun S σ H g Q st hp => by
  unfold eMut at hp
  match e1 : atL g i, hp with
  | none, hp => exact hp.elim
  | some v0, hp =>
    rw [R.of_some, R.bind_ok] at hp
    obtain ⟨s0, a1, a2⟩ := of_atL e1
    obtain ⟨p, a3, us0, a4, _⟩ := st.own i s0 _ a1 a2
    refine ⟨.ref p, a3, .inl ⟨rfl, us0, SqL.of a4⟩, ?_⟩
    refine sl S σ H g _ st ?_
    match e2 : fl g, hp with
    | .stuck, hp => exact hp
    | .err x g', hp => exact hp
    | .ok (xs, g1), hp =>
      rw [R.bind_ok] at hp
      intro S1 H1 au k1 s1 ra
      dsimp only at hp
      match e3 : atL g1 i, hp with
      | none, hp => exact hp.elim
      | some vs, hp =>
        rw [R.of_some, R.bind_ok] at hp
        obtain ⟨s2, b1, b2⟩ := of_atL e3
        obtain ⟨p', b3, us, b4, b5⟩ := s1.own i s2 _ b1 b2
        rw [a3] at b3; cases b3
        match e4 : f vs xs, hp with
        | none, hp => exact hp.elim
        | some (cs, z), hp =>
          rw [R.of_some, R.bind_ok] at hp
          obtain ⟨ys, w, r1, r2, fin⟩ := hs S1 H1 vs us xs cs z p au e4 b4 b5 ra
          obtain ⟨k2, s3, kk⟩ := mut_lst s1 b1 b2 a3 r1
          exact fin _ (hp S1 _ w (k1.trans k2) s3 (r2.kee kk))
theorem e_mut (F : Fam X C) (slot : PySem.Slot "list" name id) (hty : typeOf (.builtin id) = pure (.type "method_descriptor")) (hm : ∀ i, MtR (X i) id r) (hs : MutS C.K C.xc r f) (hN : ∀ j, (X j).N[i]? = some x) (hv : ∀ j, Vis (X j).env.scope x) (hl : AX X C (e :: es) fl)
    (hd : (x == ("__debug__" : Str)) = false := by decide) (hcd : (x == ("__classdict__" : Str)) = false := by decide)
    (hbase : ∀ j, attributeBase (.Name x p) name (X j).env (eval (.Name x p) (X j).env) = eval (.Name x p) (X j).env := by intro _; rfl)
    (hfew : ∀ j, ((backTo pos (starEach (e :: es) (X j).env)).all (fun x => !x.1) && (backToKw pos (keywordEach [] (X j).env)).all (fun x => x.1.isSome)
      && decide ((e :: es).length + ([] : List Keyword).length + (if ([] : List Keyword).isEmpty then 0 else 1) < 30)) = true := by intro _; rfl)
    (hline : (ap.endLine == pos.line) = true := by rfl) (hst : ∀ j, starEach (e :: es) (X j).env = (false, eval e (X j).env) :: starEach es (X j).env := by intro _; rfl) (hpl : ∀ j, (backTo pos (starEach es (X j).env)).any (·.1) = false := by intro _; rfl) :
    EX X C (.Call (.Attribute (.Name x p) name ap) (e :: es) [] pos) (eMut i f fl) := by
  obtain ⟨t, pa, sl⟩ := hl
  exact ⟨tBM C.K "list" r (tVar i) t, fun j => by rw [← F.K j]; exact pe_bm PySem.F.plainAttrs_list slot hty (hm j) (pe_var (hN j) (hv j) hd hcd) (pa j) (hbase j) (hfew j) hline (hst j) (hpl j), sim_mut hs sl⟩
theorem e_mut0 (F : Fam X C) (slot : PySem.Slot "list" name id) (hty : typeOf (.builtin id) = pure (.type "method_descriptor")) (hm : ∀ i, MtR (X i) id r) (hs : MutS C.K C.xc r f) (hN : ∀ j, (X j).N[i]? = some x) (hv : ∀ j, Vis (X j).env.scope x)
    (hd : (x == ("__debug__" : Str)) = false := by decide) (hcd : (x == ("__classdict__" : Str)) = false := by decide)
    (hbase : ∀ j, attributeBase (.Name x p) name (X j).env (eval (.Name x p) (X j).env) = eval (.Name x p) (X j).env := by intro _; rfl)
    (hline : (ap.endLine == pos.line) = true := by rfl) :
    EX X C (.Call (.Attribute (.Name x p) name ap) [] [] pos) (eMut i f aNil) := by
  refine ⟨tBM0 C.K "list" r (tVar i), fun j => by rw [← F.K j]; exact pe_bm0 PySem.F.plainAttrs_list slot hty (hm j) (pe_var (hN j) (hv j) hd hcd) (hbase j) hline, fun S σ H g Q st hp => ?_⟩
  obtain ⟨q0, a1, a2, a3⟩ := sim_mut (i := i) (t := tNil) (fl := aNil) hs (fun S σ H g Q st hp => hp S H [] .refl st (RepL.nil.mpr rfl)) S σ H g Q st hp
  exact ⟨q0, a1, a2, a3⟩
/-- x.append(e) -/
theorem e_append (F : Fam X C) (hN : ∀ j, (X j).N[i]? = some x) (hv : ∀ j, Vis (X j).env.scope x) (hl : EX X C e fe)
    (hd : (x == ("__debug__" : Str)) = false := by decide) (hcd : (x == ("__classdict__" : Str)) = false := by decide)
    (hbase : ∀ j, attributeBase (.Name x p) "append" (X j).env (eval (.Name x p) (X j).env) = eval (.Name x p) (X j).env := by intro _; rfl)
    (hfew : ∀ j, ((backTo pos (starEach [e] (X j).env)).all (fun x => !x.1) && (backToKw pos (keywordEach [] (X j).env)).all (fun x => x.1.isSome)
      && decide (([e] : List Expr).length + ([] : List Keyword).length + (if ([] : List Keyword).isEmpty then 0 else 1) < 30)) = true := by intro _; rfl)
    (hline : (ap.endLine == pos.line) = true := by rfl) (hst : ∀ j, starEach [e] (X j).env = (false, eval e (X j).env) :: starEach [] (X j).env := by intro _; rfl) (hpl : ∀ j, (backTo pos (starEach [] (X j).env)).any (·.1) = false := by intro _; rfl) :
    EX X C (.Call (.Attribute (.Name x p) "append" ap) [e] [] pos) (eMut i fAppend (aCons fe aNil)) :=
  e_mut F PySem.F.slot_list_append PySem.F.type_list_append (fun _ => mt_append) u_append hN hv (a_cons hl a_nil hst) hd hcd hbase hfew hline hst hpl
/-- x[e2] = e -/
def sSetI (i : Nat) (f fi : EF) : SF := fun g => (f g).bind fun x => (R.of (atL x.2 i)).bind fun _ => (fi x.2).bind fun y => (R.of (atL y.2 i)).bind fun vs => (R.of (asI y.1)).bind fun k => (R.of (ixN vs.length k)).bind fun j => .ok (.nx (setC y.2 i (.lst (vs.set j x.1))))
theorem s_setI (hN : ∀ j, (X j).N[i]? = some x) (hv : ∀ j, Vis (X j).env.scope x) (he : EX X C e fe) (hi : EX X C e2 fi) (hd : (x == ("__debug__" : Str)) = false := by decide) (hcd : (x == ("__classdict__" : Str)) = false := by decide)
    (ha : ∀ j v, assign (.Subscript (.Name x p) e2 p2) (X j).env v = (do
      let ov ← holding [v] (eval (.Name x p) (X j).env)
      let iv ← holding [v, ov] (eval e2 (X j).env)
      standAt p2
      holding [v, ov, iv] (setItem ov iv v)
      release [v, ov, iv] []) := by intro _ _; rfl)
    (hs : ∀ j, swapsWithSole [.Subscript (.Name x p) e2 p2] e pos.line (X j).env = pure false := by intro _; rfl) (hw : ∀ j, swappedStores [.Subscript (.Name x p) e2 p2] e (X j).env = pure none := by intro _; rfl)
    (h1 : ∀ j, (assignEach [.Subscript (.Name x p) e2 p2] (X j).env).map (·.2) = [assign (.Subscript (.Name x p) e2 p2) (X j).env] := by intro _; rfl) : SX X C (.Assign [.Subscript (.Name x p) e2 p2] e pos) (sSetI i fe fi) := by
  obtain ⟨t, pe, se⟩ := he
  obtain ⟨ti, pi, si⟩ := hi
  refine ⟨tAsg t (gSub (tVar i) ti rSetL), fun j => ps_asg (pe j) (pg_sub (pe_var (hN j) (hv j) hd hcd) (pi j) set_list (ha j)) (hs j) (hw j) (h1 j), fun S σ H g D st hp => ?_⟩
  refine se S σ H g _ st ?_
  unfold sSetI at hp
  match e1 : fe g, hp with
  | .stuck, hp => exact hp
  | .err x g', hp => exact hp
  | .ok (v, g1), hp =>
    rw [R.bind_ok] at hp
    intro S1 H1 u k1 s1 r1
    dsimp only at hp
    match e2 : atL g1 i, hp with
    | none, hp => exact hp.elim
    | some v0, hp =>
      rw [R.of_some, R.bind_ok] at hp
      obtain ⟨s0, a1, a2⟩ := of_atL e2
      obtain ⟨p, a3, us0, a4, _⟩ := s1.own i s0 _ a1 a2
      refine ⟨.ref p, a3, ?_⟩
      refine si S1 σ H1 g1 _ s1 ?_
      match e3 : fi g1, hp with
      | .stuck, hp => exact hp
      | .err x g', hp => exact PostX.on k1 hp
      | .ok (y, g2), hp =>
        rw [R.bind_ok] at hp
        intro S2 H2 w k2 s2 r2
        dsimp only at hp
        match e4 : atL g2 i, hp with
        | none, hp => exact hp.elim
        | some vs, hp =>
          rw [R.of_some, R.bind_ok] at hp
          match e5 : asI y, hp with
          | none, hp => exact hp.elim
          | some k, hp =>
            rw [R.of_some, R.bind_ok] at hp
            match e6 : ixN vs.length k, hp with
            | none, hp => exact hp.elim
            | some j, hp =>
              rw [R.of_some, R.bind_ok] at hp
              rw [of_asI e5] at r2
              obtain ⟨s3, b1, b2⟩ := of_atL e4
              obtain ⟨p', b3, us, b4, b5⟩ := s2.own i s3 _ b1 b2
              rw [a3] at b3; cases b3
              obtain ⟨k3, s4, _⟩ := mut_lst s2 b1 b2 a3 (b5.set j (r1.kee (k2.kee s1)))
              exact ⟨p, us, k, j, rfl, rep_int.mp r2, b4, by rw [← b5.len]; exact e6, hp S2 σ _ ((k1.trans k2).trans k3) s4⟩
end
end L3

namespace L3
open PySem PySem.Spec PyProof.Rows L2
/-! ### list comprehensions -/
def gw : List Nat → Gm → Gm
  | [], g => g
  | v :: vs, g => (gw vs g).set v .junk
def gr (g0 : Gm) : List Nat → Gm → Gm
  | [], g => g
  | v :: vs, g => (gr g0 vs g).set v ((g0[v]?).getD .junk)
def plainS : Option Slot → Bool
  | some (.val _) => true
  | some .junk => true
  | _ => false
theorem gw_len (g : Gm) : ∀ vs, (gw vs g).length = g.length
  | [] => rfl
  | v :: vs => by unfold gw; rw [List.length_set, gw_len g vs]
theorem gr_len (g0 g : Gm) : ∀ vs, (gr g0 vs g).length = g.length
  | [] => rfl
  | v :: vs => by unfold gr; rw [List.length_set, gr_len g0 g vs]
theorem gw_out {g : Gm} {i : Nat} : ∀ {vs : List Nat}, i ∉ vs → (gw vs g)[i]? = g[i]?
  | [], _ => rfl
  | v :: vs, h => by
    simp only [List.mem_cons, not_or] at h
    unfold gw
    rw [List.getElem?_set_ne (Ne.symm h.1), gw_out h.2]
theorem gr_out {g0 g : Gm} {i : Nat} : ∀ {vs : List Nat}, i ∉ vs → (gr g0 vs g)[i]? = g[i]?
  | [], _ => rfl
  | v :: vs, h => by
    simp only [List.mem_cons, not_or] at h
    unfold gr
    rw [List.getElem?_set_ne (Ne.symm h.1), gr_out h.2]
theorem gw_in {g : Gm} {i : Nat} {s : Slot} : ∀ {vs : List Nat}, i ∈ vs → (gw vs g)[i]? = some s → s = .junk
  | v :: vs, h, e => by
    unfold gw at e
    by_cases hv : v = i
    · subst hv
      by_cases hl : v < (gw vs g).length
      · rw [List.getElem?_set_self hl] at e; cases e; rfl
      · rw [List.getElem?_eq_none (by simpa using hl)] at e; cases e
    · rw [List.getElem?_set_ne hv] at e
      rcases List.mem_cons.mp h with z | z
      · exact absurd z.symm hv
      · exact gw_in z e
theorem gr_in {g0 g : Gm} {i : Nat} (hl : g0.length = g.length) : ∀ {vs : List Nat}, i ∈ vs → (gr g0 vs g)[i]? = g0[i]?
  | v :: vs, h => by
    unfold gr
    by_cases hv : v = i
    · subst hv
      by_cases hz : v < g.length
      · rw [List.getElem?_set_self (by rw [gr_len]; exact hz), List.getElem?_eq_getElem (by rw [hl]; exact hz)]
        rfl
      · rw [List.getElem?_eq_none (by rw [List.length_set, gr_len]; omega), List.getElem?_eq_none (by omega)]
    · rw [List.getElem?_set_ne hv]
      rcases List.mem_cons.mp h with z | z
      · exact absurd z.symm hv
      · exact gr_in hl z
theorem wipe_in {σ : L2.St} {i : Nat} : ∀ {vs : List Nat}, i ∈ vs → (wipe σ vs)[i]? = if i < σ.length then some none else none
  | v :: vs, h => by
    unfold wipe
    by_cases hv : v = i
    · subst hv
      by_cases hz : v < σ.length
      · rw [List.getElem?_set_self (by rw [wipe_length]; exact hz), if_pos hz]
      · rw [List.getElem?_eq_none (by rw [List.length_set, wipe_length]; omega), if_neg hz]
    · rw [List.getElem?_set_ne hv]
      rcases List.mem_cons.mp h with z | z
      · exact absurd z.symm hv
      · exact wipe_in z
theorem wipe_same {σ σ' : L2.St} {vs : List Nat} (hl : σ'.length = σ.length) (h : ∀ j, j ∉ vs → σ'[j]? = (wipe σ vs)[j]?) : wipe σ' vs = wipe σ vs := by
  refine List.ext_getElem? fun j => ?_
  by_cases hj : j ∈ vs
  · rw [wipe_in hj, wipe_in hj, hl]
  · rw [wipe_out hj, h j hj]
/-- the loop -/
def clp (vs : List Nat) (g0 : Gm) (t : TF) (c : BF) (e : EF) : List PV → List PV → Gm → R (PV × Gm)
  | [], acc, g => .ok (.lst acc, gr g0 vs g)
  | v :: rest, acc, g => match t v (gw vs g) with
    | .ok g1 => match c g1 with
      | .ok (true, g2) => match e g2 with
        | .ok (y, g3) => if acc.length < 1000000 then clp vs g0 t c e rest (acc ++ [y]) g3 else .stuck
        | _ => .stuck
      | .ok (false, g2) => clp vs g0 t c e rest acc g2
      | _ => .stuck
    | _ => .stuck
def eLc (vs : List Nat) (i : IF) (t : TF) (c : BF) (e : EF) : EF := fun g => (i g).bind fun x => if vs.all (fun v => plainS x.2[v]?) = true then clp vs x.2 t c e x.1 [] x.2 else .stuck
abbrev Ctx.blk (C : Ctx) : Ctx := { C with W := fun _ _ _ _ => False }
section
variable {C : Ctx} {S S' S3 : Addr → Prop} {σ σ' σ3 : L2.St} {H H' H3 : Hp} {g g' g1 g3 : Gm} {vs : List Nat}
theorem part_wipe (hl : g1.length = g.length) (hσ : σ.length = g.length) (hv : ∀ v ∈ vs, plainS g1[v]? = true) : Part σ (gr g1 vs g) (wipe σ vs) (gw vs g) := fun i s h => by
  by_cases hi : i ∈ vs
  · exact .inl (gw_in hi h)
  · rw [gw_out hi] at h
    exact .inr ⟨wipe_out hi, s, by rw [gr_out hi]; exact h, rfl, fun v e => e⟩
theorem foot_wipe (hl : g1.length = g.length) (hv : ∀ v ∈ vs, plainS g1[v]? = true) {a : Addr} (f : Foot σ H (gr g1 vs g) a) : Foot (wipe σ vs) H (gw vs g) a := by
  obtain ⟨i, s, v, p, h1, h2, h3, h4⟩ := f
  by_cases hi : i ∈ vs
  · rw [gr_in hl hi] at h1
    have := hv i hi
    rw [h1] at this
    cases s <;> simp [plainS] at this <;> cases h2
  · rw [gr_out hi] at h1
    exact ⟨i, s, v, p, by rw [gw_out hi]; exact h1, h2, by rw [wipe_out hi]; exact h3, h4⟩
theorem sta_join (st : Sta C S σ H (gr g1 vs g)) (s3 : Sta C S3 σ3 H3 g3) (hl : g1.length = g.length) (h3 : g3.length = g.length) (kk : Kee S H S3 H3) (hσ : ∀ j, j ∉ vs → σ3[j]? = σ[j]?) (hv : ∀ v ∈ vs, plainS g1[v]? = true) :
    Sta C S3 σ H3 (gr g1 vs g3) ∧ ∀ a, Foot σ H3 (gr g1 vs g3) a → Foot σ3 H3 g3 a := by
  have cont : ∀ {i : Nat} {s : Slot} {v : PV}, (gr g1 vs g3)[i]? = some s → s.cont = some v → i ∉ vs ∧ g3[i]? = some s := fun {i s v} h c => by
    by_cases hi : i ∈ vs
    · rw [gr_in (hl.trans h3.symm) hi] at h
      have := hv i hi
      rw [h] at this
      cases s <;> simp [plainS] at this <;> cases c
    · exact ⟨hi, by rw [gr_out hi] at h; exact h⟩
  have ft : ∀ a, Foot σ H3 (gr g1 vs g3) a → Foot σ3 H3 g3 a := fun a ⟨i, s, v, p, a1, a2, a3, a4⟩ => by
    obtain ⟨n, e⟩ := cont a1 a2
    exact ⟨i, s, v, p, e, a2, by rw [hσ i n]; exact a3, a4⟩
  refine ⟨⟨?_, fun i v h => ?_, fun i s v h c => ?_, fun i j s t v w p q a hij a1 a2 a3 a4 a5 a6 => ?_, fun a f => s3.out a (ft a f), s3.live⟩, ft⟩
  · rw [gr_len, h3, ← hl, hl, ← gr_len g1 g vs]; exact st.len
  · by_cases hi : i ∈ vs
    · rw [gr_in (hl.trans h3.symm) hi, ← gr_in hl hi] at h
      obtain ⟨u, h1, h2⟩ := st.val i v h
      exact ⟨u, h1, h2.kee kk⟩
    · rw [gr_out hi] at h
      obtain ⟨u, h1, h2⟩ := s3.val i v h
      exact ⟨u, by rw [← hσ i hi]; exact h1, h2⟩
  · obtain ⟨n, e⟩ := cont h c
    obtain ⟨p, h1, h2⟩ := s3.own i s v e c
    exact ⟨p, by rw [← hσ i n]; exact h1, h2⟩
  · obtain ⟨n1, e1⟩ := cont a1 a2
    obtain ⟨n2, e2⟩ := cont a3 a4
    exact s3.apart i j s t v w p q a hij e1 a2 e2 a4 (by rw [hσ i n1]; exact a5) (by rw [hσ j n2]; exact a6)
theorem stp_join (hl : g1.length = g.length) (h3 : g3.length = g.length) (k : Stp S (wipe σ vs) H (gw vs g) S3 σ3 H3 g3) (hσ : ∀ j, j ∉ vs → σ3[j]? = σ[j]?) (hv : ∀ v ∈ vs, plainS g1[v]? = true) (hs : σ.length = g.length)
    (ft : ∀ a, Foot σ H3 (gr g1 vs g3) a → Foot σ3 H3 g3 a) : Stp S σ H (gr g1 vs g) S3 σ H3 (gr g1 vs g3) := by
  have pw : ∀ a, Foot (wipe σ vs) H (gw vs g) a → Foot σ H (gr g1 vs g) a := fun a f => (part_wipe hl hs hv).foot f
  refine ⟨k.sub, fun a h => (k.new a h).imp id fun z => z.imp id (pw a), fun a o e hf => k.frm a o e (hf.imp (fun hf z => hf (pw a z)) id), fun a f => (k.grw a (ft a f)).imp (pw a) id, k.alive, rfl, fun i v h => ?_⟩
  by_cases hi : i ∈ vs
  · rw [gr_in hl hi] at h
    have := hv i hi
    rw [h] at this
    cases this
  · rw [gr_out hi] at h
    obtain ⟨e1, v', e2⟩ := k.keep i v (by rw [gw_out hi]; exact h)
    exact ⟨rfl, v', by rw [gr_out hi]; exact e2⟩
/-- an object that nothing leans on is changed -/
theorem sta_upd (st : Sta C S σ H g) {D : Addr} {o : HO} (hS : ¬ S D) (hF : ¬ Foot σ H g D) (hI : ∀ x, H D = some x → ¬ Imm x) : Sta C S σ (upd H D o) g ∧ (∀ a, Foot σ (upd H D o) g a → Foot σ H g a) ∧ Kee S H S (upd H D o) := by
  have kk : Kee S H S (upd H D o) := ⟨fun _ h => h, fun a x e z => by
    have ne : a ≠ D := fun e2 => by
      subst e2
      rcases z with z | z
      · exact hS z
      · exact hI _ e z
    rw [upd_ne ne]; exact e⟩
  have obOf : ∀ {i : Nat} {s : Slot} {v : PV} {p : Addr}, g[i]? = some s → s.cont = some v → σ[i]? = some (some (V.ref p)) → Ob C.K C.xc S H v p ∧ ∀ a x, (a = p ∨ Sub H v p a) → H a = some x → (upd H D o) a = some x := fun {i s v p} h1 h2 h3 => by
    obtain ⟨p', q1, q2⟩ := st.own i s v h1 h2
    rw [h3] at q1; cases q1
    refine ⟨q2, fun a x ha e => ?_⟩
    have ne : a ≠ D := fun e2 => hF ⟨i, s, v, p, h1, h2, h3, by rw [← e2]; exact ha⟩
    rw [upd_ne ne]; exact e
  have sub : ∀ {i : Nat} {s : Slot} {v : PV} {p a : Addr}, g[i]? = some s → s.cont = some v → σ[i]? = some (some (V.ref p)) → (a = p ∨ Sub (upd H D o) v p a) → (a = p ∨ Sub H v p a) := fun {i s v p a} h1 h2 h3 z =>
    z.imp id fun z => (obOf h1 h2 h3).1.subs (fun x e => (obOf h1 h2 h3).2 p x (.inl rfl) e) z
  have ft : ∀ a, Foot σ (upd H D o) g a → Foot σ H g a := fun a ⟨i, s, v, p, h1, h2, h3, h4⟩ => ⟨i, s, v, p, h1, h2, h3, sub h1 h2 h3 h4⟩
  refine ⟨⟨st.len, fun i v h => ?_, fun i s v h c => ?_, fun i j s t v w p q a hij a1 a2 a3 a4 a5 a6 a7 a8 => st.apart i j s t v w p q a hij a1 a2 a3 a4 a5 a6 (sub a1 a2 a5 a7) (sub a3 a4 a6 a8), fun a f => st.out a (ft a f), fun a h => ?_⟩, ft, kk⟩
  · obtain ⟨u, h1, h2⟩ := st.val i v h
    exact ⟨u, h1, h2.kee kk⟩
  · obtain ⟨p, h1, h2⟩ := st.own i s v h c
    exact ⟨p, h1, h2.stay kk (obOf h c h1).2⟩
  · by_cases e : a = D
    · subst e; exact absurd h hS
    · rw [upd_ne e]; exact st.live a h
theorem stp_upd {S1 : Addr → Prop} {σ1 : L2.St} {H1 : Hp} (k : Stp S1 σ1 H1 g1 S σ H g) {D : Addr} {o : HO} (hn : H1 D = none) (ft : ∀ a, Foot σ (upd H D o) g a → Foot σ H g a) : Stp S1 σ1 H1 g1 S σ (upd H D o) g :=
  ⟨k.sub, k.new, fun a x e hf => by
    rw [upd_ne (ne_of_none e hn)]; exact k.frm a x e hf, fun a f => k.grw a (ft a f), fun a h => by
    by_cases e : a = D
    · subst e; rw [upd_same]; simp
    · rw [upd_ne e]; exact k.alive a h, k.len, k.keep⟩
/-- an object that nothing leans on stays -/
theorem stp_off (st : Sta C S σ H g) (k : Stp S σ H g S' σ' H' g') {D : Addr} {o : HO} (hD : H D = some o) (hS : ¬ S D) (hF : ¬ Foot σ H g D) : H' D = some o ∧ ¬ S' D ∧ ¬ Foot σ' H' g' D := by
  refine ⟨k.frm D o hD (.inl hF), fun z => ?_, fun z => ?_⟩
  · rcases k.new D z with z | z | z
    · exact hS z
    · rw [hD] at z; cases z
    · exact hF z
  · rcases k.grw D z with z | z
    · exact hF z
    · rw [hD] at z; cases z
end
/-- a clause's tests -/
def TsX {ι : Type} (X : ι → Cx) (C : Ctx) (ifs : List Expr) (f : BF) : Prop := ∃ t, (∀ i, PTs (X i) ifs t) ∧ SimB C t f
def cYes : BF := fun g => .ok (true, g)
/-- the contexts of a block -/
abbrev BI (ι : Type) : Type := ι × Shared × Hp × Addr × List (Str × Addr) × List Addr
abbrev blkX {ι : Type} (X : ι → Cx) (scope : Scope) : BI ι → Cx := fun j => (X j.1).blk j.2.1 j.2.2.1 scope (compEnvC scope j.2.2.2.2.1 j.2.2.2.1 (X j.1).env) j.2.2.2.2.2
section
variable {ι : Type} {X : ι → Cx} {C : Ctx} {e elt tg iter : Expr} {ifs : List Expr} {fe : EF} {fi : IF} {tf : TF} {fc : BF} {pos : Pos} {scope : Scope} {own : List (Str × Nat)}
theorem Fam.blk (F : Fam X C) (scope : Scope) : Fam (blkX X scope) C.blk where
  P := fun i => F.P i.1
  w := fun i => F.w i.1
  K := fun i => F.K i.1
  mg := fun i => F.mg i.1
  base := fun i => F.base i.1
  N := fun i => F.N i.1
  room := fun i => F.room i.1
  calm := fun i => F.calm i.1
  tk := fun i u s' ⟨a, B, sI, pins, σ, H, cls, d, _, _, _, _, _, _, _, _, w⟩ => w
  own := fun i => PassesOwn.never
theorem ts_none : TsX X C [] cYes := ⟨tYes, fun _ => pts_nil, fun S σ H g Q st hp => hp S H .refl st⟩
theorem ts_one (h : BX X C e fc) : TsX X C [e] fc := let ⟨t, p, s⟩ := h; ⟨t, fun i => pts_one (p i), s⟩
theorem sim_lc {wi : TI} {tg : TG} {tt : TT} {te : TE} {vs : List Nat} (si : SimI C wi fi) (stt : SimT C.blk (fun j => decide (j ∈ vs)) tg tf) (sc : SimB C.blk tt fc) (se : SimE C.blk te fe) : SimEN C (tLc wi tg tt te vs) (eLc vs fi tf fc fe) := fun S σ H g Q st hp => by
  refine si S σ H g _ st ?_
  unfold eLc at hp
  match e1 : fi g, hp with
  | .stuck, hp => exact hp
  | .err x g', hp => exact hp
  | .ok (xs, g1), hp =>
    rw [R.bind_ok] at hp
    dsimp only at hp
    intro S1 H1 J k1 s1 wk D hD
    by_cases hv0 : vs.all (fun v => plainS g1[v]?) = true
    · rw [if_pos hv0] at hp
      have hv : ∀ v ∈ vs, plainS g1[v]? = true := fun v h => List.all_eq_true.mp hv0 v h
      have hσ : σ.length = g1.length := s1.len
      refine ⟨fun i m H => i + m = xs.length ∧ ∃ S g2 acc us, g2.length = g1.length ∧ Stp S1 σ H1 g1 S σ H (gr g1 vs g2) ∧ Sta C S σ H (gr g1 vs g2) ∧ H D = some (.lst us) ∧ RepL C.K C.xc S H acc us ∧ ¬ S D ∧ ¬ Foot σ H (gr g1 vs g2) D ∧
        PostEN C S1 σ H1 g1 (clp vs g1 tf fc fe (xs.drop i) acc g2) Q, ⟨xs.length, by omega, S1, g1, [], [], rfl, ?_, ?_, upd_same, RepL.nil.mpr rfl, fun z => s1.live D z hD, ?_, ?_⟩, ?_⟩
      · have e : gr g1 vs g1 = g1 := by
          refine List.ext_getElem? fun j => ?_
          by_cases hj : j ∈ vs
          · exact gr_in rfl hj
          · exact gr_out hj
        rw [e]
        exact s1.stpG (Gro.upd hD)
      · have e : gr g1 vs g1 = g1 := by
          refine List.ext_getElem? fun j => ?_
          by_cases hj : j ∈ vs
          · exact gr_in rfl hj
          · exact gr_out hj
        rw [e]
        exact s1.gro (Gro.upd hD)
      · have e : gr g1 vs g1 = g1 := by
          refine List.ext_getElem? fun j => ?_
          by_cases hj : j ∈ vs
          · exact gr_in rfl hj
          · exact gr_out hj
        rw [e]
        exact fun f => s1.aliveF (s1.footG (Gro.upd hD) f) hD
      · rw [List.drop_zero]
        match h : clp vs g1 tf fc fe xs [] g1, hp with
        | .stuck, hp => exact hp
        | .err x g', hp => exact PostX.on k1 hp
        | .ok (v, g'), hp => exact fun S' H' p k' s' nw => hp S' H' p (k1.trans k') s' (nw.on k1)
      · rintro i m H2 ⟨him, S2, g2, acc, us, hl, k2, s2, hDl, hacc, nS, nF, hp⟩
        have kk := k2.kee s1
        obtain ⟨w1, w2⟩ := wk S2 H2 kk s2.live
        cases hx : xs[i]? with
        | none =>
          have hle := List.getElem?_eq_none_iff.mp hx
          rw [List.drop_eq_nil_of_le hle] at hp
          refine .inl ⟨w2 i hle, ?_⟩
          unfold clp at hp
          exact hp S2 H2 D k2 s2 ⟨⟨us, hDl, hacc⟩, fun a z => by
            rcases z with rfl | z
            · exact ⟨.inl hD, nS, nF⟩
            · exact z.elim⟩
        | some v =>
          have hlt := (List.getElem?_eq_some_iff.mp hx).1
          obtain ⟨go, yl⟩ := w1 i v hx
          rw [drop_cons hx] at hp
          unfold clp at hp
          refine .inr ⟨go, fun H' => ∃ S g2 acc us, g2.length = g1.length ∧ Stp S1 σ H1 g1 S σ H' (gr g1 vs g2) ∧ Sta C S σ H' (gr g1 vs g2) ∧ H' D = some (.lst us) ∧ RepL C.K C.xc S H' acc us ∧ ¬ S D ∧ ¬ Foot σ H' (gr g1 vs g2) D ∧
            PostEN C S1 σ H1 g1 (clp vs g1 tf fc fe (xs.drop (i + 1)) acc g2) Q, fun H' z => ⟨m - 1, by omega, by omega, z⟩, fun x H3 y => ?_⟩
          obtain ⟨S3, gr3, rx⟩ := yl x H3 y
          -- the turn begins
          have s3 : Sta C S3 σ H3 (gr g1 vs g2) := s2.gro gr3
          have k3 : Stp S2 σ H2 (gr g1 vs g2) S3 σ H3 (gr g1 vs g2) := s2.stpG gr3
          obtain ⟨hD3, nS3, nF3⟩ := stp_off s2 k3 hDl nS nF
          have hσ2 : σ.length = g2.length := by rw [hσ, hl]
          have pw := part_wipe (σ := σ) hl.symm hσ2 hv
          have s4 : Sta C.blk S3 (wipe σ vs) H3 (gw vs g2) := s3.part rfl rfl pw (by rw [wipe_length, gw_len, hσ2])
          have nF4 : ¬ Foot (wipe σ vs) H3 (gw vs g2) D := fun f => nF3 (pw.foot f)
          refine stt S3 (wipe σ vs) H3 _ v x _ s4 rx ?_
          match h3 : tf v (gw vs g2), hp with
          | .stuck, hp => exact hp.elim
          | .err x g', hp => exact hp.elim
          | .ok g3, hp =>
            dsimp only at hp
            intro σ3 k4 s5 hpr
            have hw : ∀ j, j ∉ vs → σ3[j]? = (wipe σ vs)[j]? := fun j hj => hpr j (by simpa using hj)
            refine ⟨wipe_same (by rw [k4.len, wipe_length]) hw, ?_⟩
            refine sc S3 σ3 H3 g3 _ s5 ?_
            have hσ3 : ∀ j, j ∉ vs → σ3[j]? = σ[j]? := fun j hj => by rw [hw j hj, wipe_out hj]
            have hl3 : σ3.length = g2.length := by rw [k4.len, wipe_length, hσ2]
            match h4 : fc g3, hp with
            | .stuck, hp => exact hp.elim
            | .err x g', hp => exact hp.elim
            | .ok (false, g4), hp =>
              dsimp only at hp
              intro S5 H5 k5 s6
              refine iteF ?_
              have k6 := k4.trans k5
              obtain ⟨hD5, nS5, nF5⟩ := stp_off s4 k6 hD3 nS3 nF4
              have hl4 : g4.length = g2.length := by rw [← s6.len, hl3]
              obtain ⟨s7, ft⟩ := sta_join s3 s6.unwish hl.symm hl4 (k6.kee s4) hσ3 hv
              have k7 := stp_join hl.symm hl4 k6 hσ3 hv hσ2 ft
              exact ⟨S5, g4, acc, us, by rw [hl4, hl], (k2.trans k3).trans k7, s7, hD5, (hacc.kee (k3.kee s2)).kee (k6.kee s4), nS5, fun f => nF5 (ft D f), hp⟩
            | .ok (true, g4), hp =>
              dsimp only at hp
              intro S5 H5 k5 s6
              refine iteT ?_
              refine se S5 σ3 H5 g4 _ s6 ?_
              match h5 : fe g4, hp with
              | .stuck, hp => exact hp.elim
              | .err x g', hp => exact hp.elim
              | .ok (y, g5), hp =>
                dsimp only at hp
                intro S6 H6 u k8 s8 ry
                by_cases hz : acc.length < 1000000
                · rw [if_pos hz] at hp
                  have k6 := (k4.trans k5).trans k8
                  obtain ⟨hD5, nS5, nF5⟩ := stp_off s4 k6 hD3 nS3 nF4
                  have hl4 : g5.length = g2.length := by rw [← s8.len, hl3]
                  obtain ⟨s7, ft⟩ := sta_join s3 s8.unwish hl.symm hl4 (k6.kee s4) hσ3 hv
                  have k7 := stp_join hl.symm hl4 k6 hσ3 hv hσ2 ft
                  have hacc' := (hacc.kee (k3.kee s2)).kee (k6.kee s4)
                  obtain ⟨s9, ft2, kk9⟩ := sta_upd (o := .lst (us ++ [u])) s7 nS5 (fun f => nF5 (ft D f)) (fun x e => by rw [hD5] at e; cases e; exact fun z => z)
                  refine ⟨us, hD5, m6 (by rw [← hacc.len]; exact hz), S6, g5, acc ++ [y], us ++ [u], by rw [hl4, hl], stp_upd ((k2.trans k3).trans k7) hD ft2, s9, upd_same, (hacc'.app (RepL.one ry)).kee kk9, nS5, fun f => nF5 (ft D (ft2 D f)), hp⟩
                · rw [if_neg hz] at hp; exact hp.elim
    · rw [if_neg hv0] at hp; exact hp.elim
theorem en_lc (F : Fam X C) (hN : ∀ i, (X i).N.Nodup) (ok : ∀ i, BlkOk (X i).N (X i).env.scope scope own) (hi : IX X C tg iter fi) (ht : TX (blkX X scope) C.blk (fun j => decide (j ∈ own.map (·.2))) tg tf) (hc : TsX (blkX X scope) C.blk ifs fc) (he : EX (blkX X scope) C.blk elt fe)
    (hs : ∀ i x, foldedSetIterable iter (X i).env x = pure x := by intro _ _; rfl) : ENX X C (.ListComp elt [⟨tg, iter, ifs, 0⟩] scope pos) (eLc (own.map (·.2)) fi tf fc fe) := by
  obtain ⟨wi, pi, si⟩ := hi
  obtain ⟨tt, pt, stt⟩ := ht
  obtain ⟨tc, pc, sc⟩ := hc
  obtain ⟨te, pe, se⟩ := he
  exact ⟨tLc wi tt tc te (own.map (·.2)), fun i => pe_lc (F.calm i) (hN i) (pi i) (ok i) (fun s H C cl fp => pt (i, s, H, C, cl, fp)) (fun s H C cl fp => pc (i, s, H, C, cl, fp)) (fun s H C cl fp => pe (i, s, H, C, cl, fp)) (hs i), sim_lc si stt sc se⟩
/-- y = [..] on one line: a list of one's own -/
theorem s_newLc {i : Nat} {y : Str} {py spos : Pos} (F : Fam X C) (hN : ∀ i, (X i).N.Nodup) (hy : ∀ j, (X j).N[i]? = some y) (hyl : ∀ j, (X j).env.scope.names.lookup y = some .local) (ok : ∀ i, BlkOk (X i).N (X i).env.scope scope own) (hsw : ∀ j, swapsWith (.ListComp elt [⟨tg, iter, ifs, 0⟩] scope pos) (some (.Name y py)) spos.line (X j).env = pure true)
    (hi : IX X C tg iter fi) (ht : TX (blkX X scope) C.blk (fun j => decide (j ∈ own.map (·.2))) tg tf) (hc : TsX (blkX X scope) C.blk ifs fc) (he : EX (blkX X scope) C.blk elt fe)
    (hs : ∀ i x, foldedSetIterable iter (X i).env x = pure x := by intro _ _; rfl) : SX X C (.Assign [.Name y py] (.ListComp elt [⟨tg, iter, ifs, 0⟩] scope pos) spos) (sNew i (eLc (own.map (·.2)) fi tf fc fe)) := by
  obtain ⟨wi, pi, si⟩ := hi
  obtain ⟨tt, pt, stt⟩ := ht
  obtain ⟨tc, pc, sc⟩ := hc
  obtain ⟨te, pe, se⟩ := he
  exact ⟨tAsg (tLc wi tt tc te (own.map (·.2))) (gName i), fun j => ps_setLc (F.calm j) (hN j) (hy j) (hyl j) (hsw j) (pi j) (ok j) (fun s H C cl fp => pt (j, s, H, C, cl, fp)) (fun s H C cl fp => pc (j, s, H, C, cl, fp)) (fun s H C cl fp => pe (j, s, H, C, cl, fp)) (hs j), sim_new (sim_lc si stt sc se)⟩
/-- .. as a value -/
theorem s_setLc {i : Nat} {y : Str} {py spos : Pos} (F : Fam X C) (hN : ∀ i, (X i).N.Nodup) (hy : ∀ j, (X j).N[i]? = some y) (hyl : ∀ j, (X j).env.scope.names.lookup y = some .local) (ok : ∀ i, BlkOk (X i).N (X i).env.scope scope own) (hsw : ∀ j, swapsWith (.ListComp elt [⟨tg, iter, ifs, 0⟩] scope pos) (some (.Name y py)) spos.line (X j).env = pure true)
    (hi : IX X C tg iter fi) (ht : TX (blkX X scope) C.blk (fun j => decide (j ∈ own.map (·.2))) tg tf) (hc : TsX (blkX X scope) C.blk ifs fc) (he : EX (blkX X scope) C.blk elt fe)
    (hs : ∀ i x, foldedSetIterable iter (X i).env x = pure x := by intro _ _; rfl) : SX X C (.Assign [.Name y py] (.ListComp elt [⟨tg, iter, ifs, 0⟩] scope pos) spos) (sSet (tN i) (eSeen (eLc (own.map (·.2)) fi tf fc fe))) := by
  obtain ⟨wi, pi, si⟩ := hi
  obtain ⟨tt, pt, stt⟩ := ht
  obtain ⟨tc, pc, sc⟩ := hc
  obtain ⟨te, pe, se⟩ := he
  exact ⟨tAsg (tLc wi tt tc te (own.map (·.2))) (gName i), fun j => ps_setLc (F.calm j) (hN j) (hy j) (hyl j) (hsw j) (pi j) (ok j) (fun s H C cl fp => pt (j, s, H, C, cl, fp)) (fun s H C cl fp => pc (j, s, H, C, cl, fp)) (fun s H C cl fp => pe (j, s, H, C, cl, fp)) (hs j), sim_set (sim_seen (sim_lc si stt sc se)) sim_tn⟩
end
end L3

namespace L3
open PySem PySem.Spec PyProof.Rows L2
def vRepN : PV → PV → Option PV := fun x y => match x, y with
    | .lst ps, .int k => vMul (.lst ps) (.int k)
    | _, _ => none
def vNeg : PV → Option PV
  | .int i => some (.int (-i))
  | _ => none
def vInv : PV → Option PV
  | .int i => some (.int (Builtin.bitNot i))
  | _ => none
theorem s_neg {K : PySem.W.Frag} {xc : Xc} : UnS K xc (rU fun i => .int (-i)) vNeg := by
  intro S H x z u Q e ru q
  cases x <;> simp only [vNeg, reduceCtorEq] at e
  cases e
  exact ⟨_, rep_int.mp ru, q S H _ .refl (rep_int.mpr rfl)⟩
theorem s_inv {K : PySem.W.Frag} {xc : Xc} : UnS K xc (rU fun i => .int (Builtin.bitNot i)) vInv := by
  intro S H x z u Q e ru q
  cases x <;> simp only [vInv, reduceCtorEq] at e
  cases e
  exact ⟨_, rep_int.mp ru, q S H _ .refl (rep_int.mpr rfl)⟩
/-! ### stateful readings that need no slot of one's own, as pure ones -/
def hide (g : Gm) : Gm := g.map fun s => match s with
  | .val v => .val v
  | _ => .junk
def pOfE (f : EF) : PF := fun g => match f (hide g) with
  | .ok x => .ok x.1
  | _ => .stuck
/-! ### more -/
def eCa (f : List PV → Option PV) (l : AF) : EF := fun g => (l g).bind fun xs => (R.of (f xs.1)).bind fun z => .ok (z, xs.2)
def eCallN (mu : List Bool) (mir : MF) (l : GF) : EF := fun g => (l g).bind fun as =>
  if (slotsOf as.1).Nodup then (R.of (fill mu as.1 as.2)).bind fun ps => match mir ps with
    | .new r cs => if cs.length = mu.length then .ok (r, put mu as.1 cs as.2) else .stuck
    | .err x cs => if cs.length = mu.length then .err x (put mu as.1 cs as.2) else .stuck
    | _ => .stuck
  else .stuck
def sRetNew (f : EF) : SF := fun g => (f g).bind fun x => .ok (.rn x.1 x.2)
def sRetO (i : Nat) : SF := fun g => match g[i]? with
  | some (.own v) => .ok (.rn v (g.set i .junk))
  | _ => .stuck
def pChain (h h' : PV → PV → Option PV) (a b c : PF) : PF := fun g => (a g).bind fun x => (b g).bind fun y => (R.of (h x y)).bind fun z => (R.of (asB z)).bind fun k => if k = true then (c g).bind fun w => R.of (h' y w) else .ok (.bl false)
/-- (scalar, new list) -/
def nBox1 (a b : PF) : PF := fun g => (a g).bind fun x => (b g).bind fun y => if isSca x = true ∧ isL y = true then .ok (.box [x, y]) else .stuck
/-- the box in slot i -/
def asBox : PV → Option (List PV)
  | .box vs => some vs
  | _ => none
theorem of_asBox {v : PV} {vs : List PV} (h : asBox v = some vs) : v = .box vs := by
  cases v <;> simp [asBox] at h
  rw [h]
def atBox (g : Gm) (i : Nat) : Option (List PV) := ((g[i]?).bind Slot.cont).bind asBox
theorem of_atBox {g : Gm} {i : Nat} {vs : List PV} (h : atBox g i = some vs) : ∃ s, g[i]? = some s ∧ s.cont = some (.box vs) := by
  unfold atBox at h
  obtain ⟨v, h1, h2⟩ := Option.bind_eq_some_iff.mp h
  obtain ⟨s, h3, h4⟩ := Option.bind_eq_some_iff.mp h1
  rw [of_asBox h2] at h4
  exact ⟨s, h3, h4⟩
/-- x[k].append(e) -/
def eBoxApp (i k : Nat) (f : PF) : EF := fun g => (R.of (atBox g i)).bind fun vs => (R.of ((vs[k]?).bind asL)).bind fun ys => ((f g).wit g).bind fun x => if ys.length < 1000000 then .ok (.non, setC g i (.box (vs.set k (.lst (ys ++ [x.1]))))) else .stuck
section
variable {C : Ctx} {S S' : Addr → Prop} {σ σ' : L2.St} {H H' : Hp} {g g' : Gm} {i : Nat}
theorem hide_get {i : Nat} {s : Slot} (h : (hide g)[i]? = some s) : s = .junk ∨ ∃ v, s = .val v ∧ g[i]? = some (.val v) := by
  unfold hide at h
  rw [List.getElem?_map] at h
  cases e : g[i]? with
  | none => rw [e] at h; cases h
  | some t =>
    rw [e] at h
    cases t <;> cases h
    · exact .inl rfl
    · exact .inr ⟨_, rfl, rfl⟩
    · exact .inl rfl
    · exact .inl rfl
theorem hide_nofoot {a : Addr} : ¬ Foot σ H (hide g) a := fun ⟨i, s, v, p, h1, h2, _⟩ => by
  rcases hide_get h1 with rfl | ⟨v, rfl, _⟩ <;> cases h2
theorem sta_hide (st : Sta C S σ H g) : Sta C S σ H (hide g) := st.part rfl rfl (fun i s h => by
  rcases hide_get h with rfl | ⟨v, rfl, e⟩
  · exact .inl rfl
  · exact .inr ⟨rfl, _, e, rfl, fun w z => z⟩) (by unfold hide; rw [List.length_map, st.len])
theorem stp_hide (k : Stp S σ H (hide g) S' σ' H' g') (hl : ∀ a, S' a → H' a ≠ none) : Gro S H S' H' :=
  ⟨k.sub, fun a h => by
    rcases k.new a h with z | z | z
    · exact .inl z
    · exact .inr ⟨z, hl a h⟩
    · exact absurd z hide_nofoot, fun a o e => k.frm a o e (.inl hide_nofoot)⟩
/-- one item of a slot's list of things changes -/
theorem pairwise_get {α : Type} {F : α → α → Prop} : ∀ {l : List α} {i j : Nat} {x y : α}, l.Pairwise F → i < j → l[i]? = some x → l[j]? = some y → F x y
  | [], _, _, _, _, _, _, h, _ => by simp at h
  | a :: l, 0, j + 1, x, y, h, _, h1, h2 => by
    simp at h1; subst h1
    exact (List.pairwise_cons.mp h).1 y (List.mem_of_getElem? (by simpa using h2))
  | a :: l, i + 1, j + 1, x, y, h, hij, h1, h2 => pairwise_get (List.pairwise_cons.mp h).2 (Nat.lt_of_succ_lt_succ hij) (by simpa using h1) (by simpa using h2)
theorem paired_at {α β : Type} {F : α → β → Prop} : ∀ {xs : List α} {ys : List β} {k : Nat} {y : β}, Paired F xs ys → ys[k]? = some y → ∃ x, xs[k]? = some x ∧ F x y
  | _, _, _, _, .nil, h => by simp at h
  | _, _, 0, y, .cons r t, h => by simp at h; subst h; exact ⟨_, rfl, r⟩
  | _, _, k + 1, y, .cons r t, h => by
    obtain ⟨x, h1, h2⟩ := paired_at (k := k) t (by simpa using h)
    exact ⟨x, by simpa using h1, h2⟩
theorem paired_imp {α β : Type} {F F' : α → β → Prop} : ∀ {xs : List α} {ys : List β}, Paired F xs ys → (∀ (j : Nat) x y, xs[j]? = some x → ys[j]? = some y → F x y → F' x y) → Paired F' xs ys
  | _, _, .nil, _ => .nil
  | _, _, .cons r t, h => .cons (h 0 _ _ rfl rfl r) (paired_imp t fun j x y h1 h2 => h (j + 1) x y (by simpa using h1) (by simpa using h2))
theorem paired_upd {α β : Type} {F F' : α → β → Prop} : ∀ {xs : List α} {ys : List β} {k : Nat} {y' : β}, Paired F xs ys → (∀ (j : Nat) x y, j ≠ k → xs[j]? = some x → ys[j]? = some y → F x y → F' x y) → (∀ x, xs[k]? = some x → F' x y') → Paired F' xs (ys.set k y')
  | _, _, _, _, .nil, _, _ => .nil
  | _, _, 0, y', .cons r t, h, hk => .cons (hk _ rfl) (paired_imp t fun j x y h1 h2 => h (j + 1) x y (Nat.succ_ne_zero j) (by simpa using h1) (by simpa using h2))
  | _, _, k + 1, y', .cons r t, h, hk => .cons (h 0 _ _ (Nat.succ_ne_zero k).symm rfl rfl r) (paired_upd t (fun j x y hj h1 h2 => h (j + 1) x y (fun e => hj (Nat.succ.inj e)) (by simpa using h1) (by simpa using h2)) fun x hx => hk x (by simpa using hx))
end
section
variable {ι : Type} {X : ι → Cx} {C : Ctx} {e a b c o : Expr} {f fa fb fc : PF} {fe : EF} {fl : LF} {al : AF} {gl : GF} {pos p apos : Pos} {es : List Expr} {x : Str} {r : List V → Hp → VK → Prop} {h : List PV → Option PV} {id T : String} {k n : Nat} {mu : List Bool} {mir : MF}
theorem n_op {op : Operator} {r : R2} {h : PV → PV → Option PV} (ho : ∀ i, OpR (X i) (binaryOp op) r) (hs : OpN C.K C.xc r h) (ha : PX X C a fa) (hb : PX X C b fb) : NX X C (.BinOp a op b pos) (pOp h fa fb) := by
  obtain ⟨ta, pa, sa⟩ := ha
  obtain ⟨tb, pb, sb⟩ := hb
  refine ⟨tOp r ta tb, fun i => pe_op (ho i) (pa i) (pb i), fun S σ H g Q st hp => ?_⟩
  unfold pOp at hp
  refine sa S σ H g _ st ?_
  match e1 : fa g, hp with
  | .stuck, hp => exact hp
  | .err x g', hp => exact hp
  | .ok x, hp =>
    rw [R.bind_ok] at hp
    intro S1 H1 u k1 r1
    refine sb S1 σ H1 g _ (st.gro k1) ?_
    match e2 : fb g, hp with
    | .stuck, hp => exact hp
    | .err x g', hp => exact PostPX.on k1 hp
    | .ok y, hp =>
      rw [R.bind_ok] at hp
      intro S2 H2 v k2 r2
      have k := k1.trans k2
      match e : h x y, hp with
      | none, hp => exact hp.elim
      | some z, hp => exact hs S2 H2 x y z u v Q e (r1.kee k2.kee) r2 (st.gro k).live fun S' H' q k' np ns o s => hp S' H' q (k.trans k') (k.same.free np) ns o fun a z => ⟨k.same.free (s a z).1, (s a z).2⟩
theorem p_e (he : EX X C e fe) : PX X C e (pOfE fe) := by
  obtain ⟨t, p, s⟩ := he
  refine ⟨t, p, fun S σ H g Q st hp => s S σ H (hide g) Q (sta_hide st) ?_⟩
  unfold pOfE at hp
  match e1 : fe (hide g), hp with
  | .stuck, hp => exact hp
  | .err x g', hp => exact hp.elim
  | .ok x, hp => exact fun S' H' u k s' r => hp S' H' u (stp_hide k s'.live) r
theorem n_en (he : ENX X C e fe) : NX X C e (pOfE fe) := by
  obtain ⟨t, p, s⟩ := he
  refine ⟨t, p, fun S σ H g Q st hp => s S σ H (hide g) Q (sta_hide st) ?_⟩
  unfold pOfE at hp
  match e1 : fe (hide g), hp with
  | .stuck, hp => exact hp
  | .err x g', hp => exact hp.elim
  | .ok x, hp =>
    intro S' H' u k s' nw
    have k2 := stp_hide k s'.live
    have hn : ∀ a, (a = u ∨ Sub H' x.1 u a) → H a = none ∧ ¬ S' a := fun a z => by
      refine ⟨?_, (nw.2 a z).2.1⟩
      rcases (nw.2 a z).1 with q | q
      · exact q
      · exact absurd q hide_nofoot
    exact hp S' H' u k2 (hn u (.inl rfl)).1 (hn u (.inl rfl)).2 nw.1 fun a z => hn a (.inr z)
theorem sim_ca2 {t : TA} (hs : CaS C.K C.xc r h) (sl : SimA C t al) : SimE C (tCB r t) (eCa h al) := fun S σ H g Q st hp =>
  SimA.bind1 (h := fun xs g => (R.of (h xs)).bind fun z => .ok (z, g)) sl st hp fun xs us S1 H1 g1 s1 ru q => by
    match e : h xs, q with
    | none, q => exact q.elim
    | some z, q => exact hs S1 H1 xs z us Q e ru (PostE.fin s1 q)
theorem sim_cn2 {t : TA} (hs : CaN C.K C.xc r h) (sl : SimA C t al) : SimEN C (tCB r t) (eCa h al) := fun S σ H g Q st hp => by
  unfold eCa at hp
  refine sl S σ H g _ st ?_
  match e1 : al g, hp with
  | .stuck, hp => exact hp
  | .err x g', hp => exact hp
  | .ok (xs, g1), hp =>
    rw [R.bind_ok] at hp
    intro S1 H1 us k1 s1 ru
    dsimp only at hp
    match e : h xs, hp with
    | none, hp => exact hp.elim
    | some z, hp =>
      rw [R.of_some, R.bind_ok] at hp
      refine hs S1 H1 xs z us Q e ru s1.live fun S' H' q k' np ns o s => hp S' H' q (k1.trans (s1.stpG k')) (s1.gro k') ⟨o, fun a z => ?_⟩
      have h0 : H1 a = none ∧ ¬ S' a := by
        rcases z with rfl | z
        · exact ⟨np, ns⟩
        · exact s a z
      refine ⟨.inl ?_, h0.2, fun f => s1.aliveF (s1.footG k' f) h0.1⟩
      by_cases e : H a = none
      · exact e
      · exact absurd h0.1 (k1.alive a e)
theorem e_cb (hc : ∀ i, CallR (X i) (.builtin id) r) (hs : CaS C.K C.xc r h) (F : Fam X C) (hg : ∀ i, Gl (X i) x) (hm : C.mg x = none) (hv : bootBuiltins x = some (.builtin id)) (ha : AX X C (e :: es) al) (hn : x ≠ "__name__" := by decide) (hdb : (x == ("__debug__" : Str)) = false := by decide)
    (he : ∀ i, starEach (e :: es) (X i).env = (false, eval e (X i).env) :: starEach es (X i).env := by intro _; rfl) (hpl : ∀ i, (backTo pos (starEach es (X i).env)).any (·.1) = false := by intro _; rfl) : EX X C (.Call (.Name x p) (e :: es) [] pos) (eCa h al) := by
  obtain ⟨t, pa, sl⟩ := ha
  exact ⟨tCB r t, fun i => pe_callB (hc i) (hg i) (by rw [F.mg i]; exact hm) hv (pa i) hn hdb (he i) (hpl i), sim_ca2 hs sl⟩
theorem e_ct (hc : ∀ i, CallR (X i) (.type T) r) (hs : CaS C.K C.xc r h) (F : Fam X C) (hg : ∀ i, Gl (X i) x) (hm : C.mg x = none) (hv : bootBuiltins x = some (.type T)) (ha : AX X C (e :: es) al) (hn : x ≠ "__name__" := by decide) (hdb : (x == ("__debug__" : Str)) = false := by decide)
    (he : ∀ i, starEach (e :: es) (X i).env = (false, eval e (X i).env) :: starEach es (X i).env := by intro _; rfl) (hpl : ∀ i, (backTo pos (starEach es (X i).env)).any (·.1) = false := by intro _; rfl) : EX X C (.Call (.Name x p) (e :: es) [] pos) (eCa h al) := by
  obtain ⟨t, pa, sl⟩ := ha
  exact ⟨tCB r t, fun i => pe_callTy (hc i) (hg i) (by rw [F.mg i]; exact hm) hv (pa i) hn hdb (he i) (hpl i), sim_ca2 hs sl⟩
theorem en_cb (hc : ∀ i, CallR (X i) (.builtin id) r) (hs : CaN C.K C.xc r h) (F : Fam X C) (hg : ∀ i, Gl (X i) x) (hm : C.mg x = none) (hv : bootBuiltins x = some (.builtin id)) (ha : AX X C (e :: es) al) (hn : x ≠ "__name__" := by decide) (hdb : (x == ("__debug__" : Str)) = false := by decide)
    (he : ∀ i, starEach (e :: es) (X i).env = (false, eval e (X i).env) :: starEach es (X i).env := by intro _; rfl) (hpl : ∀ i, (backTo pos (starEach es (X i).env)).any (·.1) = false := by intro _; rfl) : ENX X C (.Call (.Name x p) (e :: es) [] pos) (eCa h al) := by
  obtain ⟨t, pa, sl⟩ := ha
  exact ⟨tCB r t, fun i => pe_callB (hc i) (hg i) (by rw [F.mg i]; exact hm) hv (pa i) hn hdb (he i) (hpl i), sim_cn2 hs sl⟩
theorem en_call (F : Fam X C) (cc : CalC C x k mu mir) (hk : k ≤ C.k) (hg : ∀ i, Gl (X i) x) (ha : GX X C (e :: es) gl) (hdb : (x == ("__debug__" : Str)) = false := by decide)
    (he : ∀ i, starEach (e :: es) (X i).env = (false, eval e (X i).env) :: starEach es (X i).env := by intro _; rfl) (hpl : ∀ i, (backTo pos (starEach es (X i).env)).any (·.1) = false := by intro _; rfl) : ENX X C (.Call (.Name x p) (e :: es) [] pos) (eCallN mu mir gl) := by
  obtain ⟨fA, fd, ps, G, h1, h2, h3⟩ := cc.ex
  obtain ⟨t, pa, sl⟩ := ha
  refine ⟨tCallS _ (WE C.W) t, fun i => callS_x (F.P i) (F.w i) (F.K i) (F.mg i) (F.base i) (F.room i) (F.tk i) G hk (hg i) h1 h2 h3 (pa i) hdb (he i) (hpl i), fun S σ H g Q st hp => ?_⟩
  refine sl S σ H g _ st ?_
  unfold eCallN at hp
  match e1 : gl g, hp with
  | .stuck, hp => exact hp
  | .err x g', hp => exact hp
  | .ok (as, g1), hp =>
    rw [R.bind_ok] at hp
    intro S1 H1 us k1 s1 r1
    dsimp only at hp
    by_cases nd : (slotsOf as).Nodup
    · rw [if_pos nd] at hp
      match e2 : fill mu as g1, hp with
      | none, hp => exact hp.elim
      | some qs, hp =>
        rw [R.of_some, R.bind_ok] at hp
        obtain ⟨l1, l2, _⟩ := fill_get e2 r1
        refine ⟨S1, qs, C, l2, l1, rfl, rfl, (call_sta s1 nd e2 r1).1, ?_⟩
        match e3 : mir qs, hp with
        | .stuck, hp => exact hp
        | .ok r cs, hp => exact hp.elim
        | .err x cs, hp =>
          dsimp only at hp
          by_cases hz : cs.length = mu.length
          · rw [if_pos hz] at hp
            intro S' H' cls d k' st' ex
            obtain ⟨k2, st2, _⟩ := call_end s1 nd e2 r1 hz k' st'
            exact hp S' σ H' cls d (k1.trans k2) st2 ex
          · rw [if_neg hz] at hp; exact hp.elim
        | .new r cs, hp =>
          dsimp only at hp
          by_cases hz : cs.length = mu.length
          · rw [if_pos hz] at hp
            intro S' H' p k' st' nw
            obtain ⟨k2, st2, ft1, ft2⟩ := call_end s1 nd e2 r1 hz k' st'
            exact hp S' H' p (k1.trans k2) st2 (New.on k1 ⟨nw.1, fun a z => ⟨(nw.2 a z).1.imp id (ft1 a), (nw.2 a z).2.1, ft2 a (nw.2 a z).1 (nw.2 a z).2.2⟩⟩)
          · rw [if_neg hz] at hp; exact hp.elim
    · rw [if_neg nd] at hp; exact hp.elim
theorem s_retNew (he : ENX X C e fe) : SX X C (.Return (some e) pos) (sRetNew fe) := by
  obtain ⟨t, p, s⟩ := he
  refine ⟨tRet t, fun i => ps_ret (p i), fun S σ H g D st hp => s S σ H g _ st ?_⟩
  unfold sRetNew at hp
  match h : fe g, hp with
  | .stuck, hp => exact hp
  | .err x g', hp => exact hp
  | .ok (v, g'), hp => exact fun S1 H1 u k1 s1 r1 => hp S1 σ H1 u k1 s1 r1
theorem s_retO {i : Nat} (hN : ∀ j, (X j).N[i]? = some x) (hv : ∀ j, Vis (X j).env.scope x) (hd : (x == ("__debug__" : Str)) = false := by decide) (hcd : (x == ("__classdict__" : Str)) = false := by decide) : SX X C (.Return (some (.Name x p)) pos) (sRetO i) := by
  refine ⟨tRet (tVar i), fun j => ps_ret (pe_var (hN j) (hv j) hd hcd), fun S σ H g D st hp => ?_⟩
  unfold sRetO at hp
  match e1 : g[i]?, hp with
  | none, hp => exact hp.elim
  | some .junk, hp => exact hp.elim
  | some (.val v), hp => exact hp.elim
  | some (.prm v), hp => exact hp.elim
  | some (.own v), hp =>
    dsimp only at hp
    obtain ⟨q, h3, ob⟩ := st.own i _ v e1 rfl
    have hlt := (List.getElem?_eq_some_iff.mp e1).1
    have prt : Part σ g σ (g.set i .junk) := fun j s h => by
      by_cases e : j = i
      · subst e; rw [List.getElem?_set_self hlt] at h; cases h; exact .inl rfl
      · rw [List.getElem?_set_ne (Ne.symm e)] at h; exact .inr ⟨rfl, s, h, rfl, fun _ z => z⟩
    refine ⟨.ref q, h3, hp S σ H q ⟨fun _ z => z, fun _ z => .inl z, fun _ _ z _ => z, fun a f => .inl (prt.foot f), fun _ z => z, rfl, fun j u h => ?_⟩ (st.part rfl rfl prt (by rw [List.length_set, st.len])) ⟨ob, fun a z => ⟨.inr ⟨i, _, v, q, e1, rfl, h3, z⟩, fun hs => st.out a ⟨i, _, v, q, e1, rfl, h3, z⟩ hs, fun ⟨j, s, w, r, b1, b2, b3, b4⟩ => ?_⟩⟩⟩
    · have e : j ≠ i := fun e => by subst e; rw [e1] at h; cases h
      exact ⟨rfl, u, by rw [List.getElem?_set_ne (Ne.symm e)]; exact h⟩
    · have e : j ≠ i := fun e => by subst e; rw [List.getElem?_set_self hlt] at b1; cases b1; cases b2
      rw [List.getElem?_set_ne (Ne.symm e)] at b1
      exact st.apart j i s _ w v r q a e b1 b2 e1 rfl b3 h3 b4 z
theorem p_chain {op op' : CmpOp} {r r' : R2} {h h' : PV → PV → Option PV} (ho : ∀ i, OpR (X i) (compareOp op) r) (ho' : ∀ i, OpR (X i) (compareOp op') r') (hs : OpS C.K C.xc r h) (hs' : OpS C.K C.xc r' h') (ha : PX X C a fa) (hb : PX X C b fb) (hc : PX X C c fc)
    (hm : lastMarks [op, op'] [b, c] = false := by with_unfolding_all rfl) : PX X C (.Compare a [op, op'] [b, c] pos) (pChain h h' fa fb fc) := by
  obtain ⟨ta, pa, sa⟩ := ha
  obtain ⟨tb, pb, sb⟩ := hb
  obtain ⟨tc, pc, sc⟩ := hc
  refine ⟨tChain r r' ta tb tc, fun i => pe_chain (ho i) (ho' i) (pa i) (pb i) (pc i) hm, fun S σ H g Q st hp => ?_⟩
  refine SimP.bind2 (h := fun x y => (R.of (h x y)).bind fun z => (R.of (asB z)).bind fun k => if k = true then (fc g).bind fun w => R.of (h' y w) else .ok (.bl false)) sa sb st hp fun x y u v S2 H2 k2 s2 ru rv q => ?_
  match e : h x y, q with
  | none, q => exact q.elim
  | some z, q =>
    rw [R.of_some, R.bind_ok] at q
    refine hs S2 H2 x y z u v _ e ru rv fun S3 H3 w k3 rw' => ?_
    match e2 : asB z, q with
    | none, q => exact q.elim
    | some true, q =>
      rw [of_asB e2] at rw'
      refine ⟨true, rep_bl.mp rw', iteT (sc S3 σ H3 g _ (s2.gro k3) ?_)⟩
      rw [R.of_some, R.bind_ok, if_pos rfl] at q
      match e3 : fc g, q with
      | .stuck, q => exact q
      | .err x g', q => exact PostPX.on k3 q
      | .ok w2, q =>
        rw [R.bind_ok] at q
        intro S4 H4 u4 k4 r4
        match e4 : h' y w2, q with
        | none, q => exact q.elim
        | some z2, q => exact hs' S4 H4 y w2 z2 v u4 Q e4 (rv.kee (k3.trans k4).kee) r4 fun S' H' w k' rw' => q S' H' w ((k3.trans k4).trans k') rw'
    | some false, q =>
      rw [of_asB e2] at rw'
      exact ⟨false, rep_bl.mp rw', iteF (q S3 H3 _ k3 (rep_bl.mpr rfl))⟩
theorem n_box1 {kk : Nat} (ha : PX X C a fa) (hb : NX X C b fb) (hs : ∀ i, starEach [a, b] (X i).env = [(false, eval a (X i).env), (false, eval b (X i).env)] := by intro _; rfl) (hs2 : ∀ i, starEach [b] (X i).env = [(false, eval b (X i).env)] := by intro _; rfl) : NX X C (.Tuple [a, b] kk pos) (nBox1 fa fb) := by
  obtain ⟨ta, pa, sa⟩ := ha
  obtain ⟨tb, pb, sb⟩ := hb
  refine ⟨tTup (tCons ta (tCons tb tNil)), fun i => pe_tup (pa_cons (pa i) (pa_cons (pb i) pa_nil (hs2 i)) (by rw [hs i, hs2 i])), fun S σ H g Q st hp => ?_⟩
  unfold nBox1 at hp
  refine sa S σ H g _ st ?_
  match e1 : fa g, hp with
  | .stuck, hp => exact hp
  | .err x g', hp => exact hp
  | .ok x, hp =>
    rw [R.bind_ok] at hp
    intro S1 H1 u k1 r1
    refine sb S1 σ H1 g _ (st.gro k1) ?_
    match e2 : fb g, hp with
    | .stuck, hp => exact hp
    | .err x g', hp => exact PostPX.on k1 hp
    | .ok y, hp =>
      rw [R.bind_ok] at hp
      intro S2 H2 q k2 nq nS ob sb2
      by_cases hz : isSca x = true ∧ isL y = true
      · rw [if_pos hz] at hp
        obtain ⟨hx, hy⟩ := hz
        cases y <;> simp [isL] at hy
        rename_i ys
        obtain ⟨us, o1, o2⟩ := ob
        refine ⟨(by decide : 2 ≤ sizeLine), fun p np => ?_⟩
        have k3 : Gro S2 H2 S2 (upd H2 p (.tup [u, .ref q])) := Gro.upd np
        have k := (k1.trans k2).trans k3
        have nqp : q ≠ p := fun e => by rw [e, np] at o1; cases o1
        have nu : ∀ q, u ≠ .ref q := fun q e => by
          subst e
          cases x <;> simp [isSca] at hx
          · cases rep_non.mp r1
          · cases rep_bl.mp r1
          · cases rep_int.mp r1
          · cases rep_str.mp r1
        have hq0 : H q = none := k1.same.free nq
        refine hp S2 _ p k ((k1.trans k2).same.free np) (fun z => (st.gro (k1.trans k2)).live p z np) ⟨[u, .ref q], upd_same, ?_, ?_⟩ fun a ⟨xs, z1, z2⟩ => ?_
        · refine List.pairwise_cons.mpr ⟨fun z hz q' e => absurd e (nu q'), List.pairwise_singleton _ _⟩
        · refine .cons (.inl ⟨hx, r1.kee (k2.trans k3).kee, nu⟩) (.cons (.inr ⟨q, ys, us, rfl, rfl, nqp, by rw [upd_ne nqp]; exact o1, o2.kee k3.kee⟩) .nil)
        · rw [upd_same] at z1
          cases z1
          rcases List.mem_cons.mp z2 with z | z
          · exact absurd z.symm (nu a)
          · have : a = q := by simpa using z
            subst this
            exact ⟨hq0, nS⟩
      · rw [if_neg hz] at hp; exact hp.elim
end
end L3

namespace L3
open PySem PySem.Spec PyProof.Rows L2
/-! ### a list within a box -/
section
variable {C : Ctx} {S S' : Addr → Prop} {σ σ' : L2.St} {H H' : Hp} {g g' : Gm} {i : Nat}
theorem box_end (st : Sta C S σ H g) {s : Slot} {vs : List PV} {p q : Addr} {us : List V} {k : Nat} {ys zs : List PV} {ws : List V} (hi : g[i]? = some s) (hc : s.cont = some (.box vs)) (hp : σ[i]? = some (some (.ref p))) (hpt : H p = some (.tup us))
    (hq : us[k]? = some (.ref q)) (hv : vs[k]? = some (.lst ys)) (hr : RepL C.K C.xc S H zs ws) :
    Stp S σ H g S σ (upd H q (.lst ws)) (setC g i (.box (vs.set k (.lst zs)))) ∧ Sta C S σ (upd H q (.lst ws)) (setC g i (.box (vs.set k (.lst zs)))) := by
  obtain ⟨p', q1, us', q2, q3, q4⟩ := st.own i s _ hi hc
  rw [hp] at q1; cases q1
  rw [hpt] at q2; cases q2
  have hm : V.ref q ∈ us := List.mem_of_getElem? hq
  have hql : ∃ xs, H q = some (.lst xs) ∧ q ≠ p := by
    obtain ⟨u, h1, h2⟩ := paired_at q4 hv
    rw [hq] at h1; cases h1
    rcases h2 with ⟨z, _⟩ | ⟨q', ps, xs, e1, e2, e3, e4, _⟩
    · simp [isSca] at z
    · cases e2; exact ⟨xs, e4, e3⟩
  obtain ⟨xs, hqx, nqp⟩ := hql
  have nS : ¬ S q := st.out q ⟨i, s, _, p, hi, hc, hp, .inr ⟨us, hpt, hm⟩⟩
  have kee : Kee S H S (upd H q (.lst ws)) := ⟨fun _ h => h, fun a x e z => by
    have ne : a ≠ q := fun e2 => by
      subst e2
      rcases z with z | z
      · exact nS z
      · rw [hqx] at e; cases e; exact z
    rw [upd_ne ne]; exact e⟩
  have hp' : (upd H q (.lst ws)) p = some (.tup us) := by rw [upd_ne nqp.symm]; exact hpt
  refine mut_end st hi hc hp (fun a x e hn => ?_) ⟨us, hp', q3, paired_upd q4 (fun j u v hj h1 h2 h3 => ?_) (fun u hu => ?_)⟩ (fun a z => .inl (z.imp id fun ⟨us2, z1, z2⟩ => by rw [hp'] at z1; cases z1; exact ⟨us, hpt, z2⟩)) (fun a h => ?_)
  · rw [upd_ne fun e2 => ?_]; exact e
    subst e2
    rcases hn with hn | hn
    · exact hn (.inr ⟨us, hpt, hm⟩)
    · rw [hqx] at e; cases e; exact hn
  · rcases h3 with ⟨e1, e2, e3⟩ | ⟨q', ps, xs', e1, e2, e3, e4, e5⟩
    · exact .inl ⟨e1, e2.kee kee, e3⟩
    · refine .inr ⟨q', ps, xs', e1, e2, e3, ?_, e5.kee kee⟩
      subst e2
      have ne : q' ≠ q := fun e => by
        subst e
        rcases Nat.lt_or_ge j k with l | l
        · exact pairwise_get q3 l h1 hq _ rfl rfl
        · exact pairwise_get q3 (Nat.lt_of_le_of_ne l (Ne.symm hj)) hq h1 _ rfl rfl
      rw [upd_ne ne]; exact e4
  · rw [hq] at hu; cases hu
    exact .inr ⟨q, zs, ws, rfl, rfl, nqp, upd_same, hr.kee kee⟩
  · by_cases e : a = q
    · subst e; rw [upd_same]; simp
    · rw [upd_ne e]; exact h
end
section
variable {ι : Type} {X : ι → Cx} {C : Ctx} {e : Expr} {f : PF} {pos p p2 p3 ap : Pos} {x : Str} {i k jj : Nat}
theorem e_boxApp (F : Fam X C) (hN : ∀ j, (X j).N[i]? = some x) (hv : ∀ j, Vis (X j).env.scope x) (he : PX X C e f) (hd : (x == ("__debug__" : Str)) = false := by decide) (hcd : (x == ("__classdict__" : Str)) = false := by decide) (hpx : PlainIx (.Constant (.int (k : Nat)) jj p3) := by intro _ _; rfl)
    (hbase : ∀ j, attributeBase (.Subscript (.Name x p) (.Constant (.int (k : Nat)) jj p3) p2) "append" (X j).env (eval (.Subscript (.Name x p) (.Constant (.int (k : Nat)) jj p3) p2) (X j).env) = eval (.Subscript (.Name x p) (.Constant (.int (k : Nat)) jj p3) p2) (X j).env := by intro _; rfl)
    (hfew : ∀ j, ((backTo pos (starEach [e] (X j).env)).all (fun x => !x.1) && (backToKw pos (keywordEach [] (X j).env)).all (fun x => x.1.isSome)
      && decide (([e] : List Expr).length + ([] : List Keyword).length + (if ([] : List Keyword).isEmpty then 0 else 1) < 30)) = true := by intro _; rfl)
    (hline : (ap.endLine == pos.line) = true := by rfl) (hst : ∀ j, starEach [e] (X j).env = (false, eval e (X j).env) :: starEach [] (X j).env := by intro _; rfl) (hpl : ∀ j, (backTo pos (starEach [] (X j).env)).any (·.1) = false := by intro _; rfl) :
    EX X C (.Call (.Attribute (.Subscript (.Name x p) (.Constant (.int (k : Nat)) jj p3) p2) "append" ap) [e] [] pos) (eBoxApp i k f) := by
  obtain ⟨t, pe, se⟩ := he
  refine ⟨tBM C.K "list" rAppend (tOp (rIx C.K) (tVar i) (tC (.int (k : Nat)))) (tCons t tNil), fun j => by rw [← F.K j]; exact pe_bm PySem.F.plainAttrs_list PySem.F.slot_list_append PySem.F.type_list_append mt_append (pe_ix ix_seq (pe_var (hN j) (hv j) hd hcd) pe_int hpx) (pa_cons (pe j) pa_nil (hst j)) (hbase j) (hfew j) hline (hst j) (hpl j), fun S σ H g Q st hp => ?_⟩
  unfold eBoxApp at hp
  match e1 : atBox g i, hp with
  | none, hp => exact hp.elim
  | some vs, hp =>
    rw [R.of_some, R.bind_ok] at hp
    match e2 : (vs[k]?).bind asL, hp with
    | none, hp => exact hp.elim
    | some ys, hp =>
      rw [R.of_some, R.bind_ok] at hp
      obtain ⟨s0, a1, a2⟩ := of_atBox e1
      obtain ⟨v, b1, b2⟩ := Option.bind_eq_some_iff.mp e2
      rw [of_asL b2] at b1
      obtain ⟨q, h3, us, q2, q3, q4⟩ := st.own i s0 _ a1 a2
      obtain ⟨u, c1, c2⟩ := paired_at q4 b1
      rcases c2 with ⟨z, _⟩ | ⟨l, ps, xs, d1, d2, d3, d4, d5⟩
      · simp [isSca] at z
      · cases d1
        subst d2
        have hlt : k < us.length := (List.getElem?_eq_some_iff.mp c1).1
        have hix : atI us (k : Nat) = some (.ref l) := by
          have : ixN us.length (k : Nat) = some k := by unfold ixN; rw [if_pos (Int.natCast_nonneg k), if_pos (by omega)]; rfl
          unfold atI; rw [this]; exact c1
        refine ⟨.ref q, h3, .inr (.inl ⟨q, us, _, .ref l, rfl, rfl, SqT.of q2, hix, .inl ⟨rfl, xs, SqL.of d4⟩, ?_⟩)⟩
        refine se S σ H g _ st ?_
        match e3 : f g, hp with
        | .stuck, hp => exact hp
        | .err x g', hp => rw [R.wit_err, R.bind_err] at hp; exact PostPX.of st (g' := g') hp
        | .ok x, hp =>
          rw [R.wit_ok, R.bind_ok] at hp
          intro S1 H1 w k1 r1
          by_cases hz : ys.length < 1000000
          · rw [if_pos hz] at hp
            have s1 := st.gro k1
            obtain ⟨k2, s2⟩ := box_end s1 a1 a2 h3 (k1.same _ _ q2) c1 b1 ((d5.kee k1.kee).app (RepL.one r1))
            exact ⟨l, xs, w, rfl, rfl, k1.same _ _ d4, m6 (by rw [← d5.len]; exact hz), hp S1 _ .non ((st.stpG k1).trans k2) s2 (rep_non.mpr rfl)⟩
          · rw [if_neg hz] at hp; exact hp.elim
end
end L3

namespace L3
open PySem PySem.Spec PyProof.Rows L2
/-! ### the rules, one for each operator and built-in (printed by mk20.py) -/
theorem un64 {ι : Type} {X : ι → Cx} {C : Ctx} (F : Fam X C) (i : ι) : (X i).A.units + 64 < cLine := (F.room i).units
theorem un65 {ι : Type} {X : ι → Cx} {C : Ctx} (F : Fam X C) (i : ι) : (X i).A.units + 65 < cLine := by have := (F.room i).un; omega
section
variable {ι : Type} {X : ι → Cx} {C : Ctx} {a b e : Expr} {es : List Expr} {fa fb : PF} {ea eb : EF} {fl : LF} {al : AF} {pos p : Pos}
theorem poAdd (F : Fam X C) (ha : PX X C a fa) (hb : PX X C b fb) : PX X C (.BinOp a .Add b pos) (pOp vAdd fa fb) := p_op (r := rAdd C.K) (fun i => by rw [← F.K i]; exact o_add) s_add ha hb
theorem eoAdd (F : Fam X C) (ha : EX X C a ea) (hb : EX X C b eb) : EX X C (.BinOp a .Add b pos) (eOp vAdd ea eb) := e_op (r := rAdd C.K) (fun i => by rw [← F.K i]; exact o_add) s_add ha hb
theorem poSub (F : Fam X C) (ha : PX X C a fa) (hb : PX X C b fb) : PX X C (.BinOp a .Sub b pos) (pOp (i2 vSubI) fa fb) := p_op (fun _ => op_sub) s_sub ha hb
theorem eoSub (F : Fam X C) (ha : EX X C a ea) (hb : EX X C b eb) : EX X C (.BinOp a .Sub b pos) (eOp (i2 vSubI) ea eb) := e_op (fun _ => op_sub) s_sub ha hb
theorem poBitAnd (F : Fam X C) (ha : PX X C a fa) (hb : PX X C b fb) : PX X C (.BinOp a .BitAnd b pos) (pOp (i2 vAndI) fa fb) := p_op (fun _ => op_and) s_and ha hb
theorem eoBitAnd (F : Fam X C) (ha : EX X C a ea) (hb : EX X C b eb) : EX X C (.BinOp a .BitAnd b pos) (eOp (i2 vAndI) ea eb) := e_op (fun _ => op_and) s_and ha hb
theorem poBitOr (F : Fam X C) (ha : PX X C a fa) (hb : PX X C b fb) : PX X C (.BinOp a .BitOr b pos) (pOp (i2 vOrI) fa fb) := p_op (fun _ => op_or) s_or ha hb
theorem eoBitOr (F : Fam X C) (ha : EX X C a ea) (hb : EX X C b eb) : EX X C (.BinOp a .BitOr b pos) (eOp (i2 vOrI) ea eb) := e_op (fun _ => op_or) s_or ha hb
theorem poFloorDiv (F : Fam X C) (ha : PX X C a fa) (hb : PX X C b fb) : PX X C (.BinOp a .FloorDiv b pos) (pOp (i2 vFdivI) fa fb) := p_op (fun _ => op_fdiv) s_fdiv ha hb
theorem eoFloorDiv (F : Fam X C) (ha : EX X C a ea) (hb : EX X C b eb) : EX X C (.BinOp a .FloorDiv b pos) (eOp (i2 vFdivI) ea eb) := e_op (fun _ => op_fdiv) s_fdiv ha hb
theorem poMod (F : Fam X C) (ha : PX X C a fa) (hb : PX X C b fb) : PX X C (.BinOp a .Mod b pos) (pOp (i2 vModI) fa fb) := p_op (fun _ => op_mod) s_mod ha hb
theorem eoMod (F : Fam X C) (ha : EX X C a ea) (hb : EX X C b eb) : EX X C (.BinOp a .Mod b pos) (eOp (i2 vModI) ea eb) := e_op (fun _ => op_mod) s_mod ha hb
theorem poPow (F : Fam X C) (ha : PX X C a fa) (hb : PX X C b fb) : PX X C (.BinOp a .Pow b pos) (pOp (i2 vPowI) fa fb) := p_op (fun _ => op_pow) s_pow ha hb
theorem eoPow (F : Fam X C) (ha : EX X C a ea) (hb : EX X C b eb) : EX X C (.BinOp a .Pow b pos) (eOp (i2 vPowI) ea eb) := e_op (fun _ => op_pow) s_pow ha hb
theorem poLShift (F : Fam X C) (ha : PX X C a fa) (hb : PX X C b fb) : PX X C (.BinOp a .LShift b pos) (pOp (i2 vShlI) fa fb) := p_op (fun _ => op_shl) s_shl ha hb
theorem eoLShift (F : Fam X C) (ha : EX X C a ea) (hb : EX X C b eb) : EX X C (.BinOp a .LShift b pos) (eOp (i2 vShlI) ea eb) := e_op (fun _ => op_shl) s_shl ha hb
theorem poRShift (F : Fam X C) (ha : PX X C a fa) (hb : PX X C b fb) : PX X C (.BinOp a .RShift b pos) (pOp (i2 vShrI) fa fb) := p_op (fun _ => op_shr) s_shr ha hb
theorem eoRShift (F : Fam X C) (ha : EX X C a ea) (hb : EX X C b eb) : EX X C (.BinOp a .RShift b pos) (eOp (i2 vShrI) ea eb) := e_op (fun _ => op_shr) s_shr ha hb
theorem poMult (F : Fam X C) (ha : PX X C a fa) (hb : PX X C b fb) : PX X C (.BinOp a .Mult b pos) (pOp vMul fa fb) := p_op (fun _ => o_mul) s_mul ha hb
theorem eoMult (F : Fam X C) (ha : EX X C a ea) (hb : EX X C b eb) : EX X C (.BinOp a .Mult b pos) (eOp vMul ea eb) := e_op (fun _ => o_mul) s_mul ha hb
theorem noAdd (F : Fam X C) (ha : PX X C a fa) (hb : PX X C b fb) : NX X C (.BinOp a .Add b pos) (pOp vCat fa fb) := n_op (r := rAdd C.K) (fun i => by rw [← F.K i]; exact o_add) n_add ha hb
theorem noMult (F : Fam X C) (ha : PX X C a fa) (hb : PX X C b fb) : NX X C (.BinOp a .Mult b pos) (pOp vRepN fa fb) := n_op (fun _ => o_mul) n_mulv ha hb
theorem puNeg (ha : PX X C a fa) : PX X C (.UnaryOp .USub a pos) (pUn vNeg fa) := p_un (fun _ => un_neg) s_neg ha
theorem puInv (ha : PX X C a fa) : PX X C (.UnaryOp .Invert a pos) (pUn vInv fa) := p_un (fun _ => un_inv) s_inv ha
theorem pcEq (F : Fam X C) (ha : PX X C a fa) (hb : PX X C b fb) : PX X C (.Compare a [.Eq] [b] pos) (pOp vEq fa fb) := p_cmp (r := rEqD C.K) (fun i => by rw [← F.K i]; exact op_eqD (un64 F i)) s_eq ha hb (nomark _)
theorem ccEq (F : Fam X C) (ha : PX X C a fa) (hb : PX X C b fb) : CX' X C .Eq a b (pOp vEq fa fb) := c_cmp (r := rEqD C.K) (fun i => by rw [← F.K i]; exact op_eqD (un64 F i)) s_eq ha hb
theorem ecEq (F : Fam X C) (ha : EX X C a ea) (hb : EX X C b eb) : EX X C (.Compare a [.Eq] [b] pos) (eOp vEq ea eb) := e_cmp (r := rEqD C.K) (fun i => by rw [← F.K i]; exact op_eqD (un64 F i)) s_eq ha hb (nomark _)
theorem bcEq (F : Fam X C) (ha : EX X C a ea) (hb : EX X C b eb) : BX X C (.Compare a [.Eq] [b] pos) (bV (eOp vEq ea eb)) := b_cmp (r := rEqD C.K) (fun i => by rw [← F.K i]; exact op_eqD (un64 F i)) s_eq ha hb (nomark _)
theorem pcNotEq (F : Fam X C) (ha : PX X C a fa) (hb : PX X C b fb) : PX X C (.Compare a [.NotEq] [b] pos) (pOp vNe fa fb) := p_cmp (r := rNeD C.K) (fun i => by rw [← F.K i]; exact op_neD (un64 F i)) s_ne ha hb (nomark _)
theorem ccNotEq (F : Fam X C) (ha : PX X C a fa) (hb : PX X C b fb) : CX' X C .NotEq a b (pOp vNe fa fb) := c_cmp (r := rNeD C.K) (fun i => by rw [← F.K i]; exact op_neD (un64 F i)) s_ne ha hb
theorem ecNotEq (F : Fam X C) (ha : EX X C a ea) (hb : EX X C b eb) : EX X C (.Compare a [.NotEq] [b] pos) (eOp vNe ea eb) := e_cmp (r := rNeD C.K) (fun i => by rw [← F.K i]; exact op_neD (un64 F i)) s_ne ha hb (nomark _)
theorem bcNotEq (F : Fam X C) (ha : EX X C a ea) (hb : EX X C b eb) : BX X C (.Compare a [.NotEq] [b] pos) (bV (eOp vNe ea eb)) := b_cmp (r := rNeD C.K) (fun i => by rw [← F.K i]; exact op_neD (un64 F i)) s_ne ha hb (nomark _)
theorem pcLt (F : Fam X C) (ha : PX X C a fa) (hb : PX X C b fb) : PX X C (.Compare a [.Lt] [b] pos) (pOp (i2 vLtI) fa fb) := p_cmp (fun _ => op_lt) s_lt ha hb (nomark _)
theorem ccLt (F : Fam X C) (ha : PX X C a fa) (hb : PX X C b fb) : CX' X C .Lt a b (pOp (i2 vLtI) fa fb) := c_cmp (fun _ => op_lt) s_lt ha hb
theorem ecLt (F : Fam X C) (ha : EX X C a ea) (hb : EX X C b eb) : EX X C (.Compare a [.Lt] [b] pos) (eOp (i2 vLtI) ea eb) := e_cmp (fun _ => op_lt) s_lt ha hb (nomark _)
theorem bcLt (F : Fam X C) (ha : EX X C a ea) (hb : EX X C b eb) : BX X C (.Compare a [.Lt] [b] pos) (bV (eOp (i2 vLtI) ea eb)) := b_cmp (fun _ => op_lt) s_lt ha hb (nomark _)
theorem pcLtE (F : Fam X C) (ha : PX X C a fa) (hb : PX X C b fb) : PX X C (.Compare a [.LtE] [b] pos) (pOp (i2 vLeI) fa fb) := p_cmp (fun _ => op_le) s_le ha hb (nomark _)
theorem ccLtE (F : Fam X C) (ha : PX X C a fa) (hb : PX X C b fb) : CX' X C .LtE a b (pOp (i2 vLeI) fa fb) := c_cmp (fun _ => op_le) s_le ha hb
theorem ecLtE (F : Fam X C) (ha : EX X C a ea) (hb : EX X C b eb) : EX X C (.Compare a [.LtE] [b] pos) (eOp (i2 vLeI) ea eb) := e_cmp (fun _ => op_le) s_le ha hb (nomark _)
theorem bcLtE (F : Fam X C) (ha : EX X C a ea) (hb : EX X C b eb) : BX X C (.Compare a [.LtE] [b] pos) (bV (eOp (i2 vLeI) ea eb)) := b_cmp (fun _ => op_le) s_le ha hb (nomark _)
theorem pcGt (F : Fam X C) (ha : PX X C a fa) (hb : PX X C b fb) : PX X C (.Compare a [.Gt] [b] pos) (pOp (i2 vGtI) fa fb) := p_cmp (fun _ => op_gt) s_gt ha hb (nomark _)
theorem ccGt (F : Fam X C) (ha : PX X C a fa) (hb : PX X C b fb) : CX' X C .Gt a b (pOp (i2 vGtI) fa fb) := c_cmp (fun _ => op_gt) s_gt ha hb
theorem ecGt (F : Fam X C) (ha : EX X C a ea) (hb : EX X C b eb) : EX X C (.Compare a [.Gt] [b] pos) (eOp (i2 vGtI) ea eb) := e_cmp (fun _ => op_gt) s_gt ha hb (nomark _)
theorem bcGt (F : Fam X C) (ha : EX X C a ea) (hb : EX X C b eb) : BX X C (.Compare a [.Gt] [b] pos) (bV (eOp (i2 vGtI) ea eb)) := b_cmp (fun _ => op_gt) s_gt ha hb (nomark _)
theorem pcGtE (F : Fam X C) (ha : PX X C a fa) (hb : PX X C b fb) : PX X C (.Compare a [.GtE] [b] pos) (pOp (i2 vGeI) fa fb) := p_cmp (fun _ => op_ge) s_ge ha hb (nomark _)
theorem ccGtE (F : Fam X C) (ha : PX X C a fa) (hb : PX X C b fb) : CX' X C .GtE a b (pOp (i2 vGeI) fa fb) := c_cmp (fun _ => op_ge) s_ge ha hb
theorem ecGtE (F : Fam X C) (ha : EX X C a ea) (hb : EX X C b eb) : EX X C (.Compare a [.GtE] [b] pos) (eOp (i2 vGeI) ea eb) := e_cmp (fun _ => op_ge) s_ge ha hb (nomark _)
theorem bcGtE (F : Fam X C) (ha : EX X C a ea) (hb : EX X C b eb) : BX X C (.Compare a [.GtE] [b] pos) (bV (eOp (i2 vGeI) ea eb)) := b_cmp (fun _ => op_ge) s_ge ha hb (nomark _)
theorem pcIn (F : Fam X C) (ha : PX X C a fa) (hb : PX X C b fb) (hm : behindInMarks .In b = false := by rfl) : PX X C (.Compare a [.In] [b] pos) (pOp vInV fa fb) := p_cmp (r := rInA C.K) (fun i => by rw [← F.K i]; exact o_in (un65 F i)) s_in ha hb hm
theorem ccIn (F : Fam X C) (ha : PX X C a fa) (hb : PX X C b fb) : CX' X C .In a b (pOp vInV fa fb) := c_cmp (r := rInA C.K) (fun i => by rw [← F.K i]; exact o_in (un65 F i)) s_in ha hb
theorem ecIn (F : Fam X C) (ha : EX X C a ea) (hb : EX X C b eb) (hm : behindInMarks .In b = false := by rfl) : EX X C (.Compare a [.In] [b] pos) (eOp vInV ea eb) := e_cmp (r := rInA C.K) (fun i => by rw [← F.K i]; exact o_in (un65 F i)) s_in ha hb hm
theorem bcIn (F : Fam X C) (ha : EX X C a ea) (hb : EX X C b eb) (hm : behindInMarks .In b = false := by rfl) : BX X C (.Compare a [.In] [b] pos) (bV (eOp vInV ea eb)) := b_cmp (r := rInA C.K) (fun i => by rw [← F.K i]; exact o_in (un65 F i)) s_in ha hb hm
theorem pcNotIn (F : Fam X C) (ha : PX X C a fa) (hb : PX X C b fb) (hm : behindInMarks .NotIn b = false := by rfl) : PX X C (.Compare a [.NotIn] [b] pos) (pOp vNotInV fa fb) := p_cmp (r := rNotInA C.K) (fun i => by rw [← F.K i]; exact o_notin (un65 F i)) s_notin ha hb hm
theorem ccNotIn (F : Fam X C) (ha : PX X C a fa) (hb : PX X C b fb) : CX' X C .NotIn a b (pOp vNotInV fa fb) := c_cmp (r := rNotInA C.K) (fun i => by rw [← F.K i]; exact o_notin (un65 F i)) s_notin ha hb
theorem ecNotIn (F : Fam X C) (ha : EX X C a ea) (hb : EX X C b eb) (hm : behindInMarks .NotIn b = false := by rfl) : EX X C (.Compare a [.NotIn] [b] pos) (eOp vNotInV ea eb) := e_cmp (r := rNotInA C.K) (fun i => by rw [← F.K i]; exact o_notin (un65 F i)) s_notin ha hb hm
theorem bcNotIn (F : Fam X C) (ha : EX X C a ea) (hb : EX X C b eb) (hm : behindInMarks .NotIn b = false := by rfl) : BX X C (.Compare a [.NotIn] [b] pos) (bV (eOp vNotInV ea eb)) := b_cmp (r := rNotInA C.K) (fun i => by rw [← F.K i]; exact o_notin (un65 F i)) s_notin ha hb hm
theorem pcIs (F : Fam X C) (ha : PX X C a fa) (hb : PX X C b fb) : PX X C (.Compare a [.Is] [b] pos) (pOp vIs fa fb) := p_cmp (fun _ => o_is) s_is ha hb (nomark _)
theorem ccIs (F : Fam X C) (ha : PX X C a fa) (hb : PX X C b fb) : CX' X C .Is a b (pOp vIs fa fb) := c_cmp (fun _ => o_is) s_is ha hb
theorem ecIs (F : Fam X C) (ha : EX X C a ea) (hb : EX X C b eb) : EX X C (.Compare a [.Is] [b] pos) (eOp vIs ea eb) := e_cmp (fun _ => o_is) s_is ha hb (nomark _)
theorem bcIs (F : Fam X C) (ha : EX X C a ea) (hb : EX X C b eb) : BX X C (.Compare a [.Is] [b] pos) (bV (eOp vIs ea eb)) := b_cmp (fun _ => o_is) s_is ha hb (nomark _)
theorem pcIsNot (F : Fam X C) (ha : PX X C a fa) (hb : PX X C b fb) : PX X C (.Compare a [.IsNot] [b] pos) (pOp vIsNot fa fb) := p_cmp (fun _ => o_isnot) s_isnot ha hb (nomark _)
theorem ccIsNot (F : Fam X C) (ha : PX X C a fa) (hb : PX X C b fb) : CX' X C .IsNot a b (pOp vIsNot fa fb) := c_cmp (fun _ => o_isnot) s_isnot ha hb
theorem ecIsNot (F : Fam X C) (ha : EX X C a ea) (hb : EX X C b eb) : EX X C (.Compare a [.IsNot] [b] pos) (eOp vIsNot ea eb) := e_cmp (fun _ => o_isnot) s_isnot ha hb (nomark _)
theorem bcIsNot (F : Fam X C) (ha : EX X C a ea) (hb : EX X C b eb) : BX X C (.Compare a [.IsNot] [b] pos) (bV (eOp vIsNot ea eb)) := b_cmp (fun _ => o_isnot) s_isnot ha hb (nomark _)
theorem chLtELtE {c : Expr} {fc : PF} (ha : PX X C a fa) (hb : PX X C b fb) (hc : PX X C c fc) (hm : lastMarks [.LtE, .LtE] [b, c] = false := by with_unfolding_all rfl) : PX X C (.Compare a [.LtE, .LtE] [b, c] pos) (pChain (i2 vLeI) (i2 vLeI) fa fb fc) := p_chain (fun _ => op_le) (fun _ => op_le) s_le s_le ha hb hc hm
theorem chLtELt {c : Expr} {fc : PF} (ha : PX X C a fa) (hb : PX X C b fb) (hc : PX X C c fc) (hm : lastMarks [.LtE, .Lt] [b, c] = false := by with_unfolding_all rfl) : PX X C (.Compare a [.LtE, .Lt] [b, c] pos) (pChain (i2 vLeI) (i2 vLtI) fa fb fc) := p_chain (fun _ => op_le) (fun _ => op_lt) s_le s_lt ha hb hc hm
theorem chLtLtE {c : Expr} {fc : PF} (ha : PX X C a fa) (hb : PX X C b fb) (hc : PX X C c fc) (hm : lastMarks [.Lt, .LtE] [b, c] = false := by with_unfolding_all rfl) : PX X C (.Compare a [.Lt, .LtE] [b, c] pos) (pChain (i2 vLtI) (i2 vLeI) fa fb fc) := p_chain (fun _ => op_lt) (fun _ => op_le) s_lt s_le ha hb hc hm
theorem chLtLt {c : Expr} {fc : PF} (ha : PX X C a fa) (hb : PX X C b fb) (hc : PX X C c fc) (hm : lastMarks [.Lt, .Lt] [b, c] = false := by with_unfolding_all rfl) : PX X C (.Compare a [.Lt, .Lt] [b, c] pos) (pChain (i2 vLtI) (i2 vLtI) fa fb fc) := p_chain (fun _ => op_lt) (fun _ => op_lt) s_lt s_lt ha hb hc hm
theorem en_ct {x : Str} {r : List V → Hp → VK → Prop} {h : List PV → Option PV} {T : String} (hc : ∀ i, CallR (X i) (.type T) r) (hs : CaN C.K C.xc r h) (F : Fam X C) (hg : ∀ i, Gl (X i) x) (hm : C.mg x = none) (hv : bootBuiltins x = some (.type T)) (ha : AX X C (e :: es) al) (hn : x ≠ "__name__" := by decide) (hdb : (x == ("__debug__" : Str)) = false := by decide)
    (he : ∀ i, starEach (e :: es) (X i).env = (false, eval e (X i).env) :: starEach es (X i).env := by intro _; rfl) (hpl : ∀ i, (backTo pos (starEach es (X i).env)).any (·.1) = false := by intro _; rfl) : ENX X C (.Call (.Name x p) (e :: es) [] pos) (eCa h al) := by
  obtain ⟨t, pa, sl⟩ := ha
  exact ⟨tCB r t, fun i => pe_callTy (hc i) (hg i) (by rw [F.mg i]; exact hm) hv (pa i) hn hdb (he i) (hpl i), sim_cn2 hs sl⟩
theorem boot_sum' : bootBuiltins "sum" = some (.builtin "sum") := by decide +kernel
theorem boot_any' : bootBuiltins "any" = some (.builtin "any") := by decide +kernel
theorem boot_all' : bootBuiltins "all" = some (.builtin "all") := by decide +kernel
theorem boot_min' : bootBuiltins "min" = some (.builtin "min") := by decide +kernel
theorem boot_max' : bootBuiltins "max" = some (.builtin "max") := by decide +kernel
theorem boot_isinstance' : bootBuiltins "isinstance" = some (.builtin "isinstance") := by decide +kernel
theorem boot_sorted' : bootBuiltins "sorted" = some (.builtin "sorted") := by decide +kernel
theorem pb_len (F : Fam X C) (hg : ∀ i, Gl (X i) "len") (hm : C.mg "len" = none) (ha : PX X C a fa) (hs : ∀ i, starEach [a] (X i).env = [(false, eval a (X i).env)] := by intro _; rfl) : PX X C (.Call (.Name "len" p) [a] [] pos) (pCa (f1 vLen) (lCons fa lNil)) := p_cb (r := rLen C.K) (fun i => by rw [← F.K i]; exact call_len) c_len F hg hm boot_len (l_cons ha l_nil hs) (by decide) (by decide) hs (fun _ => rfl)
theorem eb_len (F : Fam X C) (hg : ∀ i, Gl (X i) "len") (hm : C.mg "len" = none) (ha : EX X C a ea) (hs : ∀ i, starEach [a] (X i).env = [(false, eval a (X i).env)] := by intro _; rfl) : EX X C (.Call (.Name "len" p) [a] [] pos) (eCa (f1 vLen) (aCons ea aNil)) := e_cb (r := rLen C.K) (fun i => by rw [← F.K i]; exact call_len) c_len F hg hm boot_len (a_cons ha a_nil hs) (by decide) (by decide) hs (fun _ => rfl)
theorem pb_sum (F : Fam X C) (hg : ∀ i, Gl (X i) "sum") (hm : C.mg "sum" = none) (ha : PX X C a fa) (hs : ∀ i, starEach [a] (X i).env = [(false, eval a (X i).env)] := by intro _; rfl) : PX X C (.Call (.Name "sum" p) [a] [] pos) (pCa (f1 vSum) (lCons fa lNil)) := p_cb (r := rSum C.K) (fun i => by rw [← F.K i]; exact cr_sum (F.calm i)) c_sum F hg hm boot_sum' (l_cons ha l_nil hs) (by decide) (by decide) hs (fun _ => rfl)
theorem eb_sum (F : Fam X C) (hg : ∀ i, Gl (X i) "sum") (hm : C.mg "sum" = none) (ha : EX X C a ea) (hs : ∀ i, starEach [a] (X i).env = [(false, eval a (X i).env)] := by intro _; rfl) : EX X C (.Call (.Name "sum" p) [a] [] pos) (eCa (f1 vSum) (aCons ea aNil)) := e_cb (r := rSum C.K) (fun i => by rw [← F.K i]; exact cr_sum (F.calm i)) c_sum F hg hm boot_sum' (a_cons ha a_nil hs) (by decide) (by decide) hs (fun _ => rfl)
theorem pb_any (F : Fam X C) (hg : ∀ i, Gl (X i) "any") (hm : C.mg "any" = none) (ha : PX X C a fa) (hs : ∀ i, starEach [a] (X i).env = [(false, eval a (X i).env)] := by intro _; rfl) : PX X C (.Call (.Name "any" p) [a] [] pos) (pCa (f1 vAny) (lCons fa lNil)) := p_cb (r := rAny C.K) (fun i => by rw [← F.K i]; exact cr_any (F.calm i)) c_any F hg hm boot_any' (l_cons ha l_nil hs) (by decide) (by decide) hs (fun _ => rfl)
theorem eb_any (F : Fam X C) (hg : ∀ i, Gl (X i) "any") (hm : C.mg "any" = none) (ha : EX X C a ea) (hs : ∀ i, starEach [a] (X i).env = [(false, eval a (X i).env)] := by intro _; rfl) : EX X C (.Call (.Name "any" p) [a] [] pos) (eCa (f1 vAny) (aCons ea aNil)) := e_cb (r := rAny C.K) (fun i => by rw [← F.K i]; exact cr_any (F.calm i)) c_any F hg hm boot_any' (a_cons ha a_nil hs) (by decide) (by decide) hs (fun _ => rfl)
theorem pb_all (F : Fam X C) (hg : ∀ i, Gl (X i) "all") (hm : C.mg "all" = none) (ha : PX X C a fa) (hs : ∀ i, starEach [a] (X i).env = [(false, eval a (X i).env)] := by intro _; rfl) : PX X C (.Call (.Name "all" p) [a] [] pos) (pCa (f1 vAll) (lCons fa lNil)) := p_cb (r := rAll C.K) (fun i => by rw [← F.K i]; exact cr_all (F.calm i)) c_all F hg hm boot_all' (l_cons ha l_nil hs) (by decide) (by decide) hs (fun _ => rfl)
theorem eb_all (F : Fam X C) (hg : ∀ i, Gl (X i) "all") (hm : C.mg "all" = none) (ha : EX X C a ea) (hs : ∀ i, starEach [a] (X i).env = [(false, eval a (X i).env)] := by intro _; rfl) : EX X C (.Call (.Name "all" p) [a] [] pos) (eCa (f1 vAll) (aCons ea aNil)) := e_cb (r := rAll C.K) (fun i => by rw [← F.K i]; exact cr_all (F.calm i)) c_all F hg hm boot_all' (a_cons ha a_nil hs) (by decide) (by decide) hs (fun _ => rfl)
theorem pb_min (F : Fam X C) (hg : ∀ i, Gl (X i) "min") (hm : C.mg "min" = none) (ha : PX X C a fa) (hb : PX X C b fb) (hs : ∀ i, starEach [a, b] (X i).env = [(false, eval a (X i).env), (false, eval b (X i).env)] := by intro _; rfl) (hs2 : ∀ i, starEach [b] (X i).env = [(false, eval b (X i).env)] := by intro _; rfl) : PX X C (.Call (.Name "min" p) [a, b] [] pos) (pCa (f2 (i2 vMinI)) (lCons fa (lCons fb lNil))) := p_cb (fun i => call_min2 (F.calm i)) c_min2 F hg hm boot_min' (l_cons ha (l_cons hb l_nil hs2) (fun i => by rw [hs i, hs2 i])) (by decide) (by decide) (fun i => by rw [hs i, hs2 i]) (fun i => by rw [hs2 i]; rfl)
theorem eb_min (F : Fam X C) (hg : ∀ i, Gl (X i) "min") (hm : C.mg "min" = none) (ha : EX X C a ea) (hb : EX X C b eb) (hs : ∀ i, starEach [a, b] (X i).env = [(false, eval a (X i).env), (false, eval b (X i).env)] := by intro _; rfl) (hs2 : ∀ i, starEach [b] (X i).env = [(false, eval b (X i).env)] := by intro _; rfl) : EX X C (.Call (.Name "min" p) [a, b] [] pos) (eCa (f2 (i2 vMinI)) (aCons ea (aCons eb aNil))) := e_cb (fun i => call_min2 (F.calm i)) c_min2 F hg hm boot_min' (a_cons ha (a_cons hb a_nil hs2) (fun i => by rw [hs i, hs2 i])) (by decide) (by decide) (fun i => by rw [hs i, hs2 i]) (fun i => by rw [hs2 i]; rfl)
theorem pb_max (F : Fam X C) (hg : ∀ i, Gl (X i) "max") (hm : C.mg "max" = none) (ha : PX X C a fa) (hb : PX X C b fb) (hs : ∀ i, starEach [a, b] (X i).env = [(false, eval a (X i).env), (false, eval b (X i).env)] := by intro _; rfl) (hs2 : ∀ i, starEach [b] (X i).env = [(false, eval b (X i).env)] := by intro _; rfl) : PX X C (.Call (.Name "max" p) [a, b] [] pos) (pCa (f2 (i2 vMaxI)) (lCons fa (lCons fb lNil))) := p_cb (fun i => call_max2 (F.calm i)) c_max2 F hg hm boot_max' (l_cons ha (l_cons hb l_nil hs2) (fun i => by rw [hs i, hs2 i])) (by decide) (by decide) (fun i => by rw [hs i, hs2 i]) (fun i => by rw [hs2 i]; rfl)
theorem eb_max (F : Fam X C) (hg : ∀ i, Gl (X i) "max") (hm : C.mg "max" = none) (ha : EX X C a ea) (hb : EX X C b eb) (hs : ∀ i, starEach [a, b] (X i).env = [(false, eval a (X i).env), (false, eval b (X i).env)] := by intro _; rfl) (hs2 : ∀ i, starEach [b] (X i).env = [(false, eval b (X i).env)] := by intro _; rfl) : EX X C (.Call (.Name "max" p) [a, b] [] pos) (eCa (f2 (i2 vMaxI)) (aCons ea (aCons eb aNil))) := e_cb (fun i => call_max2 (F.calm i)) c_max2 F hg hm boot_max' (a_cons ha (a_cons hb a_nil hs2) (fun i => by rw [hs i, hs2 i])) (by decide) (by decide) (fun i => by rw [hs i, hs2 i]) (fun i => by rw [hs2 i]; rfl)
theorem pb_isi (F : Fam X C) (hg : ∀ i, Gl (X i) "isinstance") (hm : C.mg "isinstance" = none) (ha : PX X C a fa) (hb : PX X C b fb) (hs : ∀ i, starEach [a, b] (X i).env = [(false, eval a (X i).env), (false, eval b (X i).env)] := by intro _; rfl) (hs2 : ∀ i, starEach [b] (X i).env = [(false, eval b (X i).env)] := by intro _; rfl) : PX X C (.Call (.Name "isinstance" p) [a, b] [] pos) (pCa (f2 vIsInst) (lCons fa (lCons fb lNil))) := p_cb (r := rIsi C.K) (fun i => by rw [← F.K i]; exact call_isi) c_isi F hg hm boot_isinstance' (l_cons ha (l_cons hb l_nil hs2) (fun i => by rw [hs i, hs2 i])) (by decide) (by decide) (fun i => by rw [hs i, hs2 i]) (fun i => by rw [hs2 i]; rfl)
theorem eb_isi (F : Fam X C) (hg : ∀ i, Gl (X i) "isinstance") (hm : C.mg "isinstance" = none) (ha : EX X C a ea) (hb : EX X C b eb) (hs : ∀ i, starEach [a, b] (X i).env = [(false, eval a (X i).env), (false, eval b (X i).env)] := by intro _; rfl) (hs2 : ∀ i, starEach [b] (X i).env = [(false, eval b (X i).env)] := by intro _; rfl) : EX X C (.Call (.Name "isinstance" p) [a, b] [] pos) (eCa (f2 vIsInst) (aCons ea (aCons eb aNil))) := e_cb (r := rIsi C.K) (fun i => by rw [← F.K i]; exact call_isi) c_isi F hg hm boot_isinstance' (a_cons ha (a_cons hb a_nil hs2) (fun i => by rw [hs i, hs2 i])) (by decide) (by decide) (fun i => by rw [hs i, hs2 i]) (fun i => by rw [hs2 i]; rfl)
theorem pb_int (F : Fam X C) (hg : ∀ i, Gl (X i) "int") (hm : C.mg "int" = none) (ha : PX X C a fa) (hs : ∀ i, starEach [a] (X i).env = [(false, eval a (X i).env)] := by intro _; rfl) : PX X C (.Call (.Name "int" p) [a] [] pos) (pCa (f1 vInt) (lCons fa lNil)) := p_ct (r := rInt) (fun _ => o_int) c_int F hg hm boot_int (l_cons ha l_nil hs) (by decide) (by decide) hs (fun _ => rfl)
theorem eb_int (F : Fam X C) (hg : ∀ i, Gl (X i) "int") (hm : C.mg "int" = none) (ha : EX X C a ea) (hs : ∀ i, starEach [a] (X i).env = [(false, eval a (X i).env)] := by intro _; rfl) : EX X C (.Call (.Name "int" p) [a] [] pos) (eCa (f1 vInt) (aCons ea aNil)) := e_ct (r := rInt) (fun _ => o_int) c_int F hg hm boot_int (a_cons ha a_nil hs) (by decide) (by decide) hs (fun _ => rfl)
theorem pb_tuple (F : Fam X C) (hg : ∀ i, Gl (X i) "tuple") (hm : C.mg "tuple" = none) (ha : PX X C a fa) (hs : ∀ i, starEach [a] (X i).env = [(false, eval a (X i).env)] := by intro _; rfl) : PX X C (.Call (.Name "tuple" p) [a] [] pos) (pCa (f1 vTuple) (lCons fa lNil)) := p_ct (r := rTupC C.K) (fun i => by rw [← F.K i]; exact call_tuple_of) c_tuple F hg hm boot_tuple (l_cons ha l_nil hs) (by decide) (by decide) hs (fun _ => rfl)
theorem eb_tuple (F : Fam X C) (hg : ∀ i, Gl (X i) "tuple") (hm : C.mg "tuple" = none) (ha : EX X C a ea) (hs : ∀ i, starEach [a] (X i).env = [(false, eval a (X i).env)] := by intro _; rfl) : EX X C (.Call (.Name "tuple" p) [a] [] pos) (eCa (f1 vTuple) (aCons ea aNil)) := e_ct (r := rTupC C.K) (fun i => by rw [← F.K i]; exact call_tuple_of) c_tuple F hg hm boot_tuple (a_cons ha a_nil hs) (by decide) (by decide) hs (fun _ => rfl)
theorem nb_list (F : Fam X C) (hg : ∀ i, Gl (X i) "list") (hm : C.mg "list" = none) (ha : PX X C a fa) (hs : ∀ i, starEach [a] (X i).env = [(false, eval a (X i).env)] := by intro _; rfl) : NX X C (.Call (.Name "list" p) [a] [] pos) (pCa (f1 vList) (lCons fa lNil)) := n_ct (r := rList C.K) (fun i => by rw [← F.K i]; exact call_list_of) c_list F hg hm boot_list (l_cons ha l_nil hs) (by decide) (by decide) hs (fun _ => rfl)
theorem enb_list (F : Fam X C) (hg : ∀ i, Gl (X i) "list") (hm : C.mg "list" = none) (ha : EX X C a ea) (hs : ∀ i, starEach [a] (X i).env = [(false, eval a (X i).env)] := by intro _; rfl) : ENX X C (.Call (.Name "list" p) [a] [] pos) (eCa (f1 vList) (aCons ea aNil)) := en_ct (r := rList C.K) (fun i => by rw [← F.K i]; exact call_list_of) c_list F hg hm boot_list (a_cons ha a_nil hs) (by decide) (by decide) hs (fun _ => rfl)
theorem nb_sortI (F : Fam X C) (hg : ∀ i, Gl (X i) "sorted") (hm : C.mg "sorted" = none) (ha : PX X C a fa) (hs : ∀ i, starEach [a] (X i).env = [(false, eval a (X i).env)] := by intro _; rfl) : NX X C (.Call (.Name "sorted" p) [a] [] pos) (pCa (f1 vSortI) (lCons fa lNil)) := n_cb (r := rSortedI C.K) (fun i => by rw [← F.K i]; exact cr_sortedI) c_sortI F hg hm boot_sorted' (l_cons ha l_nil hs) (by decide) (by decide) hs (fun _ => rfl)
theorem enb_sortI (F : Fam X C) (hg : ∀ i, Gl (X i) "sorted") (hm : C.mg "sorted" = none) (ha : EX X C a ea) (hs : ∀ i, starEach [a] (X i).env = [(false, eval a (X i).env)] := by intro _; rfl) : ENX X C (.Call (.Name "sorted" p) [a] [] pos) (eCa (f1 vSortI) (aCons ea aNil)) := en_cb (r := rSortedI C.K) (fun i => by rw [← F.K i]; exact cr_sortedI) c_sortI F hg hm boot_sorted' (a_cons ha a_nil hs) (by decide) (by decide) hs (fun _ => rfl)
end
end L3

namespace L3
open PySem PySem.Spec PyProof.Rows L2
section
variable {ι : Type} {X : ι → Cx} {C : Ctx} {a b e : Expr} {x : Str} {T : String} {pos p : Pos}
theorem p_ty (F : Fam X C) (hg : ∀ i, Gl (X i) x) (hm : C.mg x = none) (hv : bootBuiltins x = some (.type T)) (hn : x ≠ "__name__" := by decide) (hd : (x == ("__debug__" : Str)) = false := by decide) : PX X C (.Name x pos) (pC (.ty T)) :=
  p_c (u := .ty T) (fun i => pe_bltn (hg i) (by rw [F.mg i]; exact hm) hv rfl hn hd) fun S H => rep_ty.mpr rfl
theorem p_gi (F : Fam X C) {n : Int} (hg : ∀ i, Gl (X i) x) (hm : ∃ u, C.mg x = some u ∧ RelV (.int n) u) (hd : (x == ("__debug__" : Str)) = false := by decide) : PX X C (.Name x pos) (pC (.int n)) := by
  obtain ⟨u, h1, h2⟩ := hm
  exact p_c (u := .int n) (fun i => pe_glob (hg i) (by rw [F.mg i]; exact h1) h2 hd) fun S H => rep_int.mpr rfl
/-- a, b = x: x a list in a slot -/
def sUnO (i n : Nat) (fl : TFs) : SF := fun g => (R.of (atL g i)).bind fun vs => if vs.length = n then (fl vs g).go sNil else .stuck
theorem s_unO {es : List Expr} {i n k : Nat} {fl : TFs} {tpos : Pos} (F : Fam X C) (hN : ∀ j, (X j).N[i]? = some x) (hv : ∀ j, Vis (X j).env.scope x) (hl : TXs X C anyS es fl) (hd : (x == ("__debug__" : Str)) = false := by decide) (hcd : (x == ("__classdict__" : Str)) = false := by decide)
    (hn : ∀ i, (assignEach es (X i).env).length = n := by intro _; rfl) (hst : ∀ i, (assignEach es (X i).env).findIdx? (·.1) = none := by intro _; rfl)
    (hs : ∀ i, swapsWithSole [.Tuple es k tpos] (.Name x p) pos.line (X i).env = pure false := by intro _; rfl) (hw : ∀ i, swappedStores [.Tuple es k tpos] (.Name x p) (X i).env = pure none := by intro _; rfl)
    (h1 : ∀ i, (assignEach [.Tuple es k tpos] (X i).env).map (·.2) = [assign (.Tuple es k tpos) (X i).env] := by intro _; rfl) : SX X C (.Assign [.Tuple es k tpos] (.Name x p) pos) (sUnO i n fl) := by
  obtain ⟨tl, pl, sl⟩ := hl
  refine ⟨tAsg (tVar i) (gLst C.K n tl), fun j => ps_asg (pe_var (hN j) (hv j) hd hcd) (by rw [← F.K j]; exact pg_lst (F.calm j) (pl j) (hn j) (hst j)) (hs j) (hw j) (h1 j), fun S σ H g D st hp => ?_⟩
  unfold sUnO at hp
  match e1 : atL g i, hp with
  | none, hp => exact hp.elim
  | some vs, hp =>
    rw [R.of_some, R.bind_ok] at hp
    obtain ⟨s0, a1, a2⟩ := of_atL e1
    obtain ⟨q, a3, us, a4, a5⟩ := st.own i s0 _ a1 a2
    by_cases hz : vs.length = n
    · rw [if_pos hz] at hp
      refine ⟨.ref q, a3, q, us, rfl, SqL.of a4, by rw [← a5.len]; exact hz, ?_⟩
      refine sl S σ H g vs us _ st a5 ?_
      match h2 : fl vs g, hp with
      | .stuck, hp => exact hp
      | .err x g', hp => exact hp.elim
      | .ok g2, hp => exact fun σ2 k2 s2 _ => hp S σ2 H k2 s2
    · rw [if_neg hz] at hp; exact hp.elim
end
end L3
namespace L3
open PySem PySem.Spec PyProof.Rows L2
/-! ### names -/
section
variable {scope : Scope} {env : Env} {x : Str}
theorem rel_keep {k : NameKind} (hk : k ≠ .free) (h : scope.names.lookup x = some k) : (relabel scope env).names.lookup x = some k := lookup_relS_keep (sc := env.scope) hk h
theorem rel_any {env : Env} : ∀ {names : List (Str × NameKind)} {x : Str}, names.lookup x = some .free →
    (names.map fun (n, k) => if (k == NameKind.free && env.scope.kind == .function && env.kindOf n == some .cell) then (n, NameKind.cell) else (n, k)).lookup x = some .cell ∨
    (names.map fun (n, k) => if (k == NameKind.free && env.scope.kind == .function && env.kindOf n == some .cell) then (n, NameKind.cell) else (n, k)).lookup x = some .free
  | [], _, h => by simp at h
  | (n, k) :: r, x, h => by
    have ih := @rel_any env r x
    have e : ∀ b : Bool, ((if b = true then (n, NameKind.cell) else (n, k)) : Str × NameKind).1 = n := fun b => by cases b <;> rfl
    cases hx : x == n with
    | true =>
      simp only [List.lookup_cons, hx] at h
      cases h
      by_cases hc : (NameKind.free == NameKind.free && env.scope.kind == .function && env.kindOf n == some .cell) = true
      · refine .inl ?_
        show List.lookup x ((if (NameKind.free == NameKind.free && env.scope.kind == .function && env.kindOf n == some .cell) = true then (n, NameKind.cell) else (n, NameKind.free)) :: _) = _
        rw [if_pos hc]; simp only [List.lookup_cons, hx]
      · refine .inr ?_
        show List.lookup x ((if (NameKind.free == NameKind.free && env.scope.kind == .function && env.kindOf n == some .cell) = true then (n, NameKind.cell) else (n, NameKind.free)) :: _) = _
        rw [if_neg hc]; simp only [List.lookup_cons, hx]
    | false =>
      simp only [List.lookup_cons, hx] at h
      have z := ih h
      by_cases hc : (k == NameKind.free && env.scope.kind == .function && env.kindOf n == some .cell) = true
      · rw [List.map_cons]
        dsimp only
        rw [if_pos hc]; simp only [List.lookup_cons, hx]; exact z
      · rw [List.map_cons]
        dsimp only
        rw [if_neg hc]; simp only [List.lookup_cons, hx]; exact z
theorem vis_free (h : scope.names.lookup x = some .free) : Vis (relabel scope env) x := .inr (rel_any (env := env) h)
theorem vis_own (h : scope.names.lookup x = some .local) : Vis (relabel scope env) x := .inl (rel_keep (by decide) h)
theorem loc_own (h : scope.names.lookup x = some .local) : Loc (relabel scope env) x := .inl (rel_keep (by decide) h)
theorem lk_own (h : scope.names.lookup x = some .local) : (relabel scope env).names.lookup x = some .local := rel_keep (by decide) h
theorem gl_rel (h : scope.names.lookup x = some .globalImplicit) : (relabel scope env).names.lookup x = some .globalImplicit := rel_keep (by decide) h
end
end L3

namespace L3
open PySem PySem.Spec PyProof.Rows L2
/-! ### the law's own head -/
theorem law_sp {K : PySem.W.Frag} {xc : Xc} {mir : MF} {H : Hp} {a : Addr} {ns : List Int} (P : Program) (w : World) (hO : Only H) (hS : SqL K H a (ns.map V.int)) (hm : ∃ cs, mir [.scr ns] = .ok (.bl true) cs) : spOf K xc [false] mir [.ref a] H (fun v _ => v = .bl true) fun _ _ _ => False := by
  obtain ⟨cs, hm⟩ := hm
  have sc : Scr K H a ns := by
    rcases hS with (h | h) | h
    · rcases hO a with z | ⟨o, xs, z⟩
      · rw [h] at z; cases z
      · rw [h] at z; cases z
    · exact .inl h
    · exact .inr h
  let C : Ctx := ⟨P, w, K, fun _ => none, {}, [], 0, xc, fun _ _ _ _ => False⟩
  refine ⟨fun _ => False, [.scr ns], C, rfl, rfl, rfl, rfl, sta_vals (C := C) (S := fun _ => False) (ps := [.scr ns]) (us := [.ref a]) (RepL.one (rep_scr.mpr ⟨a, rfl, sc⟩)) (fun _ z => z.elim), ?_⟩
  rw [hm]
  exact fun S' H' u _ _ r => rep_bl.mp r
end L3

namespace L3
open PySem PySem.Spec PyProof.Rows L2
/-! ### the mirrors' equations -/
def rd (g : Gm) (i : Nat) : R PV := match g[i]? with
  | some (.val v) => .ok v
  | _ => .stuck
@[simp] theorem x_pVar (i : Nat) (g : Gm) : pVar i g = rd g i := (rfl)
@[simp] theorem rd_0 (v : PV) (g : Gm) : rd (.val v :: g) 0 = .ok v := (rfl)
@[simp] theorem rd_s (s : Slot) (g : Gm) (n : Nat) : rd (s :: g) (n + 1) = rd g n := by unfold rd; rw [List.getElem?_cons_succ]
@[simp] theorem x_pC (v : PV) (g : Gm) : pC v g = .ok v := (rfl)
@[simp] theorem x_pOp (f : PV → PV → Option PV) (a b : PF) (g : Gm) : pOp f a b g = (a g).bind fun x => (b g).bind fun y => R.of (f x y) := (rfl)
@[simp] theorem x_pUn (f : PV → Option PV) (a : PF) (g : Gm) : pUn f a g = (a g).bind fun x => R.of (f x) := (rfl)
@[simp] theorem x_pAnd (a b : PF) (g : Gm) : pAnd a b g = (a g).bind fun x => (R.of (asB x)).bind fun c => if c = true then b g else .ok (.bl false) := (rfl)
@[simp] theorem x_pOr (a b : PF) (g : Gm) : pOr a b g = (a g).bind fun x => (R.of (asB x)).bind fun c => if c = true then .ok (.bl true) else b g := (rfl)
@[simp] theorem x_pNot (a : PF) (g : Gm) : pNot a g = (a g).bind fun x => (R.of (asB x)).bind fun c => .ok (.bl !c) := (rfl)
@[simp] theorem x_lNil (g : Gm) : lNil g = .ok [] := (rfl)
@[simp] theorem x_lCons (a : PF) (l : LF) (g : Gm) : lCons a l g = (a g).bind fun x => (l g).bind fun xs => .ok (x :: xs) := (rfl)
@[simp] theorem x_pTup (l : LF) (g : Gm) : pTup l g = (l g).bind fun xs => if xs.length ≤ 1000 then .ok (.tup xs) else .stuck := (rfl)
@[simp] theorem x_pLst (l : LF) (g : Gm) : pLst l g = (l g).bind fun xs => if xs.length ≤ 1000 then .ok (.lst xs) else .stuck := (rfl)
@[simp] theorem x_pSeen (f : PF) (g : Gm) : pSeen f g = (f g).bind fun v => R.of (seen v) := (rfl)
@[simp] theorem x_pCa (f : List PV → Option PV) (l : LF) (g : Gm) : pCa f l g = (l g).bind fun xs => R.of (f xs) := (rfl)
@[simp] theorem x_pSl (f : PF) (lo hi : Gm → R (Option Int)) (g : Gm) : pSl f lo hi g = (f g).bind fun v => (lo g).bind fun l => (hi g).bind fun h => R.of (vSl v l h) := (rfl)
@[simp] theorem x_nSl (f : PF) (lo hi : Gm → R (Option Int)) (g : Gm) : nSl f lo hi g = (f g).bind fun v => (lo g).bind fun l => (hi g).bind fun h => match v with
  | .lst ps => .ok (.lst (cut ps l h))
  | _ => .stuck := (rfl)
@[simp] theorem x_oNo (g : Gm) : oNo g = .ok none := (rfl)
@[simp] theorem x_oSo (f : PF) (g : Gm) : oSo f g = (f g).bind fun v => (R.of (asI v)).bind fun i => .ok (some i) := (rfl)
/-- a def's answer, as a value -/
def FR.val : FR → Gm → R PV
  | .ok r _, _ => .ok r
  | .new r _, _ => R.of (seenM r)
  | .err x _, g => .err x g
  | .stuck, _ => .stuck
@[simp] theorem FR.val_ok (r : PV) (cs : List PV) (g : Gm) : (FR.ok r cs).val g = .ok r := (rfl)
@[simp] theorem FR.val_new (r : PV) (cs : List PV) (g : Gm) : (FR.new r cs).val g = R.of (seenM r) := (rfl)
@[simp] theorem FR.val_err (x : Exc) (cs : List PV) (g : Gm) : (FR.err x cs).val g = .err x g := (rfl)
@[simp] theorem x_pCall (n : Nat) (mir : MF) (l : LF) (g : Gm) : pCall n mir l g = (l g).bind fun ps => if ps.length = n then (mir ps).val g else .stuck := by
  unfold pCall
  congr 1
  funext ps
  by_cases h : ps.length = n
  · rw [if_pos h, if_pos h]
    cases mir ps <;> rfl
  · rw [if_neg h, if_neg h]
@[simp] theorem x_pFrz (i : Nat) (f : PF) (g : Gm) : pFrz i f g = (R.of ((g[i]?).bind Slot.cont)).bind fun v => (R.of (seenM v)).bind fun w => (f (g.set i (.val w))).bind fun r => if fla r = true then .ok r else .stuck := (rfl)
@[simp] theorem x_nFrz (i : Nat) (f : PF) (g : Gm) : nFrz i f g = (R.of ((g[i]?).bind Slot.cont)).bind fun v => (R.of (seenM v)).bind fun w => (f (g.set i (.val w))).bind fun r => match r with
  | .lst ps => if flas ps = true then .ok (.lst ps) else .stuck
  | _ => .stuck := (rfl)
@[simp] theorem x_pOfE (f : EF) (g : Gm) : pOfE f g = match f (hide g) with
  | .ok x => .ok x.1
  | _ => .stuck := (rfl)
@[simp] theorem x_nBox1 (a b : PF) (g : Gm) : nBox1 a b g = (a g).bind fun x => (b g).bind fun y => if isSca x = true ∧ isL y = true then .ok (.box [x, y]) else .stuck := (rfl)
@[simp] theorem x_pChain (h h' : PV → PV → Option PV) (a b c : PF) (g : Gm) : pChain h h' a b c g = (a g).bind fun x => (b g).bind fun y => (R.of (h x y)).bind fun z => (R.of (asB z)).bind fun k => if k = true then (c g).bind fun w => R.of (h' y w) else .ok (.bl false) := (rfl)
-- with slots that change
@[simp] theorem x_eP (f : PF) (g : Gm) : eP f g = (f g).wit g := (rfl)
@[simp] theorem x_eOp (f : PV → PV → Option PV) (a b : EF) (g : Gm) : eOp f a b g = (a g).bind fun x => (b x.2).bind fun y => (R.of (f x.1 y.1)).bind fun z => .ok (z, y.2) := (rfl)
@[simp] theorem x_aNil (g : Gm) : aNil g = .ok ([], g) := (rfl)
@[simp] theorem x_aCons (a : EF) (l : AF) (g : Gm) : aCons a l g = (a g).bind fun x => (l x.2).bind fun xs => .ok (x.1 :: xs.1, xs.2) := (rfl)
@[simp] theorem x_eTup (l : AF) (g : Gm) : eTup l g = (l g).bind fun xs => if xs.1.length ≤ 1000 then .ok (.tup xs.1, xs.2) else .stuck := (rfl)
@[simp] theorem x_eLst (l : AF) (g : Gm) : eLst l g = (l g).bind fun xs => if xs.1.length ≤ 1000 then .ok (.lst xs.1, xs.2) else .stuck := (rfl)
@[simp] theorem x_eCa (f : List PV → Option PV) (l : AF) (g : Gm) : eCa f l g = (l g).bind fun xs => (R.of (f xs.1)).bind fun z => .ok (z, xs.2) := (rfl)
@[simp] theorem x_eSeen (f : EF) (g : Gm) : eSeen f g = (f g).bind fun x => (R.of (seen x.1)).bind fun v => .ok (v, x.2) := (rfl)
@[simp] theorem x_bV (f : EF) (g : Gm) : bV f g = (f g).bind fun x => (R.of (asB x.1)).bind fun b => .ok (b, x.2) := (rfl)
@[simp] theorem x_bAnd (a b : BF) (g : Gm) : bAnd a b g = (a g).bind fun x => if x.1 = true then b x.2 else .ok (false, x.2) := (rfl)
@[simp] theorem x_bOr (a b : BF) (g : Gm) : bOr a b g = (a g).bind fun x => if x.1 = true then .ok (true, x.2) else b x.2 := (rfl)
@[simp] theorem x_bNot (a : BF) (g : Gm) : bNot a g = (a g).bind fun x => .ok (!x.1, x.2) := (rfl)
@[simp] theorem x_cYes (g : Gm) : cYes g = .ok (true, g) := (rfl)
@[simp] theorem x_tN (i : Nat) (v : PV) (g : Gm) : tN i v g = setV g i (.val v) := (rfl)
@[simp] theorem x_tsNil (g : Gm) : tsNil [] g = .ok g := (rfl)
@[simp] theorem x_tsCons (a : TF) (l : TFs) (v : PV) (vs : List PV) (g : Gm) : tsCons a l (v :: vs) g = (a v g).bind fun g => l vs g := (rfl)
@[simp] theorem x_tUn (n : Nat) (l : TFs) (v : PV) (g : Gm) : tUn n l v g = match items v with
  | some vs => if vs.length = n then l vs g else .stuck
  | none => .stuck := (rfl)
@[simp] theorem setV_0j (s : Slot) (g : Gm) : setV (.junk :: g) 0 s = .ok (s :: g) := (rfl)
@[simp] theorem setV_0v (v : PV) (s : Slot) (g : Gm) : setV (.val v :: g) 0 s = .ok (s :: g) := (rfl)
@[simp] theorem setV_0o (v : PV) (s : Slot) (g : Gm) : setV (.own v :: g) 0 s = .ok (s :: g) := (rfl)
@[simp] theorem setV_s (t : Slot) (g : Gm) (n : Nat) (s : Slot) : setV (t :: g) (n + 1) s = (setV g n s).bind fun g => .ok (t :: g) := by
  unfold setV
  rw [List.getElem?_cons_succ]
  cases h : g[n]? with
  | none => rfl
  | some u => cases u <;> rfl
@[simp] theorem x_sNil (g : Gm) : sNil g = .ok (.nx g) := (rfl)
@[simp] theorem x_sSeq (a b : SF) (g : Gm) : sSeq a b g = match a g with
  | .ok (.nx g) => b g
  | r => r := (rfl)
@[simp] theorem x_sRet (f : EF) (g : Gm) : sRet f g = (f g).bind fun x => .ok (.rt x.1 x.2) := (rfl)
@[simp] theorem x_sRetN (g : Gm) : sRetN g = .ok (.rt .non g) := (rfl)
@[simp] theorem x_sRetNew (f : EF) (g : Gm) : sRetNew f g = (f g).bind fun x => .ok (.rn x.1 x.2) := (rfl)
@[simp] theorem x_sRetO (i : Nat) (g : Gm) : sRetO i g = match g[i]? with
  | some (.own v) => .ok (.rn v (g.set i .junk))
  | _ => .stuck := (rfl)
@[simp] theorem x_sIf (c : BF) (a b : SF) (g : Gm) : sIf c a b g = (c g).bind fun x => if x.1 = true then a x.2 else b x.2 := (rfl)
@[simp] theorem x_sExpr (f : EF) (g : Gm) : sExpr f g = (f g).bind fun x => .ok (.nx x.2) := (rfl)
@[simp] theorem x_sSet (t : TF) (f : EF) (g : Gm) : sSet t f g = (f g).bind fun x => (t x.1 x.2).go fun g => .ok (.nx g) := (rfl)
@[simp] theorem x_sNew (i : Nat) (f : EF) (g : Gm) : sNew i f g = (f g).bind fun x => (setV x.2 i (.own x.1)).go sNil := (rfl)
@[simp] theorem x_sFrz (i : Nat) (g : Gm) : sFrz i g = match g[i]? with
  | some (.own v) => (R.of (seenM v)).bind fun w => .ok (.nx (g.set i (.val w)))
  | _ => .stuck := (rfl)
@[simp] theorem x_sUnO (i n : Nat) (fl : TFs) (g : Gm) : sUnO i n fl g = (R.of (atL g i)).bind fun vs => if vs.length = n then (fl vs g).go sNil else .stuck := (rfl)
@[simp] theorem x_sSetI (i : Nat) (f fi : EF) (g : Gm) : sSetI i f fi g = (f g).bind fun x => (R.of (atL x.2 i)).bind fun _ => (fi x.2).bind fun y => (R.of (atL y.2 i)).bind fun vs => (R.of (asI y.1)).bind fun k => (R.of (ixN vs.length k)).bind fun j => .ok (.nx (setC y.2 i (.lst (vs.set j x.1)))) := (rfl)
@[simp] theorem x_sFor (i : IF) (t : TF) (b : SF) (g : Gm) : sFor i t b g = (i g).bind fun x => loopL t b x.1 x.2 := (rfl)
@[simp] theorem x_iSeq (f : EF) (g : Gm) : iSeq f g = (f g).bind fun x => (R.of (items x.1)).bind fun vs => .ok (vs, x.2) := (rfl)
@[simp] theorem x_iR1 (f : EF) (g : Gm) : iR1 f g = (f g).bind fun x => (R.of (asI x.1)).bind fun n => if n ≤ 1000000 ∧ -1000000 ≤ n then .ok (rng 0 n, x.2) else .stuck := (rfl)
@[simp] theorem x_iR2 (a b : EF) (g : Gm) : iR2 a b g = (a g).bind fun x => (b x.2).bind fun y => (R.of (asI x.1)).bind fun m => (R.of (asI y.1)).bind fun n => if n ≤ 1000000 ∧ -1000000 ≤ n ∧ m ≤ 1000000 ∧ -1000000 ≤ m then .ok (rng m n, y.2) else .stuck := (rfl)
@[simp] theorem x_iEn (f : EF) (g : Gm) : iEn f g = (f g).bind fun x => match x.1 with
  | .lst vs => .ok (enum 0 vs, x.2)
  | _ => .stuck := (rfl)
@[simp] theorem x_eMut (i : Nat) (f : List PV → List PV → Option (List PV × PV)) (l : AF) (g : Gm) : eMut i f l g = (R.of (atL g i)).bind fun _ => (l g).bind fun xs => (R.of (atL xs.2 i)).bind fun vs => (R.of (f vs xs.1)).bind fun z => .ok (z.2, setC xs.2 i (.lst z.1)) := (rfl)
@[simp] theorem x_eBoxApp (i k : Nat) (f : PF) (g : Gm) : eBoxApp i k f g = (R.of (atBox g i)).bind fun vs => (R.of ((vs[k]?).bind asL)).bind fun ys => ((f g).wit g).bind fun x => if ys.length < 1000000 then .ok (.non, setC g i (.box (vs.set k (.lst (ys ++ [x.1]))))) else .stuck := (rfl)
@[simp] theorem x_eLc (vs : List Nat) (i : IF) (t : TF) (c : BF) (e : EF) (g : Gm) : eLc vs i t c e g = (i g).bind fun x => if vs.all (fun v => plainS x.2[v]?) = true then clp vs x.2 t c e x.1 [] x.2 else .stuck := (rfl)
@[simp] theorem x_cgNil (g : Gm) : cgNil g = .ok ([], g) := (rfl)
@[simp] theorem x_cgVal (a : EF) (l : GF) (g : Gm) : cgVal a l g = (a g).bind fun x => (l x.2).bind fun xs => .ok (.av x.1 :: xs.1, xs.2) := (rfl)
@[simp] theorem x_cgSlot (i : Nat) (l : GF) (g : Gm) : cgSlot i l g = (R.of ((g[i]?).bind Slot.cont)).bind fun _ => (l g).bind fun xs => .ok (.as i :: xs.1, xs.2) := (rfl)
/-- behind a call -/
def FR.aft : FR → List Bool → List Arg → Gm → R (PV × Gm)
  | .ok r cs, mu, as, g => if cs.length = mu.length then .ok (r, put mu as cs g) else .stuck
  | .new r cs, mu, as, g => if cs.length = mu.length then (R.of (seenM r)).bind fun w => .ok (w, put mu as cs g) else .stuck
  | .err x cs, mu, as, g => if cs.length = mu.length then .err x (put mu as cs g) else .stuck
  | .stuck, _, _, _ => .stuck
def FR.aftN : FR → List Bool → List Arg → Gm → R (PV × Gm)
  | .new r cs, mu, as, g => if cs.length = mu.length then .ok (r, put mu as cs g) else .stuck
  | .err x cs, mu, as, g => if cs.length = mu.length then .err x (put mu as cs g) else .stuck
  | _, _, _, _ => .stuck
@[simp] theorem aft_ok (r : PV) (cs : List PV) (mu : List Bool) (as : List Arg) (g : Gm) : (FR.ok r cs).aft mu as g = if cs.length = mu.length then .ok (r, put mu as cs g) else .stuck := (rfl)
@[simp] theorem aft_new (r : PV) (cs : List PV) (mu : List Bool) (as : List Arg) (g : Gm) : (FR.new r cs).aft mu as g = if cs.length = mu.length then (R.of (seenM r)).bind fun w => .ok (w, put mu as cs g) else .stuck := (rfl)
@[simp] theorem aft_err (x : Exc) (cs : List PV) (mu : List Bool) (as : List Arg) (g : Gm) : (FR.err x cs).aft mu as g = if cs.length = mu.length then .err x (put mu as cs g) else .stuck := (rfl)
@[simp] theorem aftN_new (r : PV) (cs : List PV) (mu : List Bool) (as : List Arg) (g : Gm) : (FR.new r cs).aftN mu as g = if cs.length = mu.length then .ok (r, put mu as cs g) else .stuck := (rfl)
@[simp] theorem aftN_err (x : Exc) (cs : List PV) (mu : List Bool) (as : List Arg) (g : Gm) : (FR.err x cs).aftN mu as g = if cs.length = mu.length then .err x (put mu as cs g) else .stuck := (rfl)
@[simp] theorem x_eCall (mu : List Bool) (mir : MF) (l : GF) (g : Gm) : eCall mu mir l g = (l g).bind fun as => if (slotsOf as.1).Nodup then (R.of (fill mu as.1 as.2)).bind fun ps => (mir ps).aft mu as.1 as.2 else .stuck := by
  unfold eCall
  congr 1
  funext as
  by_cases h : (slotsOf as.1).Nodup
  · rw [if_pos h, if_pos h]
    cases hf : fill mu as.1 as.2 with
    | none => rfl
    | some ps =>
      rw [R.of_some, R.bind_ok, R.bind_ok]
      cases mir ps <;> rfl
  · rw [if_neg h, if_neg h]
@[simp] theorem x_eCallN (mu : List Bool) (mir : MF) (l : GF) (g : Gm) : eCallN mu mir l g = (l g).bind fun as => if (slotsOf as.1).Nodup then (R.of (fill mu as.1 as.2)).bind fun ps => (mir ps).aftN mu as.1 as.2 else .stuck := by
  unfold eCallN
  congr 1
  funext as
  by_cases h : (slotsOf as.1).Nodup
  · rw [if_pos h, if_pos h]
    cases hf : fill mu as.1 as.2 with
    | none => rfl
    | some ps =>
      rw [R.of_some, R.bind_ok, R.bind_ok]
      cases mir ps <;> rfl
  · rw [if_neg h, if_neg h]
/-- a def's body's end -/
def Out.fin (mu : List Bool) : R Out → FR
  | .ok (.nx g) => .ok .non (conts mu g)
  | .ok (.rt v g) => .ok v (conts mu g)
  | .ok (.rn v g) => .new v (conts mu g)
  | .err x g => .err x (conts mu g)
  | _ => .stuck
@[simp] theorem fin_nx (mu : List Bool) (g : Gm) : Out.fin mu (.ok (.nx g)) = .ok .non (conts mu g) := (rfl)
@[simp] theorem fin_rt (mu : List Bool) (v : PV) (g : Gm) : Out.fin mu (.ok (.rt v g)) = .ok v (conts mu g) := (rfl)
@[simp] theorem fin_rn (mu : List Bool) (v : PV) (g : Gm) : Out.fin mu (.ok (.rn v g)) = .new v (conts mu g) := (rfl)
@[simp] theorem fin_err (mu : List Bool) (x : Exc) (g : Gm) : Out.fin mu (.err x g) = .err x (conts mu g) := (rfl)
theorem mirOf_eq (mu : List Bool) (n : Nat) (body : SF) (ps : List PV) : mirOf mu n body ps = if ps.length = mu.length then Out.fin mu (body (slots mu ps ++ List.replicate n .junk)) else .stuck := by
  unfold mirOf
  by_cases h : ps.length = mu.length
  · rw [if_pos h, if_pos h]
    cases body (slots mu ps ++ List.replicate n Slot.junk) with
    | stuck => rfl
    | err x g => rfl
    | ok o => cases o <;> rfl
  · rw [if_neg h, if_neg h]
@[simp] theorem slots_t (mu : List Bool) (p : PV) (ps : List PV) : slots (true :: mu) (p :: ps) = .prm p :: slots mu ps := (rfl)
@[simp] theorem slots_f (mu : List Bool) (p : PV) (ps : List PV) : slots (false :: mu) (p :: ps) = .val p :: slots mu ps := (rfl)
@[simp] theorem slots_n : slots [] [] = [] := (rfl)
@[simp] theorem conts_n (g : Gm) : conts [] g = [] := by unfold conts; rfl
@[simp] theorem conts_t (mu : List Bool) (v : PV) (g : Gm) : conts (true :: mu) (.prm v :: g) = v :: conts mu g := (rfl)
@[simp] theorem conts_f (mu : List Bool) (s : Slot) (g : Gm) : conts (false :: mu) (s :: g) = .non :: conts mu g := by cases s <;> rfl
-- values
@[simp] theorem i_lst (ps : List PV) : L3.items (.lst ps) = some ps := (rfl)
@[simp] theorem i_tup (ps : List PV) : L3.items (.tup ps) = some ps := (rfl)
@[simp] theorem i_ktup (ps : List PV) : L3.items (.ktup ps) = some ps := (rfl)
@[simp] theorem i_scr (ns : List Int) : L3.items (.scr ns) = some (ns.map PV.int) := (rfl)
theorem ixN_nat {n k : Nat} (h : k < n) : ixN n (k : Int) = some k := by
  unfold ixN; rw [if_pos (Int.natCast_nonneg k), if_pos (by omega)]; rfl
theorem ix_lN (ps : List PV) (k : Nat) (h : k < ps.length) : vIx (.lst ps) (.int (k : Int)) = some ps[k] := by
  simp [vIx, L3.items, atI, ixN_nat h]
theorem ix_tN (ps : List PV) (k : Nat) (h : k < ps.length) : vIx (.tup ps) (.int (k : Int)) = some ps[k] := by
  simp [vIx, L3.items, atI, ixN_nat h]
theorem ix_sN (ns : List Int) (k : Nat) (h : k < ns.length) : vIx (.scr ns) (.int (k : Int)) = some (.int ns[k]) := by
  simp [vIx, L3.items, atI, ixN_nat h, h]
@[simp] theorem ix_t0 (p : PV) (ps : List PV) : vIx (.tup (p :: ps)) (.int 0) = some p := ix_tN (p :: ps) 0 (by simp)
@[simp] theorem ix_t1 (p q : PV) (ps : List PV) : vIx (.tup (p :: q :: ps)) (.int 1) = some q := ix_tN (p :: q :: ps) 1 (by simp)
@[simp] theorem ix_t2 (p q r : PV) (ps : List PV) : vIx (.tup (p :: q :: r :: ps)) (.int 2) = some r := ix_tN (p :: q :: r :: ps) 2 (by simp)
@[simp] theorem ix_l0 (p : PV) (ps : List PV) : vIx (.lst (p :: ps)) (.int 0) = some p := ix_lN (p :: ps) 0 (by simp)
@[simp] theorem ix_l1 (p q : PV) (ps : List PV) : vIx (.lst (p :: q :: ps)) (.int 1) = some q := ix_lN (p :: q :: ps) 1 (by simp)
@[simp] theorem eq_int (i j : Int) : vEq (.int i) (.int j) = some (.bl (decide (i = j))) := by
  simp [vEq, isC, isD, dep, toD, PyData.eqv]; rfl
@[simp] theorem ne_int (i j : Int) : vNe (.int i) (.int j) = some (.bl (!decide (i = j))) := by
  simp [vNe, isC, isD, dep, toD, PyData.eqv]; rfl
@[simp] theorem eq_bl (i j : Bool) : vEq (.bl i) (.bl j) = some (.bl (i == j)) := by
  simp [vEq, isC, isD, dep, toD, PyData.eqv]
@[simp] theorem ne_bl (i j : Bool) : vNe (.bl i) (.bl j) = some (.bl (!(i == j))) := by
  simp [vNe, isC, isD, dep, toD, PyData.eqv]
theorem eq_str {x y : Str} (hx : PyData.strOk x = true) (hy : PyData.strOk y = true) : vEq (.str x) (.str y) = some (.bl (x == y)) := by
  simp [vEq, isC, isD, dep, toD, PyData.eqv, hx, hy]
@[simp] theorem len_lst (ps : List PV) : vLen (.lst ps) = some (.int ps.length) := (rfl)
@[simp] theorem len_tup (ps : List PV) : vLen (.tup ps) = some (.int ps.length) := (rfl)
@[simp] theorem len_scr (ns : List Int) : vLen (.scr ns) = some (.int ns.length) := by simp [vLen, L3.items]
@[simp] theorem seenM_lst (ps : List PV) : seenM (.lst ps) = some (.lst ps) := (rfl)
@[simp] theorem seenM_box (ps : List PV) : seenM (.box ps) = some (.tup ps) := (rfl)
@[simp] theorem seen_lst (ps : List PV) : seen (.lst ps) = some (.lst ps) := (rfl)
@[simp] theorem cont_own (v : PV) : Slot.cont (.own v) = some v := (rfl)
@[simp] theorem cont_prm (v : PV) : Slot.cont (.prm v) = some v := (rfl)
@[simp] theorem cont_val (v : PV) : Slot.cont (.val v) = none := (rfl)
@[simp] theorem asL_lst (vs : List PV) : asL (.lst vs) = some vs := (rfl)
@[simp] theorem asBox_box (vs : List PV) : asBox (.box vs) = some vs := (rfl)
@[simp] theorem atL_0o (vs : List PV) (g : Gm) : atL (.own (.lst vs) :: g) 0 = some vs := (rfl)
@[simp] theorem atL_0p (vs : List PV) (g : Gm) : atL (.prm (.lst vs) :: g) 0 = some vs := (rfl)
@[simp] theorem atL_s (s : Slot) (g : Gm) (n : Nat) : atL (s :: g) (n + 1) = atL g n := by unfold atL; rw [List.getElem?_cons_succ]
@[simp] theorem setC_0o (v c : PV) (g : Gm) : setC (.own v :: g) 0 c = .own c :: g := (rfl)
@[simp] theorem setC_0p (v c : PV) (g : Gm) : setC (.prm v :: g) 0 c = .prm c :: g := (rfl)
@[simp] theorem setC_s (s : Slot) (g : Gm) (n : Nat) (c : PV) : setC (s :: g) (n + 1) c = s :: setC g n c := by
  unfold setC
  rw [List.getElem?_cons_succ]
  cases h : g[n]? with
  | none => rfl
  | some u => cases u <;> rfl
end L3

namespace L3
open PySem PySem.Spec PyProof.Rows L2
@[simp] theorem e_vSubI (i j : Int) : vSubI i j = some (.int (i - j)) := (rfl)
@[simp] theorem e_vAndI (i j : Int) : vAndI i j = some (.int (Builtin.bitAnd i j)) := (rfl)
@[simp] theorem e_vOrI (i j : Int) : vOrI i j = some (.int (Builtin.bitOr i j)) := (rfl)
@[simp] theorem e_vLtI (i j : Int) : vLtI i j = some (.bl (decide (i < j))) := (rfl)
@[simp] theorem e_vLeI (i j : Int) : vLeI i j = some (.bl (decide (i ≤ j))) := (rfl)
@[simp] theorem e_vGtI (i j : Int) : vGtI i j = some (.bl (decide (j < i))) := (rfl)
@[simp] theorem e_vGeI (i j : Int) : vGeI i j = some (.bl (decide (j ≤ i))) := (rfl)
/-! ### loops, by invariants -/
def np : Slot → Bool
  | .prm _ => false
  | _ => true
@[simp] theorem np_v (v : PV) : np (.val v) = true := (rfl)
@[simp] theorem np_o (v : PV) : np (.own v) = true := (rfl)
@[simp] theorem np_j : np .junk = true := (rfl)
theorem setV_np {t : Slot} (h : np t = true) (s : Slot) (g : Gm) : setV (t :: g) 0 s = .ok (s :: g) := by
  cases t <;> first | rfl | cases h
theorem loopL_inv {t : TF} {b : SF} (I : Nat → Gm → Prop) : ∀ {vs : List PV} {g : Gm} (k : Nat), I k g → (∀ i v g, vs[i]? = some v → I (k + i) g → ∃ g1, t v g = .ok g1 ∧ ∃ g2, (b g1 = .ok (.nx g2) ∨ b g1 = .ok (.ct g2)) ∧ I (k + i + 1) g2) →
    ∃ g', loopL t b vs g = .ok (.nx g') ∧ I (k + vs.length) g'
  | [], g, k, h0, _ => ⟨g, rfl, h0⟩
  | v :: vs, g, k, h0, h => by
    obtain ⟨g1, e1, g2, e2, h2⟩ := h 0 v g rfl h0
    obtain ⟨g', e3, h3⟩ := loopL_inv I (vs := vs) (g := g2) (k + 1) h2 (fun i w g hi hI => by
      have := h (i + 1) w g (by simpa using hi) (by rw [show k + (i + 1) = k + 1 + i by omega]; exact hI)
      rw [show k + (i + 1) + 1 = k + 1 + i + 1 by omega] at this
      exact this)
    refine ⟨g', ?_, by rw [List.length_cons, show k + (vs.length + 1) = k + 1 + vs.length by omega]; exact h3⟩
    unfold loopL
    rw [e1, R.go_ok]
    rcases e2 with e2 | e2 <;> rw [e2] <;> exact e3
theorem whl_inv {c : BF} {b : SF} (I : Gm → Prop) (M : Gm → Nat) (Q : Gm → Prop) (h : ∀ g, I g → (∃ g1, c g = .ok (false, g1) ∧ Q g1) ∨ ∃ g1, c g = .ok (true, g1) ∧ ∃ g2, b g1 = .ok (.nx g2) ∧ I g2 ∧ M g2 < M g) :
    ∀ (n : Nat) {g : Gm}, I g → M g < n → ∃ g', whl c b n g = .ok (.nx g') ∧ Q g'
  | 0, g, _, hm => by omega
  | n + 1, g, hI, hm => by
    rcases h g hI with ⟨g1, e1, q⟩ | ⟨g1, e1, g2, e2, h2, h3⟩
    · exact ⟨g1, by unfold whl; rw [e1]; rfl, q⟩
    · obtain ⟨g', e3, q⟩ := whl_inv I M Q h n h2 (by omega)
      refine ⟨g', ?_, q⟩
      unfold whl
      rw [e1, R.bind_ok, if_pos rfl]
      dsimp only
      rw [e2]
      exact e3
theorem whl_ix {c : BF} {b : SF} (I : Nat → Gm → Prop) (Q : Gm → Prop) (h : ∀ m g, I m g → (∃ g1, c g = .ok (false, g1) ∧ Q g1) ∨ ∃ g1, c g = .ok (true, g1) ∧ ∃ g2, b g1 = .ok (.nx g2) ∧ ∃ m', m' < m ∧ I m' g2) :
    ∀ (n m : Nat) {g : Gm}, I m g → m < n → ∃ g', whl c b n g = .ok (.nx g') ∧ Q g'
  | 0, m, g, _, hm => by omega
  | n + 1, m, g, hI, hm => by
    rcases h m g hI with ⟨g1, e1, q⟩ | ⟨g1, e1, g2, e2, m', h2, h3⟩
    · exact ⟨g1, by unfold whl; rw [e1]; rfl, q⟩
    · obtain ⟨g', e3, q⟩ := whl_ix I Q h n m' h3 (by omega)
      refine ⟨g', ?_, q⟩
      unfold whl
      rw [e1, R.bind_ok, if_pos rfl]
      dsimp only
      rw [e2]
      exact e3
theorem shl_one (k : Nat) (h : k ≤ 1000) : vShlI 1 (k : Int) = some (.int (2 ^ k)) := by
  unfold vShlI powOk
  rw [if_pos (by simp; omega)]
  simp
theorem setV_set {g : Gm} {j : Nat} {s : Slot} (h : j < g.length) : setV (g.set j .junk) j s = .ok (g.set j s) := by
  unfold setV
  rw [List.getElem?_set_self h]
  simp [List.set_set]
/-- [e for x in xs if c] with one name, its parts leave the slots -/
theorem clp_one {j : Nat} {g0 : Gm} {c : BF} {e : EF} {f : PV → PV} {p : PV → Bool} (hj : j < g0.length) : ∀ {xs acc : List PV} {s : Slot}, acc.length + xs.length < 1000000 →
    (∀ v ∈ xs, c (g0.set j (.val v)) = .ok (p v, g0.set j (.val v))) → (∀ v ∈ xs, p v = true → e (g0.set j (.val v)) = .ok (f v, g0.set j (.val v))) →
    clp [j] g0 (tN j) c e xs acc (g0.set j s) = .ok (.lst (acc ++ (xs.filter p).map f), g0)
  | [], acc, s, _, _, _ => by
    unfold clp
    simp only [gr, List.set_set, List.filter_nil, List.map_nil, List.append_nil]
    congr
    rw [List.getElem?_eq_getElem hj]
    exact List.set_getElem_self hj
  | v :: xs, acc, s, hl, hc, he => by
    unfold clp
    rw [List.length_cons] at hl
    have e1 : tN j v (gw [j] (g0.set j s)) = .ok (g0.set j (.val v)) := by
      show setV _ _ _ = _
      simp only [gw, List.set_set]
      exact setV_set hj
    rw [e1]
    dsimp only
    rw [hc v List.mem_cons_self]
    cases hp : p v with
    | false =>
      dsimp only
      rw [clp_one hj (by omega) (fun w hw => hc w (List.mem_cons_of_mem _ hw)) (fun w hw => he w (List.mem_cons_of_mem _ hw)), List.filter_cons, hp]
      rfl
    | true =>
      dsimp only
      rw [he v List.mem_cons_self hp]
      dsimp only
      rw [if_pos (by omega), clp_one hj (by rw [List.length_append, List.length_singleton]; omega) (fun w hw => hc w (List.mem_cons_of_mem _ hw)) (fun w hw => he w (List.mem_cons_of_mem _ hw)), List.filter_cons, hp]
      simp
theorem clp_all {j : Nat} {g0 : Gm} {e : EF} {f : PV → PV} (hj : j < g0.length) {xs : List PV} (hl : xs.length < 1000000) (he : ∀ v ∈ xs, e (g0.set j (.val v)) = .ok (f v, g0.set j (.val v))) : clp [j] g0 (tN j) cYes e xs [] g0 = .ok (.lst (xs.map f), g0) := by
  have e0 : g0 = g0.set j (g0[j]'hj) := (List.set_getElem_self hj).symm
  have h := clp_one (p := fun _ => true) (c := cYes) (f := f) (s := g0[j]'hj) (acc := []) hj (by simpa using hl) (fun v _ => rfl) (fun v hv _ => he v hv)
  rw [← e0] at h
  rw [h, List.nil_append, List.filter_eq_self.mpr fun _ _ => rfl]
/-! ### lists of numbers -/
theorem isDs_ints : ∀ ns : List Int, isDs (ns.map PV.int) = true
  | [] => rfl
  | n :: ns => by simp [isDs, isD, isDs_ints ns]
theorem deps_ints : ∀ ns : List Int, deps (ns.map PV.int) = 0
  | [] => rfl
  | n :: ns => by simp [deps, dep, deps_ints ns]
theorem eqvAll_ints : ∀ xs ys : List Int, PyData.eqvAll (toDs (xs.map PV.int)) (toDs (ys.map PV.int)) = decide (xs = ys)
  | [], [] => rfl
  | [], _ :: _ => rfl
  | _ :: _, [] => rfl
  | x :: xs, y :: ys => by
    have ih := eqvAll_ints xs ys
    simp only [List.map_cons, toDs, toD, PyData.eqvAll, PyData.eqv, ih]
    by_cases h : x = y <;> by_cases h2 : xs = ys <;> simp [h, h2]
theorem isC_ints (ns : List Int) : isC (.lst (ns.map PV.int)) = true := by simp [isC, isD, dep, isDs_ints, deps_ints]
theorem eq_ints (xs ys : List Int) : vEq (.lst (xs.map PV.int)) (.lst (ys.map PV.int)) = some (.bl (decide (xs = ys))) := by
  unfold vEq
  rw [if_pos ⟨isC_ints xs, isC_ints ys⟩]
  simp only [toD, PyData.eqv, eqvAll_ints]
theorem ne_ints (xs ys : List Int) : vNe (.lst (xs.map PV.int)) (.lst (ys.map PV.int)) = some (.bl (!decide (xs = ys))) := by
  unfold vNe
  rw [if_pos ⟨isC_ints xs, isC_ints ys⟩]
  simp only [toD, PyData.eqv, eqvAll_ints]
theorem cut_to {α : Type} (xs : List α) (k : Nat) : cut xs none (some (k : Int)) = xs.take k := by
  unfold cut
  rw [HT.sIx_nat, HT.sIx_none]
  simp
theorem cut_from {α : Type} (xs : List α) (k : Nat) : cut xs (some (k : Int)) none = xs.drop k := by
  unfold cut
  rw [HT.sIx_nat, HT.sIx_none]
  by_cases h : k ≤ xs.length
  · rw [Nat.min_eq_left h, List.take_of_length_le (by simp)]
  · rw [Nat.min_eq_right (by omega), List.drop_of_length_le (by omega), List.drop_of_length_le (by omega)]
    simp
theorem cut_from1 {α : Type} (xs : List α) (k : Nat) : cut xs (some ((k : Int) + 1)) none = xs.drop (k + 1) := cut_from xs (k + 1)
theorem vAdd_lst {xs ys : List PV} (h : xs.length + ys.length ≤ 100000) : vAdd (.lst xs) (.lst ys) = some (.lst (xs ++ ys)) := if_pos h
theorem vAdd_tup {xs ys : List PV} (h : xs.length + ys.length ≤ 100000) : vAdd (.tup xs) (.tup ys) = some (.tup (xs ++ ys)) := if_pos h
theorem vCat_lst {xs ys : List PV} (h : xs.length + ys.length ≤ 100000) : vCat (.lst xs) (.lst ys) = some (.lst (xs ++ ys)) := if_pos h
@[simp] theorem flas_ints : ∀ ns : List Int, flas (ns.map PV.int) = true
  | [] => rfl
  | n :: ns => by simp [flas, fla, flas_ints ns]
@[simp] theorem flas_app : ∀ xs ys : List PV, flas (xs ++ ys) = (flas xs && flas ys)
  | [], ys => by simp [flas]
  | x :: xs, ys => by simp [flas, flas_app xs ys, Bool.and_assoc]
@[simp] theorem flas_nil : flas [] = true := (rfl)
@[simp] theorem flas_cons (x : PV) (xs : List PV) : flas (x :: xs) = (fla x && flas xs) := by simp [flas]
@[simp] theorem fla_int (i : Int) : fla (.int i) = true := (rfl)
@[simp] theorem fla_bl (i : Bool) : fla (.bl i) = true := (rfl)
@[simp] theorem fla_str (i : Str) : fla (.str i) = true := (rfl)
@[simp] theorem fla_non : fla .non = true := (rfl)
@[simp] theorem fla_scr (ns : List Int) : fla (.scr ns) = true := (rfl)
@[simp] theorem fla_tup (xs : List PV) : fla (.tup xs) = flas xs := by simp [fla]
theorem flas_take (k : Nat) (ns : List Int) : flas (List.take k (ns.map PV.int)) = true := by rw [← List.map_take]; exact flas_ints _
theorem flas_drop (k : Nat) (ns : List Int) : flas (List.drop k (ns.map PV.int)) = true := by rw [← List.map_drop]; exact flas_ints _
@[simp] theorem sca_int (i : Int) : isSca (.int i) = true := (rfl)
@[simp] theorem isL_lst (xs : List PV) : isL (.lst xs) = true := (rfl)
@[simp] theorem vSl_lst (xs : List PV) (lo hi : Option Int) : vSl (.lst xs) lo hi = some (.lst (cut xs lo hi)) := (rfl)
@[simp] theorem vSl_tup (xs : List PV) (lo hi : Option Int) : vSl (.tup xs) lo hi = some (.tup (cut xs lo hi)) := (rfl)
@[simp] theorem hide_n : hide [] = [] := (rfl)
@[simp] theorem hide_v (v : PV) (g : Gm) : hide (.val v :: g) = .val v :: hide g := (rfl)
@[simp] theorem hide_o (v : PV) (g : Gm) : hide (.own v :: g) = .junk :: hide g := (rfl)
@[simp] theorem hide_p (v : PV) (g : Gm) : hide (.prm v :: g) = .junk :: hide g := (rfl)
@[simp] theorem hide_j (g : Gm) : hide (.junk :: g) = .junk :: hide g := (rfl)
theorem vAll_map (xs : List PV) : vAll (.lst (xs.map fun _ => PV.bl true)) = some (.bl true) := by
  have e : (xs.map fun _ => PV.bl true) = (xs.map fun _ => true).map PV.bl := by simp
  unfold vAll
  dsimp only
  rw [e, asBls_map]
  simp
@[simp] theorem atBox_0o (vs : List PV) (g : Gm) : atBox (.own (.box vs) :: g) 0 = some vs := (rfl)
@[simp] theorem atBox_s (s : Slot) (g : Gm) (n : Nat) : atBox (s :: g) (n + 1) = atBox g n := by unfold atBox; rw [List.getElem?_cons_succ]
@[simp] theorem vList_lst (ps : List PV) : vList (.lst ps) = some (.lst ps) := (rfl)
@[simp] theorem vList_tup (ps : List PV) : vList (.tup ps) = some (.lst ps) := (rfl)
@[simp] theorem isi_bl (b : Bool) : vIsInst (.bl b) (.ty "bool") = some (.bl true) := by simp [vIsInst, tyN, vIsT]
@[simp] theorem isi_tup (ps : List PV) : vIsInst (.tup ps) (.ty "tuple") = some (.bl true) := by simp [vIsInst, tyN, vIsT]
@[simp] theorem isi_lst (ps : List PV) : vIsInst (.lst ps) (.ty "list") = some (.bl true) := by simp [vIsInst, tyN, vIsT]
@[simp] theorem isi_int (i : Int) : vIsInst (.int i) (.ty "int") = some (.bl true) := by simp [vIsInst, tyN, vIsT]
@[simp] theorem isi_intb (i : Int) : vIsInst (.int i) (.ty "bool") = some (.bl false) := by simp [vIsInst, tyN, vIsT]
theorem mulI_L {i : Int} (j : Int) (h1 : -18446744073709551616 < i) (h2 : i < 18446744073709551616) : vMulI i j = some (.int (i * j)) := if_pos (by simp [mulOk, h1, h2])
theorem mulI_R (i : Int) {j : Int} (h1 : -18446744073709551616 < j) (h2 : j < 18446744073709551616) : vMulI i j = some (.int (i * j)) := if_pos (by simp [mulOk, h1, h2])
theorem modI_P (i : Int) {j : Int} (h : 0 < j) : vModI i j = some (.int (i % j)) := if_pos h
theorem fdivI_P (i : Int) {j : Int} (h : 0 < j) (h2 : j < 1073741824) : vFdivI i j = some (.int (i / j)) := if_pos ⟨h, h2⟩
/-! ### the rules' words -/
def wd (s : Bool) : Str := if s = true then "settle" else "deal"
@[simp] theorem eq_wd (s : Bool) : vEq (.str (wd s)) (.str "settle") = some (.bl s) := by
  have h1 : PyData.strOk (wd s) = true := by cases s <;> decide +kernel
  have h2 : PyData.strOk "settle" = true := by decide +kernel
  have h3 : (wd s == ("settle" : Str)) = s := by cases s <;> decide +kernel
  rw [eq_str h1 h2, h3]
def rl (s : Bool) (l r : Int) : PV := .tup [.str (wd s), .int l, .int r]
@[simp] theorem i_rl (s : Bool) (l r : Int) : L3.items (rl s l r) = some [.str (wd s), .int l, .int r] := (rfl)
@[simp] theorem ix_rl0 (s : Bool) (l r : Int) : vIx (rl s l r) (.int 0) = some (.str (wd s)) := ix_t0 _ _
@[simp] theorem ix_rl1 (s : Bool) (l r : Int) : vIx (rl s l r) (.int 1) = some (.int l) := ix_t1 _ _ _
@[simp] theorem ix_rl2 (s : Bool) (l r : Int) : vIx (rl s l r) (.int 2) = some (.int r) := ix_t2 _ _ _ _
end L3

namespace L3
open PySem PySem.Spec PyProof.Rows L2
/-! ### whole numbers as sets of columns -/
def tb (x : Int) (i : Nat) : Bool := if 0 ≤ x then x.toNat.testBit i else !((-x - 1).toNat.testBit i)
theorem tb_nn {x : Int} (h : 0 ≤ x) (i : Nat) : tb x i = x.toNat.testBit i := if_pos h
theorem tb_ng {x : Int} (h : ¬ 0 ≤ x) (i : Nat) : tb x i = !((-x - 1).toNat.testBit i) := if_neg h
theorem tb_nat (n i : Nat) : tb (n : Int) i = n.testBit i := by rw [tb_nn (Int.natCast_nonneg n)]; rfl
theorem tb_ext {x y : Int} (h : ∀ i, tb x i = tb y i) : x = y := by
  by_cases hx : 0 ≤ x <;> by_cases hy : 0 ≤ y
  · have : x.toNat = y.toNat := Nat.eq_of_testBit_eq fun i => by rw [← tb_nn hx, ← tb_nn hy]; exact h i
    omega
  · have h1 := h (x.toNat + (-y - 1).toNat)
    rw [tb_nn hx, tb_ng hy, Nat.testBit_lt_two_pow, Nat.testBit_lt_two_pow] at h1
    · cases h1
    · exact Nat.lt_of_lt_of_le (Nat.lt_two_pow_self (n := (-y-1).toNat)) (Nat.pow_le_pow_right (by omega) (by omega))
    · exact Nat.lt_of_lt_of_le (Nat.lt_two_pow_self (n := x.toNat)) (Nat.pow_le_pow_right (by omega) (by omega))
  · have h1 := h (y.toNat + (-x - 1).toNat)
    rw [tb_ng hx, tb_nn hy, Nat.testBit_lt_two_pow, Nat.testBit_lt_two_pow] at h1
    · cases h1
    · exact Nat.lt_of_lt_of_le (Nat.lt_two_pow_self (n := y.toNat)) (Nat.pow_le_pow_right (by omega) (by omega))
    · exact Nat.lt_of_lt_of_le (Nat.lt_two_pow_self (n := (-x-1).toNat)) (Nat.pow_le_pow_right (by omega) (by omega))
  · have : (-x - 1).toNat = (-y - 1).toNat := Nat.eq_of_testBit_eq fun i => by
      have := h i
      rw [tb_ng hx, tb_ng hy] at this
      simpa using this
    omega
theorem nat_sub_and : ∀ (i a b : Nat), (a - (a &&& b)).testBit i = (a.testBit i && !b.testBit i)
  | 0, a, b => by
    rw [Nat.testBit_zero, Nat.testBit_zero, Nat.testBit_zero]
    have h1 : (a &&& b) % 2 = (a % 2) &&& (b % 2) := by
      have := Nat.and_mod_two_pow (a := a) (b := b) (n := 1)
      simpa using this
    have h2 : a &&& b ≤ a := Nat.and_le_left
    have ha : a % 2 = 0 ∨ a % 2 = 1 := by omega
    have hb : b % 2 = 0 ∨ b % 2 = 1 := by omega
    have h3 : (a &&& b) % 2 ≤ a % 2 := by rw [h1]; exact Nat.and_le_left
    have e : (a - (a &&& b)) % 2 = a % 2 - (a &&& b) % 2 := by omega
    rw [e, h1]
    rcases ha with ha | ha <;> rcases hb with hb | hb <;> rw [ha, hb] <;> rfl
  | i + 1, a, b => by
    rw [Nat.testBit_succ, Nat.testBit_succ, Nat.testBit_succ, ← nat_sub_and i (a / 2) (b / 2)]
    congr 1
    have h0 : (a &&& b) / 2 = a / 2 &&& b / 2 := Nat.and_div_two
    have h1 : (a &&& b) % 2 = (a % 2) &&& (b % 2) := by
      have := Nat.and_mod_two_pow (a := a) (b := b) (n := 1)
      simpa using this
    have h3 : (a &&& b) % 2 ≤ a % 2 := by rw [h1]; exact Nat.and_le_left
    have h2 : a &&& b ≤ a := Nat.and_le_left
    omega
theorem tb_not (x : Int) (i : Nat) : tb (Builtin.bitNot x) i = !tb x i := by
  unfold Builtin.bitNot
  by_cases h : 0 ≤ x
  · rw [tb_nn h, tb_ng (by omega)]
    congr 2
    omega
  · rw [tb_ng h, tb_nn (by omega)]
    simp
theorem tb_and (x y : Int) (i : Nat) : tb (Builtin.bitAnd x y) i = (tb x i && tb y i) := by
  by_cases hx : 0 ≤ x <;> by_cases hy : 0 ≤ y
  · rw [bitAnd_pp hx hy, tb_nat, Nat.testBit_and, tb_nn hx, tb_nn hy]
  · rw [bitAnd_pn hx hy, tb_nn hx, tb_ng hy]
    have e : x - ((x.toNat &&& (Builtin.bitNot y).toNat : Nat) : Int) = ((x.toNat - (x.toNat &&& (Builtin.bitNot y).toNat) : Nat) : Int) := by
      have : x.toNat &&& (Builtin.bitNot y).toNat ≤ x.toNat := Nat.and_le_left
      omega
    rw [e, tb_nat, nat_sub_and]
    rfl
  · rw [bitAnd_np hx hy, tb_ng hx, tb_nn hy]
    have e : y - ((y.toNat &&& (Builtin.bitNot x).toNat : Nat) : Int) = ((y.toNat - (y.toNat &&& (Builtin.bitNot x).toNat) : Nat) : Int) := by
      have : y.toNat &&& (Builtin.bitNot x).toNat ≤ y.toNat := Nat.and_le_left
      omega
    rw [e, tb_nat, nat_sub_and, Bool.and_comm]
    rfl
  · rw [bitAnd_nn hx hy, tb_not, tb_nat, Nat.testBit_or, tb_ng hx, tb_ng hy, Bool.not_or]
    rfl
theorem tb_or (x y : Int) (i : Nat) : tb (Builtin.bitOr x y) i = (tb x i || tb y i) := by
  unfold Builtin.bitOr
  rw [tb_not, tb_and, tb_not, tb_not]
  cases tb x i <;> cases tb y i <;> rfl
theorem tb_zero (i : Nat) : tb 0 i = false := by rw [tb_nn (by omega)]; simp
theorem sub_and (x y : Int) : x - Builtin.bitAnd x y = Builtin.bitAnd x (Builtin.bitNot y) := (bitAnd_not x y).symm
theorem tb_sub_and (x y : Int) (i : Nat) : tb (x - Builtin.bitAnd x y) i = (tb x i && !tb y i) := by rw [sub_and, tb_and, tb_not]
theorem and_eq0 {x y : Int} : Builtin.bitAnd x y = 0 ↔ ∀ i, (tb x i && tb y i) = false :=
  ⟨fun h i => by rw [← tb_and, h, tb_zero], fun h => tb_ext fun i => by rw [tb_and, h i, tb_zero]⟩
/-- apart -/
theorem add_or {x y : Int} (h : Builtin.bitAnd x y = 0) : x + y = Builtin.bitOr x y := by rw [bitOr_and, h]; omega
theorem and_nn {x y : Int} (h : 0 ≤ x) : 0 ≤ Builtin.bitAnd x y := by
  by_cases hy : 0 ≤ y
  · rw [bitAnd_pp h hy]; exact Int.natCast_nonneg _
  · rw [bitAnd_pn h hy]
    have : x.toNat &&& (Builtin.bitNot y).toNat ≤ x.toNat := Nat.and_le_left
    omega
theorem and_le {x y : Int} (h : 0 ≤ x) : Builtin.bitAnd x y ≤ x := by
  by_cases hy : 0 ≤ y
  · rw [bitAnd_pp h hy]
    have : x.toNat &&& y.toNat ≤ x.toNat := Nat.and_le_left
    omega
  · rw [bitAnd_pn h hy]; omega
theorem ap_comm {x y : Int} (h : Builtin.bitAnd x y = 0) : Builtin.bitAnd y x = 0 := by rw [bitAnd_comm]; exact h
theorem ap_and {a r : Int} (x : Int) (h : Builtin.bitAnd a r = 0) : Builtin.bitAnd a (Builtin.bitAnd r x) = 0 := and_eq0.mpr fun i => by
  have := and_eq0.mp h i
  rw [tb_and]
  cases h1 : tb a i <;> cases h2 : tb r i <;> simp [h1, h2] at this ⊢
theorem ap_sub {a r : Int} (x : Int) (h : Builtin.bitAnd a r = 0) : Builtin.bitAnd a (r - Builtin.bitAnd r x) = 0 := by rw [sub_and]; exact ap_and _ h
theorem ap_self (r x : Int) : Builtin.bitAnd (r - Builtin.bitAnd r x) (Builtin.bitAnd r x) = 0 := and_eq0.mpr fun i => by
  rw [tb_sub_and, tb_and]
  cases tb r i <;> cases tb x i <;> rfl
theorem ap_or {x y z : Int} (h1 : Builtin.bitAnd x z = 0) (h2 : Builtin.bitAnd y z = 0) : Builtin.bitAnd (Builtin.bitOr x y) z = 0 := and_eq0.mpr fun i => by
  have a := and_eq0.mp h1 i
  have b := and_eq0.mp h2 i
  rw [tb_or]
  cases e1 : tb x i <;> cases e2 : tb y i <;> cases e3 : tb z i <;> simp [e1, e2, e3] at a b ⊢
theorem ap_zero (x : Int) : Builtin.bitAnd x 0 = 0 := bitAnd_zero x
theorem or_nn {x y : Int} (hx : 0 ≤ x) (hy : 0 ≤ y) : 0 ≤ Builtin.bitOr x y := by
  rw [bitOr_and]
  have := and_le (y := y) hx
  omega
end L3

/-! 48271 has the whole order modulo 2 ^ 31 - 1: its powers meet each number from 1 on -/
namespace Lcg
abbrev p : Nat := 2147483647
abbrev q : Nat := 2147483646
def pm : Nat → Nat → Nat → Nat
  | 0, _, _ => 1
  | f + 1, b, e => if e = 0 then 1 else if e % 2 = 1 then b * pm f (b * b % p) (e / 2) % p else pm f (b * b % p) (e / 2)
theorem pm_eq : ∀ (f b e : Nat), e < 2 ^ f → pm f b e % p = b ^ e % p
  | 0, b, e, h => by
    have : e = 0 := by simpa using h
    subst this; rfl
  | f + 1, b, e, h => by
    unfold pm
    by_cases h0 : e = 0
    · subst h0; rfl
    · rw [if_neg h0]
      have ih := pm_eq f (b * b % p) (e / 2) (by rw [Nat.pow_succ] at h; omega)
      have e2 : (b * b % p) ^ (e / 2) % p = b ^ (2 * (e / 2)) % p := by
        rw [← Nat.pow_mod, ← Nat.pow_two, ← Nat.pow_mul]
      rw [e2] at ih
      by_cases h1 : e % 2 = 1
      · rw [if_pos h1, Nat.mod_mod, Nat.mul_mod, ih]
        have : e = 2 * (e / 2) + 1 := by omega
        conv => rhs; rw [this, Nat.pow_succ, Nat.mul_comm, Nat.mul_mod]
      · rw [if_neg h1, ih]
        have : e = 2 * (e / 2) := by omega
        conv => rhs; rw [this]
abbrev g : Nat := 48271
theorem g_q : g ^ q % p = 1 := by rw [← pm_eq 31 g q (by decide)]; decide +kernel
theorem php : ∀ (n : Nat) (f : Nat → Nat), (∀ i, i < n → f i < n) → (∀ i j, i < n → j < n → f i = f j → i = j) → ∀ y, y < n → ∃ i, i < n ∧ f i = y
  | 0, _, _, _, y, h => absurd h (Nat.not_lt_zero y)
  | n + 1, f, hf, hi, y, hy => by
    have han : f n < n + 1 := hf n (Nat.lt_succ_self n)
    have ih := php n (fun i => if f i = n then f n else f i) (fun i h => by
      by_cases e : f i = n
      · simp only [e, if_true]
        have : f n ≠ n := fun z => by have := hi i n (by omega) (by omega) (e.trans z.symm); omega
        omega
      · simp only [e, if_false]
        have := hf i (by omega)
        omega) (fun i j h1 h2 e => by
      by_cases e1 : f i = n <;> by_cases e2 : f j = n
      · exact hi i j (by omega) (by omega) (e1.trans e2.symm)
      · simp only [e1, e2, if_true, if_false] at e
        have := hi n j (by omega) (by omega) e
        omega
      · simp only [e1, e2, if_true, if_false] at e
        have := hi i n (by omega) (by omega) e
        omega
      · simp only [e1, e2, if_false] at e
        exact hi i j (by omega) (by omega) e)
    by_cases ha : y = f n
    · exact ⟨n, Nat.lt_succ_self n, ha.symm⟩
    · by_cases hn : y = n
      · obtain ⟨i, h1, h2⟩ := ih (f n) (by omega)
        by_cases e : f i = n
        · exact ⟨i, by omega, e.trans hn.symm⟩
        · simp only [e, if_false] at h2
          have := hi i n (by omega) (by omega) h2
          omega
      · obtain ⟨i, h1, h2⟩ := ih y (by omega)
        by_cases e : f i = n
        · simp only [e, if_true] at h2
          exact absurd h2.symm ha
        · simp only [e, if_false] at h2
          exact ⟨i, by omega, h2⟩
theorem one_mul_mod {a b : Nat} (h : a % p = 1) : a * b % p = b % p := by
  rw [Nat.mul_mod, h, Nat.one_mul, Nat.mod_mod]
theorem cancel {i j : Nat} (h : g ^ (i + j) % p = g ^ i % p) (hi : i ≤ q) : g ^ j % p = 1 := by
  have e1 : g ^ (q - i) * g ^ i % p = 1 := by rw [← Nat.pow_add, Nat.sub_add_cancel hi]; exact g_q
  have e2 : g ^ (q - i) * g ^ (i + j) % p = 1 := by rw [Nat.mul_mod, h, ← Nat.mul_mod]; exact e1
  rw [Nat.pow_add, ← Nat.mul_assoc, one_mul_mod e1] at e2
  exact e2
theorem pow_mod_one {j k : Nat} (h : g ^ j % p = 1) : g ^ (j * k) % p = 1 := by
  rw [Nat.pow_mul, Nat.pow_mod, h, Nat.one_pow]
  rfl
theorem sub_one {i j : Nat} (h1 : g ^ i % p = 1) (h2 : g ^ (i + j) % p = 1) : g ^ j % p = 1 := by
  rw [Nat.pow_add, one_mul_mod h1] at h2; exact h2
theorem gcd_one : ∀ (a b : Nat), g ^ a % p = 1 → g ^ b % p = 1 → g ^ (Nat.gcd a b) % p = 1 := by
  intro a
  induction a using Nat.strongRecOn with
  | _ a ih =>
    intro b ha hb
    by_cases h0 : a = 0
    · subst h0; rw [Nat.gcd_zero_left]; exact hb
    · rw [Nat.gcd_rec]
      refine ih (b % a) (Nat.mod_lt _ (by omega)) a ?_ ha
      have : b = a * (b / a) + b % a := (Nat.div_add_mod b a).symm
      rw [this] at hb
      exact sub_one (pow_mod_one ha) hb
theorem cop {r k : Nat} (hr : ∀ d, d < r + 1 → d ∣ r → d = 1 ∨ d = r) (h0 : 0 < r) (h : ¬ r ∣ k) : Nat.Coprime r k := by
  have h1 : Nat.gcd r k ∣ r := Nat.gcd_dvd_left r k
  rcases hr _ (Nat.lt_succ_of_le (Nat.le_of_dvd h0 h1)) h1 with z | z
  · exact z
  · exact absurd (z ▸ Nat.gcd_dvd_right r k) h
theorem order {d : Nat} (h : g ^ d % p = 1) (h0 : 0 < d) (hd : d ∣ q) (hlt : d < q) : False := by
  obtain ⟨k, hk⟩ := hd
  have bad : ∀ r, (q / r * r = q) → g ^ (q / r) % p ≠ 1 → 0 < r → ¬ r ∣ k := fun r hr hn h0 ⟨m, hm⟩ => by
    have : q / r = d * m := by
      rw [hm] at hk
      have : q = r * (d * m) := by rw [hk]; rw [Nat.mul_left_comm]
      conv => lhs; rw [this]
      exact Nat.mul_div_cancel_left _ h0
    rw [this] at hn
    exact hn (pow_mod_one h)
  have P : ∀ r, r ∈ [2, 3, 7, 11, 31, 151, 331] → Nat.Coprime r k := fun r hr => by
    refine cop ?_ ?_ (bad r ?_ ?_ ?_)
    · revert r; decide +kernel
    · revert r; decide
    · revert r; decide
    · have : g ^ (q / r) % p = pm 31 g (q / r) % p := (pm_eq 31 g (q / r) (Nat.lt_of_le_of_lt (Nat.div_le_self _ _) (by decide))).symm
      rw [this]
      clear this bad
      revert r; decide +kernel
    · revert r; decide
  have c : Nat.Coprime q k := by
    have e : q = 2 * (3 * (3 * (7 * (11 * (31 * (151 * 331)))))) := by decide
    rw [e]
    exact Nat.Coprime.mul_left (P 2 (by decide)) (Nat.Coprime.mul_left (P 3 (by decide)) (Nat.Coprime.mul_left (P 3 (by decide)) (Nat.Coprime.mul_left (P 7 (by decide)) (Nat.Coprime.mul_left (P 11 (by decide)) (Nat.Coprime.mul_left (P 31 (by decide)) (Nat.Coprime.mul_left (P 151 (by decide)) (P 331 (by decide))))))))
  have kq : k ∣ q := ⟨d, by rw [hk, Nat.mul_comm]⟩
  have k1 : k = 1 := by
    have := Nat.gcd_eq_right kq
    rw [← this]; exact c
  rw [k1, Nat.mul_one] at hk
  omega
theorem inj {i j : Nat} (hi : i < q) (hj : j < q) (h : g ^ i % p = g ^ j % p) : i = j := by
  have key : ∀ {i j : Nat}, i < j → j < q → g ^ i % p = g ^ j % p → False := fun {i j} hij hj h => by
    have e : j = i + (j - i) := by omega
    rw [e] at h
    have h1 := cancel h.symm (by omega)
    have h2 := gcd_one (j - i) q h1 g_q
    have h3 : Nat.gcd (j - i) q ∣ q := Nat.gcd_dvd_right _ _
    have h4 : Nat.gcd (j - i) q ≤ j - i := Nat.gcd_le_left _ (by omega)
    have h5 : 0 < Nat.gcd (j - i) q := Nat.gcd_pos_of_pos_right _ (by decide)
    exact order h2 h5 h3 (by omega)
  rcases Nat.lt_trichotomy i j with z | z | z
  · exact (key z hj h).elim
  · exact z
  · exact (key z hi h.symm).elim
theorem pos (i : Nat) (hi : i ≤ q) : 0 < g ^ i % p := by
  rcases Nat.eq_zero_or_pos (g ^ i % p) with z | z
  · have e1 : g ^ (q - i) * g ^ i % p = 1 := by rw [← Nat.pow_add, Nat.sub_add_cancel hi]; exact g_q
    rw [Nat.mul_mod, z, Nat.mul_zero] at e1
    simp at e1
  · exact z
theorem onto {c : Nat} (h0 : 0 < c) (h1 : c < p) : ∃ i, i < q ∧ g ^ i % p = c := by
  obtain ⟨i, hi, e⟩ := php q (fun i => g ^ i % p - 1) (fun i hi => by
    have := Nat.mod_lt (g ^ i) (show 0 < p by decide)
    have := pos i (by omega)
    have hp : p = 2147483647 := rfl
    have hq : q = 2147483646 := rfl
    show g ^ i % p - 1 < q
    omega) (fun i j hi hj e => by
    have a := pos i (by omega)
    have b := pos j (by omega)
    refine inj hi hj ?_
    have e : g ^ i % p - 1 = g ^ j % p - 1 := e
    omega) (c - 1) (by have hp : p = 2147483647 := rfl; have hq : q = 2147483646 := rfl; omega)
  have a := pos i (by omega)
  have e : g ^ i % p - 1 = c - 1 := e
  exact ⟨i, hi, by omega⟩
/-- from any number but nought 4 is met -/
theorem meets {c : Nat} (h0 : 0 < c) (h1 : c < p) : ∃ j, 0 < j ∧ j ≤ q ∧ c * g ^ j % p = 4 := by
  obtain ⟨i, hi, ei⟩ := onto h0 h1
  obtain ⟨m, hm, em⟩ := onto (c := 4) (by decide) (by decide)
  have hc : c % p = g ^ i % p := by rw [ei, Nat.mod_eq_of_lt h1]
  by_cases h : i < m
  · refine ⟨m - i, by omega, by omega, ?_⟩
    rw [Nat.mul_mod, hc, ← Nat.mul_mod, ← Nat.pow_add, show i + (m - i) = m by omega]
    exact em
  · refine ⟨q + m - i, by omega, by omega, ?_⟩
    rw [Nat.mul_mod, hc, ← Nat.mul_mod, ← Nat.pow_add, show i + (q + m - i) = q + m by omega, Nat.pow_add, one_mul_mod g_q]
    exact em
end Lcg

namespace Gk20
open PySem PySem.Spec PyProof.Rows L2 L3
def tp (i : Nat) : Stmt := PySem.Challenge.pw_splithouse_k20_one_use.main.body.getD i (.Pass ⟨0, 0, 0, 0⟩)
abbrev st_can_use : Stmt := tp 1
abbrev st_used : Stmt := tp 2
abbrev st__law_cell_at : Stmt := tp 4
abbrev st__law_rule : Stmt := tp 5
abbrev st__law_usable : Stmt := tp 6
abbrev st__law_behind : Stmt := tp 7
abbrev st__law_whole : Stmt := tp 8
abbrev st__law_wholes : Stmt := tp 9
abbrev st__law_parts : Stmt := tp 10
abbrev st__law_right : Stmt := tp 11
abbrev st_law : Stmt := tp 12
abbrev nn_can_use : List Str := ["rule", "block", "word", "left", "right"]
theorem sc_can_use : FnScope nn_can_use ["rule", "block"] (defScope st_can_use) := ⟨rfl, rfl, rfl, by decide +kernel, rfl, by decide +kernel, by decide +kernel⟩
abbrev nn_used : List Str := ["rule", "fixed", "blocks", "at", "word", "left", "right", "inner", "outer", "fresh"]
theorem sc_used : FnScope nn_used ["rule", "fixed", "blocks", "at"] (defScope st_used) := ⟨rfl, rfl, rfl, by decide +kernel, rfl, by decide +kernel, by decide +kernel⟩
abbrev nn__law_cell_at : List Str := ["_law_script", "_law_k", "_law_number"]
theorem sc__law_cell_at : FnScope nn__law_cell_at ["_law_script", "_law_k"] (defScope st__law_cell_at) := ⟨rfl, rfl, rfl, by decide +kernel, rfl, by decide +kernel, by decide +kernel⟩
abbrev nn__law_rule : List Str := ["_law_cell", "_law_many", "_law_full", "_law_left", "_law_right_here"]
theorem sc__law_rule : FnScope nn__law_rule ["_law_cell", "_law_many"] (defScope st__law_rule) := ⟨rfl, rfl, rfl, by decide +kernel, rfl, by decide +kernel, by decide +kernel⟩
abbrev nn__law_usable : List Str := ["_law_rule_here", "_law_block"]
theorem sc__law_usable : FnScope nn__law_usable ["_law_rule_here", "_law_block"] (defScope st__law_usable) := ⟨rfl, rfl, rfl, by decide +kernel, rfl, by decide +kernel, by decide +kernel⟩
abbrev nn__law_behind : List Str := ["_law_rule_here", "_law_fixed", "_law_blocks", "_law_at", "_law_inner", "_law_outer"]
theorem sc__law_behind : FnScope nn__law_behind ["_law_rule_here", "_law_fixed", "_law_blocks", "_law_at"] (defScope st__law_behind) := ⟨rfl, rfl, rfl, by decide +kernel, rfl, by decide +kernel, by decide +kernel⟩
abbrev nn__law_whole : List Str := ["_law_got"]
theorem sc__law_whole : FnScope nn__law_whole ["_law_got"] (defScope st__law_whole) := ⟨rfl, rfl, rfl, by decide +kernel, rfl, by decide +kernel, by decide +kernel⟩
abbrev nn__law_wholes : List Str := ["_law_got", "_law_due", "_law_one"]
theorem sc__law_wholes : FnScope nn__law_wholes ["_law_got", "_law_due"] (defScope st__law_wholes) := ⟨rfl, rfl, rfl, by decide +kernel, rfl, by decide +kernel, by decide +kernel⟩
abbrev nn__law_parts : List Str := ["_law_cell", "_law_many", "_law_rest", "_law_fixed", "_law_blocks", "_law_block"]
theorem sc__law_parts : FnScope nn__law_parts ["_law_cell", "_law_many"] (defScope st__law_parts) := ⟨rfl, rfl, rfl, by decide +kernel, rfl, by decide +kernel, by decide +kernel⟩
abbrev nn__law_right : List Str := ["_law_rule_here", "_law_fixed", "_law_blocks", "_law_at", "_law_block", "_law_due", "_law_told", "_law_handed", "_law_got", "_law_after", "_law_later_on"]
theorem sc__law_right : FnScope nn__law_right ["_law_rule_here", "_law_fixed", "_law_blocks"] (defScope st__law_right) := ⟨rfl, rfl, rfl, by decide +kernel, rfl, by decide +kernel, by decide +kernel⟩
abbrev nn_law : List Str := ["_law_script", "_law_many", "_law_k", "_law_fixed", "_law_blocks"]
theorem sc_law : FnScope nn_law ["_law_script"] (defScope st_law) := ⟨rfl, rfl, rfl, by decide +kernel, rfl, by decide +kernel, by decide +kernel⟩
theorem nd__law_after : (("_law_after" : Str) == ("__debug__" : Str)) = false := by decide +kernel
theorem nc__law_after : (("_law_after" : Str) == ("__classdict__" : Str)) = false := by decide +kernel
theorem nd__law_at : (("_law_at" : Str) == ("__debug__" : Str)) = false := by decide +kernel
theorem nc__law_at : (("_law_at" : Str) == ("__classdict__" : Str)) = false := by decide +kernel
theorem nd__law_behind : (("_law_behind" : Str) == ("__debug__" : Str)) = false := by decide +kernel
theorem nc__law_behind : (("_law_behind" : Str) == ("__classdict__" : Str)) = false := by decide +kernel
theorem nd__law_block : (("_law_block" : Str) == ("__debug__" : Str)) = false := by decide +kernel
theorem nc__law_block : (("_law_block" : Str) == ("__classdict__" : Str)) = false := by decide +kernel
theorem nd__law_blocks : (("_law_blocks" : Str) == ("__debug__" : Str)) = false := by decide +kernel
theorem nc__law_blocks : (("_law_blocks" : Str) == ("__classdict__" : Str)) = false := by decide +kernel
theorem nd__law_cell : (("_law_cell" : Str) == ("__debug__" : Str)) = false := by decide +kernel
theorem nc__law_cell : (("_law_cell" : Str) == ("__classdict__" : Str)) = false := by decide +kernel
theorem nd__law_cell_at : (("_law_cell_at" : Str) == ("__debug__" : Str)) = false := by decide +kernel
theorem nc__law_cell_at : (("_law_cell_at" : Str) == ("__classdict__" : Str)) = false := by decide +kernel
theorem nd__law_due : (("_law_due" : Str) == ("__debug__" : Str)) = false := by decide +kernel
theorem nc__law_due : (("_law_due" : Str) == ("__classdict__" : Str)) = false := by decide +kernel
theorem nd__law_fixed : (("_law_fixed" : Str) == ("__debug__" : Str)) = false := by decide +kernel
theorem nc__law_fixed : (("_law_fixed" : Str) == ("__classdict__" : Str)) = false := by decide +kernel
theorem nd__law_full : (("_law_full" : Str) == ("__debug__" : Str)) = false := by decide +kernel
theorem nc__law_full : (("_law_full" : Str) == ("__classdict__" : Str)) = false := by decide +kernel
theorem nd__law_got : (("_law_got" : Str) == ("__debug__" : Str)) = false := by decide +kernel
theorem nc__law_got : (("_law_got" : Str) == ("__classdict__" : Str)) = false := by decide +kernel
theorem nd__law_handed : (("_law_handed" : Str) == ("__debug__" : Str)) = false := by decide +kernel
theorem nc__law_handed : (("_law_handed" : Str) == ("__classdict__" : Str)) = false := by decide +kernel
theorem nd__law_inner : (("_law_inner" : Str) == ("__debug__" : Str)) = false := by decide +kernel
theorem nc__law_inner : (("_law_inner" : Str) == ("__classdict__" : Str)) = false := by decide +kernel
theorem nd__law_k : (("_law_k" : Str) == ("__debug__" : Str)) = false := by decide +kernel
theorem nc__law_k : (("_law_k" : Str) == ("__classdict__" : Str)) = false := by decide +kernel
theorem nd__law_later_on : (("_law_later_on" : Str) == ("__debug__" : Str)) = false := by decide +kernel
theorem nc__law_later_on : (("_law_later_on" : Str) == ("__classdict__" : Str)) = false := by decide +kernel
theorem nd__law_left : (("_law_left" : Str) == ("__debug__" : Str)) = false := by decide +kernel
theorem nc__law_left : (("_law_left" : Str) == ("__classdict__" : Str)) = false := by decide +kernel
theorem nd__law_many : (("_law_many" : Str) == ("__debug__" : Str)) = false := by decide +kernel
theorem nc__law_many : (("_law_many" : Str) == ("__classdict__" : Str)) = false := by decide +kernel
theorem nd__law_number : (("_law_number" : Str) == ("__debug__" : Str)) = false := by decide +kernel
theorem nc__law_number : (("_law_number" : Str) == ("__classdict__" : Str)) = false := by decide +kernel
theorem nd__law_one : (("_law_one" : Str) == ("__debug__" : Str)) = false := by decide +kernel
theorem nc__law_one : (("_law_one" : Str) == ("__classdict__" : Str)) = false := by decide +kernel
theorem nd__law_outer : (("_law_outer" : Str) == ("__debug__" : Str)) = false := by decide +kernel
theorem nc__law_outer : (("_law_outer" : Str) == ("__classdict__" : Str)) = false := by decide +kernel
theorem nd__law_parts : (("_law_parts" : Str) == ("__debug__" : Str)) = false := by decide +kernel
theorem nc__law_parts : (("_law_parts" : Str) == ("__classdict__" : Str)) = false := by decide +kernel
theorem nd__law_rest : (("_law_rest" : Str) == ("__debug__" : Str)) = false := by decide +kernel
theorem nc__law_rest : (("_law_rest" : Str) == ("__classdict__" : Str)) = false := by decide +kernel
theorem nd__law_right : (("_law_right" : Str) == ("__debug__" : Str)) = false := by decide +kernel
theorem nc__law_right : (("_law_right" : Str) == ("__classdict__" : Str)) = false := by decide +kernel
theorem nd__law_right_here : (("_law_right_here" : Str) == ("__debug__" : Str)) = false := by decide +kernel
theorem nc__law_right_here : (("_law_right_here" : Str) == ("__classdict__" : Str)) = false := by decide +kernel
theorem nd__law_rule : (("_law_rule" : Str) == ("__debug__" : Str)) = false := by decide +kernel
theorem nc__law_rule : (("_law_rule" : Str) == ("__classdict__" : Str)) = false := by decide +kernel
theorem nd__law_rule_here : (("_law_rule_here" : Str) == ("__debug__" : Str)) = false := by decide +kernel
theorem nc__law_rule_here : (("_law_rule_here" : Str) == ("__classdict__" : Str)) = false := by decide +kernel
theorem nd__law_script : (("_law_script" : Str) == ("__debug__" : Str)) = false := by decide +kernel
theorem nc__law_script : (("_law_script" : Str) == ("__classdict__" : Str)) = false := by decide +kernel
theorem nd__law_told : (("_law_told" : Str) == ("__debug__" : Str)) = false := by decide +kernel
theorem nc__law_told : (("_law_told" : Str) == ("__classdict__" : Str)) = false := by decide +kernel
theorem nd__law_usable : (("_law_usable" : Str) == ("__debug__" : Str)) = false := by decide +kernel
theorem nc__law_usable : (("_law_usable" : Str) == ("__classdict__" : Str)) = false := by decide +kernel
theorem nd__law_whole : (("_law_whole" : Str) == ("__debug__" : Str)) = false := by decide +kernel
theorem nc__law_whole : (("_law_whole" : Str) == ("__classdict__" : Str)) = false := by decide +kernel
theorem nd__law_wholes : (("_law_wholes" : Str) == ("__debug__" : Str)) = false := by decide +kernel
theorem nc__law_wholes : (("_law_wholes" : Str) == ("__classdict__" : Str)) = false := by decide +kernel
theorem nd_at : (("at" : Str) == ("__debug__" : Str)) = false := by decide +kernel
theorem nc_at : (("at" : Str) == ("__classdict__" : Str)) = false := by decide +kernel
theorem nd_block : (("block" : Str) == ("__debug__" : Str)) = false := by decide +kernel
theorem nc_block : (("block" : Str) == ("__classdict__" : Str)) = false := by decide +kernel
theorem nd_blocks : (("blocks" : Str) == ("__debug__" : Str)) = false := by decide +kernel
theorem nc_blocks : (("blocks" : Str) == ("__classdict__" : Str)) = false := by decide +kernel
theorem nd_can_use : (("can_use" : Str) == ("__debug__" : Str)) = false := by decide +kernel
theorem nc_can_use : (("can_use" : Str) == ("__classdict__" : Str)) = false := by decide +kernel
theorem nd_fixed : (("fixed" : Str) == ("__debug__" : Str)) = false := by decide +kernel
theorem nc_fixed : (("fixed" : Str) == ("__classdict__" : Str)) = false := by decide +kernel
theorem nd_fresh : (("fresh" : Str) == ("__debug__" : Str)) = false := by decide +kernel
theorem nc_fresh : (("fresh" : Str) == ("__classdict__" : Str)) = false := by decide +kernel
theorem nd_inner : (("inner" : Str) == ("__debug__" : Str)) = false := by decide +kernel
theorem nc_inner : (("inner" : Str) == ("__classdict__" : Str)) = false := by decide +kernel
theorem nd_left : (("left" : Str) == ("__debug__" : Str)) = false := by decide +kernel
theorem nc_left : (("left" : Str) == ("__classdict__" : Str)) = false := by decide +kernel
theorem nd_outer : (("outer" : Str) == ("__debug__" : Str)) = false := by decide +kernel
theorem nc_outer : (("outer" : Str) == ("__classdict__" : Str)) = false := by decide +kernel
theorem nd_right : (("right" : Str) == ("__debug__" : Str)) = false := by decide +kernel
theorem nc_right : (("right" : Str) == ("__classdict__" : Str)) = false := by decide +kernel
theorem nd_rule : (("rule" : Str) == ("__debug__" : Str)) = false := by decide +kernel
theorem nc_rule : (("rule" : Str) == ("__classdict__" : Str)) = false := by decide +kernel
theorem nd_used : (("used" : Str) == ("__debug__" : Str)) = false := by decide +kernel
theorem nc_used : (("used" : Str) == ("__classdict__" : Str)) = false := by decide +kernel
theorem nd_word : (("word" : Str) == ("__debug__" : Str)) = false := by decide +kernel
theorem nc_word : (("word" : Str) == ("__classdict__" : Str)) = false := by decide +kernel
theorem lk_can_use_block : (defScope st_can_use).names.lookup ("block" : Str) = some NameKind.local := by decide +kernel
theorem lk_can_use_left : (defScope st_can_use).names.lookup ("left" : Str) = some NameKind.local := by decide +kernel
theorem lk_can_use_right : (defScope st_can_use).names.lookup ("right" : Str) = some NameKind.local := by decide +kernel
theorem lk_can_use_rule : (defScope st_can_use).names.lookup ("rule" : Str) = some NameKind.local := by decide +kernel
theorem lk_can_use_word : (defScope st_can_use).names.lookup ("word" : Str) = some NameKind.local := by decide +kernel
theorem lk_used_at : (defScope st_used).names.lookup ("at" : Str) = some NameKind.local := by decide +kernel
theorem lk_used_blocks : (defScope st_used).names.lookup ("blocks" : Str) = some NameKind.local := by decide +kernel
theorem lk_used_fixed : (defScope st_used).names.lookup ("fixed" : Str) = some NameKind.local := by decide +kernel
theorem lk_used_fresh : (defScope st_used).names.lookup ("fresh" : Str) = some NameKind.local := by decide +kernel
theorem lk_used_inner : (defScope st_used).names.lookup ("inner" : Str) = some NameKind.local := by decide +kernel
theorem lk_used_left : (defScope st_used).names.lookup ("left" : Str) = some NameKind.local := by decide +kernel
theorem lk_used_outer : (defScope st_used).names.lookup ("outer" : Str) = some NameKind.local := by decide +kernel
theorem lk_used_right : (defScope st_used).names.lookup ("right" : Str) = some NameKind.local := by decide +kernel
theorem lk_used_rule : (defScope st_used).names.lookup ("rule" : Str) = some NameKind.local := by decide +kernel
theorem lk_used_word : (defScope st_used).names.lookup ("word" : Str) = some NameKind.local := by decide +kernel
theorem lk__law_cell_at__law_k : (defScope st__law_cell_at).names.lookup ("_law_k" : Str) = some NameKind.local := by decide +kernel
theorem lk__law_cell_at__law_number : (defScope st__law_cell_at).names.lookup ("_law_number" : Str) = some NameKind.local := by decide +kernel
theorem lk__law_cell_at__law_script : (defScope st__law_cell_at).names.lookup ("_law_script" : Str) = some NameKind.local := by decide +kernel
theorem gl__law_cell_at_len : (defScope st__law_cell_at).names.lookup ("len" : Str) = some NameKind.globalImplicit := by decide +kernel
theorem lk__law_rule__law_cell : (defScope st__law_rule).names.lookup ("_law_cell" : Str) = some NameKind.local := by decide +kernel
theorem lk__law_rule__law_full : (defScope st__law_rule).names.lookup ("_law_full" : Str) = some NameKind.local := by decide +kernel
theorem lk__law_rule__law_left : (defScope st__law_rule).names.lookup ("_law_left" : Str) = some NameKind.local := by decide +kernel
theorem lk__law_rule__law_many : (defScope st__law_rule).names.lookup ("_law_many" : Str) = some NameKind.local := by decide +kernel
theorem lk__law_rule__law_right_here : (defScope st__law_rule).names.lookup ("_law_right_here" : Str) = some NameKind.local := by decide +kernel
theorem lk__law_usable__law_block : (defScope st__law_usable).names.lookup ("_law_block" : Str) = some NameKind.local := by decide +kernel
theorem lk__law_usable__law_rule_here : (defScope st__law_usable).names.lookup ("_law_rule_here" : Str) = some NameKind.local := by decide +kernel
theorem lk__law_behind__law_at : (defScope st__law_behind).names.lookup ("_law_at" : Str) = some NameKind.local := by decide +kernel
theorem lk__law_behind__law_blocks : (defScope st__law_behind).names.lookup ("_law_blocks" : Str) = some NameKind.local := by decide +kernel
theorem lk__law_behind__law_fixed : (defScope st__law_behind).names.lookup ("_law_fixed" : Str) = some NameKind.local := by decide +kernel
theorem lk__law_behind__law_inner : (defScope st__law_behind).names.lookup ("_law_inner" : Str) = some NameKind.local := by decide +kernel
theorem lk__law_behind__law_outer : (defScope st__law_behind).names.lookup ("_law_outer" : Str) = some NameKind.local := by decide +kernel
theorem lk__law_behind__law_rule_here : (defScope st__law_behind).names.lookup ("_law_rule_here" : Str) = some NameKind.local := by decide +kernel
theorem gl__law_behind_int : (defScope st__law_behind).names.lookup ("int" : Str) = some NameKind.globalImplicit := by decide +kernel
theorem lk__law_whole__law_got : (defScope st__law_whole).names.lookup ("_law_got" : Str) = some NameKind.local := by decide +kernel
theorem gl__law_whole_bool : (defScope st__law_whole).names.lookup ("bool" : Str) = some NameKind.globalImplicit := by decide +kernel
theorem gl__law_whole_int : (defScope st__law_whole).names.lookup ("int" : Str) = some NameKind.globalImplicit := by decide +kernel
theorem gl__law_whole_isinstance : (defScope st__law_whole).names.lookup ("isinstance" : Str) = some NameKind.globalImplicit := by decide +kernel
theorem lk__law_wholes__law_due : (defScope st__law_wholes).names.lookup ("_law_due" : Str) = some NameKind.local := by decide +kernel
theorem lk__law_wholes__law_got : (defScope st__law_wholes).names.lookup ("_law_got" : Str) = some NameKind.local := by decide +kernel
theorem gl__law_wholes_all : (defScope st__law_wholes).names.lookup ("all" : Str) = some NameKind.globalImplicit := by decide +kernel
theorem gl__law_wholes_isinstance : (defScope st__law_wholes).names.lookup ("isinstance" : Str) = some NameKind.globalImplicit := by decide +kernel
theorem gl__law_wholes_list : (defScope st__law_wholes).names.lookup ("list" : Str) = some NameKind.globalImplicit := by decide +kernel
theorem lk__law_parts__law_block : (defScope st__law_parts).names.lookup ("_law_block" : Str) = some NameKind.local := by decide +kernel
theorem lk__law_parts__law_blocks : (defScope st__law_parts).names.lookup ("_law_blocks" : Str) = some NameKind.local := by decide +kernel
theorem lk__law_parts__law_cell : (defScope st__law_parts).names.lookup ("_law_cell" : Str) = some NameKind.local := by decide +kernel
theorem lk__law_parts__law_fixed : (defScope st__law_parts).names.lookup ("_law_fixed" : Str) = some NameKind.local := by decide +kernel
theorem lk__law_parts__law_many : (defScope st__law_parts).names.lookup ("_law_many" : Str) = some NameKind.local := by decide +kernel
theorem lk__law_parts__law_rest : (defScope st__law_parts).names.lookup ("_law_rest" : Str) = some NameKind.local := by decide +kernel
theorem gl__law_parts_len : (defScope st__law_parts).names.lookup ("len" : Str) = some NameKind.globalImplicit := by decide +kernel
theorem lk__law_right__law_after : (defScope st__law_right).names.lookup ("_law_after" : Str) = some NameKind.local := by decide +kernel
theorem lk__law_right__law_at : (defScope st__law_right).names.lookup ("_law_at" : Str) = some NameKind.local := by decide +kernel
theorem lk__law_right__law_block : (defScope st__law_right).names.lookup ("_law_block" : Str) = some NameKind.local := by decide +kernel
theorem lk__law_right__law_blocks : (defScope st__law_right).names.lookup ("_law_blocks" : Str) = some NameKind.local := by decide +kernel
theorem lk__law_right__law_due : (defScope st__law_right).names.lookup ("_law_due" : Str) = some NameKind.local := by decide +kernel
theorem lk__law_right__law_fixed : (defScope st__law_right).names.lookup ("_law_fixed" : Str) = some NameKind.local := by decide +kernel
theorem lk__law_right__law_got : (defScope st__law_right).names.lookup ("_law_got" : Str) = some NameKind.local := by decide +kernel
theorem lk__law_right__law_handed : (defScope st__law_right).names.lookup ("_law_handed" : Str) = some NameKind.local := by decide +kernel
theorem lk__law_right__law_later_on : (defScope st__law_right).names.lookup ("_law_later_on" : Str) = some NameKind.local := by decide +kernel
theorem lk__law_right__law_rule_here : (defScope st__law_right).names.lookup ("_law_rule_here" : Str) = some NameKind.local := by decide +kernel
theorem lk__law_right__law_told : (defScope st__law_right).names.lookup ("_law_told" : Str) = some NameKind.local := by decide +kernel
theorem gl__law_right__law_behind : (defScope st__law_right).names.lookup ("_law_behind" : Str) = some NameKind.globalImplicit := by decide +kernel
theorem gl__law_right__law_usable : (defScope st__law_right).names.lookup ("_law_usable" : Str) = some NameKind.globalImplicit := by decide +kernel
theorem gl__law_right__law_whole : (defScope st__law_right).names.lookup ("_law_whole" : Str) = some NameKind.globalImplicit := by decide +kernel
theorem gl__law_right__law_wholes : (defScope st__law_right).names.lookup ("_law_wholes" : Str) = some NameKind.globalImplicit := by decide +kernel
theorem gl__law_right_bool : (defScope st__law_right).names.lookup ("bool" : Str) = some NameKind.globalImplicit := by decide +kernel
theorem gl__law_right_can_use : (defScope st__law_right).names.lookup ("can_use" : Str) = some NameKind.globalImplicit := by decide +kernel
theorem gl__law_right_enumerate : (defScope st__law_right).names.lookup ("enumerate" : Str) = some NameKind.globalImplicit := by decide +kernel
theorem gl__law_right_isinstance : (defScope st__law_right).names.lookup ("isinstance" : Str) = some NameKind.globalImplicit := by decide +kernel
theorem gl__law_right_len : (defScope st__law_right).names.lookup ("len" : Str) = some NameKind.globalImplicit := by decide +kernel
theorem gl__law_right_list : (defScope st__law_right).names.lookup ("list" : Str) = some NameKind.globalImplicit := by decide +kernel
theorem gl__law_right_tuple : (defScope st__law_right).names.lookup ("tuple" : Str) = some NameKind.globalImplicit := by decide +kernel
theorem gl__law_right_used : (defScope st__law_right).names.lookup ("used" : Str) = some NameKind.globalImplicit := by decide +kernel
theorem lk_law__law_blocks : (defScope st_law).names.lookup ("_law_blocks" : Str) = some NameKind.local := by decide +kernel
theorem lk_law__law_fixed : (defScope st_law).names.lookup ("_law_fixed" : Str) = some NameKind.local := by decide +kernel
theorem lk_law__law_k : (defScope st_law).names.lookup ("_law_k" : Str) = some NameKind.local := by decide +kernel
theorem lk_law__law_many : (defScope st_law).names.lookup ("_law_many" : Str) = some NameKind.local := by decide +kernel
theorem lk_law__law_script : (defScope st_law).names.lookup ("_law_script" : Str) = some NameKind.local := by decide +kernel
theorem gl_law__law_cell_at : (defScope st_law).names.lookup ("_law_cell_at" : Str) = some NameKind.globalImplicit := by decide +kernel
theorem gl_law__law_parts : (defScope st_law).names.lookup ("_law_parts" : Str) = some NameKind.globalImplicit := by decide +kernel
theorem gl_law__law_right : (defScope st_law).names.lookup ("_law_right" : Str) = some NameKind.globalImplicit := by decide +kernel
theorem gl_law__law_rule : (defScope st_law).names.lookup ("_law_rule" : Str) = some NameKind.globalImplicit := by decide +kernel
theorem gl_law_len : (defScope st_law).names.lookup ("len" : Str) = some NameKind.globalImplicit := by decide +kernel
theorem gl_law_min : (defScope st_law).names.lookup ("min" : Str) = some NameKind.globalImplicit := by decide +kernel
theorem gl_law_range : (defScope st_law).names.lookup ("range" : Str) = some NameKind.globalImplicit := by decide +kernel
/-! mirrors -/
def mb_can_use : SF := (sSeq (sSet (tUn 3 (tsCons (tN 2) (tsCons (tN 3) (tsCons (tN 4) tsNil)))) (eP (pVar 0))) (sSeq (sIf (bOr (bV (eP (pOp vNe (pOp (i2 vAndI) (pVar 3) (pVar 1)) (pC (.int 0))))) (bV (eP (pOp vEq (pOp (i2 vAndI) (pVar 4) (pVar 1)) (pC (.int 0)))))) (sRet (eP (pC (.bl false)))) sNil) (sRet (eP (pOr (pOp vEq (pVar 2) (pC (.str "settle"))) (pOp vNe (pOp (i2 vAndI) (pVar 4) (pVar 1)) (pVar 1)))))))
def m_can_use : MF := mirOf [false, false] 3 mb_can_use
def mb_used : SF := (sSeq (sSet (tUn 3 (tsCons (tN 4) (tsCons (tN 5) (tsCons (tN 6) tsNil)))) (eP (pVar 0))) (sSeq (sSet (tN 7) (eP (pOp (i2 vAndI) (pOp vIx (pVar 2) (pVar 3)) (pVar 6)))) (sSeq (sSet (tN 8) (eP (pOp (i2 vSubI) (pOp vIx (pVar 2) (pVar 3)) (pVar 7)))) (sSeq (sNew 9 (eP (pLst lNil))) (sSeq (sIf (bV (eP (pOp vEq (pVar 4) (pC (.str "settle"))))) (sSet (tN 1) (eP (pOp (i2 vOrI) (pVar 1) (pVar 7)))) (sExpr (eMut 9 fAppend (aCons (eP (pVar 7)) aNil)))) (sSeq (sIf (bV (eP (pOp vNe (pVar 8) (pC (.int 0))))) (sExpr (eMut 9 fAppend (aCons (eP (pVar 8)) aNil))) sNil) (sRetNew (eP (nBox1 (pVar 1) (nFrz 9 (pOp vCat (pOp vAdd (pSl (pVar 2) oNo (oSo (pVar 3))) (pVar 9)) (pSl (pVar 2) (oSo (pOp vAdd (pVar 3) (pC (.int 1)))) oNo))))))))))))
def m_used : MF := mirOf [false, false, false, false] 6 mb_used
def mb__law_cell_at : SF := (sSeq (sIf (bV (eP (pOp (i2 vLtI) (pVar 1) (pCa (f1 vLen) (lCons (pVar 0) lNil))))) (sRet (eP (pOp (i2 vModI) (pOp vIx (pVar 0) (pVar 1)) (pC (.int 2147483629))))) sNil) (sSeq (sSet (tN 2) (eP (pOp vAdd (pOp vMul (pOp vMul (pVar 1) (pVar 1)) (pC (.int 48271))) (pC (.int 11))))) (sSeq (sIf (bV (eP (pOp (i2 vGtI) (pCa (f1 vLen) (lCons (pVar 0) lNil)) (pC (.int 0))))) (sSet (tN 2) (eP (pOp vAdd (pVar 2) (pOp vMul (pOp (i2 vModI) (pOp vIx (pVar 0) (pOp (i2 vModI) (pVar 1) (pCa (f1 vLen) (lCons (pVar 0) lNil)))) (pC (.int 2147483629))) (pC (.int 69621)))))) sNil) (sRet (eP (pOp (i2 vModI) (pOp vMul (pVar 2) (pVar 2)) (pC (.int 2147483629))))))))
def m__law_cell_at : MF := mirOf [false, false] 1 mb__law_cell_at
def mb__law_rule : SF := (sSeq (sSet (tN 2) (eP (pOp (i2 vShlI) (pC (.int 1)) (pVar 1)))) (sSeq (sSet (tN 3) (eP (pOp (i2 vModI) (pOp (i2 vFdivI) (pVar 0) (pC (.int 3))) (pVar 2)))) (sSeq (sIf (bV (eP (pOp (i2 vGtI) (pOp (i2 vModI) (pOp (i2 vFdivI) (pVar 0) (pC (.int 384))) (pC (.int 4))) (pC (.int 0))))) (sSet (tN 3) (eP (pOp (i2 vAndI) (pVar 3) (pOp (i2 vModI) (pOp (i2 vFdivI) (pVar 0) (pC (.int 1536))) (pVar 2))))) sNil) (sSeq (sSet (tN 4) (eP (pOp (i2 vModI) (pOp (i2 vFdivI) (pVar 0) (pC (.int 196608))) (pVar 2)))) (sSeq (sIf (bV (eP (pOp vEq (pOp (i2 vModI) (pOp (i2 vFdivI) (pVar 0) (pC (.int 25165824))) (pC (.int 3))) (pC (.int 1))))) (sSet (tN 4) (eP (pOp (i2 vAndI) (pVar 4) (pOp (i2 vModI) (pOp (i2 vModI) (pOp vMul (pVar 0) (pC (.int 16807))) (pC (.int 65537))) (pVar 2))))) sNil) (sRet (eP (pTup (lCons (pOp vIx (pSeen (pLst (lCons (pC (.str "settle")) (lCons (pC (.str "settle")) (lCons (pC (.str "deal")) lNil))))) (pOp (i2 vModI) (pVar 0) (pC (.int 3)))) (lCons (pVar 3) (lCons (pVar 4) lNil)))))))))))
def m__law_rule : MF := mirOf [false, false] 3 mb__law_rule
def mb__law_usable : SF := (sSeq (sIf (bOr (bV (eP (pOp vNe (pOp (i2 vAndI) (pOp vIx (pVar 0) (pC (.int 1))) (pVar 1)) (pC (.int 0))))) (bV (eP (pOp vEq (pOp (i2 vAndI) (pOp vIx (pVar 0) (pC (.int 2))) (pVar 1)) (pC (.int 0)))))) (sRet (eP (pC (.bl false)))) sNil) (sRet (eP (pOr (pOp vEq (pOp vIx (pVar 0) (pC (.int 0))) (pC (.str "settle"))) (pOp vNe (pOp (i2 vAndI) (pOp vIx (pVar 0) (pC (.int 2))) (pVar 1)) (pVar 1))))))
def m__law_usable : MF := mirOf [false, false] 0 mb__law_usable
def mb__law_behind : SF := (sSeq (sSet (tN 4) (eP (pOp (i2 vAndI) (pOp vIx (pVar 2) (pVar 3)) (pOp vIx (pVar 0) (pC (.int 2)))))) (sSeq (sSet (tN 5) (eP (pOp (i2 vSubI) (pOp vIx (pVar 2) (pVar 3)) (pVar 4)))) (sSeq (sIf (bV (eP (pOp vEq (pOp vIx (pVar 0) (pC (.int 0))) (pC (.str "settle"))))) (sRet (eP (pTup (lCons (pOp vAdd (pVar 1) (pVar 4)) (lCons (pOp vAdd (pOp vAdd (pSl (pVar 2) oNo (oSo (pVar 3))) (pOp vMul (pSeen (pLst (lCons (pVar 5) lNil))) (pCa (f1 vInt) (lCons (pOp (i2 vGtI) (pVar 5) (pC (.int 0))) lNil)))) (pSl (pVar 2) (oSo (pOp vAdd (pVar 3) (pC (.int 1)))) oNo)) lNil))))) sNil) (sRet (eP (pTup (lCons (pVar 1) (lCons (pOp vAdd (pOp vAdd (pSl (pVar 2) oNo (oSo (pVar 3))) (pSeen (pLst (lCons (pVar 4) (lCons (pVar 5) lNil))))) (pSl (pVar 2) (oSo (pOp vAdd (pVar 3) (pC (.int 1)))) oNo)) lNil))))))))
def m__law_behind : MF := mirOf [false, false, false, false] 2 mb__law_behind
def mb__law_whole : SF := (sRet (eP (pAnd (pCa (f2 vIsInst) (lCons (pVar 0) (lCons (pC (.ty "int")) lNil))) (pNot (pCa (f2 vIsInst) (lCons (pVar 0) (lCons (pC (.ty "bool")) lNil)))))))
def m__law_whole : MF := mirOf [false] 0 mb__law_whole
def le1__law_wholes : EF := (eP (pCall 1 m__law_whole (lCons (pVar 2) lNil)))
def le2__law_wholes : EF := (eP (pCall 1 m__law_whole (lCons (pVar 2) lNil)))
def mb__law_wholes : SF := (sSeq (sIf (bOr (bNot (bV (eP (pCa (f2 vIsInst) (lCons (pVar 0) (lCons (pC (.ty "list")) lNil)))))) (bV (eP (pOp vNe (pVar 0) (pVar 1))))) (sRet (eP (pC (.bl false)))) sNil) (sRet (eP (pCa (f1 vAll) (lCons (pOfE (eSeen (eLc [2] (iSeq (eP (pVar 0))) (tN 2) cYes le1__law_wholes))) lNil)))))
def m__law_wholes : MF := mirOf [false, false] 1 mb__law_wholes
def wc1__law_parts : BF := (bAnd (bV (eP (pOp (i2 vGtI) (pVar 2) (pC (.int 0))))) (bV (eP (pFrz 4 (pOp (i2 vLtI) (pCa (f1 vLen) (lCons (pVar 4) lNil)) (pC (.int 6)))))))
def wb2__law_parts : SF := (sSeq (sSet (tN 0) (eP (pOp (i2 vModI) (pOp vMul (pVar 0) (pC (.int 48271))) (pC (.int 2147483647))))) (sSeq (sSet (tN 5) (eP (pOp (i2 vAndI) (pVar 2) (pOp (i2 vModI) (pOp (i2 vFdivI) (pVar 0) (pC (.int 7))) (pC (.int 128)))))) (sSeq (sIf (bV (eP (pOp (i2 vGtI) (pVar 5) (pC (.int 0))))) (sExpr (eMut 4 fAppend (aCons (eP (pVar 5)) aNil))) sNil) (sSeq (sSet (tN 2) (eP (pOp (i2 vSubI) (pVar 2) (pVar 5)))) (sIf (bAnd (bV (eP (pOp vEq (pOp (i2 vModI) (pVar 0) (pC (.int 4))) (pC (.int 0))))) (bV (eP (pOp (i2 vGtI) (pVar 2) (pC (.int 0)))))) (sSeq (sExpr (eMut 4 fAppend (aCons (eP (pVar 2)) aNil))) (sSet (tN 2) (eP (pC (.int 0))))) sNil)))))
def mb__law_parts : SF := (sSeq (sSet (tN 2) (eP (pOp (i2 vSubI) (pOp (i2 vShlI) (pC (.int 1)) (pVar 1)) (pC (.int 1))))) (sSeq (sSet (tN 3) (eP (pOp (i2 vAndI) (pOp (i2 vAndI) (pOp (i2 vModI) (pVar 0) (pC (.int 128))) (pVar 2)) (pOp (i2 vFdivI) (pVar 0) (pC (.int 128)))))) (sSeq (sSet (tN 2) (eP (pOp (i2 vSubI) (pVar 2) (pVar 3)))) (sSeq (sNew 4 (eP (pLst lNil))) (sSeq (whl wc1__law_parts wb2__law_parts 2147483648) (sSeq (sFrz 4) (sRet (eP (pTup (lCons (pOp vAdd (pVar 3) (pVar 2)) (lCons (pVar 4) lNil)))))))))))
def m__law_parts : MF := mirOf [false, false] 4 mb__law_parts
def fb1__law_right : SF := (sSeq (sSet (tN 5) (eP (pCall 2 m__law_usable (lCons (pVar 0) (lCons (pVar 4) lNil))))) (sSeq (sSet (tN 6) (eP (pCall 2 m_can_use (lCons (pVar 0) (lCons (pVar 4) lNil))))) (sSeq (sIf (bOr (bNot (bV (eP (pCa (f2 vIsInst) (lCons (pVar 6) (lCons (pC (.ty "bool")) lNil)))))) (bV (eP (pOp vNe (pVar 6) (pVar 5))))) (sRet (eP (pC (.bl false)))) sNil) (sIf (bV (eP (pVar 5))) (sSeq (sSet (tN 7) (eP (pSeen (pCa (f1 vList) (lCons (pVar 2) lNil))))) (sSeq (sNew 8 (eCallN [false, false, false, false] m_used (cgVal (eP (pVar 0)) (cgVal (eP (pVar 1)) (cgVal (eP (pVar 7)) (cgVal (eP (pVar 3)) cgNil)))))) (sSeq (sIf (bOr (bNot (bV (eP (pFrz 8 (pCa (f2 vIsInst) (lCons (pVar 8) (lCons (pC (.ty "tuple")) lNil))))))) (bOr (bV (eP (pFrz 8 (pOp vNe (pCa (f1 vLen) (lCons (pVar 8) lNil)) (pC (.int 2)))))) (bOr (bNot (bV (eP (pFrz 8 (pCall 1 m__law_whole (lCons (pOp vIx (pVar 8) (pC (.int 0))) lNil)))))) (bV (eP (pOp vNe (pVar 7) (pVar 2))))))) (sRet (eP (pC (.bl false)))) sNil) (sSeq (sSet (tUn 2 (tsCons (tN 9) (tsCons (tN 10) tsNil))) (eP (pCall 4 m__law_behind (lCons (pVar 0) (lCons (pVar 1) (lCons (pVar 2) (lCons (pVar 3) lNil))))))) (sSeq (sIf (bOr (bV (eP (pFrz 8 (pOp vNe (pOp vIx (pVar 8) (pC (.int 0))) (pVar 9))))) (bNot (bV (eP (pFrz 8 (pCall 2 m__law_wholes (lCons (pOp vIx (pVar 8) (pC (.int 1))) (lCons (pVar 10) lNil)))))))) (sRet (eP (pC (.bl false)))) sNil) (sSeq (sExpr (eBoxApp 8 1 (pC (.int 0)))) (sIf (bOr (bV (eP (pOp vNe (pVar 7) (pVar 2)))) (bNot (bV (eP (pCall 2 m__law_wholes (lCons (pOp vIx (pCall 4 m_used (lCons (pVar 0) (lCons (pVar 1) (lCons (pVar 7) (lCons (pVar 3) lNil))))) (pC (.int 1))) (lCons (pVar 10) lNil))))))) (sRet (eP (pC (.bl false)))) sNil))))))) sNil))))
def mb__law_right : SF := (sSeq (sFor (iEn (eP (pVar 2))) (tUn 2 (tsCons (tN 3) (tsCons (tN 4) tsNil))) fb1__law_right) (sRet (eP (pC (.bl true)))))
def m__law_right : MF := mirOf [false, false, false] 8 mb__law_right
def fb1_law : SF := (sSeq (sSet (tUn 2 (tsCons (tN 3) (tsCons (tN 4) tsNil))) (eP (pCall 2 m__law_parts (lCons (pOp (i2 vModI) (pOp vMul (pCall 2 m__law_cell_at (lCons (pVar 0) (lCons (pOp (i2 vSubI) (pC (.int 60)) (pVar 2)) lNil))) (pC (.int 69621))) (pC (.int 2147483647))) (lCons (pVar 1) lNil))))) (sIf (bNot (bV (eP (pCall 3 m__law_right (lCons (pCall 2 m__law_rule (lCons (pCall 2 m__law_cell_at (lCons (pVar 0) (lCons (pOp vAdd (pC (.int 1)) (pVar 2)) lNil))) (lCons (pVar 1) lNil))) (lCons (pVar 3) (lCons (pVar 4) lNil))))))) (sRet (eP (pC (.bl false)))) sNil))
def mb_law : SF := (sSeq (sSet (tN 1) (eP (pOp vAdd (pC (.int 1)) (pOp (i2 vModI) (pCall 2 m__law_cell_at (lCons (pVar 0) (lCons (pC (.int 0)) lNil))) (pC (.int 7)))))) (sSeq (sFor (iR1 (eP (pOp vAdd (pCa (f2 (i2 vMinI)) (lCons (pCa (f1 vLen) (lCons (pVar 0) lNil)) (lCons (pC (.int 30)) lNil))) (pC (.int 1))))) (tN 2) fb1_law) (sRet (eP (pC (.bl true))))))
def m_law : MF := mirOf [false] 4 mb_law
structure Top (K : PySem.W.Frag) (mg : Str → Option Value) : Prop where
  f_can_use : ∃ f fd, Fun K "can_use" "can_use" st_can_use f fd ∧ mg "can_use" = some (.ref f) ∧ Binds K fd ["rule", "block"] []
  f_used : ∃ f fd, Fun K "used" "used" st_used f fd ∧ mg "used" = some (.ref f) ∧ Binds K fd ["rule", "fixed", "blocks", "at"] []
  f__law_cell_at : ∃ f fd, Fun K "_law_cell_at" "_law_cell_at" st__law_cell_at f fd ∧ mg "_law_cell_at" = some (.ref f) ∧ Binds K fd ["_law_script", "_law_k"] []
  f__law_rule : ∃ f fd, Fun K "_law_rule" "_law_rule" st__law_rule f fd ∧ mg "_law_rule" = some (.ref f) ∧ Binds K fd ["_law_cell", "_law_many"] []
  f__law_usable : ∃ f fd, Fun K "_law_usable" "_law_usable" st__law_usable f fd ∧ mg "_law_usable" = some (.ref f) ∧ Binds K fd ["_law_rule_here", "_law_block"] []
  f__law_behind : ∃ f fd, Fun K "_law_behind" "_law_behind" st__law_behind f fd ∧ mg "_law_behind" = some (.ref f) ∧ Binds K fd ["_law_rule_here", "_law_fixed", "_law_blocks", "_law_at"] []
  f__law_whole : ∃ f fd, Fun K "_law_whole" "_law_whole" st__law_whole f fd ∧ mg "_law_whole" = some (.ref f) ∧ Binds K fd ["_law_got"] []
  f__law_wholes : ∃ f fd, Fun K "_law_wholes" "_law_wholes" st__law_wholes f fd ∧ mg "_law_wholes" = some (.ref f) ∧ Binds K fd ["_law_got", "_law_due"] []
  f__law_parts : ∃ f fd, Fun K "_law_parts" "_law_parts" st__law_parts f fd ∧ mg "_law_parts" = some (.ref f) ∧ Binds K fd ["_law_cell", "_law_many"] []
  f__law_right : ∃ f fd, Fun K "_law_right" "_law_right" st__law_right f fd ∧ mg "_law_right" = some (.ref f) ∧ Binds K fd ["_law_rule_here", "_law_fixed", "_law_blocks"] []
  f_law : ∃ f fd, Fun K "law" "law" st_law f fd ∧ mg "law" = some (.ref f) ∧ Binds K fd ["_law_script"] []
  z_all : mg "all" = none
  z_bool : mg "bool" = none
  z_enumerate : mg "enumerate" = none
  z_int : mg "int" = none
  z_isinstance : mg "isinstance" = none
  z_len : mg "len" = none
  z_list : mg "list" = none
  z_min : mg "min" = none
  z_range : mg "range" = none
  z_tuple : mg "tuple" = none
section
variable {P : Program} {w : World} {K : PySem.W.Frag} {mg : Str → Option Value} {base : Heap} {xc : Xc}
theorem cal_can_use (T : Top K mg) : Cal P w K mg base xc "can_use" 1 [false, false] m_can_use := by
  obtain ⟨f, fd, F, hm, hb⟩ := T.f_can_use
  have h := fn_ok (P := P) (w := w) (base := base) (mg := mg) (xc := xc) (N := nn_can_use) (mu := [false, false]) (body := mb_can_use) (k := 0) F sc_can_use rfl fun cdv A outer s H E FF =>
    (k_cons (s_asg (e_p (p_var (i := 0) (fun _ => rfl) (fun _ => .inl lk_can_use_rule) nd_rule nc_rule)) (t_un FF (ts_cons (t_name (i := 2) (fun _ => sc_can_use.nd) (fun _ => rfl) (fun _ => .inl lk_can_use_word) (fun _ => .inl rfl)) (ts_cons (t_name (i := 3) (fun _ => sc_can_use.nd) (fun _ => rfl) (fun _ => .inl lk_can_use_left) (fun _ => .inl rfl)) (ts_cons (t_name (i := 4) (fun _ => sc_can_use.nd) (fun _ => rfl) (fun _ => .inl lk_can_use_right) (fun _ => .inl rfl)) ts_nil))))) (k_cons (s_if (b_v (v_or (b_c (ccNotEq FF (poBitAnd FF (p_var (i := 3) (fun _ => rfl) (fun _ => .inl lk_can_use_left) nd_left nc_left) (p_var (i := 1) (fun _ => rfl) (fun _ => .inl lk_can_use_block) nd_block nc_block)) p_int) (nomark _)) (v_or1 (b_c (ccEq FF (poBitAnd FF (p_var (i := 4) (fun _ => rfl) (fun _ => .inl lk_can_use_right) nd_right nc_right) (p_var (i := 1) (fun _ => rfl) (fun _ => .inl lk_can_use_block) nd_block nc_block)) p_int) (nomark _))))) (k_one (s_ret (e_p p_bl))) k_nil) (k_one (s_ret (e_p (p_or (pcEq FF (p_var (i := 2) (fun _ => rfl) (fun _ => .inl lk_can_use_word) nd_word nc_word) p_str) (p_one (pcNotEq FF (poBitAnd FF (p_var (i := 4) (fun _ => rfl) (fun _ => .inl lk_can_use_right) nd_right nc_right) (p_var (i := 1) (fun _ => rfl) (fun _ => .inl lk_can_use_block) nd_block nc_block)) (p_var (i := 1) (fun _ => rfl) (fun _ => .inl lk_can_use_block) nd_block nc_block)))))))))
  exact ⟨⟨f, fd, ["rule", "block"], h, hm, F.kp, hb⟩⟩
theorem cal_used (T : Top K mg) : Cal P w K mg base xc "used" 1 [false, false, false, false] m_used := by
  obtain ⟨f, fd, F, hm, hb⟩ := T.f_used
  have h := fn_ok (P := P) (w := w) (base := base) (mg := mg) (xc := xc) (N := nn_used) (mu := [false, false, false, false]) (body := mb_used) (k := 0) F sc_used rfl fun cdv A outer s H E FF =>
    (k_cons (s_asg (e_p (p_var (i := 0) (fun _ => rfl) (fun _ => .inl lk_used_rule) nd_rule nc_rule)) (t_un FF (ts_cons (t_name (i := 4) (fun _ => sc_used.nd) (fun _ => rfl) (fun _ => .inl lk_used_word) (fun _ => .inl rfl)) (ts_cons (t_name (i := 5) (fun _ => sc_used.nd) (fun _ => rfl) (fun _ => .inl lk_used_left) (fun _ => .inl rfl)) (ts_cons (t_name (i := 6) (fun _ => sc_used.nd) (fun _ => rfl) (fun _ => .inl lk_used_right) (fun _ => .inl rfl)) ts_nil))))) (k_cons (s_set (i := 7) (fun _ => sc_used.nd) (fun _ => rfl) (fun _ => .inl lk_used_inner) (fun _ => .inl rfl) (e_p (poBitAnd FF (p_ix (fun _ => rfl) (p_var (i := 2) (fun _ => rfl) (fun _ => .inl lk_used_blocks) nd_blocks nc_blocks) (p_var (i := 3) (fun _ => rfl) (fun _ => .inl lk_used_at) nd_at nc_at) (fun _ _ => rfl)) (p_var (i := 6) (fun _ => rfl) (fun _ => .inl lk_used_right) nd_right nc_right)))) (k_cons (s_set (i := 8) (fun _ => sc_used.nd) (fun _ => rfl) (fun _ => .inl lk_used_outer) (fun _ => .inl rfl) (e_p (poSub FF (p_ix (fun _ => rfl) (p_var (i := 2) (fun _ => rfl) (fun _ => .inl lk_used_blocks) nd_blocks nc_blocks) (p_var (i := 3) (fun _ => rfl) (fun _ => .inl lk_used_at) nd_at nc_at) (fun _ _ => rfl)) (p_var (i := 7) (fun _ => rfl) (fun _ => .inl lk_used_inner) nd_inner nc_inner)))) (k_cons (s_new (i := 9) (fun _ => sc_used.nd) (fun _ => rfl) (fun _ => .inl lk_used_fresh) (fun _ => .inl rfl) (en_n (n_lst l_nil))) (k_cons (s_if (b_c (ccEq FF (p_var (i := 4) (fun _ => rfl) (fun _ => .inl lk_used_word) nd_word nc_word) p_str) (nomark _)) (k_one (s_set (i := 1) (fun _ => sc_used.nd) (fun _ => rfl) (fun _ => .inl lk_used_fixed) (fun _ => .inl rfl) (e_p (poBitOr FF (p_var (i := 1) (fun _ => rfl) (fun _ => .inl lk_used_fixed) nd_fixed nc_fixed) (p_var (i := 7) (fun _ => rfl) (fun _ => .inl lk_used_inner) nd_inner nc_inner))))) (k_one (s_expr (e_append (i := 9) FF (fun _ => rfl) (fun _ => .inl lk_used_fresh) (e_p (p_var (i := 7) (fun _ => rfl) (fun _ => .inl lk_used_inner) nd_inner nc_inner)) nd_fresh nc_fresh)))) (k_cons (s_if (b_c (ccNotEq FF (p_var (i := 8) (fun _ => rfl) (fun _ => .inl lk_used_outer) nd_outer nc_outer) p_int) (nomark _)) (k_one (s_expr (e_append (i := 9) FF (fun _ => rfl) (fun _ => .inl lk_used_fresh) (e_p (p_var (i := 8) (fun _ => rfl) (fun _ => .inl lk_used_outer) nd_outer nc_outer)) nd_fresh nc_fresh))) k_nil) (k_one (s_retNew (en_n (n_box1 (p_var (i := 1) (fun _ => rfl) (fun _ => .inl lk_used_fixed) nd_fixed nc_fixed) (n_frz 9 (noAdd FF (poAdd FF (p_sl (fun _ => rfl) (p_var (i := 2) (fun _ => rfl) (fun _ => .inl lk_used_blocks) nd_blocks nc_blocks) o_no (o_so (p_var (i := 3) (fun _ => rfl) (fun _ => .inl lk_used_at) nd_at nc_at))) (p_var (i := 9) (fun _ => rfl) (fun _ => .inl lk_used_fresh) nd_fresh nc_fresh)) (p_sl (fun _ => rfl) (p_var (i := 2) (fun _ => rfl) (fun _ => .inl lk_used_blocks) nd_blocks nc_blocks) (o_so (poAdd FF (p_var (i := 3) (fun _ => rfl) (fun _ => .inl lk_used_at) nd_at nc_at) p_int)) o_no)))))))))))))
  exact ⟨⟨f, fd, ["rule", "fixed", "blocks", "at"], h, hm, F.kp, hb⟩⟩
theorem cal__law_cell_at (T : Top K mg) : Cal P w K mg base xc "_law_cell_at" 1 [false, false] m__law_cell_at := by
  obtain ⟨f, fd, F, hm, hb⟩ := T.f__law_cell_at
  have h := fn_ok (P := P) (w := w) (base := base) (mg := mg) (xc := xc) (N := nn__law_cell_at) (mu := [false, false]) (body := mb__law_cell_at) (k := 0) F sc__law_cell_at rfl fun cdv A outer s H E FF =>
    (k_cons (s_if (b_c (ccLt FF (p_var (i := 1) (fun _ => rfl) (fun _ => .inl lk__law_cell_at__law_k) nd__law_k nc__law_k) (pb_len FF (fun _ => gl__law_cell_at_len) T.z_len (p_var (i := 0) (fun _ => rfl) (fun _ => .inl lk__law_cell_at__law_script) nd__law_script nc__law_script))) (nomark _)) (k_one (s_ret (e_p (poMod FF (p_ix (fun _ => rfl) (p_var (i := 0) (fun _ => rfl) (fun _ => .inl lk__law_cell_at__law_script) nd__law_script nc__law_script) (p_var (i := 1) (fun _ => rfl) (fun _ => .inl lk__law_cell_at__law_k) nd__law_k nc__law_k) (fun _ _ => rfl)) p_int)))) k_nil) (k_cons (s_set (i := 2) (fun _ => sc__law_cell_at.nd) (fun _ => rfl) (fun _ => .inl lk__law_cell_at__law_number) (fun _ => .inl rfl) (e_p (poAdd FF (poMult FF (poMult FF (p_var (i := 1) (fun _ => rfl) (fun _ => .inl lk__law_cell_at__law_k) nd__law_k nc__law_k) (p_var (i := 1) (fun _ => rfl) (fun _ => .inl lk__law_cell_at__law_k) nd__law_k nc__law_k)) p_int) p_int))) (k_cons (s_if (b_c (ccGt FF (pb_len FF (fun _ => gl__law_cell_at_len) T.z_len (p_var (i := 0) (fun _ => rfl) (fun _ => .inl lk__law_cell_at__law_script) nd__law_script nc__law_script)) p_int) (nomark _)) (k_one (s_set (i := 2) (fun _ => sc__law_cell_at.nd) (fun _ => rfl) (fun _ => .inl lk__law_cell_at__law_number) (fun _ => .inl rfl) (e_p (poAdd FF (p_var (i := 2) (fun _ => rfl) (fun _ => .inl lk__law_cell_at__law_number) nd__law_number nc__law_number) (poMult FF (poMod FF (p_ix (fun _ => rfl) (p_var (i := 0) (fun _ => rfl) (fun _ => .inl lk__law_cell_at__law_script) nd__law_script nc__law_script) (poMod FF (p_var (i := 1) (fun _ => rfl) (fun _ => .inl lk__law_cell_at__law_k) nd__law_k nc__law_k) (pb_len FF (fun _ => gl__law_cell_at_len) T.z_len (p_var (i := 0) (fun _ => rfl) (fun _ => .inl lk__law_cell_at__law_script) nd__law_script nc__law_script))) (fun _ _ => rfl)) p_int) p_int))))) k_nil) (k_one (s_ret (e_p (poMod FF (poMult FF (p_var (i := 2) (fun _ => rfl) (fun _ => .inl lk__law_cell_at__law_number) nd__law_number nc__law_number) (p_var (i := 2) (fun _ => rfl) (fun _ => .inl lk__law_cell_at__law_number) nd__law_number nc__law_number)) p_int)))))))
  exact ⟨⟨f, fd, ["_law_script", "_law_k"], h, hm, F.kp, hb⟩⟩
theorem cal__law_rule (T : Top K mg) : Cal P w K mg base xc "_law_rule" 1 [false, false] m__law_rule := by
  obtain ⟨f, fd, F, hm, hb⟩ := T.f__law_rule
  have h := fn_ok (P := P) (w := w) (base := base) (mg := mg) (xc := xc) (N := nn__law_rule) (mu := [false, false]) (body := mb__law_rule) (k := 0) F sc__law_rule rfl fun cdv A outer s H E FF =>
    (k_cons (s_set (i := 2) (fun _ => sc__law_rule.nd) (fun _ => rfl) (fun _ => .inl lk__law_rule__law_full) (fun _ => .inl rfl) (e_p (poLShift FF p_int (p_var (i := 1) (fun _ => rfl) (fun _ => .inl lk__law_rule__law_many) nd__law_many nc__law_many)))) (k_cons (s_set (i := 3) (fun _ => sc__law_rule.nd) (fun _ => rfl) (fun _ => .inl lk__law_rule__law_left) (fun _ => .inl rfl) (e_p (poMod FF (poFloorDiv FF (p_var (i := 0) (fun _ => rfl) (fun _ => .inl lk__law_rule__law_cell) nd__law_cell nc__law_cell) p_int) (p_var (i := 2) (fun _ => rfl) (fun _ => .inl lk__law_rule__law_full) nd__law_full nc__law_full)))) (k_cons (s_if (b_c (ccGt FF (poMod FF (poFloorDiv FF (p_var (i := 0) (fun _ => rfl) (fun _ => .inl lk__law_rule__law_cell) nd__law_cell nc__law_cell) p_int) p_int) p_int) (nomark _)) (k_one (s_set (i := 3) (fun _ => sc__law_rule.nd) (fun _ => rfl) (fun _ => .inl lk__law_rule__law_left) (fun _ => .inl rfl) (e_p (poBitAnd FF (p_var (i := 3) (fun _ => rfl) (fun _ => .inl lk__law_rule__law_left) nd__law_left nc__law_left) (poMod FF (poFloorDiv FF (p_var (i := 0) (fun _ => rfl) (fun _ => .inl lk__law_rule__law_cell) nd__law_cell nc__law_cell) p_int) (p_var (i := 2) (fun _ => rfl) (fun _ => .inl lk__law_rule__law_full) nd__law_full nc__law_full)))))) k_nil) (k_cons (s_set (i := 4) (fun _ => sc__law_rule.nd) (fun _ => rfl) (fun _ => .inl lk__law_rule__law_right_here) (fun _ => .inl rfl) (e_p (poMod FF (poFloorDiv FF (p_var (i := 0) (fun _ => rfl) (fun _ => .inl lk__law_rule__law_cell) nd__law_cell nc__law_cell) p_int) (p_var (i := 2) (fun _ => rfl) (fun _ => .inl lk__law_rule__law_full) nd__law_full nc__law_full)))) (k_cons (s_if (b_c (ccEq FF (poMod FF (poFloorDiv FF (p_var (i := 0) (fun _ => rfl) (fun _ => .inl lk__law_rule__law_cell) nd__law_cell nc__law_cell) p_int) p_int) p_int) (nomark _)) (k_one (s_set (i := 4) (fun _ => sc__law_rule.nd) (fun _ => rfl) (fun _ => .inl lk__law_rule__law_right_here) (fun _ => .inl rfl) (e_p (poBitAnd FF (p_var (i := 4) (fun _ => rfl) (fun _ => .inl lk__law_rule__law_right_here) nd__law_right_here nc__law_right_here) (poMod FF (poMod FF (poMult FF (p_var (i := 0) (fun _ => rfl) (fun _ => .inl lk__law_rule__law_cell) nd__law_cell nc__law_cell) p_int) p_int) (p_var (i := 2) (fun _ => rfl) (fun _ => .inl lk__law_rule__law_full) nd__law_full nc__law_full)))))) k_nil) (k_one (s_ret (e_p (p_tup (l_cons (p_ix (fun _ => rfl) (p_new (n_lst (l_cons p_str (l_cons p_str (l_cons p_str l_nil))))) (poMod FF (p_var (i := 0) (fun _ => rfl) (fun _ => .inl lk__law_rule__law_cell) nd__law_cell nc__law_cell) p_int) (fun _ _ => rfl)) (l_cons (p_var (i := 3) (fun _ => rfl) (fun _ => .inl lk__law_rule__law_left) nd__law_left nc__law_left) (l_cons (p_var (i := 4) (fun _ => rfl) (fun _ => .inl lk__law_rule__law_right_here) nd__law_right_here nc__law_right_here) l_nil))))))))))))
  exact ⟨⟨f, fd, ["_law_cell", "_law_many"], h, hm, F.kp, hb⟩⟩
theorem cal__law_usable (T : Top K mg) : Cal P w K mg base xc "_law_usable" 1 [false, false] m__law_usable := by
  obtain ⟨f, fd, F, hm, hb⟩ := T.f__law_usable
  have h := fn_ok (P := P) (w := w) (base := base) (mg := mg) (xc := xc) (N := nn__law_usable) (mu := [false, false]) (body := mb__law_usable) (k := 0) F sc__law_usable rfl fun cdv A outer s H E FF =>
    (k_cons (s_if (b_v (v_or (b_c (ccNotEq FF (poBitAnd FF (p_ix (fun _ => rfl) (p_var (i := 0) (fun _ => rfl) (fun _ => .inl lk__law_usable__law_rule_here) nd__law_rule_here nc__law_rule_here) p_int (fun _ _ => rfl)) (p_var (i := 1) (fun _ => rfl) (fun _ => .inl lk__law_usable__law_block) nd__law_block nc__law_block)) p_int) (nomark _)) (v_or1 (b_c (ccEq FF (poBitAnd FF (p_ix (fun _ => rfl) (p_var (i := 0) (fun _ => rfl) (fun _ => .inl lk__law_usable__law_rule_here) nd__law_rule_here nc__law_rule_here) p_int (fun _ _ => rfl)) (p_var (i := 1) (fun _ => rfl) (fun _ => .inl lk__law_usable__law_block) nd__law_block nc__law_block)) p_int) (nomark _))))) (k_one (s_ret (e_p p_bl))) k_nil) (k_one (s_ret (e_p (p_or (pcEq FF (p_ix (fun _ => rfl) (p_var (i := 0) (fun _ => rfl) (fun _ => .inl lk__law_usable__law_rule_here) nd__law_rule_here nc__law_rule_here) p_int (fun _ _ => rfl)) p_str) (p_one (pcNotEq FF (poBitAnd FF (p_ix (fun _ => rfl) (p_var (i := 0) (fun _ => rfl) (fun _ => .inl lk__law_usable__law_rule_here) nd__law_rule_here nc__law_rule_here) p_int (fun _ _ => rfl)) (p_var (i := 1) (fun _ => rfl) (fun _ => .inl lk__law_usable__law_block) nd__law_block nc__law_block)) (p_var (i := 1) (fun _ => rfl) (fun _ => .inl lk__law_usable__law_block) nd__law_block nc__law_block))))))))
  exact ⟨⟨f, fd, ["_law_rule_here", "_law_block"], h, hm, F.kp, hb⟩⟩
theorem cal__law_behind (T : Top K mg) : Cal P w K mg base xc "_law_behind" 1 [false, false, false, false] m__law_behind := by
  obtain ⟨f, fd, F, hm, hb⟩ := T.f__law_behind
  have h := fn_ok (P := P) (w := w) (base := base) (mg := mg) (xc := xc) (N := nn__law_behind) (mu := [false, false, false, false]) (body := mb__law_behind) (k := 0) F sc__law_behind rfl fun cdv A outer s H E FF =>
    (k_cons (s_set (i := 4) (fun _ => sc__law_behind.nd) (fun _ => rfl) (fun _ => .inl lk__law_behind__law_inner) (fun _ => .inl rfl) (e_p (poBitAnd FF (p_ix (fun _ => rfl) (p_var (i := 2) (fun _ => rfl) (fun _ => .inl lk__law_behind__law_blocks) nd__law_blocks nc__law_blocks) (p_var (i := 3) (fun _ => rfl) (fun _ => .inl lk__law_behind__law_at) nd__law_at nc__law_at) (fun _ _ => rfl)) (p_ix (fun _ => rfl) (p_var (i := 0) (fun _ => rfl) (fun _ => .inl lk__law_behind__law_rule_here) nd__law_rule_here nc__law_rule_here) p_int (fun _ _ => rfl))))) (k_cons (s_set (i := 5) (fun _ => sc__law_behind.nd) (fun _ => rfl) (fun _ => .inl lk__law_behind__law_outer) (fun _ => .inl rfl) (e_p (poSub FF (p_ix (fun _ => rfl) (p_var (i := 2) (fun _ => rfl) (fun _ => .inl lk__law_behind__law_blocks) nd__law_blocks nc__law_blocks) (p_var (i := 3) (fun _ => rfl) (fun _ => .inl lk__law_behind__law_at) nd__law_at nc__law_at) (fun _ _ => rfl)) (p_var (i := 4) (fun _ => rfl) (fun _ => .inl lk__law_behind__law_inner) nd__law_inner nc__law_inner)))) (k_cons (s_if (b_c (ccEq FF (p_ix (fun _ => rfl) (p_var (i := 0) (fun _ => rfl) (fun _ => .inl lk__law_behind__law_rule_here) nd__law_rule_here nc__law_rule_here) p_int (fun _ _ => rfl)) p_str) (nomark _)) (k_one (s_ret (e_p (p_tup (l_cons (poAdd FF (p_var (i := 1) (fun _ => rfl) (fun _ => .inl lk__law_behind__law_fixed) nd__law_fixed nc__law_fixed) (p_var (i := 4) (fun _ => rfl) (fun _ => .inl lk__law_behind__law_inner) nd__law_inner nc__law_inner)) (l_cons (poAdd FF (poAdd FF (p_sl (fun _ => rfl) (p_var (i := 2) (fun _ => rfl) (fun _ => .inl lk__law_behind__law_blocks) nd__law_blocks nc__law_blocks) o_no (o_so (p_var (i := 3) (fun _ => rfl) (fun _ => .inl lk__law_behind__law_at) nd__law_at nc__law_at))) (poMult FF (p_new (n_lst (l_cons (p_var (i := 5) (fun _ => rfl) (fun _ => .inl lk__law_behind__law_outer) nd__law_outer nc__law_outer) l_nil))) (pb_int FF (fun _ => gl__law_behind_int) T.z_int (pcGt FF (p_var (i := 5) (fun _ => rfl) (fun _ => .inl lk__law_behind__law_outer) nd__law_outer nc__law_outer) p_int)))) (p_sl (fun _ => rfl) (p_var (i := 2) (fun _ => rfl) (fun _ => .inl lk__law_behind__law_blocks) nd__law_blocks nc__law_blocks) (o_so (poAdd FF (p_var (i := 3) (fun _ => rfl) (fun _ => .inl lk__law_behind__law_at) nd__law_at nc__law_at) p_int)) o_no)) l_nil)))))) k_nil) (k_one (s_ret (e_p (p_tup (l_cons (p_var (i := 1) (fun _ => rfl) (fun _ => .inl lk__law_behind__law_fixed) nd__law_fixed nc__law_fixed) (l_cons (poAdd FF (poAdd FF (p_sl (fun _ => rfl) (p_var (i := 2) (fun _ => rfl) (fun _ => .inl lk__law_behind__law_blocks) nd__law_blocks nc__law_blocks) o_no (o_so (p_var (i := 3) (fun _ => rfl) (fun _ => .inl lk__law_behind__law_at) nd__law_at nc__law_at))) (p_new (n_lst (l_cons (p_var (i := 4) (fun _ => rfl) (fun _ => .inl lk__law_behind__law_inner) nd__law_inner nc__law_inner) (l_cons (p_var (i := 5) (fun _ => rfl) (fun _ => .inl lk__law_behind__law_outer) nd__law_outer nc__law_outer) l_nil))))) (p_sl (fun _ => rfl) (p_var (i := 2) (fun _ => rfl) (fun _ => .inl lk__law_behind__law_blocks) nd__law_blocks nc__law_blocks) (o_so (poAdd FF (p_var (i := 3) (fun _ => rfl) (fun _ => .inl lk__law_behind__law_at) nd__law_at nc__law_at) p_int)) o_no)) l_nil)))))))))
  exact ⟨⟨f, fd, ["_law_rule_here", "_law_fixed", "_law_blocks", "_law_at"], h, hm, F.kp, hb⟩⟩
theorem cal__law_whole (T : Top K mg) : Cal P w K mg base xc "_law_whole" 1 [false] m__law_whole := by
  obtain ⟨f, fd, F, hm, hb⟩ := T.f__law_whole
  have h := fn_ok (P := P) (w := w) (base := base) (mg := mg) (xc := xc) (N := nn__law_whole) (mu := [false]) (body := mb__law_whole) (k := 0) F sc__law_whole rfl fun cdv A outer s H E FF =>
    (k_one (s_ret (e_p (p_and (pb_isi FF (fun _ => gl__law_whole_isinstance) T.z_isinstance (p_var (i := 0) (fun _ => rfl) (fun _ => .inl lk__law_whole__law_got) nd__law_got nc__law_got) (p_ty FF (fun _ => gl__law_whole_int) T.z_int boot_int)) (p_one (p_not (pb_isi FF (fun _ => gl__law_whole_isinstance) T.z_isinstance (p_var (i := 0) (fun _ => rfl) (fun _ => .inl lk__law_whole__law_got) nd__law_got nc__law_got) (p_ty FF (fun _ => gl__law_whole_bool) T.z_bool boot_bool))))))))
  exact ⟨⟨f, fd, ["_law_got"], h, hm, F.kp, hb⟩⟩
theorem cal__law_wholes (T : Top K mg) : Cal P w K mg base xc "_law_wholes" 2 [false, false] m__law_wholes := by
  obtain ⟨f, fd, F, hm, hb⟩ := T.f__law_wholes
  have h := fn_ok (P := P) (w := w) (base := base) (mg := mg) (xc := xc) (N := nn__law_wholes) (mu := [false, false]) (body := mb__law_wholes) (k := 1) F sc__law_wholes rfl fun cdv A outer s H E FF =>
    (k_cons (s_if (b_v (v_or (b_not (b_val (e_p (pb_isi FF (fun _ => gl__law_wholes_isinstance) T.z_isinstance (p_var (i := 0) (fun _ => rfl) (fun _ => .inl lk__law_wholes__law_got) nd__law_got nc__law_got) (p_ty FF (fun _ => gl__law_wholes_list) T.z_list boot_list))))) (v_or1 (b_c (ccNotEq FF (p_var (i := 0) (fun _ => rfl) (fun _ => .inl lk__law_wholes__law_got) nd__law_got nc__law_got) (p_var (i := 1) (fun _ => rfl) (fun _ => .inl lk__law_wholes__law_due) nd__law_due nc__law_due)) (nomark _))))) (k_one (s_ret (e_p p_bl))) k_nil) (k_one (s_ret (e_p (pb_all FF (fun _ => gl__law_wholes_all) T.z_all (p_e (e_en (en_lc FF (fun _ => sc__law_wholes.nd) (fun _ => blkOk_by (own := [("_law_one", 2)]) (N := nn__law_wholes) (sc := (defScope st__law_wholes)) (by decide +kernel)) (i_seq FF (e_p (p_var (i := 0) (fun _ => rfl) (fun _ => .inl lk__law_wholes__law_got) nd__law_got nc__law_got))) (t_name (i := 2) (fun _ => sc__law_wholes.nd) (fun _ => rfl) (fun _ => loc_own (by decide +kernel)) (fun _ => .inr (lk_own (by decide +kernel)))) ts_none (e_p (p_call (n := 1) (FF.blk _) (cal__law_whole T) (Nat.le_of_ble_eq_true rfl) (fun _ => gl_rel (by decide +kernel)) (l_cons (p_var (i := 2) (fun _ => rfl) (fun _ => vis_own (by decide +kernel)) nd__law_one nc__law_one) l_nil) nd__law_whole))))))))))
  exact ⟨⟨f, fd, ["_law_got", "_law_due"], h, hm, F.kp, hb⟩⟩
theorem cal__law_parts (T : Top K mg) : Cal P w K mg base xc "_law_parts" 1 [false, false] m__law_parts := by
  obtain ⟨f, fd, F, hm, hb⟩ := T.f__law_parts
  have h := fn_ok (P := P) (w := w) (base := base) (mg := mg) (xc := xc) (N := nn__law_parts) (mu := [false, false]) (body := mb__law_parts) (k := 0) F sc__law_parts rfl fun cdv A outer s H E FF =>
    (k_cons (s_set (i := 2) (fun _ => sc__law_parts.nd) (fun _ => rfl) (fun _ => .inl lk__law_parts__law_rest) (fun _ => .inl rfl) (e_p (poSub FF (poLShift FF p_int (p_var (i := 1) (fun _ => rfl) (fun _ => .inl lk__law_parts__law_many) nd__law_many nc__law_many)) p_int))) (k_cons (s_set (i := 3) (fun _ => sc__law_parts.nd) (fun _ => rfl) (fun _ => .inl lk__law_parts__law_fixed) (fun _ => .inl rfl) (e_p (poBitAnd FF (poBitAnd FF (poMod FF (p_var (i := 0) (fun _ => rfl) (fun _ => .inl lk__law_parts__law_cell) nd__law_cell nc__law_cell) p_int) (p_var (i := 2) (fun _ => rfl) (fun _ => .inl lk__law_parts__law_rest) nd__law_rest nc__law_rest)) (poFloorDiv FF (p_var (i := 0) (fun _ => rfl) (fun _ => .inl lk__law_parts__law_cell) nd__law_cell nc__law_cell) p_int)))) (k_cons (s_set (i := 2) (fun _ => sc__law_parts.nd) (fun _ => rfl) (fun _ => .inl lk__law_parts__law_rest) (fun _ => .inl rfl) (e_p (poSub FF (p_var (i := 2) (fun _ => rfl) (fun _ => .inl lk__law_parts__law_rest) nd__law_rest nc__law_rest) (p_var (i := 3) (fun _ => rfl) (fun _ => .inl lk__law_parts__law_fixed) nd__law_fixed nc__law_fixed)))) (k_cons (s_new (i := 4) (fun _ => sc__law_parts.nd) (fun _ => rfl) (fun _ => .inl lk__law_parts__law_blocks) (fun _ => .inl rfl) (en_n (n_lst l_nil))) (k_cons (s_while 2147483648 FF (b_v (v_and (b_c (ccGt FF (p_var (i := 2) (fun _ => rfl) (fun _ => .inl lk__law_parts__law_rest) nd__law_rest nc__law_rest) p_int) (nomark _)) (v_and1 (b_c (c_frz 4 (ccLt FF (pb_len FF (fun _ => gl__law_parts_len) T.z_len (p_var (i := 4) (fun _ => rfl) (fun _ => .inl lk__law_parts__law_blocks) nd__law_blocks nc__law_blocks)) p_int)) (nomark _))))) (k_cons (s_set (i := 0) (fun _ => sc__law_parts.nd) (fun _ => rfl) (fun _ => .inl lk__law_parts__law_cell) (fun _ => .inl rfl) (e_p (poMod FF (poMult FF (p_var (i := 0) (fun _ => rfl) (fun _ => .inl lk__law_parts__law_cell) nd__law_cell nc__law_cell) p_int) p_int))) (k_cons (s_set (i := 5) (fun _ => sc__law_parts.nd) (fun _ => rfl) (fun _ => .inl lk__law_parts__law_block) (fun _ => .inl rfl) (e_p (poBitAnd FF (p_var (i := 2) (fun _ => rfl) (fun _ => .inl lk__law_parts__law_rest) nd__law_rest nc__law_rest) (poMod FF (poFloorDiv FF (p_var (i := 0) (fun _ => rfl) (fun _ => .inl lk__law_parts__law_cell) nd__law_cell nc__law_cell) p_int) p_int)))) (k_cons (s_if (b_c (ccGt FF (p_var (i := 5) (fun _ => rfl) (fun _ => .inl lk__law_parts__law_block) nd__law_block nc__law_block) p_int) (nomark _)) (k_one (s_expr (e_append (i := 4) FF (fun _ => rfl) (fun _ => .inl lk__law_parts__law_blocks) (e_p (p_var (i := 5) (fun _ => rfl) (fun _ => .inl lk__law_parts__law_block) nd__law_block nc__law_block)) nd__law_blocks nc__law_blocks))) k_nil) (k_cons (s_set (i := 2) (fun _ => sc__law_parts.nd) (fun _ => rfl) (fun _ => .inl lk__law_parts__law_rest) (fun _ => .inl rfl) (e_p (poSub FF (p_var (i := 2) (fun _ => rfl) (fun _ => .inl lk__law_parts__law_rest) nd__law_rest nc__law_rest) (p_var (i := 5) (fun _ => rfl) (fun _ => .inl lk__law_parts__law_block) nd__law_block nc__law_block)))) (k_one (s_if (b_v (v_and (b_c (ccEq FF (poMod FF (p_var (i := 0) (fun _ => rfl) (fun _ => .inl lk__law_parts__law_cell) nd__law_cell nc__law_cell) p_int) p_int) (nomark _)) (v_and1 (b_c (ccGt FF (p_var (i := 2) (fun _ => rfl) (fun _ => .inl lk__law_parts__law_rest) nd__law_rest nc__law_rest) p_int) (nomark _))))) (k_cons (s_expr (e_append (i := 4) FF (fun _ => rfl) (fun _ => .inl lk__law_parts__law_blocks) (e_p (p_var (i := 2) (fun _ => rfl) (fun _ => .inl lk__law_parts__law_rest) nd__law_rest nc__law_rest)) nd__law_blocks nc__law_blocks)) (k_one (s_set (i := 2) (fun _ => sc__law_parts.nd) (fun _ => rfl) (fun _ => .inl lk__law_parts__law_rest) (fun _ => .inl rfl) (e_p p_int)))) k_nil))))))) (k_frz 4 (k_one (s_ret (e_p (p_tup (l_cons (poAdd FF (p_var (i := 3) (fun _ => rfl) (fun _ => .inl lk__law_parts__law_fixed) nd__law_fixed nc__law_fixed) (p_var (i := 2) (fun _ => rfl) (fun _ => .inl lk__law_parts__law_rest) nd__law_rest nc__law_rest)) (l_cons (p_var (i := 4) (fun _ => rfl) (fun _ => .inl lk__law_parts__law_blocks) nd__law_blocks nc__law_blocks) l_nil))))))))))))
  exact ⟨⟨f, fd, ["_law_cell", "_law_many"], h, hm, F.kp, hb⟩⟩
theorem cal__law_right (T : Top K mg) : Cal P w K mg base xc "_law_right" 3 [false, false, false] m__law_right := by
  obtain ⟨f, fd, F, hm, hb⟩ := T.f__law_right
  have h := fn_ok (P := P) (w := w) (base := base) (mg := mg) (xc := xc) (N := nn__law_right) (mu := [false, false, false]) (body := mb__law_right) (k := 2) F sc__law_right rfl fun cdv A outer s H E FF =>
    (k_cons (s_for FF (i_enum FF (fun _ => gl__law_right_enumerate) T.z_enumerate (e_p (p_var (i := 2) (fun _ => rfl) (fun _ => .inl lk__law_right__law_blocks) nd__law_blocks nc__law_blocks))) (t_un FF (ts_cons (t_name (i := 3) (fun _ => sc__law_right.nd) (fun _ => rfl) (fun _ => .inl lk__law_right__law_at) (fun _ => .inl rfl)) (ts_cons (t_name (i := 4) (fun _ => sc__law_right.nd) (fun _ => rfl) (fun _ => .inl lk__law_right__law_block) (fun _ => .inl rfl)) ts_nil))) (k_cons (s_set (i := 5) (fun _ => sc__law_right.nd) (fun _ => rfl) (fun _ => .inl lk__law_right__law_due) (fun _ => .inl rfl) (e_p (p_call (n := 2) FF (cal__law_usable T) (Nat.le_of_ble_eq_true rfl) (fun _ => gl__law_right__law_usable) (l_cons (p_var (i := 0) (fun _ => rfl) (fun _ => .inl lk__law_right__law_rule_here) nd__law_rule_here nc__law_rule_here) (l_cons (p_var (i := 4) (fun _ => rfl) (fun _ => .inl lk__law_right__law_block) nd__law_block nc__law_block) l_nil)) nd__law_usable))) (k_cons (s_set (i := 6) (fun _ => sc__law_right.nd) (fun _ => rfl) (fun _ => .inl lk__law_right__law_told) (fun _ => .inl rfl) (e_p (p_call (n := 2) FF (cal_can_use T) (Nat.le_of_ble_eq_true rfl) (fun _ => gl__law_right_can_use) (l_cons (p_var (i := 0) (fun _ => rfl) (fun _ => .inl lk__law_right__law_rule_here) nd__law_rule_here nc__law_rule_here) (l_cons (p_var (i := 4) (fun _ => rfl) (fun _ => .inl lk__law_right__law_block) nd__law_block nc__law_block) l_nil)) nd_can_use))) (k_cons (s_if (b_v (v_or (b_not (b_val (e_p (pb_isi FF (fun _ => gl__law_right_isinstance) T.z_isinstance (p_var (i := 6) (fun _ => rfl) (fun _ => .inl lk__law_right__law_told) nd__law_told nc__law_told) (p_ty FF (fun _ => gl__law_right_bool) T.z_bool boot_bool))))) (v_or1 (b_c (ccNotEq FF (p_var (i := 6) (fun _ => rfl) (fun _ => .inl lk__law_right__law_told) nd__law_told nc__law_told) (p_var (i := 5) (fun _ => rfl) (fun _ => .inl lk__law_right__law_due) nd__law_due nc__law_due)) (nomark _))))) (k_one (s_ret (e_p p_bl))) k_nil) (k_one (s_if (b_val (e_p (p_var (i := 5) (fun _ => rfl) (fun _ => .inl lk__law_right__law_due) nd__law_due nc__law_due))) (k_cons (s_set (i := 7) (fun _ => sc__law_right.nd) (fun _ => rfl) (fun _ => .inl lk__law_right__law_handed) (fun _ => .inl rfl) (e_p (p_new (nb_list FF (fun _ => gl__law_right_list) T.z_list (p_var (i := 2) (fun _ => rfl) (fun _ => .inl lk__law_right__law_blocks) nd__law_blocks nc__law_blocks))))) (k_cons (s_new (i := 8) (fun _ => sc__law_right.nd) (fun _ => rfl) (fun _ => .inl lk__law_right__law_got) (fun _ => .inl rfl) (en_call FF (cal_used T) (Nat.le_of_ble_eq_true rfl) (fun _ => gl__law_right_used) (g_val (e_p (p_var (i := 0) (fun _ => rfl) (fun _ => .inl lk__law_right__law_rule_here) nd__law_rule_here nc__law_rule_here)) (g_val (e_p (p_var (i := 1) (fun _ => rfl) (fun _ => .inl lk__law_right__law_fixed) nd__law_fixed nc__law_fixed)) (g_val (e_p (p_var (i := 7) (fun _ => rfl) (fun _ => .inl lk__law_right__law_handed) nd__law_handed nc__law_handed)) (g_val (e_p (p_var (i := 3) (fun _ => rfl) (fun _ => .inl lk__law_right__law_at) nd__law_at nc__law_at)) g_nil)))) nd_used)) (k_cons (s_if (b_v (v_or (b_not (b_val (e_p (p_frz 8 (pb_isi FF (fun _ => gl__law_right_isinstance) T.z_isinstance (p_var (i := 8) (fun _ => rfl) (fun _ => .inl lk__law_right__law_got) nd__law_got nc__law_got) (p_ty FF (fun _ => gl__law_right_tuple) T.z_tuple boot_tuple)))))) (v_or (b_c (c_frz 8 (ccNotEq FF (pb_len FF (fun _ => gl__law_right_len) T.z_len (p_var (i := 8) (fun _ => rfl) (fun _ => .inl lk__law_right__law_got) nd__law_got nc__law_got)) p_int)) (nomark _)) (v_or (b_not (b_val (e_p (p_frz 8 (p_call (n := 1) FF (cal__law_whole T) (Nat.le_of_ble_eq_true rfl) (fun _ => gl__law_right__law_whole) (l_cons (p_ix (fun _ => rfl) (p_var (i := 8) (fun _ => rfl) (fun _ => .inl lk__law_right__law_got) nd__law_got nc__law_got) p_int (fun _ _ => rfl)) l_nil) nd__law_whole))))) (v_or1 (b_c (ccNotEq FF (p_var (i := 7) (fun _ => rfl) (fun _ => .inl lk__law_right__law_handed) nd__law_handed nc__law_handed) (p_var (i := 2) (fun _ => rfl) (fun _ => .inl lk__law_right__law_blocks) nd__law_blocks nc__law_blocks)) (nomark _))))))) (k_one (s_ret (e_p p_bl))) k_nil) (k_cons (s_asg (e_p (p_call (n := 4) FF (cal__law_behind T) (Nat.le_of_ble_eq_true rfl) (fun _ => gl__law_right__law_behind) (l_cons (p_var (i := 0) (fun _ => rfl) (fun _ => .inl lk__law_right__law_rule_here) nd__law_rule_here nc__law_rule_here) (l_cons (p_var (i := 1) (fun _ => rfl) (fun _ => .inl lk__law_right__law_fixed) nd__law_fixed nc__law_fixed) (l_cons (p_var (i := 2) (fun _ => rfl) (fun _ => .inl lk__law_right__law_blocks) nd__law_blocks nc__law_blocks) (l_cons (p_var (i := 3) (fun _ => rfl) (fun _ => .inl lk__law_right__law_at) nd__law_at nc__law_at) l_nil)))) nd__law_behind)) (t_un FF (ts_cons (t_name (i := 9) (fun _ => sc__law_right.nd) (fun _ => rfl) (fun _ => .inl lk__law_right__law_after) (fun _ => .inl rfl)) (ts_cons (t_name (i := 10) (fun _ => sc__law_right.nd) (fun _ => rfl) (fun _ => .inl lk__law_right__law_later_on) (fun _ => .inl rfl)) ts_nil)))) (k_cons (s_if (b_v (v_or (b_c (c_frz 8 (ccNotEq FF (p_ix (fun _ => rfl) (p_var (i := 8) (fun _ => rfl) (fun _ => .inl lk__law_right__law_got) nd__law_got nc__law_got) p_int (fun _ _ => rfl)) (p_var (i := 9) (fun _ => rfl) (fun _ => .inl lk__law_right__law_after) nd__law_after nc__law_after))) (nomark _)) (v_or1 (b_not (b_val (e_p (p_frz 8 (p_call (n := 2) FF (cal__law_wholes T) (Nat.le_of_ble_eq_true rfl) (fun _ => gl__law_right__law_wholes) (l_cons (p_ix (fun _ => rfl) (p_var (i := 8) (fun _ => rfl) (fun _ => .inl lk__law_right__law_got) nd__law_got nc__law_got) p_int (fun _ _ => rfl)) (l_cons (p_var (i := 10) (fun _ => rfl) (fun _ => .inl lk__law_right__law_later_on) nd__law_later_on nc__law_later_on) l_nil)) nd__law_wholes)))))))) (k_one (s_ret (e_p p_bl))) k_nil) (k_cons (s_expr (e_boxApp (i := 8) (k := 1) FF (fun _ => rfl) (fun _ => .inl lk__law_right__law_got) p_int nd__law_got nc__law_got)) (k_one (s_if (b_v (v_or (b_c (ccNotEq FF (p_var (i := 7) (fun _ => rfl) (fun _ => .inl lk__law_right__law_handed) nd__law_handed nc__law_handed) (p_var (i := 2) (fun _ => rfl) (fun _ => .inl lk__law_right__law_blocks) nd__law_blocks nc__law_blocks)) (nomark _)) (v_or1 (b_not (b_val (e_p (p_call (n := 2) FF (cal__law_wholes T) (Nat.le_of_ble_eq_true rfl) (fun _ => gl__law_right__law_wholes) (l_cons (p_ix (fun _ => rfl) (p_call (n := 4) FF (cal_used T) (Nat.le_of_ble_eq_true rfl) (fun _ => gl__law_right_used) (l_cons (p_var (i := 0) (fun _ => rfl) (fun _ => .inl lk__law_right__law_rule_here) nd__law_rule_here nc__law_rule_here) (l_cons (p_var (i := 1) (fun _ => rfl) (fun _ => .inl lk__law_right__law_fixed) nd__law_fixed nc__law_fixed) (l_cons (p_var (i := 7) (fun _ => rfl) (fun _ => .inl lk__law_right__law_handed) nd__law_handed nc__law_handed) (l_cons (p_var (i := 3) (fun _ => rfl) (fun _ => .inl lk__law_right__law_at) nd__law_at nc__law_at) l_nil)))) nd_used) p_int (fun _ _ => rfl)) (l_cons (p_var (i := 10) (fun _ => rfl) (fun _ => .inl lk__law_right__law_later_on) nd__law_later_on nc__law_later_on) l_nil)) nd__law_wholes))))))) (k_one (s_ret (e_p p_bl))) k_nil)))))))) k_nil)))))) (k_one (s_ret (e_p p_bl))))
  exact ⟨⟨f, fd, ["_law_rule_here", "_law_fixed", "_law_blocks"], h, hm, F.kp, hb⟩⟩
theorem ok_law (T : Top K mg) {f : Addr} {fd : FuncData} (F : Fun K "law" "law" st_law f fd) : FnOk P w K mg base (L2.CX P w) 4 f fd ["_law_script"] (spOf K xc [false] m_law) :=
  fn_ok (P := P) (w := w) (base := base) (mg := mg) (xc := xc) (N := nn_law) (mu := [false]) (body := mb_law) (k := 3) F sc_law rfl fun cdv A outer s H E FF =>
    (k_cons (s_set (i := 1) (fun _ => sc_law.nd) (fun _ => rfl) (fun _ => .inl lk_law__law_many) (fun _ => .inl rfl) (e_p (poAdd FF p_int (poMod FF (p_call (n := 2) FF (cal__law_cell_at T) (Nat.le_of_ble_eq_true rfl) (fun _ => gl_law__law_cell_at) (l_cons (p_var (i := 0) (fun _ => rfl) (fun _ => .inl lk_law__law_script) nd__law_script nc__law_script) (l_cons p_int l_nil)) nd__law_cell_at) p_int)))) (k_cons (s_for FF (i_r1 FF (fun _ => gl_law_range) T.z_range (e_p (poAdd FF (pb_min FF (fun _ => gl_law_min) T.z_min (pb_len FF (fun _ => gl_law_len) T.z_len (p_var (i := 0) (fun _ => rfl) (fun _ => .inl lk_law__law_script) nd__law_script nc__law_script)) p_int) p_int))) (t_name (i := 2) (fun _ => sc_law.nd) (fun _ => rfl) (fun _ => .inl lk_law__law_k) (fun _ => .inl rfl)) (k_cons (s_asg (e_p (p_call (n := 2) FF (cal__law_parts T) (Nat.le_of_ble_eq_true rfl) (fun _ => gl_law__law_parts) (l_cons (poMod FF (poMult FF (p_call (n := 2) FF (cal__law_cell_at T) (Nat.le_of_ble_eq_true rfl) (fun _ => gl_law__law_cell_at) (l_cons (p_var (i := 0) (fun _ => rfl) (fun _ => .inl lk_law__law_script) nd__law_script nc__law_script) (l_cons (poSub FF p_int (p_var (i := 2) (fun _ => rfl) (fun _ => .inl lk_law__law_k) nd__law_k nc__law_k)) l_nil)) nd__law_cell_at) p_int) p_int) (l_cons (p_var (i := 1) (fun _ => rfl) (fun _ => .inl lk_law__law_many) nd__law_many nc__law_many) l_nil)) nd__law_parts)) (t_un FF (ts_cons (t_name (i := 3) (fun _ => sc_law.nd) (fun _ => rfl) (fun _ => .inl lk_law__law_fixed) (fun _ => .inl rfl)) (ts_cons (t_name (i := 4) (fun _ => sc_law.nd) (fun _ => rfl) (fun _ => .inl lk_law__law_blocks) (fun _ => .inl rfl)) ts_nil)))) (k_one (s_if (b_not (b_val (e_p (p_call (n := 3) FF (cal__law_right T) (Nat.le_of_ble_eq_true rfl) (fun _ => gl_law__law_right) (l_cons (p_call (n := 2) FF (cal__law_rule T) (Nat.le_of_ble_eq_true rfl) (fun _ => gl_law__law_rule) (l_cons (p_call (n := 2) FF (cal__law_cell_at T) (Nat.le_of_ble_eq_true rfl) (fun _ => gl_law__law_cell_at) (l_cons (p_var (i := 0) (fun _ => rfl) (fun _ => .inl lk_law__law_script) nd__law_script nc__law_script) (l_cons (poAdd FF p_int (p_var (i := 2) (fun _ => rfl) (fun _ => .inl lk_law__law_k) nd__law_k nc__law_k)) l_nil)) nd__law_cell_at) (l_cons (p_var (i := 1) (fun _ => rfl) (fun _ => .inl lk_law__law_many) nd__law_many nc__law_many) l_nil)) nd__law_rule) (l_cons (p_var (i := 3) (fun _ => rfl) (fun _ => .inl lk_law__law_fixed) nd__law_fixed nc__law_fixed) (l_cons (p_var (i := 4) (fun _ => rfl) (fun _ => .inl lk_law__law_blocks) nd__law_blocks nc__law_blocks) l_nil))) nd__law_right)))) (k_one (s_ret (e_p p_bl))) k_nil)))) (k_one (s_ret (e_p p_bl)))))
end
end Gk20


namespace Gk20
open PySem PySem.Spec PyProof.Rows L2 L3
abbrev bA := Builtin.bitAnd
abbrev bO := Builtin.bitOr
def use (s : Bool) (l r b : Int) : Bool := decide (bA l b = 0) && !decide (bA r b = 0) && (s || !decide (bA r b = b))
theorem v_can_use (s : Bool) (l r b : Int) : m_can_use [rl s l r, .int b] = .ok (.bl (use s l r b)) [.non, .non] := by
  simp [m_can_use, mirOf_eq, mb_can_use, use, List.replicate]
  by_cases h1 : bA l b = 0 <;> by_cases h2 : bA r b = 0 <;> cases s <;> simp [h1, h2]
theorem v_usable (s : Bool) (l r b : Int) : m__law_usable [rl s l r, .int b] = .ok (.bl (use s l r b)) [.non, .non] := by
  simp [m__law_usable, mirOf_eq, mb__law_usable, use, List.replicate]
  by_cases h1 : bA l b = 0 <;> by_cases h2 : bA r b = 0 <;> cases s <;> simp [h1, h2]
theorem v_whole (i : Int) : m__law_whole [.int i] = .ok (.bl true) [.non] := by
  have h1 : vIsInst (.int i) (.ty "int") = some (.bl true) := by simp [vIsInst, tyN, vIsT]
  have h2 : vIsInst (.int i) (.ty "bool") = some (.bl false) := by simp [vIsInst, tyN, vIsT]
  simp [m__law_whole, mirOf_eq, mb__law_whole, List.replicate, h1, h2]
def fx' (s : Bool) (r fx b : Int) : Int := if s = true then fx + bA b r else fx
def bl' (s : Bool) (r : Int) (bs : List Int) (k : Nat) (b : Int) : List Int := bs.take k ++ ((if s = true then [] else [bA b r]) ++ (if b - bA b r = 0 then [] else [b - bA b r])) ++ bs.drop (k + 1)
theorem v_used (s : Bool) (l r fx : Int) (bs : List Int) (k : Nat) (b : Int) (hb : bs[k]? = some b) (hl : bs.length ≤ 100) (hf : bA fx b = 0) :
    m_used [rl s l r, .int fx, .lst (bs.map .int), .int k] = .new (.box [.int (fx' s r fx b), .lst ((bl' s r bs k b).map .int)]) [.non, .non, .non, .non] := by
  have hk := (List.getElem?_eq_some_iff.mp hb).1
  have e1 : vIx (.lst (bs.map .int)) (.int (k : Int)) = some (.int b) := by
    rw [ix_lN _ k (by simpa using hk), List.getElem_map, (List.getElem?_eq_some_iff.mp hb).2]
  have e2 : bO fx (bA b r) = fx + bA b r := (add_or (and_eq0.mpr fun i => by
    have := and_eq0.mp hf i
    rw [tb_and]
    cases h1 : tb fx i <;> cases h2 : tb b i <;> simp [h1, h2] at this ⊢)).symm
  have a1 : ∀ fr : List PV, fr.length ≤ 2 → vAdd (.lst (List.take k (bs.map .int))) (.lst fr) = some (.lst (List.take k (bs.map .int) ++ fr)) := fun fr h => vAdd_lst (by simp; omega)
  have a2 : ∀ fr : List PV, fr.length ≤ 2 → vCat (.lst (List.take k (bs.map .int) ++ fr)) (.lst (List.drop (k + 1) (bs.map .int))) = some (.lst (List.take k (bs.map .int) ++ fr ++ List.drop (k + 1) (bs.map .int))) := fun fr h => vCat_lst (by simp; omega)
  have a3 : vCat (.lst (List.take k (bs.map .int))) (.lst (List.drop (k + 1) (bs.map .int))) = some (.lst (List.take k (bs.map .int) ++ List.drop (k + 1) (bs.map .int))) := vCat_lst (by simp; omega)
  by_cases ho : b - bA b r = 0 <;> cases s <;> simp [m_used, mirOf_eq, mb_used, List.replicate, e1, e2, cut_to, cut_from1, ho, fAppend, a1, a2, a3, flas_take, flas_drop, fx', bl']
theorem v_behind (s : Bool) (l r fx : Int) (bs : List Int) (k : Nat) (b : Int) (hb : bs[k]? = some b) (hl : bs.length ≤ 100) (h0 : 0 ≤ b) (hu : use s l r b = true) :
    m__law_behind [rl s l r, .int fx, .lst (bs.map .int), .int k] = .ok (.tup [.int (fx' s r fx b), .lst ((bl' s r bs k b).map .int)]) [.non, .non, .non, .non] := by
  have hk := (List.getElem?_eq_some_iff.mp hb).1
  have e1 : vIx (.lst (bs.map .int)) (.int (k : Int)) = some (.int b) := by
    rw [ix_lN _ k (by simpa using hk), List.getElem_map, (List.getElem?_eq_some_iff.mp hb).2]
  have a1 : ∀ fr : List PV, fr.length ≤ 2 → vAdd (.lst (List.take k (bs.map .int))) (.lst fr) = some (.lst (List.take k (bs.map .int) ++ fr)) := fun fr h => vAdd_lst (by simp; omega)
  have a2 : ∀ fr : List PV, fr.length ≤ 2 → vAdd (.lst (List.take k (bs.map .int) ++ fr)) (.lst (List.drop (k + 1) (bs.map .int))) = some (.lst (List.take k (bs.map .int) ++ fr ++ List.drop (k + 1) (bs.map .int))) := fun fr h => vAdd_lst (by simp; omega)
  have a3 : vAdd (.lst (List.take k (bs.map .int))) (.lst (List.drop (k + 1) (bs.map .int))) = some (.lst (List.take k (bs.map .int) ++ List.drop (k + 1) (bs.map .int))) := vAdd_lst (by simp; omega)
  have c1 : vInt (.bl true) = some (.int 1) := rfl
  have c0 : vInt (.bl false) = some (.int 0) := rfl
  have m1 : ∀ x : PV, vMul (.lst [x]) (.int 1) = some (.lst [x]) := fun x => by simp [vMul]
  have m0 : ∀ x : PV, vMul (.lst [x]) (.int 0) = some (.lst []) := fun x => by simp [vMul]
  have hle : bA b r ≤ b := and_le h0
  cases s
  · have ho : ¬ (b - bA b r = 0) := by
      intro e
      have : bA r b = b := by
        show Builtin.bitAnd r b = b
        rw [bitAnd_comm]; show bA b r = b; omega
      simp [use, this] at hu
    simp [m__law_behind, mirOf_eq, mb__law_behind, List.replicate, e1, cut_to, cut_from1, ho, a1, a2, a3, fx', bl']
  · by_cases ho : b - bA b r = 0
    · have hz : ¬ (Builtin.bitAnd b r < b) := by show ¬ (bA b r < b); omega
      simp [m__law_behind, mirOf_eq, mb__law_behind, List.replicate, e1, cut_to, cut_from1, ho, hz, c0, m0, a1, a2, a3, fx', bl']
    · have hz : Builtin.bitAnd b r < b := by show bA b r < b; omega
      simp [m__law_behind, mirOf_eq, mb__law_behind, List.replicate, e1, cut_to, cut_from1, ho, hz, c1, m1, a1, a2, a3, fx', bl']
theorem v_wholes (xs : List Int) (hl : xs.length ≤ 1000) : m__law_wholes [.lst (xs.map .int), .lst (xs.map .int)] = .ok (.bl true) [.non, .non] := by
  have h1 : vIsInst (.lst (xs.map .int)) (.ty "list") = some (.bl true) := by simp [vIsInst, tyN, vIsT]
  have e := ne_ints xs xs
  have q : clp [2] [.val (.lst (xs.map PV.int)), .val (.lst (xs.map PV.int)), .junk] (tN 2) cYes (eP (pCall 1 m__law_whole (lCons (pVar 2) lNil))) (xs.map PV.int) [] [.val (.lst (xs.map PV.int)), .val (.lst (xs.map PV.int)), .junk] = .ok (.lst ((xs.map PV.int).map fun _ => PV.bl true), [.val (.lst (xs.map PV.int)), .val (.lst (xs.map PV.int)), .junk]) := by
    refine clp_all (by simp) (by simp; omega) fun v hv => ?_
    obtain ⟨i, _, rfl⟩ := List.mem_map.mp hv
    simp [v_whole]
  have q2 := vAll_map (xs.map PV.int)
  simp [m__law_wholes, mirOf_eq, mb__law_wholes, List.replicate, h1, e, q, plainS, q2, le1__law_wholes, -List.map_map]
/-! the parts -/
theorem v_turn (n : Nat) (many rest fx : Int) (bs : List Int) (s5 : Slot) (h5 : np s5 = true) (h0 : 0 ≤ rest) (hl : bs.length < 6) (hf : bA fx rest = 0) (hb : ∀ b ∈ bs, 0 ≤ b ∧ bA fx b = 0 ∧ bA rest b = 0) :
    ∃ (rest' : Int) (bs' : List Int) (s5' : Slot), wb2__law_parts [.val (.int n), .val (.int many), .val (.int rest), .val (.int fx), .own (.lst (bs.map .int)), s5] = .ok (.nx [.val (.int (n * 48271 % 2147483647 : Nat)), .val (.int many), .val (.int rest'), .val (.int fx), .own (.lst (bs'.map .int)), s5']) ∧
      np s5' = true ∧ 0 ≤ rest' ∧ bs'.length ≤ bs.length + 2 ∧ bA fx rest' = 0 ∧ (∀ b ∈ bs', 0 ≤ b ∧ bA fx b = 0 ∧ bA rest' b = 0) ∧ (n * 48271 % 2147483647 % 4 = 0 → rest' = 0) := by
  have c1 : vMul (.int n) (.int 48271) = some (.int (n * 48271)) := by simp [vMulI, mulOk]
  have c2 : (n : Int) * 48271 % 2147483647 = ((n * 48271 % 2147483647 : Nat) : Int) := by omega
  generalize hc : n * 48271 % 2147483647 = c at c2
  have c3 : ((c : Int) % 4 = 0) ↔ c % 4 = 0 := by omega
  generalize hx : (c : Int) / 7 % 128 = x
  have e0 : 0 ≤ bA rest x := and_nn h0
  have e1 : bA rest x ≤ rest := and_le h0
  have ap1 : bA fx (bA rest x) = 0 := ap_and x hf
  have ap2 : bA fx (rest - bA rest x) = 0 := ap_sub x hf
  have ap3 : bA (rest - bA rest x) (bA rest x) = 0 := ap_self rest x
  have old : ∀ b ∈ bs, 0 ≤ b ∧ bA fx b = 0 ∧ bA (rest - bA rest x) b = 0 := fun b h => ⟨(hb b h).1, (hb b h).2.1, ap_comm (ap_sub x (ap_comm (hb b h).2.2))⟩
  have zero : ∀ y : Int, bA 0 y = 0 := fun y => ap_comm (ap_zero y)
  have l1 : bs.length < 1000000 := by omega
  have l2 : bs.length + 1 < 1000000 := by omega
  by_cases hp : 0 < bA rest x
  · have old2 : ∀ b ∈ bs ++ [bA rest x], 0 ≤ b ∧ bA fx b = 0 ∧ bA (rest - bA rest x) b = 0 := fun b h => by
      rcases List.mem_append.mp h with h | h
      · exact old b h
      · rw [List.mem_singleton.mp h]; exact ⟨e0, ap1, ap3⟩
    by_cases h4 : c % 4 = 0
    · by_cases hr : 0 < rest - bA rest x
      · refine ⟨0, bs ++ [bA rest x] ++ [rest - bA rest x], .val (.int (bA rest x)), ?_, rfl, Int.le_refl 0, by simp, ap_zero fx, fun b h => ?_, fun _ => rfl⟩
        · have hr' : Builtin.bitAnd rest x < rest := by show bA rest x < rest; omega
          simp [wb2__law_parts, c1, vModI, vFdivI, c2, hx, setV_np h5, hp, fAppend, l1, l2, c3, h4, hr']
        · rcases List.mem_append.mp h with h | h
          · exact ⟨(old2 b h).1, (old2 b h).2.1, zero b⟩
          · rw [List.mem_singleton.mp h]; exact ⟨by omega, ap2, zero _⟩
      · have hz : rest - bA rest x = 0 := by omega
        refine ⟨rest - bA rest x, bs ++ [bA rest x], .val (.int (bA rest x)), ?_, rfl, by omega, by simp, ap2, old2, fun _ => hz⟩
        have hr' : ¬ Builtin.bitAnd rest x < rest := by show ¬ bA rest x < rest; omega
        simp [wb2__law_parts, c1, vModI, vFdivI, c2, hx, setV_np h5, hp, fAppend, l1, l2, c3, h4, hr']
    · refine ⟨rest - bA rest x, bs ++ [bA rest x], .val (.int (bA rest x)), ?_, rfl, by omega, by simp, ap2, old2, fun z => absurd z h4⟩
      simp [wb2__law_parts, c1, vModI, vFdivI, c2, hx, setV_np h5, hp, fAppend, l1, l2, c3, h4]
  · by_cases h4 : c % 4 = 0
    · by_cases hr : 0 < rest - bA rest x
      · refine ⟨0, bs ++ [rest - bA rest x], .val (.int (bA rest x)), ?_, rfl, Int.le_refl 0, by simp, ap_zero fx, fun b h => ?_, fun _ => rfl⟩
        · have hr' : Builtin.bitAnd rest x < rest := by show bA rest x < rest; omega
          simp [wb2__law_parts, c1, vModI, vFdivI, c2, hx, setV_np h5, hp, fAppend, l1, l2, c3, h4, hr']
        · rcases List.mem_append.mp h with h | h
          · exact ⟨(old b h).1, (old b h).2.1, zero b⟩
          · rw [List.mem_singleton.mp h]; exact ⟨by omega, ap2, zero _⟩
      · have hz : rest - bA rest x = 0 := by omega
        refine ⟨rest - bA rest x, bs, .val (.int (bA rest x)), ?_, rfl, by omega, by simp, ap2, old, fun _ => hz⟩
        have hr' : ¬ Builtin.bitAnd rest x < rest := by show ¬ bA rest x < rest; omega
        simp [wb2__law_parts, c1, vModI, vFdivI, c2, hx, setV_np h5, hp, fAppend, l1, l2, c3, h4, hr']
    · refine ⟨rest - bA rest x, bs, .val (.int (bA rest x)), ?_, rfl, by omega, by simp, ap2, old, fun z => absurd z h4⟩
      simp [wb2__law_parts, c1, vModI, vFdivI, c2, hx, setV_np h5, hp, fAppend, l1, l2, c3, h4]
theorem v_parts (n k : Nat) (hn : n < 2147483647) (hk : k ≤ 7) : ∃ (fx : Int) (bs : List Int), m__law_parts [.int n, .int k] = .ok (.tup [.int fx, .lst (bs.map .int)]) [.non, .non] ∧ bs.length ≤ 7 ∧ ∀ b ∈ bs, 0 ≤ b ∧ bA fx b = 0 := by
  generalize hr : (2 : Int) ^ k - 1 = r0
  have r0n : 0 ≤ r0 := by
    have : (0 : Int) < 2 ^ k := Int.pow_pos (by omega)
    omega
  generalize hf : bA (bA ((n : Int) % 128) r0) ((n : Int) / 128) = fx
  have sub : bA r0 fx = fx := tb_ext fun i => by
    rw [tb_and, ← hf, tb_and, tb_and]
    cases tb r0 i <;> simp
  have fn : 0 ≤ fx := by rw [← hf]; exact and_nn (and_nn (by omega))
  have rn : 0 ≤ r0 - fx := by
    have := and_le (y := fx) r0n
    rw [show Builtin.bitAnd r0 fx = fx from sub] at this
    omega
  have ap : bA fx (r0 - fx) = 0 := by
    have := ap_self r0 fx
    rw [show Builtin.bitAnd r0 fx = fx from sub] at this
    exact ap_comm this
  -- the loop
  have loop := whl_ix (c := wc1__law_parts) (b := wb2__law_parts)
    (fun m g => ∃ (c : Nat) (rest : Int) (bs : List Int) (s5 : Slot), g = [.val (.int c), .val (.int k), .val (.int rest), .val (.int fx), .own (.lst (bs.map .int)), s5] ∧ np s5 = true ∧ 0 ≤ rest ∧ bs.length ≤ 7 ∧ bA fx rest = 0 ∧ (∀ b ∈ bs, 0 ≤ b ∧ bA fx b = 0 ∧ bA rest b = 0) ∧
      (rest = 0 ∨ (c = 0 ∧ 0 < m) ∨ (0 < m ∧ c < Lcg.p ∧ c * Lcg.g ^ m % Lcg.p = 4)))
    (fun g => ∃ (c : Nat) (rest : Int) (bs : List Int) (s5 : Slot), g = [.val (.int c), .val (.int k), .val (.int rest), .val (.int fx), .own (.lst (bs.map .int)), s5] ∧ bs.length ≤ 7 ∧ bA fx rest = 0 ∧ (∀ b ∈ bs, 0 ≤ b ∧ bA fx b = 0 ∧ bA rest b = 0))
    (fun m g ⟨c, rest, bs, s5, e, h5, h0, hl, ha, hb, hm⟩ => by
      subst e
      by_cases hz : 0 < rest
      · by_cases hl6 : bs.length < 6
        · refine .inr ⟨[.val (.int c), .val (.int k), .val (.int rest), .val (.int fx), .own (.lst (bs.map .int)), s5], ?_, ?_⟩
          · have : ((bs.length : Nat) : Int) < 6 := by omega
            simp [wc1__law_parts, hz, this]
          · obtain ⟨rest', bs', s5', e1, e2, e3, e4, e5, e6, e7⟩ := v_turn c k rest fx bs s5 h5 h0 hl6 ha hb
            refine ⟨_, e1, m - 1, ?_, c * 48271 % 2147483647, rest', bs', s5', rfl, e2, e3, by omega, e5, e6, ?_⟩
            · rcases hm with z | z | z <;> omega
            · rcases hm with z | ⟨rfl, z⟩ | ⟨z, z1, z2⟩
              · omega
              · exact .inl (e7 (by simp))
              · by_cases hm1 : m = 1
                · subst hm1
                  refine .inl (e7 ?_)
                  rw [Nat.pow_one] at z2
                  rw [show c * 48271 % 2147483647 = 4 from z2]
                · refine .inr (.inr ⟨by omega, Nat.mod_lt _ (by decide), ?_⟩)
                  have : m = 1 + (m - 1) := by omega
                  rw [this, Nat.pow_add, Nat.pow_one, ← Nat.mul_assoc] at z2
                  rw [Nat.mul_mod] at z2 ⊢
                  rw [show (c * 48271 % 2147483647) % Lcg.p = (c * Lcg.g) % Lcg.p from Nat.mod_mod _ _]
                  exact z2
        · refine .inl ⟨[.val (.int c), .val (.int k), .val (.int rest), .val (.int fx), .own (.lst (bs.map .int)), s5], ?_, c, rest, bs, s5, rfl, hl, ha, hb⟩
          have : ¬ ((bs.length : Nat) : Int) < 6 := by omega
          simp [wc1__law_parts, hz, this]
      · refine .inl ⟨[.val (.int c), .val (.int k), .val (.int rest), .val (.int fx), .own (.lst (bs.map .int)), s5], ?_, c, rest, bs, s5, rfl, hl, ha, hb⟩
        simp [wc1__law_parts, hz])
  have ent : ∃ m, m < 2147483648 ∧ ((n = 0 ∧ 0 < m) ∨ (0 < m ∧ n < Lcg.p ∧ n * Lcg.g ^ m % Lcg.p = 4)) := by
    by_cases h0 : n = 0
    · exact ⟨1, by omega, .inl ⟨h0, by omega⟩⟩
    · obtain ⟨j, h1, h2, h3⟩ := Lcg.meets (c := n) (by omega) hn
      refine ⟨j, ?_, .inr ⟨h1, hn, h3⟩⟩
      have : Lcg.q = 2147483646 := rfl
      omega
  obtain ⟨m, hm1, hm2⟩ := ent
  obtain ⟨g', e1, c, rest, bs, s5, rfl, hl, ha, hb⟩ := loop 2147483648 m (g := [.val (.int n), .val (.int k), .val (.int (r0 - fx)), .val (.int fx), .own (.lst (([] : List Int).map .int)), .junk])
    ⟨n, r0 - fx, [], .junk, rfl, rfl, rn, by simp, ap, by simp, .inr hm2⟩ hm1
  refine ⟨fx + rest, bs, ?_, hl, fun b h => ⟨(hb b h).1, ?_⟩⟩
  · have hs := shl_one k (by omega)
    have e1' := e1
    rw [List.map_nil] at e1'
    simp [m__law_parts, mirOf_eq, mb__law_parts, List.replicate, hs, hr, vModI, vFdivI, hf, e1']
  · rw [add_or ha]
    exact ap_or (hb b h).2.1 (hb b h).2.2
theorem v_right (s : Bool) (l r fx : Int) (bs : List Int) (hl : bs.length ≤ 7) (hb : ∀ b ∈ bs, 0 ≤ b ∧ bA fx b = 0) : m__law_right [rl s l r, .int fx, .lst (bs.map .int)] = .ok (.bl true) [.non, .non, .non] := by
  have loop := loopL_inv (t := tUn 2 (tsCons (tN 3) (tsCons (tN 4) tsNil))) (b := fb1__law_right)
    (fun _ g => ∃ s3 s4 s5 s6 s7 s8 s9 s10, g = [.val (rl s l r), .val (.int fx), .val (.lst (bs.map .int)), s3, s4, s5, s6, s7, s8, s9, s10] ∧ np s3 = true ∧ np s4 = true ∧ np s5 = true ∧ np s6 = true ∧ np s7 = true ∧ np s8 = true ∧ np s9 = true ∧ np s10 = true)
    (vs := enum 0 (bs.map .int)) (g := [.val (rl s l r), .val (.int fx), .val (.lst (bs.map .int)), .junk, .junk, .junk, .junk, .junk, .junk, .junk, .junk]) 0
    ⟨.junk, .junk, .junk, .junk, .junk, .junk, .junk, .junk, rfl, rfl, rfl, rfl, rfl, rfl, rfl, rfl, rfl⟩
    (fun k v g hv ⟨s3, s4, s5, s6, s7, s8, s9, s10, e, h3, h4, h5, h6, h7, h8, h9, h10⟩ => by
      subst e
      rw [enum_get, List.getElem?_map] at hv
      cases hbk : bs[k]? with
      | none => rw [hbk] at hv; cases hv
      | some b =>
        rw [hbk] at hv
        cases hv
        obtain ⟨b0, ba⟩ := hb b (List.mem_of_getElem? hbk)
        have eu := v_used s l r fx bs k b hbk (by omega) ba
        have L : (bl' s r bs k b).length ≤ 1000 := by unfold bl'; cases s <;> simp <;> split <;> simp <;> omega
        have ew := v_wholes (bl' s r bs k b) L
        refine ⟨[.val (rl s l r), .val (.int fx), .val (.lst (bs.map .int)), .val (.int k), .val (.int b), s5, s6, s7, s8, s9, s10], ?_, ?_⟩
        · simp [setV_np h3, setV_np h4]
        · cases hu : use s l r b with
          | false =>
            refine ⟨[.val (rl s l r), .val (.int fx), .val (.lst (bs.map .int)), .val (.int k), .val (.int b), .val (.bl false), .val (.bl false), s7, s8, s9, s10], .inl ?_, _, _, _, _, _, _, _, _, rfl, rfl, rfl, rfl, rfl, h7, h8, h9, h10⟩
            simp [fb1__law_right, setV_np h5, setV_np h6, v_usable, v_can_use, hu]
          | true =>
            have eb := v_behind s l r fx bs k b hbk (by omega) b0 hu
            refine ⟨[.val (rl s l r), .val (.int fx), .val (.lst (bs.map .int)), .val (.int k), .val (.int b), .val (.bl true), .val (.bl true), .val (.lst (bs.map .int)), .own (.box [.int (fx' s r fx b), .lst ((bl' s r bs k b).map .int ++ [.int 0])]), .val (.int (fx' s r fx b)), .val (.lst ((bl' s r bs k b).map .int))], .inl ?_, _, _, _, _, _, _, _, _, rfl, rfl, rfl, rfl, rfl, rfl, rfl, rfl, rfl⟩
            have hL : (bl' s r bs k b).length < 1000000 := by omega
            simp [fb1__law_right, setV_np h5, setV_np h6, setV_np h7, setV_np h8, setV_np h9, setV_np h10, v_usable, v_can_use, hu, L3.fill, slotsOf, eu, eb, ew, v_whole, ne_ints, put, hL])
  obtain ⟨g', e1, s3, s4, s5, s6, s7, s8, s9, s10, rfl, _⟩ := loop
  simp [m__law_right, mirOf_eq, mb__law_right, List.replicate, e1]
theorem v_cell (ns : List Int) (k : Nat) (hk : k ≤ 61) (hn : ns.length ≤ 63) : ∃ c : Nat, c < 2147483629 ∧ m__law_cell_at [.scr ns, .int k] = .ok (.int c) [.non, .non] := by
  have toN : ∀ x : Int, 0 ≤ x → x < 2147483629 → ∃ c : Nat, c < 2147483629 ∧ (c : Int) = x := fun x h1 h2 => ⟨x.toNat, by omega, by omega⟩
  have md : ∀ x : Int, vModI x 2147483629 = some (.int (x % 2147483629)) := fun x => modI_P x (by omega)
  by_cases h : k < ns.length
  · obtain ⟨c, h1, h2⟩ := toN (ns[k] % 2147483629) (by omega) (by omega)
    refine ⟨c, h1, ?_⟩
    have hx := ix_sN ns k h
    simp [m__law_cell_at, mirOf_eq, mb__law_cell_at, List.replicate, h, hx, md, h2]
  · have hq : k * k ≤ 3721 := Nat.mul_le_mul hk hk
    have m1 : vMulI (k : Int) (k : Int) = some (.int ((k : Int) * k)) := mulI_L _ (by omega) (by omega)
    have e1 : (k : Int) * k = ((k * k : Nat) : Int) := by simp
    generalize hkk : k * k = kk at hq e1
    rw [e1] at m1
    have m2 : vMulI (kk : Int) 48271 = some (.int (kk * 48271)) := mulI_L _ (by omega) (by omega)
    by_cases h0 : 0 < ns.length
    · have hj : k % ns.length < ns.length := Nat.mod_lt _ h0
      have hx := ix_sN ns (k % ns.length) hj
      have ml : vModI (k : Int) (ns.length : Int) = some (.int ((k % ns.length : Nat) : Int)) := by rw [modI_P _ (by omega)]; simp
      generalize hz : ns[k % ns.length] % 2147483629 = z at hx
      have z1 : 0 ≤ z := by omega
      have z2 : z < 2147483629 := by omega
      have m3 : vMulI z 69621 = some (.int (z * 69621)) := mulI_L _ (by omega) (by omega)
      generalize ht : (kk : Int) * 48271 + 11 + z * 69621 = tt
      have m4 : vMulI tt tt = some (.int (tt * tt)) := mulI_L _ (by omega) (by omega)
      obtain ⟨c, h1, h2⟩ := toN (tt * tt % 2147483629) (by omega) (by omega)
      refine ⟨c, h1, ?_⟩
      simp [m__law_cell_at, mirOf_eq, mb__law_cell_at, List.replicate, h, hx, md, h2, m1, m2, h0, ml, hz, m3, ht, m4, -Int.natCast_emod]
    · generalize ht : (kk : Int) * 48271 + 11 = tt
      have m4 : vMulI tt tt = some (.int (tt * tt)) := mulI_L _ (by omega) (by omega)
      obtain ⟨c, h1, h2⟩ := toN (tt * tt % 2147483629) (by omega) (by omega)
      refine ⟨c, h1, ?_⟩
      simp [m__law_cell_at, mirOf_eq, mb__law_cell_at, List.replicate, h, md, h2, m1, m2, h0, ht, m4]
theorem v_rule (c k : Nat) (hk : k ≤ 7) : ∃ s l r, m__law_rule [.int c, .int k] = .ok (rl s l r) [.non, .non] := by
  have hs := shl_one k (by omega)
  have hp : (0 : Int) < 2 ^ k := Int.pow_pos (by omega)
  have md : ∀ x : Int, vModI x (2 ^ k) = some (.int (x % 2 ^ k)) := fun x => modI_P x hp
  have k4 : ∀ x : Int, vModI x 4 = some (.int (x % 4)) := fun x => modI_P x (by omega)
  have k3 : ∀ x : Int, vModI x 3 = some (.int (x % 3)) := fun x => modI_P x (by omega)
  have k6 : ∀ x : Int, vModI x 65537 = some (.int (x % 65537)) := fun x => modI_P x (by omega)
  have mu : vMulI (c : Int) 16807 = some (.int (c * 16807)) := mulI_R _ (by omega) (by omega)
  have w : ∃ s, vIx (.lst [.str "settle", .str "settle", .str "deal"]) (.int ((c : Int) % 3)) = some (.str (wd s)) := by
    have h3 : c % 3 < 3 := Nat.mod_lt _ (by omega)
    have e : ((c : Int) % 3) = ((c % 3 : Nat) : Int) := by omega
    rw [e, ix_lN _ _ (by simpa using h3)]
    have : c % 3 = 0 ∨ c % 3 = 1 ∨ c % 3 = 2 := by omega
    rcases this with z | z | z
    · exact ⟨true, by simp [z]; rfl⟩
    · exact ⟨true, by simp [z]; rfl⟩
    · exact ⟨false, by simp [z]; rfl⟩
  obtain ⟨s, hw⟩ := w
  by_cases h1 : 0 < (c : Int) / 384 % 4 <;> by_cases h2 : (c : Int) / 25165824 % 3 = 1 <;>
    exact ⟨s, _, _, by simp [m__law_rule, mirOf_eq, mb__law_rule, List.replicate, hs, md, mu, hw, k3, k4, k6, vFdivI, h1, h2]; rfl⟩
theorem law_true (ns : List Int) (hn : ns.length ≤ 63) : ∃ cs, m_law [.scr ns] = .ok (.bl true) cs := by
  obtain ⟨c0, _, e0⟩ := v_cell ns 0 (by omega) hn
  have e0' : m__law_cell_at [.scr ns, .int 0] = .ok (.int c0) [.non, .non] := e0
  have hmany : (1 : Int) + (c0 : Int) % 7 = ((1 + c0 % 7 : Nat) : Int) := by omega
  generalize hk : 1 + c0 % 7 = k at hmany
  have hk7 : k ≤ 7 := by omega
  have mn : ∃ m : Nat, m ≤ 30 ∧ (if (30 : Int) < (ns.length : Int) then (30 : Int) else (ns.length : Int)) = (m : Int) := by
    by_cases h : (30 : Int) < (ns.length : Int)
    · exact ⟨30, by omega, by rw [if_pos h]; rfl⟩
    · exact ⟨ns.length, by omega, by rw [if_neg h]⟩
  obtain ⟨m, hm, em⟩ := mn
  have loop := loopL_inv (t := tN 2) (b := fb1_law)
    (fun _ g => ∃ s2 s3 s4, g = [.val (.scr ns), .val (.int k), s2, s3, s4] ∧ np s2 = true ∧ np s3 = true ∧ np s4 = true)
    (vs := rng 0 (m + 1)) (g := [.val (.scr ns), .val (.int k), .junk, .junk, .junk]) 0 ⟨.junk, .junk, .junk, rfl, rfl, rfl, rfl⟩
    (fun j v g hv ⟨s2, s3, s4, e, h2, h3, h4⟩ => by
      subst e
      rw [rng_get] at hv
      split at hv
      · rename_i hj
        cases hv
        have hj' : j ≤ 30 := by omega
        refine ⟨[.val (.scr ns), .val (.int k), .val (.int (j : Nat)), s3, s4], ?_, ?_⟩
        · simp [setV_np h2]
        · obtain ⟨c1, l1, e1⟩ := v_cell ns (60 - j) (by omega) hn
          obtain ⟨c2, l2, e2⟩ := v_cell ns (1 + j) (by omega) hn
          have i1 : (60 : Int) - (j : Int) = ((60 - j : Nat) : Int) := by omega
          have i2 : (1 : Int) + (j : Int) = ((1 + j : Nat) : Int) := by omega
          rw [← i1] at e1
          rw [← i2] at e2
          have mu : vMulI (c1 : Int) 69621 = some (.int (c1 * 69621)) := mulI_R _ (by omega) (by omega)
          have md : vModI ((c1 : Int) * 69621) 2147483647 = some (.int ((c1 * 69621 % 2147483647 : Nat) : Int)) := by
            rw [modI_P _ (by omega)]
            congr 2
          generalize hn1 : c1 * 69621 % 2147483647 = n1 at md
          obtain ⟨fx, bs, p1, p2, p3⟩ := v_parts n1 k (by omega) hk7
          obtain ⟨s, l, r, q1⟩ := v_rule c2 k hk7
          have q2 := v_right s l r fx bs p2 p3
          refine ⟨[.val (.scr ns), .val (.int k), .val (.int (j : Nat)), .val (.int fx), .val (.lst (bs.map .int))], .inl ?_, _, _, _, rfl, rfl, rfl, rfl⟩
          simp [fb1_law, e1, mu, md, p1, setV_np h3, setV_np h4, e2, q1, q2]
      · cases hv)
  obtain ⟨g', e1, s2, s3, s4, rfl, _⟩ := loop
  refine ⟨[.non], ?_⟩
  have lm : vMinI (ns.length : Int) 30 = some (.int m) := by
    unfold vMinI
    rw [em]
  have b1 : ((m : Int) + 1 ≤ 1000000) := by omega
  have b2 : ((-1000000 : Int) ≤ (m : Int) + 1) := by omega
  simp [m_law, mirOf_eq, mb_law, List.replicate, e0', vModI, hmany, lm, e1, b1, b2]
end Gk20

namespace Gk20
open PySem PySem.Spec PyProof.Rows L2 L3
theorem all_mk {l : PySem.W.OpenLaw} {w : World} {K : PySem.W.Frag} {h : Heap} {mg : Str → Option Value} {xc : Xc} {fa f1 f2 f3 f4 f5 f6 f7 f8 f9 f10 f11 : Addr} (X : K.In h) (G : h.Ns mainGlobals mg) (hfa : mg "law" = some (.ref fa))
    {od1 an1 od2 an2 od3 an3 od4 an4 od5 an5 od6 an6 od7 an7 od8 an8 od9 an9 od10 an10 od11 an11 : Option Addr} {sl1 sl2 sl3 sl4 sl5 sl6 sl7 sl8 sl9 sl10 sl11 : Array (Option Value)} {oc1 kV1 dc1 pm1 cd1 ct1 oc2 kV2 dc2 pm2 cd2 ct2 oc3 kV3 dc3 pm3 cd3 ct3 oc4 kV4 dc4 pm4 cd4 ct4 oc5 kV5 dc5 pm5 cd5 ct5 oc6 kV6 dc6 pm6 cd6 ct6 oc7 kV7 dc7 pm7 cd7 ct7 oc8 kV8 dc8 pm8 cd8 ct8 oc9 kV9 dc9 pm9 cd9 ct9 oc10 kV10 dc10 pm10 cd10 ct10 oc11 kV11 dc11 pm11 cd11 ct11 : Value}
    (a1 : PySem.W.nsIn K mainGlobals "can_use" = some (some (.ref f1))) (l1 : K.lookup f1 = some ⟨oc1, od1, .func (PySem.W.fnOf "can_use" "can_use" (defArgs st_can_use) (defBody st_can_use) (defScope st_can_use) .none kV1 dc1 pm1 an1 cd1 ct1), sl1⟩) (c1 : PySem.W.codeIn K cd1 "can_use" = true) (k1 : PySem.W.keepIn K (.ref f1) = true)
    (a2 : PySem.W.nsIn K mainGlobals "used" = some (some (.ref f2))) (l2 : K.lookup f2 = some ⟨oc2, od2, .func (PySem.W.fnOf "used" "used" (defArgs st_used) (defBody st_used) (defScope st_used) .none kV2 dc2 pm2 an2 cd2 ct2), sl2⟩) (c2 : PySem.W.codeIn K cd2 "used" = true) (k2 : PySem.W.keepIn K (.ref f2) = true)
    (a3 : PySem.W.nsIn K mainGlobals "_law_cell_at" = some (some (.ref f3))) (l3 : K.lookup f3 = some ⟨oc3, od3, .func (PySem.W.fnOf "_law_cell_at" "_law_cell_at" (defArgs st__law_cell_at) (defBody st__law_cell_at) (defScope st__law_cell_at) .none kV3 dc3 pm3 an3 cd3 ct3), sl3⟩) (c3 : PySem.W.codeIn K cd3 "_law_cell_at" = true) (k3 : PySem.W.keepIn K (.ref f3) = true)
    (a4 : PySem.W.nsIn K mainGlobals "_law_rule" = some (some (.ref f4))) (l4 : K.lookup f4 = some ⟨oc4, od4, .func (PySem.W.fnOf "_law_rule" "_law_rule" (defArgs st__law_rule) (defBody st__law_rule) (defScope st__law_rule) .none kV4 dc4 pm4 an4 cd4 ct4), sl4⟩) (c4 : PySem.W.codeIn K cd4 "_law_rule" = true) (k4 : PySem.W.keepIn K (.ref f4) = true)
    (a5 : PySem.W.nsIn K mainGlobals "_law_usable" = some (some (.ref f5))) (l5 : K.lookup f5 = some ⟨oc5, od5, .func (PySem.W.fnOf "_law_usable" "_law_usable" (defArgs st__law_usable) (defBody st__law_usable) (defScope st__law_usable) .none kV5 dc5 pm5 an5 cd5 ct5), sl5⟩) (c5 : PySem.W.codeIn K cd5 "_law_usable" = true) (k5 : PySem.W.keepIn K (.ref f5) = true)
    (a6 : PySem.W.nsIn K mainGlobals "_law_behind" = some (some (.ref f6))) (l6 : K.lookup f6 = some ⟨oc6, od6, .func (PySem.W.fnOf "_law_behind" "_law_behind" (defArgs st__law_behind) (defBody st__law_behind) (defScope st__law_behind) .none kV6 dc6 pm6 an6 cd6 ct6), sl6⟩) (c6 : PySem.W.codeIn K cd6 "_law_behind" = true) (k6 : PySem.W.keepIn K (.ref f6) = true)
    (a7 : PySem.W.nsIn K mainGlobals "_law_whole" = some (some (.ref f7))) (l7 : K.lookup f7 = some ⟨oc7, od7, .func (PySem.W.fnOf "_law_whole" "_law_whole" (defArgs st__law_whole) (defBody st__law_whole) (defScope st__law_whole) .none kV7 dc7 pm7 an7 cd7 ct7), sl7⟩) (c7 : PySem.W.codeIn K cd7 "_law_whole" = true) (k7 : PySem.W.keepIn K (.ref f7) = true)
    (a8 : PySem.W.nsIn K mainGlobals "_law_wholes" = some (some (.ref f8))) (l8 : K.lookup f8 = some ⟨oc8, od8, .func (PySem.W.fnOf "_law_wholes" "_law_wholes" (defArgs st__law_wholes) (defBody st__law_wholes) (defScope st__law_wholes) .none kV8 dc8 pm8 an8 cd8 ct8), sl8⟩) (c8 : PySem.W.codeIn K cd8 "_law_wholes" = true) (k8 : PySem.W.keepIn K (.ref f8) = true)
    (a9 : PySem.W.nsIn K mainGlobals "_law_parts" = some (some (.ref f9))) (l9 : K.lookup f9 = some ⟨oc9, od9, .func (PySem.W.fnOf "_law_parts" "_law_parts" (defArgs st__law_parts) (defBody st__law_parts) (defScope st__law_parts) .none kV9 dc9 pm9 an9 cd9 ct9), sl9⟩) (c9 : PySem.W.codeIn K cd9 "_law_parts" = true) (k9 : PySem.W.keepIn K (.ref f9) = true)
    (a10 : PySem.W.nsIn K mainGlobals "_law_right" = some (some (.ref f10))) (l10 : K.lookup f10 = some ⟨oc10, od10, .func (PySem.W.fnOf "_law_right" "_law_right" (defArgs st__law_right) (defBody st__law_right) (defScope st__law_right) .none kV10 dc10 pm10 an10 cd10 ct10), sl10⟩) (c10 : PySem.W.codeIn K cd10 "_law_right" = true) (k10 : PySem.W.keepIn K (.ref f10) = true)
    (a11 : PySem.W.nsIn K mainGlobals "law" = some (some (.ref f11))) (l11 : K.lookup f11 = some ⟨oc11, od11, .func (PySem.W.fnOf "law" "law" (defArgs st_law) (defBody st_law) (defScope st_law) .none kV11 dc11 pm11 an11 cd11 ct11), sl11⟩) (c11 : PySem.W.codeIn K cd11 "law" = true) (k11 : PySem.W.keepIn K (.ref f11) = true)
    (z_all : PySem.W.nsIn K mainGlobals "all" = some none)
    (z_bool : PySem.W.nsIn K mainGlobals "bool" = some none)
    (z_enumerate : PySem.W.nsIn K mainGlobals "enumerate" = some none)
    (z_int : PySem.W.nsIn K mainGlobals "int" = some none)
    (z_isinstance : PySem.W.nsIn K mainGlobals "isinstance" = some none)
    (z_len : PySem.W.nsIn K mainGlobals "len" = some none)
    (z_list : PySem.W.nsIn K mainGlobals "list" = some none)
    (z_min : PySem.W.nsIn K mainGlobals "min" = some none)
    (z_range : PySem.W.nsIn K mainGlobals "range" = some none)
    (z_tuple : PySem.W.nsIn K mainGlobals "tuple" = some none)
    : ∃ fd : FuncData, (∀ (s : Shared) (v : Value), BindsTo s fd ⟨[v], []⟩ [("_law_script", v)]) ∧ ∀ base : Heap, K.In base → base.Ns mainGlobals mg → FnOk l.prog w K mg base (L2.CX l.prog w) 4 fa fd ["_law_script"] (spOf K xc [false] m_law) := by
  have e := hfa.symm.trans (PySem.W.mg_of X G a11)
  cases e
  have F1 := fun_mk (st := st_can_use) l1 c1 k1
  have b1 := F1.binds (ps := ["rule", "block"]) fun _ _ _ _ _ _ us hl => match us, hl with | [_, _], _ => rfl
  have F2 := fun_mk (st := st_used) l2 c2 k2
  have b2 := F2.binds (ps := ["rule", "fixed", "blocks", "at"]) fun _ _ _ _ _ _ us hl => match us, hl with | [_, _, _, _], _ => rfl
  have F3 := fun_mk (st := st__law_cell_at) l3 c3 k3
  have b3 := F3.binds (ps := ["_law_script", "_law_k"]) fun _ _ _ _ _ _ us hl => match us, hl with | [_, _], _ => rfl
  have F4 := fun_mk (st := st__law_rule) l4 c4 k4
  have b4 := F4.binds (ps := ["_law_cell", "_law_many"]) fun _ _ _ _ _ _ us hl => match us, hl with | [_, _], _ => rfl
  have F5 := fun_mk (st := st__law_usable) l5 c5 k5
  have b5 := F5.binds (ps := ["_law_rule_here", "_law_block"]) fun _ _ _ _ _ _ us hl => match us, hl with | [_, _], _ => rfl
  have F6 := fun_mk (st := st__law_behind) l6 c6 k6
  have b6 := F6.binds (ps := ["_law_rule_here", "_law_fixed", "_law_blocks", "_law_at"]) fun _ _ _ _ _ _ us hl => match us, hl with | [_, _, _, _], _ => rfl
  have F7 := fun_mk (st := st__law_whole) l7 c7 k7
  have b7 := F7.binds (ps := ["_law_got"]) fun _ _ _ _ _ _ us hl => match us, hl with | [_], _ => rfl
  have F8 := fun_mk (st := st__law_wholes) l8 c8 k8
  have b8 := F8.binds (ps := ["_law_got", "_law_due"]) fun _ _ _ _ _ _ us hl => match us, hl with | [_, _], _ => rfl
  have F9 := fun_mk (st := st__law_parts) l9 c9 k9
  have b9 := F9.binds (ps := ["_law_cell", "_law_many"]) fun _ _ _ _ _ _ us hl => match us, hl with | [_, _], _ => rfl
  have F10 := fun_mk (st := st__law_right) l10 c10 k10
  have b10 := F10.binds (ps := ["_law_rule_here", "_law_fixed", "_law_blocks"]) fun _ _ _ _ _ _ us hl => match us, hl with | [_, _, _], _ => rfl
  have F11 := fun_mk (st := st_law) l11 c11 k11
  have b11 := F11.binds (ps := ["_law_script"]) fun _ _ _ _ _ _ us hl => match us, hl with | [_], _ => rfl
  have T : Top K mg := {
    f_can_use := ⟨_, _, F1, PySem.W.mg_of X G a1, b1⟩
    f_used := ⟨_, _, F2, PySem.W.mg_of X G a2, b2⟩
    f__law_cell_at := ⟨_, _, F3, PySem.W.mg_of X G a3, b3⟩
    f__law_rule := ⟨_, _, F4, PySem.W.mg_of X G a4, b4⟩
    f__law_usable := ⟨_, _, F5, PySem.W.mg_of X G a5, b5⟩
    f__law_behind := ⟨_, _, F6, PySem.W.mg_of X G a6, b6⟩
    f__law_whole := ⟨_, _, F7, PySem.W.mg_of X G a7, b7⟩
    f__law_wholes := ⟨_, _, F8, PySem.W.mg_of X G a8, b8⟩
    f__law_parts := ⟨_, _, F9, PySem.W.mg_of X G a9, b9⟩
    f__law_right := ⟨_, _, F10, PySem.W.mg_of X G a10, b10⟩
    f_law := ⟨_, _, F11, PySem.W.mg_of X G a11, b11⟩
    z_all := PySem.W.mg_none_of X G z_all
    z_bool := PySem.W.mg_none_of X G z_bool
    z_enumerate := PySem.W.mg_none_of X G z_enumerate
    z_int := PySem.W.mg_none_of X G z_int
    z_isinstance := PySem.W.mg_none_of X G z_isinstance
    z_len := PySem.W.mg_none_of X G z_len
    z_list := PySem.W.mg_none_of X G z_list
    z_min := PySem.W.mg_none_of X G z_min
    z_range := PySem.W.mg_none_of X G z_range
    z_tuple := PySem.W.mg_none_of X G z_tuple
  }
  exact ⟨PySem.W.fnOf "law" "law" (defArgs st_law) (defBody st_law) (defScope st_law) .none kV11 dc11 pm11 an11 cd11 ct11, fun s v => .of_eq rfl, fun base _ _ => ok_law T F11⟩
end Gk20
open PySem PySem.W PyProof.Rows
set_option maxHeartbeats 0 in
theorem PySem.Challenge.cw_splithouse_k20_one_use_holds : PySem.Challenge.rw_splithouse_k20_one_use.Holds := by
  w_on; o_law; k_head; (case hw => w_witness2)
  k_fill
  refine L2.walk_of (l := PySem.Challenge.rw_splithouse_k20_one_use) (n := 63) (k := 4) (x := "_law_script") (CX := fun w => L2.CX PySem.Challenge.rw_splithouse_k20_one_use.prog w) (sp := fun w => L3.spOf _ (fun _ => 0) [false] Gk20.m_law) rfl (by decide) rfl ⟨rfl, by decide, by decide⟩ (fun w h Y => PySem.W.kIn_of Y) ?F (fun w H a ns hl hO hS => L3.law_sp PySem.Challenge.rw_splithouse_k20_one_use.prog w hO hS (Gk20.law_true ns hl)) (fun w H s e s' ⟨_, _, _, _, _, _, _, _, _, _, _, _, z⟩ => z)
  case F =>
    intro w mg fa h KX G hmg
    refine' Gk20.all_mk KX G hmg ?a1 ?l1 ?c1 ?k1 ?a2 ?l2 ?c2 ?k2 ?a3 ?l3 ?c3 ?k3 ?a4 ?l4 ?c4 ?k4 ?a5 ?l5 ?c5 ?k5 ?a6 ?l6 ?c6 ?k6 ?a7 ?l7 ?c7 ?k7 ?a8 ?l8 ?c8 ?k8 ?a9 ?l9 ?c9 ?k9 ?a10 ?l10 ?c10 ?k10 ?a11 ?l11 ?c11 ?k11 ?z_all ?z_bool ?z_enumerate ?z_int ?z_isinstance ?z_len ?z_list ?z_min ?z_range ?z_tuple 
    (case a1 => k_is); (case l1 => k_is); (case c1 => k_is); (case k1 => k_is)
    (case a2 => k_is); (case l2 => k_is); (case c2 => k_is); (case k2 => k_is)
    (case a3 => k_is); (case l3 => k_is); (case c3 => k_is); (case k3 => k_is)
    (case a4 => k_is); (case l4 => k_is); (case c4 => k_is); (case k4 => k_is)
    (case a5 => k_is); (case l5 => k_is); (case c5 => k_is); (case k5 => k_is)
    (case a6 => k_is); (case l6 => k_is); (case c6 => k_is); (case k6 => k_is)
    (case a7 => k_is); (case l7 => k_is); (case c7 => k_is); (case k7 => k_is)
    (case a8 => k_is); (case l8 => k_is); (case c8 => k_is); (case k8 => k_is)
    (case a9 => k_is); (case l9 => k_is); (case c9 => k_is); (case k9 => k_is)
    (case a10 => k_is); (case l10 => k_is); (case c10 => k_is); (case k10 => k_is)
    (case a11 => k_is); (case l11 => k_is); (case c11 => k_is); (case k11 => k_is)
    (case z_all => k_is)
    (case z_bool => k_is)
    (case z_enumerate => k_is)
    (case z_int => k_is)
    (case z_isinstance => k_is)
    (case z_len => k_is)
    (case z_list => k_is)
    (case z_min => k_is)
    (case z_range => k_is)
    (case z_tuple => k_is)
