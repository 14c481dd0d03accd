import PyProof.Rows.All
import Wide.All
import OpenK.AllK
import Wide.FinOn
import HandS.ForMost
import HandS.ForExc
import HandS.TryMany
import HandS.ExcInit
import HandS.ExcField
import HandS.IsInst
import HandS.Flow
import HandS.WordsDict
import HandS.TupAny
import HandS.TupMul
import HandS.TupLe
import HandS.WideBits
import PyProof.StrOps2
import HandS.Text
import HandS.ExcOwn
import HandS.Defaults
import HandS.MakeKwOnly
import HandS.Exc
import HandS.DictComp
import HandS.TryOnly
import HandS.Style
import HandS.Conv
import HandS.OwnEq
import HandS.SortInts
import HandS.Small
import PyProof.MinMaxWalk
import PyProof.WalkInts
import PyProof.Rows.CallKwBuiltin
import HandS.SortKw
import HandS.Iter
import HandS.Deep
import KE.GoesMore
import KE.GoesZip
import HandS.SortRule
import PyProof.InstEq
import HandS.Set
import HandS.SetFor
import HandS.Strs
import HandS.HeadHook1
import HandS.HeadHook2
import HandS.HeadEnd
import HandS.Head2
import KE.KExcInit
import HandS.Codes
import HandS.Head0
import HandS.Head1
import PySem.Challenge.RW_thinwire_k07_courses_judged
import KE.KStateDown
import Lean
import HandS.More
import HandS.Words
import HandS.WordsExc
set_option Elab.async false
set_option linter.all false
set_option maxRecDepth 100000

set_option maxHeartbeats 4000000
namespace TW
open PySem PySem.Spec L2

inductive Vl where
  | non | bl (b : Bool) | int (i : Int) | str (x : Str)
  | tup (xs : List Vl) | lst (xs : List Vl) | dct (ks : List Key) (vs : List Vl)
  | ref (n : Nat) | obj (c : Nat) (fs : List Vl) | fro (xs : List Vl)
inductive Ob where
  | lst (xs : List Vl) | dct (ks : List Key) (vs : List Vl) | ins (c : Nat) (fs : List Vl)
abbrev Sto := List Ob
/-- a slot of a def: a value, or an object of this frame's own that nobody else holds -/
inductive Sl where
  | val (v : Vl) | own (o : Ob)
abbrev Ev := List (Option Sl)
inductive Res (α : Type) where
  | ok (a : α) (s : Sto) | exc (c : Nat) (fs : List Vl) (s : Sto) | bad
namespace Res
def bind {α β : Type} (r : Res α) (k : α → Sto → Res β) : Res β := match r with
  | .ok a s => k a s
  | .exc c fs s => .exc c fs s
  | .bad => .bad
@[simp] theorem bind_ok {α β : Type} (a : α) (s : Sto) (k : α → Sto → Res β) : (Res.ok a s).bind k = k a s := rfl
@[simp] theorem bind_exc {α β : Type} (c : Nat) (fs : List Vl) (s : Sto) (k : α → Sto → Res β) : (Res.exc c fs s : Res α).bind k = .exc c fs s := rfl
@[simp] theorem bind_bad {α β : Type} (k : α → Sto → Res β) : (Res.bad : Res α).bind k = .bad := rfl
def lift {α : Type} (o : Option α) (s : Sto) : Res α := match o with
  | some a => .ok a s
  | none => .bad
@[simp] theorem lift_some {α : Type} (a : α) (s : Sto) : lift (some a) s = .ok a s := rfl
@[simp] theorem lift_none {α : Type} (s : Sto) : (lift none s : Res α) = .bad := rfl
end Res

/-- the world: what the written part holds -/
structure Wd where
  K : PySem.W.Frag
  mg : Str → Option Value
  cls : Nat → Addr
  flds : Nat → List Str
  exc : Nat → Addr
  xfl : Nat → List Str
/-- the ghost: where the store's cells lie; what is held by callers and loops; what this frame owns -/
structure G where
  rho : List Addr
  base : List Addr
  own : List Addr
structure Imm (g : G) (a : Addr) : Prop where
  r : a ∉ g.rho
  b : a ∉ g.base
  o : a ∉ g.own

mutual
def R (W : Wd) (g : G) (H : Hp) : Vl → V → Prop
  | .non, u => u = .non
  | .bl b, u => u = .bl b
  | .int i, u => u = .int i
  | .str x, u => u = .str x
  | .tup xs, u => ∃ a vs, u = .ref a ∧ Imm g a ∧ H a = some (.tup vs) ∧ Rs W g H xs vs
  | .lst xs, u => ∃ a vs, u = .ref a ∧ Imm g a ∧ H a = some (.lst vs) ∧ Rs W g H xs vs
  | .dct ks xs, u => ∃ a kvs, u = .ref a ∧ Imm g a ∧ H a = some (.dK kvs) ∧ kvs.map (·.1) = ks ∧ Rs W g H xs (kvs.map (·.2))
  | .ref n, u => ∃ a, u = .ref a ∧ g.rho[n]? = some a
  | .obj c fs, u => ∃ a dx ps, u = .ref a ∧ Imm g a ∧ H a = some (.ins (W.cls c) dx ps) ∧ ps.map (·.1) = W.flds c ∧ Rs W g H fs (ps.map (·.2))
  | .fro xs, u => ∃ a o vs, u = .ref a ∧ Imm g a ∧ H a = some (.frz o (.lst vs)) ∧ vs.length ≤ sizeLine ∧ Rs W g H xs vs
def Rs (W : Wd) (g : G) (H : Hp) : List Vl → List V → Prop
  | [], vs => vs = []
  | x :: xs, vs => ∃ v r, vs = v :: r ∧ R W g H x v ∧ Rs W g H xs r
end
def RO (W : Wd) (g : G) (H : Hp) : Ob → Option HO → Prop
  | .lst xs, h => ∃ vs, h = some (.lst vs) ∧ Rs W g H xs vs
  | .dct ks xs, h => ∃ kvs, h = some (.dK kvs) ∧ kvs.map (·.1) = ks ∧ Rs W g H xs (kvs.map (·.2))
  | .ins c fs, h => ∃ dx ps, h = some (.ins (W.cls c) dx ps) ∧ ps.map (·.1) = (W.flds c).take fs.length ∧ Rs W g H fs (ps.map (·.2))

section
variable {W : Wd} {g g' g2 : G} {H H' H2 : Hp} {st st' : Sto}
theorem Rs.length : ∀ {xs : List Vl} {vs : List V}, Rs W g H xs vs → xs.length = vs.length
  | [], _, h => by rw [show _ = [] from h] <;> rfl
  | x :: xs, _, h => by
    obtain ⟨v, r, rfl, _, h2⟩ := h
    simp [Rs.length h2]
theorem Rs.nil_iff {vs : List V} : Rs W g H [] vs ↔ vs = [] := Iff.rfl
theorem Rs.cons {x : Vl} {v : V} {xs : List Vl} {vs : List V} (h : R W g H x v) (t : Rs W g H xs vs) : Rs W g H (x :: xs) (v :: vs) := ⟨v, vs, rfl, h, t⟩
theorem Rs.nil : Rs W g H [] [] := rfl
theorem Rs.get : ∀ {xs : List Vl} {vs : List V} {i : Nat} {x : Vl}, Rs W g H xs vs → xs[i]? = some x → ∃ v, vs[i]? = some v ∧ R W g H x v
  | [], _, _, _, _, e => by simp at e
  | x :: xs, _, 0, y, h, e => by
    obtain ⟨v, r, rfl, h1, _⟩ := h
    simp at e; subst e
    exact ⟨v, by simp, h1⟩
  | x :: xs, _, i + 1, y, h, e => by
    obtain ⟨v, r, rfl, _, h2⟩ := h
    obtain ⟨w, e1, e2⟩ := Rs.get (i := i) (x := y) h2 (by simpa using e)
    exact ⟨w, by simpa using e1, e2⟩
theorem Rs.get' : ∀ {xs : List Vl} {vs : List V} {i : Nat} {v : V}, Rs W g H xs vs → vs[i]? = some v → ∃ x, xs[i]? = some x ∧ R W g H x v
  | [], vs, i, v, h, e => by rw [show vs = [] from h] at e; simp at e
  | x :: xs, _, 0, v, h, e => by
    obtain ⟨w, r, rfl, h1, _⟩ := h
    simp at e; subst e
    exact ⟨x, by simp, h1⟩
  | x :: xs, _, i + 1, v, h, e => by
    obtain ⟨w, r, rfl, _, h2⟩ := h
    obtain ⟨y, e1, e2⟩ := Rs.get' (i := i) (v := v) h2 (by simpa using e)
    exact ⟨y, by simpa using e1, e2⟩
theorem Rs.append : ∀ {xs ys : List Vl} {vs ws : List V}, Rs W g H xs vs → Rs W g H ys ws → Rs W g H (xs ++ ys) (vs ++ ws)
  | [], _, _, _, h, h2 => by rw [show _ = [] from h]; exact h2
  | x :: xs, _, _, _, h, h2 => by
    obtain ⟨v, r, rfl, h1, h3⟩ := h
    exact ⟨v, _, rfl, h1, Rs.append h3 h2⟩
theorem Rs.one {x : Vl} {v : V} (h : R W g H x v) : Rs W g H [x] [v] := ⟨v, [], rfl, h, rfl⟩
theorem Rs.drop : ∀ {xs : List Vl} {vs : List V} (n : Nat), Rs W g H xs vs → Rs W g H (xs.drop n) (vs.drop n)
  | _, _, 0, h => h
  | [], _, n + 1, h => by rw [show _ = [] from h]; rfl
  | x :: xs, _, n + 1, h => by
    obtain ⟨v, r, rfl, _, h2⟩ := h
    exact Rs.drop n h2
theorem Rs.take : ∀ {xs : List Vl} {vs : List V} (n : Nat), Rs W g H xs vs → Rs W g H (xs.take n) (vs.take n)
  | _, _, 0, _ => rfl
  | [], _, n + 1, h => by rw [show _ = [] from h]; rfl
  | x :: xs, _, n + 1, h => by
    obtain ⟨v, r, rfl, h1, h2⟩ := h
    exact ⟨v, _, rfl, h1, Rs.take n h2⟩
theorem Rs.set : ∀ {xs : List Vl} {vs : List V} (i : Nat) {x : Vl} {v : V}, Rs W g H xs vs → R W g H x v → Rs W g H (xs.set i x) (vs.set i v)
  | [], _, _, _, _, h, _ => by rw [show _ = [] from h]; rfl
  | y :: ys, _, 0, _, _, h, q => by
    obtain ⟨w, r, rfl, _, h2⟩ := h
    exact ⟨_, _, rfl, q, h2⟩
  | y :: ys, _, i + 1, _, _, h, q => by
    obtain ⟨w, r, rfl, h1, h2⟩ := h
    exact ⟨_, _, rfl, h1, Rs.set i h2 q⟩
theorem Rs.reverse {xs : List Vl} {vs : List V} (h : Rs W g H xs vs) : Rs W g H xs.reverse vs.reverse := by
  induction xs generalizing vs with
  | nil => rw [show vs = [] from h]; rfl
  | cons x xs ih =>
    obtain ⟨v, r, rfl, h1, h2⟩ := h
    rw [List.reverse_cons, List.reverse_cons]
    exact (ih h2).append (Rs.one h1)
theorem Rs.replicate {x : Vl} {v : V} (h : R W g H x v) : ∀ n : Nat, Rs W g H (List.replicate n x) (List.replicate n v)
  | 0 => rfl
  | n + 1 => ⟨v, _, rfl, h, Rs.replicate h n⟩

/-- an instance stands there -/
def Ins : Option HO → Prop
  | some (.ins _ _ _) => True
  | _ => False
/-- behind an expression -/
structure EE (g : G) (H : Hp) (g' : G) (H' : Hp) : Prop where
  pre : ∃ m, g'.rho = g.rho ++ m
  base : g'.base = g.base
  own : g'.own = g.own
  keep : ∀ a o, H a = some o → a ∉ g.rho → H' a = some o
  fresh : ∀ a, a ∈ g'.rho → a ∈ g.rho ∨ H a = none
  there : ∀ a, H' a = none → H a = none
  oi : ∀ a, a ∈ g.own → Ins (H' a) → Ins (H a) ∨ H a = none
/-- behind a statement -/
structure ES (g : G) (H : Hp) (g' : G) (H' : Hp) : Prop where
  pre : ∃ m, g'.rho = g.rho ++ m
  base : g'.base = g.base
  own : ∀ a, a ∈ g'.own → a ∈ g.own ∨ H a = none
  keep : ∀ a o, H a = some o → a ∉ g.rho → a ∉ g.own → H' a = some o
  fresh : ∀ a, a ∈ g'.rho → a ∈ g.rho ∨ H a = none
  there : ∀ a, H' a = none → H a = none
  oi : ∀ a, a ∈ g'.own → (a ∉ g.own → H' a ≠ none ∧ ¬ Ins (H' a)) ∧ (a ∈ g.own → Ins (H' a) → Ins (H a) ∨ H a = none)
theorem EE.es (x : EE g H g' H') : ES g H g' H' := ⟨x.pre, x.base, fun a h => .inl (x.own ▸ h), fun a o e n _ => x.keep a o e n, x.fresh, x.there, fun a h => ⟨fun n => absurd (x.own ▸ h) n, fun _ => x.oi a (x.own ▸ h)⟩⟩
theorem EE.refl : EE g H g H := ⟨⟨[], by simp⟩, rfl, rfl, fun _ _ e _ => e, fun _ h => .inl h, fun _ h => h, fun _ _ i => .inl i⟩
theorem ES.refl : ES g H g H := EE.refl.es
theorem EE.sub (x : EE g H g' H') {a : Addr} (h : a ∈ g.rho) : a ∈ g'.rho := by
  obtain ⟨m, e⟩ := x.pre
  rw [e]; exact List.mem_append_left _ h
theorem ES.sub (x : ES g H g' H') {a : Addr} (h : a ∈ g.rho) : a ∈ g'.rho := by
  obtain ⟨m, e⟩ := x.pre
  rw [e]; exact List.mem_append_left _ h
theorem EE.trans (x : EE g H g' H') (y : EE g' H' g2 H2) : EE g H g2 H2 where
  pre := by
    obtain ⟨m, e⟩ := x.pre
    obtain ⟨m2, e2⟩ := y.pre
    exact ⟨m ++ m2, by rw [e2, e, List.append_assoc]⟩
  base := y.base.trans x.base
  own := y.own.trans x.own
  keep := fun a o e n => y.keep a o (x.keep a o e n) fun h => by
    rcases x.fresh a h with h | h
    · exact n h
    · rw [e] at h; cases h
  fresh := fun a h => by
    rcases y.fresh a h with h | h
    · exact x.fresh a h
    · exact .inr (x.there a h)
  there := fun a h => x.there a (y.there a h)
  oi := fun a h i => (y.oi a (x.own ▸ h) i).elim (x.oi a h) fun z => .inr (x.there a z)
theorem ES.trans (x : ES g H g' H') (y : ES g' H' g2 H2) : ES g H g2 H2 where
  pre := by
    obtain ⟨m, e⟩ := x.pre
    obtain ⟨m2, e2⟩ := y.pre
    exact ⟨m ++ m2, by rw [e2, e, List.append_assoc]⟩
  base := y.base.trans x.base
  own := fun a h => by
    rcases y.own a h with h | h
    · exact x.own a h
    · exact .inr (x.there a h)
  keep := fun a o e n no => y.keep a o (x.keep a o e n no) (fun h => by
    rcases x.fresh a h with h | h
    · exact n h
    · rw [e] at h; cases h) fun h => by
    rcases x.own a h with h | h
    · exact no h
    · rw [e] at h; cases h
  fresh := fun a h => by
    rcases y.fresh a h with h | h
    · exact x.fresh a h
    · exact .inr (x.there a h)
  there := fun a h => x.there a (y.there a h)
  oi := fun a h => by
    by_cases k : a ∈ g'.own
    · refine ⟨fun n => ?_, fun m i => ((y.oi a h).2 k i).elim ((x.oi a k).2 m) fun z => .inr (x.there a z)⟩
      obtain ⟨n1, n2⟩ := (x.oi a k).1 n
      exact ⟨fun z => n1 (y.there a z), fun i => ((y.oi a h).2 k i).elim n2 n1⟩
    · exact ⟨fun _ => (y.oi a h).1 k, fun _ i => absurd i ((y.oi a h).1 k).2⟩
/-- what a value's place leans on -/
structure Mo (g : G) (H : Hp) (g' : G) (H' : Hp) : Prop where
  imm : ∀ a, Imm g a → H a ≠ none → Imm g' a
  at_ : ∀ a o, Imm g a → H a = some o → H' a = some o
  nth : ∀ (n : Nat) (a : Addr), g.rho[n]? = some a → g'.rho[n]? = some a
theorem ES.mo (x : ES g H g' H') : Mo g H g' H' where
  imm := fun a i t => ⟨fun h => (x.fresh a h).elim i.r t, fun h => i.b (x.base ▸ h), fun h => (x.own a h).elim i.o t⟩
  at_ := fun a o i e => x.keep a o e i.r i.o
  nth := fun n a e => by
    obtain ⟨m, e2⟩ := x.pre
    rw [e2, List.getElem?_append_left (List.getElem?_eq_some_iff.mp e).1]
    exact e
theorem EE.mo (x : EE g H g' H') : Mo g H g' H' := x.es.mo
theorem Mo.rd (x : Mo g H g' H') {a : Addr} {o : HO} (i : Imm g a) (e : Rd H a o) : Rd H' a o := by
  rcases e with e | ⟨ob, e⟩
  · exact .inl (x.at_ a _ i e)
  · exact .inr ⟨ob, x.at_ a _ i e⟩
theorem rd_ne {H : Hp} {a : Addr} {o : HO} (e : Rd H a o) : H a ≠ none := by
  rcases e with e | ⟨ob, e⟩ <;> rw [e] <;> exact fun z => by cases z
mutual
theorem R.mo (x : Mo g H g' H') : ∀ {v : Vl} {u : V}, R W g H v u → R W g' H' v u
  | .non, _, h => h
  | .bl _, _, h => h
  | .int _, _, h => h
  | .str _, _, h => h
  | .tup xs, _, h => by
    obtain ⟨a, vs, e, i, r, t⟩ := h
    exact ⟨a, vs, e, x.imm a i (by rw [r]; exact fun z => by cases z), x.at_ a _ i r, Rs.mo x t⟩
  | .lst xs, _, h => by
    obtain ⟨a, vs, e, i, r, t⟩ := h
    exact ⟨a, vs, e, x.imm a i (by rw [r]; exact fun z => by cases z), x.at_ a _ i r, Rs.mo x t⟩
  | .dct ks xs, _, h => by
    obtain ⟨a, kvs, e, i, r, k, t⟩ := h
    exact ⟨a, kvs, e, x.imm a i (by rw [r]; exact fun z => by cases z), x.at_ a _ i r, k, Rs.mo x t⟩
  | .ref n, _, h => by
    obtain ⟨a, e, k⟩ := h
    exact ⟨a, e, x.nth n a k⟩
  | .obj c fs, _, h => by
    obtain ⟨a, dx, ps, e, i, r, k, t⟩ := h
    exact ⟨a, dx, ps, e, x.imm a i (by rw [r]; exact fun z => by cases z), x.at_ a _ i r, k, Rs.mo x t⟩
  | .fro xs, _, h => by
    obtain ⟨a, o, vs, e, i, r, lz, t⟩ := h
    exact ⟨a, o, vs, e, x.imm a i (by rw [r]; exact fun z => by cases z), x.at_ a _ i r, lz, Rs.mo x t⟩
theorem Rs.mo (x : Mo g H g' H') : ∀ {xs : List Vl} {vs : List V}, Rs W g H xs vs → Rs W g' H' xs vs
  | [], _, h => h
  | y :: ys, _, h => by
    obtain ⟨v, r, e, h1, h2⟩ := h
    exact ⟨v, r, e, R.mo x h1, Rs.mo x h2⟩
end
theorem RO.mo (x : Mo g H g' H') {o : Ob} {h : Option HO} (r : RO W g H o h) : RO W g' H' o h := by
  cases o with
  | lst xs => obtain ⟨vs, e, t⟩ := r; exact ⟨vs, e, t.mo x⟩
  | dct ks xs => obtain ⟨vs, e, k, t⟩ := r; exact ⟨vs, e, k, t.mo x⟩
  | ins c fs => obtain ⟨dx, vs, e, k, t⟩ := r; exact ⟨dx, vs, e, k, t.mo x⟩
theorem R.ee (x : EE g H g' H') {v : Vl} {u : V} (h : R W g H v u) : R W g' H' v u := h.mo x.mo
theorem Rs.ee (x : EE g H g' H') {v : List Vl} {u : List V} (h : Rs W g H v u) : Rs W g' H' v u := h.mo x.mo
theorem R.es (x : ES g H g' H') {v : Vl} {u : V} (h : R W g H v u) : R W g' H' v u := h.mo x.mo
theorem Rs.es (x : ES g H g' H') {v : List Vl} {u : List V} (h : Rs W g H v u) : Rs W g' H' v u := h.mo x.mo
theorem RO.some {o : Ob} {h : Option HO} (r : RO W g H o h) : ∃ u, h = some u := by
  cases o with
  | lst xs => obtain ⟨vs, e, t⟩ := r; exact ⟨_, e⟩
  | dct ks xs => obtain ⟨vs, e, k, t⟩ := r; exact ⟨_, e⟩
  | ins c fs => obtain ⟨dx, vs, e, k, t⟩ := r; exact ⟨_, e⟩
theorem RO.mut {o : Ob} {h : Option HO} (r : RO W g H o h) : Mut h := by
  cases o with
  | lst xs => obtain ⟨vs, rfl, t⟩ := r; exact trivial
  | dct ks xs => obtain ⟨vs, rfl, k, t⟩ := r; exact trivial
  | ins c fs => obtain ⟨dx, vs, rfl, k, t⟩ := r; exact trivial
/-- the ghost with one more address that is held -/
def G.hold (g : G) (p : Addr) : G := { g with base := p :: g.base }
/-- the ghost with one more cell -/
def G.more (g : G) (p : Addr) : G := { g with rho := g.rho ++ [p] }
/-- the ghost with one more address of the frame's own -/
def G.mine (g : G) (p : Addr) : G := { g with own := p :: g.own }
theorem Mo.of_hold {p : Addr} : Mo (g.hold p) H g H := ⟨fun a i _ => ⟨i.r, fun h => i.b (List.mem_cons_of_mem _ h), i.o⟩, fun a o _ e => e, fun n a e => e⟩
theorem Mo.hold_more {p : Addr} : Mo (g.hold p) H (g.more p) H :=
  ⟨fun a i _ => ⟨fun h => (List.mem_append.mp h).elim i.r fun z => i.b (by rw [List.mem_singleton.mp z]; exact List.mem_cons_self), fun h => i.b (List.mem_cons_of_mem _ h), i.o⟩, fun a o _ e => e,
    fun n a e => by
      have e' : g.rho[n]? = some a := e
      show (g.rho ++ [p])[n]? = some a
      rw [List.getElem?_append_left (List.getElem?_eq_some_iff.mp e').1]
      exact e'⟩
theorem Mo.hold_mine {p : Addr} : Mo (g.hold p) H (g.mine p) H :=
  ⟨fun a i _ => ⟨i.r, fun h => i.b (List.mem_cons_of_mem _ h), fun h => (List.mem_cons.mp h).elim (fun z => i.b (by rw [z]; exact List.mem_cons_self)) i.o⟩, fun a o _ e => e, fun n a e => e⟩

def szO : HO → Prop
  | .lst vs => vs.length ≤ sizeLine
  | .tup vs => vs.length ≤ sizeLine
  | .frz _ _ => False
  | _ => True
structure Rel (W : Wd) (g : G) (st : Sto) (H : Hp) : Prop where
  len : g.rho.length = st.length
  nd : g.rho.Nodup
  cell : ∀ (n : Nat) (a : Addr) (o : Ob), g.rho[n]? = some a → (st : List Ob)[n]? = some o → RO W g H o (H a)
  prot : ∀ a, a ∈ g.base ∨ a ∈ g.own → H a ≠ none ∧ a ∉ g.rho
  disj : ∀ a, a ∈ g.base → a ∉ g.own
  sz : ∀ a vs, (H a = some (.lst vs) ∨ H a = some (.tup vs)) → vs.length ≤ sizeLine
theorem Rel.there (r : Rel W g st H) {a : Addr} (h : a ∈ g.rho) : H a ≠ none := by
  obtain ⟨n, hn, e⟩ := List.mem_iff_getElem.mp h
  have hs : n < (st : List Ob).length := by rw [← r.len]; exact hn
  obtain ⟨u, q⟩ := (r.cell n a (st : List Ob)[n] (by rw [List.getElem?_eq_getElem hn, e]) (List.getElem?_eq_getElem hs)).some
  rw [q]; exact fun z => by cases z
/-- a free address stands apart -/
theorem Rel.free (r : Rel W g st H) {p : Addr} (h : H p = none) : Imm g p :=
  ⟨fun q => r.there q h, fun q => (r.prot p (.inl q)).1 h, fun q => (r.prot p (.inr q)).1 h⟩
/-- a new object -/
theorem EE.new {p : Addr} {o : HO} (h : H p = none) : EE g H g (upd H p o) where
  pre := ⟨[], by simp⟩
  base := rfl
  own := rfl
  keep := fun a u e _ => by rw [upd_ne (ne_of_none e h)]; exact e
  fresh := fun a q => .inl q
  there := fun a q => by
    by_cases e : a = p
    · subst e; exact h
    · rwa [upd_ne e] at q
  oi := fun a _ i => by
    by_cases e : a = p
    · subst e; exact .inr h
    · rw [upd_ne e] at i; exact .inl i
theorem rd_new {p a : Addr} {o u : HO} (h : Rd (upd H p o) a u) : (a = p ∧ (o = u ∨ ∃ ob, o = .frz ob u)) ∨ Rd H a u := by
  by_cases e : a = p
  · subst e
    refine .inl ⟨rfl, ?_⟩
    rcases h with h | ⟨ob, h⟩
    · rw [upd_same] at h; cases h; exact .inl rfl
    · rw [upd_same] at h; cases h; exact .inr ⟨ob, rfl⟩
  · refine .inr ?_
    rcases h with h | ⟨ob, h⟩
    · rw [upd_ne e] at h; exact .inl h
    · rw [upd_ne e] at h; exact .inr ⟨ob, h⟩
theorem sz_new {p : Addr} {o : HO} (ho : szO o) (z : ∀ a vs, (H a = some (.lst vs) ∨ H a = some (.tup vs)) → vs.length ≤ sizeLine) :
    ∀ a vs, (upd H p o a = some (.lst vs) ∨ upd H p o a = some (.tup vs)) → vs.length ≤ sizeLine := fun a vs h => by
  by_cases e : a = p
  · subst e
    rw [upd_same] at h
    rcases h with h | h
    · cases h; exact ho
    · cases h; exact ho
  · rw [upd_ne e] at h
    exact z a vs h
theorem Rel.new (r : Rel W g st H) {p : Addr} {o : HO} (h : H p = none) (ho : szO o) : Rel W g st (upd H p o) where
  len := r.len
  nd := r.nd
  cell := fun n a u e1 e2 => by
    have q := r.cell n a u e1 e2
    have ne : a ≠ p := fun e => by
      obtain ⟨w, hw⟩ := q.some
      rw [e, h] at hw; cases hw
    rw [upd_ne ne]
    exact q.mo (EE.new h).mo
  prot := fun a q => ⟨fun e => (r.prot a q).1 ((EE.new (g := g) (o := o) h).there a e), (r.prot a q).2⟩
  disj := r.disj
  sz := sz_new ho r.sz
/-- .. held -/
theorem Rel.hold (r : Rel W g st H) {p : Addr} {o : HO} (h : H p = none) (ho : szO o) : Rel W (g.hold p) st (upd H p o) := by
  have q := r.new h ho
  have np : Imm g p := r.free h
  refine ⟨q.len, q.nd, fun n a u e1 e2 => ?_, fun a z => ?_, fun a z => ?_, q.sz⟩
  · have c := r.cell n a u e1 e2
    have ne : a ≠ p := fun e => by
      obtain ⟨w, hw⟩ := c.some
      rw [e, h] at hw; cases hw
    rw [upd_ne ne]
    have m : Mo g H (g.hold p) (upd H p o) := by
      refine ⟨fun b i t => ⟨i.r, fun z => ?_, i.o⟩, fun b o' _ e => ?_, fun _ _ e => e⟩
      · have z' : b ∈ p :: g.base := z
        rcases List.mem_cons.mp z' with z | z
        · exact t (z ▸ h)
        · exact i.b z
      · rw [upd_ne (ne_of_none e h)]; exact e
    exact c.mo m
  · rcases z with z | z
    · have z' : a ∈ p :: g.base := z
      rcases List.mem_cons.mp z' with z | z
      · rw [z, upd_same]; exact And.intro (fun w => by cases w) np.r
      · exact q.prot a (.inl z)
    · exact q.prot a (.inr z)
  · have z' : a ∈ p :: g.base := z
    rcases List.mem_cons.mp z' with z | z
    · rw [z]; exact np.o
    · exact q.disj a z
/-- a held object let go -/
theorem Rel.unhold {p : Addr} (r : Rel W (g.hold p) st H) : Rel W g st H :=
  ⟨r.len, r.nd, fun n a o e1 e2 => (r.cell n a o e1 e2).mo Mo.of_hold, fun a h => r.prot a (h.imp (fun z => List.mem_cons_of_mem _ z) id), fun a h => r.disj a (List.mem_cons_of_mem _ h), r.sz⟩
/-- a held object becomes a cell -/
theorem Rel.cellOf {p : Addr} {o : Ob} (r : Rel W (g.hold p) st H) (hb : p ∉ g.base) (q : RO W (g.hold p) H o (H p)) : Rel W (g.more p) (st ++ [o]) H := by
  have np : p ∉ g.rho := (r.prot p (.inl List.mem_cons_self)).2
  have nb : p ∉ g.own := r.disj p List.mem_cons_self
  refine ⟨?_, ?_, fun n a w e1 e2 => ?_, fun a h => ?_, fun a h => r.disj a (List.mem_cons_of_mem _ h), r.sz⟩
  · have e := r.len
    show (g.rho ++ [p]).length = _
    rw [List.length_append, List.length_append]
    have e' : g.rho.length = (st : List Ob).length := e
    rw [e']; rfl
  · refine List.nodup_append.mpr ⟨r.nd, by simp, fun a ha b hb => ?_⟩
    rw [List.mem_singleton.mp hb]
    exact fun z => np (z ▸ ha)
  · have e1' : (g.rho ++ [p])[n]? = some a := e1
    have len : g.rho.length = (st : List Ob).length := r.len
    by_cases hn : n < g.rho.length
    · rw [List.getElem?_append_left hn] at e1'
      rw [List.getElem?_append_left (by rw [← len]; exact hn)] at e2
      exact (r.cell n a w e1' e2).mo Mo.hold_more
    · rw [List.getElem?_append_right (by omega)] at e1'
      rw [List.getElem?_append_right (by omega), ← len] at e2
      have z : n - g.rho.length = 0 := by
        obtain ⟨h1, _⟩ := List.getElem?_eq_some_iff.mp e1'
        simp at h1; omega
      rw [z] at e1' e2
      simp at e1' e2
      subst e1' e2
      exact q.mo Mo.hold_more
  · have h1 : H a ≠ none ∧ a ∉ g.rho := r.prot a (h.imp (fun z => List.mem_cons_of_mem _ z) id)
    refine ⟨h1.1, fun z => ?_⟩
    rcases List.mem_append.mp (show a ∈ g.rho ++ [p] from z) with z | z
    · exact h1.2 z
    · rw [List.mem_singleton.mp z] at h
      exact h.elim hb nb
/-- .. becomes the frame's own -/
theorem Rel.mineOf {p : Addr} (r : Rel W (g.hold p) st H) (hb : p ∉ g.base) : Rel W (g.mine p) st H := by
  refine ⟨r.len, r.nd, fun n a o e1 e2 => (r.cell n a o e1 e2).mo Mo.hold_mine, fun a h => ?_, fun a h => ?_, r.sz⟩
  · rcases h with h | h
    · exact r.prot a (.inl (List.mem_cons_of_mem _ h))
    · have h' : a ∈ p :: g.own := h
      rcases List.mem_cons.mp h' with z | h
      · rw [z]; exact r.prot p (.inl List.mem_cons_self)
      · exact r.prot a (.inr h)
  · intro z
    have z' : a ∈ p :: g.own := z
    rcases List.mem_cons.mp z' with z | z
    · rw [z] at h; exact hb h
    · exact r.disj a (List.mem_cons_of_mem _ h) z
/-- a cell is changed -/
theorem Rel.put (r : Rel W g st H) {n : Nat} {a : Addr} {o : Ob} {u : HO} (hn : g.rho[n]? = some a) (q : RO W g H o (some u)) (ho : szO u) : Rel W g ((st : List Ob).set n o) (upd H a u) ∧ EE g H g (upd H a u) := by
  have ham : a ∈ g.rho := List.mem_iff_getElem?.mpr ⟨n, hn⟩
  have ee : EE g H g (upd H a u) := {
    pre := ⟨[], by simp⟩
    base := rfl
    own := rfl
    keep := fun b w e nb => by rw [upd_ne (fun z => nb (by rw [z]; exact ham))]; exact e
    fresh := fun b h => .inl h
    there := fun b e => by
      by_cases z : b = a
      · subst z; rw [upd_same] at e; cases e
      · rwa [upd_ne z] at e
    oi := fun b h i => by
      by_cases z : b = a
      · subst z; exact absurd ham (r.prot b (.inr h)).2
      · rw [upd_ne z] at i; exact .inl i }
  refine ⟨⟨by rw [List.length_set]; exact r.len, r.nd, fun m b w e1 e2 => ?_, fun b h => ⟨fun e => (r.prot b h).1 (ee.there b e), (r.prot b h).2⟩, r.disj, sz_new ho r.sz⟩, ee⟩
  by_cases z : m = n
  · subst z
    rw [hn] at e1; cases e1
    have hl : m < (st : List Ob).length := by rw [← r.len]; exact (List.getElem?_eq_some_iff.mp hn).1
    rw [List.getElem?_set_self hl] at e2
    cases e2
    rw [upd_same]; exact q.mo ee.mo
  · have nb : b ≠ a := fun e => by
      subst e
      obtain ⟨h1, q1⟩ := List.getElem?_eq_some_iff.mp e1
      obtain ⟨h2, q2⟩ := List.getElem?_eq_some_iff.mp hn
      exact z ((List.getElem_inj r.nd).mp (q1.trans q2.symm))
    rw [List.getElem?_set_ne (Ne.symm z)] at e2
    rw [upd_ne nb]
    exact (r.cell m b w e1 e2).mo ee.mo
end
end TW
set_option maxHeartbeats 4000000
namespace TW
open PySem PySem.Spec L2

def RSl (W : Wd) (g : G) (H : Hp) : Sl → V → Prop
  | .val v, u => R W g H v u
  | .own o, u => ∃ a, u = .ref a ∧ a ∈ g.own ∧ RO W g H o (H a)
structure RS (W : Wd) (g : G) (H : Hp) (env : Ev) (σ : St) : Prop where
  len : env.length = σ.length
  at_ : ∀ (i : Nat) (s : Sl), env[i]? = some (some s) → ∃ u, σ[i]? = some (some u) ∧ RSl W g H s u
  uni : ∀ (i j : Nat) (o o' : Ob) (a : Addr), env[i]? = some (some (.own o)) → env[j]? = some (some (.own o')) → σ[i]? = some (some (.ref a)) → σ[j]? = some (some (.ref a)) → i = j
section
variable {W : Wd} {g g' g2 : G} {H H' H2 : Hp} {st st' : Sto} {env : Ev} {σ : St}
theorem RSl.ee (r : Rel W g st H) (x : EE g H g' H') {s : Sl} {u : V} (h : RSl W g H s u) : RSl W g' H' s u := by
  cases s with
  | val v => exact R.ee x h
  | own o =>
    obtain ⟨a, e, ha, q⟩ := h
    obtain ⟨w, hw⟩ := q.some
    have k : H' a = H a := by rw [hw]; exact x.keep a w hw (r.prot a (.inr ha)).2
    exact ⟨a, e, x.own ▸ ha, by rw [k]; exact q.mo x.mo⟩
theorem RS.ee (s : RS W g H env σ) (r : Rel W g st H) (x : EE g H g' H') : RS W g' H' env σ :=
  ⟨s.len, fun i sl e => let ⟨u, e1, h⟩ := s.at_ i sl e; ⟨u, e1, h.ee r x⟩, s.uni⟩
theorem RS.val (s : RS W g H env σ) {i : Nat} {v : Vl} (e : env[i]? = some (some (.val v))) : ∃ u, σ[i]? = some (some u) ∧ R W g H v u := s.at_ i _ e
/-- a name is bound to a value -/
theorem RS.set (s : RS W g H env σ) {i : Nat} {v : Vl} {u : V} (h : R W g H v u) : RS W g H (env.set i (some (.val v))) (σ.set i (some u)) := by
  refine ⟨by simp [s.len], fun j sl e => ?_, fun j k o o' a e1 e2 e3 e4 => ?_⟩
  · by_cases z : i = j
    · subst z
      have hl : i < env.length := by
        have := (List.getElem?_eq_some_iff.mp e).1
        simpa using this
      rw [List.getElem?_set_self hl] at e
      cases e
      exact ⟨u, List.getElem?_set_self (by rw [← s.len]; exact hl), h⟩
    · rw [List.getElem?_set_ne z] at e
      rw [List.getElem?_set_ne z]
      exact s.at_ j sl e
  · have nj : i ≠ j := fun z => by
      subst z
      have hl : i < env.length := by
        have := (List.getElem?_eq_some_iff.mp e1).1
        simpa using this
      rw [List.getElem?_set_self hl] at e1; cases e1
    have nk : i ≠ k := fun z => by
      subst z
      have hl : i < env.length := by
        have := (List.getElem?_eq_some_iff.mp e2).1
        simpa using this
      rw [List.getElem?_set_self hl] at e2; cases e2
    rw [List.getElem?_set_ne nj] at e1 e3
    rw [List.getElem?_set_ne nk] at e2 e4
    exact s.uni j k o o' a e1 e2 e3 e4

/-- an exception's own dict -/
def XD (W : Wd) (g : G) (H : Hp) (c : Nat) (fs : List Vl) (d : Addr) : Prop :=
  Imm g d ∧ ∃ ps, H d = some (.xd ps) ∧ ∀ (i : Nat) (f : Str) (v : Vl), (W.xfl c)[i]? = some f → fs[i]? = some v → ∃ u, ps.lookup f = some u ∧ R W g H v u
theorem XD.mo {c : Nat} {fs : List Vl} {d : Addr} (x : Mo g H g' H') (h : XD W g H c fs d) : XD W g' H' c fs d := by
  obtain ⟨i, ps, e, q⟩ := h
  refine ⟨x.imm d i (by rw [e]; exact fun z => by cases z), ps, x.at_ d _ i e, fun k f v e1 e2 => ?_⟩
  obtain ⟨u, e3, r⟩ := q k f v e1 e2
  exact ⟨u, e3, r.mo x⟩

def Out {α : Type} (W : Wd) (E : XK) (g : G) (H : Hp) (r : Res α) (P : α → G → Sto → Hp → Prop) : Prop := match r with
  | .ok v st' => ∀ g' H', EE g H g' H' → Rel W g' st' H' → P v g' st' H'
  | .exc c fs st' => ∀ g' H' d, EE g H g' H' → Rel W g' st' H' → XD W g' H' c fs d → E (.ref (W.exc c)) (some d) H'
  | .bad => False
/-- read as a value that may be kept -/
def tE (W : Wd) (E : XK) (f : Ev → Sto → Res Vl) : TE := fun σ H Q => ∃ g st env, Rel W g st H ∧ RS W g H env σ ∧ Out W E g H (f env st) (fun v g' _ H' => ∀ u, R W g' H' v u → Q u H')
/-- a list or a dict of the frame's own may be looked at -/
def RB (W : Wd) (g : G) (H : Hp) (v : Vl) (u : V) : Prop := R W g H v u ∨ ∃ a, u = .ref a ∧ a ∈ g.own ∧ match v with
  | .lst xs => RO W g H (.lst xs) (H a)
  | .dct ks xs => RO W g H (.dct ks xs) (H a)
  | _ => False
def tB (W : Wd) (E : XK) (f : Ev → Sto → Res Vl) : TE := fun σ H Q => ∃ g st env, Rel W g st H ∧ RS W g H env σ ∧ Out W E g H (f env st) (fun v g' _ H' => ∀ u, RB W g' H' v u → Q u H')
def tT (W : Wd) (E : XK) (f : Ev → Sto → Res Bool) : TT := fun σ H Q => ∃ g st env, Rel W g st H ∧ RS W g H env σ ∧ Out W E g H (f env st) (fun b _ _ H' => Q b H')
def tA (W : Wd) (E : XK) (f : Ev → Sto → Res (List Vl)) : TA := fun σ H Q => ∃ g st env, Rel W g st H ∧ RS W g H env σ ∧ Out W E g H (f env st) (fun vs g' _ H' => ∀ us, Rs W g' H' vs us → Q us H')

abbrev SE (X : Cx) (W : Wd) (E : XK) (e : Expr) (f : Ev → Sto → Res Vl) : Prop := PE X e (tE W E f)
abbrev SB (X : Cx) (W : Wd) (E : XK) (e : Expr) (f : Ev → Sto → Res Vl) : Prop := PE X e (tB W E f)
abbrev ST (X : Cx) (W : Wd) (E : XK) (e : Expr) (f : Ev → Sto → Res Bool) : Prop := PT X e (tT W E f)
abbrev SA (X : Cx) (W : Wd) (E : XK) (es : List Expr) (f : Ev → Sto → Res (List Vl)) : Prop := PA X es (tA W E f)

theorem pe_weak {X : Cx} {e : Expr} {t t' : TE} (h : PE X e t) (i : ∀ σ H Q, t' σ H Q → t σ H Q) : PE X e t' := ⟨fun pins s σ H Q I hw => h.run pins s σ H Q I (i σ H Q hw)⟩
theorem pt_weak {X : Cx} {e : Expr} {t t' : TT} (h : PT X e t) (i : ∀ σ H Q, t' σ H Q → t σ H Q) : PT X e t' := ⟨fun pins s σ H Q I hw => h.run pins s σ H Q I (i σ H Q hw)⟩
theorem pa_weak {X : Cx} {e : List Expr} {t t' : TA} (h : PA X e t) (i : ∀ σ H Q, t' σ H Q → t σ H Q) : PA X e t' := ⟨fun pos pins s σ H Q I hw => h.run pos pins s σ H Q I (i σ H Q hw)⟩
theorem ps_weak {X : Cx} {e : Stmt} {t t' : TS} (h : PS X e t) (i : ∀ D σ H, t' D σ H → t D σ H) : PS X e t' := ⟨fun pins s σ H D I hw => h.run pins s σ H D I (i D σ H hw)⟩
theorem pss_weak {X : Cx} {e : List Stmt} {t t' : TS} (h : PSs X e t) (i : ∀ D σ H, t' D σ H → t D σ H) : PSs X e t' := ⟨fun pins s σ H D I hw => h.run pins s σ H D I (i D σ H hw)⟩
/-- many readings of one expression: the one that fits is taken -/
theorem pe_ex {X : Cx} {e : Expr} {ι : Type} {t : ι → TE} (h : ∀ i, PE X e (t i)) : PE X e (fun σ H Q => ∃ i, t i σ H Q) := ⟨fun pins s σ H Q I hw => let ⟨i, q⟩ := hw; (h i).run pins s σ H Q I q⟩
theorem pe_or2 {X : Cx} {e : Expr} {t u : TE} (h : PE X e t) (h' : PE X e u) : PE X e (fun σ H Q => t σ H Q ∨ u σ H Q) := ⟨fun pins s σ H Q I hw => hw.elim (h.run pins s σ H Q I) (h'.run pins s σ H Q I)⟩

theorem SE.b {X : Cx} {W : Wd} {E : XK} {e : Expr} {f : Ev → Sto → Res Vl} (h : SE X W E e f) : SB X W E e f := by
  refine pe_weak h ?_
  rintro σ H Q ⟨g, st, env, rel, rs, o⟩
  refine ⟨g, st, env, rel, rs, ?_⟩
  cases e1 : f env st with
  | ok v st' => rw [e1] at o; exact fun g' H' ee r u ru => o g' H' ee r u (.inl ru)
  | exc c fs st' => rw [e1] at o; exact o
  | bad => rw [e1] at o; exact o

/-- THE STEP: f, then k of its value -/
theorem tB_bind {E : XK} {f : Ev → Sto → Res Vl} {β : Type} {k : Vl → Sto → Res β} {P : β → G → Sto → Hp → Prop} {Q : VK} (rel : Rel W g st H) (rs : RS W g H env σ) (h : Out W E g H ((f env st).bind k) P)
    (q : ∀ v st1 g1 H1 u, f env st = .ok v st1 → EE g H g1 H1 → Rel W g1 st1 H1 → RB W g1 H1 v u → Out W E g1 H1 (k v st1) P → Q u H1) : tB W E f σ H Q := by
  refine ⟨g, st, env, rel, rs, ?_⟩
  cases e1 : f env st with
  | ok v st1 =>
    rw [e1, Res.bind_ok] at h
    refine fun g1 H1 ee r u ru => q v st1 g1 H1 u e1 ee r ru ?_
    cases e2 : k v st1 with
    | ok w st2 => rw [e2] at h; exact fun g2 H2 ee2 r2 => h g2 H2 (ee.trans ee2) r2
    | exc c fs st2 => rw [e2] at h; exact fun g2 H2 d ee2 r2 x => h g2 H2 d (ee.trans ee2) r2 x
    | bad => rw [e2] at h; exact h
  | exc c fs st1 => rw [e1, Res.bind_exc] at h; exact h
  | bad => rw [e1, Res.bind_bad] at h; exact h
theorem tE_bind {E : XK} {f : Ev → Sto → Res Vl} {β : Type} {k : Vl → Sto → Res β} {P : β → G → Sto → Hp → Prop} {Q : VK} (rel : Rel W g st H) (rs : RS W g H env σ) (h : Out W E g H ((f env st).bind k) P)
    (q : ∀ v st1 g1 H1 u, f env st = .ok v st1 → EE g H g1 H1 → Rel W g1 st1 H1 → R W g1 H1 v u → Out W E g1 H1 (k v st1) P → Q u H1) : tE W E f σ H Q := by
  refine ⟨g, st, env, rel, rs, ?_⟩
  cases e1 : f env st with
  | ok v st1 =>
    rw [e1, Res.bind_ok] at h
    refine fun g1 H1 ee r u ru => q v st1 g1 H1 u e1 ee r ru ?_
    cases e2 : k v st1 with
    | ok w st2 => rw [e2] at h; exact fun g2 H2 ee2 r2 => h g2 H2 (ee.trans ee2) r2
    | exc c fs st2 => rw [e2] at h; exact fun g2 H2 d ee2 r2 x => h g2 H2 d (ee.trans ee2) r2 x
    | bad => rw [e2] at h; exact h
  | exc c fs st1 => rw [e1, Res.bind_exc] at h; exact h
  | bad => rw [e1, Res.bind_bad] at h; exact h
theorem tT_bind {E : XK} {f : Ev → Sto → Res Bool} {β : Type} {k : Bool → Sto → Res β} {P : β → G → Sto → Hp → Prop} {Q : Bool → Hp → Prop} (rel : Rel W g st H) (rs : RS W g H env σ) (h : Out W E g H ((f env st).bind k) P)
    (q : ∀ v st1 g1 H1, f env st = .ok v st1 → EE g H g1 H1 → Rel W g1 st1 H1 → Out W E g1 H1 (k v st1) P → Q v H1) : tT W E f σ H Q := by
  refine ⟨g, st, env, rel, rs, ?_⟩
  cases e1 : f env st with
  | ok v st1 =>
    rw [e1, Res.bind_ok] at h
    refine fun g1 H1 ee r => q v st1 g1 H1 e1 ee r ?_
    cases e2 : k v st1 with
    | ok w st2 => rw [e2] at h; exact fun g2 H2 ee2 r2 => h g2 H2 (ee.trans ee2) r2
    | exc c fs st2 => rw [e2] at h; exact fun g2 H2 d ee2 r2 x => h g2 H2 d (ee.trans ee2) r2 x
    | bad => rw [e2] at h; exact h
  | exc c fs st1 => rw [e1, Res.bind_exc] at h; exact h
  | bad => rw [e1, Res.bind_bad] at h; exact h
theorem tA_bind {E : XK} {f : Ev → Sto → Res (List Vl)} {β : Type} {k : List Vl → Sto → Res β} {P : β → G → Sto → Hp → Prop} {Q : List V → Hp → Prop} (rel : Rel W g st H) (rs : RS W g H env σ) (h : Out W E g H ((f env st).bind k) P)
    (q : ∀ v st1 g1 H1 u, f env st = .ok v st1 → EE g H g1 H1 → Rel W g1 st1 H1 → Rs W g1 H1 v u → Out W E g1 H1 (k v st1) P → Q u H1) : tA W E f σ H Q := by
  refine ⟨g, st, env, rel, rs, ?_⟩
  cases e1 : f env st with
  | ok v st1 =>
    rw [e1, Res.bind_ok] at h
    refine fun g1 H1 ee r u ru => q v st1 g1 H1 u e1 ee r ru ?_
    cases e2 : k v st1 with
    | ok w st2 => rw [e2] at h; exact fun g2 H2 ee2 r2 => h g2 H2 (ee.trans ee2) r2
    | exc c fs st2 => rw [e2] at h; exact fun g2 H2 d ee2 r2 x => h g2 H2 d (ee.trans ee2) r2 x
    | bad => rw [e2] at h; exact h
  | exc c fs st1 => rw [e1, Res.bind_exc] at h; exact h
  | bad => rw [e1, Res.bind_bad] at h; exact h
/-- an end that makes nothing -/
theorem Out.here {E : XK} {α : Type} {v : α} {P : α → G → Sto → Hp → Prop} (h : Out W E g H (.ok v st) P) (rel : Rel W g st H) : P v g st H := h g H EE.refl rel
/-- an end with a new object at p -/
theorem Out.new {E : XK} {α : Type} {v : α} {P : α → G → Sto → Hp → Prop} {p : Addr} {o : HO} (h : Out W E g H (.ok v st) P) (rel : Rel W g st H) (hp : H p = none) (ho : szO o) : P v g st (upd H p o) := h g (upd H p o) (EE.new hp) (rel.new hp ho)
theorem Out.lift {E : XK} {α : Type} {o : Option α} {P : α → G → Sto → Hp → Prop} (h : Out W E g H (Res.lift o st) P) : ∃ v, o = some v ∧ Out W E g H (.ok v st) P := by
  cases o with
  | none => exact h.elim
  | some v => exact ⟨v, rfl, h⟩
theorem RB.ee (rel : Rel W g st H) (x : EE g H g' H') {v : Vl} {u : V} (h : RB W g H v u) : RB W g' H' v u := by
  rcases h with h | ⟨a, e, ha, q⟩
  · exact .inl (h.ee x)
  · refine .inr ⟨a, e, x.own ▸ ha, ?_⟩
    have keep : ∀ o, RO W g H o (H a) → RO W g' H' o (H' a) := fun o q => by
      obtain ⟨w, hw⟩ := q.some
      have k : H' a = H a := by rw [hw]; exact x.keep a w hw (rel.prot a (.inr ha)).2
      rw [k]; exact q.mo x.mo
    cases v with
    | lst xs => exact keep _ q
    | dct ks xs => exact keep _ q
    | _ => exact q.elim
theorem rb_int {i : Int} {u : V} (h : RB W g H (.int i) u) : u = .int i := h.elim id fun ⟨_, _, _, z⟩ => z.elim
theorem rb_bl {i : Bool} {u : V} (h : RB W g H (.bl i) u) : u = .bl i := h.elim id fun ⟨_, _, _, z⟩ => z.elim
theorem rb_str {i : Str} {u : V} (h : RB W g H (.str i) u) : u = .str i := h.elim id fun ⟨_, _, _, z⟩ => z.elim
theorem rb_non {u : V} (h : RB W g H .non u) : u = .non := h.elim id fun ⟨_, _, _, z⟩ => z.elim
theorem rb_tup {xs : List Vl} {u : V} (h : RB W g H (.tup xs) u) : ∃ a vs, u = .ref a ∧ Imm g a ∧ H a = some (.tup vs) ∧ Rs W g H xs vs := h.elim id fun ⟨_, _, _, z⟩ => z.elim
theorem rb_lst {xs : List Vl} {u : V} (h : RB W g H (.lst xs) u) : ∃ a vs, u = .ref a ∧ H a = some (.lst vs) ∧ Rs W g H xs vs := by
  rcases h with ⟨a, vs, e, _, q, r⟩ | ⟨a, e, _, vs, q, r⟩
  · exact ⟨a, vs, e, q, r⟩
  · exact ⟨a, vs, e, q, r⟩
theorem rb_dct {ks : List Key} {xs : List Vl} {u : V} (h : RB W g H (.dct ks xs) u) : ∃ a kvs, u = .ref a ∧ H a = some (.dK kvs) ∧ kvs.map (·.1) = ks ∧ Rs W g H xs (kvs.map (·.2)) := by
  rcases h with ⟨a, vs, e, _, q, k, r⟩ | ⟨a, e, _, vs, q, k, r⟩
  · exact ⟨a, vs, e, q, k, r⟩
  · exact ⟨a, vs, e, q, k, r⟩
theorem rb_ref {n : Nat} {u : V} (h : RB W g H (.ref n) u) : ∃ a, u = .ref a ∧ g.rho[n]? = some a := h.elim id fun ⟨_, _, _, z⟩ => z.elim
theorem rb_fro {xs : List Vl} {u : V} (h : RB W g H (.fro xs) u) : ∃ a o vs, u = .ref a ∧ Imm g a ∧ H a = some (.frz o (.lst vs)) ∧ vs.length ≤ sizeLine ∧ Rs W g H xs vs := h.elim id fun ⟨_, _, _, z⟩ => z.elim
theorem rb_obj {c : Nat} {fs : List Vl} {u : V} (h : RB W g H (.obj c fs) u) : ∃ a dx ps, u = .ref a ∧ Imm g a ∧ H a = some (.ins (W.cls c) dx ps) ∧ ps.map (·.1) = W.flds c ∧ Rs W g H fs (ps.map (·.2)) := h.elim id fun ⟨_, _, _, z⟩ => z.elim

/-- the items of a list or a tuple -/
def seqOf (v : Vl) (st : Sto) : Option (List Vl) := match v with
  | .tup xs => some xs
  | .lst xs => some xs
  | .fro xs => some xs
  | .ref n => (match (st : List Ob)[n]? with
    | some (.lst xs) => some xs
    | _ => none)
  | _ => none
theorem seq_rd {K : PySem.W.Frag} {v : Vl} {u : V} {xs : List Vl} (rel : Rel W g st H) (h : RB W g H v u) (e : seqOf v st = some xs) :
    ∃ a vs, u = .ref a ∧ (SqL K H a vs ∨ SqT K H a vs) ∧ Rs W g H xs vs ∧ vs.length ≤ sizeLine := by
  cases v with
  | tup ys =>
    cases e
    obtain ⟨a, vs, e1, _, e2, r⟩ := rb_tup h
    exact ⟨a, vs, e1, .inr (SqT.of e2), r, rel.sz a vs (.inr e2)⟩
  | lst ys =>
    cases e
    obtain ⟨a, vs, e1, e2, r⟩ := rb_lst h
    exact ⟨a, vs, e1, .inl (SqL.of e2), r, rel.sz a vs (.inl e2)⟩
  | fro ys =>
    cases e
    obtain ⟨a, o, vs, e1, _, e2, lz, r⟩ := rb_fro h
    exact ⟨a, vs, e1, .inl (.inl (.inr ⟨o, e2⟩)), r, lz⟩
  | ref n =>
    obtain ⟨a, e1, e2⟩ := rb_ref h
    unfold seqOf at e
    cases q : (st : List Ob)[n]? with
    | none => simp only [q] at e; cases e
    | some o =>
      have c := rel.cell n a o e2 q
      cases o with
      | lst ys =>
        simp only [q] at e
        cases e
        obtain ⟨vs, e3, r⟩ := c
        exact ⟨a, vs, e1, .inl (SqL.of e3), r, rel.sz a vs (.inl e3)⟩
      | _ => simp only [q] at e; cases e
  | _ => cases e
end
end TW
set_option maxHeartbeats 4000000
namespace TW
open PySem PySem.Spec L2
abbrev FE := Ev → Sto → Res Vl
abbrev FT := Ev → Sto → Res Bool
abbrev FA := Ev → Sto → Res (List Vl)
/-- the items of a list that stands -/
def lstOf (v : Vl) (st : Sto) : Option (List Vl) := match v with
  | .lst xs => some xs
  | .ref n => (match (st : List Ob)[n]? with
    | some (.lst xs) => some xs
    | _ => none)
  | _ => none
theorem lst_rd {W : Wd} {g : G} {H : Hp} {st : Sto} {v : Vl} {u : V} {xs : List Vl} (rel : Rel W g st H) (h : RB W g H v u) (e : lstOf v st = some xs) : ∃ a vs, u = .ref a ∧ H a = some (.lst vs) ∧ Rs W g H xs vs ∧ vs.length ≤ sizeLine := by
  cases v with
  | lst ys =>
    cases e
    obtain ⟨a, vs, e1, e2, r⟩ := rb_lst h
    exact ⟨a, vs, e1, e2, r, rel.sz a vs (.inl e2)⟩
  | ref n =>
    obtain ⟨a, e1, e2⟩ := rb_ref h
    unfold lstOf at e
    dsimp only at e
    cases q : (st : List Ob)[n]? with
    | none => rw [q] at e; cases e
    | some o =>
      rw [q] at e
      have c := rel.cell n a o e2 q
      cases o with
      | lst ys =>
        cases e
        obtain ⟨vs, e3, r⟩ := c
        exact ⟨a, vs, e1, e3, r, rel.sz a vs (.inl e3)⟩
      | _ => cases e
  | _ => cases e
def fVar (i : Nat) : FE := fun env st => match env[i]? with
  | some (some (.val v)) => .ok v st
  | _ => .bad
def fBor (i : Nat) : FE := fun env st => match env[i]? with
  | some (some (.val v)) => .ok v st
  | some (some (.own (.lst xs))) => .ok (.lst xs) st
  | some (some (.own (.dct ks xs))) => .ok (.dct ks xs) st
  | _ => .bad
def fC (v : Vl) : FE := fun _ st => .ok v st
section
variable {X : Cx} {W : Wd} {E : XK} {pos : Pos}
theorem se_var {i : Nat} {x : Str} (hN : X.N[i]? = some x) (hv : Vis X.env.scope x) (hd : (x == ("__debug__" : Str)) = false) (hcd : (x == ("__classdict__" : Str)) = false) : SE X W E (.Name x pos) (fVar i) := by
  refine pe_weak (pe_var hN hv hd hcd) ?_
  rintro σ H Q ⟨g, st, env, rel, rs, o⟩
  unfold fVar at o
  split at o
  · rename_i v e
    obtain ⟨u, e1, r⟩ := rs.val e
    exact ⟨u, e1, o.here rel u r⟩
  · exact o.elim
theorem sb_bor {i : Nat} {x : Str} (hN : X.N[i]? = some x) (hv : Vis X.env.scope x) (hd : (x == ("__debug__" : Str)) = false) (hcd : (x == ("__classdict__" : Str)) = false) : SB X W E (.Name x pos) (fBor i) := by
  refine pe_weak (pe_var hN hv hd hcd) ?_
  rintro σ H Q ⟨g, st, env, rel, rs, o⟩
  unfold fBor at o
  split at o
  · rename_i v e
    obtain ⟨u, e1, r⟩ := rs.val e
    exact ⟨u, e1, o.here rel u (.inl r)⟩
  · rename_i xs e
    obtain ⟨u, e1, a, e2, ha, r⟩ := rs.at_ i _ e
    exact ⟨u, e1, o.here rel u (.inr ⟨a, e2, ha, r⟩)⟩
  · rename_i ks xs e
    obtain ⟨u, e1, a, e2, ha, r⟩ := rs.at_ i _ e
    exact ⟨u, e1, o.here rel u (.inr ⟨a, e2, ha, r⟩)⟩
  · exact o.elim
theorem se_int {i : Int} {j : Nat} : SE X W E (.Constant (.int i) j pos) (fC (.int i)) := pe_weak pe_int fun σ H Q ⟨g, st, env, rel, rs, o⟩ => o.here rel _ rfl
theorem se_bl {b : Bool} {j : Nat} : SE X W E (.Constant (.bool b) j pos) (fC (.bl b)) := pe_weak pe_bl fun σ H Q ⟨g, st, env, rel, rs, o⟩ => o.here rel _ rfl
theorem se_non {j : Nat} : SE X W E (.Constant .none j pos) (fC .non) := pe_weak pe_non fun σ H Q ⟨g, st, env, rel, rs, o⟩ => o.here rel _ rfl
theorem se_str {x : Str} {j : Nat} : SE X W E (.Constant (.str x) j pos) (fC (.str x)) := pe_weak pe_str fun σ H Q ⟨g, st, env, rel, rs, o⟩ => o.here rel _ rfl
theorem se_cst {x : Str} {i : Int} (hg : Gl X x) (hm : ∃ t, X.mg x = some (.int i t)) (hd : (x == ("__debug__" : Str)) = false) : SE X W E (.Name x pos) (fC (.int i)) := by
  obtain ⟨t, hm⟩ := hm
  exact pe_weak (pe_glob (v := .int i) hg hm ⟨t, rfl⟩ hd) fun σ H Q ⟨g, st, env, rel, rs, o⟩ => o.here rel _ rfl

def f2 (a b : FE) (k : Vl → Vl → Sto → Res Vl) : FE := fun env st => (a env st).bind fun x st => (b env st).bind fun y st => k x y st
theorem t2_of {a b : Expr} {fa fb : FE} {k : Vl → Vl → Sto → Res Vl} {r : R2}
    (ok : ∀ g st H x y u w (P : Vl → G → Sto → Hp → Prop) (Q : VK), Rel W g st H → RB W g H x u → RB W g H y w → Out W E g H (k x y st) P → (∀ v g' st' H', P v g' st' H' → ∀ z, R W g' H' v z → Q z H') → r u w H Q) :
    ∀ σ H Q, tE W E (f2 fa fb k) σ H Q → tOp r (tB W E fa) (tB W E fb) σ H Q := by
  rintro σ H Q ⟨g, st, env, rel, rs, o⟩
  refine tB_bind rel rs o fun x st1 g1 H1 u e1 ee1 rel1 r1 o1 => ?_
  refine tB_bind rel1 (rs.ee rel ee1) o1 fun y st2 g2 H2 w e2 ee2 rel2 r2 o2 => ?_
  exact ok g2 st2 H2 x y u w _ Q rel2 (r1.ee rel1 ee2) r2 o2 fun v g' st' H' h z rz => h z rz
theorem se_op {a b : Expr} {fa fb : FE} {op : Operator} {k : Vl → Vl → Sto → Res Vl} {r : R2} (ho : OpR X (binaryOp op) r)
    (ok : ∀ g st H x y u w (P : Vl → G → Sto → Hp → Prop) (Q : VK), Rel W g st H → RB W g H x u → RB W g H y w → Out W E g H (k x y st) P → (∀ v g' st' H', P v g' st' H' → ∀ z, R W g' H' v z → Q z H') → r u w H Q)
    (ha : SB X W E a fa) (hb : SB X W E b fb) : SE X W E (.BinOp a op b pos) (f2 fa fb k) :=
  pe_weak (pe_op ho ha hb) (t2_of (a := a) (b := b) ok)
end
def ints2 (C : Int → Int → Bool) (f : Int → Int → Int) (x y : Vl) (st : Sto) : Res Vl := match x, y with
  | .int i, .int j => if C i j = true then .ok (.int (f i j)) st else .bad
  | _, _ => .bad
section
variable {X : Cx} {W : Wd} {E : XK} {pos : Pos} {a b : Expr} {fa fb : FE}
theorem ints2_ok {C : Int → Int → Bool} {C' : Int → Int → Prop} {f : Int → Int → Int} (hC : ∀ i j, C i j = true → C' i j) : ∀ g st H x y u w (P : Vl → G → Sto → Hp → Prop) (Q : VK), Rel W g st H → RB W g H x u → RB W g H y w → Out W E g H (ints2 C f x y st) P →
    (∀ v g' st' H', P v g' st' H' → ∀ z, R W g' H' v z → Q z H') → rI C' (fun i j => .int (f i j)) u w H Q := by
  intro g st H x y u w P Q rel rx ry o q
  unfold ints2 at o
  split at o
  · rename_i i j
    split at o
    · rename_i hc
      exact ⟨i, j, rb_int rx, rb_int ry, hC i j hc, q _ _ _ _ (o.here rel) _ rfl⟩
    · exact o.elim
  · exact o.elim
def cT (_ _ : Int) : Bool := true
def kAdd (x y : Vl) (st : Sto) : Res Vl := match x, y with
  | .int i, .int j => .ok (.int (i + j)) st
  | .str x, .str y => if x.length + y.length ≤ sizeLine then .ok (.str (x ++ y)) st else .bad
  | .tup xs, .tup ys => if xs.length + ys.length ≤ sizeLine then .ok (.tup (xs ++ ys)) st else .bad
  | x, y => match lstOf x st, lstOf y st with
    | some xs, some ys => if xs.length + ys.length ≤ sizeLine then .ok (.lst (xs ++ ys)) st else .bad
    | _, _ => .bad
theorem se_add (ha : SB X W E a fa) (hb : SB X W E b fb) : SE X W E (.BinOp a .Add b pos) (f2 fa fb kAdd) := by
  refine se_op (r := fun x y H Q => _ ∨ _) (OpR.or op_add (OpR.or op_add_str (OpR.or op_catA op_cat))) ?_ ha hb
  intro g st H x y u w P Q rel rx ry o q
  unfold kAdd at o
  split at o
  · exact .inl ⟨_, _, rb_int rx, rb_int ry, q _ _ _ _ (o.here rel) _ rfl⟩
  · split at o
    · rename_i h
      exact .inr (.inl ⟨_, _, rb_str rx, rb_str ry, h, q _ _ _ _ (o.here rel) _ rfl⟩)
    · exact o.elim
  · split at o
    · rename_i xs ys h
      obtain ⟨p1, vs1, e1, i1, h1, r1⟩ := rb_tup rx
      obtain ⟨p2, vs2, e2, i2, h2, r2⟩ := rb_tup ry
      have l1 := r1.length
      have l2 := r2.length
      refine .inr (.inr (.inl ⟨p1, p2, vs1, vs2, e1, e2, SqT.of h1, SqT.of h2, by omega, fun z => ?_, fun z1 z2 => ?_, fun z1 z2 p hp => ?_⟩))
      · subst z
        have : xs = [] := List.eq_nil_of_length_eq_zero l1
        subst this
        exact q _ _ _ _ (o.here rel) _ ⟨p2, vs2, rfl, i2, h2, r2⟩
      · subst z2
        have : ys = [] := List.eq_nil_of_length_eq_zero l2
        subst this
        exact q _ _ _ _ (o.here rel) _ ⟨p1, vs1, rfl, i1, h1, by rw [List.append_nil]; exact r1⟩
      · refine q _ _ _ _ (o.new rel hp (o := .tup (vs1 ++ vs2)) (by show (vs1 ++ vs2).length ≤ _; rw [List.length_append]; omega)) _ ⟨p, vs1 ++ vs2, rfl, rel.free hp, upd_same, ?_⟩
        have ee : EE g H g (upd H p (.tup (vs1 ++ vs2))) := EE.new hp
        exact (r1.ee ee).append (r2.ee ee)
    · exact o.elim
  · split at o
    · rename_i xs ys hx hy
      split at o
      · rename_i h
        obtain ⟨p1, vs1, e1, h1, r1, _⟩ := lst_rd rel rx hx
        obtain ⟨p2, vs2, e2, h2, r2, _⟩ := lst_rd rel ry hy
        have l1 := r1.length
        have l2 := r2.length
        refine .inr (.inr (.inr ⟨p1, p2, vs1, vs2, e1, e2, h1, h2, by omega, fun p hp => ?_⟩))
        refine q _ _ _ _ (o.new rel hp (o := .lst (vs1 ++ vs2)) (by show (vs1 ++ vs2).length ≤ _; rw [List.length_append]; omega)) _ ⟨p, vs1 ++ vs2, rfl, rel.free hp, upd_same, ?_⟩
        have ee : EE g H g (upd H p (.lst (vs1 ++ vs2))) := EE.new hp
        exact (r1.ee ee).append (r2.ee ee)
      · exact o.elim
    · exact o.elim
theorem OpR.toI {op : Operator} {f : Int → Int → Int} (h : OpR X (binaryOp op) (rI0 fun i j => .int (f i j))) : OpR X (binaryOp op) (rI (fun _ _ => True) fun i j => .int (f i j)) :=
  fun pins s σ H x y v u Q I rx ry hq => let ⟨i, j, e1, e2, _, q⟩ := hq; h pins s σ H x y v u Q I rx ry ⟨i, j, e1, e2, q⟩
theorem se_sub (ha : SB X W E a fa) (hb : SB X W E b fb) : SE X W E (.BinOp a .Sub b pos) (f2 fa fb (ints2 cT (· - ·))) := se_op (OpR.toI op_sub) (ints2_ok fun _ _ _ => trivial) ha hb
def cDiv (i j : Int) : Bool := decide (0 < j) && decide (j < 1073741824)
theorem se_fdiv (ha : SB X W E a fa) (hb : SB X W E b fb) : SE X W E (.BinOp a .FloorDiv b pos) (f2 fa fb (ints2 cDiv (· / ·))) := se_op op_fdiv (ints2_ok fun i j h => by
  simp only [cDiv, Bool.and_eq_true, decide_eq_true_eq] at h; exact h) ha hb
def cMod (i j : Int) : Bool := decide (0 < j)
theorem se_mod (ha : SB X W E a fa) (hb : SB X W E b fb) : SE X W E (.BinOp a .Mod b pos) (f2 fa fb (ints2 cMod (· % ·))) := se_op op_mod (ints2_ok fun i j h => of_decide_eq_true h) ha hb
def cPow (i j : Int) : Bool := decide (0 ≤ j) && decide (j ≤ 1000000) && decide (i.natAbs < 2 ^ 64)
theorem cPow_ok {i j : Int} (h : cPow i j = true) : CPow i j := by
  simp only [cPow, Bool.and_eq_true, decide_eq_true_eq] at h; exact ⟨h.1.1, h.1.2, h.2⟩
theorem se_pow (ha : SB X W E a fa) (hb : SB X W E b fb) : SE X W E (.BinOp a .Pow b pos) (f2 fa fb (ints2 cPow (fun i j => i ^ j.toNat))) := se_op op_pow (ints2_ok fun i j h => cPow_ok h) ha hb
theorem se_shl (ha : SB X W E a fa) (hb : SB X W E b fb) : SE X W E (.BinOp a .LShift b pos) (f2 fa fb (ints2 cPow (fun i j => i * 2 ^ j.toNat))) := se_op op_shl (ints2_ok fun i j h => cPow_ok h) ha hb
def cShr (i j : Int) : Bool := decide (0 ≤ j)
theorem se_shr (ha : SB X W E a fa) (hb : SB X W E b fb) : SE X W E (.BinOp a .RShift b pos) (f2 fa fb (ints2 cShr (fun i j => i / 2 ^ j.toNat))) := se_op op_shr (ints2_ok fun i j h => of_decide_eq_true h) ha hb
theorem se_and_ (ha : SB X W E a fa) (hb : SB X W E b fb) : SE X W E (.BinOp a .BitAnd b pos) (f2 fa fb (ints2 cT Builtin.bitAnd)) := se_op (OpR.toI op_and) (ints2_ok fun _ _ _ => trivial) ha hb
theorem se_or_ (ha : SB X W E a fa) (hb : SB X W E b fb) : SE X W E (.BinOp a .BitOr b pos) (f2 fa fb (ints2 cT Builtin.bitOr)) := se_op (OpR.toI op_or) (ints2_ok fun _ _ _ => trivial) ha hb
def cMul (i j : Int) : Bool := (decide (-(2 ^ 64) < i) && decide (i < 2 ^ 64)) || (decide (-(2 ^ 64) < j) && decide (j < 2 ^ 64))
theorem cMul_ok {i j : Int} (h : cMul i j = true) : CMul i j := by
  simp only [cMul, Bool.and_eq_true, Bool.or_eq_true, decide_eq_true_eq] at h; exact h
/-- a text so many times -/
def repS (x : Str) (k : Int) : Str := if k < 1 then Str.empty else if (k == 1 || x.length == 0) = true then x else ⟨(List.replicate k.toNat x.cps).foldl (· ++ ·) #[]⟩
def kMul (x y : Vl) (st : Sto) : Res Vl := match x, y with
  | .int i, .int j => if cMul i j = true then .ok (.int (i * j)) st else .bad
  | .tup xs, .int k => if xs ≠ [] ∧ 1 ≤ k ∧ k ≤ 1000 ∧ xs.length ≤ 1000 then .ok (.tup (List.replicate k.toNat xs).flatten) st else .bad
  | .str x, .int k => if k ≤ 1000 ∧ -1000 ≤ k ∧ x.length ≤ 1000 then .ok (.str (repS x k)) st else .bad
  | x, .int k => match lstOf x st with
    | some xs => if -(2 ^ 63) ≤ k ∧ k < 2 ^ 63 ∧ xs.length * k.toNat ≤ sizeLine then .ok (.lst (List.replicate k.toNat xs).flatten) st else .bad
    | none => .bad
  | _, _ => .bad
end
theorem Rs.flat {W : Wd} {g : G} {H : Hp} {xs : List Vl} {vs : List V} (h : Rs W g H xs vs) : ∀ n : Nat, Rs W g H (List.replicate n xs).flatten (List.replicate n vs).flatten
  | 0 => rfl
  | n + 1 => by
    rw [List.replicate_succ, List.flatten_cons, List.replicate_succ, List.flatten_cons]
    exact h.append (Rs.flat h n)

section
open PyProof.Rows PySem.W
theorem tuple_mul1 (l : Addr) (items : Array Value) (n : Nat) (dd : Option Addr) (sl : Array (Option Value)) (x : Int) (u : Tok) (c0 : (decide (x < -(2 ^ 63)) || decide (x ≥ 2 ^ 63)) = false) (c1 : (items.isEmpty || x == 1) = true) :
    Meets (Builtin.«tuple.__mul__» ⟨[.ref l, .int x u], []⟩) (fun _ R s => s.heap.get? l = some { cls := .type "tuple", dict := dd, data := .seq items n, slots := sl } ∧ R (.ok (.ret (Value.ref l))) s) :=
  .of_wp fun prog w A R s h => by
    obtain ⟨hp, g, d, tk, os⟩ := s
    obtain ⟨hl, h⟩ := h
    have f1 := AutoSeq1.idx_int
    wp_walk using wpAny_loadPart' hl
    repeat (first
      | (refine wpAny_ite_false (decide_eq_false (by rw [c0]; exact Bool.false_ne_true)) ?_; wp_walk using wpAny_loadPart' hl)
      | (refine wpAny_ite_true (decide_eq_true (by rw [c1])) ?_; wp_walk using wpAny_loadPart' hl))
    exact ⟨_, rfl, h⟩
end

section
open PyProof.Rows PySem.W
/-- t * 1 is t -/
theorem op_repT1 {X : Cx} : OpR X (binaryOp .Mult) (fun x y H Q => ∃ l xs, x = .ref l ∧ y = .int 1 ∧ SqT X.K H l xs ∧ Q (.ref l) H) := by
  intro pins s σ H x y v u Q I rx ry h
  obtain ⟨l, xs, rfl, rfl, hT, q⟩ := h
  cases rx
  obtain ⟨t, rfl⟩ := ry
  obtain ⟨its, r, ⟨⟨cls, dd, data, sl⟩, ho, hc, n, hd⟩, hs⟩ := I.tuple hT
  simp only at hc hd
  subst hc hd
  refine wpAny_binaryOp_repeat_ref (T := "tuple") (U := "int") (by decide) ⟨_, ho, rfl⟩ (fun s' => typeIs_int s' 1 t) noFill_tuple_mul F.fills_int_mul F.slot_int_rmul repeat_tuple F.slot_int_index.lookup
    (call_meets F.slot_int_rmul (typeIs_int s 1 t) F.entry_int_rmul (F.args_int_rmul_2 _ _) (int_rmul_tuple 1 t l its.toArray n dd sl)
      ⟨ho, rfl, ⟨_, ho, rfl⟩, call_meets F.slot_tuple_mul ⟨_, ho, rfl⟩ F.entry_tuple_mul (F.args_tuple_mul_2 _ _) (tuple_mul1 l its.toArray n dd sl 1 t (by decide) (by rw [show ((1 : Int) == 1) = true from rfl, Bool.or_true])) ⟨ho, ?_⟩⟩)
  exact ⟨.ref l, H, I, rfl, q⟩
end
section
variable {X : Cx} {W : Wd} {E : XK} {pos : Pos} {a b : Expr} {fa fb : FE}
theorem rep_size (x : Array Nat) : ∀ (k : Nat) (a : Array Nat), ((List.replicate k x).foldl (· ++ ·) a).size = a.size + k * x.size
  | 0, a => by simp
  | k + 1, a => by
    rw [List.replicate_succ, List.foldl_cons, rep_size x k, Array.size_append, Nat.succ_mul]
    omega
theorem repS_len {x : Str} {k : Nat} : (⟨(List.replicate k x.cps).foldl (· ++ ·) #[]⟩ : Str).length = k * x.length := by
  show ((List.replicate k x.cps).foldl (· ++ ·) #[]).size = _
  rw [rep_size]
  exact Nat.zero_add _
theorem op_repS {X : Cx} : OpR X (binaryOp .Mult) (fun x y H Q => ∃ (z : Str) (k : Int), x = .str z ∧ y = .int k ∧ k ≤ 1000 ∧ -1000 ≤ k ∧ z.length ≤ 1000 ∧ Q (.str (repS z k)) H) := by
  intro pins s σ H x y v u Q I rx ry h
  obtain ⟨z, k, rfl, rfl, h1, h2, h3, q⟩ := h
  obtain ⟨t, rfl⟩ := rx
  obtain ⟨t', rfl⟩ := ry
  have big : ¬ k < 1 → (2 ^ 63 - 1 : Int) / k ≥ 1000 := fun hk => by
    rw [ge_iff_le, Int.le_ediv_iff_mul_le (by omega)]
    have : 1000 * k ≤ 1000 * 1000 := by omega
    omega
  refine PySem.P.mul_str ?_ (fun hk _ => ?_) (fun hk _ => ?_) ?_
  · rw [decide_eq_false (by omega), decide_eq_false (by omega)]; rfl
  · have := big hk
    omega
  · unfold Builtin.Str.tooLong
    refine decide_eq_false ?_
    have : z.length * k.toNat ≤ 1000 * 1000 := Nat.mul_le_mul h3 (by omega)
    rw [sizeLine_eq]
    omega
  · unfold repS at q
    split
    · rename_i h
      rw [if_pos h] at q
      exact ⟨by rw [sizeLine_eq]; exact Nat.zero_le _, .str _, H, I.tok _, ⟨_, rfl⟩, q⟩
    · rename_i h
      rw [if_neg h] at q
      split
      · rename_i h'
        rw [if_pos h'] at q
        exact ⟨.str _, H, I, ⟨_, rfl⟩, q⟩
      · rename_i h'
        rw [if_neg h'] at q
        exact ⟨by rw [repS_len, sizeLine_eq]; have : k.toNat * z.length ≤ 1000 * 1000 := Nat.mul_le_mul (by omega) h3; omega, .str _, H, I.tok _, ⟨_, rfl⟩, q⟩
theorem se_mul (ha : SB X W E a fa) (hb : SB X W E b fb) : SE X W E (.BinOp a .Mult b pos) (f2 fa fb kMul) := by
  refine se_op (r := fun x y H Q => _ ∨ _) (OpR.or op_mul (OpR.or op_rep (OpR.or op_repT (OpR.or op_repT1 op_repS)))) ?_ ha hb
  intro g st H x y u w P Q rel rx ry o q
  unfold kMul at o
  split at o
  · split at o
    · rename_i i j h
      exact .inl ⟨i, j, rb_int rx, rb_int ry, cMul_ok h, q _ _ _ _ (o.here rel) _ rfl⟩
    · exact o.elim
  · split at o
    · rename_i xs k h
      obtain ⟨p1, vs1, e1, i1, h1, r1⟩ := rb_tup rx
      have l1 := r1.length
      obtain ⟨hne, hk1, hk2, hl⟩ := h
      have hne' : vs1 ≠ [] := fun z => by
        subst z
        exact hne (List.eq_nil_of_length_eq_zero l1)
      by_cases hk : k = 1
      · subst hk
        refine .inr (.inr (.inr (.inl ⟨p1, vs1, e1, rb_int ry, SqT.of h1, ?_⟩)))
        refine q _ _ _ _ (o.here rel) _ ⟨p1, vs1, rfl, i1, h1, ?_⟩
        have e : (List.replicate (1 : Int).toNat xs).flatten = xs := by simp
        rw [e]; exact r1
      · refine .inr (.inr (.inl ⟨p1, k, vs1, e1, rb_int ry, SqT.of h1, hne', by omega, hk2, by omega, fun p hp => ?_⟩))
        refine q _ _ _ _ (o.new rel hp (o := .tup (List.replicate k.toNat vs1).flatten) (by
          show _ ≤ _
          rw [PyProof.Rows.lm_len_rep_flat, sizeLine_eq]
          have a1 : k.toNat * vs1.length ≤ 1000 * 1000 := Nat.mul_le_mul (by omega) (by omega)
          omega)) _ ⟨p, _, rfl, rel.free hp, upd_same, ?_⟩
        have ee : EE g H g (upd H p (.tup (List.replicate k.toNat vs1).flatten)) := EE.new hp
        exact (r1.ee ee).flat _
    · exact o.elim
  · split at o
    · rename_i z k h
      exact .inr (.inr (.inr (.inr ⟨z, k, rb_str rx, rb_int ry, h.1, h.2.1, h.2.2, q _ _ _ _ (o.here rel) _ rfl⟩)))
    · exact o.elim
  · rename_i k _ _ _
    split at o
    · rename_i xs hx
      split at o
      · rename_i h
        obtain ⟨p1, vs1, e1, h1, r1, _⟩ := lst_rd rel rx hx
        have l1 := r1.length
        refine .inr (.inl ⟨p1, k, vs1, e1, rb_int ry, h1, h.1, h.2.1, by rw [← l1]; exact h.2.2, fun p hp => ?_⟩)
        refine q _ _ _ _ (o.new rel hp (o := .lst (List.replicate k.toNat vs1).flatten) (by show _ ≤ _; rw [PyProof.Rows.lm_len_rep_flat, ← l1, Nat.mul_comm]; exact h.2.2)) _ ⟨p, _, rfl, rel.free hp, upd_same, ?_⟩
        have ee : EE g H g (upd H p (.lst (List.replicate k.toNat vs1).flatten)) := EE.new hp
        exact (r1.ee ee).flat _
      · exact o.elim
    · exact o.elim
  · exact o.elim
end
end TW
set_option maxHeartbeats 400000
namespace TW
open PySem PySem.Spec L2
section
variable {X : Cx} {W : Wd} {E : XK} {pos : Pos} {a b : Expr} {fa fb : FE}
def CmpR (X : Cx) (W : Wd) (op : CmpOp) (k : Vl → Vl → Sto → Option Bool) : Prop :=
  ∃ r : R2, OpR X (compareOp op) r ∧ ∀ (g : G) (st : Sto) (H : Hp) (x y : Vl) (u w : V) (b : Bool) (Q : VK), Rel W g st H → RB W g H x u → RB W g H y w → k x y st = some b → Q (.bl b) H → r u w H Q
def kInts (p : Int → Int → Bool) (x y : Vl) (_ : Sto) : Option Bool := match x, y with
  | .int i, .int j => some (p i j)
  | _, _ => none
theorem cmp_ints {op : CmpOp} {p : Int → Int → Bool} (h : OpR X (compareOp op) (rI0 fun i j => .bl (p i j))) : CmpR X W op (kInts p) := by
  refine ⟨_, h, fun g st H x y u w b Q rel rx ry e q => ?_⟩
  unfold kInts at e
  split at e
  · cases e
    exact ⟨_, _, rb_int rx, rb_int ry, q⟩
  · cases e
theorem ce_le : CmpR X W .LtE (kInts fun i j => decide (i ≤ j)) := cmp_ints op_le
theorem ce_gt : CmpR X W .Gt (kInts fun i j => decide (j < i)) := cmp_ints op_gt
theorem ce_ge : CmpR X W .GtE (kInts fun i j => decide (j ≤ i)) := cmp_ints op_ge
def intsOf : List Vl → Option (List Int)
  | [] => some []
  | .int i :: r => (intsOf r).map (i :: ·)
  | _ :: _ => none
theorem intsOf_ok {g : G} {H : Hp} : ∀ (xs : List Vl) {vs : List V} {ns : List Int}, Rs W g H xs vs → intsOf xs = some ns → vs = ns.map V.int := by
  intro xs
  induction xs with
  | nil =>
    intro vs ns h e
    simp only [intsOf, Option.some.injEq] at e
    rw [← e]
    exact h
  | cons x r ih =>
    intro vs ns h e
    obtain ⟨v, vr, rfl, h1, h2⟩ := h
    cases x with
    | int i =>
      simp only [intsOf] at e
      cases q : intsOf r with
      | none => rw [q] at e; simp at e
      | some ms =>
        rw [q] at e
        simp only [Option.map_some, Option.some.injEq] at e
        have h1' : v = V.int i := h1
        rw [← e, ih h2 q, h1', List.map_cons]
    | _ => simp [intsOf] at e
def blsOf : List Vl → Option (List Bool)
  | [] => some []
  | .bl i :: r => (blsOf r).map (i :: ·)
  | _ :: _ => none
theorem blsOf_ok {g : G} {H : Hp} : ∀ (xs : List Vl) {vs : List V} {ns : List Bool}, Rs W g H xs vs → blsOf xs = some ns → vs = ns.map V.bl := by
  intro xs
  induction xs with
  | nil =>
    intro vs ns h e
    simp only [blsOf, Option.some.injEq] at e
    rw [← e]
    exact h
  | cons x r ih =>
    intro vs ns h e
    obtain ⟨v, vr, rfl, h1, h2⟩ := h
    cases x with
    | bl i =>
      simp only [blsOf] at e
      cases q : blsOf r with
      | none => rw [q] at e; simp at e
      | some ms =>
        rw [q] at e
        simp only [Option.map_some, Option.some.injEq] at e
        have h1' : v = V.bl i := h1
        rw [← e, ih h2 q, h1', List.map_cons]
    | _ => simp [blsOf] at e
/-- < of ints, of tuples of ints -/
def kLt (x y : Vl) (_ : Sto) : Option Bool := match x, y with
  | .int i, .int j => some (decide (i < j))
  | .tup xs, .tup ys => match intsOf xs, intsOf ys with
    | some ns, some ms => some (HT.lexLt ns ms)
    | _, _ => none
  | _, _ => none
theorem ce_lt (hu : X.A.units < cLine) : CmpR X W .Lt kLt := by
  refine ⟨fun x y H Q => _ ∨ _, OpR.or op_lt (op_ltT hu), fun g st H x y u w b Q rel rx ry e q => ?_⟩
  unfold kLt at e
  split at e
  · cases e
    exact .inl ⟨_, _, rb_int rx, rb_int ry, q⟩
  · split at e
    · rename_i xs ys ns ms e1 e2
      cases e
      obtain ⟨p1, vs1, z1, _, h1, r1⟩ := rb_tup rx
      obtain ⟨p2, vs2, z2, _, h2, r2⟩ := rb_tup ry
      have q1 := intsOf_ok _ r1 e1
      have q2 := intsOf_ok _ r2 e2
      subst q1 q2
      exact .inr ⟨p1, p2, ns, ms, z1, z2, SqT.of h1, SqT.of h2, q⟩
    · cases e
  · cases e
end
mutual
def pdV : Vl → Option PyData
  | .non => some .none
  | .bl b => some (.bool b)
  | .int i => some (.int i)
  | .str x => some (.str x)
  | .tup xs => (pdVs xs).map .tuple
  | .lst xs => (pdVs xs).map .list
  | .fro xs => (pdVs xs).map .list
  | _ => none
def pdVs : List Vl → Option (List PyData)
  | [] => some []
  | x :: xs => match pdV x, pdVs xs with
    | some d, some ds => some (d :: ds)
    | _, _ => none
end
mutual
theorem pdV_ok {W : Wd} {g : G} {H : Hp} {K : PySem.W.Frag} : ∀ {x : Vl} {u : V} {d : PyData}, R W g H x u → pdV x = some d → Dp K H u d
  | .non, _, _, h, e => by cases e; rw [show _ = V.non from h]; exact .non
  | .bl b, _, _, h, e => by cases e; rw [show _ = V.bl b from h]; exact .bl b
  | .int i, _, _, h, e => by cases e; rw [show _ = V.int i from h]; exact .int i
  | .str x, _, _, h, e => by cases e; rw [show _ = V.str x from h]; exact .str x
  | .tup xs, _, _, h, e => by
    obtain ⟨a, vs, rfl, _, h1, r⟩ := h
    unfold pdV at e
    cases q : pdVs xs with
    | none => rw [q] at e; cases e
    | some ds => rw [q] at e; cases e; exact .tup (SqT.of h1) (pdVs_ok r q)
  | .lst xs, _, _, h, e => by
    obtain ⟨a, vs, rfl, _, h1, r⟩ := h
    unfold pdV at e
    cases q : pdVs xs with
    | none => rw [q] at e; cases e
    | some ds => rw [q] at e; cases e; exact .lst (SqL.of h1) (pdVs_ok r q)
  | .fro xs, _, _, h, e => by
    obtain ⟨a, ob, vs, rfl, _, h1, _, r⟩ := h
    unfold pdV at e
    cases q : pdVs xs with
    | none => rw [q] at e; cases e
    | some ds => rw [q] at e; cases e; exact .lst (.inl (.inr ⟨ob, h1⟩)) (pdVs_ok r q)
  | .dct _ _, _, _, _, e => by cases e
  | .ref _, _, _, _, e => by cases e
  | .obj _ _, _, _, _, e => by cases e
theorem pdVs_ok {W : Wd} {g : G} {H : Hp} {K : PySem.W.Frag} : ∀ {xs : List Vl} {us : List V} {ds : List PyData}, Rs W g H xs us → pdVs xs = some ds → DpAll K H us ds
  | [], _, _, h, e => by cases e; rw [show _ = [] from h]; exact .nil
  | x :: xs, _, _, h, e => by
    obtain ⟨v, r, rfl, h1, h2⟩ := h
    unfold pdVs at e
    split at e
    · rename_i d ds e1 e2
      cases e
      exact .cons (pdV_ok h1 e1) (pdVs_ok h2 e2)
    · cases e
end
def pdR (st : Sto) (v : Vl) : Option PyData := match v with
  | .ref n => (match (st : List Ob)[n]? with
    | some (.lst xs) => (pdVs xs).map .list
    | _ => none)
  | v => pdV v
theorem pdR_ok {W : Wd} {g : G} {H : Hp} {K : PySem.W.Frag} {st : Sto} {x : Vl} {u : V} {d : PyData} (rel : Rel W g st H) (h : RB W g H x u) (e : pdR st x = some d) : Dp K H u d := by
  cases x with
  | ref n =>
    obtain ⟨a, e1, e2⟩ := rb_ref h
    unfold pdR at e
    dsimp only at e
    cases q : (st : List Ob)[n]? with
    | none => rw [q] at e; cases e
    | some o =>
      have c := rel.cell n a o e2 q
      cases o with
      | lst ys =>
        rw [q] at e
        obtain ⟨vs, e3, r⟩ := c
        subst e1
        dsimp only at e
        cases z : pdVs ys with
        | none => rw [z] at e; cases e
        | some ds => rw [z] at e; cases e; exact .lst (SqL.of e3) (pdVs_ok r z)
      | _ => rw [q] at e; cases e
  | lst xs =>
    obtain ⟨a, vs, rfl, h1, r⟩ := rb_lst h
    have e' : (pdVs xs).map PyData.list = some d := e
    cases q : pdVs xs with
    | none => rw [q] at e'; cases e'
    | some ds => rw [q] at e'; cases e'; exact .lst (SqL.of h1) (pdVs_ok r q)
  | dct ks xs => cases e
  | non => exact pdV_ok (h.elim id fun ⟨_, _, _, z⟩ => z.elim) e
  | bl b => exact pdV_ok (h.elim id fun ⟨_, _, _, z⟩ => z.elim) e
  | int b => exact pdV_ok (h.elim id fun ⟨_, _, _, z⟩ => z.elim) e
  | str b => exact pdV_ok (h.elim id fun ⟨_, _, _, z⟩ => z.elim) e
  | tup b => exact pdV_ok (h.elim id fun ⟨_, _, _, z⟩ => z.elim) e
  | obj b c => exact pdV_ok (h.elim id fun ⟨_, _, _, z⟩ => z.elim) e
  | fro b => exact pdV_ok (h.elim id fun ⟨_, _, _, z⟩ => z.elim) e
/-- lists of unlike length: no item is looked at -/
def lenNe (x y : Vl) (st : Sto) : Option Bool := match lstOf x st, lstOf y st with
  | some xs, some ys => if xs.length = ys.length then none else some false
  | _, _ => none
def kEq (x y : Vl) (st : Sto) : Option Bool := match x, y with
  | .int i, .int j => some (decide (i = j))
  | .bl i, .bl j => some (decide (i = j))
  | .str i, .str j => some (decide (i = j))
  | _, _ => match pdR st x, pdR st y with
    | some d, some e => if SeqAt.shaped d && SeqAt.shaped e then some (PyData.eqv d e) else lenNe x y st
    | _, _ => lenNe x y st
def kNe (x y : Vl) (st : Sto) : Option Bool := (kEq x y st).map (!·)
section
variable {X : Cx} {W : Wd} {E : XK} {pos : Pos}
def rLn (K : PySem.W.Frag) (b : Bool) : R2 := fun x y H Q => ∃ a c xs ys, x = .ref a ∧ y = .ref c ∧ SqL K H a xs ∧ SqL K H c ys ∧ xs.length ≠ ys.length ∧ Q (.bl b) H
theorem op_eqLn (hu : X.A.units < cLine) : OpR X (compareOp .Eq) (rLn X.K false) := by
  intro pins s σ H x y v u Q I rx ry h
  obtain ⟨a, c, xs, ys, rfl, rfl, h1, h2, hl, q⟩ := h
  cases rx
  cases ry
  obtain ⟨its, r, pl, hz⟩ := I.list h1
  obtain ⟨its2, r2, pl2, hz2⟩ := I.list h2
  refine SeqAt.eq_list_lengthsAt pl.isList pl2.isList ?_ hu ⟨.bl _, H, I, rfl, q⟩
  have l1 := r.length
  have l2 := r2.length
  simp
  omega
theorem op_neLn (hu : X.A.units < cLine) : OpR X (compareOp .NotEq) (rLn X.K true) := by
  intro pins s σ H x y v u Q I rx ry h
  obtain ⟨a, c, xs, ys, rfl, rfl, h1, h2, hl, q⟩ := h
  cases rx
  cases ry
  obtain ⟨its, r, pl, hz⟩ := I.list h1
  obtain ⟨its2, r2, pl2, hz2⟩ := I.list h2
  refine SeqAt.RcNeAt.lists_lengths pl.isList pl2.isList ?_ hu _ _ _ _ ⟨.bl _, H, I, rfl, q⟩
  have l1 := r.length
  have l2 := r2.length
  simp
  omega
theorem lenNe_ok {g : G} {st : Sto} {H : Hp} {x y : Vl} {u w : V} {b : Bool} (rel : Rel W g st H) (rx : RB W g H x u) (ry : RB W g H y w) (e : lenNe x y st = some b) :
    b = false ∧ ∃ a c xs ys, u = .ref a ∧ w = .ref c ∧ SqL X.K H a xs ∧ SqL X.K H c ys ∧ xs.length ≠ ys.length := by
  unfold lenNe at e
  split at e
  · rename_i xs ys e1 e2
    split at e
    · cases e
    · rename_i ne
      cases e
      obtain ⟨p1, vs1, z1, h1, r1, _⟩ := lst_rd rel rx e1
      obtain ⟨p2, vs2, z2, h2, r2, _⟩ := lst_rd rel ry e2
      have l1 := r1.length
      have l2 := r2.length
      exact ⟨rfl, p1, p2, vs1, vs2, z1, z2, SqL.of h1, SqL.of h2, by omega⟩
  · cases e
theorem kEq_ok {g : G} {st : Sto} {H : Hp} {x y : Vl} {u w : V} {b : Bool} (rel : Rel W g st H) (rx : RB W g H x u) (ry : RB W g H y w) (e : kEq x y st = some b) :
    (scal u w = true ∧ decide (u = w) = b) ∨ (∃ d e, Dp X.K H u d ∧ Dp X.K H w e ∧ SeqAt.shaped d = true ∧ SeqAt.shaped e = true ∧ PyData.eqv d e = b) ∨
      b = false ∧ ∃ a c xs ys, u = .ref a ∧ w = .ref c ∧ SqL X.K H a xs ∧ SqL X.K H c ys ∧ xs.length ≠ ys.length := by
  unfold kEq at e
  split at e
  · cases e
    rw [rb_int rx, rb_int ry]
    exact .inl ⟨rfl, by simp⟩
  · cases e
    rw [rb_bl rx, rb_bl ry]
    exact .inl ⟨rfl, by simp⟩
  · cases e
    rw [rb_str rx, rb_str ry]
    exact .inl ⟨rfl, by simp⟩
  · split at e
    · rename_i d d' e1 e2
      split at e
      · rename_i hs
        cases e
        simp only [Bool.and_eq_true] at hs
        exact .inr (.inl ⟨d, d', pdR_ok rel rx e1, pdR_ok rel ry e2, hs.1, hs.2, rfl⟩)
      · exact .inr (.inr (lenNe_ok rel rx ry e))
    · exact .inr (.inr (lenNe_ok rel rx ry e))
theorem ce_eq (hu : X.A.units + 64 < cLine) : CmpR X W .Eq kEq := by
  refine ⟨fun x y H Q => _ ∨ _ ∨ _, OpR.or op_eq (OpR.or (op_eqD hu) (op_eqLn (by omega))), fun g st H x y u w b Q rel rx ry e q => ?_⟩
  rcases kEq_ok (X := X) rel rx ry e with ⟨h1, h2⟩ | ⟨d, e', h1, h2, h3, h4, h5⟩ | ⟨rfl, a, c, xs, ys, h1, h2, h3, h4, h5⟩
  · exact .inl ⟨h1, by rw [h2]; exact q⟩
  · exact .inr (.inl ⟨d, e', h1, h2, h3, h4, by rw [h5]; exact q⟩)
  · exact .inr (.inr ⟨a, c, xs, ys, h1, h2, h3, h4, h5, q⟩)
theorem ce_ne (hu : X.A.units + 64 < cLine) : CmpR X W .NotEq kNe := by
  refine ⟨fun x y H Q => _ ∨ _ ∨ _, OpR.or op_ne (OpR.or (op_neD hu) (op_neLn (by omega))), fun g st H x y u w b Q rel rx ry e q => ?_⟩
  unfold kNe at e
  cases e0 : kEq x y st with
  | none => rw [e0] at e; cases e
  | some c =>
    rw [e0] at e; cases e
    rcases kEq_ok (X := X) rel rx ry e0 with ⟨h1, h2⟩ | ⟨d, e', h1, h2, h3, h4, h5⟩ | ⟨rfl, a, c, xs, ys, h1, h2, h3, h4, h5⟩
    · exact .inl ⟨h1, by rw [h2]; exact q⟩
    · exact .inr (.inl ⟨d, e', h1, h2, h3, h4, by rw [h5]; exact q⟩)
    · exact .inr (.inr ⟨a, c, xs, ys, h1, h2, h3, h4, h5, q⟩)
/-- is None; is True, is False of a bool -/
def isNon : Vl → Bool
  | .non => true
  | _ => false
def kIs (x y : Vl) (_ : Sto) : Option Bool := match y with
  | .non => some (isNon x)
  | .bl j => (match x with
    | .bl i => some (decide (i = j))
    | _ => none)
  | _ => none
def kIsNot (x y : Vl) (st : Sto) : Option Bool := (kIs x y st).map (!·)
theorem isNon_ok {g : G} {H : Hp} {x : Vl} {u : V} (h : RB W g H x u) : decide (u = .non) = isNon x := by
  cases x with
  | non => rw [rb_non h]; rfl
  | bl b => rw [rb_bl h]; rfl
  | int b => rw [rb_int h]; rfl
  | str b => rw [rb_str h]; rfl
  | tup b => obtain ⟨a, vs, rfl, _⟩ := rb_tup h; rfl
  | lst b => obtain ⟨a, vs, rfl, _⟩ := rb_lst h; rfl
  | dct b c => obtain ⟨a, vs, rfl, _⟩ := rb_dct h; rfl
  | ref b => obtain ⟨a, rfl, _⟩ := rb_ref h; rfl
  | obj b c => obtain ⟨a, _, _, rfl, _⟩ := rb_obj h; rfl
  | fro b => obtain ⟨a, _, _, rfl, _⟩ := rb_fro h; rfl
theorem ce_is : CmpR X W .Is kIs := by
  refine ⟨fun x y H Q => _ ∨ _, OpR.or op_isN op_is_bl, fun g st H x y u w b Q rel rx ry e q => ?_⟩
  unfold kIs at e
  split at e
  · cases e
    exact .inl ⟨rb_non ry, by rw [isNon_ok rx]; exact q⟩
  · split at e
    · cases e
      exact .inr ⟨_, _, rb_bl rx, rb_bl ry, q⟩
    · cases e
  · cases e
theorem ce_isnot : CmpR X W .IsNot kIsNot := by
  refine ⟨fun x y H Q => _ ∨ _, OpR.or op_notN op_isnot_bl, fun g st H x y u w b Q rel rx ry e q => ?_⟩
  unfold kIsNot kIs at e
  split at e
  · cases e
    exact .inl ⟨rb_non ry, by rw [isNon_ok rx]; exact q⟩
  · split at e
    · cases e
      exact .inr ⟨_, _, rb_bl rx, rb_bl ry, q⟩
    · cases e
  · cases e
def fCmp (k : Vl → Vl → Sto → Option Bool) (a b : FE) : FT := fun env st => (a env st).bind fun x st => (b env st).bind fun y st => Res.lift (k x y st) st
def fB (t : FT) : FE := fun env st => (t env st).bind fun b st => .ok (.bl b) st
theorem out_map {g : G} {H : Hp} {r : Res Bool} {P : Vl → G → Sto → Hp → Prop} (h : Out W E g H (r.bind fun b st => .ok (.bl b) st) P) : Out W E g H r (fun b g' st' H' => P (.bl b) g' st' H') := by
  cases r with
  | ok v s => exact h
  | exc c fs s => exact h
  | bad => exact h
theorem cmp_t {a b : Expr} {fa fb : FE} {op : CmpOp} {k : Vl → Vl → Sto → Option Bool} {r : R2} (ok : ∀ (g : G) (st : Sto) (H : Hp) (x y : Vl) (u w : V) (b : Bool) (Q : VK), Rel W g st H → RB W g H x u → RB W g H y w → k x y st = some b → Q (.bl b) H → r u w H Q)
    {g : G} {st : Sto} {env : Ev} {σ : St} {H : Hp} {P : Bool → G → Sto → Hp → Prop} {Q : VK} (rel : Rel W g st H) (rs : RS W g H env σ) (o : Out W E g H (fCmp k fa fb env st) P) (q : ∀ b g' st' H', P b g' st' H' → Q (.bl b) H') :
    tOp r (tB W E fa) (tB W E fb) σ H Q := by
  refine tB_bind rel rs o fun x st1 g1 H1 u e1 ee1 rel1 r1 o1 => ?_
  refine tB_bind rel1 (rs.ee rel ee1) o1 fun y st2 g2 H2 w e2 ee2 rel2 r2 o2 => ?_
  obtain ⟨c, ec, o3⟩ := o2.lift
  exact ok g2 st2 H2 x y u w c Q rel2 (r1.ee rel1 ee2) r2 ec (q _ _ _ _ (o3.here rel2))
theorem se_cmp {a b : Expr} {fa fb : FE} {op : CmpOp} {k : Vl → Vl → Sto → Option Bool} (c : CmpR X W op k) (ha : SB X W E a fa) (hb : SB X W E b fb) (hm : behindInMarks op b = false) : SE X W E (.Compare a [op] [b] pos) (fB (fCmp k fa fb)) := by
  obtain ⟨r, ho, ok⟩ := c
  refine pe_weak (pe_cmpR ho ha hb hm) ?_
  rintro σ H Q ⟨g, st, env, rel, rs, o⟩
  exact cmp_t (a := a) (b := b) (op := op) ok rel rs (out_map o) fun b g' st' H' h => h _ rfl
theorem st_cmp {a b : Expr} {fa fb : FE} {op : CmpOp} {k : Vl → Vl → Sto → Option Bool} (c : CmpR X W op k) (ha : SB X W E a fa) (hb : SB X W E b fb) (hm : behindInMarks op b = false) : ST X W E (.Compare a [op] [b] pos) (fCmp k fa fb) := by
  obtain ⟨r, ho, ok⟩ := c
  refine pt_weak (pt_cmpR ho ha hb hm) ?_
  rintro σ H Q ⟨g, st, env, rel, rs, o⟩
  exact cmp_t (a := a) (b := b) (op := op) (Q := fun x H' => ∃ k, x = .bl k ∧ Q k H') ok rel rs o fun b g' st' H' h => ⟨b, rfl, h⟩
def fChain (k k' : Vl → Vl → Sto → Option Bool) (a b c : FE) : FT := fun env st => (a env st).bind fun x st => (b env st).bind fun y st => (Res.lift (k x y st) st).bind fun t st =>
  if t = true then (c env st).bind fun z st => Res.lift (k' y z st) st else .ok false st
theorem chain_t {a b c : Expr} {fa fb fc : FE} {k k' : Vl → Vl → Sto → Option Bool} {r r' : R2} (ok : ∀ (g : G) (st : Sto) (H : Hp) (x y : Vl) (u w : V) (b : Bool) (Q : VK), Rel W g st H → RB W g H x u → RB W g H y w → k x y st = some b → Q (.bl b) H → r u w H Q)
    (ok' : ∀ (g : G) (st : Sto) (H : Hp) (x y : Vl) (u w : V) (b : Bool) (Q : VK), Rel W g st H → RB W g H x u → RB W g H y w → k' x y st = some b → Q (.bl b) H → r' u w H Q)
    {g : G} {st : Sto} {env : Ev} {σ : St} {H : Hp} {P : Bool → G → Sto → Hp → Prop} {Q : VK} (rel : Rel W g st H) (rs : RS W g H env σ) (o : Out W E g H (fChain k k' fa fb fc env st) P) (q : ∀ b g' st' H', P b g' st' H' → Q (.bl b) H') :
    tChain r r' (tB W E fa) (tB W E fb) (tB W E fc) σ H Q := by
  refine tB_bind rel rs o fun x st1 g1 H1 u e1 ee1 rel1 r1 o1 => ?_
  refine tB_bind rel1 (rs.ee rel ee1) o1 fun y st2 g2 H2 w e2 ee2 rel2 r2 o2 => ?_
  cases ec : k x y st2 with
  | none => rw [ec] at o2; exact o2.elim
  | some d =>
    rw [ec, Res.lift_some, Res.bind_ok] at o2
    refine ok g2 st2 H2 x y u w d _ rel2 (r1.ee rel1 ee2) r2 ec ⟨d, rfl, ?_⟩
    cases d with
    | false =>
      rw [if_neg (by decide)] at o2 ⊢
      exact q _ _ _ _ (o2.here rel2)
    | true =>
      rw [if_pos rfl] at o2 ⊢
      refine tB_bind rel2 ((rs.ee rel ee1).ee rel1 ee2) o2 fun z st3 g3 H3 w' e3 ee3 rel3 r3 o3 => ?_
      obtain ⟨c', ec', o4⟩ := o3.lift
      exact ok' g3 st3 H3 y z w w' c' Q rel3 (r2.ee rel2 ee3) r3 ec' (q _ _ _ _ (o4.here rel3))
theorem se_chain {a b c : Expr} {fa fb fc : FE} {op op' : CmpOp} {k k' : Vl → Vl → Sto → Option Bool} (h : CmpR X W op k) (h' : CmpR X W op' k') (ha : SB X W E a fa) (hb : SB X W E b fb) (hc : SB X W E c fc) (hm : lastMarks [op, op'] [b, c] = false) :
    SE X W E (.Compare a [op, op'] [b, c] pos) (fB (fChain k k' fa fb fc)) := by
  obtain ⟨r, ho, ok⟩ := h
  obtain ⟨r', ho', ok'⟩ := h'
  refine pe_weak (pe_chain ho ho' ha hb hc hm) ?_
  rintro σ H Q ⟨g, st, env, rel, rs, o⟩
  exact chain_t (a := a) (b := b) (c := c) ok ok' rel rs (out_map o) fun b g' st' H' h => h _ rfl
theorem st_chain {a b c : Expr} {fa fb fc : FE} {op op' : CmpOp} {k k' : Vl → Vl → Sto → Option Bool} (h : CmpR X W op k) (h' : CmpR X W op' k') (ha : SB X W E a fa) (hb : SB X W E b fb) (hc : SB X W E c fc) (hm : lastMarks [op, op'] [b, c] = false) :
    ST X W E (.Compare a [op, op'] [b, c] pos) (fChain k k' fa fb fc) := by
  obtain ⟨r, ho, ok⟩ := h
  obtain ⟨r', ho', ok'⟩ := h'
  refine pt_weak (pt_chain ho ho' ha hb hc hm) ?_
  rintro σ H Q ⟨g, st, env, rel, rs, o⟩
  exact chain_t (a := a) (b := b) (c := c) (Q := fun x H' => ∃ k, x = .bl k ∧ Q k H') ok ok' rel rs o fun b g' st' H' h => ⟨b, rfl, h⟩
end
end TW
set_option maxHeartbeats 800000
namespace TW
open PySem PySem.Spec L2
def plainTest : Expr → Bool
  | .UnaryOp .Not _ _ => false
  | .BoolOp _ _ _ => false
  | .IfExp _ _ _ _ => false
  | .Compare _ _ _ _ => false
  | _ => true
theorem plainTest_ok {e : Expr} {env : Env} (h : plainTest e = true) : ∀ whole, isTrue e env whole = (do let v ← whole; standAt e.pos; holding [v] (truthy v)) := by
  intro whole
  cases e with
  | UnaryOp op x p => cases op <;> first | (cases h; done) | rfl
  | BoolOp _ _ _ => cases h
  | IfExp _ _ _ _ => cases h
  | Compare _ _ _ _ => cases h
  | _ => rfl
def notSlice : Expr → Bool
  | .Slice _ _ _ _ => false
  | _ => true
theorem notSlice_ok {b : Expr} (h : notSlice b = true) : PlainIx b := by
  intro o i
  cases b <;> first | (cases h; done) | rfl
def notSet : Expr → Bool
  | .Set _ _ _ => false
  | _ => true
theorem notSet_ok {op : CmpOp} {b : Expr} (h : notSet b = true) : behindInMarks op b = false := by
  cases b <;> first | (cases h; done) | rfl
theorem notSet_ok2 {op op' : CmpOp} {b c : Expr} (h : notSet c = true) : lastMarks [op, op'] [b, c] = false := by
  cases c <;> first | (cases h; done) | rfl
theorem notSet_it {e : Expr} {env : Env} (h : notSet e = true) : ∀ x, foldedSetIterable e env x = pure x := by
  intro x
  cases e <;> first | (cases h; done) | rfl
def noSuper : Expr → Bool
  | .Call (.Name _ _) [] [] _ => false
  | _ => true
theorem noSuper_ok {o : Expr} {f : Str} {env : Env} {w : Sem Value} (h : noSuper o = true) : attributeBase o f env w = w := by
  unfold attributeBase
  split
  · cases h
  · rfl
def notStar : Expr → Bool
  | .Starred _ _ => false
  | _ => true
theorem notStar_ok {e : Expr} {es : List Expr} {env : Env} (h : notStar e = true) : starEach (e :: es) env = (false, eval e env) :: starEach es env := by
  cases e <;> first | (cases h; done) | rfl
theorem noStars {env : Env} {pos : Pos} : ∀ {es : List Expr}, es.all notStar = true → (backTo pos (starEach es env)).any (·.1) = false
  | [], _ => rfl
  | e :: es, h => by
    simp only [List.all_cons, Bool.and_eq_true] at h
    rw [notStar_ok h.1]
    have ih := noStars (env := env) (pos := pos) h.2
    exact ih
section
variable {X : Cx} {W : Wd} {E : XK} {pos : Pos}
def truV (v : Vl) (st : Sto) : Option Bool := match v with
  | .non => some false
  | .bl b => some b
  | .int i => some (i != 0)
  | .str y => if y.length ≤ sizeLine then some ((y.length : Int) != 0) else none
  | .dct ks xs => some (!ks.isEmpty)
  | v => (seqOf v st).map fun xs => !xs.isEmpty
theorem truV_ok {K : PySem.W.Frag} {g : G} {st : Sto} {H : Hp} {v : Vl} {u : V} {k : Bool} (rel : Rel W g st H) (h : RB W g H v u) (e : truV v st = some k) : TruV K u H k := by
  have sq : ∀ xs, seqOf v st = some xs → (!xs.isEmpty) = k → TruV K u H k := fun xs e1 e2 => by
    obtain ⟨a, vs, e3, hs, r, _⟩ := seq_rd (K := K) rel h e1
    subst e3
    have l := r.length
    have e4 : (!vs.isEmpty) = k := by
      rw [← e2]
      cases xs <;> cases vs <;> simp_all
    rcases hs with hs | hs
    · exact .inl ⟨vs, hs, e4.symm⟩
    · exact .inr (.inl ⟨vs, hs, e4.symm⟩)
  cases v with
  | non => cases e; rw [rb_non h]; rfl
  | bl b => cases e; rw [rb_bl h]; rfl
  | int i => cases e; rw [rb_int h]; rfl
  | str y =>
    unfold truV at e
    dsimp only at e
    split at e
    · rename_i hl
      cases e; rw [rb_str h]; exact ⟨hl, rfl⟩
    · cases e
  | dct ks xs =>
    cases e
    obtain ⟨a, kvs, e3, e4, e5, r⟩ := rb_dct h
    subst e3
    refine .inr (.inr ⟨kvs, e4, ?_⟩)
    rw [← e5]
    cases kvs <;> rfl
  | obj c fs => cases e
  | tup ys =>
    have e' : some (!ys.isEmpty) = some k := e
    exact sq ys rfl (Option.some.inj e')
  | lst ys =>
    have e' : some (!ys.isEmpty) = some k := e
    exact sq ys rfl (Option.some.inj e')
  | fro ys =>
    have e' : some (!ys.isEmpty) = some k := e
    exact sq ys rfl (Option.some.inj e')
  | ref n =>
    have e' : (seqOf (.ref n) st).map (fun xs => !xs.isEmpty) = some k := e
    cases q : seqOf (.ref n) st with
    | none => rw [q] at e'; cases e'
    | some ys => rw [q] at e'; exact sq ys q (Option.some.inj e')
def tTru (f : FE) : FT := fun env st => (f env st).bind fun v st => Res.lift (truV v st) st
theorem st_truth {e : Expr} {f : FE} (h : SB X W E e f) (hp : plainTest e = true) : ST X W E e (tTru f) := by
  refine pt_weak (pt_truth h (plainTest_ok hp)) ?_
  rintro σ H Q ⟨g, st, env, rel, rs, o⟩
  refine tB_bind rel rs o fun x st1 g1 H1 u e1 ee1 rel1 r1 o1 => ?_
  obtain ⟨c, ec, o2⟩ := o1.lift
  exact ⟨c, truV_ok rel1 r1 ec, o2.here rel1⟩
def tNotF (f : FT) : FT := fun env st => (f env st).bind fun b st => .ok (!b) st
theorem st_not {e : Expr} {f : FT} (h : ST X W E e f) : ST X W E (.UnaryOp .Not e pos) (tNotF f) := by
  refine pt_weak (pt_not h) ?_
  rintro σ H Q ⟨g, st, env, rel, rs, o⟩
  exact tT_bind rel rs o fun b st1 g1 H1 e1 ee1 rel1 o1 => o1.here rel1
theorem out_not {g : G} {H : Hp} {r : Res Bool} {P : Bool → G → Sto → Hp → Prop} (h : Out W E g H (r.bind fun b st => .ok (!b) st) P) : Out W E g H r (fun b g' st' H' => P (!b) g' st' H') := by
  cases r with
  | ok v s => exact h
  | exc c fs s => exact h
  | bad => exact h
abbrev SW (X : Cx) (W : Wd) (E : XK) (e : Expr) (f : FT) : Prop := PW X e (tT W E f)
theorem pw_weak {X : Cx} {e : Expr} {t t' : TT} (h : PW X e t) (i : ∀ σ H Q, t' σ H Q → t σ H Q) : PW X e t' := ⟨fun wh pins s σ H Q I hw => h.run wh pins s σ H Q I (i σ H Q hw)⟩
def tAndF (a b : FT) : FT := fun env st => (a env st).bind fun x st => if x = true then b env st else .ok false st
def tOrF (a b : FT) : FT := fun env st => (a env st).bind fun x st => if x = true then .ok true st else b env st
theorem sw_and1 {a : Expr} {fa : FT} (ha : ST X W E a fa) : SW X W E (.BoolOp .And [a] pos) fa := pw_and1 ha
theorem sw_or1 {a : Expr} {fa : FT} (ha : ST X W E a fa) : SW X W E (.BoolOp .Or [a] pos) fa := pw_or1 ha
theorem sw_and {a b : Expr} {rest : List Expr} {fa fb : FT} (ha : ST X W E a fa) (hb : SW X W E (.BoolOp .And (b :: rest) pos) fb) : SW X W E (.BoolOp .And (a :: b :: rest) pos) (tAndF fa fb) := by
  refine pw_weak (pw_and ha hb) ?_
  rintro σ H Q ⟨g, st, env, rel, rs, o⟩
  refine tT_bind rel rs o fun x st1 g1 H1 e1 ee1 rel1 o1 => ?_
  cases x with
  | true => exact ⟨g1, st1, env, rel1, rs.ee rel ee1, o1⟩
  | false => exact o1.here rel1
theorem sw_or {a b : Expr} {rest : List Expr} {fa fb : FT} (ha : ST X W E a fa) (hb : SW X W E (.BoolOp .Or (b :: rest) pos) fb) : SW X W E (.BoolOp .Or (a :: b :: rest) pos) (tOrF fa fb) := by
  refine pw_weak (pw_or ha hb) ?_
  rintro σ H Q ⟨g, st, env, rel, rs, o⟩
  refine tT_bind rel rs o fun x st1 g1 H1 e1 ee1 rel1 o1 => ?_
  cases x with
  | true => exact o1.here rel1
  | false => exact ⟨g1, st1, env, rel1, rs.ee rel ee1, o1⟩
def vAndF (a b : FE) : FE := fun env st => (a env st).bind fun x st => match truV x st with
  | some true => b env st
  | some false => .ok x st
  | none => .bad
def vOrF (a b : FE) : FE := fun env st => (a env st).bind fun x st => match truV x st with
  | some true => .ok x st
  | some false => b env st
  | none => .bad
theorem se_one {op : BoolOp} {a : Expr} {fa : FE} (ha : SE X W E a fa) : SE X W E (.BoolOp op [a] pos) fa := pe_one ha
theorem se_vand {a b : Expr} {rest : List Expr} {fa fb : FE} (ha : SE X W E a fa) (hb : SE X W E (.BoolOp .And (b :: rest) pos) fb) : SE X W E (.BoolOp .And (a :: b :: rest) pos) (vAndF fa fb) := by
  refine pe_weak (pe_andT ha hb) ?_
  rintro σ H Q ⟨g, st, env, rel, rs, o⟩
  refine tE_bind rel rs o fun x st1 g1 H1 u e1 ee1 rel1 r1 o1 => ?_
  cases q : truV x st1 with
  | none => rw [q] at o1; exact o1.elim
  | some k =>
    rw [q] at o1
    refine ⟨k, truV_ok rel1 (.inl r1) q, ?_⟩
    cases k with
    | true => exact ⟨g1, st1, env, rel1, rs.ee rel ee1, o1⟩
    | false => exact o1.here rel1 u r1
theorem se_vor {a b : Expr} {rest : List Expr} {fa fb : FE} (ha : SE X W E a fa) (hb : SE X W E (.BoolOp .Or (b :: rest) pos) fb) : SE X W E (.BoolOp .Or (a :: b :: rest) pos) (vOrF fa fb) := by
  refine pe_weak (pe_orT ha hb) ?_
  rintro σ H Q ⟨g, st, env, rel, rs, o⟩
  refine tE_bind rel rs o fun x st1 g1 H1 u e1 ee1 rel1 r1 o1 => ?_
  cases q : truV x st1 with
  | none => rw [q] at o1; exact o1.elim
  | some k =>
    rw [q] at o1
    refine ⟨k, truV_ok rel1 (.inl r1) q, ?_⟩
    cases k with
    | true => exact o1.here rel1 u r1
    | false => exact ⟨g1, st1, env, rel1, rs.ee rel ee1, o1⟩
def vNotF (a : FE) : FE := fun env st => (a env st).bind fun x st => (Res.lift (truV x st) st).bind fun k st => .ok (.bl (!k)) st
theorem se_vnot {a : Expr} {fa : FE} (ha : SB X W E a fa) : SE X W E (.UnaryOp .Not a pos) (vNotF fa) := by
  refine pe_weak (pe_notT ha) ?_
  rintro σ H Q ⟨g, st, env, rel, rs, o⟩
  refine tB_bind rel rs o fun x st1 g1 H1 u e1 ee1 rel1 r1 o1 => ?_
  cases q : truV x st1 with
  | none => rw [q] at o1; exact o1.elim
  | some k =>
    rw [q] at o1
    exact ⟨k, truV_ok rel1 r1 q, o1.here rel1 _ rfl⟩
def vIf (t : FT) (a b : FE) : FE := fun env st => (t env st).bind fun c st => if c = true then a env st else b env st
theorem se_if {c a b : Expr} {fc : FT} {fa fb : FE} (hc : ST X W E c fc) (ha : SE X W E a fa) (hb : SE X W E b fb) : SE X W E (.IfExp c a b pos) (vIf fc fa fb) := by
  refine pe_weak (pe_ifExp hc ha hb) ?_
  rintro σ H Q ⟨g, st, env, rel, rs, o⟩
  refine tT_bind rel rs o fun x st1 g1 H1 e1 ee1 rel1 o1 => ?_
  cases x with
  | true => exact ⟨g1, st1, env, rel1, rs.ee rel ee1, o1⟩
  | false => exact ⟨g1, st1, env, rel1, rs.ee rel ee1, o1⟩
def vNeg (a : FE) : FE := fun env st => (a env st).bind fun x st => match x with
  | .int i => .ok (.int (-i)) st
  | _ => .bad
theorem se_neg {a : Expr} {fa : FE} (ha : SB X W E a fa) : SE X W E (.UnaryOp .USub a pos) (vNeg fa) := by
  refine pe_weak (pe_un un_neg ha) ?_
  rintro σ H Q ⟨g, st, env, rel, rs, o⟩
  refine tB_bind rel rs o fun x st1 g1 H1 u e1 ee1 rel1 r1 o1 => ?_
  cases x with
  | int i => exact ⟨i, rb_int r1, o1.here rel1 _ rfl⟩
  | _ => exact o1.elim
def strOf : Vl → Option Str
  | .str z => some z
  | _ => none
theorem strOf_eq {x : Vl} {z : Str} (h : strOf x = some z) : x = .str z := by
  cases x <;> cases h <;> rfl
def ixV (x : Vl) (i : Int) (st : Sto) : Option Vl := match strOf x with
  | some z => if z.length ≤ sizeLine then (atI z.cps.toList i).map fun c => Vl.str ⟨#[c]⟩ else none
  | none => (match seqOf x st with
    | some xs => atI xs i
    | none => none)
def kIx (x y : Vl) (st : Sto) : Res Vl := match y with
  | .int i => Res.lift (ixV x i st) st
  | _ => .bad
theorem atI_rel {g : G} {H : Hp} {xs : List Vl} {vs : List V} {i : Int} {x : Vl} (r : Rs W g H xs vs) (e : atI xs i = some x) : ∃ v, atI vs i = some v ∧ R W g H x v := by
  unfold atI at e ⊢
  rw [← r.length]
  cases q : ixN xs.length i with
  | none => rw [q] at e; cases e
  | some j =>
    rw [q] at e
    exact Rs.get (i := j) r e
theorem se_ix {a b : Expr} {fa fb : FE} (ha : SB X W E a fa) (hb : SB X W E b fb) (hs : notSlice b = true) : SE X W E (.Subscript a b pos) (f2 fa fb kIx) := by
  refine pe_weak (pe_ix ix_seq ha hb (notSlice_ok hs)) (t2_of (a := a) (b := b) ?_)
  intro g st H x y u w P Q rel rx ry o q
  unfold kIx at o
  cases y with
  | int i =>
    obtain ⟨v, e, o2⟩ := o.lift
    unfold ixV at e
    cases hz : strOf x with
    | some z =>
      rw [hz] at e
      dsimp only at e
      have hx := strOf_eq hz
      subst hx
      split at e
      · rename_i hl
        cases c : atI z.cps.toList i with
        | none => rw [c] at e; cases e
        | some d =>
          rw [c] at e; cases e
          exact .inr (.inr ⟨z, i, d, rb_str rx, rb_int ry, hl, c, q _ _ _ _ (o2.here rel) _ rfl⟩)
      · cases e
    | none =>
      rw [hz] at e
      dsimp only at e
      cases e1 : seqOf x st with
      | none => rw [e1] at e; cases e
      | some xs =>
        rw [e1] at e
        dsimp only at e
        obtain ⟨p, vs, e3, hs, r, _⟩ := seq_rd (K := X.K) rel rx e1
        obtain ⟨w', e4, rv⟩ := atI_rel r e
        rcases hs with hs | hs
        · exact .inl ⟨p, vs, i, w', e3, rb_int ry, hs, e4, q _ _ _ _ (o2.here rel) _ rv⟩
        · exact .inr (.inl ⟨p, vs, i, w', e3, rb_int ry, hs, e4, q _ _ _ _ (o2.here rel) _ rv⟩)
  | _ => exact o.elim
end
end TW
set_option maxHeartbeats 800000
namespace TW
open PySem PySem.Spec L2
def fArgs : List FE → FA
  | [] => fun _ st => .ok [] st
  | f :: fs => fun env st => (f env st).bind fun v st => (fArgs fs env st).bind fun vs st => .ok (v :: vs) st
theorem fArgs_len : ∀ {fs : List FE} {env : Ev} {st st' : Sto} {vs : List Vl}, fArgs fs env st = .ok vs st' → vs.length = fs.length
  | [], _, _, _, _, h => by cases h; rfl
  | f :: fs, env, st, st', vs, h => by
    have h' : ((f env st).bind fun v st => (fArgs fs env st).bind fun vs st => .ok (v :: vs) st) = .ok vs st' := h
    cases e1 : f env st with
    | ok v s1 =>
      rw [e1, Res.bind_ok] at h'
      cases e2 : fArgs fs env s1 with
      | ok ws s2 =>
        rw [e2, Res.bind_ok] at h'
        cases h'
        simp [fArgs_len e2]
      | exc c f s => rw [e2] at h'; cases h'
      | bad => rw [e2] at h'; cases h'
    | exc c f s => rw [e1] at h'; cases h'
    | bad => rw [e1] at h'; cases h'
section
variable {X : Cx} {W : Wd} {E : XK} {pos : Pos}
theorem sa_nil : SA X W E [] (fArgs []) := pa_weak pa_nil fun σ H Q ⟨g, st, env, rel, rs, o⟩ => o.here rel [] rfl
theorem sa_cons {e : Expr} {es : List Expr} {f : FE} {fs : List FE} (h : SE X W E e f) (hs : SA X W E es (fArgs fs)) (hn : notStar e = true) : SA X W E (e :: es) (fArgs (f :: fs)) := by
  refine pa_weak (pa_cons h hs (notStar_ok hn)) ?_
  rintro σ H Q ⟨g, st, env, rel, rs, o⟩
  refine tE_bind rel rs o fun v st1 g1 H1 u e1 ee1 rel1 r1 o1 => ?_
  refine tA_bind rel1 (rs.ee rel ee1) o1 fun vs st2 g2 H2 us e2 ee2 rel2 r2 o2 => ?_
  exact o2.here rel2 _ ⟨u, us, rfl, r1.ee ee2, r2⟩
def vTup (f : FA) : FE := fun env st => (f env st).bind fun vs st => .ok (.tup vs) st
theorem se_tup {es : List Expr} {fs : List FE} {x1 : Nat} (h : SA X W E es (fArgs fs)) (hl : fs.length ≤ 1000) : SE X W E (.Tuple es x1 pos) (vTup (fArgs fs)) := by
  refine pe_weak (pe_tup h) ?_
  rintro σ H Q ⟨g, st, env, rel, rs, o⟩
  refine tA_bind rel rs o fun vs st2 g2 H2 us e2 ee2 rel2 r2 o2 => ?_
  have l : us.length ≤ sizeLine := by
    rw [← r2.length, fArgs_len e2, sizeLine_eq]; omega
  refine ⟨l, fun p hp => ?_⟩
  refine o2.new rel2 hp (o := .tup us) l _ ⟨p, us, rfl, rel2.free hp, upd_same, ?_⟩
  exact r2.ee (EE.new hp)
/-- a new list, that nobody holds yet -/
def tL (W : Wd) (E : XK) (f : FA) : TE := fun σ H Q => ∃ g st env, Rel W g st H ∧ RS W g H env σ ∧
  Out W E g H (f env st) (fun xs g' st' H' => ∀ D vs, H D = none → D ∉ g'.base → Rel W (g'.hold D) st' H' → H' D = some (.lst vs) → Rs W (g'.hold D) H' xs vs → Q (.ref D) H')
abbrev SL (X : Cx) (W : Wd) (E : XK) (e : Expr) (f : FA) : Prop := PE X e (tL W E f)
def vLst (f : FA) : FE := fun env st => (f env st).bind fun vs st => .ok (.lst vs) st
theorem se_lst {e : Expr} {f : FA} (h : SL X W E e f) : SE X W E e (vLst f) := by
  refine pe_weak h ?_
  rintro σ H Q ⟨g, st, env, rel, rs, o⟩
  refine ⟨g, st, env, rel, rs, ?_⟩
  have o' : Out W E g H ((f env st).bind fun vs st => .ok (.lst vs) st) (fun v g' _ H' => ∀ u, R W g' H' v u → Q u H') := o
  cases e1 : f env st with
  | ok vs st1 =>
    rw [e1, Res.bind_ok] at o'
    intro g1 H1 ee1 rel1 D us hD hb hrel hl hr
    refine o' g1 H1 ee1 rel1 _ ⟨D, us, rfl, ⟨(hrel.prot D (.inl List.mem_cons_self)).2, hb, hrel.disj D List.mem_cons_self⟩, hl, hr.mo Mo.of_hold⟩
  | exc c fs st1 => rw [e1] at o'; exact o'
  | bad => rw [e1] at o'; exact o'
/-- a list is laid at p in one step -/
theorem lay {g : G} {st : Sto} {H : Hp} {xs : List Vl} {us : List V} {p : Addr} {Q : VK} {H0 : Hp} {g0 : G} (rel : Rel W g st H) (ee : EE g0 H0 g H) (hp : H p = none) (r : Rs W g H xs us) (l : us.length ≤ sizeLine)
    (o : Out W E g H (.ok xs st) (fun xs g' st' H' => ∀ D vs, H0 D = none → D ∉ g'.base → Rel W (g'.hold D) st' H' → H' D = some (.lst vs) → Rs W (g'.hold D) H' xs vs → Q (.ref D) H')) : Q (.ref p) (upd H p (.lst us)) := by
  have mo : Mo g H (g.hold p) (upd H p (.lst us)) := by
    refine ⟨fun b i t => ⟨i.r, fun z => ?_, i.o⟩, fun b o' _ e => ?_, fun _ _ e => e⟩
    · have z' : b ∈ p :: g.base := z
      rcases List.mem_cons.mp z' with z | z
      · exact t (z ▸ hp)
      · exact i.b z
    · rw [upd_ne (ne_of_none e hp)]; exact e
  exact o g (upd H p (.lst us)) (EE.new hp) (rel.new hp l) p us (ee.there p hp) (rel.free hp).b (rel.hold hp l) upd_same (r.mo mo)
theorem out_tr {α : Type} {g g0 : G} {H H0 : Hp} {r : Res α} {P : α → G → Sto → Hp → Prop} (ee : EE g0 H0 g H) (o : Out W E g0 H0 r P) : Out W E g H r P := by
  cases r with
  | ok v s => exact fun g' H' ee' rel => o g' H' (ee.trans ee') rel
  | exc c fs s => exact fun g' H' d ee' rel x => o g' H' d (ee.trans ee') rel x
  | bad => exact o
theorem sl_disp {es : List Expr} {fs : List FE} (h : SA X W E es (fArgs fs)) (hl : fs.length ≤ 1000) : SL X W E (.List es pos) (fArgs fs) := by
  refine pe_weak (pe_lst h) ?_
  rintro σ H Q ⟨g, st, env, rel, rs, o⟩
  refine ⟨g, st, env, rel, rs, ?_⟩
  cases e1 : fArgs fs env st with
  | ok vs st1 =>
    rw [e1] at o
    intro g1 H1 ee1 rel1 us r1
    have l : us.length ≤ sizeLine := by
      rw [← r1.length, fArgs_len e1, sizeLine_eq]; omega
    exact ⟨l, fun p hp => lay rel1 ee1 hp r1 l (out_tr ee1 o)⟩
  | exc c fs st1 => rw [e1] at o; exact o
  | bad => rw [e1] at o; exact o
/-- two lists in a row, a list so many times -/
def lCat (a b : FE) : FA := fun env st => (a env st).bind fun x st => (b env st).bind fun y st => match x, y with
  | .lst xs, .lst ys => if xs.length + ys.length ≤ sizeLine then .ok (xs ++ ys) st else .bad
  | _, _ => .bad
theorem sl_cat {a b : Expr} {fa fb : FE} (ha : SB X W E a fa) (hb : SB X W E b fb) : SL X W E (.BinOp a .Add b pos) (lCat fa fb) := by
  refine pe_weak (pe_op op_cat ha hb) ?_
  rintro σ H Q ⟨g, st, env, rel, rs, o⟩
  refine tB_bind rel rs o fun x st1 g1 H1 u e1 ee1 rel1 r1 o1 => ?_
  refine tB_bind rel1 (rs.ee rel ee1) o1 fun y st2 g2 H2 w e2 ee2 rel2 r2 o2 => ?_
  cases x with
  | lst xs =>
    cases y with
    | lst ys =>
      dsimp only at o2
      split at o2
      · rename_i h
        obtain ⟨p1, vs1, z1, h1, q1⟩ := rb_lst (r1.ee rel1 ee2)
        obtain ⟨p2, vs2, z2, h2, q2⟩ := rb_lst r2
        have l1 := q1.length
        have l2 := q2.length
        have l : (vs1 ++ vs2).length ≤ sizeLine := by rw [List.length_append]; omega
        exact ⟨p1, p2, vs1, vs2, z1, z2, h1, h2, by omega, fun p hp => lay rel2 (ee1.trans ee2) hp (q1.append q2) l o2⟩
      · exact o2.elim
    | _ => exact o2.elim
  | _ => exact o2.elim
def lRep (a b : FE) : FA := fun env st => (a env st).bind fun x st => (b env st).bind fun y st => match x, y with
  | .lst xs, .int k => if -(2 ^ 63) ≤ k ∧ k < 2 ^ 63 ∧ xs.length * k.toNat ≤ sizeLine then .ok (List.replicate k.toNat xs).flatten st else .bad
  | _, _ => .bad
theorem sl_rep {a b : Expr} {fa fb : FE} (ha : SB X W E a fa) (hb : SB X W E b fb) : SL X W E (.BinOp a .Mult b pos) (lRep fa fb) := by
  refine pe_weak (pe_op op_rep ha hb) ?_
  rintro σ H Q ⟨g, st, env, rel, rs, o⟩
  refine tB_bind rel rs o fun x st1 g1 H1 u e1 ee1 rel1 r1 o1 => ?_
  refine tB_bind rel1 (rs.ee rel ee1) o1 fun y st2 g2 H2 w e2 ee2 rel2 r2 o2 => ?_
  cases x with
  | lst xs =>
    cases y with
    | int k =>
      dsimp only at o2
      split at o2
      · rename_i h
        obtain ⟨p1, vs1, z1, h1, q1⟩ := rb_lst (r1.ee rel1 ee2)
        have l1 := q1.length
        have l : (List.replicate k.toNat vs1).flatten.length ≤ sizeLine := by rw [PyProof.Rows.lm_len_rep_flat, ← l1, Nat.mul_comm]; exact h.2.2
        exact ⟨p1, k, vs1, z1, rb_int r2, h1, h.1, h.2.1, by rw [← l1]; exact h.2.2, fun p hp => lay rel2 (ee1.trans ee2) hp (q1.flat _) l o2⟩
      · exact o2.elim
    | _ => exact o2.elim
  | _ => exact o2.elim
/-- list(x) of a list, a tuple -/
def lOf (a : FE) : FA := fun env st => (a env st).bind fun x st => Res.lift (seqOf x st) st
theorem sl_of {a : Expr} {fa : FE} {p : Pos} (ha : SB X W E a fa) (hg : Gl X "list") (hm : X.mg "list" = none) (hn : notStar a = true) : SL X W E (.Call (.Name "list" p) [a] [] pos) (lOf fa) := by
  refine pe_weak (pe_callTy call_list_of hg hm PyProof.Rows.boot_list (pa_cons ha pa_nil (notStar_ok hn)) (he := by rw [notStar_ok hn]) (hpl := noStars (by simp [hn]))) ?_
  rintro σ H Q ⟨g, st, env, rel, rs, o⟩
  refine tB_bind rel rs o fun x st1 g1 H1 u e1 ee1 rel1 r1 o1 => ?_
  obtain ⟨xs, ex, o2⟩ := o1.lift
  obtain ⟨a, vs, e3, hs, r, l⟩ := seq_rd (K := X.K) rel1 r1 ex
  subst e3
  exact ⟨a, vs, rfl, hs, fun p hp => lay rel1 ee1 hp r l o2⟩
end
end TW
set_option maxHeartbeats 800000
namespace TW
open PySem PySem.Spec L2
theorem seq_rd2 {W : Wd} {g : G} {H : Hp} {st : Sto} {K : PySem.W.Frag} {v : Vl} {u : V} {xs : List Vl} (rel : Rel W g st H) (h : RB W g H v u) (e : seqOf v st = some xs) :
    ∃ a vs, u = .ref a ∧ Rs W g H xs vs ∧ vs.length ≤ sizeLine ∧ ((v = .tup xs ∧ Imm g a ∧ H a = some (.tup vs)) ∨ ((∀ ys, v ≠ .tup ys) ∧ SqL K H a vs)) := by
  cases v with
  | tup ys =>
    cases e
    obtain ⟨a, vs, e1, i, e2, r⟩ := rb_tup h
    exact ⟨a, vs, e1, r, rel.sz a vs (.inr e2), .inl ⟨rfl, i, e2⟩⟩
  | lst ys =>
    cases e
    obtain ⟨a, vs, e1, e2, r⟩ := rb_lst h
    exact ⟨a, vs, e1, r, rel.sz a vs (.inl e2), .inr ⟨fun _ => Vl.noConfusion, SqL.of e2⟩⟩
  | fro ys =>
    cases e
    obtain ⟨a, o, vs, e1, _, e2, lz, r⟩ := rb_fro h
    exact ⟨a, vs, e1, r, lz, .inr ⟨fun _ => Vl.noConfusion, .inl (.inr ⟨o, e2⟩)⟩⟩
  | ref n =>
    obtain ⟨a, e1, e2⟩ := rb_ref h
    unfold seqOf at e
    dsimp only at e
    cases q : (st : List Ob)[n]? with
    | none => rw [q] at e; cases e
    | some o =>
      rw [q] at e
      have c := rel.cell n a o e2 q
      cases o with
      | lst ys =>
        cases e
        obtain ⟨vs, e3, r⟩ := c
        exact ⟨a, vs, e1, r, rel.sz a vs (.inl e3), .inr ⟨fun _ => Vl.noConfusion, SqL.of e3⟩⟩
      | _ => cases e
  | _ => cases e
section
variable {X : Cx} {W : Wd} {E : XK} {pos : Pos}
def tPp (W : Wd) (E : XK) : Option FE → TO
  | none => tNoPart
  | some f => tPart (tB W E f)
abbrev SP (X : Cx) (W : Wd) (E : XK) (e : Option Expr) (f : Option FE) : Prop := PO X e (tPp W E f)
theorem sp_none : SP X W E none none := po_none
theorem sp_some {e : Expr} {f : FE} (h : SB X W E e f) : SP X W E (some e) (some f) := po_some h
def fPart : Option FE → Ev → Sto → Res (Option Int)
  | none => fun _ st => .ok none st
  | some f => fun env st => (f env st).bind fun v st => match v with
    | .int i => .ok (some i) st
    | _ => .bad
theorem tP_bind {g : G} {st : Sto} {env : Ev} {σ : St} {H : Hp} {f : Option FE} {β : Type} {k : Option Int → Sto → Res β} {P : β → G → Sto → Hp → Prop} {Q : Option Int → Hp → Prop} (rel : Rel W g st H) (rs : RS W g H env σ) (h : Out W E g H ((fPart f env st).bind k) P)
    (q : ∀ v st1 g1 H1, EE g H g1 H1 → Rel W g1 st1 H1 → Out W E g1 H1 (k v st1) P → Q v H1) : tPp W E f σ H Q := by
  cases f with
  | none => exact q none st g H EE.refl rel h
  | some f =>
    have h' : Out W E g H ((f env st).bind fun v st => (match v with
      | .int i => k (some i) st
      | _ => .bad)) P := by
      have e : ((fPart (some f) env st).bind k) = ((f env st).bind fun v st => (match v with
        | .int i => k (some i) st
        | _ => .bad)) := by
        show (((f env st).bind fun v st => (match v with
          | .int i => .ok (some i) st
          | _ => .bad)).bind k) = _
        cases f env st with
        | ok v s => cases v <;> rfl
        | exc c fs s => rfl
        | bad => rfl
      rw [← e]; exact h
    refine tB_bind rel rs h' fun v st1 g1 H1 u e1 ee1 rel1 r1 o1 => ?_
    cases v with
    | int i => exact ⟨i, rb_int r1, q (some i) st1 g1 H1 ee1 rel1 o1⟩
    | _ => exact o1.elim
def cutL {α : Type} (xs : List α) (lo hi : Option Int) : List α := (xs.drop (HT.sIx xs.length 0 lo)).take (HT.sIx xs.length xs.length hi - HT.sIx xs.length 0 lo)
theorem cutL_V (vs : List V) (lo hi : Option Int) : cutL vs lo hi = cutV vs lo hi := rfl
theorem Rs.cut {g : G} {H : Hp} {xs : List Vl} {vs : List V} (h : Rs W g H xs vs) (lo hi : Option Int) : Rs W g H (cutL xs lo hi) (cutV vs lo hi) := by
  rw [← cutL_V]
  unfold cutL
  rw [h.length]
  exact (h.drop _).take _
def vSl (f : FE) (lo hi : Option FE) : FE := fun env st => (f env st).bind fun x st => (fPart lo env st).bind fun l st => (fPart hi env st).bind fun u st => match x with
  | .tup xs => .ok (.tup (cutL xs l u)) st
  | .str z => if z.length ≤ sizeLine then .ok (.str (cutS z l u)) st else .bad
  | x => (match seqOf x st with
    | some xs => .ok (.lst (cutL xs l u)) st
    | none => .bad)
theorem se_slice {e : Expr} {lo hi : Option Expr} {f : FE} {fl fh : Option FE} {p2 : Pos} (h : SB X W E e f) (hl : SP X W E lo fl) (hh : SP X W E hi fh) : SE X W E (.Subscript e (.Slice lo hi none p2) pos) (vSl f fl fh) := by
  refine pe_weak (pe_slice (SlR.or sl_list (SlR.or sl_tupA sl_str)) h hl hh) ?_
  rintro σ H Q ⟨g, st, env, rel, rs, o⟩
  refine tB_bind rel rs o fun x st1 g1 H1 u e1 ee1 rel1 r1 o1 => ?_
  have rs1 := rs.ee rel ee1
  refine tP_bind rel1 rs1 o1 fun l st2 g2 H2 ee2 rel2 o2 => ?_
  refine tP_bind rel2 (rs1.ee rel1 ee2) o2 fun v st3 g3 H3 ee3 rel3 o3 => ?_
  have r3 := (r1.ee rel1 ee2).ee rel2 ee3
  cases hx : strOf x with
  | some z =>
    have ez := strOf_eq hx
    subst ez
    dsimp only at o3
    split at o3
    · rename_i hz
      exact .inr (.inr ⟨z, rb_str r3, hz, o3.here rel3 _ rfl⟩)
    · exact o3.elim
  | none =>
    by_cases ht : ∃ xs, x = .tup xs
    · obtain ⟨xs, rfl⟩ := ht
      obtain ⟨a, vs, e3, i, e4, r⟩ := rb_tup r3
      subst e3
      have len := r.length
      refine .inr (.inl ⟨a, vs, rfl, SqT.of e4, fun hw => ?_, fun hw p hp => ?_⟩)
      · refine o3.here rel3 _ ⟨a, vs, rfl, i, e4, ?_⟩
        have c : cutL xs l v = xs := by
          unfold cutL
          rw [len, hw.1, hw.2, List.drop_zero, Nat.sub_zero, ← len, List.take_length]
        rw [c]; exact r
      · refine o3.new rel3 hp (o := .tup (cutV vs l v)) (Nat.le_trans (cutV_length _ _ _) (rel3.sz a vs (.inr e4))) _ ⟨p, _, rfl, rel3.free hp, upd_same, ?_⟩
        exact (r.ee (EE.new hp)).cut l v
    · have e5 : Out W E g3 H3 (match seqOf x st3 with
        | some xs => .ok (.lst (cutL xs l v)) st3
        | none => .bad) (fun v g' _ H' => ∀ u, R W g' H' v u → Q u H') := by
        cases x with
        | tup xs => exact absurd ⟨xs, rfl⟩ ht
        | str z => cases hx
        | _ => exact o3
      cases q : seqOf x st3 with
      | none => rw [q] at e5; exact e5.elim
      | some xs =>
        rw [q] at e5
        obtain ⟨a, vs, e1, r, lz, hs⟩ := seq_rd2 (K := X.K) rel3 r3 q
        have hs : SqL X.K H3 a vs := hs.elim (fun z => absurd ⟨xs, z.1⟩ ht) (fun z => z.2)
        refine .inl ⟨a, vs, e1, hs, fun p hp => ?_⟩
        refine e5.new rel3 hp (o := .lst (cutV vs l v)) (Nat.le_trans (cutV_length _ _ _) lz) _ ⟨p, _, rfl, rel3.free hp, upd_same, ?_⟩
        exact (r.ee (EE.new hp)).cut l v
def fldOf (names : List Str) (fs : List Vl) (f : Str) : Option Vl := (names.zip fs).lookup f
theorem fld_ok {g : G} {H : Hp} {f : Str} {x : Vl} : ∀ {ps : List (Str × V)} {fs : List Vl}, Rs W g H fs (ps.map (·.2)) → fldOf (ps.map (·.1)) fs f = some x → ∃ u, ps.lookup f = some u ∧ R W g H x u
  | [], _, _, e => by simp [fldOf] at e
  | (n, v) :: ps, [], r, e => by simp [fldOf] at e
  | (n, v) :: ps, y :: ys, r, e => by
    obtain ⟨w, vr, e1, h1, h2⟩ := r
    have e1' : v :: ps.map (·.2) = w :: vr := e1
    cases e1'
    unfold fldOf at e
    simp only [List.map_cons, List.zip_cons_cons, List.lookup_cons] at e ⊢
    cases q : (f == n) with
    | true => rw [q] at e; cases e; exact ⟨_, rfl, h1⟩
    | false => rw [q] at e; exact fld_ok h2 e
def vFld (flds : Nat → List Str) (f : Str) (a : FE) : FE := fun env st => (a env st).bind fun x st => match x with
  | .obj c fs => Res.lift (fldOf (flds c) fs f) st
  | _ => .bad
/-- what the written part says of the classes -/
def FldOk (X : Cx) (W : Wd) (f : Str) : Prop := ∀ c, f ∈ W.flds c → Cls X.K (W.cls c) ∧ NoAttr X.K (W.cls c) f
theorem fldOf_mem {names : List Str} {fs : List Vl} {f : Str} {x : Vl} (e : fldOf names fs f = some x) : f ∈ names := by
  induction names generalizing fs with
  | nil => simp [fldOf] at e
  | cons n ns ih =>
    cases fs with
    | nil => simp [fldOf] at e
    | cons y ys =>
      unfold fldOf at e
      simp only [List.zip_cons_cons, List.lookup_cons] at e
      cases q : (f == n) with
      | true => rw [beq_iff_eq.mp q]; exact List.mem_cons_self
      | false => rw [q] at e; exact List.mem_cons_of_mem _ (ih e)
theorem se_fld {e : Expr} {f : Str} {fa : FE} (h : SB X W E e fa) (hf : FldOk X W f) (hn : noSuper e = true) : SE X W E (.Attribute e f pos) (vFld W.flds f fa) := by
  refine pe_weak (pe_fld h (noSuper_ok hn)) ?_
  rintro σ H Q ⟨g, st, env, rel, rs, o⟩
  refine tB_bind rel rs o fun x st1 g1 H1 u e1 ee1 rel1 r1 o1 => ?_
  cases x with
  | obj c fs =>
    obtain ⟨v, ev, o2⟩ := o1.lift
    obtain ⟨a, dx, ps, e3, _, e4, e5, r⟩ := rb_obj r1
    rw [← e5] at ev
    obtain ⟨w, e6, rw'⟩ := fld_ok r ev
    have hm : f ∈ W.flds c := by rw [← e5]; exact fldOf_mem ev
    exact ⟨a, W.cls c, dx, ps, w, e3, e4, (hf c hm).1, (hf c hm).2, e6, o2.here rel1 _ rw'⟩
  | _ => exact o1.elim
def v1 (k : Vl → Sto → Res Vl) (a : FE) : FE := fun env st => (a env st).bind fun x st => k x st
theorem se_b1 {a : Expr} {fa : FE} {x id : Str} {p : Pos} {idS : String} {k : Vl → Sto → Res Vl} {r : List V → Hp → VK → Prop} (hc : CallR X (.builtin idS) r) (hv : bootBuiltins x = some (.builtin idS)) (hn' : x ≠ "__name__") (hdb : (x == ("__debug__" : Str)) = false)
    (ok : ∀ g st H y u (P : Vl → G → Sto → Hp → Prop) (Q : VK), Rel W g st H → RB W g H y u → Out W E g H (k y st) P → (∀ v g' st' H', P v g' st' H' → ∀ z, R W g' H' v z → Q z H') → r [u] H Q)
    (ha : SB X W E a fa) (hg : Gl X x) (hm : X.mg x = none) (hn : notStar a = true) : SE X W E (.Call (.Name x p) [a] [] pos) (v1 k fa) := by
  refine pe_weak (pe_callB hc hg hm hv (pa_cons ha pa_nil (notStar_ok hn)) hn' hdb (he := by rw [notStar_ok hn]) (hpl := noStars (by simp [hn]))) ?_
  rintro σ H Q ⟨g, st, env, rel, rs, o⟩
  refine tB_bind rel rs o fun x st1 g1 H1 u e1 ee1 rel1 r1 o1 => ?_
  exact ok g1 st1 H1 x u _ Q rel1 r1 o1 fun v g' st' H' h z rz => h z rz
theorem se_t1 {a : Expr} {fa : FE} {x : Str} {p : Pos} {T : String} {k : Vl → Sto → Res Vl} {r : List V → Hp → VK → Prop} (hc : CallR X (.type T) r) (hv : bootBuiltins x = some (.type T)) (hn' : x ≠ "__name__") (hdb : (x == ("__debug__" : Str)) = false)
    (ok : ∀ g st H y u (P : Vl → G → Sto → Hp → Prop) (Q : VK), Rel W g st H → RB W g H y u → Out W E g H (k y st) P → (∀ v g' st' H', P v g' st' H' → ∀ z, R W g' H' v z → Q z H') → r [u] H Q)
    (ha : SB X W E a fa) (hg : Gl X x) (hm : X.mg x = none) (hn : notStar a = true) : SE X W E (.Call (.Name x p) [a] [] pos) (v1 k fa) := by
  refine pe_weak (pe_callTy hc hg hm hv (pa_cons ha pa_nil (notStar_ok hn)) hn' hdb (he := by rw [notStar_ok hn]) (hpl := noStars (by simp [hn]))) ?_
  rintro σ H Q ⟨g, st, env, rel, rs, o⟩
  refine tB_bind rel rs o fun x st1 g1 H1 u e1 ee1 rel1 r1 o1 => ?_
  exact ok g1 st1 H1 x u _ Q rel1 r1 o1 fun v g' st' H' h z rz => h z rz
def lenV (x : Vl) (st : Sto) : Option Nat := match strOf x with
  | some z => if z.length ≤ sizeLine then some z.length else none
  | none => (seqOf x st).map List.length
def dLen : Vl → Option Nat
  | .dct ks _ => some ks.length
  | _ => none
def kLen (x : Vl) (st : Sto) : Res Vl := match dLen x with
  | some n => .ok (.int n) st
  | none => Res.lift ((lenV x st).map fun n => .int n) st
theorem callR_or {f : Value} {r1 r2 : List V → Hp → VK → Prop} (h1 : CallR X f r1) (h2 : CallR X f r2) : CallR X f (fun xs H Q => r1 xs H Q ∨ r2 xs H Q) := fun pins s σ H xs us Q I r h => h.elim (h1 pins s σ H xs us Q I r) (h2 pins s σ H xs us Q I r)
theorem se_len {a : Expr} {fa : FE} {p : Pos} (ha : SB X W E a fa) (hg : Gl X "len") (hm : X.mg "len" = none) (hn : notStar a = true) : SE X W E (.Call (.Name "len" p) [a] [] pos) (v1 kLen fa) := by
  refine se_b1 (id := "len") (callR_or call_len call_lenD) PySem.boot_len (by decide) (by decide) ?_ ha hg hm hn
  intro g st H y u P Q rel r o q
  unfold kLen at o
  cases hd : dLen y with
  | some n =>
    rw [hd] at o
    obtain ⟨ks, xs, rfl⟩ : ∃ ks xs, y = .dct ks xs := by
      cases y <;> first | exact ⟨_, _, rfl⟩ | (cases hd; done)
    cases hd
    obtain ⟨a, kvs, e, e2, e3, _⟩ := rb_dct r
    subst e
    exact .inr ⟨a, kvs, rfl, e2, q _ _ _ _ (o.here rel) _ (by rw [← e3, List.length_map]; rfl)⟩
  | none =>
  rw [hd] at o
  refine .inl ?_
  obtain ⟨v, ev, o2⟩ := o.lift
  cases e : lenV y st with
  | none => rw [e] at ev; cases ev
  | some n =>
    rw [e] at ev; cases ev
    unfold lenV at e
    cases hz : strOf y with
    | some z =>
      rw [hz] at e
      dsimp only at e
      have ez := strOf_eq hz
      subst ez
      split at e
      · rename_i hl
        cases e
        exact ⟨_, _, rfl, by rw [rb_str r]; exact ⟨hl, rfl⟩, q _ _ _ _ (o2.here rel) _ rfl⟩
      · cases e
    | none =>
      rw [hz] at e
      dsimp only at e
      cases e1 : seqOf y st with
      | none => rw [e1] at e; cases e
      | some xs =>
        rw [e1] at e; cases e
        obtain ⟨a, vs, e3, hs, r', _⟩ := seq_rd (K := X.K) rel r e1
        subst e3
        refine ⟨_, xs.length, rfl, ?_, q _ _ _ _ (o2.here rel) _ rfl⟩
        rw [r'.length]
        rcases hs with hs | hs
        · exact .inl ⟨vs, hs, rfl⟩
        · exact .inr ⟨vs, hs, rfl⟩
def kAbs (x : Vl) (st : Sto) : Res Vl := match x with
  | .int i => .ok (.int (if i < 0 then -i else i)) st
  | _ => .bad
theorem se_abs {a : Expr} {fa : FE} {p : Pos} (ha : SB X W E a fa) (hg : Gl X "abs") (hm : X.mg "abs" = none) (hn : notStar a = true) : SE X W E (.Call (.Name "abs" p) [a] [] pos) (v1 kAbs fa) := by
  refine se_b1 (id := "abs") call_abs PyProof.Rows.boot_abs (by decide) (by decide) ?_ ha hg hm hn
  intro g st H y u P Q rel r o q
  cases y with
  | int i => exact ⟨i, by rw [rb_int r], q _ _ _ _ (o.here rel) _ rfl⟩
  | _ => exact o.elim
def kInt (x : Vl) (st : Sto) : Res Vl := match x with
  | .int i => .ok (.int i) st
  | .bl b => .ok (.int (if b then 1 else 0)) st
  | _ => .bad
theorem se_intc {a : Expr} {fa : FE} {p : Pos} (ha : SB X W E a fa) (hg : Gl X "int") (hm : X.mg "int" = none) (hn : notStar a = true) : SE X W E (.Call (.Name "int" p) [a] [] pos) (v1 kInt fa) := by
  refine se_t1 call_int1 PyProof.Rows.boot_int (by decide) (by decide) ?_ ha hg hm hn
  intro g st H y u P Q rel r o q
  cases y with
  | int i => exact .inl ⟨i, by rw [rb_int r], q _ _ _ _ (o.here rel) _ rfl⟩
  | bl b => exact .inr ⟨b, by rw [rb_bl r], q _ _ _ _ (o.here rel) _ rfl⟩
  | _ => exact o.elim
def kTuple (x : Vl) (st : Sto) : Res Vl := Res.lift ((seqOf x st).map .tup) st
theorem se_tuplec {a : Expr} {fa : FE} {p : Pos} (ha : SB X W E a fa) (hg : Gl X "tuple") (hm : X.mg "tuple" = none) (hn : notStar a = true) : SE X W E (.Call (.Name "tuple" p) [a] [] pos) (v1 kTuple fa) := by
  refine se_t1 call_tuple_of PyProof.Rows.boot_tuple (by decide) (by decide) ?_ ha hg hm hn
  intro g st H y u P Q rel r o q
  obtain ⟨v, ev, o2⟩ := o.lift
  cases e1 : seqOf y st with
  | none => rw [e1] at ev; cases ev
  | some xs =>
    rw [e1] at ev; cases ev
    obtain ⟨a, vs, e3, r', l, hs⟩ := seq_rd2 (K := X.K) rel r e1
    subst e3
    refine ⟨a, vs, rfl, ?_⟩
    rcases hs with ⟨_, i, e4⟩ | ⟨_, hs⟩
    · exact .inr ⟨SqT.of e4, q _ _ _ _ (o2.here rel) _ ⟨a, vs, rfl, i, e4, r'⟩⟩
    · exact .inl ⟨hs, fun p hp => q _ _ _ _ (o2.new rel hp (o := .tup vs) l) _ ⟨p, vs, rfl, rel.free hp, upd_same, r'.ee (EE.new hp)⟩⟩
def kAll (x : Vl) (st : Sto) : Res Vl := match x with
  | .lst xs => Res.lift ((blsOf xs).map fun bs => .bl (bs.all id)) st
  | _ => .bad
theorem se_all {a : Expr} {fa : FE} {p : Pos} (hc : X.calm = true) (ha : SB X W E a fa) (hg : Gl X "all") (hm : X.mg "all" = none) (hn : notStar a = true) : SE X W E (.Call (.Name "all" p) [a] [] pos) (v1 kAll fa) := by
  refine se_b1 (id := "all") (cr_all hc) (by decide +kernel) (by decide) (by decide) ?_ ha hg hm hn
  intro g st H y u P Q rel r o q
  cases y with
  | lst xs =>
    obtain ⟨v, ev, o2⟩ := o.lift
    cases e : blsOf xs with
    | none => rw [e] at ev; cases ev
    | some bs =>
      rw [e] at ev; cases ev
      obtain ⟨a, vs, e3, e4, r'⟩ := rb_lst r
      subst e3
      have ev := blsOf_ok xs r' e
      subst ev
      exact ⟨a, bs, rfl, SqL.of e4, q _ _ _ _ (o2.here rel) _ rfl⟩
  | _ => exact o.elim
def kAny (x : Vl) (st : Sto) : Res Vl := match x with
  | .lst xs => Res.lift ((blsOf xs).map fun bs => .bl (bs.any id)) st
  | _ => .bad
theorem se_any {a : Expr} {fa : FE} {p : Pos} (hc : X.calm = true) (ha : SB X W E a fa) (hg : Gl X "any") (hm : X.mg "any" = none) (hn : notStar a = true) : SE X W E (.Call (.Name "any" p) [a] [] pos) (v1 kAny fa) := by
  refine se_b1 (id := "any") (cr_any hc) (by decide +kernel) (by decide) (by decide) ?_ ha hg hm hn
  intro g st H y u P Q rel r o q
  cases y with
  | lst xs =>
    obtain ⟨v, ev, o2⟩ := o.lift
    cases e : blsOf xs with
    | none => rw [e] at ev; cases ev
    | some bs =>
      rw [e] at ev; cases ev
      obtain ⟨a, vs, e3, e4, r'⟩ := rb_lst r
      subst e3
      have ev := blsOf_ok xs r' e
      subst ev
      exact ⟨a, bs, rfl, SqL.of e4, q _ _ _ _ (o2.here rel) _ rfl⟩
  | _ => exact o.elim
def kSum (x : Vl) (st : Sto) : Res Vl := match x with
  | .lst xs => Res.lift ((intsOf xs).map fun ns => .int ns.sum) st
  | _ => .bad
theorem se_sum {a : Expr} {fa : FE} {p : Pos} (hc : X.calm = true) (ha : SB X W E a fa) (hg : Gl X "sum") (hm : X.mg "sum" = none) (hn : notStar a = true) : SE X W E (.Call (.Name "sum" p) [a] [] pos) (v1 kSum fa) := by
  refine se_b1 (id := "sum") (cr_sum hc) (by decide +kernel) (by decide) (by decide) ?_ ha hg hm hn
  intro g st H y u P Q rel r o q
  cases y with
  | lst xs =>
    obtain ⟨v, ev, o2⟩ := o.lift
    cases e : intsOf xs with
    | none => rw [e] at ev; cases ev
    | some bs =>
      rw [e] at ev; cases ev
      obtain ⟨a, vs, e3, e4, r'⟩ := rb_lst r
      subst e3
      have ev := intsOf_ok xs r' e
      subst ev
      exact ⟨a, bs, rfl, SqL.of e4, q _ _ _ _ (o2.here rel) _ rfl⟩
  | _ => exact o.elim
end
end TW
set_option maxHeartbeats 800000
namespace TW
open PySem PySem.Spec L2
inductive Tg where
  | int | bool | str | list | tuple | dict | none | cls (c : Nat) | exc (c : Nat)
  deriving DecidableEq
def tgSub : Tg → Tg → Bool
  | .bool, .int => true
  | s, t => decide (s = t)
def tgV (W : Wd) : Tg → Value
  | .int => .type "int"
  | .bool => .type "bool"
  | .str => .type "str"
  | .list => .type "list"
  | .tuple => .type "tuple"
  | .dict => .type "dict"
  | .none => .type "NoneType"
  | .cls c => .ref (W.cls c)
  | .exc c => .ref (W.exc c)
def tgOf (n : Nat) (x : Vl) (st : Sto) : Option Tg := match x with
  | .non => some .none
  | .bl _ => some .bool
  | .int _ => some .int
  | .str _ => some .str
  | .tup _ => some .tuple
  | .lst _ => some .list
  | .fro _ => some .list
  | .dct _ _ => some .dict
  | .obj c _ => if c < n then some (.cls c) else Option.none
  | .ref k => (match (st : List Ob)[k]? with
    | some (.lst _) => some .list
    | some (.dct _ _) => some .dict
    | some (.ins c _) => if c < n then some (.cls c) else Option.none
    | Option.none => Option.none)
/-- what isinstance asks of an own class -/
structure InsT (K : PySem.W.Frag) (C : Addr) : Prop where
  cl : Cls K C
  ha : PySem.W.findIn K (.ref C) "__class__" = some (some (.builtin "object.__class__"))
  hn : PySem.W.specialIn K (.builtin "object.__class__") "__get__" = some (some (.builtin "getset_descriptor.__get__"))
  htk : PySem.W.takesIn K (.builtin "object.__class__") = some true
  hm : PySem.W.mroIn K C (.type "object") = some true
section
variable {X : Cx} {W : Wd} {E : XK} {pos : Pos}
theorem tg_ok {n : Nat} {g : G} {st : Sto} {H : Hp} {x : Vl} {u : V} {t : Tg} (hI : ∀ c, c < n → InsT X.K (W.cls c)) (rel : Rel W g st H) (r : RB W g H x u) (e : tgOf n x st = some t) : TyX X.K H u (tgV W t) := by
  cases x with
  | non => cases e; rw [rb_non r]; exact .base .non
  | bl b => cases e; rw [rb_bl r]; exact .base (.bl b)
  | int b => cases e; rw [rb_int r]; exact .base (.int b)
  | str b => cases e; rw [rb_str r]; exact .base (.str b)
  | tup b => cases e; obtain ⟨a, vs, rfl, _, h, _⟩ := rb_tup r; exact .base (.tup h)
  | lst b => cases e; obtain ⟨a, vs, rfl, h, _⟩ := rb_lst r; exact .base (.lst h)
  | fro b => cases e; obtain ⟨a, o, vs, rfl, _, h, _⟩ := rb_fro r; exact .base (.frz h)
  | dct b c => cases e; obtain ⟨a, vs, rfl, h, _⟩ := rb_dct r; exact .base (.dK h)
  | obj c fs =>
    unfold tgOf at e
    dsimp only at e
    split at e
    · rename_i hc
      cases e
      obtain ⟨a, dx, ps, rfl, _, h, _⟩ := rb_obj r
      have f := hI c hc
      exact .base (.ins h f.cl f.ha f.hn f.htk f.hm)
    · cases e
  | ref k =>
    obtain ⟨a, e1, e2⟩ := rb_ref r
    subst e1
    unfold tgOf at e
    dsimp only at e
    cases q : (st : List Ob)[k]? with
    | none => rw [q] at e; cases e
    | some o =>
      have c := rel.cell k a o e2 q
      rw [q] at e
      cases o with
      | lst ys => cases e; obtain ⟨vs, e3, _⟩ := c; exact .base (.lst e3)
      | dct ks ys => cases e; obtain ⟨vs, e3, _⟩ := c; exact .base (.dK e3)
      | ins cc fs =>
        dsimp only at e
        split at e
        · rename_i hc
          cases e
          obtain ⟨dx, ps, e3, _⟩ := c
          have f := hI cc hc
          exact .base (.ins e3 f.cl f.ha f.hn f.htk f.hm)
        · cases e
def KitOk (X : Cx) (W : Wd) (s t : Tg) : Prop := PySem.W.kitOne X.K (tgV W s) (tgV W t) = some (tgSub s t)
/-- the tags that values may have -/
def srcTags (n : Nat) : List Tg := [.int, .bool, .str, .list, .tuple, .dict, .none] ++ (List.range n).map .cls
theorem tgOf_src {n : Nat} {x : Vl} {st : Sto} {t : Tg} (e : tgOf n x st = some t) : t ∈ srcTags n := by
  unfold srcTags
  cases x with
  | obj c fs =>
    unfold tgOf at e
    dsimp only at e
    split at e
    · rename_i hc
      cases e
      exact List.mem_append_right _ (List.mem_map.mpr ⟨c, List.mem_range.mpr hc, rfl⟩)
    · cases e
  | ref k =>
    unfold tgOf at e
    dsimp only at e
    cases q : (st : List Ob)[k]? with
    | none => rw [q] at e; cases e
    | some o =>
      rw [q] at e
      cases o with
      | lst ys => cases e; simp
      | dct ks ys => cases e; simp
      | ins c fs =>
        dsimp only at e
        split at e
        · rename_i hc
          cases e
          exact List.mem_append_right _ (List.mem_map.mpr ⟨c, List.mem_range.mpr hc, rfl⟩)
        · cases e
  | _ => cases e; simp
/-- an expression that names a class -/
def ClsE (X : Cx) (W : Wd) (c : Expr) (t : Tg) : Prop := ∃ v, PE X c (tC v) ∧ ClsV v (tgV W t) ∧ notStar c = true
def vIsi (n : Nat) (ts : List Tg) (a : FE) : FE := fun env st => (a env st).bind fun x st => match tgOf n x st with
  | some s => .ok (.bl (ts.any fun t => tgSub s t)) st
  | none => .bad
theorem se_isi1 {n : Nat} {a c : Expr} {fa : FE} {t : Tg} {p : Pos} (hI : ∀ c, c < n → InsT X.K (W.cls c)) (hk : ∀ s ∈ srcTags n, KitOk X W s t) (ha : SB X W E a fa) (hc : ClsE X W c t) (hg : Gl X "isinstance") (hm : X.mg "isinstance" = none) (hn : notStar a = true) :
    SE X W E (.Call (.Name "isinstance" p) [a, c] [] pos) (vIsi n [t] fa) := by
  obtain ⟨v, pc, cv, hs⟩ := hc
  refine pe_weak (pe_callB call_isi hg hm PyProof.Rows.boot_isinstance (pa_cons ha (pa_cons pc pa_nil (notStar_ok hs)) (notStar_ok hn)) (he := by rw [notStar_ok hn]) (hpl := noStars (by simp [hn, hs]))) ?_
  rintro σ H Q ⟨g, st, env, rel, rs, o⟩
  refine tB_bind rel rs o fun x st1 g1 H1 u e1 ee1 rel1 r1 o1 => ?_
  cases e : tgOf n x st1 with
  | none => rw [e] at o1; exact o1.elim
  | some s =>
    rw [e] at o1
    have q := o1.here rel1 (.bl _) rfl
    refine ⟨u, v, _, _, tgSub s t, rfl, cv, tg_ok hI rel1 r1 e, hk s (tgOf_src e), ?_⟩
    simpa using q
inductive ClsEs (X : Cx) (W : Wd) : List Expr → List Tg → Prop
  | nil : ClsEs X W [] []
  | cons {c : Expr} {t : Tg} {cs : List Expr} {ts : List Tg} : ClsE X W c t → ClsEs X W cs ts → ClsEs X W (c :: cs) (t :: ts)
theorem ClsEs.pa {cs : List Expr} {ts : List Tg} (h : ClsEs X W cs ts) : ∃ vs, PA X cs (fun _ H Q => Q vs H) ∧ Paired ClsV vs (ts.map (tgV W)) := by
  induction h with
  | nil => exact ⟨[], ⟨fun pos pins s σ H Q I hw => (pa_nil (X := X)).run pos pins s σ H Q I hw⟩, .nil⟩
  | cons h _ ih =>
    obtain ⟨v, pc, cv, hs⟩ := h
    obtain ⟨vs, pa, pv⟩ := ih
    exact ⟨v :: vs, ⟨fun pos pins s σ H Q I hw => (pa_cons pc pa (notStar_ok hs)).run pos pins s σ H Q I hw⟩, .cons cv pv⟩
theorem kitAny_of {K : PySem.W.Frag} {s : Tg} : ∀ {ts : List Tg}, (∀ t ∈ ts, PySem.W.kitOne K (tgV W s) (tgV W t) = some (tgSub s t)) → PySem.W.kitAny K (tgV W s) (ts.map (tgV W)) = some (ts.any fun t => tgSub s t)
  | [], _ => rfl
  | t :: ts, h => by
    refine kitAny_cons (h t List.mem_cons_self) (fun e => ?_) fun e => ?_
    · rw [List.any_cons, e, Bool.false_or]
      exact kitAny_of fun t' ht => h t' (List.mem_cons_of_mem _ ht)
    · rw [List.any_cons, e, Bool.true_or]
theorem se_isiT {n : Nat} {a : Expr} {cs : List Expr} {fa : FE} {ts : List Tg} {p pt : Pos} {k : Nat} (hI : ∀ c, c < n → InsT X.K (W.cls c)) (hk : ∀ s ∈ srcTags n, ∀ t ∈ ts, KitOk X W s t) (ha : SB X W E a fa) (hc : ClsEs X W cs ts) (hl : ts.length ≤ 1000)
    (hg : Gl X "isinstance") (hm : X.mg "isinstance" = none) (hn : notStar a = true) : SE X W E (.Call (.Name "isinstance" p) [a, .Tuple cs k pt] [] pos) (vIsi n ts fa) := by
  obtain ⟨vs, pv, cv⟩ := hc.pa
  refine pe_weak (pe_callB call_isiT hg hm PyProof.Rows.boot_isinstance (pa_cons ha (pa_cons (pe_tup pv) pa_nil (notStar_ok rfl)) (notStar_ok hn)) (he := by rw [notStar_ok hn]) (hpl := noStars (by simp [hn, notStar]))) ?_
  rintro σ H Q ⟨g, st, env, rel, rs, o⟩
  refine tB_bind rel rs o fun x st1 g1 H1 u e1 ee1 rel1 r1 o1 => ?_
  have lv : vs.length ≤ sizeLine := by
    rw [Paired.length cv, List.length_map, sizeLine_eq]; omega
  refine ⟨lv, fun tp hp => ?_⟩
  cases e : tgOf n x st1 with
  | none => rw [e] at o1; exact o1.elim
  | some s =>
    rw [e] at o1
    have rel2 := rel1.new hp (o := .tup vs) lv
    have ee2 : EE g1 H1 g1 (upd H1 tp (.tup vs)) := EE.new hp
    exact ⟨u, tp, vs, _, _, _, rfl, upd_same, cv, tg_ok hI rel2 (r1.ee rel1 ee2) e, kitAny_of fun t ht => hk s (tgOf_src e) t ht, o1 g1 _ ee2 rel2 _ rfl⟩
def kMax (x y : Vl) (st : Sto) : Res Vl := match x, y with
  | .int i, .int j => .ok (.int (if j > i then j else i)) st
  | _, _ => .bad
def kMin (x y : Vl) (st : Sto) : Res Vl := match x, y with
  | .int i, .int j => .ok (.int (if j < i then j else i)) st
  | _, _ => .bad
theorem se_b2 {a b : Expr} {fa fb : FE} {x id : Str} {p : Pos} {idS : String} {k : Vl → Vl → Sto → Res Vl} {r : List V → Hp → VK → Prop} (hc : CallR X (.builtin idS) r) (hv : bootBuiltins x = some (.builtin idS)) (hn' : x ≠ "__name__") (hdb : (x == ("__debug__" : Str)) = false)
    (ok : ∀ g st H y z u w (P : Vl → G → Sto → Hp → Prop) (Q : VK), Rel W g st H → RB W g H y u → RB W g H z w → Out W E g H (k y z st) P → (∀ v g' st' H', P v g' st' H' → ∀ z, R W g' H' v z → Q z H') → r [u, w] H Q)
    (ha : SB X W E a fa) (hb : SB X W E b fb) (hg : Gl X x) (hm : X.mg x = none) (hn : notStar a = true) (hn2 : notStar b = true) : SE X W E (.Call (.Name x p) [a, b] [] pos) (f2 fa fb k) := by
  refine pe_weak (pe_callB hc hg hm hv (pa_cons ha (pa_cons hb pa_nil (notStar_ok hn2)) (notStar_ok hn)) hn' hdb (he := by rw [notStar_ok hn]) (hpl := noStars (by simp [hn, hn2]))) ?_
  rintro σ H Q ⟨g, st, env, rel, rs, o⟩
  refine tB_bind rel rs o fun x st1 g1 H1 u e1 ee1 rel1 r1 o1 => ?_
  refine tB_bind rel1 (rs.ee rel ee1) o1 fun y st2 g2 H2 w e2 ee2 rel2 r2 o2 => ?_
  exact ok g2 st2 H2 x y u w _ Q rel2 (r1.ee rel1 ee2) r2 o2 fun v g' st' H' h z rz => h z rz
theorem se_max2 {a b : Expr} {fa fb : FE} {p : Pos} (hc : X.calm = true) (ha : SB X W E a fa) (hb : SB X W E b fb) (hg : Gl X "max") (hm : X.mg "max" = none) (hn : notStar a = true) (hn2 : notStar b = true) : SE X W E (.Call (.Name "max" p) [a, b] [] pos) (f2 fa fb kMax) := by
  refine se_b2 (id := "max") (call_max2 hc) (by decide +kernel) (by decide) (by decide) ?_ ha hb hg hm hn hn2
  intro g st H y z u w P Q rel r1 r2 o q
  unfold kMax at o
  split at o
  · exact ⟨_, _, by rw [rb_int r1, rb_int r2], q _ _ _ _ (o.here rel) _ rfl⟩
  · exact o.elim
theorem se_min2 {a b : Expr} {fa fb : FE} {p : Pos} (hc : X.calm = true) (ha : SB X W E a fa) (hb : SB X W E b fb) (hg : Gl X "min") (hm : X.mg "min" = none) (hn : notStar a = true) (hn2 : notStar b = true) : SE X W E (.Call (.Name "min" p) [a, b] [] pos) (f2 fa fb kMin) := by
  refine se_b2 (id := "min") (call_min2 hc) (by decide +kernel) (by decide) (by decide) ?_ ha hb hg hm hn hn2
  intro g st H y z u w P Q rel r1 r2 o q
  unfold kMin at o
  split at o
  · exact ⟨_, _, by rw [rb_int r1, rb_int r2], q _ _ _ _ (o.here rel) _ rfl⟩
  · exact o.elim
end
end TW
set_option maxHeartbeats 800000
namespace TW
open PySem PySem.Spec L2
mutual
def Vl.eqb : Vl → Vl → Bool
  | .non, .non => true
  | .bl a, .bl b => decide (a = b)
  | .int a, .int b => decide (a = b)
  | .str a, .str b => decide (a = b)
  | .tup a, .tup b => Vl.eqbs a b
  | .lst a, .lst b => Vl.eqbs a b
  | .fro a, .fro b => Vl.eqbs a b
  | .dct k a, .dct l b => decide (k = l) && Vl.eqbs a b
  | .ref a, .ref b => decide (a = b)
  | .obj c a, .obj d b => decide (c = d) && Vl.eqbs a b
  | _, _ => false
def Vl.eqbs : List Vl → List Vl → Bool
  | [], [] => true
  | x :: xs, y :: ys => Vl.eqb x y && Vl.eqbs xs ys
  | _, _ => false
end
mutual
theorem Vl.eqb_refl : ∀ x : Vl, Vl.eqb x x = true
  | .non => rfl
  | .bl a => by simp [Vl.eqb]
  | .int a => by simp [Vl.eqb]
  | .str a => by simp [Vl.eqb]
  | .tup a => by simp [Vl.eqb, Vl.eqbs_refl a]
  | .lst a => by simp [Vl.eqb, Vl.eqbs_refl a]
  | .fro a => by simp [Vl.eqb, Vl.eqbs_refl a]
  | .dct k a => by simp [Vl.eqb, Vl.eqbs_refl a]
  | .ref a => by simp [Vl.eqb]
  | .obj c a => by simp [Vl.eqb, Vl.eqbs_refl a]
theorem Vl.eqbs_refl : ∀ xs : List Vl, Vl.eqbs xs xs = true
  | [] => rfl
  | x :: xs => by simp [Vl.eqbs, Vl.eqb_refl x, Vl.eqbs_refl xs]
end
mutual
theorem Vl.eqb_eq : ∀ {x y : Vl}, Vl.eqb x y = true → x = y
  | .non, y, h => by cases y <;> simp_all [Vl.eqb]
  | .bl a, y, h => by cases y <;> simp_all [Vl.eqb]
  | .int a, y, h => by cases y <;> simp_all [Vl.eqb]
  | .str a, y, h => by cases y <;> simp_all [Vl.eqb]
  | .ref a, y, h => by cases y <;> simp_all [Vl.eqb]
  | .tup a, y, h => by
    cases y with
    | tup b => simp only [Vl.eqb] at h; rw [Vl.eqbs_eq h]
    | _ => simp [Vl.eqb] at h
  | .lst a, y, h => by
    cases y with
    | lst b => simp only [Vl.eqb] at h; rw [Vl.eqbs_eq h]
    | _ => simp [Vl.eqb] at h
  | .fro a, y, h => by
    cases y with
    | fro b => simp only [Vl.eqb] at h; rw [Vl.eqbs_eq h]
    | _ => simp [Vl.eqb] at h
  | .dct k a, y, h => by
    cases y with
    | dct l b =>
      simp only [Vl.eqb, Bool.and_eq_true, decide_eq_true_eq] at h
      rw [h.1, Vl.eqbs_eq h.2]
    | _ => simp [Vl.eqb] at h
  | .obj k a, y, h => by
    cases y with
    | obj l b =>
      simp only [Vl.eqb, Bool.and_eq_true, decide_eq_true_eq] at h
      rw [h.1, Vl.eqbs_eq h.2]
    | _ => simp [Vl.eqb] at h
theorem Vl.eqbs_eq : ∀ {xs ys : List Vl}, Vl.eqbs xs ys = true → xs = ys
  | [], ys, h => by cases ys <;> simp_all [Vl.eqbs]
  | x :: xs, ys, h => by
    cases ys with
    | nil => simp [Vl.eqbs] at h
    | cons y ys =>
      simp only [Vl.eqbs, Bool.and_eq_true] at h
      rw [Vl.eqb_eq h.1, Vl.eqbs_eq h.2]
end
/-- what is walked: the items; the lists that must stand meanwhile -/
structure Src where
  items : List Vl
  gs : List (Vl × List Vl)
def sameSeq (a : Option (List Vl)) (b : List Vl) : Bool := match a with
  | some x => Vl.eqbs x b
  | none => false
theorem sameSeq_eq {a : Option (List Vl)} {b : List Vl} (h : sameSeq a b = true) : a = some b := by
  cases a with
  | none => cases h
  | some x => rw [Vl.eqbs_eq (show Vl.eqbs x b = true from h)]
theorem sameSeq_refl (b : List Vl) : sameSeq (some b) b = true := Vl.eqbs_refl b
def Src.ok (s : Src) (st : Sto) : Bool := s.gs.all fun p => sameSeq (seqOf p.1 st) p.2
def Stand (s : Src) (st : Sto) : Prop := ∀ p ∈ s.gs, seqOf p.1 st = some p.2
theorem Src.ok_iff {s : Src} {st : Sto} (h : s.ok st = true) : Stand s st := fun p hp => sameSeq_eq (List.all_eq_true.mp h p hp)

def RBs (W : Wd) (g : G) (H : Hp) : List Vl → List V → Prop
  | [], vs => vs = []
  | x :: xs, vs => ∃ v r, vs = v :: r ∧ RB W g H x v ∧ RBs W g H xs r
theorem Rs.rbs {W : Wd} {g : G} {H : Hp} : ∀ {xs : List Vl} {vs : List V}, Rs W g H xs vs → RBs W g H xs vs
  | [], _, h => h
  | x :: xs, _, h => by
    obtain ⟨v, r, e, h1, h2⟩ := h
    exact ⟨v, r, e, .inl h1, Rs.rbs h2⟩
theorem RBs.ee {W : Wd} {g g' : G} {H H' : Hp} {st : Sto} (rel : Rel W g st H) (x : EE g H g' H') : ∀ {xs : List Vl} {vs : List V}, RBs W g H xs vs → RBs W g' H' xs vs
  | [], _, h => h
  | y :: ys, _, h => by
    obtain ⟨v, r, e, h1, h2⟩ := h
    exact ⟨v, r, e, h1.ee rel x, RBs.ee rel x h2⟩
structure Walk (W : Wd) (J : It) (s : Src) (us : List V) : Prop where
  len : s.items.length ≤ sizeLine
  go : ∀ (i : Nat) (g : G) (st : Sto) (H : Hp), Rel W g st H → RBs W g H (s.gs.map (·.1)) us → Stand s st → i < s.items.length → J.go i H
  stop : ∀ (g : G) (st : Sto) (H : Hp), Rel W g st H → RBs W g H (s.gs.map (·.1)) us → Stand s st → J.stop s.items.length H
  yld : ∀ (i : Nat) (g : G) (st : Sto) (H : Hp) (x : V) (H' : Hp), Rel W g st H → RBs W g H (s.gs.map (·.1)) us → Stand s st → J.yld i H x H' →
    EE g H g H' ∧ Rel W g st H' ∧ ∀ y, s.items[i]? = some y → R W g H' y x
abbrev FS := Ev → Sto → Res Src
def tIb (W : Wd) (E : XK) (f : FS) : TI := fun σ H Rw => ∃ g st env, Rel W g st H ∧ RS W g H env σ ∧ Out W E g H (f env st) (fun s g' st' H' => ∀ J us, RBs W g' H' (s.gs.map (·.1)) us → Stand s st' → Walk W J s us → Rw J H')
def tIe (W : Wd) (E : XK) (f : FS) : TI := fun σ H Rw => ∃ g st env, Rel W g st H ∧ RS W g H env σ ∧ Out W E g H (f env st) (fun s g' st' H' => ∀ J us, Rs W g' H' (s.gs.map (·.1)) us → Stand s st' → Walk W J s us → Rw J H')
/-- a source for a comprehension, for a loop -/
abbrev SIb (X : Cx) (W : Wd) (E : XK) (tg e : Expr) (f : FS) : Prop := PI X tg e (tIb W E f)
abbrev SIe (X : Cx) (W : Wd) (E : XK) (tg e : Expr) (f : FS) : Prop := PI X tg e (tIe W E f)
theorem pi_weak {X : Cx} {tg e : Expr} {t t' : TI} (h : PI X tg e t) (i : ∀ σ H Q, t' σ H Q → t σ H Q) : PI X tg e t' := ⟨fun pins s σ H Q I hw => h.run pins s σ H Q I (i σ H Q hw)⟩
theorem pi_or {X : Cx} {tg e : Expr} {t u : TI} (h : PI X tg e t) (h' : PI X tg e u) : PI X tg e (fun σ H Q => t σ H Q ∨ u σ H Q) := ⟨fun pins s σ H Q I hw => hw.elim (h.run pins s σ H Q I) (h'.run pins s σ H Q I)⟩
section
variable {X : Cx} {W : Wd} {E : XK} {pos : Pos}
def wSeq (a : FE) : FS := fun env st => (a env st).bind fun x st => match seqOf x st with
  | some xs => .ok ⟨xs, [(x, xs)]⟩ st
  | none => .bad
theorem walk_seq {x : Vl} {xs : List Vl} {u : V} {g0 : G} {st0 : Sto} {H0 : Hp} (rel0 : Rel W g0 st0 H0) (r0 : RB W g0 H0 x u) (e0 : seqOf x st0 = some xs) :
    ∃ a, u = .ref a ∧ ((Walk W (Itl X.K a) ⟨xs, [(x, xs)]⟩ [u] ∧ ∃ vs, SqL X.K H0 a vs) ∨ (Walk W (Itt X.K a) ⟨xs, [(x, xs)]⟩ [u] ∧ ∃ vs, SqT X.K H0 a vs)) := by
  obtain ⟨a, vs, e1, r, l, hs⟩ := seq_rd2 (K := X.K) rel0 r0 e0
  refine ⟨a, e1, ?_⟩
  have sing : ∀ {g : G} {H : Hp}, RBs W g H ([(x, xs)].map (·.1)) [u] → RB W g H x u := fun {g H} h => by
    obtain ⟨v, rr, e, h1, _⟩ := h
    cases e; exact h1
  rcases hs with ⟨ht, _, h⟩ | ⟨hn, h⟩
  · refine .inr ⟨⟨by show xs.length ≤ _; rw [r.length]; exact l, fun i g st H rel rb sd hi => ?_, fun g st H rel rb sd => ?_, fun i g st H v H' rel rb sd hy => ?_⟩, vs, SqT.of h⟩
    all_goals
      obtain ⟨a', vs', e2, r', l', hs'⟩ := seq_rd2 (K := X.K) rel (sing rb) (sd (x, xs) (by simp))
      have ea : a' = a := by rw [e1] at e2; cases e2; rfl
      subst ea
      have h' : H a' = some (.tup vs') := by
        rcases hs' with ⟨_, _, z⟩ | ⟨z, _⟩
        · exact z
        · exact absurd ht (z xs)
    · have hi' : i < xs.length := hi
      have hv : i < vs'.length := by rw [← r'.length]; exact hi'
      exact ⟨vs', vs'[i], SqT.of h', by simp [hv]⟩
    · exact ⟨vs', SqT.of h', by show _ ≤ xs.length; rw [r'.length]; exact Nat.le_refl _⟩
    · obtain ⟨e3, hy⟩ := hy
      subst e3
      refine ⟨EE.refl, rel, fun y hy' => ?_⟩
      obtain ⟨w, e4, rw'⟩ := r'.get hy'
      have e5 := hy vs' (SqT.of h')
      rw [e4] at e5; cases e5; exact rw'
  · refine .inl ⟨⟨by show xs.length ≤ _; rw [r.length]; exact l, fun i g st H rel rb sd hi => ?_, fun g st H rel rb sd => ?_, fun i g st H v H' rel rb sd hy => ?_⟩, vs, h⟩
    all_goals
      obtain ⟨a', vs', e2, r', l', hs'⟩ := seq_rd2 (K := X.K) rel (sing rb) (sd (x, xs) (by simp))
      have ea : a' = a := by rw [e1] at e2; cases e2; rfl
      subst ea
      have h' : SqL X.K H a' vs' := by
        rcases hs' with ⟨z, _⟩ | ⟨_, z⟩
        · exact absurd z (hn xs)
        · exact z
    · have hi' : i < xs.length := hi
      have hv : i < vs'.length := by rw [← r'.length]; exact hi'
      exact ⟨vs', vs'[i], h', by simp [hv]⟩
    · exact ⟨vs', h', by show _ ≤ xs.length; rw [r'.length]; exact Nat.le_refl _⟩
    · obtain ⟨e3, hy⟩ := hy
      subst e3
      refine ⟨EE.refl, rel, fun y hy' => ?_⟩
      obtain ⟨w, e4, rw'⟩ := r'.get hy'
      have e5 := hy vs' h'
      rw [e4] at e5; cases e5; exact rw'
def iSeq (K : PySem.W.Frag) (tl : TE) : TI := fun σ H Rw => tl σ H fun x H1 => ∃ a, x = .ref a ∧ (((∃ xs, SqL K H1 a xs) ∧ Rw (Itl K a) H1) ∨ ((∃ xs, SqT K H1 a xs) ∧ Rw (Itt K a) H1))
theorem pi_seq {tg l : Expr} {tl : TE} (hl : PE X l tl) : PI X tg l (iSeq X.K tl) := by
  constructor
  intro pins s σ H Rw I h
  refine thn (hl.run pins s σ H _ I h) ?_
  rintro v s1 ⟨x, H1, I1, r1, a, rfl, q⟩
  have ev : v = Value.ref a := r1
  subst ev
  have fp : ∀ b ∈ [s1.heap.objs.size], FpOk X pins H1 b := by
    intro b hb
    rw [List.mem_singleton.mp hb]
    exact I1.fpOk (Nat.le_refl _) (I1.hok.fresh (Nat.le_refl _))
  have kp : ∀ (o : Obj) (b : Addr) (u : Obj), s1.heap.get? b = some u → (s1.heap.push o).get? b = some u := fun o b u e => Heap.get?_push_of_some _ e
  rcases q with ⟨⟨xs, hq⟩, q⟩ | ⟨⟨xs, hq⟩, q⟩
  · obtain ⟨its, _, p, _⟩ := I1.list hq
    exact wpAny_pyIter_list p.isList ⟨_, _, _, _, H1, rfl, I1.kept (t' := s1.toks) (kp _), turn_list a _, ⟨_, Heap.get?_push_size _ rfl, rfl, rfl⟩, fp, q⟩
  · obtain ⟨its, _, p, _⟩ := I1.tuple hq
    exact wpAny_pyIter_tuple (show s1.heap.IsTuple a its.toArray from p) ⟨_, _, _, _, H1, rfl, I1.kept (t' := s1.toks) (kp _), turn_tuple a _, ⟨_, Heap.get?_push_size _ rfl, rfl, rfl⟩, fp, q⟩
theorem sib_seq {tg e : Expr} {f : FE} (h : SB X W E e f) : SIb X W E tg e (wSeq f) := by
  refine pi_weak (pi_seq h) ?_
  rintro σ H Rw ⟨g, st, env, rel, rs, o⟩
  refine tB_bind rel rs o fun v st1 g1 H1 u e1 ee1 rel1 r1 o1 => ?_
  cases e2 : seqOf v st1 with
  | none => rw [e2] at o1; exact o1.elim
  | some xs =>
    rw [e2] at o1
    have q := o1.here rel1
    obtain ⟨a, ea, hw⟩ := walk_seq (X := X) rel1 r1 e2
    refine ⟨a, ea, ?_⟩
    have rb : RBs W g1 H1 ([(v, xs)].map (·.1)) [u] := ⟨u, [], rfl, r1, rfl⟩
    have sd : Stand ⟨xs, [(v, xs)]⟩ st1 := fun p hp => by
      rw [List.mem_singleton.mp hp]; exact e2
    rcases hw with ⟨w, hs⟩ | ⟨w, hs⟩
    · exact .inl ⟨hs, q _ _ rb sd w⟩
    · exact .inr ⟨hs, q _ _ rb sd w⟩
theorem sie_seq {tg e : Expr} {f : FE} (h : SE X W E e f) : SIe X W E tg e (wSeq f) := by
  refine pi_weak (pi_seq h) ?_
  rintro σ H Rw ⟨g, st, env, rel, rs, o⟩
  refine tE_bind rel rs o fun v st1 g1 H1 u e1 ee1 rel1 r1 o1 => ?_
  cases e2 : seqOf v st1 with
  | none => rw [e2] at o1; exact o1.elim
  | some xs =>
    rw [e2] at o1
    have q := o1.here rel1
    obtain ⟨a, ea, hw⟩ := walk_seq (X := X) rel1 (.inl r1) e2
    refine ⟨a, ea, ?_⟩
    have rb : Rs W g1 H1 ([(v, xs)].map (·.1)) [u] := ⟨u, [], rfl, r1, rfl⟩
    have sd : Stand ⟨xs, [(v, xs)]⟩ st1 := fun p hp => by
      rw [List.mem_singleton.mp hp]; exact e2
    rcases hw with ⟨w, hs⟩ | ⟨w, hs⟩
    · exact .inl ⟨hs, q _ _ rb sd w⟩
    · exact .inr ⟨hs, q _ _ rb sd w⟩
def rngL (lo : Int) (n : Nat) : List Vl := (List.range n).map fun i => .int (lo + (i : Nat))
theorem rngL_get {lo : Int} {n i : Nat} {y : Vl} (h : (rngL lo n)[i]? = some y) : y = .int (lo + (i : Nat)) := by
  unfold rngL at h
  rw [List.getElem?_map] at h
  cases q : (List.range n)[i]? with
  | none => rw [q] at h; cases h
  | some k =>
    rw [q] at h
    obtain ⟨h1, h2⟩ := List.getElem?_eq_some_iff.mp q
    rw [List.getElem_range] at h2
    subst h2
    exact (Option.some.inj h).symm
theorem walk_rng {lo : Int} {n : Nat} (h : n ≤ sizeLine) : Walk W (Itr lo n) ⟨rngL lo n, []⟩ [] := by
  have l : (rngL lo n).length = n := by unfold rngL; simp
  refine ⟨by rw [l]; exact h, fun i g st H rel _ _ hi => ?_, fun g st H rel _ _ => ?_, fun i g st H x H' rel _ _ hy => ?_⟩
  · rw [l] at hi; exact hi
  · rw [l]; exact Nat.le_refl _
  · obtain ⟨e1, e2⟩ := hy
    subst e1 e2
    refine ⟨EE.refl, rel, fun y hy => ?_⟩
    rw [rngL_get hy]
    rfl
def okR (i : Int) : Bool := decide (-(2 ^ 62) ≤ i) && decide (i < 2 ^ 62)
def wRng1 (a : FE) : FS := fun env st => (a env st).bind fun x st => match x with
  | .int j => if okR j = true ∧ j.toNat ≤ sizeLine then .ok ⟨rngL 0 j.toNat, []⟩ st else .bad
  | _ => .bad
def wRng2 (a b : FE) : FS := fun env st => (a env st).bind fun x st => (b env st).bind fun y st => match x, y with
  | .int i, .int j => if okR i = true ∧ okR j = true ∧ (j - i).toNat ≤ sizeLine then .ok ⟨rngL i (j - i).toNat, []⟩ st else .bad
  | _, _ => .bad
theorem okR_ok {i : Int} (h : okR i = true) : -(2 ^ 62) ≤ i ∧ i < 2 ^ 62 := by
  simp only [okR, Bool.and_eq_true, decide_eq_true_eq] at h; exact h
theorem rng1_t {a : Expr} {fa : FE} {p : Pos} {tg : Expr} (ha : SB X W E a fa) (hg : Gl X "range") (hm : X.mg "range" = none) (hn : notStar a = true) : PI X tg (.Call (.Name "range" p) [a] [] pos) (iRng1 (tCons (tB W E fa) tNil)) :=
  pi_range1 hg hm (pa_cons ha pa_nil (notStar_ok hn)) (by rw [notStar_ok hn]; rfl)
theorem sib_rng1 {a : Expr} {fa : FE} {p : Pos} {tg : Expr} (ha : SB X W E a fa) (hg : Gl X "range") (hm : X.mg "range" = none) (hn : notStar a = true) : SIb X W E tg (.Call (.Name "range" p) [a] [] pos) (wRng1 fa) := by
  refine pi_weak (rng1_t ha hg hm hn) ?_
  rintro σ H Rw ⟨g, st, env, rel, rs, o⟩
  refine tB_bind rel rs o fun v st1 g1 H1 u e1 ee1 rel1 r1 o1 => ?_
  cases v with
  | int j =>
    dsimp only at o1
    split at o1
    · rename_i h
      exact ⟨j, by rw [rb_int r1], (okR_ok h.1).1, (okR_ok h.1).2, o1.here rel1 _ [] rfl (fun p hp => by cases hp) (walk_rng h.2)⟩
    · exact o1.elim
  | _ => exact o1.elim
theorem sie_rng1 {a : Expr} {fa : FE} {p : Pos} {tg : Expr} (ha : SB X W E a fa) (hg : Gl X "range") (hm : X.mg "range" = none) (hn : notStar a = true) : SIe X W E tg (.Call (.Name "range" p) [a] [] pos) (wRng1 fa) := by
  refine pi_weak (rng1_t ha hg hm hn) ?_
  rintro σ H Rw ⟨g, st, env, rel, rs, o⟩
  refine tB_bind rel rs o fun v st1 g1 H1 u e1 ee1 rel1 r1 o1 => ?_
  cases v with
  | int j =>
    dsimp only at o1
    split at o1
    · rename_i h
      exact ⟨j, by rw [rb_int r1], (okR_ok h.1).1, (okR_ok h.1).2, o1.here rel1 _ [] rfl (fun p hp => by cases hp) (walk_rng h.2)⟩
    · exact o1.elim
  | _ => exact o1.elim
theorem rng2_t {a b : Expr} {fa fb : FE} {p : Pos} {tg : Expr} (ha : SB X W E a fa) (hb : SB X W E b fb) (hg : Gl X "range") (hm : X.mg "range" = none) (hn : notStar a = true) (hn2 : notStar b = true) :
    PI X tg (.Call (.Name "range" p) [a, b] [] pos) (iRng2 (tCons (tB W E fa) (tCons (tB W E fb) tNil))) :=
  pi_range2 hg hm (pa_cons ha (pa_cons hb pa_nil (notStar_ok hn2)) (notStar_ok hn)) (by rw [notStar_ok hn, notStar_ok hn2]; rfl) (by rw [notStar_ok hn2]; rfl)
theorem sib_rng2 {a b : Expr} {fa fb : FE} {p : Pos} {tg : Expr} (ha : SB X W E a fa) (hb : SB X W E b fb) (hg : Gl X "range") (hm : X.mg "range" = none) (hn : notStar a = true) (hn2 : notStar b = true) : SIb X W E tg (.Call (.Name "range" p) [a, b] [] pos) (wRng2 fa fb) := by
  refine pi_weak (rng2_t ha hb hg hm hn hn2) ?_
  rintro σ H Rw ⟨g, st, env, rel, rs, o⟩
  refine tB_bind rel rs o fun v st1 g1 H1 u e1 ee1 rel1 r1 o1 => ?_
  refine tB_bind rel1 (rs.ee rel ee1) o1 fun y st2 g2 H2 w e2 ee2 rel2 r2 o2 => ?_
  split at o2
  · split at o2
    · rename_i i j h
      exact ⟨i, j, by rw [rb_int (r1.ee rel1 ee2), rb_int r2], ⟨(okR_ok h.1).1, (okR_ok h.1).2, (okR_ok h.2.1).1, (okR_ok h.2.1).2⟩, o2.here rel2 _ [] rfl (fun p hp => by cases hp) (walk_rng h.2.2)⟩
    · exact o2.elim
  · exact o2.elim
theorem sie_rng2 {a b : Expr} {fa fb : FE} {p : Pos} {tg : Expr} (ha : SB X W E a fa) (hb : SB X W E b fb) (hg : Gl X "range") (hm : X.mg "range" = none) (hn : notStar a = true) (hn2 : notStar b = true) : SIe X W E tg (.Call (.Name "range" p) [a, b] [] pos) (wRng2 fa fb) := by
  refine pi_weak (rng2_t ha hb hg hm hn hn2) ?_
  rintro σ H Rw ⟨g, st, env, rel, rs, o⟩
  refine tB_bind rel rs o fun v st1 g1 H1 u e1 ee1 rel1 r1 o1 => ?_
  refine tB_bind rel1 (rs.ee rel ee1) o1 fun y st2 g2 H2 w e2 ee2 rel2 r2 o2 => ?_
  split at o2
  · split at o2
    · rename_i i j h
      exact ⟨i, j, by rw [rb_int (r1.ee rel1 ee2), rb_int r2], ⟨(okR_ok h.1).1, (okR_ok h.1).2, (okR_ok h.2.1).1, (okR_ok h.2.1).2⟩, o2.here rel2 _ [] rfl (fun p hp => by cases hp) (walk_rng h.2.2)⟩
    · exact o2.elim
  · exact o2.elim
end
end TW
set_option maxHeartbeats 800000
namespace TW
open PySem PySem.Spec L2
def Agree (is : List Nat) (σ σ' : St) : Prop := σ'.length = σ.length ∧ ∀ j, j ∉ is → σ'[j]? = σ[j]?
theorem wipe_agree {σ σ' : St} {is : List Nat} (h : Agree is σ σ') : ∀ {vs : List Nat}, (∀ i ∈ is, i ∈ vs) → wipe σ' vs = wipe σ vs := by
  intro vs hs
  apply List.ext_getElem?
  intro j
  have key : ∀ (τ : St) (vs : List Nat), (wipe τ vs)[j]? = if j ∈ vs then (if j < τ.length then some none else none) else τ[j]? := by
    intro τ vs
    induction vs with
    | nil => simp [wipe]
    | cons v vs ih =>
      unfold wipe
      by_cases e : v = j
      · subst e
        by_cases hl : v < τ.length
        · rw [List.getElem?_set_self (by rw [wipe_length]; exact hl)]
          simp [hl]
        · rw [List.getElem?_eq_none (by rw [List.length_set, wipe_length]; omega)]
          simp [hl]
      · rw [List.getElem?_set_ne e, ih]
        have e' : ¬ j = v := fun z => e z.symm
        simp [e']
  rw [key, key, h.1]
  by_cases hj : j ∈ vs
  · simp [hj]
  · rw [if_neg hj, if_neg hj]
    exact h.2 j fun z => hj (hs j z)
def tG (W : Wd) (is : List Nat) (f : Vl → Ev → Option Ev) : TG := fun v σ H Q => ∃ g st env x env', Rel W g st H ∧ RS W g H env σ ∧ R W g H x v ∧ f x env = some env' ∧ ∀ σ', RS W g H env' σ' → Agree is σ σ' → Q σ' H
abbrev SG (X : Cx) (W : Wd) (is : List Nat) (tg : Expr) (f : Vl → Ev → Option Ev) : Prop := PG X tg (tG W is f)
theorem pg_weak {X : Cx} {tg : Expr} {t t' : TG} (h : PG X tg t) (i : ∀ v σ H Q, t' v σ H Q → t v σ H Q) : PG X tg t' := ⟨fun pins s σ H v u Q I r hw => h.run pins s σ H v u Q I r (i v σ H Q hw)⟩
structure NmOk (X : Cx) (x : Str) (i : Nat) : Prop where
  hN : X.N[i]? = some x
  hx : Loc X.env.scope x
  hf : X.fn x = true ∨ X.env.scope.names.lookup x = some .local
def gN (i : Nat) (x : Vl) (env : Ev) : Option Ev := some (env.set i (some (.val x)))
theorem sg_name {X : Cx} {W : Wd} {x : Str} {i : Nat} {pos : Pos} (nd : X.N.Nodup) (h : NmOk X x i) : SG X W [i] (.Name x pos) (gN i) := by
  refine pg_weak (pg_name nd h.hN h.hx h.hf) ?_
  rintro v σ H Q ⟨g, st, env, y, env', rel, rs, r, e, q⟩
  cases e
  refine q _ (rs.set r) ⟨by simp, fun j hj => ?_⟩
  exact List.getElem?_set_ne fun z => hj (by simp [z])
inductive NmsOk (X : Cx) : List Expr → List Nat → Prop
  | nil : NmsOk X [] []
  | cons {x : Str} {i : Nat} {pos : Pos} {es : List Expr} {is : List Nat} : NmOk X x i → NmsOk X es is → NmsOk X (.Name x pos :: es) (i :: is)
def gnR : List Nat → TGs
  | [] => gNil
  | i :: is => gCons (gName i) (gnR is)
theorem pgs_names {X : Cx} (nd : X.N.Nodup) : ∀ {es : List Expr} {is : List Nat}, NmsOk X es is → PGs X es (gnR is)
  | _, _, .nil => pgs_nil
  | _, _, .cons h t => pgs_cons (pg_name nd h.hN h.hx h.hf) (pgs_names nd t)
theorem nms_len {X : Cx} {env : Env} : ∀ {es : List Expr} {is : List Nat}, NmsOk X es is → (assignEach es env).length = is.length ∧ (assignEach es env).findIdx? (·.1) = none
  | _, _, .nil => ⟨rfl, rfl⟩
  | _, _, .cons h t => by
    have ih := nms_len (env := env) t
    refine ⟨?_, ?_⟩
    · show (assignEach _ env).length + 1 = _ + 1
      rw [ih.1]
    · rename_i x i pos es is
      show List.findIdx? (·.1) ((false, assign (.Name x pos) env) :: assignEach es env) = none
      rw [List.findIdx?_cons, ih.2]
      rfl
def setN : List Nat → List Vl → Ev → Ev
  | i :: is, x :: xs, env => setN is xs (env.set i (some (.val x)))
  | _, _, env => env
def gT (is : List Nat) (x : Vl) (env : Ev) : Option Ev := match x with
  | .tup xs => if xs.length = is.length then some (setN is xs env) else none
  | _ => none
theorem gnR_ok {W : Wd} {g : G} {H : Hp} {Q : St → Hp → Prop} : ∀ {is : List Nat} {xs : List Vl} {vs : List V} {env : Ev} {σ : St}, RS W g H env σ → Rs W g H xs vs → xs.length = is.length →
    (∀ σ', RS W g H (setN is xs env) σ' → Agree is σ σ' → Q σ' H) → gnR is vs σ H Q
  | [], [], vs, env, σ, rs, r, _, q => ⟨r, q σ rs ⟨rfl, fun _ _ => rfl⟩⟩
  | i :: is, x :: xs, vs, env, σ, rs, r, hl, q => by
    obtain ⟨v, vr, rfl, h1, h2⟩ := r
    refine ⟨v, vr, rfl, ?_⟩
    show gnR is vr (σ.set i (some v)) H Q
    refine gnR_ok (rs.set h1) h2 (by simpa using hl) fun σ' rs' ag => q σ' rs' ⟨by rw [ag.1]; simp, fun j hj => ?_⟩
    rw [ag.2 j fun z => hj (List.mem_cons_of_mem _ z)]
    exact List.getElem?_set_ne fun z => hj (by simp [z])
  | [], _ :: _, _, _, _, _, _, hl, _ => by simp at hl
  | _ :: _, [], _, _, _, _, _, hl, _ => by simp at hl
theorem sg_tup {X : Cx} {W : Wd} {es : List Expr} {is : List Nat} {k : Nat} {pos : Pos} (hc : X.calm = true) (nd : X.N.Nodup) (h : NmsOk X es is) : SG X W is (.Tuple es k pos) (gT is) := by
  refine pg_weak (pg_tup hc (pgs_names nd h) (nms_len h).1 (nms_len h).2) ?_
  rintro v σ H Q ⟨g, st, env, y, env', rel, rs, r, e, q⟩
  cases y with
  | tup xs =>
    unfold gT at e
    dsimp only at e
    split at e
    · rename_i hl
      cases e
      obtain ⟨a, vs, e3, _, e4, r'⟩ := r
      exact ⟨a, vs, e3, SqT.of e4, by rw [← r'.length, hl], gnR_ok rs r' hl q⟩
    · cases e
  | _ => cases e
def wipeE (env : Ev) : List Nat → Ev
  | [] => env
  | v :: vs => (wipeE env vs).set v none
def noX {α : Type} (r : Res α) : Res α := match r with
  | .ok a s => .ok a s
  | _ => .bad
def compF (set : Vl → Ev → Option Ev) (tt : FT) (te : FE) (sk : Src) : List Vl → Ev → Sto → Res (List Vl)
  | [], _, st => .ok [] st
  | x :: xs, env, st => match set x env with
    | none => .bad
    | some env2 => (noX (tt env2 st)).bind fun b st => if b = true then (noX (te env2 st)).bind fun y st => if sk.ok st = true then (compF set tt te sk xs env st).bind fun ys st => .ok (y :: ys) st else .bad
      else if sk.ok st = true then compF set tt te sk xs env st else .bad
def lComp (src : FS) (set : Vl → Ev → Option Ev) (tt : FT) (te : FE) (vs : List Nat) : FA := fun env st => (src env st).bind fun s st => compF set tt te s s.items (wipeE env vs) st
section
variable {W : Wd} {g g' g1 : G} {H H' H1 : Hp} {st st' st1 : Sto} {env : Ev} {σ : St} {E : XK}
theorem set_none_ok (rs : RS W g H env σ) (v : Nat) : RS W g H (env.set v none) (σ.set v none) := by
  have get : ∀ j s, (env.set v none)[j]? = some (some s) → v ≠ j ∧ env[j]? = some (some s) := fun j s e => by
    have ne : v ≠ j := fun z => by
      subst z
      have hl : v < env.length := by
        have := (List.getElem?_eq_some_iff.mp e).1
        simpa using this
      rw [List.getElem?_set_self hl] at e; cases e
    rw [List.getElem?_set_ne ne] at e
    exact ⟨ne, e⟩
  refine ⟨by simp [rs.len], fun j s e => ?_, fun j k o o' a e1 e2 e3 e4 => ?_⟩
  · obtain ⟨ne, e'⟩ := get j s e
    rw [List.getElem?_set_ne ne]
    exact rs.at_ j s e'
  · obtain ⟨n1, e1'⟩ := get j _ e1
    obtain ⟨n2, e2'⟩ := get k _ e2
    rw [List.getElem?_set_ne n1] at e3
    rw [List.getElem?_set_ne n2] at e4
    exact rs.uni j k o o' a e1' e2' e3 e4
theorem RS.wipe (rs : RS W g H env σ) : ∀ vs : List Nat, RS W g H (wipeE env vs) (L2.wipe σ vs)
  | [] => rs
  | v :: vs => set_none_ok (RS.wipe rs vs) v
/-- what stood ahead of D stands with D held -/
theorem Mo.hold_of {D : Addr} (ee : EE g H g' H') (hD : H D = none) : Mo g H (g'.hold D) H' := by
  have m := ee.mo
  refine ⟨fun a i t => ⟨(m.imm a i t).r, fun z => ?_, (m.imm a i t).o⟩, m.at_, m.nth⟩
  have z' : a ∈ D :: g'.base := z
  rcases List.mem_cons.mp z' with z | z
  · exact t (z ▸ hD)
  · exact (m.imm a i t).b z
theorem own_keep (rel : Rel W g st H) (ee : EE g H g' H') {a : Addr} (ha : a ∈ g.own) {o : Ob} (q : RO W g H o (H a)) {g2 : G} (mo : Mo g H g2 H') : RO W g2 H' o (H' a) := by
  obtain ⟨w, hw⟩ := q.some
  have k : H' a = H a := by rw [hw]; exact ee.keep a w hw (rel.prot a (.inr ha)).2
  rw [k]; exact q.mo mo
theorem RS.hold (rs : RS W g H env σ) (rel : Rel W g st H) {D : Addr} (ee : EE g H g' H') (hD : H D = none) : RS W (g'.hold D) H' env σ := by
  have m := Mo.hold_of ee hD
  refine ⟨rs.len, fun i s e => ?_, rs.uni⟩
  obtain ⟨u, e1, h⟩ := rs.at_ i s e
  refine ⟨u, e1, ?_⟩
  cases s with
  | val v => exact R.mo m h
  | own o =>
    obtain ⟨a, e2, ha, q⟩ := h
    exact ⟨a, e2, by show a ∈ g'.own; rw [ee.own]; exact ha, own_keep rel ee ha q m⟩
theorem RB.hold {v : Vl} {u : V} (h : RB W g H v u) (rel : Rel W g st H) {D : Addr} (ee : EE g H g' H') (hD : H D = none) : RB W (g'.hold D) H' v u := by
  have m := Mo.hold_of ee hD
  rcases h with h | ⟨a, e, ha, q⟩
  · exact .inl (h.mo m)
  · refine .inr ⟨a, e, by show a ∈ g'.own; rw [ee.own]; exact ha, ?_⟩
    cases v with
    | lst xs => exact own_keep rel ee ha q m
    | dct ks xs => exact own_keep rel ee ha q m
    | _ => exact q.elim
theorem RBs.hold (rel : Rel W g st H) {D : Addr} (ee : EE g H g' H') (hD : H D = none) : ∀ {xs : List Vl} {us : List V}, RBs W g H xs us → RBs W (g'.hold D) H' xs us
  | [], _, h => h
  | x :: xs, _, h => by
    obtain ⟨v, r, e, h1, h2⟩ := h
    exact ⟨v, r, e, h1.hold rel ee hD, RBs.hold rel ee hD h2⟩
theorem G.unhold {D : Addr} {b : List Addr} (h : g'.base = D :: b) : ∃ g2 : G, g' = g2.hold D ∧ g2.base = b ∧ g2.rho = g'.rho ∧ g2.own = g'.own := by
  obtain ⟨r, bb, o⟩ := g'
  subst h
  exact ⟨⟨r, b, o⟩, rfl, rfl, rfl, rfl⟩
theorem EE.unhold {D : Addr} (ee : EE (g.hold D) H (g'.hold D) H') : EE g H g' H' :=
  ⟨ee.pre, List.tail_eq_of_cons_eq ee.base, ee.own, ee.keep, ee.fresh, ee.there, ee.oi⟩
/-- the held list grows -/
theorem Rel.putHeld {D : Addr} {vs : List V} (rel : Rel W (g.hold D) st H) (hb : D ∉ g.base) (l : vs.length ≤ sizeLine) : Rel W (g.hold D) st (upd H D (.lst vs)) ∧ Mo (g.hold D) H (g.hold D) (upd H D (.lst vs)) := by
  have pD := rel.prot D (.inl List.mem_cons_self)
  have m : Mo (g.hold D) H (g.hold D) (upd H D (.lst vs)) := by
    refine ⟨fun a i _ => i, fun a o i e => ?_, fun _ _ e => e⟩
    have ne : a ≠ D := fun z => i.b (by rw [z]; exact List.mem_cons_self)
    rw [upd_ne ne]; exact e
  refine ⟨⟨rel.len, rel.nd, fun n a o e1 e2 => ?_, fun a h => ⟨fun z => ?_, (rel.prot a h).2⟩, rel.disj, sz_new l rel.sz⟩, m⟩
  · have ne : a ≠ D := fun z => pD.2 (z ▸ List.mem_iff_getElem?.mpr ⟨n, e1⟩)
    rw [upd_ne ne]
    exact (rel.cell n a o e1 e2).mo m
  · by_cases e : a = D
    · subst e; rw [upd_same] at z; cases z
    · rw [upd_ne e] at z; exact (rel.prot a h).1 z
theorem Out.ofNoX {α : Type} {r : Res α} {P Q : α → G → Sto → Hp → Prop} {β : Type} {k : α → Sto → Res β} {R2 : β → G → Sto → Hp → Prop} {g0 : G} {H0 : Hp} (o : Out W E g0 H0 ((noX r).bind k) R2)
    (h : ∀ v st', r = .ok v st' → Out W E g0 H0 (k v st') R2 → ∀ g' H', EE g H g' H' → Rel W g' st' H' → Q v g' st' H') {E' : XK} : Out W E' g H r Q := by
  cases r with
  | ok v s => exact fun g' H' ee rel => h v s rfl o g' H' ee rel
  | exc c fs s => exact o.elim
  | bad => exact o.elim
/-- behind some turns: D alone was changed -/
structure EX (D : Addr) (g : G) (H : Hp) (g' : G) (H' : Hp) : Prop where
  pre : ∃ m, g'.rho = g.rho ++ m
  base : g'.base = g.base
  own : g'.own = g.own
  keep : ∀ a o, a ≠ D → H a = some o → a ∉ g.rho → H' a = some o
  fresh : ∀ a, a ∈ g'.rho → a ∈ g.rho ∨ H a = none
  there : ∀ a, H' a = none → H a = none
  oi : ∀ a, a ∈ g.own → a ≠ D → Ins (H' a) → Ins (H a) ∨ H a = none
theorem EX.refl {D : Addr} : EX D g H g H := ⟨⟨[], by simp⟩, rfl, rfl, fun _ _ _ e _ => e, fun _ h => .inl h, fun _ h => h, fun _ _ _ i => .inl i⟩
theorem EX.step {D : Addr} {g2 : G} {H2 : Hp} (x : EX D g H g' H') (y : EE g' H' g2 H2) : EX D g H g2 H2 where
  pre := by
    obtain ⟨m, e⟩ := x.pre
    obtain ⟨m2, e2⟩ := y.pre
    exact ⟨m ++ m2, by rw [e2, e, List.append_assoc]⟩
  base := y.base.trans x.base
  own := y.own.trans x.own
  keep := fun a o ne e n => y.keep a o (x.keep a o ne e n) fun h => (x.fresh a h).elim n fun z => by rw [e] at z; cases z
  fresh := fun a h => (y.fresh a h).elim (x.fresh a) fun z => .inr (x.there a z)
  there := fun a h => x.there a (y.there a h)
  oi := fun a h n i => (y.oi a (x.own ▸ h) i).elim (x.oi a h n) fun z => .inr (x.there a z)
theorem EX.trans {D : Addr} {g2 : G} {H2 : Hp} (x : EX D g H g' H') (y : EX D g' H' g2 H2) : EX D g H g2 H2 where
  pre := by
    obtain ⟨m1, e1⟩ := x.pre
    obtain ⟨m2, e2⟩ := y.pre
    exact ⟨m1 ++ m2, by rw [e2, e1, List.append_assoc]⟩
  base := y.base.trans x.base
  own := y.own.trans x.own
  keep := fun a o ne e n => y.keep a o ne (x.keep a o ne e n) (fun h => by
    rcases x.fresh a h with z | z
    · exact n z
    · rw [e] at z; cases z)
  fresh := fun a h => by
    rcases y.fresh a h with z | z
    · exact x.fresh a z
    · exact .inr (x.there a z)
  there := fun a h => x.there a (y.there a h)
  oi := fun a h n i => (y.oi a (x.own ▸ h) n i).elim (x.oi a h n) fun z => .inr (x.there a z)
theorem EX.put {D : Addr} {o : HO} (x : EX D g H g' H') : EX D g H g' (upd H' D o) where
  pre := x.pre
  base := x.base
  own := x.own
  keep := fun a u ne e n => by rw [upd_ne ne]; exact x.keep a u ne e n
  fresh := x.fresh
  there := fun a h => by
    by_cases z : a = D
    · subst z; rw [upd_same] at h; cases h
    · rw [upd_ne z] at h; exact x.there a h
  oi := fun a h n i => by
    rw [upd_ne n] at i
    exact x.oi a h n i
theorem EX.ee {D : Addr} (x : EX D g H g' H') {H0 : Hp} {g0 : G} (ee : EE g0 H0 g H) (hD : H0 D = none) : EE g0 H0 g' H' where
  pre := by
    obtain ⟨m, e⟩ := ee.pre
    obtain ⟨m2, e2⟩ := x.pre
    exact ⟨m ++ m2, by rw [e2, e, List.append_assoc]⟩
  base := x.base.trans ee.base
  own := x.own.trans ee.own
  keep := fun a o e n => x.keep a o (ne_of_none e hD) (ee.keep a o e n) fun h => (ee.fresh a h).elim n fun z => by rw [e] at z; cases z
  fresh := fun a h => (x.fresh a h).elim (ee.fresh a) fun z => .inr (ee.there a z)
  there := fun a h => ee.there a (x.there a h)
  oi := fun a h i => by
    by_cases z : a = D
    · exact .inr (by rw [z]; exact hD)
    · exact (x.oi a (ee.own ▸ h) z i).elim (ee.oi a h) fun w => .inr (ee.there a w)
theorem EX.mo {D : Addr} (x : EX D g H g' H') : Mo (g.hold D) H (g'.hold D) H' := by
  refine ⟨fun a i t => ⟨fun h => (x.fresh a h).elim i.r t, fun h => i.b ?_, fun h => i.o (by show a ∈ g.own; rw [← x.own]; exact h)⟩, fun a o i e => x.keep a o (fun z => i.b (by rw [z]; exact List.mem_cons_self)) e i.r, fun n a e => ?_⟩
  · show a ∈ D :: g.base
    rw [← x.base]; exact h
  · obtain ⟨m, e2⟩ := x.pre
    show g'.rho[n]? = some a
    have e' : g.rho[n]? = some a := e
    rw [e2, List.getElem?_append_left (List.getElem?_eq_some_iff.mp e').1]
    exact e'
theorem EX.own_keep {D : Addr} (rel : Rel W (g.hold D) st H) (x : EX D g H g' H') {a : Addr} (ha : a ∈ g.own) {o : Ob} (q : RO W (g.hold D) H o (H a)) : RO W (g'.hold D) H' o (H' a) := by
  obtain ⟨w, hw⟩ := q.some
  have ne : a ≠ D := fun z => rel.disj D List.mem_cons_self (z ▸ ha)
  have k : H' a = H a := by rw [hw]; exact x.keep a w ne hw (rel.prot a (.inr ha)).2
  rw [k]; exact q.mo x.mo
theorem RS.ex {D : Addr} (rs : RS W (g.hold D) H env σ) (rel : Rel W (g.hold D) st H) (x : EX D g H g' H') : RS W (g'.hold D) H' env σ := by
  refine ⟨rs.len, fun i s e => ?_, rs.uni⟩
  obtain ⟨u, e1, h⟩ := rs.at_ i s e
  refine ⟨u, e1, ?_⟩
  cases s with
  | val v => exact R.mo x.mo h
  | own o =>
    obtain ⟨a, e2, ha, q⟩ := h
    exact ⟨a, e2, by show a ∈ g'.own; rw [x.own]; exact ha, x.own_keep rel ha q⟩
theorem RB.ex {D : Addr} {v : Vl} {u : V} (h : RB W (g.hold D) H v u) (rel : Rel W (g.hold D) st H) (x : EX D g H g' H') : RB W (g'.hold D) H' v u := by
  rcases h with h | ⟨a, e, ha, q⟩
  · exact .inl (h.mo x.mo)
  · refine .inr ⟨a, e, by show a ∈ g'.own; rw [x.own]; exact ha, ?_⟩
    cases v with
    | lst xs => exact x.own_keep rel ha q
    | dct ks xs => exact x.own_keep rel ha q
    | _ => exact q.elim
theorem RBs.ex {D : Addr} (rel : Rel W (g.hold D) st H) (x : EX D g H g' H') : ∀ {xs : List Vl} {us : List V}, RBs W (g.hold D) H xs us → RBs W (g'.hold D) H' xs us
  | [], _, h => h
  | y :: xs, _, h => by
    obtain ⟨v, r, e, h1, h2⟩ := h
    exact ⟨v, r, e, h1.ex rel x, RBs.ex rel x h2⟩
theorem compF_len {set : Vl → Ev → Option Ev} {tt : FT} {te : FE} {sk : Src} : ∀ {xs : List Vl} {env : Ev} {st st' : Sto} {ys : List Vl}, compF set tt te sk xs env st = .ok ys st' → ys.length ≤ xs.length
  | [], _, _, _, _, h => by cases h; exact Nat.le_refl _
  | x :: xs, env, st, st', ys, h => by
    unfold compF at h
    cases e : set x env with
    | none => rw [e] at h; cases h
    | some env2 =>
      rw [e] at h
      dsimp only at h
      cases et : noX (tt env2 st) with
      | exc c f s => rw [et] at h; cases h
      | bad => rw [et] at h; cases h
      | ok b s =>
        rw [et, Res.bind_ok] at h
        cases b with
        | false =>
          rw [if_neg (by decide)] at h
          split at h
          · exact Nat.le_succ_of_le (compF_len h)
          · cases h
        | true =>
          rw [if_pos rfl] at h
          cases ev : noX (te env2 s) with
          | exc c f s => rw [ev] at h; cases h
          | bad => rw [ev] at h; cases h
          | ok y s2 =>
            rw [ev, Res.bind_ok] at h
            split at h
            · cases ec : compF set tt te sk xs env s2 with
              | exc c f s => rw [ec] at h; cases h
              | bad => rw [ec] at h; cases h
              | ok zs s3 =>
                rw [ec, Res.bind_ok] at h
                cases h
                have := compF_len ec
                simp; omega
            · cases h
theorem noX_nox {α : Type} {r : Res α} {c : Nat} {f : List Vl} {s : Sto} : noX r ≠ .exc c f s := by
  cases r <;> exact fun h => by cases h
theorem compF_nox {set : Vl → Ev → Option Ev} {tt : FT} {te : FE} {sk : Src} : ∀ {xs : List Vl} {env : Ev} {st st' : Sto} {c : Nat} {f : List Vl}, compF set tt te sk xs env st ≠ .exc c f st'
  | [], _, _, _, _, _ => fun h => by cases h
  | x :: xs, env, st, st', c, f => fun h => by
    unfold compF at h
    cases e : set x env with
    | none => rw [e] at h; cases h
    | some env2 =>
      rw [e] at h
      dsimp only at h
      cases et : noX (tt env2 st) with
      | exc c f s => exact noX_nox et
      | bad => rw [et] at h; cases h
      | ok b s =>
        rw [et, Res.bind_ok] at h
        cases b with
        | false =>
          rw [if_neg (by decide)] at h
          split at h
          · exact compF_nox h
          · cases h
        | true =>
          rw [if_pos rfl] at h
          cases ev : noX (te env2 s) with
          | exc c f s => exact noX_nox ev
          | bad => rw [ev] at h; cases h
          | ok y s2 =>
            rw [ev, Res.bind_ok] at h
            split at h
            · cases ec : compF set tt te sk xs env s2 with
              | exc c f s => exact compF_nox ec
              | bad => rw [ec] at h; cases h
              | ok zs s3 => rw [ec] at h; cases h
            · cases h
/-- the loop of a clause: from acc0 in the list at D to acc0 and what the clause gives -/
theorem loop_t {J : It} {s : Src} {us : List V} {set : Vl → Ev → Option Ev} {tt : FT} {te : FE} {vs is : List Nat} {E1 : XK} {D : Addr} {acc0 : List Vl} {avs0 : List V} {Qd : Hp → Prop} (hsub : ∀ i ∈ is, i ∈ vs) (w : Walk W J s us)
    (rel0 : Rel W (g.hold D) st H) (rs0 : RS W (g.hold D) H (wipeE env vs) (L2.wipe σ vs)) (rb0 : RBs W (g.hold D) H (s.gs.map (·.1)) us) (sd0 : Stand s st) (hD0 : H D = some (.lst avs0)) (r0 : Rs W (g.hold D) H acc0 avs0) (hb0 : D ∉ g.base)
    (bound : ∀ ys st', compF set tt te s s.items (wipeE env vs) st = .ok ys st' → acc0.length + ys.length ≤ sizeLine)
    (result : ∃ ys st', compF set tt te s s.items (wipeE env vs) st = .ok ys st' ∧ ∀ g' H' avs', EX D g H g' H' → Rel W (g'.hold D) st' H' → H' D = some (.lst avs') → Rs W (g'.hold D) H' (acc0 ++ ys) avs' → D ∉ g'.base → Qd H') :
    ∃ Wv : Nat → Nat → Hp → Prop, (∃ m, Wv 0 m H) ∧ ∀ i m H, Wv i m H → (J.stop i H ∧ Qd H) ∨ (J.go i H ∧ ∃ Nx : Hp → Prop, (∀ H', Nx H' → ∃ m', m' < m ∧ Wv (i + 1) m' H') ∧ ∀ x H', J.yld i H x H' →
      tG W is set x (L2.wipe σ vs) H' fun σ2 H2 => L2.wipe σ2 vs = L2.wipe σ vs ∧ tT W E1 tt σ2 H2 fun b H3 => if b = true then tE W E1 te σ2 H3 fun y H4 => ∃ acc, H4 D = some (.lst acc) ∧ acc.length < sizeLine ∧ Nx (upd H4 D (.lst (acc ++ [y]))) else Nx H3) := by
  obtain ⟨ysT, stT, eT, fin⟩ := result
  have bT := bound ysT stT eT
  let Wv : Nat → Nat → Hp → Prop := fun i m Hi => i ≤ s.items.length ∧ m = s.items.length - i ∧ ∃ (gi : G) (sti : Sto) (acc ys : List Vl) (avs : List V), EX D g H gi Hi ∧ Rel W (gi.hold D) sti Hi ∧ Stand s sti ∧ Hi D = some (.lst avs) ∧ Rs W (gi.hold D) Hi acc avs ∧ D ∉ gi.base ∧
    compF set tt te s (s.items.drop i) (wipeE env vs) sti = .ok ys stT ∧ acc ++ ys = acc0 ++ ysT
  refine ⟨Wv, ⟨s.items.length, Nat.zero_le _, by simp, g, st, acc0, ysT, avs0, EX.refl, rel0, sd0, hD0, r0, hb0, eT, rfl⟩, ?_⟩
  rintro i m Hi ⟨hi, rfl, gi, sti, acc, ys, avs, xi, reli, sdi, hDi, racc, hbi, ei, eacc⟩
  have rsi := rs0.ex rel0 xi
  have rbi := RBs.ex rel0 xi rb0
  by_cases hlt : i < s.items.length
  · refine .inr ⟨w.go i _ sti Hi reli rbi sdi hlt, Wv (i + 1) (s.items.length - (i + 1)), fun H' h => ⟨_, by omega, h⟩, fun x H' hy => ?_⟩
    obtain ⟨ee2, rel2, hx⟩ := w.yld i _ sti Hi x H' reli rbi sdi hy
    have rx := hx _ (List.getElem?_eq_getElem hlt)
    have ed : s.items.drop i = s.items[i] :: s.items.drop (i + 1) := List.drop_eq_getElem_cons hlt
    rw [ed] at ei
    unfold compF at ei
    cases eset : set s.items[i] (wipeE env vs) with
    | none => rw [eset] at ei; cases ei
    | some env2 =>
      rw [eset] at ei
      dsimp only at ei
      refine ⟨gi.hold D, sti, wipeE env vs, s.items[i], env2, rel2, rsi.ee reli ee2, rx, eset, fun σ2 rs2 ag => ⟨?_, ?_⟩⟩
      · rw [wipe_agree ag hsub]
        exact wipe_agree (σ := σ) (is := vs) ⟨wipe_length _ _, fun j hj => wipe_out hj⟩ (fun _ h => h)
      · have nD : D ∉ (gi.hold D).rho := (reli.prot D (.inl List.mem_cons_self)).2
        refine ⟨gi.hold D, sti, env2, rel2, rs2, ?_⟩
        cases et : tt env2 sti with
        | exc c f s5 => rw [et] at ei; cases ei
        | bad => rw [et] at ei; cases ei
        | ok b st3 =>
          rw [et] at ei
          have ei : (if b = true then (noX (te env2 st3)).bind fun y st => if s.ok st = true then (compF set tt te s (s.items.drop (i + 1)) (wipeE env vs) st).bind fun ys st => .ok (y :: ys) st else .bad
            else if s.ok st3 = true then compF set tt te s (s.items.drop (i + 1)) (wipeE env vs) st3 else .bad) = .ok ys stT := ei
          intro g3' H3 ee3 rel3
          obtain ⟨g3, rfl, hb3, _, _⟩ := G.unhold (show g3'.base = D :: gi.base from ee3.base)
          have x3 : EX D g H g3 H3 := xi.step (ee2.trans ee3).unhold
          have racc3 : Rs W (g3.hold D) H3 acc avs := (racc.ee ee2).ee ee3
          have hD3 : H3 D = some (.lst avs) := ee3.keep D _ (ee2.keep D _ hDi nD) nD
          cases b with
          | false =>
            rw [if_neg (by decide)] at ei ⊢
            split at ei
            · rename_i hok
              exact ⟨hlt, rfl, g3, st3, acc, ys, avs, x3, rel3, Src.ok_iff hok, hD3, racc3, hb3 ▸ hbi, ei, eacc⟩
            · cases ei
          | true =>
            rw [if_pos rfl] at ei ⊢
            refine ⟨g3.hold D, st3, env2, rel3, rs2.ee rel2 ee3, ?_⟩
            cases ey4 : te env2 st3 with
            | exc c f s5 => rw [ey4] at ei; cases ei
            | bad => rw [ey4] at ei; cases ei
            | ok y st4 =>
              rw [ey4] at ei
              have ei : (if s.ok st4 = true then (compF set tt te s (s.items.drop (i + 1)) (wipeE env vs) st4).bind fun ys st => .ok (y :: ys) st else .bad) = .ok ys stT := ei
              intro g4' H4 ee4 rel4 yv ry
              obtain ⟨g4, rfl, hb4, _, _⟩ := G.unhold (show g4'.base = D :: g3.base from ee4.base)
              have x4 : EX D g H g4 H4 := x3.step ee4.unhold
              have racc4 : Rs W (g4.hold D) H4 acc avs := racc3.ee ee4
              have hD4 : H4 D = some (.lst avs) := ee4.keep D _ hD3 (rel3.prot D (.inl List.mem_cons_self)).2
              split at ei
              · rename_i hok
                cases ec : compF set tt te s (s.items.drop (i + 1)) (wipeE env vs) st4 with
                | exc c f s5 => rw [ec] at ei; cases ei
                | bad => rw [ec] at ei; cases ei
                | ok zs st5 =>
                  rw [ec, Res.bind_ok] at ei
                  cases ei
                  have lavs : avs.length < sizeLine := by
                    have l1 := racc4.length
                    have l2 : (acc ++ y :: zs).length = (acc0 ++ ysT).length := by rw [eacc]
                    simp only [List.length_append, List.length_cons] at l2
                    omega
                  have hb4' : D ∉ g4.base := by rw [hb4, hb3]; exact hbi
                  obtain ⟨rel5, m5⟩ := rel4.putHeld (vs := avs ++ [yv]) hb4' (by rw [List.length_append]; simp; omega)
                  exact ⟨avs, hD4, lavs, hlt, rfl, g4, st4, acc ++ [y], zs, avs ++ [yv], x4.put, rel5, Src.ok_iff hok, upd_same, (racc4.mo m5).append (Rs.one (ry.mo m5)), hb4', ec, by rw [List.append_assoc]; exact eacc⟩
              · cases ei
  · have en : i = s.items.length := by omega
    subst en
    refine .inl ⟨w.stop _ sti Hi reli rbi sdi, ?_⟩
    rw [show s.items.drop s.items.length = [] from List.drop_length] at ei
    cases ei
    rw [List.append_nil] at eacc
    exact fin gi Hi avs xi reli hDi (by rw [← eacc]; exact racc) hbi
theorem comp_t {src : FS} {set : Vl → Ev → Option Ev} {tt : FT} {te : FE} {vs is : List Nat} {E1 : XK} (hsub : ∀ i ∈ is, i ∈ vs) : ∀ σ H Q, tL W E (lComp src set tt te vs) σ H Q → tLc (tIb W E src) (tG W is set) (tT W E1 tt) (tE W E1 te) vs σ H Q := by
  rintro σ H Q ⟨g, st, env, rel, rs, o⟩
  refine ⟨g, st, env, rel, rs, ?_⟩
  have o' : Out W E g H ((src env st).bind fun s st => compF set tt te s s.items (wipeE env vs) st) (fun xs g' st' H' => ∀ D vs, H D = none → D ∉ g'.base → Rel W (g'.hold D) st' H' → H' D = some (.lst vs) → Rs W (g'.hold D) H' xs vs → Q (.ref D) H') := o
  cases es : src env st with
  | exc c fs s => rw [es] at o'; exact o'
  | bad => rw [es] at o'; exact o'
  | ok s st1 =>
    rw [es, Res.bind_ok] at o'
    intro g1 H1 ee1 rel1 J us rb sd w D hD
    have rs1 := rs.ee rel ee1
    have eeD : EE g1 H1 g1 (upd H1 D (.lst [])) := EE.new hD
    have relD := rel1.hold (o := .lst []) hD (Nat.zero_le _)
    refine loop_t hsub w relD ((rs1.hold rel1 eeD hD).wipe vs) (RBs.hold rel1 eeD hD rb) sd upd_same (acc0 := []) rfl (rel1.free hD).b (fun ys st' e => ?_) ?_
    · have l1 := compF_len e
      have l2 := w.len
      simp only [List.length_nil]
      omega
    · cases ec : compF set tt te s s.items (wipeE env vs) st1 with
      | exc c fs s5 =>
        exact absurd ec compF_nox
      | bad => rw [ec] at o'; exact o'.elim
      | ok ys st5 =>
        rw [ec] at o'
        refine ⟨ys, st5, rfl, fun g' H' avs' x' rel' hD' r' hb' => ?_⟩
        exact o' g' H' (ee1.trans (x'.ee eeD hD)) rel'.unhold D avs' (ee1.there D hD) hb' rel' hD' r'
def compG (set : Vl → Ev → Option Ev) (tt : FT) (src1 : FS) (set1 : Vl → Ev → Option Ev) (tt1 : FT) (te : FE) (vs1 : List Nat) (sk : Src) : List Vl → Ev → Sto → Res (List Vl)
  | [], _, st => .ok [] st
  | x :: xs, env, st => match set x env with
    | none => .bad
    | some env2 => (noX (tt env2 st)).bind fun b st => if b = true then (noX (src1 env2 st)).bind fun s1 st => (compF set1 tt1 te s1 s1.items (wipeE env2 vs1) st).bind fun ys st =>
        if sk.ok st = true then (compG set tt src1 set1 tt1 te vs1 sk xs env st).bind fun zs st => .ok (ys ++ zs) st else .bad
      else if sk.ok st = true then compG set tt src1 set1 tt1 te vs1 sk xs env st else .bad
def lComp2 (src : FS) (set : Vl → Ev → Option Ev) (tt : FT) (src1 : FS) (set1 : Vl → Ev → Option Ev) (tt1 : FT) (te : FE) (vs vs1 : List Nat) : FA := fun env st => (src env st).bind fun s st => (compG set tt src1 set1 tt1 te vs1 s s.items (wipeE env vs) st).bind fun ys st =>
  if ys.length ≤ sizeLine then .ok ys st else .bad
theorem compG_nox {set : Vl → Ev → Option Ev} {tt : FT} {src1 : FS} {set1 : Vl → Ev → Option Ev} {tt1 : FT} {te : FE} {vs1 : List Nat} {sk : Src} : ∀ {xs : List Vl} {env : Ev} {st st' : Sto} {c : Nat} {f : List Vl}, compG set tt src1 set1 tt1 te vs1 sk xs env st ≠ .exc c f st'
  | [], _, _, _, _, _ => fun h => by cases h
  | x :: xs, env, st, st', c, f => fun h => by
    unfold compG at h
    cases e : set x env with
    | none => rw [e] at h; cases h
    | some env2 =>
      rw [e] at h
      dsimp only at h
      cases et : noX (tt env2 st) with
      | exc c f s => exact noX_nox et
      | bad => rw [et] at h; cases h
      | ok b s =>
        rw [et, Res.bind_ok] at h
        cases b with
        | false =>
          rw [if_neg (by decide)] at h
          split at h
          · exact compG_nox h
          · cases h
        | true =>
          rw [if_pos rfl] at h
          cases ev : noX (src1 env2 s) with
          | exc c f s => exact noX_nox ev
          | bad => rw [ev] at h; cases h
          | ok s1 s2 =>
            rw [ev, Res.bind_ok] at h
            cases eF : compF set1 tt1 te s1 s1.items (wipeE env2 vs1) s2 with
            | exc c f s => exact compF_nox eF
            | bad => rw [eF] at h; cases h
            | ok ys s3 =>
              rw [eF, Res.bind_ok] at h
              split at h
              · cases ec : compG set tt src1 set1 tt1 te vs1 sk xs env s3 with
                | exc c f s => exact compG_nox ec
                | bad => rw [ec] at h; cases h
                | ok zs s4 => rw [ec] at h; cases h
              · cases h
theorem comp2_t {src src1 : FS} {set set1 : Vl → Ev → Option Ev} {tt tt1 : FT} {te : FE} {vs vs1 is is1 : List Nat} {E1 : XK} (hsub : ∀ i ∈ is, i ∈ vs) (hsub1 : ∀ i ∈ is1, i ∈ vs1) : ∀ σ H Q, tL W E (lComp2 src set tt src1 set1 tt1 te vs vs1) σ H Q →
    tLc2 (tIb W E src) (tG W is set) (tT W E1 tt) (tIb W E1 src1) (tG W is1 set1) (tT W E1 tt1) (tE W E1 te) vs vs1 σ H Q := by
  rintro σ H Q ⟨g, st, env, rel, rs, o⟩
  refine ⟨g, st, env, rel, rs, ?_⟩
  have o' : Out W E g H ((src env st).bind fun s st => (compG set tt src1 set1 tt1 te vs1 s s.items (wipeE env vs) st).bind fun ys st => if ys.length ≤ sizeLine then .ok ys st else .bad) (fun xs g' st' H' => ∀ D vs, H D = none → D ∉ g'.base → Rel W (g'.hold D) st' H' → H' D = some (.lst vs) → Rs W (g'.hold D) H' xs vs → Q (.ref D) H') := o
  cases es : src env st with
  | exc c fs s => rw [es] at o'; exact o'
  | bad => rw [es] at o'; exact o'
  | ok s st1 =>
    rw [es, Res.bind_ok] at o'
    intro g1 H1 ee1 rel1 J us rb sd w D hD
    have rs1 := rs.ee rel ee1
    have eeD : EE g1 H1 g1 (upd H1 D (.lst [])) := EE.new hD
    have relD := rel1.hold (o := .lst []) hD (Nat.zero_le _)
    cases eT : compG set tt src1 set1 tt1 te vs1 s s.items (wipeE env vs) st1 with
    | exc c fs s5 => exact absurd eT compG_nox
    | bad => rw [eT] at o'; exact o'.elim
    | ok ysT stT =>
      rw [eT, Res.bind_ok] at o'
      split at o'
      · rename_i lT
        have rs0 := (rs1.hold rel1 eeD hD).wipe vs
        have rb0 := RBs.hold rel1 eeD hD rb
        have hb0 := (rel1.free hD).b
        let Wv : Nat → Nat → Hp → Prop := fun i m Hi => i ≤ s.items.length ∧ m = s.items.length - i ∧ ∃ (gi : G) (sti : Sto) (acc ys : List Vl) (avs : List V), EX D g1 (upd H1 D (.lst [])) gi Hi ∧ Rel W (gi.hold D) sti Hi ∧ Stand s sti ∧ Hi D = some (.lst avs) ∧ Rs W (gi.hold D) Hi acc avs ∧ D ∉ gi.base ∧
          compG set tt src1 set1 tt1 te vs1 s (s.items.drop i) (wipeE env vs) sti = .ok ys stT ∧ acc ++ ys = ysT
        refine ⟨Wv, ⟨s.items.length, Nat.zero_le _, by simp, g1, st1, [], ysT, [], EX.refl, relD, sd, upd_same, rfl, hb0, eT, rfl⟩, ?_⟩
        rintro i m Hi ⟨hi, rfl, gi, sti, acc, ys, avs, xi, reli, sdi, hDi, racc, hbi, ei, eacc⟩
        have rsi := rs0.ex relD xi
        have rbi := RBs.ex relD xi rb0
        by_cases hlt : i < s.items.length
        · refine .inr ⟨w.go i _ sti Hi reli rbi sdi hlt, Wv (i + 1) (s.items.length - (i + 1)), fun H' h => ⟨_, by omega, h⟩, fun x H' hy => ?_⟩
          obtain ⟨ee2, rel2, hx⟩ := w.yld i _ sti Hi x H' reli rbi sdi hy
          have rx := hx _ (List.getElem?_eq_getElem hlt)
          have ed : s.items.drop i = s.items[i] :: s.items.drop (i + 1) := List.drop_eq_getElem_cons hlt
          rw [ed] at ei
          unfold compG at ei
          cases eset : set s.items[i] (wipeE env vs) with
          | none => rw [eset] at ei; cases ei
          | some env2 =>
            rw [eset] at ei
            dsimp only at ei
            refine ⟨gi.hold D, sti, wipeE env vs, s.items[i], env2, rel2, rsi.ee reli ee2, rx, eset, fun σ2 rs2 ag => ⟨?_, ?_⟩⟩
            · rw [wipe_agree ag hsub]
              exact wipe_agree (σ := σ) (is := vs) ⟨wipe_length _ _, fun j hj => wipe_out hj⟩ (fun _ h => h)
            · have nD : D ∉ (gi.hold D).rho := (reli.prot D (.inl List.mem_cons_self)).2
              refine ⟨gi.hold D, sti, env2, rel2, rs2, ?_⟩
              cases et : tt env2 sti with
              | exc c f s5 => rw [et] at ei; cases ei
              | bad => rw [et] at ei; cases ei
              | ok b st3 =>
                rw [et] at ei
                have ei : (if b = true then (noX (src1 env2 st3)).bind fun s1 st => (compF set1 tt1 te s1 s1.items (wipeE env2 vs1) st).bind fun ys st =>
                    if s.ok st = true then (compG set tt src1 set1 tt1 te vs1 s (s.items.drop (i + 1)) (wipeE env vs) st).bind fun zs st => .ok (ys ++ zs) st else .bad
                  else if s.ok st3 = true then compG set tt src1 set1 tt1 te vs1 s (s.items.drop (i + 1)) (wipeE env vs) st3 else .bad) = .ok ys stT := ei
                intro g3' H3 ee3 rel3
                obtain ⟨g3, rfl, hb3, _, _⟩ := G.unhold (show g3'.base = D :: gi.base from ee3.base)
                have x3 : EX D g1 (upd H1 D (.lst [])) g3 H3 := xi.step (ee2.trans ee3).unhold
                have racc3 : Rs W (g3.hold D) H3 acc avs := (racc.ee ee2).ee ee3
                have hD3 : H3 D = some (.lst avs) := ee3.keep D _ (ee2.keep D _ hDi nD) nD
                cases b with
                | false =>
                  rw [if_neg (by decide)] at ei ⊢
                  split at ei
                  · rename_i hok
                    exact ⟨hlt, rfl, g3, st3, acc, ys, avs, x3, rel3, Src.ok_iff hok, hD3, racc3, hb3 ▸ hbi, ei, eacc⟩
                  · cases ei
                | true =>
                  rw [if_pos rfl] at ei ⊢
                  refine ⟨g3.hold D, st3, env2, rel3, rs2.ee rel2 ee3, ?_⟩
                  cases es1 : src1 env2 st3 with
                  | exc c f s5 => rw [es1] at ei; cases ei
                  | bad => rw [es1] at ei; cases ei
                  | ok s1 st4 =>
                    rw [es1] at ei
                    have ei : ((compF set1 tt1 te s1 s1.items (wipeE env2 vs1) st4).bind fun ys st =>
                      if s.ok st = true then (compG set tt src1 set1 tt1 te vs1 s (s.items.drop (i + 1)) (wipeE env vs) st).bind fun zs st => .ok (ys ++ zs) st else .bad) = .ok ys stT := ei
                    cases eF : compF set1 tt1 te s1 s1.items (wipeE env2 vs1) st4 with
                    | exc c f s5 => rw [eF] at ei; cases ei
                    | bad => rw [eF] at ei; cases ei
                    | ok ys1 st5 =>
                      rw [eF, Res.bind_ok] at ei
                      split at ei
                      · rename_i hok
                        cases eG : compG set tt src1 set1 tt1 te vs1 s (s.items.drop (i + 1)) (wipeE env vs) st5 with
                        | exc c f s5 => rw [eG] at ei; cases ei
                        | bad => rw [eG] at ei; cases ei
                        | ok zs st6 =>
                          rw [eG, Res.bind_ok] at ei
                          cases ei
                          intro g4' H4 ee4 rel4 J1 us1 rb1 sd1 w1
                          obtain ⟨g4, rfl, hb4, _, _⟩ := G.unhold (show g4'.base = D :: g3.base from ee4.base)
                          have x4 : EX D g1 (upd H1 D (.lst [])) g4 H4 := x3.step ee4.unhold
                          have racc4 : Rs W (g4.hold D) H4 acc avs := racc3.ee ee4
                          have hD4 : H4 D = some (.lst avs) := ee4.keep D _ hD3 (rel3.prot D (.inl List.mem_cons_self)).2
                          have hb4' : D ∉ g4.base := by rw [hb4, hb3]; exact hbi
                          have rs4 : RS W (g4.hold D) H4 env2 σ2 := (rs2.ee rel2 ee3).ee rel3 ee4
                          have len : acc.length + ys1.length ≤ sizeLine := by
                            have l2 : (acc ++ (ys1 ++ zs)).length = ysT.length := by rw [eacc]
                            simp only [List.length_append] at l2
                            omega
                          refine loop_t (σ := σ2) hsub1 w1 rel4 (rs4.wipe vs1) rb1 sd1 hD4 racc4 hb4' (fun ys' st' e => ?_) ⟨ys1, st5, eF, fun g5 H5 avs5 x5 rel5 hD5 r5 hb5 => ?_⟩
                          · rw [eF] at e; cases e; exact len
                          · refine ⟨hlt, rfl, g5, st5, acc ++ ys1, zs, avs5, ?_, rel5, Src.ok_iff hok, hD5, r5, hb5, eG, by rw [List.append_assoc]; exact eacc⟩
                            exact x4.trans x5
                      · cases ei
        · have en : i = s.items.length := by omega
          subst en
          refine .inl ⟨w.stop _ sti Hi reli rbi sdi, ?_⟩
          rw [show s.items.drop s.items.length = [] from List.drop_length] at ei
          cases ei
          rw [List.append_nil] at eacc
          subst eacc
          exact o' gi Hi (ee1.trans (xi.ee eeD hD)) reli.unhold D avs (ee1.there D hD) hbi reli hDi racc
      · exact o'.elim
end
/-- the context of a comprehension's block -/
abbrev InBlk (X : Cx) (scope : Scope) (P : Cx → Prop) : Prop := ∀ (s : Shared) (H : Hp) (C : Addr) (cl : List (Str × Addr)) (fp : List Addr), P (X.blk s H scope (compEnvC scope cl C X.env) fp)
def E0 : XK := fun _ _ _ => False
section
variable {X : Cx} {W : Wd} {E : XK} {pos : Pos}
theorem sl_comp {elt tg iter : Expr} {ifs : List Expr} {scope : Scope} {own : List (Str × Nat)} {is : List Nat} {src : FS} {set : Vl → Ev → Option Ev} {tt : FT} {te : FE} (hc : X.calm = true) (nd : X.N.Nodup) (hi : SIb X W E tg iter src) (ok : BlkOk X.N X.env.scope scope own)
    (hg : InBlk X scope fun Y => SG Y W is tg set) (ht : InBlk X scope fun Y => PTs Y ifs (tT W E0 tt)) (he : InBlk X scope fun Y => SE Y W E0 elt te) (hsub : ∀ i ∈ is, i ∈ own.map (·.2)) (hn : notSet iter = true) :
    SL X W E (.ListComp elt [⟨tg, iter, ifs, 0⟩] scope pos) (lComp src set tt te (own.map (·.2))) :=
  pe_weak (pe_lc hc nd hi ok hg ht he (notSet_it hn)) (comp_t hsub)
theorem sl_comp2 {elt tg iter tg1 iter1 : Expr} {ifs ifs1 : List Expr} {scope : Scope} {own : List (Str × Nat)} {is is1 vs1 : List Nat} {src src1 : FS} {set set1 : Vl → Ev → Option Ev} {tt tt1 : FT} {te : FE} (hc : X.calm = true) (nd : X.N.Nodup) (hi : SIb X W E tg iter src) (ok : BlkOk X.N X.env.scope scope own)
    (hv : ∀ i ∈ vs1, i ∈ own.map (·.2)) (hg : InBlk X scope fun Y => SG Y W is tg set) (ht : InBlk X scope fun Y => PTs Y ifs (tT W E0 tt)) (hi1 : InBlk X scope fun Y => SIb Y W E0 tg1 iter1 src1) (hg1 : InBlk X scope fun Y => SG Y W is1 tg1 set1) (ht1 : InBlk X scope fun Y => PTs Y ifs1 (tT W E0 tt1))
    (he : InBlk X scope fun Y => SE Y W E0 elt te) (hsub : ∀ i ∈ is, i ∈ own.map (·.2)) (hsub1 : ∀ i ∈ is1, i ∈ vs1) (hn : notSet iter = true) (hn1 : notSet iter1 = true) :
    SL X W E (.ListComp elt [⟨tg, iter, ifs, 0⟩, ⟨tg1, iter1, ifs1, 0⟩] scope pos) (lComp2 src set tt src1 set1 tt1 te (own.map (·.2)) vs1) :=
  pe_weak (pe_lc2 hc nd hi ok hv hg ht hi1 hg1 ht1 he (notSet_it hn) (fun _ => notSet_it hn1)) (comp2_t hsub hsub1)
end
end TW
set_option maxHeartbeats 800000
namespace TW
open PySem PySem.Spec L2
inductive Fl where
  | nx (env : Ev) | rt (v : Vl) | bk (env : Ev) | ct (env : Ev)
abbrev FSt := Ev → Sto → Res Fl
def OutS (W : Wd) (E : XK) (g : G) (H : Hp) (r : Res Fl) (D : Ends) : Prop := match r with
  | .ok (.nx env) st => ∀ g' H' σ', ES g H g' H' → Rel W g' st H' → RS W g' H' env σ' → D.nx σ' H'
  | .ok (.bk env) st => ∀ g' H' σ', ES g H g' H' → Rel W g' st H' → RS W g' H' env σ' → D.bk σ' H'
  | .ok (.ct env) st => ∀ g' H' σ', ES g H g' H' → Rel W g' st H' → RS W g' H' env σ' → D.ct σ' H'
  | .ok (.rt v) st => ∀ g' H' u, ES g H g' H' → Rel W g' st H' → R W g' H' v u → D.rt u H'
  | .exc c fs st => ∀ g' H' d, ES g H g' H' → Rel W g' st H' → XD W g' H' c fs d → E (.ref (W.exc c)) (some d) H'
  | .bad => False
def tS (W : Wd) (E : XK) (f : FSt) : TS := fun D σ H => ∃ g st env, Rel W g st H ∧ RS W g H env σ ∧ OutS W E g H (f env st) D
abbrev SS (X : Cx) (W : Wd) (E : XK) (e : Stmt) (f : FSt) : Prop := PS X e (tS W E f)
abbrev SSs (X : Cx) (W : Wd) (E : XK) (e : List Stmt) (f : FSt) : Prop := PSs X e (tS W E f)
section
variable {W : Wd} {g g' g1 : G} {H H' H1 : Hp} {st st' st1 : Sto} {env : Ev} {σ : St} {E : XK} {D : Ends}
theorem OutS.tr {r : Res Fl} (x : ES g H g' H') (o : OutS W E g H r D) : OutS W E g' H' r D := by
  cases r with
  | bad => exact o
  | exc c fs st => exact fun g2 H2 d y rel xd => o g2 H2 d (x.trans y) rel xd
  | ok fl st =>
    cases fl with
    | nx env => exact fun g2 H2 s y rel rs => o g2 H2 s (x.trans y) rel rs
    | bk env => exact fun g2 H2 s y rel rs => o g2 H2 s (x.trans y) rel rs
    | ct env => exact fun g2 H2 s y rel rs => o g2 H2 s (x.trans y) rel rs
    | rt v => exact fun g2 H2 s y rel rs => o g2 H2 s (x.trans y) rel rs
theorem outS_bind {α : Type} {r : Res α} {k : α → Sto → Res Fl} {P : α → G → Sto → Hp → Prop} (h : OutS W E g H (r.bind k) D) (q : ∀ v st1 g1 H1, r = .ok v st1 → EE g H g1 H1 → Rel W g1 st1 H1 → OutS W E g1 H1 (k v st1) D → P v g1 st1 H1) : Out W E g H r P := by
  cases r with
  | ok v s => exact fun g1 H1 ee rel => q v s g1 H1 rfl ee rel (OutS.tr ee.es h)
  | exc c fs s => exact fun g1 H1 d ee rel x => h g1 H1 d ee.es rel x
  | bad => exact h
/-- the ends with another next -/
theorem OutS.seq {r : Res Fl} {k : Ev → Sto → Res Fl} {u : TS} (o : OutS W E g H (r.bind fun fl st => match fl with
    | .nx env => k env st
    | fl => .ok fl st) D) (hu : ∀ g' st' env H' σ', Rel W g' st' H' → RS W g' H' env σ' → OutS W E g' H' (k env st') D → u D σ' H') : OutS W E g H r { D with nx := u D } := by
  cases r with
  | bad => exact o
  | exc c fs st => exact o
  | ok fl st =>
    cases fl with
    | nx env => exact fun g2 H2 s y rel rs => hu g2 st env H2 s rel rs (OutS.tr y o)
    | bk env => exact o
    | ct env => exact o
    | rt v => exact o
end
def sSeq (a b : FSt) : FSt := fun env st => (a env st).bind fun fl st => match fl with
  | .nx env => b env st
  | fl => .ok fl st
def sNext : FSt := fun env st => .ok (.nx env) st
section
variable {X : Cx} {W : Wd} {E : XK} {pos : Pos}
theorem ss_nil : SSs X W E [] sNext := pss_weak pss_nil fun D σ H ⟨g, st, env, rel, rs, o⟩ => o g H σ ES.refl rel rs
theorem ss_cons {s : Stmt} {ss : List Stmt} {a b : FSt} (h1 : SS X W E s a) (h2 : SSs X W E ss b) : SSs X W E (s :: ss) (sSeq a b) := by
  refine pss_weak (pss_cons h1 h2) ?_
  rintro D σ H ⟨g, st, env, rel, rs, o⟩
  exact ⟨g, st, env, rel, rs, OutS.seq (u := tS W E b) o fun g' st' env' H' σ' rel' rs' o' => ⟨g', st', env', rel', rs', o'⟩⟩
theorem ss_one {s : Stmt} {a : FSt} (h1 : SS X W E s a) : SSs X W E [s] a := pss_one h1
theorem ss_pass : SS X W E (.Pass pos) sNext := ps_weak ps_pass fun D σ H ⟨g, st, env, rel, rs, o⟩ => o g H σ ES.refl rel rs
def sBreak : FSt := fun env st => .ok (.bk env) st
def sCont : FSt := fun env st => .ok (.ct env) st
theorem ss_break : SS X W E (.Break pos) sBreak := ps_weak ps_break fun D σ H ⟨g, st, env, rel, rs, o⟩ => o g H σ ES.refl rel rs
theorem ss_cont : SS X W E (.Continue pos) sCont := ps_weak ps_continue fun D σ H ⟨g, st, env, rel, rs, o⟩ => o g H σ ES.refl rel rs
def sRet (f : FE) : FSt := fun env st => (f env st).bind fun v st => .ok (.rt v) st
theorem ss_ret {e : Expr} {f : FE} (h : SE X W E e f) : SS X W E (.Return (some e) pos) (sRet f) := by
  refine ps_weak (ps_ret h) ?_
  rintro D σ H ⟨g, st, env, rel, rs, o⟩
  exact ⟨g, st, env, rel, rs, outS_bind o fun v st1 g1 H1 _ ee rel1 o1 u r => o1 g1 H1 u ES.refl rel1 r⟩
def sRetN : FSt := fun _ st => .ok (.rt .non) st
theorem ss_retN : SS X W E (.Return none pos) sRetN := ps_weak ps_retN fun D σ H ⟨g, st, env, rel, rs, o⟩ => o g H _ ES.refl rel rfl
def sIf (t : FT) (a b : FSt) : FSt := fun env st => (t env st).bind fun c st => if c = true then a env st else b env st
theorem ss_if {c : Expr} {a b : List Stmt} {t : FT} {fa fb : FSt} (hc : ST X W E c t) (ha : SSs X W E a fa) (hb : SSs X W E b fb) : SS X W E (.If c a b pos) (sIf t fa fb) := by
  refine ps_weak (ps_if hc ha hb) ?_
  rintro D σ H ⟨g, st, env, rel, rs, o⟩
  refine ⟨g, st, env, rel, rs, outS_bind o fun v st1 g1 H1 _ ee rel1 o1 => ?_⟩
  cases v with
  | true => exact ⟨g1, st1, env, rel1, rs.ee rel ee, o1⟩
  | false => exact ⟨g1, st1, env, rel1, rs.ee rel ee, o1⟩
def sDrop (f : FE) : FSt := fun env st => (f env st).bind fun _ st => .ok (.nx env) st
def notComp : Expr → Bool
  | .ListComp _ _ _ _ => false
  | .SetComp _ _ _ _ => false
  | .DictComp _ _ _ _ _ => false
  | _ => true
theorem notComp_ok {e : Expr} {t : Option Expr} {l : Nat} {env : Env} (h : notComp e = true) : swapsWith e t l env = pure false := by
  cases e <;> first | (cases h; done) | rfl
theorem ss_expr {e : Expr} {f : FE} (h : SB X W E e f) (hn : notComp e = true) : SS X W E (.Expr e pos) (sDrop f) := by
  refine ps_weak (ps_expr h (notComp_ok hn)) ?_
  rintro D σ H ⟨g, st, env, rel, rs, o⟩
  exact ⟨g, st, env, rel, rs, outS_bind o fun v st1 g1 H1 _ ee rel1 o1 u r => o1 g1 H1 σ ES.refl rel1 (rs.ee rel ee)⟩
def sSet (i : Nat) (f : FE) : FSt := fun env st => (f env st).bind fun v st => .ok (.nx (env.set i (some (.val v)))) st
theorem set_t {i : Nat} {f : FE} : ∀ D σ H, tS W E (sSet i f) D σ H → tAsg (tE W E f) (gName i) D σ H := by
  rintro D σ H ⟨g, st, env, rel, rs, o⟩
  exact ⟨g, st, env, rel, rs, outS_bind o fun v st1 g1 H1 _ ee rel1 o1 u r => o1 g1 H1 _ ES.refl rel1 ((rs.ee rel ee).set r)⟩
theorem ss_set {x : Str} {i : Nat} {e : Expr} {f : FE} {p : Pos} (nd : X.N.Nodup) (hx : NmOk X x i) (h : SE X W E e f) (hn : notComp e = true) : SS X W E (.Assign [.Name x p] e pos) (sSet i f) :=
  ps_weak (ps_set nd hx.hN hx.hx h (notComp_ok hn) hx.hf) set_t
/-- .. a new list of the frame's own -/
def sOwn (i : Nat) (f : FA) : FSt := fun env st => (f env st).bind fun xs st => .ok (.nx (env.set i (some (.own (.lst xs))))) st
theorem RS.mineOf {g g' : G} {st : Sto} {H H' : Hp} {env : Ev} {σ : St} {p : Addr} (rs : RS W g H env σ) (rel : Rel W g st H) (ee : EE g H g' H') (hp : H p = none) {i : Nat} {o : Ob} (q : RO W (g'.hold p) H' o (H' p)) :
    RS W (g'.mine p) H' (env.set i (some (.own o))) (σ.set i (some (.ref p))) := by
  have rs1 := rs.hold rel ee hp
  have new : ∀ {a : Addr}, a ∈ g.own → a ≠ p := fun {a} ha z => (rel.prot a (.inr ha)).1 (z ▸ hp)
  refine ⟨by simp [rs.len], fun j s e => ?_, fun j k o1 o2 a e1 e2 e3 e4 => ?_⟩
  · by_cases z : i = j
    · subst z
      have hl : i < env.length := by
        have := (List.getElem?_eq_some_iff.mp e).1
        simpa using this
      rw [List.getElem?_set_self hl] at e
      cases e
      exact ⟨_, List.getElem?_set_self (by rw [← rs.len]; exact hl), p, rfl, List.mem_cons_self, q.mo Mo.hold_mine⟩
    · rw [List.getElem?_set_ne z] at e
      rw [List.getElem?_set_ne z]
      obtain ⟨u, e1, h⟩ := rs1.at_ j s e
      refine ⟨u, e1, ?_⟩
      cases s with
      | val v => exact R.mo Mo.hold_mine h
      | own o1 =>
        obtain ⟨a, e2, ha, q1⟩ := h
        exact ⟨a, e2, List.mem_cons_of_mem _ ha, q1.mo Mo.hold_mine⟩
  · have hlen : ∀ {j : Nat} {s : Sl}, (env.set i (some (.own o)))[j]? = some (some s) → j < env.length := fun {j s} e => by
      have := (List.getElem?_eq_some_iff.mp e).1
      simpa using this
    have oth : ∀ {j : Nat} {o1 : Ob} {a : Addr}, i ≠ j → env[j]? = some (some (.own o1)) → σ[j]? = some (some (.ref a)) → a ≠ p := fun {j o1 a} _ e1 e3 => by
      obtain ⟨u, e5, b, e6, hb, _⟩ := rs.at_ j _ e1
      rw [e3] at e5; cases e5
      cases e6
      exact new hb
    by_cases zj : i = j
    · by_cases zk : i = k
      · exact zj.symm.trans zk
      · exfalso
        rw [List.getElem?_set_ne zk] at e2 e4
        subst zj
        rw [List.getElem?_set_self (by rw [← rs.len]; exact hlen e1)] at e3
        cases e3
        exact oth zk e2 e4 rfl
    · rw [List.getElem?_set_ne zj] at e1 e3
      by_cases zk : i = k
      · exfalso
        subst zk
        rw [List.getElem?_set_self (by rw [← rs.len]; exact hlen e2)] at e4
        cases e4
        exact oth zj e1 e3 rfl
      · rw [List.getElem?_set_ne zk] at e2 e4
        exact rs.uni j k o1 o2 a e1 e2 e3 e4
theorem ES.mineOf {g g' : G} {H H' : Hp} {p : Addr} (ee : EE g H g' H') (hp : H p = none) (hk : H' p ≠ none ∧ ¬ Ins (H' p)) : ES g H (g'.mine p) H' :=
  ⟨ee.pre, ee.base, fun a h => by
    rcases List.mem_cons.mp (show a ∈ p :: g'.own from h) with z | z
    · rw [z]; exact .inr hp
    · exact .inl (ee.own ▸ z), fun a o e n _ => ee.keep a o e n, ee.fresh, ee.there, fun a h => ⟨fun n => (List.mem_cons.mp (show a ∈ p :: g'.own from h)).elim (fun z => by rw [z]; exact hk) fun z => absurd (ee.own ▸ z) n, fun m => ee.oi a m⟩⟩
theorem own_t {i : Nat} {f : FA} : ∀ D σ H, tS W E (sOwn i f) D σ H → tAsg (tL W E f) (gName i) D σ H := by
  rintro D σ H ⟨g, st, env, rel, rs, o⟩
  refine ⟨g, st, env, rel, rs, ?_⟩
  have o' : OutS W E g H ((f env st).bind fun xs st => .ok (.nx (env.set i (some (.own (.lst xs))))) st) D := o
  cases e : f env st with
  | bad => rw [e] at o'; exact o'.elim
  | exc c fs s => rw [e] at o'; exact fun g1 H1 d ee rel1 x => o' g1 H1 d ee.es rel1 x
  | ok xs st1 =>
    rw [e, Res.bind_ok] at o'
    intro g1 H1 ee rel1 p vs hp hb relh hl r
    exact o' (g1.mine p) H1 _ (ES.mineOf ee hp (by rw [hl]; exact ⟨fun z => (by cases z), fun z => z⟩)) (relh.mineOf hb) (rs.mineOf rel ee hp (o := .lst xs) ⟨vs, hl, r⟩)
theorem ss_own {x : Str} {i : Nat} {e : Expr} {f : FA} {p : Pos} (nd : X.N.Nodup) (hx : NmOk X x i) (h : SL X W E e f) (hn : notComp e = true) : SS X W E (.Assign [.Name x p] e pos) (sOwn i f) :=
  ps_weak (ps_set nd hx.hN hx.hx h (notComp_ok hn) hx.hf) own_t
/-- .. a new list that others may hold: a cell -/
def sNew (i : Nat) (f : FA) : FSt := fun env st => (f env st).bind fun xs st => .ok (.nx (env.set i (some (.val (.ref (st : List Ob).length))))) (st ++ [.lst xs])
theorem ES.moreOf {g g' : G} {H H' : Hp} {p : Addr} (ee : EE g H g' H') (hp : H p = none) : EE g H (g'.more p) H' :=
  ⟨by
    obtain ⟨m, e⟩ := ee.pre
    exact ⟨m ++ [p], by show g'.rho ++ [p] = _; rw [e, List.append_assoc]⟩, ee.base, ee.own, ee.keep, fun a h => by
    rcases List.mem_append.mp (show a ∈ g'.rho ++ [p] from h) with z | z
    · exact ee.fresh a z
    · rw [List.mem_singleton.mp z]; exact .inr hp, ee.there, ee.oi⟩
theorem new_t {i : Nat} {f : FA} : ∀ D σ H, tS W E (sNew i f) D σ H → tAsg (tL W E f) (gName i) D σ H := by
  rintro D σ H ⟨g, st, env, rel, rs, o⟩
  refine ⟨g, st, env, rel, rs, ?_⟩
  have o' : OutS W E g H ((f env st).bind fun xs st => .ok (.nx (env.set i (some (.val (.ref (st : List Ob).length))))) (st ++ [.lst xs])) D := o
  cases e : f env st with
  | bad => rw [e] at o'; exact o'.elim
  | exc c fs s => rw [e] at o'; exact fun g1 H1 d ee rel1 x => o' g1 H1 d ee.es rel1 x
  | ok xs st1 =>
    rw [e, Res.bind_ok] at o'
    intro g1 H1 ee rel1 p vs hp hb relh hl r
    have ee2 := ES.moreOf ee hp
    refine o' (g1.more p) H1 _ ee2.es (relh.cellOf hb (o := .lst xs) ⟨vs, hl, r⟩) ((rs.ee rel ee2).set ⟨p, rfl, ?_⟩)
    show (g1.rho ++ [p])[(st1 : List Ob).length]? = some p
    have l : g1.rho.length = (st1 : List Ob).length := rel1.len
    rw [← l, List.getElem?_append_right (Nat.le_refl _), Nat.sub_self]
    rfl
theorem ss_new {x : Str} {i : Nat} {e : Expr} {f : FA} {p : Pos} (nd : X.N.Nodup) (hx : NmOk X x i) (h : SL X W E e f) (hn : notComp e = true) : SS X W E (.Assign [.Name x p] e pos) (sNew i f) :=
  ps_weak (ps_set nd hx.hN hx.hx h (notComp_ok hn) hx.hf) new_t
/-- name = [..] on one line -/
theorem asg_weak {st : Stmt} {t t' : TE} {i : Nat} (h : PS X st (tAsg t (gName i))) (w : ∀ σ H Q, t' σ H Q → t σ H Q) : PS X st (tAsg t' (gName i)) := ps_weak h fun D σ H q => w σ H _ q
section
variable {elt tg iter : Expr} {ifs : List Expr} {scope : Scope} {own : List (Str × Nat)} {is : List Nat} {src : FS} {set : Vl → Ev → Option Ev} {tt : FT} {te : FE} {y : Str} {i : Nat} {py : Pos}
theorem ps_comp (hc : X.calm = true) (nd : X.N.Nodup) (hy : X.N[i]? = some y) (hyl : X.env.scope.names.lookup y = some .local) (hsw : swapsWith (.ListComp elt [⟨tg, iter, ifs, 0⟩] scope pos) (some (.Name y py)) pos.line X.env = pure true)
    (hi : SIb X W E tg iter src) (ok : BlkOk X.N X.env.scope scope own)
    (hg : InBlk X scope fun Y => SG Y W is tg set) (ht : InBlk X scope fun Y => PTs Y ifs (tT W E0 tt)) (he : InBlk X scope fun Y => SE Y W E0 elt te) (hsub : ∀ i ∈ is, i ∈ own.map (·.2)) (hn : notSet iter = true) {spos : Pos} (hl : swapsWith (.ListComp elt [⟨tg, iter, ifs, 0⟩] scope pos) (some (.Name y py)) spos.line X.env = pure true) :
    PS X (.Assign [.Name y py] (.ListComp elt [⟨tg, iter, ifs, 0⟩] scope pos) spos) (tAsg (tL W E (lComp src set tt te (own.map (·.2)))) (gName i)) :=
  asg_weak (ps_setLc hc nd hy hyl hl hi ok hg ht he (notSet_it hn)) (comp_t hsub)
end
theorem lst_t {f : FA} : ∀ σ H Q, tE W E (vLst f) σ H Q → tL W E f σ H Q := by
  rintro σ H Q ⟨g, st, env, rel, rs, o⟩
  refine ⟨g, st, env, rel, rs, ?_⟩
  have o' : Out W E g H ((f env st).bind fun vs st => .ok (.lst vs) st) (fun v g' _ H' => ∀ u, R W g' H' v u → Q u H') := o
  cases e1 : f env st with
  | ok vs st1 =>
    rw [e1, Res.bind_ok] at o'
    intro g1 H1 ee1 rel1 D us hD hb hrel hl hr
    exact o' g1 H1 ee1 rel1 _ ⟨D, us, rfl, ⟨(hrel.prot D (.inl List.mem_cons_self)).2, hb, hrel.disj D List.mem_cons_self⟩, hl, hr.mo Mo.of_hold⟩
  | exc c fs st1 => rw [e1] at o'; exact o'
  | bad => rw [e1] at o'; exact o'
end
end TW
set_option maxHeartbeats 800000
namespace TW
open PySem PySem.Spec L2
section
variable {W : Wd} {g g' g1 : G} {H H' H1 : Hp} {st st' st1 : Sto} {env : Ev} {σ : St} {E : XK} {D : Ends}
/-- an object of the frame's own is changed -/
theorem Rel.putOwn (rel : Rel W g st H) {a : Addr} {u : HO} (ha : a ∈ g.own) (ho : szO u) (hi : Ins (some u) → Ins (H a)) : Rel W g st (upd H a u) ∧ Mo g H g (upd H a u) ∧ ES g H g (upd H a u) := by
  have m : Mo g H g (upd H a u) := ⟨fun b i _ => i, fun b o i e => by rw [upd_ne (fun z => i.o (by rw [z]; exact ha))]; exact e, fun _ _ e => e⟩
  have es : ES g H g (upd H a u) := ⟨⟨[], by simp⟩, rfl, fun _ h => .inl h, fun b o e _ no => by rw [upd_ne (fun z => no (by rw [z]; exact ha))]; exact e, fun _ h => .inl h, fun b h => by
    by_cases z : b = a
    · subst z; rw [upd_same] at h; cases h
    · rwa [upd_ne z] at h, fun b h => ⟨fun n => absurd h n, fun _ i => by
    by_cases z : b = a
    · subst z; rw [upd_same] at i; exact .inl (hi i)
    · rw [upd_ne z] at i; exact .inl i⟩⟩
  refine ⟨⟨rel.len, rel.nd, fun n b o e1 e2 => ?_, fun b h => ⟨fun z => (rel.prot b h).1 (es.there b z), (rel.prot b h).2⟩, rel.disj, sz_new ho rel.sz⟩, m, es⟩
  have ne : b ≠ a := fun z => (rel.prot a (.inr ha)).2 (z ▸ List.mem_iff_getElem?.mpr ⟨n, e1⟩)
  rw [upd_ne ne]
  exact (rel.cell n b o e1 e2).mo m
theorem RS.putOwn (rs : RS W g H env σ) {i : Nat} {a : Addr} {o o' : Ob} {u : HO} (he : env[i]? = some (some (.own o))) (hs : σ[i]? = some (some (.ref a))) (ha : a ∈ g.own) (m : Mo g H g (upd H a u)) (q : RO W g H o' (some u)) :
    RS W g (upd H a u) (env.set i (some (.own o'))) σ := by
  have hl : i < env.length := (List.getElem?_eq_some_iff.mp he).1
  refine ⟨by simp [rs.len], fun j s e => ?_, fun j k o1 o2 b e1 e2 e3 e4 => ?_⟩
  · by_cases z : i = j
    · subst z
      rw [List.getElem?_set_self hl] at e
      cases e
      exact ⟨_, hs, a, rfl, ha, by rw [upd_same]; exact q.mo m⟩
    · rw [List.getElem?_set_ne z] at e
      obtain ⟨w, e1, h⟩ := rs.at_ j s e
      refine ⟨w, e1, ?_⟩
      cases s with
      | val v => exact R.mo m h
      | own o1 =>
        obtain ⟨b, e2, hb, q1⟩ := h
        have ne : b ≠ a := fun zz => by
          subst zz
          subst e2
          exact z (rs.uni i j o o1 b he e hs e1)
        exact ⟨b, e2, hb, by rw [upd_ne ne]; exact q1.mo m⟩
  · have back : ∀ {j : Nat} {o1 : Ob}, (env.set i (some (.own o')))[j]? = some (some (.own o1)) → ∃ o2, env[j]? = some (some (.own o2)) := fun {j o1} e => by
      by_cases z : i = j
      · subst z; exact ⟨o, he⟩
      · rw [List.getElem?_set_ne z] at e; exact ⟨o1, e⟩
    obtain ⟨p1, f1⟩ := back e1
    obtain ⟨p2, f2⟩ := back e2
    exact rs.uni j k p1 p2 b f1 f2 e3 e4
/-- an object of the frame's own is let go: a value from here on -/
theorem RS.release (rs : RS W g H env σ) (rel : Rel W g st H) {i : Nat} {o : Ob} {v : Vl} (he : env[i]? = some (some (.own o))) (hv : v = (match o with
    | .lst xs => Vl.lst xs
    | .dct ks xs => Vl.dct ks xs
    | .ins c fs => Vl.non)) (hi : ∀ c fs, o ≠ .ins c fs) : ∃ g', RS W g' H (env.set i (some (.val v))) σ ∧ Rel W g' st H ∧ ES g H g' H := by
  obtain ⟨w, hs, a, ew, ha, q⟩ := rs.at_ i _ he
  subst ew
  have hl : i < env.length := (List.getElem?_eq_some_iff.mp he).1
  let g' : G := { g with own := g.own.filter fun b => decide (b ≠ a) }
  have sub : ∀ b, b ∈ g'.own → b ∈ g.own ∧ b ≠ a := fun b h => by
    have := List.mem_filter.mp h
    exact ⟨this.1, of_decide_eq_true this.2⟩
  have m : Mo g H g' H := ⟨fun b i _ => ⟨i.r, i.b, fun z => i.o (sub b z).1⟩, fun _ _ _ e => e, fun _ _ e => e⟩
  have es : ES g H g' H := ⟨⟨[], by simp [g']⟩, rfl, fun b h => .inl (sub b h).1, fun _ _ e _ _ => e, fun _ h => .inl h, fun _ h => h, fun b h => ⟨fun n => absurd (sub b h).1 n, fun _ i => .inl i⟩⟩
  have ia : Imm g' a := ⟨(rel.prot a (.inr ha)).2, fun z => rel.disj a z ha, fun z => (sub a z).2 rfl⟩
  refine ⟨g', ⟨by simp [rs.len], fun j s e => ?_, fun j k o1 o2 b e1 e2 e3 e4 => ?_⟩, ⟨rel.len, rel.nd, fun n b o e1 e2 => (rel.cell n b o e1 e2).mo m, fun b h => rel.prot b (h.imp id fun z => (sub b z).1), fun b h z => rel.disj b h (sub b z).1, rel.sz⟩, es⟩
  · by_cases z : i = j
    · subst z
      rw [List.getElem?_set_self hl] at e
      cases e
      refine ⟨_, hs, ?_⟩
      cases o with
      | lst xs =>
        subst hv
        obtain ⟨vs, e1, r⟩ := q
        exact ⟨a, vs, rfl, ia, e1, r.mo m⟩
      | dct ks xs =>
        subst hv
        obtain ⟨kvs, e1, e2, r⟩ := q
        exact ⟨a, kvs, rfl, ia, e1, e2, r.mo m⟩
      | ins c fs => exact absurd rfl (hi c fs)
    · rw [List.getElem?_set_ne z] at e
      obtain ⟨w, e1, h⟩ := rs.at_ j s e
      refine ⟨w, e1, ?_⟩
      cases s with
      | val v => exact R.mo m h
      | own o1 =>
        obtain ⟨b, e2, hb, q1⟩ := h
        have ne : b ≠ a := fun zz => by
          subst zz
          subst e2
          exact z (rs.uni i j o o1 b he e hs e1)
        exact ⟨b, e2, List.mem_filter.mpr ⟨hb, decide_eq_true ne⟩, q1.mo m⟩
  · have back : ∀ {j : Nat} {o1 : Ob}, (env.set i (some (.val v)))[j]? = some (some (.own o1)) → env[j]? = some (some (.own o1)) := fun {j o1} e => by
      by_cases z : i = j
      · subst z
        rw [List.getElem?_set_self hl] at e; cases e
      · rw [List.getElem?_set_ne z] at e; exact e
    exact rs.uni j k o1 o2 b (back e1) (back e2) e3 e4
end
section
variable {X : Cx} {W : Wd} {E : XK} {pos : Pos}
/-- slots let go ahead of a statement -/
def relE (env : Ev) (i : Nat) : Option Ev := match env[i]? with
  | some (some (.own (.lst xs))) => some (env.set i (some (.val (.lst xs))))
  | some (some (.own (.dct ks xs))) => some (env.set i (some (.val (.dct ks xs))))
  | some (some (.val _)) => some env
  | _ => none
def sRel (i : Nat) (f : FSt) : FSt := fun env st => match relE env i with
  | some env' => f env' st
  | none => .bad
theorem rel_t {i : Nat} {f : FSt} : ∀ D σ H, tS W E (sRel i f) D σ H → tS W E f D σ H := by
  rintro D σ H ⟨g, st, env, rel, rs, o⟩
  unfold sRel at o
  cases e : relE env i with
  | none => rw [e] at o; exact o.elim
  | some env' =>
    rw [e] at o
    unfold relE at e
    split at e
    · rename_i xs h
      cases e
      obtain ⟨g', rs', rel', es⟩ := rs.release rel h (v := .lst xs) rfl fun _ _ => Ob.noConfusion
      exact ⟨g', st, _, rel', rs', OutS.tr es o⟩
    · rename_i ks xs h
      cases e
      obtain ⟨g', rs', rel', es⟩ := rs.release rel h (v := .dct ks xs) rfl fun _ _ => Ob.noConfusion
      exact ⟨g', st, _, rel', rs', OutS.tr es o⟩
    · cases e
      exact ⟨g, st, _, rel, rs, o⟩
    · cases e
theorem ss_rel {s : Stmt} {i : Nat} {f : FSt} (h : SS X W E s f) : SS X W E s (sRel i f) := ps_weak h rel_t
def sApp (i : Nat) (f : FE) : FSt := fun env st => match env[i]? with
  | some (some (.own (.lst xs))) => (f env st).bind fun v st => if xs.length < sizeLine then .ok (.nx (env.set i (some (.own (.lst (xs ++ [v])))))) st else .bad
  | some (some (.val (.ref n))) => (match (st : List Ob)[n]? with
    | some (.lst _) => (f env st).bind fun v st => (match (st : List Ob)[n]? with
      | some (.lst xs) => if xs.length < sizeLine then .ok (.nx env) ((st : List Ob).set n (.lst (xs ++ [v]))) else .bad
      | _ => .bad)
    | _ => .bad)
  | _ => .bad
theorem few1 {e : Expr} {cpos : Pos} {env : Env} (h : notStar e = true) : ((backTo cpos (starEach [e] env)).all (fun x => !x.1) && (backToKw cpos (keywordEach [] env)).all (fun x => x.1.isSome) && decide ([e].length + ([] : List Keyword).length + (if ([] : List Keyword).isEmpty then 0 else 1) < 30)) = true := by
  rw [notStar_ok h]
  rfl
theorem ss_app {x : Str} {i : Nat} {e : Expr} {f : FE} {p apos cpos : Pos} (hN : X.N[i]? = some x) (hv : Vis X.env.scope x) (hd : (x == ("__debug__" : Str)) = false) (hcd : (x == ("__classdict__" : Str)) = false) (h : SE X W E e f) (hn : notStar e = true) (hline : (apos.endLine == cpos.line) = true) :
    SS X W E (.Expr (.Call (.Attribute (.Name x p) "append" apos) [e] [] cpos) pos) (sApp i f) := by
  refine ps_weak (ps_expr (pe_bm PySem.F.plainAttrs_list PySem.F.slot_list_append PySem.F.type_list_append mt_append (pe_var hN hv hd hcd) (pa_cons h pa_nil (notStar_ok hn)) (noSuper_ok rfl) (few1 hn) hline (notStar_ok hn) (noStars (by simp))) (notComp_ok rfl)) ?_
  rintro D σ H ⟨g, st, env, rel, rs, o⟩
  unfold sApp at o
  split at o
  · rename_i xs he
    obtain ⟨u, hs, a, eu, ha, vs, hH, r⟩ := rs.at_ i _ he
    subst eu
    refine ⟨_, hs, .inl ⟨rfl, vs, SqL.of hH⟩, g, st, env, rel, rs, outS_bind o fun v st1 g1 H1 _ ee rel1 o1 u ru => ?_⟩
    split at o1
    · rename_i hlt
      have ha1 : a ∈ g1.own := ee.own ▸ ha
      have hH1 : H1 a = some (.lst vs) := ee.keep a _ hH (rel.prot a (.inr ha)).2
      have r1 := r.ee ee
      have l1 := r1.length
      have lz : (vs ++ [u]).length ≤ sizeLine := by simp; omega
      obtain ⟨rel2, m, es⟩ := rel1.putOwn (u := .lst (vs ++ [u])) ha1 lz fun z => z.elim
      refine ⟨a, vs, u, rfl, rfl, hH1, by omega, ?_⟩
      exact o1 g1 _ σ es rel2 ((rs.ee rel ee).putOwn he hs ha1 m (o' := .lst (xs ++ [v])) ⟨_, rfl, r1.append (Rs.one ru)⟩)
    · exact o1.elim
  · rename_i n he
    obtain ⟨u, hs, a, eu, hn'⟩ := rs.at_ i _ he
    subst eu
    have hn0 : g.rho[n]? = some a := hn'
    split at o
    · rename_i xs0 hq
      obtain ⟨vs0, hH0, _⟩ := rel.cell n a _ hn0 hq
      refine ⟨_, hs, .inl ⟨rfl, vs0, SqL.of hH0⟩, g, st, env, rel, rs, outS_bind o fun v st1 g1 H1 _ ee rel1 o1 u ru => ?_⟩
      have hn1 : g1.rho[n]? = some a := ee.mo.nth n a hn0
      cases q : (st1 : List Ob)[n]? with
      | none => rw [q] at o1; exact o1.elim
      | some ob =>
        have c := rel1.cell n a ob hn1 q
        rw [q] at o1
        cases ob with
        | lst xs =>
          dsimp only at o1
          split at o1
          · rename_i hlt
            obtain ⟨vs, hH1, r1⟩ := c
            have l1 := r1.length
            have lz : (vs ++ [u]).length ≤ sizeLine := by simp; omega
            obtain ⟨rel2, ee2⟩ := rel1.put hn1 (o := .lst (xs ++ [v])) (u := .lst (vs ++ [u])) ⟨_, rfl, r1.append (Rs.one ru)⟩ lz
            exact ⟨a, vs, u, rfl, rfl, hH1, by omega, o1 g1 _ σ ee2.es rel2 ((rs.ee rel ee).ee rel1 ee2)⟩
          · exact o1.elim
        | _ => exact o1.elim
    · exact o.elim
  · exact o.elim
end
end TW
set_option maxHeartbeats 800000
namespace TW
open PySem PySem.Spec L2
def forF (set : Vl → Ev → Option Ev) (body : FSt) (sk : Src) : List Vl → Ev → Sto → Res Fl
  | [], env, st => .ok (.nx env) st
  | x :: xs, env, st => match set x env with
    | none => .bad
    | some env2 => (body env2 st).bind fun fl st => match fl with
      | .nx env => if sk.ok st = true then forF set body sk xs env st else .bad
      | .ct env => if sk.ok st = true then forF set body sk xs env st else .bad
      | .bk env => .ok (.nx env) st
      | .rt v => .ok (.rt v) st
def sFor (src : FS) (set : Vl → Ev → Option Ev) (body : FSt) : FSt := fun env st => (src env st).bind fun s st => forF set body s s.items env st
section
variable {X : Cx} {W : Wd} {E : XK} {pos : Pos}
theorem ss_for {tg iter : Expr} {is : List Nat} {body : List Stmt} {src : FS} {set : Vl → Ev → Option Ev} {fb : FSt} (hp : PassesOwn (model X.prog X.w) X.A X.env X.xe) (hc : X.calm = true) (hi : SIe X W E tg iter src)
    (hg : SG X W is tg set) (hb : SSs X W E body fb) (hs : ∀ x, foldedSetIterable iter X.env x = pure x) : SS X W E (.For tg iter body [] pos) (sFor src set fb) := by
  refine ps_weak (ps_for hp hc hi hg hb hs) ?_
  rintro D σ H ⟨g, st, env, rel, rs, o⟩
  refine ⟨g, st, env, rel, rs, outS_bind o fun s st1 g1 H1 _ ee1 rel1 o1 J us ru sd wk => ?_⟩
  have rs1 := rs.ee rel ee1
  refine ⟨fun i m σ H => ∃ g st env, Rel W g st H ∧ RS W g H env σ ∧ Rs W g H (s.gs.map (·.1)) us ∧ Stand s st ∧ i + m = s.items.length ∧ OutS W E g H (forF set fb s (s.items.drop i) env st) D,
    ⟨s.items.length, g1, st1, env, rel1, rs1, ru, sd, by omega, by simpa using o1⟩, ?_⟩
  rintro i m σ2 H2 ⟨g2, st2, env2, rel2, rs2, ru2, sd2, im, o2⟩
  cases m with
  | zero =>
    have e : i = s.items.length := by omega
    subst e
    rw [List.drop_length] at o2
    exact .inl ⟨wk.stop g2 st2 H2 rel2 ru2.rbs sd2, o2 g2 H2 σ2 ES.refl rel2 rs2⟩
  | succ m =>
    have hi2 : i < s.items.length := by omega
    refine .inr ⟨wk.go i g2 st2 H2 rel2 ru2.rbs sd2 hi2, fun σ' H' => ∃ g st env, Rel W g st H' ∧ RS W g H' env σ' ∧ Rs W g H' (s.gs.map (·.1)) us ∧ Stand s st ∧ OutS W E g H' (forF set fb s (s.items.drop (i + 1)) env st) D,
      fun σ' H' ⟨g3, st3, env3, rel3, rs3, ru3, sd3, o3⟩ => ⟨m, by omega, g3, st3, env3, rel3, rs3, ru3, sd3, by omega, o3⟩, fun x H3 y => ?_⟩
    obtain ⟨ee3, rel3, hx⟩ := wk.yld i g2 st2 H2 x H3 rel2 ru2.rbs sd2 y
    have rs3 := rs2.ee rel2 ee3
    have ru3 := ru2.ee ee3
    obtain ⟨z, hz⟩ : ∃ z, s.items[i]? = some z := ⟨_, List.getElem?_eq_getElem hi2⟩
    have dr : s.items.drop i = z :: s.items.drop (i + 1) := by
      rw [List.drop_eq_getElem_cons hi2]
      congr 1
      rw [List.getElem?_eq_getElem hi2] at hz
      exact Option.some.inj hz
    have o3 := OutS.tr ee3.es o2
    rw [dr] at o3
    unfold forF at o3
    cases hset : set z env2 with
    | none => rw [hset] at o3; exact o3.elim
    | some env3 =>
      rw [hset] at o3
      dsimp only at o3
      refine ⟨g2, st2, env2, z, env3, rel3, rs3, hx z hz, hset, fun σ4 rs4 _ => ⟨g2, st2, env3, rel3, rs4, ?_⟩⟩
      have nxt : ∀ {g5 : G} {H5 : Hp} {σ5 : St} {env5 : Ev} {st5 : Sto}, ES g2 H3 g5 H5 → Rel W g5 st5 H5 → RS W g5 H5 env5 σ5 → OutS W E g2 H3 (if s.ok st5 = true then forF set fb s (s.items.drop (i + 1)) env5 st5 else .bad) D →
          ∃ g st env, Rel W g st H5 ∧ RS W g H5 env σ5 ∧ Rs W g H5 (s.gs.map (·.1)) us ∧ Stand s st ∧ OutS W E g H5 (forF set fb s (s.items.drop (i + 1)) env st) D := fun {g5 H5 σ5 env5 st5} es rel5 rs5 o5 => by
        by_cases hk : s.ok st5 = true
        · rw [if_pos hk] at o5
          exact ⟨g5, st5, env5, rel5, rs5, ru3.es es, Src.ok_iff hk, OutS.tr es o5⟩
        · rw [if_neg hk] at o5
          exact o5.elim
      revert o3
      cases fb env3 st2 with
      | bad => exact fun o3 => o3
      | exc c fs st5 => exact fun o3 => o3
      | ok fl st5 =>
        cases fl with
        | nx env5 => exact fun o3 g5 H5 σ5 es rel5 rs5 => nxt es rel5 rs5 o3
        | ct env5 => exact fun o3 g5 H5 σ5 es rel5 rs5 => nxt es rel5 rs5 o3
        | bk env5 => exact fun o3 g5 H5 σ5 es rel5 rs5 => o3 g5 H5 σ5 es rel5 rs5
        | rt v => exact fun o3 g5 H5 u es rel5 r => o3 g5 H5 u es rel5 r
def whileF (t : FT) (body : FSt) : Nat → Ev → Sto → Res Fl
  | 0, _, _ => .bad
  | n + 1, env, st => (t env st).bind fun b st => if b = true then (body env st).bind fun fl st => match fl with
      | .nx env => whileF t body n env st
      | .ct env => whileF t body n env st
      | .bk env => .ok (.nx env) st
      | .rt v => .ok (.rt v) st
    else .ok (.nx env) st
theorem ss_while {c : Expr} {body : List Stmt} {t : FT} {fb : FSt} (n : Nat) (hp : PassesOwn (model X.prog X.w) X.A X.env X.xe) (hc : ST X W E c t) (hb : SSs X W E body fb) : SS X W E (.While c body [] pos) (whileF t fb n) := by
  refine ps_weak (ps_while hp hc hb) ?_
  rintro D σ H ⟨g, st, env, rel, rs, o⟩
  refine ⟨fun m σ H => ∃ g st env, Rel W g st H ∧ RS W g H env σ ∧ OutS W E g H (whileF t fb m env st) D, ⟨n, g, st, env, rel, rs, o⟩, ?_⟩
  rintro m σ2 H2 ⟨g2, st2, env2, rel2, rs2, o2⟩
  cases m with
  | zero => exact o2.elim
  | succ m =>
    unfold whileF at o2
    refine ⟨g2, st2, env2, rel2, rs2, outS_bind o2 fun b st3 g3 H3 _ ee3 rel3 o3 => ?_⟩
    have rs3 := rs2.ee rel2 ee3
    cases b with
    | false =>
      exact o3 g3 H3 σ2 ES.refl rel3 rs3
    | true =>
      rw [if_pos rfl] at o3
      show ∃ N : St → Hp → Prop, _
      refine ⟨fun σ' H' => ∃ g st env, Rel W g st H' ∧ RS W g H' env σ' ∧ OutS W E g H' (whileF t fb m env st) D, fun σ' H' h => ⟨m, by omega, h⟩, g3, st3, env2, rel3, rs3, ?_⟩
      revert o3
      cases fb env2 st3 with
      | bad => exact fun o3 => o3
      | exc c fs st5 => exact fun o3 => o3
      | ok fl st5 =>
        cases fl with
        | nx env5 => exact fun o3 g5 H5 σ5 es rel5 rs5 => ⟨g5, st5, env5, rel5, rs5, OutS.tr es o3⟩
        | ct env5 => exact fun o3 g5 H5 σ5 es rel5 rs5 => ⟨g5, st5, env5, rel5, rs5, OutS.tr es o3⟩
        | bk env5 => exact fun o3 g5 H5 σ5 es rel5 rs5 => o3 g5 H5 σ5 es rel5 rs5
        | rt v => exact fun o3 g5 H5 u es rel5 r => o3 g5 H5 u es rel5 r
def vCell (f : FA) : FE := fun env st => (f env st).bind fun xs st => .ok (.ref (st : List Ob).length) (st ++ [.lst xs])
theorem cell_t {f : FA} : ∀ σ H Q, tE W E (vCell f) σ H Q → tL W E f σ H Q := by
  rintro σ H Q ⟨g, st, env, rel, rs, o⟩
  refine ⟨g, st, env, rel, rs, ?_⟩
  have o' : Out W E g H ((f env st).bind fun xs st => .ok (.ref (st : List Ob).length) (st ++ [.lst xs])) (fun v g' _ H' => ∀ u, R W g' H' v u → Q u H') := o
  cases e : f env st with
  | bad => rw [e] at o'; exact o'
  | exc c fs s => rw [e] at o'; exact o'
  | ok xs st1 =>
    rw [e, Res.bind_ok] at o'
    intro g1 H1 ee rel1 p vs hp hb relh hl r
    refine o' (g1.more p) H1 (ES.moreOf ee hp) (relh.cellOf hb (o := .lst xs) ⟨vs, hl, r⟩) _ ⟨p, rfl, ?_⟩
    show (g1.rho ++ [p])[(st1 : List Ob).length]? = some p
    have l : g1.rho.length = (st1 : List Ob).length := rel1.len
    rw [← l, List.getElem?_append_right (Nat.le_refl _), Nat.sub_self]
    rfl
theorem se_cell {e : Expr} {f : FA} (h : SL X W E e f) : SE X W E e (vCell f) := pe_weak h cell_t
def ixZ (n : Nat) (v : Vl) : Option Nat := match v with
  | .int k => ixN n k
  | .bl b => ixN n (if b then 1 else 0)
  | _ => none
/-- of a list of the frame's own -/
def sPut (i : Nat) (fi fv : FE) : FSt := fun env st => (fv env st).bind fun v st => match env[i]? with
  | some (some (.own (.lst _))) => (fi env st).bind fun k st => (match env[i]?, k with
    | some (some (.own (.lst xs))), .int k => (match ixN xs.length k with
      | some j => .ok (.nx (env.set i (some (.own (.lst (xs.set j v)))))) st
      | none => .bad)
    | _, _ => .bad)
  | _ => .bad
theorem plainSub {o ix : Expr} (h : notSlice ix = true) : ∀ v, assign (.Subscript o ix pos) X.env v = (do
      let ov ← holding [v] (eval o X.env)
      let iv ← holding [v, ov] (eval ix X.env)
      standAt pos
      holding [v, ov, iv] (setItem ov iv v)
      release [v, ov, iv] []) := by
  intro v
  cases ix <;> first | rfl | cases h
theorem ps_put {o ix e : Expr} {to ti te : TE} {p : Pos} (he : PE X e te) (ho : PE X o to) (hi : PE X ix ti) (hn : notSlice ix = true) (hc : notComp e = true) : PS X (.Assign [.Subscript o ix p] e pos) (tAsg te (gSub to ti rSetL)) := by
  exact ps_asg he (pg_sub ho hi set_list (plainSub hn)) (show swapsWith e (some (.Subscript o ix p)) pos.line X.env = pure false from notComp_ok hc) (by cases e <;> rfl)
theorem ss_put {x : Str} {i : Nat} {ix e : Expr} {fi fv : FE} {p p2 : Pos} (hN : X.N[i]? = some x) (hv : Vis X.env.scope x) (hd : (x == ("__debug__" : Str)) = false) (hcd : (x == ("__classdict__" : Str)) = false) (he : SE X W E e fv) (hi : SB X W E ix fi) (hn : notSlice ix = true) (hc : notComp e = true) :
    SS X W E (.Assign [.Subscript (.Name x p) ix p2] e pos) (sPut i fi fv) := by
  refine ps_weak (ps_put he (pe_var hN hv hd hcd) hi hn hc) ?_
  rintro D σ H ⟨g, st, env, rel, rs, o⟩
  refine ⟨g, st, env, rel, rs, outS_bind o fun v st1 g1 H1 _ ee1 rel1 o1 y ry => ?_⟩
  have rs1 := rs.ee rel ee1
  split at o1
  · rename_i xs he
    obtain ⟨u, hs, a, eu, ha, vs, hH, r⟩ := rs1.at_ i _ he
    subst eu
    refine ⟨_, hs, ?_⟩
    refine ⟨g1, st1, env, rel1, rs1, outS_bind o1 fun k st2 g2 H2 _ ee2 rel2 o2 z rz => ?_⟩
    rw [he] at o2
    cases k with
    | int k =>
      dsimp only at o2
      split at o2
      · rename_i j hj
        have ha2 : a ∈ g2.own := ee2.own ▸ ha
        have hH2 : H2 a = some (.lst vs) := ee2.keep a _ hH (rel1.prot a (.inr ha)).2
        have r2 := r.ee ee2
        have l2 := r2.length
        have lz : vs.length ≤ sizeLine := rel2.sz a vs (.inl hH2)
        obtain ⟨rel3, m, es⟩ := rel2.putOwn (u := .lst (vs.set j y)) ha2 (by show (vs.set j y).length ≤ _; rw [List.length_set]; exact lz) fun z => z.elim
        refine ⟨a, vs, k, j, rfl, rb_int rz, hH2, by rw [← l2]; exact hj, ?_⟩
        exact o2 g2 _ σ es rel3 ((rs1.ee rel1 ee2).putOwn he hs ha2 m (o' := .lst (xs.set j v)) ⟨_, rfl, r2.set j (ry.ee ee2)⟩)
      · exact o2.elim
    | _ => exact o2.elim
  · exact o1.elim
/-- of a cell -/
def sPutR (fo fi fv : FE) : FSt := fun env st => (fv env st).bind fun v st => (fo env st).bind fun x st => (fi env st).bind fun k st => (match x, k with
  | .ref n, .int k => (match (st : List Ob)[n]? with
    | some (.lst xs) => (match ixN xs.length k with
      | some j => .ok (.nx env) ((st : List Ob).set n (.lst (xs.set j v)))
      | none => .bad)
    | _ => .bad)
  | _, _ => .bad)
theorem ss_putR {o ix e : Expr} {fo fi fv : FE} {p2 : Pos} (he : SE X W E e fv) (ho : SE X W E o fo) (hi : SB X W E ix fi) (hn : notSlice ix = true) (hc : notComp e = true) :
    SS X W E (.Assign [.Subscript o ix p2] e pos) (sPutR fo fi fv) := by
  refine ps_weak (ps_put he ho hi hn hc) ?_
  rintro D σ H ⟨g, st, env, rel, rs, o⟩
  refine ⟨g, st, env, rel, rs, outS_bind o fun v st1 g1 H1 _ ee1 rel1 o1 y ry => ?_⟩
  have rs1 := rs.ee rel ee1
  refine ⟨g1, st1, env, rel1, rs1, outS_bind o1 fun x st2 g2 H2 _ ee2 rel2 o2 u ru => ?_⟩
  have rs2 := rs1.ee rel1 ee2
  refine ⟨g2, st2, env, rel2, rs2, outS_bind o2 fun k st3 g3 H3 _ ee3 rel3 o3 z rz => ?_⟩
  have rs3 := rs2.ee rel2 ee3
  cases x with
  | ref n =>
    cases k with
    | int k =>
      dsimp only at o3
      split at o3
      · rename_i xs hq
        split at o3
        · rename_i j hj
          obtain ⟨a, eu, ha⟩ := ru
          have ha3 : g3.rho[n]? = some a := ee3.mo.nth n a ha
          obtain ⟨vs, hH, r⟩ := rel3.cell n a _ ha3 hq
          have l3 := r.length
          have lz : vs.length ≤ sizeLine := rel3.sz a vs (.inl hH)
          obtain ⟨rel4, ee4⟩ := rel3.put ha3 (o := .lst (xs.set j v)) (u := .lst (vs.set j y)) ⟨_, rfl, r.set j ((ry.ee ee2).ee ee3)⟩ (by show (vs.set j y).length ≤ _; rw [List.length_set]; exact lz)
          exact ⟨a, vs, k, j, eu, rb_int rz, hH, by rw [← l3]; exact hj, o3 g3 _ σ ee4.es rel4 (rs3.ee rel3 ee4)⟩
        · exact o3.elim
      · exact o3.elim
    | _ => exact o3.elim
  | _ => exact o3.elim
end
end TW
set_option maxHeartbeats 800000
namespace TW
open PySem PySem.Spec L2
def OutR (W : Wd) (E : XK) (g : G) (H : Hp) (r : Res Vl) (Q : VK) : Prop := match r with
  | .ok v st => ∀ g' H' u, ES g H g' H' → Rel W g' st H' → R W g' H' v u → Q u H'
  | .exc c fs st => ∀ g' H' d, ES g H g' H' → Rel W g' st H' → XD W g' H' c fs d → E (.ref (W.exc c)) (some d) H'
  | .bad => False
abbrev Fn := List Vl → Sto → Res Vl
/-- what a def promises -/
def spF (W : Wd) (n : Nat) (F : Fn) : Sp := fun vs H Q E => ∃ g st xs, Rel W g st H ∧ g.own = [] ∧ Rs W g H xs vs ∧ xs.length = n ∧ OutR W E g H (F xs st) Q
theorem spF_len {W : Wd} {n : Nat} {F : Fn} {vs : List V} {H : Hp} {Q : VK} {E : XK} (h : spF W n F vs H Q E) : vs.length = n := by
  obtain ⟨g, st, xs, _, _, r, l, _⟩ := h
  rw [← r.length]; exact l
def entry (n : Nat) (xs : List Vl) : Ev := xs.map (fun x => some (.val x)) ++ List.replicate (n - xs.length) none
def runF (n : Nat) (fb : FSt) : Fn := fun xs st => (fb (entry n xs) st).bind fun fl st => match fl with
  | .rt v => .ok v st
  | .nx _ => .ok .non st
  | _ => .bad
theorem entry_rs {W : Wd} {g : G} {H : Hp} {N : List Str} {xs : List Vl} {vs : List V} (r : Rs W g H xs vs) : RS W g H (entry N.length xs) (L2.start N vs) := by
  have l := r.length
  have val : ∀ (i : Nat) (s : Sl), (entry N.length xs)[i]? = some (some s) → ∃ x, xs[i]? = some x ∧ s = .val x := fun i s e => by
    unfold entry at e
    by_cases hi : i < xs.length
    · rw [List.getElem?_append_left (by simpa using hi), List.getElem?_map, List.getElem?_eq_getElem hi] at e
      exact ⟨_, List.getElem?_eq_getElem hi, (Option.some.inj (Option.some.inj e)).symm⟩
    · rw [List.getElem?_append_right (by simpa using hi), List.getElem?_replicate] at e
      split at e <;> cases e
  refine ⟨by simp [entry, L2.start, l], fun i s e => ?_, fun i j o o' a e1 _ _ _ => ?_⟩
  · obtain ⟨x, hx, rfl⟩ := val i s e
    obtain ⟨u, hu, ru⟩ := r.get hx
    refine ⟨u, ?_, ru⟩
    have hi : i < vs.length := (List.getElem?_eq_some_iff.mp hu).1
    unfold L2.start
    rw [List.getElem?_append_left (by simpa using hi), List.getElem?_map, hu]
    rfl
  · obtain ⟨x, _, z⟩ := val i _ e1
    cases z
theorem fn_body {W : Wd} {P : Program} {w : World} {K : PySem.W.Frag} {mg : Str → Option Value} {base : Heap} {k : Nat} {f : Addr} {name qual : Str} {params : Arguments} {body : List Stmt} {scope : Scope} {dV kV doc pm cdv ct oc : Value} {an od : Option Addr}
    {osl : Array (Option Value)} {N ps : List Str} {fb : FSt} (lk : K.lookup f = some ⟨oc, od, .func (PySem.W.fnOf name qual params body scope dV kV doc pm an cdv ct), osl⟩) (hcd : PySem.W.codeIn K cdv qual = true) (S : FnScope N ps scope)
    (hb : ∀ (A : Around) (outer : List Env) (s : Shared) (H : Hp) (E : XK), Room k (A.deeper (PyProof.Rows.envOfC qual scope s.heap.objs.size f cdv)) → SSs (cxOf (L2.CX P w) P w K mg base N qual scope f cdv A outer s H E) W E body fb) :
    FnOk P w K mg base (L2.CX P w) (k + 1) f (PySem.W.fnOf name qual params body scope dV kV doc pm an cdv ct) ps (spF W ps.length (runF N.length fb)) := by
  refine fn_of lk hcd S (fun vs H Q E h => spF_len h) fun A outer s H vs Q E hr hsp => ⟨_, hb A outer s H E hr, ?_⟩
  obtain ⟨g, st, xs, rel, _, r, _, o⟩ := hsp
  refine ⟨g, st, entry N.length xs, rel, entry_rs r, ?_⟩
  unfold runF at o
  revert o
  cases fb (entry N.length xs) st with
  | bad => exact fun o => o
  | exc c fs st => exact fun o => o
  | ok fl st =>
    cases fl with
    | nx env => exact fun o g' H' σ' es rel' _ => o g' H' _ es rel' rfl
    | rt v => exact fun o g' H' u es rel' ru => o g' H' u es rel' ru
    | bk env => exact fun o => o.elim
    | ct env => exact fun o => o.elim
/-- the ghost at a call -/
def G.call (g : G) : G := ⟨g.rho, g.own ++ g.base, []⟩
def G.back (g g1 : G) : G := ⟨g1.rho, g.base, g.own⟩
theorem Imm.call {g : G} {a : Addr} (i : Imm g a) : Imm g.call a := ⟨i.r, fun z => (List.mem_append.mp (show a ∈ g.own ++ g.base from z)).elim i.o i.b, fun z => by cases z⟩
theorem Mo.call {g : G} {H : Hp} : Mo g H g.call H := ⟨fun a i _ => i.call, fun _ _ _ e => e, fun _ _ e => e⟩
theorem Rel.call {W : Wd} {g : G} {st : Sto} {H : Hp} (r : Rel W g st H) : Rel W g.call st H :=
  ⟨r.len, r.nd, fun n a o e1 e2 => (r.cell n a o e1 e2).mo Mo.call, fun a h => r.prot a (h.elim (fun z => (List.mem_append.mp (show a ∈ g.own ++ g.base from z)).symm) fun z => by cases z), fun a _ z => (by cases z), r.sz⟩
section
variable {W : Wd} {g g1 : G} {H H1 : Hp} {st1 : Sto}
theorem Imm.back {a : Addr} (es : ES g.call H g1 H1) (i : Imm g1 a) : Imm (g.back g1) a := by
  have hb : a ∉ g.own ++ g.base := fun z => i.b (by rw [es.base]; exact z)
  exact ⟨i.r, fun z => hb (List.mem_append_right _ z), fun z => hb (List.mem_append_left _ z)⟩
theorem Mo.back (es : ES g.call H g1 H1) : Mo g1 H1 (g.back g1) H1 := ⟨fun a i _ => i.back es, fun _ _ _ e => e, fun _ _ e => e⟩
theorem EE.back {st : Sto} (rel0 : Rel W g st H) (es : ES g.call H g1 H1) : EE g H (g.back g1) H1 := ⟨es.pre, rfl, rfl, fun a o e n => es.keep a o e n (fun z => by cases z), es.fresh, es.there, fun a h i => by
  cases q : H a with
  | none => exact .inr rfl
  | some o =>
    have k := es.keep a o q (rel0.prot a (.inr h)).2 (fun z => by cases z)
    rw [k] at i
    exact .inl i⟩
theorem Rel.back (rel : Rel W g1 st1 H1) (rel0 : ∀ a ∈ g.base, a ∉ g.own) (es : ES g.call H g1 H1) : Rel W (g.back g1) st1 H1 := by
  refine ⟨rel.len, rel.nd, fun n a o e1 e2 => (rel.cell n a o e1 e2).mo (Mo.back es), fun a h => rel.prot a (.inl ?_), fun a h z => rel0 a h z, rel.sz⟩
  rw [es.base]
  exact h.elim (fun z => List.mem_append_right _ z) fun z => List.mem_append_left _ z
theorem call_out {E : XK} {r : Res Vl} {Q : VK} {st : Sto} (rel : Rel W g st H) (o : Out W E g H r (fun v g' _ H' => ∀ u, R W g' H' v u → Q u H')) : OutR W E g.call H r Q := by
  cases r with
  | bad => exact o
  | ok v st1 => exact fun g' H' u es rel' ru => o _ _ (EE.back rel es) (rel'.back rel.disj es) u (ru.mo (Mo.back es))
  | exc c fs st1 => exact fun g' H' d es rel' x => o _ _ d (EE.back rel es) (rel'.back rel.disj es) (x.mo (Mo.back es))
end
def vCall (F : Fn) (fa : FA) : FE := fun env st => (fa env st).bind fun xs st => F xs st
/-- a def that may be called -/
structure CallOk (X : Cx) (W : Wd) (x : Str) (n : Nat) (F : Fn) : Prop where
  ex : ∃ (k : Nat) (f : Addr) (fd : FuncData) (ps : List Str), FnOk X.prog X.w X.K X.mg X.base (L2.CX X.prog X.w) k f fd ps (spF W n F) ∧ Room k X.A ∧ X.mg x = some (.ref f) ∧ PySem.W.keepIn X.K (.ref f) = true ∧ Binds X.K fd ps []
section
variable {X : Cx} {W : Wd} {E : XK} {pos : Pos}
theorem call_t {n : Nat} {F : Fn} {fa : FA} (hl : ∀ env st xs st1, fa env st = .ok xs st1 → xs.length = n) : ∀ σ H Q, tE W E (vCall F fa) σ H Q → tCall (spF W n F) [] E (tA W E fa) σ H Q := by
  rintro σ H Q ⟨g, st, env, rel, rs, o⟩
  refine tA_bind rel rs o fun xs st1 g1 H1 us e ee1 rel1 r1 o1 => ?_
  rw [List.append_nil]
  exact ⟨g1.call, st1, xs, rel1.call, rfl, r1.mo Mo.call, hl _ _ _ _ e, call_out rel1 o1⟩
theorem se_call {x : Str} {n : Nat} {F : Fn} {fs : List FE} {e : Expr} {es : List Expr} {p : Pos} (c : CallOk X W x n F) (hx : Passes (L2.CX X.prog X.w) X E) (hg : Gl X x) (hd : (x == ("__debug__" : Str)) = false) (ha : SA X W E (e :: es) (fArgs fs)) (hl : fs.length = n) (hn : (e :: es).all notStar = true) :
    SE X W E (.Call (.Name x p) (e :: es) [] pos) (vCall F (fArgs fs)) := by
  obtain ⟨k, f, fd, ps, F1, hr, hm, hk, hb⟩ := c.ex
  simp only [List.all_cons, Bool.and_eq_true] at hn
  exact pe_weak (pe_call F1 hr hg hm hk hb .nil hx ha hd (notStar_ok hn.1) (noStars hn.2)) (call_t fun env st xs st1 e => by rw [fArgs_len e]; exact hl)
theorem se_call0 {x : Str} {F : Fn} {p : Pos} (c : CallOk X W x 0 F) (hx : Passes (L2.CX X.prog X.w) X E) (hg : Gl X x) (hd : (x == ("__debug__" : Str)) = false) : SE X W E (.Call (.Name x p) [] [] pos) (vCall F (fArgs [])) := by
  obtain ⟨k, f, fd, ps, F1, hr, hm, hk, hb⟩ := c.ex
  refine pe_weak (pe_call0 F1 hr hg hm hk hb .nil hx hd) fun σ H Q h => ?_
  obtain ⟨g, st, env, rel, rs, o⟩ := h
  have o1 : Out W E g H (F [] st) _ := o
  exact ⟨g.call, st, [], rel.call, rfl, rfl, rfl, call_out rel o1⟩
end
end TW
set_option maxHeartbeats 800000
namespace TW
open PySem PySem.Spec L2
def arr {α : Type} (perm : List Nat) (xs : List α) : List α := perm.filterMap fun i => xs[i]?
theorem vals_arr {vs : List V} {us : List Value} (r : Vals vs us) : ∀ perm : List Nat, Vals (arr perm vs) (arr perm us)
  | [] => .nil
  | i :: is => by
    have ih := vals_arr r is
    have l := r.length
    unfold arr at ih ⊢
    rw [List.filterMap_cons, List.filterMap_cons]
    by_cases hi : i < vs.length
    · obtain ⟨u, hu, ru⟩ := r.get (List.getElem?_eq_getElem hi)
      rw [List.getElem?_eq_getElem hi, hu]
      exact .cons ru ih
    · rw [List.getElem?_eq_none (by omega), List.getElem?_eq_none (by omega)]
      exact ih
theorem rs_arr {W : Wd} {g : G} {H : Hp} {xs : List Vl} {vs : List V} (r : Rs W g H xs vs) : ∀ perm : List Nat, Rs W g H (arr perm xs) (arr perm vs)
  | [] => rfl
  | i :: is => by
    have ih := rs_arr r is
    have l := r.length
    unfold arr at ih ⊢
    rw [List.filterMap_cons, List.filterMap_cons]
    by_cases hi : i < xs.length
    · obtain ⟨u, hu, ru⟩ := r.get (List.getElem?_eq_getElem hi)
      rw [List.getElem?_eq_getElem hi, hu]
      exact Rs.cons ru ih
    · rw [List.getElem?_eq_none (by omega), List.getElem?_eq_none (by omega)]
      exact ih
structure Kw where
  n : Nat
  ks : List Str
  perm : List Nat
def KwBind (K : PySem.W.Frag) (fd : FuncData) (ps : List Str) (q : Kw) : Prop := KBn K fd ps q.n q.ks (fun us ws => arr q.perm (us ++ ws)) (fun vs zs => arr q.perm (vs ++ zs))
theorem kw_of {K : PySem.W.Frag} {fd : FuncData} {ps : List Str} {q : Kw} (h : ∀ us ws : List Value, us.length = q.n → ws.length = q.ks.length → bindArgs fd ⟨us, q.ks.zip ws⟩ = pure (ps.zip (arr q.perm (us ++ ws)))) : KwBind K fd ps q :=
  ⟨fun s us ws _ h1 h2 => .of_eq (h us ws h1 h2), fun r1 r2 => vals_arr (r1.append r2) _⟩
structure CallOkK (X : Cx) (W : Wd) (x : Str) (n : Nat) (F : Fn) (q : Kw) : Prop where
  ex : ∃ (k : Nat) (f : Addr) (fd : FuncData) (ps : List Str), FnOk X.prog X.w X.K X.mg X.base (L2.CX X.prog X.w) k f fd ps (spF W n F) ∧ Room k X.A ∧ X.mg x = some (.ref f) ∧ PySem.W.keepIn X.K (.ref f) = true ∧ KwBind X.K fd ps q
def namedAs : List Keyword → List Str → Bool
  | [], [] => true
  | ⟨some n, e, _⟩ :: r, k :: ks => decide (n = k) && notStar e && namedAs r ks
  | _, _ => false
theorem named_ok {env : Env} {pos : Pos} : ∀ {kws : List Keyword} {ks : List Str}, namedAs kws ks = true → (backToKw pos (keywordEach kws env)).all (·.1.isSome) = true ∧ (backToKw pos (keywordEach kws env)).filterMap (·.1) = ks ∧
    (backToKw pos (keywordEach kws env)).any (·.1.isNone) = false
  | [], [], _ => ⟨rfl, rfl, rfl⟩
  | [], _ :: _, h => by cases h
  | ⟨none, _, _⟩ :: _, _, h => by cases h
  | ⟨some _, _, _⟩ :: _, [], h => by cases h
  | ⟨some n, e, p⟩ :: r, k :: ks, h => by
    simp only [namedAs, Bool.and_eq_true, decide_eq_true_eq] at h
    obtain ⟨⟨e1, _⟩, h2⟩ := h
    obtain ⟨a1, a2, a3⟩ := named_ok (env := env) (pos := pos) h2
    subst e1
    refine ⟨?_, ?_, ?_⟩
    · show (true && _) = true
      rw [Bool.true_and]; exact a1
    · show n :: _ = _
      exact congrArg (n :: ·) a2
    · show (false || _) = false
      rw [Bool.false_or]; exact a3
abbrev SK (X : Cx) (W : Wd) (E : XK) (es : List Keyword) (f : FA) : Prop := PK X es (tA W E f)
def vCallK (F : Fn) (fa fk : FA) (perm : List Nat) : FE := fun env st => (fa env st).bind fun xs st => (fk env st).bind fun ys st => F (arr perm (xs ++ ys)) st
section
variable {X : Cx} {W : Wd} {E : XK} {pos : Pos}
theorem pk_weak {es : List Keyword} {t t' : TA} (h : PK X es t) (i : ∀ σ H Q, t' σ H Q → t σ H Q) : PK X es t' := ⟨fun pos pins s σ H Q I hw => h.run pos pins s σ H Q I (i σ H Q hw)⟩
theorem sk_nil : SK X W E [] (fArgs []) := pk_weak pk_nil fun σ H Q ⟨g, st, env, rel, rs, o⟩ => o.here rel [] rfl
theorem sk_cons {nm : Option Str} {kp : Pos} {e : Expr} {es : List Keyword} {f : FE} {fs : List FE} (h : SE X W E e f) (hs : SK X W E es (fArgs fs)) : SK X W E (⟨nm, e, kp⟩ :: es) (fArgs (f :: fs)) := by
  refine pk_weak (pk_cons h hs) ?_
  rintro σ H Q ⟨g, st, env, rel, rs, o⟩
  refine tE_bind rel rs o fun v st1 g1 H1 u e1 ee1 rel1 r1 o1 => ?_
  refine tA_bind rel1 (rs.ee rel ee1) o1 fun vs st2 g2 H2 us e2 ee2 rel2 r2 o2 => ?_
  exact o2.here rel2 _ (Rs.cons (r1.ee ee2) r2)
/-- f(k = v, ..) -/
theorem pe_named {CX : CXT} {k : Nat} {f : Addr} {fd : FuncData} {ps ks : List Str} {sp : Sp} {x : Str} {p : Pos} {kws : List Keyword} {tk : TA} {ga : List Value → List Value → List Value} {gv : List V → List V → List V}
    (F : FnOk X.prog X.w X.K X.mg X.base CX k f fd ps sp) (room : Room k X.A) (hg : Gl X x) (hm : X.mg x = some (.ref f)) (keep : PySem.W.keepIn X.K (.ref f) = true) (bd : KBn X.K fd ps 0 ks ga gv) (hx : Passes CX X E)
    (hk : PK X kws tk) (nm : namedAs kws ks = true) (hd : (x == ("__debug__" : Str)) = false) : PE X (.Call (.Name x p) [] kws pos) (tCallN 0 ks.length sp gv E tNil tk) := by
  obtain ⟨a1, a2, a3⟩ := named_ok (env := X.env) (pos := pos) nm
  refine ⟨fun pins s σ H Q I h => ?_⟩
  refine wpAny_Call_Name_kw (ld_glob I hg hm ?_ hd)
  refine PySem.W.callWith_KW0 (h₀ := X.base) I.ok.mod.kin keep a1 (thn (hk.run pos pins s σ H _ I h) fun ws s2 ⟨zs, H2, I2, rz, l1, l2, q2⟩ => ⟨I2.kIn, ?_⟩) (by rw [a3] <;> rfl)
  rw [a2]
  exact run_fnN F room bd hx I2 .nil rz l1 l2 q2
theorem callK_out {g g0 : G} {st0 : Sto} {H H0 : Hp} {Q : VK} {q : Kw} {n : Nat} {F : Fn} {xs ys : List Vl} {us ws : List V} (rel1 : Rel W g st0 H) (r1 : Rs W g H xs us) (r2 : Rs W g H ys ws) (hl : (arr q.perm (xs ++ ys)).length = n)
    (o : Out W E g H (F (arr q.perm (xs ++ ys)) st0) (fun v g' _ H' => ∀ u, R W g' H' v u → Q u H')) : spF W n F (arr q.perm (us ++ ws)) H Q E :=
  ⟨g.call, st0, _, rel1.call, rfl, (rs_arr (r1.append r2) q.perm).mo Mo.call, hl, call_out rel1 o⟩
theorem arr_len {α : Type} {xs : List α} : ∀ {perm : List Nat}, (perm.all fun i => decide (i < xs.length)) = true → (arr perm xs).length = perm.length
  | [], _ => rfl
  | i :: is, h => by
    simp only [List.all_cons, Bool.and_eq_true, decide_eq_true_eq] at h
    have ih := arr_len h.2
    unfold arr at ih ⊢
    rw [List.filterMap_cons, List.getElem?_eq_getElem h.1]
    simp [ih]
theorem se_named {x : Str} {n : Nat} {F : Fn} {q : Kw} {ks : List FE} {kws : List Keyword} {p : Pos} (c : CallOkK X W x n F q) (hx : Passes (L2.CX X.prog X.w) X E) (hg : Gl X x) (hd : (x == ("__debug__" : Str)) = false) (h0 : q.n = 0)
    (hk : SK X W E kws (fArgs ks)) (nm : namedAs kws q.ks = true) (hlen : (q.perm.all fun i => decide (i < ks.length)) = true) (hn : q.perm.length = n) (hkl : ks.length = q.ks.length) : SE X W E (.Call (.Name x p) [] kws pos) (vCallK F (fArgs []) (fArgs ks) q.perm) := by
  obtain ⟨k, f, fd, ps, F1, hr, hm, kp, hb⟩ := c.ex
  have hb' : KBn X.K fd ps 0 q.ks (fun us ws => arr q.perm (us ++ ws)) (fun vs zs => arr q.perm (vs ++ zs)) := h0 ▸ hb
  refine pe_weak (pe_named F1 hr hg hm kp hb' hx hk nm hd) ?_
  rintro σ H Q ⟨g, st, env, rel, rs, o⟩
  have o0 : Out W E g H ((fArgs ks env st).bind fun ys st => F (arr q.perm ([] ++ ys)) st) (fun v g' _ H' => ∀ u, R W g' H' v u → Q u H') := o
  refine tA_bind rel rs o0 fun ys st1 g1 H1 us e ee1 rel1 r1 o1 => ?_
  have ly := fArgs_len e
  have lu := r1.length
  exact ⟨rfl, by omega, callK_out (g0 := g) (H0 := H) rel1 (xs := []) (us := []) rfl r1 (by rw [arr_len (by simpa [ly] using hlen)]; exact hn) o1⟩
theorem se_callK {x : Str} {n : Nat} {F : Fn} {q : Kw} {fs ks : List FE} {e : Expr} {es : List Expr} {kws : List Keyword} {p : Pos} (c : CallOkK X W x n F q) (hx : Passes (L2.CX X.prog X.w) X E) (hg : Gl X x) (hd : (x == ("__debug__" : Str)) = false)
    (ha : SA X W E (e :: es) (fArgs fs)) (hs : (e :: es).all notStar = true) (h0 : fs.length = q.n)
    (hk : SK X W E kws (fArgs ks)) (nm : namedAs kws q.ks = true) (hlen : (q.perm.all fun i => decide (i < fs.length + ks.length)) = true) (hn : q.perm.length = n) (hkl : ks.length = q.ks.length) : SE X W E (.Call (.Name x p) (e :: es) kws pos) (vCallK F (fArgs fs) (fArgs ks) q.perm) := by
  obtain ⟨k, f, fd, ps, F1, hr, hm, kp, hb⟩ := c.ex
  obtain ⟨a1, a2, a3⟩ := named_ok (env := X.env) (pos := pos) nm
  have hs2 := hs
  simp only [List.all_cons, Bool.and_eq_true] at hs2
  refine pe_weak (pe_callN F1 hr hg hm kp hb hx ha hk a1 a2 hd (notStar_ok hs2.1) (by rw [a3, noStars hs] <;> rfl)) ?_
  rintro σ H Q ⟨g, st, env, rel, rs, o⟩
  refine tA_bind rel rs o fun xs st1 g1 H1 us e ee1 rel1 r1 o1 => ?_
  refine tA_bind rel1 (rs.ee rel ee1) o1 fun ys st2 g2 H2 ws e2 ee2 rel2 r2 o2 => ?_
  have lx := fArgs_len e
  have ly := fArgs_len e2
  have lu := r1.length
  have lw := r2.length
  refine ⟨by omega, by omega, callK_out (g0 := g) (H0 := H) rel2 (r1.ee ee2) r2 (by rw [arr_len (by simpa [lx, ly] using hlen)]; exact hn) o2⟩
end
end TW
set_option maxHeartbeats 800000
namespace TW
open PySem PySem.Spec L2
abbrev Fi := List Vl → Sto → Res (List Vl)
def OutI (W : Wd) (E : XK) (g : G) (H : Hp) (a : Addr) (c : Nat) (r : Res (List Vl)) (Q : Hp → Prop) : Prop := match r with
  | .ok fs st => ∀ g' H', ES g H g' H' → Rel W g' st H' → a ∈ g'.own → RO W g' H' (.ins c fs) (H' a) → fs.length = (W.flds c).length → Q H'
  | .exc k fs st => ∀ g' H' d, ES g H g' H' → Rel W g' st H' → XD W g' H' k fs d → E (.ref (W.exc k)) (some d) H'
  | .bad => False
/-- what an __init__ promises -/
def spI (W : Wd) (c n : Nat) (F : Fi) : Sp := fun vs H Q E => ∃ g st xs a dx ws, vs = .ref a :: ws ∧ H a = some (.ins (W.cls c) dx []) ∧ Rel W g st H ∧ g.own = [a] ∧ Rs W g H xs ws ∧ xs.length = n ∧ OutI W E g H a c (F xs st) (Q .non)
theorem spI_len {W : Wd} {c n : Nat} {F : Fi} {vs : List V} {H : Hp} {Q : VK} {E : XK} (h : spI W c n F vs H Q E) : vs.length = n + 1 := by
  obtain ⟨g, st, xs, a, dx, ws, rfl, _, _, _, r, l, _⟩ := h
  rw [List.length_cons, ← r.length, l]
def entryI (c n : Nat) (xs : List Vl) : Ev := some (.own (.ins c [])) :: entry (n - 1) xs
def runI (c n m : Nat) (fb : FSt) : Fi := fun xs st => (fb (entryI c n xs) st).bind fun fl st => match fl with
  | .nx env => (match env[0]? with
    | some (some (Sl.own (Ob.ins c' fs))) => if c' = c ∧ fs.length = m then .ok fs st else .bad
    | _ => .bad)
  | _ => .bad
theorem entryI_rs {W : Wd} {g : G} {H : Hp} {N : List Str} {c : Nat} {a dx : Addr} {xs : List Vl} {ws : List V} (r : Rs W g H xs ws) (ha : a ∈ g.own) (hH : H a = some (.ins (W.cls c) dx [])) (hN : 0 < N.length) : RS W g H (entryI c N.length xs) (L2.start N (.ref a :: ws)) := by
  obtain ⟨y, N', rfl⟩ : ∃ y N', N = y :: N' := by
    cases N with
    | nil => simp at hN
    | cons y N' => exact ⟨y, N', rfl⟩
  have e0 : L2.start (y :: N') (.ref a :: ws) = some (.ref a) :: L2.start N' ws := by
    unfold L2.start
    simp
  have t := entry_rs (N := N') r
  have ee : entryI c (y :: N').length xs = some (.own (.ins c [])) :: entry N'.length xs := by unfold entryI; simp
  have own0 : ∀ {i : Nat} {o : Ob}, (entry N'.length xs)[i]? = some (some (.own o)) → False := fun {i o} e => by
    unfold entry at e
    by_cases hi : i < xs.length
    · rw [List.getElem?_append_left (by simpa using hi), List.getElem?_map, List.getElem?_eq_getElem hi] at e
      cases e
    · rw [List.getElem?_append_right (by simpa using hi), List.getElem?_replicate] at e
      split at e <;> cases e
  rw [e0, ee]
  refine ⟨by simp [t.len], fun i s e => ?_, fun i j o o' b e1 e2 _ _ => ?_⟩
  · cases i with
    | zero =>
      cases e
      exact ⟨_, rfl, a, rfl, ha, dx, [], hH, by simp, rfl⟩
    | succ i => exact t.at_ i s e
  · cases i with
    | zero =>
      cases j with
      | zero => rfl
      | succ j => exact (own0 e2).elim
    | succ i => exact (own0 e1).elim
theorem fn_init {W : Wd} {P : Program} {w : World} {K : PySem.W.Frag} {mg : Str → Option Value} {base : Heap} {k c : Nat} {f : Addr} {name qual : Str} {params : Arguments} {body : List Stmt} {scope : Scope} {dV kV doc pm cdv ct oc : Value} {an od : Option Addr}
    {osl : Array (Option Value)} {N ps : List Str} {fb : FSt} (lk : K.lookup f = some ⟨oc, od, .func (PySem.W.fnOf name qual params body scope dV kV doc pm an cdv ct), osl⟩) (hcd : PySem.W.codeIn K cdv qual = true) (S : FnScope N ps scope) (hps : 0 < ps.length)
    (hb : ∀ (A : Around) (outer : List Env) (s : Shared) (H : Hp) (E : XK), Room k (A.deeper (PyProof.Rows.envOfC qual scope s.heap.objs.size f cdv)) → SSs (cxOf (L2.CX P w) P w K mg base N qual scope f cdv A outer s H E) W E body fb) :
    FnOk P w K mg base (L2.CX P w) (k + 1) f (PySem.W.fnOf name qual params body scope dV kV doc pm an cdv ct) ps (spI W c (ps.length - 1) (runI c N.length (W.flds c).length fb)) := by
  refine fn_of lk hcd S (fun vs H Q E h => by have := spI_len h; omega) fun A outer s H vs Q E hr hsp => ⟨_, hb A outer s H E hr, ?_⟩
  obtain ⟨g, st, xs, a, dx, ws, rfl, hH, rel, own, r, _, o⟩ := hsp
  have hN : 0 < N.length := by
    have := congrArg List.length S.pre
    rw [List.length_take] at this
    omega
  refine ⟨g, st, entryI c N.length xs, rel, entryI_rs r (by rw [own]; exact List.mem_cons_self) hH hN, ?_⟩
  unfold runI at o
  revert o
  cases fb (entryI c N.length xs) st with
  | bad => exact fun o => o
  | exc c fs st => exact fun o => o
  | ok fl st1 =>
    cases fl with
    | nx env =>
      intro o g' H' σ' es rel' rs'
      rw [Res.bind_ok] at o
      dsimp only at o
      split at o
      · rename_i c' fs he
        split at o
        · rename_i hc
          obtain ⟨u, hs, b, eu, hb', q⟩ := rs'.at_ 0 _ he
          have hin : Ins (H' b) := by
            obtain ⟨dx', ps', e1, _⟩ := q
            rw [e1]; exact True.intro
          have hba : b = a := by
            by_cases k : b ∈ g.own
            · rw [own] at k; simpa using k
            · exact absurd hin ((es.oi b hb').1 k).2
          subst hba
          obtain ⟨rfl, hl⟩ := hc
          exact o g' H' es rel' hb' q hl
        · exact o.elim
      · exact o.elim
    | rt v => exact fun o => o.elim
    | bk env => exact fun o => o.elim
    | ct env => exact fun o => o.elim
structure MakeOk (X : Cx) (W : Wd) (x : Str) (c n : Nat) (F : Fi) : Prop where
  ex : ∃ (k : Nat) (f : Addr) (fd : FuncData) (ps : List Str), FnOk X.prog X.w X.K X.mg X.base (L2.CX X.prog X.w) k f fd ps (spI W c n F) ∧ Room (k + 1) X.A ∧ X.mg x = some (.ref (W.cls c)) ∧ Mk X.K (W.cls c) f ∧ Binds X.K fd ps []
def G.fresh (g : G) (a : Addr) : G := ⟨g.rho, g.own ++ g.base, [a]⟩
section
variable {X : Cx} {W : Wd} {E : XK} {pos : Pos} {g g1 : G} {st st1 : Sto} {H H1 : Hp}
theorem Rel.fresh (rel : Rel W g st H) {a dx : Addr} {C : Addr} (ha : H a = none) (hd : H dx = none) (ne : dx ≠ a) : Rel W (g.fresh a) st (upd (upd H dx (.own a)) a (.ins C dx [])) ∧ Mo g H (g.fresh a) (upd (upd H dx (.own a)) a (.ins C dx [])) := by
  have r1 : Rel W g st (upd H dx (.own a)) := rel.new hd True.intro
  have ha1 : upd H dx (.own a) a = none := by rw [upd_ne (Ne.symm ne)]; exact ha
  have r2 := r1.new (o := .ins C dx []) ha1 True.intro
  have fr := rel.free ha
  have mo : Mo g H (g.fresh a) (upd (upd H dx (.own a)) a (.ins C dx [])) := by
    refine ⟨fun b i t => ⟨i.r, fun z => (List.mem_append.mp (show b ∈ g.own ++ g.base from z)).elim i.o i.b, fun z => ?_⟩, fun b o _ e => ?_, fun _ _ e => e⟩
    · have : b = a := by simpa [G.fresh] using z
      exact t (this ▸ ha)
    · rw [upd_ne (ne_of_none e ha), upd_ne (ne_of_none e hd)]; exact e
  refine ⟨⟨rel.len, rel.nd, fun n b o e1 e2 => ?_, fun b h => ?_, fun b h z => ?_, r2.sz⟩, mo⟩
  · have k := rel.cell n b o e1 e2
    obtain ⟨u, hu⟩ := k.some
    rw [upd_ne (ne_of_none hu ha), upd_ne (ne_of_none hu hd)]
    exact k.mo mo
  · rcases h with h | h
    · have hb : b ∈ g.base ∨ b ∈ g.own := (List.mem_append.mp (show b ∈ g.own ++ g.base from h)).symm
      have p := rel.prot b hb
      refine ⟨?_, p.2⟩
      cases q : H b with
      | none => exact absurd q p.1
      | some u =>
        rw [upd_ne (ne_of_none q ha), upd_ne (ne_of_none q hd), q]
        exact fun z => by cases z
    · have : b = a := by simpa [G.fresh] using h
      subst this
      exact ⟨by rw [upd_same]; exact fun z => (by cases z), fr.r⟩
  · have : b = a := by simpa [G.fresh] using z
    subst this
    exact (List.mem_append.mp (show b ∈ g.own ++ g.base from h)).elim fr.o fr.b
def vMake (c : Nat) (F : Fi) (fa : FA) : FE := fun env st => (fa env st).bind fun xs st => (F xs st).bind fun fs st => .ok (.obj c fs) st
theorem make_t {c n : Nat} {F : Fi} {fa : FA} (hl : ∀ env st xs st1, fa env st = .ok xs st1 → xs.length = n) : ∀ σ H Q, tE W E (vMake c F fa) σ H Q → tMake (W.cls c) (spI W c n F) [] E (tA W E fa) σ H Q := by
  rintro σ H Q ⟨g, st, env, rel, rs, o⟩
  refine tA_bind rel rs o fun xs st1 g1 H1 us e ee1 rel1 r1 o1 => ?_
  intro a dx ha hd ne
  rw [List.append_nil]
  obtain ⟨rel2, mo⟩ := rel1.fresh (C := W.cls c) ha hd ne
  refine ⟨g1.fresh a, st1, xs, a, dx, us, rfl, upd_same, rel2, rfl, r1.mo mo, hl _ _ _ _ e, ?_⟩
  have kp : ∀ b o, H1 b = some o → upd (upd H1 dx (.own a)) a (.ins (W.cls c) dx []) b = some o := fun b o e => by
    rw [upd_ne (ne_of_none e ha), upd_ne (ne_of_none e hd)]; exact e
  have th : ∀ b, upd (upd H1 dx (.own a)) a (.ins (W.cls c) dx []) b = none → H1 b = none := fun b e => by
    cases q : H1 b with
    | none => rfl
    | some u => rw [kp b u q] at e; cases e
  have fr := rel1.free ha
  -- the ghost behind the call
  have back : ∀ {g2 : G} {H2 : Hp} {st2 : Sto}, ES (g1.fresh a) (upd (upd H1 dx (.own a)) a (.ins (W.cls c) dx [])) g2 H2 → Rel W g2 st2 H2 → EE g1 H1 (g1.back g2) H2 ∧ Rel W (g1.back g2) st2 H2 ∧ ∀ b, Imm g2 b → Imm (g1.back g2) b := fun {g2 H2 st2} es rel3 => by
    have hb : ∀ b, Imm g2 b → Imm (g1.back g2) b := fun b i => by
      have nb : b ∉ g1.own ++ g1.base := fun z => i.b (by rw [es.base]; exact z)
      exact ⟨i.r, fun z => nb (List.mem_append_right _ z), fun z => nb (List.mem_append_left _ z)⟩
    have keep : ∀ b o, H1 b = some o → b ∉ g1.rho → H2 b = some o := fun b o e n => es.keep b o (kp b o e) n fun z => by
      have : b = a := by simpa [G.fresh] using z
      rw [this, ha] at e; cases e
    refine ⟨⟨es.pre, rfl, rfl, keep, fun b h => (es.fresh b h).imp id (th b), fun b h => th b (es.there b h), fun b h i => ?_⟩, ⟨rel3.len, rel3.nd, fun n b o e1 e2 => (rel3.cell n b o e1 e2).mo ⟨fun b i _ => hb b i, fun _ _ _ e => e, fun _ _ e => e⟩, fun b h => rel3.prot b (.inl ?_), fun b h z => rel1.disj b h z, rel3.sz⟩, hb⟩
    · cases q : H1 b with
      | none => exact .inr rfl
      | some u =>
        rw [keep b u q (rel1.prot b (.inr h)).2] at i
        exact .inl i
    · rw [es.base]
      exact h.elim (fun z => List.mem_append_right _ z) fun z => List.mem_append_left _ z
  revert o1
  cases F xs st1 with
  | bad => exact fun o1 => o1
  | exc k fs st2 =>
    intro o1 g2 H2 d es rel3 x
    obtain ⟨ee, rel4, im⟩ := back es rel3
    exact o1 _ _ d ee rel4 (x.mo ⟨fun b i _ => im b i, fun _ _ _ e => e, fun _ _ e => e⟩)
  | ok fs st2 =>
    intro o1 g2 H2 es rel3 ho q hf
    obtain ⟨ee, rel4, im⟩ := back es rel3
    refine ⟨rfl, o1 _ _ ee rel4 _ ?_⟩
    obtain ⟨dx', ps, e1, e2, r⟩ := q
    refine ⟨a, dx', ps, rfl, ⟨(rel3.prot a (.inr ho)).2, fr.b, fr.o⟩, e1, by rw [e2, hf, List.take_length], r.mo ⟨fun b i _ => im b i, fun _ _ _ e => e, fun _ _ e => e⟩⟩
theorem se_make {x : Str} {c n : Nat} {F : Fi} {fs : List FE} {e : Expr} {es : List Expr} {p : Pos} (m : MakeOk X W x c n F) (hx : Passes (L2.CX X.prog X.w) X E) (hg : Gl X x) (hd : (x == ("__debug__" : Str)) = false) (ha : SA X W E (e :: es) (fArgs fs)) (hl : fs.length = n) (hn : (e :: es).all notStar = true) :
    SE X W E (.Call (.Name x p) (e :: es) [] pos) (vMake c F (fArgs fs)) := by
  obtain ⟨k, f, fd, ps, F1, hr, hm, M, hb⟩ := m.ex
  simp only [List.all_cons, Bool.and_eq_true] at hn
  exact pe_weak (pe_make M F1 hr hg hm hb .nil hx ha hd (notStar_ok hn.1) (noStars hn.2)) (make_t fun env st xs st1 e => by rw [fArgs_len e]; exact hl)
structure MakeOkK (X : Cx) (W : Wd) (x : Str) (c n : Nat) (F : Fi) (q : Kw) : Prop where
  ex : ∃ (k : Nat) (f : Addr) (fd : FuncData) (ps : List Str), FnOk X.prog X.w X.K X.mg X.base (L2.CX X.prog X.w) k f fd ps (spI W c n F) ∧ Room (k + 1) X.A ∧ X.mg x = some (.ref (W.cls c)) ∧ Mk X.K (W.cls c) f ∧ KwBind X.K fd ps q
def fPerm (pv : List Nat) (fk : FA) : FA := fun env st => (fk env st).bind fun ys st => .ok (arr pv ys) st
theorem arr_self {α : Type} {a : α} {xs : List α} : ∀ pv : List Nat, arr (pv.map (· + 1)) (a :: xs) = arr pv xs
  | [] => rfl
  | i :: is => by
    have ih := arr_self (a := a) (xs := xs) is
    unfold arr at ih ⊢
    rw [List.map_cons, List.filterMap_cons, List.filterMap_cons, ih]
    rfl
theorem arr_zero {α : Type} {a : α} {xs : List α} {pv : List Nat} : arr (0 :: pv.map (· + 1)) (a :: xs) = a :: arr pv xs := by
  have := arr_self (a := a) (xs := xs) pv
  unfold arr at this ⊢
  rw [List.filterMap_cons]
  show a :: _ = _
  rw [this]
theorem se_makeK {x : Str} {c n : Nat} {F : Fi} {q : Kw} {pv : List Nat} {ks : List FE} {kws : List Keyword} {p : Pos} (m : MakeOkK X W x c n F q) (hx : Passes (L2.CX X.prog X.w) X E) (hg : Gl X x) (hd : (x == ("__debug__" : Str)) = false) (h0 : q.n = 1) (hq : q.perm = 0 :: pv.map (· + 1))
    (hk : SK X W E kws (fArgs ks)) (nm : namedAs kws q.ks = true) (hlen : (pv.all fun i => decide (i < ks.length)) = true) (hn : pv.length = n) (hkl : ks.length = q.ks.length) : SE X W E (.Call (.Name x p) [] kws pos) (vMake c F (fPerm pv (fArgs ks))) := by
  obtain ⟨k, f, fd, ps, F1, hr, hm, M, hb⟩ := m.ex
  obtain ⟨a1, a2, a3⟩ := named_ok (env := X.env) (pos := pos) nm
  have hb' : KBn X.K fd ps 1 q.ks (fun us ws => arr q.perm (us ++ ws)) (fun vs zs => arr q.perm (vs ++ zs)) := by
    have : KBn X.K fd ps q.n q.ks (fun us ws => arr q.perm (us ++ ws)) (fun vs zs => arr q.perm (vs ++ zs)) := hb
    rw [h0] at this
    exact this
  refine pe_weak (pe_makeK0 M F1 hr hg hm hb' hx hk a1 a2 hd (by rw [a3] <;> rfl)) ?_
  intro σ H Q h
  have t := make_t (W := W) (E := E) (n := n) (fa := fPerm pv (fArgs ks)) (fun env st xs st1 e => by
    unfold fPerm at e
    cases e1 : fArgs ks env st with
    | ok ys st2 =>
      rw [e1, Res.bind_ok] at e
      cases e
      rw [arr_len (by rw [fArgs_len e1]; exact hlen)]
      exact hn
    | exc c fs s => rw [e1] at e; cases e
    | bad => rw [e1] at e; cases e) σ H Q h
  obtain ⟨g, st, env, rel, rs, o⟩ := t
  refine tA_bind rel rs o fun ys st1 g1 H1 zs e ee1 rel1 r1 o1 => ?_
  have ly := fArgs_len e
  have lz := r1.length
  refine ⟨rfl, by omega, fun a dx ha hdx ne => ?_⟩
  have := o1.here rel1 (arr pv zs) (rs_arr r1 pv) a dx ha hdx ne
  rw [List.append_nil] at this
  show spI W c n F (arr q.perm (V.ref a :: [] ++ zs)) _ _ _
  rw [hq, show (V.ref a :: [] ++ zs) = V.ref a :: zs from rfl, arr_zero]
  exact this
end
end TW
set_option maxHeartbeats 800000
namespace TW
open PySem PySem.Spec L2
theorem putF_new {f : Str} {y : V} : ∀ {ps : List (Str × V)}, f ∉ ps.map (·.1) → putF f y ps = ps ++ [(f, y)]
  | [], _ => rfl
  | (k, x) :: r, h => by
    simp only [List.map_cons, List.mem_cons, not_or] at h
    unfold putF
    rw [if_neg (fun z => h.1 z.symm), putF_new h.2]
    rfl
theorem putF_old {f : Str} {y : V} : ∀ {ps : List (Str × V)}, f ∈ ps.map (·.1) → (putF f y ps).map (·.1) = ps.map (·.1) ∧ (putF f y ps).map (·.2) = (ps.map (·.2)).set ((ps.map (·.1)).idxOf f) y
  | [], h => by simp at h
  | (k, x) :: r, h => by
    unfold putF
    by_cases e : k = f
    · rw [if_pos e]
      subst e
      simp [List.idxOf_cons]
    · rw [if_neg e]
      have h' : f ∈ r.map (·.1) := by
        simp only [List.map_cons, List.mem_cons] at h
        exact h.resolve_left fun z => e z.symm
      obtain ⟨i1, i2⟩ := putF_old (y := y) h'
      have eb : (k == f) = false := by simpa using e
      refine ⟨by rw [List.map_cons, i1, List.map_cons], ?_⟩
      rw [List.map_cons, i2, List.map_cons, List.map_cons, List.idxOf_cons, eb]
      rfl
def setFld (names : List Str) (fs : List Vl) (f : Str) (v : Vl) : Option (List Vl) :=
  if f ∈ names.take fs.length then some (fs.set ((names.take fs.length).idxOf f) v) else if names[fs.length]? = some f then some (fs ++ [v]) else none
theorem setFld_ok {W : Wd} {g : G} {H : Hp} {c : Nat} {fs fs' : List Vl} {f : Str} {v : Vl} {y : V} {ps : List (Str × V)} {dx : Addr} (hk : ps.map (·.1) = (W.flds c).take fs.length) (r : Rs W g H fs (ps.map (·.2))) (ry : R W g H v y) (e : setFld (W.flds c) fs f v = some fs') :
    RO W g H (.ins c fs') (some (.ins (W.cls c) dx (putF f y ps))) ∧ f ∈ W.flds c := by
  unfold setFld at e
  rw [← hk] at e
  split at e
  · rename_i hm
    cases e
    obtain ⟨e1, e2⟩ := putF_old (y := y) hm
    refine ⟨⟨dx, _, rfl, by rw [e1, hk, List.length_set], ?_⟩, List.mem_of_mem_take (by rw [← hk]; exact hm)⟩
    rw [e2]
    exact r.set _ ry
  · rename_i hm
    split at e
    · rename_i hn
      cases e
      refine ⟨⟨dx, _, rfl, ?_, ?_⟩, List.mem_of_getElem? hn⟩
      · rw [putF_new hm, List.map_append, hk, List.length_append]
        show _ ++ [f] = (W.flds c).take (fs.length + 1)
        rw [List.take_add_one, hn]
        rfl
      · rw [putF_new hm, List.map_append]
        exact r.append (Rs.one ry)
    · cases e
def sFldS (flds : Nat → List Str) (i : Nat) (f : Str) (fv : FE) : FSt := fun env st => (fv env st).bind fun v st => match env[i]? with
  | some (some (.own (.ins c fs))) => (match setFld (flds c) fs f v with
    | some fs' => if fs.length < 900 then .ok (.nx (env.set i (some (.own (.ins c fs'))))) st else .bad
    | none => .bad)
  | _ => .bad
def vSFld (flds : Nat → List Str) (i : Nat) (f : Str) : FE := fun env st => match env[i]? with
  | some (some (.own (.ins c fs))) => Res.lift (fldOf (flds c) fs f) st
  | _ => .bad
section
variable {X : Cx} {W : Wd} {E : XK} {pos : Pos}
theorem ss_fld {x : Str} {i : Nat} {e : Expr} {f : Str} {fv : FE} {p p2 : Pos} (hN : X.N[i]? = some x) (hv : Vis X.env.scope x) (hd : (x == ("__debug__" : Str)) = false) (hcd : (x == ("__classdict__" : Str)) = false) (he : SE X W E e fv) (hc : notComp e = true) (hf : FldOk X W f) :
    SS X W E (.Assign [.Attribute (.Name x p) f p2] e pos) (sFldS W.flds i f fv) := by
  refine ps_weak (ps_fld (pe_var hN hv hd hcd) he (notComp_ok hc)) ?_
  rintro D σ H ⟨g, st, env, rel, rs, o⟩
  refine ⟨g, st, env, rel, rs, outS_bind o fun v st1 g1 H1 _ ee1 rel1 o1 y ry => ?_⟩
  have rs1 := rs.ee rel ee1
  split at o1
  · rename_i c fs he
    split at o1
    · rename_i fs' hs'
      split at o1
      · rename_i hl
        obtain ⟨u, hs, a, eu, ha, dx, ps, hH, hk, r⟩ := rs1.at_ i _ he
        subst eu
        obtain ⟨q, hm⟩ := setFld_ok (dx := dx) hk r ry hs'
        have lp : ps.length < 1000 := by
          have l1 := r.length
          rw [List.length_map] at l1
          omega
        obtain ⟨rel2, m, es⟩ := rel1.putOwn (u := .ins (W.cls c) dx (putF f y ps)) ha True.intro fun _ => by rw [hH]; exact True.intro
        exact ⟨_, hs, a, W.cls c, dx, ps, rfl, hH, (hf c hm).1, (hf c hm).2, lp, o1 g1 _ σ es rel2 (rs1.putOwn he hs ha m q)⟩
      · exact o1.elim
    · exact o1.elim
  · exact o1.elim
theorem se_sfld {x : Str} {i : Nat} {f : Str} {p : Pos} (hN : X.N[i]? = some x) (hv : Vis X.env.scope x) (hd : (x == ("__debug__" : Str)) = false) (hcd : (x == ("__classdict__" : Str)) = false) (hf : FldOk X W f) : SE X W E (.Attribute (.Name x p) f pos) (vSFld W.flds i f) := by
  refine pe_weak (pe_fld (pe_var hN hv hd hcd) (noSuper_ok rfl)) ?_
  rintro σ H Q ⟨g, st, env, rel, rs, o⟩
  unfold vSFld at o
  split at o
  · rename_i c fs he
    obtain ⟨v, ev, o2⟩ := o.lift
    obtain ⟨u, hs, a, eu, ha, dx, ps, hH, hk, r⟩ := rs.at_ i _ he
    subst eu
    have hm : f ∈ W.flds c := fldOf_mem ev
    have ev2 : fldOf (ps.map (·.1)) fs f = some v := by
      rw [hk]
      unfold fldOf at ev ⊢
      rw [← ev]
      congr 1
      rw [List.zip_eq_zip_take_min, List.take_take]
      conv => rhs; rw [List.zip_eq_zip_take_min]
      congr 1
      · congr 1
        rw [List.length_take]; omega
      · congr 1
        rw [List.length_take]; omega
    obtain ⟨w, e6, rw'⟩ := fld_ok r ev2
    exact ⟨_, hs, a, W.cls c, dx, ps, w, rfl, hH, (hf c hm).1, (hf c hm).2, e6, o2.here rel _ rw'⟩
  · exact o.elim
end
end TW
set_option maxHeartbeats 800000
namespace TW
open PySem PySem.Spec L2
/-- what an exception's __init__ promises -/
def spX (C : Addr) (names : List Str) : Sp := fun vs H Q E => ∃ a ws, vs = .ref a :: ws ∧ ws.length = names.length ∧ H a = some (exo a C none) ∧ ∀ d ps H2, H d = none → d ≠ a → H2 a = some (exo a C (some d)) → H2 d = some (exd d ps) →
  (∀ b, b ≠ a → b ≠ d → H2 b = H b) → (∀ (i : Nat) (f : Str) (w : V), names[i]? = some f → ws[i]? = some w → ps.lookup f = some w) → Q .non H2
theorem spX_len {C : Addr} {names : List Str} {vs : List V} {H : Hp} {Q : VK} {E : XK} (h : spX C names vs H Q E) : vs.length = names.length + 1 := by
  obtain ⟨a, ws, rfl, l, _⟩ := h
  rw [List.length_cons, l]
/-- self.f = x, one after the other -/
def tSets (K : PySem.W.Frag) : List (Str × Nat) → TS
  | [] => tNext
  | (f, i) :: r => tSeq (tOst K f (tVar 0) (tVar i)) (tSets K r)
def setsB (N : List Str) (sc : Scope) : List Stmt → List (Str × Nat) → Bool
  | [], [] => true
  | .Assign [.Attribute (.Name s _) f _] (.Name x _) _ :: r, (g, i) :: q => decide (N[0]? = some s) && decide (N[i]? = some x) && decide (f = g) && decide (sc.names.lookup s = some .local) && decide (sc.names.lookup x = some .local) &&
      !(s == ("__debug__" : Str)) && !(s == ("__classdict__" : Str)) && !(x == ("__debug__" : Str)) && !(x == ("__classdict__" : Str)) && setsB N sc r q
  | _, _ => false
theorem sets_ok {X : Cx} : ∀ {body : List Stmt} {q : List (Str × Nat)}, setsB X.N X.env.scope body q = true → PSs X body (tSets X.K q) := by
  intro body q
  induction q generalizing body with
  | nil =>
    intro h
    cases body with
    | nil => exact pss_nil
    | cons s r => unfold setsB at h; split at h <;> simp_all
  | cons p q ih =>
    intro h
    obtain ⟨g, i⟩ := p
    cases body with
    | nil => simp [setsB] at h
    | cons s r =>
      unfold setsB at h
      split at h
      · rename_i e1 e2; cases e1
      · rename_i e1 e2
        cases e1; cases e2
        simp only [Bool.and_eq_true, decide_eq_true_eq, Bool.not_eq_true'] at h
        obtain ⟨⟨⟨⟨⟨⟨⟨⟨⟨h1, h2⟩, h3⟩, h4⟩, h5⟩, h6⟩, h7⟩, h8⟩, h9⟩, h10⟩ := h
        subst h3
        exact pss_cons (ps_ost (pe_var h1 (.inl h4) h6 h7) (pe_var h2 (.inl h5) h8 h9)) (ih h10)
      · cases h
theorem sets_go {K : PySem.W.Frag} {C a d : Addr} {σ : St} {D : Ends} (T : OexC K C) (h0 : σ[0]? = some (some (.ref a))) (ne : d ≠ a) : ∀ (q : List (Str × Nat)) (ps : List (Str × V)) (H : Hp), (∀ p ∈ q, PySem.W.findIn K (.ref C) p.1 = some none) → (∀ p ∈ q, ∃ w, σ[p.2]? = some (some w)) → (q.map (·.1)).Nodup →
    H a = some (exo a C (some d)) → H d = some (exd d ps) → ps.length + q.length ≤ 900 →
    (∀ ps' H', H' a = some (exo a C (some d)) → H' d = some (exd d ps') → (∀ b, b ≠ a → b ≠ d → H' b = H b) → (∀ p ∈ q, ∀ w, σ[p.2]? = some (some w) → ps'.lookup p.1 = some w) → (∀ f, f ∉ q.map (·.1) → ps'.lookup f = ps.lookup f) → D.nx σ H') → tSets K q D σ H
  | [], ps, H, _, _, _, ha, hd, _, k => k ps H ha hd (fun _ _ _ => rfl) (fun p h => by simp at h) fun _ _ => rfl
  | (f, i) :: r, ps, H, hno, hs, nd, ha, hd, hl, k => by
    obtain ⟨w, hw⟩ := hs (f, i) List.mem_cons_self
    simp only [List.map_cons, List.nodup_cons, List.length_cons] at nd hl
    refine ⟨w, hw, .ref a, h0, a, C, rfl, T, hno _ List.mem_cons_self, .inr ⟨d, ps, ha, hd, by omega, ?_⟩⟩
    refine sets_go (D := D) T h0 ne r ((f, w) :: ps) _ (fun p h => hno p (List.mem_cons_of_mem _ h)) (fun p h => hs p (List.mem_cons_of_mem _ h)) nd.2 ?_ upd_same (by simp only [List.length_cons]; omega) fun ps' H' h1 h2 h3 h4 h5 => ?_
    · rw [upd_ne (Ne.symm ne)]; exact ha
    · refine k ps' H' h1 h2 (fun b hb hb2 => by rw [h3 b hb hb2, upd_ne hb2]) (fun p h w' hw' => ?_) fun g hg => ?_
      · rcases List.mem_cons.mp h with e | h
        · subst e
          rw [hw] at hw'; cases hw'
          rw [h5 f nd.1]
          simp
        · exact h4 p h w' hw'
      · simp only [List.map_cons, List.mem_cons, not_or] at hg
        rw [h5 g hg.2, List.lookup_cons]
        have : (g == f) = false := by simpa using hg.1
        rw [this]
/-- field and slot -/
def slots (names : List Str) : List (Str × Nat) := names.zip ((List.range names.length).map (· + 1))
theorem slots_get {names : List Str} {i : Nat} {f : Str} (h : names[i]? = some f) : (f, i + 1) ∈ slots names := by
  have hi := (List.getElem?_eq_some_iff.mp h).1
  refine List.mem_iff_getElem?.mpr ⟨i, ?_⟩
  unfold slots
  rw [List.getElem?_zip_eq_some]
  refine ⟨h, ?_⟩
  rw [List.getElem?_map, List.getElem?_range hi]
  rfl
theorem slots_mem {names : List Str} {p : Str × Nat} (h : p ∈ slots names) : ∃ i, p.2 = i + 1 ∧ names[i]? = some p.1 := by
  obtain ⟨i, e⟩ := List.mem_iff_getElem?.mp h
  unfold slots at e
  rw [List.getElem?_zip_eq_some] at e
  obtain ⟨e1, e2⟩ := e
  have hi := (List.getElem?_eq_some_iff.mp e1).1
  rw [List.getElem?_map, List.getElem?_range hi] at e2
  exact ⟨i, (Option.some.inj e2).symm, e1⟩
theorem slots_fst {names : List Str} : (slots names).map (·.1) = names := by
  unfold slots
  rw [List.map_fst_zip]
  simp
theorem fn_exc {P : Program} {w : World} {K : PySem.W.Frag} {mg : Str → Option Value} {base : Heap} {CX : CXT} {k : Nat} {f : Addr} {name qual : Str} {params : Arguments} {body : List Stmt} {scope : Scope} {dV kV doc pm cdv ct oc : Value} {an od : Option Addr} {C : Addr} {names : List Str}
    {osl : Array (Option Value)} {N ps : List Str} (lk : K.lookup f = some ⟨oc, od, .func (PySem.W.fnOf name qual params body scope dV kV doc pm an cdv ct), osl⟩) (hcd : PySem.W.codeIn K cdv qual = true) (S : FnScope N ps scope)
    (hps : ps.length = names.length + 1) (hb : setsB N scope body (slots names) = true) (T : OexC K C) (hno : ∀ f ∈ names, PySem.W.findIn K (.ref C) f = some none) (nd : names.Nodup) (h0 : names ≠ []) (hl : names.length ≤ 800) :
    FnOk P w K mg base CX (k + 1) f (PySem.W.fnOf name qual params body scope dV kV doc pm an cdv ct) ps (spX C names) := by
  refine fn_of lk hcd S (fun vs H Q E h => by rw [hps]; exact spX_len h) fun A outer s H vs Q E hr hsp => ⟨_, sets_ok (X := cxOf CX P w K mg base N qual scope f cdv A outer s H E) hb, ?_⟩
  obtain ⟨a, ws, rfl, l, ha, q⟩ := hsp
  have σat : ∀ {i : Nat} {v : V}, (V.ref a :: ws)[i]? = some v → (L2.start N (.ref a :: ws))[i]? = some (some v) := fun {i v} e => by
    have hi := (List.getElem?_eq_some_iff.mp e).1
    unfold L2.start
    rw [List.getElem?_append_left (by simpa using hi), List.getElem?_map, e]
    rfl
  have sl : ∀ p ∈ slots names, ∃ w, (L2.start N (.ref a :: ws))[p.2]? = some (some w) := fun p h => by
    obtain ⟨i, e, e2⟩ := slots_mem h
    have hi := (List.getElem?_eq_some_iff.mp e2).1
    refine ⟨ws[i]'(by omega), ?_⟩
    rw [e]
    exact σat (by rw [List.getElem?_cons_succ, List.getElem?_eq_getElem])
  have no2 : ∀ p ∈ slots names, PySem.W.findIn K (.ref C) p.1 = some none := fun p h => by
    obtain ⟨i, _, e2⟩ := slots_mem h
    exact hno _ (List.mem_of_getElem? e2)
  have sf := slots_fst (names := names)
  have sln : (slots names).length = names.length := by rw [← List.length_map (f := (·.1)), sf]
  show tSets K (slots names) _ _ _
  revert sl no2 sf sln
  generalize hq : slots names = sq
  intro sl no2 sf sln
  cases sq with
  | nil => rw [← sf] at h0; exact absurd rfl h0
  | cons p r =>
    obtain ⟨f0, i0⟩ := p
    obtain ⟨w0, hw0⟩ := sl (f0, i0) List.mem_cons_self
    rw [← sf] at nd
    simp only [List.map_cons, List.nodup_cons] at nd
    simp only [List.length_cons] at sln
    refine ⟨w0, hw0, .ref a, σat rfl, a, C, rfl, T, no2 _ List.mem_cons_self, .inl ⟨ha, fun dx hdx ne => ?_⟩⟩
    refine sets_go T (σat rfl) ne r [(f0, w0)] _ (fun p h => no2 p (List.mem_cons_of_mem _ h)) (fun p h => sl p (List.mem_cons_of_mem _ h)) nd.2 upd_same (by rw [upd_ne ne, upd_same]) (by simp only [List.length_cons, List.length_nil]; omega) fun ps' H' h1 h2 h3 h4 h5 => ?_
    refine q dx ps' H' hdx ne h1 h2 (fun b hb hb2 => by rw [h3 b hb hb2, upd_ne hb, upd_ne hb2]) fun i g w hg hw => ?_
    have hm : (g, i + 1) ∈ (f0, i0) :: r := by rw [← hq]; exact slots_get hg
    have hs2 : (L2.start N (.ref a :: ws))[i + 1]? = some (some w) := σat (by rw [List.getElem?_cons_succ]; exact hw)
    rcases List.mem_cons.mp hm with e | h
    · cases e
      rw [hw0] at hs2
      cases hs2
      rw [h5 _ nd.1]
      simp
    · exact h4 _ h w hs2
structure RaiseOk (X : Cx) (W : Wd) (x : Str) (c : Nat) : Prop where
  ex : ∃ (k : Nat) (f : Addr) (fd : FuncData) (ps : List Str), FnOk X.prog X.w X.K X.mg X.base (L2.CX X.prog X.w) k f fd ps (spX (W.exc c) (W.xfl c)) ∧ Room (k + 1) X.A ∧ X.mg x = some (.ref (W.exc c)) ∧ OexC X.K (W.exc c) ∧
    PySem.W.findIn X.K (.ref (W.exc c)) "__init__" = some (some (.ref f)) ∧ PySem.W.typeIn X.K (.ref f) = some (.type "function") ∧ Binds X.K fd ps []
def sRaise (c : Nat) (fa : FA) : FSt := fun env st => (fa env st).bind fun xs st => .exc c xs st
section
variable {X : Cx} {W : Wd} {E : XK} {pos : Pos}
theorem ss_raise {x : Str} {c : Nat} {fs : List FE} {e : Expr} {es : List Expr} {p cpos : Pos} (hc : X.calm = true) (tk : Takes X (fun cls d _ H => E cls d H)) (r : RaiseOk X W x c) (hg : Gl X x) (hd : (x == ("__debug__" : Str)) = false) (ha : SA X W E (e :: es) (fArgs fs)) (hl : fs.length = (W.xfl c).length) (hl2 : fs.length ≤ 800) (hn : (e :: es).all notStar = true) :
    SS X W E (.Raise (some (.Call (.Name x p) (e :: es) [] cpos)) none pos) (sRaise c (fArgs fs)) := by
  obtain ⟨k, f, fd, ps, F1, hr, hm, T, iC, tI, hb⟩ := r.ex
  simp only [List.all_cons, Bool.and_eq_true] at hn
  refine ps_weak (ps_raise hc tk (pmk_oex T iC tI F1 hr hb .nil (passes_call tk fun _ _ _ _ z => z.elim) hg hm ha hd (notStar_ok hn.1) (noStars hn.2))) ?_
  rintro D σ H ⟨g, st, env, rel, rs, o⟩
  refine ⟨g, st, env, rel, rs, outS_bind o fun xs st1 g1 H1 e1 ee1 rel1 o1 us r1 => ?_⟩
  have lx := fArgs_len e1
  have lu := r1.length
  refine ⟨by omega, fun a ha1 => ?_⟩
  rw [List.append_nil]
  refine ⟨a, us, rfl, by omega, upd_same, fun d ps H2 hd1 ne h1 h2 h3 h4 => ⟨rfl, d, ps, h1, h2, ?_, ?_⟩⟩
  · rw [upd_ne ne] at hd1; exact hd1
  · have hd2 : H1 d = none := by rw [upd_ne ne] at hd1; exact hd1
    have eq : upd (del H2 a) d (.xd ps) = upd H1 d (.xd ps) := by
      funext b
      by_cases hbd : b = d
      · rw [hbd, upd_same, upd_same]
      · rw [upd_ne hbd, upd_ne hbd]
        by_cases hba : b = a
        · rw [hba, del_same, ha1]
        · rw [del_ne hba, h3 b hba hbd, upd_ne hba]
    rw [eq]
    have fr := rel1.free hd2
    refine o1 g1 _ d (EE.new hd2).es (rel1.new hd2 True.intro) ⟨fr, ps, upd_same, fun i f v e1 e2 => ?_⟩
    obtain ⟨u, hu, ru⟩ := r1.get e2
    exact ⟨u, h4 i f u e1 hu, ru.ee (EE.new hd2)⟩
end
end TW
set_option maxHeartbeats 800000
namespace TW
open PySem PySem.Spec L2
abbrev TSu := Addr → Value → Option Addr → TS
def onlyRt (D : Ends) : Ends := { nx := fun _ _ => False, rt := D.rt, bk := fun _ _ => False, ct := fun _ _ => False }
/-- the clauses' wishes in turn: class, slot of the name, suite -/
def wMix (K : PySem.W.Frag) (Wo : WX) (D : Ends) : List (Value × Option Nat × TSu) → WX
  | [] => Wo
  | (c, o, ts) :: r => fun cls d σ H => ∃ b, PySem.W.exmOne K cls c = some b ∧ (b = true → ∀ a, H a = none → ts a cls d (onlyRt D) (match o with
      | some i => σ.set i (some (.ref a))
      | none => σ) H) ∧ (b = false → wMix K Wo D r cls d σ H)
inductive MixOk (X : Cx) : List ExceptHandler → List (Value × Option Nat × TSu) → Prop
  | nil : MixOk X [] []
  | plain {x : Str} {c : Value} {ts : TSu} {b₀ : Stmt} {suite : List Stmt} {np q : Pos} {hds : List ExceptHandler} {l : List (Value × Option Nat × TSu)} (nm : Names X x c)
      (su : ∀ (a : Addr) (oe : Obj) (cls : Value) (d : Option Addr) (pn : List (Addr × Obj)), Zc cls d oe → (∃ vs, oe.data = .fields vs) → PSs (X.suite a ((a, oe) :: pn)) (b₀ :: suite) (ts a cls d)) (r : MixOk X hds l) :
      MixOk X (.ExceptHandler (some (.Name x np)) none (b₀ :: suite) q :: hds) ((c, none, ts) :: l)
  | named {x n : Str} {i : Nat} {c : Value} {ts : TSu} {b₀ : Stmt} {suite : List Stmt} {np q : Pos} {hds : List ExceptHandler} {l : List (Value × Option Nat × TSu)} (nm : Names X x c) (hN : X.N[i]? = some n) (hk : X.env.kindOf n = some .local)
      (su : ∀ (a : Addr) (oe : Obj) (cls : Value) (d : Option Addr) (pn : List (Addr × Obj)), Zc cls d oe → (∃ vs, oe.data = .fields vs) → PSs (X.suite a ((a, oe) :: pn)) (b₀ :: suite) (ts a cls d)) (r : MixOk X hds l) :
      MixOk X (.ExceptHandler (some (.Name x np)) (some n) (b₀ :: suite) q :: hds) ((c, some i, ts) :: l)
section
variable {X : Cx} {body : List Stmt} {hd0 : ExceptHandler} {hds : List ExceptHandler} {l : List (Value × Option Nat × TSu)} {pos : Pos} {tb : WX → TS} {Wo : WX}
theorem ps_try_mix (st0 : X.stack = X.env :: X.outer) (fr0 : X.env.frame = some X.env.locals) (nd : X.N.Nodup) (tk : Takes X Wo)
    (hbody : ∀ (Z : WX) (pn : List (Addr × Obj)) (xe : Value → Shared → Prop), Takes (X.tr pn xe) Z → PassesOwn (model X.prog X.w) X.A X.env xe → PSs (X.tr pn xe) body (tb Z))
    (mx : MixOk X (hd0 :: hds) l) : PS X (.Try body (hd0 :: hds) [] [] pos) (fun D σ H => tb (wMix X.K Wo D l) D σ H) := by
  refine ⟨fun pins s σ H D J0 want => ?_⟩
  have good := J0.ok
  have frames : X.A.frames = some (X.env :: X.outer) := by rw [good.frames, st0]
  refine wpAny_Try_except ?_
  have bodyRun := (hbody (wMix X.K Wo D l) (X.pn ++ pins) (fun e s₁ => wpAny (model X.prog X.w) X.A (noteFrame e X.env) (fun _ s₂ => wpAny (model X.prog X.w) X.A (setFlight e none) (fun _ s₃ =>
    wpAny (model X.prog X.w) X.A (handleBy e X.env (hd0 :: hds)) (L2.SP X pins D) X.xe s₃) X.xe s₂) X.xe s₁) (fun u t ha => ?_) PassesOwn.looking).run [] s σ H D (J0.toTry _) want
  · refine wpAny_mono bodyRun (fun fl t hsp => ?_) (fun _ _ z => z)
    cases fl with
    | next => exact let ⟨a1, a2, a3, a4⟩ := hsp; wpAny_execs_nil ⟨a1, a2, a3.ofTry good, a4⟩
    | brk => exact let ⟨a1, a2, a3, a4⟩ := hsp; ⟨a1, a2, a3.ofTry good, a4⟩
    | cont => exact let ⟨a1, a2, a3, a4⟩ := hsp; ⟨a1, a2, a3.ofTry good, a4⟩
    | ret u => exact let ⟨a0, a1, a2, a3, r3, a4⟩ := hsp; ⟨a0, a1, a2, a3.ofTry good, r3, a4⟩
  · obtain ⟨a, B, sI, pins', σ', H', cls, d, rfl, J', nb, up, sky, na, os, ag, ask⟩ := ha
    have J1 : Inv X pins σ' H' sI := J'.ofTry good
    have sky2 : Sky B (X.env :: X.outer) a (Zc cls d) X.env.locals t.heap := st0 ▸ sky
    show wpAny (model X.prog X.w) X.A (noteFrame (.ref a) X.env) _ _ _
    refine Sky.land Zc.steady frames fr0 sky2 fun h3 fly up3 => ?_
    have J3 : Inv X pins σ' H' { t with heap := h3 } := J1.landed nb fly.1 (up.trans up3) os ag
    obtain ⟨ob, fl3, heap3, zc3, dat3⟩ := fly.there
    have off : a ∉ frs (X.env :: X.outer) := fun hm => by
      obtain ⟨_, ob', at', non⟩ := fly.2.2.1.mem hm
      rw [heap3] at at'
      cases at'
      exact non _ dat3
    have offL : a ≠ X.env.locals := fun z => off (List.mem_filterMap.mpr ⟨X.env, List.mem_cons_self, by rw [fr0, z]⟩)
    have offF : a ∉ X.fs := fun hm => let ⟨e, he, q⟩ := List.mem_filterMap.mp hm; off (List.mem_filterMap.mpr ⟨e, List.mem_cons_of_mem _ he, q⟩)
    have S3 := J3.suite heap3 dat3 na offL offF
    have turn : ∀ {hs2 : List ExceptHandler} {l2 : List (Value × Option Nat × TSu)}, MixOk X hs2 l2 → wMix X.K Wo D l2 cls d σ' H' → wpAny (model X.prog X.w) X.A (handleBy (.ref a) X.env hs2) (L2.SP X pins D) X.xe { t with heap := h3 } := by
      intro hs2 l2 ok2
      have look : ∀ {x : Str} {c : Value} {np : Pos} {Q : Value → Shared → Prop} {E : Value → Shared → Prop}, Names X x c → Q c { t with heap := h3 } → wpAny (model X.prog X.w) (X.A.mark (some (.ref a))) (eval (.Name x np) X.env) Q E { t with heap := h3 } := fun {x c np Q E} nm q => by
        obtain ⟨g1, g2, g3 | ⟨g3, g4, g5⟩⟩ := nm
        · exact ld_glob (X := X.suite a ((a, ob) :: (X.pn ++ pins))) S3 g1 g3 q g2
        · exact ld_blt (X := X.suite a ((a, ob) :: (X.pn ++ pins))) S3 g1 g3 g4 q g5 g2
      have kind : PySem.W.Looks (model X.prog X.w) h3 (typeOf (.ref a)) cls := fun A Q E s k q => wpAny_typeOf_ref (k _ _ heap3) (by rw [zc3.1]; exact q)
      induction ok2 with
      | nil =>
        intro w
        refine wpAny_handleBy_nil ?_
        obtain ⟨_, _, _, oe, vs, T, oT, ts', he, hz, hd, h1, hr⟩ := id fly
        unfold PySem.passOn
        refine wpAny_bind (wpAny_field he hd h1 ?_)
        rw [if_neg (show ¬ ((Value.ref T == Value.none) = true) from by simp)]
        have fin : wpAny (model X.prog X.w) X.A (setFlight (.ref a) X.env.frame) (fun _ s4 => wpAny (model X.prog X.w) X.A (throw (.ref a) : Sem Flow) (L2.SP X pins D) X.xe s4) X.xe { t with heap := h3 } := by
          rw [fr0]
          exact HandSPX.setFlight_upZ fly fun h4 hh4 up4 => wpAny_throw (tk _ _ ⟨a, B, sI, pins, σ', H', cls, d, rfl, J1, nb, (up.trans up3).trans up4, .inr (.inr (by rw [st0]; exact hh4)), na, os, ag, w⟩)
        first
          | exact wpAny_bind (wpAny_pure (wpAny_bind fin))
          | exact wpAny_bind fin
      | @plain x c ts b₀ suite np q hs3 l3 nm su r ih =>
        intro w
        obtain ⟨b, hb1, yes, no⟩ := w
        have LM := PySem.W.exm_one (M := model X.prog X.w) J3.kIn kind hb1
        refine wpAny_handleBy_cons (codeAny_handlers_test ?_) (fun q => by cases q)
        refine look nm (LM.here ?_)
        cases b with
        | false => exact ih (no rfl)
        | true =>
          refine codeAny_handlers_suite ?_
          refine HandSPX.lands_againZ fly fun h4 fly4 up4 => ?_
          have J4 : Inv X pins σ' H' { t with heap := h4 } := J1.landed nb fly4.1 ((up.trans up3).trans up4) os ag
          obtain ⟨ob4, fl4, heap4, zc4, dat4⟩ := fly4.there
          refine wpAny_mono ((su a ob4 cls d (X.pn ++ pins) zc4 ⟨_, dat4⟩).run [] _ _ H' _ (J4.suite heap4 dat4 na offL offF) (yes rfl a na)) (fun fl s6 hsp => ?_) (fun _ _ z => z.elim)
          cases fl with
          | ret u => exact let ⟨a0, a1, a2, a3, r3, a4⟩ := hsp; ⟨a0, a1, a2, a3.unsuite good, r3, a4⟩
          | next => exact let ⟨_, _, _, a4⟩ := hsp; a4.elim
          | brk => exact let ⟨_, _, _, a4⟩ := hsp; a4.elim
          | cont => exact let ⟨_, _, _, a4⟩ := hsp; a4.elim
      | @named x n i c ts b₀ suite np q hs3 l3 nm hN hk su r ih =>
        intro w
        obtain ⟨b, hb1, yes, no⟩ := w
        have LM := PySem.W.exm_one (M := model X.prog X.w) J3.kIn kind hb1
        refine wpAny_handleBy_cons (codeAny_handlers_test ?_) (fun q => by cases q)
        refine look nm (LM.here ?_)
        cases b with
        | false => exact ih (no rfl)
        | true =>
          refine codeAny_handlers_suite_as ?_
          refine HandSPX.lands_againZ fly fun h4 fly4 up4 => ?_
          have J4 : Inv X pins σ' H' { t with heap := h4 } := J1.landed nb fly4.1 ((up.trans up3).trans up4) os ag
          obtain ⟨ob4, fl4, heap4, zc4, dat4⟩ := fly4.there
          refine store_ok (X := X.suite a ((a, ob4) :: (X.pn ++ pins))) (v := .ref a) (J4.suite heap4 dat4 na offL offF) nd hN (.inl hk) rfl (fun s5 S5 => ?_) (.inr hk)
          refine wpAny_mono ((su a ob4 cls d (X.pn ++ pins) zc4 ⟨_, dat4⟩).run [] s5 _ H' _ S5 (yes rfl a na)) (fun fl s6 hsp => ?_) (fun _ _ z => z.elim)
          cases fl with
          | ret u => exact let ⟨a0, a1, a2, a3, r3, a4⟩ := hsp; gone_ok (a3.unsuite good) nd hN hk fun s7 J7 => ⟨_, _, _, J7, r3, a4⟩
          | next => exact let ⟨_, _, _, a4⟩ := hsp; a4.elim
          | brk => exact let ⟨_, _, _, a4⟩ := hsp; a4.elim
          | cont => exact let ⟨_, _, _, a4⟩ := hsp; a4.elim
    exact turn mx ask
end
end TW
set_option maxHeartbeats 800000
namespace TW
open PySem PySem.Spec L2
/-- a literal -/
def cstB : Vl → Expr → Bool
  | .int i, .Constant (.int j) _ _ => decide (i = j)
  | .bl b, .Constant (.bool c) _ _ => decide (b = c)
  | .non, .Constant .none _ _ => true
  | .str x, .Constant (.str y) _ _ => decide (x = y)
  | _, _ => false
theorem cst_se {X : Cx} {W : Wd} {E : XK} {v : Vl} {e : Expr} (h : cstB v e = true) : SE X W E e (fC v) := by
  unfold cstB at h
  split at h
  · rw [of_decide_eq_true h]; exact se_int
  · rw [of_decide_eq_true h]; exact se_bl
  · exact se_non
  · rw [of_decide_eq_true h]; exact se_str
  · cases h
def cV : Vl → V
  | .int i => .int i
  | .bl b => .bl b
  | .str x => .str x
  | _ => .non
theorem cst_pe {X : Cx} {v : Vl} {e : Expr} (h : cstB v e = true) : PE X e (tC (cV v)) ∧ ∀ W g H, R W g H v (cV v) := by
  unfold cstB at h
  split at h
  · rw [of_decide_eq_true h]; exact ⟨pe_int, fun _ _ _ => rfl⟩
  · rw [of_decide_eq_true h]; exact ⟨pe_bl, fun _ _ _ => rfl⟩
  · exact ⟨pe_non, fun _ _ _ => rfl⟩
  · rw [of_decide_eq_true h]; exact ⟨pe_str, fun _ _ _ => rfl⟩
  · cases h
theorem cst_star {v : Vl} {e : Expr} (h : cstB v e = true) : notStar e = true := by
  unfold cstB at h
  split at h <;> first | rfl | cases h
inductive HIt where
  | c (v : Vl) | f (x : Str)
inductive HR where
  | one (it : HIt) | lst (its : List HIt)
structure Hd where
  x : Str
  h : Nat
  i : Option Nat
  r : HR
def hIt (names : List Str) (fs : List Vl) : HIt → Option Vl
  | .c v => some v
  | .f x => fldOf names fs x
def hIts (names : List Str) (fs : List Vl) : List HIt → Option (List Vl)
  | [] => some []
  | it :: r => (hIt names fs it).bind fun v => (hIts names fs r).map (v :: ·)
def hR (names : List Str) (fs : List Vl) : HR → Option Vl
  | .one it => hIt names fs it
  | .lst its => (hIts names fs its).map .lst
theorem fldOf_get {f : Str} {v : Vl} : ∀ {names : List Str} {fs : List Vl}, fldOf names fs f = some v → ∃ i : Nat, names[i]? = some f ∧ fs[i]? = some v
  | [], _, e => by simp [fldOf] at e
  | n :: ns, [], e => by simp [fldOf] at e
  | n :: ns, y :: ys, e => by
    unfold fldOf at e
    simp only [List.zip_cons_cons, List.lookup_cons] at e
    cases q : (f == n) with
    | true => rw [q] at e; cases e; exact ⟨0, by rw [beq_iff_eq.mp q]; rfl, rfl⟩
    | false =>
      rw [q] at e
      obtain ⟨i, h1, h2⟩ := fldOf_get (names := ns) (fs := ys) e
      exact ⟨i + 1, by simpa using h1, by simpa using h2⟩
/-- what the clauses may lean on -/
structure XfOk (X : Cx) (W : Wd) (c : Nat) : Prop where
  T : XfC X.K (W.exc c)
  no : ∀ f ∈ W.xfl c, PySem.W.findIn X.K (.ref (W.exc c)) f = some none
/-- the state in a clause: a the exception, dd its dict -/
def InH (W : Wd) (c : Nat) (fs : List Vl) (cls : Value) (d : Option Addr) (g : G) (st : Sto) (H : Hp) : Prop := Rel W g st H ∧ cls = .ref (W.exc c) ∧ ∃ dd, d = some dd ∧ XD W g H c fs dd
def slotIs (o : Option Nat) (a : Addr) (σ : St) : Prop := ∀ i, o = some i → σ[i]? = some (some (.ref a))
def tHIt (W : Wd) (o : Option Nat) (a : Addr) (c : Nat) (cls : Value) (d : Option Addr) (it : HIt) : TE := fun σ H Q => ∃ g st fs v, InH W c fs cls d g st H ∧ slotIs o a σ ∧ hIt (W.xfl c) fs it = some v ∧ ∀ u, R W g H v u → Q u H
def tHIts (W : Wd) (o : Option Nat) (a : Addr) (c : Nat) (cls : Value) (d : Option Addr) (its : List HIt) : TA := fun σ H Q => ∃ g st fs vs, InH W c fs cls d g st H ∧ slotIs o a σ ∧ hIts (W.xfl c) fs its = some vs ∧ ∀ us, Rs W g H vs us → Q us H
def hitB (N : List Str) (sc : Scope) (o : Option Nat) : HIt → Expr → Bool
  | .c v, e => cstB v e
  | .f x, .Attribute (.Name n _) y _ => decide (x = y) && (match o with
    | some i => decide (N[i]? = some n) && decide (sc.names.lookup n = some .local) && !(n == ("__debug__" : Str)) && !(n == ("__classdict__" : Str))
    | none => false)
  | _, _ => false
def hitsB (N : List Str) (sc : Scope) (o : Option Nat) : List HIt → List Expr → Bool
  | [], [] => true
  | it :: r, e :: es => hitB N sc o it e && hitsB N sc o r es
  | _, _ => false
theorem hitB_star {N : List Str} {sc : Scope} {o : Option Nat} {it : HIt} {e : Expr} (h : hitB N sc o it e = true) : notStar e = true := by
  unfold hitB at h
  split at h
  · exact cst_star h
  · rfl
  · cases h
section
variable {X : Cx} {W : Wd} {o : Option Nat} {a : Addr} {oe : Obj} {c : Nat} {cls : Value} {d : Option Addr} {pn : List (Addr × Obj)}
theorem hit_ok {it : HIt} {e : Expr} (xf : XfOk X W c) (hz : Zc cls d oe) (hf : ∃ vs, oe.data = .fields vs) (h : hitB X.N X.env.scope o it e = true) : PE (X.suite a ((a, oe) :: pn)) e (tHIt W o a c cls d it) := by
  unfold hitB at h
  split at h
  · rename_i v e
    obtain ⟨h1, h2⟩ := cst_pe (X := X.suite a ((a, oe) :: pn)) h
    refine pe_weak h1 ?_
    rintro σ H Q ⟨g, st, fs, v', ih, _, e1, q⟩
    cases e1
    exact q _ (h2 _ _ _)
  · rename_i x n p y p2
    simp only [Bool.and_eq_true, decide_eq_true_eq] at h
    obtain ⟨rfl, h⟩ := h
    cases o with
    | none => cases h
    | some i =>
      simp only [Bool.and_eq_true, decide_eq_true_eq, Bool.not_eq_true'] at h
      obtain ⟨⟨⟨h1, h2⟩, h3⟩, h4⟩ := h
      by_cases hx : x ∈ W.xfl c
      · refine pe_weak (pe_xf (X := X) xf.T (xf.no x hx) hz hf (pe_var (X := X.suite a ((a, oe) :: pn)) h1 (.inl h2) h3 h4) (noSuper_ok rfl)) ?_
        rintro σ H Q ⟨g, st, fs, v', ⟨rel, ec, dd, ed, xd⟩, sl, e1, q⟩
        obtain ⟨j, k1, k2⟩ := fldOf_get (show fldOf (W.xfl c) fs x = some v' from e1)
        obtain ⟨_, ps, hd, look⟩ := xd
        obtain ⟨u, k3, ru⟩ := look j x v' k1 k2
        exact ⟨_, sl i rfl, rfl, ec, dd, ps, u, ed, hd, k3, q u ru⟩
      · refine ⟨fun pins s σ H Q I hw => ?_⟩
        obtain ⟨g, st, fs, v', _, _, e1, _⟩ := hw
        exact absurd (fldOf_mem (show fldOf (W.xfl c) fs x = some v' from e1)) hx
  · cases h
theorem hits_ok (xf : XfOk X W c) (hz : Zc cls d oe) (hf : ∃ vs, oe.data = .fields vs) : ∀ {its : List HIt} {es : List Expr}, hitsB X.N X.env.scope o its es = true → PA (X.suite a ((a, oe) :: pn)) es (tHIts W o a c cls d its) ∧ es.length = its.length := by
  intro its
  induction its with
  | nil =>
    intro es h
    cases es with
    | nil =>
      refine ⟨pa_weak pa_nil ?_, rfl⟩
      rintro σ H Q ⟨g, st, fs, vs, ih, sl, e1, q⟩
      cases e1
      exact q _ rfl
    | cons _ _ => cases h
  | cons it r ih0 =>
    intro es h
    cases es with
    | nil => cases h
    | cons e es =>
      simp only [hitsB, Bool.and_eq_true] at h
      obtain ⟨k1, k2⟩ := ih0 h.2
      refine ⟨pa_weak (pa_cons (hit_ok (W := W) (o := o) (it := it) xf hz hf h.1) k1 (notStar_ok (hitB_star h.1))) ?_, by simp [k2]⟩
      rintro σ H Q ⟨g, st, fs, vs, ih, sl, e1, q⟩
      unfold hIts at e1
      cases q1 : hIt (W.xfl c) fs it with
      | none => rw [q1] at e1; cases e1
      | some v =>
        rw [q1] at e1
        cases q2 : hIts (W.xfl c) fs r with
        | none => rw [q2] at e1; cases e1
        | some vr =>
          rw [q2] at e1
          cases e1
          exact ⟨g, st, fs, v, ih, sl, q1, fun u ru => ⟨g, st, fs, vr, ih, sl, q2, fun us rs => q _ (Rs.cons ru rs)⟩⟩
def tHR (W : Wd) (o : Option Nat) (a : Addr) (c : Nat) (cls : Value) (d : Option Addr) (r : HR) : TE := fun σ H Q => ∃ g st fs v, InH W c fs cls d g st H ∧ slotIs o a σ ∧ hR (W.xfl c) fs r = some v ∧ ∀ g' H' u, EE g H g' H' → Rel W g' st H' → R W g' H' v u → Q u H'
def hrB (N : List Str) (sc : Scope) (o : Option Nat) : HR → Expr → Bool
  | .one it, e => hitB N sc o it e
  | .lst its, .List es _ => hitsB N sc o its es && decide (its.length ≤ 1000)
  | _, _ => false
theorem hr_ok {r : HR} {e : Expr} (xf : XfOk X W c) (hz : Zc cls d oe) (hf : ∃ vs, oe.data = .fields vs) (h : hrB X.N X.env.scope o r e = true) : PE (X.suite a ((a, oe) :: pn)) e (tHR W o a c cls d r) := by
  unfold hrB at h
  split at h
  · rename_i it e
    refine pe_weak (hit_ok (W := W) (o := o) xf hz hf h) ?_
    rintro σ H Q ⟨g, st, fs, v, ih, sl, e1, q⟩
    exact ⟨g, st, fs, v, ih, sl, e1, fun u ru => q g H u EE.refl ih.1 ru⟩
  · rename_i its es p
    simp only [Bool.and_eq_true, decide_eq_true_eq] at h
    obtain ⟨k1, k2⟩ := hits_ok (a := a) (pn := pn) xf hz hf h.1
    refine pe_weak (pe_lst k1) ?_
    rintro σ H Q ⟨g, st, fs, v, ih, sl, e1, q⟩
    cases q1 : hIts (W.xfl c) fs its with
    | none => simp [hR, q1] at e1
    | some vs =>
      simp only [hR, q1, Option.map_some] at e1
      cases e1
      refine ⟨g, st, fs, vs, ih, sl, q1, fun us rs => ?_⟩
      have len : ∀ {its : List HIt} {vs : List Vl}, hIts (W.xfl c) fs its = some vs → vs.length = its.length := by
        intro its
        induction its with
        | nil => intro vs e; cases e; rfl
        | cons it r ih =>
          intro vs e
          unfold hIts at e
          cases q1 : hIt (W.xfl c) fs it with
          | none => rw [q1] at e; cases e
          | some v =>
            rw [q1] at e
            cases q2 : hIts (W.xfl c) fs r with
            | none => rw [q2] at e; cases e
            | some vr => rw [q2] at e; cases e; simp [ih q2]
      have l1 := len q1
      have l2 := rs.length
      have lz : us.length ≤ sizeLine := by rw [sizeLine_eq]; omega
      refine ⟨lz, fun p hp => q g _ _ (EE.new hp) (ih.1.new hp lz) ⟨p, us, rfl, ih.1.free hp, upd_same, rs.ee (EE.new hp)⟩⟩
  · cases h
end
end TW
set_option maxHeartbeats 800000
namespace TW
open PySem PySem.Spec L2
def hGo (xs : Nat → Nat → Bool) (xfl : Nat → List Str) (c : Nat) (fs : List Vl) (st : Sto) : List Hd → Res Fl
  | [] => .exc c fs st
  | h :: r => if xs c h.h = true then (match hR (xfl c) fs h.r with
      | some v => .ok (.rt v) st
      | none => .bad) else hGo xs xfl c fs st r
def sTry (n : Nat) (xs : Nat → Nat → Bool) (xfl : Nat → List Str) (fb : FSt) (hds : List Hd) : FSt := fun env st => match fb env st with
  | .exc c fs st1 => if c < n then hGo xs xfl c fs st1 hds else .bad
  | .ok fl st1 => .ok fl st1
  | .bad => .bad
/-- what is known of the exceptions' classes -/
structure ExcOk (X : Cx) (W : Wd) (n : Nat) (xs : Nat → Nat → Bool) : Prop where
  sub : ∀ c, c < n → ∀ h, h < n → PySem.W.exmOne X.K (.ref (W.exc c)) (.ref (W.exc h)) = some (xs c h)
  xf : ∀ c, c < n → XfOk X W c
def tSu (W : Wd) (n : Nat) (h : Hd) : TSu := fun a cls d D σ H => ∃ c, c < n ∧ tHR W h.i a c cls d h.r σ H fun x H1 => D.rt x H1
def hdB (mg : Str → Option Nat) (N : List Str) (sc : Scope) (n : Nat) (h : Hd) : ExceptHandler → Bool
  | .ExceptHandler (some (.Name x _)) nm [.Return (some e) _] _ => decide (x = h.x) && decide (mg x = some h.h) && decide (h.h < n) && decide (sc.names.lookup x = some .globalImplicit) && !(x == ("__debug__" : Str)) && hrB N sc h.i h.r e && (match nm, h.i with
    | none, none => true
    | some y, some i => decide (N[i]? = some y) && decide (sc.names.lookup y = some .local)
    | _, _ => false)
  | _ => false
def hdsB (mg : Str → Option Nat) (N : List Str) (sc : Scope) (n : Nat) : List Hd → List ExceptHandler → Bool
  | [], [] => true
  | h :: r, e :: es => hdB mg N sc n h e && hdsB mg N sc n r es
  | _, _ => false
def wl (W : Wd) (n : Nat) (hds : List Hd) : List (Value × Option Nat × TSu) := hds.map fun h => (.ref (W.exc h.h), h.i, tSu W n h)
section
variable {X : Cx} {W : Wd} {E : XK} {pos : Pos}
theorem mix_ok {n : Nat} {xs : Nat → Nat → Bool} {mg : Str → Option Nat} (ok : ExcOk X W n xs) (hmg : ∀ x h, mg x = some h → X.mg x = some (.ref (W.exc h))) : ∀ {hds : List Hd} {es : List ExceptHandler}, hdsB mg X.N X.env.scope n hds es = true → MixOk X es (wl W n hds) := by
  intro hds
  induction hds with
  | nil =>
    intro es h
    cases es with
    | nil => exact .nil
    | cons _ _ => cases h
  | cons h r ih =>
    intro es hb
    cases es with
    | nil => cases hb
    | cons e es =>
      simp only [hdsB, Bool.and_eq_true] at hb
      obtain ⟨h1, h2⟩ := hb
      unfold hdB at h1
      split at h1
      · rename_i x np nm ex rp q
        simp only [Bool.and_eq_true, decide_eq_true_eq, Bool.not_eq_true'] at h1
        obtain ⟨⟨⟨⟨⟨⟨rfl, k2⟩, k3⟩, k4⟩, k5⟩, k6⟩, k7⟩ := h1
        have nmk : Names X h.x (.ref (W.exc h.h)) := ⟨k4, k5, .inl (hmg _ _ k2)⟩
        have su : ∀ (a : Addr) (oe : Obj) (cls : Value) (d : Option Addr) (pn : List (Addr × Obj)), Zc cls d oe → (∃ vs, oe.data = .fields vs) → PSs (X.suite a ((a, oe) :: pn)) [.Return (some ex) rp] (tSu W n h a cls d) := fun a oe cls d pn hz hf => by
          refine ⟨fun pins s σ H D I hw => ?_⟩
          obtain ⟨c, hc, hw⟩ := hw
          exact (pss_one (ps_ret (hr_ok (W := W) (c := c) (ok.xf c hc) hz hf k6))).run pins s σ H D I hw
        have e0 : wl W n (h :: r) = (.ref (W.exc h.h), h.i, tSu W n h) :: wl W n r := rfl
        rw [e0]
        cases hi : h.i with
        | none =>
          cases nm with
          | none => exact .plain nmk su (ih h2)
          | some y => rw [hi] at k7; cases k7
        | some i =>
          cases nm with
          | none => rw [hi] at k7; cases k7
          | some y =>
            rw [hi] at k7
            simp only [Bool.and_eq_true, decide_eq_true_eq] at k7
            exact .named nmk k7.1 k7.2 su (ih h2)
      · cases h1
theorem wMix_ok {n : Nat} {xs : Nat → Nat → Bool} {mg : Str → Option Nat} (ok : ExcOk X W n xs) {D : Ends} {g : G} {H : Hp} {c : Nat} {fs : List Vl} {st1 : Sto} (hc : c < n) : ∀ {hds : List Hd} {es : List ExceptHandler}, hdsB mg X.N X.env.scope n hds es = true →
    OutS W E g H (hGo xs W.xfl c fs st1 hds) D → ∀ g' H' d σ, ES g H g' H' → Rel W g' st1 H' → XD W g' H' c fs d → σ.length = X.N.length → wMix X.K (fun cls d _ H => E cls d H) D (wl W n hds) (.ref (W.exc c)) (some d) σ H' := by
  intro hds
  induction hds with
  | nil =>
    intro es h o g' H' d σ es' rel xd _
    exact o g' H' d es' rel xd
  | cons h r ih =>
    intro es hb o g' H' d σ es' rel xd hl
    cases es with
    | nil => cases hb
    | cons e es =>
      simp only [hdsB, Bool.and_eq_true] at hb
      obtain ⟨h1, h2⟩ := hb
      unfold hdB at h1
      split at h1
      · rename_i x np nm ex rp q
        simp only [Bool.and_eq_true, decide_eq_true_eq, Bool.not_eq_true'] at h1
        obtain ⟨⟨⟨⟨⟨⟨rfl, k2⟩, k3⟩, k4⟩, k5⟩, k6⟩, k7⟩ := h1
        unfold hGo at o
        refine ⟨xs c h.h, ok.sub c hc _ k3, fun hb a ha => ?_, fun hb => ?_⟩
        · rw [if_pos hb] at o
          cases q1 : hR (W.xfl c) fs h.r with
          | none => rw [q1] at o; exact o.elim
          | some v =>
            rw [q1] at o
            refine ⟨c, hc, g', st1, fs, v, ⟨rel, rfl, d, rfl, xd⟩, fun i hi => ?_, q1, fun g2 H2 u ee rel2 ru => o g2 H2 u (es'.trans ee.es) rel2 ru⟩
            rw [hi] at k7 ⊢
            cases nm with
            | none => cases k7
            | some y =>
              simp only [Bool.and_eq_true, decide_eq_true_eq] at k7
              have : i < X.N.length := (List.getElem?_eq_some_iff.mp k7.1).1
              exact List.getElem?_set_self (by omega)
        · rw [if_neg (by rw [hb]; decide)] at o
          exact ih h2 o g' H' d σ es' rel xd hl
      · cases h1
theorem ss_try {n : Nat} {xs : Nat → Nat → Bool} {mg : Str → Option Nat} {body : List Stmt} {e0 : ExceptHandler} {es : List ExceptHandler} {hds : List Hd} {fb : FSt} (st0 : X.stack = X.env :: X.outer) (fr0 : X.env.frame = some X.env.locals) (nd : X.N.Nodup) (tk : Takes X (fun cls d _ H => E cls d H))
    (hb : ∀ (E' : XK) (pn : List (Addr × Obj)) (xe : Value → Shared → Prop), Takes (X.tr pn xe) (fun cls d _ H => E' cls d H) → PassesOwn (model X.prog X.w) X.A X.env xe → SSs (X.tr pn xe) W E' body fb)
    (ok : ExcOk X W n xs) (hmg : ∀ x h, mg x = some h → X.mg x = some (.ref (W.exc h))) (hh : hdsB mg X.N X.env.scope n hds (e0 :: es) = true) : SS X W E (.Try body (e0 :: es) [] [] pos) (sTry n xs W.xfl fb hds) := by
  refine ps_weak (ps_try_mix (tb := fun Z D σ H => ∃ E' : XK, (∀ cls d σ H, σ.length = X.N.length → E' cls d H → Z cls d σ H) ∧ tS W E' fb D σ H) st0 fr0 nd tk (fun Z pn xe tz po => ?_) (mix_ok ok hmg hh)) ?_
  · refine ⟨fun pins s σ H D I hw => ?_⟩
    obtain ⟨E', imp, hw⟩ := hw
    refine (hb E' pn xe (fun u s' x => ?_) po).run pins s σ H D I hw
    obtain ⟨a, B, sI, pins, σ, H, cls, d, e, I, nb, up, sky, na, os, ag, w⟩ := x
    exact tz u s' ⟨a, B, sI, pins, σ, H, cls, d, e, I, nb, up, sky, na, os, ag, imp _ _ _ _ I.len w⟩
  · rintro D σ H ⟨g, st, env, rel, rs, o⟩
    refine ⟨fun cls d H => ∀ σ : L2.St, σ.length = X.N.length → wMix X.K (fun cls d _ H => E cls d H) D (wl W n hds) cls d σ H, fun cls d σ H hl h => h σ hl, g, st, env, rel, rs, ?_⟩
    unfold sTry at o
    revert o
    cases fb env st with
    | bad => exact fun o => o
    | ok fl st1 =>
      cases fl with
      | nx env => exact fun o => o
      | bk env => exact fun o => o
      | ct env => exact fun o => o
      | rt v => exact fun o => o
    | exc c fs st1 =>
      intro o g' H' d es' rel' xd σ' hl
      dsimp only at o
      by_cases hc : c < n
      · rw [if_pos hc] at o
        exact wMix_ok ok hc hh o g' H' d σ' es' rel' xd hl
      · rw [if_neg hc] at o
        exact o.elim
end
end TW
set_option maxHeartbeats 800000
namespace TW
open PySem PySem.Spec L2
abbrev KVs := List (Key × Vl)
def keyOf : Vl → Option Key
  | .int i => some (.inl i)
  | .str x => some (.inr x)
  | _ => none
def putP (kvs : KVs) (k : Key) (v : Vl) : KVs :=
  if (kvs.any fun kv => decide (kv.1 = k)) = true then kvs.map (fun kv => if kv.1 = k then (kv.1, v) else kv) else kvs ++ [(k, v)]
def getP (kvs : KVs) (k : Key) : Option Vl := (kvs.find? fun kv => decide (kv.1 = k)).map (·.2)
def RK (W : Wd) (g : G) (H : Hp) (ps : KVs) (kvs : List (Key × V)) : Prop := kvs.map (·.1) = ps.map (·.1) ∧ Rs W g H (ps.map (·.2)) (kvs.map (·.2))
section
variable {W : Wd} {g g' : G} {H H' : Hp}
theorem RK.nil : RK W g H [] [] := ⟨rfl, rfl⟩
theorem RK.uncons {k : Key} {x : Vl} {ps : KVs} {kvs : List (Key × V)} (h : RK W g H ((k, x) :: ps) kvs) : ∃ v r, kvs = (k, v) :: r ∧ R W g H x v ∧ RK W g H ps r := by
  obtain ⟨h1, h2⟩ := h
  cases kvs with
  | nil => cases h1
  | cons p r =>
    obtain ⟨k', v⟩ := p
    simp only [List.map_cons, List.cons.injEq] at h1
    obtain ⟨rfl, h1⟩ := h1
    obtain ⟨v', r', e, a, b⟩ := h2
    simp only [List.map_cons, List.cons.injEq] at e
    obtain ⟨rfl, rfl⟩ := e
    exact ⟨_, _, rfl, a, h1, b⟩
theorem RK.cons {k : Key} {x : Vl} {v : V} {ps : KVs} {kvs : List (Key × V)} (h : R W g H x v) (t : RK W g H ps kvs) : RK W g H ((k, x) :: ps) ((k, v) :: kvs) := ⟨by simp [t.1], Rs.cons h t.2⟩
theorem RK.length {ps : KVs} {kvs : List (Key × V)} (h : RK W g H ps kvs) : ps.length = kvs.length := by
  have := congrArg List.length h.1
  simpa using this.symm
theorem RK.mo (m : Mo g H g' H') {ps : KVs} {kvs : List (Key × V)} (h : RK W g H ps kvs) : RK W g' H' ps kvs := ⟨h.1, h.2.mo m⟩
theorem RK.any {ps : KVs} {kvs : List (Key × V)} (h : RK W g H ps kvs) (k : Key) : (kvs.any fun kv => decide (kv.1 = k)) = (ps.any fun kv => decide (kv.1 = k)) := by
  have e1 : (kvs.any fun kv => decide (kv.1 = k)) = (kvs.map (·.1)).any fun j => decide (j = k) := by rw [List.any_map]; rfl
  have e2 : (ps.any fun kv => decide (kv.1 = k)) = (ps.map (·.1)).any fun j => decide (j = k) := by rw [List.any_map]; rfl
  rw [e1, e2, h.1]
theorem RK.putMap (k : Key) {x : Vl} {v : V} (r : R W g H x v) : ∀ {ps : KVs} {kvs : List (Key × V)}, RK W g H ps kvs → RK W g H (ps.map (fun kv => if kv.1 = k then (kv.1, x) else kv)) (kvs.map (fun kv => if kv.1 = k then (kv.1, v) else kv))
  | [], kvs, h => by
    have : kvs = [] := by simpa [RK] using h.1
    subst this
    exact RK.nil
  | (j, y) :: ps, kvs, h => by
    obtain ⟨w, q, rfl, a, b⟩ := h.uncons
    have t := RK.putMap k r b
    simp only [List.map_cons]
    by_cases e : j = k
    · rw [if_pos e, if_pos e]; exact RK.cons r t
    · rw [if_neg e, if_neg e]; exact RK.cons a t
theorem RK.put {ps : KVs} {kvs : List (Key × V)} (h : RK W g H ps kvs) (k : Key) {x : Vl} {v : V} (r : R W g H x v) : RK W g H (putP ps k x) (putK kvs k v) := by
  unfold putP putK
  rw [h.any k]
  split
  · exact RK.putMap k r h
  · refine ⟨by simp [h.1], ?_⟩
    rw [List.map_append, List.map_append]
    exact h.2.append (Rs.one r)
theorem RK.get {ps : KVs} {kvs : List (Key × V)} (h : RK W g H ps kvs) (k : Key) : (∀ x, getP ps k = some x → ∃ v, valV kvs k = some v ∧ R W g H x v) ∧ (getP ps k = none → valV kvs k = none) := by
  induction ps generalizing kvs with
  | nil =>
    have : kvs = [] := by simpa [RK] using h.1
    subst this
    exact ⟨fun x e => (by cases e), fun _ => rfl⟩
  | cons p ps ih =>
    obtain ⟨j, y⟩ := p
    obtain ⟨w, q, rfl, a, b⟩ := h.uncons
    obtain ⟨i1, i2⟩ := ih b
    by_cases e : j = k
    · have e1 : getP ((j, y) :: ps) k = some y := by simp [getP, List.find?_cons, e]
      rw [e1, valV_pos (p := (j, w)) e]
      exact ⟨fun x h => by cases h; exact ⟨_, rfl, a⟩, fun h => by cases h⟩
    · have e1 : getP ((j, y) :: ps) k = getP ps k := by simp [getP, List.find?_cons, e]
      rw [e1, valV_neg (p := (j, w)) e]
      exact ⟨i1, i2⟩
end
theorem keyOf_kV {W : Wd} {g : G} {H : Hp} {x : Vl} {k : Key} {u : V} (e : keyOf x = some k) (r : R W g H x u) : u = kV k := by
  cases x with
  | int i => cases e; exact r
  | str y => cases e; exact r
  | _ => cases e
abbrev FD := Ev → Sto → Res KVs
def dcF (set : Vl → Ev → Option Ev) (tt : FT) (tk tv : FE) (sk : Src) : List Vl → KVs → Ev → Sto → Res KVs
  | [], acc, _, st => .ok acc st
  | x :: xs, acc, env, st => match set x env with
    | none => .bad
    | some env2 => (noX (tt env2 st)).bind fun b st => if b = true then (noX (tk env2 st)).bind fun y st => (noX (tv env2 st)).bind fun z st => (match keyOf y with
        | some k => if sk.ok st = true then (if acc.length < sizeLine then dcF set tt tk tv sk xs (putP acc k z) env st else .bad) else .bad
        | none => .bad)
      else if sk.ok st = true then dcF set tt tk tv sk xs acc env st else .bad
def dComp (src : FS) (set : Vl → Ev → Option Ev) (tt : FT) (tk tv : FE) (vs : List Nat) : FD := fun env st => (src env st).bind fun s st => dcF set tt tk tv s s.items [] (wipeE env vs) st
/-- a new dict -/
def tD (W : Wd) (E : XK) (f : FD) : TE := fun σ H Q => ∃ g st env, Rel W g st H ∧ RS W g H env σ ∧
  Out W E g H (f env st) (fun ps g' st' H' => ∀ D kvs, H D = none → D ∉ g'.base → Rel W (g'.hold D) st' H' → H' D = some (.dK kvs) → RK W (g'.hold D) H' ps kvs → Q (.ref D) H')
def vDct (f : FD) : FE := fun env st => (f env st).bind fun ps st => .ok (.dct (ps.map (·.1)) (ps.map (·.2))) st
section
variable {W : Wd} {E : XK}
theorem dct_t {f : FD} : ∀ σ H Q, tE W E (vDct f) σ H Q → tD W E f σ H Q := by
  rintro σ H Q ⟨g, st, env, rel, rs, o⟩
  refine ⟨g, st, env, rel, rs, ?_⟩
  have o' : Out W E g H ((f env st).bind fun ps st => .ok (.dct (ps.map (·.1)) (ps.map (·.2))) st) (fun v g' _ H' => ∀ u, R W g' H' v u → Q u H') := o
  cases e1 : f env st with
  | ok ps st1 =>
    rw [e1, Res.bind_ok] at o'
    intro g1 H1 ee1 rel1 D kvs hD hb hrel hl hr
    exact o' g1 H1 ee1 rel1 _ ⟨D, kvs, rfl, ⟨(hrel.prot D (.inl List.mem_cons_self)).2, hb, hrel.disj D List.mem_cons_self⟩, hl, hr.1, hr.2.mo Mo.of_hold⟩
  | exc c fs st1 => rw [e1] at o'; exact o'
  | bad => rw [e1] at o'; exact o'
theorem Rel.putHeld' {g : G} {H : Hp} {st : Sto} {D : Addr} {u : HO} (rel : Rel W (g.hold D) st H) (hb : D ∉ g.base) (l : szO u) : Rel W (g.hold D) st (upd H D u) ∧ Mo (g.hold D) H (g.hold D) (upd H D u) := by
  have pD := rel.prot D (.inl List.mem_cons_self)
  have m : Mo (g.hold D) H (g.hold D) (upd H D u) := by
    refine ⟨fun a i _ => i, fun a o i e => ?_, fun _ _ e => e⟩
    have ne : a ≠ D := fun z => i.b (by rw [z]; exact List.mem_cons_self)
    rw [upd_ne ne]; exact e
  refine ⟨⟨rel.len, rel.nd, fun n a o e1 e2 => ?_, fun a h => ⟨fun z => ?_, (rel.prot a h).2⟩, rel.disj, sz_new l rel.sz⟩, m⟩
  · have ne : a ≠ D := fun z => pD.2 (z ▸ List.mem_iff_getElem?.mpr ⟨n, e1⟩)
    rw [upd_ne ne]
    exact (rel.cell n a o e1 e2).mo m
  · by_cases e : a = D
    · subst e; rw [upd_same] at z; cases z
    · rw [upd_ne e] at z; exact (rel.prot a h).1 z
theorem dcF_nox {set : Vl → Ev → Option Ev} {tt : FT} {tk tv : FE} {sk : Src} : ∀ {xs : List Vl} {acc : KVs} {env : Ev} {st st' : Sto} {c : Nat} {f : List Vl}, dcF set tt tk tv sk xs acc env st ≠ .exc c f st'
  | [], _, _, _, _, _, _ => fun h => by cases h
  | x :: xs, acc, env, st, st', c, f => fun h => by
    unfold dcF at h
    cases e : set x env with
    | none => rw [e] at h; cases h
    | some env2 =>
      rw [e] at h
      dsimp only at h
      cases et : noX (tt env2 st) with
      | exc c f s => exact noX_nox et
      | bad => rw [et] at h; cases h
      | ok b s =>
        rw [et, Res.bind_ok] at h
        cases b with
        | false =>
          rw [if_neg (by decide)] at h
          split at h
          · exact dcF_nox h
          · cases h
        | true =>
          rw [if_pos rfl] at h
          cases ev : noX (tk env2 s) with
          | exc c f s => exact noX_nox ev
          | bad => rw [ev] at h; cases h
          | ok y s2 =>
            rw [ev, Res.bind_ok] at h
            cases ez : noX (tv env2 s2) with
            | exc c f s => exact noX_nox ez
            | bad => rw [ez] at h; cases h
            | ok z s3 =>
              rw [ez, Res.bind_ok] at h
              split at h
              · split at h
                · split at h
                  · exact dcF_nox h
                  · cases h
                · cases h
              · cases h
theorem dc_t {src : FS} {set : Vl → Ev → Option Ev} {tt : FT} {tk tv : FE} {vs is : List Nat} {E1 : XK} (hsub : ∀ i ∈ is, i ∈ vs) : ∀ σ H Q, tD W E (dComp src set tt tk tv vs) σ H Q → tDc (tIb W E src) (tG W is set) (tT W E1 tt) (tE W E1 tk) (tE W E1 tv) vs σ H Q := by
  rintro σ H Q ⟨g, st, env, rel, rs, o⟩
  refine ⟨g, st, env, rel, rs, ?_⟩
  have o' : Out W E g H ((src env st).bind fun s st => dcF set tt tk tv s s.items [] (wipeE env vs) st) (fun ps g' st' H' => ∀ D kvs, H D = none → D ∉ g'.base → Rel W (g'.hold D) st' H' → H' D = some (.dK kvs) → RK W (g'.hold D) H' ps kvs → Q (.ref D) H') := o
  cases es : src env st with
  | exc c fs s => rw [es] at o'; exact o'
  | bad => rw [es] at o'; exact o'
  | ok s st1 =>
    rw [es, Res.bind_ok] at o'
    intro g1 H1 ee1 rel1 J us rb sd w D hD
    have rs1 := rs.ee rel ee1
    have eeD : EE g1 H1 g1 (upd H1 D (.dK [])) := EE.new hD
    have relD := rel1.hold (o := .dK []) hD True.intro
    have rsD := (rs1.hold rel1 eeD hD).wipe vs
    have rbD := RBs.hold rel1 eeD hD rb
    have hb0 : D ∉ g1.base := (rel1.free hD).b
    cases eT : dcF set tt tk tv s s.items [] (wipeE env vs) st1 with
    | exc c fs s5 => exact absurd eT dcF_nox
    | bad => rw [eT] at o'; exact o'.elim
    | ok psT stT =>
      rw [eT] at o'
      let Wv : Nat → Nat → Hp → Prop := fun i m Hi => i ≤ s.items.length ∧ m = s.items.length - i ∧ ∃ (gi : G) (sti : Sto) (acc : KVs) (kvs : List (Key × V)), EX D g1 (upd H1 D (.dK [])) gi Hi ∧ Rel W (gi.hold D) sti Hi ∧ Stand s sti ∧ Hi D = some (.dK kvs) ∧ RK W (gi.hold D) Hi acc kvs ∧ D ∉ gi.base ∧
        dcF set tt tk tv s (s.items.drop i) acc (wipeE env vs) sti = .ok psT stT
      refine ⟨Wv, ⟨s.items.length, Nat.zero_le _, by simp, g1, st1, [], [], EX.refl, relD, sd, upd_same, RK.nil, hb0, eT⟩, ?_⟩
      rintro i m Hi ⟨hi, rfl, gi, sti, acc, kvs, xi, reli, sdi, hDi, racc, hbi, ei⟩
      have rsi := rsD.ex relD xi
      have rbi := RBs.ex relD xi rbD
      by_cases hlt : i < s.items.length
      · refine .inr ⟨w.go i _ sti Hi reli rbi sdi hlt, Wv (i + 1) (s.items.length - (i + 1)), fun H' h => ⟨_, by omega, h⟩, fun x H' hy => ?_⟩
        obtain ⟨ee2, rel2, hx⟩ := w.yld i _ sti Hi x H' reli rbi sdi hy
        have rx := hx _ (List.getElem?_eq_getElem hlt)
        have ed : s.items.drop i = s.items[i] :: s.items.drop (i + 1) := List.drop_eq_getElem_cons hlt
        rw [ed] at ei
        unfold dcF at ei
        cases eset : set s.items[i] (wipeE env vs) with
        | none => rw [eset] at ei; cases ei
        | some env2 =>
          rw [eset] at ei
          dsimp only at ei
          refine ⟨gi.hold D, sti, wipeE env vs, s.items[i], env2, rel2, rsi.ee reli ee2, rx, eset, fun σ2 rs2 ag => ⟨?_, ?_⟩⟩
          · rw [wipe_agree ag hsub]
            exact wipe_agree (σ := σ) (is := vs) ⟨wipe_length _ _, fun j hj => wipe_out hj⟩ (fun _ h => h)
          · have nD : D ∉ (gi.hold D).rho := (reli.prot D (.inl List.mem_cons_self)).2
            refine ⟨gi.hold D, sti, env2, rel2, rs2, ?_⟩
            cases et : tt env2 sti with
            | exc c f s5 => rw [et] at ei; cases ei
            | bad => rw [et] at ei; cases ei
            | ok b st3 =>
              rw [et] at ei
              have ei : (if b = true then (noX (tk env2 st3)).bind fun y st => (noX (tv env2 st)).bind fun z st => (match keyOf y with
                  | some k => if s.ok st = true then (if acc.length < sizeLine then dcF set tt tk tv s (s.items.drop (i + 1)) (putP acc k z) (wipeE env vs) st else .bad) else .bad
                  | none => .bad)
                else if s.ok st3 = true then dcF set tt tk tv s (s.items.drop (i + 1)) acc (wipeE env vs) st3 else .bad) = .ok psT stT := ei
              intro g3' H3 ee3 rel3
              obtain ⟨g3, rfl, hb3, _, _⟩ := G.unhold (show g3'.base = D :: gi.base from ee3.base)
              have x3 : EX D g1 (upd H1 D (.dK [])) g3 H3 := xi.step (ee2.trans ee3).unhold
              have racc3 : RK W (g3.hold D) H3 acc kvs := (racc.mo ee2.mo).mo ee3.mo
              have hD3 : H3 D = some (.dK kvs) := ee3.keep D _ (ee2.keep D _ hDi nD) nD
              have rs3 := rs2.ee rel2 ee3
              cases b with
              | false =>
                rw [if_neg (by decide)] at ei ⊢
                split at ei
                · rename_i hok
                  exact ⟨hlt, rfl, g3, st3, acc, kvs, x3, rel3, Src.ok_iff hok, hD3, racc3, hb3 ▸ hbi, ei⟩
                · cases ei
              | true =>
                rw [if_pos rfl] at ei ⊢
                refine ⟨g3.hold D, st3, env2, rel3, rs3, ?_⟩
                cases ey4 : tk env2 st3 with
                | exc c f s5 => rw [ey4] at ei; cases ei
                | bad => rw [ey4] at ei; cases ei
                | ok y st4 =>
                  rw [ey4] at ei
                  have ei : ((noX (tv env2 st4)).bind fun z st => (match keyOf y with
                    | some k => if s.ok st = true then (if acc.length < sizeLine then dcF set tt tk tv s (s.items.drop (i + 1)) (putP acc k z) (wipeE env vs) st else .bad) else .bad
                    | none => .bad)) = .ok psT stT := ei
                  intro g4' H4 ee4 rel4 yv ry
                  obtain ⟨g4, rfl, hb4, _, _⟩ := G.unhold (show g4'.base = D :: g3.base from ee4.base)
                  have nD3 : D ∉ (g3.hold D).rho := (rel3.prot D (.inl List.mem_cons_self)).2
                  refine ⟨g4.hold D, st4, env2, rel4, rs3.ee rel3 ee4, ?_⟩
                  cases ez5 : tv env2 st4 with
                  | exc c f s5 => rw [ez5] at ei; cases ei
                  | bad => rw [ez5] at ei; cases ei
                  | ok z st5 =>
                    rw [ez5] at ei
                    have ei : (match keyOf y with
                      | some k => if s.ok st5 = true then (if acc.length < sizeLine then dcF set tt tk tv s (s.items.drop (i + 1)) (putP acc k z) (wipeE env vs) st5 else .bad) else .bad
                      | none => .bad) = .ok psT stT := ei
                    intro g5' H5 ee5 rel5 zv rz
                    obtain ⟨g5, rfl, hb5, _, _⟩ := G.unhold (show g5'.base = D :: g4.base from ee5.base)
                    have nD4 : D ∉ (g4.hold D).rho := (rel4.prot D (.inl List.mem_cons_self)).2
                    have x5 : EX D g1 (upd H1 D (.dK [])) g5 H5 := (x3.step ee4.unhold).step ee5.unhold
                    have racc5 : RK W (g5.hold D) H5 acc kvs := (racc3.mo ee4.mo).mo ee5.mo
                    have hD5 : H5 D = some (.dK kvs) := ee5.keep D _ (ee4.keep D _ hD3 nD3) nD4
                    cases ek : keyOf y with
                    | none => rw [ek] at ei; cases ei
                    | some k =>
                      rw [ek] at ei
                      dsimp only at ei
                      split at ei
                      · rename_i hok
                        split at ei
                        · rename_i hl
                          have hb5' : D ∉ g5.base := by rw [hb5, hb4, hb3]; exact hbi
                          obtain ⟨rel6, m6⟩ := rel5.putHeld' (u := .dK (putK kvs k zv)) hb5' True.intro
                          have lk := racc5.length
                          exact ⟨kvs, k, keyOf_kV ek ry, hD5, by omega, hlt, rfl, g5, st5, putP acc k z, putK kvs k zv, x5.put, rel6, Src.ok_iff hok, upd_same, (racc5.put k rz).mo m6, hb5', ei⟩
                        · cases ei
                      · cases ei
      · have en : i = s.items.length := by omega
        subst en
        refine .inl ⟨w.stop _ sti Hi reli rbi sdi, ?_⟩
        rw [show s.items.drop s.items.length = [] from List.drop_length] at ei
        cases ei
        exact o' gi Hi (ee1.trans (xi.ee eeD hD)) reli.unhold D kvs (ee1.there D hD) hbi reli hDi racc
end
section
variable {X : Cx} {W : Wd} {E : XK} {pos : Pos}
/-- name = {..} on one line -/
theorem ps_setDc {i : Nat} {y : Str} {py : Pos} {kx vx tg iter : Expr} {ifs : List Expr} {scope : Scope} {own : List (Str × Nat)} {spos : Pos} {wi : TI} {g : TG} {tt : TT} {tk tv : TE} (calm : X.calm = true) (nd : X.N.Nodup) (yN : X.N[i]? = some y) (yl : X.env.scope.names.lookup y = some .local)
    (sw : swapsWith (.DictComp kx vx [⟨tg, iter, ifs, 0⟩] scope pos) (some (.Name y py)) spos.line X.env = pure true) (hi : PI X tg iter wi) (ok : BlkOk X.N X.env.scope scope own)
    (hg : InBlk X scope fun Y => PG Y tg g) (ht : InBlk X scope fun Y => PTs Y ifs tt) (hk : InBlk X scope fun Y => PE Y kx tk) (hv : InBlk X scope fun Y => PE Y vx tv) (plain : ∀ x, foldedSetIterable iter X.env x = pure x) :
    PS X (.Assign [.Name y py] (.DictComp kx vx [⟨tg, iter, ifs, 0⟩] scope pos) spos) (tAsg (tDc wi g tt tk tv (own.map (·.2))) (gName i)) := by
  refine ⟨fun pins s σ H D I want => ?_⟩
  rw [exec_Assign_Name_used _ _ _ _ sw]
  refine wpAny_bind (wpAny_standAt (wpAny_bind ?_))
  show wpAny _ X.A (do let _ ← comprehension (.DictComp kx vx [⟨tg, iter, ifs, 0⟩] scope pos) scope X.env (firstIterPos [⟨tg, iter, ifs, 0⟩] pos) newDict false (eval iter X.env) (some (assign (.Name y py) X.env))) _ _ s
  have want2 : tDc wi g tt tk tv (own.map (·.2)) σ H (fun x H1 => gName i x σ H1 D.nx) := want
  refine wpAny_bind (thn (dc_core (Qf := fun _ s' => L2.SP X pins D .next s') calm nd I hi ok hg ht hk hv plain want2 fun L C s' m H' I' q hn f => ?_) fun _ s' hq => wpAny_pure (wpAny_pure hq))
  show wpAny _ _ (assign (.Name y py) X.env (.ref L)) _ _ _
  refine wpAny_assign_Name (store_ok2 (v := V.ref L) I' nd yN (.inl yl) rfl (fun s2 I2 ⟨a, sb, ha⟩ => ?_) (.inr yl))
  obtain ⟨f0, f1, f2, f3, f4, f5⟩ := f
  have apart : C ≠ a := ha.elim (fun z => by rw [z]; exact f1) fun z e => f4 y a z e.symm
  exact ⟨m, hn.sameBut sb apart, fun h3 sb3 => ⟨_, H', I2.turned (t' := s2.toks) (fun b o hb e => (sb3.2 b hb).trans e) f0 f1 f3 f4 f5, q⟩⟩
end
end TW
set_option maxHeartbeats 800000
namespace TW
open PySem PySem.Spec L2
def pairs (ks : List Key) (vs : List Vl) : KVs := ks.zip vs
section
variable {W : Wd} {g : G} {H : Hp}
theorem rk_of {ks : List Key} {xs : List Vl} {kvs : List (Key × V)} (h : kvs.map (·.1) = ks) (r : Rs W g H xs (kvs.map (·.2))) : RK W g H (pairs ks xs) kvs := by
  have l1 : xs.length = kvs.length := by rw [r.length, List.length_map]
  have l2 : ks.length = kvs.length := by rw [← h, List.length_map]
  unfold pairs
  refine ⟨?_, ?_⟩
  · rw [List.map_fst_zip (by omega)]; exact h
  · rw [List.map_snd_zip (by omega)]; exact r
theorem rb_dctK {ks : List Key} {xs : List Vl} {u : V} (h : RB W g H (.dct ks xs) u) : ∃ a kvs, u = .ref a ∧ H a = some (.dK kvs) ∧ RK W g H (pairs ks xs) kvs := by
  obtain ⟨a, kvs, e, h1, h2, r⟩ := rb_dct h
  exact ⟨a, kvs, e, h1, rk_of h2 r⟩
end
/-- {} -/
theorem se_dct0 {X : Cx} {W : Wd} {E : XK} {pos : Pos} : SE X W E (.Dict [] [] pos) (fC (.dct [] [])) := by
  refine pe_weak pe_dnewK ?_
  rintro σ H Q ⟨g, st, env, rel, rs, o⟩ p hp
  exact o.new rel hp (o := .dK []) trivial _ ⟨p, [], rfl, rel.free hp, upd_same, rfl, Rs.nil⟩
/-- the dict a value is, or a cell holds -/
def dctOf (v : Vl) (st : Sto) : Option KVs := match v with
  | .dct ks xs => some (pairs ks xs)
  | .ref n => (match (st : List Ob)[n]? with
    | some (.dct ks xs) => some (pairs ks xs)
    | _ => none)
  | _ => none
theorem dct_rd {W : Wd} {g : G} {H : Hp} {st : Sto} {v : Vl} {u : V} {ps : KVs} (rel : Rel W g st H) (h : RB W g H v u) (e : dctOf v st = some ps) : ∃ a kvs, u = .ref a ∧ H a = some (.dK kvs) ∧ RK W g H ps kvs := by
  cases v with
  | dct ks xs => cases e; exact rb_dctK h
  | ref n =>
    unfold dctOf at e
    dsimp only at e
    obtain ⟨a, e1, hn⟩ := rb_ref h
    cases q : (st : List Ob)[n]? with
    | none => rw [q] at e; cases e
    | some o =>
      rw [q] at e
      cases o with
      | dct ks xs =>
        cases e
        obtain ⟨kvs, h1, h2, r⟩ := rel.cell n a _ hn q
        exact ⟨a, kvs, e1, h1, rk_of h2 r⟩
      | _ => cases e
  | _ => cases e
def kIn (neg : Bool) (x y : Vl) (st : Sto) : Option Bool := match dctOf y st, keyOf x with
  | some ps, some k => some ((getP ps k).isSome != neg)
  | _, _ => none
def kGetIx (x y : Vl) (st : Sto) : Res Vl := match dctOf x st, keyOf y with
  | some ps, some k => Res.lift (getP ps k) st
  | _, _ => .bad
section
variable {X : Cx} {W : Wd} {E : XK} {pos : Pos}
theorem get_iso {g : G} {H : Hp} {ps : KVs} {kvs : List (Key × V)} (h : RK W g H ps kvs) (k : Key) : (getP ps k).isSome = (valV kvs k).isSome := by
  obtain ⟨h1, h2⟩ := h.get k
  cases e : getP ps k with
  | none => rw [h2 e]; rfl
  | some x => obtain ⟨v, hv, _⟩ := h1 x e; rw [hv]; rfl
theorem ce_dIn (hu : X.A.units + 1 < cLine) : CmpR X W .In (kIn false) := by
  refine ⟨fun y x H Q => ∃ a o, x = .ref a ∧ DGet H a y o ∧ Q (.bl o.isSome) H, ?_, ?_⟩
  · intro pins s σ H x y v u Q I rx ry h
    obtain ⟨a, o, rfl, d, q⟩ := h
    obtain rfl : u = Value.ref a := ry
    exact d_in hu I d rx fun s3 I3 => ⟨.bl o.isSome, H, I3, rfl, q⟩
  · intro g st H x y u w b Q rel rx ry e q
    unfold kIn at e
    split at e
    · rename_i ps k hd hk
      cases e
      obtain ⟨a, kvs, rfl, hH, rk⟩ := dct_rd rel ry hd
      have ek : u = kV k := by
        cases x with
        | int i => cases hk; exact rb_int rx
        | str i => cases hk; exact rb_str rx
        | _ => cases hk
      subst ek
      refine ⟨a, _, rfl, DGet.k hH, ?_⟩
      rw [← get_iso rk k]
      simpa using q
    · cases e
theorem ce_dNotIn (hu : X.A.units + 1 < cLine) : CmpR X W .NotIn (kIn true) := by
  refine ⟨fun y x H Q => ∃ a o, x = .ref a ∧ DGet H a y o ∧ Q (.bl (!o.isSome)) H, ?_, ?_⟩
  · intro pins s σ H x y v u Q I rx ry h
    obtain ⟨a, o, rfl, d, q⟩ := h
    obtain rfl : u = Value.ref a := ry
    exact d_notIn hu I d rx fun s3 I3 => ⟨.bl (!o.isSome), H, I3, rfl, q⟩
  · intro g st H x y u w b Q rel rx ry e q
    unfold kIn at e
    split at e
    · rename_i ps k hd hk
      cases e
      obtain ⟨a, kvs, rfl, hH, rk⟩ := dct_rd rel ry hd
      have ek : u = kV k := by
        cases x with
        | int i => cases hk; exact rb_int rx
        | str i => cases hk; exact rb_str rx
        | _ => cases hk
      subst ek
      refine ⟨a, _, rfl, DGet.k hH, ?_⟩
      rw [← get_iso rk k]
      simpa using q
    · cases e
/-- d[k] -/
theorem se_dix {a b : Expr} {fa fb : FE} (hu : X.A.units + 1 < cLine) (ha : SB X W E a fa) (hb : SB X W E b fb) (hs : NoSl b) : SE X W E (.Subscript a b pos) (f2 fa fb kGetIx) := by
  refine pe_weak (pe_dget hu ha hb hs) ?_
  rintro σ H Q ⟨g, st, env, rel, rs, o⟩
  refine tB_bind rel rs o fun x st1 g1 H1 u e1 ee1 rel1 r1 o1 => ?_
  refine tB_bind rel1 (rs.ee rel ee1) o1 fun y st2 g2 H2 w e2 ee2 rel2 r2 o2 => ?_
  unfold kGetIx at o2
  split at o2
  · rename_i ps k hd hk
    obtain ⟨v, ev, o3⟩ := o2.lift
    obtain ⟨a, kvs, rfl, hH, rk⟩ := dct_rd rel2 (r1.ee rel1 ee2) hd
    obtain ⟨z, hz, rz⟩ := (rk.get k).1 v ev
    have ek : w = kV k := by
      cases y with
      | int i => cases hk; exact rb_int r2
      | str i => cases hk; exact rb_str r2
      | _ => cases hk
    subst ek
    exact ⟨a, z, rfl, hz ▸ DGet.k hH, o3.here rel2 _ rz⟩
  · exact o2.elim
/-- d.get(k) -/
def kGet (x : Vl) (fb : FE) (env : Ev) (st0 : Sto) : Res Vl := (fb env st0).bind fun y st => match dctOf x st, keyOf y with
  | some ps, some k => .ok ((getP ps k).getD .non) st
  | _, _ => .bad
def vGet (fa fb : FE) : FE := fun env st => (fa env st).bind fun x st => if (dctOf x st).isSome = true then kGet x fb env st else .bad
theorem se_dget {o e : Expr} {fa fb : FE} {apos cpos : Pos} (hu : X.A.units + 1 < cLine) (ha : SB X W E o fa) (hb : SB X W E e fb) (hn : noSuper o = true) (hs : notStar e = true) (hl : (apos.endLine == cpos.line) = true) : SE X W E (.Call (.Attribute o "get" apos) [e] [] cpos) (vGet fa fb) := by
  refine pe_weak (pe_dget1 hu ha hb ⟨noSuper_ok hn, few1 hs, hl, by rw [notStar_ok hs] <;> rfl⟩) ?_
  rintro σ H Q ⟨g, st, env, rel, rs, o⟩
  refine tB_bind rel rs o fun x st1 g1 H1 u e1 ee1 rel1 r1 o1 => ?_
  split at o1
  · rename_i hd0
    obtain ⟨ps0, hp0⟩ := Option.isSome_iff_exists.mp hd0
    obtain ⟨a0, kvs0, ea0, hH0, rk0⟩ := dct_rd rel1 r1 hp0
    refine ⟨a0, ea0, .inl ⟨kvs0, .inl hH0⟩, ?_⟩
    refine tB_bind rel1 (rs.ee rel ee1) o1 fun y st2 g2 H2 w e2 ee2 rel2 r2 o2 => ?_
    split at o2
    · rename_i ps k hd hk
      obtain ⟨a, kvs, ea, hH, rk⟩ := dct_rd rel2 (r1.ee rel1 ee2) hd
      rw [ea0] at ea
      cases ea
      have ek : w = kV k := by
        cases y with
        | int i => cases hk; exact rb_int r2
        | str i => cases hk; exact rb_str r2
        | _ => cases hk
      subst ek
      refine ⟨_, DGet.k hH, ?_⟩
      obtain ⟨k1, k2⟩ := rk.get k
      cases eg : getP ps k with
      | none =>
        rw [eg] at o2
        rw [k2 eg]
        exact o2.here rel2 _ rfl
      | some v =>
        rw [eg] at o2
        obtain ⟨z, hz, rz⟩ := k1 v eg
        rw [hz]
        exact o2.here rel2 _ rz
    · exact o2.elim
  · exact o1.elim
theorem se_dct {kx vx tg iter : Expr} {ifs : List Expr} {scope : Scope} {own : List (Str × Nat)} {is : List Nat} {src : FS} {set : Vl → Ev → Option Ev} {tt : FT} {tk tv : FE} (hc : X.calm = true) (nd : X.N.Nodup) (hi : SIb X W E tg iter src) (ok : BlkOk X.N X.env.scope scope own)
    (hg : InBlk X scope fun Y => SG Y W is tg set) (ht : InBlk X scope fun Y => PTs Y ifs (tT W E0 tt)) (hk : InBlk X scope fun Y => SE Y W E0 kx tk) (hv : InBlk X scope fun Y => SE Y W E0 vx tv) (hsub : ∀ i ∈ is, i ∈ own.map (·.2)) (hn : notSet iter = true) :
    SE X W E (.DictComp kx vx [⟨tg, iter, ifs, 0⟩] scope pos) (vDct (dComp src set tt tk tv (own.map (·.2)))) :=
  pe_weak (pe_dc hc nd hi ok hg ht hk hv (notSet_it hn)) fun σ H Q h => dc_t hsub _ _ _ (dct_t _ _ _ h)
theorem ss_setDc {i : Nat} {y : Str} {py spos : Pos} {kx vx tg iter : Expr} {ifs : List Expr} {scope : Scope} {own : List (Str × Nat)} {is : List Nat} {src : FS} {set : Vl → Ev → Option Ev} {tt : FT} {tk tv : FE} (hc : X.calm = true) (nd : X.N.Nodup) (yN : X.N[i]? = some y) (yl : X.env.scope.names.lookup y = some .local)
    (sw : swapsWith (.DictComp kx vx [⟨tg, iter, ifs, 0⟩] scope pos) (some (.Name y py)) spos.line X.env = pure true) (hi : SIb X W E tg iter src) (ok : BlkOk X.N X.env.scope scope own)
    (hg : InBlk X scope fun Y => SG Y W is tg set) (ht : InBlk X scope fun Y => PTs Y ifs (tT W E0 tt)) (hk : InBlk X scope fun Y => SE Y W E0 kx tk) (hv : InBlk X scope fun Y => SE Y W E0 vx tv) (hsub : ∀ i ∈ is, i ∈ own.map (·.2)) (hn : notSet iter = true) :
    SS X W E (.Assign [.Name y py] (.DictComp kx vx [⟨tg, iter, ifs, 0⟩] scope pos) spos) (sSet i (vDct (dComp src set tt tk tv (own.map (·.2))))) :=
  ps_weak (asg_weak (ps_setDc hc nd yN yl sw hi ok hg ht hk hv (notSet_it hn)) fun σ H Q h => dc_t hsub _ _ _ (dct_t _ _ _ h)) set_t
def gU (is : List Nat) (x : Vl) (env : Ev) : Option Ev := match x with
  | .tup xs => if xs.length = is.length then some (setN is xs env) else none
  | .lst xs => if xs.length = is.length then some (setN is xs env) else none
  | _ => none
theorem pg_or {tg : Expr} {t u : TG} (h : PG X tg t) (h' : PG X tg u) : PG X tg (fun v σ H Q => t v σ H Q ∨ u v σ H Q) := ⟨fun pins s σ H v w Q I r hw => hw.elim (h.run pins s σ H v w Q I r) (h'.run pins s σ H v w Q I r)⟩
theorem sg_unp {es : List Expr} {is : List Nat} {k : Nat} {pos : Pos} (hc : X.calm = true) (nd : X.N.Nodup) (h : NmsOk X es is) : SG X W is (.Tuple es k pos) (gU is) := by
  refine pg_weak (pg_or (pg_tup hc (pgs_names nd h) (nms_len h).1 (nms_len h).2) (pg_lst hc (pgs_names nd h) (nms_len h).1 (nms_len h).2)) ?_
  rintro v σ H Q ⟨g, st, env, y, env', rel, rs, r, e, q⟩
  cases y with
  | tup xs =>
    unfold gU at e
    dsimp only at e
    split at e
    · rename_i hl
      cases e
      obtain ⟨a, vs, e3, _, e4, r'⟩ := r
      exact .inl ⟨a, vs, e3, SqT.of e4, by rw [← r'.length, hl], gnR_ok rs r' hl q⟩
    · cases e
  | lst xs =>
    unfold gU at e
    dsimp only at e
    split at e
    · rename_i hl
      cases e
      obtain ⟨a, vs, e3, _, e4, r'⟩ := r
      exact .inr ⟨a, vs, e3, SqL.of e4, by rw [← r'.length, hl], gnR_ok rs r' hl q⟩
    · cases e
  | _ => cases e
/-- targets = e -/
def sUnp (set : Vl → Ev → Option Ev) (f : FE) : FSt := fun env st => (f env st).bind fun v st => match set v env with
  | some env' => .ok (.nx env') st
  | none => .bad
theorem ss_unp {es : List Expr} {is : List Nat} {k : Nat} {pt : Pos} {e : Expr} {f : FE} {set : Vl → Ev → Option Ev} (hg : SG X W is (.Tuple es k pt) set) (h : SE X W E e f) (hn : notComp e = true) (hw : swappedStores [.Tuple es k pt] e X.env = pure none) : SS X W E (.Assign [.Tuple es k pt] e pos) (sUnp set f) := by
  refine ps_weak (ps_asg h hg (show swapsWith e (some (.Tuple es k pt)) pos.line X.env = pure false from notComp_ok hn) hw) ?_
  rintro D σ H ⟨g, st, env, rel, rs, o⟩
  refine ⟨g, st, env, rel, rs, outS_bind o fun v st1 g1 H1 _ ee rel1 o1 u r => ?_⟩
  cases e1 : set v env with
  | none => rw [e1] at o1; exact o1.elim
  | some env' =>
    rw [e1] at o1
    exact ⟨g1, st1, env, v, env', rel1, rs.ee rel ee, r, e1, fun σ' rs' _ => o1 g1 H1 σ' ES.refl rel1 rs'⟩
def sPar (is : List Nat) (f : FA) : FSt := fun env st => (f env st).bind fun vs st => if vs.length = is.length then .ok (.nx (setN is vs env)) st else .bad
theorem ss_par2 {i j : Nat} {x y : Str} {a b : Expr} {f : FA} {px py pt : Pos} {kt k2 : Nat} {pt2 : Pos} (hc : X.calm = true) (nd : X.N.Nodup) (hi : X.N[i]? = some x) (hj : X.N[j]? = some y) (hij : i ≠ j) (hx : X.env.scope.names.lookup x = some .local) (hy : X.env.scope.names.lookup y = some .local) (ha : SA X W E [a, b] f)
    (hw : swappedStores [.Tuple [.Name x px, .Name y py] kt pt] (.Tuple [a, b] k2 pt2) X.env = pure (some [x, y])) : SS X W E (.Assign [.Tuple [.Name x px, .Name y py] kt pt] (.Tuple [a, b] k2 pt2) pos) (sPar [i, j] f) := by
  refine ps_weak (ps_par hc nd hi hj hij hx hy ha hw) ?_
  rintro D σ H ⟨g, st, env, rel, rs, o⟩
  refine ⟨g, st, env, rel, rs, outS_bind o fun vs st1 g1 H1 _ ee rel1 o1 us r => ?_⟩
  split at o1
  · rename_i hl
    match vs, hl with
    | [v1, v2], _ =>
      obtain ⟨u1, r1, rfl, q1, u2, r2, rfl, q2, rfl⟩ := r
      exact ⟨u1, u2, rfl, o1 g1 H1 _ ES.refl rel1 (((rs.ee rel ee).set q1).set q2)⟩
  · exact o1.elim
theorem ss_par3 {i j l : Nat} {x y z : Str} {a b c : Expr} {f : FA} {px py pz pt : Pos} {kt k2 : Nat} {pt2 : Pos} (hc : X.calm = true) (nd : X.N.Nodup) (hi : X.N[i]? = some x) (hj : X.N[j]? = some y) (hl : X.N[l]? = some z) (hij : i ≠ j) (hil : i ≠ l) (hjl : j ≠ l)
    (hx : X.env.scope.names.lookup x = some .local) (hy : X.env.scope.names.lookup y = some .local) (hz : X.env.scope.names.lookup z = some .local) (ha : SA X W E [a, b, c] f)
    (hw : swappedStores [.Tuple [.Name x px, .Name y py, .Name z pz] kt pt] (.Tuple [a, b, c] k2 pt2) X.env = pure (some [x, y, z])) : SS X W E (.Assign [.Tuple [.Name x px, .Name y py, .Name z pz] kt pt] (.Tuple [a, b, c] k2 pt2) pos) (sPar [i, j, l] f) := by
  refine ps_weak (ps_par3 hc nd hi hj hl hij hil hjl hx hy hz ha hw) ?_
  rintro D σ H ⟨g, st, env, rel, rs, o⟩
  refine ⟨g, st, env, rel, rs, outS_bind o fun vs st1 g1 H1 _ ee rel1 o1 us r => ?_⟩
  split at o1
  · rename_i hl
    match vs, hl with
    | [v1, v2, v3], _ =>
      obtain ⟨u1, r1, rfl, q1, u2, r2, rfl, q2, u3, r3, rfl, q3, rfl⟩ := r
      exact ⟨u1, u2, u3, rfl, o1 g1 H1 _ ES.refl rel1 ((((rs.ee rel ee).set q1).set q2).set q3)⟩
  · exact o1.elim
def rgOk (a b : Int) : Bool := okR a && okR b && decide ((b - a).toNat ≤ 2 ^ 24)
theorem rgOk_ok {a b : Int} (h : rgOk a b = true) : RgOk a b := by
  simp only [rgOk, Bool.and_eq_true, decide_eq_true_eq] at h
  obtain ⟨⟨h1, h2⟩, h3⟩ := h
  have a1 := okR_ok h1
  have a2 := okR_ok h2
  exact ⟨a1.1, a1.2, a2.1, a2.2, h3⟩
theorem rs_rng {g : G} {H : Hp} (lo : Int) : ∀ n : Nat, Rs W g H (rngL lo n) ((List.range n).map fun i => V.int (lo + (i : Nat))) := by
  intro n
  induction n with
  | zero => rfl
  | succ n ih =>
    unfold rngL at ih ⊢
    rw [List.range_succ, List.map_append, List.map_append]
    exact ih.append (Rs.one rfl)
def kTupRg (x y : Vl) (st : Sto) : Res Vl := match x, y with
  | .int a, .int b => if rgOk a b = true then .ok (.tup (rngL a (b - a).toNat)) st else .bad
  | _, _ => .bad
def kLstRg (x y : Vl) (st : Sto) : Res (List Vl) := match x, y with
  | .int a, .int b => if rgOk a b = true then .ok (rngL a (b - a).toNat) st else .bad
  | _, _ => .bad
theorem se_tupRg2 {a b : Expr} {fa fb : FE} {p p2 p3 : Pos} (hc : X.calm = true) (ha : SB X W E a fa) (hb : SB X W E b fb) (hg : Gl X "tuple") (hm : X.mg "tuple" = none) (hg2 : Gl X "range") (hm2 : X.mg "range" = none) (hn : notStar a = true) (hn2 : notStar b = true) :
    SE X W E (.Call (.Name "tuple" p) [.Call (.Name "range" p2) [a, b] [] p3] [] pos) (f2 fa fb kTupRg) := by
  refine pe_weak (pe_tupRg hc hg hm (prg_2 hg2 hm2 ha hb (notStar_ok hn) (notStar_ok hn2) (noStars (by simp [hn2])))) ?_
  rintro σ H Q ⟨g, st, env, rel, rs, o⟩
  refine tB_bind rel rs o fun x st1 g1 H1 u e1 ee1 rel1 r1 o1 => ?_
  refine tB_bind rel1 (rs.ee rel ee1) o1 fun y st2 g2 H2 w e2 ee2 rel2 r2 o2 => ?_
  unfold kTupRg at o2
  split at o2
  · split at o2
    · rename_i i j h
      have ok := rgOk_ok h
      have lz : (rgV i j).length ≤ sizeLine := by rw [rgV_length, sizeLine_eq]; have := ok.2.2.2.2; omega
      refine ⟨i, j, rb_int (r1.ee rel1 ee2), rb_int r2, ok, fun q hq => ?_⟩
      exact o2.new rel2 hq (o := .tup (rgV i j)) lz _ ⟨q, _, rfl, rel2.free hq, upd_same, rs_rng _ _⟩
    · exact o2.elim
  · exact o2.elim
def kTupRg1 (x : Vl) (st : Sto) : Res Vl := kTupRg (.int 0) x st
theorem se_tupRg1 {b : Expr} {fb : FE} {p p2 p3 : Pos} (hc : X.calm = true) (hb : SB X W E b fb) (hg : Gl X "tuple") (hm : X.mg "tuple" = none) (hg2 : Gl X "range") (hm2 : X.mg "range" = none) (hn2 : notStar b = true) :
    SE X W E (.Call (.Name "tuple" p) [.Call (.Name "range" p2) [b] [] p3] [] pos) (v1 kTupRg1 fb) := by
  refine pe_weak (pe_tupRg hc hg hm (prg_1 hg2 hm2 hb (notStar_ok hn2))) ?_
  rintro σ H Q ⟨g, st, env, rel, rs, o⟩
  refine tB_bind rel rs o fun y st2 g2 H2 w e2 ee2 rel2 r2 o2 => ?_
  unfold kTupRg1 kTupRg at o2
  split at o2
  · rename_i i j he
    cases he
    split at o2
    · rename_i h
      have ok := rgOk_ok h
      have lz : (rgV 0 j).length ≤ sizeLine := by rw [rgV_length, sizeLine_eq]; have := ok.2.2.2.2; omega
      refine ⟨j, rb_int r2, ok, fun q hq => ?_⟩
      exact o2.new rel2 hq (o := .tup (rgV 0 j)) lz _ ⟨q, _, rfl, rel2.free hq, upd_same, rs_rng _ _⟩
    · exact o2.elim
  · exact o2.elim
end
end TW
set_option maxHeartbeats 1600000
namespace TW
open PySem PySem.Spec L2
def insI (i : Int) : List Int → List Int
  | [] => [i]
  | j :: js => if i ≤ j then i :: j :: js else j :: insI i js
def isort : List Int → List Int
  | [] => []
  | i :: is => insI i (isort is)
theorem insI_perm (i : Int) : ∀ l : List Int, (insI i l).Perm (i :: l)
  | [] => List.Perm.refl _
  | j :: js => by
    unfold insI
    split
    · exact List.Perm.refl _
    · exact ((insI_perm i js).cons j).trans (List.Perm.swap i j js)
theorem isort_perm : ∀ l : List Int, (isort l).Perm l
  | [] => List.Perm.refl _
  | i :: is => (insI_perm i _).trans ((isort_perm is).cons i)
theorem insI_srt (i : Int) : ∀ {l : List Int}, l.Pairwise (· ≤ ·) → (insI i l).Pairwise (· ≤ ·)
  | [], _ => List.pairwise_singleton _ _
  | j :: js, h => by
    have h0 := h
    rw [List.pairwise_cons] at h
    unfold insI
    split
    · rename_i l
      refine List.pairwise_cons.mpr ⟨fun x hx => ?_, h0⟩
      rcases List.mem_cons.mp hx with rfl | hx
      · exact l
      · exact Int.le_trans l (h.1 x hx)
    · rename_i l
      refine List.pairwise_cons.mpr ⟨fun x hx => ?_, insI_srt i h.2⟩
      rcases List.mem_cons.mp ((insI_perm i js).mem_iff.mp hx) with rfl | hx
      · omega
      · exact h.1 x hx
theorem isort_srt : ∀ l : List Int, (isort l).Pairwise (· ≤ ·)
  | [] => List.Pairwise.nil
  | i :: is => insI_srt i (isort_srt is)
theorem srt_uniq : ∀ {l m : List Int}, l.Perm m → l.Pairwise (· ≤ ·) → m.Pairwise (· ≤ ·) → l = m
  | [], m, p, _, _ => (List.Perm.nil_eq p)
  | x :: l, [], p, _, _ => absurd p.length_eq (by simp)
  | x :: l, y :: m, p, h1, h2 => by
    rw [List.pairwise_cons] at h1 h2
    have a : x = y := by
      have m1 : x ∈ y :: m := p.mem_iff.mp List.mem_cons_self
      have m2 : y ∈ x :: l := p.mem_iff.mpr List.mem_cons_self
      rcases List.mem_cons.mp m1 with e | m1
      · exact e
      · rcases List.mem_cons.mp m2 with e | m2
        · exact e.symm
        · exact Int.le_antisymm (h1.1 y m2) (h2.1 x m1)
    subst a
    rw [srt_uniq ((List.perm_cons x).mp p) h1.2 h2.2]
theorem rs_ints {W : Wd} {g : G} {H : Hp} : ∀ ns : List Int, Rs W g H (ns.map Vl.int) (ns.map V.int)
  | [] => rfl
  | n :: ns => ⟨_, _, rfl, rfl, rs_ints ns⟩
section
variable {X : Cx} {W : Wd} {E : XK} {pos : Pos}
def flatL : Vl → Option V
  | .non => some .non
  | .bl b => some (.bl b)
  | .int i => some (.int i)
  | .str z => some (.str z)
  | _ => none
def flatsL : List Vl → Option (List V)
  | [] => some []
  | x :: xs => (match flatL x, flatsL xs with
    | some v, some vs => some (v :: vs)
    | _, _ => none)
theorem flatL_ok {g : G} {H : Hp} {x : Vl} {u v : V} (h : RB W g H x u) (e : flatL x = some v) : u = v ∧ flatV v = true := by
  cases x with
  | non => cases e; exact ⟨rb_non h, rfl⟩
  | bl b => cases e; exact ⟨rb_bl h, rfl⟩
  | int b => cases e; exact ⟨rb_int h, rfl⟩
  | str b => cases e; exact ⟨rb_str h, rfl⟩
  | _ => cases e
theorem flatsL_ok {g : G} {H : Hp} : ∀ {xs : List Vl} {us vs : List V}, Rs W g H xs us → flatsL xs = some vs → us = vs ∧ vs.all flatV = true
  | [], us, vs, h, e => by cases e; rw [show us = [] from h]; exact ⟨rfl, rfl⟩
  | x :: xs, us, vs, h, e => by
    obtain ⟨u, r, rfl, h1, h2⟩ := h
    unfold flatsL at e
    split at e
    · rename_i v ws e1 e2
      cases e
      obtain ⟨rfl, f1⟩ := flatL_ok (.inl h1) e1
      obtain ⟨rfl, f2⟩ := flatsL_ok h2 e2
      exact ⟨rfl, by rw [List.all_cons, f1, f2]; rfl⟩
    · cases e
def kInS (neg : Bool) (x y : Vl) (st : Sto) : Option Bool := match seqOf y st, flatL x with
  | some xs, some v => (flatsL xs).map fun vs => if neg then !inV v vs else inV v vs
  | _, _ => none
theorem kInS_ok {neg : Bool} {g : G} {st : Sto} {H : Hp} {x y : Vl} {u w : V} {b : Bool} {Q : V → Hp → Prop} (rel : Rel W g st H) (rx : RB W g H x u) (ry : RB W g H y w) (e : kInS neg x y st = some b) (q : Q (.bl b) H) : rIn X.K neg u w H Q := by
  unfold kInS at e
  split at e
  · rename_i xs v h1 h2
    obtain ⟨rfl, f1⟩ := flatL_ok rx h2
    obtain ⟨a, vs, e3, hs, r', _⟩ := seq_rd (K := X.K) rel ry h1
    cases e4 : flatsL xs with
    | none => rw [e4] at e; cases e
    | some ws =>
      rw [e4] at e
      obtain ⟨rfl, f2⟩ := flatsL_ok r' e4
      cases e
      exact ⟨a, vs, e3, hs, f1, f2, q⟩
  · cases e
theorem ce_inS : CmpR X W .In (kInS false) := ⟨rIn X.K false, op_in_seq, fun g st H x y u w b Q rel rx ry e q => kInS_ok rel rx ry e q⟩
theorem ce_notInS : CmpR X W .NotIn (kInS true) := ⟨rIn X.K true, op_notIn_seq, fun g st H x y u w b Q rel rx ry e q => kInS_ok rel rx ry e q⟩
def kGetD (x : Vl) (fb fc : FE) (env : Ev) (st0 : Sto) : Res Vl := (fb env st0).bind fun y st => (fc env st).bind fun z st => match dctOf x st, keyOf y with
  | some ps, some k => .ok ((getP ps k).getD z) st
  | _, _ => .bad
def vGetD (fa fb fc : FE) : FE := fun env st => (fa env st).bind fun x st => if (dctOf x st).isSome = true then kGetD x fb fc env st else .bad
theorem few2 {e f : Expr} {cpos : Pos} {env : Env} (h : notStar e = true) (h2 : notStar f = true) : ((backTo cpos (starEach [e, f] env)).all (fun x => !x.1) && (backToKw cpos (keywordEach [] env)).all (fun x => x.1.isSome) && decide ([e, f].length + ([] : List Keyword).length + (if ([] : List Keyword).isEmpty then 0 else 1) < 30)) = true := by
  rw [notStar_ok h, notStar_ok h2]
  rfl
theorem se_dgetD {o e f : Expr} {fa fb fc : FE} {apos cpos : Pos} (hu : X.A.units + 1 < cLine) (ha : SB X W E o fa) (hb : SB X W E e fb) (hc : SE X W E f fc) (hn : noSuper o = true) (hs : notStar e = true) (hs2 : notStar f = true) (hl : (apos.endLine == cpos.line) = true) : SE X W E (.Call (.Attribute o "get" apos) [e, f] [] cpos) (vGetD fa fb fc) := by
  refine pe_weak (pe_dget2 hu ha hb hc ⟨noSuper_ok hn, few2 hs hs2, hl, by rw [notStar_ok hs, notStar_ok hs2] <;> rfl⟩) ?_
  rintro σ H Q ⟨g, st, env, rel, rs, o⟩
  refine tB_bind rel rs o fun x st1 g1 H1 u e1 ee1 rel1 r1 o1 => ?_
  split at o1
  · rename_i hd0
    obtain ⟨ps0, hp0⟩ := Option.isSome_iff_exists.mp hd0
    obtain ⟨a0, kvs0, ea0, hH0, rk0⟩ := dct_rd rel1 r1 hp0
    refine ⟨a0, ea0, .inl ⟨kvs0, .inl hH0⟩, ?_⟩
    refine tB_bind rel1 (rs.ee rel ee1) o1 fun y st2 g2 H2 w e2 ee2 rel2 r2 o2 => ?_
    refine tE_bind rel2 ((rs.ee rel ee1).ee rel1 ee2) o2 fun z st3 g3 H3 w3 e3 ee3 rel3 r3 o3 => ?_
    split at o3
    · rename_i ps k hd hk
      obtain ⟨a, kvs, ea, hH, rk⟩ := dct_rd rel3 ((r1.ee rel1 ee2).ee rel2 ee3) hd
      rw [ea0] at ea
      cases ea
      have r2' := r2.ee rel2 ee3
      have ek : w = kV k := by
        cases y with
        | int i => cases hk; exact rb_int r2'
        | str i => cases hk; exact rb_str r2'
        | _ => cases hk
      subst ek
      refine ⟨_, DGet.k hH, ?_⟩
      obtain ⟨k1, k2⟩ := rk.get k
      cases eg : getP ps k with
      | none =>
        rw [eg] at o3
        rw [k2 eg]
        exact o3.here rel3 _ r3
      | some v =>
        rw [eg] at o3
        obtain ⟨z, hz, rz⟩ := k1 v eg
        rw [hz]
        exact o3.here rel3 _ rz
    · exact o3.elim
  · exact o1.elim
def vCellD : FE := fun env st => .ok (.ref (st : List Ob).length) ((st : List Ob) ++ [.dct [] []])
theorem se_cellD : SE X W E (.Dict [] [] pos) vCellD := by
  refine pe_weak pe_dnewK ?_
  rintro σ H Q ⟨g, st, env, rel, rs, o⟩ p hp
  have relh : Rel W (g.hold p) st (upd H p (.dK [])) := rel.hold hp trivial
  have o' : Out W E g H (.ok (.ref (st : List Ob).length) ((st : List Ob) ++ [.dct [] []])) (fun v g' _ H' => ∀ u, R W g' H' v u → Q u H') := o
  refine o' (g.more p) (upd H p (.dK [])) (ES.moreOf (EE.new hp) hp) (relh.cellOf (rel.free hp).b (o := .dct [] []) ⟨[], upd_same, rfl, Rs.nil⟩) _ ⟨p, rfl, ?_⟩
  show (g.rho ++ [p])[(st : List Ob).length]? = some p
  have l : g.rho.length = (st : List Ob).length := rel.len
  rw [← l, List.getElem?_append_right (Nat.le_refl _), Nat.sub_self]
  rfl
def sPutD (fo fi fv : FE) : FSt := fun env st => (fv env st).bind fun v st => (fo env st).bind fun x st => (fi env st).bind fun k st => (match x, keyOf k with
  | .ref n, some k => (match (st : List Ob)[n]? with
    | some (.dct ks xs) => if ks.length < sizeLine then .ok (.nx env) ((st : List Ob).set n (.dct ((putP (pairs ks xs) k v).map (·.1)) ((putP (pairs ks xs) k v).map (·.2)))) else .bad
    | _ => .bad)
  | _, _ => .bad)
theorem ps_putD {o ix e : Expr} {to ti te : TE} {p : Pos} (hu : X.A.units + 1 < cLine) (he : PE X e te) (ho : PE X o to) (hi : PE X ix ti) (hn : notSlice ix = true) (hc : notComp e = true) : PS X (.Assign [.Subscript o ix p] e pos) (tAsg te (gSub to ti rSetD)) := by
  exact ps_asg he (pg_sub ho hi (set_dict hu) (plainSub hn)) (show swapsWith e (some (.Subscript o ix p)) pos.line X.env = pure false from notComp_ok hc) (by cases e <;> rfl)
theorem ss_putD {o ix e : Expr} {fo fi fv : FE} {p2 : Pos} (hu : X.A.units + 1 < cLine) (he : SE X W E e fv) (ho : SE X W E o fo) (hi : SB X W E ix fi) (hn : notSlice ix = true) (hc : notComp e = true) :
    SS X W E (.Assign [.Subscript o ix p2] e pos) (sPutD fo fi fv) := by
  refine ps_weak (ps_putD hu he ho hi hn hc) ?_
  rintro D σ H ⟨g, st, env, rel, rs, o⟩
  refine ⟨g, st, env, rel, rs, outS_bind o fun v st1 g1 H1 _ ee1 rel1 o1 y ry => ?_⟩
  have rs1 := rs.ee rel ee1
  refine ⟨g1, st1, env, rel1, rs1, outS_bind o1 fun x st2 g2 H2 _ ee2 rel2 o2 u ru => ?_⟩
  have rs2 := rs1.ee rel1 ee2
  refine ⟨g2, st2, env, rel2, rs2, outS_bind o2 fun k st3 g3 H3 _ ee3 rel3 o3 z rz => ?_⟩
  have rs3 := rs2.ee rel2 ee3
  cases x with
  | ref n =>
    cases hk : keyOf k with
    | none => rw [hk] at o3; exact o3.elim
    | some kk =>
      rw [hk] at o3
      dsimp only at o3
      split at o3
      · rename_i ks xs hq
        split at o3
        · rename_i hlt
          obtain ⟨a, eu, ha⟩ := ru
          have ha3 : g3.rho[n]? = some a := ee3.mo.nth n a ha
          obtain ⟨kvs, hH, h2, r⟩ := rel3.cell n a _ ha3 hq
          have rk := rk_of h2 r
          have lk : kvs.length < sizeLine := by rw [← h2, List.length_map] at hlt; exact hlt
          have ek : z = kV kk := by
            cases k with
            | int i => cases hk; exact rb_int rz
            | str i => cases hk; exact rb_str rz
            | _ => cases hk
          subst ek
          have rp := rk.put kk ((ry.ee ee2).ee ee3)
          obtain ⟨rel4, ee4⟩ := rel3.put ha3 (o := .dct ((putP (pairs ks xs) kk v).map (·.1)) ((putP (pairs ks xs) kk v).map (·.2))) (u := .dK (putK kvs kk y)) ⟨_, rfl, rp.1, rp.2⟩ trivial
          exact ⟨a, _, eu, DPut.k hH lk, o3 g3 _ σ ee4.es rel4 (rs3.ee rel3 ee4)⟩
        · exact o3.elim
      · exact o3.elim
  | _ => exact o3.elim
def sExt (i : Nat) (f : FE) : FSt := fun env st => match env[i]? with
  | some (some (.own (.lst xs))) => (f env st).bind fun v st => (match lstOf v st with
    | some ys => if xs.length + ys.length ≤ sizeLine then .ok (.nx (env.set i (some (.own (.lst (xs ++ ys)))))) st else .bad
    | none => .bad)
  | _ => .bad
theorem ss_ext {x : Str} {i : Nat} {e : Expr} {f : FE} {p apos cpos : Pos} (hN : X.N[i]? = some x) (hv : Vis X.env.scope x) (hd : (x == ("__debug__" : Str)) = false) (hcd : (x == ("__classdict__" : Str)) = false) (h : SE X W E e f) (hn : notStar e = true) (hline : (apos.endLine == cpos.line) = true) :
    SS X W E (.Expr (.Call (.Attribute (.Name x p) "extend" apos) [e] [] cpos) pos) (sExt i f) := by
  refine ps_weak (ps_expr (pe_bm PySem.F.plainAttrs_list PySem.F.slot_list_extend PySem.F.type_list_extend mt_extend (pe_var hN hv hd hcd) (pa_cons h pa_nil (notStar_ok hn)) (noSuper_ok rfl) (few1 hn) hline (notStar_ok hn) (noStars (by simp))) (notComp_ok rfl)) ?_
  rintro D σ H ⟨g, st, env, rel, rs, o⟩
  unfold sExt at o
  split at o
  · rename_i xs he
    obtain ⟨u, hs, a, eu, ha, vs, hH, r⟩ := rs.at_ i _ he
    subst eu
    refine ⟨_, hs, .inl ⟨rfl, vs, SqL.of hH⟩, g, st, env, rel, rs, outS_bind o fun v st1 g1 H1 _ ee rel1 o1 u ru => ?_⟩
    split at o1
    · rename_i ys hy
      split at o1
      · rename_i hlt
        obtain ⟨b, zs, eb, hB, rz, lzb⟩ := lst_rd rel1 (.inl ru) hy
        subst eb
        have ha1 : a ∈ g1.own := ee.own ▸ ha
        have hH1 : H1 a = some (.lst vs) := ee.keep a _ hH (rel.prot a (.inr ha)).2
        have r1 := r.ee ee
        have l1 := r1.length
        have l2 := rz.length
        have lz : (vs ++ zs).length ≤ sizeLine := by rw [List.length_append]; omega
        obtain ⟨rel2, m, es⟩ := rel1.putOwn (u := .lst (vs ++ zs)) ha1 lz fun z => z.elim
        refine ⟨a, b, vs, zs, rfl, rfl, hH1, hB, by omega, ?_⟩
        exact o1 g1 _ σ es rel2 ((rs.ee rel ee).putOwn he hs ha1 m (o' := .lst (xs ++ ys)) ⟨_, rfl, r1.append rz⟩)
      · exact o1.elim
    · exact o1.elim
  · exact o.elim
def sAppX (fo f : FE) : FSt := fun env st => (fo env st).bind fun x st => match x with
  | .ref n => (match (st : List Ob)[n]? with
    | some (.lst _) => (f env st).bind fun v st => (match (st : List Ob)[n]? with
      | some (.lst xs) => if xs.length < sizeLine then .ok (.nx env) ((st : List Ob).set n (.lst (xs ++ [v]))) else .bad
      | _ => .bad)
    | _ => .bad)
  | _ => .bad
theorem ss_appX {o e : Expr} {fo f : FE} {apos cpos : Pos} (ho : SE X W E o fo) (h : SE X W E e f) (hsu : noSuper o = true) (hn : notStar e = true) (hline : (apos.endLine == cpos.line) = true) :
    SS X W E (.Expr (.Call (.Attribute o "append" apos) [e] [] cpos) pos) (sAppX fo f) := by
  refine ps_weak (ps_expr (pe_bm PySem.F.plainAttrs_list PySem.F.slot_list_append PySem.F.type_list_append mt_append ho (pa_cons h pa_nil (notStar_ok hn)) (noSuper_ok hsu) (few1 hn) hline (notStar_ok hn) (noStars (by simp))) (notComp_ok rfl)) ?_
  rintro D σ H ⟨g, st, env, rel, rs, o⟩
  refine ⟨g, st, env, rel, rs, outS_bind o fun x st1 g1 H1 _ ee1 rel1 o1 u ru => ?_⟩
  have rs1 := rs.ee rel ee1
  cases x with
  | ref n =>
    obtain ⟨a, eu, ha⟩ := ru
    subst eu
    dsimp only at o1
    split at o1
    · rename_i xs0 hq
      obtain ⟨vs0, hH0, _⟩ := rel1.cell n a _ ha hq
      refine ⟨.inl ⟨rfl, vs0, SqL.of hH0⟩, g1, st1, env, rel1, rs1, outS_bind o1 fun v st2 g2 H2 _ ee rel2 o2 u ru => ?_⟩
      have hn1 : g2.rho[n]? = some a := ee.mo.nth n a ha
      split at o2
      · rename_i xs q
        split at o2
        · rename_i hlt
          obtain ⟨vs, hH1, r1⟩ := rel2.cell n a _ hn1 q
          have l1 := r1.length
          have lz : (vs ++ [u]).length ≤ sizeLine := by simp; omega
          obtain ⟨rel3, ee3⟩ := rel2.put hn1 (o := .lst (xs ++ [v])) (u := .lst (vs ++ [u])) ⟨_, rfl, r1.append (Rs.one ru)⟩ lz
          exact ⟨a, vs, u, rfl, rfl, hH1, by omega, o2 g2 _ σ ee3.es rel3 ((rs1.ee rel1 ee).ee rel2 ee3)⟩
        · exact o2.elim
      · exact o2.elim
    · exact o1.elim
  | _ => exact o1.elim
def sRevX (fo : FE) : FSt := fun env st => (fo env st).bind fun x st => match x with
  | .ref n => (match (st : List Ob)[n]? with
    | some (.lst xs) => .ok (.nx env) ((st : List Ob).set n (.lst xs.reverse))
    | _ => .bad)
  | _ => .bad
theorem ss_revX {o : Expr} {fo : FE} {apos cpos : Pos} (ho : SE X W E o fo) (hsu : noSuper o = true) (hline : (apos.endLine == cpos.line) = true) :
    SS X W E (.Expr (.Call (.Attribute o "reverse" apos) [] [] cpos) pos) (sRevX fo) := by
  refine ps_weak (ps_expr (pe_bm0 PySem.F.plainAttrs_list PySem.F.slot_list_reverse PySem.F.type_list_reverse mt_reverse ho (noSuper_ok hsu) hline) (notComp_ok rfl)) ?_
  rintro D σ H ⟨g, st, env, rel, rs, o⟩
  refine ⟨g, st, env, rel, rs, outS_bind o fun x st1 g1 H1 _ ee1 rel1 o1 u ru => ?_⟩
  have rs1 := rs.ee rel ee1
  cases x with
  | ref n =>
    obtain ⟨a, eu, ha⟩ := ru
    subst eu
    dsimp only at o1
    split at o1
    · rename_i xs hq
      obtain ⟨vs, hH, r⟩ := rel1.cell n a _ ha hq
      have lz : vs.length ≤ sizeLine := rel1.sz a vs (.inl hH)
      obtain ⟨rel3, ee3⟩ := rel1.put ha (o := .lst xs.reverse) (u := .lst vs.reverse) ⟨_, rfl, r.reverse⟩ (by show vs.reverse.length ≤ _; rw [List.length_reverse]; exact lz)
      exact ⟨.inl ⟨rfl, vs, SqL.of hH⟩, a, vs, rfl, rfl, hH, o1 g1 _ σ ee3.es rel3 (rs1.ee rel1 ee3)⟩
    · exact o1.elim
  | _ => exact o1.elim
end
end TW
set_option maxHeartbeats 1600000
namespace PySem
section
variable {prog : Program} {w : World} {A : Around} {R : Result → Shared → Prop} {I : Addr} {fp wr : List Addr} {n : Nat} {P : Nat → Value → Prop} {St : Nat → Heap → Prop}
def kwD (d : Value) : List (Str × Value) := [(Str.ofString "default", d)]
/-- what the loop holds behind j items -/
def MinAt (bt : Nat → Nat → Bool) (P : Nat → Value → Prop) (j : Nat) (arr : Array Value) : Prop := (j = 0 ∧ arr = #[]) ∨ ∃ i vb, j = i + 1 ∧ P (argBest bt i) vb ∧ arr = #[vb, vb]
theorem minD_loop (W : Walks prog w A.in1 I fp wr n P St) (bt : Nat → Nat → Bool) (hcmp : CmpOf prog w A.in1 .Lt P bt) (S : Addr) (hSf : S ∉ fp) (d : Value) :
    ∀ (k j : Nat) (s : Shared) (arr : Array Value) (c : Nat), n - j = k → j ≤ n → St j s.heap → MinAt bt P j arr →
    s.heap.get? S = some { cls := .type "list", dict := none, data := .seq arr c, slots := #[] } →
    (∀ v h' tk, (n = 0 → v = d) → (0 < n → P (argBest bt (n - 1)) v) → (∀ b o, b ∉ wr → b ≠ S → s.heap.get? b = some o → h'.get? b = some o) → R (.ok (.ret v)) { s with heap := h', toks := tk }) →
    codeAny (model prog w) A (.builtin "min.loop" ⟨[.ref I, .none, .ref S], kwD d⟩) R s := by
  have hSw : S ∉ wr := fun h => hSf (W.sub _ h)
  have hname : (toString "min" ++ toString ".loop" : String) = "min.loop" := by decide
  intro k
  induction k with
  | zero =>
    intro j s arr c hk hj hst hm hS hR
    obtain rfl : j = n := by omega
    refine codeAny_builtin F.entry_min_loop ?_
    rw [Around.under_plainId F.plain_min_loop _]
    show wpAny _ A.in1 (seqItems? (.ref S) >>= _) _ _ s
    refine wpAny_bind (wpAny_seqItems hS rfl ?_)
    show wpAny _ A.in1 (tryCatch (pyNext (.ref I)) _ >>= _) _ _ s
    refine wpAny_bind (wpAny_tryCatch (W.done s _ _ hst fun h' tk hk' => ?_))
    have hS' := hk' S _ hSw hS
    rcases hm with ⟨rfl, rfl⟩ | ⟨i, vb, rfl, hP, rfl⟩
    · refine wpAny_bind (wpAny_rule (wpAny_pure ?_))
      exact hR d h' tk (fun _ => rfl) (fun h => absurd h (by omega)) fun b o hb _ e => hk' b o hb e
    · show wpAny _ A.in1 (updateSeq S (fun _ => #[]) >>= _) _ _ _
      refine wpAny_bind ?_
      refine wpAny_updateSeq hS' rfl (wpAny_bind (wpAny_letGo (wpAny_pure ?_)))
      exact hR vb _ tk (fun h => absurd h (by omega)) (fun _ => hP) fun b o hbw hbS e => (Heap.get?_update_other _ _ (Ne.symm hbS)).trans (hk' b o hbw e)
  | succ k ih =>
    intro j s arr c hk hj hst hm hS hR
    have hlt : j < n := by omega
    refine codeAny_builtin F.entry_min_loop ?_
    rw [Around.under_plainId F.plain_min_loop _]
    show wpAny _ A.in1 (seqItems? (.ref S) >>= _) _ _ s
    refine wpAny_bind (wpAny_seqItems hS rfl ?_)
    show wpAny _ A.in1 (tryCatch (pyNext (.ref I)) _ >>= _) _ _ s
    refine wpAny_bind (wpAny_tryCatch (W.item j s _ _ hlt hst fun v h' tk hP hst' hk' => ?_))
    have hS' := hk' S _ hSw hS
    rcases hm with ⟨rfl, rfl⟩ | ⟨i, vb, rfl, hPb, rfl⟩
    · show wpAny _ A.in1 (updateSeq S (fun _ => #[v, v]) >>= _) _ _ _
      refine wpAny_bind ?_
      refine wpAny_updateSeq hS' rfl ?_
      rw [hname]
      refine wpAny_pure ⟨plainId_quiet F.plain_min_loop _, ih 1 _ #[v, v] _ (by omega) (by omega) (W.frame _ _ _ hst' fun b hbf o e => ?_) (.inr ⟨0, v, rfl, hP, rfl⟩) (Heap.get?_update_self _ hS' rfl) fun v' h'' tk'' h0 hP' hk'' => ?_⟩
      · exact (Heap.get?_update_other _ _ (fun h : S = b => hSf (by rw [h]; exact hbf))).trans e
      · exact hR v' h'' tk'' h0 hP' fun b o hbw hbS e => hk'' b o hbw hbS ((Heap.get?_update_other _ _ (Ne.symm hbS)).trans (hk' b o hbw e))
    · show wpAny _ A.in1 (tryCatch (holding [v, v] (richCompare .Lt v vb >>= _)) _ >>= _) _ _ _
      refine wpAny_bind (wpAny_tryCatch (wpAny_holding (wpAny_bind (hcmp (i + 1) (argBest bt i) v vb _ _ _ hP hPb ?_))))
      refine wpAny_bind (wpAny_holding (wpAny_truthy_bool ?_))
      refine wpAny_bind (wpAny_letGo (wpAny_pure ?_))
      cases hb : bt (i + 1) (argBest bt i) with
      | true =>
        simp only [if_true]
        refine wpAny_bind ?_
        refine wpAny_updateSeq hS' rfl (wpAny_bind (wpAny_letGo ?_))
        rw [hname]
        refine wpAny_pure ⟨plainId_quiet F.plain_min_loop _, ih (i + 2) _ #[v, v] _ (by omega) (by omega) (W.frame _ _ _ hst' fun b hbf o e => ?_) (.inr ⟨i + 1, v, rfl, by simp only [argBest, hb, if_true]; exact hP, rfl⟩) (Heap.get?_update_self _ hS' rfl) fun v' h'' tk'' h0 hP' hk'' => ?_⟩
        · exact (Heap.get?_update_other _ _ (fun h : S = b => hSf (by rw [h]; exact hbf))).trans e
        · exact hR v' h'' tk'' h0 hP' fun b o hbw hbS e => hk'' b o hbw hbS ((Heap.get?_update_other _ _ (Ne.symm hbS)).trans (hk' b o hbw e))
      | false =>
        simp only [Bool.false_eq_true, if_false]
        refine wpAny_bind (wpAny_letGo ?_)
        rw [hname]
        refine wpAny_pure ⟨plainId_quiet F.plain_min_loop _, ih (i + 2) _ #[vb, vb] c (by omega) (by omega) hst' (.inr ⟨i + 1, vb, rfl, by simp only [argBest, hb, Bool.false_eq_true, if_false]; exact hPb, rfl⟩) hS' fun v' h'' tk'' h0 hP' hk'' => ?_⟩
        exact hR v' h'' tk'' h0 hP' fun b o hbw hbS e => hk'' b o hbw hbS (hk' b o hbw e)
end
section
variable {prog : Program} {w : World} {A : Around} {E : Value → Shared → Prop} {s : Shared}
theorem args_minD (a d : Value) : argsOk "min" ⟨[a], kwD d⟩ := by unfold argsOk; kernel_rfl
theorem minD_int {l : Addr} {xs : Array (Int × Tok)} {d : Value} {Q : Value → Shared → Prop} (hh : A.handled = none) (hl : s.heap.IsList l (intItems xs))
    (h : ∀ v h' tk, (xs.size = 0 → v = d) → (0 < xs.size → (intItems xs)[argBest (fun i j => decide (numAt xs i < numAt xs j)) (xs.size - 1)]? = some v) → (∀ b o, s.heap.get? b = some o → h'.get? b = some o) → Q v { s with heap := h', toks := tk }) :
    wpAny (model prog w) A (call (.builtin "min") [.ref l] (kwD d)) Q E s := by
  have hname : (toString "min" ++ toString ".loop" : String) = "min.loop" := by decide
  refine wpAny_call (codeAny_call_builtin F.plain_min F.entry_min ?_)
  simp only [checkBuiltinCall, F.kind_min]
  have key : wpAny (model prog w) A.in1 (Builtin.«min» ⟨[.ref l], kwD d⟩) (fun fin s' => match fin with
      | .done f => (match (Except.ok f : Result) with | .ok (.ret v) => Q v s' | .ok _ => False | .error e => E e s')
      | .again c' => c'.quiet = true ∧ codeAny (model prog w) A c' (fun r s' => match r with | .ok (.ret v) => Q v s' | .ok _ => False | .error e => E e s') s') E s := by
    show wpAny _ A.in1 (Builtin.Builtins.bindParams "min" ["key", "default"] 0 ⟨[], kwD d⟩ >>= _) _ _ s
    refine wpAny_bind (wpAny_of_eq (show Builtin.Builtins.bindParams "min" ["key", "default"] 0 ⟨[], kwD d⟩ = pure [none, some d] from by kernel_rfl) ?_)
    refine wpAny_bind (wpAny_pure ?_)
    refine wpAny_bind (iter_intList hl fun s₂ e st hfp hlI => ?_)
    subst e
    have W : Walks prog w A.in1 s.heap.objs.size _ _ _ _ _ := Walks.list (A := A.in1) hh s.heap.objs.size l hlI (intItems xs)
    have hsz : (intItems xs).size = xs.size := by simp [intItems]
    refine wpAny_bind (wpAny_newObj_type ?_)
    rw [hname]
    refine wpAny_pure ⟨plainId_quiet F.plain_min_loop _, minD_loop W _ (CmpOf.ints_lt (numAt xs) (fun _ _ => intItems_at)) _ (fun hm => Nat.lt_irrefl _ (hfp _ hm)) d _ 0 _ #[] _ rfl (Nat.zero_le _)
      (W.frame _ _ _ st fun b _ o e => Heap.get?_push_of_some _ e) (.inl ⟨rfl, rfl⟩) (Heap.get?_push_size _ rfl) fun v h' tk h0 hP hk => ?_⟩
    rw [hsz] at h0 hP
    refine h v h' tk h0 hP fun b o e => ?_
    have hlt := Heap.lt_size e
    refine hk b o (fun hm => ?_) (Nat.ne_of_lt (by show b < (s.heap.push _).objs.size; rw [Heap.size_push]; exact Nat.lt_succ_of_lt hlt)) (Heap.get?_push_of_some _ (Heap.get?_push_of_some _ e))
    rw [List.mem_singleton.mp hm] at hlt
    exact Nat.lt_irrefl _ hlt
  cases hsig : Manifest.signature? "min" with
  | none => exact wpAny_pure key
  | some sig =>
    have ha' : Bind.checkArgs "min" sig ⟨[.ref l], kwD d⟩ = pure () := by
      have := args_minD (.ref l) d
      simpa only [argsOk, hsig] using this
    simp only [ha']
    exact wpAny_pure key
end
end PySem

namespace L2
open PySem PySem.Spec PyProof.Rows
theorem minD_raw {prog : Program} {w : World} {A : Around} {E : Value → Shared → Prop} {s : Shared} {l : Addr} {its : List Value} {ns : List Int} {d : Value} {Q : Value → Shared → Prop} (hh : A.handled = none) (hl : s.heap.IsList l its.toArray) (hi : IntsAre its ns)
    (h : ∀ h' tk v, (∀ b o, s.heap.get? b = some o → h'.get? b = some o) → (ns = [] → v = d) → (ns ≠ [] → ∃ M t', v = .int M t' ∧ M ∈ ns ∧ ∀ a, a ∈ ns → M ≤ a) → Q v { s with heap := h', toks := tk }) : wpAny (model prog w) A (call (.builtin "min") [.ref l] (kwD d)) Q E s := by
  obtain ⟨xs, e⟩ := hi.allInts.items
  have hn : numsOf (intItems xs).toList = ns := by rw [← e]; exact hi.numsOf
  rw [nums_intItems] at hn
  subst hn
  rw [e] at hl
  refine PySem.minD_int hh hl fun v h' tk h0 hP hk => ?_
  refine h h' tk v hk (fun z => h0 (by have := congrArg List.length z; simpa using this)) fun z => ?_
  have hsz : 0 < xs.size := by
    rcases Nat.eq_zero_or_pos xs.size with q | q
    · exact absurd (List.eq_nil_of_length_eq_zero (by simpa using q)) z
    · exact q
  obtain ⟨t, rfl⟩ := intItems_at (hP hsz)
  obtain ⟨h1, h2⟩ := argBest_lt (numAt xs) (xs.size - 1)
  refine ⟨_, t, rfl, ?_, fun a ha => ?_⟩
  · rw [numAt_eq]; exact PySem.getD_mem (by rw [List.length_map, Array.length_toList]; omega)
  · obtain ⟨j, hj, rfl⟩ := mem_getD ha
    rw [List.length_map, Array.length_toList] at hj
    rw [← numAt_eq]; exact h2 j (by omega)
section
variable {X : Cx}
def rMinD (K : PySem.W.Frag) : List V → List V → Hp → VK → Prop := fun vs zs H Q => ∃ (a : Addr) (ns : List Int) (z : V), vs = [V.ref a] ∧ zs = [z] ∧ SqL K H a (ns.map V.int) ∧ (ns = [] → Q z H) ∧ ∀ m, m ∈ ns → (∀ y, y ∈ ns → m ≤ y) → Q (.int m) H
theorem cr_minD (hc : X.calm = true) : CallRK X (.builtin "min") [Str.ofString "default"] (rMinD X.K) := by
  intro pins s σ H vs zs us ws Q I r rz h
  obtain ⟨a, ns, z, rfl, rfl, hs, q0, q⟩ := h
  obtain ⟨its, rv, hl, _⟩ := I.list hs
  rw [Vals.ref1 r]
  obtain ⟨d, rfl, hd⟩ := vals1 rz
  refine minD_raw (d := d) (I.ok.hd hc) hl.isList rv.ints fun h' tk v hk h0 h1 => ?_
  cases ns with
  | nil =>
    obtain rfl := h0 rfl
    exact ⟨z, H, I.kept hk, hd, q0 rfl⟩
  | cons n ns =>
    obtain ⟨M, t', rfl, hm, hl2⟩ := h1 (by simp)
    exact ⟨.int M, H, I.kept hk, ⟨_, rfl⟩, q M hm hl2⟩
end
end L2
namespace TW
open PySem PySem.Spec L2
section
variable {X : Cx} {W : Wd} {E : XK} {pos : Pos}
def minI : List Int → Option Int
  | [] => none
  | i :: is => some (is.foldl min i)
theorem foldl_min : ∀ (is : List Int) (i : Int), is.foldl min i ∈ i :: is ∧ ∀ y ∈ i :: is, is.foldl min i ≤ y
  | [], i => ⟨List.mem_singleton.mpr rfl, fun y hy => by rw [List.mem_singleton.mp hy]; exact Int.le_refl _⟩
  | j :: js, i => by
    obtain ⟨h1, h2⟩ := foldl_min js (min i j)
    refine ⟨?_, fun y hy => ?_⟩
    · show js.foldl min (min i j) ∈ _
      rcases List.mem_cons.mp h1 with e | h
      · rw [e]
        rcases Int.le_total i j with l | l
        · rw [Int.min_eq_left l]; exact List.mem_cons_self
        · rw [Int.min_eq_right l]; exact List.mem_cons_of_mem _ List.mem_cons_self
      · exact List.mem_cons_of_mem _ (List.mem_cons_of_mem _ h)
    · show js.foldl min (min i j) ≤ y
      have h3 := h2 (min i j) List.mem_cons_self
      rcases List.mem_cons.mp hy with rfl | hy
      · omega
      · rcases List.mem_cons.mp hy with rfl | hy
        · omega
        · exact h2 y (List.mem_cons_of_mem _ hy)
/-- min(xs, default=z) -/
def vMinD (fa fz : FE) : FE := fun env st => (fa env st).bind fun x st => (fz env st).bind fun z st => match x with
  | .lst xs => (match intsOf xs with
    | some ns => .ok (match minI ns with | some m => .int m | none => z) st
    | none => .bad)
  | _ => .bad
theorem se_minD {a b : Expr} {fa fz : FE} {p kp : Pos} (hc : X.calm = true) (ha : SE X W E a fa) (hz : SE X W E b fz) (hg : Gl X "min") (hm : X.mg "min" = none) (hn : notStar a = true) :
    SE X W E (.Call (.Name "min" p) [a] [⟨some "default", b, kp⟩] pos) (vMinD fa fz) := by
  refine pe_weak (pe_callBK (cr_minD hc) hg hm (by decide +kernel) (pa_cons ha pa_nil (notStar_ok hn)) (pk_cons hz pk_nil) (he := by rw [notStar_ok hn] <;> rfl) (hpl := noStars (by simp [hn]))) ?_
  rintro σ H Q ⟨g, st, env, rel, rs, o⟩
  refine tE_bind rel rs o fun x st1 g1 H1 u e1 ee1 rel1 r1 o1 => ?_
  refine tE_bind rel1 (rs.ee rel ee1) o1 fun z st2 g2 H2 w e2 ee2 rel2 r2 o2 => ?_
  cases x with
  | lst xs =>
    obtain ⟨a, vs, e3, i, e4, r'⟩ := r1.ee ee2
    dsimp only at o2
    cases e5 : intsOf xs with
    | none => rw [e5] at o2; exact o2.elim
    | some ns =>
      rw [e5] at o2
      have ev := intsOf_ok xs r' e5
      subst ev
      refine ⟨a, ns, w, by rw [e3], rfl, SqL.of e4, fun z0 => ?_, fun m hm hl => ?_⟩
      · subst z0
        exact o2.here rel2 _ r2
      · cases ns with
        | nil => cases hm
        | cons n ns =>
          obtain ⟨h1, h2⟩ := foldl_min ns n
          have e6 : ns.foldl min n = m := Int.le_antisymm (h2 m hm) (hl _ h1)
          have o3 : Out W E g2 H2 (.ok (.int (ns.foldl min n)) st2) (fun v g' _ H' => ∀ u, R W g' H' v u → Q u H') := o2
          rw [e6] at o3
          exact o3.here rel2 _ rfl
  | _ => exact o2.elim
def maxI : List Int → Option Int
  | [] => none
  | i :: is => some (is.foldl max i)
theorem foldl_max : ∀ (is : List Int) (i : Int), is.foldl max i ∈ i :: is ∧ ∀ y ∈ i :: is, y ≤ is.foldl max i
  | [], i => ⟨List.mem_singleton.mpr rfl, fun y hy => by rw [List.mem_singleton.mp hy]; exact Int.le_refl _⟩
  | j :: js, i => by
    obtain ⟨h1, h2⟩ := foldl_max js (max i j)
    refine ⟨?_, fun y hy => ?_⟩
    · show js.foldl max (max i j) ∈ _
      rcases List.mem_cons.mp h1 with e | h
      · rw [e]
        rcases Int.le_total i j with l | l
        · rw [Int.max_eq_right l]; exact List.mem_cons_of_mem _ List.mem_cons_self
        · rw [Int.max_eq_left l]; exact List.mem_cons_self
      · exact List.mem_cons_of_mem _ (List.mem_cons_of_mem _ h)
    · show y ≤ js.foldl max (max i j)
      have h3 := h2 (max i j) List.mem_cons_self
      rcases List.mem_cons.mp hy with rfl | hy
      · omega
      · rcases List.mem_cons.mp hy with rfl | hy
        · omega
        · exact h2 y (List.mem_cons_of_mem _ hy)
/-- min(xs), max(xs) of a list of ints -/
def kMin1 (x : Vl) (st : Sto) : Res Vl := match lstOf x st with
  | some xs => Res.lift (((intsOf xs).bind minI).map .int) st
  | none => .bad
def kMax1 (x : Vl) (st : Sto) : Res Vl := match lstOf x st with
  | some xs => Res.lift (((intsOf xs).bind maxI).map .int) st
  | none => .bad
theorem se_min1 {a : Expr} {fa : FE} {p : Pos} (hc : X.calm = true) (ha : SB X W E a fa) (hg : Gl X "min") (hm : X.mg "min" = none) (hn : notStar a = true) : SE X W E (.Call (.Name "min" p) [a] [] pos) (v1 kMin1 fa) := by
  refine se_b1 (id := "min") (cr_min hc) (by decide +kernel) (by decide) (by decide) ?_ ha hg hm hn
  intro g st H y u P Q rel r o q
  unfold kMin1 at o
  cases hl : lstOf y st with
  | none => rw [hl] at o; exact o.elim
  | some xs =>
    rw [hl] at o
    obtain ⟨v, ev, o2⟩ := o.lift
    cases e : intsOf xs with
    | none => rw [e] at ev; cases ev
    | some ns =>
      rw [e] at ev
      cases ns with
      | nil => cases ev
      | cons n ns =>
        cases ev
        obtain ⟨a, vs, e3, e4, r', lz⟩ := lst_rd rel r hl
        subst e3
        have ev := intsOf_ok xs r' e
        subst ev
        obtain ⟨h1, h2⟩ := foldl_min ns n
        refine ⟨a, n :: ns, rfl, SqL.of e4, by simp, fun m hm hle => ?_⟩
        have e6 : ns.foldl min n = m := Int.le_antisymm (h2 m hm) (hle _ h1)
        rw [e6] at o2
        exact q _ _ _ _ (o2.here rel) _ rfl
theorem se_max1 {a : Expr} {fa : FE} {p : Pos} (hc : X.calm = true) (ha : SB X W E a fa) (hg : Gl X "max") (hm : X.mg "max" = none) (hn : notStar a = true) : SE X W E (.Call (.Name "max" p) [a] [] pos) (v1 kMax1 fa) := by
  refine se_b1 (id := "max") (cr_max hc) (by decide +kernel) (by decide) (by decide) ?_ ha hg hm hn
  intro g st H y u P Q rel r o q
  unfold kMax1 at o
  cases hl : lstOf y st with
  | none => rw [hl] at o; exact o.elim
  | some xs =>
    rw [hl] at o
    obtain ⟨v, ev, o2⟩ := o.lift
    cases e : intsOf xs with
    | none => rw [e] at ev; cases ev
    | some ns =>
      rw [e] at ev
      cases ns with
      | nil => cases ev
      | cons n ns =>
        cases ev
        obtain ⟨a, vs, e3, e4, r', lz⟩ := lst_rd rel r hl
        subst e3
        have ev := intsOf_ok xs r' e
        subst ev
        obtain ⟨h1, h2⟩ := foldl_max ns n
        refine ⟨a, n :: ns, rfl, SqL.of e4, by simp, fun m hm hle => ?_⟩
        have e6 : ns.foldl max n = m := Int.le_antisymm (hle _ h1) (h2 m hm)
        rw [e6] at o2
        exact q _ _ _ _ (o2.here rel) _ rfl
end
end TW
set_option maxHeartbeats 1600000
namespace TW
open PySem PySem.Spec L2
section
variable {X : Cx} {W : Wd} {E : XK} {pos : Pos}
def kDm (x y : Vl) (st : Sto) : Res Vl := match x, y with
  | .int i, .int j => if 0 < j ∧ j < 1073741824 then .ok (.tup [.int (i / j), .int (i % j)]) st else .bad
  | _, _ => .bad
theorem se_divmod {a b : Expr} {fa fb : FE} {p : Pos} (ha : SB X W E a fa) (hb : SB X W E b fb) (hg : Gl X "divmod") (hm : X.mg "divmod" = none) (hn : notStar a = true) (hn2 : notStar b = true) : SE X W E (.Call (.Name "divmod" p) [a, b] [] pos) (f2 fa fb kDm) := by
  refine se_b2 (id := "divmod") call_divmod (by decide +kernel) (by decide) (by decide) ?_ ha hb hg hm hn hn2
  intro g st H y z u w P Q rel r1 r2 o q
  unfold kDm at o
  split at o
  · rename_i i j
    split at o
    · rename_i h
      refine ⟨i, j, by rw [rb_int r1, rb_int r2], h, fun p hp => ?_⟩
      exact q _ _ _ _ (o.new rel hp (o := .tup [.int (i / j), .int (i % j)]) (by show 2 ≤ sizeLine; rw [sizeLine_eq]; omega)) _ ⟨p, _, rfl, rel.free hp, upd_same, ⟨_, _, rfl, rfl, ⟨_, _, rfl, rfl, rfl⟩⟩⟩
    · exact o.elim
  · exact o.elim
def rngD (lo : Int) (n : Nat) : List Vl := (List.range n).map fun i => .int (lo - (i : Nat))
theorem walk_rngD {lo : Int} {n : Nat} (h : n ≤ sizeLine) : Walk W (Itc lo (-1) n) ⟨rngD lo n, []⟩ [] := by
  have l : (rngD lo n).length = n := by unfold rngD; simp
  refine ⟨by rw [l]; exact h, fun i g st H rel _ _ hi => ?_, fun g st H rel _ _ => ?_, fun i g st H x H' rel _ _ hy => ?_⟩
  · rw [l] at hi; exact hi
  · rw [l]; exact Nat.le_refl _
  · obtain ⟨e1, e2⟩ := hy
    subst e1 e2
    refine ⟨EE.refl, rel, fun y hy => ?_⟩
    have e : y = .int (lo - (i : Nat)) := by
      unfold rngD at hy
      rw [List.getElem?_map] at hy
      cases q : (List.range n)[i]? with
      | none => rw [q] at hy; cases hy
      | some k =>
        rw [q] at hy
        obtain ⟨h1, h2⟩ := List.getElem?_eq_some_iff.mp q
        rw [List.getElem_range] at h2
        subst h2
        exact (Option.some.inj hy).symm
    rw [e]
    show V.int _ = V.int _
    congr 1
    omega
def wRngD (a b : FE) : FS := fun env st => (a env st).bind fun x st => (b env st).bind fun y st => match x, y with
  | .int i, .int j => if okR i = true ∧ okR j = true ∧ (i - j).toNat ≤ sizeLine then .ok ⟨rngD i (i - j).toNat, []⟩ st else .bad
  | _, _ => .bad
theorem rngD_t {a b : Expr} {fa fb : FE} {p p1 p2 : Pos} {k : Nat} {tg : Expr} (ha : SB X W E a fa) (hb : SB X W E b fb) (hg : Gl X "range") (hm : X.mg "range" = none) (hn : notStar a = true) (hn2 : notStar b = true) :
    PI X tg (.Call (.Name "range" p) [a, b, .UnaryOp .USub (.Constant (.int 1) k p1) p2] [] pos) (iRng3 (tCons (tB W E fa) (tCons (tB W E fb) (tCons (tUn (rU fun i => .int (-i)) (tC (.int 1))) tNil)))) :=
  pi_range3 hg hm (pa_cons ha (pa_cons hb (pa_cons (pe_un un_neg pe_int) pa_nil (by rfl)) (notStar_ok hn2)) (notStar_ok hn)) (by rw [notStar_ok hn, notStar_ok hn2]) (by rw [notStar_ok hn2]; rfl)
theorem rngD_i {fa fb : FE} {σ : L2.St} {H : Hp} {Rw : It → Hp → Prop} {g : G} {st : Sto} {env : Ev} {Gs : Src → G → Hp → List V → Prop} (rel : Rel W g st H) (rs : RS W g H env σ) (o : Out W E g H (wRngD fa fb env st) (fun s g' st' H' => ∀ J us, Gs s g' H' us → Stand s st' → Walk W J s us → Rw J H'))
    (hG : ∀ l g' H', Gs ⟨l, []⟩ g' H' []) : iRng3 (tCons (tB W E fa) (tCons (tB W E fb) (tCons (tUn (rU fun i => .int (-i)) (tC (.int 1))) tNil))) σ H Rw := by
  refine tB_bind rel rs o fun v st1 g1 H1 u e1 ee1 rel1 r1 o1 => ?_
  refine tB_bind rel1 (rs.ee rel ee1) o1 fun y st2 g2 H2 w e2 ee2 rel2 r2 o2 => ?_
  split at o2
  · split at o2
    · rename_i i j h
      refine ⟨1, rfl, ?_⟩
      exact ⟨i, j, -1, _, by rw [rb_int (r1.ee rel1 ee2), rb_int r2], RgC.neg (okR_ok h.1).1 (okR_ok h.1).2 (okR_ok h.2.1).1 (okR_ok h.2.1).2, o2.here rel2 _ [] (hG _ _ _) (fun p hp => by cases hp) (walk_rngD h.2.2)⟩
    · exact o2.elim
  · exact o2.elim
theorem sib_rngD {a b : Expr} {fa fb : FE} {p p1 p2 : Pos} {k : Nat} {tg : Expr} (ha : SB X W E a fa) (hb : SB X W E b fb) (hg : Gl X "range") (hm : X.mg "range" = none) (hn : notStar a = true) (hn2 : notStar b = true) : SIb X W E tg (.Call (.Name "range" p) [a, b, .UnaryOp .USub (.Constant (.int 1) k p1) p2] [] pos) (wRngD fa fb) := by
  refine pi_weak (rngD_t ha hb hg hm hn hn2) ?_
  rintro σ H Rw ⟨g, st, env, rel, rs, o⟩
  exact rngD_i (Gs := fun s g' H' us => RBs W g' H' (s.gs.map (·.1)) us) rel rs o fun l g' H' => rfl
theorem sie_rngD {a b : Expr} {fa fb : FE} {p p1 p2 : Pos} {k : Nat} {tg : Expr} (ha : SB X W E a fa) (hb : SB X W E b fb) (hg : Gl X "range") (hm : X.mg "range" = none) (hn : notStar a = true) (hn2 : notStar b = true) : SIe X W E tg (.Call (.Name "range" p) [a, b, .UnaryOp .USub (.Constant (.int 1) k p1) p2] [] pos) (wRngD fa fb) := by
  refine pi_weak (rngD_t ha hb hg hm hn hn2) ?_
  rintro σ H Rw ⟨g, st, env, rel, rs, o⟩
  exact rngD_i (Gs := fun s g' H' us => Rs W g' H' (s.gs.map (·.1)) us) rel rs o fun l g' H' => rfl
def kInX (neg : Bool) (x y : Vl) (st : Sto) : Option Bool := match pdR st x, pdR st y with
  | some d, some (.list ds) => if SeqAt.shaped d && SeqAt.shaped (.list ds) then some (if neg then !ds.any (fun z => PyData.eqv z d) else ds.any fun z => PyData.eqv z d) else none
  | _, _ => none
theorem kInX_ok {neg : Bool} {g : G} {st : Sto} {H : Hp} {x y : Vl} {u w : V} {b : Bool} (rel : Rel W g st H) (rx : RB W g H x u) (ry : RB W g H y w) (e : kInX neg x y st = some b) :
    ∃ d ds, Dp X.K H u d ∧ Dp X.K H w (.list ds) ∧ SeqAt.shaped d = true ∧ SeqAt.shaped (.list ds) = true ∧ b = (if neg then !ds.any (fun z => PyData.eqv z d) else ds.any fun z => PyData.eqv z d) := by
  unfold kInX at e
  split at e
  · rename_i d ds e1 e2
    split at e
    · rename_i hs
      cases e
      simp only [Bool.and_eq_true] at hs
      exact ⟨d, ds, pdR_ok rel rx e1, pdR_ok rel ry e2, hs.1, hs.2, rfl⟩
    · cases e
  · cases e
theorem ce_inX (hu : X.A.units + 65 < cLine) : CmpR X W .In (kInX false) := ⟨rInD X.K, op_inD hu, fun g st H x y u w b Q rel rx ry e q => by
  obtain ⟨d, ds, h1, h2, h3, h4, rfl⟩ := kInX_ok (X := X) rel rx ry e
  exact ⟨d, ds, h1, h2, h3, h4, q⟩⟩
theorem ce_notInX (hu : X.A.units + 65 < cLine) : CmpR X W .NotIn (kInX true) := ⟨rNotInD X.K, op_notInD hu, fun g st H x y u w b Q rel rx ry e q => by
  obtain ⟨d, ds, h1, h2, h3, h4, rfl⟩ := kInX_ok (X := X) rel rx ry e
  exact ⟨d, ds, h1, h2, h3, h4, q⟩⟩
def sExtX (fo f : FE) : FSt := fun env st => (fo env st).bind fun x st => match x with
  | .ref n => (match (st : List Ob)[n]? with
    | some (.lst _) => (f env st).bind fun v st => (match (st : List Ob)[n]?, lstOf v st with
      | some (.lst xs), some ys => if xs.length + ys.length ≤ sizeLine then .ok (.nx env) ((st : List Ob).set n (.lst (xs ++ ys))) else .bad
      | _, _ => .bad)
    | _ => .bad)
  | _ => .bad
theorem ss_extX {o e : Expr} {fo f : FE} {apos cpos : Pos} (ho : SE X W E o fo) (h : SE X W E e f) (hsu : noSuper o = true) (hn : notStar e = true) (hline : (apos.endLine == cpos.line) = true) :
    SS X W E (.Expr (.Call (.Attribute o "extend" apos) [e] [] cpos) pos) (sExtX fo f) := by
  refine ps_weak (ps_expr (pe_bm PySem.F.plainAttrs_list PySem.F.slot_list_extend PySem.F.type_list_extend mt_extend ho (pa_cons h pa_nil (notStar_ok hn)) (noSuper_ok hsu) (few1 hn) hline (notStar_ok hn) (noStars (by simp))) (notComp_ok rfl)) ?_
  rintro D σ H ⟨g, st, env, rel, rs, o⟩
  refine ⟨g, st, env, rel, rs, outS_bind o fun x st1 g1 H1 _ ee1 rel1 o1 u ru => ?_⟩
  have rs1 := rs.ee rel ee1
  cases x with
  | ref n =>
    obtain ⟨a, eu, ha⟩ := ru
    subst eu
    dsimp only at o1
    split at o1
    · rename_i xs0 hq
      obtain ⟨vs0, hH0, _⟩ := rel1.cell n a _ ha hq
      refine ⟨.inl ⟨rfl, vs0, SqL.of hH0⟩, g1, st1, env, rel1, rs1, outS_bind o1 fun v st2 g2 H2 _ ee rel2 o2 u ru => ?_⟩
      have hn1 : g2.rho[n]? = some a := ee.mo.nth n a ha
      split at o2
      · rename_i xs ys q hy
        split at o2
        · rename_i hlt
          obtain ⟨vs, hH1, r1⟩ := rel2.cell n a _ hn1 q
          obtain ⟨b, zs, eb, hB, rz, lzb⟩ := lst_rd rel2 (.inl ru) hy
          subst eb
          have l1 := r1.length
          have l2 := rz.length
          have lz : (vs ++ zs).length ≤ sizeLine := by rw [List.length_append]; omega
          obtain ⟨rel3, ee3⟩ := rel2.put hn1 (o := .lst (xs ++ ys)) (u := .lst (vs ++ zs)) ⟨_, rfl, r1.append rz⟩ lz
          exact ⟨a, b, vs, zs, rfl, rfl, hH1, hB, by omega, o2 g2 _ σ ee3.es rel3 ((rs1.ee rel1 ee).ee rel2 ee3)⟩
        · exact o2.elim
      · exact o2.elim
    · exact o1.elim
  | _ => exact o1.elim
end
end TW
set_option maxHeartbeats 1600000
namespace TW
open PySem PySem.Spec L2 PyProof.Rows
/-- a row: a tuple (t) or a list -/
def SqB (K : PySem.W.Frag) (t : Bool) (H : Hp) (a : Addr) (xs : List V) : Prop := match t with
  | true => SqT K H a xs
  | false => SqL K H a xs
def RowB (h : Heap) (t : Bool) (a : Addr) (its : Array Value) : Prop := match t with
  | true => h.IsTuple a its
  | false => h.IsList a its
def IterB (h : Heap) (t : Bool) (it a : Addr) (i : Nat) : Prop := match t with
  | true => h.IsTupleIter it a i
  | false => h.IsListIter it a i
theorem IterB.at_ {h h' : Heap} {t : Bool} {it a : Addr} {i : Nat} (x : IterB h t it a i) (k : ∀ o, h.get? it = some o → h'.get? it = some o) : IterB h' t it a i := by
  cases t
  · exact Heap.IsListIter.at x k
  · exact Heap.IsTupleIter.at x k
theorem IterB.obj {h : Heap} {t : Bool} {it a : Addr} {i : Nat} (x : IterB h t it a i) : ∃ o vs, h.get? it = some o ∧ o.data = .fields vs := by
  cases t
  · obtain ⟨o, e, _, d⟩ := x; exact ⟨o, _, e, d⟩
  · obtain ⟨o, e, _, d⟩ := x; exact ⟨o, _, e, d⟩
theorem drawB {P : Program} {w : World} {A : Around} (hh : A.handled = none) (t : Bool) (it l : Addr) (ne : l ≠ it) (its : Array Value) :
    Draws P w A it [it, l] its.size (fun i v => its[i]? = some v) (fun i h => IterB h t it l i ∧ RowB h t l its) := by
  cases t
  · exact Draws.list hh it l ne its
  · exact Draws.tuple hh it l ne its
def begO (t : Bool) (l : Addr) : Obj := match t with
  | true => { cls := .type "tuple_iterator", data := .fields #[.ref l, .int 0 0] }
  | false => { cls := .type "list_iterator", data := .fields #[.ref l, .int 0 0] }
theorem begB (t : Bool) (l : Addr) (its : Array Value) : Begins (.ref l) (begO t l) fun h => RowB h t l its := by
  cases t
  · exact begins_list l its
  · exact begins_tuple l its
theorem begO_iter {h : Heap} {t : Bool} {it l : Addr} (e : h.get? it = some (begO t l)) : IterB h t it l 0 := by
  cases t
  · exact ⟨_, e, rfl, rfl⟩
  · exact ⟨_, e, rfl, rfl⟩
section
variable {X : Cx} {pins : List (Addr × Obj)} {σ : L2.St} {H : Hp} {s : Shared} {t : Bool} {a : Addr} {xs ys : List V}
theorem sqB_row (I : Inv X pins σ H s) (h : SqB X.K t H a xs) : ∃ its : List Value, Vals xs its ∧ RowB s.heap t a its.toArray ∧ xs.length ≤ sizeLine ∧ a < s.heap.objs.size := by
  cases t
  · obtain ⟨its, r, p, z⟩ := I.list h
    exact ⟨its, r, p.isList, z, p.lt⟩
  · obtain ⟨its, r, p, z⟩ := I.tuple h
    obtain ⟨o, e, _⟩ := id p
    exact ⟨its, r, p, z, Heap.lt_size e⟩
theorem sqB_inj (I : Inv X pins σ H s) (h : SqB X.K t H a xs) (h' : SqB X.K t H a ys) : xs = ys := by
  cases t
  · exact I.list_inj h h'
  · exact I.tuple_inj h h'
end
/-- the pairs of two rows, each a new tuple -/
def ItzB (K : PySem.W.Frag) (t1 t2 : Bool) (a b : Addr) : It where
  go := fun i H => ∃ (xs ys : List V) (x y : V), SqB K t1 H a xs ∧ SqB K t2 H b ys ∧ xs[i]? = some x ∧ ys[i]? = some y
  yld := fun i H v H' => ∃ T x y, v = .ref T ∧ H T = none ∧ H' = upd H T (.tup [x, y]) ∧ (∀ xs, SqB K t1 H a xs → xs[i]? = some x) ∧ ∀ ys, SqB K t2 H b ys → ys[i]? = some y
  stop := fun i H => ∃ xs ys : List V, SqB K t1 H a xs ∧ SqB K t2 H b ys ∧ i = min xs.length ys.length
/-- all cells of a zip lie apart -/
structure ZB (z TI TO i1 i2 a b : Addr) : Prop where
  n1 : TI ≠ z
  n2 : TO ≠ z
  n3 : TI ≠ TO
  n4 : TI ≠ i1
  n5 : TI ≠ i2
  n6 : z ≠ i1
  n7 : z ≠ i2
  n8 : z ≠ a
  n9 : z ≠ b
  m1 : TO ≠ i1
  m2 : TO ≠ i2
  m3 : TO ≠ a
  m4 : TO ≠ b
  m5 : i1 ≠ i2
  m6 : i1 ≠ b
  m7 : i2 ≠ a
  m8 : a ≠ i1
  m9 : b ≠ i2
theorem ZB.sep {z TI TO i1 i2 a b : Addr} (D : ZB z TI TO i1 i2 a b) : ZipSep2 z TI TO i1 i2 [i1, a] [i2, b] where
  TIz := D.n1
  TOz := D.n2
  TITO := D.n3
  TIi1 := D.n4
  mem1 := by simp
  zf1 := by simp [D.n6, D.n8]
  Tf1 := by simp [D.m1, D.m3]
  TIi2 := D.n5
  mem2 := by simp
  zf2 := by simp [D.n7, D.n9]
  Tf2 := by simp [D.m2, D.m4]
  sep1_2 := by simp [D.m5, D.m6]
  sep2_1 := by simp [Ne.symm D.m5, D.m7]
theorem turn_zipB {P : Program} {w : World} {K : PySem.W.Frag} {es : List Expr} {kk : Nat} {tp : Pos} {t1 t2 : Bool} {a b z TI TO i1 i2 : Addr} (D : ZB z TI TO i1 i2 a b) :
    Turn P w K (.Tuple es kk tp) (ItzB K t1 t2 a b) [z, TI, TO, i1, i2] z (fun i h => IsZip h z TI TO .none ∧ IsTupOf2 h TI (.ref i1) (.ref i2) ∧ (∃ u v, IsTupOf2 h TO u v) ∧ IterB h t1 i1 a i ∧ IterB h t2 i2 b i) where
  mem := List.mem_cons_self
  obj := fun i h st c hc => by
    obtain ⟨k1, k2, ⟨u, v, k3⟩, k4, k5⟩ := st
    obtain ⟨o4, v4, e4, d4⟩ := k4.obj
    obtain ⟨o5, v5, e5, d5⟩ := k5.obj
    simp only [List.mem_cons, List.not_mem_nil, or_false] at hc
    rcases hc with rfl | rfl | rfl | rfl | rfl
    · exact ⟨_, k1, fun _ e => nomatch e⟩
    · exact ⟨_, k2, fun _ e => nomatch e⟩
    · exact ⟨_, k3, fun _ e => nomatch e⟩
    · exact ⟨o4, e4, fun _ e => by rw [d4] at e; cases e⟩
    · exact ⟨o5, e5, fun _ e => by rw [d5] at e; cases e⟩
  keep := fun i h h' st k => by
    obtain ⟨k1, k2, ⟨u, v, k3⟩, k4, k5⟩ := st
    have kp : ∀ c ∈ [z, TI, TO, i1, i2], ∀ o, h.get? c = some o → h'.get? c = some o := k
    exact ⟨kp z (by simp) _ k1, kp TI (by simp) _ k2, ⟨u, v, kp TO (by simp) _ k3⟩, k4.at_ (kp i1 (by simp)), k5.at_ (kp i2 (by simp))⟩
  item := by
    intro X e1 e2 e3 hc i pins s σ H E I hf st hg
    subst e1 e2 e3
    obtain ⟨k1, k2, ⟨u0, v0, k3⟩, k4, k5⟩ := st
    obtain ⟨xs, ys, x, y, q1, q2, hx, hy⟩ := hg
    obtain ⟨l1, r1, p1, _, _⟩ := sqB_row I q1
    obtain ⟨l2, r2, p2, _, _⟩ := sqB_row I q2
    obtain ⟨u, hu, ru⟩ := r1.get hx
    obtain ⟨v, hv, rv⟩ := r2.get hy
    have zl : z < s.heap.objs.size := Heap.lt_size k1
    have D1 := drawB (P := X.prog) (w := X.w) (A := X.A.in1) (I.ok.hd hc) t1 i1 a D.m8 l1.toArray
    have D2 := drawB (P := X.prog) (w := X.w) (A := X.A.in1) (I.ok.hd hc) t2 i2 b D.m9 l2.toArray
    have b1 : i < l1.toArray.size := by rw [List.size_toArray]; exact (List.getElem?_eq_some_iff.mp hu).1
    have b2 : i < l2.toArray.size := by rw [List.size_toArray]; exact (List.getElem?_eq_some_iff.mp hv).1
    refine wpAny_pyNext_zipD2_item D.sep D1 D2 k1 k2 k3 ⟨k4, p1⟩ ⟨k5, p2⟩ b1 b2 fun x1 x2 h1 tk g1 g2 z1 z3 st1 st2 hT _ hk => ?_
    have ex1 : x1 = u := by
      have g1' : l1[i]? = some x1 := by simpa using g1
      rw [hu] at g1'; exact (Option.some.inj g1').symm
    have ex2 : x2 = v := by
      have g2' : l2[i]? = some x2 := by simpa using g2
      rw [hv] at g2'; exact (Option.some.inj g2').symm
    subst ex1 ex2
    refine ⟨_, rfl, wpAny_letOwnedTupleGo_zip (s := { s with heap := h1, toks := tk }) z1 fun h2 z2 sb => ?_⟩
    have hT2 : h2.get? s.heap.objs.size = some { cls := .type "tuple", data := .seq #[x1, x2] } := (sb.2 _ (Nat.ne_of_gt zl)).trans hT
    have new : ObjOk X.prog X.w (upd H s.heap.objs.size (.tup [x, y])) h2 s.heap.objs.size (.tup [x, y]) := ⟨show 2 ≤ sizeLine by decide, _, .cons ru (.cons rv .nil), ⟨_, hT2, rfl, _, rfl⟩⟩
    have kk : ∀ c o, c ∉ [z, TI, TO, i1, i2] → s.heap.get? c = some o → h2.get? c = some o := fun c o hb e => by
      simp only [List.mem_cons, List.not_mem_nil, or_false, not_or] at hb
      exact (sb.2 c hb.1).trans (hk c o hb.1 hb.2.2.1 hb.2.2.2.1 hb.2.2.2.2 e)
    have I1 : Inv X pins σ (upd H s.heap.objs.size (.tup [x, y])) { s with heap := h2, toks := tk } := I.turnedNew (t' := tk) (ch := [z, TI, TO, i1, i2]) kk hf (Nat.le_refl _) new
    have lt : ∀ c ∈ [z, TI, TO, i1, i2], c < s.heap.objs.size := fun c hcm => by
      obtain ⟨o4, _, e4, _⟩ := k4.obj
      obtain ⟨o5, _, e5, _⟩ := k5.obj
      simp only [List.mem_cons, List.not_mem_nil, or_false] at hcm
      rcases hcm with rfl | rfl | rfl | rfl | rfl
      · exact zl
      · exact Heap.lt_size k2
      · exact Heap.lt_size k3
      · exact Heap.lt_size e4
      · exact Heap.lt_size e5
    refine ⟨.ref s.heap.objs.size, _, I1, rfl, ⟨_, x, y, rfl, I.hok.fresh (Nat.le_refl _), rfl, fun l hl => by rw [sqB_inj I hl q1]; exact hx, fun l hl => by rw [sqB_inj I hl q2]; exact hy⟩, ⟨z2, ?_, ⟨x1, x2, ?_⟩, ?_, ?_⟩, fun c hcm => ?_⟩
    · exact (sb.2 _ D.n1).trans (hk _ _ D.n1 D.n3 D.n4 D.n5 k2)
    · exact (sb.2 _ D.n2).trans z3
    · exact st1.1.at_ fun o e => (sb.2 _ (Ne.symm D.n6)).trans e
    · exact st2.1.at_ fun o e => (sb.2 _ (Ne.symm D.n7)).trans e
    · rw [upd_ne (Nat.ne_of_lt (lt c hcm))]
      exact (hf c hcm).1
  done := by
    intro X e1 e2 e3 hc i pins s σ H E I hf st hg
    subst e1 e2 e3
    obtain ⟨k1, k2, ⟨u0, v0, k3⟩, k4, k5⟩ := st
    obtain ⟨xs, ys, q1, q2, hend⟩ := hg
    obtain ⟨l1, r1, p1, _, _⟩ := sqB_row I q1
    obtain ⟨l2, r2, p2, _, _⟩ := sqB_row I q2
    have n1 := r1.length
    have n2 := r2.length
    have D1 := drawB (P := X.prog) (w := X.w) (A := X.A.in1) (I.ok.hd hc) t1 i1 a D.m8 l1.toArray
    have D2 := drawB (P := X.prog) (w := X.w) (A := X.A.in1) (I.ok.hd hc) t2 i2 b D.m9 l2.toArray
    refine wpAny_pyNext_zipD2_end D.sep D1 D2 k1 k2 k3 ⟨k4, p1⟩ ⟨k5, p2⟩ (by rw [List.size_toArray]; omega) (by rw [List.size_toArray]; omega) (by rw [List.size_toArray, List.size_toArray]; omega) fun h1 tk hk => ⟨rfl, ?_⟩
    refine I.turnedL (t' := tk) (ch := [z, TI, TO, i1, i2]) (fun c o hb e => ?_) hf
    simp only [List.mem_cons, List.not_mem_nil, or_false, not_or] at hb
    exact hk c o hb.1 hb.2.2.1 hb.2.2.2.1 hb.2.2.2.2 e
  self := fun A i s Q E st h => wpAny_pyIter_zip st.1 h
def iZipB (K : PySem.W.Frag) (ta : TA) : TI := fun σ H R => ta σ H fun vs H1 => ∃ t1 t2 a b xs ys, vs = [.ref a, .ref b] ∧ SqB K t1 H1 a xs ∧ SqB K t2 H1 b ys ∧ R (ItzB K t1 t2 a b) H1
theorem pi_zipB {X : Cx} {e e2 : Expr} {ta : TA} {p pos tp : Pos} {es : List Expr} {kk : Nat} (hg : Gl X "zip") (hm : X.mg "zip" = none) (ha : PA X [e, e2] ta)
    (hs : starEach [e, e2] X.env = (false, eval e X.env) :: starEach [e2] X.env) (hpl : (backTo pos (starEach [e2] X.env)).any (·.1) = false) :
    PI X (.Tuple es kk tp) (.Call (.Name "zip" p) [e, e2] [] pos) (iZipB X.K ta) := by
  refine ⟨fun pins s σ H R I h => ?_⟩
  refine Call_ (ld_blt I hg hm boot_zip (callWith_type1 (thn (ha.run pos pins s σ H _ I h) fun us s1 ⟨vs, H1, I1, rs, q1⟩ => ?_) hs hpl))
  obtain ⟨t1, t2, a, b, xs, ys, ex, q1, q2, q⟩ := q1
  subst ex
  cases rs with
  | cons ra rr =>
    cases rr with
    | cons rb rr =>
      cases rr
      cases ra
      cases rb
      obtain ⟨l1, _, p1, _, la⟩ := sqB_row I1 q1
      obtain ⟨l2, _, p2, _, lb⟩ := sqB_row I1 q2
      refine zip_begins2 (begB t1 a l1.toArray) (begB t2 b l2.toArray) p1 p2 fun h' z1 z2 z3 z4 z5 _ hk => wpAny_pyIter_zip z1 ?_
      have I2 : Inv X pins σ H1 { s1 with heap := h' } := I1.kept (t' := s1.toks) hk
      generalize hN : s1.heap.objs.size = N at *
      have la2 : @LT.lt Nat _ a N := la
      have lb2 : @LT.lt Nat _ b N := lb
      have D : ZB (N + 4) (N + 2) (N + 3) N (N + 1) a b := by constructor <;> (show @Ne Nat _ _; omega)
      refine ⟨N + 4, [N + 4, N + 2, N + 3, N, N + 1], _, _, H1, rfl, I2, turn_zipB D, ⟨z1, z2, ⟨_, _, z3⟩, begO_iter z4, begO_iter z5⟩, fun c hcm => ?_, q⟩
      have le : s1.heap.objs.size ≤ c := by
        simp only [List.mem_cons, List.not_mem_nil, or_false] at hcm
        rw [hN]
        show @LE.le Nat _ N c
        rcases hcm with rfl | rfl | rfl | rfl | rfl <;> simp
      exact I1.fpOk le (I1.hok.fresh le)
end TW
set_option maxHeartbeats 1600000
namespace TW
open PySem PySem.Spec L2
def isTupV : Vl → Bool
  | .tup _ => true
  | _ => false
section
variable {X : Cx} {W : Wd} {E : XK} {pos : Pos}
theorem rdB {W : Wd} {g : G} {H : Hp} {st : Sto} {K : PySem.W.Frag} {v : Vl} {u : V} {xs : List Vl} (rel : Rel W g st H) (h : RB W g H v u) (e : seqOf v st = some xs) :
    ∃ a vs, u = .ref a ∧ Rs W g H xs vs ∧ vs.length ≤ sizeLine ∧ SqB K (isTupV v) H a vs := by
  obtain ⟨a, vs, e1, r, l, hs⟩ := seq_rd2 (K := K) rel h e
  refine ⟨a, vs, e1, r, l, ?_⟩
  rcases hs with ⟨ht, _, z⟩ | ⟨hn, z⟩
  · subst ht; exact SqT.of z
  · have : isTupV v = false := by
      cases v with
      | tup ys => exact absurd rfl (hn ys)
      | _ => rfl
    rw [this]
    exact z
def wZip (a b : FE) : FS := fun env st => (a env st).bind fun x st => (b env st).bind fun y st => match seqOf x st, seqOf y st with
  | some xs, some ys => .ok ⟨(xs.zip ys).map fun p => .tup [p.1, p.2], [(x, xs), (y, ys)]⟩ st
  | _, _ => .bad
theorem rs_get {W : Wd} {g : G} {H : Hp} : ∀ {xs : List Vl} {vs : List V} {i : Nat} {v : V}, Rs W g H xs vs → vs[i]? = some v → ∃ x, xs[i]? = some x ∧ R W g H x v
  | [], _, i, v, r, e => by
    have : _ = [] := r
    subst this
    cases e
  | x :: xs, _, i, v, r, e => by
    obtain ⟨u, us, rfl, h1, h2⟩ := r
    cases i with
    | zero => cases e; exact ⟨x, rfl, h1⟩
    | succ i => exact rs_get (xs := xs) h2 (show us[i]? = some v from e)
theorem walk_zip {x y : Vl} {xs ys : List Vl} {u v : V} {g0 : G} {st0 : Sto} {H0 : Hp} (rel0 : Rel W g0 st0 H0) (r0 : RB W g0 H0 x u) (r1 : RB W g0 H0 y v) (e0 : seqOf x st0 = some xs) (e1 : seqOf y st0 = some ys) :
    ∃ a b ks ls, u = .ref a ∧ v = .ref b ∧ SqB X.K (isTupV x) H0 a ks ∧ SqB X.K (isTupV y) H0 b ls ∧ Walk W (ItzB X.K (isTupV x) (isTupV y) a b) ⟨(xs.zip ys).map fun p => .tup [p.1, p.2], [(x, xs), (y, ys)]⟩ [u, v] := by
  obtain ⟨a, ks, ea, ra, la, ha⟩ := rdB (K := X.K) rel0 r0 e0
  obtain ⟨b, ls, eb, rb, lb, hb⟩ := rdB (K := X.K) rel0 r1 e1
  refine ⟨a, b, ks, ls, ea, eb, ha, hb, ?_⟩
  have two : ∀ {g : G} {H : Hp} {st : Sto}, Rel W g st H → RBs W g H ([(x, xs), (y, ys)].map (·.1)) [u, v] → Stand ⟨(xs.zip ys).map fun p => Vl.tup [p.1, p.2], [(x, xs), (y, ys)]⟩ st →
      ∃ ks ls, Rs W g H xs ks ∧ Rs W g H ys ls ∧ SqB X.K (isTupV x) H a ks ∧ SqB X.K (isTupV y) H b ls := fun {g H st} rel h sd => by
    obtain ⟨p, q, e, h1, p2, q2, e2, h2, _⟩ := h
    cases e
    cases e2
    obtain ⟨a', ks', ea', ra', _, ha'⟩ := rdB (K := X.K) rel h1 (sd (x, xs) (by simp))
    obtain ⟨b', ls', eb', rb', _, hb'⟩ := rdB (K := X.K) rel h2 (sd (y, ys) (by simp))
    obtain rfl : a' = a := by rw [ea] at ea'; cases ea'; rfl
    obtain rfl : b' = b := by rw [eb] at eb'; cases eb'; rfl
    exact ⟨ks', ls', ra', rb', ha', hb'⟩
  have len : ((xs.zip ys).map fun p => Vl.tup [p.1, p.2]).length = min xs.length ys.length := by rw [List.length_map, List.length_zip]
  have lx := ra.length
  have ly := rb.length
  refine ⟨by show List.length _ ≤ _; rw [len]; omega, fun i g st H rel h sd hi => ?_, fun g st H rel h sd => ?_, fun i g st H w H' rel h sd hy => ?_⟩
  · obtain ⟨ks', ls', ra', rb', ha', hb'⟩ := two rel h sd
    have n1 := ra'.length
    have n2 := rb'.length
    have hi' : i < min xs.length ys.length := by rw [← len]; exact hi
    exact ⟨ks', ls', ks'[i]'(by omega), ls'[i]'(by omega), ha', hb', List.getElem?_eq_getElem _, List.getElem?_eq_getElem _⟩
  · obtain ⟨ks', ls', ra', rb', ha', hb'⟩ := two rel h sd
    exact ⟨ks', ls', ha', hb', by show List.length _ = _; rw [len, ra'.length, rb'.length]⟩
  · obtain ⟨ks', ls', ra', rb', ha', hb'⟩ := two rel h sd
    obtain ⟨T, p, q, rfl, hT, rfl, f1, f2⟩ := hy
    have k1 := f1 _ ha'
    have k2 := f2 _ hb'
    have ee : EE g H g (upd H T (.tup [p, q])) := EE.new hT
    refine ⟨ee, rel.new hT (show 2 ≤ sizeLine by rw [sizeLine_eq]; omega), fun z hz => ?_⟩
    obtain ⟨c, hc, rc⟩ := rs_get ra' k1
    obtain ⟨d, hd, rd⟩ := rs_get rb' k2
    have hz' : ((xs.zip ys).map fun p => Vl.tup [p.1, p.2])[i]? = some z := hz
    have zz : (xs.zip ys)[i]? = some (c, d) := by
      rw [List.getElem?_zip_eq_some]
      exact ⟨hc, hd⟩
    rw [List.getElem?_map, zz] at hz'
    cases hz'
    exact ⟨T, [p, q], rfl, rel.free hT, upd_same, ((Rs.cons rc (Rs.one rd)).ee ee)⟩
theorem sie_zip {a b : Expr} {fa fb : FE} {p tp : Pos} {es : List Expr} {kk : Nat} (ha : SE X W E a fa) (hb : SE X W E b fb) (hg : Gl X "zip") (hm : X.mg "zip" = none) (hn : notStar a = true) (hn2 : notStar b = true) : SIe X W E (.Tuple es kk tp) (.Call (.Name "zip" p) [a, b] [] pos) (wZip fa fb) := by
  refine pi_weak (pi_zipB hg hm (pa_cons ha (pa_cons hb pa_nil (notStar_ok hn2)) (notStar_ok hn)) (by rw [notStar_ok hn, notStar_ok hn2]) (by rw [notStar_ok hn2]; rfl)) ?_
  rintro σ H Rw ⟨g, st, env, rel, rs, o⟩
  refine tE_bind rel rs o fun x st1 g1 H1 u e1 ee1 rel1 r1 o1 => ?_
  refine tE_bind rel1 (rs.ee rel ee1) o1 fun y st2 g2 H2 w e2 ee2 rel2 r2 o2 => ?_
  split at o2
  · rename_i xs ys h1 h2
    obtain ⟨a, b, ks, ls, rfl, rfl, q1, q2, q⟩ := walk_zip (X := X) rel2 (.inl (r1.ee ee2)) (.inl r2) h1 h2
    exact ⟨_, _, a, b, ks, ls, rfl, q1, q2, o2.here rel2 _ _ (Rs.cons (r1.ee ee2) (Rs.one r2)) (fun p hp => by
      simp only [List.mem_cons, List.not_mem_nil, or_false] at hp
      rcases hp with rfl | rfl
      · exact h1
      · exact h2) q⟩
  · exact o2.elim
theorem sib_zip {a b : Expr} {fa fb : FE} {p tp : Pos} {es : List Expr} {kk : Nat} (ha : SE X W E a fa) (hb : SE X W E b fb) (hg : Gl X "zip") (hm : X.mg "zip" = none) (hn : notStar a = true) (hn2 : notStar b = true) : SIb X W E (.Tuple es kk tp) (.Call (.Name "zip" p) [a, b] [] pos) (wZip fa fb) := by
  refine pi_weak (pi_zipB hg hm (pa_cons ha (pa_cons hb pa_nil (notStar_ok hn2)) (notStar_ok hn)) (by rw [notStar_ok hn, notStar_ok hn2]) (by rw [notStar_ok hn2]; rfl)) ?_
  rintro σ H Rw ⟨g, st, env, rel, rs, o⟩
  refine tE_bind rel rs o fun x st1 g1 H1 u e1 ee1 rel1 r1 o1 => ?_
  refine tE_bind rel1 (rs.ee rel ee1) o1 fun y st2 g2 H2 w e2 ee2 rel2 r2 o2 => ?_
  split at o2
  · rename_i xs ys h1 h2
    obtain ⟨a, b, ks, ls, rfl, rfl, q1, q2, q⟩ := walk_zip (X := X) rel2 (.inl (r1.ee ee2)) (.inl r2) h1 h2
    exact ⟨_, _, a, b, ks, ls, rfl, q1, q2, o2.here rel2 _ _ (Rs.rbs (Rs.cons (r1.ee ee2) (Rs.one r2))) (fun p hp => by
      simp only [List.mem_cons, List.not_mem_nil, or_false] at hp
      rcases hp with rfl | rfl
      · exact h1
      · exact h2) q⟩
  · exact o2.elim
def lRg1 (fb : FE) : FA := fun env st => (fb env st).bind fun y st => kLstRg (.int 0) y st
theorem sl_rg1 {b : Expr} {fb : FE} {p p2 p3 : Pos} (hc : X.calm = true) (hb : SB X W E b fb) (hg : Gl X "list") (hm : X.mg "list" = none) (hg2 : Gl X "range") (hm2 : X.mg "range" = none) (hn2 : notStar b = true) :
    SL X W E (.Call (.Name "list" p) [.Call (.Name "range" p2) [b] [] p3] [] pos) (lRg1 fb) := by
  refine pe_weak (pe_listRg hc hg hm (prg_1 hg2 hm2 hb (notStar_ok hn2))) ?_
  rintro σ H Q ⟨g, st, env, rel, rs, o⟩
  refine tB_bind rel rs o fun y st2 g2 H2 w e2 ee2 rel2 r2 o2 => ?_
  unfold kLstRg at o2
  split at o2
  · rename_i i j he
    cases he
    split at o2
    · rename_i h
      have ok := rgOk_ok h
      have lz : (rgV 0 j).length ≤ sizeLine := by rw [rgV_length, sizeLine_eq]; have := ok.2.2.2.2; omega
      exact ⟨j, rb_int r2, ok, fun q hq => lay rel2 ee2 hq (rs_rng _ _) lz o2⟩
    · exact o2.elim
  · exact o2.elim
end
end TW
set_option maxHeartbeats 1600000
namespace TW
open PySem PySem.Spec L2
def leP (p q : Int × Int) : Prop := p.1 < q.1 ∨ (p.1 = q.1 ∧ p.2 ≤ q.2)
instance : DecidableRel leP := fun p q => inferInstanceAs (Decidable (p.1 < q.1 ∨ (p.1 = q.1 ∧ p.2 ≤ q.2)))
theorem leP_anti {p q : Int × Int} (h : leP p q) (h' : leP q p) : p = q := by
  unfold leP at h h'
  exact Prod.ext (by omega) (by omega)
theorem leP_trans {p q r : Int × Int} (h : leP p q) (h' : leP q r) : leP p r := by
  unfold leP at *
  omega
theorem leP_tot {p q : Int × Int} (h : ¬ leP p q) : leP q p := by
  unfold leP at *
  omega
def insP (i : Int × Int) : List (Int × Int) → List (Int × Int)
  | [] => [i]
  | j :: js => if leP i j then i :: j :: js else j :: insP i js
def psort : List (Int × Int) → List (Int × Int)
  | [] => []
  | i :: is => insP i (psort is)
theorem insP_perm (i : Int × Int) : ∀ l, (insP i l).Perm (i :: l)
  | [] => List.Perm.refl _
  | j :: js => by
    unfold insP
    split
    · exact List.Perm.refl _
    · exact ((insP_perm i js).cons j).trans (List.Perm.swap i j js)
theorem psort_perm : ∀ l, (psort l).Perm l
  | [] => List.Perm.refl _
  | i :: is => (insP_perm i _).trans ((psort_perm is).cons i)
theorem insP_srt (i : Int × Int) : ∀ {l : List (Int × Int)}, l.Pairwise leP → (insP i l).Pairwise leP
  | [], _ => List.pairwise_singleton _ _
  | j :: js, h => by
    rw [List.pairwise_cons] at h
    unfold insP
    split
    · rename_i l
      refine List.pairwise_cons.mpr ⟨fun x hx => ?_, List.pairwise_cons.mpr h⟩
      rcases List.mem_cons.mp hx with rfl | hx
      · exact l
      · exact leP_trans l (h.1 x hx)
    · rename_i l
      refine List.pairwise_cons.mpr ⟨fun x hx => ?_, insP_srt i h.2⟩
      rcases List.mem_cons.mp ((insP_perm i js).mem_iff.mp hx) with rfl | hx
      · exact leP_tot l
      · exact h.1 x hx
theorem psort_srt : ∀ l : List (Int × Int), (psort l).Pairwise leP
  | [] => List.Pairwise.nil
  | i :: is => insP_srt i (psort_srt is)
theorem leP_uniq : ∀ {l m : List (Int × Int)}, l.Perm m → l.Pairwise leP → m.Pairwise leP → l = m
  | [], m, p, _, _ => (List.Perm.nil_eq p)
  | x :: l, [], p, _, _ => absurd p.length_eq (by simp)
  | x :: l, y :: m, p, h1, h2 => by
    rw [List.pairwise_cons] at h1 h2
    have a : x = y := by
      have m1 : x ∈ y :: m := p.mem_iff.mp List.mem_cons_self
      have m2 : y ∈ x :: l := p.mem_iff.mpr List.mem_cons_self
      rcases List.mem_cons.mp m1 with e | m1
      · exact e
      · rcases List.mem_cons.mp m2 with e | m2
        · exact e.symm
        · exact leP_anti (h1.1 y m2) (h2.1 x m1)
    subst a
    rw [leP_uniq ((List.perm_cons x).mp p) h1.2 h2.2]
def prV (p : Int × Int) : Vl := .tup [.int p.1, .int p.2]
def prOf : Vl → Option (Int × Int)
  | .tup [.int i, .int j] => some (i, j)
  | _ => none
def prsOf : List Vl → Option (List (Int × Int))
  | [] => some []
  | x :: xs => (match prOf x, prsOf xs with
    | some p, some ps => some (p :: ps)
    | _, _ => none)
theorem prOf_eq {x : Vl} {p : Int × Int} (h : prOf x = some p) : x = prV p := by
  unfold prOf at h
  split at h
  · cases h; rfl
  · cases h
theorem prsOf_eq : ∀ {xs : List Vl} {ps : List (Int × Int)}, prsOf xs = some ps → xs = ps.map prV
  | [], ps, h => by cases h; rfl
  | x :: xs, ps, h => by
    unfold prsOf at h
    split at h
    · rename_i p qs h1 h2
      cases h
      rw [List.map_cons, prOf_eq h1, prsOf_eq h2]
    · cases h
theorem prsOf_map : ∀ ps : List (Int × Int), prsOf (ps.map prV) = some ps
  | [] => rfl
  | p :: ps => by
    rw [List.map_cons]
    unfold prsOf
    rw [prsOf_map ps]
    rfl
section
variable {X : Cx} {W : Wd} {E : XK} {pos : Pos}
theorem r_pr {g : G} {H : Hp} {p : Int × Int} {v : V} (h : R W g H (prV p) v) : ∃ t, v = .ref t ∧ H t = some (.tup [.int p.1, .int p.2]) := by
  obtain ⟨a, vs, e1, _, e2, r⟩ := rb_tup (.inl h)
  obtain ⟨v1, t1, e3, r1, v2, t2, e4, r2, e5⟩ := r
  obtain rfl : t2 = [] := e5
  subst e1 e4 e3
  cases rb_int (.inl r1)
  cases rb_int (.inl r2)
  exact ⟨a, rfl, e2⟩
def keyH (H : Hp) : V → Int × Int
  | .ref t => (match H t with
    | some (.tup [.int i, .int j]) => (i, j)
    | _ => (0, 0))
  | _ => (0, 0)
theorem r_key {g : G} {H : Hp} {p : Int × Int} {v : V} (h : R W g H (prV p) v) : keyH H v = p := by
  obtain ⟨t, rfl, e⟩ := r_pr h
  unfold keyH
  dsimp only
  rw [e]
theorem rs_keys {g : G} {H : Hp} : ∀ {ps : List (Int × Int)} {vs : List V}, Rs W g H (ps.map prV) vs → vs.map (keyH H) = ps ∧ ∀ v ∈ vs, R W g H (prV (keyH H v)) v
  | [], vs, h => by
    obtain rfl : vs = [] := h
    exact ⟨rfl, by simp⟩
  | p :: ps, vs, h => by
    obtain ⟨v, vt, rfl, r, rt⟩ := h
    obtain ⟨e, m⟩ := rs_keys rt
    have k := r_key r
    refine ⟨by rw [List.map_cons, k, e], fun z hz => ?_⟩
    rcases List.mem_cons.mp hz with rfl | hz
    · rw [k]; exact r
    · exact m z hz
theorem rs_of_keys {g : G} {H : Hp} : ∀ {ys : List V}, (∀ v ∈ ys, R W g H (prV (keyH H v)) v) → Rs W g H ((ys.map (keyH H)).map prV) ys
  | [], _ => rfl
  | y :: ys, h => ⟨_, _, rfl, h y List.mem_cons_self, rs_of_keys fun v hv => h v (List.mem_cons_of_mem _ hv)⟩
/-- sorted(xs): ints, or pairs of ints -/
def kSorted (x : Vl) (st : Sto) : Res Vl := match lstOf x st with
  | some xs => (match intsOf xs with
    | some ns => .ok (.lst ((isort ns).map .int)) st
    | none => (match prsOf xs with
      | some ps => .ok (.lst ((psort ps).map prV)) st
      | none => .bad))
  | none => .bad
theorem se_sorted {a : Expr} {fa : FE} {p : Pos} (ha : SB X W E a fa) (hg : Gl X "sorted") (hm : X.mg "sorted" = none) (hn : notStar a = true) : SE X W E (.Call (.Name "sorted" p) [a] [] pos) (v1 kSorted fa) := by
  refine se_b1 (id := "sorted") (CallR.or cr_sortedI cr_sortedPO) (by decide +kernel) (by decide) (by decide) ?_ ha hg hm hn
  intro g st H y u P Q rel r o q
  unfold kSorted at o
  cases hl : lstOf y st with
  | none => rw [hl] at o; exact o.elim
  | some xs =>
    rw [hl] at o
    dsimp only at o
    obtain ⟨a, vs, e3, e4, r', lz⟩ := lst_rd rel r hl
    subst e3
    cases e : intsOf xs with
    | some ns =>
      rw [e] at o
      have ev := intsOf_ok xs r' e
      subst ev
      refine .inl ⟨a, ns, rfl, SqL.of e4, fun ns' p perm srt hp => ?_⟩
      have e5 : ns' = isort ns := srt_uniq (perm.trans (isort_perm ns).symm) srt (isort_srt ns)
      subst e5
      exact q _ _ _ _ (o.new rel hp (o := .lst ((isort ns).map .int)) (by
        show ((isort ns).map V.int).length ≤ _
        rw [List.length_map, (isort_perm ns).length_eq]
        rw [List.length_map] at lz
        exact lz)) _ ⟨p, _, rfl, rel.free hp, upd_same, rs_ints _⟩
    | none =>
      rw [e] at o
      dsimp only at o
      cases e' : prsOf xs with
      | none => rw [e'] at o; exact o.elim
      | some ps =>
        rw [e'] at o
        obtain rfl := prsOf_eq e'
        obtain ⟨ek, hm⟩ := rs_keys r'
        refine .inr ⟨a, vs, keyH H, rfl, SqL.of e4, fun x hx => r_pr (hm x hx), fun ys p srt stb hp => ?_⟩
        have hy : ∀ v ∈ ys, R W g H (prV (keyH H v)) v := fun v hv => hm v (stb.perm.mem_iff.mp hv)
        have e5 : ys.map (keyH H) = psort ps := by
          refine leP_uniq ?_ (List.pairwise_map.mpr ?_) (psort_srt ps)
          · exact ((stb.perm.map _).trans (by rw [ek])).trans (psort_perm ps).symm
          · refine List.Pairwise.imp (fun {x y} h => ?_) srt
            have h' := SrtO.lexB_no.mp h
            unfold leP
            omega
        have r2 := rs_of_keys hy
        rw [e5] at r2
        exact q _ _ _ _ (o.new rel hp (o := .lst ys) (by
          show ys.length ≤ _
          rw [stb.perm.length_eq]
          exact lz)) _ ⟨p, _, rfl, rel.free hp, upd_same, r2.ee (EE.new hp)⟩
end
end TW
set_option maxHeartbeats 1600000
namespace HT
open PySem PySem.Calls PyProof.Rows
section
variable {prog : Program} {w : World} {A : Around} {E : Value → Shared → Prop} {s : Shared}
theorem tr_adjust (n : Nat) : Builtin.Slice.sliceAdjust none none (-1) (n : Int) = ((n : Int) - 1, -1) := by
  unfold Builtin.Slice.sliceAdjust
  have h1 : (-1 : Int) < 0 := by decide
  simp only [h1, if_true]
theorem tr_places (n : Nat) : Builtin.Slice.slicePlaces ((n : Int) - 1) (-1) (-1) = n := by
  unfold Builtin.Slice.slicePlaces
  have h1 : ¬ (-1 : Int) > 0 := by decide
  simp only [h1, if_false, show (-(-1) : Int) = 1 by decide, Int.ediv_one]
  split <;> omega
theorem tr_applied {sl : Addr} {vl vu vs : Value} {n : Nat} {Q : Int × Int × Nat → Shared → Prop} (hs : s.heap.IsSliceOf sl vl vu vs) (pl : IsPart vl none) (pu : IsPart vu none) (ps : IsPart vs (some (-1)))
    (h : Q ((n : Int) - 1, -1, n) s) : wpAny (model prog w) A (Builtin.Slice.sliceApplied (.ref sl) (pure (n : Int))) Q E s := by
  obtain ⟨os, hos, hcs, hds⟩ := id hs
  unfold Builtin.Slice.sliceApplied Builtin.Slice.sliceFields
  refine wpAny_bind (wpAny_bind (wpAny_field hos hds (x := vl) rfl (wpAny_bind (wpAny_field hos hds (x := vu) rfl (wpAny_bind (wpAny_field hos hds (x := vs) rfl (wpAny_pure ?_)))))))
  refine wpAny_bind (slicePart_ ps ?_)
  show wpAny _ _ (if ((-1 : Int) == 0) = true then _ else _) _ _ s
  rw [if_neg (by decide)]
  refine wpAny_bind (slicePart_ pl (wpAny_bind (slicePart_ pu (wpAny_bind (wpAny_pure ?_)))))
  show wpAny _ _ (match Builtin.Slice.sliceAdjust none none (-1) (n : Int) with | (lo, hi) => pure (lo, (-1 : Int), Builtin.Slice.slicePlaces lo hi (-1))) _ _ s
  rw [tr_adjust n]
  show wpAny _ _ (pure ((n : Int) - 1, (-1 : Int), Builtin.Slice.slicePlaces ((n : Int) - 1) (-1) (-1))) _ _ s
  rw [tr_places]
  exact wpAny_pure h
theorem tr_congr {α β : Type} {f g : α → Option β} : ∀ {l : List α}, (∀ m ∈ l, f m = g m) → l.filterMap f = l.filterMap g
  | [], _ => rfl
  | x :: l, h => by
    rw [List.filterMap_cons, List.filterMap_cons, h x List.mem_cons_self, tr_congr fun m hm => h m (List.mem_cons_of_mem _ hm)]
theorem tr_pick (xs : Array Value) : ((List.range xs.size).filterMap fun (m : Nat) => xs[((xs.size : Int) - 1 + (m : Int) * (-1)).toNat]?).toArray = xs.toList.reverse.toArray := by
  have e : ((List.range xs.size).filterMap fun (m : Nat) => xs[((xs.size : Int) - 1 + (m : Int) * (-1)).toNat]?) = ((List.range xs.size).map fun k => xs.size - 1 - k).filterMap (xs[·]?) := by
    rw [List.filterMap_map]
    refine tr_congr fun m hm => ?_
    have := List.mem_range.mp hm
    have e2 : ((xs.size : Int) - 1 + (m : Int) * (-1)).toNat = xs.size - 1 - m := by omega
    show xs[((xs.size : Int) - 1 + (m : Int) * (-1)).toNat]? = xs[xs.size - 1 - m]?
    rw [e2]
  rw [e, PySem.W.krv_range, List.filterMap_reverse, PySem.W.krv_all]
theorem getItem_tuple_rev {t sl : Addr} {items : Array Value} {vl vu vs : Value} {Q : Value → Shared → Prop} (ht : IsTup s.heap t items) (hs : s.heap.IsSliceOf sl vl vu vs) (pl : IsPart vl none) (pu : IsPart vu none) (ps : IsPart vs (some (-1)))
    (h : Q (.ref s.heap.objs.size) { s with heap := s.heap.push { cls := .type "tuple", data := .seq items.toList.reverse.toArray } })
    (hsz : items.size ≤ sizeLine) : wpAny (model prog w) A (getItem (.ref t) (.ref sl)) Q E s := by
  have htake : sizeOk (.seq items.toList.reverse.toArray) := by
    show items.toList.reverse.toArray.size ≤ sizeLine
    rw [List.size_toArray, List.length_reverse, Array.length_toList]
    exact hsz
  obtain ⟨os, hos, hcs, hds⟩ := id hs
  have hTs : s.TypeIs (.ref sl) "slice" := ⟨os, hos, hcs⟩
  unfold getItem
  try with_reducible refine wpAny_holding ?_
  first | refine wpAny_bind (wpAny_pure ?_) | skip
  refine wpAny_bind (wpAny_sequenceKey ht.typeIs (by decide) ?_)
  refine wpAny_bind (wpAny_callSpecial?_slot (name := Str.ofString "__getitem__") ht.typeIs PyProof.Rows.slot_tuple_getitem
    (wpAny_call_entry PyProof.Rows.slot_tuple_getitem ht.typeIs entry_tuple_getitem ?_ (args_tuple_getitem _ _)))
  show wpAny _ _ (Builtin.Tuple.tupleItemsOf (.ref t) >>= _) _ _ s
  refine wpAny_bind (tupleItemsOf_ ht ?_)
  refine wpAny_bind (wpAny_typeOf hTs ?_)
  rw [if_pos (by decide)]
  refine wpAny_bind (tr_applied hs pl pu ps ?_)
  have hno : ¬ (((((items.size : Nat) : Int) - 1) == 0 && (-1 : Int) == 1 && items.size == items.size) = true) := by
    intro q
    rw [Bool.and_eq_true, Bool.and_eq_true] at q
    exact absurd q.1.2 (by decide)
  show wpAny _ _ (if ((((items.size : Nat) : Int) - 1) == 0 && (-1 : Int) == 1 && items.size == items.size) = true then _ else _) _ _ s
  rw [if_neg hno, tr_pick]
  first
    | exact wpAny_bind (m := Builtin.Tuple.tupleExact _) (wpAny_newObj_type (wpAny_pure ⟨_, rfl, wpAny_pure h⟩) htake)
    | exact wpAny_bind (m := Builtin.Tuple.tupleExact _) (wpAny_newObj_type (wpAny_bind (wpAny_pure (wpAny_pure ⟨_, rfl, wpAny_pure h⟩))) htake)
    | exact wpAny_bind (wpAny_bind (m := Builtin.Tuple.tupleExact _) (wpAny_newObj_type (wpAny_pure (wpAny_pure ⟨_, rfl, wpAny_pure h⟩)) htake))
    | exact wpAny_bind (wpAny_bind (m := Builtin.Tuple.tupleExact _) (wpAny_newObj_type (wpAny_pure ⟨_, rfl, wpAny_pure h⟩) htake))
end
end HT
namespace TW
open PySem PySem.Spec L2 PyProof.Rows
section
variable {X : Cx} {W : Wd} {E : XK} {pos : Pos}
def tRevB (K : PySem.W.Frag) (te : TE) : TE := fun σ H Q => te σ H fun x H1 => ∃ a xs, x = .ref a ∧ ((SqL K H1 a xs ∧ ∀ p, H1 p = none → Q (.ref p) (upd H1 p (.lst xs.reverse))) ∨ (SqT K H1 a xs ∧ ∀ p, H1 p = none → Q (.ref p) (upd H1 p (.tup xs.reverse))))
theorem pe_revB {e : Expr} {te : TE} {k : Nat} {p1 p2 p3 pos : Pos} (he : PE X e te) : PE X (.Subscript e (.Slice none none (some (.UnaryOp .USub (.Constant (.int 1) k p1) p2)) p3) pos) (tRevB X.K te) := by
  refine ⟨fun pins s σ H Q I h => ?_⟩
  refine Subscript_ (thn (he.run pins s σ H _ I h) fun v s1 ⟨x, H1, I1, r1, q1⟩ => ?_)
  obtain ⟨a, xs, ex, q⟩ := q1
  subst ex
  cases r1
  have hst : PO X (some (.UnaryOp .USub (.Constant (.int 1) k p1) p2)) (tPart (tUn (rU fun i => .int (-i)) (tC (.int 1)))) := po_some (pe_un un_neg pe_int)
  refine wpAny_Slice (thn (po_none.run pins s1 σ H1 (fun o H2 => o = none ∧ H2 = H1) I1 ⟨rfl, rfl⟩) fun vl s2 ⟨l, H2, I2, pl, el, e2⟩ => ?_)
  subst el e2
  refine thn (po_none.run pins s2 σ H2 (fun o H3 => o = none ∧ H3 = H2) I2 ⟨rfl, rfl⟩) fun vu s3 ⟨u, H3, I3, pu, eu, e3⟩ => ?_
  subst eu e3
  refine thn (hst.run pins s3 σ H3 (fun o H4 => o = some (-1) ∧ H4 = H3) I3 ⟨1, rfl, -1, rfl, rfl, rfl⟩) fun vs s4 ⟨o, H4, I4, ps, eo, e4⟩ => ?_
  subst eo e4
  have I5 : L2.Inv X pins σ H4 { s4 with heap := s4.heap.push { cls := .type "slice", data := .fields #[vl, vu, vs] } } := I4.kept (t' := s4.toks) fun b ob q => Heap.get?_push_of_some _ q
  show wpAny (model X.prog X.w) X.A (subscriptTail e (.Slice none none (some (.UnaryOp .USub (.Constant (.int 1) k p1) p2)) p3) (.ref a) (.ref s4.heap.objs.size)) (EP X pins σ Q) X.xe { s4 with heap := s4.heap.push { cls := .type "slice", data := .fields #[vl, vu, vs] } }
  rcases q with ⟨hx, q⟩ | ⟨hx, q⟩
  · obtain ⟨its, r, ht, hz⟩ := I5.list hx
    have hlen := r.length
    refine tail_any (ops := [.ref a, .ref s4.heap.objs.size]) ht.isList.typeIs (PySem.slot_list_getitem.lookup) ?_ (by with_unfolding_all rfl)
    refine wpAny_getItem_list_slice ht.isList (Heap.IsSliceOf.new _ vl vu vs) pl pu ps (by decide) ?_ (by rw [List.size_toArray]; omega)
    rw [PySem.W.krv_pick]
    refine ⟨.ref _, _, I5.laid (t' := s4.toks) (o := .lst xs.reverse) (fun b ob q => Heap.get?_push_of_some _ q) (Nat.le_refl _) ?_, rfl, q _ (I5.hok.fresh (Nat.le_refl _))⟩
    exact ⟨by rw [List.length_reverse]; exact hz, _, 0, r.reverse, Heap.get?_push_size _ rfl⟩
  · obtain ⟨its, r, ht, hz⟩ := I5.tuple hx
    have hlen := r.length
    refine tail_any (ops := [.ref a, .ref s4.heap.objs.size]) ht.typeIs (PyProof.Rows.slot_tuple_getitem.lookup) ?_ (by with_unfolding_all rfl)
    refine HT.getItem_tuple_rev ht (Heap.IsSliceOf.new _ vl vu vs) pl pu ps ?_ (by rw [List.size_toArray]; omega)
    refine ⟨.ref _, _, I5.laid (t' := s4.toks) (o := .tup xs.reverse) (fun b ob q => Heap.get?_push_of_some _ q) (Nat.le_refl _) ?_, rfl, q _ (I5.hok.fresh (Nat.le_refl _))⟩
    exact ⟨by rw [List.length_reverse]; exact hz, _, r.reverse, IsTup.new _ _⟩
def kRev (x : Vl) (st : Sto) : Res Vl := match x with
  | .tup xs => .ok (.tup xs.reverse) st
  | x => (match lstOf x st with
    | some xs => .ok (.lst xs.reverse) st
    | none => .bad)
theorem se_rev {a : Expr} {fa : FE} {k : Nat} {p1 p2 p3 : Pos} (ha : SB X W E a fa) : SE X W E (.Subscript a (.Slice none none (some (.UnaryOp .USub (.Constant (.int 1) k p1) p2)) p3) pos) (v1 kRev fa) := by
  refine pe_weak (pe_revB ha) ?_
  rintro σ H Q ⟨g, st, env, rel, rs, o⟩
  refine tB_bind rel rs o fun x st1 g1 H1 u e1 ee1 rel1 r1 o1 => ?_
  unfold kRev at o1
  split at o1
  · rename_i xs
    obtain ⟨a, vs, e3, im, e4, r'⟩ := rb_tup r1
    refine ⟨a, vs, e3, .inr ⟨SqT.of e4, fun p hp => ?_⟩⟩
    have lz : vs.length ≤ sizeLine := rel1.sz a vs (.inr e4)
    refine o1.new rel1 hp (o := .tup vs.reverse) (by show vs.reverse.length ≤ _; rw [List.length_reverse]; exact lz) _ ⟨p, _, rfl, rel1.free hp, upd_same, ?_⟩
    exact (r'.ee (EE.new hp)).reverse
  · split at o1
    · rename_i xs hl
      obtain ⟨a, vs, e3, e4, r', lz⟩ := lst_rd rel1 r1 hl
      refine ⟨a, vs, e3, .inl ⟨SqL.of e4, fun p hp => ?_⟩⟩
      refine o1.new rel1 hp (o := .lst vs.reverse) (by show vs.reverse.length ≤ _; rw [List.length_reverse]; exact lz) _ ⟨p, _, rfl, rel1.free hp, upd_same, ?_⟩
      exact (r'.ee (EE.new hp)).reverse
    · exact o1.elim
end
end TW
set_option maxHeartbeats 1600000
namespace TW
open PySem PySem.Spec L2 PyProof.Rows
open PySem.W (Frag InstAt findIn isFn notFirst subIn mroIn)
section
variable {prog : Program} {w : World} {A : Around} {E : Value → Shared → Prop} {s : Shared} {K : Frag} {x C : Addr} {ox : Obj} {od : Option Obj} {name : Str} {h₀ : Heap} {L f : Addr} {m : Str → Option Value} {b tb : Value}
theorem bindNe (self : Value) : bindSpecial (.builtin "object.__ne__") self = pure (.builtin "object.__ne__", [self]) := PySem.F.cmp_object.ne.bind self
theorem ifBound_B {M : Model} {args : List Value} {i : String} {Q : Option Value → Shared → Prop} (X : K.In s.heap) (I : InstAt s.heap x ox C od) (hs : findIn K (.ref C) name = some (some (.builtin i)))
    (hb : bindSpecial (.builtin i) (.ref x) = pure (.builtin i, [.ref x]))
    (h : wpAny M A (call (.builtin i) (.ref x :: args)) (fun v => Q (some v)) E s) : wpAny M A (callSpecialIfBound? (.ref x) name args) Q E s := by
  simp only [callSpecialIfBound?, bindSpecialIfBound?]
  refine wpAny_holding (wpAny_bind (wpAny_bind (wpAny_bind (I.type.here ((PySem.W.looks_findIn X hs).here ?_)))))
  refine wpAny_bind (wpAny_askSetting (wpAny_ite ?_))
  have fin : wpAny M A (call (.builtin i) ([.ref x] ++ args) >>= fun v => pure (some v)) Q E s := wpAny_bind (wpAny_mono h (fun v s' h' => wpAny_pure h') fun _ _ h' => h')
  split
  · rw [hb]
    exact wpAny_bind (wpAny_pure (wpAny_pure (by exact fin)))
  · rw [hb]
    exact wpAny_tryCatch (wpAny_bind (wpAny_pure (wpAny_pure (by exact fin))))
def BackB (Q : Value → Shared → Prop) (v : Value) (s' : Shared) : Prop := ∃ k, v = .bool k ∧ Q (.bool (!k)) s'
theorem ne_K {Q : Value → Shared → Prop} (hu : A.units + 1 < cLine) (Fr0 : Fr h₀ L s.heap m) (X₀ : K.In h₀) (I : InstAt s.heap x ox C od) (hb : PySem.W.Looks (model prog w) s.heap (typeOf b) tb) (hn : notFirst K C tb = true)
    (hs : findIn K (.ref C) "__eq__" = some (some (.ref f))) (hf : isFn K (.ref f) = true) (hne : findIn K (.ref C) "__ne__" = some (some (.builtin "object.__ne__"))) (ho : mroIn K C (.type "object") = some true)
    (h : wpAny (model prog w) A.in1 (call (.ref f) [.ref x, b]) (BackB Q) E s) : wpAny (model prog w) A (richCompare .NotEq (.ref x) b) Q E s := by
  have X := X₀.keeps Fr0.keep
  have hu0 : A.units < cLine := Nat.lt_of_succ_lt hu
  have hu1 : A.in1.units < cLine := hu
  have hi : PySem.W.Looks (model prog w) s.heap (isInstance (.ref x) (.type "object")) true := I.type.andThen (PySem.W.looks_mroIn X ho)
  have one : wpAny (model prog w) A (tryCompare (.ref x) (cmpInfo .NotEq).2.1 b) (fun r s' => ∃ v, r = some v ∧ Q v s') E s := by
    unfold tryCompare
    refine wpAny_bind (ifBound_B X I hne (bindNe _) (wpAny_call (codeAny_call_builtin PySem.F.cmp_object.ne.plain PySem.F.cmpEntry_ne (PySem.W.check_slot PySem.F.cmpKind_ne PySem.F.cmpSplit_ne hi (PySem.F.cmpArgs_ne _ _) ?_))))
    unfold Builtin.«object.__ne__»
    show wpAny _ _ (cRoomFor "comparison" [.ref x, b] >>= _) _ _ s
    refine wpAny_bind (wpAny_cRoomFor hu1 ?_)
    refine wpAny_bind (PySem.W.ifBound_K X I hs hf (wpAny_mono h (fun v s' hv => ?_) fun _ _ e => e))
    obtain ⟨k, rfl, q⟩ := hv
    show wpAny _ _ (truthy (.bool k) >>= _) _ _ s'
    refine wpAny_bind (wpAny_of_eq (a := k) (by first | rfl | (cases k <;> rfl)) ?_)
    refine wpAny_pure ?_
    show wpAny _ _ _ _ _ s'
    exact wpAny_pure ⟨_, rfl, q⟩
  unfold richCompare
  simp only [oneThing_ref]
  refine wpAny_holding (wpAny_bind (wpAny_cRoomFor hu0 ?_))
  refine wpAny_bind (I.type.here (wpAny_bind (hb.here ?_)))
  split
  · rename_i q
    have e : subIn K tb (.ref C) = some false := by
      rcases Bool.or_eq_true_iff.mp hn with e | e
      · rw [beq_iff_eq.mp e] at q; simp at q
      · exact beq_iff_eq.mp e
    refine wpAny_bind ((PySem.W.looks_subIn X e).here ?_)
    simp only [Bool.false_eq_true, if_false]
    refine wpAny_bind (wpAny_mono one (fun r s' z => ?_) fun _ _ e => e)
    obtain ⟨v, rfl, hq⟩ := z
    exact wpAny_pure hq
  · refine wpAny_bind (wpAny_pure ?_)
    simp only [Bool.false_eq_true, if_false]
    refine wpAny_bind (wpAny_mono one (fun r s' z => ?_) fun _ _ e => e)
    obtain ⟨v, rfl, hq⟩ := z
    exact wpAny_pure hq
end
section
variable {X : Cx} {W : Wd} {E : XK} {pos : Pos}
structure OwnOk (X : Cx) (W : Wd) (n c : Nat) (F : Fn) : Prop where
  ex : ∃ (k : Nat) (f : Addr) (fd : FuncData) (ps : List Str), FnOk X.prog X.w X.K X.mg X.base (L2.CX X.prog X.w) k f fd ps (spF W 2 F) ∧ Room (k + 1) X.A ∧ Binds X.K fd ps [] ∧ findIn X.K (.ref (W.cls c)) "__eq__" = some (some (.ref f)) ∧ isFn X.K (.ref f) = true
  nf : ∀ d, d < n → notFirst X.K (W.cls c) (.ref (W.cls d)) = true
  ne : findIn X.K (.ref (W.cls c)) "__ne__" = some (some (.builtin "object.__ne__"))
  ob : mroIn X.K (W.cls c) (.type "object") = some true
/-- what may stand on the right -/
def OwnR (K : Frag) (W : Wd) (n : Nat) (H : Hp) (y : V) : Prop := (∃ b d dy qs, y = .ref b ∧ H b = some (.ins (W.cls d) dy qs) ∧ d < n) ∨ (∃ i, y = .int i) ∨ ∃ b vs, y = .ref b ∧ SqT K H b vs
theorem sub_int {K : Frag} {C : Addr} : notFirst K C (.type "int") = true := by
  show (_ || (Option.map (fun l : List Value => l.contains (Value.ref C)) (fastBuiltinMro "int") == some false)) = true
  rw [show (fastBuiltinMro "int") = some [.type "int", .type "object"] by kernel_rfl]
  rfl
theorem sub_tup {K : Frag} {C : Addr} : notFirst K C (.type "tuple") = true := by
  show (_ || (Option.map (fun l : List Value => l.contains (Value.ref C)) (fastBuiltinMro "tuple") == some false)) = true
  rw [show (fastBuiltinMro "tuple") = some [.type "tuple", .type "object"] by kernel_rfl]
  rfl
theorem own_type {n c : Nat} {F : Fn} {pins : List (Addr × Obj)} {s : Shared} {σ : L2.St} {H : Hp} {y : V} {u : Value} (O : OwnOk X W n c F) (I : L2.Inv X pins σ H s) (ry : RelV y u) (h : OwnR X.K W n H y) :
    ∃ tb, PySem.W.Looks (model X.prog X.w) s.heap (typeOf u) tb ∧ notFirst X.K (W.cls c) tb = true := by
  rcases h with ⟨b, d, dy, qs, rfl, hb, hd⟩ | ⟨i, rfl⟩ | ⟨b, vs, rfl, hb⟩
  · obtain rfl : u = Value.ref b := ry
    obtain ⟨_, J', _⟩ := ins_get I.hok hb
    obtain ⟨_, J', _⟩ := J'.look
    exact ⟨_, J'.type, O.nf d hd⟩
  · obtain ⟨t, rfl⟩ := ry
    exact ⟨.type "int", .of_pure rfl, sub_int⟩
  · obtain rfl : u = Value.ref b := ry
    obtain ⟨its, r, ht, hz⟩ := I.tuple hb
    obtain ⟨o, ho, hc, _⟩ := ht
    exact ⟨.type "tuple", hc ▸ (PySem.W.Looks.ld ho).andThen .now, sub_tup⟩
def rOwn (K : Frag) (W : Wd) (E : XK) (n c : Nat) (F : Fn) (no : Bool) : R2 := fun x y H Q => ∃ a dx ps, x = .ref a ∧ H a = some (.ins (W.cls c) dx ps) ∧ OwnR K W n H y ∧ spF W 2 F [x, y] H (fun v H' => ∃ k : Bool, v = .bl k ∧ Q (.bl (k ^^ no)) H') E
theorem op_own {n c : Nat} {F : Fn} (O : OwnOk X W n c F) (hx : Passes (L2.CX X.prog X.w) X E) : OpR X (compareOp .Eq) (rOwn X.K W E n c F false) := by
  obtain ⟨k, f, fd, ps, F1, hr, hb, hs, hf⟩ := O.ex
  rintro pins s σ H x y v u Q I rx ry ⟨a, dx, qs, rfl, ha, hy, sp⟩
  obtain rfl : v = Value.ref a := rx
  obtain ⟨_, J, _⟩ := ins_get I.hok ha
  obtain ⟨_, J, _⟩ := J.look
  obtain ⟨tb, hT, hn⟩ := own_type O I ry hy
  obtain ⟨_, fr⟩ := I.fr
  show wpAny (model X.prog X.w) X.A (richCompare .Eq (.ref a) u) (EP X pins σ Q) X.xe s
  have hr0 : Room k X.A := hr.mono (Nat.le_succ k)
  refine PySem.W.cmp_K (op := .Eq) hr0.units0 fr I.ok.mod.kin J hT hn hs hf ?_
  have r2 : Vals [V.ref a, y] [Value.ref a, u] := .cons rfl (.cons ry .nil)
  refine wpAny_mono (run_fn F1 hr0 hb .nil hx I r2 (by rw [List.append_nil]; exact sp)) (fun w s' hq => ?_) fun _ _ z => z
  obtain ⟨z, H', I', rz, kb, ez, q⟩ := hq
  subst ez
  cases rz
  rw [Bool.xor_false] at q
  exact ⟨.bl kb, H', I', rfl, q⟩
theorem run_fnA {A : Around} {k : Nat} {f : Addr} {fd : FuncData} {ps : List Str} {sp : Sp} {pins : List (Addr × Obj)} {σ : L2.St} {H : Hp} {s : Shared} {Q : VK} {us : List Value} {vs : List V} (F : FnOk X.prog X.w X.K X.mg X.base (L2.CX X.prog X.w) k f fd ps sp) (hr : Room k A)
    (e0 : Env0 X.prog X.w X.K X.mg X.base A X.stack s H) (hb : Binds X.K fd ps []) (hx : Passes (L2.CX X.prog X.w) X E) (I : L2.Inv X pins σ H s) (r : Vals vs us) (h : sp vs H Q E) : wpAny (model X.prog X.w) A (call (.ref f) us) (EP X pins σ Q) X.xe s := by
  have hl : us.length = ps.length := by rw [← r.length]; exact F.len _ _ _ _ h
  refine wpAny_call (codeAny_mono (F.run A X.stack s H ⟨us, []⟩ us vs Q E hr e0 (by have := hb s us I.kIn (by rw [List.append_nil]; exact hl); rwa [List.append_nil] at this) r h) fun r s' hq => ?_)
  cases r with
  | error e => exact hx pins σ H s e s' I hq
  | ok fl =>
    cases fl with
    | ret u => exact I.after hq
    | next => exact False.elim hq
    | brk => exact False.elim hq
    | cont => exact False.elim hq
theorem op_ownN {n c : Nat} {F : Fn} (O : OwnOk X W n c F) (hx : Passes (L2.CX X.prog X.w) X E) : OpR X (compareOp .NotEq) (rOwn X.K W E n c F true) := by
  obtain ⟨k, f, fd, ps, F1, hr, hb, hs, hf⟩ := O.ex
  rintro pins s σ H x y v u Q I rx ry ⟨a, dx, qs, rfl, ha, hy, sp⟩
  obtain rfl : v = Value.ref a := rx
  obtain ⟨_, J, _⟩ := ins_get I.hok ha
  obtain ⟨_, J, _⟩ := J.look
  obtain ⟨tb, hT, hn⟩ := own_type O I ry hy
  obtain ⟨_, fr⟩ := I.fr
  show wpAny (model X.prog X.w) X.A (richCompare .NotEq (.ref a) u) (EP X pins σ Q) X.xe s
  refine ne_K (by have := hr.un; omega) fr I.ok.mod.kin J hT hn hs hf O.ne O.ob ?_
  have r2 : Vals [V.ref a, y] [Value.ref a, u] := .cons rfl (.cons ry .nil)
  refine wpAny_mono (run_fnA F1 hr.in1 I.env0.in1 hb hx I r2 sp) (fun w s' hq => ?_) fun _ _ z => z
  obtain ⟨z, H', I', rz, kb, ez, q⟩ := hq
  subst ez
  cases rz
  rw [Bool.xor_true] at q
  exact ⟨kb, rfl, .bl (!kb), H', I', rfl, q⟩
end
end TW
set_option maxHeartbeats 1600000
namespace TW
open PySem PySem.Spec L2 PyProof.Rows
section
variable {X : Cx} {W : Wd} {E : XK} {pos : Pos}
def ownR (n : Nat) : Vl → Bool
  | .obj d _ => decide (d < n)
  | .int _ => true
  | .tup _ => true
  | _ => false
def kOwnB (no : Bool) (n : Nat) (Fe : Nat → Fn) (x y : Vl) (st : Sto) : Res Vl := match x with
  | .obj c fs => if c < n ∧ ownR n y = true then (Fe c [.obj c fs, y] st).bind fun v st => (match v with
      | .bl b => .ok (.bl (b ^^ no)) st
      | _ => .bad) else .bad
  | _ => .bad
def kOwn (n : Nat) (Fe : Nat → Fn) : Vl → Vl → Sto → Res Vl := kOwnB false n Fe
def kOwnN (n : Nat) (Fe : Nat → Fn) : Vl → Vl → Sto → Res Vl := kOwnB true n Fe
theorem opR_ex {ι : Type} {f : Value → Value → Sem Value} {r : ι → R2} (h : ∀ i, OpR X f (r i)) : OpR X f (fun x y H Q => ∃ i, r i x y H Q) := fun pins s σ H x y v u Q I rx ry ⟨i, q⟩ => h i pins s σ H x y v u Q I rx ry q
theorem ownR_ok {n : Nat} {y : Vl} {g : G} {H : Hp} {w : V} {K : PySem.W.Frag} (h : ownR n y = true) (r : R W g H y w) : OwnR K W n H w := by
  cases y with
  | obj d fs =>
    obtain ⟨q, dy, qs, rfl, _, h2, _⟩ := r
    exact .inl ⟨q, d, dy, qs, rfl, h2, of_decide_eq_true h⟩
  | int i =>
    obtain rfl := rb_int (.inl r)
    exact .inr (.inl ⟨i, rfl⟩)
  | tup xs =>
    obtain ⟨a, vs, e1, _, e2, _⟩ := rb_tup (.inl r)
    exact .inr (.inr ⟨a, vs, e1, SqT.of e2⟩)
  | _ => cases h
theorem se_ownB {op : CmpOp} {no : Bool} {n : Nat} {Fe : Nat → Fn} {a b : Expr} {fa fb : FE} (O : ∀ c, c < n → OpR X (compareOp op) (rOwn X.K W E n c (Fe c) no)) (ha : SE X W E a fa) (hb : SE X W E b fb) (hm : behindInMarks op b = false) : SE X W E (.Compare a [op] [b] pos) (f2 fa fb (kOwnB no n Fe)) := by
  refine pe_weak (pe_cmpR (opR_ex fun c : { c : Nat // c < n } => O c.1 c.2) ha hb hm) ?_
  rintro σ H Q ⟨g, st, env, rel, rs, o⟩
  refine tE_bind rel rs o fun x st1 g1 H1 u e1 ee1 rel1 r1 o1 => ?_
  refine tE_bind rel1 (rs.ee rel ee1) o1 fun y st2 g2 H2 w e2 ee2 rel2 r2 o2 => ?_
  have r1' := r1.ee ee2
  unfold kOwnB at o2
  split at o2
  · rename_i c fs
    split at o2
    · rename_i hc
      have r1s : Rs W g2 H2 [.obj c fs, y] [u, w] := Rs.cons r1' (Rs.one r2)
      have r1k := r1'
      obtain ⟨p, dx, ps, rfl, _, h1, _⟩ := r1k
      refine ⟨⟨c, hc.1⟩, p, dx, ps, rfl, h1, ownR_ok hc.2 r2, g2.call, st2, _, rel2.call, rfl, r1s.mo Mo.call, rfl, ?_⟩
      refine call_out rel2 ?_
      revert o2
      cases Fe c [.obj c fs, y] st2 with
      | bad => exact fun o => o
      | exc k f s => exact fun o => o
      | ok v s =>
        intro o2 g3 H3 ee3 rel3 z rz
        cases v with
        | bl b =>
          obtain rfl : z = V.bl b := rz
          exact ⟨b, rfl, o2 g3 H3 ee3 rel3 _ rfl⟩
        | _ => exact o2.elim
    · exact o2.elim
  · exact o2.elim
theorem se_own {n : Nat} {Fe : Nat → Fn} {a b : Expr} {fa fb : FE} (O : ∀ c, c < n → OwnOk X W n c (Fe c)) (hx : Passes (L2.CX X.prog X.w) X E) (ha : SE X W E a fa) (hb : SE X W E b fb) (hm : behindInMarks .Eq b = false) : SE X W E (.Compare a [.Eq] [b] pos) (f2 fa fb (kOwn n Fe)) :=
  se_ownB (fun c hc => op_own (O c hc) hx) ha hb hm
theorem se_ownN {n : Nat} {Fe : Nat → Fn} {a b : Expr} {fa fb : FE} (O : ∀ c, c < n → OwnOk X W n c (Fe c)) (hx : Passes (L2.CX X.prog X.w) X E) (ha : SE X W E a fa) (hb : SE X W E b fb) (hm : behindInMarks .NotEq b = false) : SE X W E (.Compare a [.NotEq] [b] pos) (f2 fa fb (kOwnN n Fe)) :=
  se_ownB (fun c hc => op_ownN (O c hc) hx) ha hb hm
end
end TW
set_option maxHeartbeats 6400000
namespace HT
open PySem PySem.Calls PyProof.Rows L2
abbrev noSet (w : World) : Obj := { cls := .type "set", dict := none, data := .set #[] 0 (.fresh 0 0 (!w.params.followText "set-order")) }
abbrev withSet (w : World) (s : Shared) : Shared := { s with heap := s.heap.push (noSet w) }
section
variable {prog : Program} {w : World} {A : Around} {E : Value → Shared → Prop} {s : Shared}
/-- set(xs) of a list of ints: what the tuple's rule says, of a list -/
theorem set_of_list {l : Addr} {items : Array Value} (ns : List Int) {Q : Value → Shared → Prop} (free : A.handled = none) (isl : s.heap.IsList l items) (hit : IntsAre items.toList ns) (room : ns.length + 1 < scanBound)
    (h : ∀ (hp : Heap) (tk c : Nat), SetR w hp s.heap.objs.size (fun j => decide (j ∈ ns)) c → c ≤ ns.length → (∀ b o, s.heap.get? b = some o → hp.get? b = some o) → Q (.ref s.heap.objs.size) { s with heap := hp, toks := tk }) :
    wpAny (model prog w) A (call (.type "set") [.ref l]) Q E s := by
  have sz : items.size = ns.length := by
    rw [← Array.length_toList]
    exact IntsAre.length hit
  obtain ⟨c, tl, mro⟩ := F.called_set.mro
  have k1 := F.called_set.made
  have k2 := F.called_set.sub
  have k3 := F.called_set.notType
  have k4 := F.called_set.canCreate
  have k5 := F.typeCall_set_1 (.ref l)
  refine wpAny_call (codeAny_of_tree (wpAny_pure ⟨Code.quiet_builtin _ (by decide +kernel), codeAny_builtin F.entry_type_call ?_⟩))
  rw [Around.under_plain (weight_type_call_type "set" [.ref l] []) rfl]
  repeat (any_goals (first | assumption | wp_step))
  refine codeAny_mono (code_set_led1 (.ref l) (E := E) (Q₁ := fun v t => v = .ref s.heap.objs.size ∧ t = withSet w s) ⟨rfl, rfl⟩) fun r t ht => ?_
  cases r with
  | error e => exact ht
  | ok f =>
   cases f with
   | ret v =>
    obtain ⟨rfl, rfl⟩ := ht
    have there : (withSet w s).heap.get? s.heap.objs.size = some (noSet w) := Heap.get?_push_size _ rfl
    have ty : Shared.TypeIs (withSet w s) (.ref s.heap.objs.size) "set" := ⟨_, there, rfl⟩
    have i1 := F.called_set.init.lookup
    have i2 := F.called_set.init.bind (.ref s.heap.objs.size)
    repeat (any_goals (first | assumption | wp_step))
    refine codeAny_mono (codeAny_call_builtin (R := wants (fun r t => r = .none ∧ ∃ hp tk c, t = { s with heap := hp, toks := tk } ∧ SetR w hp s.heap.objs.size (fun j => decide (j ∈ ns)) c ∧ c ≤ ns.length ∧ ∀ b o, s.heap.get? b = some o → hp.get? b = some o) E) F.called_set.init.plain F.entry_set_init (check_set_init_1 ty ?_)) fun r2 t2 h2 => ?_
    · obtain ⟨⟨oc, od, odt, os⟩, hol, hc, nl, hd⟩ := isl
      simp only at hc hd
      subst hc
      subst hd
      have ol2 : (withSet w s).heap.get? l = some { cls := .type "list", dict := od, data := .seq items nl, slots := os } := Heap.get?_push_of_some _ hol
      have s1 := F.sub_list_set
      have s2 := F.sub_list_frozenset
      have s3 : (Value.type "list" == Value.type "dict") = false := by decide
      have lst2 : (withSet w s).heap.IsList l items := ⟨_, ol2, rfl, nl, rfl⟩
      unfold Builtin.«set.__init__» noKeywords Builtin.Frozenset.updateFrom
      generalize hPI : pyIter = PI
      wp_walk
      subst hPI
      refine wpAny_pyIter_list lst2 (wpAny_bind (wpAny_runValue ?_))
      have ll : l < s.heap.objs.size := Heap.lt_size hol
      have size2 : (withSet w s).heap.objs.size = s.heap.objs.size + 1 := Heap.size_push ..
      have away : l ≠ (withSet w s).heap.objs.size := by
        rw [size2]
        exact Nat.ne_of_lt (Nat.lt_succ_of_lt ll)
      have out : s.heap.objs.size ∉ [(withSet w s).heap.objs.size, l] := by
        rw [size2]
        intro z
        rcases List.mem_cons.mp z with z | z
        · exact absurd z (Nat.ne_of_lt (Nat.lt_succ_self _))
        · exact absurd (List.mem_singleton.mp z) (Nat.ne_of_gt ll)
      have val : ∀ (i : Nat) (v : Value), items[i]? = some v → ∃ k t, ns[i]? = some k ∧ v = .int k t := fun i v hv => by
        have il : i < ns.length := by have := (Array.getElem?_eq_some_iff.mp hv).1; omega
        obtain ⟨t, e⟩ := IntsAre.int_at hit i v (by rw [Array.getElem?_toList, hv])
        exact ⟨ns[i], t, List.getElem?_eq_getElem il, by rw [e, List.getD_eq_getElem?_getD, List.getElem?_eq_getElem il]; rfl⟩
      refine set_update_ints ((Walks.list (by simp [free]) _ l away items).toS) s.heap.objs.size out ns sz room val (items.size - 0) 0 _ (by omega) (Nat.zero_le _) ⟨⟨_, Heap.get?_push_size _ rfl, rfl, rfl⟩, lst2.push _⟩ ⟨0, Nat.le_refl 0, setR_new_at (Heap.get?_push_of_some _ there)⟩ fun t c hm hc hS => ?_
      obtain ⟨hp, g2, d2, tk2, o2⟩ := t
      obtain rfl : g2 = s.gens := hm.gens
      obtain rfl : d2 = s.drawn := hm.drawn
      obtain rfl : o2 = s.os := hm.os
      refine wpAny_pure (wpAny_pure ⟨rfl, hp, tk2, c, rfl, hS, by omega, fun b o e => ?_⟩)
      have bl : b < s.heap.objs.size := Heap.lt_size e
      refine hm.heap b o ?_ (Heap.get?_push_of_some _ (Heap.get?_push_of_some _ e))
      intro z
      rcases List.mem_cons.mp z with z | z
      · exact absurd z (Nat.ne_of_lt bl)
      · have z := List.mem_singleton.mp z
        rw [size2] at z
        exact absurd z (Nat.ne_of_lt (Nat.lt_succ_of_lt bl))
    · cases r2 with
      | error e => exact h2
      | ok f =>
        cases f with
        | ret v =>
          obtain ⟨rfl, hp, tk, c, rfl, hS, hc, hk⟩ := h2
          repeat (any_goals (first | assumption | wp_step))
          exact h _ _ _ hS hc hk
        | _ => exact h2.elim
   | _ => exact ht.elim
end
end HT
set_option maxHeartbeats 1600000
namespace TW
open PySem PySem.Spec L2
/-- each once, from the least -/
def dsort : List Int → List Int
  | [] => []
  | i :: is => if i ∈ dsort is then dsort is else isort (i :: dsort is)
theorem dsort_mem : ∀ (l : List Int) (k : Int), k ∈ dsort l ↔ k ∈ l
  | [], k => Iff.rfl
  | i :: is, k => by
    unfold dsort
    split
    · rename_i h
      rw [dsort_mem is, List.mem_cons]
      exact ⟨.inr, fun z => z.elim (fun e => by rw [e]; exact (dsort_mem is i).mp h) id⟩
    · rw [(isort_perm _).mem_iff, List.mem_cons, List.mem_cons, dsort_mem is]
theorem dsort_nd : ∀ l : List Int, (dsort l).Nodup
  | [] => List.Pairwise.nil
  | i :: is => by
    unfold dsort
    split
    · exact dsort_nd is
    · rename_i h
      exact ((isort_perm _).nodup_iff).mpr (List.nodup_cons.mpr ⟨h, dsort_nd is⟩)
theorem dsort_le : ∀ l : List Int, (dsort l).Pairwise (· ≤ ·)
  | [] => List.Pairwise.nil
  | i :: is => by
    unfold dsort
    split
    · exact dsort_le is
    · exact isort_srt _
theorem dsort_lt (l : List Int) : (dsort l).Pairwise (· < ·) := ((dsort_le l).and (dsort_nd l)).imp fun h => by
  have := h.1
  have := h.2
  omega
theorem lt_uniq : ∀ {l m : List Int}, l.Pairwise (· < ·) → m.Pairwise (· < ·) → (∀ k, k ∈ l ↔ k ∈ m) → l = m
  | [], [], _, _, _ => rfl
  | [], y :: m, _, _, h => absurd ((h y).mpr List.mem_cons_self) (by simp)
  | x :: l, [], _, _, h => absurd ((h x).mp List.mem_cons_self) (by simp)
  | x :: l, y :: m, h1, h2, h => by
    rw [List.pairwise_cons] at h1 h2
    have e : x = y := by
      rcases List.mem_cons.mp ((h x).mp List.mem_cons_self) with e | e
      · exact e
      · rcases List.mem_cons.mp ((h y).mpr List.mem_cons_self) with e2 | e2
        · exact e2.symm
        · have := h1.1 y e2
          have := h2.1 x e
          omega
    subst e
    rw [lt_uniq h1.2 h2.2 fun k => ⟨fun hk => by
      rcases List.mem_cons.mp ((h k).mp (List.mem_cons_of_mem _ hk)) with e | e
      · have := h1.1 k hk; omega
      · exact e, fun hk => by
      rcases List.mem_cons.mp ((h k).mpr (List.mem_cons_of_mem _ hk)) with e | e
      · have := h2.1 k hk; omega
      · exact e⟩]
theorem vals_are : ∀ (ns : List Int) {us : List Value}, Vals (ns.map V.int) us → PyProof.Rows.IntsAre us ns := fun ns => by
  induction ns with
  | nil => intro us h; cases h; exact .nil
  | cons i is ih =>
    intro us h
    cases h with
    | cons a rest =>
      obtain ⟨t, rfl⟩ := a
      exact .cons i t (ih rest)
/-- set(xs) of a list or a tuple of ints -/
def rSetI (K : PySem.W.Frag) (w : World) : List V → Hp → VK → Prop := fun xs H Q => ∃ (a : Addr) (ns : List Int), xs = [V.ref a] ∧ (SqL K H a (ns.map V.int) ∨ SqT K H a (ns.map V.int)) ∧ ns.length ≤ 60 ∧
  ∀ (p : Addr) (n : Nat), H p = none → n ≤ ns.length → Q (.ref p) (upd H p (SetO w p (fun j => decide (j ∈ ns)) n))
section
variable {X : Cx} {W : Wd} {E : XK} {pos : Pos}
theorem cr_setI (hc : X.calm = true) : CallR X (.type "set") (rSetI X.K X.w) := by
  intro pins s σ H xs us Q I r h
  obtain ⟨a, ns, rfl, hq, hl, q⟩ := h
  rw [Vals.ref1 r]
  have fin : ∀ (hp : Heap) (tk c : Nat), SetR X.w hp s.heap.objs.size (fun j => decide (j ∈ ns)) c → c ≤ ns.length → (∀ b o, s.heap.get? b = some o → hp.get? b = some o) → _ := fun hp tk c hS hc2 hk =>
    (⟨.ref _, upd H s.heap.objs.size (SetO X.w s.heap.objs.size (fun j => decide (j ∈ ns)) c), I.laid (t' := tk) hk (Nat.le_refl _) (setO_new hS), rfl, q _ c (I.hok.fresh (Nat.le_refl _)) hc2⟩ : ∃ v H', Inv X pins σ H' { s with heap := hp, toks := tk } ∧ RelV v (.ref s.heap.objs.size) ∧ Q v H')
  rcases hq with hq | hq
  · obtain ⟨its, rv, pl, hz⟩ := I.list hq
    exact HT.set_of_list ns (I.ok.hd hc) pl.isList (by simpa using vals_are ns rv) (by unfold scanBound; omega) fin
  · obtain ⟨its, rv, pl, hz⟩ := I.tuple hq
    exact call_set_tupI ns (I.ok.hd hc) pl (by simpa using vals_are ns rv) (by unfold scanBound; omega) fin
/-- sorted(set(xs)) -/
def kSortSet (x : Vl) (st : Sto) : Res Vl := match (match x with | .tup xs => some xs | x => lstOf x st) with
  | some xs => (match intsOf xs with
    | some ns => if ns.length ≤ 60 then .ok (.lst ((dsort ns).map .int)) st else .bad
    | none => .bad)
  | none => .bad
theorem se_sortSet {a : Expr} {fa : FE} {p p2 q : Pos} (hc : X.calm = true) (ha : SB X W E a fa) (hg : Gl X "sorted") (hm : X.mg "sorted" = none) (hg2 : Gl X "set") (hm2 : X.mg "set" = none) (hn : notStar a = true) : SE X W E (.Call (.Name "sorted" p) [.Call (.Name "set" p2) [a] [] q] [] pos) (v1 kSortSet fa) := by
  have inner := pe_callTy (pos := q) (p := p2) (cr_setI hc) hg2 hm2 (by decide +kernel) (pa_cons ha pa_nil (notStar_ok hn)) (by decide) (by decide) (he := by rw [notStar_ok hn]) (hpl := noStars (by simp [hn]))
  refine pe_weak (pe_callB (cr_sortedSet hc) hg hm (by decide +kernel) (pa_cons inner pa_nil rfl) (by decide) (by decide)) ?_
  rintro σ H Q ⟨g, st, env, rel, rs, o⟩
  refine tB_bind rel rs o fun x st1 g1 H1 u e1 ee1 rel1 r1 o1 => ?_
  show rSetI X.K X.w [u] H1 fun x H2 => rSortedSet X.w [x] H2 Q
  have go : ∀ (ns : List Int) (c : Addr), u = .ref c → (SqL X.K H1 c (ns.map V.int) ∨ SqT X.K H1 c (ns.map V.int)) → ns.length ≤ 60 → Out W E g1 H1 (.ok (.lst ((dsort ns).map .int)) st1) (fun v g' x H' => ∀ (u : V), R W g' H' v u → Q u H') → rSetI X.K X.w [u] H1 fun x H2 => rSortedSet X.w [x] H2 Q := fun ns c hu hq hl o2 =>
    ⟨c, ns, by rw [hu], hq, hl, fun p n hp hn => ⟨p, _, n, rfl, upd_same, by omega, fun ns' p2 srt mem ln hp2 => by
      have e5 : ns' = dsort ns := lt_uniq srt (dsort_lt ns) fun k => by
        rw [mem k, dsort_mem]
        exact decide_eq_true_iff
      subst e5
      have rel2 := rel1.new (o := SetO X.w p (fun j => decide (j ∈ ns)) n) hp trivial
      have rel3 := rel2.new (o := .lst ((dsort ns).map V.int)) hp2 (by
        show ((dsort ns).map V.int).length ≤ _
        rw [List.length_map, ln, sizeLine_eq]
        omega)
      exact o2 g1 _ ((EE.new hp).trans (EE.new hp2)) rel3 _ ⟨p2, _, rfl, rel2.free hp2, upd_same, rs_ints _⟩⟩⟩
  unfold kSortSet at o1
  split at o1
  · rename_i xs hx
    split at o1
    · rename_i ns hn2
      split at o1
      · rename_i hl
        split at hx
        · cases hx
          obtain ⟨c, vs, e3, _, h1, r⟩ := rb_tup r1
          have ev := intsOf_ok _ r hn2
          subst ev
          exact go ns c e3 (.inr (SqT.of h1)) hl o1
        · obtain ⟨c, vs, e3, e4, r, _⟩ := lst_rd rel1 r1 hx
          have ev := intsOf_ok _ r hn2
          subst ev
          exact go ns c e3 (.inl (SqL.of e4)) hl o1
      · exact o1.elim
    · exact o1.elim
  · exact o1.elim
end
/-- dict([]) -/
theorem se_dctC {X : Cx} {W : Wd} {E : XK} {p q pos : Pos} (hc : X.calm = true) (hg : Gl X "dict") (hm : X.mg "dict" = none) : SE X W E (.Call (.Name "dict" p) [.List [] q] [] pos) (fC (.dct [] [])) := by
  refine pe_weak (pe_callTy (call_dictP hc) hg hm (by decide +kernel) (pa_cons (pe_lst pa_nil) pa_nil rfl) (by decide) (by decide)) ?_
  rintro σ H Q ⟨g, st, env, rel, rs, o⟩
  refine ⟨Nat.zero_le _, fun p0 hp0 => ⟨p0, [], [], rfl, SqL.of upd_same, .nil, fun p hp => ?_⟩⟩
  have rel2 := rel.new (o := .lst []) hp0 (Nat.zero_le _)
  have rel3 := rel2.new (o := .dK []) hp trivial
  exact o g _ ((EE.new hp0).trans (EE.new hp)) rel3 _ ⟨p, [], rfl, rel2.free hp, upd_same, rfl, Rs.nil⟩
end TW
set_option maxHeartbeats 1600000
namespace TW
open PySem PySem.Spec L2
inductive Op2 where
  | add | sub | mul | fdiv | mod | pow | shl | shr | and_ | or_
def opOf : Operator → Option Op2
  | .Add => some .add | .Sub => some .sub | .Mult => some .mul | .FloorDiv => some .fdiv | .Mod => some .mod | .Pow => some .pow | .LShift => some .shl | .RShift => some .shr | .BitAnd => some .and_ | .BitOr => some .or_
  | _ => none
def opK : Op2 → Vl → Vl → Sto → Res Vl
  | .add => kAdd
  | .sub => ints2 cT (· - ·)
  | .mul => kMul
  | .fdiv => ints2 cDiv (· / ·)
  | .mod => ints2 cMod (· % ·)
  | .pow => ints2 cPow (fun i j => i ^ j.toNat)
  | .shl => ints2 cPow (fun i j => i * 2 ^ j.toNat)
  | .shr => ints2 cShr (fun i j => i / 2 ^ j.toNat)
  | .and_ => ints2 cT Builtin.bitAnd
  | .or_ => ints2 cT Builtin.bitOr
inductive Cm where
  | lt | le | gt | ge | eq | ne | is_ | isnot | inD | notinD | inS | notinS | inX | notinX
def cmAst : Cm → CmpOp
  | .lt => .Lt | .le => .LtE | .gt => .Gt | .ge => .GtE | .eq => .Eq | .ne => .NotEq | .is_ => .Is | .isnot => .IsNot | .inD => .In | .notinD => .NotIn | .inS => .In | .notinS => .NotIn | .inX => .In | .notinX => .NotIn
def cmK : Cm → Vl → Vl → Sto → Option Bool
  | .lt => kLt
  | .le => kInts fun i j => decide (i ≤ j)
  | .gt => kInts fun i j => decide (j < i)
  | .ge => kInts fun i j => decide (j ≤ i)
  | .eq => kEq
  | .ne => kNe
  | .is_ => kIs
  | .isnot => kIsNot
  | .inD => kIn false
  | .notinD => kIn true
  | .inS => kInS false
  | .notinS => kInS true
  | .inX => kInX false
  | .notinX => kInX true
inductive B1 where
  | len | abs | int | tuple | all | any | sum | sorted | min1 | max1
def b1Name : B1 → Str
  | .len => "len" | .abs => "abs" | .int => "int" | .tuple => "tuple" | .all => "all" | .any => "any" | .sum => "sum" | .sorted => "sorted" | .min1 => "min" | .max1 => "max"
def b1K : B1 → Vl → Sto → Res Vl
  | .len => kLen | .abs => kAbs | .int => kInt | .tuple => kTuple | .all => kAll | .any => kAny | .sum => kSum | .sorted => kSorted | .min1 => kMin1 | .max1 => kMax1
inductive B2 where
  | max | min | dm
def b2Name : B2 → Str
  | .max => "max" | .min => "min" | .dm => "divmod"
def b2K : B2 → Vl → Vl → Sto → Res Vl
  | .max => kMax | .min => kMin | .dm => kDm
inductive Tgt where
  | n (i : Nat) | t (is : List Nat) | u (is : List Nat)
def Tgt.set : Tgt → Vl → Ev → Option Ev
  | .n i => gN i
  | .t is => gT is
  | .u is => gU is
def Tgt.is : Tgt → List Nat
  | .n i => [i]
  | .t is => is
  | .u is => is
mutual
inductive Ex where
  | v (i : Nat) | b (i : Nat) | k (c : Vl) | g (i : Int)
  | bin (o : Op2) (x y : Ex) | neg (x : Ex) | cmp (o : Cm) (x y : Ex) | chn (o p : Cm) (x y z : Ex)
  | nt (x : Ex) | an (x y : Ex) | or (x y : Ex) | one (x : Ex) | ife (c : Tx) (x y : Ex)
  | ix (x y : Ex) | dix (x y : Ex) | sl (x : Ex) (lo hi : Ox)
  | tup (a : Ax) | lst (l : Lx) | cell (l : Lx) | dct (t : Tgt) (s : Sx) (q : Qx) (k v : Ex) (vs : List Nat)
  | fld (f : Str) (x : Ex) | sfld (i : Nat) (f : Str)
  | b1 (o : B1) (x : Ex) | b2 (o : B2) (x y : Ex) | isi (ts : List Tg) (x : Ex)
  | call (j : Nat) (a : Ax) | callK (j : Nat) (perm : List Nat) (a k : Ax) | make (c : Nat) (a : Ax) | makeK (c : Nat) (pv : List Nat) (k : Ax)
  | get (x y : Ex) | getD (x y z : Ex) | cellD | rev (x : Ex) | sset (x : Ex) | minD (x z : Ex) | dct0 | tr1 (x : Ex) | tr2 (x y : Ex) | own (x y : Ex) | ownN (x y : Ex)
inductive Tx where
  | tr (x : Ex) | not (t : Tx) | cmp (o : Cm) (x y : Ex) | chn (o p : Cm) (x y z : Ex) | an (x y : Tx) | or (x y : Tx) | one (x : Tx)
inductive Ox where
  | no | so (x : Ex)
inductive Qx where
  | no | so (t : Tx)
inductive Ax where
  | nil | cons (x : Ex) (a : Ax)
inductive Lx where
  | disp (a : Ax) | cat (x y : Ex) | rep (x y : Ex) | of (x : Ex) | rg1 (x : Ex) | comp (t : Tgt) (s : Sx) (q : Qx) (e : Ex) (vs : List Nat)
  | comp2 (t : Tgt) (s : Sx) (q : Qx) (t1 : Tgt) (s1 : Sx) (q1 : Qx) (e : Ex) (vs vs1 : List Nat)
inductive Sx where
  | seq (x : Ex) | r1 (x : Ex) | r2 (x y : Ex) | rD (x y : Ex) | zip (x y : Ex)
end
/-- what the defs compute -/
structure Pr where
  F : Nat → Fn
  I : Nat → Fi
  Q : Nat → Fn
  flds : Nat → List Str
  xfl : Nat → List Str
  ncls : Nat
  nexc : Nat
  xs : Nat → Nat → Bool
def tYesF : FT := fun _ st => .ok true st
mutual
def ev (P : Pr) : Ex → FE
  | .v i => fVar i
  | .b i => fBor i
  | .k c => fC c
  | .g i => fC (.int i)
  | .bin o x y => f2 (ev P x) (ev P y) (opK o)
  | .neg x => vNeg (ev P x)
  | .cmp o x y => fB (fCmp (cmK o) (ev P x) (ev P y))
  | .chn o p x y z => fB (fChain (cmK o) (cmK p) (ev P x) (ev P y) (ev P z))
  | .nt x => vNotF (ev P x)
  | .an x y => vAndF (ev P x) (ev P y)
  | .or x y => vOrF (ev P x) (ev P y)
  | .one x => ev P x
  | .ife c x y => vIf (evT P c) (ev P x) (ev P y)
  | .ix x y => f2 (ev P x) (ev P y) kIx
  | .dix x y => f2 (ev P x) (ev P y) kGetIx
  | .sl x lo hi => vSl (ev P x) (evO P lo) (evO P hi)
  | .tup a => vTup (fArgs (evA P a))
  | .lst l => vLst (evL P l)
  | .cell l => vCell (evL P l)
  | .dct t s q k v vs => vDct (dComp (evS P s) t.set (evQ P q) (ev P k) (ev P v) vs)
  | .fld f x => vFld P.flds f (ev P x)
  | .sfld i f => vSFld P.flds i f
  | .b1 o x => v1 (b1K o) (ev P x)
  | .b2 o x y => f2 (ev P x) (ev P y) (b2K o)
  | .isi ts x => vIsi P.ncls ts (ev P x)
  | .call j a => vCall (P.F j) (fArgs (evA P a))
  | .callK j perm a k => vCallK (P.F j) (fArgs (evA P a)) (fArgs (evA P k)) perm
  | .make c a => vMake c (P.I c) (fArgs (evA P a))
  | .makeK c pv k => vMake c (P.I c) (fPerm pv (fArgs (evA P k)))
  | .get x y => vGet (ev P x) (ev P y)
  | .getD x y z => vGetD (ev P x) (ev P y) (ev P z)
  | .cellD => vCellD
  | .minD x z => vMinD (ev P x) (ev P z)
  | .rev x => v1 kRev (ev P x)
  | .sset x => v1 kSortSet (ev P x)
  | .dct0 => fC (.dct [] [])
  | .tr1 x => v1 kTupRg1 (ev P x)
  | .tr2 x y => f2 (ev P x) (ev P y) kTupRg
  | .own x y => f2 (ev P x) (ev P y) (kOwn P.ncls P.Q)
  | .ownN x y => f2 (ev P x) (ev P y) (kOwnN P.ncls P.Q)
def evT (P : Pr) : Tx → FT
  | .tr x => tTru (ev P x)
  | .not t => tNotF (evT P t)
  | .cmp o x y => fCmp (cmK o) (ev P x) (ev P y)
  | .chn o p x y z => fChain (cmK o) (cmK p) (ev P x) (ev P y) (ev P z)
  | .an x y => tAndF (evT P x) (evT P y)
  | .or x y => tOrF (evT P x) (evT P y)
  | .one x => evT P x
def evO (P : Pr) : Ox → Option FE
  | .no => none
  | .so x => some (ev P x)
def evQ (P : Pr) : Qx → FT
  | .no => tYesF
  | .so t => evT P t
def evA (P : Pr) : Ax → List FE
  | .nil => []
  | .cons x a => ev P x :: evA P a
def evL (P : Pr) : Lx → FA
  | .disp a => fArgs (evA P a)
  | .cat x y => lCat (ev P x) (ev P y)
  | .rep x y => lRep (ev P x) (ev P y)
  | .of x => lOf (ev P x)
  | .rg1 x => lRg1 (ev P x)
  | .comp t s q e vs => lComp (evS P s) t.set (evQ P q) (ev P e) vs
  | .comp2 t s q t1 s1 q1 e vs vs1 => lComp2 (evS P s) t.set (evQ P q) (evS P s1) t1.set (evQ P q1) (ev P e) vs vs1
def evS (P : Pr) : Sx → FS
  | .seq x => wSeq (ev P x)
  | .r1 x => wRng1 (ev P x)
  | .r2 x y => wRng2 (ev P x) (ev P y)
  | .rD x y => wRngD (ev P x) (ev P y)
  | .zip x y => wZip (ev P x) (ev P y)
end
end TW
set_option maxHeartbeats 3200000
namespace TW
open PySem PySem.Spec L2
/-- what of the law's top is known -/
structure Tb where
  free : List Str
  cst : List (Str × Int)
  cls : List (Str × Nat)
  ncls : Nat
  exc : List (Str × Nat)
  nexc : Nat
  xs : Nat → Nat → Bool
  fns : List (Str × Nat)
  kws : List (Nat × Kw)
  mks : List (Str × Nat)
  ikws : List (Nat × Kw)
  flds : List Str
  own : Bool
  xfl : Nat → List Str
structure Cc where
  N : List Str
  sc : Scope
  cel : Str → Bool
def Cc.blk (c : Cc) (scope : Scope) : Cc := ⟨c.N, relS scope c.sc, fun x => scope.names.lookup x == some .cell⟩
def isDbg (x : Str) : Bool := (x == ("__debug__" : Str)) || (x == ("__classdict__" : Str))
def glB (c : Cc) (x : Str) : Bool := decide (c.sc.names.lookup x = some .globalImplicit) && !isDbg x
def frB (T : Tb) (c : Cc) (x : Str) : Bool := glB c x && decide (x ∈ T.free)
def visB (sc : Scope) (x : Str) : Bool := match sc.names.lookup x with
  | some .local => true
  | some .cell => true
  | some .free => true
  | _ => false
def varB (c : Cc) (i : Nat) (x : Str) : Bool := decide (c.N[i]? = some x) && visB c.sc x && !isDbg x
def stoB (c : Cc) (i : Nat) (x : Str) : Bool := decide (c.N[i]? = some x) && (match c.sc.names.lookup x with
  | some .local => true
  | some .cell => c.cel x
  | _ => false)
def stosB (c : Cc) : List Nat → List Expr → Bool
  | [], [] => true
  | i :: is, .Name x _ :: es => stoB c i x && stosB c is es
  | _, _ => false
def tgtB (c : Cc) : Tgt → Expr → Bool
  | .n i, .Name x _ => stoB c i x
  | .t is, .Tuple es _ _ => stosB c is es
  | .u is, .Tuple es _ _ => stosB c is es
  | _, _ => false
def ownV (N : List Str) (vs : List Nat) : List (Str × Nat) := vs.map fun i => ((N[i]?).getD Str.empty, i)
theorem ownV_snd {N : List Str} {vs : List Nat} : (ownV N vs).map (·.2) = vs := by
  unfold ownV
  rw [List.map_map]
  exact List.map_id' vs
def subB (is vs : List Nat) : Bool := is.all fun i => decide (i ∈ vs)
def clsB (T : Tb) (c : Cc) : Tg → Expr → Bool
  | .int, .Name x _ => decide (x = ("int" : Str)) && frB T c x
  | .bool, .Name x _ => decide (x = ("bool" : Str)) && frB T c x
  | .str, .Name x _ => decide (x = ("str" : Str)) && frB T c x
  | .list, .Name x _ => decide (x = ("list" : Str)) && frB T c x
  | .tuple, .Name x _ => decide (x = ("tuple" : Str)) && frB T c x
  | .dict, .Name x _ => decide (x = ("dict" : Str)) && frB T c x
  | .cls n, .Name x _ => decide (T.cls.lookup x = some n) && decide (n < T.ncls) && glB c x
  | _, _ => false
def clssB (T : Tb) (c : Cc) : List Tg → List Expr → Bool
  | [], [] => true
  | t :: ts, e :: es => clsB T c t e && clssB T c ts es
  | _, _ => false
def isiB (T : Tb) (c : Cc) (ts : List Tg) : Expr → Bool
  | .Tuple es _ _ => clssB T c ts es && decide (ts.length ≤ 1000)
  | d => (match ts with
    | [t] => clsB T c t d
    | _ => false)
def Ax.len : Ax → Nat
  | .nil => 0
  | .cons _ a => a.len + 1
def opIs : Op2 → Operator → Bool
  | .add, .Add => true
  | .sub, .Sub => true
  | .mul, .Mult => true
  | .fdiv, .FloorDiv => true
  | .mod, .Mod => true
  | .pow, .Pow => true
  | .shl, .LShift => true
  | .shr, .RShift => true
  | .and_, .BitAnd => true
  | .or_, .BitOr => true
  | _, _ => false
def boolTx : Tx → Bool
  | .an _ _ => true
  | .or _ _ => true
  | .one _ => true
  | _ => false
mutual
def chkE (T : Tb) (c : Cc) (bor : Bool) : Ex → Expr → Bool
  | .v i, e => (match e with | .Name x _ => varB c i x | _ => false)
  | .b i, e => bor && (match e with | .Name x _ => varB c i x | _ => false)
  | .k v, e => cstB v e
  | .g i, e => (match e with | .Name x _ => decide (T.cst.lookup x = some i) && glB c x | _ => false)
  | .bin o x y, e => (match e with | .BinOp a p b _ => opIs o p && chkE T c true x a && chkE T c true y b | _ => false)
  | .neg x, e => (match e with | .UnaryOp .USub a _ => chkE T c true x a | _ => false)
  | .cmp o x y, e => (match e with | .Compare a [p] [b] _ => decide (cmAst o = p) && notSet b && chkE T c true x a && chkE T c true y b | _ => false)
  | .chn o p x y z, e => (match e with | .Compare a [q, r] [b, d] _ => decide (cmAst o = q) && decide (cmAst p = r) && notSet d && chkE T c true x a && chkE T c true y b && chkE T c true z d | _ => false)
  | .nt x, e => (match e with | .UnaryOp .Not a _ => chkE T c true x a | _ => false)
  | .an x y, e => (match e with | .BoolOp .And (a :: b :: r) p => chkE T c false x a && chkE T c false y (.BoolOp .And (b :: r) p) | _ => false)
  | .or x y, e => (match e with | .BoolOp .Or (a :: b :: r) p => chkE T c false x a && chkE T c false y (.BoolOp .Or (b :: r) p) | _ => false)
  | .one x, e => (match e with | .BoolOp _ [a] _ => chkE T c false x a | _ => false)
  | .ife t x y, e => (match e with | .IfExp d a b _ => chkT T c t d && chkE T c false x a && chkE T c false y b | _ => false)
  | .ix x y, e => (match e with | .Subscript a b _ => notSlice b && chkE T c true x a && chkE T c true y b | _ => false)
  | .dix x y, e => (match e with | .Subscript a b _ => notSlice b && chkE T c true x a && chkE T c true y b | _ => false)
  | .sl x lo hi, e => (match e with | .Subscript a (.Slice l h none _) _ => chkE T c true x a && chkO T c lo l && chkO T c hi h | _ => false)
  | .tup a, e => (match e with | .Tuple es _ _ => chkA T c a es && decide (a.len ≤ 1000) | _ => false)
  | .lst l, e => chkL T c l e
  | .cell l, e => chkL T c l e
  | .dct t s q k v vs, e => (match e with | .DictComp kx vx [⟨tg, it, ifs, a⟩] scope _ => decide (a = 0) && notSet it && chkS T c s tg it && blkC c.N c.sc scope (ownV c.N vs) && subB t.is vs && tgtB (c.blk scope) t tg && chkQ T (c.blk scope) q ifs && chkE T (c.blk scope) false k kx && chkE T (c.blk scope) false v vx | _ => false)
  | .fld f x, e => (match e with | .Attribute a g _ => decide (f = g) && decide (f ∈ T.flds) && noSuper a && chkE T c true x a | _ => false)
  | .sfld i f, e => (match e with | .Attribute (.Name x _) g _ => decide (f = g) && decide (f ∈ T.flds) && varB c i x | _ => false)
  | .b1 o x, e => (match e with | .Call (.Name n _) [a] [] _ => decide (n = b1Name o) && frB T c n && notStar a && chkE T c true x a | _ => false)
  | .b2 o x y, e => (match e with | .Call (.Name n _) [a, b] [] _ => decide (n = b2Name o) && frB T c n && notStar a && notStar b && chkE T c true x a && chkE T c true y b | _ => false)
  | .isi ts x, e => (match e with
    | .Call (.Name n _) [a, d] [] _ => decide (n = ("isinstance" : Str)) && frB T c n && notStar a && chkE T c true x a && isiB T c ts d
    | _ => false)
  | .call j a, e => (match e with | .Call (.Name n _) es [] _ => decide (T.fns[j]? = some (n, a.len)) && glB c n && es.all notStar && chkA T c a es | _ => false)
  | .callK j perm a k, e => (match e with | .Call (.Name n _) es kws _ => glB c n && es.all notStar && chkA T c a es && chkK T c k kws && (T.kws.any fun p => decide (p.1 = j) && decide (p.2.perm = perm) && decide (p.2.n = a.len) && decide (k.len = p.2.ks.length) && namedAs kws p.2.ks && decide (T.fns[j]? = some (n, perm.length)) && (perm.all fun i => decide (i < a.len + k.len))) | _ => false)
  | .make d a, e => (match e with | .Call (.Name n _) es [] _ => decide (T.mks[d]? = some (n, a.len)) && glB c n && es.all notStar && chkA T c a es && decide (0 < a.len) | _ => false)
  | .makeK d pv k, e => (match e with | .Call (.Name n _) [] kws _ => glB c n && chkK T c k kws && (T.ikws.any fun p => decide (p.1 = d) && decide (p.2.n = 1) && decide (p.2.perm = 0 :: pv.map (· + 1)) && decide (k.len = p.2.ks.length) && namedAs kws p.2.ks && decide (T.mks[d]? = some (n, pv.length)) && (pv.all fun i => decide (i < k.len))) | _ => false)
  | .get x y, e => (match e with | .Call (.Attribute a m p) [b] [] q => decide (m = ("get" : Str)) && noSuper a && notStar b && decide ((p.endLine == q.line) = true) && chkE T c true x a && chkE T c true y b | _ => false)
  | .getD x y z, e => (match e with | .Call (.Attribute a m p) [b, d] [] q => decide (m = ("get" : Str)) && noSuper a && notStar b && notStar d && decide ((p.endLine == q.line) = true) && chkE T c true x a && chkE T c true y b && chkE T c false z d | _ => false)
  | .minD x z, e => (match e with | .Call (.Name n _) [a] [⟨some k, b, _⟩] _ => decide (n = ("min" : Str)) && decide (k = ("default" : Str)) && frB T c n && notStar a && chkE T c false x a && chkE T c false z b | _ => false)
  | .cellD, e => (match e with | .Dict [] [] _ => true | _ => false)
  | .rev x, e => (match e with | .Subscript a (.Slice none none (some (.UnaryOp .USub (.Constant (.int n) _ _) _)) _) _ => decide (n = 1) && chkE T c true x a | _ => false)
  | .dct0, e => (match e with | .Dict [] [] _ => true | .Call (.Name n _) [.List [] _] [] _ => decide (n = ("dict" : Str)) && frB T c n | _ => false)
  | .sset x, e => (match e with | .Call (.Name n _) [.Call (.Name m _) [a] [] _] [] _ => decide (n = ("sorted" : Str)) && decide (m = ("set" : Str)) && frB T c n && frB T c m && notStar a && chkE T c true x a | _ => false)
  | .tr1 x, e => (match e with | .Call (.Name n _) [.Call (.Name m _) [a] [] _] [] _ => decide (n = ("tuple" : Str)) && decide (m = ("range" : Str)) && frB T c n && frB T c m && notStar a && chkE T c true x a | _ => false)
  | .tr2 x y, e => (match e with | .Call (.Name n _) [.Call (.Name m _) [a, b] [] _] [] _ => decide (n = ("tuple" : Str)) && decide (m = ("range" : Str)) && frB T c n && frB T c m && notStar a && notStar b && chkE T c true x a && chkE T c true y b | _ => false)
  | .own x y, e => (match e with | .Compare a [.Eq] [b] _ => T.own && notSet b && chkE T c false x a && chkE T c false y b | _ => false)
  | .ownN x y, e => (match e with | .Compare a [.NotEq] [b] _ => T.own && notSet b && chkE T c false x a && chkE T c false y b | _ => false)
def chkT (T : Tb) (c : Cc) : Tx → Expr → Bool
  | .tr x, e => plainTest e && chkE T c true x e
  | .not t, e => (match e with | .UnaryOp .Not a _ => chkT T c t a | _ => false)
  | .cmp o x y, e => (match e with | .Compare a [p] [b] _ => decide (cmAst o = p) && notSet b && chkE T c true x a && chkE T c true y b | _ => false)
  | .chn o p x y z, e => (match e with | .Compare a [q, r] [b, d] _ => decide (cmAst o = q) && decide (cmAst p = r) && notSet d && chkE T c true x a && chkE T c true y b && chkE T c true z d | _ => false)
  | .an x y, e => (match e with | .BoolOp .And (a :: b :: r) p => chkT T c x a && boolTx y && chkT T c y (.BoolOp .And (b :: r) p) | _ => false)
  | .or x y, e => (match e with | .BoolOp .Or (a :: b :: r) p => chkT T c x a && boolTx y && chkT T c y (.BoolOp .Or (b :: r) p) | _ => false)
  | .one x, e => (match e with | .BoolOp _ [a] _ => chkT T c x a | _ => false)
def chkO (T : Tb) (c : Cc) : Ox → Option Expr → Bool
  | .no, e => (match e with | none => true | _ => false)
  | .so x, e => (match e with | some a => chkE T c true x a | _ => false)
def chkQ (T : Tb) (c : Cc) : Qx → List Expr → Bool
  | .no, e => (match e with | [] => true | _ => false)
  | .so x, e => (match e with | [a] => chkT T c x a | _ => false)
def chkA (T : Tb) (c : Cc) : Ax → List Expr → Bool
  | .nil, e => (match e with | [] => true | _ => false)
  | .cons x a, e => (match e with | b :: r => notStar b && chkE T c false x b && chkA T c a r | _ => false)
def chkK (T : Tb) (c : Cc) : Ax → List Keyword → Bool
  | .nil, e => (match e with | [] => true | _ => false)
  | .cons x a, e => (match e with | ⟨_, b, _⟩ :: r => chkE T c false x b && chkK T c a r | _ => false)
def chkL (T : Tb) (c : Cc) : Lx → Expr → Bool
  | .disp a, e => (match e with | .List es _ => chkA T c a es && decide (a.len ≤ 1000) | _ => false)
  | .cat x y, e => (match e with | .BinOp a .Add b _ => chkE T c true x a && chkE T c true y b | _ => false)
  | .rep x y, e => (match e with | .BinOp a .Mult b _ => chkE T c true x a && chkE T c true y b | _ => false)
  | .of x, e => (match e with | .Call (.Name n _) [a] [] _ => decide (n = ("list" : Str)) && frB T c n && notStar a && chkE T c true x a | _ => false)
  | .rg1 x, e => (match e with | .Call (.Name n _) [.Call (.Name m _) [a] [] _] [] _ => decide (n = ("list" : Str)) && decide (m = ("range" : Str)) && frB T c n && frB T c m && notStar a && chkE T c true x a | _ => false)
  | .comp t s q el vs, e => (match e with | .ListComp ex [⟨tg, it, ifs, a⟩] scope _ => decide (a = 0) && notSet it && chkS T c s tg it && blkC c.N c.sc scope (ownV c.N vs) && subB t.is vs && tgtB (c.blk scope) t tg && chkQ T (c.blk scope) q ifs && chkE T (c.blk scope) false el ex | _ => false)
  | .comp2 t s q t1 s1 q1 el vs vs1, e => (match e with | .ListComp ex [⟨tg, it, ifs, a⟩, ⟨tg1, it1, ifs1, a1⟩] scope _ => decide (a = 0) && decide (a1 = 0) && notSet it && notSet it1 && chkS T c s tg it && blkC c.N c.sc scope (ownV c.N vs) && subB vs1 vs && subB t.is vs && subB t1.is vs1 && tgtB (c.blk scope) t tg && chkQ T (c.blk scope) q ifs && chkS T (c.blk scope) s1 tg1 it1 && tgtB (c.blk scope) t1 tg1 && chkQ T (c.blk scope) q1 ifs1 && chkE T (c.blk scope) false el ex | _ => false)
def chkS (T : Tb) (c : Cc) : Sx → Expr → Expr → Bool
  | .seq x, _, e => chkE T c false x e
  | .r1 x, _, e => (match e with | .Call (.Name n _) [a] [] _ => decide (n = ("range" : Str)) && frB T c n && notStar a && chkE T c true x a | _ => false)
  | .r2 x y, _, e => (match e with | .Call (.Name n _) [a, b] [] _ => decide (n = ("range" : Str)) && frB T c n && notStar a && notStar b && chkE T c true x a && chkE T c true y b | _ => false)
  | .rD x y, _, e => (match e with | .Call (.Name n _) [a, b, .UnaryOp .USub (.Constant (.int m) _ _) _] [] _ => decide (m = 1) && decide (n = ("range" : Str)) && frB T c n && notStar a && notStar b && chkE T c true x a && chkE T c true y b | _ => false)
  | .zip x y, tg, e => (match tg with | .Tuple _ _ _ => (match e with | .Call (.Name n _) [a, b] [] _ => decide (n = ("zip" : Str)) && frB T c n && notStar a && notStar b && chkE T c false x a && chkE T c false y b | _ => false) | _ => false)
end
end TW
set_option maxHeartbeats 6400000
namespace TW
open PySem PySem.Spec L2
def clsTags (n : Nat) : List Tg := [.int, .bool, .str, .list, .tuple, .dict] ++ (List.range n).map .cls
/-- what is known of the top -/
structure Top (P : Pr) (T : Tb) (X : Cx) (W : Wd) : Prop where
  free : ∀ x ∈ T.free, X.mg x = none
  cst : ∀ x i, T.cst.lookup x = some i → ∃ t, X.mg x = some (.int i t)
  cls : ∀ x n, T.cls.lookup x = some n → X.mg x = some (.ref (W.cls n))
  fns : ∀ j n a, T.fns[j]? = some (n, a) → CallOk X W n a (P.F j)
  kws : ∀ p ∈ T.kws, ∀ n a, T.fns[p.1]? = some (n, a) → CallOkK X W n a (P.F p.1) p.2
  mks : ∀ d n a, T.mks[d]? = some (n, a) → MakeOk X W n d a (P.I d)
  ikws : ∀ p ∈ T.ikws, ∀ n a, T.mks[p.1]? = some (n, a) → MakeOkK X W n p.1 a (P.I p.1) p.2
  flds : ∀ f ∈ T.flds, FldOk X W f
  inst : ∀ c, c < T.ncls → InsT X.K (W.cls c)
  kit : ∀ s ∈ srcTags T.ncls, ∀ t ∈ clsTags T.ncls, KitOk X W s t
  own : T.own = true → ∀ c, c < T.ncls → OwnOk X W T.ncls c (P.Q c)
  hu : X.A.units + 65 < cLine
  calm : X.calm = true
structure Same (P : Pr) (T : Tb) (W : Wd) : Prop where
  ncls : P.ncls = T.ncls
  flds : P.flds = W.flds
  xfl : P.xfl = W.xfl
  txf : T.xfl = W.xfl
  nexc : P.nexc = T.nexc
  xs : P.xs = T.xs
structure Fit (P : Pr) (T : Tb) (X : Cx) (W : Wd) (E : XK) (c : Cc) : Prop where
  top : Top P T X W
  same : Same P T W
  hN : X.N = c.N
  nd : c.N.Nodup
  sc : X.env.scope = c.sc
  cel : ∀ x, c.cel x = true → X.fn x = true
  pass : Passes (L2.CX X.prog X.w) X E
theorem Fit.blk {P : Pr} {T : Tb} {X : Cx} {W : Wd} {E : XK} {c : Cc} (f : Fit P T X W E c) (scope : Scope) : InBlk X scope fun Y => Fit P T Y W E0 (c.blk scope) := fun s H C cl fp =>
  ⟨⟨f.top.free, f.top.cst, f.top.cls, fun j n a h => ⟨(f.top.fns j n a h).ex⟩, fun p hp n a h => ⟨(f.top.kws p hp n a h).ex⟩, fun d n a h => ⟨(f.top.mks d n a h).ex⟩, fun p hp n a h => ⟨(f.top.ikws p hp n a h).ex⟩, f.top.flds, f.top.inst, f.top.kit, fun ho c hc => ⟨(f.top.own ho c hc).ex, (f.top.own ho c hc).nf, (f.top.own ho c hc).ne, (f.top.own ho c hc).ob⟩, f.top.hu, f.top.calm⟩,
    f.same, f.hN, f.nd, by rw [show (Cc.blk c scope).sc = relS scope c.sc from rfl, ← f.sc] <;> rfl, fun x h => h, passes_call takes_none5 fun _ _ _ _ z => z⟩
section
variable {P : Pr} {T : Tb} {X : Cx} {W : Wd} {E : XK} {c : Cc}
theorem dbg_ok {x : Str} (h : (!isDbg x) = true) : (x == ("__debug__" : Str)) = false ∧ (x == ("__classdict__" : Str)) = false := by
  simpa [isDbg, Bool.or_eq_false_iff] using h
theorem gl_ok (f : Fit P T X W E c) {x : Str} (h : glB c x = true) : Gl X x ∧ (x == ("__debug__" : Str)) = false := by
  simp only [glB, Bool.and_eq_true, decide_eq_true_eq] at h
  exact ⟨by show X.env.scope.names.lookup x = _; rw [f.sc]; exact h.1, (dbg_ok h.2).1⟩
theorem fr_ok (f : Fit P T X W E c) {x : Str} (h : frB T c x = true) : Gl X x ∧ X.mg x = none := by
  simp only [frB, Bool.and_eq_true, decide_eq_true_eq] at h
  exact ⟨(gl_ok f h.1).1, f.top.free x h.2⟩
theorem var_ok (f : Fit P T X W E c) {i : Nat} {x : Str} (h : varB c i x = true) : X.N[i]? = some x ∧ Vis X.env.scope x ∧ (x == ("__debug__" : Str)) = false ∧ (x == ("__classdict__" : Str)) = false := by
  simp only [varB, Bool.and_eq_true, decide_eq_true_eq] at h
  obtain ⟨⟨h1, h2⟩, h3⟩ := h
  refine ⟨by rw [f.hN]; exact h1, ?_, dbg_ok h3⟩
  rw [f.sc]
  unfold visB at h2
  split at h2
  · rename_i e; exact .inl e
  · rename_i e; exact .inr (.inl e)
  · rename_i e; exact .inr (.inr e)
  · cases h2
theorem sto_ok (f : Fit P T X W E c) {i : Nat} {x : Str} (h : stoB c i x = true) : NmOk X x i := by
  simp only [stoB, Bool.and_eq_true, decide_eq_true_eq] at h
  obtain ⟨h1, h2⟩ := h
  split at h2
  · rename_i e
    exact ⟨by rw [f.hN]; exact h1, by rw [f.sc]; exact .inl e, by rw [f.sc]; exact .inr e⟩
  · rename_i e
    exact ⟨by rw [f.hN]; exact h1, by rw [f.sc]; exact .inr e, .inl (f.cel x h2)⟩
  · cases h2
theorem stos_ok (f : Fit P T X W E c) : ∀ {is : List Nat} {es : List Expr}, stosB c is es = true → NmsOk X es is := by
  intro is
  induction is with
  | nil =>
    intro es h
    cases es with
    | nil => exact .nil
    | cons _ _ => cases h
  | cons i is ih =>
    intro es h
    cases es with
    | nil => cases h
    | cons e es =>
      cases e with
      | Name x p =>
        simp only [stosB, Bool.and_eq_true] at h
        exact .cons (sto_ok f h.1) (ih h.2)
      | _ => cases h
theorem tgt_ok (f : Fit P T X W E c) {t : Tgt} {e : Expr} (h : tgtB c t e = true) : SG X W t.is e t.set := by
  have nd : X.N.Nodup := f.hN ▸ f.nd
  unfold tgtB at h
  split at h
  · exact sg_name nd (sto_ok f h)
  · exact sg_tup f.top.calm nd (stos_ok f h)
  · exact sg_unp f.top.calm nd (stos_ok f h)
  · cases h
theorem sub_ok {is vs : List Nat} (h : subB is vs = true) : ∀ i ∈ is, i ∈ vs := fun i hi => of_decide_eq_true (List.all_eq_true.mp h i hi)
theorem cls_ok (f : Fit P T X W E c) {t : Tg} {e : Expr} (h : clsB T c t e = true) : ClsE X W e t ∧ t ∈ clsTags T.ncls := by
  unfold clsB at h
  split at h
  all_goals first
    | (simp only [Bool.and_eq_true, decide_eq_true_eq] at h)
    | cases h
  · obtain ⟨rfl, h2⟩ := h
    obtain ⟨g, m⟩ := fr_ok f h2
    exact ⟨⟨.ty "int", pe_bltn g m PyProof.Rows.boot_int rfl, .ty _, rfl⟩, by simp [clsTags]⟩
  · obtain ⟨rfl, h2⟩ := h
    obtain ⟨g, m⟩ := fr_ok f h2
    exact ⟨⟨.ty "bool", pe_bltn g m PyProof.Rows.boot_bool rfl, .ty _, rfl⟩, by simp [clsTags]⟩
  · obtain ⟨rfl, h2⟩ := h
    obtain ⟨g, m⟩ := fr_ok f h2
    exact ⟨⟨.ty "str", pe_bltn g m PyProof.Rows.boot_str rfl, .ty _, rfl⟩, by simp [clsTags]⟩
  · obtain ⟨rfl, h2⟩ := h
    obtain ⟨g, m⟩ := fr_ok f h2
    exact ⟨⟨.ty "list", pe_bltn g m PyProof.Rows.boot_list rfl, .ty _, rfl⟩, by simp [clsTags]⟩
  · obtain ⟨rfl, h2⟩ := h
    obtain ⟨g, m⟩ := fr_ok f h2
    exact ⟨⟨.ty "tuple", pe_bltn g m PyProof.Rows.boot_tuple rfl, .ty _, rfl⟩, by simp [clsTags]⟩
  · obtain ⟨rfl, h2⟩ := h
    obtain ⟨g, m⟩ := fr_ok f h2
    exact ⟨⟨.ty "dict", pe_bltn g m PyProof.Rows.boot_dict rfl, .ty _, rfl⟩, by simp [clsTags]⟩
  · obtain ⟨⟨h1, h2⟩, h3⟩ := h
    obtain ⟨g, d⟩ := gl_ok f h3
    refine ⟨⟨.ref (W.cls _), pe_glob g (f.top.cls _ _ h1) rfl d, .own _, rfl⟩, ?_⟩
    exact List.mem_append_right _ (List.mem_map.mpr ⟨_, List.mem_range.mpr h2, rfl⟩)
theorem clss_ok (f : Fit P T X W E c) : ∀ {ts : List Tg} {es : List Expr}, clssB T c ts es = true → ClsEs X W es ts ∧ ∀ t ∈ ts, t ∈ clsTags T.ncls := by
  intro ts
  induction ts with
  | nil =>
    intro es h
    cases es with
    | nil => exact ⟨.nil, fun _ h => by cases h⟩
    | cons _ _ => cases h
  | cons t ts ih =>
    intro es h
    cases es with
    | nil => cases h
    | cons e es =>
      simp only [clssB, Bool.and_eq_true] at h
      obtain ⟨a1, a2⟩ := cls_ok f h.1
      obtain ⟨b1, b2⟩ := ih h.2
      exact ⟨.cons a1 b1, fun t' ht => (List.mem_cons.mp ht).elim (fun e => by rw [e]; exact a2) (b2 t')⟩
theorem op_se {o : Op2} {op : Operator} {a b : Expr} {fa fb : FE} {pos : Pos} (h : opIs o op = true) (ha : SB X W E a fa) (hb : SB X W E b fb) : SE X W E (.BinOp a op b pos) (f2 fa fb (opK o)) := by
  unfold opIs at h
  split at h
  · exact se_add ha hb
  · exact se_sub ha hb
  · exact se_mul ha hb
  · exact se_fdiv ha hb
  · exact se_mod ha hb
  · exact se_pow ha hb
  · exact se_shl ha hb
  · exact se_shr ha hb
  · exact se_and_ ha hb
  · exact se_or_ ha hb
  · cases h
theorem cm_ok (hu : X.A.units + 65 < cLine) (o : Cm) : CmpR X W (cmAst o) (cmK o) := by
  cases o with
  | lt => exact ce_lt (by omega)
  | le => exact ce_le
  | gt => exact ce_gt
  | ge => exact ce_ge
  | eq => exact ce_eq (by omega)
  | ne => exact ce_ne (by omega)
  | is_ => exact ce_is
  | isnot => exact ce_isnot
  | inD => exact ce_dIn (by omega)
  | notinD => exact ce_dNotIn (by omega)
  | inS => exact ce_inS
  | notinS => exact ce_notInS
  | inX => exact ce_inX hu
  | notinX => exact ce_notInX hu
theorem b1_se (f : Fit P T X W E c) {o : B1} {a : Expr} {fa : FE} {p pos : Pos} (h : frB T c (b1Name o) = true) (ha : SB X W E a fa) (hn : notStar a = true) : SE X W E (.Call (.Name (b1Name o) p) [a] [] pos) (v1 (b1K o) fa) := by
  obtain ⟨g, m⟩ := fr_ok f h
  cases o with
  | len => exact se_len ha g m hn
  | abs => exact se_abs ha g m hn
  | int => exact se_intc ha g m hn
  | tuple => exact se_tuplec ha g m hn
  | all => exact se_all f.top.calm ha g m hn
  | any => exact se_any f.top.calm ha g m hn
  | sum => exact se_sum f.top.calm ha g m hn
  | sorted => exact se_sorted ha g m hn
  | min1 => exact se_min1 f.top.calm ha g m hn
  | max1 => exact se_max1 f.top.calm ha g m hn
theorem b2_se (f : Fit P T X W E c) {o : B2} {a b : Expr} {fa fb : FE} {p pos : Pos} (h : frB T c (b2Name o) = true) (ha : SB X W E a fa) (hb : SB X W E b fb) (hn : notStar a = true) (hn2 : notStar b = true) : SE X W E (.Call (.Name (b2Name o) p) [a, b] [] pos) (f2 fa fb (b2K o)) := by
  obtain ⟨g, m⟩ := fr_ok f h
  cases o with
  | max => exact se_max2 f.top.calm ha hb g m hn hn2
  | min => exact se_min2 f.top.calm ha hb g m hn hn2
  | dm => exact se_divmod ha hb g m hn hn2
theorem pts_no {ifs : List Expr} (h : ifs = []) : PTs X ifs (tT W E0 tYesF) := by
  subst h
  exact ⟨fun pins s σ H Q I ⟨g, st, env, rel, rs, o⟩ => pts_nil.run pins s σ H Q I (o.here rel)⟩
/-- as a value, or a look at one of the frame's own -/
def J (X : Cx) (W : Wd) (E : XK) (bor : Bool) (e : Expr) (f : FE) : Prop := match bor with
  | true => SB X W E e f
  | false => SE X W E e f
theorem J.of {bor : Bool} {e : Expr} {f : FE} (h : SE X W E e f) : J X W E bor e f := by
  cases bor with
  | true => exact SE.b h
  | false => exact h
end
theorem ev_len (P : Pr) : ∀ a : Ax, (evA P a).length = a.len
  | .nil => rfl
  | .cons x a => by
    show (evA P a).length + 1 = a.len + 1
    rw [ev_len P a]
end TW
set_option maxHeartbeats 6400000
namespace TW
open PySem PySem.Spec L2
theorem noSl_ok {b : Expr} (h : notSlice b = true) : NoSl b := by
  unfold NoSl
  cases b <;> first | (cases h; done) | (intros; rfl) | trivial
section
variable {P : Pr} {T : Tb} {W : Wd}
mutual
theorem sE {X : Cx} {E : XK} {c : Cc} (f : Fit P T X W E c) (bor : Bool) : ∀ (x : Ex) {e : Expr}, chkE T c bor x e = true → J X W E bor e (ev P x)
  | .v i, e, h => by
    unfold chkE at h
    split at h
    · obtain ⟨a1, a2, a3, a4⟩ := var_ok f h
      exact J.of (se_var a1 a2 a3 a4)
    · cases h
  | .b i, e, h => by
    unfold chkE at h
    simp only [Bool.and_eq_true] at h
    obtain ⟨rfl, h⟩ := h
    split at h
    · obtain ⟨a1, a2, a3, a4⟩ := var_ok f h
      exact sb_bor a1 a2 a3 a4
    · cases h
  | .k v, e, h => by
    unfold chkE at h
    exact J.of (cst_se h)
  | .g i, e, h => by
    unfold chkE at h
    split at h
    · simp only [Bool.and_eq_true, decide_eq_true_eq] at h
      obtain ⟨g, d⟩ := gl_ok f h.2
      exact J.of (se_cst g (f.top.cst _ _ h.1) d)
    · cases h
  | .bin o x y, e, h => by
    unfold chkE at h
    split at h
    · simp only [Bool.and_eq_true] at h
      exact J.of (op_se h.1.1 (sE f true x h.1.2) (sE f true y h.2))
    · cases h
  | .neg x, e, h => by
    unfold chkE at h
    split at h
    · exact J.of (se_neg (sE f true x h))
    · cases h
  | .cmp o x y, e, h => by
    unfold chkE at h
    split at h
    · simp only [Bool.and_eq_true, decide_eq_true_eq] at h
      obtain ⟨⟨⟨rfl, h2⟩, h3⟩, h4⟩ := h
      exact J.of (se_cmp (cm_ok f.top.hu o) (sE f true x h3) (sE f true y h4) (notSet_ok h2))
    · cases h
  | .chn o p x y z, e, h => by
    unfold chkE at h
    split at h
    · simp only [Bool.and_eq_true, decide_eq_true_eq] at h
      obtain ⟨⟨⟨⟨⟨rfl, rfl⟩, h2⟩, h3⟩, h4⟩, h5⟩ := h
      exact J.of (se_chain (cm_ok f.top.hu o) (cm_ok f.top.hu p) (sE f true x h3) (sE f true y h4) (sE f true z h5) (notSet_ok2 h2))
    · cases h
  | .nt x, e, h => by
    unfold chkE at h
    split at h
    · exact J.of (se_vnot (sE f true x h))
    · cases h
  | .an x y, e, h => by
    unfold chkE at h
    split at h
    · simp only [Bool.and_eq_true] at h
      exact J.of (se_vand (sE f false x h.1) (sE f false y h.2))
    · cases h
  | .or x y, e, h => by
    unfold chkE at h
    split at h
    · simp only [Bool.and_eq_true] at h
      exact J.of (se_vor (sE f false x h.1) (sE f false y h.2))
    · cases h
  | .one x, e, h => by
    unfold chkE at h
    split at h
    · exact J.of (se_one (sE f false x h))
    · cases h
  | .ife t x y, e, h => by
    unfold chkE at h
    split at h
    · simp only [Bool.and_eq_true] at h
      exact J.of (se_if (sT f t h.1.1).1 (sE f false x h.1.2) (sE f false y h.2))
    · cases h
  | .ix x y, e, h => by
    unfold chkE at h
    split at h
    · simp only [Bool.and_eq_true] at h
      exact J.of (se_ix (sE f true x h.1.2) (sE f true y h.2) h.1.1)
    · cases h
  | .dix x y, e, h => by
    unfold chkE at h
    split at h
    · rename_i a b p
      simp only [Bool.and_eq_true] at h
      exact J.of (se_dix (by have := f.top.hu; omega) (sE f true x h.1.2) (sE f true y h.2) (noSl_ok h.1.1))
    · cases h
  | .sl x lo hi, e, h => by
    unfold chkE at h
    split at h
    · simp only [Bool.and_eq_true] at h
      exact J.of (se_slice (sE f true x h.1.1) (sO f lo h.1.2) (sO f hi h.2))
    · cases h
  | .tup a, e, h => by
    unfold chkE at h
    split at h
    · simp only [Bool.and_eq_true, decide_eq_true_eq] at h
      exact J.of (se_tup (sA f a h.1).1 (by rw [ev_len]; exact h.2))
    · cases h
  | .lst l, e, h => by
    unfold chkE at h
    exact J.of (se_lst (sL f l h))
  | .cell l, e, h => by
    unfold chkE at h
    exact J.of (se_cell (sL f l h))
  | .dct t s q k v vs, e, h => by
    unfold chkE at h
    split at h
    · rename_i kx vx tg it ifs a scope p
      simp only [Bool.and_eq_true, decide_eq_true_eq] at h
      obtain ⟨⟨⟨⟨⟨⟨⟨⟨h1, h2⟩, h3⟩, h4⟩, h6⟩, h7⟩, h8⟩, h9⟩, h10⟩ := h
      subst h1
      have hv := ownV_snd (N := c.N) (vs := vs)
      refine J.of ?_
      show SE X W E _ (vDct (dComp (evS P s) t.set (evQ P q) (ev P k) (ev P v) vs))
      rw [← hv]
      exact (se_dct f.top.calm (f.hN ▸ f.nd) (sS f s h3).2 (blkOk_by (by rw [f.hN, f.sc]; exact h4)) (fun s' H C cl fp => tgt_ok (f.blk scope s' H C cl fp) h7) (fun s' H C cl fp => sQ (f.blk scope s' H C cl fp) q h8)
        (fun s' H C cl fp => sE (f.blk scope s' H C cl fp) false k h9) (fun s' H C cl fp => sE (f.blk scope s' H C cl fp) false v h10) (by rw [hv]; exact sub_ok h6) h2)
    · cases h
  | .fld g x, e, h => by
    unfold chkE at h
    split at h
    · simp only [Bool.and_eq_true, decide_eq_true_eq] at h
      obtain ⟨⟨⟨rfl, h2⟩, h3⟩, h4⟩ := h
      have := se_fld (pos := (by assumption)) (sE f true x h4) (f.top.flds g h2) h3
      rw [← f.same.flds] at this
      exact J.of this
    · cases h
  | .sfld i g, e, h => by
    unfold chkE at h
    split at h
    · rename_i x p g' p2
      simp only [Bool.and_eq_true, decide_eq_true_eq] at h
      obtain ⟨⟨rfl, h2⟩, h3⟩ := h
      obtain ⟨a1, a2, a3, a4⟩ := var_ok f h3
      have k : SE X W E (.Attribute (.Name x p) g p2) (vSFld W.flds i g) := se_sfld a1 a2 a3 a4 (f.top.flds g h2)
      rw [← f.same.flds] at k
      exact J.of k
    · cases h
  | .b1 o x, e, h => by
    unfold chkE at h
    split at h
    · simp only [Bool.and_eq_true, decide_eq_true_eq] at h
      obtain ⟨⟨⟨rfl, h2⟩, h3⟩, h4⟩ := h
      exact J.of (b1_se f h2 (sE f true x h4) h3)
    · cases h
  | .b2 o x y, e, h => by
    unfold chkE at h
    split at h
    · simp only [Bool.and_eq_true, decide_eq_true_eq] at h
      obtain ⟨⟨⟨⟨⟨rfl, h2⟩, h3⟩, h4⟩, h5⟩, h6⟩ := h
      exact J.of (b2_se f h2 (sE f true x h5) (sE f true y h6) h3 h4)
    · cases h
  | .isi ts x, e, h => by
    unfold chkE at h
    split at h
    · simp only [Bool.and_eq_true, decide_eq_true_eq] at h
      obtain ⟨⟨⟨⟨rfl, h2⟩, h3⟩, h4⟩, h5⟩ := h
      obtain ⟨g, m⟩ := fr_ok f h2
      have ha := sE f true x h4
      refine J.of ?_
      show SE X W E _ (vIsi P.ncls ts (ev P x))
      rw [f.same.ncls]
      unfold isiB at h5
      split at h5
      · simp only [Bool.and_eq_true, decide_eq_true_eq] at h5
        obtain ⟨k1, k2⟩ := clss_ok f h5.1
        exact se_isiT f.top.inst (fun s hs t ht => f.top.kit s hs t (k2 t ht)) ha k1 h5.2 g m h3
      · split at h5
        · obtain ⟨k1, k2⟩ := cls_ok f h5
          exact se_isi1 f.top.inst (fun s hs => f.top.kit s hs _ k2) ha k1 g m h3
        · cases h5
    · cases h
  | .call j a, e, h => by
    unfold chkE at h
    split at h
    · rename_i n p es p2
      simp only [Bool.and_eq_true, decide_eq_true_eq] at h
      obtain ⟨⟨⟨h1, h2⟩, h3⟩, h4⟩ := h
      obtain ⟨g, d⟩ := gl_ok f h2
      obtain ⟨k1, k2⟩ := sA f a h4
      cases es with
      | nil =>
        cases a with
        | nil => exact J.of (se_call0 (f.top.fns _ _ _ h1) f.pass g d)
        | cons _ _ => simp [Ax.len] at k2
      | cons b r => exact J.of (se_call (f.top.fns _ _ _ h1) f.pass g d k1 (ev_len P a) h3)
    · cases h
  | .callK j perm a k, e, h => by
    unfold chkE at h
    split at h
    · rename_i n p es kws p2
      simp only [Bool.and_eq_true, decide_eq_true_eq, List.any_eq_true] at h
      obtain ⟨⟨⟨⟨h2, h3⟩, h4⟩, h5⟩, ⟨j', q⟩, hm, ⟨⟨⟨⟨⟨⟨rfl, rfl⟩, h6⟩, h7⟩, h8⟩, h9⟩, h10⟩⟩ := h
      obtain ⟨g, d⟩ := gl_ok f h2
      obtain ⟨k1, k2⟩ := sA f a h4
      have kk := sK f k h5
      have cal := f.top.kws _ hm _ _ h9
      have lk : (evA P k).length = q.ks.length := by rw [ev_len]; exact h7
      have la := ev_len P a
      have hperm : (q.perm.all fun i => decide (i < (evA P a).length + (evA P k).length)) = true := by rw [la, ev_len]; exact h10
      cases es with
      | nil =>
        cases a with
        | nil => exact J.of (se_named cal f.pass g d h6 kk h8 (by simpa [evA] using hperm) rfl lk)
        | cons _ _ => simp [Ax.len] at k2
      | cons b r => exact J.of (se_callK cal f.pass g d k1 h3 (by rw [la]; exact h6.symm) kk h8 hperm rfl lk)
    · cases h
  | .make d a, e, h => by
    unfold chkE at h
    split at h
    · rename_i n p es p2
      simp only [Bool.and_eq_true, decide_eq_true_eq] at h
      obtain ⟨⟨⟨⟨h1, h2⟩, h3⟩, h4⟩, h5⟩ := h
      obtain ⟨g, dd⟩ := gl_ok f h2
      obtain ⟨k1, k2⟩ := sA f a h4
      cases es with
      | nil => rw [← k2] at h5; simp at h5
      | cons b r => exact J.of (se_make (f.top.mks _ _ _ h1) f.pass g dd k1 (ev_len P a) h3)
    · cases h
  | .makeK d pv k, e, h => by
    unfold chkE at h
    split at h
    · rename_i n p kws p2
      simp only [Bool.and_eq_true, decide_eq_true_eq, List.any_eq_true] at h
      obtain ⟨⟨h2, h5⟩, ⟨d', q⟩, hm, ⟨⟨⟨⟨⟨⟨rfl, h6⟩, h7⟩, h8⟩, h9⟩, h10⟩, h11⟩⟩ := h
      obtain ⟨g, dd⟩ := gl_ok f h2
      have kk := sK f k h5
      have lk : (evA P k).length = q.ks.length := by rw [ev_len]; exact h8
      exact J.of (se_makeK (f.top.ikws _ hm _ _ h10) f.pass g dd h6 h7 kk h9 (by rw [ev_len]; exact h11) rfl lk)
    · cases h
  | .get x y, e, h => by
    unfold chkE at h
    split at h
    · simp only [Bool.and_eq_true, decide_eq_true_eq] at h
      obtain ⟨⟨⟨⟨⟨rfl, h2⟩, h3⟩, h4⟩, h5⟩, h6⟩ := h
      exact J.of (se_dget (by have := f.top.hu; omega) (sE f true x h5) (sE f true y h6) h2 h3 h4)
    · cases h
  | .getD x y z, e, h => by
    unfold chkE at h
    split at h
    · simp only [Bool.and_eq_true, decide_eq_true_eq] at h
      obtain ⟨⟨⟨⟨⟨⟨⟨rfl, h2⟩, h3⟩, h4⟩, h5⟩, h6⟩, h7⟩, h8⟩ := h
      exact J.of (se_dgetD (by have := f.top.hu; omega) (sE f true x h6) (sE f true y h7) (sE f false z h8) h2 h3 h4 h5)
    · cases h
  | .minD x z, e, h => by
    unfold chkE at h
    split at h
    · simp only [Bool.and_eq_true, decide_eq_true_eq] at h
      obtain ⟨⟨⟨⟨⟨rfl, rfl⟩, h3⟩, h4⟩, h5⟩, h6⟩ := h
      obtain ⟨g, m⟩ := fr_ok f h3
      exact J.of (se_minD f.top.calm (sE f false x h5) (sE f false z h6) g m h4)
    · cases h
  | .cellD, e, h => by
    unfold chkE at h
    split at h
    · exact J.of se_cellD
    · cases h
  | .rev x, e, h => by
    unfold chkE at h
    split at h
    · simp only [Bool.and_eq_true, decide_eq_true_eq] at h
      obtain ⟨rfl, h2⟩ := h
      exact J.of (se_rev (sE f true x h2))
    · cases h
  | .dct0, e, h => by
    unfold chkE at h
    split at h
    · exact J.of se_dct0
    · simp only [Bool.and_eq_true, decide_eq_true_eq] at h
      obtain ⟨rfl, h3⟩ := h
      obtain ⟨g, m⟩ := fr_ok f h3
      exact J.of (se_dctC f.top.calm g m)
    · cases h
  | .sset x, e, h => by
    unfold chkE at h
    split at h
    · simp only [Bool.and_eq_true, decide_eq_true_eq] at h
      obtain ⟨⟨⟨⟨⟨rfl, rfl⟩, h3⟩, h4⟩, h5⟩, h6⟩ := h
      obtain ⟨g, m⟩ := fr_ok f h3
      obtain ⟨g2, m2⟩ := fr_ok f h4
      exact J.of (se_sortSet f.top.calm (sE f true x h6) g m g2 m2 h5)
    · cases h
  | .tr1 x, e, h => by
    unfold chkE at h
    split at h
    · simp only [Bool.and_eq_true, decide_eq_true_eq] at h
      obtain ⟨⟨⟨⟨⟨rfl, rfl⟩, h3⟩, h4⟩, h5⟩, h6⟩ := h
      obtain ⟨g, m⟩ := fr_ok f h3
      obtain ⟨g2, m2⟩ := fr_ok f h4
      exact J.of (se_tupRg1 f.top.calm (sE f true x h6) g m g2 m2 h5)
    · cases h
  | .tr2 x y, e, h => by
    unfold chkE at h
    split at h
    · simp only [Bool.and_eq_true, decide_eq_true_eq] at h
      obtain ⟨⟨⟨⟨⟨⟨⟨rfl, rfl⟩, h3⟩, h4⟩, h5⟩, h6⟩, h7⟩, h8⟩ := h
      obtain ⟨g, m⟩ := fr_ok f h3
      obtain ⟨g2, m2⟩ := fr_ok f h4
      exact J.of (se_tupRg2 f.top.calm (sE f true x h7) (sE f true y h8) g m g2 m2 h5 h6)
    · cases h
  | .own x y, e, h => by
    unfold chkE at h
    split at h
    · simp only [Bool.and_eq_true] at h
      obtain ⟨⟨⟨h1, h2⟩, h3⟩, h4⟩ := h
      refine J.of ?_
      show SE X W E _ (f2 (ev P x) (ev P y) (kOwn P.ncls P.Q))
      rw [f.same.ncls]
      exact se_own (f.top.own h1) f.pass (sE f false x h3) (sE f false y h4) (notSet_ok h2)
    · cases h
  | .ownN x y, e, h => by
    unfold chkE at h
    split at h
    · simp only [Bool.and_eq_true] at h
      obtain ⟨⟨⟨h1, h2⟩, h3⟩, h4⟩ := h
      refine J.of ?_
      show SE X W E _ (f2 (ev P x) (ev P y) (kOwnN P.ncls P.Q))
      rw [f.same.ncls]
      exact se_ownN (f.top.own h1) f.pass (sE f false x h3) (sE f false y h4) (notSet_ok h2)
    · cases h
theorem sT {X : Cx} {E : XK} {c : Cc} (f : Fit P T X W E c) : ∀ (x : Tx) {e : Expr}, chkT T c x e = true → ST X W E e (evT P x) ∧ (boolTx x = true → SW X W E e (evT P x))
  | .tr x, e, h => by
    unfold chkT at h
    simp only [Bool.and_eq_true] at h
    exact ⟨st_truth (sE f true x h.2) h.1, fun z => by cases z⟩
  | .not t, e, h => by
    unfold chkT at h
    split at h
    · exact ⟨st_not (sT f t h).1, fun z => by cases z⟩
    · cases h
  | .cmp o x y, e, h => by
    unfold chkT at h
    split at h
    · simp only [Bool.and_eq_true, decide_eq_true_eq] at h
      obtain ⟨⟨⟨rfl, h2⟩, h3⟩, h4⟩ := h
      exact ⟨st_cmp (cm_ok f.top.hu o) (sE f true x h3) (sE f true y h4) (notSet_ok h2), fun z => by cases z⟩
    · cases h
  | .chn o p x y z, e, h => by
    unfold chkT at h
    split at h
    · simp only [Bool.and_eq_true, decide_eq_true_eq] at h
      obtain ⟨⟨⟨⟨⟨rfl, rfl⟩, h2⟩, h3⟩, h4⟩, h5⟩ := h
      exact ⟨st_chain (cm_ok f.top.hu o) (cm_ok f.top.hu p) (sE f true x h3) (sE f true y h4) (sE f true z h5) (notSet_ok2 h2), fun z => by cases z⟩
    · cases h
  | .an x y, e, h => by
    unfold chkT at h
    split at h
    · simp only [Bool.and_eq_true] at h
      have w := sw_and (sT f x h.1.1).1 ((sT f y h.2).2 h.1.2)
      exact ⟨w.pt, fun _ => w⟩
    · cases h
  | .or x y, e, h => by
    unfold chkT at h
    split at h
    · simp only [Bool.and_eq_true] at h
      have w := sw_or (sT f x h.1.1).1 ((sT f y h.2).2 h.1.2)
      exact ⟨w.pt, fun _ => w⟩
    · cases h
  | .one x, e, h => by
    unfold chkT at h
    split at h
    · rename_i op a p
      have w : SW X W E (.BoolOp op [a] p) (evT P x) := by
        cases op with
        | And => exact sw_and1 (sT f x h).1
        | Or => exact sw_or1 (sT f x h).1
      exact ⟨w.pt, fun _ => w⟩
    · cases h
theorem sO {X : Cx} {E : XK} {c : Cc} (f : Fit P T X W E c) : ∀ (x : Ox) {e : Option Expr}, chkO T c x e = true → TW.SP X W E e (evO P x)
  | .no, e, h => by
    unfold chkO at h
    split at h
    · exact sp_none
    · cases h
  | .so x, e, h => by
    unfold chkO at h
    split at h
    · exact sp_some (sE f true x h)
    · cases h
theorem sQ {X : Cx} {c : Cc} (f : Fit P T X W E0 c) : ∀ (x : Qx) {e : List Expr}, chkQ T c x e = true → PTs X e (tT W E0 (evQ P x))
  | .no, e, h => by
    unfold chkQ at h
    split at h
    · exact pts_no rfl
    · cases h
  | .so x, e, h => by
    unfold chkQ at h
    split at h
    · exact pts_one (sT f x h).1
    · cases h
theorem sA {X : Cx} {E : XK} {c : Cc} (f : Fit P T X W E c) : ∀ (x : Ax) {e : List Expr}, chkA T c x e = true → SA X W E e (fArgs (evA P x)) ∧ e.length = x.len
  | .nil, e, h => by
    unfold chkA at h
    split at h
    · exact ⟨sa_nil, rfl⟩
    · cases h
  | .cons x a, e, h => by
    unfold chkA at h
    split at h
    · simp only [Bool.and_eq_true] at h
      obtain ⟨k1, k2⟩ := sA f a h.2
      exact ⟨sa_cons (sE f false x h.1.2) k1 h.1.1, by simp [Ax.len, k2]⟩
    · cases h
theorem sK {X : Cx} {E : XK} {c : Cc} (f : Fit P T X W E c) : ∀ (x : Ax) {e : List Keyword}, chkK T c x e = true → SK X W E e (fArgs (evA P x))
  | .nil, e, h => by
    unfold chkK at h
    split at h
    · exact sk_nil
    · cases h
  | .cons x a, e, h => by
    unfold chkK at h
    split at h
    · simp only [Bool.and_eq_true] at h
      exact sk_cons (sE f false x h.1) (sK f a h.2)
    · cases h
theorem sL {X : Cx} {E : XK} {c : Cc} (f : Fit P T X W E c) : ∀ (x : Lx) {e : Expr}, chkL T c x e = true → SL X W E e (evL P x)
  | .disp a, e, h => by
    unfold chkL at h
    split at h
    · simp only [Bool.and_eq_true, decide_eq_true_eq] at h
      exact sl_disp (sA f a h.1).1 (by rw [ev_len]; exact h.2)
    · cases h
  | .cat x y, e, h => by
    unfold chkL at h
    split at h
    · simp only [Bool.and_eq_true] at h
      exact sl_cat (sE f true x h.1) (sE f true y h.2)
    · cases h
  | .rep x y, e, h => by
    unfold chkL at h
    split at h
    · simp only [Bool.and_eq_true] at h
      exact sl_rep (sE f true x h.1) (sE f true y h.2)
    · cases h
  | .of x, e, h => by
    unfold chkL at h
    split at h
    · simp only [Bool.and_eq_true, decide_eq_true_eq] at h
      obtain ⟨⟨⟨rfl, h2⟩, h3⟩, h4⟩ := h
      obtain ⟨g, m⟩ := fr_ok f h2
      exact sl_of (sE f true x h4) g m h3
    · cases h
  | .rg1 x, e, h => by
    unfold chkL at h
    split at h
    · simp only [Bool.and_eq_true, decide_eq_true_eq] at h
      obtain ⟨⟨⟨⟨⟨rfl, rfl⟩, h2⟩, h2b⟩, h3⟩, h4⟩ := h
      obtain ⟨g, m⟩ := fr_ok f h2
      obtain ⟨g2, m2⟩ := fr_ok f h2b
      exact sl_rg1 f.top.calm (sE f true x h4) g m g2 m2 h3
    · cases h
  | .comp t s q el vs, e, h => by
    unfold chkL at h
    split at h
    · rename_i ex tg it ifs a scope p
      simp only [Bool.and_eq_true, decide_eq_true_eq] at h
      obtain ⟨⟨⟨⟨⟨⟨⟨h1, h2⟩, h3⟩, h4⟩, h6⟩, h7⟩, h8⟩, h9⟩ := h
      subst h1
      have hv := ownV_snd (N := c.N) (vs := vs)
      show SL X W E _ (lComp (evS P s) t.set (evQ P q) (ev P el) vs)
      rw [← hv]
      exact sl_comp f.top.calm (f.hN ▸ f.nd) (sS f s h3).2 (blkOk_by (by rw [f.hN, f.sc]; exact h4)) (fun s' H C cl fp => tgt_ok (f.blk scope s' H C cl fp) h7) (fun s' H C cl fp => sQ (f.blk scope s' H C cl fp) q h8)
        (fun s' H C cl fp => sE (f.blk scope s' H C cl fp) false el h9) (by rw [hv]; exact sub_ok h6) h2
    · cases h
  | .comp2 t s q t1 s1 q1 el vs vs1, e, h => by
    unfold chkL at h
    split at h
    · rename_i ex tg it ifs a tg1 it1 ifs1 a1 scope p
      simp only [Bool.and_eq_true, decide_eq_true_eq] at h
      obtain ⟨⟨⟨⟨⟨⟨⟨⟨⟨⟨⟨⟨⟨⟨h1, h1b⟩, h2⟩, h2b⟩, h3⟩, h4⟩, h6⟩, h6b⟩, h6c⟩, h7⟩, h8⟩, h9⟩, h10⟩, h11⟩, h12⟩ := h
      subst h1; subst h1b
      have hv := ownV_snd (N := c.N) (vs := vs)
      show SL X W E _ (lComp2 (evS P s) t.set (evQ P q) (evS P s1) t1.set (evQ P q1) (ev P el) vs vs1)
      rw [← hv]
      exact sl_comp2 f.top.calm (f.hN ▸ f.nd) (sS f s h3).2 (blkOk_by (by rw [f.hN, f.sc]; exact h4)) (by rw [hv]; exact sub_ok h6) (fun s' H C cl fp => tgt_ok (f.blk scope s' H C cl fp) h7) (fun s' H C cl fp => sQ (f.blk scope s' H C cl fp) q h8)
        (fun s' H C cl fp => (sS (f.blk scope s' H C cl fp) s1 h9).2) (fun s' H C cl fp => tgt_ok (f.blk scope s' H C cl fp) h10) (fun s' H C cl fp => sQ (f.blk scope s' H C cl fp) q1 h11)
        (fun s' H C cl fp => sE (f.blk scope s' H C cl fp) false el h12) (by rw [hv]; exact sub_ok h6b) (sub_ok h6c) h2 h2b
    · cases h
theorem sS {X : Cx} {E : XK} {c : Cc} (f : Fit P T X W E c) : ∀ (x : Sx) {e tg : Expr}, chkS T c x tg e = true → SIe X W E tg e (evS P x) ∧ SIb X W E tg e (evS P x)
  | .seq x, e, tg, h => by
    unfold chkS at h
    have k := sE f false x h
    exact ⟨sie_seq k, sib_seq (SE.b k)⟩
  | .r1 x, e, tg, h => by
    unfold chkS at h
    split at h
    · simp only [Bool.and_eq_true, decide_eq_true_eq] at h
      obtain ⟨⟨⟨rfl, h2⟩, h3⟩, h4⟩ := h
      obtain ⟨g, m⟩ := fr_ok f h2
      exact ⟨sie_rng1 (sE f true x h4) g m h3, sib_rng1 (sE f true x h4) g m h3⟩
    · cases h
  | .r2 x y, e, tg, h => by
    unfold chkS at h
    split at h
    · simp only [Bool.and_eq_true, decide_eq_true_eq] at h
      obtain ⟨⟨⟨⟨⟨rfl, h2⟩, h3⟩, h4⟩, h5⟩, h6⟩ := h
      obtain ⟨g, m⟩ := fr_ok f h2
      exact ⟨sie_rng2 (sE f true x h5) (sE f true y h6) g m h3 h4, sib_rng2 (sE f true x h5) (sE f true y h6) g m h3 h4⟩
    · cases h
  | .rD x y, e, tg, h => by
    unfold chkS at h
    split at h
    · simp only [Bool.and_eq_true, decide_eq_true_eq] at h
      obtain ⟨⟨⟨⟨⟨⟨rfl, rfl⟩, h2⟩, h3⟩, h4⟩, h5⟩, h6⟩ := h
      obtain ⟨g, m⟩ := fr_ok f h2
      exact ⟨sie_rngD (sE f true x h5) (sE f true y h6) g m h3 h4, sib_rngD (sE f true x h5) (sE f true y h6) g m h3 h4⟩
    · cases h
  | .zip x y, e, tg, h => by
    unfold chkS at h
    split at h
    · split at h
      · simp only [Bool.and_eq_true, decide_eq_true_eq] at h
        obtain ⟨⟨⟨⟨⟨rfl, h2⟩, h3⟩, h4⟩, h5⟩, h6⟩ := h
        obtain ⟨g, m⟩ := fr_ok f h2
        exact ⟨sie_zip (sE f false x h5) (sE f false y h6) g m h3 h4, sib_zip (sE f false x h5) (sE f false y h6) g m h3 h4⟩
      · cases h
    · cases h
end
end
end TW
set_option maxHeartbeats 6400000
namespace TW
open PySem PySem.Spec L2
mutual
inductive Sm where
  | pass | brk | cnt | ret (x : Ex) | retN | ifs (t : Tx) (a b : Bk) | ex (x : Ex)
  | set (i : Nat) (x : Ex) | own (i : Nat) (l : Lx) | app (i : Nat) (x : Ex) | put (i : Nat) (ix x : Ex) | putR (o ix x : Ex) | putD (o ix x : Ex) | ext (i : Nat) (x : Ex) | appX (o x : Ex) | extX (o x : Ex) | revX (o : Ex) | fld (i : Nat) (f : Str) (x : Ex)
  | raise (c : Nat) (a : Ax) | tri (b : Bk) (hs : List Hd) | for_ (t : Tgt) (s : Sx) (b : Bk) | whl (n : Nat) (t : Tx) (b : Bk)
  | par (is : List Nat) (a : Ax) | unp (t : Tgt) (x : Ex) | rel (i : Nat) (s : Sm)
inductive Bk where
  | nil | cons (s : Sm) (b : Bk)
end
mutual
def es (P : Pr) : Sm → FSt
  | .pass => sNext
  | .brk => sBreak
  | .cnt => sCont
  | .ret x => sRet (ev P x)
  | .retN => sRetN
  | .ifs t a b => sIf (evT P t) (eb P a) (eb P b)
  | .ex x => sDrop (ev P x)
  | .set i x => sSet i (ev P x)
  | .own i l => sOwn i (evL P l)
  | .app i x => sApp i (ev P x)
  | .put i ix x => sPut i (ev P ix) (ev P x)
  | .putR o ix x => sPutR (ev P o) (ev P ix) (ev P x)
  | .putD o ix x => sPutD (ev P o) (ev P ix) (ev P x)
  | .ext i x => sExt i (ev P x)
  | .appX o x => sAppX (ev P o) (ev P x)
  | .extX o x => sExtX (ev P o) (ev P x)
  | .revX o => sRevX (ev P o)
  | .fld i f x => sFldS P.flds i f (ev P x)
  | .raise c a => sRaise c (fArgs (evA P a))
  | .tri b hs => sTry P.nexc P.xs P.xfl (eb P b) hs
  | .for_ t s b => sFor (evS P s) t.set (eb P b)
  | .whl n t b => whileF (evT P t) (eb P b) n
  | .par is a => sPar is (fArgs (evA P a))
  | .unp t x => sUnp t.set (ev P x)
  | .rel i s => sRel i (es P s)
def eb (P : Pr) : Bk → FSt
  | .nil => sNext
  | .cons s b => sSeq (es P s) (eb P b)
end
/-- the comprehension swaps with the name's slot, or not -/
def swT (e : Expr) (y : Str) (py : Pos) (sc : Scope) : Bool := match e with
  | .ListComp _ _ scope p => decide (sc.names.lookup y = some .local) && (py.line == p.line) && !(scope.names.any fun (n, k) => n == y && (k == .local || k == .cell))
  | .DictComp _ _ _ scope p => decide (sc.names.lookup y = some .local) && (py.line == p.line) && !(scope.names.any fun (n, k) => n == y && (k == .local || k == .cell))
  | _ => false
def swF (e : Expr) (y : Str) (sc : Scope) : Bool := match e with
  | .ListComp _ _ _ _ => decide (sc.names.lookup y ≠ some .local)
  | .DictComp _ _ _ _ _ => decide (sc.names.lookup y ≠ some .local)
  | .SetComp _ _ _ _ => false
  | _ => true
theorem swT_ok {e : Expr} {y : Str} {py : Pos} {l : Nat} {env : Env} (hk : env.scope.kind = .function) (h : swT e y py env.scope = true) : swapsWith e (some (.Name y py)) l env = pure true := by
  have hb : env.blockKind = .function := by unfold Env.blockKind; rw [hk] <;> rfl
  unfold swT at h
  split at h
  · simp only [Bool.and_eq_true, decide_eq_true_eq, Bool.not_eq_true'] at h
    obtain ⟨⟨h1, h2⟩, h3⟩ := h
    have ky : env.kindOf y = some .local := h1
    unfold swapsWith
    simp only [hb, ky, h3, Expr.pos, h2]
    rfl
  · simp only [Bool.and_eq_true, decide_eq_true_eq, Bool.not_eq_true'] at h
    obtain ⟨⟨h1, h2⟩, h3⟩ := h
    have ky : env.kindOf y = some .local := h1
    unfold swapsWith
    simp only [hb, ky, h3, Expr.pos, h2]
    rfl
  · cases h
theorem swF_ok {e : Expr} {y : Str} {py : Pos} {l : Nat} {env : Env} (h : swF e y env.scope = true) : swapsWith e (some (.Name y py)) l env = pure false := by
  have key : ∀ sc : Scope, env.scope.names.lookup y ≠ some .local → (env.kindOf y == some .local) = false := fun sc h => by
    have : env.kindOf y ≠ some .local := h
    simpa using this
  cases e with
  | ListComp a b sc p =>
    have k := key sc (of_decide_eq_true h)
    unfold swapsWith
    simp only [k, Bool.and_false, Bool.false_and]
  | DictComp a b g sc p =>
    have k := key sc (of_decide_eq_true h)
    unfold swapsWith
    simp only [k, Bool.and_false, Bool.false_and]
  | SetComp _ _ _ _ => cases h
  | _ => rfl
def isComp : Lx → Bool
  | .comp .. => true
  | .comp2 .. => true
  | _ => false
/-- a list to a name -/
def asgL (T : Tb) (c : Cc) (i : Nat) (l : Lx) (y : Str) (py : Pos) (e : Expr) : Bool := chkL T c l e && ((swF e y c.sc && stoB c i y) || (swT e y py c.sc && decide (c.N[i]? = some y) && decide (c.sc.names.lookup y = some .local) && isComp l))
def asgE (T : Tb) (c : Cc) (i : Nat) (x : Ex) (y : Str) (py : Pos) (e : Expr) : Bool := match x with
  | .lst l => asgL T c i l y py e
  | .cell l => asgL T c i l y py e
  | .dct t s q k v vs => chkE T c false (.dct t s q k v vs) e && ((swF e y c.sc && stoB c i y) || (swT e y py c.sc && decide (c.N[i]? = some y) && decide (c.sc.names.lookup y = some .local)))
  | x => swF e y c.sc && stoB c i y && chkE T c false x e
def locB (c : Cc) (i : Nat) (x : Str) : Bool := decide (c.N[i]? = some x) && decide (c.sc.names.lookup x = some .local)
def isStar : Expr → Bool
  | .Starred .. => true
  | _ => false
def noFold (vs : List Expr) : Bool := !(vs.any isStar) && !(vs.all (foldedForSure 8)) && !(vs.all (constantsAlone 8))
/-- which names a pair's stores swap -/
def parOk (c : Cc) : List Nat → List Expr → List Expr → Bool
  | [i, j], [.Name x px, .Name y py], [a, b] => locB c i x && locB c j y && decide (i ≠ j) && decide (x ≠ y) && (py.line == px.line) && noFold [a, b]
  | [i, j, l], [.Name x px, .Name y py, .Name z pz], [a, b, d] => locB c i x && locB c j y && locB c l z && decide (i ≠ j) && decide (i ≠ l) && decide (j ≠ l) && decide (x ≠ y) && decide (x ≠ z) && decide (y ≠ z) && (py.line == px.line) && (pz.line == px.line) && noFold [a, b, d]
  | _, _, _ => false
theorem swap2 {env : Env} {x y : Str} {px py pt pt2 : Pos} {kt k2 : Nat} {a b : Expr} (hk : env.scope.kind = .function) (hx : env.scope.names.lookup x = some .local) (hy : env.scope.names.lookup y = some .local) (ne : x ≠ y) (hl : (py.line == px.line) = true) (nf : noFold [a, b] = true) :
    swappedStores [.Tuple [.Name x px, .Name y py] kt pt] (.Tuple [a, b] k2 pt2) env = pure (some [x, y]) := by
  have hb : env.blockKind = .function := by unfold Env.blockKind; rw [hk] <;> rfl
  have kx : env.kindOf x = some .local := hx
  have ky : env.kindOf y = some .local := hy
  simp only [noFold, Bool.and_eq_true, Bool.not_eq_true'] at nf
  obtain ⟨⟨n1, n2⟩, n3⟩ := nf
  have hl' : py.line = px.line := by simpa using hl
  simp only [List.any_cons, List.any_nil, Bool.or_false, Bool.or_eq_false_iff] at n1
  unfold swappedStores
  have ne' : (y == x) = false := by simpa using fun z : y = x => ne z.symm
  simp [hb, kx, ky, n2, n3, hl', Expr.pos, List.eraseDups_cons, ne']
  rintro (h | h)
  · exact absurd (show isStar a = true from h) (by simp [n1.1])
  · exact absurd (show isStar b = true from h) (by simp [n1.2])
theorem swap3 {env : Env} {x y z : Str} {px py pz pt pt2 : Pos} {kt k2 : Nat} {a b d : Expr} (hk : env.scope.kind = .function) (hx : env.scope.names.lookup x = some .local) (hy : env.scope.names.lookup y = some .local) (hz : env.scope.names.lookup z = some .local) (ne : x ≠ y) (ne2 : x ≠ z) (ne3 : y ≠ z)
    (hl : (py.line == px.line) = true) (hl2 : (pz.line == px.line) = true) (nf : noFold [a, b, d] = true) :
    swappedStores [.Tuple [.Name x px, .Name y py, .Name z pz] kt pt] (.Tuple [a, b, d] k2 pt2) env = pure (some [x, y, z]) := by
  have hb : env.blockKind = .function := by unfold Env.blockKind; rw [hk] <;> rfl
  have kx : env.kindOf x = some .local := hx
  have ky : env.kindOf y = some .local := hy
  have kz : env.kindOf z = some .local := hz
  simp only [noFold, Bool.and_eq_true, Bool.not_eq_true'] at nf
  obtain ⟨⟨n1, n2⟩, n3⟩ := nf
  have hl' : py.line = px.line := by simpa using hl
  have hl2' : pz.line = px.line := by simpa using hl2
  simp only [List.any_cons, List.any_nil, Bool.or_false, Bool.or_eq_false_iff] at n1
  unfold swappedStores
  have e1 : (y == x) = false := by simpa using fun q : y = x => ne q.symm
  have e2 : (z == x) = false := by simpa using fun q : z = x => ne2 q.symm
  have e3 : (z == y) = false := by simpa using fun q : z = y => ne3 q.symm
  simp [hb, kx, ky, kz, n2, n3, hl', hl2', Expr.pos, List.eraseDups_cons, e1, e2, e3]
  rintro (h | h | h)
  · exact absurd (show isStar a = true from h) (by simp [n1.1])
  · exact absurd (show isStar b = true from h) (by simp [n1.2.1])
  · exact absurd (show isStar d = true from h) (by simp [n1.2.2])
/-- no stores swap -/
def notLoc (sc : Scope) : Expr → Bool
  | .Name id _ => decide (sc.names.lookup id ≠ some .local)
  | _ => false
def noSw (sc : Scope) (ts : List Expr) (e : Expr) : Bool := match e with
  | .Tuple vs _ _ => vs.all (foldedForSure 8) || !(ts.length == 2 || ts.length == 3) || ts.any (notLoc sc)
  | _ => true
mutual
def chkM (T : Tb) (c : Cc) : Sm → Stmt → Bool
  | .pass, s => (match s with | .Pass _ => true | _ => false)
  | .brk, s => (match s with | .Break _ => true | _ => false)
  | .cnt, s => (match s with | .Continue _ => true | _ => false)
  | .ret x, s => (match s with | .Return (some e) _ => chkE T c false x e | _ => false)
  | .retN, s => (match s with | .Return none _ => true | _ => false)
  | .ifs t a b, s => (match s with | .If e xs ys _ => chkT T c t e && chkB T c a xs && chkB T c b ys | _ => false)
  | .ex x, s => (match s with | .Expr e _ => notComp e && chkE T c true x e | _ => false)
  | .set i x, s => (match s with | .Assign [.Name y py] e _ => asgE T c i x y py e | _ => false)
  | .own i l, s => (match s with | .Assign [.Name y py] e _ => asgL T c i l y py e | _ => false)
  | .app i x, s => (match s with | .Expr (.Call (.Attribute (.Name y _) m p) [e] [] q) _ => decide (m = ("append" : Str)) && varB c i y && notStar e && decide ((p.endLine == q.line) = true) && chkE T c false x e | _ => false)
  | .put i ix x, s => (match s with | .Assign [.Subscript (.Name y _) k _] e _ => varB c i y && notSlice k && notComp e && chkE T c false x e && chkE T c true ix k | _ => false)
  | .putR o ix x, s => (match s with | .Assign [.Subscript d k _] e _ => notSlice k && notComp e && chkE T c false o d && chkE T c false x e && chkE T c true ix k | _ => false)
  | .putD o ix x, s => (match s with | .Assign [.Subscript d k _] e _ => notSlice k && notComp e && chkE T c false o d && chkE T c false x e && chkE T c true ix k | _ => false)
  | .ext i x, s => (match s with | .Expr (.Call (.Attribute (.Name y _) m p) [e] [] q) _ => decide (m = ("extend" : Str)) && varB c i y && notStar e && decide ((p.endLine == q.line) = true) && chkE T c false x e | _ => false)
  | .appX o x, s => (match s with | .Expr (.Call (.Attribute a m p) [e] [] q) _ => decide (m = ("append" : Str)) && noSuper a && notStar e && decide ((p.endLine == q.line) = true) && chkE T c false o a && chkE T c false x e | _ => false)
  | .extX o x, s => (match s with | .Expr (.Call (.Attribute a m p) [e] [] q) _ => decide (m = ("extend" : Str)) && noSuper a && notStar e && decide ((p.endLine == q.line) = true) && chkE T c false o a && chkE T c false x e | _ => false)
  | .revX o, s => (match s with | .Expr (.Call (.Attribute a m p) [] [] q) _ => decide (m = ("reverse" : Str)) && noSuper a && decide ((p.endLine == q.line) = true) && chkE T c false o a | _ => false)
  | .fld i f x, s => (match s with | .Assign [.Attribute (.Name y _) g _] e _ => decide (f = g) && decide (f ∈ T.flds) && varB c i y && notComp e && chkE T c false x e | _ => false)
  | .raise d a, s => (match s with | .Raise (some (.Call (.Name n _) es [] _)) none _ => decide (T.exc.lookup n = some d) && glB c n && es.all notStar && chkA T c a es && decide (a.len = (T.xfl d).length) && decide (0 < a.len) && decide (a.len ≤ 800) | _ => false)
  | .tri b hs, s => (match s with | .Try xs es [] [] _ => chkB T c b xs && hdsB (fun x => T.exc.lookup x) c.N c.sc T.nexc hs es && !es.isEmpty | _ => false)
  | .for_ t r b, s => (match s with | .For tg it xs [] _ => notSet it && chkS T c r tg it && tgtB c t tg && chkB T c b xs | _ => false)
  | .whl n t b, s => (match s with | .While e xs [] _ => chkT T c t e && chkB T c b xs | _ => false)
  | .par is a, s => (match s with | .Assign [.Tuple ts _ _] (.Tuple vs _ _) _ => parOk c is ts vs && chkA T c a vs | _ => false)
  | .unp t x, s => (match s with | .Assign [.Tuple ts k p] e _ => notComp e && noSw c.sc ts e && tgtB c t (.Tuple ts k p) && chkE T c false x e | _ => false)
  | .rel _ m, s => chkM T c m s
def chkB (T : Tb) (c : Cc) : Bk → List Stmt → Bool
  | .nil, ss => (match ss with | [] => true | _ => false)
  | .cons m b, ss => (match ss with | s :: r => chkM T c m s && chkB T c b r | _ => false)
end
end TW
set_option maxHeartbeats 6400000
namespace TW
open PySem PySem.Spec L2
structure SFit (P : Pr) (T : Tb) (X : Cx) (W : Wd) (E : XK) (c : Cc) : Prop where
  fit : Fit P T X W E c
  po : PassesOwn (model X.prog X.w) X.A X.env X.xe
  tk : Takes X (fun cls d _ H => E cls d H)
  st0 : X.stack = X.env :: X.outer
  fr0 : X.env.frame = some X.env.locals
  kind : c.sc.kind = .function
  rai : ∀ x n, T.exc.lookup x = some n → 0 < (W.xfl n).length → RaiseOk X W x n
  exc : ExcOk X W T.nexc T.xs
  xmg : ∀ x h, T.exc.lookup x = some h → X.mg x = some (.ref (W.exc h))
theorem SFit.tr {P : Pr} {T : Tb} {X : Cx} {W : Wd} {E E' : XK} {c : Cc} (f : SFit P T X W E c) {pn : List (Addr × Obj)} {xe : Value → Shared → Prop} (tk : Takes (X.tr pn xe) (fun cls d _ H => E' cls d H)) (po : PassesOwn (model X.prog X.w) X.A X.env xe) : SFit P T (X.tr pn xe) W E' c :=
  ⟨⟨⟨f.fit.top.free, f.fit.top.cst, f.fit.top.cls, fun j n a h => ⟨(f.fit.top.fns j n a h).ex⟩, fun p hp n a h => ⟨(f.fit.top.kws p hp n a h).ex⟩, fun d n a h => ⟨(f.fit.top.mks d n a h).ex⟩, fun p hp n a h => ⟨(f.fit.top.ikws p hp n a h).ex⟩, f.fit.top.flds, f.fit.top.inst, f.fit.top.kit, fun ho c hc => ⟨(f.fit.top.own ho c hc).ex, (f.fit.top.own ho c hc).nf, (f.fit.top.own ho c hc).ne, (f.fit.top.own ho c hc).ob⟩, f.fit.top.hu, f.fit.top.calm⟩,
    f.fit.same, f.fit.hN, f.fit.nd, f.fit.sc, f.fit.cel, passes_call tk fun _ _ _ _ z => z⟩, po, tk, f.st0, f.fr0, f.kind, fun x n h k => ⟨(f.rai x n h k).ex⟩, ⟨f.exc.sub, fun c hc => ⟨(f.exc.xf c hc).T, (f.exc.xf c hc).no⟩⟩, f.xmg⟩
section
variable {P : Pr} {T : Tb} {W : Wd}
theorem ps_comp2 {X : Cx} {E : XK} {elt tg iter tg1 iter1 : Expr} {ifs ifs1 : List Expr} {scope : Scope} {own : List (Str × Nat)} {is is1 vs1 : List Nat} {src src1 : FS} {set set1 : Vl → Ev → Option Ev} {tt tt1 : FT} {te : FE} {y : Str} {i : Nat} {py pos spos : Pos} (hc : X.calm = true) (nd : X.N.Nodup) (hy : X.N[i]? = some y) (hyl : X.env.scope.names.lookup y = some .local)
    (hi : SIb X W E tg iter src) (ok : BlkOk X.N X.env.scope scope own)
    (hv : ∀ i ∈ vs1, i ∈ own.map (·.2)) (hg : InBlk X scope fun Y => SG Y W is tg set) (ht : InBlk X scope fun Y => PTs Y ifs (tT W E0 tt)) (hi1 : InBlk X scope fun Y => SIb Y W E0 tg1 iter1 src1) (hg1 : InBlk X scope fun Y => SG Y W is1 tg1 set1) (ht1 : InBlk X scope fun Y => PTs Y ifs1 (tT W E0 tt1))
    (he : InBlk X scope fun Y => SE Y W E0 elt te) (hsub : ∀ i ∈ is, i ∈ own.map (·.2)) (hsub1 : ∀ i ∈ is1, i ∈ vs1) (hn : notSet iter = true) (hn1 : notSet iter1 = true)
    (hl : swapsWith (.ListComp elt [⟨tg, iter, ifs, 0⟩, ⟨tg1, iter1, ifs1, 0⟩] scope pos) (some (.Name y py)) spos.line X.env = pure true) :
    PS X (.Assign [.Name y py] (.ListComp elt [⟨tg, iter, ifs, 0⟩, ⟨tg1, iter1, ifs1, 0⟩] scope pos) spos) (tAsg (tL W E (lComp2 src set tt src1 set1 tt1 te (own.map (·.2)) vs1)) (gName i)) :=
  asg_weak (ps_setLc2 hc nd hy hyl hl hi ok hv hg ht hi1 hg1 ht1 he (notSet_it hn) (fun _ => notSet_it hn1)) (comp2_t hsub hsub1)
theorem asgL_ok {X : Cx} {E : XK} {c : Cc} (f : SFit P T X W E c) {i : Nat} {l : Lx} {y : Str} {py pos : Pos} {e : Expr} (h : asgL T c i l y py e = true) : PS X (.Assign [.Name y py] e pos) (tAsg (tL W E (evL P l)) (gName i)) := by
  have nd : X.N.Nodup := f.fit.hN ▸ f.fit.nd
  simp only [asgL, Bool.and_eq_true, Bool.or_eq_true, decide_eq_true_eq] at h
  obtain ⟨h1, ⟨h2, h3⟩ | ⟨⟨⟨h2, h3⟩, h4⟩, h5⟩⟩ := h
  · have nm := sto_ok f.fit h3
    exact ps_set nd nm.hN nm.hx (sL f.fit l h1) (swF_ok (by rw [f.fit.sc]; exact h2)) nm.hf
  · have sw : swapsWith e (some (.Name y py)) pos.line X.env = pure true := swT_ok (by rw [f.fit.sc]; exact f.kind) (by rw [f.fit.sc]; exact h2)
    have yN : X.N[i]? = some y := by rw [f.fit.hN]; exact h3
    have yl : X.env.scope.names.lookup y = some .local := by rw [f.fit.sc]; exact h4
    have g := f.fit
    cases l with
    | comp t s q el vs =>
      unfold chkL at h1
      split at h1
      · rename_i ex tg it ifs a scope p
        simp only [Bool.and_eq_true, decide_eq_true_eq] at h1
        obtain ⟨⟨⟨⟨⟨⟨⟨k1, k2⟩, k3⟩, k4⟩, k6⟩, k7⟩, k8⟩, k9⟩ := h1
        subst k1
        have hv := ownV_snd (N := c.N) (vs := vs)
        show PS X _ (tAsg (tL W E (lComp (evS P s) t.set (evQ P q) (ev P el) vs)) (gName i))
        rw [← hv]
        exact ps_comp (pos := p) g.top.calm nd yN yl (swT_ok (by rw [g.sc]; exact f.kind) (by rw [g.sc]; exact h2)) (sS g s k3).2 (blkOk_by (by rw [g.hN, g.sc]; exact k4)) (fun s' H C cl fp => tgt_ok (g.blk scope s' H C cl fp) k7) (fun s' H C cl fp => sQ (g.blk scope s' H C cl fp) q k8)
          (fun s' H C cl fp => sE (g.blk scope s' H C cl fp) false el k9) (by rw [hv]; exact sub_ok k6) k2 sw
      · cases h1
    | comp2 t s q t1 s1 q1 el vs vs1 =>
      unfold chkL at h1
      split at h1
      · rename_i ex tg it ifs a tg1 it1 ifs1 a1 scope p
        simp only [Bool.and_eq_true, decide_eq_true_eq] at h1
        obtain ⟨⟨⟨⟨⟨⟨⟨⟨⟨⟨⟨⟨⟨⟨k1, k1b⟩, k2⟩, k2b⟩, k3⟩, k4⟩, k6⟩, k6b⟩, k6c⟩, k7⟩, k8⟩, k9⟩, k10⟩, k11⟩, k12⟩ := h1
        subst k1; subst k1b
        have hv := ownV_snd (N := c.N) (vs := vs)
        show PS X _ (tAsg (tL W E (lComp2 (evS P s) t.set (evQ P q) (evS P s1) t1.set (evQ P q1) (ev P el) vs vs1)) (gName i))
        rw [← hv]
        exact ps_comp2 g.top.calm nd yN yl (sS g s k3).2 (blkOk_by (by rw [g.hN, g.sc]; exact k4)) (by rw [hv]; exact sub_ok k6) (fun s' H C cl fp => tgt_ok (g.blk scope s' H C cl fp) k7) (fun s' H C cl fp => sQ (g.blk scope s' H C cl fp) q k8)
          (fun s' H C cl fp => (sS (g.blk scope s' H C cl fp) s1 k9).2) (fun s' H C cl fp => tgt_ok (g.blk scope s' H C cl fp) k10) (fun s' H C cl fp => sQ (g.blk scope s' H C cl fp) q1 k11)
          (fun s' H C cl fp => sE (g.blk scope s' H C cl fp) false el k12) (by rw [hv]; exact sub_ok k6b) (sub_ok k6c) k2 k2b sw
      · cases h1
    | _ => cases h5
theorem asgE_ok {X : Cx} {E : XK} {c : Cc} (f : SFit P T X W E c) {i : Nat} {x : Ex} {y : Str} {py pos : Pos} {e : Expr} (h : asgE T c i x y py e = true) : SS X W E (.Assign [.Name y py] e pos) (sSet i (ev P x)) := by
  have nd : X.N.Nodup := f.fit.hN ▸ f.fit.nd
  have plain : ∀ {x : Ex}, (swF e y c.sc && stoB c i y && chkE T c false x e) = true → SS X W E (.Assign [.Name y py] e pos) (sSet i (ev P x)) := fun {x} h => by
    simp only [Bool.and_eq_true] at h
    obtain ⟨⟨h1, h2⟩, h3⟩ := h
    have nm := sto_ok f.fit h2
    exact ps_weak (ps_set nd nm.hN nm.hx (sE f.fit false x h3) (swF_ok (by rw [f.fit.sc]; exact h1)) nm.hf) set_t
  cases x with
  | lst l => exact ps_weak (asg_weak (asgL_ok f h) lst_t) set_t
  | cell l => exact ps_weak (asg_weak (asgL_ok f h) cell_t) set_t
  | dct t s q k v vs =>
    simp only [asgE, Bool.and_eq_true, Bool.or_eq_true, decide_eq_true_eq] at h
    obtain ⟨h1, ⟨h2, h3⟩ | ⟨⟨h2, h3⟩, h4⟩⟩ := h
    · exact plain (by simp only [Bool.and_eq_true]; exact ⟨⟨h2, h3⟩, h1⟩)
    · have sw : swapsWith e (some (.Name y py)) pos.line X.env = pure true := swT_ok (by rw [f.fit.sc]; exact f.kind) (by rw [f.fit.sc]; exact h2)
      have yN : X.N[i]? = some y := by rw [f.fit.hN]; exact h3
      have yl : X.env.scope.names.lookup y = some .local := by rw [f.fit.sc]; exact h4
      have g := f.fit
      unfold chkE at h1
      split at h1
      · rename_i kx vx tg it ifs a scope p
        simp only [Bool.and_eq_true, decide_eq_true_eq] at h1
        obtain ⟨⟨⟨⟨⟨⟨⟨⟨k1, k2⟩, k3⟩, k4⟩, k6⟩, k7⟩, k8⟩, k9⟩, k10⟩ := h1
        subst k1
        have hv := ownV_snd (N := c.N) (vs := vs)
        show SS X W E _ (sSet i (vDct (dComp (evS P s) t.set (evQ P q) (ev P k) (ev P v) vs)))
        rw [← hv]
        exact ss_setDc g.top.calm nd yN yl sw (sS g s k3).2 (blkOk_by (by rw [g.hN, g.sc]; exact k4)) (fun s' H C cl fp => tgt_ok (g.blk scope s' H C cl fp) k7) (fun s' H C cl fp => sQ (g.blk scope s' H C cl fp) q k8)
          (fun s' H C cl fp => sE (g.blk scope s' H C cl fp) false k k9) (fun s' H C cl fp => sE (g.blk scope s' H C cl fp) false v k10) (by rw [hv]; exact sub_ok k6) k2
      · cases h1
  | _ => exact plain h
theorem par_ok {X : Cx} {E : XK} {c : Cc} (f : SFit P T X W E c) {is : List Nat} {ts vs : List Expr} {fa : FA} {kt k2 : Nat} {pt pt2 pos : Pos} (h : parOk c is ts vs = true) (ha : SA X W E vs fa) : SS X W E (.Assign [.Tuple ts kt pt] (.Tuple vs k2 pt2) pos) (sPar is fa) := by
  have nd : X.N.Nodup := f.fit.hN ▸ f.fit.nd
  have kd : X.env.scope.kind = .function := by rw [f.fit.sc]; exact f.kind
  have loc : ∀ {i : Nat} {x : Str}, locB c i x = true → X.N[i]? = some x ∧ X.env.scope.names.lookup x = some .local := fun {i x} h => by
    simp only [locB, Bool.and_eq_true, decide_eq_true_eq] at h
    exact ⟨by rw [f.fit.hN]; exact h.1, by rw [f.fit.sc]; exact h.2⟩
  unfold parOk at h
  split at h
  · simp only [Bool.and_eq_true, decide_eq_true_eq] at h
    obtain ⟨⟨⟨⟨⟨h1, h2⟩, h3⟩, h4⟩, h5⟩, h6⟩ := h
    obtain ⟨a1, a2⟩ := loc h1
    obtain ⟨b1, b2⟩ := loc h2
    exact ss_par2 f.fit.top.calm nd a1 b1 h3 a2 b2 ha (swap2 kd a2 b2 h4 h5 h6)
  · simp only [Bool.and_eq_true, decide_eq_true_eq] at h
    obtain ⟨⟨⟨⟨⟨⟨⟨⟨⟨⟨⟨h1, h2⟩, h3⟩, h4⟩, h5⟩, h6⟩, h7⟩, h8⟩, h9⟩, h10⟩, h11⟩, h12⟩ := h
    obtain ⟨a1, a2⟩ := loc h1
    obtain ⟨b1, b2⟩ := loc h2
    obtain ⟨d1, d2⟩ := loc h3
    exact ss_par3 f.fit.top.calm nd a1 b1 d1 h4 h5 h6 a2 b2 d2 ha (swap3 kd a2 b2 d2 h7 h8 h9 h10 h11 h12)
  · cases h
theorem filt_lt {α β : Type} {f : α → Option β} : ∀ {l : List α} {a : α}, a ∈ l → f a = none → (l.filterMap f).length ≠ l.length
  | [], _, h, _ => by cases h
  | b :: l, a, h, e => by
    have le : ∀ l : List α, (l.filterMap f).length ≤ l.length := fun l => List.length_filterMap_le f l
    rw [List.filterMap_cons]
    rcases List.mem_cons.mp h with z | z
    · subst z
      rw [e]
      have := le l
      show (l.filterMap f).length ≠ l.length + 1
      omega
    · have ih := filt_lt z e
      cases q : f b with
      | none =>
        have := le l
        show (l.filterMap f).length ≠ l.length + 1
        omega
      | some y =>
        show (l.filterMap f).length + 1 ≠ l.length + 1
        omega
theorem noSw_ok {X : Cx} {ts : List Expr} {k : Nat} {p : Pos} {e : Expr} (h : noSw X.env.scope ts e = true) : swappedStores [.Tuple ts k p] e X.env = pure none := by
  unfold noSw at h
  split at h
  · rename_i vs k2 p2
    simp only [Bool.or_eq_true, Bool.not_eq_true'] at h
    unfold swappedStores
    rcases h with (h | h) | h
    · simp only [h]
      split
      · rfl
      · split
        · rfl
        · split
          · rfl
          · rfl
    · simp only [h, Bool.not_false, Bool.true_or]
      rfl
    · obtain ⟨t, ht, hl⟩ := List.any_eq_true.mp h
      cases t with
      | Name id q =>
        have hl : X.env.scope.names.lookup id ≠ some .local := of_decide_eq_true hl
        have kd : (X.env.kindOf id == some .local) = false := by
          have : X.env.kindOf id ≠ some .local := hl
          simpa using this
        simp only []
        split
        · rfl
        · split
          · rfl
          · refine (if_pos ?_).trans rfl
            simp only [Bool.or_eq_true, bne_iff_ne]
            exact .inl (filt_lt ht (by simp [kd]))
      | _ => cases hl
  · rename_i hne
    cases e <;> first | rfl | exact absurd rfl (hne _ _ _)
mutual
theorem sM : ∀ (m : Sm) {X : Cx} {E : XK} {c : Cc} (f : SFit P T X W E c) {s : Stmt}, chkM T c m s = true → SS X W E s (es P m)
  | .pass, X, E, c, f, s, h => by
    unfold chkM at h
    split at h
    · exact ss_pass
    · cases h
  | .brk, X, E, c, f, s, h => by
    unfold chkM at h
    split at h
    · exact ss_break
    · cases h
  | .cnt, X, E, c, f, s, h => by
    unfold chkM at h
    split at h
    · exact ss_cont
    · cases h
  | .ret x, X, E, c, f, s, h => by
    unfold chkM at h
    split at h
    · exact ss_ret (sE f.fit false x h)
    · cases h
  | .retN, X, E, c, f, s, h => by
    unfold chkM at h
    split at h
    · exact ss_retN
    · cases h
  | .ifs t a b, X, E, c, f, s, h => by
    unfold chkM at h
    split at h
    · simp only [Bool.and_eq_true] at h
      exact ss_if (sT f.fit t h.1.1).1 (sB a f h.1.2) (sB b f h.2)
    · cases h
  | .ex x, X, E, c, f, s, h => by
    unfold chkM at h
    split at h
    · simp only [Bool.and_eq_true] at h
      exact ss_expr (sE f.fit true x h.2) h.1
    · cases h
  | .set i x, X, E, c, f, s, h => by
    unfold chkM at h
    split at h
    · exact asgE_ok f h
    · cases h
  | .own i l, X, E, c, f, s, h => by
    unfold chkM at h
    split at h
    · exact ps_weak (asgL_ok f h) own_t
    · cases h
  | .app i x, X, E, c, f, s, h => by
    unfold chkM at h
    split at h
    · simp only [Bool.and_eq_true, decide_eq_true_eq] at h
      obtain ⟨⟨⟨⟨rfl, h2⟩, h3⟩, h4⟩, h5⟩ := h
      obtain ⟨a1, a2, a3, a4⟩ := var_ok f.fit h2
      exact ss_app a1 a2 a3 a4 (sE f.fit false x h5) h3 h4
    · cases h
  | .put i ix x, X, E, c, f, s, h => by
    unfold chkM at h
    split at h
    · simp only [Bool.and_eq_true] at h
      obtain ⟨⟨⟨⟨h1, h2⟩, h3⟩, h4⟩, h5⟩ := h
      obtain ⟨a1, a2, a3, a4⟩ := var_ok f.fit h1
      exact ss_put a1 a2 a3 a4 (sE f.fit false x h4) (sE f.fit true ix h5) h2 h3
    · cases h
  | .putR o ix x, X, E, c, f, s, h => by
    unfold chkM at h
    split at h
    · simp only [Bool.and_eq_true] at h
      obtain ⟨⟨⟨⟨h1, h2⟩, h3⟩, h4⟩, h5⟩ := h
      exact ss_putR (sE f.fit false x h4) (sE f.fit false o h3) (sE f.fit true ix h5) h1 h2
    · cases h
  | .putD o ix x, X, E, c, f, s, h => by
    unfold chkM at h
    split at h
    · simp only [Bool.and_eq_true] at h
      obtain ⟨⟨⟨⟨h1, h2⟩, h3⟩, h4⟩, h5⟩ := h
      exact ss_putD (by have := f.fit.top.hu; omega) (sE f.fit false x h4) (sE f.fit false o h3) (sE f.fit true ix h5) h1 h2
    · cases h
  | .ext i x, X, E, c, f, s, h => by
    unfold chkM at h
    split at h
    · simp only [Bool.and_eq_true, decide_eq_true_eq] at h
      obtain ⟨⟨⟨⟨rfl, h2⟩, h3⟩, h4⟩, h5⟩ := h
      obtain ⟨a1, a2, a3, a4⟩ := var_ok f.fit h2
      exact ss_ext a1 a2 a3 a4 (sE f.fit false x h5) h3 h4
    · cases h
  | .appX o x, X, E, c, f, s, h => by
    unfold chkM at h
    split at h
    · simp only [Bool.and_eq_true, decide_eq_true_eq] at h
      obtain ⟨⟨⟨⟨⟨rfl, h2⟩, h3⟩, h4⟩, h5⟩, h6⟩ := h
      exact ss_appX (sE f.fit false o h5) (sE f.fit false x h6) h2 h3 h4
    · cases h
  | .extX o x, X, E, c, f, s, h => by
    unfold chkM at h
    split at h
    · simp only [Bool.and_eq_true, decide_eq_true_eq] at h
      obtain ⟨⟨⟨⟨⟨rfl, h2⟩, h3⟩, h4⟩, h5⟩, h6⟩ := h
      exact ss_extX (sE f.fit false o h5) (sE f.fit false x h6) h2 h3 h4
    · cases h
  | .revX o, X, E, c, f, s, h => by
    unfold chkM at h
    split at h
    · simp only [Bool.and_eq_true, decide_eq_true_eq] at h
      obtain ⟨⟨⟨rfl, h2⟩, h3⟩, h4⟩ := h
      exact ss_revX (sE f.fit false o h4) h2 h3
    · cases h
  | .fld i g x, X, E, c, f, s, h => by
    unfold chkM at h
    split at h
    · simp only [Bool.and_eq_true, decide_eq_true_eq] at h
      obtain ⟨⟨⟨⟨rfl, h2⟩, h3⟩, h4⟩, h5⟩ := h
      obtain ⟨a1, a2, a3, a4⟩ := var_ok f.fit h3
      show SS X W E _ (sFldS P.flds i g (ev P x))
      rw [f.fit.same.flds]
      exact ss_fld a1 a2 a3 a4 (sE f.fit false x h5) h4 (f.fit.top.flds g h2)
    · cases h
  | .raise d a, X, E, c, f, s, h => by
    unfold chkM at h
    split at h
    · rename_i n p es cp sp
      simp only [Bool.and_eq_true, decide_eq_true_eq] at h
      obtain ⟨⟨⟨⟨⟨⟨h1, h2⟩, h3⟩, h4⟩, h5⟩, h6⟩, h7⟩ := h
      obtain ⟨g, dd⟩ := gl_ok f.fit h2
      obtain ⟨k1, k2⟩ := sA f.fit a h4
      rw [f.fit.same.txf] at h5
      have la := ev_len P a
      cases es with
      | nil => rw [← k2] at h6; simp at h6
      | cons b r => exact ss_raise f.fit.top.calm f.tk (f.rai _ _ h1 (by rw [← h5]; exact h6)) g dd k1 (by rw [la]; exact h5) (by rw [la]; exact h7) h3
    · cases h
  | .tri b hs, X, E, c, f, s, h => by
    unfold chkM at h
    split at h
    · rename_i xs es p
      simp only [Bool.and_eq_true, Bool.not_eq_true'] at h
      obtain ⟨⟨h1, h2⟩, h3⟩ := h
      cases es with
      | nil => cases h3
      | cons e0 es =>
        show SS X W E _ (sTry P.nexc P.xs P.xfl (eb P b) hs)
        rw [f.fit.same.nexc, f.fit.same.xs, f.fit.same.xfl]
        exact ss_try f.st0 f.fr0 (f.fit.hN ▸ f.fit.nd) f.tk (fun E' pn xe tk po => sB b (f.tr tk po) h1) f.exc f.xmg (by rw [f.fit.hN, f.fit.sc]; exact h2)
    · cases h
  | .for_ t r b, X, E, c, f, s, h => by
    unfold chkM at h
    split at h
    · simp only [Bool.and_eq_true] at h
      obtain ⟨⟨⟨h1, h2⟩, h3⟩, h4⟩ := h
      exact ss_for f.po f.fit.top.calm (sS f.fit r h2).1 (tgt_ok f.fit h3) (sB b f h4) (notSet_it h1)
    · cases h
  | .whl n t b, X, E, c, f, s, h => by
    unfold chkM at h
    split at h
    · simp only [Bool.and_eq_true] at h
      exact ss_while n f.po (sT f.fit t h.1).1 (sB b f h.2)
    · cases h
  | .par is a, X, E, c, f, s, h => by
    unfold chkM at h
    split at h
    · simp only [Bool.and_eq_true] at h
      exact par_ok f h.1 (sA f.fit a h.2).1
    · cases h
  | .unp t x, X, E, c, f, s, h => by
    unfold chkM at h
    split at h
    · simp only [Bool.and_eq_true] at h
      obtain ⟨⟨⟨h1, h2⟩, h3⟩, h4⟩ := h
      exact ss_unp (tgt_ok f.fit h3) (sE f.fit false x h4) h1 (noSw_ok (by rw [f.fit.sc]; exact h2))
    · cases h
  | .rel i m, X, E, c, f, s, h => by
    unfold chkM at h
    exact ss_rel (sM m f h)
theorem sB : ∀ (b : Bk) {X : Cx} {E : XK} {c : Cc} (f : SFit P T X W E c) {ss : List Stmt}, chkB T c b ss = true → SSs X W E ss (eb P b)
  | .nil, X, E, c, f, ss, h => by
    unfold chkB at h
    split at h
    · exact ss_nil
    · cases h
  | .cons m b, X, E, c, f, ss, h => by
    unfold chkB at h
    split at h
    · simp only [Bool.and_eq_true] at h
      exact ss_cons (sM m f h.1) (sB b f h.2)
    · cases h
end
end
end TW
set_option maxHeartbeats 6400000
namespace TW
open PySem PySem.Spec L2
open He (ga ma fAd SaysD DefD Fa)
/-- the law's classes: name, fields; exceptions: name, fields, the ones it is under (itself too) -/
structure Nm where
  cls : List (Str × List Str)
  exc : List (Str × List Str × List Nat)
def Nm.cn (n : Nm) (i : Nat) : Str := (n.cls[i]?.map (·.1)).getD Str.empty
def Nm.cf (n : Nm) (i : Nat) : List Str := (n.cls[i]?.map (·.2)).getD []
def Nm.en (n : Nm) (i : Nat) : Str := (n.exc[i]?.map (·.1)).getD Str.empty
def Nm.ef (n : Nm) (i : Nat) : List Str := (n.exc[i]?.map (·.2.1)).getD []
def Nm.ea (n : Nm) (i : Nat) : List Nat := (n.exc[i]?.map (·.2.2)).getD []
def Nm.xs (n : Nm) (c h : Nat) : Bool := (n.ea c).contains h
def Nm.wd (n : Nm) (K : PySem.W.Frag) (mg : Str → Option Value) : Wd := ⟨K, mg, fun i => ga K (n.cn i), n.cf, fun i => ga K (n.en i), n.ef⟩
def up (n : Nat) (p : Nat → Bool) : Bool := (List.range n).all p
theorem up_ok {n : Nat} {p : Nat → Bool} (h : up n p = true) (i : Nat) (hi : i < n) : p i = true := List.all_eq_true.mp h i (List.mem_range.mpr hi)
abbrev deq {α : Type} [DecidableEq α] (a b : α) : Bool := decide (a = b)
def instB (K : PySem.W.Frag) (C : Addr) : Bool := deq (PySem.W.findIn K (.ref C) "__class__") (some (some (.builtin "object.__class__"))) && deq (PySem.W.specialIn K (.builtin "object.__class__") "__get__") (some (some (.builtin "getset_descriptor.__get__"))) &&
  deq (PySem.W.takesIn K (.builtin "object.__class__")) (some true) && deq (PySem.W.mroIn K C (.type "object")) (some true)
def oexB (K : PySem.W.Frag) (C : Addr) : Bool := match K.lookup C with
  | some ⟨.type "type", _, .cls cd, sl⟩ => (match cd.mro, sl.toList with
    | .ref C' :: bm, [_, _, _, _, some (.builtin n), _] => C' == C && n == "ValueError.__new__" && !cd.hasDel && cd.hasDict && PySem.HandSPX.refsVE bm
    | _, _ => false)
  | _ => false
theorem oexB_ok {K : PySem.W.Frag} {C : Addr} (h : oexB K C = true) : ∃ nm q N bs bm sn sub ab col dd k0 k1 k2 k3 k5, K.lookup C = some (excClassObj nm q C N bs bm true sn sub ab col dd k0 k1 k2 k3 k5 "ValueError.__new__") ∧ PySem.HandSPX.refsVE bm = true := by
  unfold oexB at h
  split at h
  · rename_i dd cd sl ho
    split at h
    · rename_i C' bm k0 k1 k2 k3 n k5 hm hs
      simp only [Bool.and_eq_true, beq_iff_eq, Bool.not_eq_true'] at h
      obtain ⟨⟨⟨⟨rfl, rfl⟩, hdel⟩, hd⟩, ht⟩ := h
      obtain ⟨nm, bs, mro, ns, qn, hdc, sn, sub, ab, col, del⟩ := cd
      dsimp only at hm hdel hd
      subst hm hdel hd
      have hsl : sl = #[k0, k1, k2, k3, some (.builtin "ValueError.__new__"), k5] := by
        obtain ⟨l⟩ := sl
        simp only at hs
        rw [hs]
      subst hsl
      exact ⟨nm, qn, ns, bs, bm, sn, sub, ab, col, dd, k0, k1, k2, k3, k5, ho, ht⟩
    · cases h
  · cases h
/-- of an exception's class with an __init__ of its own -/
def excB (K : PySem.W.Frag) (C fI : Addr) : Bool := oexB K C && deq (PySem.W.findIn K (.ref C) "__setattr__") (some (some (.builtin "object.__setattr__"))) && deq (PySem.W.subIn K (.ref C) (.type "BaseException")) (some true) && deq (PySem.W.typeIn K (.ref C)) (some (.type "type")) && PySem.W.keepIn K (.ref C) &&
  deq (PySem.W.findIn K (.ref C) "__init__") (some (some (.ref fI))) && deq (PySem.W.typeIn K (.ref fI)) (some (.type "function"))
def clsB1 (K : PySem.W.Frag) (C fI : Addr) : Bool := PySem.W.plainGet K C Str.empty && PySem.W.hasDictIn K C && PySem.W.plainOver K C && deq (PySem.W.findIn K (.ref C) "__setattr__") (some (some (.builtin "object.__setattr__"))) &&
  PySem.W.makesIn K C && deq (PySem.W.findIn K (.ref C) "__init__") (some (some (.ref fI))) && PySem.W.isFn K (.ref fI) && PySem.W.keepIn K (.ref C)
def eqB1 (K : PySem.W.Frag) (C f : Addr) : Bool := deq (PySem.W.findIn K (.ref C) "__eq__") (some (some (.ref f))) && PySem.W.isFn K (.ref f) && deq (PySem.W.findIn K (.ref C) "__ne__") (some (some (.builtin "object.__ne__")))
/-- all that is looked at -/
def Nm.ok (n : Nm) (own : Bool) (K : PySem.W.Frag) : Bool :=
  up n.cls.length (fun i => clsB1 K (ga K (n.cn i)) (fAd K (n.cn i, some "__init__")) && instB K (ga K (n.cn i)) && (n.cf i).all (fun f => deq (PySem.W.findIn K (.ref (ga K (n.cn i))) f) (some none))) &&
  ((srcTags n.cls.length).all fun s => (clsTags n.cls.length).all fun t => deq (PySem.W.kitOne K (tgV (n.wd K fun _ => none) s) (tgV (n.wd K fun _ => none) t)) (some (tgSub s t))) &&
  up n.exc.length (fun i => xfB K (ga K (n.en i)) && (n.ef i).all (fun f => deq (PySem.W.findIn K (.ref (ga K (n.en i))) f) (some none)) && (up n.exc.length fun h => deq (PySem.W.exmOne K (.ref (ga K (n.en i))) (.ref (ga K (n.en h)))) (some (n.xs i h))) &&
    ((n.ef i).isEmpty || excB K (ga K (n.en i)) (fAd K (n.en i, some "__init__")))) &&
  (!own || up n.cls.length fun i => eqB1 K (ga K (n.cn i)) (fAd K (n.cn i, some "__eq__")) && up n.cls.length fun j => PySem.W.notFirst K (ga K (n.cn i)) (.ref (ga K (n.cn j))))
def noList (K : PySem.W.Frag) : PySem.W.Frag := K.filter fun p => !(p.2.cls == .type "list")
theorem lookup_memA : ∀ {l : List (Addr × Obj)} {a : Addr} {o : Obj}, l.lookup a = some o → (a, o) ∈ l
  | [], _, _, h => by cases h
  | (b, u) :: l, a, o, h => by
    rw [List.lookup_cons] at h
    cases e : (a == b) with
    | true =>
      rw [e] at h
      cases h
      rw [eq_of_beq e]
      exact List.mem_cons_self
    | false =>
      rw [e] at h
      exact List.mem_cons_of_mem _ (lookup_memA h)
theorem lookup_filter {K : List (Addr × Obj)} {p : Addr × Obj → Bool} {a : Addr} {o : Obj} (h : (K.filter p).lookup a = some o) : (a, o) ∈ K ∧ p (a, o) = true := List.mem_filter.mp (lookup_memA h)
def obsT (n : Nat) (fa : List Fa) (fn : List DefD) (ex : PySem.W.Frag → Bool) (g : Addr → Option Obj) : He.AlD :=
  let K := noList (He.frG g (He.asD g n))
  ((He.obsD fa fn K).1 && ex K, (He.obsD fa fn K).2)
theorem frG_mem {g : Addr → Option Obj} {a : Addr} {o : Obj} : ∀ {as : List Addr}, (a, o) ∈ He.frG g as → g a = some o
  | [], h => by cases h
  | b :: as, h => by
    unfold He.frG at h
    rw [List.filterMap_cons] at h
    cases e : g b with
    | none => rw [e] at h; exact frG_mem (as := as) h
    | some u =>
      rw [e] at h
      rcases List.mem_cons.mp h with z | z
      · cases z; exact e
      · exact frG_mem (as := as) z
def hookT (n : Nat) (fa : List Fa) (fn : List DefD) (ex : PySem.W.Frag → Bool) : PySem.W.Hook where
  α := He.AlD
  obs := fun s => obsT n fa fn ex s.heap.get?
  val := fun _ => He.valD fn
  says := fun _ h => ∃ K : PySem.W.Frag, K.In h ∧ SaysD fa fn K ∧ ex K = true ∧ ∀ a o, K.lookup a = some o → o.cls ≠ .type "list"
  of := fun _ s e => by
    refine ⟨noList (He.frG s.heap.get? (He.asD s.heap.get? n)), fun a o h => frG_mem (lookup_filter h).1, ?_, ?_, fun a o h => ?_⟩
    · have e1 := congrArg (fun z : He.AlD => z.1) e
      have e2 := congrArg (fun z : He.AlD => z.2) e
      have k := (He.ba (show ((He.obsD fa fn _).1 && ex _) = true from e1)).1
      exact Prod.ext k e2
    · have e1 := congrArg (fun z : He.AlD => z.1) e
      exact (He.ba (show ((He.obsD fa fn _).1 && ex _) = true from e1)).2
    · have k := (lookup_filter h).2
      simpa using k
  keeps := fun _ _ _ ⟨K, hK, c⟩ k => ⟨K, PySem.W.Frag.In.keeps hK k, c⟩
theorem obsT_eq {n : Nat} {fa : List Fa} {fn : List DefD} {ex : PySem.W.Frag → Bool} {g : Addr → Option Obj} {s : Shared} (h : ∀ a, g a = s.heap.get? a) : obsT n fa fn ex g = (hookT n fa fn ex).obs s := by
  have e : g = s.heap.get? := funext h
  rw [e] <;> rfl
end TW
set_option maxHeartbeats 6400000
namespace TW
open PySem PySem.Spec L2
open He (ga ma fAd SaysD DefD Fa)
structure DefX where
  d : DefD
  N : List Str
  ps : List Str
  bk : Bk
structure LawX where
  nm : Nm
  free : List Str
  cst : List (Str × Int)
  defs : List DefX
  inits : List DefX
  eqs : List DefX
  xin : List (Nat × DefX)
  kws : List (Nat × Kw)
  flds : List Str
  own : Bool
  ikw : List (Nat × Kw) := []
def badP (L : LawX) : Pr := ⟨fun _ _ _ => .bad, fun _ _ _ => .bad, fun _ _ _ => .bad, L.nm.cf, L.nm.ef, L.nm.cls.length, L.nm.exc.length, L.nm.xs⟩
def LawX.step (L : LawX) (P1 P0 : Pr) : Pr where
  F := fun j xs st => match L.defs[j]? with
    | some x => runF x.N.length (eb P1 x.bk) xs st
    | none => .bad
  I := fun c xs st => match L.inits[c]? with
    | some x => runI c x.N.length (L.nm.cf c).length (eb P0 x.bk) xs st
    | none => .bad
  Q := fun c xs st => match L.eqs[c]? with
    | some x => runF x.N.length (eb P0 x.bk) xs st
    | none => .bad
  flds := L.nm.cf
  xfl := L.nm.ef
  ncls := L.nm.cls.length
  nexc := L.nm.exc.length
  xs := L.nm.xs
def LawX.prs (L : LawX) : Nat → Pr × Pr
  | 0 => (badP L, badP L)
  | n + 1 => (L.step (L.prs n).1 (L.prs n).2, (L.prs n).1)
def LawX.pr (L : LawX) (n : Nat) : Pr := (L.prs n).1
def idx {α : Type} (xs : List α) : List (α × Nat) := xs.zip (List.range xs.length)
def LawX.tb (L : LawX) : Tb where
  free := L.free
  cst := L.cst
  cls := idx (L.nm.cls.map (·.1))
  ncls := L.nm.cls.length
  exc := idx (L.nm.exc.map (·.1))
  nexc := L.nm.exc.length
  xs := L.nm.xs
  fns := L.defs.map fun x => (x.d.name, x.ps.length)
  kws := L.kws
  mks := (L.nm.cls.zip L.inits).map fun p => (p.1.1, p.2.ps.length - 1)
  ikws := L.ikw
  flds := L.flds
  own := L.own
  xfl := L.nm.ef
def DefX.cc (x : DefX) : Cc := ⟨x.N, x.d.scope, fun _ => true⟩
/-- what is looked at of a def -/
def DefX.ok (L : LawX) (x : DefX) : Bool := C8.scC x.N x.ps x.d.scope && x.d.dfl.isEmpty && x.d.kwd.isEmpty && chkB L.tb x.cc x.bk x.d.body
structure BndOk (x : DefX) : Prop where
  b : ∀ (kV doc pm : Value) (an : Option Addr) (cdv ct : Value) (us : List Value), us.length = x.ps.length → bindArgs (PySem.W.fnOf x.d.name x.d.qual x.d.params x.d.body x.d.scope .none kV doc pm an cdv ct) ⟨us, []⟩ = pure (x.ps.zip us)
structure KwdOk (x : DefX) (q : Kw) : Prop where
  b : ∀ (kV doc pm : Value) (an : Option Addr) (cdv ct : Value) (us ws : List Value), us.length = q.n → ws.length = q.ks.length → bindArgs (PySem.W.fnOf x.d.name x.d.qual x.d.params x.d.body x.d.scope .none kV doc pm an cdv ct) ⟨us, q.ks.zip ws⟩ = pure (x.ps.zip (arr q.perm (us ++ ws)))
def LawX.fn (L : LawX) : List DefD := L.defs.map (·.d) ++ (L.inits.map (·.d) ++ (L.eqs.map (·.d) ++ L.xin.map (·.2.d)))
def LawX.fa (L : LawX) : List Fa := L.defs.map (fun x => .glo x.d.name) ++ (L.nm.cls.map (fun p => .glo p.1) ++ (L.nm.exc.map (fun p => .glo p.1) ++ (L.free.map .free ++ L.cst.map fun p => .int p.1 p.2)))
/-- the shape of a law's data -/
structure LawOk (L : LawX) : Prop where
  defs : ∀ x ∈ L.defs, x.ok L = true ∧ BndOk x ∧ x.d.at_ = (x.d.name, none)
  inits : ∀ c x, L.inits[c]? = some x → x.ok L = true ∧ BndOk x ∧ x.d.at_ = (L.nm.cn c, some ("__init__" : Str)) ∧ 0 < x.ps.length
  eqs : ∀ c x, L.eqs[c]? = some x → x.ok L = true ∧ BndOk x ∧ x.d.at_ = (L.nm.cn c, some ("__eq__" : Str)) ∧ x.ps.length = 2
  xin : ∀ p ∈ L.xin, BndOk p.2 ∧ p.2.d.at_ = (L.nm.en p.1, some ("__init__" : Str)) ∧ C8.scC p.2.N p.2.ps p.2.d.scope = true ∧ p.2.d.dfl = [] ∧ p.2.ps.length = (L.nm.ef p.1).length + 1 ∧ setsB p.2.N p.2.d.scope p.2.d.body (slots (L.nm.ef p.1)) = true ∧ (L.nm.ef p.1).Nodup ∧ L.nm.ef p.1 ≠ [] ∧ (L.nm.ef p.1).length ≤ 800 ∧ p.1 < L.nm.exc.length
  xall : ∀ i, i < L.nm.exc.length → L.nm.ef i ≠ [] → ∃ x, (i, x) ∈ L.xin
  li : L.inits.length = L.nm.cls.length
  le : L.own = true → L.eqs.length = L.nm.cls.length
  kws : ∀ p ∈ L.kws, ∀ x, L.defs[p.1]? = some x → KwdOk x p.2
  ikws : ∀ p ∈ L.ikw, ∀ x, L.inits[p.1]? = some x → KwdOk x p.2
theorem idx_lookup {xs : List Str} {x : Str} {n : Nat} (h : (idx xs).lookup x = some n) : n < xs.length ∧ xs[n]? = some x := by
  have hm : (x, n) ∈ idx xs := PySem.mem_of_lookup h
  obtain ⟨i, e⟩ := List.mem_iff_getElem?.mp hm
  unfold idx at e
  rw [List.getElem?_zip_eq_some] at e
  obtain ⟨e1, e2⟩ := e
  have hi := (List.getElem?_eq_some_iff.mp e1).1
  rw [List.getElem?_range hi] at e2
  cases e2
  exact ⟨hi, e1⟩
section
variable {L : LawX} {K : PySem.W.Frag} {P : Program} {w : World} {mg : Str → Option Value} {base : Heap}
theorem says_fact {fa : List Fa} {fn : List DefD} (c : SaysD fa fn K) {f : Fa} (h : f ∈ fa) : f.ok K = true := by
  obtain ⟨i, e⟩ := List.mem_iff_getElem?.mp h
  exact c.fact i e
theorem says_def {fa : List Fa} {fn : List DefD} (c : SaysD fa fn K) {d : DefD} (h : d ∈ fn) : ∃ fd, FunD K d.name d.qual d.params d.body d.scope (d.dvs K) (d.kws K) (fAd K d.at_) fd := by
  obtain ⟨i, e⟩ := List.mem_iff_getElem?.mp h
  exact c.def_ i e
structure Stands (K : PySem.W.Frag) (x : DefX) (fd : FuncData) : Prop where
  ba : ∀ (s : Shared) (us : List Value), us.length = x.ps.length → BindsTo s fd ⟨us, []⟩ (x.ps.zip us)
  lk : ∃ (oc : Value) (od : Option Addr) (osl : Array (Option Value)), K.lookup (fAd K x.d.at_) = some ⟨oc, od, .func fd, osl⟩
/-- a def as it may be called -/
def Has (P : Program) (w : World) (K : PySem.W.Frag) (mg : Str → Option Value) (base : Heap) (m : Nat) (x : DefX) (sp : Sp) (kw : List Kw) : Prop :=
  ∃ fd, FnOk P w K mg base (L2.CX P w) m (fAd K x.d.at_) fd x.ps sp ∧ Binds K fd x.ps [] ∧ PySem.W.keepIn K (.ref (fAd K x.d.at_)) = true ∧ (∀ q ∈ kw, KwBind K fd x.ps q) ∧ Stands K x fd
structure Good (L : LawX) (K : PySem.W.Frag) (P : Program) (w : World) (mg : Str → Option Value) (base : Heap) (m : Nat) (Q : Pr) : Prop where
  same : Same Q L.tb (L.nm.wd K mg)
  F : ∀ j x, L.defs[j]? = some x → Has P w K mg base m x (spF (L.nm.wd K mg) x.ps.length (Q.F j)) ((L.kws.filter fun p => decide (p.1 = j)).map (·.2))
  I : ∀ c x, L.inits[c]? = some x → ∃ k, k + 1 ≤ m ∧ Has P w K mg base k x (spI (L.nm.wd K mg) c (x.ps.length - 1) (Q.I c)) ((L.ikw.filter fun p => decide (p.1 = c)).map (·.2))
  Q : ∀ c x, L.eqs[c]? = some x → ∃ k, k + 1 ≤ m ∧ Has P w K mg base k x (spF (L.nm.wd K mg) 2 (Q.Q c)) []
/-- of the def's object: what its binding and its body ask -/
theorem funD_ex {x : DefX} {fd : FuncData} (F : FunD K x.d.name x.d.qual x.d.params x.d.body x.d.scope (x.d.dvs K) (x.d.kws K) (fAd K x.d.at_) fd) (hd : x.d.dfl = []) (b : BndOk x) (kw : List Kw) (hk : ∀ q ∈ kw, KwdOk x q) :
    (∃ (oc : Value) (od : Option Addr) (kV doc pm : Value) (an : Option Addr) (cdv ct : Value) (osl : Array (Option Value)), fd = PySem.W.fnOf x.d.name x.d.qual x.d.params x.d.body x.d.scope .none kV doc pm an cdv ct ∧ K.lookup (fAd K x.d.at_) = some ⟨oc, od, .func fd, osl⟩ ∧ PySem.W.codeIn K cdv x.d.qual = true) ∧
      Binds K fd x.ps [] ∧ PySem.W.keepIn K (.ref (fAd K x.d.at_)) = true ∧ (∀ q ∈ kw, KwBind K fd x.ps q) ∧ Stands K x fd := by
  obtain ⟨oc, od, dV, kV, doc, pm, an, cdv, ct, osl, rfl, lk, hcd, hD, _⟩ := F.ex
  have e : dV = .none := by
    rcases hD with ⟨_, e⟩ | ⟨ne, _⟩
    · exact e
    · exact absurd (by unfold DefD.dvs; rw [hd]; rfl) ne
  subst e
  exact ⟨⟨oc, od, kV, doc, pm, an, cdv, ct, osl, rfl, lk, hcd⟩, .all (b.b kV doc pm an cdv ct), F.kp, fun q hq => kw_of ((hk q hq).b kV doc pm an cdv ct), ⟨fun s us hl => .of_eq (b.b kV doc pm an cdv ct us hl), oc, od, osl, lk⟩⟩
end
end TW
set_option maxHeartbeats 6400000
namespace TW
open PySem PySem.Spec L2
theorem units65 {k : Nat} {A : Around} (r : L2.Room k A) : A.units + 65 < cLine := by have := r.un; omega
open He (ga ma fAd SaysD DefD Fa)
section
variable {L : LawX} {K : PySem.W.Frag} {P : Program} {w : World} {mg : Str → Option Value} {base : Heap} {m : Nat} {Q : Pr}
theorem cn_at {n : Nm} {i : Nat} {x : Str} (h : (n.cls.map (·.1))[i]? = some x) : n.cn i = x := by
  rw [List.getElem?_map] at h
  unfold Nm.cn
  rw [h]
  rfl
theorem en_at {n : Nm} {i : Nat} {x : Str} (h : (n.exc.map (·.1))[i]? = some x) : n.en i = x := by
  rw [List.getElem?_map] at h
  unfold Nm.en
  rw [h]
  rfl
theorem glo_mg (KX : K.In base) (G : base.Ns mainGlobals mg) (c : SaysD L.fa L.fn K) {x : Str} (h : Fa.glo x ∈ L.fa) : mg x = some (.ref (ga K x)) := He.glo_ok KX G (says_fact c h)
theorem glo_def {x : DefX} (h : x ∈ L.defs) : Fa.glo x.d.name ∈ L.fa := List.mem_append_left _ (List.mem_map.mpr ⟨x, h, rfl⟩)
theorem glo_cls {i : Nat} {x : Str} (h : (L.nm.cls.map (·.1))[i]? = some x) : Fa.glo x ∈ L.fa := by
  obtain ⟨p, hp, e⟩ := List.mem_map.mp (List.mem_of_getElem? h)
  exact List.mem_append_right _ (List.mem_append_left _ (List.mem_map.mpr ⟨p, hp, by rw [e]⟩))
theorem glo_exc {i : Nat} {x : Str} (h : (L.nm.exc.map (·.1))[i]? = some x) : Fa.glo x ∈ L.fa := by
  obtain ⟨p, hp, e⟩ := List.mem_map.mp (List.mem_of_getElem? h)
  exact List.mem_append_right _ (List.mem_append_right _ (List.mem_append_left _ (List.mem_map.mpr ⟨p, hp, by rw [e]⟩)))
structure NmOk' (n : Nm) (own : Bool) (K : PySem.W.Frag) : Prop where
  cls : ∀ i, i < n.cls.length → clsB1 K (ga K (n.cn i)) (fAd K (n.cn i, some ("__init__" : Str))) = true ∧ instB K (ga K (n.cn i)) = true ∧ ∀ f ∈ n.cf i, PySem.W.findIn K (.ref (ga K (n.cn i))) f = some none
  kit : ∀ s ∈ srcTags n.cls.length, ∀ t ∈ clsTags n.cls.length, PySem.W.kitOne K (tgV (n.wd K fun _ => none) s) (tgV (n.wd K fun _ => none) t) = some (tgSub s t)
  exc : ∀ i, i < n.exc.length → XfC K (ga K (n.en i)) ∧ (∀ f ∈ n.ef i, PySem.W.findIn K (.ref (ga K (n.en i))) f = some none) ∧ (∀ h, h < n.exc.length → PySem.W.exmOne K (.ref (ga K (n.en i))) (.ref (ga K (n.en h))) = some (n.xs i h)) ∧
    (n.ef i ≠ [] → excB K (ga K (n.en i)) (fAd K (n.en i, some ("__init__" : Str))) = true)
  own : own = true → ∀ i, i < n.cls.length → eqB1 K (ga K (n.cn i)) (fAd K (n.cn i, some ("__eq__" : Str))) = true ∧ ∀ j, j < n.cls.length → PySem.W.notFirst K (ga K (n.cn i)) (.ref (ga K (n.cn j))) = true
theorem nm_ok {n : Nm} {own : Bool} (h : n.ok own K = true) : NmOk' n own K := by
  simp only [Nm.ok, Bool.and_eq_true] at h
  obtain ⟨⟨⟨h1, h2⟩, h3⟩, h4⟩ := h
  refine ⟨fun i hi => ?_, fun s hs t ht => ?_, fun i hi => ?_, fun ho i hi => ?_⟩
  · have k := up_ok h1 i hi
    simp only [Bool.and_eq_true, List.all_eq_true, decide_eq_true_eq] at k
    exact ⟨k.1.1, k.1.2, k.2⟩
  · exact of_decide_eq_true (List.all_eq_true.mp (List.all_eq_true.mp h2 s hs) t ht)
  · have k := up_ok h3 i hi
    simp only [Bool.and_eq_true, List.all_eq_true, decide_eq_true_eq, Bool.or_eq_true, List.isEmpty_iff] at k
    obtain ⟨⟨⟨k1, k2⟩, k3⟩, k4⟩ := k
    exact ⟨xfB_ok k1, k2, fun h hh => of_decide_eq_true (up_ok k3 h hh), fun ne => k4.resolve_left ne⟩
  · rw [ho] at h4
    simp only [Bool.not_true, Bool.false_or] at h4
    have k := up_ok h4 i hi
    simp only [Bool.and_eq_true] at k
    exact ⟨k.1, fun j hj => up_ok k.2 j hj⟩
theorem cls1 {C fI : Addr} (h : clsB1 K C fI = true) : Cls K C ∧ Mk K C fI := by
  simp only [clsB1, Bool.and_eq_true, decide_eq_true_eq] at h
  obtain ⟨⟨⟨⟨⟨⟨⟨h1, h2⟩, h3⟩, h4⟩, h5⟩, h6⟩, h7⟩, h8⟩ := h
  exact ⟨⟨h1, h2, h3, h4⟩, ⟨h5, h6, h7, h8⟩⟩
theorem tg_wd {n : Nm} {t : Tg} : tgV (n.wd K mg) t = tgV (n.wd K fun _ => none) t := by cases t <;> rfl
theorem sfit (LO : LawOk L) (KX : K.In base) (G : base.Ns mainGlobals mg) (c : SaysD L.fa L.fn K) (e : NmOk' L.nm L.own K) (g : Good L K P w mg base m Q) (hm : 2 ≤ m) (x : DefX) (hx : x.ok L = true)
    {f : Addr} {cdv : Value} {A : Around} {outer : List Env} {s : Shared} {H : Hp} {E : XK} (hr : Room m (A.deeper (PyProof.Rows.envOfC x.d.qual x.d.scope s.heap.objs.size f cdv))) :
    SFit Q L.tb (cxOf (L2.CX P w) P w K mg base x.N x.d.qual x.d.scope f cdv A outer s H E) (L.nm.wd K mg) E x.cc := by
  simp only [DefX.ok, Bool.and_eq_true] at hx
  have S := C8.fnScope_by hx.1.1.1
  have tk : Takes (cxOf (L2.CX P w) P w K mg base x.N x.d.qual x.d.scope f cdv A outer s H E) (fun cls d _ H => E cls d H) := takes_of rfl rfl rfl rfl
  have clsAt : ∀ {i : Nat} {y : Str}, (L.nm.cls.map (·.1))[i]? = some y → mg y = some (.ref (ga K (L.nm.cn i))) := fun {i y} h => by
    rw [cn_at h]; exact glo_mg KX G c (glo_cls h)
  have excAt : ∀ {i : Nat} {y : Str}, (L.nm.exc.map (·.1))[i]? = some y → mg y = some (.ref (ga K (L.nm.en i))) := fun {i y} h => by
    rw [en_at h]; exact glo_mg KX G c (glo_exc h)
  refine ⟨⟨⟨fun y hy => ?_, fun y i hy => ?_, fun y n hy => ?_, fun j n a h => ?_, fun p hp n a h => ?_, fun d n a h => ?_, fun p hp n a h => ?_, fun y hy k hk => ?_, fun k hk => ?_, fun s hs t ht => ?_, fun ho k hk => ⟨?_, fun d hd => (e.own ho k hk).2 d hd, ?_, ?_⟩, units65 hr, rfl⟩, g.same, rfl, S.nd, rfl, fun _ _ => rfl, passes_call tk fun _ _ _ _ z => z⟩, passes_of rfl, tk, rfl, rfl, S.kind, fun y n hy hl => ?_, ⟨fun k hk h hh => (e.exc k hk).2.2.1 h hh, fun k hk => ⟨(e.exc k hk).1, (e.exc k hk).2.1⟩⟩, fun y n hy => excAt (idx_lookup hy).2⟩
  · exact He.free_ok KX G (says_fact c (List.mem_append_right _ (List.mem_append_right _ (List.mem_append_right _ (List.mem_append_left _ (List.mem_map.mpr ⟨y, hy, rfl⟩))))))
  · exact He.int_ok KX G (says_fact c (List.mem_append_right _ (List.mem_append_right _ (List.mem_append_right _ (List.mem_append_right _ (List.mem_map.mpr ⟨(y, i), PySem.mem_of_lookup hy, rfl⟩))))))
  · exact clsAt (idx_lookup hy).2
  · have h' : (L.defs.map fun x => (x.d.name, x.ps.length))[j]? = some (n, a) := h
    rw [List.getElem?_map] at h'
    cases q : L.defs[j]? with
    | none => rw [q] at h'; cases h'
    | some y =>
      rw [q] at h'
      cases h'
      obtain ⟨fd, h1, h2, h3, _⟩ := g.F j y q
      have ym := List.mem_of_getElem? q
      have ea : fAd K y.d.at_ = ga K y.d.name := by rw [(LO.defs y ym).2.2]; rfl
      exact ⟨m, _, fd, y.ps, h1, hr, by rw [ea]; exact glo_mg KX G c (glo_def ym), h3, h2⟩
  · have h' : (L.defs.map fun x => (x.d.name, x.ps.length))[p.1]? = some (n, a) := h
    rw [List.getElem?_map] at h'
    cases q : L.defs[p.1]? with
    | none => rw [q] at h'; cases h'
    | some y =>
      rw [q] at h'
      cases h'
      obtain ⟨fd, h1, h2, h3, h4, _⟩ := g.F p.1 y q
      have ym := List.mem_of_getElem? q
      have ea : fAd K y.d.at_ = ga K y.d.name := by rw [(LO.defs y ym).2.2]; rfl
      exact ⟨m, _, fd, y.ps, h1, hr, by rw [ea]; exact glo_mg KX G c (glo_def ym), h3, h4 p.2 (List.mem_map.mpr ⟨p, List.mem_filter.mpr ⟨hp, by simp⟩, rfl⟩)⟩
  · have h' : ((L.nm.cls.zip L.inits).map fun p => (p.1.1, p.2.ps.length - 1))[d]? = some (n, a) := h
    rw [List.getElem?_map] at h'
    cases q : (L.nm.cls.zip L.inits)[d]? with
    | none => rw [q] at h'; cases h'
    | some p =>
      rw [q] at h'
      cases h'
      rw [List.getElem?_zip_eq_some] at q
      obtain ⟨q1, q2⟩ := q
      obtain ⟨k, hk, fd, h1, h2, h3, _⟩ := g.I d p.2 q2
      have hd : d < L.nm.cls.length := (List.getElem?_eq_some_iff.mp q1).1
      have hn : (L.nm.cls.map (·.1))[d]? = some p.1.1 := by rw [List.getElem?_map, q1]; rfl
      refine ⟨k, _, fd, p.2.ps, h1, hr.mono hk, clsAt hn, ?_, h2⟩
      rw [(LO.inits d p.2 q2).2.2.1]
      exact (cls1 (e.cls d hd).1).2
  · have h' : ((L.nm.cls.zip L.inits).map fun p => (p.1.1, p.2.ps.length - 1))[p.1]? = some (n, a) := h
    rw [List.getElem?_map] at h'
    cases q : (L.nm.cls.zip L.inits)[p.1]? with
    | none => rw [q] at h'; cases h'
    | some r =>
      rw [q] at h'
      cases h'
      rw [List.getElem?_zip_eq_some] at q
      obtain ⟨q1, q2⟩ := q
      obtain ⟨k, hk, fd, h1, h2, h3, h4, _⟩ := g.I p.1 r.2 q2
      have hd : p.1 < L.nm.cls.length := (List.getElem?_eq_some_iff.mp q1).1
      have hn : (L.nm.cls.map (·.1))[p.1]? = some r.1.1 := by rw [List.getElem?_map, q1]; rfl
      refine ⟨k, _, fd, r.2.ps, h1, hr.mono hk, clsAt hn, ?_, h4 p.2 (List.mem_map.mpr ⟨p, List.mem_filter.mpr ⟨hp, by simp⟩, rfl⟩)⟩
      rw [(LO.inits p.1 r.2 q2).2.2.1]
      exact (cls1 (e.cls p.1 hd).1).2
  · have hk' : y ∈ L.nm.cf k := hk
    have hl : k < L.nm.cls.length := by
      unfold Nm.cf at hk'
      cases q : L.nm.cls[k]? with
      | none => rw [q] at hk'; simp at hk'
      | some p => exact (List.getElem?_eq_some_iff.mp q).1
    obtain ⟨k1, _, k3⟩ := e.cls k hl
    exact ⟨(cls1 k1).1, k3 y hk'⟩
  · obtain ⟨k1, k2, _⟩ := e.cls k hk
    simp only [instB, Bool.and_eq_true, decide_eq_true_eq] at k2
    exact ⟨(cls1 k1).1, k2.1.1.1, k2.1.1.2, k2.1.2, k2.2⟩
  · unfold KitOk
    rw [tg_wd, tg_wd]
    exact e.kit s hs t ht
  · have hl : k < L.eqs.length := by rw [LO.le ho]; exact hk
    obtain ⟨k', hk', fd, h1, h2, h3, _⟩ := g.Q k _ (List.getElem?_eq_getElem hl)
    have ee := (e.own ho k hk).1
    simp only [eqB1, Bool.and_eq_true, decide_eq_true_eq] at ee
    refine ⟨k', _, fd, _, h1, hr.mono hk', h2, ?_, ?_⟩
    · rw [(LO.eqs k _ (List.getElem?_eq_getElem hl)).2.2.1]; exact ee.1.1
    · rw [(LO.eqs k _ (List.getElem?_eq_getElem hl)).2.2.1]; exact ee.1.2
  · have ee := (e.own ho k hk).1
    simp only [eqB1, Bool.and_eq_true, decide_eq_true_eq] at ee
    exact ee.2
  · obtain ⟨k1, k2, _⟩ := e.cls k hk
    simp only [instB, Bool.and_eq_true, decide_eq_true_eq] at k2
    exact k2.2
  · obtain ⟨hn, hy2⟩ := idx_lookup hy
    have hn : n < L.nm.exc.length := by rw [List.length_map] at hn; exact hn
    have ne : L.nm.ef n ≠ [] := fun z => by
      have hl' : 0 < (L.nm.ef n).length := hl
      rw [z] at hl'
      simp at hl'
    obtain ⟨x', hx'⟩ := LO.xall n hn ne
    obtain ⟨b1, b2, b3, b4, b5, b6, b7, b8, b9, _⟩ := LO.xin _ hx'
    have eb := (e.exc n hn).2.2.2 ne
    simp only [excB, Bool.and_eq_true, decide_eq_true_eq] at eb
    obtain ⟨⟨⟨⟨⟨⟨c1, c2⟩, c3⟩, c4⟩, c5⟩, c6⟩, c7⟩ := eb
    have T : OexC K (ga K (L.nm.en n)) := ⟨oexB_ok c1, c2, c3, c4, c5⟩
    obtain ⟨fd, F⟩ := says_def c (d := x'.d) (List.mem_append_right _ (List.mem_append_right _ (List.mem_append_right _ (List.mem_map.mpr ⟨_, hx', rfl⟩))))
    obtain ⟨⟨oc, od, kV, doc, pm, an, cd, ct, osl, rfl, lk, hcd⟩, bd, _⟩ := funD_ex F b4 b1 [] (fun q hq => by cases hq)
    have FX := fn_exc (P := P) (w := w) (mg := mg) (base := base) (CX := L2.CX P w) (k := 0) lk hcd (C8.fnScope_by b3) b5 b6 T (fun f hf => (e.exc n hn).2.1 f hf) b7 b8 b9
    refine ⟨1, _, _, x'.ps, FX, hr.mono hm, excAt hy2, T, ?_, ?_, bd⟩
    · have b2' : fAd K x'.d.at_ = fAd K (L.nm.en n, some ("__init__" : Str)) := by rw [b2]
      rw [b2']; exact c6
    · have b2' : fAd K x'.d.at_ = fAd K (L.nm.en n, some ("__init__" : Str)) := by rw [b2]
      rw [b2']; exact c7
end
end TW
set_option maxHeartbeats 6400000
namespace TW
open PySem PySem.Spec L2
open He (ga ma fAd SaysD DefD Fa)
section
variable {L : LawX} {K : PySem.W.Frag} {P : Program} {w : World} {mg : Str → Option Value} {base : Heap} {m : Nat}
theorem same_bad : Same (badP L) L.tb (L.nm.wd K mg) := ⟨rfl, rfl, rfl, rfl, rfl, rfl⟩
theorem same_step {P1 P0 : Pr} : Same (L.step P1 P0) L.tb (L.nm.wd K mg) := ⟨rfl, rfl, rfl, rfl, rfl, rfl⟩
theorem kw_in (LO : LawOk L) {j : Nat} {x : DefX} (h : L.defs[j]? = some x) : ∀ q ∈ (L.kws.filter fun p => decide (p.1 = j)).map (·.2), KwdOk x q := fun q hq => by
  obtain ⟨p, hp, rfl⟩ := List.mem_map.mp hq
  obtain ⟨h1, h2⟩ := List.mem_filter.mp hp
  have e : p.1 = j := of_decide_eq_true h2
  exact LO.kws p h1 x (by rw [e]; exact h)
theorem ikw_in (LO : LawOk L) {j : Nat} {x : DefX} (h : L.inits[j]? = some x) : ∀ q ∈ (L.ikw.filter fun p => decide (p.1 = j)).map (·.2), KwdOk x q := fun q hq => by
  obtain ⟨p, hp, rfl⟩ := List.mem_map.mp hq
  obtain ⟨h1, h2⟩ := List.mem_filter.mp hp
  have e : p.1 = j := of_decide_eq_true h2
  exact LO.ikws p h1 x (by rw [e]; exact h)
theorem in_defs {x : DefX} (h : x ∈ L.defs) : x.d ∈ L.fn := List.mem_append_left _ (List.mem_map.mpr ⟨x, h, rfl⟩)
theorem in_inits {x : DefX} (h : x ∈ L.inits) : x.d ∈ L.fn := List.mem_append_right _ (List.mem_append_left _ (List.mem_map.mpr ⟨x, h, rfl⟩))
theorem in_eqs {x : DefX} (h : x ∈ L.eqs) : x.d ∈ L.fn := List.mem_append_right _ (List.mem_append_right _ (List.mem_append_left _ (List.mem_map.mpr ⟨x, h, rfl⟩)))
theorem dfl_of {x : DefX} (h : x.ok L = true) : x.d.dfl = [] := by
  simp only [DefX.ok, Bool.and_eq_true, List.isEmpty_iff] at h
  exact h.1.1.2
theorem sc_of {x : DefX} (h : x.ok L = true) : L2.FnScope x.N x.ps x.d.scope := by
  simp only [DefX.ok, Bool.and_eq_true] at h
  exact C8.fnScope_by h.1.1.1
theorem chk_of {x : DefX} (h : x.ok L = true) : chkB L.tb x.cc x.bk x.d.body = true := by
  simp only [DefX.ok, Bool.and_eq_true] at h
  exact h.2
theorem void {fd : FuncData} {f : Addr} {ps : List Str} {sp : Sp} (h : ∀ vs H Q E, ¬ sp vs H Q E) : FnOk P w K mg base (L2.CX P w) m f fd ps sp := ⟨fun vs H Q E z => (h _ _ _ _ z).elim, fun A outer s H args us vs Q E _ _ _ _ z => (h _ _ _ _ z).elim⟩
theorem good_bad (LO : LawOk L) (c : SaysD L.fa L.fn K) (hm : 1 ≤ m) : Good L K P w mg base m (badP L) := by
  refine ⟨same_bad, fun j x h => ?_, fun d x h => ⟨0, hm, ?_⟩, fun d x h => ⟨0, hm, ?_⟩⟩
  · have xm := List.mem_of_getElem? h
    obtain ⟨o1, o2, _⟩ := LO.defs x xm
    obtain ⟨fd, F⟩ := says_def c (in_defs xm)
    obtain ⟨_, b, kp, kw⟩ := funD_ex F (dfl_of o1) o2 _ (kw_in LO h)
    exact ⟨fd, void fun vs H Q E ⟨_, _, _, _, _, _, _, z⟩ => z, b, kp, kw⟩
  · obtain ⟨o1, o2, _⟩ := LO.inits d x h
    obtain ⟨fd, F⟩ := says_def c (in_inits (List.mem_of_getElem? h))
    obtain ⟨_, b, kp, kw⟩ := funD_ex F (dfl_of o1) o2 _ (ikw_in LO h)
    exact ⟨fd, void fun vs H Q E ⟨_, _, _, _, _, _, _, _, _, _, _, _, z⟩ => z, b, kp, kw⟩
  · obtain ⟨o1, o2, _⟩ := LO.eqs d x h
    obtain ⟨fd, F⟩ := says_def c (in_eqs (List.mem_of_getElem? h))
    obtain ⟨_, b, kp, kw⟩ := funD_ex F (dfl_of o1) o2 [] (fun q hq => by cases hq)
    exact ⟨fd, void fun vs H Q E ⟨_, _, _, _, _, _, _, z⟩ => z, b, kp, kw⟩
theorem good_step (LO : LawOk L) (KX : K.In base) (G : base.Ns mainGlobals mg) (c : SaysD L.fa L.fn K) (e : NmOk' L.nm L.own K) {P1 P0 : Pr} (hm : 2 ≤ m) (g1 : Good L K P w mg base (m + 1) P1) (g0 : Good L K P w mg base m P0) :
    Good L K P w mg base (m + 2) (L.step P1 P0) := by
  refine ⟨same_step, fun j x h => ?_, fun d x h => ⟨m + 1, Nat.le_refl _, ?_⟩, fun d x h => ⟨m + 1, Nat.le_refl _, ?_⟩⟩
  · have xm := List.mem_of_getElem? h
    obtain ⟨o1, o2, _⟩ := LO.defs x xm
    obtain ⟨fd, F⟩ := says_def c (in_defs xm)
    obtain ⟨⟨oc, od, kV, doc, pm, an, cd, ct, osl, rfl, lk, hcd⟩, b, kp, kw⟩ := funD_ex F (dfl_of o1) o2 _ (kw_in LO h)
    refine ⟨_, ?_, b, kp, kw⟩
    have q : (L.step P1 P0).F j = runF x.N.length (eb P1 x.bk) := by
      funext xs st
      show (match L.defs[j]? with | some x => runF x.N.length (eb P1 x.bk) xs st | none => .bad) = _
      rw [h]
    rw [q]
    exact fn_body lk hcd (sc_of o1) fun A outer s H E hr => sB x.bk (sfit LO KX G c e g1 (by omega) x o1 hr) (chk_of o1)
  · obtain ⟨o1, o2, _, o4⟩ := LO.inits d x h
    obtain ⟨fd, F⟩ := says_def c (in_inits (List.mem_of_getElem? h))
    obtain ⟨⟨oc, od, kV, doc, pm, an, cd, ct, osl, rfl, lk, hcd⟩, b, kp, kw⟩ := funD_ex F (dfl_of o1) o2 _ (ikw_in LO h)
    refine ⟨_, ?_, b, kp, kw⟩
    have q : (L.step P1 P0).I d = runI d x.N.length (L.nm.cf d).length (eb P0 x.bk) := by
      funext xs st
      show (match L.inits[d]? with | some x => runI d x.N.length (L.nm.cf d).length (eb P0 x.bk) xs st | none => .bad) = _
      rw [h]
    rw [q]
    exact fn_init (W := L.nm.wd K mg) lk hcd (sc_of o1) o4 fun A outer s H E hr => sB x.bk (sfit LO KX G c e g0 hm x o1 hr) (chk_of o1)
  · obtain ⟨o1, o2, _, o4⟩ := LO.eqs d x h
    obtain ⟨fd, F⟩ := says_def c (in_eqs (List.mem_of_getElem? h))
    obtain ⟨⟨oc, od, kV, doc, pm, an, cd, ct, osl, rfl, lk, hcd⟩, b, kp, kw⟩ := funD_ex F (dfl_of o1) o2 [] (fun q hq => by cases hq)
    refine ⟨_, ?_, b, kp, kw⟩
    have q : (L.step P1 P0).Q d = runF x.N.length (eb P0 x.bk) := by
      funext xs st
      show (match L.eqs[d]? with | some x => runF x.N.length (eb P0 x.bk) xs st | none => .bad) = _
      rw [h]
    rw [q]
    have k : FnOk P w K mg base (L2.CX P w) (m + 1) (fAd K x.d.at_) _ x.ps (spF (L.nm.wd K mg) x.ps.length (runF x.N.length (eb P0 x.bk))) := fn_body lk hcd (sc_of o1) fun A outer s H E hr => sB x.bk (sfit LO KX G c e g0 hm x o1 hr) (chk_of o1)
    rw [o4] at k
    exact k
theorem good_pr (LO : LawOk L) (KX : K.In base) (G : base.Ns mainGlobals mg) (c : SaysD L.fa L.fn K) (e : NmOk' L.nm L.own K) : ∀ n, Good L K P w mg base (n + 3) (L.prs n).1 ∧ Good L K P w mg base (n + 2) (L.prs n).2
  | 0 => ⟨good_bad LO c (by omega), good_bad LO c (by omega)⟩
  | n + 1 => by
    obtain ⟨g1, g0⟩ := good_pr LO KX G c e n
    exact ⟨good_step LO KX G c e (by omega) g1 g0, g1⟩
/-- the law's promise -/
theorem law_ok {n j : Nat} {H : Hp} {a : Addr} {ns : List Int} (hl : ns.length ≤ 63) (ho : L2.Only H) (hS : SqL K H a (ns.map V.int)) (nl : ∀ a o, K.lookup a = some o → o.cls ≠ .type "list") {st : Sto} (res : (L.pr n).F j [.fro (ns.map .int)] [] = .ok (.bl true) st) :
    spF (L.nm.wd K mg) 1 ((L.pr n).F j) [.ref a] H (fun v _ => v = .bl true) fun _ _ _ => False := by
  have ofInts : ∀ {g : G} {ns : List Int}, Rs (L.nm.wd K mg) g H (ns.map .int) (ns.map V.int) := fun {g ns} => by
    induction ns with
    | nil => rfl
    | cons i r ih => exact ⟨_, _, rfl, rfl, ih⟩
  rcases hS with h | ⟨o, its, k, h1, h2, _⟩
  · have hf : ∃ o, H a = some (.frz o (.lst (ns.map V.int))) := by
      rcases h with h | h
      · rcases ho a with z | ⟨o, xs, z⟩
        · rw [z] at h; cases h
        · rw [z] at h; cases h
      · exact h
    obtain ⟨o, hf⟩ := hf
    refine ⟨⟨[], [], []⟩, [], [.fro (ns.map .int)], ⟨rfl, List.nodup_nil, fun n a o e => (by simp at e), fun a h => (by rcases h with h | h <;> cases h), fun a h => (by cases h), fun b vs h => ?_⟩, rfl, ?_, rfl, ?_⟩
    · rcases ho b with z | ⟨o', xs, z⟩
      · rw [z] at h; rcases h with h | h <;> cases h
      · rw [z] at h; rcases h with h | h <;> cases h
    · refine Rs.one ⟨a, o, ns.map V.int, rfl, ⟨fun z => (by cases z), fun z => (by cases z), fun z => (by cases z)⟩, hf, ?_, ofInts⟩
      rw [List.length_map, sizeLine_eq]; omega
    · rw [res]
      exact fun g' H' u _ _ r => r
  · exact absurd h2 (nl a o h1)
theorem law_F (LO : LawOk L) {n j : Nat} {x : DefX} (h : L.defs[j]? = some x) (KX : K.In base) (G : base.Ns mainGlobals mg) (c : SaysD L.fa L.fn K) (e : L.nm.ok L.own K = true) : Has P w K mg base (n + 3) x (spF (L.nm.wd K mg) x.ps.length ((L.pr n).F j)) ((L.kws.filter fun p => decide (p.1 = j)).map (·.2)) :=
  (good_pr LO KX G c (nm_ok e) n).1.F j x h
end
end TW
set_option maxHeartbeats 0
namespace K07
open PySem PySem.Spec L2 TW

def top (i : Nat) : Stmt := PySem.Challenge.pw_thinwire_k07_courses_judged.main.body.getD i (.Pass ⟨0, 0, 0, 0⟩)
def fArgs : Stmt → Arguments
  | .FunctionDef (args := a) .. => a
  | _ => ⟨[], [], none, [], [], none, []⟩
def fScope : Stmt → Scope
  | .FunctionDef (scope := s) .. => s
  | _ => ⟨.function, [], false, false, []⟩
def fBody : Stmt → List Stmt
  | .FunctionDef (body := b) .. => b
  | _ => []
def sub (i k : Nat) : Stmt := match top i with
  | .ClassDef (body := b) .. => b.getD k (.Pass ⟨0, 0, 0, 0⟩)
  | _ => .Pass ⟨0, 0, 0, 0⟩
abbrev f__wall : Nat := 0
abbrev f_is_whole : Nat := 1
abbrev f_is_between : Nat := 2
abbrev f_is_list : Nat := 3
abbrev f_is_list_of : Nat := 4
abbrev f_is_tuple_of : Nat := 5
abbrev f_are_between : Nat := 6
abbrev f_is_ascending : Nat := 7
abbrev f_is_states : Nat := 8
abbrev f_is_some_states : Nat := 9
abbrev f_is_sights : Nat := 10
abbrev f_check_begin_of : Nat := 11
abbrev f_is_steps : Nat := 12
abbrev f_check_begin : Nat := 13
abbrev f_is_entry : Nat := 14
abbrev f_cell_behind : Nat := 15
abbrev f_goes_on : Nat := 16
abbrev f_check_course : Nat := 17
abbrev f_all_states : Nat := 18
abbrev f_starts_behind : Nat := 19
abbrev f_is_course : Nat := 20
abbrev f_is_broken : Nat := 21
abbrev f_may_follow : Nat := 22
abbrev f__law_cell : Nat := 23
abbrev f__law_box : Nat := 24
abbrev f__law_take : Nat := 25
abbrev f__law_same : Nat := 26
abbrev f__law_is_number : Nat := 27
abbrev f__law_works : Nat := 28
abbrev f__law_wide : Nat := 29
abbrev f__law_made : Nat := 30
abbrev f__law_is_course : Nat := 31
abbrev f__law_codes : Nat := 32
abbrev f__law_walked : Nat := 33
abbrev f__law_bools : Nat := 34
abbrev f__law_spoilt : Nat := 35
abbrev f__law_told : Nat := 36
abbrev f__law_answer_right : Nat := 37
abbrev f__law_value_right : Nat := 38
abbrev f__law_begins_right : Nat := 39
abbrev f__law_begin : Nat := 40
abbrev f__law_works_right : Nat := 41
abbrev f__law_long_right : Nat := 42
abbrev f_law : Nat := 43
abbrev c_Works : Nat := 0
abbrev x_WireError : Nat := 0
abbrev x_InvalidActs : Nat := 1
abbrev x_InvalidBegin : Nat := 2
abbrev x_InvalidCourse : Nat := 3
abbrev x_InvalidDeeds : Nat := 4
abbrev x_InvalidSights : Nat := 5
abbrev x_InvalidSteps : Nat := 6
def b__wall : Bk := .cons (.whl 1000000 (.tr (.k (.bl true)))
   (.cons (.pass)
   (.nil)))
  (.nil)
def d__wall : DefX := ⟨⟨("_wall", none), "_wall", "_wall", fArgs (top 0), fBody (top 0), fScope (top 0), [], []⟩, ["k"], ["k"], b__wall⟩
def b_is_whole : Bk := .cons (.ret (.an (.isi [.int] (.v 0)) (.one (.nt (.isi [.bool] (.v 0))))))
  (.nil)
def d_is_whole : DefX := ⟨⟨("is_whole", none), "is_whole", "is_whole", fArgs (top 11), fBody (top 11), fScope (top 11), [], []⟩, ["value"], ["value"], b_is_whole⟩
def b_is_between : Bk := .cons (.ret (.an (.call f_is_whole (.cons (.v 0) (.nil))) (.one (.chn .le .le (.v 1) (.v 0) (.v 2)))))
  (.nil)
def d_is_between : DefX := ⟨⟨("is_between", none), "is_between", "is_between", fArgs (top 12), fBody (top 12), fScope (top 12), [], []⟩, ["value", "least", "most"], ["value", "least", "most"], b_is_between⟩
def b_is_list : Bk := .cons (.ret (.isi [.list, .tuple] (.v 0)))
  (.nil)
def d_is_list : DefX := ⟨⟨("is_list", none), "is_list", "is_list", fArgs (top 13), fBody (top 13), fScope (top 13), [], []⟩, ["value"], ["value"], b_is_list⟩
def b_is_list_of : Bk := .cons (.ret (.an (.call f_is_list (.cons (.v 0) (.nil))) (.one (.chn .le .le (.v 1) (.b1 .len (.v 0)) (.v 2)))))
  (.nil)
def d_is_list_of : DefX := ⟨⟨("is_list_of", none), "is_list_of", "is_list_of", fArgs (top 14), fBody (top 14), fScope (top 14), [], []⟩, ["value", "least", "most"], ["value", "least", "most"], b_is_list_of⟩
def b_is_tuple_of : Bk := .cons (.ret (.an (.isi [.tuple] (.v 0)) (.one (.cmp .eq (.b1 .len (.v 0)) (.v 1)))))
  (.nil)
def d_is_tuple_of : DefX := ⟨⟨("is_tuple_of", none), "is_tuple_of", "is_tuple_of", fArgs (top 15), fBody (top 15), fScope (top 15), [], []⟩, ["value", "many"], ["value", "many"], b_is_tuple_of⟩
def b_are_between : Bk := .cons (.ret (.b1 .all (.lst (.comp (.n 3) (.seq (.v 0)) (.no) (.call f_is_between (.cons (.v 3) (.cons (.v 1) (.cons (.v 2) (.nil))))) [3]))))
  (.nil)
def d_are_between : DefX := ⟨⟨("are_between", none), "are_between", "are_between", fArgs (top 16), fBody (top 16), fScope (top 16), [], []⟩, ["values", "least", "most", "value"], ["values", "least", "most"], b_are_between⟩
def b_is_ascending : Bk := .cons (.ret (.b1 .all (.lst (.comp (.n 1) (.r1 (.bin .sub (.b1 .len (.v 0)) (.k (.int 1)))) (.no) (.cmp .lt (.ix (.v 0) (.v 1)) (.ix (.v 0) (.bin .add (.v 1) (.k (.int 1))))) [1]))))
  (.nil)
def d_is_ascending : DefX := ⟨⟨("is_ascending", none), "is_ascending", "is_ascending", fArgs (top 17), fBody (top 17), fScope (top 17), [], []⟩, ["items", "at"], ["items"], b_is_ascending⟩
def b_is_states : Bk := .cons (.ret (.an (.isi [.tuple] (.v 0)) (.an (.call f_are_between (.cons (.v 0) (.cons (.k (.int 0)) (.cons (.bin .sub (.v 1) (.k (.int 1))) (.nil))))) (.one (.call f_is_ascending (.cons (.v 0) (.nil)))))))
  (.nil)
def d_is_states : DefX := ⟨⟨("is_states", none), "is_states", "is_states", fArgs (top 18), fBody (top 18), fScope (top 18), [], []⟩, ["value", "many"], ["value", "many"], b_is_states⟩
def b_is_some_states : Bk := .cons (.ret (.an (.call f_is_states (.cons (.v 0) (.cons (.v 1) (.nil)))) (.one (.cmp .gt (.b1 .len (.v 0)) (.k (.int 0))))))
  (.nil)
def d_is_some_states : DefX := ⟨⟨("is_some_states", none), "is_some_states", "is_some_states", fArgs (top 19), fBody (top 19), fScope (top 19), [], []⟩, ["value", "many"], ["value", "many"], b_is_some_states⟩
def b_is_sights : Bk := .cons (.ret (.an (.isi [.tuple] (.v 0)) (.an (.chn .le .le (.v 1) (.b1 .len (.v 0)) (.v 2)) (.one (.call f_are_between (.cons (.v 0) (.cons (.k (.int 0)) (.cons (.g 31) (.nil)))))))))
  (.nil)
def d_is_sights : DefX := ⟨⟨("is_sights", none), "is_sights", "is_sights", fArgs (top 20), fBody (top 20), fScope (top 20), [], []⟩, ["value", "least", "most"], ["value", "least", "most"], b_is_sights⟩
def b_check_begin_of : Bk := .cons (.ifs (.not (.tr (.call f_is_some_states (.cons (.v 0) (.cons (.v 1) (.nil))))))
   (.cons (.raise x_InvalidBegin (.cons (.v 0) (.nil)))
   (.nil))
   (.nil))
  (.nil)
def d_check_begin_of : DefX := ⟨⟨("check_begin_of", none), "check_begin_of", "check_begin_of", fArgs (top 21), fBody (top 21), fScope (top 21), [], []⟩, ["begin", "many"], ["begin", "many"], b_check_begin_of⟩
def b_is_steps : Bk := .cons (.ifs (.not (.tr (.call f_is_list_of (.cons (.v 0) (.cons (.v 1) (.cons (.v 1) (.nil)))))))
   (.cons (.ret (.k (.bl false)))
   (.nil))
   (.nil))
  (.cons (.for_ (.n 4) (.seq (.v 0))
   (.cons (.ifs (.not (.tr (.call f_is_list_of (.cons (.v 4) (.cons (.v 2) (.cons (.v 2) (.nil)))))))
    (.cons (.ret (.k (.bl false)))
    (.nil))
    (.nil))
   (.cons (.for_ (.n 5) (.seq (.v 4))
    (.cons (.ifs (.not (.tr (.call f_is_list_of (.cons (.v 5) (.cons (.v 3) (.cons (.v 3) (.nil)))))))
     (.cons (.ret (.k (.bl false)))
     (.nil))
     (.nil))
    (.cons (.ifs (.not (.tr (.b1 .all (.lst (.comp (.n 6) (.seq (.v 5)) (.no) (.or (.cmp .is_ (.v 6) (.k .non)) (.one (.call f_is_some_states (.cons (.v 6) (.cons (.v 1) (.nil)))))) [6])))))
     (.cons (.ret (.k (.bl false)))
     (.nil))
     (.nil))
    (.nil))))
   (.nil))))
  (.cons (.ret (.k (.bl true)))
  (.nil)))
def d_is_steps : DefX := ⟨⟨("is_steps", none), "is_steps", "is_steps", fArgs (top 25), fBody (top 25), fScope (top 25), [], []⟩, ["steps", "states", "deeds", "acts", "rows", "row", "cell"], ["steps", "states", "deeds", "acts"], b_is_steps⟩
def b_check_begin : Bk := .cons (.ex (.call f_check_begin_of (.cons (.v 1) (.cons (.b1 .len (.fld "sights" (.v 0))) (.nil)))))
  (.nil)
def d_check_begin : DefX := ⟨⟨("check_begin", none), "check_begin", "check_begin", fArgs (top 27), fBody (top 27), fScope (top 27), [], []⟩, ["works", "begin"], ["works", "begin"], b_check_begin⟩
def b_is_entry : Bk := .cons (.ifs (.not (.tr (.call f_is_tuple_of (.cons (.v 1) (.cons (.k (.int 3)) (.nil))))))
   (.cons (.ret (.k (.bl false)))
   (.nil))
   (.nil))
  (.cons (.set 2 (.tup (.cons (.bin .sub (.b1 .len (.fld "sights" (.v 0))) (.k (.int 1))) (.cons (.bin .sub (.fld "deeds" (.v 0)) (.k (.int 1))) (.cons (.bin .sub (.fld "acts" (.v 0)) (.k (.int 1))) (.nil))))))
  (.cons (.ret (.b1 .all (.lst (.comp (.u [3, 4]) (.zip (.v 1) (.v 2)) (.no) (.call f_is_between (.cons (.v 3) (.cons (.k (.int 0)) (.cons (.v 4) (.nil))))) [3, 4]))))
  (.nil)))
def d_is_entry : DefX := ⟨⟨("is_entry", none), "is_entry", "is_entry", fArgs (top 30), fBody (top 30), fScope (top 30), [], []⟩, ["works", "value", "lasts", "one", "last"], ["works", "value"], b_is_entry⟩
def b_cell_behind : Bk := .cons (.unp (.u [2, 3, 4]) (.v 1))
  (.cons (.ret (.ix (.ix (.ix (.fld "steps" (.v 0)) (.v 2)) (.v 3)) (.v 4)))
  (.nil))
def d_cell_behind : DefX := ⟨⟨("cell_behind", none), "cell_behind", "cell_behind", fArgs (top 31), fBody (top 31), fScope (top 31), [], []⟩, ["works", "entry", "state", "deed", "act"], ["works", "entry"], b_cell_behind⟩
def b_goes_on : Bk := .cons (.ifs (.or (.not (.tr (.call f_is_list_of (.cons (.v 2) (.cons (.k (.int 0)) (.cons (.g 200) (.nil))))))) (.one (.not (.tr (.b1 .all (.lst (.comp (.n 3) (.seq (.v 2)) (.no) (.call f_is_entry (.cons (.v 0) (.cons (.v 3) (.nil)))) [3])))))))
   (.cons (.ret (.k (.bl false)))
   (.nil))
   (.nil))
  (.cons (.for_ (.n 3) (.seq (.v 2))
   (.cons (.ifs (.or (.cmp .is_ (.v 1) (.k .non)) (.one (.cmp .notinS (.ix (.v 3) (.k (.int 0))) (.v 1))))
    (.cons (.ret (.k (.bl false)))
    (.nil))
    (.nil))
   (.cons (.set 1 (.call f_cell_behind (.cons (.v 0) (.cons (.v 3) (.nil)))))
   (.nil))))
  (.cons (.ret (.k (.bl true)))
  (.nil)))
def d_goes_on : DefX := ⟨⟨("goes_on", none), "goes_on", "goes_on", fArgs (top 32), fBody (top 32), fScope (top 32), [], []⟩, ["works", "starts", "value", "entry"], ["works", "starts", "value"], b_goes_on⟩
def b_check_course : Bk := .cons (.ifs (.not (.tr (.call f_goes_on (.cons (.v 0) (.cons (.v 1) (.cons (.v 2) (.nil)))))))
   (.cons (.raise x_InvalidCourse (.cons (.v 2) (.nil)))
   (.nil))
   (.nil))
  (.nil)
def d_check_course : DefX := ⟨⟨("check_course", none), "check_course", "check_course", fArgs (top 33), fBody (top 33), fScope (top 33), [], []⟩, ["works", "starts", "course"], ["works", "starts", "course"], b_check_course⟩
def b_all_states : Bk := .cons (.ret (.tr1 (.b1 .len (.fld "sights" (.v 0)))))
  (.nil)
def d_all_states : DefX := ⟨⟨("all_states", none), "all_states", "all_states", fArgs (top 34), fBody (top 34), fScope (top 34), [], []⟩, ["works"], ["works"], b_all_states⟩
def b_starts_behind : Bk := .cons (.ret (.ife (.cmp .eq (.b1 .len (.v 2)) (.k (.int 0))) (.v 1) (.call f_cell_behind (.cons (.v 0) (.cons (.ix (.v 2) (.neg (.k (.int 1)))) (.nil))))))
  (.nil)
def d_starts_behind : DefX := ⟨⟨("starts_behind", none), "starts_behind", "starts_behind", fArgs (top 35), fBody (top 35), fScope (top 35), [], []⟩, ["works", "begin", "course"], ["works", "begin", "course"], b_starts_behind⟩
def b_is_course : Bk := .cons (.ex (.call f_check_begin (.cons (.v 0) (.cons (.v 1) (.nil)))))
  (.cons (.ret (.call f_goes_on (.cons (.v 0) (.cons (.v 1) (.cons (.v 2) (.nil))))))
  (.nil))
def d_is_course : DefX := ⟨⟨("is_course", none), "is_course", "is_course", fArgs (top 36), fBody (top 36), fScope (top 36), [], []⟩, ["works", "begin", "value"], ["works", "begin", "value"], b_is_course⟩
def b_is_broken : Bk := .cons (.set 2 (.call f_all_states (.cons (.v 0) (.nil))))
  (.cons (.ex (.call f_check_course (.cons (.v 0) (.cons (.v 2) (.cons (.v 1) (.nil))))))
  (.cons (.ret (.cmp .is_ (.call f_starts_behind (.cons (.v 0) (.cons (.v 2) (.cons (.v 1) (.nil))))) (.k .non)))
  (.nil)))
def d_is_broken : DefX := ⟨⟨("is_broken", none), "is_broken", "is_broken", fArgs (top 37), fBody (top 37), fScope (top 37), [], []⟩, ["works", "course", "begin"], ["works", "course"], b_is_broken⟩
def b_may_follow : Bk := .cons (.ex (.call f_check_begin (.cons (.v 0) (.cons (.v 1) (.nil)))))
  (.cons (.ex (.call f_check_course (.cons (.v 0) (.cons (.v 1) (.cons (.v 2) (.nil))))))
  (.cons (.set 3 (.call f_starts_behind (.cons (.v 0) (.cons (.v 1) (.cons (.v 2) (.nil))))))
  (.cons (.ifs (.cmp .is_ (.v 3) (.k .non))
   (.cons (.raise x_InvalidCourse (.cons (.v 2) (.nil)))
   (.nil))
   (.nil))
  (.cons (.ret (.v 3))
  (.nil)))))
def d_may_follow : DefX := ⟨⟨("may_follow", none), "may_follow", "may_follow", fArgs (top 38), fBody (top 38), fScope (top 38), [], []⟩, ["works", "begin", "course", "found"], ["works", "begin", "course"], b_may_follow⟩
def b__law_cell : Bk := .cons (.ret (.ife (.cmp .lt (.v 1) (.b1 .len (.v 0))) (.ix (.v 0) (.v 1)) (.bin .add (.bin .mul (.k (.int 6007)) (.v 1)) (.bin .mod (.b1 .int (.b1 .sum (.sl (.v 0) (.no) (.so (.k (.int 1)))))) (.k (.int 1000033))))))
  (.nil)
def d__law_cell : DefX := ⟨⟨("_law_cell", none), "_law_cell", "_law_cell", fArgs (top 40), fBody (top 40), fScope (top 40), [], []⟩, ["script", "k"], ["script", "k"], b__law_cell⟩
def b__law_box : Bk := .cons (.ret (.cell (.disp (.cons (.b1 .abs (.v 0)) (.cons (.cmp .ge (.b1 .abs (.v 0)) (.bin .pow (.k (.int 10)) (.k (.int 18)))) (.cons (.bin .mod (.b1 .int (.b1 .abs (.v 0))) (.k (.int 2147483629))) (.cons (.k (.int 0)) (.nil))))))))
  (.nil)
def d__law_box : DefX := ⟨⟨("_law_box", none), "_law_box", "_law_box", fArgs (top 41), fBody (top 41), fScope (top 41), [], []⟩, ["great"], ["great"], b__law_box⟩
def b__law_take : Bk := .cons (.ifs (.an (.tr (.ix (.v 0) (.k (.int 1)))) (.one (.cmp .gt (.ix (.v 0) (.k (.int 0))) (.k (.int 0)))))
   (.cons (.set 2 (.bin .mod (.b1 .int (.ix (.v 0) (.k (.int 0)))) (.v 1)))
   (.cons (.putR (.v 0) (.k (.int 0)) (.bin .fdiv (.ix (.v 0) (.k (.int 0))) (.v 1)))
   (.cons (.ret (.v 2))
   (.nil))))
   (.nil))
  (.cons (.putR (.v 0) (.k (.int 3)) (.bin .add (.ix (.v 0) (.k (.int 3))) (.k (.int 1))))
  (.cons (.set 3 (.bin .mod (.b1 .int (.bin .pow (.bin .add (.bin .add (.ix (.v 0) (.k (.int 2))) (.bin .mul (.k (.int 15485927)) (.ix (.v 0) (.k (.int 3))))) (.k (.int 179424929))) (.k (.int 5)))) (.k (.int 2147483647))))
  (.cons (.ret (.bin .mod (.b1 .int (.bin .fdiv (.bin .mod (.b1 .int (.bin .pow (.bin .add (.bin .mul (.v 3) (.k (.int 48271))) (.bin .mul (.k (.int 104729)) (.ix (.v 0) (.k (.int 3))))) (.k (.int 3)))) (.k (.int 2147483587))) (.k (.int 64)))) (.v 1)))
  (.nil))))
def d__law_take : DefX := ⟨⟨("_law_take", none), "_law_take", "_law_take", fArgs (top 42), fBody (top 42), fScope (top 42), [], []⟩, ["box", "many", "digit", "mixed"], ["box", "many"], b__law_take⟩
def b__law_same : Bk := .cons (.ifs (.or (.cmp .is_ (.v 1) (.k .non)) (.one (.tr (.isi [.bool] (.v 1)))))
   (.cons (.ret (.ife (.cmp .is_ (.v 1) (.k .non)) (.cmp .is_ (.v 0) (.k .non)) (.an (.isi [.bool] (.v 0)) (.one (.cmp .eq (.cmp .is_ (.v 0) (.k (.bl true))) (.cmp .is_ (.v 1) (.k (.bl true))))))))
   (.nil))
   (.nil))
  (.cons (.ifs (.tr (.isi [.int] (.v 1)))
   (.cons (.ret (.an (.isi [.int] (.v 0)) (.an (.nt (.isi [.bool] (.v 0))) (.one (.cmp .eq (.bin .sub (.b1 .int (.v 0)) (.v 1)) (.k (.int 0)))))))
   (.nil))
   (.nil))
  (.cons (.ifs (.tr (.isi [.str] (.v 1)))
   (.cons (.ret (.an (.isi [.str] (.v 0)) (.an (.cmp .eq (.b1 .len (.v 0)) (.b1 .len (.v 1))) (.one (.cmp .eq (.lst (.comp (.n 2) (.r1 (.b1 .len (.v 1))) (.so (.cmp .ne (.sl (.v 0) (.so (.v 2)) (.so (.bin .add (.v 2) (.k (.int 1))))) (.ix (.v 1) (.v 2)))) (.v 2) [2])) (.lst (.disp (.nil))))))))
   (.nil))
   (.nil))
  (.cons (.ifs (.tr (.isi [.dict] (.v 1)))
   (.cons (.ret (.an (.isi [.dict] (.v 0)) (.one (.cmp .eq (.b1 .len (.v 0)) (.b1 .len (.v 1))))))
   (.nil))
   (.nil))
  (.cons (.ifs (.or (.cmp .ne (.isi [.list] (.v 0)) (.isi [.list] (.v 1))) (.one (.cmp .ne (.isi [.tuple] (.v 0)) (.isi [.tuple] (.v 1)))))
   (.cons (.ret (.k (.bl false)))
   (.nil))
   (.nil))
  (.cons (.ret (.an (.cmp .eq (.b1 .len (.v 0)) (.b1 .len (.v 1))) (.one (.cmp .eq (.lst (.comp (.n 2) (.r1 (.b1 .len (.v 1))) (.so (.not (.tr (.call f__law_same (.cons (.ix (.v 0) (.v 2)) (.cons (.ix (.v 1) (.v 2)) (.nil))))))) (.v 2) [2])) (.lst (.disp (.nil)))))))
  (.nil))))))
def d__law_same : DefX := ⟨⟨("_law_same", none), "_law_same", "_law_same", fArgs (top 43), fBody (top 43), fScope (top 43), [], []⟩, ["told", "due", "k"], ["told", "due"], b__law_same⟩
def b__law_is_number : Bk := .cons (.ret (.an (.isi [.int] (.v 0)) (.an (.nt (.isi [.bool] (.v 0))) (.one (.chn .le .le (.v 1) (.v 0) (.v 2))))))
  (.nil)
def d__law_is_number : DefX := ⟨⟨("_law_is_number", none), "_law_is_number", "_law_is_number", fArgs (top 44), fBody (top 44), fScope (top 44), [], []⟩, ["value", "least", "most"], ["value", "least", "most"], b__law_is_number⟩
def b__law_works : Bk := .cons (.own 6 (.disp (.nil)))
  (.cons (.for_ (.n 7) (.r1 (.v 1))
   (.cons (.own 8 (.disp (.nil)))
   (.cons (.for_ (.n 9) (.r1 (.v 2))
    (.cons (.own 10 (.disp (.nil)))
    (.cons (.for_ (.n 11) (.r1 (.v 3))
     (.cons (.set 12 (.b1 .tuple (.lst (.comp (.n 13) (.r1 (.v 1)) (.so (.cmp .eq (.call f__law_take (.cons (.v 0) (.cons (.k (.int 3)) (.nil)))) (.k (.int 0)))) (.v 13) [13]))))
     (.cons (.app 10 (.ife (.cmp .eq (.call f__law_take (.cons (.v 0) (.cons (.v 5) (.nil)))) (.k (.int 0))) (.k .non) (.ife (.cmp .ne (.v 12) (.tup (.nil))) (.v 12) (.tup (.cons (.call f__law_take (.cons (.v 0) (.cons (.v 1) (.nil)))) (.nil))))))
     (.nil))))
    (.cons (.rel 10 (.app 8 (.v 10)))
    (.nil)))))
   (.cons (.rel 8 (.app 6 (.v 8)))
   (.nil)))))
  (.cons (.rel 6 (.ret (.lst (.disp (.cons (.v 2) (.cons (.v 3) (.cons (.b1 .tuple (.lst (.comp (.n 7) (.r1 (.v 1)) (.no) (.call f__law_take (.cons (.v 0) (.cons (.v 4) (.nil)))) [7]))) (.cons (.v 6) (.nil)))))))))
  (.nil)))
def d__law_works : DefX := ⟨⟨("_law_works", none), "_law_works", "_law_works", fArgs (top 45), fBody (top 45), fScope (top 45), [], []⟩, ["box", "states", "deeds", "acts", "sights", "bars", "rows", "state", "row", "deed", "cells", "act", "after", "x"], ["box", "states", "deeds", "acts", "sights", "bars"], b__law_works⟩
def b__law_wide : Bk := .cons (.unp (.u [1, 2]) (.tup (.cons (.call f__law_take (.cons (.v 0) (.cons (.k (.int 97)) (.nil)))) (.cons (.cell (.disp (.nil))) (.nil)))))
  (.cons (.for_ (.n 3) (.r1 (.k (.int 120)))
   (.cons (.own 4 (.disp (.nil)))
   (.cons (.for_ (.n 5) (.r1 (.k (.int 6)))
    (.cons (.set 6 (.lst (.comp (.n 7) (.r1 (.k (.int 6))) (.no) (.lst (.disp (.cons (.bin .mod (.b1 .int (.bin .add (.bin .add (.bin .add (.bin .mul (.v 3) (.k (.int 7))) (.bin .mul (.v 5) (.k (.int 5)))) (.bin .mul (.v 7) (.k (.int 11)))) (.v 1))) (.k (.int 9))) (.cons (.bin .mod (.b1 .int (.bin .add (.bin .add (.bin .add (.bin .mul (.v 3) (.k (.int 5))) (.v 5)) (.v 7)) (.v 1))) (.k (.int 120))) (.nil))))) [7])))
    (.cons (.app 4 (.lst (.comp (.u [8, 9]) (.seq (.v 6)) (.no) (.ife (.cmp .eq (.v 8) (.k (.int 0))) (.k .non) (.b1 .tuple (.sset (.lst (.disp (.cons (.v 9) (.cons (.bin .mod (.b1 .int (.bin .add (.v 3) (.k (.int 1)))) (.k (.int 120))) (.nil)))))))) [8, 9])))
    (.nil))))
   (.cons (.rel 4 (.app 2 (.v 4)))
   (.nil)))))
  (.cons (.ret (.lst (.disp (.cons (.k (.int 6)) (.cons (.k (.int 6)) (.cons (.b1 .tuple (.lst (.comp (.n 3) (.r1 (.k (.int 120))) (.no) (.bin .mod (.b1 .int (.bin .add (.bin .mul (.v 3) (.k (.int 13))) (.v 1))) (.k (.int 32))) [3]))) (.cons (.v 2) (.nil))))))))
  (.nil)))
def d__law_wide : DefX := ⟨⟨("_law_wide", none), "_law_wide", "_law_wide", fArgs (top 46), fBody (top 46), fScope (top 46), [], []⟩, ["box", "shift", "rows", "state", "row", "deed", "ones", "act", "one", "to"], ["box"], b__law_wide⟩
def b__law_made : Bk := .cons (.ret (.make c_Works (.cons (.ix (.v 0) (.k (.int 0))) (.cons (.ix (.v 0) (.k (.int 1))) (.cons (.ix (.v 0) (.k (.int 2))) (.cons (.lst (.comp (.n 2) (.seq (.ix (.v 0) (.k (.int 3)))) (.no) (.lst (.comp (.n 1) (.seq (.v 2)) (.no) (.lst (.of (.v 1))) [1])) [2])) (.nil)))))))
  (.nil)
def d__law_made : DefX := ⟨⟨("_law_made", none), "_law_made", "_law_made", fArgs (top 47), fBody (top 47), fScope (top 47), [], []⟩, ["works", "row", "rows"], ["works"], b__law_made⟩
def b__law_is_course : Bk := .cons (.ifs (.or (.not (.tr (.isi [.list, .tuple] (.v 2)))) (.one (.cmp .gt (.b1 .len (.v 2)) (.k (.int 200)))))
   (.cons (.ret (.k (.bl false)))
   (.nil))
   (.nil))
  (.cons (.set 3 (.v 1))
  (.cons (.for_ (.n 4) (.seq (.v 2))
   (.cons (.ifs (.or (.cmp .is_ (.v 3) (.k .non)) (.or (.not (.tr (.isi [.tuple] (.v 4)))) (.one (.cmp .ne (.b1 .len (.v 4)) (.k (.int 3))))))
    (.cons (.ret (.k (.bl false)))
    (.nil))
    (.nil))
   (.cons (.ifs (.cmp .ne (.lst (.comp (.n 5) (.seq (.v 4)) (.so (.not (.tr (.call f__law_is_number (.cons (.v 5) (.cons (.k (.int 0)) (.cons (.k (.int 200)) (.nil)))))))) (.v 5) [5])) (.lst (.disp (.nil))))
    (.cons (.ret (.k (.bl false)))
    (.nil))
    (.nil))
   (.cons (.unp (.u [6, 7, 8]) (.v 4))
   (.cons (.ifs (.or (.cmp .notinS (.v 6) (.v 3)) (.or (.cmp .ge (.v 7) (.ix (.v 0) (.k (.int 0)))) (.one (.cmp .ge (.v 8) (.ix (.v 0) (.k (.int 1)))))))
    (.cons (.ret (.k (.bl false)))
    (.nil))
    (.nil))
   (.cons (.set 3 (.ix (.ix (.ix (.ix (.v 0) (.k (.int 3))) (.v 6)) (.v 7)) (.v 8)))
   (.nil)))))))
  (.cons (.ret (.k (.bl true)))
  (.nil))))
def d__law_is_course : DefX := ⟨⟨("_law_is_course", none), "_law_is_course", "_law_is_course", fArgs (top 48), fBody (top 48), fScope (top 48), [], []⟩, ["works", "begin", "value", "starts", "entry", "one", "state", "deed", "act"], ["works", "begin", "value"], b__law_is_course⟩
def b__law_codes : Bk := .cons (.ret (.lst (.comp (.n 3) (.r1 (.bin .mul (.ix (.v 0) (.k (.int 0))) (.ix (.v 0) (.k (.int 1))))) (.so (.cmp .eq (.cmp .is_ (.ix (.ix (.ix (.ix (.v 0) (.k (.int 3))) (.v 1)) (.bin .fdiv (.v 3) (.ix (.v 0) (.k (.int 1))))) (.bin .mod (.b1 .int (.v 3)) (.ix (.v 0) (.k (.int 1))))) (.k .non)) (.v 2))) (.v 3) [3])))
  (.nil)
def d__law_codes : DefX := ⟨⟨("_law_codes", none), "_law_codes", "_law_codes", fArgs (top 49), fBody (top 49), fScope (top 49), [], []⟩, ["works", "state", "barred", "k"], ["works", "state", "barred"], b__law_codes⟩
def b__law_walked : Bk := .cons (.par [5, 6] (.cons (.cell (.disp (.nil))) (.cons (.v 2) (.nil))))
  (.cons (.for_ (.n 7) (.r1 (.v 3))
   (.cons (.set 8 (.ix (.v 6) (.call f__law_take (.cons (.v 0) (.cons (.b1 .len (.v 6)) (.nil))))))
   (.cons (.par [9, 10] (.cons (.call f__law_codes (.cons (.v 1) (.cons (.v 8) (.cons (.k (.bl false)) (.nil))))) (.cons (.call f__law_codes (.cons (.v 1) (.cons (.v 8) (.cons (.k (.bl true)) (.nil))))) (.nil))))
   (.cons (.set 11 (.ife (.an (.cmp .ne (.v 10) (.lst (.disp (.nil)))) (.one (.or (.cmp .eq (.v 9) (.lst (.disp (.nil)))) (.one (.an (.tr (.v 4)) (.one (.cmp .eq (.v 7) (.bin .sub (.v 3) (.k (.int 1)))))))))) (.v 10) (.v 9)))
   (.cons (.set 12 (.ix (.v 11) (.call f__law_take (.cons (.v 0) (.cons (.b1 .len (.v 11)) (.nil))))))
   (.cons (.app 5 (.tup (.cons (.v 8) (.cons (.bin .fdiv (.v 12) (.ix (.v 1) (.k (.int 1)))) (.cons (.bin .mod (.b1 .int (.v 12)) (.ix (.v 1) (.k (.int 1)))) (.nil))))))
   (.cons (.set 6 (.ix (.ix (.ix (.ix (.v 1) (.k (.int 3))) (.v 8)) (.bin .fdiv (.v 12) (.ix (.v 1) (.k (.int 1))))) (.bin .mod (.b1 .int (.v 12)) (.ix (.v 1) (.k (.int 1))))))
   (.cons (.ifs (.cmp .is_ (.v 6) (.k .non))
    (.cons (.ret (.v 5))
    (.nil))
    (.nil))
   (.nil)))))))))
  (.cons (.ret (.v 5))
  (.nil)))
def d__law_walked : DefX := ⟨⟨("_law_walked", none), "_law_walked", "_law_walked", fArgs (top 50), fBody (top 50), fScope (top 50), [], []⟩, ["box", "works", "begin", "ticks", "breaks", "course", "starts", "tick", "state", "free", "shut", "codes", "code"], ["box", "works", "begin", "ticks", "breaks"], b__law_walked⟩
def b__law_bools : Bk := .cons (.ret (.b1 .tuple (.lst (.comp (.n 1) (.seq (.v 0)) (.no) (.ife (.cmp .inS (.v 1) (.tup (.cons (.k (.int 0)) (.cons (.k (.int 1)) (.nil))))) (.ix (.lst (.disp (.cons (.k (.bl false)) (.cons (.k (.bl true)) (.nil))))) (.v 1)) (.v 1)) [1]))))
  (.nil)
def d__law_bools : DefX := ⟨⟨("_law_bools", none), "_law_bools", "_law_bools", fArgs (top 51), fBody (top 51), fScope (top 51), [], []⟩, ["entry", "one"], ["entry"], b__law_bools⟩
def b__law_spoilt : Bk := .cons (.par [3, 4, 5] (.cons (.call f__law_take (.cons (.v 0) (.cons (.k (.int 21)) (.nil)))) (.cons (.call f__law_take (.cons (.v 0) (.cons (.bin .add (.b1 .len (.v 2)) (.k (.int 1))) (.nil)))) (.cons (.b1 .len (.ix (.v 1) (.k (.int 2)))) (.nil)))))
  (.cons (.unp (.u [6, 7, 8]) (.ife (.cmp .lt (.v 4) (.b1 .len (.v 2))) (.ix (.v 2) (.v 4)) (.tup (.cons (.k (.int 0)) (.cons (.k (.int 0)) (.cons (.k (.int 0)) (.nil)))))))
  (.cons (.unp (.u [9, 10, 11]) (.tup (.cons (.lst (.of (.sl (.v 2) (.no) (.so (.v 4))))) (.cons (.lst (.of (.sl (.v 2) (.so (.bin .add (.v 4) (.k (.int 1)))) (.no)))) (.cons (.call f__law_take (.cons (.v 0) (.cons (.v 5) (.nil)))) (.nil))))))
  (.cons (.ifs (.cmp .lt (.v 3) (.k (.int 8)))
   (.cons (.set 12 (.lst (.disp (.cons (.tup (.cons (.v 11) (.cons (.v 7) (.cons (.v 8) (.nil))))) (.cons (.tup (.cons (.v 5) (.cons (.v 7) (.cons (.v 8) (.nil))))) (.cons (.tup (.cons (.neg (.k (.int 1))) (.cons (.v 7) (.cons (.v 8) (.nil))))) (.cons (.tup (.cons (.v 6) (.cons (.ix (.v 1) (.k (.int 0))) (.cons (.v 8) (.nil))))) (.cons (.tup (.cons (.v 6) (.cons (.v 7) (.cons (.ix (.v 1) (.k (.int 1))) (.nil))))) (.nil)))))))))
   (.cons (.set 12 (.bin .add (.v 12) (.lst (.disp (.cons (.tup (.cons (.v 6) (.cons (.neg (.k (.int 1))) (.cons (.v 8) (.nil))))) (.cons (.tup (.cons (.v 6) (.cons (.v 7) (.cons (.neg (.k (.int 1))) (.nil))))) (.cons (.tup (.cons (.v 6) (.cons (.call f__law_take (.cons (.v 0) (.cons (.ix (.v 1) (.k (.int 0))) (.nil)))) (.cons (.call f__law_take (.cons (.v 0) (.cons (.ix (.v 1) (.k (.int 1))) (.nil)))) (.nil))))) (.nil))))))))
   (.cons (.ret (.bin .add (.bin .add (.v 9) (.lst (.disp (.cons (.ix (.v 12) (.v 3)) (.nil))))) (.v 10)))
   (.nil))))
   (.nil))
  (.cons (.ifs (.cmp .lt (.v 3) (.k (.int 13)))
   (.cons (.ret (.bin .add (.bin .add (.v 9) (.lst (.disp (.cons (.ix (.lst (.disp (.cons (.lst (.disp (.cons (.v 6) (.cons (.v 7) (.cons (.v 8) (.nil)))))) (.cons (.tup (.cons (.v 6) (.cons (.v 7) (.nil)))) (.cons (.tup (.cons (.v 6) (.cons (.v 7) (.cons (.v 8) (.cons (.k (.int 0)) (.nil)))))) (.cons (.k .non) (.cons (.call f__law_bools (.cons (.tup (.cons (.v 6) (.cons (.v 7) (.cons (.v 8) (.nil))))) (.nil))) (.nil)))))))) (.bin .sub (.v 3) (.k (.int 8)))) (.nil))))) (.v 10)))
   (.nil))
   (.nil))
  (.cons (.ifs (.cmp .lt (.v 3) (.k (.int 17)))
   (.cons (.set 13 (.bin .add (.bin .add (.v 9) (.lst (.disp (.cons (.tup (.cons (.v 6) (.cons (.v 7) (.cons (.v 8) (.nil))))) (.nil))))) (.lst (.of (.sl (.v 2) (.so (.v 4)) (.no))))))
   (.cons (.ret (.ix (.lst (.disp (.cons (.bin .add (.v 9) (.v 10)) (.cons (.v 13) (.cons (.rev (.v 2)) (.cons (.bin .add (.lst (.of (.v 2))) (.lst (.disp (.cons (.tup (.cons (.v 11) (.cons (.v 7) (.cons (.v 8) (.nil))))) (.nil))))) (.nil))))))) (.bin .sub (.v 3) (.k (.int 13)))))
   (.nil)))
   (.nil))
  (.cons (.ifs (.cmp .eq (.v 3) (.k (.int 17)))
   (.cons (.ret (.b1 .tuple (.v 2)))
   (.nil))
   (.nil))
  (.cons (.ifs (.cmp .eq (.v 3) (.k (.int 18)))
   (.cons (.set 14 (.call f__law_codes (.cons (.v 1) (.cons (.v 6) (.cons (.k (.bl true)) (.nil))))))
   (.cons (.ret (.bin .add (.bin .add (.v 9) (.lst (.comp (.n 15) (.seq (.sl (.v 14) (.no) (.so (.k (.int 1))))) (.no) (.tup (.cons (.v 6) (.cons (.bin .fdiv (.v 15) (.ix (.v 1) (.k (.int 1)))) (.cons (.bin .mod (.b1 .int (.v 15)) (.ix (.v 1) (.k (.int 1)))) (.nil))))) [15]))) (.v 10)))
   (.nil)))
   (.nil))
  (.cons (.ifs (.cmp .eq (.v 3) (.k (.int 19)))
   (.cons (.ret (.bin .add (.v 9) (.lst (.comp (.n 15) (.seq (.sl (.call f__law_codes (.cons (.v 1) (.cons (.v 11) (.cons (.k (.bl true)) (.nil))))) (.no) (.so (.k (.int 1))))) (.no) (.tup (.cons (.v 11) (.cons (.bin .fdiv (.v 15) (.ix (.v 1) (.k (.int 1)))) (.cons (.bin .mod (.b1 .int (.v 15)) (.ix (.v 1) (.k (.int 1)))) (.nil))))) [15]))))
   (.nil))
   (.nil))
  (.cons (.ret (.ix (.lst (.disp (.cons (.k .non) (.cons (.k (.bl true)) (.cons (.k (.int 0)) (.cons (.k (.str "")) (.cons (.k (.str "course")) (.cons (.dct0) (.cons (.tup (.nil)) (.cons (.lst (.disp (.cons (.tup (.nil)) (.nil)))) (.cons (.lst (.disp (.cons (.k .non) (.nil)))) (.cons (.tup (.cons (.k (.int 0)) (.cons (.k (.int 0)) (.cons (.k (.int 0)) (.nil))))) (.nil))))))))))))) (.call f__law_take (.cons (.v 0) (.cons (.k (.int 10)) (.nil))))))
  (.nil))))))))))
def d__law_spoilt : DefX := ⟨⟨("_law_spoilt", none), "_law_spoilt", "_law_spoilt", fArgs (top 52), fBody (top 52), fScope (top 52), [], []⟩, ["box", "works", "course", "way", "at", "states", "state", "deed", "act", "here", "rest", "one", "wrong", "again", "shut", "code"], ["box", "works", "course"], b__law_spoilt⟩
def b__law_told : Bk := .cons (.tri (.cons (.ifs (.cmp .eq (.v 0) (.k (.int 0)))
    (.cons (.ret (.lst (.disp (.cons (.k (.str "told")) (.cons (.ife (.cmp .eq (.v 1) (.k (.int 0))) (.call f_is_course (.cons (.v 2) (.cons (.v 3) (.cons (.v 4) (.nil))))) (.callK f_is_course [2, 1, 0] (.nil) (.cons (.v 4) (.cons (.v 3) (.cons (.v 2) (.nil)))))) (.nil))))))
    (.nil))
    (.nil))
   (.cons (.ifs (.cmp .eq (.v 0) (.k (.int 1)))
    (.cons (.ret (.lst (.disp (.cons (.k (.str "told")) (.cons (.ife (.cmp .eq (.v 1) (.k (.int 0))) (.call f_is_broken (.cons (.v 2) (.cons (.v 4) (.nil)))) (.callK f_is_broken [1, 0] (.nil) (.cons (.v 4) (.cons (.v 2) (.nil))))) (.nil))))))
    (.nil))
    (.nil))
   (.cons (.ret (.lst (.disp (.cons (.k (.str "told")) (.cons (.ife (.cmp .eq (.v 1) (.k (.int 0))) (.call f_may_follow (.cons (.v 2) (.cons (.v 3) (.cons (.v 4) (.nil))))) (.callK f_may_follow [1, 2, 0] (.nil) (.cons (.v 4) (.cons (.v 2) (.cons (.v 3) (.nil)))))) (.nil))))))
   (.nil)))) [⟨"InvalidBegin", x_InvalidBegin, some 5, .lst [.c (.str "begin"), .f "given"]⟩, ⟨"InvalidCourse", x_InvalidCourse, some 5, .lst [.c (.str "course"), .f "given"]⟩, ⟨"WireError", x_WireError, none, .lst [.c (.str "another error"), .c (.non)]⟩])
  (.nil)
def d__law_told : DefX := ⟨⟨("_law_told", none), "_law_told", "_law_told", fArgs (top 53), fBody (top 53), fScope (top 53), [], []⟩, ["kind", "named", "made", "begin", "value", "error"], ["kind", "named", "made", "begin", "value"], b__law_told⟩
def b__law_answer_right : Bk := .cons (.set 6 (.ife (.tr (.isi [.list] (.v 4))) (.cell (.of (.v 4))) (.v 4)))
  (.cons (.rel 6 (.set 7 (.call f__law_told (.cons (.v 0) (.cons (.v 1) (.cons (.v 2) (.cons (.v 3) (.cons (.v 6) (.nil)))))))))
  (.cons (.rel 6 (.ifs (.or (.not (.tr (.call f__law_same (.cons (.v 7) (.cons (.v 5) (.nil)))))) (.one (.not (.tr (.call f__law_same (.cons (.v 6) (.cons (.v 4) (.nil))))))))
   (.cons (.ret (.k (.bl false)))
   (.nil))
   (.nil)))
  (.cons (.ifs (.an (.cmp .eq (.ix (.v 5) (.k (.int 0))) (.k (.str "course"))) (.one (.tr (.isi [.list] (.b 6)))))
   (.cons (.app 6 (.k (.int 7)))
   (.cons (.ret (.call f__law_same (.cons (.ix (.v 7) (.k (.int 1))) (.cons (.bin .add (.v 4) (.lst (.disp (.cons (.k (.int 7)) (.nil))))) (.nil)))))
   (.nil)))
   (.nil))
  (.cons (.ret (.k (.bl true)))
  (.nil)))))
def d__law_answer_right : DefX := ⟨⟨("_law_answer_right", none), "_law_answer_right", "_law_answer_right", fArgs (top 54), fBody (top 54), fScope (top 54), [], []⟩, ["kind", "named", "made", "begin", "value", "due", "passed", "told"], ["kind", "named", "made", "begin", "value", "due"], b__law_answer_right⟩
def b__law_value_right : Bk := .cons (.set 5 (.call f__law_is_course (.cons (.v 2) (.cons (.tr1 (.b1 .len (.ix (.v 2) (.k (.int 2))))) (.cons (.v 4) (.nil))))))
  (.cons (.set 6 (.call f__law_is_course (.cons (.v 2) (.cons (.v 3) (.cons (.v 4) (.nil))))))
  (.cons (.set 7 (.v 3))
  (.cons (.ifs (.an (.tr (.v 5)) (.one (.cmp .gt (.b1 .len (.v 4)) (.k (.int 0)))))
   (.cons (.unp (.u [8, 9, 10]) (.ix (.v 4) (.neg (.k (.int 1)))))
   (.cons (.set 7 (.ix (.ix (.ix (.ix (.v 2) (.k (.int 3))) (.v 8)) (.v 9)) (.v 10)))
   (.nil)))
   (.nil))
  (.cons (.ifs (.not (.tr (.call f__law_answer_right (.cons (.k (.int 0)) (.cons (.v 0) (.cons (.v 1) (.cons (.v 3) (.cons (.v 4) (.cons (.lst (.disp (.cons (.k (.str "told")) (.cons (.v 6) (.nil))))) (.nil))))))))))
   (.cons (.ret (.k (.bl false)))
   (.nil))
   (.nil))
  (.cons (.ifs (.not (.tr (.call f__law_answer_right (.cons (.k (.int 1)) (.cons (.bin .sub (.k (.int 1)) (.v 0)) (.cons (.v 1) (.cons (.v 3) (.cons (.v 4) (.cons (.ife (.tr (.v 5)) (.lst (.disp (.cons (.k (.str "told")) (.cons (.cmp .is_ (.v 7) (.k .non)) (.nil))))) (.lst (.disp (.cons (.k (.str "course")) (.cons (.v 4) (.nil)))))) (.nil))))))))))
   (.cons (.ret (.k (.bl false)))
   (.nil))
   (.nil))
  (.cons (.ret (.call f__law_answer_right (.cons (.k (.int 2)) (.cons (.v 0) (.cons (.v 1) (.cons (.v 3) (.cons (.v 4) (.cons (.ife (.an (.tr (.v 6)) (.one (.cmp .isnot (.v 7) (.k .non)))) (.lst (.disp (.cons (.k (.str "told")) (.cons (.v 7) (.nil))))) (.lst (.disp (.cons (.k (.str "course")) (.cons (.v 4) (.nil)))))) (.nil)))))))))
  (.nil)))))))
def d__law_value_right : DefX := ⟨⟨("_law_value_right", none), "_law_value_right", "_law_value_right", fArgs (top 55), fBody (top 55), fScope (top 55), [], []⟩, ["named", "made", "works", "begin", "value", "some", "mine", "after", "state", "deed", "act"], ["named", "made", "works", "begin", "value"], b__law_value_right⟩
def b__law_begins_right : Bk := .cons (.set 5 (.b1 .len (.ix (.v 3) (.k (.int 2)))))
  (.cons (.set 6 (.ix (.lst (.disp (.cons (.tup (.nil)) (.cons (.lst (.disp (.cons (.k (.int 0)) (.nil)))) (.cons (.tup (.cons (.k (.int 0)) (.cons (.k (.int 0)) (.nil)))) (.cons (.tup (.cons (.v 5) (.nil))) (.cons (.tup (.cons (.neg (.k (.int 1))) (.nil))) (.cons (.tup (.cons (.k (.bl true)) (.nil))) (.cons (.k .non) (.cons (.k (.str "0")) (.cons (.k (.int 0)) (.cons (.tup (.cons (.k (.int 1)) (.cons (.k (.int 0)) (.nil)))) (.cons (.tup (.cons (.k (.int 0)) (.cons (.v 5) (.nil)))) (.cons (.tup (.cons (.k (.int 0)) (.cons (.k .non) (.nil)))) (.nil))))))))))))))) (.call f__law_take (.cons (.v 0) (.cons (.k (.int 12)) (.nil))))))
  (.cons (.for_ (.n 7) (.seq (.lst (.disp (.cons (.k (.int 0)) (.cons (.k (.int 2)) (.nil))))))
   (.cons (.set 8 (.ife (.tr (.isi [.list] (.v 6))) (.cell (.of (.v 6))) (.v 6)))
   (.cons (.rel 8 (.set 9 (.call f__law_told (.cons (.v 7) (.cons (.v 1) (.cons (.v 2) (.cons (.v 8) (.cons (.v 4) (.nil)))))))))
   (.cons (.ifs (.not (.tr (.call f__law_same (.cons (.v 9) (.cons (.lst (.disp (.cons (.k (.str "begin")) (.cons (.v 6) (.nil))))) (.nil))))))
    (.cons (.ret (.k (.bl false)))
    (.nil))
    (.nil))
   (.cons (.ifs (.tr (.isi [.list] (.b 8)))
    (.cons (.app 8 (.k (.int 5)))
    (.cons (.ifs (.not (.tr (.call f__law_same (.cons (.ix (.v 9) (.k (.int 1))) (.cons (.bin .add (.v 6) (.lst (.disp (.cons (.k (.int 5)) (.nil))))) (.nil))))))
     (.cons (.ret (.k (.bl false)))
     (.nil))
     (.nil))
    (.nil)))
    (.nil))
   (.nil))))))
  (.cons (.ret (.k (.bl true)))
  (.nil))))
def d__law_begins_right : DefX := ⟨⟨("_law_begins_right", none), "_law_begins_right", "_law_begins_right", fArgs (top 56), fBody (top 56), fScope (top 56), [], []⟩, ["box", "named", "made", "works", "value", "states", "wrong", "kind", "passed", "told"], ["box", "named", "made", "works", "value"], b__law_begins_right⟩
def b__law_begin : Bk := .cons (.set 2 (.b1 .tuple (.lst (.comp (.n 3) (.r1 (.v 1)) (.so (.cmp .eq (.call f__law_take (.cons (.v 0) (.cons (.k (.int 2)) (.nil)))) (.k (.int 0)))) (.v 3) [3]))))
  (.cons (.ret (.ife (.cmp .ne (.v 2) (.tup (.nil))) (.v 2) (.tup (.cons (.call f__law_take (.cons (.v 0) (.cons (.v 1) (.nil)))) (.nil)))))
  (.nil))
def d__law_begin : DefX := ⟨⟨("_law_begin", none), "_law_begin", "_law_begin", fArgs (top 57), fBody (top 57), fScope (top 57), [], []⟩, ["box", "states", "some", "state"], ["box", "states"], b__law_begin⟩
def b__law_works_right : Bk := .cons (.set 6 (.call f__law_walked (.cons (.v 0) (.cons (.v 3) (.cons (.v 4) (.cons (.v 5) (.cons (.cmp .eq (.call f__law_take (.cons (.v 0) (.cons (.k (.int 2)) (.nil)))) (.k (.int 0))) (.nil))))))))
  (.cons (.set 7 (.call f__law_walked (.cons (.v 0) (.cons (.v 3) (.cons (.tr1 (.b1 .len (.ix (.v 3) (.k (.int 2))))) (.cons (.bin .add (.k (.int 1)) (.call f__law_take (.cons (.v 0) (.cons (.k (.int 3)) (.nil))))) (.cons (.cmp .eq (.call f__law_take (.cons (.v 0) (.cons (.k (.int 2)) (.nil)))) (.k (.int 0))) (.nil))))))))
  (.cons (.set 8 (.bin .add (.lst (.disp (.cons (.v 6) (.cons (.v 7) (.nil))))) (.lst (.comp (.n 9) (.r1 (.k (.int 6))) (.no) (.call f__law_spoilt (.cons (.v 0) (.cons (.v 3) (.cons (.v 6) (.nil))))) [9]))))
  (.cons (.set 8 (.bin .add (.v 8) (.lst (.disp (.cons (.sl (.v 6) (.no) (.so (.call f__law_take (.cons (.v 0) (.cons (.bin .add (.b1 .len (.v 6)) (.k (.int 1))) (.nil)))))) (.cons (.call f__law_spoilt (.cons (.v 0) (.cons (.v 3) (.cons (.v 7) (.nil))))) (.cons (.lst (.disp (.nil))) (.cons (.v 6) (.nil)))))))))
  (.cons (.for_ (.n 10) (.seq (.v 8))
   (.cons (.ifs (.not (.tr (.call f__law_value_right (.cons (.v 1) (.cons (.v 2) (.cons (.v 3) (.cons (.v 4) (.cons (.v 10) (.nil)))))))))
    (.cons (.ret (.k (.bl false)))
    (.nil))
    (.nil))
   (.nil)))
  (.cons (.ret (.call f__law_begins_right (.cons (.v 0) (.cons (.v 1) (.cons (.v 2) (.cons (.v 3) (.cons (.ix (.v 8) (.call f__law_take (.cons (.v 0) (.cons (.b1 .len (.v 8)) (.nil))))) (.nil))))))))
  (.nil))))))
def d__law_works_right : DefX := ⟨⟨("_law_works_right", none), "_law_works_right", "_law_works_right", fArgs (top 58), fBody (top 58), fScope (top 58), [], []⟩, ["box", "named", "made", "works", "begin", "ticks", "course", "other", "asked", "turn", "value"], ["box", "named", "made", "works", "begin", "ticks"], b__law_works_right⟩
def b__law_long_right : Bk := .cons (.set 5 (.lst (.disp (.cons (.k (.int 2)) (.cons (.k (.int 1)) (.cons (.b1 .tuple (.lst (.comp (.n 6) (.r1 (.k (.int 3))) (.no) (.call f__law_take (.cons (.v 0) (.cons (.k (.int 3)) (.nil)))) [6]))) (.cons (.lst (.disp (.cons (.lst (.disp (.cons (.lst (.disp (.cons (.tup (.cons (.k (.int 1)) (.nil))) (.nil)))) (.cons (.lst (.disp (.cons (.k .non) (.nil)))) (.nil))))) (.cons (.lst (.disp (.cons (.lst (.disp (.cons (.tup (.cons (.k (.int 2)) (.nil))) (.nil)))) (.cons (.lst (.disp (.cons (.tup (.cons (.k (.int 0)) (.cons (.k (.int 2)) (.nil)))) (.nil)))) (.nil))))) (.cons (.lst (.disp (.cons (.lst (.disp (.cons (.tup (.cons (.k (.int 0)) (.nil))) (.nil)))) (.cons (.lst (.disp (.cons (.tup (.cons (.k (.int 1)) (.nil))) (.nil)))) (.nil))))) (.nil)))))) (.nil))))))))
  (.cons (.set 7 (.call f__law_made (.cons (.v 5) (.nil))))
  (.cons (.set 8 (.call f__law_walked (.cons (.v 0) (.cons (.v 5) (.cons (.tup (.cons (.k (.int 0)) (.nil))) (.cons (.k (.int 201)) (.cons (.k (.bl false)) (.nil))))))))
  (.cons (.for_ (.n 9) (.seq (.lst (.disp (.cons (.bin .add (.k (.int 198)) (.call f__law_take (.cons (.v 0) (.cons (.k (.int 2)) (.nil))))) (.cons (.k (.int 200)) (.cons (.k (.int 201)) (.nil)))))))
   (.cons (.ifs (.not (.tr (.call f__law_value_right (.cons (.v 1) (.cons (.v 7) (.cons (.v 5) (.cons (.tup (.cons (.k (.int 0)) (.nil))) (.cons (.sl (.v 8) (.no) (.so (.v 9))) (.nil)))))))))
    (.cons (.ret (.k (.bl false)))
    (.nil))
    (.nil))
   (.cons (.ifs (.not (.tr (.call f__law_value_right (.cons (.v 1) (.cons (.v 7) (.cons (.v 5) (.cons (.tup (.cons (.k (.int 0)) (.nil))) (.cons (.call f__law_spoilt (.cons (.v 0) (.cons (.v 5) (.cons (.sl (.v 8) (.no) (.so (.v 9))) (.nil))))) (.nil)))))))))
    (.cons (.ret (.k (.bl false)))
    (.nil))
    (.nil))
   (.nil))))
  (.cons (.set 10 (.bin .add (.sl (.v 8) (.no) (.so (.k (.int 199)))) (.lst (.disp (.cons (.tup (.cons (.ix (.ix (.v 8) (.k (.int 199))) (.k (.int 0))) (.cons (.k (.int 1)) (.cons (.k (.int 0)) (.nil))))) (.nil))))))
  (.cons (.ret (.an (.call f__law_value_right (.cons (.v 1) (.cons (.v 7) (.cons (.v 5) (.cons (.tup (.cons (.k (.int 0)) (.nil))) (.cons (.v 10) (.nil))))))) (.one (.call f__law_value_right (.cons (.v 1) (.cons (.v 2) (.cons (.v 3) (.cons (.v 4) (.cons (.lst (.disp (.nil))) (.nil))))))))))
  (.nil))))))
def d__law_long_right : DefX := ⟨⟨("_law_long_right", none), "_law_long_right", "_law_long_right", fArgs (top 59), fBody (top 59), fScope (top 59), [], []⟩, ["box", "named", "made", "works", "begin", "ring", "state", "turned", "course", "many", "shut"], ["box", "named", "made", "works", "begin"], b__law_long_right⟩
def b_law : Bk := .cons (.for_ (.n 1) (.r1 (.b2 .max (.k (.int 1)) (.b2 .min (.k (.int 3)) (.b1 .len (.v 0)))))
   (.cons (.set 2 (.call f__law_box (.cons (.call f__law_cell (.cons (.v 0) (.cons (.v 1) (.nil)))) (.nil))))
   (.cons (.par [3, 4, 5] (.cons (.call f__law_take (.cons (.v 2) (.cons (.k (.int 2)) (.nil)))) (.cons (.call f__law_take (.cons (.v 2) (.cons (.k (.int 8)) (.nil)))) (.cons (.bin .add (.k (.int 1)) (.call f__law_take (.cons (.v 2) (.cons (.k (.int 6)) (.nil))))) (.nil)))))
   (.cons (.par [6, 7, 8] (.cons (.ix (.lst (.disp (.cons (.k (.int 3)) (.cons (.k (.int 1)) (.cons (.k (.int 5)) (.cons (.k (.int 2)) (.cons (.k (.int 8)) (.cons (.k (.int 4)) (.cons (.k (.int 12)) (.cons (.k (.int 6)) (.nil))))))))))) (.call f__law_take (.cons (.v 2) (.cons (.k (.int 8)) (.nil))))) (.cons (.bin .add (.k (.int 2)) (.call f__law_take (.cons (.v 2) (.cons (.k (.int 5)) (.nil))))) (.cons (.bin .add (.k (.int 2)) (.call f__law_take (.cons (.v 2) (.cons (.k (.int 4)) (.nil))))) (.nil)))))
   (.cons (.set 9 (.call f__law_works (.cons (.v 2) (.cons (.v 5) (.cons (.bin .add (.k (.int 1)) (.call f__law_take (.cons (.v 2) (.cons (.k (.int 3)) (.nil))))) (.cons (.bin .add (.k (.int 1)) (.call f__law_take (.cons (.v 2) (.cons (.k (.int 3)) (.nil))))) (.cons (.bin .add (.k (.int 1)) (.call f__law_take (.cons (.v 2) (.cons (.k (.int 3)) (.nil))))) (.cons (.v 7) (.nil)))))))))
   (.cons (.set 10 (.call f__law_works (.cons (.v 2) (.cons (.v 8) (.cons (.bin .add (.k (.int 1)) (.call f__law_take (.cons (.v 2) (.cons (.k (.int 2)) (.nil))))) (.cons (.bin .add (.k (.int 1)) (.call f__law_take (.cons (.v 2) (.cons (.k (.int 3)) (.nil))))) (.cons (.k (.int 2)) (.cons (.k (.int 4)) (.nil)))))))))
   (.cons (.set 9 (.ife (.an (.cmp .eq (.v 4) (.k (.int 0))) (.one (.cmp .eq (.v 1) (.k (.int 0))))) (.call f__law_wide (.cons (.v 2) (.nil))) (.v 9)))
   (.cons (.par [11, 12] (.cons (.call f__law_made (.cons (.v 9) (.nil))) (.cons (.call f__law_made (.cons (.v 10) (.nil))) (.nil))))
   (.cons (.par [13, 14] (.cons (.call f__law_begin (.cons (.v 2) (.cons (.b1 .len (.ix (.v 9) (.k (.int 2)))) (.nil)))) (.cons (.call f__law_begin (.cons (.v 2) (.cons (.v 8) (.nil)))) (.nil))))
   (.cons (.ifs (.or (.not (.tr (.call f__law_works_right (.cons (.v 2) (.cons (.v 3) (.cons (.v 11) (.cons (.v 9) (.cons (.v 13) (.cons (.v 6) (.nil)))))))))) (.one (.not (.tr (.call f__law_works_right (.cons (.v 2) (.cons (.bin .sub (.k (.int 1)) (.v 3)) (.cons (.v 12) (.cons (.v 10) (.cons (.v 14) (.cons (.k (.int 4)) (.nil))))))))))))
    (.cons (.ret (.k (.bl false)))
    (.nil))
    (.nil))
   (.cons (.ifs (.an (.cmp .eq (.v 4) (.k (.int 1))) (.an (.cmp .eq (.v 1) (.k (.int 0))) (.one (.not (.tr (.call f__law_long_right (.cons (.v 2) (.cons (.v 3) (.cons (.v 11) (.cons (.v 9) (.cons (.v 13) (.nil))))))))))))
    (.cons (.ret (.k (.bl false)))
    (.nil))
    (.nil))
   (.cons (.ifs (.not (.tr (.call f__law_works_right (.cons (.v 2) (.cons (.bin .sub (.k (.int 1)) (.v 3)) (.cons (.v 11) (.cons (.v 9) (.cons (.v 13) (.cons (.k (.int 2)) (.nil))))))))))
    (.cons (.ret (.k (.bl false)))
    (.nil))
    (.nil))
   (.nil)))))))))))))
  (.cons (.ret (.k (.bl true)))
  (.nil))
def d_law : DefX := ⟨⟨("law", none), "law", "law", fArgs (top 60), fBody (top 60), fScope (top 60), [], []⟩, ["script", "k", "box", "named", "great", "many", "ticks", "bars", "less", "works", "other", "made", "beside", "begin", "start"], ["script"], b_law⟩
def b_Works_init : Bk := .cons (.ifs (.not (.tr (.call f_is_between (.cons (.v 1) (.cons (.k (.int 1)) (.cons (.g 6) (.nil)))))))
   (.cons (.raise x_InvalidDeeds (.cons (.v 1) (.nil)))
   (.nil))
   (.nil))
  (.cons (.ifs (.not (.tr (.call f_is_between (.cons (.v 2) (.cons (.k (.int 1)) (.cons (.g 6) (.nil)))))))
   (.cons (.raise x_InvalidActs (.cons (.v 2) (.nil)))
   (.nil))
   (.nil))
  (.cons (.ifs (.not (.tr (.call f_is_sights (.cons (.v 3) (.cons (.k (.int 1)) (.cons (.g 120) (.nil)))))))
   (.cons (.raise x_InvalidSights (.cons (.v 3) (.nil)))
   (.nil))
   (.nil))
  (.cons (.ifs (.not (.tr (.call f_is_steps (.cons (.v 4) (.cons (.b1 .len (.v 3)) (.cons (.v 1) (.cons (.v 2) (.nil))))))))
   (.cons (.raise x_InvalidSteps (.cons (.v 4) (.nil)))
   (.nil))
   (.nil))
  (.cons (.fld 0 "deeds" (.v 1))
  (.cons (.fld 0 "acts" (.v 2))
  (.cons (.fld 0 "sights" (.v 3))
  (.cons (.fld 0 "steps" (.b1 .tuple (.lst (.comp (.n 6) (.seq (.v 4)) (.no) (.b1 .tuple (.lst (.comp (.n 5) (.seq (.v 6)) (.no) (.b1 .tuple (.v 5)) [5]))) [6]))))
  (.nil))))))))
def d_Works_init : DefX := ⟨⟨("Works", some "__init__"), "__init__", "Works.__init__", fArgs (sub 26 0), fBody (sub 26 0), fScope (sub 26 0), [], []⟩, ["self", "deeds", "acts", "sights", "steps", "row", "rows"], ["self", "deeds", "acts", "sights", "steps"], b_Works_init⟩
def b_Works_eq : Bk := .cons (.ifs (.not (.tr (.isi [.cls c_Works] (.v 1))))
   (.cons (.ret (.k (.bl false)))
   (.nil))
   (.nil))
  (.cons (.ifs (.or (.cmp .ne (.fld "deeds" (.v 0)) (.fld "deeds" (.v 1))) (.one (.cmp .ne (.fld "acts" (.v 0)) (.fld "acts" (.v 1)))))
   (.cons (.ret (.k (.bl false)))
   (.nil))
   (.nil))
  (.cons (.ret (.an (.cmp .eq (.fld "sights" (.v 0)) (.fld "sights" (.v 1))) (.one (.cmp .eq (.fld "steps" (.v 0)) (.fld "steps" (.v 1))))))
  (.nil)))
def d_Works_eq : DefX := ⟨⟨("Works", some "__eq__"), "__eq__", "Works.__eq__", fArgs (sub 26 1), fBody (sub 26 1), fScope (sub 26 1), [], []⟩, ["self", "other"], ["self", "other"], b_Works_eq⟩
def b_Works_text : Bk := .cons (.ex (.call f__wall (.cons (.k (.int 0)) (.nil))))
  (.nil)
def d_Works_text : DefX := ⟨⟨("Works", some "text"), "text", "Works.text", fArgs (sub 26 2), fBody (sub 26 2), fScope (sub 26 2), [], []⟩, ["self"], ["self"], b_Works_text⟩
def b_InvalidActs_init : Bk := .nil
def d_InvalidActs_init : DefX := ⟨⟨("InvalidActs", some "__init__"), "__init__", "InvalidActs.__init__", fArgs (sub 3 0), fBody (sub 3 0), fScope (sub 3 0), [], []⟩, ["self", "given"], ["self", "given"], b_InvalidActs_init⟩
def b_InvalidBegin_init : Bk := .nil
def d_InvalidBegin_init : DefX := ⟨⟨("InvalidBegin", some "__init__"), "__init__", "InvalidBegin.__init__", fArgs (sub 4 0), fBody (sub 4 0), fScope (sub 4 0), [], []⟩, ["self", "given"], ["self", "given"], b_InvalidBegin_init⟩
def b_InvalidCourse_init : Bk := .nil
def d_InvalidCourse_init : DefX := ⟨⟨("InvalidCourse", some "__init__"), "__init__", "InvalidCourse.__init__", fArgs (sub 5 0), fBody (sub 5 0), fScope (sub 5 0), [], []⟩, ["self", "given"], ["self", "given"], b_InvalidCourse_init⟩
def b_InvalidDeeds_init : Bk := .nil
def d_InvalidDeeds_init : DefX := ⟨⟨("InvalidDeeds", some "__init__"), "__init__", "InvalidDeeds.__init__", fArgs (sub 6 0), fBody (sub 6 0), fScope (sub 6 0), [], []⟩, ["self", "given"], ["self", "given"], b_InvalidDeeds_init⟩
def b_InvalidSights_init : Bk := .nil
def d_InvalidSights_init : DefX := ⟨⟨("InvalidSights", some "__init__"), "__init__", "InvalidSights.__init__", fArgs (sub 7 0), fBody (sub 7 0), fScope (sub 7 0), [], []⟩, ["self", "given"], ["self", "given"], b_InvalidSights_init⟩
def b_InvalidSteps_init : Bk := .nil
def d_InvalidSteps_init : DefX := ⟨⟨("InvalidSteps", some "__init__"), "__init__", "InvalidSteps.__init__", fArgs (sub 8 0), fBody (sub 8 0), fScope (sub 8 0), [], []⟩, ["self", "given"], ["self", "given"], b_InvalidSteps_init⟩
def nm : Nm := ⟨[("Works", ["deeds", "acts", "sights", "steps"])],
  [("WireError", [], [0]), ("InvalidActs", ["given"], [1, 0]), ("InvalidBegin", ["given"], [2, 0]), ("InvalidCourse", ["given"], [3, 0]), ("InvalidDeeds", ["given"], [4, 0]), ("InvalidSights", ["given"], [5, 0]), ("InvalidSteps", ["given"], [6, 0])]⟩
def dfs : List DefX := [d__wall, d_is_whole, d_is_between, d_is_list, d_is_list_of, d_is_tuple_of, d_are_between, d_is_ascending, d_is_states, d_is_some_states, d_is_sights, d_check_begin_of, d_is_steps, d_check_begin, d_is_entry, d_cell_behind, d_goes_on, d_check_course, d_all_states, d_starts_behind, d_is_course, d_is_broken, d_may_follow, d__law_cell, d__law_box, d__law_take, d__law_same, d__law_is_number, d__law_works, d__law_wide, d__law_made, d__law_is_course, d__law_codes, d__law_walked, d__law_bools, d__law_spoilt, d__law_told, d__law_answer_right, d__law_value_right, d__law_begins_right, d__law_begin, d__law_works_right, d__law_long_right, d_law]
def kws : List (Nat × Kw) := [(20, ⟨0, ["value", "begin", "works"], [2, 1, 0]⟩), (21, ⟨0, ["course", "works"], [1, 0]⟩), (22, ⟨0, ["course", "works", "begin"], [1, 2, 0]⟩)]
def ikw : List (Nat × Kw) := []
def L : LawX := ⟨nm, ["abs", "all", "bool", "dict", "int", "isinstance", "len", "list", "max", "min", "range", "set", "sorted", "str", "sum", "tuple", "zip"], [("MOST_SIGHT", 31), ("MOST_STATES", 120), ("MOST_HANDS", 6), ("MOST_TICKS", 200)], dfs, [d_Works_init], [d_Works_eq], [(1, d_InvalidActs_init), (2, d_InvalidBegin_init), (3, d_InvalidCourse_init), (4, d_InvalidDeeds_init), (5, d_InvalidSights_init), (6, d_InvalidSteps_init)], kws, ["acts", "deeds", "sights", "steps"], true, ikw⟩
def loose0 : List PySem.Str := ["_wall", "WireError", "InvalidActs", "InvalidBegin", "InvalidCourse", "InvalidDeeds", "InvalidSights", "InvalidSteps", "MOST_SIGHT", "is_whole", "is_between", "is_list", "is_list_of", "is_tuple_of", "are_between", "is_ascending", "is_states", "is_some_states", "is_sights", "check_begin_of"]
def loose1 : List PySem.Str := ["MOST_STATES", "MOST_HANDS", "is_steps", "Works", "check_begin", "MOST_TICKS", "is_entry", "cell_behind", "goes_on", "check_course", "all_states", "starts_behind", "is_course", "is_broken", "may_follow", "_law_cell", "_law_box", "_law_take", "_law_same", "_law_is_number"]
def loose2 : List PySem.Str := ["_law_works", "_law_wide", "_law_made", "_law_is_course", "_law_codes", "_law_walked", "_law_bools", "_law_spoilt", "_law_told", "_law_answer_right", "_law_value_right", "_law_begins_right", "_law_begin", "_law_works_right", "_law_long_right"]
def loose : List PySem.Str := loose0 ++ loose1 ++ loose2
theorem bnd__wall : BndOk d__wall := ⟨fun _ _ _ _ _ _ us hl => match us, hl with | [_], _ => rfl⟩
theorem bnd_is_whole : BndOk d_is_whole := ⟨fun _ _ _ _ _ _ us hl => match us, hl with | [_], _ => rfl⟩
theorem bnd_is_between : BndOk d_is_between := ⟨fun _ _ _ _ _ _ us hl => match us, hl with | [_, _, _], _ => rfl⟩
theorem bnd_is_list : BndOk d_is_list := ⟨fun _ _ _ _ _ _ us hl => match us, hl with | [_], _ => rfl⟩
theorem bnd_is_list_of : BndOk d_is_list_of := ⟨fun _ _ _ _ _ _ us hl => match us, hl with | [_, _, _], _ => rfl⟩
theorem bnd_is_tuple_of : BndOk d_is_tuple_of := ⟨fun _ _ _ _ _ _ us hl => match us, hl with | [_, _], _ => rfl⟩
theorem bnd_are_between : BndOk d_are_between := ⟨fun _ _ _ _ _ _ us hl => match us, hl with | [_, _, _], _ => rfl⟩
theorem bnd_is_ascending : BndOk d_is_ascending := ⟨fun _ _ _ _ _ _ us hl => match us, hl with | [_], _ => rfl⟩
theorem bnd_is_states : BndOk d_is_states := ⟨fun _ _ _ _ _ _ us hl => match us, hl with | [_, _], _ => rfl⟩
theorem bnd_is_some_states : BndOk d_is_some_states := ⟨fun _ _ _ _ _ _ us hl => match us, hl with | [_, _], _ => rfl⟩
theorem bnd_is_sights : BndOk d_is_sights := ⟨fun _ _ _ _ _ _ us hl => match us, hl with | [_, _, _], _ => rfl⟩
theorem bnd_check_begin_of : BndOk d_check_begin_of := ⟨fun _ _ _ _ _ _ us hl => match us, hl with | [_, _], _ => rfl⟩
theorem bnd_is_steps : BndOk d_is_steps := ⟨fun _ _ _ _ _ _ us hl => match us, hl with | [_, _, _, _], _ => rfl⟩
theorem bnd_check_begin : BndOk d_check_begin := ⟨fun _ _ _ _ _ _ us hl => match us, hl with | [_, _], _ => rfl⟩
theorem bnd_is_entry : BndOk d_is_entry := ⟨fun _ _ _ _ _ _ us hl => match us, hl with | [_, _], _ => rfl⟩
theorem bnd_cell_behind : BndOk d_cell_behind := ⟨fun _ _ _ _ _ _ us hl => match us, hl with | [_, _], _ => rfl⟩
theorem bnd_goes_on : BndOk d_goes_on := ⟨fun _ _ _ _ _ _ us hl => match us, hl with | [_, _, _], _ => rfl⟩
theorem bnd_check_course : BndOk d_check_course := ⟨fun _ _ _ _ _ _ us hl => match us, hl with | [_, _, _], _ => rfl⟩
theorem bnd_all_states : BndOk d_all_states := ⟨fun _ _ _ _ _ _ us hl => match us, hl with | [_], _ => rfl⟩
theorem bnd_starts_behind : BndOk d_starts_behind := ⟨fun _ _ _ _ _ _ us hl => match us, hl with | [_, _, _], _ => rfl⟩
theorem bnd_is_course : BndOk d_is_course := ⟨fun _ _ _ _ _ _ us hl => match us, hl with | [_, _, _], _ => rfl⟩
theorem bnd_is_broken : BndOk d_is_broken := ⟨fun _ _ _ _ _ _ us hl => match us, hl with | [_, _], _ => rfl⟩
theorem bnd_may_follow : BndOk d_may_follow := ⟨fun _ _ _ _ _ _ us hl => match us, hl with | [_, _, _], _ => rfl⟩
theorem bnd__law_cell : BndOk d__law_cell := ⟨fun _ _ _ _ _ _ us hl => match us, hl with | [_, _], _ => rfl⟩
theorem bnd__law_box : BndOk d__law_box := ⟨fun _ _ _ _ _ _ us hl => match us, hl with | [_], _ => rfl⟩
theorem bnd__law_take : BndOk d__law_take := ⟨fun _ _ _ _ _ _ us hl => match us, hl with | [_, _], _ => rfl⟩
theorem bnd__law_same : BndOk d__law_same := ⟨fun _ _ _ _ _ _ us hl => match us, hl with | [_, _], _ => rfl⟩
theorem bnd__law_is_number : BndOk d__law_is_number := ⟨fun _ _ _ _ _ _ us hl => match us, hl with | [_, _, _], _ => rfl⟩
theorem bnd__law_works : BndOk d__law_works := ⟨fun _ _ _ _ _ _ us hl => match us, hl with | [_, _, _, _, _, _], _ => rfl⟩
theorem bnd__law_wide : BndOk d__law_wide := ⟨fun _ _ _ _ _ _ us hl => match us, hl with | [_], _ => rfl⟩
theorem bnd__law_made : BndOk d__law_made := ⟨fun _ _ _ _ _ _ us hl => match us, hl with | [_], _ => rfl⟩
theorem bnd__law_is_course : BndOk d__law_is_course := ⟨fun _ _ _ _ _ _ us hl => match us, hl with | [_, _, _], _ => rfl⟩
theorem bnd__law_codes : BndOk d__law_codes := ⟨fun _ _ _ _ _ _ us hl => match us, hl with | [_, _, _], _ => rfl⟩
theorem bnd__law_walked : BndOk d__law_walked := ⟨fun _ _ _ _ _ _ us hl => match us, hl with | [_, _, _, _, _], _ => rfl⟩
theorem bnd__law_bools : BndOk d__law_bools := ⟨fun _ _ _ _ _ _ us hl => match us, hl with | [_], _ => rfl⟩
theorem bnd__law_spoilt : BndOk d__law_spoilt := ⟨fun _ _ _ _ _ _ us hl => match us, hl with | [_, _, _], _ => rfl⟩
theorem bnd__law_told : BndOk d__law_told := ⟨fun _ _ _ _ _ _ us hl => match us, hl with | [_, _, _, _, _], _ => rfl⟩
theorem bnd__law_answer_right : BndOk d__law_answer_right := ⟨fun _ _ _ _ _ _ us hl => match us, hl with | [_, _, _, _, _, _], _ => rfl⟩
theorem bnd__law_value_right : BndOk d__law_value_right := ⟨fun _ _ _ _ _ _ us hl => match us, hl with | [_, _, _, _, _], _ => rfl⟩
theorem bnd__law_begins_right : BndOk d__law_begins_right := ⟨fun _ _ _ _ _ _ us hl => match us, hl with | [_, _, _, _, _], _ => rfl⟩
theorem bnd__law_begin : BndOk d__law_begin := ⟨fun _ _ _ _ _ _ us hl => match us, hl with | [_, _], _ => rfl⟩
theorem bnd__law_works_right : BndOk d__law_works_right := ⟨fun _ _ _ _ _ _ us hl => match us, hl with | [_, _, _, _, _, _], _ => rfl⟩
theorem bnd__law_long_right : BndOk d__law_long_right := ⟨fun _ _ _ _ _ _ us hl => match us, hl with | [_, _, _, _, _], _ => rfl⟩
theorem bnd_law : BndOk d_law := ⟨fun _ _ _ _ _ _ us hl => match us, hl with | [_], _ => rfl⟩
theorem bnd_Works_init : BndOk d_Works_init := ⟨fun _ _ _ _ _ _ us hl => match us, hl with | [_, _, _, _, _], _ => rfl⟩
theorem bnd_Works_eq : BndOk d_Works_eq := ⟨fun _ _ _ _ _ _ us hl => match us, hl with | [_, _], _ => rfl⟩
theorem bnd_InvalidActs_init : BndOk d_InvalidActs_init := ⟨fun _ _ _ _ _ _ us hl => match us, hl with | [_, _], _ => rfl⟩
theorem bnd_InvalidBegin_init : BndOk d_InvalidBegin_init := ⟨fun _ _ _ _ _ _ us hl => match us, hl with | [_, _], _ => rfl⟩
theorem bnd_InvalidCourse_init : BndOk d_InvalidCourse_init := ⟨fun _ _ _ _ _ _ us hl => match us, hl with | [_, _], _ => rfl⟩
theorem bnd_InvalidDeeds_init : BndOk d_InvalidDeeds_init := ⟨fun _ _ _ _ _ _ us hl => match us, hl with | [_, _], _ => rfl⟩
theorem bnd_InvalidSights_init : BndOk d_InvalidSights_init := ⟨fun _ _ _ _ _ _ us hl => match us, hl with | [_, _], _ => rfl⟩
theorem bnd_InvalidSteps_init : BndOk d_InvalidSteps_init := ⟨fun _ _ _ _ _ _ us hl => match us, hl with | [_, _], _ => rfl⟩
theorem ok__wall : d__wall.ok L = true := by kernel_rfl
theorem ok_is_whole : d_is_whole.ok L = true := by kernel_rfl
theorem ok_is_between : d_is_between.ok L = true := by kernel_rfl
theorem ok_is_list : d_is_list.ok L = true := by kernel_rfl
theorem ok_is_list_of : d_is_list_of.ok L = true := by kernel_rfl
theorem ok_is_tuple_of : d_is_tuple_of.ok L = true := by kernel_rfl
theorem ok_are_between : d_are_between.ok L = true := by kernel_rfl
theorem ok_is_ascending : d_is_ascending.ok L = true := by kernel_rfl
theorem ok_is_states : d_is_states.ok L = true := by kernel_rfl
theorem ok_is_some_states : d_is_some_states.ok L = true := by kernel_rfl
theorem ok_is_sights : d_is_sights.ok L = true := by kernel_rfl
theorem ok_check_begin_of : d_check_begin_of.ok L = true := by kernel_rfl
theorem ok_is_steps : d_is_steps.ok L = true := by kernel_rfl
theorem ok_check_begin : d_check_begin.ok L = true := by kernel_rfl
theorem ok_is_entry : d_is_entry.ok L = true := by kernel_rfl
theorem ok_cell_behind : d_cell_behind.ok L = true := by kernel_rfl
theorem ok_goes_on : d_goes_on.ok L = true := by kernel_rfl
theorem ok_check_course : d_check_course.ok L = true := by kernel_rfl
theorem ok_all_states : d_all_states.ok L = true := by kernel_rfl
theorem ok_starts_behind : d_starts_behind.ok L = true := by kernel_rfl
theorem ok_is_course : d_is_course.ok L = true := by kernel_rfl
theorem ok_is_broken : d_is_broken.ok L = true := by kernel_rfl
theorem ok_may_follow : d_may_follow.ok L = true := by kernel_rfl
theorem ok__law_cell : d__law_cell.ok L = true := by kernel_rfl
theorem ok__law_box : d__law_box.ok L = true := by kernel_rfl
theorem ok__law_take : d__law_take.ok L = true := by kernel_rfl
theorem ok__law_same : d__law_same.ok L = true := by kernel_rfl
theorem ok__law_is_number : d__law_is_number.ok L = true := by kernel_rfl
theorem ok__law_works : d__law_works.ok L = true := by kernel_rfl
theorem ok__law_wide : d__law_wide.ok L = true := by kernel_rfl
theorem ok__law_made : d__law_made.ok L = true := by kernel_rfl
theorem ok__law_is_course : d__law_is_course.ok L = true := by kernel_rfl
theorem ok__law_codes : d__law_codes.ok L = true := by kernel_rfl
theorem ok__law_walked : d__law_walked.ok L = true := by kernel_rfl
theorem ok__law_bools : d__law_bools.ok L = true := by kernel_rfl
theorem ok__law_spoilt : d__law_spoilt.ok L = true := by kernel_rfl
theorem ok__law_told : d__law_told.ok L = true := by kernel_rfl
theorem ok__law_answer_right : d__law_answer_right.ok L = true := by kernel_rfl
theorem ok__law_value_right : d__law_value_right.ok L = true := by kernel_rfl
theorem ok__law_begins_right : d__law_begins_right.ok L = true := by kernel_rfl
theorem ok__law_begin : d__law_begin.ok L = true := by kernel_rfl
theorem ok__law_works_right : d__law_works_right.ok L = true := by kernel_rfl
theorem ok__law_long_right : d__law_long_right.ok L = true := by kernel_rfl
theorem ok_law : d_law.ok L = true := by kernel_rfl
theorem ok_Works_init : d_Works_init.ok L = true := by kernel_rfl
theorem ok_Works_eq : d_Works_eq.ok L = true := by kernel_rfl
theorem kw_0 : KwdOk d_is_course ⟨0, ["value", "begin", "works"], [2, 1, 0]⟩ := ⟨fun _ _ _ _ _ _ us ws h1 h2 => match us, ws, h1, h2 with | [], [_, _, _], _, _ => rfl⟩
theorem kw_1 : KwdOk d_is_broken ⟨0, ["course", "works"], [1, 0]⟩ := ⟨fun _ _ _ _ _ _ us ws h1 h2 => match us, ws, h1, h2 with | [], [_, _], _, _ => rfl⟩
theorem kw_2 : KwdOk d_may_follow ⟨0, ["course", "works", "begin"], [1, 2, 0]⟩ := ⟨fun _ _ _ _ _ _ us ws h1 h2 => match us, ws, h1, h2 with | [], [_, _, _], _, _ => rfl⟩
end K07
set_option maxHeartbeats 6400000
namespace TW
open PySem PySem.Spec L2
open He (ga ma fAd SaysD DefD Fa)
def LawX.okB (L : LawX) : Bool :=
  L.defs.all (fun x => decide (x.d.at_ = (x.d.name, none))) && (idx L.inits).all (fun p => decide (p.1.d.at_ = (L.nm.cn p.2, some ("__init__" : Str))) && decide (0 < p.1.ps.length)) &&
  (idx L.eqs).all (fun p => decide (p.1.d.at_ = (L.nm.cn p.2, some ("__eq__" : Str))) && decide (p.1.ps.length = 2)) &&
  L.xin.all (fun p => decide (p.2.d.at_ = (L.nm.en p.1, some ("__init__" : Str))) && C8.scC p.2.N p.2.ps p.2.d.scope && p.2.d.dfl.isEmpty && decide (p.2.ps.length = (L.nm.ef p.1).length + 1) && setsB p.2.N p.2.d.scope p.2.d.body (slots (L.nm.ef p.1)) && decide (L.nm.ef p.1).Nodup && !(L.nm.ef p.1).isEmpty && decide ((L.nm.ef p.1).length ≤ 800) && decide (p.1 < L.nm.exc.length)) &&
  up L.nm.exc.length (fun i => (L.nm.ef i).isEmpty || L.xin.any fun p => decide (p.1 = i)) && decide (L.inits.length = L.nm.cls.length) && (!L.own || decide (L.eqs.length = L.nm.cls.length))
theorem idx_get {α : Type} {xs : List α} {i : Nat} {x : α} (h : xs[i]? = some x) : (x, i) ∈ idx xs := by
  have hi := (List.getElem?_eq_some_iff.mp h).1
  refine List.mem_iff_getElem?.mpr ⟨i, ?_⟩
  unfold idx
  rw [List.getElem?_zip_eq_some]
  exact ⟨h, by rw [List.getElem?_range hi]⟩
theorem lawOk_by {L : LawX} (h : L.okB = true) (o : ∀ x ∈ L.defs ++ (L.inits ++ L.eqs), x.ok L = true ∧ BndOk x) (bx : ∀ p ∈ L.xin, BndOk p.2) (kw : ∀ p ∈ L.kws, ∀ x, L.defs[p.1]? = some x → KwdOk x p.2) (ikw : ∀ p ∈ L.ikw, ∀ x, L.inits[p.1]? = some x → KwdOk x p.2 := by exact fun _ h => nomatch h) : LawOk L := by
  simp only [LawX.okB, Bool.and_eq_true] at h
  obtain ⟨⟨⟨⟨⟨⟨h1, h2⟩, h3⟩, h4⟩, h5⟩, h6⟩, h7⟩ := h
  refine ⟨fun x hx => ?_, fun c x hx => ?_, fun c x hx => ?_, fun p hp => ?_, fun i hi ne => ?_, of_decide_eq_true h6, fun ho => ?_, kw, ikw⟩
  · obtain ⟨a, b⟩ := o x (List.mem_append_left _ hx)
    exact ⟨a, b, of_decide_eq_true (List.all_eq_true.mp h1 x hx)⟩
  · obtain ⟨a, b⟩ := o x (List.mem_append_right _ (List.mem_append_left _ (List.mem_of_getElem? hx)))
    have k := List.all_eq_true.mp h2 _ (idx_get hx)
    simp only [Bool.and_eq_true, decide_eq_true_eq] at k
    exact ⟨a, b, k.1, k.2⟩
  · obtain ⟨a, b⟩ := o x (List.mem_append_right _ (List.mem_append_right _ (List.mem_of_getElem? hx)))
    have k := List.all_eq_true.mp h3 _ (idx_get hx)
    simp only [Bool.and_eq_true, decide_eq_true_eq] at k
    exact ⟨a, b, k.1, k.2⟩
  · have k := List.all_eq_true.mp h4 p hp
    simp only [Bool.and_eq_true, decide_eq_true_eq, Bool.not_eq_true', List.isEmpty_iff] at k
    obtain ⟨⟨⟨⟨⟨⟨⟨⟨k1, k2⟩, k3⟩, k4⟩, k5⟩, k6⟩, k7⟩, k8⟩, k9⟩ := k
    exact ⟨bx p hp, k1, k2, k3, k4, k5, k6, fun z => (by rw [z] at k7; cases k7), k8, k9⟩
  · have k := up_ok h5 i hi
    simp only [Bool.or_eq_true, List.isEmpty_iff, List.any_eq_true, decide_eq_true_eq] at k
    rcases k with k | ⟨p, hp, e⟩
    · exact absurd k ne
    · exact ⟨p.2, by rw [← e]; exact hp⟩
  · rw [ho] at h7
    simpa using h7
/-- a law's end, the way out of an exception told by the world -/
theorem walk_X {l : PySem.W.OpenLaw} {n k : Nat} {q : Program} {loose : List Str} {XP : (Str → Option Value) → Heap → Prop} {YP : World → Heap → Prop} {d : DefRec} {CX : World → CXT} {x : Str}
    (most : l.most = some n) (small : n ≤ sizeLine) (plain : d.params.defaults = []) (room : Room k callerA)
    (F : ∀ (w : World) (mg : Str → Option Value) (fa : Addr) (h : Heap), YP w h → h.Ns mainGlobals mg → mg d.name = some (.ref fa) →
      ∃ (K : PySem.W.Frag) (fd : FuncData) (sp : Sp), K.In h ∧ (∀ (s : Shared) (u : Value), BindsTo s fd ⟨[u], []⟩ [(x, u)]) ∧
        (∀ (H : Hp) (a : Addr) (ns : List Int), ns.length ≤ n → Only H → SqL K H a (ns.map V.int) → sp [.ref a] H (fun v _ => v = .bl true) fun _ _ _ => False) ∧
        ∀ base : Heap, K.In base → base.Ns mainGlobals mg → FnOk l.prog w K mg base (CX w) k fa fd [x] sp)
    (none_out : ∀ (w : World) (H : Hp) (s : Shared) (e : Value) (s' : Shared), CX w [] H s (fun _ _ _ => False) e s' → False) :
    PySem.W.WalkO q loose XP YP l.row.toRowW d [] (fun f vs => PySem.call f vs) := by
  refine Att.attach_call most plain fun w s0 s1 mg mb fa o pm cd doc a vs ns G Y ho hd hcd hmg hobj hints hlen hg => ?_
  obtain ⟨K, fd, sp, KX, hb, hsp, hF⟩ := F w mg fa _ Y G.T.g hmg
  exact law_call KX G.T.g G.T.b G.T.builtins G.T.nolimit hg hobj hints (Nat.le_trans hlen small) room hF hb (fun H hO hS => hsp H a ns hlen hO hS) fun H e s' => none_out w H s1 e s'
theorem cx_out {P : Program} : ∀ (w : World) (H : Hp) (s : Shared) (e : Value) (s' : Shared), L2.CX P w [] H s (fun _ _ _ => False) e s' → False := fun _ _ _ _ _ ⟨_, _, _, _, _, _, _, _, _, _, _, _, z⟩ => z
/-- what the walk of a law's def asks -/
theorem law_all {L : LawX} {K : PySem.W.Frag} {P : Program} {w : World} {mg : Str → Option Value} {h : Heap} {f : Addr} {n j : Nat} {x : DefX} (LO : LawOk L) (hx : L.defs[j]? = some x) (hn : x.d.name = ("law" : Str)) (hp : x.ps = [("script" : Str)]) (KX : K.In h) (G : h.Ns mainGlobals mg) (hm : mg ("law" : Str) = some (.ref f))
    (c : SaysD L.fa L.fn K) (e : L.nm.ok L.own K = true) (nl : ∀ a o, K.lookup a = some o → o.cls ≠ .type "list") (res : ∀ ns : List Int, ns.length ≤ 63 → ∃ st, (L.pr n).F j [.fro (ns.map .int)] [] = .ok (.bl true) st) :
    ∃ (fd : FuncData) (sp : Sp), (∀ (s : Shared) (u : Value), BindsTo s fd ⟨[u], []⟩ [("script", u)]) ∧
      (∀ (H : Hp) (a : Addr) (ns : List Int), ns.length ≤ 63 → Only H → SqL K H a (ns.map V.int) → sp [.ref a] H (fun v _ => v = .bl true) fun _ _ _ => False) ∧
      ∀ base : Heap, K.In base → base.Ns mainGlobals mg → FnOk P w K mg base (L2.CX P w) (n + 3) f fd ["script"] sp := by
  have xm := List.mem_of_getElem? hx
  obtain ⟨o1, o2, o3⟩ := LO.defs x xm
  have ef : f = fAd K x.d.at_ := by
    rw [o3, hn]
    have := glo_mg KX G c (glo_def xm)
    rw [hn, hm] at this
    have z := Option.some.inj this
    exact Value.ref.inj z
  obtain ⟨fd, F⟩ := says_def c (in_defs xm)
  obtain ⟨⟨oc, od, kV, doc, pm, an, cd, ct, osl, rfl, lk, hcd⟩, b, kp, kw, sd⟩ := funD_ex F (dfl_of o1) o2 _ (kw_in LO hx)
  refine ⟨PySem.W.fnOf x.d.name x.d.qual x.d.params x.d.body x.d.scope .none kV doc pm an cd ct, spF (L.nm.wd K mg) 1 ((L.pr n).F j), fun s u => ?_, fun H a ns hl ho hS => ?_, fun base KB GB => ?_⟩
  · have := sd.ba s [u] (by rw [hp]; rfl)
    rw [hp] at this
    exact this
  · obtain ⟨st, r⟩ := res ns hl
    exact law_ok hl ho hS nl r
  · obtain ⟨fd', g1, _, _, _, sd'⟩ := law_F (P := P) (w := w) (n := n) LO hx KB GB c e
    obtain ⟨_, _, _, lk'⟩ := sd'.lk
    rw [lk] at lk'
    cases lk'
    rw [hp] at g1
    rw [ef]
    exact g1
end TW
set_option maxHeartbeats 0
namespace K07
open PySem PySem.Spec PyProof.Rows L2 TW
theorem all_ok : ∀ x ∈ L.defs ++ (L.inits ++ L.eqs), x.ok L = true ∧ BndOk x := (List.forall_mem_cons.mpr ⟨⟨ok__wall, bnd__wall⟩, (List.forall_mem_cons.mpr ⟨⟨ok_is_whole, bnd_is_whole⟩, (List.forall_mem_cons.mpr ⟨⟨ok_is_between, bnd_is_between⟩, (List.forall_mem_cons.mpr ⟨⟨ok_is_list, bnd_is_list⟩, (List.forall_mem_cons.mpr ⟨⟨ok_is_list_of, bnd_is_list_of⟩, (List.forall_mem_cons.mpr ⟨⟨ok_is_tuple_of, bnd_is_tuple_of⟩, (List.forall_mem_cons.mpr ⟨⟨ok_are_between, bnd_are_between⟩, (List.forall_mem_cons.mpr ⟨⟨ok_is_ascending, bnd_is_ascending⟩, (List.forall_mem_cons.mpr ⟨⟨ok_is_states, bnd_is_states⟩, (List.forall_mem_cons.mpr ⟨⟨ok_is_some_states, bnd_is_some_states⟩, (List.forall_mem_cons.mpr ⟨⟨ok_is_sights, bnd_is_sights⟩, (List.forall_mem_cons.mpr ⟨⟨ok_check_begin_of, bnd_check_begin_of⟩, (List.forall_mem_cons.mpr ⟨⟨ok_is_steps, bnd_is_steps⟩, (List.forall_mem_cons.mpr ⟨⟨ok_check_begin, bnd_check_begin⟩, (List.forall_mem_cons.mpr ⟨⟨ok_is_entry, bnd_is_entry⟩, (List.forall_mem_cons.mpr ⟨⟨ok_cell_behind, bnd_cell_behind⟩, (List.forall_mem_cons.mpr ⟨⟨ok_goes_on, bnd_goes_on⟩, (List.forall_mem_cons.mpr ⟨⟨ok_check_course, bnd_check_course⟩, (List.forall_mem_cons.mpr ⟨⟨ok_all_states, bnd_all_states⟩, (List.forall_mem_cons.mpr ⟨⟨ok_starts_behind, bnd_starts_behind⟩, (List.forall_mem_cons.mpr ⟨⟨ok_is_course, bnd_is_course⟩, (List.forall_mem_cons.mpr ⟨⟨ok_is_broken, bnd_is_broken⟩, (List.forall_mem_cons.mpr ⟨⟨ok_may_follow, bnd_may_follow⟩, (List.forall_mem_cons.mpr ⟨⟨ok__law_cell, bnd__law_cell⟩, (List.forall_mem_cons.mpr ⟨⟨ok__law_box, bnd__law_box⟩, (List.forall_mem_cons.mpr ⟨⟨ok__law_take, bnd__law_take⟩, (List.forall_mem_cons.mpr ⟨⟨ok__law_same, bnd__law_same⟩, (List.forall_mem_cons.mpr ⟨⟨ok__law_is_number, bnd__law_is_number⟩, (List.forall_mem_cons.mpr ⟨⟨ok__law_works, bnd__law_works⟩, (List.forall_mem_cons.mpr ⟨⟨ok__law_wide, bnd__law_wide⟩, (List.forall_mem_cons.mpr ⟨⟨ok__law_made, bnd__law_made⟩, (List.forall_mem_cons.mpr ⟨⟨ok__law_is_course, bnd__law_is_course⟩, (List.forall_mem_cons.mpr ⟨⟨ok__law_codes, bnd__law_codes⟩, (List.forall_mem_cons.mpr ⟨⟨ok__law_walked, bnd__law_walked⟩, (List.forall_mem_cons.mpr ⟨⟨ok__law_bools, bnd__law_bools⟩, (List.forall_mem_cons.mpr ⟨⟨ok__law_spoilt, bnd__law_spoilt⟩, (List.forall_mem_cons.mpr ⟨⟨ok__law_told, bnd__law_told⟩, (List.forall_mem_cons.mpr ⟨⟨ok__law_answer_right, bnd__law_answer_right⟩, (List.forall_mem_cons.mpr ⟨⟨ok__law_value_right, bnd__law_value_right⟩, (List.forall_mem_cons.mpr ⟨⟨ok__law_begins_right, bnd__law_begins_right⟩, (List.forall_mem_cons.mpr ⟨⟨ok__law_begin, bnd__law_begin⟩, (List.forall_mem_cons.mpr ⟨⟨ok__law_works_right, bnd__law_works_right⟩, (List.forall_mem_cons.mpr ⟨⟨ok__law_long_right, bnd__law_long_right⟩, (List.forall_mem_cons.mpr ⟨⟨ok_law, bnd_law⟩, (List.forall_mem_cons.mpr ⟨⟨ok_Works_init, bnd_Works_init⟩, (List.forall_mem_cons.mpr ⟨⟨ok_Works_eq, bnd_Works_eq⟩, (fun _ h => nomatch h)⟩)⟩)⟩)⟩)⟩)⟩)⟩)⟩)⟩)⟩)⟩)⟩)⟩)⟩)⟩)⟩)⟩)⟩)⟩)⟩)⟩)⟩)⟩)⟩)⟩)⟩)⟩)⟩)⟩)⟩)⟩)⟩)⟩)⟩)⟩)⟩)⟩)⟩)⟩)⟩)⟩)⟩)⟩)⟩)⟩)⟩)
theorem lok : LawOk L := lawOk_by (by kernel_rfl) all_ok
  (List.forall_mem_cons.mpr ⟨bnd_InvalidActs_init, (List.forall_mem_cons.mpr ⟨bnd_InvalidBegin_init, (List.forall_mem_cons.mpr ⟨bnd_InvalidCourse_init, (List.forall_mem_cons.mpr ⟨bnd_InvalidDeeds_init, (List.forall_mem_cons.mpr ⟨bnd_InvalidSights_init, (List.forall_mem_cons.mpr ⟨bnd_InvalidSteps_init, (fun _ h => nomatch h)⟩)⟩)⟩)⟩)⟩)⟩)
  (List.forall_mem_cons.mpr ⟨fun x h => (Option.some.inj h : d_is_course = x) ▸ kw_0, (List.forall_mem_cons.mpr ⟨fun x h => (Option.some.inj h : d_is_broken = x) ▸ kw_1, (List.forall_mem_cons.mpr ⟨fun x h => (Option.some.inj h : d_may_follow = x) ▸ kw_2, (fun _ h => nomatch h)⟩)⟩)⟩)
  (fun _ h => nomatch h)
abbrev R : PySem.W.OpenRow := PySem.W.OpenLaw.row PySem.Challenge.rw_thinwire_k07_courses_judged
abbrev hk : PySem.W.Hook := hookT 5 L.fa L.fn (L.nm.ok L.own)
def ob (s : PySem.W.SharedT) : He.AlD := obsT 5 L.fa L.fn (L.nm.ok L.own) (HandSHeadRun.getT s)
theorem ob_eq (s : PySem.W.SharedT) : ob s = hk.obs s.abs := obsT_eq (HandSHeadRun.getT_eq s)
theorem run (w : World) : HandSHeadRun.RunEq R (PySem.W.view R.prog [60]) hk ob 12000 loose w := by
  intro os
  kernel_rfl
end K07
set_option maxHeartbeats 4000000
namespace TW
open PySem
theorem prF {L : LawX} {n j : Nat} {x : DefX} (h : L.defs[j]? = some x) : (L.pr (n + 1)).F j = runF x.N.length (eb (L.pr n) x.bk) := by
  funext xs st
  show (match L.defs[j]? with | some x => runF x.N.length (eb (L.pr n) x.bk) xs st | none => .bad) = _
  rw [h]
theorem prI {L : LawX} {n c : Nat} {x : DefX} (h : L.inits[c]? = some x) : (L.pr (n + 2)).I c = runI c x.N.length (L.nm.cf c).length (eb (L.pr n) x.bk) := by
  funext xs st
  show (match L.inits[c]? with | some x => runI c x.N.length (L.nm.cf c).length (eb (L.pr n) x.bk) xs st | none => .bad) = _
  rw [h]
theorem prQ {L : LawX} {n c : Nat} {x : DefX} (h : L.eqs[c]? = some x) : (L.pr (n + 2)).Q c = runF x.N.length (eb (L.pr n) x.bk) := by
  funext xs st
  show (match L.eqs[c]? with | some x => runF x.N.length (eb (L.pr n) x.bk) xs st | none => .bad) = _
  rw [h]
theorem pr_flds {L : LawX} {n : Nat} : (L.pr n).flds = L.nm.cf := by cases n <;> rfl
theorem pr_xfl {L : LawX} {n : Nat} : (L.pr n).xfl = L.nm.ef := by cases n <;> rfl
theorem pr_ncls {L : LawX} {n : Nat} : (L.pr n).ncls = L.nm.cls.length := by cases n <;> rfl
theorem pr_nexc {L : LawX} {n : Nat} : (L.pr n).nexc = L.nm.exc.length := by cases n <;> rfl
theorem pr_xs {L : LawX} {n : Nat} : (L.pr n).xs = L.nm.xs := by cases n <;> rfl
theorem compF_ok {set : Vl → Ev → Option Ev} {tt : FT} {te : FE} {sk : Src} {env : Ev} {st : Sto} (p : Vl → Bool) (f : Vl → Vl) (hok : sk.ok st = true) : ∀ {xs : List Vl},
    (∀ x ∈ xs, ∃ env2, set x env = some env2 ∧ tt env2 st = .ok (p x) st ∧ (p x = true → te env2 st = .ok (f x) st)) → compF set tt te sk xs env st = .ok ((xs.filter p).map f) st
  | [], _ => rfl
  | x :: xs, h => by
    obtain ⟨env2, h1, h2, h3⟩ := h x List.mem_cons_self
    have ih := compF_ok p f hok fun y hy => h y (List.mem_cons_of_mem _ hy)
    unfold compF
    rw [h1]
    dsimp only
    rw [h2]
    show (Res.ok (p x) st).bind _ = _
    rw [Res.bind_ok]
    cases q : p x with
    | true =>
      rw [if_pos rfl, h3 q]
      show (Res.ok (f x) st).bind _ = _
      rw [Res.bind_ok, if_pos hok, ih, Res.bind_ok, List.filter_cons, q, if_pos rfl]
      rfl
    | false =>
      rw [if_neg (by decide), if_pos hok, ih, List.filter_cons, q]
      rfl
theorem filter_all {α : Type} (xs : List α) : xs.filter (fun _ => true) = xs := by simp
theorem compF_map {set : Vl → Ev → Option Ev} {te : FE} {sk : Src} {env : Ev} {st : Sto} (f : Vl → Vl) (hok : sk.ok st = true) {xs : List Vl}
    (h : ∀ x ∈ xs, ∃ env2, set x env = some env2 ∧ te env2 st = .ok (f x) st) : compF set tYesF te sk xs env st = .ok (xs.map f) st := by
  exact (compF_ok (tt := tYesF) (fun _ => true) f hok fun x hx => let ⟨e, h1, h2⟩ := h x hx; ⟨e, h1, rfl, fun _ => h2⟩).trans (by rw [filter_all])
/-- two clauses, no filter -/
theorem compG_map {set set1 : Vl → Ev → Option Ev} {src1 : FS} {te : FE} {vs1 : List Nat} {sk : Src} {env : Ev} {st : Sto} (g : Vl → List Vl) (hok : sk.ok st = true) : ∀ {xs : List Vl},
    (∀ x ∈ xs, ∃ env2 s1, set x env = some env2 ∧ src1 env2 st = .ok s1 st ∧ compF set1 tYesF te s1 s1.items (wipeE env2 vs1) st = .ok (g x) st) → compG set tYesF src1 set1 tYesF te vs1 sk xs env st = .ok (xs.map g).flatten st
  | [], _ => rfl
  | x :: xs, h => by
    obtain ⟨env2, s1, h1, h2, h3⟩ := h x List.mem_cons_self
    have ih := compG_map g hok fun y hy => h y (List.mem_cons_of_mem _ hy)
    unfold compG
    rw [h1]
    dsimp only
    show (Res.ok true st).bind _ = _
    rw [Res.bind_ok, if_pos rfl, h2]
    show (Res.ok s1 st).bind _ = _
    rw [Res.bind_ok, h3, Res.bind_ok, if_pos hok, ih, Res.bind_ok]
    rfl
/-- the items of values that stand -/
theorem src_ok_nil {xs : List Vl} {st : Sto} : (Src.mk xs []).ok st = true := rfl
theorem src_ok_val {xs : List Vl} {v : Vl} {st : Sto} (h : seqOf v st = some xs) : (Src.mk xs [(v, xs)]).ok st = true := by
  simp [Src.ok, h, sameSeq_refl]
theorem kAll_bls {bs : List Bool} {st : Sto} : kAll (.lst (bs.map .bl)) st = .ok (.bl (bs.all id)) st := by
  have h : ∀ bs : List Bool, blsOf (bs.map .bl) = some bs := fun bs => by
    induction bs with
    | nil => rfl
    | cons b r ih => simp [blsOf, ih]
  simp [kAll, h, Res.lift]
theorem kAll_comp {α : Type} {l : List α} {p : α → Bool} {st : Sto} : kAll (.lst (l.map (Vl.bl ∘ p))) st = .ok (.bl (l.all p)) st := by
  rw [← List.map_map, kAll_bls, List.all_map]
  rfl
theorem mul_ok {i j : Int} {st : Sto} (h : cMul i j = true) : kMul (.int i) (.int j) st = .ok (.int (i * j)) st := by
  simp [kMul, h]
theorem i2_ok {C : Int → Int → Bool} {f : Int → Int → Int} {i j : Int} {st : Sto} (h : C i j = true) : ints2 C f (.int i) (.int j) st = .ok (.int (f i j)) st := by
  simp [ints2, h]
theorem tupRg_ok {i j : Int} {st : Sto} (h : rgOk i j = true) : kTupRg (.int i) (.int j) st = .ok (.tup (rngL i (j - i).toNat)) st := by
  simp [kTupRg, h]
theorem rng1_ok {f : FE} {j : Int} {env : Ev} {st st1 : Sto} (h : f env st = .ok (.int j) st1) (h1 : okR j = true) (h2 : j.toNat ≤ sizeLine) : wRng1 f env st = .ok ⟨rngL 0 j.toNat, []⟩ st1 := by
  unfold wRng1
  rw [h, Res.bind_ok]
  exact if_pos ⟨h1, h2⟩
theorem bind_ite {α β : Type} {c : Prop} [Decidable c] {a b : Res α} {k : α → Sto → Res β} : (if c then a else b).bind k = if c then a.bind k else b.bind k := by split <;> rfl
theorem lift_ite {α : Type} {c : Prop} [Decidable c] {a b : Option α} {s : Sto} : Res.lift (if c then a else b) s = if c then Res.lift a s else Res.lift b s := by split <;> rfl
theorem len_tup {xs : List Vl} {st : Sto} : kLen (.tup xs) st = .ok (.int xs.length) st := rfl
theorem len_lst {xs : List Vl} {st : Sto} : kLen (.lst xs) st = .ok (.int xs.length) st := rfl
theorem len_fro {xs : List Vl} {st : Sto} : kLen (.fro xs) st = .ok (.int xs.length) st := rfl
theorem tru_bl {b : Bool} {st : Sto} : truV (.bl b) st = some b := rfl
theorem tru_int {i : Int} {st : Sto} : truV (.int i) st = some (i != 0) := rfl
theorem and_bl {f g : FE} {env : Ev} {st st1 : Sto} {b : Bool} (h : f env st = .ok (.bl b) st1) : vAndF f g env st = if b = true then g env st1 else .ok (.bl false) st1 := by
  unfold vAndF
  rw [h]
  cases b <;> rfl
theorem or_bl {f g : FE} {env : Ev} {st st1 : Sto} {b : Bool} (h : f env st = .ok (.bl b) st1) : vOrF f g env st = if b = true then .ok (.bl true) st1 else g env st1 := by
  unfold vOrF
  rw [h]
  cases b <;> rfl
theorem evL_disp {P : Pr} {a : Ax} : evL P (.disp a) = TW.fArgs (evA P a) := rfl
theorem evL_cat {P : Pr} {x y : Ex} : evL P (.cat x y) = lCat (ev P x) (ev P y) := rfl
theorem evL_rep {P : Pr} {x y : Ex} : evL P (.rep x y) = lRep (ev P x) (ev P y) := rfl
theorem evL_of {P : Pr} {x : Ex} : evL P (.of x) = lOf (ev P x) := rfl
theorem comp_ok {P : Pr} {t : Tgt} {s : Sx} {e : Ex} {vs : List Nat} {env : Ev} {st : Sto} {src : Src} (f : Vl → Vl) (hs : evS P s env st = .ok src st) (hk : src.ok st = true) (h : ∀ x ∈ src.items, ∃ env2, t.set x (wipeE env vs) = some env2 ∧ ev P e env2 st = .ok (f x) st) :
    evL P (.comp t s .no e vs) env st = .ok (src.items.map f) st := by
  show (evS P s env st).bind _ = _
  rw [hs, Res.bind_ok]
  exact compF_map f hk h
theorem comp2_ok {P : Pr} {t t1 : Tgt} {s s1 : Sx} {e : Ex} {vs vs1 : List Nat} {env : Ev} {st : Sto} {src : Src} (f : Vl → Vl → Vl) (sub : Vl → Src) (hs : evS P s env st = .ok src st) (hk : src.ok st = true)
    (h : ∀ x ∈ src.items, ∃ env2, t.set x (wipeE env vs) = some env2 ∧ evS P s1 env2 st = .ok (sub x) st ∧ (sub x).ok st = true ∧ ∀ y ∈ (sub x).items, ∃ env3, t1.set y (wipeE env2 vs1) = some env3 ∧ ev P e env3 st = .ok (f x y) st)
    (hl : ((src.items.map fun x => (sub x).items.map (f x)).flatten).length ≤ sizeLine) : evL P (.comp2 t s .no t1 s1 .no e vs vs1) env st = .ok (src.items.map fun x => (sub x).items.map (f x)).flatten st := by
  show (evS P s env st).bind _ = _
  rw [hs, Res.bind_ok]
  show (compG t.set tYesF (evS P s1) t1.set tYesF (ev P e) vs1 src src.items (wipeE env vs) st).bind _ = _
  rw [compG_map (fun x => (sub x).items.map (f x)) hk fun x hx => by
    obtain ⟨env2, h1, h2, h3, h4⟩ := h x hx
    exact ⟨env2, sub x, h1, h2, compF_map (f x) h3 h4⟩]
  rw [Res.bind_ok, if_pos hl]
theorem ix_nat {v : Vl} {xs : List Vl} {j : Nat} {y : Vl} {st : Sto} (h0 : strOf v = none) (hv : seqOf v st = some xs) (hj : xs[j]? = some y) : kIx v (.int (j : Int)) st = .ok y st := by
  have hl : j < xs.length := (List.getElem?_eq_some_iff.mp hj).1
  have e : L2.ixN xs.length (j : Int) = some j := by
    unfold L2.ixN
    rw [if_pos (by omega), if_pos (by omega)]
    simp
  simp [kIx, ixV, h0, hv, L2.atI, e, hj, Res.lift]
theorem rng_items {n : Nat} {x : Vl} (h : x ∈ rngL 0 n) : ∃ j : Nat, j < n ∧ x = .int (j : Int) := by
  obtain ⟨j, hj, rfl⟩ := List.mem_map.mp h
  exact ⟨j, List.mem_range.mp hj, by simp⟩
end TW
set_option maxHeartbeats 4000000
namespace TW
open PySem
open L2 (Key)
theorem forF_run {set : Vl → Ev → Option Ev} {body : FSt} {sk : Src} (I : Nat → Ev → Sto → Prop) : ∀ {xs : List Vl} {env : Ev} {st : Sto} {k0 : Nat}, I k0 env st →
    (∀ k x env st, xs[k]? = some x → I (k0 + k) env st → ∃ env2 env' st', set x env = some env2 ∧ body env2 st = .ok (.nx env') st' ∧ sk.ok st' = true ∧ I (k0 + k + 1) env' st') →
    ∃ env' st', forF set body sk xs env st = .ok (.nx env') st' ∧ I (k0 + xs.length) env' st'
  | [], env, st, k0, h0, _ => ⟨env, st, rfl, h0⟩
  | x :: xs, env, st, k0, h0, h => by
    obtain ⟨env2, env', st', h1, h2, h3, h4⟩ := h 0 x env st rfl h0
    obtain ⟨e, s, h5, h6⟩ := forF_run I (xs := xs) (k0 := k0 + 1) h4 fun k y env st hy hi => by
      have := h (k + 1) y env st (by simpa using hy) (by rw [show k0 + (k + 1) = k0 + 1 + k by omega]; exact hi)
      rw [show k0 + (k + 1) + 1 = k0 + 1 + k + 1 by omega] at this
      exact this
    refine ⟨e, s, ?_, by rw [List.length_cons, show k0 + (xs.length + 1) = k0 + 1 + xs.length by omega]; exact h6⟩
    unfold forF
    rw [h1]
    dsimp only
    rw [h2, Res.bind_ok]
    dsimp only
    rw [if_pos h3]
    exact h5
/-- the same with the first turn's invariant at 0 -/
theorem forF_run0 {set : Vl → Ev → Option Ev} {body : FSt} {sk : Src} (I : Nat → Ev → Sto → Prop) {xs : List Vl} {env : Ev} {st : Sto} (h0 : I 0 env st)
    (h : ∀ k x env st, xs[k]? = some x → I k env st → ∃ env2 env' st', set x env = some env2 ∧ body env2 st = .ok (.nx env') st' ∧ sk.ok st' = true ∧ I (k + 1) env' st') :
    ∃ env' st', forF set body sk xs env st = .ok (.nx env') st' ∧ I xs.length env' st' := by
  have := forF_run (set := set) (body := body) (sk := sk) I (xs := xs) (k0 := 0) h0 fun k x env st hx hi => by
    rw [Nat.zero_add] at hi ⊢
    exact h k x env st hx hi
  rw [Nat.zero_add] at this
  exact this
theorem putP_len (a : KVs) (k : Key) (v : Vl) : (putP a k v).length ≤ a.length + 1 := by
  unfold putP
  split
  · simp
  · simp
theorem getP_nil {k : Key} : getP [] k = none := rfl
theorem getP_cons {p : Key × Vl} {a : KVs} {k : Key} : getP (p :: a) k = if p.1 = k then some p.2 else getP a k := by
  unfold getP
  rw [List.find?_cons]
  by_cases h : p.1 = k <;> simp [h]
theorem getP_none {a : KVs} {k : Key} : getP a k = none ↔ (a.any fun kv => decide (kv.1 = k)) = false := by
  induction a with
  | nil => simp [getP]
  | cons p a ih =>
    rw [getP_cons, List.any_cons]
    by_cases h : p.1 = k <;> simp [h, ih]
theorem getP_map (k j : Key) (v : Vl) : ∀ a : KVs, getP (a.map fun kv => if kv.1 = k then (kv.1, v) else kv) j = (getP a j).map fun x => if j = k then v else x
  | [] => rfl
  | p :: a => by
    rw [List.map_cons, getP_cons, getP_cons, getP_map k j v a]
    by_cases h : p.1 = k
    · rw [if_pos h]
      by_cases h2 : p.1 = j
      · have : j = k := h2.symm.trans h
        simp [h2, this]
      · simp [h2]
    · rw [if_neg h]
      by_cases h2 : p.1 = j
      · have : ¬ j = k := fun z => h (h2.trans z)
        simp [h2, this]
      · simp [h2]
theorem getP_app {a b : KVs} {j : Key} : getP (a ++ b) j = (getP a j).or (getP b j) := by
  induction a with
  | nil => simp [getP_nil]
  | cons p a ih =>
    rw [List.cons_append, getP_cons, getP_cons, ih]
    by_cases h : p.1 = j <;> simp [h]
theorem getP_put (a : KVs) (k j : Key) (v : Vl) : getP (putP a k v) j = if j = k then some v else getP a j := by
  unfold putP
  split
  · rename_i h
    rw [getP_map]
    by_cases e : j = k
    · subst e
      have : getP a j ≠ none := fun z => by
        rw [getP_none] at z
        rw [z] at h; cases h
      cases q : getP a j with
      | none => exact absurd q this
      | some x => simp
    · simp [e]
  · rename_i h
    rw [getP_app, getP_cons, getP_nil]
    by_cases e : j = k
    · subst e
      have : getP a j = none := getP_none.mpr (Bool.eq_false_iff.mpr h)
      simp [this]
    · have e' : ¬ k = j := fun z => e z.symm
      simp [e, e']
theorem dcF_fold {set : Vl → Ev → Option Ev} {tk tv : FE} {sk : Src} {env : Ev} {st : Sto} (key : Vl → Key) (val : Vl → Vl) (hok : sk.ok st = true) : ∀ {xs : List Vl} {acc : KVs},
    (∀ x ∈ xs, ∃ env2 kv, set x env = some env2 ∧ tk env2 st = .ok kv st ∧ keyOf kv = some (key x) ∧ tv env2 st = .ok (val x) st) → acc.length + xs.length ≤ sizeLine →
    dcF set tYesF tk tv sk xs acc env st = .ok (xs.foldl (fun a x => putP a (key x) (val x)) acc) st
  | [], acc, _, _ => rfl
  | x :: xs, acc, h, hl => by
    obtain ⟨env2, kv, h1, h2, h3, h4⟩ := h x List.mem_cons_self
    rw [List.length_cons] at hl
    have pl := putP_len acc (key x) (val x)
    have ih := dcF_fold key val hok (xs := xs) (acc := putP acc (key x) (val x)) (fun y hy => h y (List.mem_cons_of_mem _ hy)) (by omega)
    unfold dcF
    rw [h1]
    dsimp only
    show (Res.ok true st).bind _ = _
    rw [Res.bind_ok, if_pos rfl, h2]
    show (Res.ok kv st).bind _ = _
    rw [Res.bind_ok, h4]
    show (Res.ok (val x) st).bind _ = _
    rw [Res.bind_ok, h3]
    dsimp only
    rw [if_pos hok, if_pos (by omega), ih]
    rfl
theorem pairs_of : ∀ a : KVs, pairs (a.map (·.1)) (a.map (·.2)) = a
  | [] => rfl
  | p :: a => by
    have ih := pairs_of a
    unfold pairs at ih ⊢
    rw [List.map_cons, List.map_cons, List.zip_cons_cons, ih]
theorem eb_nx {P : Pr} {s : Sm} {b : Bk} {env env1 : Ev} {st st1 : Sto} {r : Res Fl} (h : es P s env st = .ok (.nx env1) st1) (h2 : eb P b env1 st1 = r) : eb P (.cons s b) env st = r := by
  show (es P s env st).bind _ = _
  rw [h, Res.bind_ok]
  exact h2
theorem eb_rt {P : Pr} {s : Sm} {b : Bk} {env : Ev} {st st1 : Sto} {v : Vl} (h : es P s env st = .ok (.rt v) st1) : eb P (.cons s b) env st = .ok (.rt v) st1 := by
  show (es P s env st).bind _ = _
  rw [h, Res.bind_ok]
theorem eb_exc {P : Pr} {s : Sm} {b : Bk} {env : Ev} {st st1 : Sto} {c : Nat} {fs : List Vl} (h : es P s env st = .exc c fs st1) : eb P (.cons s b) env st = .exc c fs st1 := by
  show (es P s env st).bind _ = _
  rw [h]
  rfl
theorem eb_end {P : Pr} {env : Ev} {st : Sto} : eb P .nil env st = .ok (.nx env) st := rfl
theorem set_ok {P : Pr} {i : Nat} {x : Ex} {env : Ev} {st st1 : Sto} {v : Vl} (h : ev P x env st = .ok v st1) : es P (.set i x) env st = .ok (.nx (env.set i (some (.val v)))) st1 := by
  show (ev P x env st).bind _ = _
  rw [h, Res.bind_ok]
theorem own_ok {P : Pr} {i : Nat} {x : Lx} {env : Ev} {st st1 : Sto} {v : List Vl} (h : evL P x env st = .ok v st1) : es P (.own i x) env st = .ok (.nx (env.set i (some (.own (.lst v))))) st1 := by
  show (evL P x env st).bind _ = _
  rw [h, Res.bind_ok]
theorem ret_ok {P : Pr} {x : Ex} {env : Ev} {st st1 : Sto} {v : Vl} (h : ev P x env st = .ok v st1) : es P (.ret x) env st = .ok (.rt v) st1 := by
  show (ev P x env st).bind _ = _
  rw [h, Res.bind_ok]
theorem ex_ok {P : Pr} {x : Ex} {env : Ev} {st st1 : Sto} {v : Vl} (h : ev P x env st = .ok v st1) : es P (.ex x) env st = .ok (.nx env) st1 := by
  show (ev P x env st).bind _ = _
  rw [h, Res.bind_ok]
theorem app_own {P : Pr} {i : Nat} {x : Ex} {env : Ev} {st st1 : Sto} {xs : List Vl} {v : Vl} (hi : env[i]? = some (some (.own (.lst xs)))) (h : ev P x env st = .ok v st1) (hl : xs.length < sizeLine) : es P (.app i x) env st = .ok (.nx (env.set i (some (.own (.lst (xs ++ [v])))))) st1 := by
  show sApp i (ev P x) env st = _
  unfold sApp
  rw [hi]
  dsimp only
  rw [h, Res.bind_ok, if_pos hl]
theorem for_ok {P : Pr} {t : Tgt} {s : Sx} {b : Bk} {env env1 : Ev} {st st1 st2 : Sto} {src : Src} (hs : evS P s env st = .ok src st1) (h : forF t.set (eb P b) src src.items env st1 = .ok (.nx env1) st2) : es P (.for_ t s b) env st = .ok (.nx env1) st2 := by
  show (evS P s env st).bind _ = _
  rw [hs, Res.bind_ok, h]
theorem if_ok {P : Pr} {t : Tx} {a b : Bk} {env : Ev} {st st1 : Sto} {k : Bool} (h : evT P t env st = .ok k st1) : es P (.ifs t a b) env st = if k = true then eb P a env st1 else eb P b env st1 := by
  show (evT P t env st).bind _ = _
  rw [h, Res.bind_ok]
theorem lst_ok {P : Pr} {l : Lx} {env : Ev} {st st1 : Sto} {xs : List Vl} (h : evL P l env st = .ok xs st1) : ev P (.lst l) env st = .ok (.lst xs) st1 := by
  show (evL P l env st).bind _ = _
  rw [h, Res.bind_ok]
theorem cell_ok {P : Pr} {l : Lx} {env : Ev} {st st1 : Sto} {xs : List Vl} (h : evL P l env st = .ok xs st1) : ev P (.cell l) env st = .ok (.ref (st1 : List Ob).length) (st1 ++ [.lst xs]) := by
  show (evL P l env st).bind _ = _
  rw [h, Res.bind_ok]
theorem run_rt {n : Nat} {P : Pr} {b : Bk} {xs : List Vl} {st st1 : Sto} {v : Vl} (h : eb P b (entry n xs) st = .ok (.rt v) st1) : runF n (eb P b) xs st = .ok v st1 := by
  unfold runF
  rw [h]
  rfl
end TW
set_option maxHeartbeats 4000000
namespace TW
open PySem
/-- the value is data of at most that depth -/
structure Dat (k : Nat) (v : Vl) (d : PyData) : Prop where
  p : pdV v = some d
  l : d.canLay0 = true
  k : d.depth ≤ k
structure Dats (k : Nat) (vs : List Vl) (ds : List PyData) : Prop where
  p : pdVs vs = some ds
  l : PyData.canLayAll0 ds = true
  k : PyData.depthAll ds ≤ k
theorem dat_int {k : Nat} {i : Int} : Dat k (.int i) (.int i) := ⟨rfl, rfl, Nat.zero_le _⟩
theorem dat_non {k : Nat} : Dat k .non .none := ⟨rfl, rfl, Nat.zero_le _⟩
theorem dats_nil {k : Nat} : Dats k [] [] := ⟨rfl, rfl, Nat.zero_le _⟩
theorem dats_cons {k : Nat} {v : Vl} {d : PyData} {vs : List Vl} {ds : List PyData} (h : Dat k v d) (hs : Dats k vs ds) : Dats k (v :: vs) (d :: ds) := by
  refine ⟨?_, ?_, ?_⟩
  · unfold pdVs
    rw [h.p, hs.p]
  · unfold PyData.canLayAll0
    rw [h.l, hs.l]
    rfl
  · unfold PyData.depthAll
    exact Nat.max_le.mpr ⟨h.k, hs.k⟩
theorem dats_map {α : Type} {k : Nat} {f : α → Vl} {g : α → PyData} : ∀ {l : List α}, (∀ x ∈ l, Dat k (f x) (g x)) → Dats k (l.map f) (l.map g)
  | [], _ => dats_nil
  | x :: l, h => dats_cons (h x List.mem_cons_self) (dats_map fun y hy => h y (List.mem_cons_of_mem _ hy))
theorem Dats.tup {k : Nat} {vs : List Vl} {ds : List PyData} (h : Dats k vs ds) : Dat (k + 1) (.tup vs) (.tuple ds) := by
  refine ⟨?_, ?_, ?_⟩
  · unfold pdV
    rw [h.p]
    rfl
  · unfold PyData.canLay0
    exact h.l
  · unfold PyData.depth
    exact Nat.succ_le_succ h.k
theorem Dats.lst {k : Nat} {vs : List Vl} {ds : List PyData} (h : Dats k vs ds) : Dat (k + 1) (.lst vs) (.list ds) := by
  refine ⟨?_, ?_, ?_⟩
  · unfold pdV
    rw [h.p]
    rfl
  · unfold PyData.canLay0
    exact h.l
  · unfold PyData.depth
    exact Nat.succ_le_succ h.k
theorem Dat.shaped {k : Nat} {v : Vl} {d : PyData} (h : Dat k v d) (hk : k ≤ 64) : SeqAt.shaped d = true := by
  unfold SeqAt.shaped
  rw [h.l, decide_eq_true (Nat.le_trans h.k hk)]
  rfl
theorem eq_tup {k : Nat} {xs ys : List Vl} {d e : PyData} {st : Sto} (h : Dat k (.tup xs) d) (h2 : Dat k (.tup ys) e) (hk : k ≤ 64) : kEq (.tup xs) (.tup ys) st = some (PyData.eqv d e) := by
  unfold kEq
  dsimp only
  rw [show pdR st (.tup xs) = some d from h.p, show pdR st (.tup ys) = some e from h2.p]
  dsimp only
  rw [h.shaped hk, h2.shaped hk]
  rfl
theorem eq_lst {k : Nat} {xs ys : List Vl} {d e : PyData} {st : Sto} (h : Dat k (.lst xs) d) (h2 : Dat k (.lst ys) e) (hk : k ≤ 64) : kEq (.lst xs) (.lst ys) st = some (PyData.eqv d e) := by
  unfold kEq
  dsimp only
  rw [show pdR st (.lst xs) = some d from h.p, show pdR st (.lst ys) = some e from h2.p]
  dsimp only
  rw [h.shaped hk, h2.shaped hk]
  rfl
end TW
set_option maxHeartbeats 4000000
namespace TW
open PySem
open L2 (Key)
abbrev XP := Nat → List Vl → Sto → Prop
def nX : XP := fun _ _ _ => False
def Res.wp0 {α : Type} (r : Res α) (Q : α → Sto → Prop) (X : XP) : Prop := match r with
  | .ok a s => Q a s
  | .exc c fs s => X c fs s
  | .bad => False
/-- what a run must end in; nothing looks through it -/
structure Res.wp {α : Type} (r : Res α) (Q : α → Sto → Prop) (X : XP) : Prop where
  go : r.wp0 Q X
section
variable {α β : Type} {r : Res α} {Q Q' : α → Sto → Prop} {X X' : XP}
theorem wp_ok {a : α} {s : Sto} (h : Q a s) : (Res.ok a s).wp Q X := ⟨h⟩
theorem wp_ex {c : Nat} {fs : List Vl} {s : Sto} (h : X c fs s) : (Res.exc c fs s : Res α).wp Q X := ⟨h⟩
theorem ok_wp {a : α} {s : Sto} (h : (Res.ok a s).wp Q X) : Q a s := h.go
theorem ex_wp {c : Nat} {fs : List Vl} {s : Sto} (h : (Res.exc c fs s : Res α).wp Q X) : X c fs s := h.go
theorem wp_bind {k : α → Sto → Res β} {Q : β → Sto → Prop} (h : r.wp (fun a s => (k a s).wp Q X) X) : (r.bind k).wp Q X := by
  cases r with
  | ok a s => exact h.go
  | exc c fs s => exact ⟨h.go⟩
  | bad => exact ⟨h.go⟩
theorem wp_eq {a : α} {s : Sto} (e : r = .ok a s) (h : Q a s) : r.wp Q X := by rw [e]; exact ⟨h⟩
theorem wp_exc {c : Nat} {fs : List Vl} {s : Sto} (e : r = .exc c fs s) (h : X c fs s) : r.wp Q X := by rw [e]; exact ⟨h⟩
theorem wp_mono (h : r.wp Q X) (m : ∀ a s, Q a s → Q' a s) (x : ∀ c fs s, X c fs s → X' c fs s) : r.wp Q' X' := by
  cases r with
  | ok a s => exact ⟨m a s h.go⟩
  | exc c fs s => exact ⟨x c fs s h.go⟩
  | bad => exact ⟨h.go⟩
theorem wp_m (h : r.wp Q X) (m : ∀ a s, Q a s → Q' a s) : r.wp Q' X := wp_mono h m fun _ _ _ h => h
theorem wp_some {a : α} {s : Sto} {o : Option α} (e : o = some a) (h : Q a s) : (Res.lift o s).wp Q X := by rw [e]; exact ⟨h⟩
theorem wp_get (h : r.wp Q nX) : ∃ a s, r = .ok a s ∧ Q a s := by
  cases r with
  | ok a s => exact ⟨a, s, rfl, h.go⟩
  | exc c fs s => exact h.go.elim
  | bad => exact h.go.elim
theorem wp_noX (h : r.wp Q nX) : (noX r).wp Q X := by
  cases r with
  | ok a s => exact ⟨h.go⟩
  | exc c fs s => exact h.go.elim
  | bad => exact h.go.elim
theorem wp_ofX (h : r.wp Q nX) : r.wp Q X := wp_mono h (fun _ _ h => h) fun _ _ _ h => h.elim
theorem wp_if {c : Prop} [Decidable c] {a b : Res α} (h : c) (q : a.wp Q X) : (if c then a else b).wp Q X := by rw [if_pos h]; exact q
theorem wp_ifk {c : Prop} [Decidable c] {a : α} {s : Sto} {b : Res α} (h : c) (q : Q a s) : (if c then .ok a s else b).wp Q X := wp_if h ⟨q⟩
end
theorem dz_set0 {α : Type} {a x : α} {l : List α} : List.set (a :: l) 0 x = x :: l := rfl
theorem dz_set1 {α : Type} {a x : α} {l : List α} {n : Nat} : List.set (a :: l) (n + 1) x = a :: List.set l n x := rfl
theorem dz_map0 {α β : Type} {f : α → β} : List.map f [] = [] := rfl
theorem dz_map1 {α β : Type} {f : α → β} {a : α} {l : List α} : List.map f (a :: l) = f a :: List.map f l := rfl
theorem dz_app0 {α : Type} {l : List α} : [] ++ l = l := rfl
theorem dz_app1 {α : Type} {a : α} {l m : List α} : (a :: l) ++ m = a :: (l ++ m) := rfl
theorem dz_len0 {α : Type} : ([] : List α).length = 0 := rfl
theorem dz_len1 {α : Type} {a : α} {l : List α} : (a :: l).length = l.length + 1 := rfl
theorem dz_rep0 {α : Type} {a : α} : List.replicate 0 a = [] := rfl
theorem dz_rep1 {α : Type} {a : α} {n : Nat} : List.replicate (n + 1) a = a :: List.replicate n a := rfl
theorem dz_setN0 {env : Ev} {xs : List Vl} : setN [] xs env = env := rfl
theorem dz_setN1 {i : Nat} {is : List Nat} {x : Vl} {xs : List Vl} {env : Ev} : setN (i :: is) (x :: xs) env = setN is xs (List.set env i (some (.val x))) := rfl
theorem dz_wipe0 {env : Ev} : wipeE env [] = env := rfl
theorem dz_wipe1 {env : Ev} {i : Nat} {is : List Nat} : wipeE env (i :: is) = List.set (wipeE env is) i none := rfl
theorem dz_entry {n : Nat} {xs : List Vl} : entry n xs = xs.map (fun x => some (.val x)) ++ List.replicate (n - xs.length) none := rfl
theorem dz_entryI {c n : Nat} {xs : List Vl} : entryI c n xs = some (.own (.ins c [])) :: entry (n - 1) xs := rfl
def brW (b : Bool) (A B : Prop) : Prop := (b = true → A) ∧ (b = false → B)
theorem br_tt {A B : Prop} (h : A) : brW true A B := ⟨fun _ => h, (fun e => nomatch e)⟩
theorem br_ff {A B : Prop} (h : B) : brW false A B := ⟨(fun e => nomatch e), fun _ => h⟩
theorem br_of {b : Bool} {A B : Prop} (t : b = true → A) (f : b = false → B) : brW b A B := ⟨t, f⟩
theorem br_T {b : Bool} {A B : Prop} (h : b = true) (t : A) : brW b A B := ⟨fun _ => t, fun e => Bool.noConfusion (h.symm.trans e)⟩
theorem br_F {b : Bool} {A B : Prop} (h : b = false) (t : B) : brW b A B := ⟨fun e => Bool.noConfusion (h.symm.trans e), fun _ => t⟩
theorem br_dec {p : Prop} [Decidable p] {A B : Prop} (t : p → A) (f : ¬ p → B) : brW (decide p) A B := ⟨fun e => t (of_decide_eq_true e), fun e => f (of_decide_eq_false e)⟩
theorem br_decT {p : Prop} [Decidable p] {A B : Prop} (h : p) (t : A) : brW (decide p) A B := br_dec (fun _ => t) fun n => absurd h n
theorem br_decF {p : Prop} [Decidable p] {A B : Prop} (h : ¬ p) (t : B) : brW (decide p) A B := br_dec (fun n => absurd n h) fun _ => t
theorem br_ta {b : Bool} {A B : Prop} (h : brW b A B) : brW (true && b) A B := h
theorem br_fa {b : Bool} {A B : Prop} (h : B) : brW (false && b) A B := br_ff h
theorem br_and {a b : Bool} {A B : Prop} (h : brW a (brW b A B) B) : brW (a && b) A B := by
  cases a
  · exact br_ff (h.2 rfl)
  · exact h.1 rfl
theorem br_N {v : Vl} {A B : Prop} (h : isNon v = true) (t : A) : brW (isNon v) A B := br_T h t
theorem br_n {v : Vl} {A B : Prop} (h : isNon v = false) (t : B) : brW (isNon v) A B := br_F h t
theorem br_A {α : Type} {l : List α} {f : α → Bool} {A B : Prop} (h : l.any f = true) (t : A) : brW (l.any f) A B := br_T h t
theorem br_a {α : Type} {l : List α} {f : α → Bool} {A B : Prop} (h : l.any f = false) (t : B) : brW (l.any f) A B := br_F h t
theorem br_not {b : Bool} {A B : Prop} (h : brW b B A) : brW (!b) A B := by
  cases b
  · exact br_tt (h.2 rfl)
  · exact br_ff (h.1 rfl)
theorem br_ite {b : Bool} {α : Type} {a c : Res α} {Q : α → Sto → Prop} {X : XP} (h : brW b (a.wp Q X) (c.wp Q X)) : (if b = true then a else c).wp Q X := by
  cases b
  · exact h.2 rfl
  · exact h.1 rfl
def cmW (o : Cm) (v w : Vl) (s : Sto) (Q : Bool → Sto → Prop) : Prop := ∃ b, cmK o v w s = some b ∧ Q b s
section
variable {s : Sto} {Q : Bool → Sto → Prop} {i j : Int} {x y : Str} {v w : Vl}
theorem cm_by {o : Cm} {b : Bool} (e : cmK o v w s = some b) (h : Q b s) : cmW o v w s Q := ⟨b, e, h⟩
theorem cm_lt (h : Q (decide (i < j)) s) : cmW .lt (.int i) (.int j) s Q := ⟨_, rfl, h⟩
theorem cm_le (h : Q (decide (i ≤ j)) s) : cmW .le (.int i) (.int j) s Q := ⟨_, rfl, h⟩
theorem cm_gt (h : Q (decide (j < i)) s) : cmW .gt (.int i) (.int j) s Q := ⟨_, rfl, h⟩
theorem cm_ge (h : Q (decide (j ≤ i)) s) : cmW .ge (.int i) (.int j) s Q := ⟨_, rfl, h⟩
theorem cm_eqI (h : Q (decide (i = j)) s) : cmW .eq (.int i) (.int j) s Q := ⟨_, rfl, h⟩
theorem cm_neI (h : Q (!decide (i = j)) s) : cmW .ne (.int i) (.int j) s Q := ⟨_, rfl, h⟩
theorem cm_eqB {a b : Bool} (h : Q (decide (a = b)) s) : cmW .eq (.bl a) (.bl b) s Q := ⟨_, rfl, h⟩
theorem cm_neB {a b : Bool} (h : Q (!decide (a = b)) s) : cmW .ne (.bl a) (.bl b) s Q := ⟨_, rfl, h⟩
theorem cm_eqS (h : Q (decide (x = y)) s) : cmW .eq (.str x) (.str y) s Q := ⟨_, rfl, h⟩
theorem cm_neS (h : Q (!decide (x = y)) s) : cmW .ne (.str x) (.str y) s Q := ⟨_, rfl, h⟩
theorem cm_isN (h : Q (isNon v) s) : cmW .is_ v .non s Q := ⟨_, rfl, h⟩
theorem cm_isnotN (h : Q (!isNon v) s) : cmW .isnot v .non s Q := ⟨_, rfl, h⟩
theorem cm_isB {a b : Bool} (h : Q (decide (a = b)) s) : cmW .is_ (.bl a) (.bl b) s Q := ⟨_, rfl, h⟩
theorem cm_isnotB {a b : Bool} (h : Q (!decide (a = b)) s) : cmW .isnot (.bl a) (.bl b) s Q := ⟨_, rfl, h⟩
end
section
variable {s : Sto} {Q : Vl → Sto → Prop} {X : XP} {i j : Int}
theorem op_add (h : Q (.int (i + j)) s) : (opK .add (.int i) (.int j) s).wp Q X := wp_ok h
theorem op_addL {xs ys : List Vl} (l : xs.length + ys.length ≤ sizeLine) (h : Q (.lst (xs ++ ys)) s) : (opK .add (.lst xs) (.lst ys) s).wp Q X := wp_ifk l h
theorem op_addT {xs ys : List Vl} (l : xs.length + ys.length ≤ sizeLine) (h : Q (.tup (xs ++ ys)) s) : (opK .add (.tup xs) (.tup ys) s).wp Q X := wp_ifk l h
theorem op_sub (h : Q (.int (i - j)) s) : (opK .sub (.int i) (.int j) s).wp Q X := wp_ok h
theorem op_mul (l : cMul i j = true) (h : Q (.int (i * j)) s) : (opK .mul (.int i) (.int j) s).wp Q X := wp_ifk l h
theorem op_div (l : cDiv i j = true) (h : Q (.int (i / j)) s) : (opK .fdiv (.int i) (.int j) s).wp Q X := wp_ifk l h
theorem op_mod (l : 0 < j) (h : Q (.int (i % j)) s) : (opK .mod (.int i) (.int j) s).wp Q X := wp_ifk (c := cMod i j = true) (decide_eq_true l) h
theorem op_pow (l : cPow i j = true) (h : Q (.int (i ^ j.toNat)) s) : (opK .pow (.int i) (.int j) s).wp Q X := wp_ifk l h
theorem op_shl (l : cPow i j = true) (h : Q (.int (i * 2 ^ j.toNat)) s) : (opK .shl (.int i) (.int j) s).wp Q X := wp_ifk l h
theorem op_shr (l : cShr i j = true) (h : Q (.int (i / 2 ^ j.toNat)) s) : (opK .shr (.int i) (.int j) s).wp Q X := wp_ifk l h
theorem op_and (h : Q (.int (Builtin.bitAnd i j)) s) : (opK .and_ (.int i) (.int j) s).wp Q X := wp_ok h
theorem op_or (h : Q (.int (Builtin.bitOr i j)) s) : (opK .or_ (.int i) (.int j) s).wp Q X := wp_ok h
end
def fldW (flds : Nat → List Str) (f : Str) (v : Vl) (Q : Vl → Prop) : Prop := ∃ c fs w, v = .obj c fs ∧ fldOf (flds c) fs f = some w ∧ Q w
theorem fld_by {flds : Nat → List Str} {f : Str} {Q : Vl → Prop} {v : Vl} {c : Nat} {fs : List Vl} {w : Vl} (e0 : v = .obj c fs) (e : fldOf (flds c) fs f = some w) (h : Q w) : fldW flds f v Q := ⟨c, fs, w, e0, e, h⟩
def tgW (n : Nat) (v : Vl) (s : Sto) (Q : Tg → Prop) : Prop := ∃ t, tgOf n v s = some t ∧ Q t
theorem tg_by {n : Nat} {v : Vl} {s : Sto} {Q : Tg → Prop} {t : Tg} (e : tgOf n v s = some t) (h : Q t) : tgW n v s Q := ⟨t, e, h⟩
def seqW (v : Vl) (s : Sto) (Q : List Vl → Prop) : Prop := ∃ xs, seqOf v s = some xs ∧ Q xs
theorem seq_by {v : Vl} {s : Sto} {Q : List Vl → Prop} {xs : List Vl} (e : seqOf v s = some xs) (h : Q xs) : seqW v s Q := ⟨xs, e, h⟩
def setW (set : Vl → Ev → Option Ev) (v : Vl) (env : Ev) (Q : Ev → Prop) : Prop := ∃ e, set v env = some e ∧ Q e
theorem set_by {set : Vl → Ev → Option Ev} {v : Vl} {env e : Ev} {Q : Ev → Prop} (h : set v env = some e) (q : Q e) : setW set v env Q := ⟨e, h, q⟩
def negW (v : Vl) (Q : Int → Prop) : Prop := ∃ i : Int, v = .int i ∧ Q i
theorem neg_by {i : Int} {Q : Int → Prop} (q : Q i) : negW (.int i) Q := ⟨i, rfl, q⟩
def parW (a b : Nat) (Q : Prop) : Prop := a = b ∧ Q
theorem par_by {a b : Nat} {Q : Prop} (e : a = b) (q : Q) : parW a b Q := ⟨e, q⟩
def partW (v : Vl) (Q : Option Int → Prop) : Prop := ∃ i : Int, v = .int i ∧ Q (some i)
theorem part_by {i : Int} {Q : Option Int → Prop} (q : Q (some i)) : partW (.int i) Q := ⟨i, rfl, q⟩
def r1W (v : Vl) (Q : Int → Prop) : Prop := ∃ j : Int, v = .int j ∧ j ≤ 1000000 ∧ -1000000 ≤ j ∧ Q j
theorem r1_by {j : Int} {Q : Int → Prop} (h : j ≤ 1000000) (h0 : -1000000 ≤ j) (q : Q j) : r1W (.int j) Q := ⟨j, rfl, h, h0, q⟩
section
variable {P : Pr} {env : Ev} {st : Sto} {Q : Vl → Sto → Prop} {X : XP} {x y z : Ex} {i : Nat} {v : Vl}
theorem e_v (h : env[i]? = some (some (.val v))) (q : Q v st) : (ev P (.v i) env st).wp Q X := by
  show (fVar i env st).wp Q X
  unfold fVar
  rw [h]
  exact wp_ok q
theorem e_bv (h : env[i]? = some (some (.val v))) (q : Q v st) : (ev P (.b i) env st).wp Q X := by
  show (fBor i env st).wp Q X
  unfold fBor
  rw [h]
  exact wp_ok q
theorem e_bl {xs : List Vl} (h : env[i]? = some (some (.own (.lst xs)))) (q : Q (.lst xs) st) : (ev P (.b i) env st).wp Q X := by
  show (fBor i env st).wp Q X
  unfold fBor
  rw [h]
  exact wp_ok q
theorem e_k (q : Q v st) : (ev P (.k v) env st).wp Q X := wp_ok q
theorem e_dct0 (q : Q (.dct [] []) st) : (ev P .dct0 env st).wp Q X := wp_ok q
theorem e_g {i : Int} (q : Q (.int i) st) : (ev P (.g i) env st).wp Q X := wp_ok q
theorem e_bin {o : Op2} (q : (ev P x env st).wp (fun v s => (ev P y env s).wp (fun w s => (opK o v w s).wp Q X) X) X) : (ev P (.bin o x y) env st).wp Q X := wp_bind (wp_mono q (fun _ _ h => wp_bind h)  fun _ _ _ h => h)
theorem e_neg (q : (ev P x env st).wp (fun v s => negW v fun i => Q (.int (-i)) s) X) : (ev P (.neg x) env st).wp Q X := wp_bind (wp_mono q (fun _ _ ⟨_, e, h⟩ => e ▸ wp_ok h)  fun _ _ _ h => h)
theorem e_cmpB {t : FT} {o : Res Bool} (e : t env st = o) (q : o.wp (fun b s => Q (.bl b) s) X) : (fB t env st).wp Q X := by
  unfold fB
  rw [e]
  exact wp_bind (wp_m q fun _ _ h => wp_ok h)
theorem t_cmp {o : Cm} {Q : Bool → Sto → Prop} (q : (ev P x env st).wp (fun v s => (ev P y env s).wp (fun w s => cmW o v w s Q) X) X) : (evT P (.cmp o x y) env st).wp Q X :=
  wp_bind (wp_mono q (fun _ _ h => wp_bind (wp_mono h (fun _ _ ⟨_, e, h⟩ => wp_some e h)  fun _ _ _ h => h))  fun _ _ _ h => h)
theorem e_cmp {o : Cm} (q : (evT P (.cmp o x y) env st).wp (fun b s => Q (.bl b) s) X) : (ev P (.cmp o x y) env st).wp Q X := e_cmpB rfl q
theorem t_chn {o p : Cm} {Q : Bool → Sto → Prop} (q : (ev P x env st).wp (fun v s => (ev P y env s).wp (fun w s => cmW o v w s fun b s => brW b ((ev P z env s).wp (fun u s => cmW p w u s Q) X) (Q false s)) X) X) : (evT P (.chn o p x y z) env st).wp Q X :=
  wp_bind (wp_mono q (fun _ _ h => wp_bind (wp_mono h (fun _ _ ⟨_, e, h⟩ => wp_bind (wp_some e (br_ite ⟨fun t => wp_bind (wp_mono (h.1 t) (fun _ _ ⟨_, e, h⟩ => wp_some e h)  fun _ _ _ h => h), fun t => wp_ok (h.2 t)⟩)))  fun _ _ _ h => h))  fun _ _ _ h => h)
theorem e_chn {o p : Cm} (q : (evT P (.chn o p x y z) env st).wp (fun b s => Q (.bl b) s) X) : (ev P (.chn o p x y z) env st).wp Q X := e_cmpB rfl q
theorem e_one (q : (ev P x env st).wp Q X) : (ev P (.one x) env st).wp Q X := q
theorem e_ife {c : Tx} (q : (evT P c env st).wp (fun b s => brW b ((ev P x env s).wp Q X) ((ev P y env s).wp Q X)) X) : (ev P (.ife c x y) env st).wp Q X := wp_bind (wp_mono q (fun _ _ h => br_ite h)  fun _ _ _ h => h)
def truW (v : Vl) (s : Sto) (Q : Bool → Sto → Prop) : Prop := ∃ b, truV v s = some b ∧ Q b s
theorem tru_by {v : Vl} {s : Sto} {Q : Bool → Sto → Prop} {b : Bool} (e : truV v s = some b) (h : Q b s) : truW v s Q := ⟨b, e, h⟩
theorem tru_B {b : Bool} {s : Sto} {Q : Bool → Sto → Prop} (h : Q b s) : truW (.bl b) s Q := ⟨b, rfl, h⟩
theorem tru_I {i : Int} {s : Sto} {Q : Bool → Sto → Prop} (h : Q (!decide (i = 0)) s) : truW (.int i) s Q := ⟨_, rfl, by
  have : (i != 0) = !decide (i = 0) := by by_cases e : i = 0 <;> simp [e]
  rw [this]; exact h⟩
theorem tru_N {s : Sto} {Q : Bool → Sto → Prop} (h : Q false s) : truW .non s Q := ⟨_, rfl, h⟩
theorem tru_L {xs : List Vl} {s : Sto} {Q : Bool → Sto → Prop} (h : Q (!xs.isEmpty) s) : truW (.lst xs) s Q := ⟨_, rfl, h⟩
theorem tru_T {xs : List Vl} {s : Sto} {Q : Bool → Sto → Prop} (h : Q (!xs.isEmpty) s) : truW (.tup xs) s Q := ⟨_, rfl, h⟩
theorem e_an (q : (ev P x env st).wp (fun v s => truW v s fun b s => brW b ((ev P y env s).wp Q X) (Q v s)) X) : (ev P (.an x y) env st).wp Q X :=
  wp_bind (wp_mono q (fun _ _ ⟨b, e, h⟩ => by
    rw [e]
    cases b
    · exact wp_ok (h.2 rfl)
    · exact h.1 rfl)  fun _ _ _ h => h)
theorem e_or (q : (ev P x env st).wp (fun v s => truW v s fun b s => brW b (Q v s) ((ev P y env s).wp Q X)) X) : (ev P (.or x y) env st).wp Q X :=
  wp_bind (wp_mono q (fun _ _ ⟨b, e, h⟩ => by
    rw [e]
    cases b
    · exact h.2 rfl
    · exact wp_ok (h.1 rfl))  fun _ _ _ h => h)
theorem e_nt (q : (ev P x env st).wp (fun v s => truW v s fun b s => Q (.bl (!b)) s) X) : (ev P (.nt x) env st).wp Q X := wp_bind (wp_mono q (fun _ _ ⟨_, e, h⟩ => wp_bind (wp_some e (wp_ok h)))  fun _ _ _ h => h)
theorem t_tr {Q : Bool → Sto → Prop} (q : (ev P x env st).wp (fun v s => truW v s Q) X) : (evT P (.tr x) env st).wp Q X := wp_bind (wp_mono q (fun _ _ ⟨_, e, h⟩ => wp_some e h)  fun _ _ _ h => h)
theorem t_not {t : Tx} {Q : Bool → Sto → Prop} (q : (evT P t env st).wp (fun b s => Q (!b) s) X) : (evT P (.not t) env st).wp Q X := wp_bind (wp_m q fun _ _ h => wp_ok h)
theorem t_an {t u : Tx} {Q : Bool → Sto → Prop} (q : (evT P t env st).wp (fun b s => brW b ((evT P u env s).wp Q X) (Q false s)) X) : (evT P (.an t u) env st).wp Q X := wp_bind (wp_mono q (fun _ _ h => br_ite ⟨h.1, fun e => wp_ok (h.2 e)⟩)  fun _ _ _ h => h)
theorem t_or {t u : Tx} {Q : Bool → Sto → Prop} (q : (evT P t env st).wp (fun b s => brW b (Q true s) ((evT P u env s).wp Q X)) X) : (evT P (.or t u) env st).wp Q X := wp_bind (wp_mono q (fun _ _ h => br_ite ⟨fun e => wp_ok (h.1 e), h.2⟩)  fun _ _ _ h => h)
theorem t_one {t : Tx} {Q : Bool → Sto → Prop} (q : (evT P t env st).wp Q X) : (evT P (.one t) env st).wp Q X := q
theorem e_ix (q : (ev P x env st).wp (fun v s => (ev P y env s).wp (fun w s => (kIx v w s).wp Q X) X) X) : (ev P (.ix x y) env st).wp Q X := wp_bind (wp_mono q (fun _ _ h => wp_bind h)  fun _ _ _ h => h)
theorem e_dix (q : (ev P x env st).wp (fun v s => (ev P y env s).wp (fun w s => (kGetIx v w s).wp Q X) X) X) : (ev P (.dix x y) env st).wp Q X := wp_bind (wp_mono q (fun _ _ h => wp_bind h)  fun _ _ _ h => h)
theorem e_tup {a : Ax} (q : (TW.fArgs (evA P a) env st).wp (fun vs s => Q (.tup vs) s) X) : (ev P (.tup a) env st).wp Q X := wp_bind (wp_m q fun _ _ h => wp_ok h)
theorem e_lst {l : Lx} (q : (evL P l env st).wp (fun vs s => Q (.lst vs) s) X) : (ev P (.lst l) env st).wp Q X := wp_bind (wp_m q fun _ _ h => wp_ok h)
theorem e_cell {l : Lx} (q : (evL P l env st).wp (fun vs s => Q (.ref (s : List Ob).length) ((s : List Ob) ++ [.lst vs])) X) : (ev P (.cell l) env st).wp Q X := wp_bind (wp_m q fun _ _ h => wp_ok h)
theorem e_fld {f : Str} (q : (ev P x env st).wp (fun v s => fldW P.flds f v fun w => Q w s) X) : (ev P (.fld f x) env st).wp Q X := wp_bind (wp_mono q (fun _ _ ⟨_, _, _, e, e2, h⟩ => by rw [e]; exact wp_some e2 h)  fun _ _ _ h => h)
theorem e_sfld {f : Str} {c : Nat} {fs : List Vl} {w : Vl} (h : env[i]? = some (some (.own (.ins c fs)))) (e : fldOf (P.flds c) fs f = some w) (q : Q w st) : (ev P (.sfld i f) env st).wp Q X := by
  show (vSFld P.flds i f env st).wp Q X
  unfold vSFld
  rw [h]
  exact wp_some e q
theorem e_b1 {o : B1} (q : (ev P x env st).wp (fun v s => (b1K o v s).wp Q X) X) : (ev P (.b1 o x) env st).wp Q X := wp_bind q
theorem e_b2 {o : B2} (q : (ev P x env st).wp (fun v s => (ev P y env s).wp (fun w s => (b2K o v w s).wp Q X) X) X) : (ev P (.b2 o x y) env st).wp Q X := wp_bind (wp_mono q (fun _ _ h => wp_bind h)  fun _ _ _ h => h)
theorem e_isi {ts : List Tg} (q : (ev P x env st).wp (fun v s => tgW P.ncls v s fun t => Q (.bl (ts.any fun u => tgSub t u)) s) X) : (ev P (.isi ts x) env st).wp Q X := wp_bind (wp_mono q (fun _ _ ⟨_, e, h⟩ => by rw [e]; exact wp_ok h)  fun _ _ _ h => h)
theorem e_call {a : Ax} (q : (TW.fArgs (evA P a) env st).wp (fun xs s => (P.F i xs s).wp Q X) X) : (ev P (.call i a) env st).wp Q X := wp_bind q
theorem e_callK {a k : Ax} {perm : List Nat} (q : (TW.fArgs (evA P a) env st).wp (fun xs s => (TW.fArgs (evA P k) env s).wp (fun ys s => (P.F i (arr perm (xs ++ ys)) s).wp Q X) X) X) : (ev P (.callK i perm a k) env st).wp Q X := wp_bind (wp_mono q (fun _ _ h => wp_bind h)  fun _ _ _ h => h)
theorem e_make {c : Nat} {a : Ax} (q : (TW.fArgs (evA P a) env st).wp (fun xs s => (P.I c xs s).wp (fun fs s => Q (.obj c fs) s) X) X) : (ev P (.make c a) env st).wp Q X := wp_bind (wp_mono q (fun _ _ h => wp_bind (wp_m h fun _ _ h => wp_ok h))  fun _ _ _ h => h)
theorem e_makeK {c : Nat} {pv : List Nat} {k : Ax} (q : (TW.fArgs (evA P k) env st).wp (fun ys s => (P.I c (arr pv ys) s).wp (fun fs s => Q (.obj c fs) s) X) X) : (ev P (.makeK c pv k) env st).wp Q X := by
  show (vMake c (P.I c) (fPerm pv (TW.fArgs (evA P k))) env st).wp Q X
  unfold vMake fPerm
  exact wp_bind (wp_bind (wp_m q fun _ _ h => wp_ok (wp_bind (wp_m h fun _ _ h => wp_ok h))))
theorem e_get (q : (ev P x env st).wp (fun v s => ∃ kv, dctOf v s = some kv ∧ (ev P y env s).wp (fun w s => dctOf v s = some kv ∧ ∃ k, keyOf w = some k ∧ Q ((getP kv k).getD .non) s) X) X) : (ev P (.get x y) env st).wp Q X := by
  show (vGet (ev P x) (ev P y) env st).wp Q X
  unfold vGet
  refine wp_bind (wp_mono q (fun v s ⟨kv, e, h⟩ => ?_)  fun _ _ _ h => h)
  refine wp_if (by rw [e]; rfl) ?_
  unfold kGet
  refine wp_bind (wp_mono h (fun w s ⟨e2, k, e3, h⟩ => ?_)  fun _ _ _ h => h)
  rw [e2, e3]
  exact wp_ok h
theorem e_getD (q : (ev P x env st).wp (fun v s => ∃ kv, dctOf v s = some kv ∧ (ev P y env s).wp (fun w s => (ev P z env s).wp (fun d s => ∃ kv, dctOf v s = some kv ∧ ∃ k, keyOf w = some k ∧ Q ((getP kv k).getD d) s) X) X) X) : (ev P (.getD x y z) env st).wp Q X := by
  show (vGetD (ev P x) (ev P y) (ev P z) env st).wp Q X
  unfold vGetD
  refine wp_bind (wp_mono q (fun v s ⟨kv, e, h⟩ => ?_)  fun _ _ _ h => h)
  refine wp_if (by rw [e]; rfl) ?_
  unfold kGetD
  refine wp_bind (wp_mono h (fun w s h2 => ?_)  fun _ _ _ h => h)
  refine wp_bind (wp_mono h2 (fun d s ⟨kv, e2, k, e3, h⟩ => ?_)  fun _ _ _ h => h)
  rw [e2, e3]
  exact wp_ok h
theorem e_cellD (q : Q (.ref (st : List Ob).length) ((st : List Ob) ++ [.dct [] []])) : (ev P .cellD env st).wp Q X := wp_ok q
theorem e_rev (q : (ev P x env st).wp (fun v s => (kRev v s).wp Q X) X) : (ev P (.rev x) env st).wp Q X := wp_bind q
theorem e_sset (q : (ev P x env st).wp (fun v s => (kSortSet v s).wp Q X) X) : (ev P (.sset x) env st).wp Q X := wp_bind q
theorem e_minD (q : (ev P x env st).wp (fun v s => (ev P z env s).wp (fun d s => ∃ ns : List Int, v = .lst (ns.map .int) ∧ Q (match minI ns with | some m => .int m | none => d) s) X) X) : (ev P (.minD x z) env st).wp Q X := by
  show (vMinD (ev P x) (ev P z) env st).wp Q X
  unfold vMinD
  refine wp_bind (wp_mono q (fun v s h => ?_)  fun _ _ _ h => h)
  refine wp_bind (wp_mono h (fun d s ⟨ns, e, h⟩ => ?_)  fun _ _ _ h => h)
  have e2 : ∀ ns : List Int, intsOf (ns.map Vl.int) = some ns := fun ns => by
    induction ns with
    | nil => rfl
    | cons n ns ih =>
      show (intsOf (ns.map Vl.int)).map (n :: ·) = _
      rw [ih]
      rfl
  rw [e]
  dsimp only
  rw [e2]
  exact wp_ok h
theorem e_tr1 (q : (ev P x env st).wp (fun v s => (kTupRg1 v s).wp Q X) X) : (ev P (.tr1 x) env st).wp Q X := wp_bind q
theorem e_tr2 (q : (ev P x env st).wp (fun v s => (ev P y env s).wp (fun w s => (kTupRg v w s).wp Q X) X) X) : (ev P (.tr2 x y) env st).wp Q X := wp_bind (wp_mono q (fun _ _ h => wp_bind h)  fun _ _ _ h => h)
theorem e_ownN (q : (ev P x env st).wp (fun v s => (ev P y env s).wp (fun w s => (kOwnN P.ncls P.Q v w s).wp Q X) X) X) : (ev P (.ownN x y) env st).wp Q X := wp_bind (wp_mono q (fun _ _ h => wp_bind h)  fun _ _ _ h => h)
theorem e_own (q : (ev P x env st).wp (fun v s => (ev P y env s).wp (fun w s => (kOwn P.ncls P.Q v w s).wp Q X) X) X) : (ev P (.own x y) env st).wp Q X := wp_bind (wp_mono q (fun _ _ h => wp_bind h)  fun _ _ _ h => h)
def slW (v : Vl) (l u : Option Int) (s : Sto) (Q : Vl → Prop) : Prop := ∃ w, (match v with
      | .tup xs => some (.tup (cutL xs l u))
      | .str _ => none
      | x => (seqOf x s).map fun xs => .lst (cutL xs l u)) = some w ∧ Q w
theorem sl_tup {xs : List Vl} {l u : Option Int} {s : Sto} {Q : Vl → Prop} (q : Q (.tup (cutL xs l u))) : slW (.tup xs) l u s Q := ⟨_, rfl, q⟩
theorem sl_lst {xs : List Vl} {l u : Option Int} {s : Sto} {Q : Vl → Prop} (q : Q (.lst (cutL xs l u))) : slW (.lst xs) l u s Q := ⟨_, rfl, q⟩
theorem sl_ref {n : Nat} {xs : List Vl} {l u : Option Int} {s : Sto} {Q : Vl → Prop} (e : (s : List Ob)[n]? = some (.lst xs)) (q : Q (.lst (cutL xs l u))) : slW (.ref n) l u s Q := ⟨_, by unfold seqOf; dsimp only; rw [e]; rfl, q⟩
theorem e_sl {lo hi : Ox} (q : (ev P x env st).wp (fun v s => (fPart (evO P lo) env s).wp (fun l s => (fPart (evO P hi) env s).wp (fun u s => slW v l u s fun w => Q w s) X) X) X) : (ev P (.sl x lo hi) env st).wp Q X := by
  show (vSl (ev P x) (evO P lo) (evO P hi) env st).wp Q X
  unfold vSl
  refine wp_bind (wp_mono q (fun v s h => ?_)  fun _ _ _ h => h)
  refine wp_bind (wp_mono h (fun l s h => ?_)  fun _ _ _ h => h)
  refine wp_bind (wp_mono h (fun u s h => ?_)  fun _ _ _ h => h)
  obtain ⟨w, e, h⟩ := h
  cases v <;> dsimp only at e ⊢ <;> first
    | (cases e; done)
    | (cases e; exact wp_ok h)
    | (cases q : seqOf _ s with
       | none => rw [q] at e; cases e
       | some xs => rw [q] at e; cases e; exact wp_ok h)
theorem o_no {Q : Option Int → Sto → Prop} (h : Q none st) : (fPart (evO P .no) env st).wp Q X := wp_ok h
theorem o_so {Q : Option Int → Sto → Prop} (h : (ev P x env st).wp (fun v s => partW v fun i => Q i s) X) : (fPart (evO P (.so x)) env st).wp Q X := wp_bind (wp_mono h (fun _ _ ⟨_, e, h⟩ => by rw [e]; exact wp_ok h)  fun _ _ _ h => h)
theorem w_nil {Q : List Vl → Sto → Prop} (q : Q [] st) : (TW.fArgs (evA P .nil) env st).wp Q X := wp_ok q
theorem w_cons {a : Ax} {Q : List Vl → Sto → Prop} (q : (ev P x env st).wp (fun v s => (TW.fArgs (evA P a) env s).wp (fun vs s => Q (v :: vs) s) X) X) : (TW.fArgs (evA P (.cons x a)) env st).wp Q X := wp_bind (wp_mono q (fun _ _ h => wp_bind (wp_m h fun _ _ h => wp_ok h))  fun _ _ _ h => h)
theorem l_disp {a : Ax} {Q : List Vl → Sto → Prop} (q : (TW.fArgs (evA P a) env st).wp Q X) : (evL P (.disp a) env st).wp Q X := q
theorem l_cat {Q : List Vl → Sto → Prop} (q : (ev P x env st).wp (fun v s => (ev P y env s).wp (fun w s => ∃ xs ys, v = .lst xs ∧ w = .lst ys ∧ xs.length + ys.length ≤ sizeLine ∧ Q (xs ++ ys) s) X) X) : (evL P (.cat x y) env st).wp Q X :=
  wp_bind (wp_mono q (fun _ _ h => wp_bind (wp_mono h (fun _ _ ⟨_, _, e, e2, l, h⟩ => by rw [e, e2]; exact wp_ifk l h)  fun _ _ _ h => h))  fun _ _ _ h => h)
theorem l_rep {Q : List Vl → Sto → Prop} (q : (ev P x env st).wp (fun v s => (ev P y env s).wp (fun w s => ∃ xs, ∃ k : Int, v = .lst xs ∧ w = .int k ∧ k < 1000000 ∧ -1000000 < k ∧ xs.length * k.toNat ≤ sizeLine ∧ Q (List.replicate k.toNat xs).flatten s) X) X) : (evL P (.rep x y) env st).wp Q X :=
  wp_bind (wp_mono q (fun _ _ h => wp_bind (wp_mono h (fun _ _ ⟨_, _, e, e2, l1, l2, l, h⟩ => by rw [e, e2]; exact wp_ifk ⟨by omega, by omega, l⟩ h)  fun _ _ _ h => h))  fun _ _ _ h => h)
theorem l_of {Q : List Vl → Sto → Prop} (q : (ev P x env st).wp (fun v s => seqW v s fun xs => Q xs s) X) : (evL P (.of x) env st).wp Q X := wp_bind (wp_mono q (fun _ _ ⟨_, e, h⟩ => wp_some e h)  fun _ _ _ h => h)
theorem l_comp {t : Tgt} {s : Sx} {qx : Qx} {e : Ex} {vs : List Nat} {Q : List Vl → Sto → Prop} (q : (evS P s env st).wp (fun k s' => (compF t.set (evQ P qx) (ev P e) k k.items (wipeE env vs) s').wp Q X) X) : (evL P (.comp t s qx e vs) env st).wp Q X := wp_bind q
theorem l_comp2 {t t1 : Tgt} {s s1 : Sx} {qx q1 : Qx} {e : Ex} {vs vs1 : List Nat} {Q : List Vl → Sto → Prop} (q : (evS P s env st).wp (fun k s' => (compG t.set (evQ P qx) (evS P s1) t1.set (evQ P q1) (ev P e) vs1 k k.items (wipeE env vs) s').wp (fun ys s => ys.length ≤ sizeLine ∧ Q ys s) X) X) : (evL P (.comp2 t s qx t1 s1 q1 e vs vs1) env st).wp Q X := wp_bind (wp_mono q (fun _ _ h => wp_bind (wp_mono h (fun _ _ ⟨l, h⟩ => wp_ifk l h)  fun _ _ _ h => h))  fun _ _ _ h => h)
theorem e_dct {t : Tgt} {s : Sx} {qx : Qx} {k w : Ex} {vs : List Nat} (q : (evS P s env st).wp (fun c s' => (dcF t.set (evQ P qx) (ev P k) (ev P w) c c.items [] (wipeE env vs) s').wp (fun kv s => Q (.dct (kv.map (·.1)) (kv.map (·.2))) s) X) X) : (ev P (.dct t s qx k w vs) env st).wp Q X := wp_bind (wp_bind (wp_m q fun _ _ h => wp_m h fun _ _ h => wp_ok h))
theorem q_so {t : Tx} {Q : Bool → Sto → Prop} (q : (evT P t env st).wp Q X) : (evQ P (.so t) env st).wp Q X := q
theorem s_seq {Q : Src → Sto → Prop} (q : (ev P x env st).wp (fun v s => seqW v s fun xs => Q ⟨xs, [(v, xs)]⟩ s) X) : (evS P (.seq x) env st).wp Q X := wp_bind (wp_mono q (fun _ _ ⟨_, e, h⟩ => by rw [e]; exact wp_ok h)  fun _ _ _ h => h)
theorem s_r1 {Q : Src → Sto → Prop} (q : (ev P x env st).wp (fun v s => r1W v fun j => Q ⟨rngL 0 j.toNat, []⟩ s) X) : (evS P (.r1 x) env st).wp Q X :=
  wp_bind (wp_mono q (fun _ _ ⟨j, e, l, l0, h⟩ => by
    rw [e]
    refine wp_ifk ⟨?_, by rw [sizeLine_eq]; omega⟩ h
    unfold okR
    simp only [Bool.and_eq_true, decide_eq_true_eq]
    constructor <;> omega)  fun _ _ _ h => h)
theorem s_r2 {Q : Src → Sto → Prop} (q : (ev P x env st).wp (fun v s => (ev P y env s).wp (fun w s => ∃ i j : Int, v = .int i ∧ w = .int j ∧ i ≤ 1000000 ∧ -1000000 ≤ i ∧ j ≤ 1000000 ∧ -1000000 ≤ j ∧ Q ⟨rngL i (j - i).toNat, []⟩ s) X) X) : (evS P (.r2 x y) env st).wp Q X :=
  wp_bind (wp_mono q (fun _ _ h => wp_bind (wp_mono h (fun _ _ ⟨i, j, e, e2, l, l0, l1, l2, h⟩ => by
    rw [e, e2]
    refine wp_ifk ⟨?_, ?_, by rw [sizeLine_eq]; omega⟩ h <;>
    · unfold okR
      simp only [Bool.and_eq_true, decide_eq_true_eq]
      constructor <;> omega)  fun _ _ _ h => h))  fun _ _ _ h => h)
theorem s_rD {Q : Src → Sto → Prop} (q : (ev P x env st).wp (fun v s => (ev P y env s).wp (fun w s => ∃ i j : Int, v = .int i ∧ w = .int j ∧ i ≤ 1000000 ∧ -1000000 ≤ i ∧ -1000000 ≤ j ∧ j ≤ 1000000 ∧ i - j ≤ 1000000 ∧ Q ⟨rngD i (i - j).toNat, []⟩ s) X) X) : (evS P (.rD x y) env st).wp Q X := by
  show (wRngD (ev P x) (ev P y) env st).wp Q X
  unfold wRngD
  refine wp_bind (wp_mono q (fun v s h => ?_) fun _ _ _ h => h)
  refine wp_bind (wp_mono h (fun w s h => ?_) fun _ _ _ h => h)
  obtain ⟨i, j, rfl, rfl, h1, h2, h3, h4, h5, h⟩ := h
  refine wp_ifk ⟨?_, ?_, by rw [sizeLine_eq]; omega⟩ h
  · unfold okR; rw [decide_eq_true (by omega), decide_eq_true (by omega)]; rfl
  · unfold okR; rw [decide_eq_true (by omega), decide_eq_true (by omega)]; rfl
theorem s_zip {Q : Src → Sto → Prop} (q : (ev P x env st).wp (fun v s => (ev P y env s).wp (fun w s => ∃ xs ys, seqOf v s = some xs ∧ seqOf w s = some ys ∧ Q ⟨(xs.zip ys).map fun p => .tup [p.1, p.2], [(v, xs), (w, ys)]⟩ s) X) X) : (evS P (.zip x y) env st).wp Q X := by
  show (wZip (ev P x) (ev P y) env st).wp Q X
  unfold wZip
  refine wp_bind (wp_mono q (fun v s h => ?_) fun _ _ _ h => h)
  refine wp_bind (wp_mono h (fun w s h => ?_) fun _ _ _ h => h)
  obtain ⟨xs, ys, h1, h2, h⟩ := h
  rw [h1, h2]
  exact wp_ok h
theorem l_rg1 {Q : List Vl → Sto → Prop} (q : (ev P x env st).wp (fun v s => r1W v fun j => Q (rngL 0 j.toNat) s) X) : (evL P (.rg1 x) env st).wp Q X := by
  show (lRg1 (ev P x) env st).wp Q X
  unfold lRg1
  refine wp_bind (wp_mono q (fun v s h => ?_) fun _ _ _ h => h)
  obtain ⟨j, rfl, h1, h2, h⟩ := h
  have e : rgOk 0 j = true := by
    unfold rgOk okR
    rw [decide_eq_true (by omega), decide_eq_true (by omega), decide_eq_true (by omega), decide_eq_true (by omega), decide_eq_true (by omega)]; rfl
  show (if rgOk 0 j = true then Res.ok (rngL 0 (j - 0).toNat) s else .bad).wp Q X
  rw [Int.sub_zero]
  exact wp_ifk e h
end
def fsetW (names : List Str) (fs : List Vl) (f : Str) (v : Vl) (Q : List Vl → Prop) : Prop := fs.length < 900 ∧ ∃ fs', setFld names fs f v = some fs' ∧ Q fs'
theorem fset_by {names : List Str} {fs : List Vl} {f : Str} {v : Vl} {Q : List Vl → Prop} {fs' : List Vl} (e : setFld names fs f v = some fs') (l : Nat.ble (fs.length + 1) 900 = true) (q : Q fs') : fsetW names fs f v Q := ⟨Nat.le_of_ble_eq_true l, fs', e, q⟩
def nxQ (k : Ev → Sto → Prop) (Q : Fl → Sto → Prop) : Fl → Sto → Prop := fun f s => match f with
  | .nx env => k env s
  | f => Q f s
section
variable {P : Pr} {env : Ev} {st : Sto} {Q : Fl → Sto → Prop} {X : XP} {x y z : Ex} {i : Nat} {v : Vl} {b c : Bk} {m : Sm}
theorem nx_nx {k : Ev → Sto → Prop} (h : k env st) : nxQ k Q (.nx env) st := h
theorem nx_rt {k : Ev → Sto → Prop} (h : Q (.rt v) st) : nxQ k Q (.rt v) st := h
theorem nx_bk {k : Ev → Sto → Prop} (h : Q (.bk env) st) : nxQ k Q (.bk env) st := h
theorem nx_ct {k : Ev → Sto → Prop} (h : Q (.ct env) st) : nxQ k Q (.ct env) st := h
theorem b_nil (q : Q (.nx env) st) : (eb P .nil env st).wp Q X := wp_ok q
theorem b_cons (q : (es P m env st).wp (nxQ (fun env s => (eb P b env s).wp Q X) Q) X) : (eb P (.cons m b) env st).wp Q X := wp_bind (wp_mono q (fun f s h => by cases f <;> first | exact h | exact wp_ok h)  fun _ _ _ h => h)
theorem m_pass (q : Q (.nx env) st) : (es P .pass env st).wp Q X := wp_ok q
theorem m_brk (q : Q (.bk env) st) : (es P .brk env st).wp Q X := wp_ok q
theorem m_cnt (q : Q (.ct env) st) : (es P .cnt env st).wp Q X := wp_ok q
theorem m_retN (q : Q (.rt .non) st) : (es P .retN env st).wp Q X := wp_ok q
theorem m_ret (q : (ev P x env st).wp (fun v s => Q (.rt v) s) X) : (es P (.ret x) env st).wp Q X := wp_bind (wp_m q fun _ _ h => wp_ok h)
theorem m_if {t : Tx} (q : (evT P t env st).wp (fun k s => brW k ((eb P b env s).wp Q X) ((eb P c env s).wp Q X)) X) : (es P (.ifs t b c) env st).wp Q X := wp_bind (wp_mono q (fun _ _ h => br_ite h)  fun _ _ _ h => h)
theorem m_ex (q : (ev P x env st).wp (fun _ s => Q (.nx env) s) X) : (es P (.ex x) env st).wp Q X := wp_bind (wp_m q fun _ _ h => wp_ok h)
theorem m_set (q : (ev P x env st).wp (fun v s => Q (.nx (env.set i (some (.val v)))) s) X) : (es P (.set i x) env st).wp Q X := wp_bind (wp_m q fun _ _ h => wp_ok h)
theorem m_own {l : Lx} (q : (evL P l env st).wp (fun v s => Q (.nx (env.set i (some (.own (.lst v))))) s) X) : (es P (.own i l) env st).wp Q X := wp_bind (wp_m q fun _ _ h => wp_ok h)
theorem m_app {xs : List Vl} (h : env[i]? = some (some (.own (.lst xs)))) (q : (ev P x env st).wp (fun v s => xs.length < sizeLine ∧ Q (.nx (env.set i (some (.own (.lst (xs ++ [v])))))) s) X) : (es P (.app i x) env st).wp Q X := by
  show (sApp i (ev P x) env st).wp Q X
  unfold sApp
  rw [h]
  exact wp_bind (wp_mono q (fun _ _ ⟨l, h⟩ => wp_ifk l h)  fun _ _ _ h => h)
theorem m_appR {n : Nat} {xs0 : List Vl} (h : env[i]? = some (some (.val (.ref n)))) (h0 : (st : List Ob)[n]? = some (.lst xs0)) (q : (ev P x env st).wp (fun v s => ∃ xs, (s : List Ob)[n]? = some (.lst xs) ∧ xs.length < sizeLine ∧ Q (.nx env) ((s : List Ob).set n (.lst (xs ++ [v])))) X) : (es P (.app i x) env st).wp Q X := by
  show (sApp i (ev P x) env st).wp Q X
  unfold sApp
  rw [h]
  dsimp only
  rw [h0]
  dsimp only
  exact wp_bind (wp_mono q (fun _ _ ⟨xs, e, l, h⟩ => by rw [e]; exact wp_ifk l h)  fun _ _ _ h => h)
theorem m_put {xs0 : List Vl} (h : env[i]? = some (some (.own (.lst xs0)))) (q : (ev P y env st).wp (fun v s => (ev P x env s).wp (fun k s => ∃ j : Nat, k = .int (j : Int) ∧ j < xs0.length ∧ Q (.nx (env.set i (some (.own (.lst (xs0.set j v)))))) s) X) X) : (es P (.put i x y) env st).wp Q X := by
  show (sPut i (ev P x) (ev P y) env st).wp Q X
  unfold sPut
  refine wp_bind (wp_mono q (fun _ _ h1 => ?_)  fun _ _ _ h => h)
  rw [h]
  refine wp_bind (wp_mono h1 (fun _ _ ⟨j, e, l, h2⟩ => ?_)  fun _ _ _ h => h)
  have e2 : L2.ixN xs0.length (j : Int) = some j := by
    unfold L2.ixN
    rw [if_pos (by omega), if_pos (by omega)]
    simp
  rw [e]
  dsimp only
  rw [e2]
  exact wp_ok h2
theorem m_putD (q : (ev P z env st).wp (fun v s => (ev P x env s).wp (fun r s => (ev P y env s).wp (fun w s => ∃ n ks xs k, r = .ref n ∧ keyOf w = some k ∧ (s : List Ob)[n]? = some (.dct ks xs) ∧ ks.length < sizeLine ∧ Q (.nx env) ((s : List Ob).set n (.dct ((putP (pairs ks xs) k v).map (·.1)) ((putP (pairs ks xs) k v).map (·.2))))) X) X) X) : (es P (.putD x y z) env st).wp Q X := by
  show (sPutD (ev P x) (ev P y) (ev P z) env st).wp Q X
  unfold sPutD
  refine wp_bind (wp_mono q (fun _ _ h1 => ?_)  fun _ _ _ h => h)
  refine wp_bind (wp_mono h1 (fun _ _ h2 => ?_)  fun _ _ _ h => h)
  refine wp_bind (wp_mono h2 (fun _ _ ⟨n, ks, xs, k, e, e1, e2, l, h3⟩ => ?_)  fun _ _ _ h => h)
  rw [e, e1]
  dsimp only
  rw [e2]
  exact wp_ifk l h3
theorem m_ext {xs : List Vl} (h : env[i]? = some (some (.own (.lst xs)))) (q : (ev P x env st).wp (fun v s => ∃ ys, lstOf v s = some ys ∧ xs.length + ys.length ≤ sizeLine ∧ Q (.nx (env.set i (some (.own (.lst (xs ++ ys)))))) s) X) : (es P (.ext i x) env st).wp Q X := by
  show (sExt i (ev P x) env st).wp Q X
  unfold sExt
  rw [h]
  refine wp_bind (wp_mono q (fun _ _ ⟨ys, e, l, h⟩ => ?_)  fun _ _ _ h => h)
  rw [e]
  exact wp_ifk l h
theorem m_appX (q : (ev P x env st).wp (fun r s => ∃ n xs0, r = .ref n ∧ (s : List Ob)[n]? = some (.lst xs0) ∧ (ev P y env s).wp (fun v s => ∃ xs, (s : List Ob)[n]? = some (.lst xs) ∧ xs.length < sizeLine ∧ Q (.nx env) ((s : List Ob).set n (.lst (xs ++ [v])))) X) X) : (es P (.appX x y) env st).wp Q X := by
  show (sAppX (ev P x) (ev P y) env st).wp Q X
  unfold sAppX
  refine wp_bind (wp_mono q (fun _ _ ⟨n, xs0, e, e0, h⟩ => ?_)  fun _ _ _ h => h)
  rw [e]
  dsimp only
  rw [e0]
  refine wp_bind (wp_mono h (fun _ _ ⟨xs, e1, l, h⟩ => ?_)  fun _ _ _ h => h)
  rw [e1]
  exact wp_ifk l h
theorem m_extX (q : (ev P x env st).wp (fun r s => ∃ n xs0, r = .ref n ∧ (s : List Ob)[n]? = some (.lst xs0) ∧ (ev P y env s).wp (fun v s => ∃ xs ys, (s : List Ob)[n]? = some (.lst xs) ∧ lstOf v s = some ys ∧ xs.length + ys.length ≤ sizeLine ∧ Q (.nx env) ((s : List Ob).set n (.lst (xs ++ ys)))) X) X) : (es P (.extX x y) env st).wp Q X := by
  show (sExtX (ev P x) (ev P y) env st).wp Q X
  unfold sExtX
  refine wp_bind (wp_mono q (fun r s h => ?_) fun _ _ _ h => h)
  obtain ⟨n, xs0, rfl, h0, h⟩ := h
  dsimp only
  rw [h0]
  dsimp only
  refine wp_bind (wp_mono h (fun v s h => ?_) fun _ _ _ h => h)
  obtain ⟨xs, ys, h1, h2, h3, h⟩ := h
  rw [h1, h2]
  exact wp_ifk h3 h
theorem m_revX (q : (ev P x env st).wp (fun r s => ∃ n xs, r = .ref n ∧ (s : List Ob)[n]? = some (.lst xs) ∧ Q (.nx env) ((s : List Ob).set n (.lst xs.reverse))) X) : (es P (.revX x) env st).wp Q X := by
  show (sRevX (ev P x) env st).wp Q X
  unfold sRevX
  refine wp_bind (wp_mono q (fun _ _ ⟨n, xs, e, e0, h⟩ => ?_)  fun _ _ _ h => h)
  rw [e]
  dsimp only
  rw [e0]
  exact wp_ok h
theorem m_putR (q : (ev P z env st).wp (fun v s => (ev P x env s).wp (fun r s => (ev P y env s).wp (fun k s => ∃ n xs, ∃ j : Nat, r = .ref n ∧ k = .int (j : Int) ∧ (s : List Ob)[n]? = some (.lst xs) ∧ j < xs.length ∧ Q (.nx env) ((s : List Ob).set n (.lst (xs.set j v)))) X) X) X) : (es P (.putR x y z) env st).wp Q X := by
  show (sPutR (ev P x) (ev P y) (ev P z) env st).wp Q X
  unfold sPutR
  refine wp_bind (wp_mono q (fun _ _ h1 => ?_)  fun _ _ _ h => h)
  refine wp_bind (wp_mono h1 (fun _ _ h2 => ?_)  fun _ _ _ h => h)
  refine wp_bind (wp_mono h2 (fun _ _ ⟨n, xs, j, e, e1, e2, l, h3⟩ => ?_)  fun _ _ _ h => h)
  have e4 : L2.ixN xs.length (j : Int) = some j := by
    unfold L2.ixN
    rw [if_pos (by omega), if_pos (by omega)]
    simp
  rw [e, e1]
  dsimp only at e2 ⊢
  rw [e2]
  dsimp only
  rw [e4]
  exact wp_ok h3
theorem m_fld {f : Str} {k : Nat} {fs : List Vl} (h : env[i]? = some (some (.own (.ins k fs)))) (q : (ev P x env st).wp (fun v s => fsetW (P.flds k) fs f v fun fs' => Q (.nx (env.set i (some (.own (.ins k fs'))))) s) X) : (es P (.fld i f x) env st).wp Q X := by
  show (sFldS P.flds i f (ev P x) env st).wp Q X
  unfold sFldS
  refine wp_bind (wp_mono q (fun _ _ ⟨l, fs', e, h1⟩ => ?_)  fun _ _ _ h => h)
  rw [h]
  dsimp only
  rw [e]
  exact wp_ifk l h1
theorem m_raise {k : Nat} {a : Ax} (q : (TW.fArgs (evA P a) env st).wp (fun xs s => X k xs s) X) : (es P (.raise k a) env st).wp Q X := wp_bind (wp_mono q (fun _ _ h => wp_ex h)  fun _ _ _ h => h)
theorem m_tri {hs : List Hd} (q : (eb P b env st).wp Q fun k fs s => k < P.nexc ∧ (hGo P.xs P.xfl k fs s hs).wp Q X) : (es P (.tri b hs) env st).wp Q X := by
  show (sTry P.nexc P.xs P.xfl (eb P b) hs env st).wp Q X
  unfold sTry
  revert q
  cases eb P b env st with
  | ok f s => exact fun q => wp_ok (ok_wp q)
  | exc k fs s => exact fun ⟨l, q⟩ => wp_if l q
  | bad => exact fun q => ⟨q.go⟩
theorem m_for {t : Tgt} {s : Sx} (q : (evS P s env st).wp (fun k s' => (forF t.set (eb P b) k k.items env s').wp Q X) X) : (es P (.for_ t s b) env st).wp Q X := wp_bind q
theorem m_whl {t : Tx} {n : Nat} (q : (whileF (evT P t) (eb P b) n env st).wp Q X) : (es P (.whl n t b) env st).wp Q X := q
theorem m_par {is : List Nat} {a : Ax} (q : (TW.fArgs (evA P a) env st).wp (fun vs s => parW vs.length is.length (Q (.nx (setN is vs env)) s)) X) : (es P (.par is a) env st).wp Q X := wp_bind (wp_mono q (fun _ _ ⟨l, h⟩ => wp_ifk l h)  fun _ _ _ h => h)
theorem m_unp {t : Tgt} (q : (ev P x env st).wp (fun v s => setW t.set v env fun e => Q (.nx e) s) X) : (es P (.unp t x) env st).wp Q X := by
  show (sUnp t.set (ev P x) env st).wp Q X
  unfold sUnp
  exact wp_bind (wp_mono q (fun _ _ ⟨_, e, h⟩ => by rw [e]; exact wp_ok h)  fun _ _ _ h => h)
theorem m_relO {xs : List Vl} (h : env[i]? = some (some (.own (.lst xs)))) (q : (es P m (env.set i (some (.val (.lst xs)))) st).wp Q X) : (es P (.rel i m) env st).wp Q X := by
  show (sRel i (es P m) env st).wp Q X
  unfold sRel relE
  rw [h]
  exact q
theorem m_relV (h : env[i]? = some (some (.val v))) (q : (es P m env st).wp Q X) : (es P (.rel i m) env st).wp Q X := by
  show (sRel i (es P m) env st).wp Q X
  unfold sRel relE
  rw [h]
  exact q
end
def forQ (sk : Src) (I : Ev → Sto → Prop) (Q : Fl → Sto → Prop) : Fl → Sto → Prop := fun f s => match f with
  | .nx env => sk.ok s = true ∧ I env s
  | .ct env => sk.ok s = true ∧ I env s
  | .bk env => Q (.nx env) s
  | .rt v => Q (.rt v) s
section
variable {env : Ev} {st : Sto} {Q : Fl → Sto → Prop} {X : XP} {sk : Src}
theorem fq_nx {I : Ev → Sto → Prop} (o : sk.ok st = true) (h : I env st) : forQ sk I Q (.nx env) st := ⟨o, h⟩
theorem fq_ct {I : Ev → Sto → Prop} (o : sk.ok st = true) (h : I env st) : forQ sk I Q (.ct env) st := ⟨o, h⟩
theorem fq_bk {I : Ev → Sto → Prop} (h : Q (.nx env) st) : forQ sk I Q (.bk env) st := h
theorem fq_rt {I : Ev → Sto → Prop} {v : Vl} (h : Q (.rt v) st) : forQ sk I Q (.rt v) st := h
theorem for_aux {α : Type} {set : Vl → Ev → Option Ev} {body : FSt} (enc : α → Vl) (I : Nat → Ev → Sto → Prop) : ∀ (l : List α) (k0 : Nat) (env : Ev) (st : Sto), I k0 env st →
    (∀ k a env s, l[k]? = some a → I (k0 + k) env s → ∃ e2, set (enc a) env = some e2 ∧ (body e2 s).wp (forQ sk (I (k0 + k + 1)) Q) X) → (∀ env s, I (k0 + l.length) env s → Q (.nx env) s) →
    (forF set body sk (l.map enc) env st).wp Q X
  | [], k0, env, st, h0, _, he => wp_ok (he env st h0)
  | a :: l, k0, env, st, h0, hs, he => by
    obtain ⟨e2, h1, h2⟩ := hs 0 a env st rfl h0
    rw [List.map_cons]
    unfold forF
    rw [h1]
    have go : ∀ env s, I (k0 + 1) env s → (forF set body sk (l.map enc) env s).wp Q X := fun env s h =>
      for_aux enc I l (k0 + 1) env s h (fun k b env s hb hi => by
        have := hs (k + 1) b env s (by simpa using hb) (by rw [show k0 + (k + 1) = k0 + 1 + k by omega]; exact hi)
        rw [show k0 + (k + 1) + 1 = k0 + 1 + k + 1 by omega] at this
        exact this) fun env s hi => he env s (by rw [List.length_cons, show k0 + (l.length + 1) = k0 + 1 + l.length by omega]; exact hi)
    refine wp_bind (wp_mono h2 (fun f s h => ?_)  fun _ _ _ h => h)
    cases f with
    | nx e => exact wp_if h.1 (go e s h.2)
    | ct e => exact wp_if h.1 (go e s h.2)
    | bk e => exact wp_ok h
    | rt v => exact wp_ok h
/-- a for loop, by what holds ahead of each turn -/
theorem for_wp {α : Type} {set : Vl → Ev → Option Ev} {body : FSt} (enc : α → Vl) (l : List α) (I : Nat → Ev → Sto → Prop) {xs : List Vl} (hx : xs = l.map enc) (h0 : I 0 env st)
    (hs : ∀ k a env s, l[k]? = some a → I k env s → setW set (enc a) env fun e2 => (body e2 s).wp (forQ sk (I (k + 1)) Q) X) (he : ∀ env s, I l.length env s → Q (.nx env) s) : (forF set body sk xs env st).wp Q X := by
  rw [hx]
  refine for_aux enc I l 0 env st h0 (fun k a env s ha hi => ?_) fun env s hi => he env s (by rw [Nat.zero_add] at hi; exact hi)
  rw [Nat.zero_add] at hi ⊢
  exact hs k a env s ha hi
def whlQ (I : Nat → Ev → Sto → Prop) (m : Nat) (Q : Fl → Sto → Prop) : Fl → Sto → Prop := fun f s => match f with
  | .nx env => ∃ m', m' < m ∧ I m' env s
  | .ct env => ∃ m', m' < m ∧ I m' env s
  | .bk env => Q (.nx env) s
  | .rt v => Q (.rt v) s
/-- a while loop, by a measure -/
theorem whl_wp {t : FT} {body : FSt} (I : Nat → Ev → Sto → Prop) (hs : ∀ m env s, I m env s → (t env s).wp (fun b s => brW b ((body env s).wp (whlQ I m Q) X) (Q (.nx env) s)) X) : ∀ (n m : Nat) (env : Ev) (st : Sto), m < n → I m env st → (whileF t body n env st).wp Q X
  | 0, m, env, st, hm, _ => absurd hm (by omega)
  | n + 1, m, env, st, hm, hi => by
    unfold whileF
    refine wp_bind (wp_mono (hs m env st hi) (fun b s h => ?_)  fun _ _ _ h => h)
    refine br_ite ⟨fun e => wp_bind (wp_mono (h.1 e) (fun f s h => ?_)  fun _ _ _ h => h), fun e => wp_ok (h.2 e)⟩
    cases f with
    | nx e =>
      obtain ⟨m', l, h⟩ := h
      exact whl_wp I hs n m' e s (by omega) h
    | ct e =>
      obtain ⟨m', l, h⟩ := h
      exact whl_wp I hs n m' e s (by omega) h
    | bk e => exact wp_ok h
    | rt v => exact wp_ok h
end
def rtQ (Q : Vl → Sto → Prop) : Fl → Sto → Prop := fun f s => match f with
  | .rt v => Q v s
  | .nx _ => Q .non s
  | _ => False
section
variable {P : Pr} {st : Sto} {Q : Vl → Sto → Prop} {X : XP} {v : Vl} {env : Ev}
theorem rq_rt (h : Q v st) : rtQ Q (.rt v) st := h
theorem rq_nx (h : Q .non st) : rtQ Q (.nx env) st := h
theorem run_wp {n : Nat} {b : Bk} {xs : List Vl} (h : (eb P b (entry n xs) st).wp (rtQ Q) X) : (runF n (eb P b) xs st).wp Q X := wp_bind (wp_mono h (fun f s h => by cases f <;> first | exact wp_ok h | exact h.elim)  fun _ _ _ h => h)
def inQ (c m : Nat) (Q : List Vl → Sto → Prop) : Fl → Sto → Prop := fun f s => match f with
  | .nx env => ∃ fs, env[0]? = some (some (Sl.own (Ob.ins c fs))) ∧ fs.length = m ∧ Q fs s
  | _ => False
theorem iq_nx {c m : Nat} {Q : List Vl → Sto → Prop} {fs : List Vl} (h0 : env[0]? = some (some (Sl.own (Ob.ins c fs)))) (h1 : fs.length = m) (h : Q fs st) : inQ c m Q (.nx env) st := ⟨fs, h0, h1, h⟩
theorem runI_wp {n c m : Nat} {b : Bk} {xs : List Vl} {Q : List Vl → Sto → Prop} (h : (eb P b (entryI c n xs) st).wp (inQ c m Q) X) : (runI c n m (eb P b) xs st).wp Q X := by
  refine wp_bind (wp_mono h (fun f s h => ?_)  fun _ _ _ h => h)
  cases f with
  | nx env =>
    obtain ⟨fs, e, l, h⟩ := h
    dsimp only
    rw [e]
    exact wp_ifk ⟨rfl, l⟩ h
  | rt v => exact h.elim
  | bk e => exact h.elim
  | ct e => exact h.elim
end
end TW
set_option maxHeartbeats 4000000
namespace TW
open PySem
open L2 (Key)
section
variable {v y : Vl} {xs : List Vl} {st : Sto} {Q : Vl → Sto → Prop} {X : XP}
theorem ix_wp (j : Nat) (h0 : strOf v = none) (hv : seqOf v st = some xs) (hj : xs[j]? = some y) (q : Q y st) : (kIx v (.int (j : Int)) st).wp Q X := wp_eq (ix_nat h0 hv hj) q
theorem ixT_wp {j : Nat} (hj : xs[j]? = some y) (q : Q y st) : (kIx (.tup xs) (.int (j : Int)) st).wp Q X := ix_wp j rfl rfl hj q
theorem ixL_wp {j : Nat} (hj : xs[j]? = some y) (q : Q y st) : (kIx (.lst xs) (.int (j : Int)) st).wp Q X := ix_wp j rfl rfl hj q
theorem ixR_wp {j n : Nat} (hn : (st : List Ob)[n]? = some (.lst xs)) (hj : xs[j]? = some y) (q : Q y st) : (kIx (.ref n) (.int (j : Int)) st).wp Q X := ix_wp j rfl (by unfold seqOf; dsimp only; rw [hn]) hj q
theorem ix_at {i : Int} (h0 : strOf v = none) (hv : seqOf v st = some xs) (hj : L2.atI xs i = some y) (q : Q y st) : (kIx v (.int i) st).wp Q X := by
  refine wp_eq ?_ q
  simp [kIx, ixV, h0, hv, hj, Res.lift]
theorem len_wp {n : Nat} (e : lenV v st = some n) (q : Q (.int (n : Int)) st) : (b1K .len v st).wp Q X := by
  show (kLen v st).wp Q X
  have : dLen v = none := by
    cases v <;> first | rfl | (cases e; done)
  unfold kLen
  rw [this]
  exact wp_some (by rw [e]; rfl) q
theorem lenD_wp {ks : List Key} (q : Q (.int (ks.length : Int)) st) : (b1K .len (.dct ks xs) st).wp Q X := wp_ok q
theorem lenT_wp (q : Q (.int (xs.length : Int)) st) : (b1K .len (.tup xs) st).wp Q X := wp_ok q
theorem lenL_wp (q : Q (.int (xs.length : Int)) st) : (b1K .len (.lst xs) st).wp Q X := wp_ok q
theorem lenF_wp (q : Q (.int (xs.length : Int)) st) : (b1K .len (.fro xs) st).wp Q X := wp_ok q
theorem tupL_wp (q : Q (.tup xs) st) : (b1K .tuple (.lst xs) st).wp Q X := wp_ok q
theorem tupT_wp (q : Q (.tup xs) st) : (b1K .tuple (.tup xs) st).wp Q X := wp_ok q
theorem tup_wp (e : seqOf v st = some xs) (q : Q (.tup xs) st) : (b1K .tuple v st).wp Q X := wp_some (by rw [e]; rfl) q
theorem int_wp {i : Int} (q : Q (.int i) st) : (b1K .int (.int i) st).wp Q X := wp_ok q
theorem intB_wp {b : Bool} (q : Q (.int (if b then 1 else 0)) st) : (b1K .int (.bl b) st).wp Q X := wp_ok q
theorem abs_wp {i : Int} (q : Q (.int i.natAbs) st) : (b1K .abs (.int i) st).wp Q X := by
  refine wp_ok (a := Vl.int (if i < 0 then -i else i)) (s := st) ?_
  have : (if i < 0 then -i else i) = (i.natAbs : Int) := by split <;> omega
  rw [this]; exact q
theorem all_wp {α : Type} {l : List α} {p : α → Bool} (q : Q (.bl (l.all p)) st) : (b1K .all (.lst (l.map fun a => .bl (p a))) st).wp Q X := wp_eq (kAll_comp (l := l) (p := p)) q
theorem kAny_bls {bs : List Bool} {st : Sto} : kAny (.lst (bs.map .bl)) st = .ok (.bl (bs.any id)) st := by
  have h : ∀ bs : List Bool, blsOf (bs.map .bl) = some bs := fun bs => by
    induction bs with
    | nil => rfl
    | cons b r ih => simp [blsOf, ih]
  simp [kAny, h, Res.lift]
theorem any_wp {α : Type} {l : List α} {p : α → Bool} (q : Q (.bl (l.any p)) st) : (b1K .any (.lst (l.map fun a => .bl (p a))) st).wp Q X := by
  refine wp_eq (a := .bl (l.any p)) (s := st) (show kAny (.lst (l.map fun a => Vl.bl (p a))) st = _ from ?_) q
  rw [show (l.map fun a => Vl.bl (p a)) = (l.map p).map .bl by rw [List.map_map]; rfl, kAny_bls, List.any_map]
  rfl
theorem max_wp {i j : Int} (q : Q (.int (max i j)) st) : (b2K .max (.int i) (.int j) st).wp Q X := by
  refine wp_ok (a := Vl.int (if j > i then j else i)) (s := st) ?_
  have : (if j > i then j else i) = max i j := by omega
  rw [this]; exact q
theorem min_wp {i j : Int} (q : Q (.int (min i j)) st) : (b2K .min (.int i) (.int j) st).wp Q X := by
  refine wp_ok (a := Vl.int (if j < i then j else i)) (s := st) ?_
  have : (if j < i then j else i) = min i j := by omega
  rw [this]; exact q
end
theorem cmul_s {i j : Int} (h : (-1000000000000000 ≤ i ∧ i ≤ 1000000000000000) ∨ (-1000000000000000 ≤ j ∧ j ≤ 1000000000000000)) : cMul i j = true := by
  unfold cMul
  simp only [Bool.or_eq_true, Bool.and_eq_true, decide_eq_true_eq]
  omega
theorem cpow_s {i j : Int} (h0 : i.natAbs < 10000000000000000000) (j0 : 0 ≤ j) (j1 : j ≤ 1000000) : cPow i j = true := by
  simp only [cPow, Bool.and_eq_true, decide_eq_true_eq]
  exact ⟨⟨j0, j1⟩, by omega⟩
theorem cdiv_s {i j : Int} (h0 : 0 < j) (h1 : j < 1000000000) : cDiv i j = true := by
  simp only [cDiv, Bool.and_eq_true, decide_eq_true_eq]
  omega
theorem rg_s {a b : Int} (h0 : -1000000 ≤ a) (h1 : b ≤ 1000000) (h2 : a ≤ 1000000) (h3 : -1000000 ≤ b) : rgOk a b = true := by
  have k : (b - a).toNat ≤ 2 ^ 24 := Nat.le_trans (m := 2000000) (by omega) (by decide)
  have o : ∀ {i : Int}, -1000000 ≤ i → i ≤ 1000000 → okR i = true := fun {i} h0 h1 => by
    unfold okR
    simp only [Bool.and_eq_true, decide_eq_true_eq]
    constructor <;> omega
  unfold rgOk
  rw [o h0 h2, o h3 h1, decide_eq_true k]
  rfl
section
variable {st : Sto} {Q : Vl → Sto → Prop} {X : XP}
theorem tr1_wp {n : Nat} (h : n ≤ 1000000) (q : Q (.tup ((List.range n).map fun i : Nat => Vl.int (i : Int))) st) : (kTupRg1 (.int (n : Int)) st).wp Q X := by
  have r : rgOk 0 (n : Int) = true := rg_s (by omega) (by omega) (by omega) (by omega)
  have k := tupRg_ok (st := st) r
  unfold kTupRg1
  rw [k]
  refine wp_ok ?_
  have : rngL 0 ((n : Int) - 0).toNat = (List.range n).map fun i : Nat => Vl.int (i : Int) := by
    unfold rngL
    rw [show ((n : Int) - 0).toNat = n by omega]
    simp
  rw [this]; exact q
theorem tr2_wp {a : Int} {n : Nat} {b : Int} (e : b = a + n) (h0 : -1000000 ≤ a) (h1 : b ≤ 1000000) (q : Q (.tup ((List.range n).map fun i : Nat => Vl.int (a + (i : Int)))) st) : (kTupRg (.int a) (.int b) st).wp Q X := by
  refine wp_eq (tupRg_ok (rg_s h0 h1 (by omega) (by omega))) ?_
  rw [show (b - a).toNat = n by omega]
  exact q
theorem rngL_nat (n : Nat) : rngL 0 n = (List.range n).map fun i : Nat => Vl.int (i : Int) := by simp [rngL]
theorem rng_toNat (n : Nat) : rngL 0 (n : Int).toNat = (List.range n).map fun i : Nat => Vl.int (i : Int) := by rw [Int.toNat_natCast, rngL_nat]
/-- x[1:k] * n -/
theorem mulT_wp {v : Vl} {n : Nat} (h0 : 1 ≤ n) (h1 : n ≤ 1000) (q : Q (.tup (List.replicate n v)) st) : (opK .mul (.tup [v]) (.int (n : Int)) st).wp Q X := by
  have e : ∀ n : Nat, (List.replicate n [v]).flatten = List.replicate n v := fun n => by
    induction n with
    | zero => rfl
    | succ k ih => rw [List.replicate_succ, List.flatten_cons, ih]; rfl
  refine wp_if (c := [v] ≠ [] ∧ 1 ≤ (n : Int) ∧ (n : Int) ≤ 1000 ∧ [v].length ≤ 1000) ⟨by simp, by omega, by omega, by simp⟩ ?_
  rw [Int.toNat_natCast, e]; exact wp_ok q
end
section
variable {st : Sto} {Q : List Vl → Sto → Prop} {X : XP} {set : Vl → Ev → Option Ev} {tt : FT} {te : FE} {sk : Src} {env : Ev} {xs : List Vl}
/-- state may change: by what holds ahead of each turn, and what each item is -/
theorem comp_aux {α : Type} (enc : α → Vl) (I : Nat → Sto → Prop) (p : α → Option Vl → Prop) : ∀ (l : List α) (k0 : Nat) (st : Sto) (Q : List Vl → Sto → Prop), I k0 st →
    (∀ k a s, l[k]? = some a → I (k0 + k) s → setW set (enc a) env fun e2 => (tt e2 s).wp (fun b s => brW b ((te e2 s).wp (fun v s => sk.ok s = true ∧ p a (some v) ∧ I (k0 + k + 1) s) nX) (sk.ok s = true ∧ p a none ∧ I (k0 + k + 1) s)) nX) →
    (∀ (os : List (Option Vl)) (s : Sto), os.length = l.length → (∀ (k : Nat) (a : α) (o : Option Vl), l[k]? = some a → os[k]? = some o → p a o) → I (k0 + l.length) s → Q (os.filterMap id) s) → (compF set tt te sk (l.map enc) env st).wp Q X
  | [], k0, st, Q, h0, _, hq => wp_ok (hq [] st rfl (fun k a o h => by simp at h) h0)
  | a :: l, k0, st, Q, h0, hs, hq => by
    obtain ⟨e2, h1, h2⟩ := hs 0 a st rfl h0
    rw [List.map_cons]
    unfold compF
    rw [h1]
    refine wp_bind (wp_noX (wp_mono h2 (fun b s h => ?_) fun _ _ _ h => h))
    have go : ∀ (o : Option Vl) (s : Sto), p a o → I (k0 + 1) s → (compF set tt te sk (l.map enc) env s).wp (fun ys s => Q ((match o with | some v => [v] | none => []) ++ ys) s) X := fun o s ho hi =>
      comp_aux enc I p l (k0 + 1) s _ hi (fun k b s hb hi => by
        have := hs (k + 1) b s (by simpa using hb) (by rw [show k0 + (k + 1) = k0 + 1 + k by omega]; exact hi)
        rw [show k0 + (k + 1) + 1 = k0 + 1 + k + 1 by omega] at this
        exact this) fun os s hl hp hi => by
          have := hq (o :: os) s (by simp [hl]) (fun k b o2 hb ho2 => by
            cases k with
            | zero => simp at hb ho2; subst hb; subst ho2; exact ho
            | succ k => exact hp k b o2 (by simpa using hb) (by simpa using ho2)) (by rw [List.length_cons, show k0 + (l.length + 1) = k0 + 1 + l.length by omega]; exact hi)
          cases o <;> exact this
    refine br_ite ⟨fun e => ?_, fun e => ?_⟩
    · refine wp_bind (wp_noX (wp_mono (h.1 e) (fun v s ⟨o, h3, h4⟩ => ?_) fun _ _ _ h => h))
      exact wp_if o (wp_bind (wp_m (go (some v) s h3 h4) fun _ _ h => wp_ok h))
    · obtain ⟨o, h3, h4⟩ := h.2 e
      exact wp_if o (go none s h3 h4)
theorem comp_wp {α : Type} (enc : α → Vl) (l : List α) (I : Nat → Sto → Prop) (p : α → Option Vl → Prop) (hx : xs = l.map enc) (h0 : I 0 st)
    (hs : ∀ k a s, l[k]? = some a → I k s → setW set (enc a) env fun e2 => (tt e2 s).wp (fun b s => brW b ((te e2 s).wp (fun v s => sk.ok s = true ∧ p a (some v) ∧ I (k + 1) s) nX) (sk.ok s = true ∧ p a none ∧ I (k + 1) s)) nX)
    (hq : ∀ (os : List (Option Vl)) (s : Sto), os.length = l.length → (∀ (k : Nat) (a : α) (o : Option Vl), l[k]? = some a → os[k]? = some o → p a o) → I l.length s → Q (os.filterMap id) s) : (compF set tt te sk xs env st).wp Q X := by
  rw [hx]
  refine comp_aux enc I p l 0 st Q h0 (fun k a s ha hi => ?_) fun os s hl hp hi => hq os s hl hp (by rw [Nat.zero_add] at hi; exact hi)
  rw [Nat.zero_add] at hi ⊢
  exact hs k a s ha hi
/-- state may change, no filter -/
theorem compR_wp {α : Type} (enc : α → Vl) (l : List α) (I : Nat → Sto → Prop) (p : α → Vl → Prop) (hx : xs = l.map enc) (h0 : I 0 st)
    (hs : ∀ k a s, l[k]? = some a → I k s → setW set (enc a) env fun e2 => (te e2 s).wp (fun v s => sk.ok s = true ∧ p a v ∧ I (k + 1) s) nX)
    (hq : ∀ (vs : List Vl) (s : Sto), vs.length = l.length → (∀ (k : Nat) a v, l[k]? = some a → vs[k]? = some v → p a v) → I l.length s → Q vs s) : (compF set tYesF te sk xs env st).wp Q X := by
  refine comp_wp enc l I (fun a o => ∃ v, o = some v ∧ p a v) hx h0 (fun k a s ha hi => ?_) fun os s hl hp hi => ?_
  · obtain ⟨e2, h1, h2⟩ := hs k a s ha hi
    exact ⟨e2, h1, wp_ok (br_tt (wp_m h2 fun v s ⟨a, b, c⟩ => ⟨a, ⟨v, rfl, b⟩, c⟩))⟩
  · have : ∀ (l : List α) (os : List (Option Vl)), os.length = l.length → (∀ (k : Nat) (a : α) (o : Option Vl), l[k]? = some a → os[k]? = some o → ∃ v, o = some v ∧ p a v) → (os.filterMap id).length = l.length ∧ ∀ (k : Nat) a v, l[k]? = some a → (os.filterMap id)[k]? = some v → p a v := by
      intro l
      induction l with
      | nil =>
        intro os h _
        have : os = [] := List.length_eq_zero_iff.mp h
        subst this
        exact ⟨rfl, fun k a v h => by simp at h⟩
      | cons a l ih =>
        intro os h hp
        cases os with
        | nil => simp at h
        | cons o os =>
          obtain ⟨v, rfl, pv⟩ := hp 0 a o rfl rfl
          obtain ⟨h1, h2⟩ := ih os (by simpa using h) fun k b o hb ho => hp (k + 1) b o (by simpa using hb) (by simpa using ho)
          refine ⟨by simp [h1], fun k b w hb hw => ?_⟩
          cases k with
          | zero => simp at hb hw; subst hb; subst hw; exact pv
          | succ k => exact h2 k b w (by simpa using hb) (by simpa using hw)
    obtain ⟨h1, h2⟩ := this l os hl hp
    exact hq _ s h1 h2 hi
/-- nothing changes -/
theorem compM_wp {α : Type} (enc : α → Vl) (l : List α) (f : α → Vl) (hx : xs = l.map enc) (hok : sk.ok st = true) (h : ∀ a ∈ l, setW set (enc a) env fun e2 => (te e2 st).wp (fun v s => v = f a ∧ s = st) nX) (q : Q (l.map f) st) : (compF set tYesF te sk xs env st).wp Q X := by
  refine compR_wp enc l (fun _ s => s = st) (fun a v => v = f a) hx rfl (fun k a s ha hi => ?_) fun vs s hl hp hi => ?_
  · subst hi
    obtain ⟨e2, h1, h2⟩ := h a (List.mem_of_getElem? ha)
    exact ⟨e2, h1, wp_mono h2 (fun v s' ⟨a, b⟩ => by subst b; exact ⟨hok, a, rfl⟩) fun _ _ _ h => h⟩
  · subst hi
    have : vs = l.map f := by
      apply List.ext_getElem?
      intro k
      rw [List.getElem?_map]
      cases e : l[k]? with
      | none =>
        rw [List.getElem?_eq_none_iff] at e
        rw [List.getElem?_eq_none (by omega)]
        rfl
      | some a =>
        have : k < vs.length := by have := (List.getElem?_eq_some_iff.mp e).1; omega
        have e2 : vs[k]? = some vs[k] := List.getElem?_eq_getElem this
        rw [e2, hp k a _ e e2]
        rfl
    rw [this]; exact q
theorem compFil_wp {α : Type} (enc : α → Vl) (l : List α) (p : α → Bool) (f : α → Vl) (hx : xs = l.map enc) (hok : sk.ok st = true) (h : ∀ a ∈ l, setW set (enc a) env fun e2 => (tt e2 st).wp (fun b s => b = p a ∧ s = st ∧ (p a = true → (te e2 st).wp (fun v s => v = f a ∧ s = st) nX)) nX) (q : Q ((l.filter p).map f) st) : (compF set tt te sk xs env st).wp Q X := by
  have : ∀ l : List α, (∀ a ∈ l, setW set (enc a) env fun e2 => (tt e2 st).wp (fun b s => b = p a ∧ s = st ∧ (p a = true → (te e2 st).wp (fun v s => v = f a ∧ s = st) nX)) nX) → compF set tt te sk (l.map enc) env st = .ok ((l.filter p).map f) st := by
    intro l h
    induction l with
    | nil => rfl
    | cons a l ih =>
      obtain ⟨e2, h1, h2⟩ := h a List.mem_cons_self
      have ih := ih fun b hb => h b (List.mem_cons_of_mem _ hb)
      obtain ⟨b, s, e, rfl, rfl, h3⟩ := wp_get h2
      rw [List.map_cons]
      unfold compF
      rw [h1]
      dsimp only
      rw [e]
      show (Res.ok (p a) s).bind _ = _
      rw [Res.bind_ok, List.filter_cons]
      cases q : p a with
      | true =>
        obtain ⟨v, s2, e3, rfl, rfl⟩ := wp_get (h3 q)
        rw [if_pos rfl, e3]
        show (Res.ok (f a) s2).bind _ = _
        rw [Res.bind_ok, if_pos hok, ih, if_pos rfl]
        rfl
      | false =>
        rw [if_neg (by decide), if_pos hok, ih]
        rfl
  rw [hx]
  exact wp_eq (this l h) q
/-- two clauses, nothing changes -/
theorem compG_wp {α β : Type} {set1 : Vl → Ev → Option Ev} {src1 : FS} {vs1 : List Nat} (enc : α → Vl) (l : List α) (sub : α → List β) (en2 : α → β → Vl) (f : α → β → Vl) (hx : xs = l.map enc) (hok : sk.ok st = true)
    (h : ∀ a ∈ l, setW set (enc a) env fun e2 => (src1 e2 st).wp (fun s1 s => s = st ∧ s1.ok st = true ∧ s1.items = (sub a).map (en2 a) ∧ ∀ b ∈ sub a, setW set1 (en2 a b) (wipeE e2 vs1) fun e3 => (te e3 st).wp (fun v s => v = f a b ∧ s = st) nX) nX)
    (q : Q (l.flatMap fun a => (sub a).map (f a)) st) : (compG set tYesF src1 set1 tYesF te vs1 sk xs env st).wp Q X := by
  have : ∀ l : List α, (∀ a ∈ l, setW set (enc a) env fun e2 => (src1 e2 st).wp (fun s1 s => s = st ∧ s1.ok st = true ∧ s1.items = (sub a).map (en2 a) ∧ ∀ b ∈ sub a, setW set1 (en2 a b) (wipeE e2 vs1) fun e3 => (te e3 st).wp (fun v s => v = f a b ∧ s = st) nX) nX) →
      compG set tYesF src1 set1 tYesF te vs1 sk (l.map enc) env st = .ok (l.flatMap fun a => (sub a).map (f a)) st := by
    intro l h
    induction l with
    | nil => rfl
    | cons a l ih =>
      obtain ⟨e2, h1, h2⟩ := h a List.mem_cons_self
      have ih := ih fun b hb => h b (List.mem_cons_of_mem _ hb)
      obtain ⟨s1, s, e, rfl, o1, e4, h3⟩ := wp_get h2
      rw [List.map_cons]
      unfold compG
      rw [h1]
      show (Res.ok true s).bind _ = _
      rw [Res.bind_ok, if_pos rfl, e]
      show (Res.ok s1 s).bind _ = _
      rw [Res.bind_ok, e4]
      have k : compF set1 tYesF te s1 ((sub a).map (en2 a)) (wipeE e2 vs1) s = .ok ((sub a).map (f a)) s := by
        obtain ⟨z, s', e5, rfl, rfl⟩ := wp_get (compM_wp (Q := fun z s' => z = (sub a).map (f a) ∧ s' = s) (X := nX) (en2 a) (sub a) (f a) rfl o1 h3 ⟨rfl, rfl⟩)
        exact e5
      rw [k, Res.bind_ok, if_pos hok, ih]
      rfl
  rw [hx]
  exact wp_eq (this l h) q
end
theorem flat_le {α β : Type} {m : Nat} {f : α → List β} : ∀ {l : List α}, (∀ a ∈ l, (f a).length ≤ m) → (l.flatMap f).length ≤ l.length * m
  | [], _ => by simp
  | a :: l, h => by
    have := flat_le (l := l) fun b hb => h b (List.mem_cons_of_mem _ hb)
    have := h a List.mem_cons_self
    rw [List.flatMap_cons, List.length_append, List.length_cons, Nat.add_mul]
    omega
theorem all2_wp {α β : Type} {l : List α} {sub : α → List β} {p : α → β → Bool} {st : Sto} {Q : Vl → Sto → Prop} {X : XP} (q : Q (.bl (l.all fun a => (sub a).all (p a))) st) : (b1K .all (.lst (l.flatMap fun a => (sub a).map fun b => .bl (p a b))) st).wp Q X := by
  have e : (l.flatMap fun a => (sub a).map fun b => Vl.bl (p a b)) = (l.flatMap fun a => (sub a).map fun b => (a, b)).map fun z => Vl.bl (p z.1 z.2) := by
    rw [List.map_flatMap]
    congr 1
    funext a
    rw [List.map_map]
    rfl
  rw [e]
  refine all_wp ?_
  have e2 : ((l.flatMap fun a => (sub a).map fun b => (a, b)).all fun z => p z.1 z.2) = l.all fun a => (sub a).all (p a) := by
    rw [List.all_flatMap]
    congr 1
    funext a
    rw [List.all_map]
    rfl
  rw [e2]
  exact q
def dV (kv : KVs) : Vl := .dct (kv.map (·.1)) (kv.map (·.2))
theorem dct_of {kv : KVs} {st : Sto} : dctOf (.dct (kv.map (·.1)) (kv.map (·.2))) st = some kv := by
  show some (pairs _ _) = _
  rw [pairs_of]
theorem dc_wp {α : Type} {st : Sto} {Q : KVs → Sto → Prop} {X : XP} {set : Vl → Ev → Option Ev} {tk tv : FE} {sk : Src} {env : Ev} {xs : List Vl} (enc : α → Vl) (l : List α) (key : α → Key) (val : α → Vl) (hx : xs = l.map enc) (hok : sk.ok st = true)
    (h : ∀ a ∈ l, setW set (enc a) env fun e2 => (tk e2 st).wp (fun kv s => keyOf kv = some (key a) ∧ s = st) nX ∧ (tv e2 st).wp (fun v s => v = val a ∧ s = st) nX) (hl : l.length ≤ 1000000)
    (q : Q (l.foldl (fun a x => putP a (key x) (val x)) []) st) : (dcF set tYesF tk tv sk xs [] env st).wp Q X := by
  have go : ∀ (l : List α) (acc : KVs), (∀ a ∈ l, setW set (enc a) env fun e2 => (tk e2 st).wp (fun kv s => keyOf kv = some (key a) ∧ s = st) nX ∧ (tv e2 st).wp (fun v s => v = val a ∧ s = st) nX) → acc.length + l.length ≤ sizeLine →
      dcF set tYesF tk tv sk (l.map enc) acc env st = .ok (l.foldl (fun a x => putP a (key x) (val x)) acc) st := by
    intro l
    induction l with
    | nil => intro acc _ _; rfl
    | cons a l ih =>
      intro acc h hl
      obtain ⟨e2, h1, h2, h3⟩ := h a List.mem_cons_self
      obtain ⟨kv, s, e, k1, rfl⟩ := wp_get h2
      obtain ⟨w, s, e4, rfl, rfl⟩ := wp_get h3
      rw [List.length_cons] at hl
      have pl := putP_len acc (key a) (val a)
      have ih := ih (putP acc (key a) (val a)) (fun b hb => h b (List.mem_cons_of_mem _ hb)) (by omega)
      rw [List.map_cons]
      unfold dcF
      rw [h1]
      dsimp only
      show (Res.ok true s).bind _ = _
      rw [Res.bind_ok, if_pos rfl, e]
      show (Res.ok kv s).bind _ = _
      rw [Res.bind_ok, e4]
      show (Res.ok (val a) s).bind _ = _
      rw [Res.bind_ok, k1]
      dsimp only
      rw [if_pos hok, if_pos (by omega), ih]
      rfl
  rw [hx]
  exact wp_eq (go l [] h (by rw [List.length_nil, sizeLine_eq]; omega)) q
section
variable {st : Sto} {Q : Bool → Sto → Prop} {v : Vl} {kv : KVs} {k : Key}
theorem cm_in (e : keyOf v = some k) (h : Q (getP kv k).isSome st) : cmW .inD v (.dct (kv.map (·.1)) (kv.map (·.2))) st Q := by
  refine cm_by (b := (getP kv k).isSome) ?_ h
  show kIn false v _ st = _
  unfold kIn
  rw [dct_of, e]
  simp
theorem cm_notin (e : keyOf v = some k) (h : Q (getP kv k).isNone st) : cmW .notinD v (.dct (kv.map (·.1)) (kv.map (·.2))) st Q := by
  refine cm_by (b := (getP kv k).isNone) ?_ h
  show kIn true v _ st = _
  unfold kIn
  rw [dct_of, e]
  cases z : getP kv k <;> simp [z]
theorem dix_wp {Q : Vl → Sto → Prop} {X : XP} {w : Vl} (e : keyOf v = some k) (e2 : getP kv k = some w) (h : Q w st) : (kGetIx (.dct (kv.map (·.1)) (kv.map (·.2))) v st).wp Q X := by
  unfold kGetIx
  rw [dct_of, e]
  exact wp_some e2 h
end
theorem cut_mem {α : Type} {xs : List α} {l u : Option Int} {x : α} (h : x ∈ cutL xs l u) : x ∈ xs := List.mem_of_mem_drop (List.mem_of_mem_take h)
theorem cut_len {α : Type} {xs : List α} {l u : Option Int} : (cutL xs l u).length ≤ xs.length := by
  unfold cutL
  rw [List.length_take, List.length_drop]
  omega
theorem skv {v : Vl} {xs : List Vl} {st : Sto} (h : seqOf v st = some xs) : (Src.mk xs [(v, xs)]).ok st = true := src_ok_val h
end TW
local macro_rules | `(tactic| walk_at "w1") => `(tactic| first
  | (with_reducible refine TW.nx_nx ?_); try dsimp only [TW.dz_set0, TW.dz_set1, TW.dz_map0, TW.dz_map1, TW.dz_app0, TW.dz_app1, TW.dz_len0, TW.dz_len1, TW.dz_rep0, TW.dz_rep1, TW.dz_setN0, TW.dz_setN1, TW.dz_entry, TW.dz_entryI, Nat.reduceAdd, Nat.reduceSub]
  | ((with_reducible apply TW.set_by); exact rfl); try dsimp only [TW.dz_set0, TW.dz_set1, TW.dz_map0, TW.dz_map1, TW.dz_app0, TW.dz_app1, TW.dz_len0, TW.dz_len1, TW.dz_rep0, TW.dz_rep1, TW.dz_setN0, TW.dz_setN1, TW.dz_wipe0, TW.dz_wipe1, TW.dz_entry, TW.dz_entryI, Nat.reduceAdd, Nat.reduceSub]
  | (with_reducible apply TW.seq_by); exact rfl
  | (with_reducible apply TW.par_by); exact rfl
  | (with_reducible apply TW.tg_by); exact rfl
  | (with_reducible apply TW.br_N); exact rfl
  | (with_reducible apply TW.br_n); exact rfl
  | (with_reducible apply TW.br_A); exact rfl
  | (with_reducible apply TW.br_a); exact rfl
  | (with_reducible apply TW.e_v); exact rfl
  | (with_reducible apply TW.e_bl); exact rfl
  | (with_reducible apply TW.e_bv); exact rfl
  | (with_reducible apply TW.m_app); exact rfl
  | (with_reducible apply TW.m_ext); exact rfl
  | (with_reducible apply TW.m_put); exact rfl
  | (with_reducible apply TW.m_fld); exact rfl
  | (with_reducible apply TW.m_relO); exact rfl
  | (with_reducible apply TW.m_relV); exact rfl
  | with_reducible refine TW.nx_rt ?_
  | with_reducible refine TW.nx_bk ?_
  | with_reducible refine TW.nx_ct ?_
  | with_reducible refine TW.rq_rt ?_
  | with_reducible refine TW.rq_nx ?_
  | with_reducible refine TW.fq_rt ?_
  | with_reducible refine TW.fq_bk ?_
  | with_reducible refine TW.b_cons ?_
  | with_reducible refine TW.b_nil ?_
  | with_reducible refine TW.e_k ?_
  | with_reducible refine TW.e_g ?_
  | with_reducible refine TW.br_tt ?_
  | with_reducible refine TW.br_ff ?_
  | with_reducible refine TW.w_cons ?_
  | with_reducible refine TW.w_nil ?_
  | with_reducible refine TW.e_call ?_
  | with_reducible refine TW.e_bin ?_
  | with_reducible refine TW.op_add ?_
  | with_reducible refine TW.op_sub ?_
  | with_reducible refine TW.op_and ?_
  | with_reducible refine TW.op_or ?_
  | with_reducible refine TW.e_ix ?_
  | with_reducible refine TW.e_b1 ?_
  | with_reducible refine TW.e_b2 ?_
  | with_reducible refine TW.e_tup ?_
  | with_reducible refine TW.e_lst ?_
  | with_reducible refine TW.e_cell ?_
  | with_reducible refine TW.l_disp ?_
  | with_reducible refine TW.l_comp ?_
  | with_reducible refine TW.l_comp2 ?_
  | with_reducible refine TW.m_set ?_
  | with_reducible refine TW.m_ret ?_
  | with_reducible refine TW.m_if ?_
  | with_reducible refine TW.m_for ?_
  | with_reducible refine TW.m_unp ?_
  | with_reducible refine TW.m_par ?_
  | with_reducible refine TW.m_own ?_
  | with_reducible refine TW.m_ex ?_
  | with_reducible refine TW.m_tri ?_
  | with_reducible refine TW.m_raise ?_
  | with_reducible refine TW.m_whl ?_
  | with_reducible refine TW.m_putR ?_
  | with_reducible refine TW.m_putD ?_
  | with_reducible refine TW.m_appX ?_
  | with_reducible refine TW.m_extX ?_
  | with_reducible refine TW.m_revX ?_
  | with_reducible refine TW.m_retN ?_
  | with_reducible refine TW.m_brk ?_
  | with_reducible refine TW.m_cnt ?_
  | with_reducible refine TW.m_pass ?_
  | with_reducible refine TW.t_cmp ?_
  | with_reducible refine TW.t_tr ?_
  | with_reducible refine TW.t_not ?_
  | with_reducible refine TW.t_or ?_
  | with_reducible refine TW.t_an ?_
  | with_reducible refine TW.t_one ?_
  | with_reducible refine TW.t_chn ?_
  | with_reducible refine TW.e_cmp ?_
  | with_reducible refine TW.e_chn ?_
  | with_reducible refine TW.e_ife ?_
  | with_reducible refine TW.e_an ?_
  | with_reducible refine TW.e_or ?_
  | with_reducible refine TW.e_nt ?_
  | with_reducible refine TW.e_one ?_
  | with_reducible refine TW.e_callK ?_
  | with_reducible refine TW.e_make ?_
  | with_reducible refine TW.e_makeK ?_
  | with_reducible refine TW.e_isi ?_
  | with_reducible refine TW.e_fld ?_
  | with_reducible refine TW.e_get ?_
  | with_reducible refine TW.e_tr1 ?_
  | with_reducible refine TW.e_tr2 ?_
  | with_reducible refine TW.e_own ?_
  | with_reducible refine TW.e_ownN ?_
  | with_reducible refine TW.e_dct ?_
  | with_reducible refine TW.e_dct0 ?_
  | with_reducible refine TW.e_getD ?_
  | with_reducible refine TW.e_cellD ?_
  | with_reducible refine TW.e_rev ?_
  | with_reducible refine TW.e_sset ?_
  | with_reducible refine TW.e_minD ?_
  | with_reducible refine TW.e_neg ?_
  | with_reducible refine TW.neg_by ?_
  | with_reducible refine TW.part_by ?_
  | with_reducible refine TW.e_dix ?_
  | with_reducible refine TW.e_sl ?_
  | with_reducible refine TW.sl_tup ?_
  | with_reducible refine TW.sl_lst ?_
  | with_reducible refine TW.o_no ?_
  | with_reducible refine TW.o_so ?_
  | with_reducible refine TW.s_seq ?_
  | with_reducible refine TW.q_so ?_
  | with_reducible refine TW.s_r1 ?_
  | with_reducible refine TW.s_r2 ?_
  | with_reducible refine TW.s_rD ?_
  | with_reducible refine TW.s_zip ?_
  | with_reducible refine TW.l_rg1 ?_
  | with_reducible refine TW.l_cat ?_
  | with_reducible refine TW.l_rep ?_
  | with_reducible refine TW.l_of ?_
  | with_reducible refine TW.tru_B ?_
  | with_reducible refine TW.tru_I ?_
  | with_reducible refine TW.tru_N ?_
  | with_reducible refine TW.tru_L ?_
  | with_reducible refine TW.tru_T ?_
  | with_reducible refine TW.cm_lt ?_
  | with_reducible refine TW.cm_le ?_
  | with_reducible refine TW.cm_gt ?_
  | with_reducible refine TW.cm_ge ?_
  | with_reducible refine TW.cm_eqI ?_
  | with_reducible refine TW.cm_neI ?_
  | with_reducible refine TW.cm_eqB ?_
  | with_reducible refine TW.cm_neB ?_
  | with_reducible refine TW.cm_eqS ?_
  | with_reducible refine TW.cm_neS ?_
  | with_reducible refine TW.cm_isN ?_
  | with_reducible refine TW.cm_isnotN ?_
  | with_reducible refine TW.cm_isB ?_
  | with_reducible refine TW.cm_isnotB ?_
  | with_reducible refine TW.br_not ?_
  | with_reducible refine TW.br_ta ?_
  | with_reducible refine TW.br_fa ?_
  | ((with_reducible apply TW.e_sfld); exact rfl; exact rfl) | ((with_reducible apply TW.fld_by); exact rfl; exact rfl) | ((with_reducible apply TW.fset_by); exact rfl; exact rfl)
  | with_reducible refine TW.lenT_wp ?_
  | with_reducible refine TW.lenL_wp ?_
  | with_reducible refine TW.lenF_wp ?_
  | with_reducible refine TW.lenD_wp ?_
  | with_reducible refine TW.tupL_wp ?_
  | with_reducible refine TW.tupT_wp ?_
  | with_reducible refine TW.int_wp ?_
  | with_reducible refine TW.intB_wp ?_
  | with_reducible refine TW.max_wp ?_
  | with_reducible refine TW.min_wp ?_
  | with_reducible refine TW.abs_wp ?_
  | ((with_reducible apply TW.br_decT); omega) | ((with_reducible apply TW.br_decF); omega)
  | ((with_reducible apply TW.op_mul); (refine TW.cmul_s ?_; omega)) | ((with_reducible apply TW.op_mod); omega) | ((with_reducible apply TW.op_div); (refine TW.cdiv_s ?_ ?_ <;> omega)) | ((with_reducible apply TW.r1_by); omega; omega)
  | ((with_reducible apply TW.ix_at); exact rfl; exact rfl; exact rfl))
local macro_rules | `(tactic| walk_at "w") => `(tactic| repeat (walk_at "w1"))
set_option maxHeartbeats 4000000
namespace TW
open PySem
/-- a text that is no longer than a line, of signs that there are -/
def sOk (x : Str) : Bool := decide (x.length ≤ 1000) && x.cps.toList.all (fun c => decide (c < 0x110000))
theorem sOk_len {x : Str} (h : sOk x = true) : x.length ≤ 1000 := by
  unfold sOk at h
  rw [Bool.and_eq_true, decide_eq_true_eq] at h
  exact h.1
theorem sOk_ok {x : Str} (h : sOk x = true) : PyData.strOk x = true := by
  unfold sOk at h
  rw [Bool.and_eq_true] at h
  unfold PyData.strOk
  rw [← Array.all_toList]
  exact h.2
/-- data that is told and due alike -/
inductive Pure : Nat → Vl → Prop
  | non {k : Nat} : Pure k .non
  | bl {k : Nat} {b : Bool} : Pure k (.bl b)
  | int {k : Nat} {i : Int} : Pure k (.int i)
  | str {k : Nat} {x : Str} : sOk x = true → Pure k (.str x)
  | tup {k : Nat} {xs : List Vl} : xs.length ≤ 100000 → (∀ x ∈ xs, Pure k x) → Pure (k + 1) (.tup xs)
  | lst {k : Nat} {xs : List Vl} : xs.length ≤ 100000 → (∀ x ∈ xs, Pure k x) → Pure (k + 1) (.lst xs)
theorem Pure.mono {k j : Nat} {v : Vl} (h : Pure k v) (l : k ≤ j) : Pure j v := by
  induction h generalizing j with
  | non => exact .non
  | bl => exact .bl
  | int => exact .int
  | str h => exact .str h
  | tup h _ ih =>
    cases j with
    | zero => omega
    | succ j => exact .tup h fun x hx => ih x hx (by omega)
  | lst h _ ih =>
    cases j with
    | zero => omega
    | succ j => exact .lst h fun x hx => ih x hx (by omega)
theorem eqv_nil : PyData.eqv (.list []) (.list []) = true := by unfold PyData.eqv PyData.eqvAll; rfl
section
variable {st : Sto} {Q : Bool → Sto → Prop}
theorem cm_nil (h : Q true st) : cmW .eq (.lst []) (.lst []) st Q := by
  refine cm_by (b := true) ?_ h
  show kEq (.lst []) (.lst []) st = _
  rw [eq_lst (k := 1) (st := st) dats_nil.lst dats_nil.lst (by omega), eqv_nil]
end
/-- data of numbers -/
inductive Num : Nat → Vl → Prop
  | non {k : Nat} : Num k .non
  | bl {k : Nat} {b : Bool} : Num k (.bl b)
  | int {k : Nat} {i : Int} : Num k (.int i)
  | tup {k : Nat} {xs : List Vl} : xs.length ≤ 100000 → (∀ x ∈ xs, Num k x) → Num (k + 1) (.tup xs)
  | lst {k : Nat} {xs : List Vl} : xs.length ≤ 100000 → (∀ x ∈ xs, Num k x) → Num (k + 1) (.lst xs)
theorem Num.pure {k : Nat} {v : Vl} (h : Num k v) : Pure k v := by
  induction h with
  | non => exact .non
  | bl => exact .bl
  | int => exact .int
  | tup l _ ih => exact .tup l ih
  | lst l _ ih => exact .lst l ih
theorem Num.mono {k j : Nat} {v : Vl} (h : Num k v) (l : k ≤ j) : Num j v := by
  induction h generalizing j with
  | non => exact .non
  | bl => exact .bl
  | int => exact .int
  | tup h _ ih =>
    cases j with
    | zero => omega
    | succ j => exact .tup h fun x hx => ih x hx (by omega)
  | lst h _ ih =>
    cases j with
    | zero => omega
    | succ j => exact .lst h fun x hx => ih x hx (by omega)
def dOf (v : Vl) : PyData := (pdV v).getD .none
theorem Num.dat {k : Nat} {v : Vl} (h : Num k v) : Dat k v (dOf v) := by
  have key : ∀ {k : Nat} {xs : List Vl}, (∀ x ∈ xs, Dat k x (dOf x)) → Dats k xs (xs.map dOf) := by
    intro k xs h
    have := dats_map (k := k) (f := id) (g := dOf) (l := xs) h
    rwa [List.map_id] at this
  induction h with
  | non => exact ⟨rfl, rfl, Nat.zero_le _⟩
  | bl => exact ⟨rfl, rfl, Nat.zero_le _⟩
  | int => exact ⟨rfl, rfl, Nat.zero_le _⟩
  | tup l _ ih =>
    have d := (key ih).tup
    unfold dOf
    rw [d.p]
    exact d
  | lst l _ ih =>
    have d := (key ih).lst
    unfold dOf
    rw [d.p]
    exact d
theorem Pure.dat {k : Nat} {v : Vl} (h : Pure k v) : Dat k v (dOf v) := by
  have key : ∀ {k : Nat} {xs : List Vl}, (∀ x ∈ xs, Dat k x (dOf x)) → Dats k xs (xs.map dOf) := by
    intro k xs h
    have := dats_map (k := k) (f := id) (g := dOf) (l := xs) h
    rwa [List.map_id] at this
  induction h with
  | non => exact ⟨rfl, rfl, Nat.zero_le _⟩
  | bl => exact ⟨rfl, rfl, Nat.zero_le _⟩
  | int => exact ⟨rfl, rfl, Nat.zero_le _⟩
  | str h => exact ⟨rfl, sOk_ok h, Nat.zero_le _⟩
  | tup l _ ih =>
    have d := (key ih).tup
    unfold dOf
    rw [d.p]
    exact d
  | lst l _ ih =>
    have d := (key ih).lst
    unfold dOf
    rw [d.p]
    exact d
theorem dOf_lst {k : Nat} {xs : List Vl} (h : ∀ x ∈ xs, Pure k x) : Dat (k + 1) (.lst xs) (.list (xs.map dOf)) := by
  have := dats_map (k := k) (f := id) (g := dOf) (l := xs) fun x hx => (h x hx).dat
  rw [List.map_id] at this
  exact this.lst
theorem dOf_tup {k : Nat} {xs : List Vl} (h : ∀ x ∈ xs, Num k x) : dOf (.tup xs) = .tuple (xs.map dOf) := by
  have := dats_map (k := k) (f := id) (g := dOf) (l := xs) fun x hx => (h x hx).dat
  rw [List.map_id] at this
  have d := this.tup
  unfold dOf
  rw [d.p]
  rfl
theorem eqvAll_ne : ∀ {xs ys : List PyData} {i : Nat} {x y : PyData}, xs[i]? = some x → ys[i]? = some y → PyData.eqv x y = false → PyData.eqvAll xs ys = false
  | [], _, _, _, _, h, _, _ => by simp at h
  | _ :: _, [], _, _, _, _, h, _ => by simp at h
  | a :: xs, b :: ys, 0, x, y, h1, h2, h3 => by
    simp at h1 h2
    subst h1 h2
    unfold PyData.eqvAll
    rw [h3]
    rfl
  | a :: xs, b :: ys, i + 1, x, y, h1, h2, h3 => by
    unfold PyData.eqvAll
    rw [eqvAll_ne (xs := xs) (ys := ys) (i := i) (by simpa using h1) (by simpa using h2) h3]
    simp
theorem eqv_tup_ne {k : Nat} {xs ys : List Vl} (hx : ∀ x ∈ xs, Num k x) (hy : ∀ x ∈ ys, Num k x) {i : Nat} {x y : Vl} (h1 : xs[i]? = some x) (h2 : ys[i]? = some y) (h3 : PyData.eqv (dOf x) (dOf y) = false) : PyData.eqv (dOf (.tup xs)) (dOf (.tup ys)) = false := by
  rw [dOf_tup hx, dOf_tup hy]
  unfold PyData.eqv
  exact eqvAll_ne (by rw [List.getElem?_map, h1]; rfl) (by rw [List.getElem?_map, h2]; rfl) h3
theorem eqv_self {k : Nat} {v : Vl} (h : Num k v) : PyData.eqv (dOf v) (dOf v) = true := SeqAt.eqv_refl _ h.dat.l
section
variable {st : Sto} {Q : Bool → Sto → Prop} {k : Nat} {xs ys : List Vl}
theorem cm_tup (h : Num k (.tup xs)) (h2 : Num k (.tup ys)) (hk : k ≤ 64) (q : Q (PyData.eqv (dOf (.tup xs)) (dOf (.tup ys))) st) : cmW .eq (.tup xs) (.tup ys) st Q := cm_by (eq_tup h.dat h2.dat hk) q
theorem cm_tupT (h : Num k (.tup xs)) (hk : k ≤ 64) (q : Q true st) : cmW .eq (.tup xs) (.tup xs) st Q := cm_tup h h hk (by rw [eqv_self h]; exact q)
end
theorem nil_cons {x : PyData} {xs : List PyData} : PyData.eqv (.list (x :: xs)) (.list []) = false := by
  unfold PyData.eqv PyData.eqvAll
  rfl
/-- xs == [], xs != [] -/
theorem cm_isnil {st : Sto} {Q : Bool → Sto → Prop} {k : Nat} {xs : List Vl} (h : ∀ x ∈ xs, Pure k x) (hk : k < 64) (q : Q xs.isEmpty st) : cmW .eq (.lst xs) (.lst []) st Q := by
  refine cm_by (b := xs.isEmpty) ?_ q
  show kEq (.lst xs) (.lst []) st = _
  rw [eq_lst (k := k + 1) (st := st) (dOf_lst h) dats_nil.lst (by omega)]
  cases xs with
  | nil => rw [List.map_nil, eqv_nil]; rfl
  | cons x xs => rw [List.map_cons, nil_cons]; rfl
theorem cm_nenil {st : Sto} {Q : Bool → Sto → Prop} {k : Nat} {xs : List Vl} (h : ∀ x ∈ xs, Pure k x) (hk : k < 64) (q : Q (!xs.isEmpty) st) : cmW .ne (.lst xs) (.lst []) st Q := by
  refine cm_by (b := !xs.isEmpty) ?_ q
  show (kEq (.lst xs) (.lst []) st).map (!·) = _
  rw [eq_lst (k := k + 1) (st := st) (dOf_lst h) dats_nil.lst (by omega)]
  cases xs with
  | nil => rw [List.map_nil, eqv_nil]; rfl
  | cons x xs => rw [List.map_cons, nil_cons]; rfl
/-- a list of anything and [] -/
theorem eqA {st : Sto} {xs : List Vl} : kEq (.lst xs) (.lst []) st = some xs.isEmpty := by
  cases xs with
  | nil =>
    rw [eq_lst (k := 1) (st := st) dats_nil.lst dats_nil.lst (by omega), eqv_nil]
    rfl
  | cons x xs =>
    have ln : lenNe (.lst (x :: xs)) (.lst []) st = some false := by
      show (if (x :: xs).length = ([] : List Vl).length then none else some false) = _
      rw [if_neg (by simp)]
    unfold kEq
    dsimp only
    split
    · rename_i d e h1 h2
      have e2 : e = .list [] := by
        have : some e = some (PyData.list []) := h2.symm.trans rfl
        exact Option.some.inj this
      split
      · subst e2
        have h1 : (pdVs (x :: xs)).map PyData.list = some d := h1
        unfold pdVs at h1
        split at h1
        · cases h1
          rw [nil_cons]
          rfl
        · cases h1
      · exact ln
    · exact ln
theorem cm_nilA {st : Sto} {Q : Bool → Sto → Prop} {xs : List Vl} (q : Q xs.isEmpty st) : cmW .eq (.lst xs) (.lst []) st Q := cm_by eqA q
theorem cm_nnilA {st : Sto} {Q : Bool → Sto → Prop} {xs : List Vl} (q : Q (!xs.isEmpty) st) : cmW .ne (.lst xs) (.lst []) st Q := ⟨_, by
  show (kEq (.lst xs) (.lst []) st).map (!·) = _
  rw [eqA]
  rfl, q⟩
theorem bitOk {i : Nat} (h : i ≤ 100000) : okR (i : Int) = true := by
  unfold okR
  simp only [Bool.and_eq_true, decide_eq_true_eq]
  constructor <;> omega
end TW
set_option maxHeartbeats 4000000
namespace TW
open PySem
section
variable {st : Sto} {Q : Vl → Sto → Prop} {X : XP}
def sameEnd (j : Nat) : Bk := .cons (.ifs (.or (.cmp .ne (.isi [.list] (.v 0)) (.isi [.list] (.v 1))) (.one (.cmp .ne (.isi [.tuple] (.v 0)) (.isi [.tuple] (.v 1)))))
   (.cons (.ret (.k (.bl false))) (.nil)) (.nil))
  (.cons (.ret (.an (.cmp .eq (.b1 .len (.v 0)) (.b1 .len (.v 1))) (.one (.cmp .eq (.lst (.comp (.n 2) (.r1 (.b1 .len (.v 1))) (.so (.not (.tr (.call j (.cons (.ix (.v 0) (.v 2)) (.cons (.ix (.v 1) (.v 2)) (.nil))))))) (.v 2) [2])) (.lst (.disp (.nil)))))))
  (.nil))
def sameBk (d : Bool) (j : Nat) : Bk := .cons (.ifs (.or (.cmp .is_ (.v 1) (.k .non)) (.one (.tr (.isi [.bool] (.v 1)))))
   (.cons (.ret (.ife (.cmp .is_ (.v 1) (.k .non)) (.cmp .is_ (.v 0) (.k .non)) (.an (.isi [.bool] (.v 0)) (.one (.cmp .eq (.cmp .is_ (.v 0) (.k (.bl true))) (.cmp .is_ (.v 1) (.k (.bl true)))))))) (.nil)) (.nil))
  (.cons (.ifs (.tr (.isi [.int] (.v 1)))
   (.cons (.ret (.an (.isi [.int] (.v 0)) (.an (.nt (.isi [.bool] (.v 0))) (.one (.cmp .eq (.bin .sub (.b1 .int (.v 0)) (.v 1)) (.k (.int 0))))))) (.nil)) (.nil))
  (.cons (.ifs (.tr (.isi [.str] (.v 1)))
   (.cons (.ret (.an (.isi [.str] (.v 0)) (.an (.cmp .eq (.b1 .len (.v 0)) (.b1 .len (.v 1))) (.one (.cmp .eq (.lst (.comp (.n 2) (.r1 (.b1 .len (.v 1))) (.so (.cmp .ne (.sl (.v 0) (.so (.v 2)) (.so (.bin .add (.v 2) (.k (.int 1))))) (.ix (.v 1) (.v 2)))) (.v 2) [2])) (.lst (.disp (.nil)))))))) (.nil)) (.nil))
  (if d then .cons (.ifs (.tr (.isi [.dict] (.v 1))) (.cons (.ret (.an (.isi [.dict] (.v 0)) (.one (.cmp .eq (.b1 .len (.v 0)) (.b1 .len (.v 1)))))) (.nil)) (.nil)) (sameEnd j) else sameEnd j)))
theorem tg_is {n : Nat} {v : Vl} {t : Tg} {s : Sto} {Q : Tg → Prop} (e : tgOf n v s = some t) (h : Q t) : tgW n v s Q := ⟨t, e, h⟩
/-- a list or a tuple, or a cell that holds a list -/
structure SeqV (v : Vl) (st : Sto) (xs : List Vl) : Prop where
  s : strOf v = none
  q : seqOf v st = some xs
theorem SeqV.len {v : Vl} {st : Sto} {xs : List Vl} (h : SeqV v st xs) : lenV v st = some xs.length := by
  unfold lenV
  rw [h.s]
  dsimp only
  rw [h.q]
  rfl
theorem seqv_tup {st : Sto} {xs : List Vl} : SeqV (.tup xs) st xs := ⟨rfl, rfl⟩
theorem seqv_lst {st : Sto} {xs : List Vl} : SeqV (.lst xs) st xs := ⟨rfl, rfl⟩
theorem seqv_ref {st : Sto} {n : Nat} {xs : List Vl} (h : (st : List Ob)[n]? = some (.lst xs)) : SeqV (.ref n) st xs := ⟨rfl, by unfold seqOf; dsimp only; rw [h]⟩
/-- told and due: what same says True of -/
inductive Alike (d : Bool) (st : Sto) : Nat → Vl → Vl → Prop
  | non {k : Nat} : Alike d st k .non .non
  | bl {k : Nat} {b : Bool} : Alike d st k (.bl b) (.bl b)
  | int {k : Nat} {i : Int} : Alike d st k (.int i) (.int i)
  | str {k : Nat} {x : Str} : x.length ≤ 1000 → Alike d st k (.str x) (.str x)
  | dct {k : Nat} {ks : List L2.Key} {vs : List Vl} : d = true → Alike d st k (.dct ks vs) (.dct ks vs)
  | seq {k : Nat} {v w : Vl} {xs ys : List Vl} {t : Tg} : t = .list ∨ t = .tuple → (∀ n, tgOf n v st = some t) → (∀ n, tgOf n w st = some t) → SeqV v st xs → SeqV w st ys → xs.length = ys.length → ys.length ≤ 100000 →
      (∀ (i : Nat) (x y : Vl), xs[i]? = some x → ys[i]? = some y → Alike d st k x y) → Alike d st (k + 1) v w
theorem Pure.alike {d : Bool} {k : Nat} {v : Vl} (h : Pure k v) : Alike d st k v v := by
  induction h with
  | non => exact .non
  | bl => exact .bl
  | int => exact .int
  | str h => exact .str (sOk_len h)
  | tup h _ ih =>
    exact .seq (.inr rfl) (fun _ => rfl) (fun _ => rfl) seqv_tup seqv_tup rfl h fun i x y hx hy => by
      rw [hx] at hy
      cases hy
      exact ih x (List.mem_of_getElem? hx)
  | lst h _ ih =>
    exact .seq (.inl rfl) (fun _ => rfl) (fun _ => rfl) seqv_lst seqv_lst rfl h fun i x y hx hy => by
      rw [hx] at hy
      cases hy
      exact ih x (List.mem_of_getElem? hx)
theorem strlen_ok {x : Str} (h : x.length ≤ 1000) : lenV (.str x) st = some x.length := by
  show (if x.length ≤ sizeLine then some x.length else none) = _
  rw [if_pos (by rw [sizeLine_eq]; omega)]
theorem atI_nat {α : Type} {xs : List α} {k : Nat} {x : α} (h : xs[k]? = some x) : L2.atI xs (k : Int) = some x := by
  have hl : k < xs.length := (List.getElem?_eq_some_iff.mp h).1
  have e : L2.ixN xs.length (k : Int) = some k := by
    unfold L2.ixN
    rw [if_pos (by omega), if_pos (by omega)]
    simp
  unfold L2.atI
  rw [e]
  exact h
/-- text[k:k+1] and text[k] -/
theorem sign_wp {P : Pr} {env : Ev} {x : Str} {k : Nat} {Qb : Bool → Sto → Prop} (h : x.length ≤ 1000) (hk : k < x.length) (e0 : env[0]? = some (some (.val (.str x)))) (e1 : env[1]? = some (some (.val (.str x)))) (e2 : env[2]? = some (some (.val (.int (k : Int))))) (q : Qb false st) :
    (evT P (.cmp .ne (.sl (.v 0) (.so (.v 2)) (.so (.bin .add (.v 2) (.k (.int 1))))) (.ix (.v 1) (.v 2))) env st).wp Qb X := by
  have hl : x.length = x.cps.toList.length := by simp [Str.length]
  obtain ⟨c, hc⟩ : ∃ c, x.cps.toList[k]? = some c := ⟨_, List.getElem?_eq_getElem (by omega)⟩
  refine t_cmp ?_
  show (vSl (fVar 0) (some (fVar 2)) (some (ev P (.bin .add (.v 2) (.k (.int 1))))) env st).wp _ _
  have f0 : fVar 0 env st = .ok (.str x) st := by unfold fVar; rw [e0]
  have f2' : fVar 2 env st = .ok (.int k) st := by unfold fVar; rw [e2]
  have f3 : ev P (.bin .add (.v 2) (.k (.int 1))) env st = .ok (.int ((k : Int) + 1)) st := by
    show f2 (fVar 2) (fC (.int 1)) kAdd env st = _
    unfold f2
    rw [f2', Res.bind_ok]
    rfl
  unfold vSl
  refine wp_bind (wp_eq f0 (wp_bind ?_))
  refine wp_bind (wp_eq f2' (wp_ok ?_))
  refine wp_bind (wp_bind (wp_eq f3 (wp_ok ?_)))
  dsimp only
  refine wp_ifk (by rw [sizeLine_eq]; omega) ?_
  refine e_ix (e_v e1 (e_v e2 ?_))
  refine wp_some (a := .str ⟨#[c]⟩) ?_ ?_
  · show (if x.length ≤ sizeLine then (L2.atI x.cps.toList (k : Int)).map fun c => Vl.str ⟨#[c]⟩ else none) = _
    rw [if_pos (by rw [sizeLine_eq]; omega), atI_nat hc]
    rfl
  · have ec : L2.cutS x (some (k : Int)) (some ((k : Int) + 1)) = ⟨#[c]⟩ := by
      have z : ((k : Int) + 1) = ((k + 1 : Nat) : Int) := by omega
      unfold L2.cutS
      rw [z, HT.sIx_nat, HT.sIx_nat, Nat.min_eq_left (by omega), Nat.min_eq_left (by omega), show k + 1 - k = 1 by omega]
      have d : (x.cps.toList.drop k).take 1 = [c] := by
        rw [List.take_one, List.head?_drop, hc]
        rfl
      rw [d]
    rw [ec]
    refine cm_neS ?_
    rw [decide_eq_true rfl]
    exact q
theorem same_gen {P : Nat → Pr} {d : Bool} {j : Nat} (hP : ∀ n, (P (n + 1)).F j = runF 3 (eb (P n) (sameBk d j))) : ∀ {k : Nat} {v w : Vl} (n : Nat) {Q : Vl → Sto → Prop} {X : XP}, Alike d st k v w → k < n → Q (.bl true) st → ((P n).F j [v, w] st).wp Q X := by
  intro k
  induction k with
  | zero =>
    intro v w n Q X h hk q
    obtain ⟨m, rfl⟩ : ∃ m, n = m + 1 := ⟨n - 1, by omega⟩
    rw [hP]
    unfold sameBk
    refine run_wp ?_
    cases h with
    | non => walk_at "w"; exact q
    | bl => rename_i b; walk_at "w"; cases b <;> (walk_at "w"; exact q)
    | int =>
      walk_at "w"
      rw [decide_eq_true (by omega)]
      exact q
    | str h =>
      rename_i x
      walk_at "w"
      refine len_wp (strlen_ok h) ?_
      walk_at "w"
      refine len_wp (strlen_ok h) ?_
      walk_at "w"
      refine len_wp (strlen_ok h) ?_
      walk_at "w"
      rw [rng_toNat]
      refine compFil_wp (fun i : Nat => Vl.int (i : Int)) (List.range x.length) (fun _ => false) (fun _ => .non) rfl src_ok_nil (fun i hi => ?_) ?_
      · have hi := List.mem_range.mp hi
        refine set_by rfl ?_
        refine sign_wp h hi rfl rfl rfl ⟨rfl, rfl, fun e => nomatch e⟩
      · rw [show (List.range x.length).filter (fun _ => false) = [] by simp]
        walk_at "w"
        refine cm_nil ?_
        walk_at "w"
        exact q
    | dct hd =>
      subst hd
      rename_i ks vs
      walk_at "w"
      refine b_cons (m_if (t_tr (e_isi (e_v rfl (tg_by rfl ?_)))))
      walk_at "w"
      rw [decide_eq_true rfl]
      exact q
  | succ k ih =>
    intro v w n Q X h hk q
    cases h with
    | dct hd => exact ih n (.dct hd) (by omega) q
    | non => exact ih n .non (by omega) q
    | bl => exact ih n .bl (by omega) q
    | int => exact ih n .int (by omega) q
    | str h => exact ih n (.str h) (by omega) q
    | seq ht tv tw sv sw le l5 al =>
      obtain ⟨m, rfl⟩ : ∃ m, n = m + 1 := ⟨n - 1, by omega⟩
      rw [hP]
      unfold sameBk
      refine run_wp ?_
      rename_i xs ys t
      have fin : ∀ {Q : Fl → Sto → Prop}, Q (.rt (.bl true)) st → (eb (P m) (sameEnd j) [some (.val v), some (.val w), none] st).wp Q X := by
        intro Q q
        unfold sameEnd
        walk_at "w"
        refine tg_by (tv _) ?_
        walk_at "w"
        refine tg_by (tw _) ?_
        walk_at "w"
        rw [decide_eq_true rfl]
        walk_at "w"
        refine tg_by (tv _) ?_
        walk_at "w"
        refine tg_by (tw _) ?_
        walk_at "w"
        rw [decide_eq_true rfl]
        walk_at "w"
        refine len_wp sv.len ?_
        walk_at "w"
        refine len_wp sw.len ?_
        walk_at "w"
        refine len_wp sw.len ?_
        walk_at "w"
        rw [rng_toNat]
        refine compFil_wp (fun i : Nat => Vl.int (i : Int)) (List.range ys.length) (fun _ => false) (fun _ => .non) rfl src_ok_nil (fun i hi => ?_) ?_
        · have hi := List.mem_range.mp hi
          obtain ⟨x, hx⟩ : ∃ x, xs[i]? = some x := ⟨_, List.getElem?_eq_getElem (by omega)⟩
          obtain ⟨y, hy⟩ : ∃ y, ys[i]? = some y := ⟨_, List.getElem?_eq_getElem hi⟩
          refine set_by rfl ?_
          show (evT (P m) (.not _) _ _).wp _ _
          walk_at "w"
          refine ix_wp i sv.s sv.q hx ?_
          walk_at "w"
          refine ix_wp i sw.s sw.q hy ?_
          walk_at "w"
          refine ih m (al i x y hx hy) (by omega) ?_
          walk_at "w"
          exact ⟨rfl, rfl, fun e => nomatch e⟩
        · rw [show (List.range ys.length).filter (fun _ => false) = [] by simp]
          walk_at "w"
          refine cm_nil ?_
          walk_at "w"
          exact q
      have nw : isNon w = false := by
        have := tw 0
        cases w <;> first | rfl | (cases this; rcases ht with h | h <;> cases h)
      walk_at "w"
      refine br_n nw ?_
      walk_at "w"
      refine tg_by (tw _) ?_
      rcases ht with rfl | rfl
      · walk_at "w"
        refine tg_by (tw _) ?_
        walk_at "w"
        refine tg_by (tw _) ?_
        cases d with
        | false =>
          walk_at "w"
          exact fin (rq_rt q)
        | true =>
          walk_at "w"
          refine b_cons (m_if (t_tr (e_isi (e_v rfl (tg_by (tw _) ?_)))))
          walk_at "w"
          exact fin (rq_rt q)
      · walk_at "w"
        refine tg_by (tw _) ?_
        walk_at "w"
        refine tg_by (tw _) ?_
        cases d with
        | false =>
          walk_at "w"
          exact fin (rq_rt q)
        | true =>
          walk_at "w"
          refine b_cons (m_if (t_tr (e_isi (e_v rfl (tg_by (tw _) ?_)))))
          walk_at "w"
          exact fin (rq_rt q)
end
end TW
set_option maxHeartbeats 4000000
namespace TW
open PySem
def cellBk : Bk := .cons (.ret (.ife (.cmp .lt (.v 1) (.b1 .len (.v 0))) (.ix (.v 0) (.v 1)) (.bin .add (.bin .mul (.k (.int 6007)) (.v 1)) (.bin .mod (.b1 .int (.b1 .sum (.sl (.v 0) (.no) (.so (.k (.int 1)))))) (.k (.int 1000033))))))
  (.nil)
theorem intsOf_map : ∀ ns : List Int, intsOf (ns.map Vl.int) = some ns
  | [] => rfl
  | n :: ns => by
    show (intsOf (ns.map Vl.int)).map (n :: ·) = _
    rw [intsOf_map ns]
    rfl
section
variable {P : Pr} {st : Sto} {Q : Vl → Sto → Prop} {X : XP}
theorem cell_gen {ns : List Int} {k : Nat} (hk : k ≤ 1000) (q : ∀ v : Int, Q (.int v) st) : (runF 2 (eb P cellBk) [.fro (ns.map .int), .int (k : Int)] st).wp Q X := by
  unfold cellBk
  refine run_wp ?_
  walk_at "w"
  apply br_dec <;> intro h
  · rw [List.length_map] at h
    walk_at "w"
    refine ix_wp k (xs := ns.map .int) (y := .int (ns[k]'(by omega))) rfl rfl ?_ ?_
    · rw [List.getElem?_map, List.getElem?_eq_getElem (by omega)]
      rfl
    · walk_at "w"
      exact q _
  · walk_at "w"
    refine ⟨.lst (cutL (ns.map .int) none (some 1)), rfl, ?_⟩
    have e : cutL (ns.map Vl.int) none (some 1) = (ns.take (min 1 ns.length)).map Vl.int := by
      unfold cutL
      have z : (1 : Int) = ((1 : Nat) : Int) := rfl
      rw [z, HT.sIx_nat, HT.sIx_none, List.drop_zero, List.length_map, Nat.sub_zero, List.map_take]
    rw [e]
    refine wp_some (a := .int (ns.take (min 1 ns.length)).sum) (by rw [intsOf_map]; rfl) ?_
    walk_at "w"
    exact q _
def boxBk : Bk := .cons (.ret (.cell (.disp (.cons (.b1 .abs (.v 0)) (.cons (.cmp .ge (.b1 .abs (.v 0)) (.bin .pow (.k (.int 10)) (.k (.int 18)))) (.cons (.bin .mod (.b1 .int (.b1 .abs (.v 0))) (.k (.int 2147483629))) (.cons (.k (.int 0)) (.nil))))))))
  (.nil)
/-- the law's box of numbers: how great its counter has become -/
def IsBox (K : Nat) (ob : Ob) : Prop := ∃ g : Int, ∃ big : Bool, ∃ m c : Nat, ob = .lst [.int g, .bl big, .int m, .int c] ∧ m < 2147483629 ∧ c ≤ K
theorem IsBox.up {K K2 : Nat} {ob : Ob} (h : IsBox K ob) (le : K ≤ K2) : IsBox K2 ob := by
  obtain ⟨g, big, m, c, h, h2, h3⟩ := h
  exact ⟨g, big, m, c, h, h2, by omega⟩
theorem box_gen {g : Int} (q : ∀ ob, IsBox 0 ob → Q (.ref (st : List Ob).length) ((st : List Ob) ++ [ob])) : (runF 1 (eb P boxBk) [.int g] st).wp Q X := by
  unfold boxBk
  refine run_wp ?_
  walk_at "w"
  refine op_pow (cpow_s (by omega) (by omega) (by omega)) ?_
  walk_at "w"
  have h0 : (0 : Int) ≤ (g.natAbs : Int) % 2147483629 := Int.emod_nonneg _ (by omega)
  have h1 : (g.natAbs : Int) % 2147483629 < 2147483629 := Int.emod_lt_of_pos _ (by omega)
  generalize (g.natAbs : Int) % 2147483629 = m at h0 h1
  obtain ⟨m, rfl⟩ := Int.eq_ofNat_of_zero_le h0
  exact q _ ⟨_, _, m, 0, rfl, by omega, by omega⟩
def takeBk (c1 c2 c3 : Nat) : Bk := .cons (.ifs (.an (.tr (.ix (.v 0) (.k (.int 1)))) (.one (.cmp .gt (.ix (.v 0) (.k (.int 0))) (.k (.int 0)))))
   (.cons (.set 2 (.bin .mod (.b1 .int (.ix (.v 0) (.k (.int 0)))) (.v 1)))
   (.cons (.putR (.v 0) (.k (.int 0)) (.bin .fdiv (.ix (.v 0) (.k (.int 0))) (.v 1)))
   (.cons (.ret (.v 2))
   (.nil))))
   (.nil))
  (.cons (.putR (.v 0) (.k (.int 3)) (.bin .add (.ix (.v 0) (.k (.int 3))) (.k (.int 1))))
  (.cons (.set 3 (.bin .mod (.b1 .int (.bin .pow (.bin .add (.bin .add (.ix (.v 0) (.k (.int 2))) (.bin .mul (.k (.int c1)) (.ix (.v 0) (.k (.int 3))))) (.k (.int c2))) (.k (.int 5)))) (.k (.int 2147483647))))
  (.cons (.ret (.bin .mod (.b1 .int (.bin .fdiv (.bin .mod (.b1 .int (.bin .pow (.bin .add (.bin .mul (.v 3) (.k (.int 48271))) (.bin .mul (.k (.int c3)) (.ix (.v 0) (.k (.int 3))))) (.k (.int 3)))) (.k (.int 2147483587))) (.k (.int 64)))) (.v 1)))
  (.nil))))
theorem take_gen {c1 c2 c3 b K w : Nat} {ob : Ob} (h1 : c1 ≤ 100000000) (h2 : c2 ≤ 1000000000) (h3 : c3 ≤ 1000000) (bl : b < (st : List Ob).length) (hx : IsBox K ob) (hK : K ≤ 1000000000) (hw : 0 < w) (hw2 : w < 1000000)
    (q : ∀ (d : Nat) (ob' : Ob), d < w → IsBox (K + 1) ob' → Q (.int (d : Int)) ((st : List Ob).set b ob')) : (runF 4 (eb P (takeBk c1 c2 c3)) [.ref b, .int (w : Int)] ((st : List Ob).set b ob)).wp Q X := by
  obtain ⟨g, big, m, c, rfl, hm, hc⟩ := hx
  unfold takeBk
  refine run_wp ?_
  have hb : ∀ ob : Ob, ((st : List Ob).set b ob)[b]? = some ob := fun ob => List.getElem?_set_self bl
  have fin : ∀ i : Int, ∃ d : Nat, d < w ∧ i % (w : Int) = (d : Int) := fun i => by
    have h0 : (0 : Int) ≤ i % (w : Int) := Int.emod_nonneg _ (by omega)
    have h1 : i % (w : Int) < w := Int.emod_lt_of_pos _ (by omega)
    exact ⟨(i % (w : Int)).toNat, by omega, by omega⟩
  walk_at "w"
  refine ixR_wp (j := 1) (hb _) rfl ?_
  walk_at "w"
  have no : (eb P (.cons (.putR (.v 0) (.k (.int 3)) (.bin .add (.ix (.v 0) (.k (.int 3))) (.k (.int 1))))
      (.cons (.set 3 (.bin .mod (.b1 .int (.bin .pow (.bin .add (.bin .add (.ix (.v 0) (.k (.int 2))) (.bin .mul (.k (.int c1)) (.ix (.v 0) (.k (.int 3))))) (.k (.int c2))) (.k (.int 5)))) (.k (.int 2147483647))))
      (.cons (.ret (.bin .mod (.b1 .int (.bin .fdiv (.bin .mod (.b1 .int (.bin .pow (.bin .add (.bin .mul (.v 3) (.k (.int 48271))) (.bin .mul (.k (.int c3)) (.ix (.v 0) (.k (.int 3))))) (.k (.int 3)))) (.k (.int 2147483587))) (.k (.int 64)))) (.v 1)))
      (.nil)))) [some (.val (.ref b)), some (.val (.int (w : Int))), none, none] ((st : List Ob).set b (.lst [.int g, .bl big, .int m, .int c]))).wp (rtQ Q) X := by
    walk_at "w"
    refine ixR_wp (j := 3) (hb _) rfl ?_
    walk_at "w"
    refine ⟨b, _, 3, rfl, rfl, hb _, by simp, ?_⟩
    rw [List.set_set]
    dsimp only [dz_set0, dz_set1]
    walk_at "w"
    refine ixR_wp (j := 2) (hb _) rfl ?_
    walk_at "w"
    refine ixR_wp (j := 3) (hb _) rfl ?_
    have n1 : (c1 : Int) * ((c : Int) + 1) = ((c1 * (c + 1) : Nat) : Int) := by simp
    have n2 : c1 * (c + 1) ≤ 100000000 * 1000000001 := Nat.mul_le_mul h1 (by omega)
    have n3 : (c3 : Int) * ((c : Int) + 1) = ((c3 * (c + 1) : Nat) : Int) := by simp
    have n4 : c3 * (c + 1) ≤ 1000000 * 1000000001 := Nat.mul_le_mul h3 (by omega)
    walk_at "w"
    rw [n1]
    generalize c1 * (c + 1) = y1 at n2
    refine op_pow (cpow_s (by omega) (by omega) (by omega)) ?_
    walk_at "w"
    have m0 : 0 ≤ ((m : Int) + (y1 : Int) + (c2 : Int)) ^ (5 : Int).toNat % 2147483647 := Int.emod_nonneg _ (by omega)
    have m1 : ((m : Int) + (y1 : Int) + (c2 : Int)) ^ (5 : Int).toNat % 2147483647 < 2147483647 := Int.emod_lt_of_pos _ (by omega)
    generalize ((m : Int) + (y1 : Int) + (c2 : Int)) ^ (5 : Int).toNat % 2147483647 = z at m0 m1
    walk_at "w"
    refine ixR_wp (j := 3) (hb _) rfl ?_
    walk_at "w"
    rw [n3]
    generalize c3 * (c + 1) = y3 at n4
    refine op_pow (cpow_s (by omega) (by omega) (by omega)) ?_
    walk_at "w"
    obtain ⟨d, d1, d2⟩ := fin ((z * 48271 + (y3 : Int)) ^ (3 : Int).toNat % 2147483587 / 64)
    rw [d2]
    exact q d _ d1 ⟨g, big, m, c + 1, rfl, hm, by omega⟩
  refine br_of (fun hbig => ?_) fun hbig => ?_
  · walk_at "w"
    refine ixR_wp (j := 0) (hb _) rfl ?_
    walk_at "w"
    apply br_dec <;> intro hg
    · walk_at "w"
      refine ixR_wp (j := 0) (hb _) rfl ?_
      walk_at "w"
      obtain ⟨d, d1, d2⟩ := fin g
      rw [d2]
      refine ixR_wp (j := 0) (hb _) rfl ?_
      walk_at "w"
      refine ⟨b, _, 0, rfl, rfl, hb _, by simp, ?_⟩
      rw [List.set_set]
      dsimp only [dz_set0, dz_set1]
      walk_at "w"
      exact q d _ d1 ⟨g / w, big, m, c, rfl, hm, by omega⟩
    · exact b_nil (nx_nx no)
  · exact br_ff (b_nil (nx_nx no))
end
end TW
set_option maxHeartbeats 4000000
namespace TW
open PySem
theorem set_get {S : Sto} {b : Nat} {ob : Ob} (h : (S : List Ob)[b]? = some ob) : (S : List Ob).set b ob = S := by
  have l := (List.getElem?_eq_some_iff.mp h)
  rw [← l.2]
  exact List.set_getElem_self l.1
/-- the law's box stands at b -/
def Bx (b K : Nat) (S : Sto) : Prop := ∃ ob, (S : List Ob)[b]? = some ob ∧ IsBox K ob
/-- nothing but b has changed -/
structure Ext (b : Nat) (S S' : Sto) : Prop where
  len : (S : List Ob).length ≤ (S' : List Ob).length
  at_ : ∀ i, i < (S : List Ob).length → i ≠ b → (S' : List Ob)[i]? = (S : List Ob)[i]?
theorem Bx.up {b K K2 : Nat} {S : Sto} (h : Bx b K S) (le : K ≤ K2) : Bx b K2 S := by
  obtain ⟨ob, h1, h2⟩ := h
  exact ⟨ob, h1, h2.up le⟩
theorem Bx.lt {b K : Nat} {S : Sto} (h : Bx b K S) : b < (S : List Ob).length := by
  obtain ⟨ob, h1, _⟩ := h
  exact (List.getElem?_eq_some_iff.mp h1).1
theorem Bx.set {b K : Nat} {S : Sto} {ob ob' : Ob} (h1 : (S : List Ob)[b]? = some ob) (hx : IsBox K ob') : Bx b K ((S : List Ob).set b ob') := ⟨ob', List.getElem?_set_self (List.getElem?_eq_some_iff.mp h1).1, hx⟩
theorem Bx.new {K : Nat} {S : Sto} {ob : Ob} (hx : IsBox K ob) : Bx (S : List Ob).length K ((S : List Ob) ++ [ob]) := ⟨ob, by simp, hx⟩
theorem Ext.refl {b : Nat} {S : Sto} : Ext b S S := ⟨Nat.le_refl _, fun _ _ _ => rfl⟩
theorem Ext.trans {b : Nat} {S S1 S2 : Sto} (h : Ext b S S1) (h2 : Ext b S1 S2) : Ext b S S2 := ⟨Nat.le_trans h.len h2.len, fun i l n => (h2.at_ i (Nat.lt_of_lt_of_le l h.len) n).trans (h.at_ i l n)⟩
theorem Ext.set {b : Nat} {S : Sto} {ob : Ob} : Ext b S ((S : List Ob).set b ob) := ⟨by rw [List.length_set]; exact Nat.le_refl _, fun i _ n => List.getElem?_set_ne (Ne.symm n)⟩
theorem Ext.app {b : Nat} {S : Sto} {xs : List Ob} : Ext b S ((S : List Ob) ++ xs) := ⟨by rw [List.length_append]; omega, fun i l _ => List.getElem?_append_left l⟩
theorem Ext.new {S : Sto} {ob : Ob} : Ext (S : List Ob).length S ((S : List Ob) ++ [ob]) := Ext.app
theorem Ext.put {b p : Nat} {S S' : Sto} {ob : Ob} (h : Ext b S S') (hp : (S : List Ob).length ≤ p) : Ext b S ((S' : List Ob).set p ob) := ⟨by rw [List.length_set]; exact h.len, fun i l n => by rw [List.getElem?_set_ne (by omega)]; exact h.at_ i l n⟩
theorem Ext.get {b i : Nat} {S S' : Sto} {o : Ob} (h : Ext b S S') (e : (S : List Ob)[i]? = some o) (n : i ≠ b) : (S' : List Ob)[i]? = some o := (h.at_ i (List.getElem?_eq_some_iff.mp e).1 n).trans e
theorem Bx.ext {b c K : Nat} {S S' : Sto} (h : Bx b K S) (e : Ext c S S') (n : b ≠ c) : Bx b K S' := by
  obtain ⟨ob, h1, h2⟩ := h
  exact ⟨ob, e.get h1 n, h2⟩
theorem Bx.app {b K : Nat} {S : Sto} {xs : List Ob} (h : Bx b K S) : Bx b K ((S : List Ob) ++ xs) := by
  obtain ⟨ob, h1, h2⟩ := h
  exact ⟨ob, by rw [List.getElem?_append_left (List.getElem?_eq_some_iff.mp h1).1]; exact h1, h2⟩
theorem Bx.put {b K i : Nat} {S : Sto} {o : Ob} (h : Bx b K S) (n : i ≠ b) : Bx b K ((S : List Ob).set i o) := by
  obtain ⟨ob, h1, h2⟩ := h
  exact ⟨ob, by rw [List.getElem?_set_ne n]; exact h1, h2⟩
end TW
section
set_option maxHeartbeats 0
open PySem PySem.W PySem.Calls PyProof.Rows
theorem k07_end (n : Nat) (hn : L2.Room (n + 3) callerA) (res : ∀ ns : List Int, ns.length ≤ 63 → ∃ st, (K07.L.pr n).F 43 [.fro (ns.map .int)] [] = .ok (.bl true) st) : PySem.Challenge.rw_thinwire_k07_courses_judged.Holds := by
  w_on; o_law
  refine HandSHeadRun.head_any (r := OpenLaw.row PySem.Challenge.rw_thinwire_k07_courses_judged) (q := view (OpenLaw.row PySem.Challenge.rw_thinwire_k07_courses_judged).prog [60]) (H := K07.hk) (ob := K07.ob) (M := 12000) (loose := K07.loose) (d := HandSHeadRun.topDef (OpenLaw.row PySem.Challenge.rw_thinwire_k07_courses_judged).prog 60) (kwd := []) K07.ob_eq
    (by kernel_rfl) (fun s => by kernel_rfl) K07.run (by kernel_rfl) (by kernel_rfl) (by kernel_rfl) (by rfl) (by first | assumption | decide +kernel) (by decide +kernel) ⟨rfl, rfl, rfl, rfl, rfl, by decide +kernel⟩ ?hw ?hc
  case hw => w_witness2
  case hc =>
    refine TW.walk_X (l := PySem.Challenge.rw_thinwire_k07_courses_judged) (n := 63) (k := n + 3) (x := "script") (CX := L2.CX (PySem.Challenge.rw_thinwire_k07_courses_judged).prog) rfl (by decide) (by kernel_rfl) hn ?F TW.cx_out
    intro w mg fa h Y G hmg0
    obtain ⟨K, KX, c, e, nl⟩ := Y
    have hmg : mg ("law" : PySem.Str) = some (.ref fa) := by
      have e : (HandSHeadRun.topDef (OpenLaw.row PySem.Challenge.rw_thinwire_k07_courses_judged).prog 60).name = ("law" : PySem.Str) := by kernel_rfl
      rw [← e]
      exact hmg0
    obtain ⟨fd, sp, h1, h2, h3⟩ := TW.law_all (P := (PySem.Challenge.rw_thinwire_k07_courses_judged).prog) (w := w) (x := K07.d_law) K07.lok rfl rfl rfl KX G hmg c e nl res
    exact ⟨K, fd, sp, KX, h1, h2, h3⟩
theorem k07_room : L2.Room (60 + 3) callerA := ⟨by decide +kernel, by decide +kernel, by decide +kernel⟩
end
set_option maxHeartbeats 4000000
namespace K07
open TW PySem
theorem u__wall {n : Nat} {a0 : Vl} {st : Sto} {Q : Vl → Sto → Prop} {X : XP} (h : (eb (L.pr n) b__wall [some (.val a0)] st).wp (rtQ Q) X) : ((L.pr (n + 1)).F f__wall [a0] st).wp Q X := by
  rw [prF (x := d__wall) rfl]
  exact run_wp h
theorem u_is_whole {n : Nat} {a0 : Vl} {st : Sto} {Q : Vl → Sto → Prop} {X : XP} (h : (eb (L.pr n) b_is_whole [some (.val a0)] st).wp (rtQ Q) X) : ((L.pr (n + 1)).F f_is_whole [a0] st).wp Q X := by
  rw [prF (x := d_is_whole) rfl]
  exact run_wp h
theorem u_is_between {n : Nat} {a0 a1 a2 : Vl} {st : Sto} {Q : Vl → Sto → Prop} {X : XP} (h : (eb (L.pr n) b_is_between [some (.val a0), some (.val a1), some (.val a2)] st).wp (rtQ Q) X) : ((L.pr (n + 1)).F f_is_between [a0, a1, a2] st).wp Q X := by
  rw [prF (x := d_is_between) rfl]
  exact run_wp h
theorem u_is_list {n : Nat} {a0 : Vl} {st : Sto} {Q : Vl → Sto → Prop} {X : XP} (h : (eb (L.pr n) b_is_list [some (.val a0)] st).wp (rtQ Q) X) : ((L.pr (n + 1)).F f_is_list [a0] st).wp Q X := by
  rw [prF (x := d_is_list) rfl]
  exact run_wp h
theorem u_is_list_of {n : Nat} {a0 a1 a2 : Vl} {st : Sto} {Q : Vl → Sto → Prop} {X : XP} (h : (eb (L.pr n) b_is_list_of [some (.val a0), some (.val a1), some (.val a2)] st).wp (rtQ Q) X) : ((L.pr (n + 1)).F f_is_list_of [a0, a1, a2] st).wp Q X := by
  rw [prF (x := d_is_list_of) rfl]
  exact run_wp h
theorem u_is_tuple_of {n : Nat} {a0 a1 : Vl} {st : Sto} {Q : Vl → Sto → Prop} {X : XP} (h : (eb (L.pr n) b_is_tuple_of [some (.val a0), some (.val a1)] st).wp (rtQ Q) X) : ((L.pr (n + 1)).F f_is_tuple_of [a0, a1] st).wp Q X := by
  rw [prF (x := d_is_tuple_of) rfl]
  exact run_wp h
theorem u_are_between {n : Nat} {a0 a1 a2 : Vl} {st : Sto} {Q : Vl → Sto → Prop} {X : XP} (h : (eb (L.pr n) b_are_between [some (.val a0), some (.val a1), some (.val a2), none] st).wp (rtQ Q) X) : ((L.pr (n + 1)).F f_are_between [a0, a1, a2] st).wp Q X := by
  rw [prF (x := d_are_between) rfl]
  exact run_wp h
theorem u_is_ascending {n : Nat} {a0 : Vl} {st : Sto} {Q : Vl → Sto → Prop} {X : XP} (h : (eb (L.pr n) b_is_ascending [some (.val a0), none] st).wp (rtQ Q) X) : ((L.pr (n + 1)).F f_is_ascending [a0] st).wp Q X := by
  rw [prF (x := d_is_ascending) rfl]
  exact run_wp h
theorem u_is_states {n : Nat} {a0 a1 : Vl} {st : Sto} {Q : Vl → Sto → Prop} {X : XP} (h : (eb (L.pr n) b_is_states [some (.val a0), some (.val a1)] st).wp (rtQ Q) X) : ((L.pr (n + 1)).F f_is_states [a0, a1] st).wp Q X := by
  rw [prF (x := d_is_states) rfl]
  exact run_wp h
theorem u_is_some_states {n : Nat} {a0 a1 : Vl} {st : Sto} {Q : Vl → Sto → Prop} {X : XP} (h : (eb (L.pr n) b_is_some_states [some (.val a0), some (.val a1)] st).wp (rtQ Q) X) : ((L.pr (n + 1)).F f_is_some_states [a0, a1] st).wp Q X := by
  rw [prF (x := d_is_some_states) rfl]
  exact run_wp h
theorem u_is_sights {n : Nat} {a0 a1 a2 : Vl} {st : Sto} {Q : Vl → Sto → Prop} {X : XP} (h : (eb (L.pr n) b_is_sights [some (.val a0), some (.val a1), some (.val a2)] st).wp (rtQ Q) X) : ((L.pr (n + 1)).F f_is_sights [a0, a1, a2] st).wp Q X := by
  rw [prF (x := d_is_sights) rfl]
  exact run_wp h
theorem u_check_begin_of {n : Nat} {a0 a1 : Vl} {st : Sto} {Q : Vl → Sto → Prop} {X : XP} (h : (eb (L.pr n) b_check_begin_of [some (.val a0), some (.val a1)] st).wp (rtQ Q) X) : ((L.pr (n + 1)).F f_check_begin_of [a0, a1] st).wp Q X := by
  rw [prF (x := d_check_begin_of) rfl]
  exact run_wp h
theorem u_is_steps {n : Nat} {a0 a1 a2 a3 : Vl} {st : Sto} {Q : Vl → Sto → Prop} {X : XP} (h : (eb (L.pr n) b_is_steps [some (.val a0), some (.val a1), some (.val a2), some (.val a3), none, none, none] st).wp (rtQ Q) X) : ((L.pr (n + 1)).F f_is_steps [a0, a1, a2, a3] st).wp Q X := by
  rw [prF (x := d_is_steps) rfl]
  exact run_wp h
theorem u_check_begin {n : Nat} {a0 a1 : Vl} {st : Sto} {Q : Vl → Sto → Prop} {X : XP} (h : (eb (L.pr n) b_check_begin [some (.val a0), some (.val a1)] st).wp (rtQ Q) X) : ((L.pr (n + 1)).F f_check_begin [a0, a1] st).wp Q X := by
  rw [prF (x := d_check_begin) rfl]
  exact run_wp h
theorem u_is_entry {n : Nat} {a0 a1 : Vl} {st : Sto} {Q : Vl → Sto → Prop} {X : XP} (h : (eb (L.pr n) b_is_entry [some (.val a0), some (.val a1), none, none, none] st).wp (rtQ Q) X) : ((L.pr (n + 1)).F f_is_entry [a0, a1] st).wp Q X := by
  rw [prF (x := d_is_entry) rfl]
  exact run_wp h
theorem u_cell_behind {n : Nat} {a0 a1 : Vl} {st : Sto} {Q : Vl → Sto → Prop} {X : XP} (h : (eb (L.pr n) b_cell_behind [some (.val a0), some (.val a1), none, none, none] st).wp (rtQ Q) X) : ((L.pr (n + 1)).F f_cell_behind [a0, a1] st).wp Q X := by
  rw [prF (x := d_cell_behind) rfl]
  exact run_wp h
theorem u_goes_on {n : Nat} {a0 a1 a2 : Vl} {st : Sto} {Q : Vl → Sto → Prop} {X : XP} (h : (eb (L.pr n) b_goes_on [some (.val a0), some (.val a1), some (.val a2), none] st).wp (rtQ Q) X) : ((L.pr (n + 1)).F f_goes_on [a0, a1, a2] st).wp Q X := by
  rw [prF (x := d_goes_on) rfl]
  exact run_wp h
theorem u_check_course {n : Nat} {a0 a1 a2 : Vl} {st : Sto} {Q : Vl → Sto → Prop} {X : XP} (h : (eb (L.pr n) b_check_course [some (.val a0), some (.val a1), some (.val a2)] st).wp (rtQ Q) X) : ((L.pr (n + 1)).F f_check_course [a0, a1, a2] st).wp Q X := by
  rw [prF (x := d_check_course) rfl]
  exact run_wp h
theorem u_all_states {n : Nat} {a0 : Vl} {st : Sto} {Q : Vl → Sto → Prop} {X : XP} (h : (eb (L.pr n) b_all_states [some (.val a0)] st).wp (rtQ Q) X) : ((L.pr (n + 1)).F f_all_states [a0] st).wp Q X := by
  rw [prF (x := d_all_states) rfl]
  exact run_wp h
theorem u_starts_behind {n : Nat} {a0 a1 a2 : Vl} {st : Sto} {Q : Vl → Sto → Prop} {X : XP} (h : (eb (L.pr n) b_starts_behind [some (.val a0), some (.val a1), some (.val a2)] st).wp (rtQ Q) X) : ((L.pr (n + 1)).F f_starts_behind [a0, a1, a2] st).wp Q X := by
  rw [prF (x := d_starts_behind) rfl]
  exact run_wp h
theorem u_is_course {n : Nat} {a0 a1 a2 : Vl} {st : Sto} {Q : Vl → Sto → Prop} {X : XP} (h : (eb (L.pr n) b_is_course [some (.val a0), some (.val a1), some (.val a2)] st).wp (rtQ Q) X) : ((L.pr (n + 1)).F f_is_course [a0, a1, a2] st).wp Q X := by
  rw [prF (x := d_is_course) rfl]
  exact run_wp h
theorem u_is_broken {n : Nat} {a0 a1 : Vl} {st : Sto} {Q : Vl → Sto → Prop} {X : XP} (h : (eb (L.pr n) b_is_broken [some (.val a0), some (.val a1), none] st).wp (rtQ Q) X) : ((L.pr (n + 1)).F f_is_broken [a0, a1] st).wp Q X := by
  rw [prF (x := d_is_broken) rfl]
  exact run_wp h
theorem u_may_follow {n : Nat} {a0 a1 a2 : Vl} {st : Sto} {Q : Vl → Sto → Prop} {X : XP} (h : (eb (L.pr n) b_may_follow [some (.val a0), some (.val a1), some (.val a2), none] st).wp (rtQ Q) X) : ((L.pr (n + 1)).F f_may_follow [a0, a1, a2] st).wp Q X := by
  rw [prF (x := d_may_follow) rfl]
  exact run_wp h
theorem u__law_cell {n : Nat} {a0 a1 : Vl} {st : Sto} {Q : Vl → Sto → Prop} {X : XP} (h : (eb (L.pr n) b__law_cell [some (.val a0), some (.val a1)] st).wp (rtQ Q) X) : ((L.pr (n + 1)).F f__law_cell [a0, a1] st).wp Q X := by
  rw [prF (x := d__law_cell) rfl]
  exact run_wp h
theorem u__law_box {n : Nat} {a0 : Vl} {st : Sto} {Q : Vl → Sto → Prop} {X : XP} (h : (eb (L.pr n) b__law_box [some (.val a0)] st).wp (rtQ Q) X) : ((L.pr (n + 1)).F f__law_box [a0] st).wp Q X := by
  rw [prF (x := d__law_box) rfl]
  exact run_wp h
theorem u__law_take {n : Nat} {a0 a1 : Vl} {st : Sto} {Q : Vl → Sto → Prop} {X : XP} (h : (eb (L.pr n) b__law_take [some (.val a0), some (.val a1), none, none] st).wp (rtQ Q) X) : ((L.pr (n + 1)).F f__law_take [a0, a1] st).wp Q X := by
  rw [prF (x := d__law_take) rfl]
  exact run_wp h
theorem u__law_same {n : Nat} {a0 a1 : Vl} {st : Sto} {Q : Vl → Sto → Prop} {X : XP} (h : (eb (L.pr n) b__law_same [some (.val a0), some (.val a1), none] st).wp (rtQ Q) X) : ((L.pr (n + 1)).F f__law_same [a0, a1] st).wp Q X := by
  rw [prF (x := d__law_same) rfl]
  exact run_wp h
theorem u__law_is_number {n : Nat} {a0 a1 a2 : Vl} {st : Sto} {Q : Vl → Sto → Prop} {X : XP} (h : (eb (L.pr n) b__law_is_number [some (.val a0), some (.val a1), some (.val a2)] st).wp (rtQ Q) X) : ((L.pr (n + 1)).F f__law_is_number [a0, a1, a2] st).wp Q X := by
  rw [prF (x := d__law_is_number) rfl]
  exact run_wp h
theorem u__law_works {n : Nat} {a0 a1 a2 a3 a4 a5 : Vl} {st : Sto} {Q : Vl → Sto → Prop} {X : XP} (h : (eb (L.pr n) b__law_works [some (.val a0), some (.val a1), some (.val a2), some (.val a3), some (.val a4), some (.val a5), none, none, none, none, none, none, none, none] st).wp (rtQ Q) X) : ((L.pr (n + 1)).F f__law_works [a0, a1, a2, a3, a4, a5] st).wp Q X := by
  rw [prF (x := d__law_works) rfl]
  exact run_wp h
theorem u__law_wide {n : Nat} {a0 : Vl} {st : Sto} {Q : Vl → Sto → Prop} {X : XP} (h : (eb (L.pr n) b__law_wide [some (.val a0), none, none, none, none, none, none, none, none, none] st).wp (rtQ Q) X) : ((L.pr (n + 1)).F f__law_wide [a0] st).wp Q X := by
  rw [prF (x := d__law_wide) rfl]
  exact run_wp h
theorem u__law_made {n : Nat} {a0 : Vl} {st : Sto} {Q : Vl → Sto → Prop} {X : XP} (h : (eb (L.pr n) b__law_made [some (.val a0), none, none] st).wp (rtQ Q) X) : ((L.pr (n + 1)).F f__law_made [a0] st).wp Q X := by
  rw [prF (x := d__law_made) rfl]
  exact run_wp h
theorem u__law_is_course {n : Nat} {a0 a1 a2 : Vl} {st : Sto} {Q : Vl → Sto → Prop} {X : XP} (h : (eb (L.pr n) b__law_is_course [some (.val a0), some (.val a1), some (.val a2), none, none, none, none, none, none] st).wp (rtQ Q) X) : ((L.pr (n + 1)).F f__law_is_course [a0, a1, a2] st).wp Q X := by
  rw [prF (x := d__law_is_course) rfl]
  exact run_wp h
theorem u__law_codes {n : Nat} {a0 a1 a2 : Vl} {st : Sto} {Q : Vl → Sto → Prop} {X : XP} (h : (eb (L.pr n) b__law_codes [some (.val a0), some (.val a1), some (.val a2), none] st).wp (rtQ Q) X) : ((L.pr (n + 1)).F f__law_codes [a0, a1, a2] st).wp Q X := by
  rw [prF (x := d__law_codes) rfl]
  exact run_wp h
theorem u__law_walked {n : Nat} {a0 a1 a2 a3 a4 : Vl} {st : Sto} {Q : Vl → Sto → Prop} {X : XP} (h : (eb (L.pr n) b__law_walked [some (.val a0), some (.val a1), some (.val a2), some (.val a3), some (.val a4), none, none, none, none, none, none, none, none] st).wp (rtQ Q) X) : ((L.pr (n + 1)).F f__law_walked [a0, a1, a2, a3, a4] st).wp Q X := by
  rw [prF (x := d__law_walked) rfl]
  exact run_wp h
theorem u__law_bools {n : Nat} {a0 : Vl} {st : Sto} {Q : Vl → Sto → Prop} {X : XP} (h : (eb (L.pr n) b__law_bools [some (.val a0), none] st).wp (rtQ Q) X) : ((L.pr (n + 1)).F f__law_bools [a0] st).wp Q X := by
  rw [prF (x := d__law_bools) rfl]
  exact run_wp h
theorem u__law_spoilt {n : Nat} {a0 a1 a2 : Vl} {st : Sto} {Q : Vl → Sto → Prop} {X : XP} (h : (eb (L.pr n) b__law_spoilt [some (.val a0), some (.val a1), some (.val a2), none, none, none, none, none, none, none, none, none, none, none, none, none] st).wp (rtQ Q) X) : ((L.pr (n + 1)).F f__law_spoilt [a0, a1, a2] st).wp Q X := by
  rw [prF (x := d__law_spoilt) rfl]
  exact run_wp h
theorem u__law_told {n : Nat} {a0 a1 a2 a3 a4 : Vl} {st : Sto} {Q : Vl → Sto → Prop} {X : XP} (h : (eb (L.pr n) b__law_told [some (.val a0), some (.val a1), some (.val a2), some (.val a3), some (.val a4), none] st).wp (rtQ Q) X) : ((L.pr (n + 1)).F f__law_told [a0, a1, a2, a3, a4] st).wp Q X := by
  rw [prF (x := d__law_told) rfl]
  exact run_wp h
theorem u__law_answer_right {n : Nat} {a0 a1 a2 a3 a4 a5 : Vl} {st : Sto} {Q : Vl → Sto → Prop} {X : XP} (h : (eb (L.pr n) b__law_answer_right [some (.val a0), some (.val a1), some (.val a2), some (.val a3), some (.val a4), some (.val a5), none, none] st).wp (rtQ Q) X) : ((L.pr (n + 1)).F f__law_answer_right [a0, a1, a2, a3, a4, a5] st).wp Q X := by
  rw [prF (x := d__law_answer_right) rfl]
  exact run_wp h
theorem u__law_value_right {n : Nat} {a0 a1 a2 a3 a4 : Vl} {st : Sto} {Q : Vl → Sto → Prop} {X : XP} (h : (eb (L.pr n) b__law_value_right [some (.val a0), some (.val a1), some (.val a2), some (.val a3), some (.val a4), none, none, none, none, none, none] st).wp (rtQ Q) X) : ((L.pr (n + 1)).F f__law_value_right [a0, a1, a2, a3, a4] st).wp Q X := by
  rw [prF (x := d__law_value_right) rfl]
  exact run_wp h
theorem u__law_begins_right {n : Nat} {a0 a1 a2 a3 a4 : Vl} {st : Sto} {Q : Vl → Sto → Prop} {X : XP} (h : (eb (L.pr n) b__law_begins_right [some (.val a0), some (.val a1), some (.val a2), some (.val a3), some (.val a4), none, none, none, none, none] st).wp (rtQ Q) X) : ((L.pr (n + 1)).F f__law_begins_right [a0, a1, a2, a3, a4] st).wp Q X := by
  rw [prF (x := d__law_begins_right) rfl]
  exact run_wp h
theorem u__law_begin {n : Nat} {a0 a1 : Vl} {st : Sto} {Q : Vl → Sto → Prop} {X : XP} (h : (eb (L.pr n) b__law_begin [some (.val a0), some (.val a1), none, none] st).wp (rtQ Q) X) : ((L.pr (n + 1)).F f__law_begin [a0, a1] st).wp Q X := by
  rw [prF (x := d__law_begin) rfl]
  exact run_wp h
theorem u__law_works_right {n : Nat} {a0 a1 a2 a3 a4 a5 : Vl} {st : Sto} {Q : Vl → Sto → Prop} {X : XP} (h : (eb (L.pr n) b__law_works_right [some (.val a0), some (.val a1), some (.val a2), some (.val a3), some (.val a4), some (.val a5), none, none, none, none, none] st).wp (rtQ Q) X) : ((L.pr (n + 1)).F f__law_works_right [a0, a1, a2, a3, a4, a5] st).wp Q X := by
  rw [prF (x := d__law_works_right) rfl]
  exact run_wp h
theorem u__law_long_right {n : Nat} {a0 a1 a2 a3 a4 : Vl} {st : Sto} {Q : Vl → Sto → Prop} {X : XP} (h : (eb (L.pr n) b__law_long_right [some (.val a0), some (.val a1), some (.val a2), some (.val a3), some (.val a4), none, none, none, none, none, none] st).wp (rtQ Q) X) : ((L.pr (n + 1)).F f__law_long_right [a0, a1, a2, a3, a4] st).wp Q X := by
  rw [prF (x := d__law_long_right) rfl]
  exact run_wp h
theorem u_law {n : Nat} {a0 : Vl} {st : Sto} {Q : Vl → Sto → Prop} {X : XP} (h : (eb (L.pr n) b_law [some (.val a0), none, none, none, none, none, none, none, none, none, none, none, none, none, none] st).wp (rtQ Q) X) : ((L.pr (n + 1)).F f_law [a0] st).wp Q X := by
  rw [prF (x := d_law) rfl]
  exact run_wp h
theorem ui_Works {n : Nat} {a0 a1 a2 a3 : Vl} {st : Sto} {Q : List Vl → Sto → Prop} {X : XP} (h : (eb (L.pr n) b_Works_init [some (.own (.ins 0 [])), some (.val a0), some (.val a1), some (.val a2), some (.val a3), none, none] st).wp (inQ 0 4 Q) X) : ((L.pr (n + 2)).I c_Works [a0, a1, a2, a3] st).wp Q X := by
  rw [prI (x := d_Works_init) rfl]
  exact runI_wp h
theorem ue_Works {n : Nat} {a0 a1 : Vl} {st : Sto} {Q : Vl → Sto → Prop} {X : XP} (h : (eb (L.pr n) b_Works_eq [some (.val a0), some (.val a1)] st).wp (rtQ Q) X) : ((L.pr (n + 2)).Q c_Works [a0, a1] st).wp Q X := by
  rw [prQ (x := d_Works_eq) rfl]
  exact run_wp h
theorem cell_wp {n k : Nat} {ns : List Int} {S : Sto} {Q : Vl → Sto → Prop} {X : XP} (hk : k ≤ 1000) (q : ∀ v : Int, Q (.int v) S) : ((L.pr (n + 1)).F f__law_cell [.fro (ns.map .int), .int (k : Int)] S).wp Q X := by
  rw [prF (x := d__law_cell) rfl]
  exact cell_gen hk q
theorem box_wp {n : Nat} {g : Int} {S : Sto} {Q : Vl → Sto → Prop} {X : XP} (q : ∀ S' : Sto, Bx (S : List Ob).length 0 S' → Ext (S : List Ob).length S S' → Q (.ref (S : List Ob).length) S') : ((L.pr (n + 1)).F f__law_box [.int g] S).wp Q X := by
  rw [prF (x := d__law_box) rfl]
  exact box_gen fun ob h => q _ (Bx.new h) Ext.new
theorem take_wp {n b K w : Nat} {S : Sto} {Q : Vl → Sto → Prop} {X : XP} (hB : Bx b K S) (hK : K ≤ 1000000000) (hw : 0 < w) (hw2 : w < 1000000) (q : ∀ (d : Nat) (S' : Sto), d < w → Bx b (K + 1) S' → Ext b S S' → Q (.int (d : Int)) S') : ((L.pr (n + 1)).F f__law_take [.ref b, .int (w : Int)] S).wp Q X := by
  rw [prF (x := d__law_take) rfl]
  obtain ⟨ob, h1, h2⟩ := hB
  rw [← set_get h1]
  exact take_gen (c1 := 15485927) (c2 := 179424929) (c3 := 104729) (by omega) (by omega) (by omega) (List.getElem?_eq_some_iff.mp h1).1 h2 hK hw hw2 fun d ob' hd hx => q d _ hd (Bx.set h1 hx) Ext.set
theorem same_wp {k n : Nat} {v w : Vl} {st : Sto} {Q : Vl → Sto → Prop} {X : XP} (h : Alike true st k v w) (hk : k < n) (q : Q (.bl true) st) : ((L.pr n).F f__law_same [v, w] st).wp Q X :=
  same_gen (P := L.pr) (d := true) (j := f__law_same) (fun n => prF (x := d__law_same) rfl) n h hk q
end K07
set_option maxHeartbeats 4000000
namespace K07
open TW PySem
/-- the value's kind is known -/
def Tgd (v : Vl) (st : Sto) : Prop := ∃ t, tgOf L.nm.cls.length v st = some t
theorem Tgd.of {k : Nat} {v : Vl} {st : Sto} (h : Pure k v) : Tgd v st := by cases h <;> exact ⟨_, rfl⟩
theorem Tgd.ref {b : Nat} {xs : List Vl} {st : Sto} (h : (st : List Ob)[b]? = some (.lst xs)) : Tgd (.ref b) st := ⟨.list, by unfold tgOf; dsimp only; rw [h]⟩
theorem tgd_tup {xs : List Vl} {st : Sto} : Tgd (.tup xs) st := ⟨_, rfl⟩
theorem tgd_lst {xs : List Vl} {st : Sto} : Tgd (.lst xs) st := ⟨_, rfl⟩
theorem tgd_int {i : Int} {st : Sto} : Tgd (.int i) st := ⟨_, rfl⟩
def isI : Vl → Bool
  | .int _ => true
  | _ => false
def btw (v : Vl) (lo hi : Int) : Bool := match v with
  | .int i => decide (lo ≤ i) && decide (i ≤ hi)
  | _ => false
theorem btw_int {i lo hi : Int} : btw (.int i) lo hi = (decide (lo ≤ i) && decide (i ≤ hi)) := rfl
theorem btw_ex {v : Vl} {lo hi : Int} (h : btw v lo hi = true) : ∃ i, v = .int i ∧ lo ≤ i ∧ i ≤ hi := by
  unfold btw at h
  split at h
  · rename_i i
    rw [Bool.and_eq_true, decide_eq_true_eq, decide_eq_true_eq] at h
    exact ⟨i, rfl, h.1, h.2⟩
  · cases h
section
variable {n : Nat} {v : Vl} {st : Sto} {Q : Vl → Sto → Prop} {X : XP} {lo hi : Int} {xs : List Vl}
theorem is_whole_wp (ht : Tgd v st) (q : Q (.bl (isI v)) st) : ((L.pr (n + 1)).F f_is_whole [v] st).wp Q X := by
  obtain ⟨t, ht⟩ := ht
  have kind : tgSub t .int = (isI v || tgSub t .bool) ∧ (isI v = true → tgSub t .bool = false) := by
    unfold tgOf at ht
    split at ht <;> first
      | (cases ht; exact ⟨rfl, fun _ => rfl⟩)
      | (cases ht; exact ⟨rfl, fun h => nomatch h⟩)
      | (split at ht <;> first | (cases ht; done) | (cases ht; exact ⟨rfl, fun h => nomatch h⟩) | (split at ht <;> first | (cases ht; done) | (cases ht; exact ⟨rfl, fun h => nomatch h⟩)))
  refine u_is_whole ?_
  unfold b_is_whole
  walk_at "w"
  refine tg_by (by rw [pr_ncls]; exact ht) ?_
  have e1 : ([Tg.int].any fun u => tgSub t u) = (isI v || tgSub t .bool) := by
    show (tgSub t .int || false) = _
    rw [Bool.or_false]
    exact kind.1
  rw [e1]
  walk_at "w"
  cases hi : isI v with
  | true =>
    walk_at "w"
    refine br_T rfl ?_
    walk_at "w"
    refine tg_by (by rw [pr_ncls]; exact ht) ?_
    have e2 : ([Tg.bool].any fun u => tgSub t u) = false := by
      show (tgSub t .bool || false) = _
      rw [Bool.or_false]
      exact kind.2 hi
    rw [e2]
    walk_at "w"
    rw [hi] at q
    exact q
  | false =>
    rw [hi] at q
    refine br_of (fun e => ?_) fun e => ?_
    · walk_at "w"
      refine tg_by (by rw [pr_ncls]; exact ht) ?_
      have e2 : ([Tg.bool].any fun u => tgSub t u) = true := by
        show (tgSub t .bool || false) = _
        rw [Bool.or_false]
        simpa using e
      rw [e2]
      walk_at "w"
      exact q
    · walk_at "w"
      rw [e]
      exact q
theorem is_between_wp (ht : Tgd v st) (q : Q (.bl (btw v lo hi)) st) : ((L.pr (n + 2)).F f_is_between [v, .int lo, .int hi] st).wp Q X := by
  refine u_is_between ?_
  unfold b_is_between
  walk_at "w"
  refine is_whole_wp ht ?_
  walk_at "w"
  cases e : isI v with
  | false =>
    have : btw v lo hi = false := by
      unfold btw
      cases v <;> first | rfl | (cases e; done)
    rw [this] at q
    walk_at "w"
    exact q
  | true =>
    obtain ⟨i, rfl⟩ : ∃ i, v = .int i := by
      cases v <;> first | exact ⟨_, rfl⟩ | (cases e; done)
    rw [btw_int] at q
    walk_at "w"
    apply br_dec <;> intro h
    · walk_at "w"
      rw [decide_eq_true h, Bool.true_and] at q
      exact q
    · rw [decide_eq_false h, Bool.false_and] at q
      walk_at "w"
      exact q
theorem is_list_wp {t : Tg} (ht : tgOf L.nm.cls.length v st = some t) (q : Q (.bl (decide (t = .list ∨ t = .tuple))) st) : ((L.pr (n + 1)).F f_is_list [v] st).wp Q X := by
  refine u_is_list ?_
  unfold b_is_list
  walk_at "w"
  refine tg_by (by rw [pr_ncls]; exact ht) ?_
  walk_at "w"
  have : ([Tg.list, Tg.tuple].any fun u => tgSub t u) = decide (t = .list ∨ t = .tuple) := by
    show (tgSub t .list || (tgSub t .tuple || false)) = _
    cases t <;> simp [tgSub]
  rw [this]
  exact q
theorem is_list_of_wp (h : SeqV v st xs) (ht : tgOf L.nm.cls.length v st = some .list ∨ tgOf L.nm.cls.length v st = some .tuple) (q : Q (.bl (decide (lo ≤ (xs.length : Int)) && decide ((xs.length : Int) ≤ hi))) st) : ((L.pr (n + 2)).F f_is_list_of [v, .int lo, .int hi] st).wp Q X := by
  refine u_is_list_of ?_
  unfold b_is_list_of
  walk_at "w"
  have k : ∀ {Q : Vl → Sto → Prop}, Q (.bl true) st → ((L.pr (n + 1)).F f_is_list [v] st).wp Q X := fun q => by
    rcases ht with h | h
    · exact is_list_wp h q
    · exact is_list_wp h q
  refine k ?_
  walk_at "w"
  refine len_wp h.len ?_
  walk_at "w"
  apply br_dec <;> intro h
  · rw [decide_eq_true h, Bool.true_and] at q
    walk_at "w"
    exact q
  · rw [decide_eq_false h, Bool.false_and] at q
    walk_at "w"
    exact q
theorem is_list_of_no {t : Tg} (ht : tgOf L.nm.cls.length v st = some t) (h : t ≠ .list ∧ t ≠ .tuple) (q : Q (.bl false) st) : ((L.pr (n + 2)).F f_is_list_of [v, .int lo, .int hi] st).wp Q X := by
  refine u_is_list_of ?_
  unfold b_is_list_of
  walk_at "w"
  refine is_list_wp ht ?_
  rw [decide_eq_false (by rintro (e | e); exact h.1 e; exact h.2 e)]
  walk_at "w"
  exact q
def tupN (v : Vl) (m : Nat) : Bool := match v with
  | .tup xs => decide (xs.length = m)
  | _ => false
theorem tupN_ex {v : Vl} {m : Nat} (h : tupN v m = true) : ∃ xs, v = .tup xs ∧ xs.length = m := by
  unfold tupN at h
  split at h
  · exact ⟨_, rfl, of_decide_eq_true h⟩
  · cases h
theorem is_tuple_of_wp {m : Nat} (ht : Tgd v st) (q : Q (.bl (tupN v m)) st) : ((L.pr (n + 1)).F f_is_tuple_of [v, .int (m : Int)] st).wp Q X := by
  obtain ⟨t, ht⟩ := ht
  refine u_is_tuple_of ?_
  unfold b_is_tuple_of
  walk_at "w"
  refine tg_by (by rw [pr_ncls]; exact ht) ?_
  by_cases e : t = .tuple
  · subst e
    obtain ⟨xs, rfl⟩ : ∃ xs, v = .tup xs := by
      unfold tgOf at ht
      split at ht <;> first
        | exact ⟨_, rfl⟩
        | (cases ht; done)
        | (split at ht <;> first | (cases ht; done) | (split at ht <;> (cases ht; done)))
    walk_at "w"
    have : decide ((xs.length : Int) = (m : Int)) = tupN (.tup xs) m := by
      unfold tupN
      rw [decide_eq_decide]
      omega
    rw [this]
    exact q
  · have e2 : ([Tg.tuple].any fun u => tgSub t u) = false := by
      show (tgSub t .tuple || false) = _
      cases t <;> first | rfl | (exact absurd rfl e)
    have e3 : tupN v m = false := by
      cases v <;> first | rfl | (unfold tgOf at ht; dsimp only at ht; cases ht; exact absurd rfl e)
    rw [e2]
    rw [e3] at q
    walk_at "w"
    exact q
/-- of what is told to ascend -/
theorem is_ascending_true (h : SeqV v st xs) (hn : xs.length ≤ 100000) (asc : ∀ (j : Nat) (y z : Vl), xs[j]? = some y → xs[j + 1]? = some z → kLt y z st = some true) (q : Q (.bl true) st) : ((L.pr (n + 1)).F f_is_ascending [v] st).wp Q X := by
  refine u_is_ascending ?_
  unfold b_is_ascending
  walk_at "w"
  refine len_wp h.len ?_
  walk_at "w"
  have e : rngL 0 ((xs.length : Int) - 1).toNat = (List.range (xs.length - 1)).map fun i : Nat => Vl.int (i : Int) := by
    rw [show ((xs.length : Int) - 1).toNat = xs.length - 1 by omega, rngL_nat]
  rw [e]
  refine compM_wp (fun i : Nat => Vl.int (i : Int)) (List.range (xs.length - 1)) (fun _ => .bl true) rfl src_ok_nil (fun i hi => ?_) ?_
  · have il := List.mem_range.mp hi
    have g1 : xs[i]? = some (xs[i]'(by omega)) := List.getElem?_eq_getElem _
    have g2 : xs[i + 1]? = some (xs[i + 1]'(by omega)) := List.getElem?_eq_getElem _
    refine set_by rfl ?_
    walk_at "w"
    refine ix_wp i h.s h.q g1 ?_
    walk_at "w"
    rw [show ((i : Int) + 1) = ((i + 1 : Nat) : Int) by omega]
    refine ix_wp (i + 1) h.s h.q g2 ?_
    walk_at "w"
    exact cm_by (o := .lt) (asc i _ _ g1 g2) ⟨rfl, rfl⟩
  · walk_at "w"
    refine all_wp ?_
    walk_at "w"
    rw [show ((List.range (xs.length - 1)).all fun _ => true) = true by simp]
    exact q
theorem asc_ints {ns : List Int} (h : ∀ (j : Nat) (a b : Int), ns[j]? = some a → ns[j + 1]? = some b → a < b) : ∀ (j : Nat) (y z : Vl), (ns.map Vl.int)[j]? = some y → (ns.map Vl.int)[j + 1]? = some z → kLt y z st = some true := fun j y z h1 h2 => by
  rw [List.getElem?_map] at h1 h2
  obtain ⟨a, ha, rfl⟩ := Option.map_eq_some_iff.mp h1
  obtain ⟨b, hb, rfl⟩ := Option.map_eq_some_iff.mp h2
  simp [kLt, h j a b ha hb]
end
end K07
set_option maxHeartbeats 4000000
namespace TW
open PySem
theorem drawn_some : ∀ {l : List Nat} {os : List (Option Vl)}, os.length = l.length → (∀ (k : Nat) (a : Nat) (o : Option Vl), l[k]? = some a → os[k]? = some o → o = none ∨ o = some (.int (a : Int))) →
    ∃ s : List Nat, s.Sublist l ∧ os.filterMap id = s.map (fun a : Nat => Vl.int (a : Int)) ∧ ∀ (k a : Nat), l[k]? = some a → os[k]? = some (some (.int (a : Int))) → a ∈ s
  | [], os, hl, _ => ⟨[], List.Sublist.refl _, by rw [List.length_eq_zero_iff.mp hl]; rfl, fun k a h => by simp at h⟩
  | a :: l, [], hl, _ => by simp at hl
  | a :: l, o :: os, hl, h => by
    obtain ⟨s, h1, h2, h3⟩ := drawn_some (l := l) (os := os) (by simpa using hl) fun k b o hb ho => h (k + 1) b o (by simpa using hb) (by simpa using ho)
    rcases h 0 a o rfl rfl with rfl | rfl
    · refine ⟨s, h1.cons a, by simpa using h2, fun k b hb ho => ?_⟩
      cases k with
      | zero => simp at ho
      | succ k => exact h3 k b (by simpa using hb) (by simpa using ho)
    · refine ⟨a :: s, h1.cons₂ a, by simpa using h2, fun k b hb ho => ?_⟩
      cases k with
      | zero => simp at hb; subst hb; exact List.mem_cons_self
      | succ k => exact List.mem_cons_of_mem _ (h3 k b (by simpa using hb) (by simpa using ho))
theorem drawn_pairs {S : Nat} : ∀ {l : List Nat} {vs : List Vl}, vs.length = l.length → (∀ (k a : Nat) (v : Vl), l[k]? = some a → vs[k]? = some v → ∃ t : Nat, t < S ∧ v = .tup [.int (a : Int), .int (t : Int)]) →
    ∃ c : List (Nat × Nat), vs = c.map (fun p => Vl.tup [.int (p.1 : Int), .int (p.2 : Int)]) ∧ c.map (·.1) = l ∧ ∀ p ∈ c, p.2 < S
  | [], vs, hl, _ => ⟨[], List.length_eq_zero_iff.mp hl, rfl, fun p hp => by cases hp⟩
  | a :: l, [], hl, _ => by simp at hl
  | a :: l, v :: vs, hl, h => by
    obtain ⟨c, h1, h2, h3⟩ := drawn_pairs (S := S) (l := l) (vs := vs) (by simpa using hl) fun k b w hb hw => h (k + 1) b w (by simpa using hb) (by simpa using hw)
    obtain ⟨t, ht, rfl⟩ := h 0 a v rfl rfl
    exact ⟨(a, t) :: c, by rw [h1]; rfl, by rw [List.map_cons, h2], fun p hp => by
      rcases List.mem_cons.mp hp with rfl | hp
      · exact ht
      · exact h3 p hp⟩
theorem asc_of_pairwise {c : List (Nat × Nat)} (h : (c.map (·.1)).Pairwise (· < ·)) : ∀ (j : Nat) (a b : Nat × Nat), c[j]? = some a → c[j + 1]? = some b → a.1 < b.1 := by
  intro j a b ha hb
  have la := (List.getElem?_eq_some_iff.mp ha)
  have lb := (List.getElem?_eq_some_iff.mp hb)
  have := List.pairwise_iff_getElem.mp h j (j + 1) (by rw [List.length_map]; exact la.1) (by rw [List.length_map]; exact lb.1) (by omega)
  rw [List.getElem_map, List.getElem_map, la.2, lb.2] at this
  exact this
theorem range_sub {n : Nat} {s : List Nat} (h : s.Sublist (List.range n)) : s.Pairwise (· < ·) ∧ (∀ a ∈ s, a < n) ∧ s.length ≤ n := by
  refine ⟨List.Pairwise.sublist h List.pairwise_lt_range, fun a ha => List.mem_range.mp (h.subset ha), ?_⟩
  have := h.length_le
  simpa using this
end TW
set_option maxHeartbeats 1600000
namespace TW
open PySem L2
theorem ints_map : ∀ ns : List Int, intsOf (ns.map Vl.int) = some ns
  | [] => rfl
  | n :: ns => by
    show (intsOf (ns.map Vl.int)).map (n :: ·) = _
    rw [ints_map ns]
    rfl
section
variable {v : Vl} {st : Sto} {Q : Vl → Sto → Prop} {X : XP} {xs : List Vl} {ns : List Int}
theorem sorted_wp (e : lstOf v st = some (ns.map .int)) (q : Q (.lst ((isort ns).map .int)) st) : (b1K .sorted v st).wp Q X := by
  show (kSorted v st).wp Q X
  unfold kSorted
  rw [e]
  dsimp only
  rw [ints_map]
  exact wp_ok q
theorem rev_wp (e : lstOf v st = some xs) (q : Q (.lst xs.reverse) st) : (kRev v st).wp Q X := by
  unfold kRev
  cases v with
  | tup ys => cases e
  | _ =>
    dsimp only
    rw [e]
    exact wp_ok q
theorem ssetT_wp {ns : List Int} (l : ns.length ≤ 60) (q : Q (.lst ((dsort ns).map .int)) st) : (kSortSet (.tup (ns.map .int)) st).wp Q X := by
  unfold kSortSet
  dsimp only
  rw [intsOf_map]
  exact wp_ifk l q
theorem sset_wp {ns : List Int} (e : lstOf v st = some (ns.map .int)) (l : ns.length ≤ 60) (q : Q (.lst ((dsort ns).map .int)) st) : (kSortSet v st).wp Q X := by
  have go : (match some (ns.map Vl.int) with
    | some xs => (match intsOf xs with
      | some ns => if ns.length ≤ 60 then Res.ok (Vl.lst ((dsort ns).map .int)) st else .bad
      | none => .bad)
    | none => .bad : Res Vl).wp Q X := by
    dsimp only
    rw [intsOf_map]
    exact wp_ifk l q
  unfold kSortSet
  cases v <;> first | (cases e; done) | (dsimp only; rw [e]; exact go)
theorem revT_wp (q : Q (.tup xs.reverse) st) : (kRev (.tup xs) st).wp Q X := wp_ok q
theorem sortedP_wp {ps : List (Int × Int)} (e : lstOf v st = some (ps.map prV)) (q : Q (.lst ((psort ps).map prV)) st) : (b1K .sorted v st).wp Q X := by
  show (kSorted v st).wp Q X
  unfold kSorted
  rw [e]
  dsimp only
  cases ps with
  | nil => exact wp_ok q
  | cons p ps =>
    rw [show intsOf ((p :: ps).map prV) = none from rfl]
    dsimp only
    rw [prsOf_map]
    exact wp_ok q
theorem min1_wp {m : Int} (e : lstOf v st = some (ns.map .int)) (hm : minI ns = some m) (q : Q (.int m) st) : (b1K .min1 v st).wp Q X := by
  show (kMin1 v st).wp Q X
  unfold kMin1
  rw [e]
  dsimp only
  rw [ints_map]
  show (Res.lift ((minI ns).map Vl.int) st).wp Q X
  rw [hm]
  exact wp_ok q
theorem max1_wp {m : Int} (e : lstOf v st = some (ns.map .int)) (hm : maxI ns = some m) (q : Q (.int m) st) : (b1K .max1 v st).wp Q X := by
  show (kMax1 v st).wp Q X
  unfold kMax1
  rw [e]
  dsimp only
  rw [ints_map]
  show (Res.lift ((maxI ns).map Vl.int) st).wp Q X
  rw [hm]
  exact wp_ok q
theorem flats_ints : ∀ ns : List Int, flatsL (ns.map Vl.int) = some (ns.map V.int)
  | [] => rfl
  | n :: ns => by
    rw [List.map_cons]
    unfold flatsL
    rw [flats_ints ns]
    rfl
theorem inV_ints {i : Int} : ∀ ns : List Int, inV (.int i) (ns.map V.int) = decide (i ∈ ns)
  | [] => by simp [inV]
  | n :: ns => by
    have ih := inV_ints (i := i) ns
    unfold inV at ih ⊢
    rw [List.map_cons, List.any_cons, ih]
    show (n == i || decide (i ∈ ns)) = _
    by_cases h : n = i
    · subst h; simp
    · have h2 : ¬ i = n := fun z => h z.symm
      simp [h, h2]
theorem cm_inS {i : Int} {w : Vl} {Q : Bool → Sto → Prop} (e : seqOf w st = some (ns.map .int)) (q : Q (decide (i ∈ ns)) st) : cmW .inS (.int i) w st Q := by
  refine cm_by (b := decide (i ∈ ns)) ?_ q
  show kInS false (.int i) w st = _
  unfold kInS
  rw [e]
  show (flatsL (ns.map Vl.int)).map _ = _
  rw [flats_ints]
  show some (inV (.int i) (ns.map V.int)) = _
  rw [inV_ints]
theorem cm_notinS {i : Int} {w : Vl} {Q : Bool → Sto → Prop} (e : seqOf w st = some (ns.map .int)) (q : Q (!decide (i ∈ ns)) st) : cmW .notinS (.int i) w st Q := by
  refine cm_by (b := !decide (i ∈ ns)) ?_ q
  show kInS true (.int i) w st = _
  unfold kInS
  rw [e]
  show (flatsL (ns.map Vl.int)).map _ = _
  rw [flats_ints]
  show some (!inV (.int i) (ns.map V.int)) = _
  rw [inV_ints]
end
theorem br_both {b : Bool} {r1 r2 : Res Vl} {Q : Vl → Sto → Prop} {X : XP} (I : Vl → Sto → Prop) (h1 : b = true → r1.wp I X) (h2 : b = false → r2.wp I X) (h : ∀ v s, I v s → Q v s) : brW b (r1.wp Q X) (r2.wp Q X) :=
  ⟨fun e => wp_mono (h1 e) (fun v s e => h v s e) fun _ _ _ h => h, fun e => wp_mono (h2 e) (fun v s e => h v s e) fun _ _ _ h => h⟩
theorem br_two {b : Bool} {r : Res Vl} {v : Vl} {st : Sto} {Q : Vl → Sto → Prop} {X : XP} (I : Vl → Sto → Prop) (h1 : b = true → r.wp I X) (h2 : b = false → I v st) (h : ∀ v s, I v s → Q v s) : brW b (r.wp Q X) (Q v st) :=
  ⟨fun e => wp_mono (h1 e) (fun v s e => h v s e) fun _ _ _ h => h, fun e => h v st (h2 e)⟩
/-- two ways that meet again -/
theorem br_join {b : Bool} {r1 r2 : Res Fl} {K : Ev → Sto → Prop} {Q0 : Fl → Sto → Prop} {X : XP} (I : Ev → Sto → Prop) (h1 : b = true → r1.wp (nxQ I Q0) X) (h2 : b = false → r2.wp (nxQ I Q0) X) (h : ∀ env s, I env s → K env s) : brW b (r1.wp (nxQ K Q0) X) (r2.wp (nxQ K Q0) X) :=
  ⟨fun e => wp_m (h1 e) fun f s q => by cases f <;> first | exact h _ _ q | exact q, fun e => wp_m (h2 e) fun f s q => by cases f <;> first | exact h _ _ q | exact q⟩
end TW
set_option maxHeartbeats 4000000
namespace TW
open PySem
open L2 (Key)
section
variable {st : Sto} {Q : List Vl → Sto → Prop} {X : XP} {set : Vl → Ev → Option Ev} {tt : FT} {te : FE} {sk : Src} {env : Ev} {xs : List Vl}
/-- what the items are may be said of the store that stands -/
theorem compA_aux {α : Type} (enc : α → Vl) (J : List Vl → Sto → Prop) : ∀ (l : List α) (vs : List Vl) (st : Sto) (Q : List Vl → Sto → Prop), J vs st →
    (∀ k a s ws, l[k]? = some a → J (vs ++ ws) s → ws.length = k → setW set (enc a) env fun e2 => (te e2 s).wp (fun v s => sk.ok s = true ∧ J (vs ++ ws ++ [v]) s) nX) →
    (∀ ws s, J (vs ++ ws) s → ws.length = l.length → Q ws s) → (compF set tYesF te sk (l.map enc) env st).wp Q X
  | [], vs, st, Q, h0, _, hq => wp_ok (hq [] st (by rw [List.append_nil]; exact h0) rfl)
  | a :: l, vs, st, Q, h0, hs, hq => by
    obtain ⟨e2, h1, h2⟩ := hs 0 a st [] rfl (by rw [List.append_nil]; exact h0) rfl
    rw [List.append_nil] at h2
    rw [List.map_cons]
    unfold compF
    rw [h1]
    refine wp_bind (wp_ok ?_)
    refine br_ite ⟨fun e => ?_, fun e => by cases e⟩
    refine wp_bind (wp_noX (wp_mono h2 (fun v s ⟨o, h3⟩ => ?_) fun _ _ _ h => h))
    refine wp_if o (wp_bind (wp_m (Q := fun ws s => Q (v :: ws) s) ?_ fun _ _ h => wp_ok h))
    refine compA_aux enc J l (vs ++ [v]) s _ h3 (fun k b s ws hb hj hl => ?_) fun ws s hj hl => hq (v :: ws) s (by rw [List.append_assoc] at hj; exact hj) (by rw [List.length_cons, hl]; rfl)
    have := hs (k + 1) b s (v :: ws) (by simpa using hb) (by rw [List.append_assoc] at hj; exact hj) (by rw [List.length_cons, hl])
    rw [show vs ++ [v] ++ ws = vs ++ (v :: ws) by simp]
    exact this
theorem compA_wp {α : Type} (enc : α → Vl) (l : List α) (J : List Vl → Sto → Prop) (hx : xs = l.map enc) (h0 : J [] st)
    (hs : ∀ k a s ws, l[k]? = some a → J ws s → ws.length = k → setW set (enc a) env fun e2 => (te e2 s).wp (fun v s => sk.ok s = true ∧ J (ws ++ [v]) s) nX)
    (hq : ∀ ws s, J ws s → ws.length = l.length → Q ws s) : (compF set tYesF te sk xs env st).wp Q X := by
  rw [hx]
  exact compA_aux enc J l [] st Q h0 (fun k a s ws ha hj hl => hs k a s ws ha hj hl) hq
end
def pT : Vl → Tg
  | .non => .none
  | .bl _ => .bool
  | .int _ => .int
  | .str _ => .str
  | .tup _ => .tuple
  | .lst _ => .list
  | _ => .dict
inductive Rd (b : Nat) (st : Sto) : Nat → Vl → Vl → Prop
  | non {k : Nat} : Rd b st k .non .non
  | bl {k : Nat} {x : Bool} : Rd b st k (.bl x) (.bl x)
  | int {k : Nat} {i : Int} : Rd b st k (.int i) (.int i)
  | str {k : Nat} {x : Str} : sOk x = true → Rd b st k (.str x) (.str x)
  | dct {k : Nat} : Rd b st k (.dct [] []) (.dct [] [])
  | tup {k : Nat} {xs ps : List Vl} : xs.length = ps.length → ps.length ≤ 100000 → (∀ (i : Nat) (x p : Vl), xs[i]? = some x → ps[i]? = some p → Rd b st k x p) → Rd b st (k + 1) (.tup xs) (.tup ps)
  | lst {k : Nat} {xs ps : List Vl} : xs.length = ps.length → ps.length ≤ 100000 → (∀ (i : Nat) (x p : Vl), xs[i]? = some x → ps[i]? = some p → Rd b st k x p) → Rd b st (k + 1) (.lst xs) (.lst ps)
  | ref {k h : Nat} {xs ps : List Vl} : h ≠ b → (st : List Ob)[h]? = some (.lst xs) → xs.length = ps.length → ps.length ≤ 100000 → (∀ (i : Nat) (x p : Vl), xs[i]? = some x → ps[i]? = some p → Rd b st k x p) → Rd b st (k + 1) (.ref h) (.lst ps)
section
variable {b c k j : Nat} {st st' : Sto} {v w p : Vl}
theorem Rd.ext (h : Rd b st k v p) (e : Ext b st st') : Rd b st' k v p := by
  induction h with
  | non => exact .non
  | bl => exact .bl
  | int => exact .int
  | str h => exact .str h
  | dct => exact .dct
  | tup l l5 _ ih => exact .tup l l5 ih
  | lst l l5 _ ih => exact .lst l l5 ih
  | ref n a l l5 _ ih => exact .ref n (e.get a n) l l5 ih
theorem Rd.mono (h : Rd b st k v p) : ∀ {j : Nat}, k ≤ j → Rd b st j v p := by
  induction h with
  | non => exact fun _ => .non
  | bl => exact fun _ => .bl
  | int => exact fun _ => .int
  | str h => exact fun _ => .str h
  | dct => exact fun _ => .dct
  | @tup k xs ps l l5 _ ih =>
    intro j hj
    obtain ⟨i, rfl⟩ : ∃ i, j = i + 1 := ⟨j - 1, by omega⟩
    exact .tup l l5 fun a x p h1 h2 => ih a x p h1 h2 (by omega)
  | @lst k xs ps l l5 _ ih =>
    intro j hj
    obtain ⟨i, rfl⟩ : ∃ i, j = i + 1 := ⟨j - 1, by omega⟩
    exact .lst l l5 fun a x p h1 h2 => ih a x p h1 h2 (by omega)
  | @ref k h xs ps n a l l5 _ ih =>
    intro j hj
    obtain ⟨i, rfl⟩ : ∃ i, j = i + 1 := ⟨j - 1, by omega⟩
    exact .ref n a l l5 fun a x p h1 h2 => ih a x p h1 h2 (by omega)
theorem Rd.of (h : Pure k v) : Rd b st k v v := by
  induction h with
  | non => exact .non
  | bl => exact .bl
  | int => exact .int
  | str h => exact .str h
  | tup l _ ih =>
    exact .tup rfl l fun i x p h1 h2 => by
      rw [h1] at h2
      cases h2
      exact ih x (List.mem_of_getElem? h1)
  | lst l _ ih =>
    exact .lst rfl l fun i x p h1 h2 => by
      rw [h1] at h2
      cases h2
      exact ih x (List.mem_of_getElem? h1)
theorem Rd.tg (h : Rd b st k v p) : ∀ m, tgOf m v st = some (pT p) := by
  intro m
  cases h with
  | ref n a _ _ _ =>
    unfold tgOf
    dsimp only
    rw [a]
    rfl
  | _ => rfl
/-- the items -/
theorem Rd.seq {ps : List Vl} (h : Rd b st (k + 1) v p) (e : p = Vl.lst ps ∨ p = Vl.tup ps) : ∃ xs, SeqV v st xs ∧ xs.length = ps.length ∧ ps.length ≤ 100000 ∧ ∀ (i : Nat) (x p : Vl), xs[i]? = some x → ps[i]? = some p → Rd b st k x p := by
  cases h with
  | tup l l5 r =>
    rcases e with e | e <;> cases e
    exact ⟨_, seqv_tup, l, l5, r⟩
  | lst l l5 r =>
    rcases e with e | e <;> cases e
    exact ⟨_, seqv_lst, l, l5, r⟩
  | ref n a l l5 r =>
    rcases e with e | e <;> cases e
    exact ⟨_, seqv_ref a, l, l5, r⟩
  | _ => rcases e with e | e <;> cases e
theorem Rd.sq {xs : List Vl} (h : Rd b st k v p) (s : SeqV v st xs) (e : Ext b st st') : SeqV v st' xs := by
  refine ⟨s.s, ?_⟩
  have q := s.q
  cases h with
  | ref n a _ _ _ =>
    unfold seqOf at q ⊢
    dsimp only at q ⊢
    rw [a] at q
    rw [e.get a n]
    exact q
  | _ => exact q
theorem Rd.atom (h : Rd b st k v p) (h1 : pT p ≠ .list) (h2 : pT p ≠ .tuple) : v = p ∧ Rd c st' 0 v p := by
  cases h with
  | non => exact ⟨rfl, .non⟩
  | bl => exact ⟨rfl, .bl⟩
  | int => exact ⟨rfl, .int⟩
  | str h => exact ⟨rfl, .str h⟩
  | dct => exact ⟨rfl, .dct⟩
  | tup => exact absurd rfl h2
  | lst => exact absurd rfl h1
  | ref => exact absurd rfl h1
theorem Rd.alike (h : Rd b st k v p) : ∀ {c : Nat} {w : Vl}, Rd c st k w p → Alike true st k v w := by
  induction h with
  | non => intro c w h; cases h; exact .non
  | bl => intro c w h; cases h; exact .bl
  | int => intro c w h; cases h; exact .int
  | str h0 => intro c w h; cases h; exact .str (sOk_len h0)
  | dct => intro c w h; cases h; exact .dct rfl
  | @tup k xs ps l l5 r ih =>
    intro c w h
    have tw := h.tg
    obtain ⟨ys, sy, ly, _, ry⟩ := h.seq (.inr rfl)
    exact .seq (.inr rfl) (fun _ => rfl) tw seqv_tup sy (by omega) (by omega) fun i x y hx hy => by
      obtain ⟨p, hp⟩ : ∃ p, ps[i]? = some p := ⟨_, List.getElem?_eq_getElem (by have := (List.getElem?_eq_some_iff.mp hx).1; omega)⟩
      exact ih i x p hx hp (ry i y p hy hp)
  | @lst k xs ps l l5 r ih =>
    intro c w h
    have tw := h.tg
    obtain ⟨ys, sy, ly, _, ry⟩ := h.seq (.inl rfl)
    exact .seq (.inl rfl) (fun _ => rfl) tw seqv_lst sy (by omega) (by omega) fun i x y hx hy => by
      obtain ⟨p, hp⟩ : ∃ p, ps[i]? = some p := ⟨_, List.getElem?_eq_getElem (by have := (List.getElem?_eq_some_iff.mp hx).1; omega)⟩
      exact ih i x p hx hp (ry i y p hy hp)
  | @ref k h xs ps n a l l5 r ih =>
    intro c w h'
    have tw := h'.tg
    obtain ⟨ys, sy, ly, _, ry⟩ := h'.seq (.inl rfl)
    exact .seq (.inl rfl) (Rd.tg (.ref n a l l5 r)) tw (seqv_ref a) sy (by omega) (by omega) fun i x y hx hy => by
      obtain ⟨p, hp⟩ : ∃ p, ps[i]? = some p := ⟨_, List.getElem?_eq_getElem (by have := (List.getElem?_eq_some_iff.mp hx).1; omega)⟩
      exact ih i x p hx hp (ry i y p hy hp)
/-- the same, with a cell for each list -/
inductive Rc (b : Nat) (st : Sto) : Nat → Vl → Vl → Prop
  | non {k : Nat} : Rc b st k .non .non
  | bl {k : Nat} {x : Bool} : Rc b st k (.bl x) (.bl x)
  | int {k : Nat} {i : Int} : Rc b st k (.int i) (.int i)
  | str {k : Nat} {x : Str} : sOk x = true → Rc b st k (.str x) (.str x)
  | dct {k : Nat} : Rc b st k (.dct [] []) (.dct [] [])
  | tup {k : Nat} {xs ps : List Vl} : xs.length = ps.length → ps.length ≤ 100000 → (∀ (i : Nat) (x p : Vl), xs[i]? = some x → ps[i]? = some p → Rc b st k x p) → Rc b st (k + 1) (.tup xs) (.tup ps)
  | ref {k h : Nat} {xs ps : List Vl} : h ≠ b → (st : List Ob)[h]? = some (.lst xs) → xs.length = ps.length → ps.length ≤ 100000 → (∀ (i : Nat) (x p : Vl), xs[i]? = some x → ps[i]? = some p → Rc b st k x p) → Rc b st (k + 1) (.ref h) (.lst ps)
theorem Rc.rd (h : Rc b st k v p) : Rd b st k v p := by
  induction h with
  | non => exact .non
  | bl => exact .bl
  | int => exact .int
  | str h => exact .str h
  | dct => exact .dct
  | tup l l5 _ ih => exact .tup l l5 ih
  | ref n a l l5 _ ih => exact .ref n a l l5 ih
theorem Rc.ext (h : Rc b st k v p) (e : Ext b st st') : Rc b st' k v p := by
  induction h with
  | non => exact .non
  | bl => exact .bl
  | int => exact .int
  | str h => exact .str h
  | dct => exact .dct
  | tup l l5 _ ih => exact .tup l l5 ih
  | ref n a l l5 _ ih => exact .ref n (e.get a n) l l5 ih
theorem Rd.atomC (h : Rd b st k v p) (h1 : pT p ≠ .list) (h2 : pT p ≠ .tuple) : Rc c st' j v p := by
  cases h with
  | non => exact .non
  | bl => exact .bl
  | int => exact .int
  | str h => exact .str h
  | dct => exact .dct
  | tup => exact absurd rfl h2
  | lst => exact absurd rfl h1
  | ref => exact absurd rfl h1
def twinBk (j : Nat) : Bk := .cons (.ifs (.tr (.isi [.list] (.v 0)))
   (.cons (.ret (.cell (.comp (.n 1) (.seq (.v 0)) (.no) (.call j (.cons (.v 1) (.nil))) [1])))
   (.nil))
   (.nil))
  (.cons (.ret (.ife (.tr (.isi [.tuple] (.v 0))) (.b1 .tuple (.cell (.comp (.n 1) (.seq (.v 0)) (.no) (.call j (.cons (.v 1) (.nil))) [1]))) (.v 0)))
  (.nil))
theorem twin_atom {P : Nat → Pr} {j : Nat} (hP : ∀ n, (P (n + 1)).F j = runF 2 (eb (P n) (twinBk j))) {t : Tg} {n : Nat} {Q : Vl → Sto → Prop} {X : XP} (tg : ∀ m, tgOf m v st = some t) (h1 : t ≠ .list) (h2 : t ≠ .tuple)
    (q : Q v st) : ((P (n + 1)).F j [v] st).wp Q X := by
  rw [hP]
  unfold twinBk
  refine run_wp ?_
  walk_at "w"
  refine tg_by (tg _) ?_
  have e1 : ([Tg.list].any fun u => tgSub t u) = false := by
    cases t <;> first | rfl | exact absurd rfl h1
  have e2 : ([Tg.tuple].any fun u => tgSub t u) = false := by
    cases t <;> first | rfl | exact absurd rfl h2
  rw [e1]
  walk_at "w"
  refine tg_by (tg _) ?_
  rw [e2]
  walk_at "w"
  exact q
theorem twin_gen {P : Nat → Pr} {j : Nat} (hP : ∀ n, (P (n + 1)).F j = runF 2 (eb (P n) (twinBk j))) : ∀ {k : Nat} {b : Nat} {st : Sto} {v p : Vl} (n : Nat) {Q : Vl → Sto → Prop} {X : XP}, Rd b st k v p → k < n →
    (∀ v' S', (∀ c, Ext c st S') → (∀ c, c < (st : List Ob).length → Rc c S' k v' p) → Q v' S') → ((P n).F j [v] st).wp Q X := by
  intro k
  induction k with
  | zero =>
    intro b st v p n Q X h hk q
    obtain ⟨m, rfl⟩ : ∃ m, n = m + 1 := ⟨n - 1, by omega⟩
    have h1 : pT p ≠ .list := by cases h <;> exact fun e => nomatch e
    have h2 : pT p ≠ .tuple := by cases h <;> exact fun e => nomatch e
    refine twin_atom hP h.tg h1 h2 (q _ _ (fun _ => Ext.refl) fun c _ => ?_)
    exact h.atomC h1 h2
  | succ k ih =>
    intro b st v p n Q X h hk q
    obtain ⟨m, rfl⟩ : ∃ m, n = m + 1 := ⟨n - 1, by omega⟩
    by_cases h1 : pT p = .list
    · skip
      obtain ⟨ps, rfl⟩ : ∃ ps, p = .lst ps := by cases h <;> first | exact ⟨_, rfl⟩ | cases h1
      have tg := h.tg
      obtain ⟨xs, sv, l, l5, r⟩ := h.seq (.inl rfl)
      rw [hP]
      unfold twinBk
      refine run_wp ?_
      walk_at "w"
      refine tg_by (tg _) ?_
      walk_at "w"
      refine seq_by sv.q ?_
      refine compA_wp id xs (fun vs s => (∀ c, Ext c st s) ∧ ∀ (i : Nat) (x p : Vl), vs[i]? = some x → ps[i]? = some p → ∀ c, c < (st : List Ob).length → Rc c s k x p) (List.map_id xs).symm ⟨fun _ => Ext.refl, fun i x p h => by simp at h⟩ (fun i x s ws hx ⟨hE, hw⟩ hl => ?_) fun ws s ⟨hE, hw⟩ hl => ?_
      · have il := (List.getElem?_eq_some_iff.mp hx).1
        obtain ⟨p, hp⟩ : ∃ p, ps[i]? = some p := ⟨_, List.getElem?_eq_getElem (by omega)⟩
        refine set_by rfl ?_
        walk_at "w"
        refine ih m ((r i x p hx hp).ext (hE b)) (by omega) fun v' S' hE' hR' => ?_
        walk_at "w"
        refine ⟨skv (h.sq sv ((hE b).trans (hE' b))).q, fun c => (hE c).trans (hE' c), fun a y z hy hz c hc => ?_⟩
        by_cases al : a < ws.length
        · rw [List.getElem?_append_left al] at hy
          exact (hw a y z hy hz c hc).ext (hE' c)
        · have := (List.getElem?_eq_some_iff.mp hy).1
          rw [List.length_append, List.length_singleton] at this
          obtain rfl : a = i := by omega
          rw [List.getElem?_append_right (by omega), hl, Nat.sub_self] at hy
          cases hy
          rw [hp] at hz
          cases hz
          exact hR' c (Nat.lt_of_lt_of_le hc (hE 0).len)
      · walk_at "w"
        refine q _ _ (fun c => (hE c).trans Ext.app) fun c hc => .ref ?_ (by simp) (by omega) l5 fun i x p hx hp => (hw i x p hx hp c hc).ext Ext.app
        have := (hE 0).len
        omega
    by_cases h2 : pT p = .tuple
    · skip
      obtain ⟨ps, rfl⟩ : ∃ ps, p = .tup ps := by cases h <;> first | exact ⟨_, rfl⟩ | cases h2
      have tg := h.tg
      obtain ⟨xs, sv, l, l5, r⟩ := h.seq (.inr rfl)
      rw [hP]
      unfold twinBk
      refine run_wp ?_
      walk_at "w"
      refine tg_by (tg _) ?_
      walk_at "w"
      refine tg_by (tg _) ?_
      walk_at "w"
      refine seq_by sv.q ?_
      refine compA_wp id xs (fun vs s => (∀ c, Ext c st s) ∧ ∀ (i : Nat) (x p : Vl), vs[i]? = some x → ps[i]? = some p → ∀ c, c < (st : List Ob).length → Rc c s k x p) (List.map_id xs).symm ⟨fun _ => Ext.refl, fun i x p h => by simp at h⟩ (fun i x s ws hx ⟨hE, hw⟩ hl => ?_) fun ws s ⟨hE, hw⟩ hl => ?_
      · have il := (List.getElem?_eq_some_iff.mp hx).1
        obtain ⟨p, hp⟩ : ∃ p, ps[i]? = some p := ⟨_, List.getElem?_eq_getElem (by omega)⟩
        refine set_by rfl ?_
        walk_at "w"
        refine ih m ((r i x p hx hp).ext (hE b)) (by omega) fun v' S' hE' hR' => ?_
        walk_at "w"
        refine ⟨skv (h.sq sv ((hE b).trans (hE' b))).q, fun c => (hE c).trans (hE' c), fun a y z hy hz c hc => ?_⟩
        by_cases al : a < ws.length
        · rw [List.getElem?_append_left al] at hy
          exact (hw a y z hy hz c hc).ext (hE' c)
        · have := (List.getElem?_eq_some_iff.mp hy).1
          rw [List.length_append, List.length_singleton] at this
          obtain rfl : a = i := by omega
          rw [List.getElem?_append_right (by omega), hl, Nat.sub_self] at hy
          cases hy
          rw [hp] at hz
          cases hz
          exact hR' c (Nat.lt_of_lt_of_le hc (hE 0).len)
      · walk_at "w"
        refine tup_wp (xs := ws) (by unfold seqOf; dsimp only; simp) ?_
        walk_at "w"
        exact q _ _ (fun c => (hE c).trans Ext.app) fun c hc => .tup (by omega) l5 fun i x p hx hp => (hw i x p hx hp c hc).ext Ext.app
    refine twin_atom hP h.tg h1 h2 (q _ _ (fun _ => Ext.refl) fun c _ => ?_)
    exact h.atomC h1 h2
end
end TW
set_option maxHeartbeats 4000000
namespace TW
open PySem
open L2 (Key)
/-- trees of ints, alike in kind -/
inductive Shp : Nat → Vl → Vl → Prop
  | int {k : Nat} {i j : Int} : Shp k (.int i) (.int j)
  | tup {k : Nat} {xs ys : List Vl} : xs.length ≤ 1000 → ys.length ≤ 1000 → (∀ (i : Nat) (x y : Vl), xs[i]? = some x → ys[i]? = some y → Shp k x y) → Shp (k + 1) (.tup xs) (.tup ys)
  | lst {k : Nat} {xs ys : List Vl} : xs.length ≤ 1000 → ys.length ≤ 1000 → (∀ (i : Nat) (x y : Vl), xs[i]? = some x → ys[i]? = some y → Shp k x y) → Shp (k + 1) (.lst xs) (.lst ys)
section
variable {b c k j : Nat} {st st' : Sto} {v w p : Vl}
open Classical in
theorem list_same {xs ys : List Vl} (l : xs.length = ys.length) (f : Nat → Bool) (hf : ∀ (i : Nat) (x y : Vl), xs[i]? = some x → ys[i]? = some y → f i = !decide (x = y)) : (((List.range ys.length).filter f).map fun i : Nat => Vl.int (i : Int)).isEmpty = decide (xs = ys) := by
  have e : ∀ m : List Nat, (m.map fun i : Nat => Vl.int (i : Int)).isEmpty = m.isEmpty := fun m => by cases m <;> rfl
  rw [e]
  by_cases h : xs = ys
  · subst h
    rw [decide_eq_true rfl]
    have : (List.range xs.length).filter f = [] := List.filter_eq_nil_iff.mpr fun i hi => by
      have hi := List.mem_range.mp hi
      rw [hf i _ _ (List.getElem?_eq_getElem hi) (List.getElem?_eq_getElem hi), decide_eq_true rfl]
      exact Bool.false_ne_true
    rw [this]
    rfl
  · rw [decide_eq_false h]
    have : (List.range ys.length).filter f ≠ [] := fun z => h (List.ext_getElem? fun i => by
      by_cases il : i < ys.length
      · obtain ⟨x, hx⟩ : ∃ x, xs[i]? = some x := ⟨_, List.getElem?_eq_getElem (by omega)⟩
        obtain ⟨y, hy⟩ : ∃ y, ys[i]? = some y := ⟨_, List.getElem?_eq_getElem il⟩
        have := List.filter_eq_nil_iff.mp z i (List.mem_range.mpr il)
        rw [hf i x y hx hy] at this
        have e2 : x = y := by
          by_cases e : x = y
          · exact e
          · rw [decide_eq_false e] at this
            exact absurd rfl this
        rw [hx, hy, e2]
      · rw [List.getElem?_eq_none (by omega), List.getElem?_eq_none (by omega)])
    cases hq : (List.range ys.length).filter f with
    | nil => exact absurd hq this
    | cons a m => rfl
open Classical in
theorem same_end {P : Nat → Pr} {j m : Nat} {xs ys : List Vl} {t : Tg} (ht : t = .list ∨ t = .tuple) (tv : ∀ n, tgOf n v st = some t) (tw : ∀ n, tgOf n w st = some t) (sv : SeqV v st xs) (sw : SeqV w st ys) (lx : xs.length ≤ 1000) (ly : ys.length ≤ 1000)
    (ih : ∀ (i : Nat) (x y : Vl), xs[i]? = some x → ys[i]? = some y → ∀ {Q : Vl → Sto → Prop} {X : XP}, Q (.bl (decide (x = y))) st → ((P m).F j [x, y] st).wp Q X)
    {Q : Fl → Sto → Prop} {X : XP} (q : Q (.rt (.bl (decide (xs = ys)))) st) : (eb (P m) (sameEnd j) [some (.val v), some (.val w), none] st).wp Q X := by
  unfold sameEnd
  walk_at "w"
  refine tg_by (tv _) ?_
  walk_at "w"
  refine tg_by (tw _) ?_
  walk_at "w"
  rw [decide_eq_true rfl]
  walk_at "w"
  refine tg_by (tv _) ?_
  walk_at "w"
  refine tg_by (tw _) ?_
  walk_at "w"
  rw [decide_eq_true rfl]
  walk_at "w"
  refine len_wp sv.len ?_
  walk_at "w"
  refine len_wp sw.len ?_
  walk_at "w"
  apply br_dec <;> intro hl
  · walk_at "w"
    refine len_wp sw.len ?_
    walk_at "w"
    rw [rng_toNat]
    have hl : xs.length = ys.length := by omega
    refine compFil_wp (fun i : Nat => Vl.int (i : Int)) (List.range ys.length) (fun i => match xs[i]?, ys[i]? with | some x, some y => !decide (x = y) | _, _ => false) (fun i : Nat => .int (i : Int)) rfl src_ok_nil (fun i hi => ?_) ?_
    · have hi := List.mem_range.mp hi
      obtain ⟨x, hx⟩ : ∃ x, xs[i]? = some x := ⟨_, List.getElem?_eq_getElem (by omega)⟩
      obtain ⟨y, hy⟩ : ∃ y, ys[i]? = some y := ⟨_, List.getElem?_eq_getElem hi⟩
      refine set_by rfl ?_
      show (evT (P m) (.not _) _ _).wp _ _
      walk_at "w"
      refine ix_wp i sv.s sv.q hx ?_
      walk_at "w"
      refine ix_wp i sw.s sw.q hy ?_
      walk_at "w"
      refine ih i x y hx hy ?_
      walk_at "w"
      rw [hx, hy]
      refine ⟨rfl, rfl, fun _ => ?_⟩
      walk_at "w"
      exact ⟨rfl, rfl⟩
    · walk_at "w"
      refine cm_isnil (k := 0) (fun x hx => ?_) (by omega) ?_
      · obtain ⟨i, _, rfl⟩ := List.mem_map.mp hx
        exact .int
      rw [list_same hl _ fun i x y hx hy => by rw [hx, hy]]
      walk_at "w"
      exact q
  · walk_at "w"
    have : xs ≠ ys := fun e => hl (by rw [e])
    rw [decide_eq_false this] at q
    rw [decide_eq_false hl]
    exact q
open Classical in
theorem same_shp {P : Nat → Pr} {d : Bool} {j : Nat} (hP : ∀ n, (P (n + 1)).F j = runF 3 (eb (P n) (sameBk d j))) : ∀ {k : Nat} {v w : Vl} (n : Nat), Shp k v w → k < n → ∀ {Q : Vl → Sto → Prop} {X : XP}, Q (.bl (decide (v = w))) st → ((P n).F j [v, w] st).wp Q X := by
  intro k
  induction k with
  | zero =>
    intro v w n h hk Q X q
    obtain ⟨m, rfl⟩ : ∃ m, n = m + 1 := ⟨n - 1, by omega⟩
    rw [hP]
    unfold sameBk
    refine run_wp ?_
    cases h
    rename_i i j
    walk_at "w"
    have e : (decide (i - j = 0)) = decide ((Vl.int i) = (Vl.int j)) := by
      rw [decide_eq_decide]
      exact ⟨fun h => by rw [show i = j by omega], fun h => by cases h; omega⟩
    rw [e]
    exact q
  | succ k ih =>
    intro v w n h hk Q X q
    obtain ⟨m, rfl⟩ : ∃ m, n = m + 1 := ⟨n - 1, by omega⟩
    cases h with
    | int => exact ih (m + 1) .int (by omega) q
    | tup lx ly r =>
      rename_i xs ys
      rw [hP]
      unfold sameBk
      refine run_wp ?_
      have e : decide (Vl.tup xs = Vl.tup ys) = decide (xs = ys) := by
        rw [decide_eq_decide]
        exact ⟨fun h => by cases h; rfl, fun h => by rw [h]⟩
      rw [e] at q
      have fin : (eb (P m) (sameEnd j) [some (.val (.tup xs)), some (.val (.tup ys)), none] st).wp (rtQ Q) X := same_end (.inr rfl) (fun _ => rfl) (fun _ => rfl) seqv_tup seqv_tup lx ly (fun i x y hx hy Q X q => ih m (r i x y hx hy) (by omega) q) q
      walk_at "w"
      cases d with
      | false =>
        walk_at "w"
        exact fin
      | true =>
        walk_at "w"
        refine b_cons (m_if (t_tr (e_isi (e_v rfl (tg_by rfl ?_)))))
        walk_at "w"
        exact fin
    | lst lx ly r =>
      rename_i xs ys
      rw [hP]
      unfold sameBk
      refine run_wp ?_
      have e : decide (Vl.lst xs = Vl.lst ys) = decide (xs = ys) := by
        rw [decide_eq_decide]
        exact ⟨fun h => by cases h; rfl, fun h => by rw [h]⟩
      rw [e] at q
      have fin : (eb (P m) (sameEnd j) [some (.val (.lst xs)), some (.val (.lst ys)), none] st).wp (rtQ Q) X := same_end (.inl rfl) (fun _ => rfl) (fun _ => rfl) seqv_lst seqv_lst lx ly (fun i x y hx hy Q X q => ih m (r i x y hx hy) (by omega) q) q
      walk_at "w"
      cases d with
      | false =>
        walk_at "w"
        exact fin
      | true =>
        walk_at "w"
        refine b_cons (m_if (t_tr (e_isi (e_v rfl (tg_by rfl ?_)))))
        walk_at "w"
        exact fin
end
end TW
set_option maxHeartbeats 4000000
namespace TW
open PySem
open L2 (Key)
theorem zip_fst {α β : Type} : ∀ {l : List α} {m : List β}, l.length = m.length → l = (l.zip m).map Prod.fst
  | [], [], _ => rfl
  | a :: l, b :: m, h => by
    rw [List.zip_cons_cons, List.map_cons, ← zip_fst (by simpa using h)]
  | [], _ :: _, h => by simp at h
  | _ :: _, [], h => by simp at h
theorem zip_at {α β : Type} {l : List α} {m : List β} {p : α × β} (h : p ∈ l.zip m) : ∃ i : Nat, l[i]? = some p.1 ∧ m[i]? = some p.2 := by
  obtain ⟨i, hi⟩ := List.mem_iff_getElem?.mp h
  rw [List.getElem?_zip_eq_some] at hi
  exact ⟨i, hi⟩
def itP : Vl → List Vl
  | .lst xs => xs
  | .tup xs => xs
  | _ => []
def isSq : Vl → Bool
  | .lst _ => true
  | .tup _ => true
  | _ => false
theorem all_and {α : Type} {l : List α} {f g : α → Bool} : (l.all f && l.all g) = l.all fun a => f a && g a := by
  induction l with
  | nil => rfl
  | cons a l ih =>
    simp only [List.all_cons]
    rw [← ih]
    cases f a <;> cases g a <;> cases l.all f <;> cases l.all g <;> rfl
theorem all_congr {α : Type} {l : List α} {f g : α → Bool} (h : ∀ a ∈ l, f a = g a) : l.all f = l.all g := by
  induction l with
  | nil => rfl
  | cons a l ih =>
    simp only [List.all_cons]
    rw [h a List.mem_cons_self, ih fun b hb => h b (List.mem_cons_of_mem _ hb)]
theorem zip_snd {α β : Type} {l : List α} {m : List β} (h : l.length = m.length) {f : β → Bool} : ((l.zip m).all fun q => f q.2) = m.all f := by
  induction l generalizing m with
  | nil =>
    cases m with
    | nil => rfl
    | cons _ _ => simp at h
  | cons a l ih =>
    cases m with
    | nil => simp at h
    | cons b m =>
      rw [List.zip_cons_cons, List.all_cons, List.all_cons, ih (by simpa using h)]
theorem getD_of {α : Type} {l : List α} {i : Nat} {x d : α} (h : l[i]? = some x) : l.getD i d = x := by
  rw [List.getD_eq_getElem?_getD, h]; rfl
theorem zip_mem {α β : Type} {l : List α} {m : List β} {q : α × β} (h : q ∈ l.zip m) : q.2 ∈ m := by
  obtain ⟨i, _, h2⟩ := zip_at h
  exact List.mem_of_getElem? h2
section
variable {b c n k K p d : Nat} {v w x y p' : Vl} {q : Vl} {st st' S S' : Sto} {Q : Vl → Sto → Prop} {X : XP} {xs ys ps : List Vl} {h : Nat}
theorem isSq_ex {p : Vl} (h : isSq p = true) : p = .lst (itP p) ∨ p = .tup (itP p) := by
  cases p <;> first | exact .inl rfl | exact .inr rfl | cases h
theorem isSq_pT {p : Vl} (h : Rd b st k v p) : (isSq p = true ↔ (pT p = .list ∨ pT p = .tuple)) := by
  cases h <;> simp [isSq, pT]
/-- the items, and what they stand for -/
theorem Rd.its {p : Vl} (h : Rd b st (k + 1) v p) (e : isSq p = true) : ∃ xs, SeqV v st xs ∧ xs.length = (itP p).length ∧ (itP p).length ≤ 100000 ∧ (∀ y ∈ xs.zip (itP p), Rd b st k y.1 y.2) ∧ (∀ m, tgOf m v st = some .list ∨ tgOf m v st = some .tuple) ∧ ∀ (i : Nat) (x p' : Vl), xs[i]? = some x → (itP p)[i]? = some p' → Rd b st k x p' := by
  obtain ⟨xs, sv, l, l5, r⟩ := h.seq (isSq_ex e)
  refine ⟨xs, sv, l, l5, fun y hy => ?_, fun m => ?_, r⟩
  · obtain ⟨i, h1, h2⟩ := zip_at hy
    exact r i _ _ h1 h2
  · rw [h.tg]
    rcases (isSq_pT h).mp e with e | e
    · rw [e]; exact .inl rfl
    · rw [e]; exact .inr rfl
end
theorem fil_nil {α : Type} {l : List α} {f : α → Bool} : (l.filter f).isEmpty = l.all fun a => !f a := by
  induction l with
  | nil => rfl
  | cons a l ih =>
    rw [List.all_cons, ← ih]
    cases e : f a with
    | true => rw [List.filter_cons_of_pos e]; rfl
    | false => rw [List.filter_cons_of_neg (by rw [e]; decide), Bool.not_false, Bool.true_and]
section
variable {b c n k K p d : Nat} {v w x y : Vl} {st st' S S' : Sto} {Q : Vl → Sto → Prop} {X : XP} {xs ys ps : List Vl} {h : Nat}
theorem seq_uniq {v : Vl} {st : Sto} {xs ys : List Vl} (h : SeqV v st xs) (h' : SeqV v st ys) : xs = ys := by
  have := h.q.symm.trans h'.q
  cases this
  rfl
theorem pure_its {k : Nat} (h : Pure (k + 1) v) : ∀ x ∈ itP v, Pure k x := by
  cases h with
  | tup _ h => exact h
  | lst _ h => exact h
  | _ => exact fun x hx => by cases hx
theorem pure_seq {v : Vl} {st : Sto} {xs : List Vl} (hs : isSq v = true) (h : SeqV v st xs) : xs = itP v := by
  cases v <;> first | (cases hs; done) | (have := h.q; cases this; rfl)
theorem fil_zip {xs ps : List Vl} (l : xs.length = ps.length) {f : Vl → Bool} : (((xs.zip ps).filter fun y => !f y.2).map fun y => y.1).isEmpty = ps.all f := by
  have e : ∀ m : List (Vl × Vl), (m.map fun y => y.1).isEmpty = m.isEmpty := fun m => by cases m <;> rfl
  rw [e, fil_nil, ← zip_snd l (f := f)]
  exact all_congr fun y _ => Bool.not_not _
end
section
variable {b c n k K d : Nat} {v w x y p : Vl} {st st' S S' : Sto} {Q : Vl → Sto → Prop} {X : XP} {xs ys ps : List Vl} {h : Nat}
theorem rd_len (r : Rd b st k v p) (e : pT p = .list) : ∃ ps, p = .lst ps ∧ lenV v st = some ps.length := by
  cases r with
  | lst l _ _ => exact ⟨_, rfl, by rw [← l]; exact seqv_lst.len⟩
  | ref _ a l _ _ => exact ⟨_, rfl, by rw [← l]; exact (seqv_ref a).len⟩
  | _ => cases e
theorem rc_len (r : Rc b st k v p) (e : pT p = .list) : ∃ h ps xs, p = .lst ps ∧ v = .ref h ∧ (st : List Ob)[h]? = some (.lst xs) ∧ xs.length = ps.length := by
  cases r with
  | ref _ a l _ _ => exact ⟨_, _, _, rfl, rfl, a, l⟩
  | _ => cases e
end
def sqv (t : Bool) (xs : List Vl) : Vl := match t with
  | true => .tup xs
  | false => .lst xs
section
variable {t : Bool} {k m : Nat} {x : Vl} {xs : List Vl} {st : Sto}
theorem itP_sqv : itP (sqv t xs) = xs := by cases t <;> rfl
theorem isSq_sqv : isSq (sqv t xs) = true := by cases t <;> rfl
theorem seqv_sqv : SeqV (sqv t xs) st xs := by
  cases t
  · exact seqv_lst
  · exact seqv_tup
theorem pure_sqv (l : xs.length ≤ 100000) (h : ∀ x ∈ xs, Pure k x) : Pure (k + 1) (sqv t xs) := by
  cases t
  · exact .lst l h
  · exact .tup l h
theorem tg_sqv {m : Nat} : tgOf m (sqv t xs) st = some (if t = true then .tuple else .list) := by cases t <;> rfl
def PL (k : Nat) (xs : List Vl) : Prop := ∀ x ∈ xs, Pure k x
theorem PL.nil : PL k [] := fun x hx => by cases hx
theorem PL.cons (h : Pure k x) (h2 : PL k xs) : PL k (x :: xs) := fun y hy => by
  rcases List.mem_cons.mp hy with rfl | hy
  · exact h
  · exact h2 y hy
theorem pl_lst (h : PL k xs) (l : xs.length ≤ 100000) : Pure (k + 1) (.lst xs) := .lst l h
theorem pl_tup (h : PL k xs) (l : xs.length ≤ 100000) : Pure (k + 1) (.tup xs) := .tup l h
theorem pl_rep (h : Pure k x) (l : m ≤ 100000) : Pure (k + 1) (.lst (List.replicate m [x]).flatten) := by
  have e : (List.replicate m [x]).flatten = List.replicate m x := by
    induction m with
    | zero => rfl
    | succ m ih =>
      rw [List.replicate_succ, List.flatten_cons, ih (by omega)]
      rfl
  rw [e]
  exact .lst (by simpa using l) fun y hy => by rw [List.eq_of_mem_replicate hy]; exact h
end
section
variable {k j m : Nat} {x : Vl} {xs ys : List Vl} {l u : Option Int} {st : Sto} {Q : Vl → Sto → Prop} {X : XP}
theorem PL.app (h : PL k xs) (h2 : PL k ys) : PL k (xs ++ ys) := fun y hy => by
  rcases List.mem_append.mp hy with hy | hy
  · exact h y hy
  · exact h2 y hy
theorem PL.cut (h : PL k xs) : PL k (cutL xs l u) := fun y hy => h y (cut_mem hy)
theorem PL.rev (h : PL k xs) : PL k xs.reverse := fun y hy => h y (List.mem_reverse.mp hy)
theorem PL.up (h : PL k xs) (l : k ≤ j) : PL j xs := fun y hy => (h y hy).mono l
theorem pick_wp {d : Nat} (h : d < xs.length) (p : PL k xs) (q : ∀ x, Pure k x → Q x st) : (kIx (.lst xs) (.int (d : Int)) st).wp Q X := by
  obtain ⟨x, hx⟩ : ∃ x, xs[d]? = some x := ⟨_, List.getElem?_eq_getElem h⟩
  exact ixL_wp hx (q x (p x (List.mem_of_getElem? hx)))
theorem le_line {a b c d : Nat} (h1 : a ≤ c) (h2 : b ≤ d) (h : c + d ≤ 1000) : a + b ≤ sizeLine := by rw [sizeLine_eq]; omega
theorem pl_put {z : Vl} (h : PL k xs) (hz : Pure k z) (hl : xs.length ≤ 100) : Pure (k + 1) (.tup (cutL xs none l ++ [z] ++ cutL xs u none)) := by
  have c1 : (cutL xs none l).length ≤ 100 := Nat.le_trans cut_len hl
  have c2 : (cutL xs u none).length ≤ 100 := Nat.le_trans cut_len hl
  exact .tup (by simp; omega) ((h.cut.app (PL.cons hz PL.nil)).app h.cut)
end
section
variable {b c n k K p : Nat} {v x w y : Vl} {st S S' : Sto} {Q : Vl → Sto → Prop} {X : XP} {xs ys ps : List Vl}
theorem pickP_wp {P : Vl → Prop} {d : Nat} (h : d < xs.length) (p : ∀ x ∈ xs, P x) (q : ∀ x, P x → Q x st) : (kIx (.lst xs) (.int (d : Int)) st).wp Q X := by
  obtain ⟨x, hx⟩ : ∃ x, xs[d]? = some x := ⟨_, List.getElem?_eq_getElem h⟩
  exact ixL_wp hx (q x (p x (List.mem_of_getElem? hx)))
theorem mulR_wp {k : Nat} (e : (st : List Ob)[p]? = some (.lst xs)) (l : xs.length ≤ 1000) (hk : k ≤ 100) (q : Q (.lst (List.replicate k xs).flatten) st) : (opK .mul (.ref p) (.int (k : Int)) st).wp Q X := by
  show (kMul (.ref p) (.int (k : Int)) st).wp Q X
  have : lstOf (.ref p) st = some xs := by unfold lstOf; dsimp only; rw [e]
  unfold kMul
  dsimp only
  rw [this]
  dsimp only
  refine wp_ifk ⟨by omega, by omega, ?_⟩ (by rw [Int.toNat_natCast]; exact q)
  rw [Int.toNat_natCast, sizeLine_eq]
  have := Nat.mul_le_mul l hk
  omega
theorem addL_wp (hx : lstOf x st = some xs) (hy : lstOf y st = some ys) (l1 : xs.length ≤ 1000) (l2 : ys.length ≤ 1000) (q : Q (.lst (xs ++ ys)) st) : (opK .add x y st).wp Q X := by
  show (kAdd x y st).wp Q X
  have go : (match lstOf x st, lstOf y st with
    | some xs, some ys => if xs.length + ys.length ≤ sizeLine then Res.ok (Vl.lst (xs ++ ys)) st else .bad
    | _, _ => .bad : Res Vl).wp Q X := by
    rw [hx, hy]
    exact wp_ifk (by rw [sizeLine_eq]; omega) q
  cases x <;> first | exact go | (cases hx; done)
theorem mulS_wp {z : Str} {k : Nat} (hk : k ≤ 1000) (hz : z.length ≤ 1000) (q : Q (.str (repS z k)) st) : (opK .mul (.str z) (.int (k : Int)) st).wp Q X := by
  show (kMul (.str z) (.int (k : Int)) st).wp Q X
  unfold kMul
  dsimp only
  exact wp_ifk ⟨by omega, by omega, hz⟩ q
theorem flat_len : (List.replicate k xs).flatten.length = k * xs.length := by simp
theorem flat_mem (h : x ∈ (List.replicate k xs).flatten) : x ∈ xs := by
  obtain ⟨l, hl, hx⟩ := List.mem_flatten.mp h
  rw [List.eq_of_mem_replicate hl] at hx
  exact hx
theorem cut_take {α : Type} {xs : List α} {i : Nat} : cutL xs none (some (i : Int)) = xs.take i := by
  unfold cutL
  rw [HT.sIx_nat, HT.sIx_none, List.drop_zero, Nat.sub_zero]
  rcases Nat.le_total i xs.length with h | h
  · rw [Nat.min_eq_left h]
  · rw [Nat.min_eq_right h, List.take_of_length_le (Nat.le_refl _), List.take_of_length_le h]
theorem cut_drop {α : Type} {xs : List α} {i : Nat} : cutL xs (some (i : Int)) none = xs.drop i := by
  unfold cutL
  rw [HT.sIx_nat, HT.sIx_none]
  rcases Nat.le_total i xs.length with h | h
  · rw [Nat.min_eq_left h, List.take_of_length_le (by rw [List.length_drop]; omega)]
  · rw [Nat.min_eq_right h, List.drop_of_length_le (Nat.le_refl _), List.drop_of_length_le h, List.take_nil]
theorem cut_last {α : Type} {xs : List α} (h : 1 ≤ xs.length) : cutL xs none (some (-1)) = xs.take (xs.length - 1) := by
  unfold cutL
  rw [HT.sIx_none, List.drop_zero, Nat.sub_zero]
  congr 1
  unfold HT.sIx
  simp
  omega
theorem dec_int {a b : Nat} : decide ((a : Int) = (b : Int)) = decide (a = b) := by
  by_cases e : a = b
  · rw [decide_eq_true e, decide_eq_true (by omega)]
  · rw [decide_eq_false e, decide_eq_false (by omega)]
theorem zip_map2 {α β γ : Type} {g : β → γ} : ∀ {l : List α} {m : List β}, l.length = m.length → ((l.zip m).map fun z => g z.2) = m.map g
  | [], [], _ => rfl
  | a :: l, b :: m, h => by rw [List.zip_cons_cons, List.map_cons, List.map_cons, zip_map2 (by simpa using h)]
  | [], _ :: _, h => by simp at h
  | _ :: _, [], h => by simp at h
theorem Bx.all {S S' : Sto} {b K : Nat} (h : Bx b K S) (e : ∀ c, Ext c S S') : Bx b K S' := h.ext (e (S : List Ob).length) (Nat.ne_of_lt h.lt)
end
/-- the rows stand in cells of their own -/
structure RH (b : Nat) (st S : Sto) (hs : List Nat) (R : List (List Vl)) : Prop where
  ln : hs.length = R.length
  at_ : ∀ (i h : Nat) (r : List Vl), hs[i]? = some h → R[i]? = some r → (S : List Ob)[h]? = some (.lst r) ∧ (st : List Ob).length ≤ h ∧ h ≠ b
  nd : ∀ i j h : Nat, hs[i]? = some h → hs[j]? = some h → i = j
section
variable {b : Nat} {st S S' : Sto} {X : XP} {R : List (List Vl)} {hs : List Nat}
theorem RH.ext (h : RH b st S hs R) (e : Ext b S S') : RH b st S' hs R := ⟨h.ln, fun i a r h1 h2 => by
  obtain ⟨h3, h4, h5⟩ := h.at_ i a r h1 h2
  exact ⟨e.get h3 h5, h4, h5⟩, h.nd⟩
theorem rows_comp {α : Type} {W : List α} (enc : α → Vl) (f : α → List Vl) {set : Vl → Ev → Option Ev} {te : FE} {sk : Src} {env : Ev} {Q : List Vl → Sto → Prop} (hb : b < (st : List Ob).length) (hs : ∀ s : Sto, (∀ c, Ext c st s) → sk.ok s = true)
    (hi : ∀ r ∈ W, ∀ s : Sto, setW set (enc r) env fun e2 => ∀ Q' : Vl → Sto → Prop, Q' (.ref (s : List Ob).length) ((s : List Ob) ++ [.lst (f r)]) → (te e2 s).wp Q' nX)
    (q : ∀ (hs : List Nat) (S' : Sto), RH b st S' hs (W.map f) → (∀ c, Ext c st S') → Q (hs.map .ref) S') : (compF set tYesF te sk (W.map enc) env st).wp Q X := by
  refine compA_wp enc W (fun ws s => ∃ k, k ≤ W.length ∧ ws = (List.range k).map (fun i => Vl.ref ((st : List Ob).length + i)) ∧ (s : List Ob) = (st : List Ob) ++ (((W.take k).map fun r => Ob.lst (f r)))) rfl ⟨0, by omega, rfl, by simp⟩ (fun k a s ws ha ⟨j, hj, hw, hS⟩ hl => ?_) fun ws s ⟨j, hj, hw, hS⟩ hl => ?_
  · obtain rfl : j = k := by
      rw [hw, List.length_map, List.length_range] at hl
      exact hl
    have kl : j < W.length := (List.getElem?_eq_some_iff.mp ha).1
    have sl : (s : List Ob).length = (st : List Ob).length + j := by
      rw [hS, List.length_append, List.length_map, List.length_take]
      omega
    obtain ⟨e2, h1, h2⟩ := hi a (List.mem_of_getElem? ha) s
    refine ⟨e2, h1, h2 _ ?_⟩
    have hS2 : ((s : List Ob) ++ [.lst (f a)] : List Ob) = (st : List Ob) ++ ((W.take (j + 1)).map fun r => Ob.lst (f r)) := by
      rw [List.take_succ, ha, List.map_append, ← List.append_assoc, hS]
      rfl
    refine ⟨hs _ fun c => ?_, j + 1, kl, ?_, hS2⟩
    · have : Ext c st ((st : List Ob) ++ ((W.take (j + 1)).map fun r => Ob.lst (f r))) := Ext.app
      rw [← hS2] at this
      exact this
    · rw [List.range_succ, List.map_append, hw, sl]
      rfl
  · have jl : j = W.length := by
      rw [hw, List.length_map, List.length_range] at hl
      exact hl
    subst jl
    rw [List.take_length] at hS
    have := q ((List.range W.length).map fun i => (st : List Ob).length + i) s ⟨by simp, fun i h r h1 h2 => ?_, fun i j h h1 h2 => ?_⟩ fun c => by
      have : Ext c st ((st : List Ob) ++ (W.map fun r => Ob.lst (f r))) := Ext.app
      rw [← hS] at this
      exact this
    · rw [List.map_map] at this
      rw [hw]
      exact this
    · rw [List.getElem?_map] at h1
      have il : i < W.length := by have := (List.getElem?_eq_some_iff.mp h2).1; simpa using this
      rw [List.getElem?_range il] at h1
      obtain rfl : (st : List Ob).length + i = h := Option.some.inj h1
      refine ⟨?_, by omega, by omega⟩
      show (s : List Ob)[(st : List Ob).length + i]? = _
      obtain ⟨r0, hr0, rfl⟩ : ∃ r0, W[i]? = some r0 ∧ f r0 = r := by
        rw [List.getElem?_map] at h2
        cases e : W[i]? with
        | none => rw [e] at h2; cases h2
        | some r0 => rw [e] at h2; exact ⟨r0, rfl, Option.some.inj h2⟩
      rw [hS, List.getElem?_append_right (by omega), Nat.add_sub_cancel_left, List.getElem?_map, hr0]
      rfl
    · have il : i < W.length := by have := (List.getElem?_eq_some_iff.mp h1).1; simpa using this
      have jl : j < W.length := by have := (List.getElem?_eq_some_iff.mp h2).1; simpa using this
      rw [List.getElem?_map, List.getElem?_range il] at h1
      rw [List.getElem?_map, List.getElem?_range jl] at h2
      have h1 : (st : List Ob).length + i = h := Option.some.inj h1
      have h2 : (st : List Ob).length + j = h := Option.some.inj h2
      omega
end
section
variable {b c n k : Nat} {st S S0 S' : Sto} {v p x m' w' mp : Vl} {xs : List Vl} {h : Nat}
theorem Rc.its (r : Rc b S (k + 1) v p) (e : isSq p = true) : ∃ xs, SeqV v S xs ∧ xs.length = (itP p).length ∧ ∀ (i : Nat) (x q : Vl), xs[i]? = some x → (itP p)[i]? = some q → Rc b S k x q := by
  cases r with
  | tup l _ r => exact ⟨_, seqv_tup, l, r⟩
  | ref _ a l _ r => exact ⟨_, seqv_ref a, l, r⟩
  | _ => cases e
theorem no_cycle (a : (S : List Ob)[h]? = some (.lst xs)) {i : Nat} (hx : xs[i]? = some (.ref h)) : ∀ {k : Nat} {p : Vl}, Rc b S k (.ref h) p → False
  | 0, p, r => by cases r
  | k + 1, p, r => by
    cases r with
    | @ref k h xs' ps n a' l _ r =>
      rw [a] at a'
      cases a'
      obtain ⟨q, hq⟩ : ∃ q, ps[i]? = some q := ⟨_, List.getElem?_eq_getElem (by have := (List.getElem?_eq_some_iff.mp hx).1; omega)⟩
      exact no_cycle a hx (r i _ q hx hq)
theorem seqv_put {o : Ob} (s : SeqV v S xs) (n : v ≠ .ref h) : SeqV v ((S : List Ob).set h o) xs := by
  refine ⟨s.s, ?_⟩
  have q := s.q
  cases v with
  | ref g =>
    unfold seqOf at q ⊢
    dsimp only at q ⊢
    rw [List.getElem?_set_ne fun e => n (by rw [e])]
    exact q
  | _ => exact q
end
end TW
set_option maxHeartbeats 4000000
namespace TW
open PySem
open L2 (Key)
/-- what the copy of arguments is -/
structure Twins (k : Nat) (st S0 : Sto) (ps ws : List Vl) : Prop where
  e : ∀ c, Ext c st S0
  l : ws.length = ps.length
  r : ∀ (i : Nat) (w p : Vl), ws[i]? = some w → ps[i]? = some p → ∀ c, c < (st : List Ob).length → Rc c S0 k w p
  ne : ∀ (i j h : Nat), i < j → ws[i]? = some (.ref h) → ws[j]? ≠ some (.ref h)
section
variable {b c k n a : Nat} {v w p d x : Vl} {st S S0 S' : Sto} {Q : Vl → Sto → Prop} {X : XP} {vs ws ps xs : List Vl} {h : Nat}
theorem Twins.fr (T : Twins k st S0 ps ws) {i : Nat} (e : ws[i]? = some (.ref h)) : (st : List Ob).length ≤ h := by
  rcases Nat.lt_or_ge h (st : List Ob).length with l | l
  · obtain ⟨p, hp⟩ : ∃ p, ps[i]? = some p := ⟨_, List.getElem?_eq_getElem (by have := (List.getElem?_eq_some_iff.mp e).1; have := T.l; omega)⟩
    have := T.r i _ p e hp h l
    cases this with
    | ref n _ _ _ _ => exact absurd rfl n
  · exact l
theorem twins_gen {P : Nat → Pr} {j : Nat} (hP : ∀ n, (P (n + 1)).F j = runF 2 (eb (P n) (twinBk j))) (hl : 0 < (st : List Ob).length) (len : vs.length = ps.length) (r : ∀ (i : Nat) (v p : Vl), vs[i]? = some v → ps[i]? = some p → Rd b st k v p) (hk : k < n)
    (q : ∀ S0 ws, Twins k st S0 ps ws → Q (.ref (S0 : List Ob).length) ((S0 : List Ob) ++ [.lst ws])) : ((P (n + 1)).F j [.lst vs] st).wp Q X := by
  rw [hP]
  refine run_wp ?_
  unfold twinBk
  walk_at "w"
  refine compA_wp id vs (fun ws s => (∀ c, Ext c st s) ∧ (∀ (i : Nat) (w p : Vl), ws[i]? = some w → ps[i]? = some p → ∀ c, c < (st : List Ob).length → Rc c s k w p) ∧ ∀ (i j h : Nat), i < j → ws[i]? = some (.ref h) → ws[j]? ≠ some (.ref h)) (List.map_id _).symm ⟨fun _ => Ext.refl, fun i w p h => by simp at h, fun i j h _ h' => by simp at h'⟩ (fun i x s ws hx ⟨hE, hR, hN⟩ hl' => ?_) fun ws s ⟨hE, hR, hN⟩ hl' => ?_
  · refine set_by rfl ?_
    walk_at "w"
    obtain ⟨p, hp⟩ : ∃ p, ps[i]? = some p := ⟨_, List.getElem?_eq_getElem (by have := (List.getElem?_eq_some_iff.mp hx).1; omega)⟩
    refine twin_gen hP n ((r i x p hx hp).ext (hE b)) hk fun v' S' hE' hR' => ?_
    refine ⟨skv rfl, fun c => (hE c).trans (hE' c), fun i' w p' hw hp' c hc => ?_, fun i' j' h lt hw hw' => ?_⟩
    · rcases Nat.lt_or_ge i' ws.length with z | z
      · rw [List.getElem?_append_left z] at hw
        exact (hR i' w p' hw hp' c hc).ext (hE' c)
      · rw [List.getElem?_append_right z] at hw
        have e : i' - ws.length = 0 := by
          have := (List.getElem?_eq_some_iff.mp hw).1
          simp at this
          omega
        rw [e] at hw
        cases hw
        obtain rfl : i' = i := by omega
        rw [hp] at hp'
        cases hp'
        exact hR' c (Nat.lt_of_lt_of_le hc (hE c).len)
    · rcases Nat.lt_or_ge j' ws.length with z | z
      · rw [List.getElem?_append_left (by omega)] at hw
        rw [List.getElem?_append_left z] at hw'
        exact hN i' j' h lt hw hw'
      · rw [List.getElem?_append_right z] at hw'
        have e : j' - ws.length = 0 := by
          have := (List.getElem?_eq_some_iff.mp hw').1
          simp at this
          omega
        rw [e] at hw'
        cases hw'
        rw [List.getElem?_append_left (by omega)] at hw
        obtain ⟨p2, hp2⟩ : ∃ p, ps[i']? = some p := ⟨_, List.getElem?_eq_getElem (by have := (List.getElem?_eq_some_iff.mp hp).1; omega)⟩
        have r0 := hR i' _ p2 hw hp2 0 hl
        have hlt : h < (s : List Ob).length := by
          cases r0 with
          | ref _ a _ _ _ => exact (List.getElem?_eq_some_iff.mp a).1
        have := hR' h hlt
        cases this with
        | ref n _ _ _ _ => exact n rfl
  · walk_at "w"
    exact q s ws ⟨hE, by rw [hl', len], hR, hN⟩
/-- what is done with the copies in the end -/
def moreBk : Bk := .cons (.ifs (.an (.tr (.isi [.list] (.b 5))) (.one (.tr (.isi [.list] (.ix (.v 3) (.k (.int 1)))))))
    (.cons (.app 5 (.k (.str "more")))
    (.nil))
    (.nil))
   (.nil)
abbrev moreV : Vl := .str "more"
theorem more_gen {P : Pr} {t : Str} {x0 x1 x4 x5 : Option Sl} {Qf : Fl → Sto → Prop} {dt : Tg} (T : Twins k st S ps ws) (hl : 0 < (st : List Ob).length) (hS : (S' : List Ob) = (S : List Ob) ++ [.lst ws]) (ha : a = (S : List Ob).length) (wl : ws.length ≤ 100)
    (hd : ∀ s : Sto, (∀ c, Ext c st s) → ∀ m, tgOf m d s = some dt)
    (q : ∀ x5 S2, (∀ c, Ext c st S2) → (dt = .list → ∀ (i h : Nat) (xs : List Vl), ws[i]? = some (.ref h) → (S' : List Ob)[h]? = some (.lst xs) → (S2 : List Ob)[h]? = some (.lst (xs ++ [moreV]))) → Qf (.nx [x0, x1, some (.val (.ref a)), some (.val (.lst [.str t, d])), x4, x5]) S2) :
    (es P (.for_ (.n 5) (.seq (.v 2)) moreBk) [x0, x1, some (.val (.ref a)), some (.val (.lst [.str t, d])), x4, x5] S').wp Qf X := by
  have lst : ∀ t : Tg, ([Tg.list].any fun u => tgSub t u) = decide (t = .list) := fun t => by cases t <;> rfl
  have a0 : (S' : List Ob)[a]? = some (.lst ws) := by rw [hS, ha]; simp
  have E0 : ∀ c, Ext c st S' := fun c => by
    have : Ext c st ((S : List Ob) ++ [.lst ws]) := (T.e c).trans Ext.app
    rw [← hS] at this
    exact this
  have rc : ∀ (i : Nat) (w p : Vl), ws[i]? = some w → ps[i]? = some p → Rc 0 S' k w p := fun i w p h1 h2 => by
    have := (T.r i w p h1 h2 0 hl).ext (Ext.app (xs := [.lst ws]))
    rw [← hS] at this
    exact this
  have pw : ∀ (i : Nat) (w : Vl), ws[i]? = some w → ∃ p, ps[i]? = some p := fun i w h => ⟨_, List.getElem?_eq_getElem (by have := (List.getElem?_eq_some_iff.mp h).1; have := T.l; omega)⟩
  have la : ∀ (i h : Nat), ws[i]? = some (.ref h) → h < a := fun i h e => by
    obtain ⟨p, hp⟩ := pw i _ e
    have := T.r i _ p e hp 0 hl
    cases this with
    | ref _ a' _ _ _ => rw [ha]; exact (List.getElem?_eq_some_iff.mp a').1
  have ref0 : ∀ (i h : Nat), ws[i]? = some (.ref h) → ∃ xs, (S' : List Ob)[h]? = some (.lst xs) ∧ xs.length ≤ 100000 := fun i h e => by
    obtain ⟨p, hp⟩ := pw i _ e
    have := rc i _ p e hp
    cases this with
    | ref _ a' l l5 _ => exact ⟨_, a', by omega⟩
  unfold moreBk
  walk_at "w"
  refine seq_by (seqv_ref a0).q ?_
  by_cases ed : dt = .list
  · refine for_wp id ws (fun j env s => (∃ x5, env = [x0, x1, some (.val (.ref a)), some (.val (.lst [.str t, d])), x4, x5]) ∧ (∀ c, Ext c st s) ∧ (s : List Ob)[a]? = some (.lst ws) ∧ ∀ (i h : Nat) (xs : List Vl), ws[i]? = some (.ref h) → (S' : List Ob)[h]? = some (.lst xs) → (s : List Ob)[h]? = some (.lst (if i < j then xs ++ [moreV] else xs))) (List.map_id _).symm ⟨⟨_, rfl⟩, E0, a0, fun i h xs _ e => by rw [if_neg (Nat.not_lt_zero _)]; exact e⟩ ?_ ?_
    · rintro j w env s hw ⟨⟨y5, rfl⟩, hE, ha0, hI⟩
      obtain ⟨p, hp⟩ := pw j w hw
      have r0 := rc j w p hw hp
      have tw : ∀ m, tgOf m w s = some (pT p) := fun m => by
        cases r0 with
        | @ref _ h xs _ _ a' _ _ _ =>
          have := hI j h xs hw a'
          unfold tgOf
          dsimp only
          rw [this]
          rfl
        | _ => rfl
      refine set_by rfl ?_
      dsimp only [id]
      walk_at "w"
      refine tg_by (tw _) ?_
      rw [lst]
      by_cases e : pT p = .list
      · rw [decide_eq_true e]
        walk_at "w"
        refine tg_by (hd _ hE _) ?_
        rw [lst, decide_eq_true ed]
        walk_at "w"
        obtain ⟨h, rfl⟩ : ∃ h, w = .ref h := by
          cases r0 with
          | ref => exact ⟨_, rfl⟩
          | _ => cases e
        obtain ⟨xs, hx0, xl⟩ := ref0 j h hw
        have hx := hI j h xs hw hx0
        rw [if_neg (Nat.lt_irrefl _)] at hx
        refine m_appR rfl hx ?_
        walk_at "w"
        refine ⟨xs, hx, by rw [sizeLine_eq]; omega, ?_⟩
        walk_at "w"
        have hla := la j h hw
        have na : h ≠ a := by omega
        have ha2 : ((s : List Ob).set h (.lst (xs ++ [moreV])) : List Ob)[a]? = some (.lst ws) := by rw [List.getElem?_set_ne na]; exact ha0
        refine fq_nx (skv (seqv_ref ha2).q) ⟨⟨_, rfl⟩, fun c => (hE c).put (T.fr hw), ha2, fun i h' ys hi hy => ?_⟩
        by_cases eh : h' = h
        · subst eh
          have ij : i = j := by
            rcases Nat.lt_trichotomy i j with z | z | z
            · exact absurd hw (T.ne i j h' z hi)
            · exact z
            · exact absurd hi (T.ne j i h' z hw)
          rw [hx0] at hy
          cases hy
          rw [if_pos (by omega)]
          exact List.getElem?_set_self (List.getElem?_eq_some_iff.mp hx).1
        · have := hI i h' ys hi hy
          rw [List.getElem?_set_ne (Ne.symm eh), this]
          have ij : i ≠ j := fun z => by
            subst z
            rw [hi] at hw
            cases hw
            exact eh rfl
          by_cases l2 : i < j
          · rw [if_pos l2, if_pos (by omega)]
          · rw [if_neg l2, if_neg (by omega)]
      · rw [decide_eq_false e]
        walk_at "w"
        refine fq_nx (skv (seqv_ref ha0).q) ⟨⟨_, rfl⟩, hE, ha0, fun i h' ys hi hy => ?_⟩
        have := hI i h' ys hi hy
        rw [this]
        have ij : i ≠ j := fun z => by
          subst z
          rw [hi] at hw
          cases hw
          cases r0 with
          | ref => exact e rfl
        by_cases l2 : i < j
        · rw [if_pos l2, if_pos (by omega)]
        · rw [if_neg l2, if_neg (by omega)]
    · rintro env s ⟨⟨y5, rfl⟩, hE, ha0, hI⟩
      refine q y5 s hE fun _ i h xs hi hy => ?_
      have := hI i h xs hi hy
      rw [if_pos (List.getElem?_eq_some_iff.mp hi).1] at this
      exact this
  · refine for_wp id ws (fun j env s => (∃ x5, env = [x0, x1, some (.val (.ref a)), some (.val (.lst [.str t, d])), x4, x5]) ∧ s = S') (List.map_id _).symm ⟨⟨_, rfl⟩, rfl⟩ ?_ ?_
    · rintro j w env s hw ⟨⟨y5, rfl⟩, rfl⟩
      obtain ⟨p, hp⟩ := pw j w hw
      have r0 := rc j w p hw hp
      refine set_by rfl ?_
      dsimp only [id]
      walk_at "w"
      refine tg_by (r0.rd.tg _) ?_
      rw [lst]
      by_cases e : pT p = .list
      · rw [decide_eq_true e]
        walk_at "w"
        refine tg_by (hd _ E0 _) ?_
        rw [lst, decide_eq_false ed]
        walk_at "w"
        exact fq_nx (skv (seqv_ref a0).q) ⟨⟨_, rfl⟩, rfl⟩
      · rw [decide_eq_false e]
        walk_at "w"
        exact fq_nx (skv (seqv_ref a0).q) ⟨⟨_, rfl⟩, rfl⟩
    · rintro env s ⟨⟨y5, rfl⟩, rfl⟩
      exact q y5 s E0 fun z => absurd z ed
end
end TW
set_option maxHeartbeats 4000000
namespace K07
open TW PySem
open L2 (Key)
abbrev natL (l : List Nat) : List Vl := l.map fun i : Nat => Vl.int (i : Int)
theorem natL_ints (l : List Nat) : natL l = (l.map fun i : Nat => (i : Int)).map Vl.int := by unfold natL; rw [List.map_map]; rfl
abbrev cellV (c : Option (List Nat)) : Vl := match c with
  | none => .non
  | some l => .tup (natL l)
/-- states, ascending, not none -/
structure SetOk (N : Nat) (l : List Nat) : Prop where
  ne : l ≠ []
  lt : ∀ i ∈ l, i < N
  up : l.Pairwise (· < ·)
def CellOk (N : Nat) (c : Option (List Nat)) : Prop := ∀ l, c = some l → SetOk N l
structure Wk where
  D : Nat
  A : Nat
  sig : List Nat
  S : List (List (List (Option (List Nat))))
abbrev Wk.N (W : Wk) : Nat := W.sig.length
structure Wk.Ok (W : Wk) : Prop where
  d1 : 1 ≤ W.D
  d6 : W.D ≤ 6
  a1 : 1 ≤ W.A
  a6 : W.A ≤ 6
  n1 : 1 ≤ W.N
  n2 : W.N ≤ 120
  sg : ∀ s ∈ W.sig, s ≤ 31
  sl : W.S.length = W.N
  rl : ∀ r ∈ W.S, r.length = W.D
  cl : ∀ r ∈ W.S, ∀ row ∈ r, row.length = W.A
  ok : ∀ r ∈ W.S, ∀ row ∈ r, ∀ c ∈ row, CellOk W.N c
def Wk.at (W : Wk) (s d a : Nat) : Option (List Nat) := ((((W.S[s]?).getD [])[d]?).getD [])[a]?.getD none
theorem Wk.Ok.get {W : Wk} (h : W.Ok) {s d a : Nat} (hs : s < W.N) (hd : d < W.D) (ha : a < W.A) : ∃ r row, W.S[s]? = some r ∧ r[d]? = some row ∧ row[a]? = some (W.at s d a) ∧ CellOk W.N (W.at s d a) := by
  obtain ⟨r, hr⟩ : ∃ r, W.S[s]? = some r := ⟨_, List.getElem?_eq_getElem (by rw [h.sl]; exact hs)⟩
  have rm := List.mem_of_getElem? hr
  obtain ⟨row, hrow⟩ : ∃ row, r[d]? = some row := ⟨_, List.getElem?_eq_getElem (by rw [h.rl r rm]; exact hd)⟩
  have wm := List.mem_of_getElem? hrow
  obtain ⟨c, hc⟩ : ∃ c, row[a]? = some c := ⟨_, List.getElem?_eq_getElem (by rw [h.cl r rm row wm]; exact ha)⟩
  have e : W.at s d a = c := by unfold Wk.at; rw [hr]; simp only [Option.getD_some]; rw [hrow]; simp only [Option.getD_some]; rw [hc]; rfl
  rw [e]
  exact ⟨r, row, hr, hrow, hc, h.ok r rm row wm c (List.mem_of_getElem? hc)⟩
abbrev rowsL (S : List (List (List (Option (List Nat))))) : List Vl := S.map fun r => Vl.lst (r.map fun row => .lst (row.map cellV))
abbrev stepsT (W : Wk) : Vl := .tup (W.S.map fun r => .tup (r.map fun row => .tup (row.map cellV)))
abbrev worksV (W : Wk) (sv : Vl) : Vl := .lst [.int (W.D : Int), .int (W.A : Int), .tup (natL W.sig), sv]
abbrev madeV (W : Wk) : Vl := .obj c_Works [.int (W.D : Int), .int (W.A : Int), .tup (natL W.sig), stepsT W]
def toI : Vl → Int
  | .int i => i
  | _ => 0
def ascI (ns : List Int) : Bool := (List.range (ns.length - 1)).all fun i => decide (ns.getD i 0 < ns.getD (i + 1) 0)
def statesB (N : Nat) (v : Vl) : Bool := match v with
  | .tup xs => (xs.all fun x => btw x 0 ((N : Int) - 1)) && ascI (xs.map toI)
  | _ => false
theorem statesB_tup {N : Nat} {xs : List Vl} : statesB N (.tup xs) = ((xs.all fun x => btw x 0 ((N : Int) - 1)) && ascI (xs.map toI)) := rfl
def someB (N : Nat) (v : Vl) : Bool := statesB N v && decide (0 < (itP v).length)
theorem btw_toI {x : Vl} {lo hi : Int} (h : btw x lo hi = true) : x = .int (toI x) := by
  obtain ⟨i, rfl, _⟩ := btw_ex h
  rfl
theorem all_toI {xs : List Vl} {lo hi : Int} (h : (xs.all fun x => btw x lo hi) = true) : xs = (xs.map toI).map .int := by
  rw [List.map_map]
  have : xs = xs.map (Vl.int ∘ toI) := by
    conv => lhs; rw [← List.map_id' xs]
    exact List.map_congr_left fun x hx => btw_toI (List.all_eq_true.mp h x hx)
  exact this
section
variable {n N k : Nat} {lo hi : Int} {xs : List Vl} {v p : Vl} {l : List Nat} {st : Sto} {Q : Vl → Sto → Prop} {X : XP} {W : Wk}
theorem asc_set (h : SetOk N l) : someB N (.tup (natL l)) = true := by
  have e : (natL l).map toI = l.map fun i : Nat => (i : Int) := by unfold natL; rw [List.map_map]; rfl
  unfold someB
  rw [statesB_tup, e, Bool.and_eq_true, Bool.and_eq_true]
  refine ⟨⟨List.all_eq_true.mpr fun x hx => ?_, ?_⟩, ?_⟩
  · obtain ⟨i, hi, rfl⟩ := List.mem_map.mp hx
    have := h.lt i hi
    rw [btw_int, Bool.and_eq_true, decide_eq_true_eq, decide_eq_true_eq]
    omega
  · unfold ascI
    refine List.all_eq_true.mpr fun i hi => ?_
    have il := List.mem_range.mp hi
    rw [List.length_map] at il
    rw [decide_eq_true_eq, List.getD_eq_getElem?_getD, List.getD_eq_getElem?_getD, List.getElem?_map, List.getElem?_map, List.getElem?_eq_getElem (by omega : i < l.length), List.getElem?_eq_getElem (by omega : i + 1 < l.length)]
    have := List.pairwise_iff_getElem.mp h.up i (i + 1) (by omega) (by omega) (by omega)
    simp only [Option.map_some, Option.getD_some]
    omega
  · have := List.length_pos_iff.mpr h.ne
    rw [decide_eq_true_eq]
    show 0 < (natL l).length
    rw [List.length_map]
    exact this
theorem are_between_wp (h : SeqV v st xs) (ht : ∀ x ∈ xs, Tgd x st) (q : Q (.bl (xs.all fun x => btw x lo hi)) st) : ((L.pr (n + 3)).F f_are_between [v, .int lo, .int hi] st).wp Q X := by
  refine u_are_between ?_
  unfold b_are_between
  walk_at "w"
  refine seq_by h.q ?_
  refine compM_wp (fun x : Vl => x) xs (fun x => Vl.bl (btw x lo hi)) (List.map_id' _).symm (skv h.q) (fun x hx => ?_) ?_
  · refine set_by rfl ?_
    walk_at "w"
    exact is_between_wp (ht x hx) ⟨rfl, rfl⟩
  walk_at "w"
  refine all_wp ?_
  walk_at "w"
  exact q
theorem is_ascending_wp {ns : List Int} (h : SeqV v st (ns.map .int)) (hn : ns.length ≤ 100000) (q : Q (.bl (ascI ns)) st) : ((L.pr (n + 1)).F f_is_ascending [v] st).wp Q X := by
  refine u_is_ascending ?_
  unfold b_is_ascending
  walk_at "w"
  refine len_wp h.len ?_
  rw [List.length_map]
  walk_at "w"
  have e : rngL 0 ((ns.length : Int) - 1).toNat = (List.range (ns.length - 1)).map fun i : Nat => Vl.int (i : Int) := by
    rw [show ((ns.length : Int) - 1).toNat = ns.length - 1 by omega, rngL_nat]
  rw [e]
  refine compM_wp (fun i : Nat => Vl.int (i : Int)) (List.range (ns.length - 1)) (fun i => .bl (decide (ns.getD i 0 < ns.getD (i + 1) 0))) rfl src_ok_nil (fun i hi => ?_) ?_
  · have il := List.mem_range.mp hi
    have g1 : (ns.map Vl.int)[i]? = some (.int (ns.getD i 0)) := by rw [List.getElem?_map, List.getD_eq_getElem?_getD, List.getElem?_eq_getElem (by omega : i < ns.length)]; rfl
    have g2 : (ns.map Vl.int)[i + 1]? = some (.int (ns.getD (i + 1) 0)) := by rw [List.getElem?_map, List.getD_eq_getElem?_getD, List.getElem?_eq_getElem (by omega : i + 1 < ns.length)]; rfl
    refine set_by rfl ?_
    walk_at "w"
    refine ix_wp i h.s h.q g1 ?_
    walk_at "w"
    rw [show ((i : Int) + 1) = ((i + 1 : Nat) : Int) by omega]
    refine ix_wp (i + 1) h.s h.q g2 ?_
    walk_at "w"
    exact ⟨rfl, rfl⟩
  · walk_at "w"
    refine all_wp ?_
    walk_at "w"
    exact q
theorem is_states_wp (hp : Pure k (.tup xs)) (hn : xs.length ≤ 100000) (q : Q (.bl (statesB N (.tup xs))) st) : ((L.pr (n + 4)).F f_is_states [.tup xs, .int (N : Int)] st).wp Q X := by
  refine u_is_states ?_
  unfold b_is_states
  walk_at "w"
  refine are_between_wp (n := n) seqv_tup (fun x hx => ?_) ?_
  · cases hp with
    | tup _ hx' => exact Tgd.of (hx' x hx)
  rw [statesB_tup] at q
  cases hb : xs.all fun x => btw x 0 ((N : Int) - 1) with
  | false =>
    rw [hb, Bool.false_and] at q
    walk_at "w"
    exact q
  | true =>
    rw [hb, Bool.true_and] at q
    have e := all_toI hb
    walk_at "w"
    refine is_ascending_wp (ns := xs.map toI) (n := n + 2) (by rw [← e]; exact seqv_tup) (by rw [List.length_map]; exact hn) ?_
    walk_at "w"
    exact q
theorem is_states_no {t : Tg} (ht : tgOf L.nm.cls.length v st = some t) (h : t ≠ .tuple) (q : Q (.bl false) st) : ((L.pr (n + 1)).F f_is_states [v, .int (N : Int)] st).wp Q X := by
  refine u_is_states ?_
  unfold b_is_states
  walk_at "w"
  refine tg_by (by rw [pr_ncls]; exact ht) ?_
  rw [show ([Tg.tuple].any fun u => tgSub t u) = false by show (tgSub t .tuple || false) = _; cases t <;> first | rfl | exact absurd rfl h]
  walk_at "w"
  exact q
theorem is_some_wp (hp : Pure k (.tup xs)) (hn : xs.length ≤ 100000) (q : Q (.bl (someB N (.tup xs))) st) : ((L.pr (n + 5)).F f_is_some_states [.tup xs, .int (N : Int)] st).wp Q X := by
  refine u_is_some_states ?_
  unfold b_is_some_states
  walk_at "w"
  refine is_states_wp (n := n) hp hn ?_
  unfold someB at q
  cases hb : statesB N (.tup xs) with
  | false =>
    rw [hb, Bool.false_and] at q
    walk_at "w"
    exact q
  | true =>
    rw [hb, Bool.true_and] at q
    walk_at "w"
    rw [show decide ((0 : Int) < (xs.length : Int)) = decide (0 < (itP (.tup xs)).length) by rw [decide_eq_decide]; show _ ↔ 0 < xs.length; omega]
    exact q
theorem is_some_no {t : Tg} (ht : tgOf L.nm.cls.length v st = some t) (h : t ≠ .tuple) (q : Q (.bl false) st) : ((L.pr (n + 2)).F f_is_some_states [v, .int (N : Int)] st).wp Q X := by
  refine u_is_some_states ?_
  unfold b_is_some_states
  walk_at "w"
  refine is_states_no ht h ?_
  walk_at "w"
  exact q
theorem pure_nat : Pure 1 (.tup (natL l)) ∨ 100000 < l.length := by
  by_cases h : l.length ≤ 100000
  · exact .inl (.tup (by rw [List.length_map]; exact h) fun x hx => by obtain ⟨i, _, rfl⟩ := List.mem_map.mp hx; exact .int)
  · exact .inr (by omega)
theorem set_len (h : SetOk N l) : l.length ≤ N := by
  have go : ∀ (l : List Nat) (lo : Nat), l.Pairwise (· < ·) → (∀ i ∈ l, lo ≤ i ∧ i < N) → lo + l.length ≤ N ∨ l = [] := by
    intro l
    induction l with
    | nil => exact fun _ _ _ => .inr rfl
    | cons a as ih =>
      intro lo hp hb
      have hp' := List.pairwise_cons.mp hp
      have ha := hb a (List.mem_cons_self ..)
      left
      rw [List.length_cons]
      rcases ih (a + 1) hp'.2 (fun i hi => ⟨hp'.1 i hi, (hb i (List.mem_cons_of_mem _ hi)).2⟩) with h | h
      · omega
      · subst h
        simp
        omega
  rcases go l 0 h.up (fun i hi => ⟨Nat.zero_le _, h.lt i hi⟩) with h | h
  · omega
  · subst h
    exact Nat.zero_le _
theorem is_some_set (h : SetOk N l) (hN : N ≤ 1000) (q : Q (.bl true) st) : ((L.pr (n + 5)).F f_is_some_states [.tup (natL l), .int (N : Int)] st).wp Q X := by
  have l1 := set_len h
  have p : Pure 1 (.tup (natL l)) := pure_nat.elim id fun h => by omega
  refine is_some_wp (k := 1) p (by rw [List.length_map]; omega) ?_
  rw [asc_set h]
  exact q
theorem check_begin_wp (h : SetOk W.N l) (hN : W.N ≤ 1000) (q : Q .non st) : ((L.pr (n + 7)).F f_check_begin [madeV W, .tup (natL l)] st).wp Q X := by
  refine u_check_begin ?_
  unfold b_check_begin
  walk_at "w"
  rw [List.length_map]
  refine u_check_begin_of ?_
  unfold b_check_begin_of
  walk_at "w"
  refine is_some_set (n := n) h hN ?_
  walk_at "w"
  exact q
end
end K07
set_option maxHeartbeats 4000000
namespace K07
open TW PySem
open L2 (Key)
section
variable {n k : Nat} {v sv : Vl} {l : List Nat} {st : Sto} {Q : Vl → Sto → Prop} {X : XP} {W : Wk}
theorem is_steps_wp (h : W.Ok) (q : Q (.bl true) st) : ((L.pr (n + 7)).F f_is_steps [.lst (rowsL W.S), .int (W.N : Int), .int (W.D : Int), .int (W.A : Int)] st).wp Q X := by
  have n2 := h.n2
  refine u_is_steps ?_
  unfold b_is_steps
  walk_at "w"
  refine is_list_of_wp seqv_lst (.inl rfl) ?_
  rw [List.length_map, h.sl, decide_eq_true (Int.le_refl _)]
  walk_at "w"
  refine for_wp (fun r : List (List (Option (List Nat))) => Vl.lst (r.map fun row => .lst (row.map cellV))) W.S (fun _ env s => s = st ∧ ∃ x y z, env = [some (.val (.lst (rowsL W.S))), some (.val (.int (W.N : Int))), some (.val (.int (W.D : Int))), some (.val (.int (W.A : Int))), x, y, z]) rfl ⟨rfl, none, none, none, rfl⟩ (fun k r env s hr hi => ?_) fun env s hi => ?_
  · obtain ⟨rfl, x, y, z, rfl⟩ := hi
    have rm := List.mem_of_getElem? hr
    refine set_by rfl ?_
    dsimp only [dz_set0, dz_set1]
    walk_at "w"
    refine is_list_of_wp seqv_lst (.inl rfl) ?_
    rw [List.length_map, h.rl r rm, decide_eq_true (Int.le_refl _)]
    walk_at "w"
    refine for_wp (fun row : List (Option (List Nat)) => Vl.lst (row.map cellV)) r (fun _ env s' => s' = s ∧ ∃ x y z, env = [some (.val (.lst (rowsL W.S))), some (.val (.int (W.N : Int))), some (.val (.int (W.D : Int))), some (.val (.int (W.A : Int))), some (.val x), y, z]) rfl ⟨rfl, _, _, _, rfl⟩ (fun k row env s' hr2 hi => ?_) fun env s' hi => ?_
    · obtain ⟨rfl, x, y, z, rfl⟩ := hi
      have wm := List.mem_of_getElem? hr2
      refine set_by rfl ?_
      dsimp only [dz_set0, dz_set1]
      walk_at "w"
      refine is_list_of_wp seqv_lst (.inl rfl) ?_
      rw [List.length_map, h.cl r rm row wm, decide_eq_true (Int.le_refl _)]
      walk_at "w"
      refine compM_wp cellV row (fun _ => .bl true) rfl (skv rfl) (fun c hc => ?_) ?_
      · have co := h.ok r rm row wm c hc
        refine set_by rfl ?_
        cases c with
        | none =>
          walk_at "w"
          exact ⟨rfl, rfl⟩
        | some l =>
          walk_at "w"
          exact is_some_set (n := n + 1) (co l rfl) (by omega) ⟨rfl, rfl⟩
      walk_at "w"
      refine all_wp ?_
      walk_at "w"
      rw [show (row.all fun _ => true) = true by simp]
      walk_at "w"
      exact fq_nx (skv rfl) ⟨rfl, _, _, _, rfl⟩
    · obtain ⟨rfl, x, y, z, rfl⟩ := hi
      walk_at "w"
      exact fq_nx (skv rfl) ⟨rfl, _, _, _, rfl⟩
  · obtain ⟨rfl, x, y, z, rfl⟩ := hi
    walk_at "w"
    exact q
theorem is_sights_wp (h : W.Ok) (q : Q (.bl true) st) : ((L.pr (n + 4)).F f_is_sights [.tup (natL W.sig), .int 1, .int 120] st).wp Q X := by
  have n1 : 1 ≤ W.sig.length := h.n1
  have n2 : W.sig.length ≤ 120 := h.n2
  refine u_is_sights ?_
  unfold b_is_sights
  walk_at "w"
  rw [List.length_map]
  walk_at "w"
  refine are_between_wp (n := n) seqv_tup (fun x hx => ?_) ?_
  · obtain ⟨i, _, rfl⟩ := List.mem_map.mp hx
    exact tgd_int
  rw [show ((natL W.sig).all fun x => btw x 0 31) = true from List.all_eq_true.mpr fun x hx => by
    obtain ⟨i, hi, rfl⟩ := List.mem_map.mp hx
    have := h.sg i hi
    rw [btw_int, Bool.and_eq_true, decide_eq_true_eq, decide_eq_true_eq]
    omega]
  exact q
theorem works_init {Q : List Vl → Sto → Prop} (h : W.Ok) (q : Q [.int (W.D : Int), .int (W.A : Int), .tup (natL W.sig), stepsT W] st) : ((L.pr (n + 9)).I c_Works [.int (W.D : Int), .int (W.A : Int), .tup (natL W.sig), .lst (rowsL W.S)] st).wp Q X := by
  have d1 := h.d1
  have d6 := h.d6
  have a1 := h.a1
  have a6 := h.a6
  refine ui_Works ?_
  unfold b_Works_init
  walk_at "w"
  refine is_between_wp tgd_int ?_
  rw [btw_int, decide_eq_true (by omega : (1 : Int) ≤ (W.D : Int)), decide_eq_true (by omega : (W.D : Int) ≤ 6)]
  walk_at "w"
  refine is_between_wp tgd_int ?_
  rw [btw_int, decide_eq_true (by omega : (1 : Int) ≤ (W.A : Int)), decide_eq_true (by omega : (W.A : Int) ≤ 6)]
  walk_at "w"
  refine is_sights_wp (n := n + 3) h ?_
  walk_at "w"
  rw [List.length_map]
  refine is_steps_wp (n := n) h ?_
  walk_at "w"
  refine compM_wp (fun r : List (List (Option (List Nat))) => Vl.lst (r.map fun row => .lst (row.map cellV))) W.S (fun r => Vl.tup (r.map fun row => .tup (row.map cellV))) rfl (skv rfl) (fun r hr => ?_) ?_
  · refine set_by rfl ?_
    walk_at "w"
    refine compM_wp (fun row : List (Option (List Nat)) => Vl.lst (row.map cellV)) r (fun row => Vl.tup (row.map cellV)) rfl (skv rfl) (fun row hrow => ?_) ?_
    · refine set_by rfl ?_
      walk_at "w"
      exact ⟨rfl, rfl⟩
    walk_at "w"
    exact ⟨rfl, rfl⟩
  walk_at "w"
  exact iq_nx rfl rfl q
theorem made_wp (h : W.Ok) (hv : SeqV sv st (rowsL W.S)) (q : Q (madeV W) st) : ((L.pr (n + 10)).F f__law_made [worksV W sv] st).wp Q X := by
  refine u__law_made ?_
  unfold b__law_made
  walk_at "w"
  refine seq_by hv.q ?_
  refine compM_wp (fun r : List (List (Option (List Nat))) => Vl.lst (r.map fun row => .lst (row.map cellV))) W.S (fun r => Vl.lst (r.map fun row => .lst (row.map cellV))) rfl (skv hv.q) (fun r hr => ?_) ?_
  · refine set_by rfl ?_
    walk_at "w"
    refine compM_wp (fun row : List (Option (List Nat)) => Vl.lst (row.map cellV)) r (fun row => Vl.lst (row.map cellV)) rfl (skv rfl) (fun row hrow => ?_) ?_
    · refine set_by rfl ?_
      walk_at "w"
      exact ⟨rfl, rfl⟩
    walk_at "w"
    exact ⟨rfl, rfl⟩
  walk_at "w"
  refine works_init (n := n) h ?_
  walk_at "w"
  exact q
end
end K07
set_option maxHeartbeats 4000000
namespace K07
open TW PySem
open L2 (Key)
/-- an entry -/
def entB (W : Wk) (x : Vl) : Bool := match x with
  | .tup [a, b, c] => btw a 0 ((W.N : Int) - 1) && (btw b 0 ((W.D : Int) - 1) && btw c 0 ((W.A : Int) - 1))
  | _ => false
abbrev entV (s d a : Nat) : Vl := .tup [.int (s : Int), .int (d : Int), .int (a : Int)]
structure Ent (W : Wk) (x : Vl) (s d a : Nat) : Prop where
  e : x = entV s d a
  s : s < W.N
  d : d < W.D
  a : a < W.A
theorem btw_nat {x : Vl} {m : Nat} (h : btw x 0 ((m : Int) - 1) = true) : ∃ i : Nat, x = .int (i : Int) ∧ i < m := by
  obtain ⟨i, rfl, h1, h2⟩ := btw_ex h
  exact ⟨i.toNat, by rw [Int.toNat_of_nonneg h1], by omega⟩
theorem nat_btw {i m : Nat} (h : i < m) : btw (.int (i : Int)) 0 ((m : Int) - 1) = true := by
  rw [btw_int, Bool.and_eq_true, decide_eq_true_eq, decide_eq_true_eq]
  omega
theorem entB_ex {W : Wk} {x : Vl} (h : entB W x = true) : ∃ s d a : Nat, Ent W x s d a := by
  unfold entB at h
  split at h
  · rename_i a b c
    rw [Bool.and_eq_true, Bool.and_eq_true] at h
    obtain ⟨s, rfl, hs⟩ := btw_nat h.1
    obtain ⟨d, rfl, hd⟩ := btw_nat h.2.1
    obtain ⟨e, rfl, he⟩ := btw_nat h.2.2
    exact ⟨s, d, e, rfl, hs, hd, he⟩
  · cases h
theorem Ent.b {W : Wk} {x : Vl} {s d a : Nat} (h : Ent W x s d a) : entB W x = true := by
  rw [h.e]
  show (btw _ _ _ && (btw _ _ _ && btw _ _ _)) = true
  rw [nat_btw h.s, nat_btw h.d, nat_btw h.a]
  rfl
theorem mp_at {α : Type} {f : α → Vl} {l : List α} {i : Nat} {a : α} (h : l[i]? = some a) : (l.map f)[i]? = some (f a) := by rw [List.getElem?_map, h]; rfl
def nxt (W : Wk) (x : Vl) : Option (List Nat) := match x with
  | .tup [.int s, .int d, .int a] => W.at s.toNat d.toNat a.toNat
  | _ => none
def fstN (x : Vl) : Nat := match x with
  | .tup (.int s :: _) => s.toNat
  | _ => 0
theorem Ent.nxt {W : Wk} {x : Vl} {s d a : Nat} (h : Ent W x s d a) : nxt W x = W.at s d a := by
  rw [h.e]
  show W.at (s : Int).toNat (d : Int).toNat (a : Int).toNat = _
  rw [Int.toNat_natCast, Int.toNat_natCast, Int.toNat_natCast]
theorem Ent.fst {W : Wk} {x : Vl} {s d a : Nat} (h : Ent W x s d a) : fstN x = s := by
  rw [h.e]
  show (s : Int).toNat = _
  rw [Int.toNat_natCast]
def go (W : Wk) : Option (List Nat) → List Vl → Bool
  | _, [] => true
  | none, _ :: _ => false
  | some l, x :: xs => entB W x && (decide (fstN x ∈ l) && go W (nxt W x) xs)
theorem go_all {W : Wk} : ∀ {xs : List Vl} {c : Option (List Nat)}, go W c xs = true → xs.all (entB W) = true
  | [], _, _ => rfl
  | x :: xs, none, h => by cases h
  | x :: xs, some l, h => by
    unfold go at h
    rw [Bool.and_eq_true, Bool.and_eq_true] at h
    rw [List.all_cons, h.1, go_all h.2.2]
    rfl
def courseB (W : Wk) (c : Option (List Nat)) (p : Vl) : Bool := isSq p && (decide ((itP p).length ≤ 200) && go W c (itP p))
/-- a value that is passed, and what it reads as -/
structure Psd (b : Nat) (st : Sto) (v p : Vl) : Prop where
  rd : Rd b st 5 v p
  sq : isSq p = true → SeqV v st (itP p)
  it : PL 3 (itP p)
  ln : (itP p).length ≤ 900
section
variable {b k h : Nat} {st S : Sto} {v p x : Vl} {xs : List Vl}
theorem Psd.ext (P : Psd b st v p) (e : Ext b st S) : Psd b S v p := ⟨P.rd.ext e, fun i => P.rd.sq (P.sq i) e, P.it, P.ln⟩
theorem Psd.tg (P : Psd b st v p) (m : Nat) : tgOf m v st = some (pT p) := P.rd.tg m
theorem Psd.tgd (P : Psd b st v p) : Tgd v st := ⟨_, P.tg _⟩
theorem Psd.of (h : Pure 4 p) (l : (itP p).length ≤ 900) : Psd b st p p := by
  refine ⟨.of (h.mono (by omega)), fun i => ?_, fun x hx => ?_, l⟩
  · rcases isSq_ex i with e | e
    · rw [e]; exact seqv_lst
    · rw [e]; exact seqv_tup
  · exact pure_its h x hx
theorem Psd.dct : Psd b st (.dct [] []) (.dct [] []) := ⟨.dct, (fun i => nomatch i), (fun _ h => nomatch h), Nat.zero_le _⟩
theorem Psd.ref (e : (st : List Ob)[h]? = some (.lst xs)) (hb : h ≠ b) (l : xs.length ≤ 900) (it : PL 3 xs) : Psd b st (.ref h) (.lst xs) :=
  ⟨.ref hb e rfl (by omega) fun i x y hx hy => by
    rw [hx] at hy
    cases hy
    exact .of ((it x (List.mem_of_getElem? hx)).mono (by omega)), fun _ => seqv_ref e, it, l⟩
theorem Psd.sqT (P : Psd b st v p) (e : isSq p = true) (m : Nat) : tgOf m v st = some .list ∨ tgOf m v st = some .tuple := by
  rw [P.tg m]
  rcases (isSq_pT P.rd).mp e with e | e <;> rw [e]
  · exact .inl rfl
  · exact .inr rfl
theorem Psd.sqN (P : Psd b st v p) (e : isSq p = false) : pT p ≠ .list ∧ pT p ≠ .tuple := by
  refine ⟨fun h => ?_, fun h => ?_⟩
  · rw [(isSq_pT P.rd).mpr (.inl h)] at e; cases e
  · rw [(isSq_pT P.rd).mpr (.inr h)] at e; cases e
end
section
variable {n b k : Nat} {v p x : Vl} {c : Option (List Nat)} {st : Sto} {Q : Vl → Sto → Prop} {X : XP} {W : Wk} {s d a : Nat}
theorem is_entry_wp (hx : Pure 3 x) (q : Q (.bl (entB W x)) st) : ((L.pr (n + 3)).F f_is_entry [madeV W, x] st).wp Q X := by
  refine u_is_entry ?_
  unfold b_is_entry
  walk_at "w"
  refine is_tuple_of_wp (m := 3) (Tgd.of hx) ?_
  cases ht : tupN x 3 with
  | false =>
    have : entB W x = false := by
      unfold entB
      split
      · cases ht
      · rfl
    rw [this] at q
    walk_at "w"
    exact q
  | true =>
    obtain ⟨ys, rfl, e⟩ := tupN_ex ht
    obtain ⟨y0, y1, y2, rfl⟩ : ∃ y0 y1 y2, ys = [y0, y1, y2] := by
      match ys, e with
      | [y0, y1, y2], _ => exact ⟨_, _, _, rfl⟩
    have py : ∀ y ∈ [y0, y1, y2], Pure 2 y := fun y hy => by
      cases hx with
      | tup _ h => exact h y hy
    walk_at "w"
    rw [List.length_map]
    refine ⟨_, _, rfl, rfl, ?_⟩
    refine compM_wp (fun z : Vl × Int => Vl.tup [z.1, .int z.2]) [(y0, (W.N : Int) - 1), (y1, (W.D : Int) - 1), (y2, (W.A : Int) - 1)] (fun z => .bl (btw z.1 0 z.2)) rfl (by simp [Src.ok, seqOf, sameSeq_refl]) (fun z hz => ?_) ?_
    · refine set_by rfl ?_
      walk_at "w"
      refine is_between_wp (n := n) (Tgd.of (k := 2) ?_) ⟨rfl, rfl⟩
      simp only [List.mem_cons, List.mem_nil_iff, or_false] at hz
      rcases hz with rfl | rfl | rfl
      · exact py _ (by simp)
      · exact py _ (by simp)
      · exact py _ (by simp)
    walk_at "w"
    refine all_wp ?_
    rw [show ([(y0, (W.N : Int) - 1), (y1, (W.D : Int) - 1), (y2, (W.A : Int) - 1)].all fun z => btw z.1 0 z.2) = entB W (.tup [y0, y1, y2]) by
      show (_ && (_ && (_ && true))) = (_ && (_ && _))
      rw [Bool.and_true]]
    exact q
theorem cell_behind_wp (h : W.Ok) (he : Ent W x s d a) (q : Q (cellV (nxt W x)) st) : ((L.pr (n + 2)).F f_cell_behind [madeV W, x] st).wp Q X := by
  obtain ⟨r, row, h1, h2, h3, _⟩ := h.get he.s he.d he.a
  rw [he.nxt] at q
  obtain ⟨rfl, _, _, _⟩ := he
  refine u_cell_behind ?_
  unfold b_cell_behind
  walk_at "w"
  refine ixT_wp (mp_at h1) ?_
  walk_at "w"
  refine ixT_wp (mp_at h2) ?_
  walk_at "w"
  refine ixT_wp (mp_at h3) ?_
  walk_at "w"
  exact q
theorem goes_on_wp (h : W.Ok) (P : Psd b st v p) (q : Q (.bl (courseB W c p)) st) : ((L.pr (n + 4)).F f_goes_on [madeV W, cellV c, v] st).wp Q X := by
  refine u_goes_on ?_
  unfold b_goes_on
  walk_at "w"
  unfold courseB at q
  cases e : isSq p with
  | false =>
    rw [e, Bool.false_and] at q
    refine is_list_of_no (P.tg _) (P.sqN e) ?_
    walk_at "w"
    exact q
  | true =>
    rw [e, Bool.true_and] at q
    have sv := P.sq e
    have pi := P.it
    generalize itP p = xs at q sv pi
    refine is_list_of_wp sv (P.sqT e _) ?_
    rw [decide_eq_true (by omega : (0 : Int) ≤ (xs.length : Int)), Bool.true_and]
    walk_at "w"
    apply br_dec <;> intro hl
    · rw [decide_eq_true (by omega : xs.length ≤ 200), Bool.true_and] at q
      walk_at "w"
      refine seq_by sv.q ?_
      refine compM_wp (fun x : Vl => x) xs (fun x => .bl (entB W x)) (List.map_id' _).symm (skv sv.q) (fun x hx => ?_) ?_
      · refine set_by rfl ?_
        walk_at "w"
        exact is_entry_wp (n := n) (pi x hx) ⟨rfl, rfl⟩
      walk_at "w"
      refine all_wp ?_
      walk_at "w"
      cases ha : xs.all (entB W) with
      | false =>
        have : go W c xs = false := by
          cases hg : go W c xs with
          | false => rfl
          | true => rw [go_all hg] at ha; cases ha
        rw [this] at q
        walk_at "w"
        exact q
      | true =>
        have ae : ∀ x ∈ xs, entB W x = true := fun x hx => List.all_eq_true.mp ha x hx
        walk_at "w"
        refine seq_by sv.q ?_
        refine for_wp (fun x : Vl => x) xs (fun k env s => s = st ∧ ∃ c' y, env = [some (.val (madeV W)), some (.val (cellV c')), some (.val v), y] ∧ go W c xs = go W c' (xs.drop k)) (List.map_id' _).symm ⟨rfl, c, none, rfl, rfl⟩ (fun k x env s hx hi => ?_) fun env s hi => ?_
        · obtain ⟨rfl, c', y, rfl, hg⟩ := hi
          have xm := List.mem_of_getElem? hx
          obtain ⟨s0, d0, a0, he⟩ := entB_ex (ae x xm)
          have hd : xs.drop k = x :: xs.drop (k + 1) := by
            obtain ⟨hk, e⟩ := List.getElem?_eq_some_iff.mp hx
            rw [List.drop_eq_getElem_cons hk, e]
          rw [hd] at hg
          refine set_by rfl ?_
          dsimp only [dz_set0, dz_set1]
          cases c' with
          | none =>
            rw [show go W c xs = false from hg] at q
            walk_at "w"
            exact q
          | some l =>
            have hg2 : go W c xs = (entB W x && (decide (fstN x ∈ l) && go W (nxt W x) (xs.drop (k + 1)))) := hg
            rw [he.b, Bool.true_and, he.fst] at hg2
            have hx0 : x = entV s0 d0 a0 := he.e
            walk_at "w"
            rw [hx0]
            refine ixT_wp (j := 0) rfl ?_
            walk_at "w"
            refine cm_notinS (ns := l.map fun i : Nat => (i : Int)) (by rw [← natL_ints]; rfl) ?_
            rw [show decide ((s0 : Int) ∈ l.map fun i : Nat => (i : Int)) = decide (s0 ∈ l) by
              rw [decide_eq_decide, List.mem_map]
              exact ⟨fun ⟨i, hi, e⟩ => by rw [show s0 = i by omega]; exact hi, fun h => ⟨s0, h, rfl⟩⟩]
            cases hm : decide (s0 ∈ l) with
            | false =>
              rw [hm, Bool.false_and] at hg2
              rw [hg2] at q
              walk_at "w"
              exact q
            | true =>
              rw [hm, Bool.true_and] at hg2
              walk_at "w"
              rw [← hx0]
              refine cell_behind_wp (n := n + 1) h he ?_
              walk_at "w"
              exact fq_nx (skv sv.q) ⟨rfl, nxt W x, _, rfl, hg2⟩
        · obtain ⟨rfl, c', y, rfl, hg⟩ := hi
          rw [List.drop_length] at hg
          rw [show go W c xs = true by rw [hg]; cases c' <;> rfl] at q
          walk_at "w"
          exact q
    · rw [decide_eq_false (by omega : ¬ xs.length ≤ 200), Bool.false_and] at q
      walk_at "w"
      exact q
end
end K07
set_option maxHeartbeats 4000000
namespace K07
open TW PySem
open L2 (Key)
section
variable {n b k : Nat} {v p x sv : Vl} {c : Option (List Nat)} {l : List Nat} {st : Sto} {Q : Vl → Sto → Prop} {X : XP} {W : Wk} {lo hi : Int}
theorem is_number_wp (ht : Tgd v st) (q : Q (.bl (btw v lo hi)) st) : ((L.pr (n + 1)).F f__law_is_number [v, .int lo, .int hi] st).wp Q X := by
  obtain ⟨t, ht⟩ := ht
  refine u__law_is_number ?_
  unfold b__law_is_number
  walk_at "w"
  refine tg_by (by rw [pr_ncls]; exact ht) ?_
  cases e : isI v with
  | true =>
    obtain ⟨i, rfl⟩ : ∃ i, v = .int i := by
      cases v <;> first | exact ⟨_, rfl⟩ | (cases e; done)
    cases ht
    rw [btw_int] at q
    walk_at "w"
    apply br_dec <;> intro h
    · rw [decide_eq_true h, Bool.true_and] at q
      walk_at "w"
      exact q
    · rw [decide_eq_false h, Bool.false_and] at q
      walk_at "w"
      exact q
  | false =>
    have hb : btw v lo hi = false := by
      unfold btw
      cases v <;> first | rfl | (cases e; done)
    rw [hb] at q
    by_cases hbo : t = .bool
    · subst hbo
      walk_at "w"
      refine tg_by (by rw [pr_ncls]; exact ht) ?_
      walk_at "w"
      exact q
    · have hi : t ≠ .int := by
        intro z
        subst z
        unfold tgOf at ht
        split at ht <;> first
          | (cases ht; done)
          | (cases e; done)
          | (split at ht <;> first | (cases ht; done) | (split at ht <;> (cases ht; done)))
      rw [show ([Tg.int].any fun u => tgSub t u) = false by show (tgSub t .int || false) = _; cases t <;> first | rfl | exact absurd rfl hbo | exact absurd rfl hi]
      walk_at "w"
      exact q
theorem fil_btw {xs : List Vl} {lo hi : Int} : ((xs.filter fun x => !btw x lo hi).map fun x => x).isEmpty = xs.all fun x => btw x lo hi := by
  rw [List.map_id']
  have : ∀ xs : List Vl, (xs.filter fun x => !btw x lo hi).isEmpty = xs.all fun x => btw x lo hi := fun xs => by
    induction xs with
    | nil => rfl
    | cons a as ih =>
      cases h : btw a lo hi with
      | true => rw [List.filter_cons_of_neg (by rw [h]; simp), List.all_cons, h, ih]; rfl
      | false => rw [List.filter_cons_of_pos (by rw [h]; rfl), List.all_cons, h]; rfl
  exact this xs
theorem law_is_course_wp (h : W.Ok) (hsv : SeqV sv st (rowsL W.S)) (hc : ∀ l, c = some l → SetOk W.N l) (P : Psd b st v p) (q : Q (.bl (courseB W c p)) st) : ((L.pr (n + 3)).F f__law_is_course [worksV W sv, cellV c, v] st).wp Q X := by
  have d6 := h.d6
  have a6 := h.a6
  have n2 := h.n2
  refine u__law_is_course ?_
  unfold b__law_is_course
  walk_at "w"
  refine tg_by (by rw [pr_ncls]; exact P.tg _) ?_
  unfold courseB at q
  have e0 : ([Tg.list, Tg.tuple].any fun u => tgSub (pT p) u) = isSq p := by cases p <;> rfl
  rw [e0]
  cases e : isSq p with
  | false =>
    rw [e, Bool.false_and] at q
    walk_at "w"
    exact q
  | true =>
    rw [e, Bool.true_and] at q
    have svq := P.sq e
    have pi := P.it
    generalize itP p = xs at q svq pi
    walk_at "w"
    refine len_wp svq.len ?_
    walk_at "w"
    apply br_dec <;> intro hl
    · rw [decide_eq_false (by omega : ¬ xs.length ≤ 200), Bool.false_and] at q
      walk_at "w"
      exact q
    · rw [decide_eq_true (by omega : xs.length ≤ 200), Bool.true_and] at q
      walk_at "w"
      refine seq_by svq.q ?_
      refine for_wp (fun x : Vl => x) xs (fun k env s => s = st ∧ ∃ c' y4 y5 y6 y7 y8, env = [some (.val (worksV W sv)), some (.val (cellV c)), some (.val v), some (.val (cellV c')), y4, y5, y6, y7, y8] ∧ (∀ l, c' = some l → SetOk W.N l) ∧ go W c xs = go W c' (xs.drop k)) (List.map_id' _).symm ⟨rfl, c, none, none, none, none, none, rfl, hc, rfl⟩ (fun k x env s hx hi => ?_) fun env s hi => ?_
      · obtain ⟨rfl, c', y4, y5, y6, y7, y8, rfl, hc', hg⟩ := hi
        have xm := List.mem_of_getElem? hx
        have px := pi x xm
        have hd : xs.drop k = x :: xs.drop (k + 1) := by
          obtain ⟨hk, e⟩ := List.getElem?_eq_some_iff.mp hx
          rw [List.drop_eq_getElem_cons hk, e]
        rw [hd] at hg
        refine set_by rfl ?_
        dsimp only [dz_set0, dz_set1]
        cases c' with
        | none =>
          rw [show go W c xs = false from hg] at q
          walk_at "w"
          exact q
        | some l =>
          have hg2 : go W c xs = (entB W x && (decide (fstN x ∈ l) && go W (nxt W x) (xs.drop (k + 1)))) := hg
          have so := hc' l rfl
          walk_at "w"
          obtain ⟨t, ht⟩ := Tgd.of (st := s) px
          refine tg_by (by rw [pr_ncls]; exact ht) ?_
          by_cases htt : t = .tuple
          · obtain ⟨ys, rfl⟩ : ∃ ys, x = .tup ys := by
              subst htt
              cases px <;> first | exact ⟨_, rfl⟩ | (cases ht; done)
            cases ht
            have py : ∀ y ∈ ys, Pure 2 y := fun y hy => by
              cases px with
              | tup _ h => exact h y hy
            walk_at "w"
            apply br_dec <;> intro h3
            · obtain ⟨y0, y1, y2, rfl⟩ : ∃ y0 y1 y2, ys = [y0, y1, y2] := by
                match ys, h3 with
                | [y0, y1, y2], _ => exact ⟨_, _, _, rfl⟩
                | [], h => exact absurd h (by simp)
                | [_], h => exact absurd h (by simp)
                | [_, _], h => exact absurd h (by simp)
                | _ :: _ :: _ :: _ :: _, h => exact absurd h (by simp; omega)
              walk_at "w"
              refine compFil_wp (fun x : Vl => x) [y0, y1, y2] (fun x => !btw x 0 200) (fun x => x) (List.map_id' _).symm (skv rfl) (fun y hy => ?_) ?_
              · refine set_by rfl ?_
                walk_at "w"
                refine is_number_wp (n := n + 1) (Tgd.of (py y hy)) ?_
                walk_at "w"
                refine ⟨rfl, rfl, fun _ => ?_⟩
                walk_at "w"
                exact ⟨rfl, rfl⟩
              walk_at "w"
              refine cm_nnilA ?_
              rw [fil_btw]
              apply br_not
              cases hb : [y0, y1, y2].all fun x => btw x 0 200 with
              | false =>
                have : entB W (.tup [y0, y1, y2]) = false := by
                  cases he : entB W (.tup [y0, y1, y2]) with
                  | false => rfl
                  | true =>
                    obtain ⟨s0, d0, a0, he⟩ := entB_ex he
                    have e1 := he.e
                    cases e1
                    rw [show ([Vl.int (s0 : Int), .int (d0 : Int), .int (a0 : Int)].all fun x => btw x 0 200) = true by
                      have := he.s
                      have := he.d
                      have := he.a
                      have n3 : W.N ≤ 120 := n2
                      simp only [List.all_cons, List.all_nil, btw_int, Bool.and_true, Bool.and_eq_true, decide_eq_true_eq]
                      omega] at hb
                    cases hb
                rw [this, Bool.false_and] at hg2
                rw [hg2] at q
                walk_at "w"
                exact q
              | true =>
                have b0 := List.all_eq_true.mp hb y0 (by simp)
                have b1 := List.all_eq_true.mp hb y1 (by simp)
                have b2 := List.all_eq_true.mp hb y2 (by simp)
                obtain ⟨i0, rfl, p0, _⟩ := btw_ex b0
                obtain ⟨i1, rfl, p1, _⟩ := btw_ex b1
                obtain ⟨i2, rfl, p2, _⟩ := btw_ex b2
                obtain ⟨s0, rfl⟩ := Int.eq_ofNat_of_zero_le p0
                obtain ⟨d0, rfl⟩ := Int.eq_ofNat_of_zero_le p1
                obtain ⟨a0, rfl⟩ := Int.eq_ofNat_of_zero_le p2
                walk_at "w"
                refine cm_notinS (ns := l.map fun i : Nat => (i : Int)) (by rw [← natL_ints]; rfl) ?_
                rw [show decide ((s0 : Int) ∈ l.map fun i : Nat => (i : Int)) = decide (s0 ∈ l) by
                  rw [decide_eq_decide, List.mem_map]
                  exact ⟨fun ⟨i, hi, e⟩ => by rw [show s0 = i by omega]; exact hi, fun h => ⟨s0, h, rfl⟩⟩]
                have fs : fstN (.tup [.int (s0 : Int), .int (d0 : Int), .int (a0 : Int)]) = s0 := Int.toNat_natCast _
                cases hm : decide (s0 ∈ l) with
                | false =>
                  rw [fs, hm, Bool.false_and, Bool.and_false] at hg2
                  rw [hg2] at q
                  walk_at "w"
                  exact q
                | true =>
                  have hs : s0 < W.N := so.lt s0 (of_decide_eq_true hm)
                  rw [fs, hm, Bool.true_and] at hg2
                  walk_at "w"
                  have noe : ¬ (d0 < W.D ∧ a0 < W.A) → Q (.bl false) s := fun hn => by
                    have : entB W (.tup [.int (s0 : Int), .int (d0 : Int), .int (a0 : Int)]) = false := by
                      cases he : entB W (.tup [.int (s0 : Int), .int (d0 : Int), .int (a0 : Int)]) with
                      | false => rfl
                      | true =>
                        obtain ⟨s1, d1, a1, he⟩ := entB_ex he
                        have e1 := he.e
                        injection e1 with e1
                        injection e1 with e1 e2
                        injection e2 with e2 e3
                        injection e3 with e3 e4
                        injection e2 with e2
                        injection e3 with e3
                        have := he.d
                        have := he.a
                        exact absurd ⟨by omega, by omega⟩ hn
                    rw [this, Bool.false_and] at hg2
                    rw [hg2] at q
                    exact q
                  apply br_dec <;> intro hd0
                  · walk_at "w"
                    exact noe fun z => by omega
                  · walk_at "w"
                    apply br_dec <;> intro ha0
                    · walk_at "w"
                      exact noe fun z => by omega
                    · have he : Ent W (.tup [.int (s0 : Int), .int (d0 : Int), .int (a0 : Int)]) s0 d0 a0 := ⟨rfl, hs, by omega, by omega⟩
                      obtain ⟨r, row, h1, h2, h3, h4⟩ := h.get he.s he.d he.a
                      rw [he.b, Bool.true_and, he.nxt] at hg2
                      walk_at "w"
                      refine ix_wp s0 hsv.s hsv.q (mp_at h1) ?_
                      walk_at "w"
                      refine ixL_wp (mp_at h2) ?_
                      walk_at "w"
                      refine ixL_wp (mp_at h3) ?_
                      walk_at "w"
                      exact fq_nx (skv svq.q) ⟨rfl, W.at s0 d0 a0, _, _, _, _, _, rfl, fun l' e' => h4 l' e', hg2⟩
            · have : entB W (.tup ys) = false := by
                unfold entB
                split
                · rename_i e
                  injection e with e
                  subst e
                  exact absurd rfl h3
                · rfl
              rw [this, Bool.false_and] at hg2
              rw [hg2] at q
              walk_at "w"
              exact q
          · have : entB W x = false := by
              unfold entB
              split
              · cases ht
                exact absurd rfl htt
              · rfl
            rw [this, Bool.false_and] at hg2
            rw [hg2] at q
            rw [show ([Tg.tuple].any fun u => tgSub t u) = false by show (tgSub t .tuple || false) = _; cases t <;> first | rfl | exact absurd rfl htt]
            walk_at "w"
            exact q
      · obtain ⟨rfl, c', y4, y5, y6, y7, y8, rfl, hc', hg⟩ := hi
        rw [List.drop_length] at hg
        rw [show go W c xs = true by rw [hg]; cases c' <;> rfl] at q
        walk_at "w"
        exact q
end
end K07
set_option maxHeartbeats 4000000
namespace K07
open TW PySem
open L2 (Key)
def aft (W : Wk) (c : Option (List Nat)) (xs : List Vl) : Option (List Nat) := match xs.getLast? with
  | none => c
  | some x => nxt W x
theorem atI_last {α : Type} {xs : List α} {x : α} (h : xs.getLast? = some x) : L2.atI xs (-1) = some x := by
  have l : 0 < xs.length := by
    cases xs with
    | nil => cases h
    | cons a as => exact Nat.succ_pos _
  unfold L2.atI L2.ixN
  rw [if_neg (by omega), if_pos (by omega)]
  show xs[((-1 : Int) + xs.length).toNat]? = _
  rw [show ((-1 : Int) + xs.length).toNat = xs.length - 1 by omega, ← List.getLast?_eq_getElem?]
  exact h
abbrev allC (W : Wk) : List Nat := List.range W.N
theorem all_set {N : Nat} (h : 1 ≤ N) : SetOk N (List.range N) := ⟨fun e => by have := congrArg List.length e; rw [List.length_range] at this; simp at this; omega, fun i hi => List.mem_range.mp hi, List.pairwise_lt_range⟩
theorem courseB_all {W : Wk} {l : List Nat} {p : Vl} (h : courseB W (some l) p = true) : courseB W (some (allC W)) p = true := by
  unfold courseB at h ⊢
  rw [Bool.and_eq_true, Bool.and_eq_true] at h ⊢
  refine ⟨h.1, h.2.1, ?_⟩
  have g := h.2.2
  cases hx : itP p with
  | nil => rfl
  | cons x xs =>
    rw [hx] at g
    unfold go at g ⊢
    rw [Bool.and_eq_true, Bool.and_eq_true] at g ⊢
    refine ⟨g.1, ?_, g.2.2⟩
    obtain ⟨s, d, a, he⟩ := entB_ex g.1
    rw [decide_eq_true_eq, he.fst]
    exact List.mem_range.mpr he.s
theorem courseB_ent {W : Wk} {c : Option (List Nat)} {p : Vl} (h : courseB W c p = true) : isSq p = true ∧ ∀ x ∈ itP p, entB W x = true := by
  unfold courseB at h
  rw [Bool.and_eq_true, Bool.and_eq_true] at h
  exact ⟨h.1, fun x hx => List.all_eq_true.mp (go_all h.2.2) x hx⟩
theorem Psd.tup {b : Nat} {st : Sto} {v : Vl} {xs : List Vl} (P : Psd b st v (.tup xs)) : v = .tup xs := by
  have r := P.rd
  have s : SeqV v st xs := P.sq rfl
  cases r with
  | tup _ _ _ => rw [seq_uniq s seqv_tup]
theorem pT_tup {p : Vl} (h : pT p = .tuple) : p = .tup (itP p) := by
  cases p <;> first | rfl | cases h
section
variable {n b k : Nat} {v p bv bp x m : Vl} {c : Option (List Nat)} {l : List Nat} {st : Sto} {Q : Vl → Sto → Prop} {X : XP} {W : Wk} {s d a : Nat}
theorem starts_behind_wp (h : W.Ok) (P : Psd b st v p) (e : isSq p = true) (ae : ∀ x ∈ itP p, entB W x = true) (q : Q (cellV (aft W c (itP p))) st) : ((L.pr (n + 3)).F f_starts_behind [madeV W, cellV c, v] st).wp Q X := by
  have sv := P.sq e
  refine u_starts_behind ?_
  unfold b_starts_behind
  walk_at "w"
  generalize itP p = xs at *
  refine len_wp sv.len ?_
  unfold aft at q
  cases hl : xs.getLast? with
  | none =>
    rw [hl] at q
    have : xs = [] := List.getLast?_eq_none_iff.mp hl
    subst this
    walk_at "w"
    refine br_T (decide_eq_true (rfl : (((([] : List Vl).length : Nat) : Int) = 0))) ?_
    walk_at "w"
    exact q
  | some x =>
    rw [hl] at q
    have l : 0 < xs.length := by
      cases xs with
      | nil => cases hl
      | cons a as => exact Nat.succ_pos _
    walk_at "w"
    refine ix_at sv.s sv.q (atI_last hl) ?_
    obtain ⟨s, d, a, he⟩ := entB_ex (ae x (List.mem_of_getLast? hl))
    walk_at "w"
    exact cell_behind_wp h he q
theorem check_course_wp (h : W.Ok) (P : Psd b st v p) (q : courseB W c p = true → Q .non st) (qx : courseB W c p = false → X x_InvalidCourse [v] st) : ((L.pr (n + 5)).F f_check_course [madeV W, cellV c, v] st).wp Q X := by
  refine u_check_course ?_
  unfold b_check_course
  walk_at "w"
  refine goes_on_wp (n := n) h P ?_
  cases e : courseB W c p with
  | true =>
    walk_at "w"
    exact q e
  | false =>
    walk_at "w"
    exact qx e
theorem check_begin_bad (P : Psd b st bv bp) (hb : someB W.N bp = false) (qx : X x_InvalidBegin [bv] st) : ((L.pr (n + 7)).F f_check_begin [madeV W, bv] st).wp Q X := by
  refine u_check_begin ?_
  unfold b_check_begin
  walk_at "w"
  rw [List.length_map]
  refine u_check_begin_of ?_
  unfold b_check_begin_of
  walk_at "w"
  by_cases ht : pT bp = .tuple
  · have e := pT_tup ht
    rw [e] at P hb
    have ev := P.tup
    rw [ev] at qx ⊢
    have ln := P.ln
    refine is_some_wp (n := n) (k := 4) (.tup (by have : (itP (.tup (itP bp))).length ≤ 900 := ln; change (itP bp).length ≤ 900 at this; omega) P.it) (by change (itP bp).length ≤ 900 at ln; omega) ?_
    rw [hb]
    walk_at "w"
    exact qx
  · refine is_some_no (n := n + 3) (P.tg _) ht ?_
    walk_at "w"
    exact qx
theorem is_course_wp (h : W.Ok) (hc : SetOk W.N l) (P : Psd b st v p) (q : Q (.bl (courseB W (some l) p)) st) : ((L.pr (n + 8)).F f_is_course [madeV W, .tup (natL l), v] st).wp Q X := by
  refine u_is_course ?_
  unfold b_is_course
  walk_at "w"
  refine check_begin_wp (n := n) hc (by have := h.n2; omega) ?_
  walk_at "w"
  refine goes_on_wp (n := n + 3) (c := some l) h P ?_
  walk_at "w"
  exact q
theorem is_course_bad (P : Psd b st bv bp) (hb : someB W.N bp = false) (qx : X x_InvalidBegin [bv] st) : ((L.pr (n + 8)).F f_is_course [madeV W, bv, v] st).wp Q X := by
  refine u_is_course ?_
  unfold b_is_course
  walk_at "w"
  exact check_begin_bad (n := n) P hb qx
theorem is_broken_wp (h : W.Ok) (P : Psd b st v p) (q : courseB W (some (allC W)) p = true → Q (.bl (isNon (cellV (aft W (some (allC W)) (itP p))))) st) (qx : courseB W (some (allC W)) p = false → X x_InvalidCourse [v] st) : ((L.pr (n + 6)).F f_is_broken [madeV W, v] st).wp Q X := by
  refine u_is_broken ?_
  unfold b_is_broken
  walk_at "w"
  refine u_all_states ?_
  unfold b_all_states
  walk_at "w"
  rw [List.length_map]
  refine tr1_wp (by have : W.sig.length ≤ 120 := h.n2; omega) ?_
  walk_at "w"
  refine check_course_wp (n := n) (c := some (allC W)) h P (fun e => ?_) qx
  obtain ⟨e1, e2⟩ := courseB_ent e
  walk_at "w"
  refine starts_behind_wp (n := n + 2) (c := some (allC W)) h P e1 e2 ?_
  walk_at "w"
  exact q e
theorem may_follow_wp (h : W.Ok) (hc : SetOk W.N l) (P : Psd b st v p) (q : courseB W (some l) p = true → ∀ l', aft W (some l) (itP p) = some l' → Q (.tup (natL l')) st) (qx : (courseB W (some l) p = false ∨ aft W (some l) (itP p) = none) → X x_InvalidCourse [v] st) : ((L.pr (n + 8)).F f_may_follow [madeV W, .tup (natL l), v] st).wp Q X := by
  refine u_may_follow ?_
  unfold b_may_follow
  walk_at "w"
  refine check_begin_wp (n := n) hc (by have := h.n2; omega) ?_
  walk_at "w"
  refine check_course_wp (n := n + 2) (c := some l) h P (fun e => ?_) fun e => qx (.inl e)
  obtain ⟨e1, e2⟩ := courseB_ent e
  walk_at "w"
  refine starts_behind_wp (n := n + 4) (c := some l) h P e1 e2 ?_
  cases ha : aft W (some l) (itP p) with
  | none =>
    walk_at "w"
    exact qx (.inr ha)
  | some l' =>
    walk_at "w"
    exact q e l' ha
theorem may_follow_bad (P : Psd b st bv bp) (hb : someB W.N bp = false) (qx : X x_InvalidBegin [bv] st) : ((L.pr (n + 8)).F f_may_follow [madeV W, bv, v] st).wp Q X := by
  refine u_may_follow ?_
  unfold b_may_follow
  walk_at "w"
  exact check_begin_bad (n := n) P hb qx
end
end K07
set_option maxHeartbeats 4000000
namespace K07
open TW PySem
open L2 (Key)
abbrev S_ (x : Str) (v : Vl) : Vl := .lst [.str x, v]
/-- what a call of kind 0, 1, 2 tells of a value p that stands as v -/
def tellV (kind : Nat) (W : Wk) (l : List Nat) (p v : Vl) : Vl := match kind with
  | 0 => .lst [.str "told", .bl (courseB W (some l) p)]
  | 1 => if courseB W (some (allC W)) p = true then .lst [.str "told", .bl (isNon (cellV (aft W (some (allC W)) (itP p))))] else .lst [.str "course", v]
  | _ => if courseB W (some l) p = true ∧ isNon (cellV (aft W (some l) (itP p))) = false then .lst [.str "told", cellV (aft W (some l) (itP p))] else .lst [.str "course", v]
theorem tell0 {W : Wk} {l : List Nat} {p v : Vl} : tellV 0 W l p v = .lst [.str "told", .bl (courseB W (some l) p)] := rfl
theorem tell1 {W : Wk} {l : List Nat} {p v : Vl} : tellV 1 W l p v = if courseB W (some (allC W)) p = true then .lst [.str "told", .bl (isNon (cellV (aft W (some (allC W)) (itP p))))] else .lst [.str "course", v] := rfl
theorem tell2 {W : Wk} {l : List Nat} {p v : Vl} : tellV 2 W l p v = if courseB W (some l) p = true ∧ isNon (cellV (aft W (some l) (itP p))) = false then .lst [.str "told", cellV (aft W (some l) (itP p))] else .lst [.str "course", v] := rfl
section
variable {n b k : Nat} {v p bv bp x w : Vl} {c : Option (List Nat)} {l : List Nat} {st : Sto} {Q : Vl → Sto → Prop} {X : XP} {W : Wk} {s d a : Nat} {m : Int}
theorem told0_wp (h : W.Ok) (hc : SetOk W.N l) (P : Psd b st v p) (q : Q (tellV 0 W l p v) st) : ((L.pr (n + 9)).F f__law_told [.int 0, .int m, madeV W, .tup (natL l), v] st).wp Q X := by
  rw [tell0] at q
  refine u__law_told ?_
  unfold b__law_told
  walk_at "w"
  apply br_dec <;> intro _
  · walk_at "w"
    refine is_course_wp (n := n) h hc P ?_
    walk_at "w"
    exact q
  · walk_at "w"
    refine is_course_wp (n := n) h hc P ?_
    walk_at "w"
    exact q
theorem told1_wp (h : W.Ok) (P : Psd b st v p) (q : Q (tellV 1 W l p v) st) : ((L.pr (n + 7)).F f__law_told [.int 1, .int m, madeV W, w, v] st).wp Q X := by
  rw [tell1] at q
  refine u__law_told ?_
  unfold b__law_told
  walk_at "w"
  have ok : courseB W (some (allC W)) p = true → Q (.lst [.str "told", .bl (isNon (cellV (aft W (some (allC W)) (itP p))))]) st := fun e => by
    rw [if_pos e] at q
    exact q
  have no : courseB W (some (allC W)) p = false → Q (.lst [.str "course", v]) st := fun e => by
    rw [if_neg (by rw [e]; simp)] at q
    exact q
  apply br_dec <;> intro _
  · walk_at "w"
    refine is_broken_wp (n := n) h P (fun e => ?_) fun e => ?_
    · walk_at "w"
      exact ok e
    · refine ⟨(show x_InvalidCourse < L.nm.exc.length by decide), wp_ok ?_⟩
      walk_at "w"
      exact no e
  · walk_at "w"
    refine is_broken_wp (n := n) h P (fun e => ?_) fun e => ?_
    · walk_at "w"
      exact ok e
    · refine ⟨(show x_InvalidCourse < L.nm.exc.length by decide), wp_ok ?_⟩
      walk_at "w"
      exact no e
theorem told2_wp (h : W.Ok) (hc : SetOk W.N l) (P : Psd b st v p) (q : Q (tellV 2 W l p v) st) : ((L.pr (n + 9)).F f__law_told [.int 2, .int m, madeV W, .tup (natL l), v] st).wp Q X := by
  rw [tell2] at q
  refine u__law_told ?_
  unfold b__law_told
  walk_at "w"
  have ok : courseB W (some l) p = true → ∀ l', aft W (some l) (itP p) = some l' → Q (.lst [.str "told", .tup (natL l')]) st := fun e l' e2 => by
    rw [e2, if_pos ⟨e, rfl⟩] at q
    exact q
  have no : (courseB W (some l) p = false ∨ aft W (some l) (itP p) = none) → Q (.lst [.str "course", v]) st := fun e => by
    rw [if_neg (fun z => by
      rcases e with e | e
      · rw [e] at z; exact nomatch z.1
      · rw [e] at z; exact nomatch z.2)] at q
    exact q
  apply br_dec <;> intro _
  · walk_at "w"
    refine may_follow_wp (n := n) h hc P (fun e l' e2 => ?_) fun e => ?_
    · walk_at "w"
      exact ok e l' e2
    · refine ⟨(show x_InvalidCourse < L.nm.exc.length by decide), wp_ok ?_⟩
      walk_at "w"
      exact no e
  · walk_at "w"
    refine may_follow_wp (n := n) h hc P (fun e l' e2 => ?_) fun e => ?_
    · walk_at "w"
      exact ok e l' e2
    · refine ⟨(show x_InvalidCourse < L.nm.exc.length by decide), wp_ok ?_⟩
      walk_at "w"
      exact no e
theorem told_wp {kind : Nat} (hk : kind ≤ 2) (h : W.Ok) (hc : SetOk W.N l) (P : Psd b st v p) (q : Q (tellV kind W l p v) st) : ((L.pr (n + 9)).F f__law_told [.int (kind : Int), .int m, madeV W, .tup (natL l), v] st).wp Q X := by
  obtain rfl | rfl | rfl : kind = 0 ∨ kind = 1 ∨ kind = 2 := by omega
  · exact told0_wp h hc P q
  · exact told1_wp (n := n + 2) h P q
  · exact told2_wp h hc P q
theorem told_bad {kind : Nat} (hk : kind = 0 ∨ kind = 2) (P : Psd b st bv bp) (hb : someB W.N bp = false) (q : Q (.lst [.str "begin", bv]) st) : ((L.pr (n + 9)).F f__law_told [.int (kind : Int), .int m, madeV W, bv, v] st).wp Q X := by
  refine u__law_told ?_
  unfold b__law_told
  rcases hk with rfl | rfl
  · walk_at "w"
    apply br_dec <;> intro _
    · walk_at "w"
      refine is_course_bad (n := n) P hb ?_
      refine ⟨(show x_InvalidBegin < L.nm.exc.length by decide), wp_ok ?_⟩
      walk_at "w"
      exact q
    · walk_at "w"
      refine is_course_bad (n := n) P hb ?_
      refine ⟨(show x_InvalidBegin < L.nm.exc.length by decide), wp_ok ?_⟩
      walk_at "w"
      exact q
  · walk_at "w"
    apply br_dec <;> intro _
    · walk_at "w"
      refine may_follow_bad (n := n) P hb ?_
      refine ⟨(show x_InvalidBegin < L.nm.exc.length by decide), wp_ok ?_⟩
      walk_at "w"
      exact q
    · walk_at "w"
      refine may_follow_bad (n := n) P hb ?_
      refine ⟨(show x_InvalidBegin < L.nm.exc.length by decide), wp_ok ?_⟩
      walk_at "w"
      exact q
end
end K07
set_option maxHeartbeats 4000000
namespace K07
open TW PySem
open L2 (Key)
theorem tell_cases {kind : Nat} {W : Wk} {l : List Nat} {p : Vl} (h : W.Ok) (hc : SetOk W.N l) (hp : ∀ x, aft W (some l) (itP p) = some x → x.length ≤ 1000) (hk : kind ≤ 2) : (∃ y, Pure 2 y ∧ ∀ v, tellV kind W l p v = .lst [.str "told", y]) ∨ (∀ v, tellV kind W l p v = .lst [.str "course", v]) := by
  obtain rfl | rfl | rfl : kind = 0 ∨ kind = 1 ∨ kind = 2 := by omega
  · exact .inl ⟨_, .bl, fun v => tell0⟩
  · by_cases e : courseB W (some (allC W)) p = true
    · exact .inl ⟨_, .bl, fun v => by rw [tell1, if_pos e]⟩
    · exact .inr fun v => by rw [tell1, if_neg e]
  · by_cases e : courseB W (some l) p = true ∧ isNon (cellV (aft W (some l) (itP p))) = false
    · refine .inl ⟨cellV (aft W (some l) (itP p)), ?_, fun v => by rw [tell2, if_pos e]⟩
      cases ha : aft W (some l) (itP p) with
      | none => exact .non
      | some x => exact .tup (by rw [List.length_map]; have := hp x ha; omega) fun y hy => by obtain ⟨i, _, rfl⟩ := List.mem_map.mp hy; exact .int
    · exact .inr fun v => by rw [tell2, if_neg e]
theorem nxt_ok {W : Wk} {x : Vl} {l : List Nat} (h : W.Ok) (e : nxt W x = some l) : SetOk W.N l := by
  unfold nxt at e
  split at e
  · rename_i s d a
    generalize s.toNat = s at e
    generalize d.toNat = d at e
    generalize a.toNat = a at e
    unfold Wk.at at e
    cases hr : W.S[s]? with
    | none => rw [hr] at e; simp at e
    | some r =>
      rw [hr, Option.getD_some] at e
      cases hw : r[d]? with
      | none => rw [hw] at e; simp at e
      | some row =>
        rw [hw, Option.getD_some] at e
        cases hcc : row[a]? with
        | none => rw [hcc] at e; cases e
        | some c =>
          rw [hcc, Option.getD_some] at e
          exact h.ok r (List.mem_of_getElem? hr) row (List.mem_of_getElem? hw) c (List.mem_of_getElem? hcc) l e
  · cases e
theorem aft_ok {W : Wk} {l l' : List Nat} {xs : List Vl} (h : W.Ok) (hc : SetOk W.N l) (e : aft W (some l) xs = some l') : SetOk W.N l' := by
  unfold aft at e
  split at e
  · cases e; exact hc
  · exact nxt_ok h e
theorem Psd.lst {b : Nat} {st : Sto} {v : Vl} {xs : List Vl} (P : Psd b st v (.lst xs)) : lstOf v st = some xs := by
  have r := P.rd
  have s : SeqV v st xs := P.sq rfl
  cases r with
  | lst _ _ _ => rw [seq_uniq s seqv_lst]; rfl
  | ref hb e _ _ _ =>
    have := seq_uniq s (seqv_ref e)
    subst this
    unfold lstOf
    dsimp only
    rw [e]
theorem pT_lst {p : Vl} (h : pT p = .list) : p = .lst (itP p) := by
  cases p <;> first | rfl | cases h
section
variable {n b k : Nat} {v p bv bp x w sv due : Vl} {c : Option (List Nat)} {l : List Nat} {st S1 : Sto} {Q : Vl → Sto → Prop} {X : XP} {W : Wk} {s d a : Nat} {m : Int} {xs : List Vl}
theorem rdR (e : (st : List Ob)[k]? = some (.lst xs)) (hb : k ≠ b) (l : xs.length ≤ 100000) (it : PL 3 xs) : Rd b st 4 (.ref k) (.lst xs) :=
  .ref hb e rfl l fun i x y hx hy => by
    rw [hx] at hy
    cases hy
    exact .of (it x (List.mem_of_getElem? hx))
theorem rd2 {t : Str} (ht : sOk t = true) (r : Rd b st 5 v p) : Rd b st 6 (.lst [.str t, v]) (.lst [.str t, p]) :=
  .lst rfl (by simp) fun i x y hx hy => by
    match i with
    | 0 => cases hx; cases hy; exact .str ht
    | 1 => cases hx; cases hy; exact r
    | i + 2 => simp at hx
theorem answer_wp {kind : Nat} (hk : kind ≤ 2) (h : W.Ok) (hc : SetOk W.N l) (P : Psd b st v p) (hb : b < (st : List Ob).length) (hd : due = tellV kind W l p v) (q : ∀ S', (∀ c, Ext c st S') → Q (.bl true) S') : ((L.pr (n + 10)).F f__law_answer_right [.int (kind : Int), .int m, madeV W, .tup (natL l), v, due] st).wp Q X := by
  have tc := tell_cases (kind := kind) (p := p) h hc (fun x e => by have := set_len (aft_ok h hc e); have : W.N ≤ 120 := h.n2; omega) hk
  refine u__law_answer_right ?_
  unfold b__law_answer_right
  walk_at "w"
  refine tg_by (by rw [pr_ncls]; exact P.tg _) ?_
  by_cases hl : pT p = .list
  · have ep := pT_lst hl
    have ln := P.ln
    have it := P.it
    generalize itP p = xs at ep ln it
    subst ep
    rw [show ([Tg.list].any fun u => tgSub (pT (.lst xs)) u) = true from rfl]
    walk_at "w"
    refine seq_by (show seqOf v st = some xs from (P.sq rfl).q) ?_
    have E1 : ∀ c, Ext c st ((st : List Ob) ++ [.lst xs]) := fun c => Ext.app
    have g1 : ((st : List Ob) ++ [.lst xs] : List Ob)[(st : List Ob).length]? = some (.lst xs) := by simp
    have P0 := P.ext (E1 b)
    have P1 : Psd b ((st : List Ob) ++ [.lst xs]) (.ref (st : List Ob).length) (.lst xs) := .ref g1 (by omega) ln it
    walk_at "w"
    refine told_wp (n := n) hk h hc P1 ?_
    rcases tc with ⟨y, py, e⟩ | e
    · rw [hd, e v, e]
      walk_at "w"
      refine same_wp (k := 4) (Pure.alike (.lst (by simp) fun z hz => ?_)) (by omega) ?_
      · rcases List.mem_cons.mp hz with rfl | hz
        · exact .str (by decide)
        · rw [List.mem_singleton.mp hz]; exact py.mono (by omega)
      walk_at "w"
      refine same_wp (k := 5) (P1.rd.alike P0.rd) (by omega) ?_
      walk_at "w"
      refine br_decF (by decide) ?_
      walk_at "w"
      exact q _ E1
    · rw [hd, e v, e]
      walk_at "w"
      refine same_wp (k := 6) ((rd2 (by decide) P1.rd).alike (rd2 (by decide) P0.rd)) (by omega) ?_
      walk_at "w"
      refine same_wp (k := 5) (P1.rd.alike P0.rd) (by omega) ?_
      walk_at "w"
      refine br_decT rfl ?_
      walk_at "w"
      refine tg_by (by rw [pr_ncls]; exact P1.tg _) ?_
      rw [show ([Tg.list].any fun u => tgSub (pT (.lst xs)) u) = true from rfl]
      walk_at "w"
      refine m_appR rfl g1 ?_
      walk_at "w"
      refine ⟨xs, g1, by rw [sizeLine_eq]; omega, ?_⟩
      have g2 : (((st : List Ob) ++ [.lst xs] : List Ob).set (st : List Ob).length (.lst (xs ++ [.int 7])))[(st : List Ob).length]? = some (.lst (xs ++ [.int 7])) := by simp
      have E2 : ∀ c, Ext c st (((st : List Ob) ++ [.lst xs] : List Ob).set (st : List Ob).length (.lst (xs ++ [.int 7]))) := fun c => Ext.put (E1 c) (Nat.le_refl _)
      generalize (((st : List Ob) ++ [.lst xs] : List Ob).set (st : List Ob).length (.lst (xs ++ [.int 7]))) = S2 at g2 E2 ⊢
      have P2 := P.ext (E2 b)
      walk_at "w"
      refine addL_wp P2.lst rfl (by omega) (by simp) ?_
      walk_at "w"
      have pl7 : PL 3 (xs ++ [.int 7]) := it.app (PL.cons .int PL.nil)
      have l7 : (xs ++ [Vl.int 7]).length ≤ 100000 := by simp; omega
      refine same_wp (k := 4) ((rdR (b := b) g2 (by omega) l7 pl7).alike (c := b) (.of (.lst l7 pl7))) (by omega) ?_
      walk_at "w"
      exact q _ E2
  · rw [show ([Tg.list].any fun u => tgSub (pT p) u) = false by show (tgSub (pT p) .list || false) = _; generalize pT p = t at hl; cases t <;> first | rfl | exact absurd rfl hl]
    walk_at "w"
    refine told_wp (n := n) hk h hc P ?_
    rcases tc with ⟨y, py, e⟩ | e
    · rw [hd, e v]
      walk_at "w"
      refine same_wp (k := 4) (Pure.alike (.lst (by simp) fun z hz => ?_)) (by omega) ?_
      · rcases List.mem_cons.mp hz with rfl | hz
        · exact .str (by decide)
        · rw [List.mem_singleton.mp hz]; exact py.mono (by omega)
      walk_at "w"
      refine same_wp (k := 5) (P.rd.alike P.rd) (by omega) ?_
      walk_at "w"
      refine br_decF (by decide) ?_
      walk_at "w"
      exact q _ fun c => Ext.refl
    · rw [hd, e v]
      walk_at "w"
      refine same_wp (k := 6) ((rd2 (by decide) P.rd).alike (rd2 (by decide) P.rd)) (by omega) ?_
      walk_at "w"
      refine same_wp (k := 5) (P.rd.alike P.rd) (by omega) ?_
      walk_at "w"
      refine br_decT rfl ?_
      walk_at "w"
      refine tg_by (by rw [pr_ncls]; exact P.tg _) ?_
      rw [show ([Tg.list].any fun u => tgSub (pT p) u) = false by show (tgSub (pT p) .list || false) = _; generalize pT p = t at hl; cases t <;> first | rfl | exact absurd rfl hl]
      walk_at "w"
      exact q _ fun c => Ext.refl
end
end K07
set_option maxHeartbeats 4000000
namespace K07
open TW PySem
open L2 (Key)
/-- the rows of works, as a value or as a cell -/
structure Sv (b : Nat) (st : Sto) (sv : Vl) (W : Wk) : Prop where
  q : SeqV sv st (rowsL W.S)
  aw : sv ≠ .ref b
theorem Sv.ext {b : Nat} {st S : Sto} {sv : Vl} {W : Wk} (h : Sv b st sv W) (e : Ext b st S) : Sv b S sv W := by
  refine ⟨⟨h.q.s, ?_⟩, h.aw⟩
  have hq := h.q.q
  have aw := h.aw
  cases sv <;> first
    | exact hq
    | skip
  rename_i k
  unfold seqOf at hq ⊢
  dsimp only at hq ⊢
  cases hk : (st : List Ob)[k]? with
  | none => rw [hk] at hq; cases hq
  | some o =>
    rw [e.get hk (fun z => aw (by rw [z]))]
    rw [hk] at hq
    exact hq
def vrBk : Bk := .cons (.ifs (.not (.tr (.call f__law_answer_right (.cons (.k (.int 0)) (.cons (.v 0) (.cons (.v 1) (.cons (.v 3) (.cons (.v 4) (.cons (.lst (.disp (.cons (.k (.str "told")) (.cons (.v 6) (.nil))))) (.nil))))))))))
   (.cons (.ret (.k (.bl false)))
   (.nil))
   (.nil))
  (.cons (.ifs (.not (.tr (.call f__law_answer_right (.cons (.k (.int 1)) (.cons (.bin .sub (.k (.int 1)) (.v 0)) (.cons (.v 1) (.cons (.v 3) (.cons (.v 4) (.cons (.ife (.tr (.v 5)) (.lst (.disp (.cons (.k (.str "told")) (.cons (.cmp .is_ (.v 7) (.k .non)) (.nil))))) (.lst (.disp (.cons (.k (.str "course")) (.cons (.v 4) (.nil)))))) (.nil))))))))))
   (.cons (.ret (.k (.bl false)))
   (.nil))
   (.nil))
  (.cons (.ret (.call f__law_answer_right (.cons (.k (.int 2)) (.cons (.v 0) (.cons (.v 1) (.cons (.v 3) (.cons (.v 4) (.cons (.ife (.an (.tr (.v 6)) (.one (.cmp .isnot (.v 7) (.k .non)))) (.lst (.disp (.cons (.k (.str "told")) (.cons (.v 7) (.nil))))) (.lst (.disp (.cons (.k (.str "course")) (.cons (.v 4) (.nil)))))) (.nil)))))))))
  (.nil)))
section
variable {n b k : Nat} {v p bv bp x w sv due : Vl} {c A : Option (List Nat)} {l : List Nat} {st S1 : Sto} {Q : Vl → Sto → Prop} {X : XP} {W : Wk} {s d a : Nat} {m : Int} {xs : List Vl}
theorem vr_rest {y8 y9 y10 : Option Sl} (h : W.Ok) (hc : SetOk W.N l) (P : Psd b st v p) (hb : b < (st : List Ob).length)
    (h1 : courseB W (some (allC W)) p = true → isNon (cellV A) = isNon (cellV (aft W (some (allC W)) (itP p)))) (h2 : courseB W (some l) p = true → A = aft W (some l) (itP p))
    (q : ∀ S', (∀ c, Ext c st S') → Q (.bl true) S') : (eb (L.pr (n + 10)) vrBk [some (.val (.int m)), some (.val (madeV W)), some (.val (worksV W sv)), some (.val (.tup (natL l))), some (.val v), some (.val (.bl (courseB W (some (allC W)) p))), some (.val (.bl (courseB W (some l) p))), some (.val (cellV A)), y8, y9, y10] st).wp (rtQ Q) X := by
  unfold vrBk
  walk_at "w"
  refine answer_wp (kind := 0) (n := n) (by omega) h hc P hb tell0.symm fun S1 E1 => ?_
  have P1 := P.ext (E1 b)
  have hb1 : b < (S1 : List Ob).length := Nat.lt_of_lt_of_le hb (E1 b).len
  walk_at "w"
  have go3 : ∀ S2 : Sto, (∀ c, Ext c S1 S2) → (eb (L.pr (n + 10)) (.cons (.ret (.call f__law_answer_right (.cons (.k (.int 2)) (.cons (.v 0) (.cons (.v 1) (.cons (.v 3) (.cons (.v 4) (.cons (.ife (.an (.tr (.v 6)) (.one (.cmp .isnot (.v 7) (.k .non)))) (.lst (.disp (.cons (.k (.str "told")) (.cons (.v 7) (.nil))))) (.lst (.disp (.cons (.k (.str "course")) (.cons (.v 4) (.nil)))))) (.nil))))))))) (.nil)) [some (.val (.int m)), some (.val (madeV W)), some (.val (worksV W sv)), some (.val (.tup (natL l))), some (.val v), some (.val (.bl (courseB W (some (allC W)) p))), some (.val (.bl (courseB W (some l) p))), some (.val (cellV A)), y8, y9, y10] S2).wp (rtQ Q) X := fun S2 E2 => by
    have P2 := P1.ext (E2 b)
    have hb2 : b < (S2 : List Ob).length := Nat.lt_of_lt_of_le hb1 (E2 b).len
    have fin : ∀ S3, (∀ c, Ext c S2 S3) → Q (.bl true) S3 := fun S3 E3 => q S3 fun c => ((E1 c).trans (E2 c)).trans (E3 c)
    walk_at "w"
    cases hm : courseB W (some l) p with
    | false =>
      walk_at "w"
      refine answer_wp (kind := 2) (n := n) (by omega) h hc P2 hb2 (by rw [tell2, if_neg (by rw [hm]; simp)]) fun S3 E3 => ?_
      walk_at "w"
      exact fin S3 E3
    | true =>
      have ea := h2 hm
      rw [ea]
      cases ha : aft W (some l) (itP p) with
      | none =>
        walk_at "w"
        refine answer_wp (kind := 2) (n := n) (by omega) h hc P2 hb2 (by rw [tell2, if_neg (by rw [ha]; exact fun z => nomatch z.2)]) fun S3 E3 => ?_
        walk_at "w"
        exact fin S3 E3
      | some l' =>
        walk_at "w"
        refine answer_wp (kind := 2) (n := n) (by omega) h hc P2 hb2 (by rw [tell2, if_pos ⟨hm, by rw [ha]; rfl⟩, ha]) fun S3 E3 => ?_
        walk_at "w"
        exact fin S3 E3
  cases hs : courseB W (some (allC W)) p with
  | false =>
    walk_at "w"
    refine answer_wp (kind := 1) (n := n) (by omega) h hc P1 hb1 (by rw [tell1, if_neg (by rw [hs]; simp)]) fun S2 E2 => ?_
    rw [hs] at go3
    refine tru_B (br_ff ?_)
    refine wp_ok ?_
    exact go3 S2 E2
  | true =>
    walk_at "w"
    refine answer_wp (kind := 1) (n := n) (by omega) h hc P1 hb1 (by rw [tell1, if_pos hs, h1 hs]) fun S2 E2 => ?_
    rw [hs] at go3
    refine tru_B (br_ff ?_)
    refine wp_ok ?_
    exact go3 S2 E2
end
end K07
set_option maxHeartbeats 4000000
namespace K07
open TW PySem
open L2 (Key)
section
variable {n b k K : Nat} {v p bv bp x w sv due : Vl} {c A : Option (List Nat)} {l : List Nat} {st S1 : Sto} {Q : Vl → Sto → Prop} {X : XP} {W : Wk} {s d a : Nat} {m : Int} {xs : List Vl}
theorem aft_none {W : Wk} {c : Option (List Nat)} {xs : List Vl} (h : xs.length = 0) : aft W c xs = c := by
  obtain rfl := List.eq_nil_of_length_eq_zero h
  rfl
theorem aft_some {W : Wk} {c : Option (List Nat)} {xs : List Vl} {x : Vl} (h : xs.getLast? = some x) : aft W c xs = nxt W x := by
  unfold aft
  rw [h]
theorem value_right_wp (h : W.Ok) (hc : SetOk W.N l) (hs : Sv b st sv W) (P : Psd b st v p) (hb : b < (st : List Ob).length)
    (q : ∀ S', (∀ c, Ext c st S') → Q (.bl true) S') : ((L.pr (n + 11)).F f__law_value_right [.int m, madeV W, worksV W sv, .tup (natL l), v] st).wp Q X := by
  have n2 : W.sig.length ≤ 120 := h.n2
  refine u__law_value_right ?_
  unfold b__law_value_right
  walk_at "w"
  rw [List.length_map]
  refine tr1_wp (by omega) ?_
  walk_at "w"
  refine law_is_course_wp (n := n + 7) (c := some (allC W)) h hs.q (fun l' e => by cases e; exact all_set h.n1) P ?_
  walk_at "w"
  refine law_is_course_wp (n := n + 7) (c := some l) h hs.q (fun l' e => by cases e; exact hc) P ?_
  show (eb _ (.cons _ (.cons _ vrBk)) _ _).wp _ _
  walk_at "w"
  cases ha : courseB W (some (allC W)) p with
  | false =>
    have hm : courseB W (some l) p = false := by
      cases hm : courseB W (some l) p with
      | false => rfl
      | true => rw [courseB_all hm] at ha; cases ha
    walk_at "w"
    rw [← ha]
    exact vr_rest (n := n) (A := some l) h hc P hb (fun e => by rw [ha] at e; cases e) (fun e => by rw [hm] at e; cases e) q
  | true =>
    obtain ⟨e1, e2⟩ := courseB_ent ha
    have sv := P.sq e1
    walk_at "w"
    refine len_wp sv.len ?_
    walk_at "w"
    apply br_dec <;> intro hl
    · obtain ⟨y, hy⟩ : ∃ y, (itP p).getLast? = some y := by
        cases hy : (itP p).getLast? with
        | none => rw [List.getLast?_eq_none_iff.mp hy] at hl; simp at hl
        | some y => exact ⟨y, rfl⟩
      obtain ⟨s, d, a, he⟩ := entB_ex (e2 y (List.mem_of_getLast? hy))
      obtain ⟨r, row, h1, h2, h3, h4⟩ := h.get he.s he.d he.a
      have en := he.nxt
      have ey := he.e
      walk_at "w"
      refine ix_at sv.s sv.q (atI_last hy) ?_
      rw [ey]
      walk_at "w"
      refine ix_wp s hs.q.s hs.q.q (mp_at h1) ?_
      walk_at "w"
      refine ixL_wp (mp_at h2) ?_
      walk_at "w"
      refine ixL_wp (mp_at h3) ?_
      walk_at "w"
      rw [← ha, ← en]
      exact vr_rest (n := n) (A := nxt W y) h hc P hb (fun _ => by rw [aft_some hy]) (fun _ => (aft_some hy).symm) q
    · walk_at "w"
      rw [← ha]
      have h0 : (itP p).length = 0 := by omega
      exact vr_rest (n := n) (A := some l) h hc P hb (fun _ => by rw [aft_none h0]; rfl) (fun _ => (aft_none h0).symm) q
/-- the wrong beginnings -/
theorem wrong_bad {N : Nat} {x : Vl} (hx : x ∈ [Vl.tup [], .lst [.int 0], .tup [.int 0, .int 0], .tup [.int (N : Int)], .tup [.int (-1)], .tup [.bl true], .non, .str "0", .int 0, .tup [.int 1, .int 0], .tup [.int 0, .int (N : Int)], .tup [.int 0, .non]]) : someB N x = false ∧ Pure 2 x ∧ (itP x).length ≤ 2 := by
  have ng : ¬ ((N : Int) ≤ (N : Int) - 1) := by omega
  simp only [List.mem_cons, List.mem_nil_iff, or_false] at hx
  rcases hx with rfl | rfl | rfl | rfl | rfl | rfl | rfl | rfl | rfl | rfl | rfl | rfl
  · exact ⟨rfl, .tup (by simp) fun y hy => (by cases hy), by simp [itP]⟩
  · exact ⟨rfl, .lst (by simp) fun y hy => by rw [List.mem_singleton.mp hy]; exact .int, by simp [itP]⟩
  · refine ⟨?_, .tup (by simp) fun y hy => ?_, by simp [itP]⟩
    · unfold someB
      rw [statesB_tup, show ascI (([.int 0, .int 0] : List Vl).map toI) = false by decide]
      simp
    · simp only [List.mem_cons, List.mem_nil_iff, or_false, or_self] at hy; rw [hy]; exact .int
  · refine ⟨?_, .tup (by simp) fun y hy => by rw [List.mem_singleton.mp hy]; exact .int, by simp [itP]⟩
    unfold someB
    rw [statesB_tup, show (([.int (N : Int)] : List Vl).all fun x => btw x 0 ((N : Int) - 1)) = false by
      rw [List.all_cons, btw_int, decide_eq_false ng, Bool.and_false, Bool.false_and]]
    simp
  · refine ⟨?_, .tup (by simp) fun y hy => by rw [List.mem_singleton.mp hy]; exact .int, by simp [itP]⟩
    unfold someB
    rw [statesB_tup, show (([.int (-1)] : List Vl).all fun x => btw x 0 ((N : Int) - 1)) = false by
      rw [List.all_cons, btw_int, decide_eq_false (by omega : ¬ ((0 : Int) ≤ -1)), Bool.false_and, Bool.false_and]]
    simp
  · exact ⟨rfl, .tup (by simp) fun y hy => by rw [List.mem_singleton.mp hy]; exact .bl, by simp [itP]⟩
  · exact ⟨rfl, .non, by simp [itP]⟩
  · exact ⟨rfl, .str (by decide), by simp [itP]⟩
  · exact ⟨rfl, .int, by simp [itP]⟩
  · refine ⟨?_, .tup (by simp) fun y hy => ?_, by simp [itP]⟩
    · unfold someB
      rw [statesB_tup, show ascI (([.int 1, .int 0] : List Vl).map toI) = false by decide]
      simp
    · simp only [List.mem_cons, List.mem_nil_iff, or_false] at hy; rcases hy with rfl | rfl <;> exact .int
  · refine ⟨?_, .tup (by simp) fun y hy => ?_, by simp [itP]⟩
    · unfold someB
      rw [statesB_tup, show (([.int 0, .int (N : Int)] : List Vl).all fun x => btw x 0 ((N : Int) - 1)) = false by
        rw [List.all_cons, List.all_cons, btw_int, btw_int, decide_eq_false ng, Bool.and_false, Bool.false_and, Bool.and_false]]
      simp
    · simp only [List.mem_cons, List.mem_nil_iff, or_false] at hy; rcases hy with rfl | rfl <;> exact .int
  · refine ⟨?_, .tup (by simp) fun y hy => ?_, by simp [itP]⟩
    · unfold someB
      rw [statesB_tup, show (([.int 0, .non] : List Vl).all fun x => btw x 0 ((N : Int) - 1)) = false by
        rw [List.all_cons, List.all_cons, show btw .non 0 ((N : Int) - 1) = false from rfl, Bool.false_and, Bool.and_false]]
      simp
    · simp only [List.mem_cons, List.mem_nil_iff, or_false] at hy; rcases hy with rfl | rfl
      · exact .int
      · exact .non
theorem begins_right_wp (h : W.Ok) (hB : Bx b K st) (hK : K ≤ 100000000) (q : ∀ S', Bx b (K + 1) S' → Ext b st S' → Q (.bl true) S') : ((L.pr (n + 10)).F f__law_begins_right [.ref b, .int m, madeV W, worksV W sv, v] st).wp Q X := by
  refine u__law_begins_right ?_
  unfold b__law_begins_right
  walk_at "w"
  rw [List.length_map]
  refine take_wp (w := 12) hB (by omega) (by omega) (by omega) fun d S1 hd hB1 hE1 => ?_
  walk_at "w"
  refine pickP_wp (P := fun x => someB W.N x = false ∧ Pure 2 x ∧ (itP x).length ≤ 2) (by show d < 12; omega) (fun x hx => wrong_bad hx) fun x ⟨hx, px, lx⟩ => ?_
  walk_at "w"
  refine for_wp (fun i : Nat => Vl.int (i : Int)) [0, 2] (fun _ env s => Bx b (K + 1) s ∧ Ext b st s ∧ ∃ y7 y8 y9, env = [some (.val (.ref b)), some (.val (.int m)), some (.val (madeV W)), some (.val (worksV W sv)), some (.val v), some (.val (.int (W.sig.length : Int))), some (.val x), y7, y8, y9]) rfl ⟨hB1, hE1, none, none, none, rfl⟩ (fun k kind env s hk hi => ?_) fun env s hi => ?_
  · obtain ⟨hB2, hE2, y7, y8, y9, rfl⟩ := hi
    have hkind : kind = 0 ∨ kind = 2 := by
      have := List.mem_of_getElem? hk
      simp only [List.mem_cons, List.mem_nil_iff, or_false] at this
      exact this
    have P : Psd b s x x := .of (px.mono (by omega)) (by omega)
    have hb := hB2.lt
    refine set_by rfl ?_
    dsimp only [dz_set0, dz_set1]
    walk_at "w"
    refine tg_by (by rw [pr_ncls]; exact P.tg _) ?_
    by_cases hl : pT x = .list
    · have ep := pT_lst hl
      have ln := P.ln
      have it := P.it
      generalize itP x = xs at ep ln it
      subst ep
      rw [show ([Tg.list].any fun u => tgSub (pT (.lst xs)) u) = true from rfl]
      walk_at "w"
      have E1 : ∀ c, Ext c s ((s : List Ob) ++ [.lst xs]) := fun c => Ext.app
      have g1 : ((s : List Ob) ++ [.lst xs] : List Ob)[(s : List Ob).length]? = some (.lst xs) := by simp
      have P0 := P.ext (E1 b)
      have P1 : Psd b ((s : List Ob) ++ [.lst xs]) (.ref (s : List Ob).length) (.lst xs) := .ref g1 (by omega) ln it
      refine told_bad (n := n) hkind P1 hx ?_
      walk_at "w"
      refine same_wp (k := 6) ((rd2 (by decide) P1.rd).alike (rd2 (by decide) P0.rd)) (by omega) ?_
      walk_at "w"
      refine tg_by (by rw [pr_ncls]; exact P1.tg _) ?_
      rw [show ([Tg.list].any fun u => tgSub (pT (.lst xs)) u) = true from rfl]
      walk_at "w"
      refine m_appR rfl g1 ?_
      walk_at "w"
      refine ⟨xs, g1, by rw [sizeLine_eq]; omega, ?_⟩
      have g2 : (((s : List Ob) ++ [.lst xs] : List Ob).set (s : List Ob).length (.lst (xs ++ [.int 5])))[(s : List Ob).length]? = some (.lst (xs ++ [.int 5])) := by simp
      have E2 : ∀ c, Ext c s (((s : List Ob) ++ [.lst xs] : List Ob).set (s : List Ob).length (.lst (xs ++ [.int 5]))) := fun c => Ext.put (E1 c) (Nat.le_refl _)
      generalize (((s : List Ob) ++ [.lst xs] : List Ob).set (s : List Ob).length (.lst (xs ++ [.int 5]))) = S2 at g2 E2 ⊢
      walk_at "w"
      refine addL_wp rfl rfl (by omega) (by simp) ?_
      walk_at "w"
      have pl7 : PL 3 (xs ++ [.int 5]) := it.app (PL.cons .int PL.nil)
      have l7 : (xs ++ [Vl.int 5]).length ≤ 100000 := by simp; omega
      refine same_wp (k := 4) ((rdR (b := b) g2 (by omega) l7 pl7).alike (c := b) (.of (.lst l7 pl7))) (by omega) ?_
      walk_at "w"
      exact fq_nx (skv rfl) ⟨hB2.all E2, hE2.trans (E2 b), _, _, _, rfl⟩
    · have e0 : ([Tg.list].any fun u => tgSub (pT x) u) = false := by show (tgSub (pT x) .list || false) = _; generalize pT x = t at hl; cases t <;> first | rfl | exact absurd rfl hl
      rw [e0]
      walk_at "w"
      refine told_bad (n := n) hkind P hx ?_
      walk_at "w"
      refine same_wp (k := 6) ((rd2 (by decide) P.rd).alike (rd2 (by decide) P.rd)) (by omega) ?_
      walk_at "w"
      refine tg_by (by rw [pr_ncls]; exact P.tg _) ?_
      rw [e0]
      walk_at "w"
      exact fq_nx (skv rfl) ⟨hB2, hE2, _, _, _, rfl⟩
  · obtain ⟨hB2, hE2, y7, y8, y9, rfl⟩ := hi
    walk_at "w"
    exact q s hB2 hE2
end
end K07
set_option maxHeartbeats 4000000
namespace K07
open TW PySem
open L2 (Key)
/-- the numbers of the pairs that are barred in a state, or are not -/
def codesN (W : Wk) (s : Nat) (b : Bool) : List Nat := (List.range (W.D * W.A)).filter fun k => decide (isNon (cellV (W.at s (k / W.A) (k % W.A))) = b)
theorem codes_lt {W : Wk} {s k : Nat} {b : Bool} (h : k ∈ codesN W s b) : k < W.D * W.A := List.mem_range.mp (List.mem_filter.mp h).1
theorem code_lt {W : Wk} (h : W.Ok) {k : Nat} (hk : k < W.D * W.A) : k / W.A < W.D ∧ k % W.A < W.A := by
  have := h.a1
  exact ⟨(Nat.div_lt_iff_lt_mul (by omega)).mpr hk, Nat.mod_lt _ (by omega)⟩
theorem codes_len {W : Wk} {s : Nat} {b : Bool} (h : W.Ok) : (codesN W s b).length ≤ 36 := by
  have := List.length_filter_le (fun k => decide (isNon (cellV (W.at s (k / W.A) (k % W.A))) = b)) (List.range (W.D * W.A))
  rw [List.length_range] at this
  have : W.D * W.A ≤ 6 * 6 := Nat.mul_le_mul h.d6 h.a6
  unfold codesN
  omega
theorem codes_or {W : Wk} {s : Nat} (h : W.Ok) (e : codesN W s true = []) : codesN W s false ≠ [] := by
  intro e2
  have z : 0 ∈ List.range (W.D * W.A) := List.mem_range.mpr (Nat.mul_pos h.d1 h.a1)
  unfold codesN at e e2
  have h1 := List.filter_eq_nil_iff.mp e 0 z
  have h2 := List.filter_eq_nil_iff.mp e2 0 z
  cases hb : isNon (cellV (W.at s (0 / W.A) (0 % W.A))) with
  | true => exact h1 (decide_eq_true hb)
  | false => exact h2 (decide_eq_true hb)
theorem cm_neT0 {k : Nat} {xs : List Vl} {st : Sto} {Q : Bool → Sto → Prop} (h : Num k (.tup xs)) (hk : k ≤ 64) (q : Q (!xs.isEmpty) st) : cmW .ne (.tup xs) (.tup []) st Q := by
  refine ⟨!xs.isEmpty, ?_, q⟩
  have h0 : Num k (.tup []) := by
    cases h with
    | tup _ _ => exact .tup (by simp) fun x hx => by cases hx
  show (kEq (.tup xs) (.tup []) st).map (!·) = _
  rw [eq_tup h.dat h0.dat hk]
  show some (!(PyData.eqv _ _)) = _
  congr 2
  cases h with
  | tup l hx =>
    rw [dOf_tup hx, dOf_tup (k := 0) (xs := []) fun x hx => by cases hx]
    cases xs with
    | nil => unfold PyData.eqv PyData.eqvAll; rfl
    | cons x xs => unfold PyData.eqv; unfold PyData.eqvAll; rfl
theorem num_nat {l : List Nat} (h : l.length ≤ 1000) : Num 1 (.tup (natL l)) := .tup (by rw [List.length_map]; omega) fun x hx => by obtain ⟨i, _, rfl⟩ := List.mem_map.mp hx; exact .int
section
variable {n b k K : Nat} {v p bv bp x w sv due : Vl} {c A : Option (List Nat)} {l : List Nat} {st S1 : Sto} {Q : Vl → Sto → Prop} {X : XP} {W : Wk} {s d a : Nat} {m : Int} {xs : List Vl} {bb : Bool}
theorem codes_wp (h : W.Ok) (hs : SeqV sv st (rowsL W.S)) (ss : s < W.N) (q : Q (.lst (natL (codesN W s bb))) st) : ((L.pr (n + 2)).F f__law_codes [worksV W sv, .int (s : Int), .bl bb] st).wp Q X := by
  have a1 := h.a1
  have d6 := h.d6
  have a6 := h.a6
  refine u__law_codes ?_
  unfold b__law_codes
  walk_at "w"
  have le : W.D * W.A ≤ 6 * 6 := Nat.mul_le_mul d6 a6
  rw [show (W.D : Int) * (W.A : Int) = ((W.D * W.A : Nat) : Int) by rw [Int.natCast_mul]]
  refine r1_by (by omega) (by omega) ?_
  rw [rng_toNat]
  refine compFil_wp (fun i : Nat => Vl.int (i : Int)) (List.range (W.D * W.A)) (fun k => decide (isNon (cellV (W.at s (k / W.A) (k % W.A))) = bb)) (fun i => .int (i : Int)) rfl src_ok_nil (fun k hk => ?_) ?_
  · have hk := List.mem_range.mp hk
    obtain ⟨hd, ha⟩ := code_lt h hk
    obtain ⟨r, row, h1, h2, h3, h4⟩ := h.get ss hd ha
    refine set_by rfl ?_
    walk_at "w"
    refine ix_wp s hs.s hs.q (mp_at h1) ?_
    walk_at "w"
    rw [← Int.natCast_ediv]
    refine ixL_wp (mp_at h2) ?_
    walk_at "w"
    rw [← Int.natCast_emod]
    refine ixL_wp (mp_at h3) ?_
    walk_at "w"
    refine ⟨rfl, rfl, fun _ => ?_⟩
    walk_at "w"
    exact ⟨rfl, rfl⟩
  walk_at "w"
  exact q
theorem begin_wp {N : Nat} (h1 : 1 ≤ N) (h2 : N ≤ 120) (hB : Bx b K st) (hK : K ≤ 100000000) (q : ∀ l S', SetOk N l → Bx b (K + 200) S' → Ext b st S' → Q (.tup (natL l)) S') : ((L.pr (n + 2)).F f__law_begin [.ref b, .int (N : Int)] st).wp Q X := by
  refine u__law_begin ?_
  unfold b__law_begin
  walk_at "w"
  rw [rng_toNat]
  refine comp_wp (fun i : Nat => Vl.int (i : Int)) (List.range N) (fun k s => Bx b (K + k) s ∧ Ext b st s) (fun i o => o = none ∨ o = some (.int (i : Int))) rfl ⟨hB, Ext.refl⟩ (fun k i s hi hj => ?_) fun os S1 hl hp hj => ?_
  · obtain ⟨hB1, hE1⟩ := hj
    have := (List.getElem?_eq_some_iff.mp hi).1
    rw [List.length_range] at this
    refine set_by rfl ?_
    walk_at "w"
    refine take_wp (w := 2) hB1 (by omega) (by omega) (by omega) fun d S2 hd hB2 hE2 => ?_
    walk_at "w"
    apply br_dec <;> intro hd0
    · walk_at "w"
      exact ⟨src_ok_nil, .inr rfl, hB2, hE1.trans hE2⟩
    · exact ⟨src_ok_nil, .inl rfl, hB2, hE1.trans hE2⟩
  · rw [List.length_range] at hj
    obtain ⟨hB1, hE1⟩ := hj
    obtain ⟨some_, hsub, e, _⟩ := drawn_some hl hp
    obtain ⟨r1, r2, r3⟩ := range_sub hsub
    rw [e]
    walk_at "w"
    refine cm_neT0 (k := 1) (num_nat (by omega)) (by omega) ?_
    cases hn : some_ with
    | nil =>
      refine br_ff ?_
      walk_at "w"
      refine take_wp (w := N) hB1 (by omega) (by omega) (by omega) fun d S2 hd hB2 hE2 => ?_
      walk_at "w"
      exact q [d] S2 ⟨by simp, fun i hi => by rw [List.mem_singleton.mp hi]; exact hd, List.pairwise_singleton ..⟩ (hB2.up (by omega)) (hE1.trans hE2)
    | cons y ys =>
      refine br_tt ?_
      walk_at "w"
      exact q (y :: ys) S1 ⟨by simp, by rw [← hn]; exact r2, by rw [← hn]; exact r1⟩ (hB1.up (by omega)) hE1
end
end K07
set_option maxHeartbeats 4000000
namespace K07
open TW PySem
open L2 (Key)
def wkBk : Bk := .cons (.set 12 (.ix (.v 11) (.call f__law_take (.cons (.v 0) (.cons (.b1 .len (.v 11)) (.nil))))))
   (.cons (.app 5 (.tup (.cons (.v 8) (.cons (.bin .fdiv (.v 12) (.ix (.v 1) (.k (.int 1)))) (.cons (.bin .mod (.b1 .int (.v 12)) (.ix (.v 1) (.k (.int 1)))) (.nil))))))
   (.cons (.set 6 (.ix (.ix (.ix (.ix (.v 1) (.k (.int 3))) (.v 8)) (.bin .fdiv (.v 12) (.ix (.v 1) (.k (.int 1))))) (.bin .mod (.b1 .int (.v 12)) (.ix (.v 1) (.k (.int 1))))))
   (.cons (.ifs (.cmp .is_ (.v 6) (.k .non))
    (.cons (.ret (.v 5))
    (.nil))
    (.nil))
   (.nil))))
section
variable {n b k K T r : Nat} {v p bv bp x w sv due v2 v3 v6 v9 v10 : Vl} {c A : Option (List Nat)} {l cs : List Nat} {st S0 : Sto} {Q : Vl → Sto → Prop} {Qf : Fl → Sto → Prop} {X : XP} {W : Wk} {s d a : Nat} {m : Int} {xs : List Vl} {bb : Bool} {y12 : Option Sl}
theorem walk_tail (h : W.Ok) (hs : Sv b S0 sv W) (ss : s < W.N) (hcs : cs ≠ []) (hcl : cs.length ≤ 36) (hcm : ∀ k ∈ cs, k < W.D * W.A) (hB : Bx b K st) (hK : K ≤ 100000000) (hE : Ext b S0 st) (hr : (st : List Ob)[r]? = some (.lst xs)) (hr0 : (S0 : List Ob).length ≤ r) (rb : r ≠ b) (xl : xs.length ≤ 300)
    (q : ∀ code S', code ∈ cs → (S' : List Ob)[r]? = some (.lst (xs ++ [entV s (code / W.A) (code % W.A)])) → Bx b (K + 1) S' → Ext b S0 S' →
      (match W.at s (code / W.A) (code % W.A) with
        | none => Qf (.rt (.ref r)) S'
        | some l' => Qf (.nx [some (.val (.ref b)), some (.val (worksV W sv)), some (.val v2), some (.val v3), some (.val (.bl bb)), some (.val (.ref r)), some (.val (.tup (natL l'))), some (.val (.int m)), some (.val (.int (s : Int))), some (.val v9), some (.val v10), some (.val (.lst (natL cs))), some (.val (.int (code : Int)))]) S')) :
    (eb (L.pr (n + 2)) wkBk [some (.val (.ref b)), some (.val (worksV W sv)), some (.val v2), some (.val v3), some (.val (.bl bb)), some (.val (.ref r)), some (.val v6), some (.val (.int m)), some (.val (.int (s : Int))), some (.val v9), some (.val v10), some (.val (.lst (natL cs))), y12] st).wp Qf X := by
  have a1 := h.a1
  have a6 := h.a6
  have c0 := List.length_pos_iff.mpr hcs
  unfold wkBk
  walk_at "w"
  rw [List.length_map]
  refine take_wp (w := cs.length) hB (by omega) (by omega) (by omega) fun d S1 hd hB1 hE1 => ?_
  obtain ⟨code, hc⟩ : ∃ c, cs[d]? = some c := ⟨_, List.getElem?_eq_getElem hd⟩
  have cm := List.mem_of_getElem? hc
  have ck := hcm code cm
  obtain ⟨hd2, ha2⟩ := code_lt h ck
  obtain ⟨rw_, row, h1, h2, h3, h4⟩ := h.get ss hd2 ha2
  have hr1 := hE1.get hr rb
  refine ixL_wp (mp_at hc) ?_
  walk_at "w"
  refine m_appR rfl hr1 ?_
  walk_at "w"
  rw [← Int.natCast_ediv, ← Int.natCast_emod]
  refine ⟨xs, hr1, by rw [sizeLine_eq]; omega, ?_⟩
  have hE2 : Ext b S0 ((S1 : List Ob).set r (.lst (xs ++ [entV s (code / W.A) (code % W.A)]))) := Ext.put (hE.trans hE1) hr0
  have hr2 : ((S1 : List Ob).set r (.lst (xs ++ [entV s (code / W.A) (code % W.A)])))[r]? = some (.lst (xs ++ [entV s (code / W.A) (code % W.A)])) := List.getElem?_set_self (List.getElem?_eq_some_iff.mp hr1).1
  have hB2 : Bx b (K + 1) ((S1 : List Ob).set r (.lst (xs ++ [entV s (code / W.A) (code % W.A)]))) := hB1.put rb
  generalize ((S1 : List Ob).set r (.lst (xs ++ [entV s (code / W.A) (code % W.A)]))) = S2 at hE2 hr2 hB2 ⊢
  have hs2 := hs.ext hE2
  have q2 := q code S2 cm hr2 hB2 hE2
  walk_at "w"
  refine ix_wp s hs2.q.s hs2.q.q (mp_at h1) ?_
  walk_at "w"
  rw [← Int.natCast_ediv]
  refine ixL_wp (mp_at h2) ?_
  walk_at "w"
  rw [← Int.natCast_emod]
  refine ixL_wp (mp_at h3) ?_
  cases hat : W.at s (code / W.A) (code % W.A) with
  | none =>
    rw [hat] at q2
    walk_at "w"
    exact q2
  | some l' =>
    rw [hat] at q2
    walk_at "w"
    exact q2
theorem walked_wp (h : W.Ok) (hs : Sv b st sv W) (hl : SetOk W.N l) (hT : T ≤ 201) (hB : Bx b K st) (hK : K ≤ 10000000)
    (q : ∀ (r : Nat) (xs : List Vl) (S' : Sto), (S' : List Ob)[r]? = some (.lst xs) → r ≠ b → (st : List Ob).length ≤ r → (∀ x ∈ xs, entB W x = true) → xs.length ≤ T → ((∀ s, s < W.N → codesN W s false ≠ []) → bb = false → xs.length = T) → Bx b (K + 500) S' → Ext b st S' → Q (.ref r) S') :
    ((L.pr (n + 3)).F f__law_walked [.ref b, worksV W sv, .tup (natL l), .int (T : Int), .bl bb] st).wp Q X := by
  refine u__law_walked ?_
  unfold b__law_walked
  walk_at "w"
  rw [rng_toNat]
  have hr0 : ((st : List Ob) ++ [.lst []] : List Ob)[(st : List Ob).length]? = some (.lst []) := by simp
  have hb := hB.lt
  have rb : (st : List Ob).length ≠ b := by omega
  refine for_wp (fun i : Nat => Vl.int (i : Int)) (List.range T) (fun k env s => ∃ xs l' y7 y8 y9 y10 y11 y12, env = [some (.val (.ref b)), some (.val (worksV W sv)), some (.val (.tup (natL l))), some (.val (.int (T : Int))), some (.val (.bl bb)), some (.val (.ref (st : List Ob).length)), some (.val (.tup (natL l'))), y7, y8, y9, y10, y11, y12] ∧
      (s : List Ob)[(st : List Ob).length]? = some (.lst xs) ∧ (∀ x ∈ xs, entB W x = true) ∧ xs.length = k ∧ SetOk W.N l' ∧ Bx b (K + 2 * k) s ∧ Ext b st s) rfl ⟨[], l, none, none, none, none, none, none, rfl, hr0, (fun x hx => by cases hx), rfl, hl, hB.app, Ext.app⟩ (fun k i env s hi hj => ?_) fun env s hj => ?_
  · obtain ⟨xs, l', y7, y8, y9, y10, y11, y12, rfl, hr, hx, hk, hl', hB1, hE1⟩ := hj
    have hik : k < T ∧ i = k := by
      obtain ⟨h1, h2⟩ := List.getElem?_eq_some_iff.mp hi
      rw [List.length_range] at h1
      rw [List.getElem_range] at h2
      exact ⟨h1, h2.symm⟩
    obtain ⟨hkT, rfl⟩ := hik
    have l0 := List.length_pos_iff.mpr hl'.ne
    have ll := set_len hl'
    have n2 : W.N ≤ 120 := h.n2
    refine set_by rfl ?_
    dsimp only [dz_set0, dz_set1]
    show (eb _ (.cons _ (.cons _ (.cons _ wkBk))) _ _).wp _ _
    walk_at "w"
    rw [List.length_map]
    refine take_wp (w := l'.length) hB1 (by omega) (by omega) (by omega) fun d S2 hd hB2 hE2 => ?_
    obtain ⟨s0, hs0⟩ : ∃ c, l'[d]? = some c := ⟨_, List.getElem?_eq_getElem hd⟩
    have sN := hl'.lt s0 (List.mem_of_getElem? hs0)
    have hr2 := hE2.get hr rb
    have hE02 := hE1.trans hE2
    have hs2 := hs.ext hE02
    refine ixT_wp (mp_at hs0) ?_
    walk_at "w"
    refine codes_wp (n := n) h hs2.q sN ?_
    walk_at "w"
    refine codes_wp (n := n) h hs2.q sN ?_
    walk_at "w"
    have key : ∀ cs : List Nat, cs ≠ [] → (cs = codesN W s0 false ∨ (cs = codesN W s0 true ∧ (codesN W s0 false = [] ∨ bb = true))) → (eb (L.pr (n + 2)) wkBk [some (.val (.ref b)), some (.val (worksV W sv)), some (.val (.tup (natL l))), some (.val (.int (T : Int))), some (.val (.bl bb)), some (.val (.ref (st : List Ob).length)), some (.val (.tup (natL l'))), some (.val (.int (xs.length : Int))), some (.val (.int (s0 : Int))), some (.val (.lst (natL (codesN W s0 false)))), some (.val (.lst (natL (codesN W s0 true)))), some (.val (.lst (natL cs))), y12] S2).wp
        (forQ ⟨(List.range T).map fun i : Nat => Vl.int (i : Int), []⟩ (fun env s => ∃ xs' l' y7 y8 y9 y10 y11 y12, env = [some (.val (.ref b)), some (.val (worksV W sv)), some (.val (.tup (natL l))), some (.val (.int (T : Int))), some (.val (.bl bb)), some (.val (.ref (st : List Ob).length)), some (.val (.tup (natL l'))), y7, y8, y9, y10, y11, y12] ∧
      (s : List Ob)[(st : List Ob).length]? = some (.lst xs') ∧ (∀ x ∈ xs', entB W x = true) ∧ xs'.length = xs.length + 1 ∧ SetOk W.N l' ∧ Bx b (K + 2 * (xs.length + 1)) s ∧ Ext b st s) (nxQ (fun env s => (eb (L.pr (n + 2)) (.cons (.ret (.v 5)) .nil) env s).wp (rtQ Q) X) (rtQ Q))) X := by
      intro cs hne hor
      have hcl : cs.length ≤ 36 := by rcases hor with e | ⟨e, _⟩ <;> rw [e] <;> exact codes_len h
      have hcm : ∀ k ∈ cs, k < W.D * W.A := fun k hk => by rcases hor with e | ⟨e, _⟩ <;> (rw [e] at hk; exact codes_lt hk)
      refine walk_tail (n := n) (S0 := st) h hs sN hne hcl hcm hB2 (by omega) hE02 hr2 (Nat.le_refl _) rb (by omega) fun code S3 cm hr3 hB3 hE3 => ?_
      obtain ⟨hd2, ha2⟩ := code_lt h (hcm code cm)
      have he : Ent W (entV s0 (code / W.A) (code % W.A)) s0 (code / W.A) (code % W.A) := ⟨rfl, sN, hd2, ha2⟩
      have hx3 : ∀ x ∈ xs ++ [entV s0 (code / W.A) (code % W.A)], entB W x = true := fun x hx' => by
        rcases List.mem_append.mp hx' with hx' | hx'
        · exact hx x hx'
        · rw [List.mem_singleton.mp hx']; exact he.b
      cases hat : W.at s0 (code / W.A) (code % W.A) with
      | none =>
        dsimp only
        refine fq_rt (q (st : List Ob).length _ S3 hr3 rb (Nat.le_refl _) hx3 (by rw [List.length_append]; simp; omega) (fun hf hbb => ?_) (hB3.up (by omega)) hE3)
        rcases hor with e | ⟨_, e | e⟩
        · rw [e] at cm
          have := (List.mem_filter.mp cm).2
          rw [hat] at this
          cases (of_decide_eq_true this : isNon (cellV none) = false)
        · exact absurd e (hf s0 sN)
        · rw [hbb] at e; cases e
      | some l3 =>
        dsimp only
        obtain ⟨_, _, _, _, _, h4⟩ := h.get sN hd2 ha2
        exact fq_nx src_ok_nil ⟨_, l3, _, _, _, _, _, _, rfl, hr3, hx3, by rw [List.length_append]; rfl, h4 l3 hat, hB3.up (by omega), hE3⟩
    subst hk
    have hco := codes_or (s := s0) h
    generalize codesN W s0 false = fr at key hco ⊢
    generalize codesN W s0 true = sh at key hco ⊢
    refine cm_nnilA ?_
    cases sh with
    | nil =>
      refine br_ff ?_
      walk_at "w"
      exact key fr (hco rfl) (.inl rfl)
    | cons z zs =>
      refine br_tt ?_
      walk_at "w"
      refine cm_nilA ?_
      cases fr with
      | nil =>
        refine br_tt ?_
        walk_at "w"
        exact key (z :: zs) (by simp) (.inr ⟨rfl, .inl rfl⟩)
      | cons u us =>
        refine br_ff ?_
        walk_at "w"
        cases bb with
        | false =>
          walk_at "w"
          exact key (u :: us) (by simp) (.inl rfl)
        | true =>
          walk_at "w"
          apply br_dec <;> intro _
          · walk_at "w"
            exact key (z :: zs) (by simp) (.inr ⟨rfl, .inr rfl⟩)
          · walk_at "w"
            exact key (u :: us) (by simp) (.inl rfl)
  · obtain ⟨xs, l', y7, y8, y9, y10, y11, y12, rfl, hr, hx, hk, hl', hB1, hE1⟩ := hj
    rw [List.length_range] at hk hB1
    walk_at "w"
    exact q _ xs s hr rb (Nat.le_refl _) hx (by omega) (fun _ _ => hk) (hB1.up (by omega)) hE1
end
end K07
set_option maxHeartbeats 4000000
namespace K07
open TW PySem
open L2 (Key)
theorem cut_map {α β : Type} {f : α → β} {xs : List α} {l u : Option Int} : cutL (xs.map f) l u = (cutL xs l u).map f := by
  unfold cutL
  rw [List.map_take, List.map_drop, List.length_map]
/-- a value that the law may ask about -/
structure Spt (p : Vl) : Prop where
  c : Pure 4 p ∨ p = .dct [] []
  l : (itP p).length ≤ 900
theorem Spt.psd {b : Nat} {st : Sto} {p : Vl} (h : Spt p) : Psd b st p p := by
  rcases h.c with c | rfl
  · exact .of c h.l
  · exact .dct
theorem spt_lst {k : Nat} {xs : List Vl} (hk : k ≤ 3) (h : PL k xs) (l : xs.length ≤ 900) : Spt (.lst xs) := ⟨.inl (.lst (by omega) fun x hx => (h x hx).mono hk), l⟩
theorem spt_tup {k : Nat} {xs : List Vl} (hk : k ≤ 3) (h : PL k xs) (l : xs.length ≤ 900) : Spt (.tup xs) := ⟨.inl (.tup (by omega) fun x hx => (h x hx).mono hk), l⟩
theorem pl_ent {W : Wk} {xs : List Vl} (h : ∀ x ∈ xs, entB W x = true) : PL 1 xs := fun x hx => by
  obtain ⟨s, d, a, he⟩ := entB_ex (h x hx)
  rw [he.e]
  exact .tup (by simp) fun y hy => by
    simp only [List.mem_cons, List.mem_nil_iff, or_false] at hy
    rcases hy with rfl | rfl | rfl <;> exact .int
theorem pure3 {x y z : Int} : Pure 1 (.tup [.int x, .int y, .int z]) := .tup (by simp) fun y hy => by
  simp only [List.mem_cons, List.mem_nil_iff, or_false] at hy
  rcases hy with rfl | rfl | rfl <;> exact .int
section
variable {n b k K T r : Nat} {v p bv bp x w sv due v2 v3 v6 v9 v10 : Vl} {c A : Option (List Nat)} {l cs : List Nat} {st S0 : Sto} {Q : Vl → Sto → Prop} {Qf : Fl → Sto → Prop} {X : XP} {W : Wk} {s d a : Nat} {m : Int} {xs : List Vl} {bb : Bool} {y12 : Option Sl}
theorem sl_psd {lo hi : Option Int} {Q : Vl → Prop} (P : Psd b st v (.lst xs)) (q : Q (.lst (cutL xs lo hi))) : slW v lo hi st Q := by
  have r := P.rd
  have s : SeqV v st xs := P.sq rfl
  cases r with
  | lst _ _ _ =>
    have := seq_uniq s seqv_lst
    subst this
    exact sl_lst q
  | ref hb e _ _ _ =>
    have := seq_uniq s (seqv_ref e)
    subst this
    exact sl_ref e q
theorem bools_wp (q : ∀ x, Pure 1 x → Q x st) : ((L.pr (n + 1)).F f__law_bools [entV s d a] st).wp Q X := by
  refine u__law_bools ?_
  unfold b__law_bools
  walk_at "w"
  refine compM_wp (fun i : Nat => Vl.int (i : Int)) [s, d, a] (fun i => if i = 0 then .bl false else if i = 1 then .bl true else .int (i : Int)) rfl (skv rfl) (fun i hi => ?_) ?_
  · refine set_by rfl ?_
    walk_at "w"
    refine cm_inS (ns := [0, 1]) rfl ?_
    by_cases h0 : i = 0
    · subst h0
      refine br_T (by decide) ?_
      walk_at "w"
      exact ⟨rfl, rfl⟩
    · by_cases h1 : i = 1
      · subst h1
        refine br_T (by decide) ?_
        walk_at "w"
        exact ⟨rfl, rfl⟩
      · refine br_F (decide_eq_false (by simp; omega)) ?_
        walk_at "w"
        rw [if_neg h0, if_neg h1]
        exact ⟨rfl, rfl⟩
  walk_at "w"
  refine q _ (.tup (by simp) fun y hy => ?_)
  obtain ⟨i, _, rfl⟩ := List.mem_map.mp hy
  split
  · exact .bl
  · split
    · exact .bl
    · exact .int
end
end K07
set_option maxHeartbeats 4000000
namespace K07
open TW PySem
open L2 (Key)
def spBk : Bk := .cons (.unp (.u [9, 10, 11]) (.tup (.cons (.lst (.of (.sl (.v 2) (.no) (.so (.v 4))))) (.cons (.lst (.of (.sl (.v 2) (.so (.bin .add (.v 4) (.k (.int 1)))) (.no)))) (.cons (.call f__law_take (.cons (.v 0) (.cons (.v 5) (.nil)))) (.nil))))))
  (.cons (.ifs (.cmp .lt (.v 3) (.k (.int 8)))
   (.cons (.set 12 (.lst (.disp (.cons (.tup (.cons (.v 11) (.cons (.v 7) (.cons (.v 8) (.nil))))) (.cons (.tup (.cons (.v 5) (.cons (.v 7) (.cons (.v 8) (.nil))))) (.cons (.tup (.cons (.neg (.k (.int 1))) (.cons (.v 7) (.cons (.v 8) (.nil))))) (.cons (.tup (.cons (.v 6) (.cons (.ix (.v 1) (.k (.int 0))) (.cons (.v 8) (.nil))))) (.cons (.tup (.cons (.v 6) (.cons (.v 7) (.cons (.ix (.v 1) (.k (.int 1))) (.nil))))) (.nil)))))))))
   (.cons (.set 12 (.bin .add (.v 12) (.lst (.disp (.cons (.tup (.cons (.v 6) (.cons (.neg (.k (.int 1))) (.cons (.v 8) (.nil))))) (.cons (.tup (.cons (.v 6) (.cons (.v 7) (.cons (.neg (.k (.int 1))) (.nil))))) (.cons (.tup (.cons (.v 6) (.cons (.call f__law_take (.cons (.v 0) (.cons (.ix (.v 1) (.k (.int 0))) (.nil)))) (.cons (.call f__law_take (.cons (.v 0) (.cons (.ix (.v 1) (.k (.int 1))) (.nil)))) (.nil))))) (.nil))))))))
   (.cons (.ret (.bin .add (.bin .add (.v 9) (.lst (.disp (.cons (.ix (.v 12) (.v 3)) (.nil))))) (.v 10)))
   (.nil))))
   (.nil))
  (.cons (.ifs (.cmp .lt (.v 3) (.k (.int 13)))
   (.cons (.ret (.bin .add (.bin .add (.v 9) (.lst (.disp (.cons (.ix (.lst (.disp (.cons (.lst (.disp (.cons (.v 6) (.cons (.v 7) (.cons (.v 8) (.nil)))))) (.cons (.tup (.cons (.v 6) (.cons (.v 7) (.nil)))) (.cons (.tup (.cons (.v 6) (.cons (.v 7) (.cons (.v 8) (.cons (.k (.int 0)) (.nil)))))) (.cons (.k .non) (.cons (.call f__law_bools (.cons (.tup (.cons (.v 6) (.cons (.v 7) (.cons (.v 8) (.nil))))) (.nil))) (.nil)))))))) (.bin .sub (.v 3) (.k (.int 8)))) (.nil))))) (.v 10)))
   (.nil))
   (.nil))
  (.cons (.ifs (.cmp .lt (.v 3) (.k (.int 17)))
   (.cons (.set 13 (.bin .add (.bin .add (.v 9) (.lst (.disp (.cons (.tup (.cons (.v 6) (.cons (.v 7) (.cons (.v 8) (.nil))))) (.nil))))) (.lst (.of (.sl (.v 2) (.so (.v 4)) (.no))))))
   (.cons (.ret (.ix (.lst (.disp (.cons (.bin .add (.v 9) (.v 10)) (.cons (.v 13) (.cons (.rev (.v 2)) (.cons (.bin .add (.lst (.of (.v 2))) (.lst (.disp (.cons (.tup (.cons (.v 11) (.cons (.v 7) (.cons (.v 8) (.nil))))) (.nil))))) (.nil))))))) (.bin .sub (.v 3) (.k (.int 13)))))
   (.nil)))
   (.nil))
  (.cons (.ifs (.cmp .eq (.v 3) (.k (.int 17)))
   (.cons (.ret (.b1 .tuple (.v 2)))
   (.nil))
   (.nil))
  (.cons (.ifs (.cmp .eq (.v 3) (.k (.int 18)))
   (.cons (.set 14 (.call f__law_codes (.cons (.v 1) (.cons (.v 6) (.cons (.k (.bl true)) (.nil))))))
   (.cons (.ret (.bin .add (.bin .add (.v 9) (.lst (.comp (.n 15) (.seq (.sl (.v 14) (.no) (.so (.k (.int 1))))) (.no) (.tup (.cons (.v 6) (.cons (.bin .fdiv (.v 15) (.ix (.v 1) (.k (.int 1)))) (.cons (.bin .mod (.b1 .int (.v 15)) (.ix (.v 1) (.k (.int 1)))) (.nil))))) [15]))) (.v 10)))
   (.nil)))
   (.nil))
  (.cons (.ifs (.cmp .eq (.v 3) (.k (.int 19)))
   (.cons (.ret (.bin .add (.v 9) (.lst (.comp (.n 15) (.seq (.sl (.call f__law_codes (.cons (.v 1) (.cons (.v 11) (.cons (.k (.bl true)) (.nil))))) (.no) (.so (.k (.int 1))))) (.no) (.tup (.cons (.v 11) (.cons (.bin .fdiv (.v 15) (.ix (.v 1) (.k (.int 1)))) (.cons (.bin .mod (.b1 .int (.v 15)) (.ix (.v 1) (.k (.int 1)))) (.nil))))) [15]))))
   (.nil))
   (.nil))
  (.cons (.ret (.ix (.lst (.disp (.cons (.k .non) (.cons (.k (.bl true)) (.cons (.k (.int 0)) (.cons (.k (.str "")) (.cons (.k (.str "course")) (.cons (.dct0) (.cons (.tup (.nil)) (.cons (.lst (.disp (.cons (.tup (.nil)) (.nil)))) (.cons (.lst (.disp (.cons (.k .non) (.nil)))) (.cons (.tup (.cons (.k (.int 0)) (.cons (.k (.int 0)) (.cons (.k (.int 0)) (.nil))))) (.nil))))))))))))) (.call f__law_take (.cons (.v 0) (.cons (.k (.int 10)) (.nil))))))
  (.nil))))))))
section
variable {n b k K T r : Nat} {v p bv bp x w sv due v2 v3 v6 v9 v10 : Vl} {c A : Option (List Nat)} {l cs : List Nat} {st S0 : Sto} {Q : Vl → Sto → Prop} {Qf : Fl → Sto → Prop} {X : XP} {W : Wk} {s d a : Nat} {m : Int} {xs : List Vl} {bb : Bool} {y12 : Option Sl}
theorem code_list (h : W.Ok) {f : Nat → Vl} : PL 1 ((cutL (codesN W s true) none (some 1)).map fun k => Vl.tup [.int (d : Int), .int ((k / W.A : Nat) : Int), .int ((k % W.A : Nat) : Int)]) := fun x hx => by
  obtain ⟨k, _, rfl⟩ := List.mem_map.mp hx
  exact pure3
theorem spoilt_tail {way at_ : Nat} (h : W.Ok) (hs : Sv b st sv W) (P : Psd b st v (.lst xs)) (pe : PL 1 xs) (hl : xs.length ≤ 201) (hw : way < 21) (ha : at_ ≤ xs.length) (ss : s < W.N) (hB : Bx b K st) (hK : K ≤ 100000000)
    (q : ∀ p S', Spt p → Bx b (K + 5) S' → Ext b st S' → Q p S') :
    (eb (L.pr (n + 3)) spBk [some (.val (.ref b)), some (.val (worksV W sv)), some (.val v), some (.val (.int (way : Int))), some (.val (.int (at_ : Int))), some (.val (.int (W.sig.length : Int))), some (.val (.int (s : Int))), some (.val (.int (d : Int))), some (.val (.int (a : Int))), none, none, none, none, none, none, none] st).wp (rtQ Q) X := by
  have d1 := h.d1
  have d6 := h.d6
  have a1 := h.a1
  have a6 := h.a6
  have n1 : 1 ≤ W.sig.length := h.n1
  have n2 : W.sig.length ≤ 120 := h.n2
  unfold spBk
  walk_at "w"
  refine sl_psd P ?_
  walk_at "w"
  refine sl_psd P ?_
  walk_at "w"
  refine take_wp (w := W.sig.length) hB (by omega) (by omega) (by omega) fun one S1 h1 hB1 hE1 => ?_
  have P1 := P.ext hE1
  have hs1 := hs.ext hE1
  have ph : PL 1 (cutL xs none (some (at_ : Int))) := pe.cut
  have pr : PL 1 (cutL xs (some ((at_ : Int) + 1)) none) := pe.cut
  have lh : (cutL xs none (some (at_ : Int))).length ≤ 201 := Nat.le_trans cut_len hl
  have lr : (cutL xs (some ((at_ : Int) + 1)) none).length ≤ 201 := Nat.le_trans cut_len hl
  generalize cutL xs none (some (at_ : Int)) = here at ph lh ⊢
  generalize cutL xs (some ((at_ : Int) + 1)) none = rest at pr lr ⊢
  walk_at "w"
  apply br_dec <;> intro e8
  · walk_at "w"
    refine take_wp (w := W.D) hB1 (by omega) (by omega) (by omega) fun d2 S2 hd2 hB2 hE2 => ?_
    walk_at "w"
    refine take_wp (w := W.A) hB2 (by omega) (by omega) (by omega) fun d3 S3 hd3 hB3 hE3 => ?_
    walk_at "w"
    refine op_addL (by simp [sizeLine_eq]) ?_
    walk_at "w"
    refine pick_wp (k := 1) (by show way < 8; omega) (PL.cons pure3 (PL.cons pure3 (PL.cons pure3 (PL.cons pure3 (PL.cons pure3 (PL.cons pure3 (PL.cons pure3 (PL.cons pure3 PL.nil)))))))) fun x hx => ?_
    walk_at "w"
    refine op_addL (by simp [sizeLine_eq]; omega) ?_
    walk_at "w"
    refine op_addL (by simp [sizeLine_eq]; omega) ?_
    walk_at "w"
    exact q _ S3 (spt_lst (k := 1) (by omega) ((ph.app (PL.cons hx PL.nil)).app pr) (by simp; omega)) (hB3.up (by omega)) ((hE1.trans hE2).trans hE3)
  walk_at "w"
  apply br_dec <;> intro e13
  · walk_at "w"
    refine bools_wp (n := n + 2) (s := s) (d := d) (a := a) fun y py => ?_
    walk_at "w"
    rw [show (way : Int) - 8 = ((way - 8 : Nat) : Int) by omega]
    refine pick_wp (k := 1) (by show way - 8 < 5; omega) (PL.cons (.lst (by simp) (PL.cons .int (PL.cons .int (PL.cons .int PL.nil)))) (PL.cons (.tup (by simp) (PL.cons .int (PL.cons .int PL.nil))) (PL.cons (.tup (by simp) (PL.cons .int (PL.cons .int (PL.cons .int (PL.cons .int PL.nil))))) (PL.cons .non (PL.cons py PL.nil))))) fun x hx => ?_
    walk_at "w"
    refine op_addL (by simp [sizeLine_eq]; omega) ?_
    walk_at "w"
    refine op_addL (by simp [sizeLine_eq]; omega) ?_
    walk_at "w"
    exact q _ S1 (spt_lst (k := 1) (by omega) ((ph.app (PL.cons hx PL.nil)).app pr) (by simp; omega)) (hB1.up (by omega)) hE1
  walk_at "w"
  apply br_dec <;> intro e17
  · walk_at "w"
    refine op_addL (by simp [sizeLine_eq]; omega) ?_
    walk_at "w"
    refine sl_psd P1 ?_
    walk_at "w"
    have pa : PL 1 (cutL xs (some (at_ : Int)) none) := pe.cut
    have la : (cutL xs (some (at_ : Int)) none).length ≤ 201 := Nat.le_trans cut_len hl
    generalize cutL xs (some (at_ : Int)) none = tl at pa la ⊢
    refine op_addL (by simp [sizeLine_eq]; omega) ?_
    walk_at "w"
    refine op_addL (by simp [sizeLine_eq]; omega) ?_
    walk_at "w"
    refine rev_wp P1.lst ?_
    walk_at "w"
    refine seq_by (show seqOf v S1 = some xs from (P1.sq rfl).q) ?_
    walk_at "w"
    refine op_addL (by simp [sizeLine_eq]; omega) ?_
    walk_at "w"
    rw [show (way : Int) - 13 = ((way - 13 : Nat) : Int) by omega]
    refine pickP_wp (P := Spt) (by show way - 13 < 4; omega) (fun x hx => ?_) fun x hx => ?_
    · simp only [List.mem_cons, List.mem_nil_iff, or_false] at hx
      rcases hx with rfl | rfl | rfl | rfl
      · exact spt_lst (k := 1) (by omega) (ph.app pr) (by simp; omega)
      · exact spt_lst (k := 1) (by omega) ((ph.app (PL.cons pure3 PL.nil)).app pa) (by simp; omega)
      · exact spt_lst (k := 1) (by omega) pe.rev (by simp; omega)
      · exact spt_lst (k := 1) (by omega) (pe.app (PL.cons pure3 PL.nil)) (by simp; omega)
    · walk_at "w"
      exact q _ S1 hx (hB1.up (by omega)) hE1
  walk_at "w"
  apply br_dec <;> intro ea
  · walk_at "w"
    refine tup_wp (show seqOf v S1 = some xs from (P1.sq rfl).q) ?_
    walk_at "w"
    exact q _ S1 (spt_tup (k := 1) (by omega) pe (by omega)) (hB1.up (by omega)) hE1
  walk_at "w"
  have cl : ∀ s, (cutL (codesN W s true) none (some 1)).length ≤ 36 := fun s => Nat.le_trans cut_len (codes_len h)
  apply br_dec <;> intro eb
  · walk_at "w"
    refine codes_wp (n := n + 1) h hs1.q ss ?_
    walk_at "w"
    rw [cut_map]
    refine compM_wp (fun k : Nat => Vl.int (k : Int)) (cutL (codesN W s true) none (some 1)) (fun k => Vl.tup [.int (s : Int), .int ((k / W.A : Nat) : Int), .int ((k % W.A : Nat) : Int)]) rfl (skv rfl) (fun k hk => ?_) ?_
    · refine set_by rfl ?_
      walk_at "w"
      rw [Int.natCast_ediv, Int.natCast_emod]
      exact ⟨rfl, rfl⟩
    walk_at "w"
    have := cl s
    refine op_addL (by rw [List.length_map, sizeLine_eq]; omega) ?_
    walk_at "w"
    refine op_addL (by rw [List.length_append, List.length_map, sizeLine_eq]; omega) ?_
    walk_at "w"
    exact q _ S1 (spt_lst (k := 1) (by omega) ((ph.app (code_list h (f := fun _ => .non))).app pr) (by rw [List.length_append, List.length_append, List.length_map]; omega)) (hB1.up (by omega)) hE1
  walk_at "w"
  apply br_dec <;> intro ec
  · walk_at "w"
    refine codes_wp (n := n + 1) h hs1.q h1 ?_
    walk_at "w"
    rw [cut_map]
    refine compM_wp (fun k : Nat => Vl.int (k : Int)) (cutL (codesN W one true) none (some 1)) (fun k => Vl.tup [.int (one : Int), .int ((k / W.A : Nat) : Int), .int ((k % W.A : Nat) : Int)]) rfl (skv rfl) (fun k hk => ?_) ?_
    · refine set_by rfl ?_
      walk_at "w"
      rw [Int.natCast_ediv, Int.natCast_emod]
      exact ⟨rfl, rfl⟩
    walk_at "w"
    have := cl one
    refine op_addL (by rw [List.length_map, sizeLine_eq]; omega) ?_
    walk_at "w"
    exact q _ S1 (spt_lst (k := 1) (by omega) (ph.app (code_list h (f := fun _ => .non))) (by rw [List.length_append, List.length_map]; omega)) (hB1.up (by omega)) hE1
  walk_at "w"
  refine take_wp (w := 10) hB1 (by omega) (by omega) (by omega) fun dd S2 hdd hB2 hE2 => ?_
  walk_at "w"
  refine pickP_wp (P := Spt) (by show dd < 10; omega) (fun x hx => ?_) fun x hx => ?_
  · have one : ∀ {v : Vl}, Pure 3 v → (itP v).length ≤ 3 → Spt v := fun h1 h2 => ⟨.inl (h1.mono (by omega)), by omega⟩
    simp only [List.mem_cons, List.mem_nil_iff, or_false] at hx
    rcases hx with rfl | rfl | rfl | rfl | rfl | rfl | rfl | rfl | rfl | rfl
    · exact one .non (by decide)
    · exact one .bl (by decide)
    · exact one .int (by decide)
    · exact one (.str (by decide)) (by decide)
    · exact one (.str (by decide)) (by decide)
    · exact ⟨.inr rfl, by decide⟩
    · exact spt_tup (k := 0) (by omega) PL.nil (by simp)
    · exact spt_lst (k := 1) (by omega) (PL.cons (.tup (by simp) PL.nil) PL.nil) (by simp)
    · exact spt_lst (k := 0) (by omega) (PL.cons .non PL.nil) (by simp)
    · exact spt_tup (k := 0) (by omega) (PL.cons .int (PL.cons .int (PL.cons .int PL.nil))) (by simp)
  · walk_at "w"
    exact q _ S2 hx (hB2.up (by omega)) (hE1.trans hE2)
end
end K07
set_option maxHeartbeats 4000000
namespace K07
open TW PySem
open L2 (Key)
def lwCell : Bk := .cons (.set 12 (.b1 .tuple (.lst (.comp (.n 13) (.r1 (.v 1)) (.so (.cmp .eq (.call f__law_take (.cons (.v 0) (.cons (.k (.int 3)) (.nil)))) (.k (.int 0)))) (.v 13) [13]))))
     (.cons (.app 10 (.ife (.cmp .eq (.call f__law_take (.cons (.v 0) (.cons (.v 5) (.nil)))) (.k (.int 0))) (.k .non) (.ife (.cmp .ne (.v 12) (.tup (.nil))) (.v 12) (.tup (.cons (.call f__law_take (.cons (.v 0) (.cons (.v 1) (.nil)))) (.nil))))))
     (.nil))
section
variable {n b k K T r N bars : Nat} {v p bv bp x w sv due v2 v3 v6 v9 v10 : Vl} {c A : Option (List Nat)} {l cs : List Nat} {st S0 : Sto} {Q : Vl → Sto → Prop} {Qf : Fl → Sto → Prop} {X : XP} {W : Wk} {s d a : Nat} {m : Int} {xs ws : List Vl} {bb : Bool} {y2 y3 y4 y6 y7 y8 y9 y11 y12 : Option Sl}
theorem spoilt_wp (h : W.Ok) (hs : Sv b st sv W) (P : Psd b st v (.lst xs)) (he : ∀ x ∈ xs, entB W x = true) (hl : xs.length ≤ 201) (hB : Bx b K st) (hK : K ≤ 10000000)
    (q : ∀ p S', Spt p → Bx b (K + 10) S' → Ext b st S' → Q p S') : ((L.pr (n + 4)).F f__law_spoilt [.ref b, worksV W sv, v] st).wp Q X := by
  have n1 : 1 ≤ W.sig.length := h.n1
  refine u__law_spoilt ?_
  unfold b__law_spoilt
  show (eb _ (.cons _ (.cons _ spBk)) _ _).wp _ _
  walk_at "w"
  refine take_wp (w := 21) hB (by omega) (by omega) (by omega) fun way S1 hw hB1 hE1 => ?_
  have P1 := P.ext hE1
  have s1 : SeqV v S1 xs := P1.sq rfl
  walk_at "w"
  refine len_wp s1.len ?_
  walk_at "w"
  rw [show (xs.length : Int) + 1 = ((xs.length + 1 : Nat) : Int) by omega]
  refine take_wp (w := xs.length + 1) hB1 (by omega) (by omega) (by omega) fun at_ S2 ha hB2 hE2 => ?_
  have P2 := P1.ext hE2
  have hs2 := hs.ext (hE1.trans hE2)
  have s2 : SeqV v S2 xs := P2.sq rfl
  have fin : ∀ p S', Spt p → Bx b (K + 2 + 5) S' → Ext b S2 S' → Q p S' := fun p S' h1 h2 h3 => q p S' h1 (h2.up (by omega)) ((hE1.trans hE2).trans h3)
  walk_at "w"
  rw [List.length_map]
  refine len_wp s2.len ?_
  walk_at "w"
  apply br_dec <;> intro hlt
  · obtain ⟨y, hy⟩ : ∃ y, xs[at_]? = some y := ⟨_, List.getElem?_eq_getElem (by omega)⟩
    obtain ⟨s0, d0, a0, hen⟩ := entB_ex (he y (List.mem_of_getElem? hy))
    have ey := hen.e
    walk_at "w"
    refine ix_wp at_ s2.s s2.q hy ?_
    rw [ey]
    walk_at "w"
    exact spoilt_tail (n := n) h hs2 P2 (pl_ent he) hl hw (by omega) hen.s hB2 (by omega) fin
  · walk_at "w"
    exact spoilt_tail (n := n) (s := 0) (d := 0) (a := 0) h hs2 P2 (pl_ent he) hl hw (by omega) (by show 0 < W.sig.length; omega) hB2 (by omega) fin
theorem cell_step (h1 : 1 ≤ N) (h2 : N ≤ 6) (hb1 : 1 ≤ bars) (hb2 : bars ≤ 100) (wl : ws.length ≤ 100) (hB : Bx b K st) (hK : K ≤ 100000000)
    (q : ∀ c S' y12, CellOk N c → Bx b (K + 8) S' → Ext b st S' → Qf (.nx [some (.val (.ref b)), some (.val (.int (N : Int))), y2, y3, y4, some (.val (.int (bars : Int))), y6, y7, y8, y9, some (.own (.lst (ws ++ [cellV c]))), y11, y12, none]) S') :
    (eb (L.pr (n + 1)) lwCell [some (.val (.ref b)), some (.val (.int (N : Int))), y2, y3, y4, some (.val (.int (bars : Int))), y6, y7, y8, y9, some (.own (.lst ws)), y11, y12, none] st).wp Qf X := by
  unfold lwCell
  walk_at "w"
  rw [rng_toNat]
  refine comp_wp (fun i : Nat => Vl.int (i : Int)) (List.range N) (fun k s => Bx b (K + k) s ∧ Ext b st s) (fun i o => o = none ∨ o = some (.int (i : Int))) rfl ⟨hB, Ext.refl⟩ (fun k i s hi hj => ?_) fun os S1 hl hp hj => ?_
  · obtain ⟨hB1, hE1⟩ := hj
    have := (List.getElem?_eq_some_iff.mp hi).1
    rw [List.length_range] at this
    refine set_by rfl ?_
    walk_at "w"
    refine take_wp (w := 3) hB1 (by omega) (by omega) (by omega) fun d S2 hd hB2 hE2 => ?_
    walk_at "w"
    apply br_dec <;> intro hd0
    · walk_at "w"
      exact ⟨src_ok_nil, .inr rfl, hB2, hE1.trans hE2⟩
    · exact ⟨src_ok_nil, .inl rfl, hB2, hE1.trans hE2⟩
  · rw [List.length_range] at hj
    obtain ⟨hB1, hE1⟩ := hj
    obtain ⟨some_, hsub, e, _⟩ := drawn_some hl hp
    obtain ⟨r1, r2, r3⟩ := range_sub hsub
    rw [e]
    walk_at "w"
    refine take_wp (w := bars) hB1 (by omega) (by omega) (by omega) fun d S2 hd hB2 hE2 => ?_
    walk_at "w"
    apply br_dec <;> intro hd0
    · walk_at "w"
      refine ⟨by rw [sizeLine_eq]; omega, ?_⟩
      walk_at "w"
      exact q none S2 _ (fun l e => nomatch e) (hB2.up (by omega)) (hE1.trans hE2)
    · walk_at "w"
      refine cm_neT0 (k := 1) (num_nat (by omega)) (by omega) ?_
      cases hn : some_ with
      | nil =>
        refine br_ff ?_
        walk_at "w"
        refine take_wp (w := N) hB2 (by omega) (by omega) (by omega) fun d S3 hd hB3 hE3 => ?_
        walk_at "w"
        refine ⟨by rw [sizeLine_eq]; omega, ?_⟩
        walk_at "w"
        exact q (some [d]) S3 _ (fun l e => by cases e; exact ⟨by simp, fun i hi => by rw [List.mem_singleton.mp hi]; exact hd, List.pairwise_singleton ..⟩) (hB3.up (by omega)) ((hE1.trans hE2).trans hE3)
      | cons y ys =>
        refine br_tt ?_
        walk_at "w"
        refine ⟨by rw [sizeLine_eq]; omega, ?_⟩
        walk_at "w"
        exact q (some (y :: ys)) S2 _ (fun l e => by cases e; exact ⟨by simp, by rw [← hn]; exact r2, by rw [← hn]; exact r1⟩) (hB2.up (by omega)) (hE1.trans hE2)
end
end K07
set_option maxHeartbeats 4000000
namespace K07
open TW PySem
open L2 (Key)
section
variable {n b k K N D A G bars : Nat} {st S0 : Sto} {Q : Vl → Sto → Prop} {X : XP}
abbrev rowV (row : List (Option (List Nat))) : Vl := .lst (row.map cellV)
abbrev rowsV (r : List (List (Option (List Nat)))) : Vl := .lst (r.map rowV)
/-- rows of one state -/
structure RowOk (N D A : Nat) (r : List (List (Option (List Nat)))) : Prop where
  l : r.length = D
  a : ∀ row ∈ r, row.length = A
  c : ∀ row ∈ r, ∀ c ∈ row, CellOk N c
theorem mk_ok {sig : List Nat} {S : List (List (List (Option (List Nat))))} (d1 : 1 ≤ D) (d6 : D ≤ 6) (a1 : 1 ≤ A) (a6 : A ≤ 6) (n1 : 1 ≤ N) (n2 : N ≤ 120) (hl : sig.length = N) (hg : ∀ s ∈ sig, s ≤ 31) (sl : S.length = N) (hr : ∀ r ∈ S, RowOk N D A r) : (Wk.mk D A sig S).Ok := by
  subst hl
  exact ⟨d1, d6, a1, a6, n1, n2, hg, sl, fun r hr' => (hr r hr').l, fun r hr' => (hr r hr').a, fun r hr' => (hr r hr').c⟩
theorem works_wp (n1 : 1 ≤ N) (n6 : N ≤ 6) (d1 : 1 ≤ D) (d3 : D ≤ 3) (a1 : 1 ≤ A) (a3 : A ≤ 3) (g1 : 1 ≤ G) (g3 : G ≤ 3) (b1 : 1 ≤ bars) (b2 : bars ≤ 100) (hB : Bx b K st) (hK : K ≤ 10000000)
    (q : ∀ W S', Wk.Ok W → W.N = N → Bx b (K + 1000) S' → Ext b st S' → Q (worksV W (.lst (rowsL W.S))) S') : ((L.pr (n + 2)).F f__law_works [.ref b, .int (N : Int), .int (D : Int), .int (A : Int), .int (G : Int), .int (bars : Int)] st).wp Q X := by
  refine u__law_works ?_
  unfold b__law_works
  walk_at "w"
  rw [rng_toNat]
  refine for_wp (fun i : Nat => Vl.int (i : Int)) (List.range N) (fun k env s => ∃ (S : List (List (List (Option (List Nat))))) (y7 y8 y9 y10 y11 y12 : Option Sl), env = [some (.val (.ref b)), some (.val (.int (N : Int))), some (.val (.int (D : Int))), some (.val (.int (A : Int))), some (.val (.int (G : Int))), some (.val (.int (bars : Int))), some (.own (.lst (S.map rowsV))), y7, y8, y9, y10, y11, y12, none] ∧ S.length = k ∧ (∀ r ∈ S, RowOk N D A r) ∧ Bx b (K + 72 * k) s ∧ Ext b st s) rfl ⟨[], none, none, none, none, none, none, rfl, rfl, (fun r hr => by cases hr), hB, Ext.refl⟩ (fun k i env s hi hj => ?_) fun env s hj => ?_
  · obtain ⟨S, y7, y8, y9, y10, y11, y12, rfl, hS, hR, hB1, hE1⟩ := hj
    have hk := (List.getElem?_eq_some_iff.mp hi).1
    rw [List.length_range] at hk
    refine set_by rfl ?_
    dsimp only [dz_set0, dz_set1]
    walk_at "w"
    rw [rng_toNat]
    refine for_wp (fun i : Nat => Vl.int (i : Int)) (List.range D) (fun k2 env s => ∃ (r : List (List (Option (List Nat)))) (y9 y10 y11 y12 : Option Sl), env = [some (.val (.ref b)), some (.val (.int (N : Int))), some (.val (.int (D : Int))), some (.val (.int (A : Int))), some (.val (.int (G : Int))), some (.val (.int (bars : Int))), some (.own (.lst (S.map rowsV))), some (.val (.int (i : Int))), some (.own (.lst (r.map rowV))), y9, y10, y11, y12, none] ∧ r.length = k2 ∧ (∀ row ∈ r, row.length = A) ∧ (∀ row ∈ r, ∀ c ∈ row, CellOk N c) ∧ Bx b (K + 72 * k + 24 * k2) s ∧ Ext b st s) rfl ⟨[], _, _, _, _, rfl, rfl, (fun r hr => by cases hr), (fun r hr => by cases hr), hB1, hE1⟩ (fun k2 i2 env s hi2 hj => ?_) fun env s hj => ?_
    · obtain ⟨r, y9, y10, y11, y12, rfl, hr, hA, hC, hB2, hE2⟩ := hj
      have hk2 := (List.getElem?_eq_some_iff.mp hi2).1
      rw [List.length_range] at hk2
      refine set_by rfl ?_
      dsimp only [dz_set0, dz_set1]
      walk_at "w"
      rw [rng_toNat]
      refine for_wp (fun i : Nat => Vl.int (i : Int)) (List.range A) (fun k3 env s => ∃ (cs : List (Option (List Nat))) (y11 y12 : Option Sl), env = [some (.val (.ref b)), some (.val (.int (N : Int))), some (.val (.int (D : Int))), some (.val (.int (A : Int))), some (.val (.int (G : Int))), some (.val (.int (bars : Int))), some (.own (.lst (S.map rowsV))), some (.val (.int (i : Int))), some (.own (.lst (r.map rowV))), some (.val (.int (i2 : Int))), some (.own (.lst (cs.map cellV))), y11, y12, none] ∧ cs.length = k3 ∧ (∀ c ∈ cs, CellOk N c) ∧ Bx b (K + 72 * k + 24 * k2 + 8 * k3) s ∧ Ext b st s) rfl ⟨[], _, _, rfl, rfl, (fun r hr => by cases hr), hB2, hE2⟩ (fun k3 i3 env s hi3 hj => ?_) fun env s hj => ?_
      · obtain ⟨cs, y11, y12, rfl, hc, hco, hB3, hE3⟩ := hj
        have hk3 := (List.getElem?_eq_some_iff.mp hi3).1
        rw [List.length_range] at hk3
        refine set_by rfl ?_
        dsimp only [dz_set0, dz_set1]
        refine cell_step (n := n) (ws := cs.map cellV) n1 n6 b1 b2 (by rw [List.length_map]; omega) hB3 (by omega) fun c S4 y12' hc4 hB4 hE4 => ?_
        refine fq_nx src_ok_nil ⟨cs ++ [c], _, _, by rw [List.map_append]; rfl, by rw [List.length_append]; simp; omega, fun c' hc' => ?_, hB4.up (by omega), hE3.trans hE4⟩
        rcases List.mem_append.mp hc' with hc' | hc'
        · exact hco c' hc'
        · rw [List.mem_singleton.mp hc']; exact hc4
      · obtain ⟨cs, y11, y12, rfl, hc, hco, hB3, hE3⟩ := hj
        rw [List.length_range] at hc hB3
        walk_at "w"
        refine ⟨by rw [sizeLine_eq, List.length_map]; omega, ?_⟩
        walk_at "w"
        refine fq_nx src_ok_nil ⟨r ++ [cs], _, _, _, _, by rw [List.map_append]; rfl, by rw [List.length_append]; simp; omega, fun row hr' => ?_, fun row hr' => ?_, hB3.up (by omega), hE3⟩
        · rcases List.mem_append.mp hr' with hr' | hr'
          · exact hA row hr'
          · rw [List.mem_singleton.mp hr']; exact hc
        · rcases List.mem_append.mp hr' with hr' | hr'
          · exact hC row hr'
          · rw [List.mem_singleton.mp hr']; exact hco
    · obtain ⟨r, y9, y10, y11, y12, rfl, hr, hA, hC, hB2, hE2⟩ := hj
      rw [List.length_range] at hr hB2
      walk_at "w"
      refine ⟨by rw [sizeLine_eq, List.length_map]; omega, ?_⟩
      walk_at "w"
      refine fq_nx src_ok_nil ⟨S ++ [r], _, _, _, _, _, _, by rw [List.map_append]; rfl, by rw [List.length_append]; simp; omega, fun r' hr' => ?_, hB2.up (by omega), hE2⟩
      rcases List.mem_append.mp hr' with hr' | hr'
      · exact hR r' hr'
      · rw [List.mem_singleton.mp hr']; exact ⟨hr, hA, hC⟩
  · obtain ⟨S, y7, y8, y9, y10, y11, y12, rfl, hS, hR, hB1, hE1⟩ := hj
    rw [List.length_range] at hS hB1
    walk_at "w"
    rw [rng_toNat]
    refine compR_wp (fun i : Nat => Vl.int (i : Int)) (List.range N) (fun k s' => Bx b (K + 72 * N + k) s' ∧ Ext b st s') (fun _ v => ∃ g : Nat, g < G ∧ v = .int (g : Int)) rfl ⟨hB1, hE1⟩ (fun k i s' hi hj => ?_) fun vs S2 hl hp hj => ?_
    · have hk := (List.getElem?_eq_some_iff.mp hi).1
      rw [List.length_range] at hk
      refine set_by rfl ?_
      walk_at "w"
      refine take_wp (w := G) hj.1 (by omega) (by omega) (by omega) fun g S3 hg hB3 hE3 => ?_
      exact ⟨src_ok_nil, ⟨g, hg, rfl⟩, hB3, hj.2.trans hE3⟩
    · rw [List.length_range] at hl hj
      have ⟨sig, e, hsig⟩ : ∃ sig : List Nat, vs = natL sig ∧ ∀ s ∈ sig, s ≤ 31 := by
        have hp' : ∀ v ∈ vs, ∃ g : Nat, g < G ∧ v = .int (g : Int) := fun v hv => by
          obtain ⟨i, hi⟩ := List.mem_iff_getElem?.mp hv
          have := (List.getElem?_eq_some_iff.mp hi).1
          exact hp i i v (by rw [List.getElem?_range (by omega)]) hi
        clear hl hp
        induction vs with
        | nil => exact ⟨[], rfl, fun s hs => by cases hs⟩
        | cons v vs ih =>
          obtain ⟨g, hg, rfl⟩ := hp' v (List.mem_cons_self ..)
          obtain ⟨sig, rfl, hs⟩ := ih fun v hv => hp' v (List.mem_cons_of_mem _ hv)
          exact ⟨g :: sig, rfl, fun s hs' => by
            rcases List.mem_cons.mp hs' with rfl | hs'
            · omega
            · exact hs s hs'⟩
      subst e
      rw [List.length_map] at hl
      walk_at "w"
      exact q ⟨D, A, sig, S⟩ S2 (mk_ok d1 (by omega) a1 (by omega) n1 (by omega) hl hsig hS hR) hl (hj.1.up (by omega)) hj.2
end
end K07
set_option maxHeartbeats 4000000
namespace K07
open TW PySem
open L2 (Key)
theorem dsort_ok {N : Nat} {ns : List Int} (hne : ns ≠ []) (h : ∀ i ∈ ns, 0 ≤ i ∧ i < (N : Int)) : natL ((dsort ns).map Int.toNat) = (dsort ns).map .int ∧ SetOk N ((dsort ns).map Int.toNat) := by
  have h' : ∀ i ∈ dsort ns, 0 ≤ i ∧ i < (N : Int) := fun i hi => h i ((dsort_mem ns i).mp hi)
  refine ⟨?_, ?_, fun i hi => ?_, ?_⟩
  · unfold natL
    rw [List.map_map]
    refine List.map_congr_left fun i hi => ?_
    show Vl.int ((i.toNat : Nat) : Int) = .int i
    rw [Int.toNat_of_nonneg (h' i hi).1]
  · intro z
    obtain ⟨a, as, rfl⟩ : ∃ a as, ns = a :: as := by
      cases ns with
      | nil => exact absurd rfl hne
      | cons a as => exact ⟨a, as, rfl⟩
    have := (dsort_mem (a :: as) a).mpr (List.mem_cons_self ..)
    rw [List.map_eq_nil_iff.mp z] at this
    cases this
  · obtain ⟨j, hj, rfl⟩ := List.mem_map.mp hi
    have := h' j hj
    omega
  · refine List.pairwise_map.mpr ((dsort_lt ns).imp_of_mem fun {a b} ha hb hab => ?_)
    have := h' a ha
    have := h' b hb
    omega
section
variable {n b k K N D A G bars : Nat} {st S0 : Sto} {Q : Vl → Sto → Prop} {X : XP}
def wideC (x to nx : Int) : Option (List Nat) := if x = 0 then none else some ((dsort [to, nx]).map Int.toNat)
theorem wideC_ok {x to nx : Int} (h1 : 0 ≤ to) (h2 : to < 120) (h3 : 0 ≤ nx) (h4 : nx < 120) : CellOk 120 (wideC x to nx) := fun l e => by
  unfold wideC at e
  split at e
  · cases e
  · cases e
    exact (dsort_ok (N := 120) (by simp) fun i hi => by
      simp only [List.mem_cons, List.mem_nil_iff, or_false] at hi
      rcases hi with rfl | rfl <;> omega).2
theorem wide_wp (hB : Bx b K st) (hK : K ≤ 10000000)
    (q : ∀ W sv S', Wk.Ok W → W.N = 120 → Sv b S' sv W → Bx b (K + 1) S' → Ext b st S' → Q (worksV W sv) S') : ((L.pr (n + 2)).F f__law_wide [.ref b] st).wp Q X := by
  refine u__law_wide ?_
  unfold b__law_wide
  walk_at "w"
  refine take_wp (w := 97) hB (by omega) (by omega) (by omega) fun sh S1 hsh hB1 hE1 => ?_
  have hb1 := hB1.lt
  have r0 : ((S1 : List Ob) ++ [.lst []] : List Ob)[(S1 : List Ob).length]? = some (.lst []) := by simp
  have rb : (S1 : List Ob).length ≠ b := by omega
  walk_at "w"
  rw [show rngL 0 (120 : Int).toNat = (List.range 120).map fun i : Nat => Vl.int (i : Int) from rng_toNat 120]
  refine for_wp (fun i : Nat => Vl.int (i : Int)) (List.range 120) (fun k env s => ∃ (S : List (List (List (Option (List Nat))))) (y3 y4 y5 y6 y7 : Option Sl), env = [some (.val (.ref b)), some (.val (.int (sh : Int))), some (.val (.ref (S1 : List Ob).length)), y3, y4, y5, y6, y7, none, none] ∧ (s : List Ob)[(S1 : List Ob).length]? = some (.lst (S.map rowsV)) ∧ S.length = k ∧ (∀ r ∈ S, RowOk 120 6 6 r) ∧ Bx b (K + 1) s ∧ Ext b S1 s) rfl ⟨[], none, none, none, none, none, rfl, r0, rfl, (fun r hr => by cases hr), hB1.app, Ext.app⟩ (fun k i env s hi hj => ?_) fun env s hj => ?_
  · obtain ⟨S, y3, y4, y5, y6, y7, rfl, hr, hS, hR, hB2, hE2⟩ := hj
    have hk := (List.getElem?_eq_some_iff.mp hi).1
    rw [List.length_range] at hk
    refine set_by rfl ?_
    dsimp only [dz_set0, dz_set1]
    walk_at "w"
    rw [show rngL 0 (6 : Int).toNat = (List.range 6).map fun i : Nat => Vl.int (i : Int) from rng_toNat 6]
    refine for_wp (fun i : Nat => Vl.int (i : Int)) (List.range 6) (fun k2 env s' => s' = s ∧ ∃ (r : List (List (Option (List Nat)))) (y5 y6 y7 : Option Sl), env = [some (.val (.ref b)), some (.val (.int (sh : Int))), some (.val (.ref (S1 : List Ob).length)), some (.val (.int (i : Int))), some (.own (.lst (r.map rowV))), y5, y6, y7, none, none] ∧ r.length = k2 ∧ (∀ row ∈ r, row.length = 6) ∧ (∀ row ∈ r, ∀ c ∈ row, CellOk 120 c)) rfl ⟨rfl, [], _, _, _, rfl, rfl, (fun r hr => by cases hr), (fun r hr => by cases hr)⟩ (fun k2 i2 env s' hi2 hj => ?_) fun env s' hj => ?_
    · obtain ⟨rfl, r, y5, y6, y7, rfl, hrl, hA, hC⟩ := hj
      have hk2 := (List.getElem?_eq_some_iff.mp hi2).1
      rw [List.length_range] at hk2
      refine set_by rfl ?_
      dsimp only [dz_set0, dz_set1]
      walk_at "w"
      rw [show rngL 0 (6 : Int).toNat = (List.range 6).map fun i : Nat => Vl.int (i : Int) from rng_toNat 6]
      refine compM_wp (fun i : Nat => Vl.int (i : Int)) (List.range 6) (fun act : Nat => Vl.lst [.int (((i : Int) * 7 + (i2 : Int) * 5 + (act : Int) * 11 + (sh : Int)) % 9), .int (((i : Int) * 5 + (i2 : Int) + (act : Int) + (sh : Int)) % 120)]) rfl src_ok_nil (fun act ha => ?_) ?_
      · refine set_by rfl ?_
        walk_at "w"
        exact ⟨rfl, rfl⟩
      walk_at "w"
      refine compM_wp (fun act : Nat => Vl.lst [.int (((i : Int) * 7 + (i2 : Int) * 5 + (act : Int) * 11 + (sh : Int)) % 9), .int (((i : Int) * 5 + (i2 : Int) + (act : Int) + (sh : Int)) % 120)]) (List.range 6) (fun act : Nat => cellV (wideC (((i : Int) * 7 + (i2 : Int) * 5 + (act : Int) * 11 + (sh : Int)) % 9) (((i : Int) * 5 + (i2 : Int) + (act : Int) + (sh : Int)) % 120) (((i : Int) + 1) % 120))) rfl (skv rfl) (fun act ha => ?_) ?_
      · refine set_by rfl ?_
        walk_at "w"
        unfold wideC
        apply br_dec <;> intro h0
        · rw [if_pos h0]
          walk_at "w"
          exact ⟨rfl, rfl⟩
        · rw [if_neg h0]
          walk_at "w"
          refine sset_wp (ns := [((i : Int) * 5 + (i2 : Int) + (act : Int) + (sh : Int)) % 120, ((i : Int) + 1) % 120]) rfl (by simp) ?_
          walk_at "w"
          refine ⟨?_, rfl⟩
          show Vl.tup _ = Vl.tup _
          rw [(dsort_ok (N := 120) (by simp) fun i' hi' => by
            simp only [List.mem_cons, List.mem_nil_iff, or_false] at hi'
            rcases hi' with rfl | rfl <;> omega).1]
      walk_at "w"
      refine ⟨by rw [sizeLine_eq, List.length_map]; omega, ?_⟩
      walk_at "w"
      refine fq_nx src_ok_nil ⟨rfl, r ++ [(List.range 6).map fun act : Nat => wideC (((i : Int) * 7 + (i2 : Int) * 5 + (act : Int) * 11 + (sh : Int)) % 9) (((i : Int) * 5 + (i2 : Int) + (act : Int) + (sh : Int)) % 120) (((i : Int) + 1) % 120)], _, _, _, by rw [List.map_append]; rfl, by rw [List.length_append]; simp; omega, fun row hr' => ?_, fun row hr' c hc => ?_⟩
      · rcases List.mem_append.mp hr' with hr' | hr'
        · exact hA row hr'
        · rw [List.mem_singleton.mp hr', List.length_map, List.length_range]
      · rcases List.mem_append.mp hr' with hr' | hr'
        · exact hC row hr' c hc
        · rw [List.mem_singleton.mp hr'] at hc
          obtain ⟨act, _, rfl⟩ := List.mem_map.mp hc
          exact wideC_ok (by omega) (by omega) (by omega) (by omega)
    · obtain ⟨rfl, r, y5, y6, y7, rfl, hrl, hA, hC⟩ := hj
      rw [List.length_range] at hrl
      walk_at "w"
      refine m_appR rfl hr ?_
      walk_at "w"
      refine ⟨_, hr, by rw [sizeLine_eq, List.length_map]; omega, ?_⟩
      walk_at "w"
      refine fq_nx src_ok_nil ⟨S ++ [r], _, _, _, _, _, rfl, ?_, by rw [List.length_append]; simp; omega, fun r' hr' => ?_, hB2.put rb, Ext.put hE2 (Nat.le_refl _)⟩
      · rw [List.map_append]
        exact List.getElem?_set_self (List.getElem?_eq_some_iff.mp hr).1
      · rcases List.mem_append.mp hr' with hr' | hr'
        · exact hR r' hr'
        · rw [List.mem_singleton.mp hr']; exact ⟨hrl, hA, hC⟩
  · obtain ⟨S, y3, y4, y5, y6, y7, rfl, hr, hS, hR, hB2, hE2⟩ := hj
    rw [List.length_range] at hS
    walk_at "w"
    rw [show rngL 0 (120 : Int).toNat = (List.range 120).map fun i : Nat => Vl.int (i : Int) from rng_toNat 120]
    refine compM_wp (fun i : Nat => Vl.int (i : Int)) (List.range 120) (fun i : Nat => Vl.int (((i * 13 + sh) % 32 : Nat) : Int)) rfl src_ok_nil (fun i hi => ?_) ?_
    · refine set_by rfl ?_
      walk_at "w"
      exact ⟨by rw [Int.natCast_emod, Int.natCast_add, Int.natCast_mul]; rfl, rfl⟩
    walk_at "w"
    have hg : ∀ g ∈ (List.range 120).map fun i => (i * 13 + sh) % 32, g ≤ 31 := fun g hg => by
      obtain ⟨i, _, rfl⟩ := List.mem_map.mp hg
      omega
    have ln : ((List.range 120).map fun i => (i * 13 + sh) % 32).length = 120 := by rw [List.length_map, List.length_range]
    have es : ((List.range 120).map fun i : Nat => Vl.int (((i * 13 + sh) % 32 : Nat) : Int)) = natL ((List.range 120).map fun i => (i * 13 + sh) % 32) := by unfold natL; rw [List.map_map]; rfl
    rw [es]
    generalize ((List.range 120).map fun i => (i * 13 + sh) % 32) = sig at hg ln ⊢
    exact q ⟨6, 6, sig, S⟩ (.ref (S1 : List Ob).length) s (mk_ok (by omega) (by omega) (by omega) (by omega) (by omega) (by omega) ln hg hS hR) ln ⟨seqv_ref hr, fun z => rb (by cases z; rfl)⟩ hB2 (hE1.trans hE2)
end
end K07
set_option maxHeartbeats 4000000
namespace K07
open TW PySem
open L2 (Key)
section
variable {n b k K T r : Nat} {v p bv bp x w sv due v2 v3 v6 v9 v10 : Vl} {c A : Option (List Nat)} {l cs : List Nat} {st S S0 : Sto} {Q : Vl → Sto → Prop} {Qf : Fl → Sto → Prop} {X : XP} {W : Wk} {s d a : Nat} {m : Int} {xs : List Vl} {bb : Bool} {y12 : Option Sl}
def Ask (b : Nat) (st : Sto) (v : Vl) : Prop := ∃ p, Psd b st v p
theorem Ask.ext (h : Ask b st v) (e : Ext b st S) : Ask b S v := ⟨_, h.choose_spec.ext e⟩
theorem psd_course (e : (st : List Ob)[r]? = some (.lst xs)) (rb : r ≠ b) (he : ∀ x ∈ xs, entB W x = true) (l : xs.length ≤ 201) : Psd b st (.ref r) (.lst xs) := .ref e rb (by omega) ((pl_ent he).up (by omega))
theorem psd_list (he : ∀ x ∈ xs, entB W x = true) (l : xs.length ≤ 201) : Psd b st (.lst xs) (.lst xs) := (spt_lst (k := 1) (by omega) (pl_ent he) (by omega)).psd
theorem works_right_wp (h : W.Ok) (hs : Sv b st sv W) (hc : SetOk W.N l) (hT : T ≤ 200) (hB : Bx b K st) (hK : K ≤ 1000000) (q : ∀ S', Bx b (K + 3000) S' → Ext b st S' → Q (.bl true) S') : ((L.pr (n + 12)).F f__law_works_right [.ref b, .int m, madeV W, worksV W sv, .tup (natL l), .int (T : Int)] st).wp Q X := by
  have n1 : 1 ≤ W.sig.length := h.n1
  have n2 : W.sig.length ≤ 120 := h.n2
  refine u__law_works_right ?_
  unfold b__law_works_right
  walk_at "w"
  refine take_wp (w := 2) hB (by omega) (by omega) (by omega) fun d1 S1 hd1 hB1 hE1 => ?_
  walk_at "w"
  refine walked_wp (n := n + 8) h (hs.ext hE1) hc (by omega) hB1 (by omega) fun r1 xs1 S2 hr1 rb1 _ he1 hl1 _ hB2 hE2 => ?_
  have E2 := hE1.trans hE2
  walk_at "w"
  rw [List.length_map]
  refine tr1_wp (by omega) ?_
  walk_at "w"
  refine take_wp (w := 3) hB2 (by omega) (by omega) (by omega) fun d2 S3 hd2 hB3 hE3 => ?_
  walk_at "w"
  refine take_wp (w := 2) hB3 (by omega) (by omega) (by omega) fun d3 S4 hd3 hB4 hE4 => ?_
  have E4 := (E2.trans hE3).trans hE4
  walk_at "w"
  rw [show (1 : Int) + (d2 : Int) = ((1 + d2 : Nat) : Int) by omega]
  refine walked_wp (n := n + 8) (l := allC W) h (hs.ext E4) (all_set h.n1) (by omega) hB4 (by omega) fun r2 xs2 S5 hr2 rb2 _ he2 hl2 _ hB5 hE5 => ?_
  have E5 := E4.trans hE5
  have hr1' := ((hE3.trans hE4).trans hE5).get hr1 rb1
  have P1 := psd_course (b := b) hr1' rb1 he1 (by omega)
  have P2 := psd_course (b := b) hr2 rb2 he2 (by omega)
  walk_at "w"
  rw [show rngL 0 (6 : Int).toNat = (List.range 6).map fun i : Nat => Vl.int (i : Int) from rng_toNat 6]
  refine compR_wp (fun i : Nat => Vl.int (i : Int)) (List.range 6) (fun k s => Bx b (K + 1004 + 10 * k) s ∧ Ext b S5 s) (fun _ v => Spt v) rfl ⟨hB5.up (by omega), Ext.refl⟩ (fun k i s hi hj => ?_) fun vs S6 hl hp hj => ?_
  · have hk := (List.getElem?_eq_some_iff.mp hi).1
    rw [List.length_range] at hk
    refine set_by rfl ?_
    walk_at "w"
    refine spoilt_wp (n := n + 7) h (hs.ext (E5.trans hj.2)) (P1.ext hj.2) he1 (by omega) hj.1 (by omega) fun p S7 hp7 hB7 hE7 => ?_
    exact ⟨src_ok_nil, hp7, hB7, hj.2.trans hE7⟩
  · rw [List.length_range] at hl hj
    obtain ⟨hB6, hE6⟩ := hj
    have hvs : ∀ v ∈ vs, Spt v := fun v hv => by
      obtain ⟨i, hi⟩ := List.mem_iff_getElem?.mp hv
      have := (List.getElem?_eq_some_iff.mp hi).1
      exact hp i i v (by rw [List.getElem?_range (by omega)]) hi
    have P16 := P1.ext hE6
    have P26 := P2.ext hE6
    walk_at "w"
    refine op_addL (by simp [sizeLine_eq]; omega) ?_
    walk_at "w"
    have s16 : SeqV (.ref r1) S6 xs1 := P16.sq rfl
    refine len_wp s16.len ?_
    walk_at "w"
    rw [show (xs1.length : Int) + 1 = ((xs1.length + 1 : Nat) : Int) by omega]
    refine take_wp (w := xs1.length + 1) hB6 (by omega) (by omega) (by omega) fun d4 S7 hd4 hB7 hE7 => ?_
    have P17 := P16.ext hE7
    have P27 := P26.ext hE7
    walk_at "w"
    refine sl_psd P17 ?_
    walk_at "w"
    have E7 := (E5.trans hE6).trans hE7
    refine spoilt_wp (n := n + 7) h (hs.ext E7) P27 he2 (by omega) hB7 (by omega) fun p8 S8 hp8 hB8 hE8 => ?_
    have E8 := E7.trans hE8
    have P18 := P17.ext hE8
    have P28 := P27.ext hE8
    walk_at "w"
    refine op_addL (by simp [sizeLine_eq]; omega) ?_
    have hask : ∀ v ∈ Vl.ref r1 :: .ref r2 :: (vs ++ [.lst (cutL xs1 none (some (d4 : Int))), p8, .lst [], .ref r1]), Ask b S8 v := fun v hv => by
      rcases List.mem_cons.mp hv with rfl | hv
      · exact ⟨_, P18⟩
      rcases List.mem_cons.mp hv with rfl | hv
      · exact ⟨_, P28⟩
      rcases List.mem_append.mp hv with hv | hv
      · exact ⟨_, (hvs v hv).psd⟩
      · simp only [List.mem_cons, List.mem_nil_iff, or_false] at hv
        rcases hv with rfl | rfl | rfl | rfl
        · exact ⟨_, psd_list (W := W) (fun x hx => he1 x (cut_mem hx)) (Nat.le_trans cut_len (by omega))⟩
        · exact ⟨_, hp8.psd⟩
        · exact ⟨_, psd_list (W := W) (fun x hx => by cases hx) (by simp)⟩
        · exact ⟨_, P18⟩
    have hlen : (Vl.ref r1 :: .ref r2 :: (vs ++ [.lst (cutL xs1 none (some (d4 : Int))), p8, .lst [], .ref r1])).length = 12 := by simp; omega
    walk_at "w"
    generalize Vl.ref r1 :: .ref r2 :: (vs ++ [.lst (cutL xs1 none (some (d4 : Int))), p8, .lst [], .ref r1]) = asked at hask hlen ⊢
    refine for_wp (fun v : Vl => v) asked (fun _ env s => (∃ y10 : Option Sl, env = [some (.val (.ref b)), some (.val (.int m)), some (.val (madeV W)), some (.val (worksV W sv)), some (.val (.tup (natL l))), some (.val (.int (T : Int))), some (.val (.ref r1)), some (.val (.ref r2)), some (.val (.lst asked)), none, y10]) ∧ Bx b (K + 1004 + 10 * 6 + 1 + 10) s ∧ ∀ c, Ext c S8 s) (List.map_id' _).symm ⟨⟨none, rfl⟩, hB8, fun c => Ext.refl⟩ (fun k v env s hv hj => ?_) fun env s hj => ?_
    · obtain ⟨⟨y10, rfl⟩, hB9, hE9⟩ := hj
      obtain ⟨p, P⟩ := (hask v (List.mem_of_getElem? hv)).ext (hE9 b)
      refine set_by rfl ?_
      dsimp only [dz_set0, dz_set1]
      walk_at "w"
      refine value_right_wp (n := n) h hc (hs.ext (E8.trans (hE9 b))) P hB9.lt fun S10 hE10 => ?_
      walk_at "w"
      exact fq_nx (skv rfl) ⟨⟨_, rfl⟩, hB9.all hE10, fun c => (hE9 c).trans (hE10 c)⟩
    · obtain ⟨⟨y10, rfl⟩, hB9, hE9⟩ := hj
      walk_at "w"
      rw [hlen]
      refine take_wp (w := 12) hB9 (by omega) (by omega) (by omega) fun d5 S10 hd5 hB10 hE10 => ?_
      obtain ⟨y, hy⟩ : ∃ y, asked[d5]? = some y := ⟨_, List.getElem?_eq_getElem (by omega)⟩
      refine ixL_wp hy ?_
      walk_at "w"
      refine begins_right_wp (n := n + 1) h hB10 (by omega) fun S11 hB11 hE11 => ?_
      walk_at "w"
      exact q S11 (hB11.up (by omega)) (((E8.trans (hE9 b)).trans hE10).trans hE11)
end
end K07
set_option maxHeartbeats 4000000
namespace K07
open TW PySem
open L2 (Key)
section
variable {n b k K T r : Nat} {v p bv bp x w sv due v2 v3 v6 v9 v10 : Vl} {c A : Option (List Nat)} {l cs : List Nat} {st S S0 : Sto} {Q : Vl → Sto → Prop} {Qf : Fl → Sto → Prop} {X : XP} {W : Wk} {s d a : Nat} {m : Int} {xs : List Vl} {bb : Bool} {y12 : Option Sl}
def ringS : List (List (List (Option (List Nat)))) := [[[some [1]], [none]], [[some [2]], [some [0, 2]]], [[some [0]], [some [1]]]]
abbrev ringW (sig : List Nat) : Wk := ⟨2, 1, sig, ringS⟩
theorem set_one {N i : Nat} (h : i < N) : SetOk N [i] := ⟨by simp, fun j hj => by rw [List.mem_singleton.mp hj]; exact h, List.pairwise_singleton ..⟩
theorem ring_ok {sig : List Nat} (hl : sig.length = 3) (hg : ∀ s ∈ sig, s ≤ 31) : (ringW sig).Ok := by
  refine mk_ok (by omega) (by omega) (by omega) (by omega) (by omega) (by omega) hl hg rfl fun r hr => ?_
  have ok1 : ∀ i, i < 3 → CellOk 3 (some [i]) := fun i hi l e => by cases e; exact set_one hi
  have ok0 : CellOk 3 none := fun l e => nomatch e
  have ok2 : CellOk 3 (some [0, 2]) := fun l e => by
    cases e
    exact ⟨by simp, fun i hi => by simp only [List.mem_cons, List.mem_nil_iff, or_false] at hi; omega, by decide⟩
  have one : ∀ {c1 c2 : Option (List Nat)}, CellOk 3 c1 → CellOk 3 c2 → RowOk 3 2 1 [[c1], [c2]] := fun h1 h2 => ⟨rfl, fun row hr => by
    simp only [List.mem_cons, List.mem_nil_iff, or_false] at hr
    rcases hr with rfl | rfl <;> rfl, fun row hr c hc => by
    simp only [List.mem_cons, List.mem_nil_iff, or_false] at hr
    rcases hr with rfl | rfl
    · rw [List.mem_singleton.mp hc]; exact h1
    · rw [List.mem_singleton.mp hc]; exact h2⟩
  unfold ringS at hr
  simp only [List.mem_cons, List.mem_nil_iff, or_false] at hr
  rcases hr with rfl | rfl | rfl
  · exact one (ok1 1 (by omega)) ok0
  · exact one (ok1 2 (by omega)) ok2
  · exact one (ok1 0 (by omega)) (ok1 1 (by omega))
theorem ring_free {sig : List Nat} (hl : sig.length = 3) : ∀ s, s < (ringW sig).N → codesN (ringW sig) s false ≠ [] := fun s hs e => by
  have h3 : s = 0 ∨ s = 1 ∨ s = 2 := by
    have : s < sig.length := hs
    omega
  have z : 0 ∈ List.range (2 * 1) := by decide
  have := List.filter_eq_nil_iff.mp e 0 z
  rcases h3 with rfl | rfl | rfl <;> exact this (decide_eq_true (by simp [Wk.at, ringS, isNon]))
theorem long_right_wp (h : W.Ok) (hs : Sv b st sv W) (hc : SetOk W.N l) (hB : Bx b K st) (hK : K ≤ 1000000) (q : ∀ S', Bx b (K + 3000) S' → Ext b st S' → Q (.bl true) S') : ((L.pr (n + 12)).F f__law_long_right [.ref b, .int m, madeV W, worksV W sv, .tup (natL l)] st).wp Q X := by
  refine u__law_long_right ?_
  unfold b__law_long_right
  walk_at "w"
  rw [show rngL 0 (3 : Int).toNat = (List.range 3).map fun i : Nat => Vl.int (i : Int) from rng_toNat 3]
  refine compR_wp (fun i : Nat => Vl.int (i : Int)) (List.range 3) (fun k s' => Bx b (K + k) s' ∧ Ext b st s') (fun _ v => ∃ g : Nat, g < 3 ∧ v = .int (g : Int)) rfl ⟨hB, Ext.refl⟩ (fun k i s' hi hj => ?_) fun vs S1 hl hp hj => ?_
  · have hk := (List.getElem?_eq_some_iff.mp hi).1
    rw [List.length_range] at hk
    refine set_by rfl ?_
    walk_at "w"
    refine take_wp (w := 3) hj.1 (by omega) (by omega) (by omega) fun g S3 hg hB3 hE3 => ?_
    exact ⟨src_ok_nil, ⟨g, hg, rfl⟩, hB3, hj.2.trans hE3⟩
  rw [List.length_range] at hl hj
  obtain ⟨hB1, hE1⟩ := hj
  obtain ⟨sig, e, hsig⟩ : ∃ sig : List Nat, vs = natL sig ∧ ∀ s ∈ sig, s ≤ 31 := by
    have hp' : ∀ v ∈ vs, ∃ g : Nat, g < 3 ∧ v = .int (g : Int) := fun v hv => by
      obtain ⟨i, hi⟩ := List.mem_iff_getElem?.mp hv
      have := (List.getElem?_eq_some_iff.mp hi).1
      exact hp i i v (by rw [List.getElem?_range (by omega)]) hi
    clear hl hp
    induction vs with
    | nil => exact ⟨[], rfl, fun s hs => by cases hs⟩
    | cons v vs ih =>
      obtain ⟨g, hg, rfl⟩ := hp' v (List.mem_cons_self ..)
      obtain ⟨sig, rfl, hs⟩ := ih fun v hv => hp' v (List.mem_cons_of_mem _ hv)
      exact ⟨g :: sig, rfl, fun s hs' => by
        rcases List.mem_cons.mp hs' with rfl | hs'
        · omega
        · exact hs s hs'⟩
  subst e
  rw [List.length_map] at hl
  have RO := ring_ok hl hsig
  have rs : ∀ S : Sto, Sv b S (.lst (rowsL ringS)) (ringW sig) := fun S => ⟨seqv_lst, fun z => nomatch z⟩
  have rc : SetOk (ringW sig).N [0] := set_one (by show 0 < sig.length; omega)
  walk_at "w"
  change ((L.pr (n + 11)).F f__law_made [worksV (ringW sig) (.lst (rowsL ringS))] S1).wp _ _
  refine made_wp (n := n + 1) RO seqv_lst ?_
  walk_at "w"
  change ((L.pr (n + 11)).F f__law_walked [.ref b, worksV (ringW sig) (.lst (rowsL ringS)), .tup (natL [0]), .int ((201 : Nat) : Int), .bl false] S1).wp _ _
  refine walked_wp (n := n + 8) RO (rs S1) rc (by omega) hB1 (by omega) fun r1 xs1 S2 hr1 rb1 _ he1 _ hl1 hB2 hE2 => ?_
  have hl1 := hl1 (ring_free hl) rfl
  have E2 := hE1.trans hE2
  have hb2 := hB2.lt
  walk_at "w"
  refine take_wp (w := 2) hB2 (by omega) (by omega) (by omega) fun d3 S3 hd3 hB3 hE3 => ?_
  walk_at "w"
  refine for_wp (fun i : Nat => Vl.int (i : Int)) [198 + d3, 200, 201] (fun k env s => (∃ y9 : Option Sl, env = [some (.val (.ref b)), some (.val (.int m)), some (.val (madeV W)), some (.val (worksV W sv)), some (.val (.tup (natL l))), some (.val (worksV (ringW sig) (.lst (rowsL ringS)))), none, some (.val (madeV (ringW sig))), some (.val (.ref r1)), y9, none]) ∧ Bx b (K + 3 + 500 + 1 + 10 * k) s ∧ Ext b S3 s) (by simp) ⟨⟨none, rfl⟩, hB3, Ext.refl⟩ (fun k many env s hk hj => ?_) fun env s hj => ?_
  · obtain ⟨⟨y9, rfl⟩, hB4, hE4⟩ := hj
    have hk3 : k < 3 := (List.getElem?_eq_some_iff.mp hk).1
    have hm : many ≤ 201 := by
      have := List.mem_of_getElem? hk
      simp only [List.mem_cons, List.mem_nil_iff, or_false] at this
      omega
    have hr4 := (hE3.trans hE4).get hr1 rb1
    have P4 := psd_course (b := b) hr4 rb1 he1 (by omega)
    have hcut : ∀ x ∈ cutL xs1 none (some (many : Int)), entB (ringW sig) x = true := fun x hx => he1 x (cut_mem hx)
    have hcl : (cutL xs1 none (some (many : Int))).length ≤ 201 := Nat.le_trans cut_len (by omega)
    refine set_by rfl ?_
    dsimp only [dz_set0, dz_set1]
    walk_at "w"
    refine sl_psd P4 ?_
    walk_at "w"
    refine value_right_wp (n := n) (l := [0]) RO rc (rs s) (psd_list hcut hcl) hB4.lt fun S5 hE5 => ?_
    have hB5 := hB4.all hE5
    have hr5 := (hE5 b).get hr4 rb1
    have P5 := psd_course (b := b) hr5 rb1 he1 (by omega)
    walk_at "w"
    refine sl_psd P5 ?_
    walk_at "w"
    refine spoilt_wp (n := n + 7) RO (rs S5) (psd_list hcut hcl) hcut hcl hB5 (by omega) fun p S6 hp6 hB6 hE6 => ?_
    walk_at "w"
    refine value_right_wp (n := n) (l := [0]) RO rc (rs S6) hp6.psd hB6.lt fun S7 hE7 => ?_
    walk_at "w"
    exact fq_nx (skv rfl) ⟨⟨_, rfl⟩, (hB6.all hE7).up (by omega), ((hE4.trans (hE5 b)).trans hE6).trans (hE7 b)⟩
  · obtain ⟨⟨y9, rfl⟩, hB4, hE4⟩ := hj
    have hr4 := (hE3.trans hE4).get hr1 rb1
    have E4 := (E2.trans hE3).trans hE4
    obtain ⟨y, hy⟩ : ∃ y, xs1[199]? = some y := ⟨_, List.getElem?_eq_getElem (by omega)⟩
    obtain ⟨s0, d0, a0, hen⟩ := entB_ex (he1 y (List.mem_of_getElem? hy))
    have ey := hen.e
    walk_at "w"
    refine sl_ref hr4 ?_
    walk_at "w"
    refine ixR_wp (j := 199) hr4 hy ?_
    rw [ey]
    walk_at "w"
    have hcl : (cutL xs1 none (some (199 : Int))).length ≤ 201 := Nat.le_trans cut_len (by omega)
    refine op_addL (by simp [sizeLine_eq]; omega) ?_
    walk_at "w"
    have pc : PL 1 (cutL xs1 none (some (199 : Int))) := (pl_ent he1).cut
    have sp : Spt (.lst (cutL xs1 none (some (199 : Int)) ++ [.tup [.int (s0 : Int), .int 1, .int 0]])) := spt_lst (k := 1) (by omega) (pc.app (PL.cons pure3 PL.nil)) (by simp; omega)
    refine value_right_wp (n := n) (l := [0]) RO rc (rs s) sp.psd hB4.lt fun S5 hE5 => ?_
    have hB5 := hB4.all hE5
    walk_at "w"
    refine value_right_wp (n := n) h hc (hs.ext (E4.trans (hE5 b))) (psd_list (W := W) (fun x hx => by cases hx) (by simp)) hB5.lt fun S6 hE6 => ?_
    walk_at "w"
    exact q S6 ((hB5.all hE6).up (by simp)) ((E4.trans (hE5 b)).trans (hE6 b))
end
end K07
set_option maxHeartbeats 4000000
namespace K07
open TW PySem
open L2 (Key)
def lawBk : Bk := .cons (.par [11, 12] (.cons (.call f__law_made (.cons (.v 9) (.nil))) (.cons (.call f__law_made (.cons (.v 10) (.nil))) (.nil))))
   (.cons (.par [13, 14] (.cons (.call f__law_begin (.cons (.v 2) (.cons (.b1 .len (.ix (.v 9) (.k (.int 2)))) (.nil)))) (.cons (.call f__law_begin (.cons (.v 2) (.cons (.v 8) (.nil)))) (.nil))))
   (.cons (.ifs (.or (.not (.tr (.call f__law_works_right (.cons (.v 2) (.cons (.v 3) (.cons (.v 11) (.cons (.v 9) (.cons (.v 13) (.cons (.v 6) (.nil)))))))))) (.one (.not (.tr (.call f__law_works_right (.cons (.v 2) (.cons (.bin .sub (.k (.int 1)) (.v 3)) (.cons (.v 12) (.cons (.v 10) (.cons (.v 14) (.cons (.k (.int 4)) (.nil))))))))))))
    (.cons (.ret (.k (.bl false)))
    (.nil))
    (.nil))
   (.cons (.ifs (.an (.cmp .eq (.v 4) (.k (.int 1))) (.an (.cmp .eq (.v 1) (.k (.int 0))) (.one (.not (.tr (.call f__law_long_right (.cons (.v 2) (.cons (.v 3) (.cons (.v 11) (.cons (.v 9) (.cons (.v 13) (.nil))))))))))))
    (.cons (.ret (.k (.bl false)))
    (.nil))
    (.nil))
   (.cons (.ifs (.not (.tr (.call f__law_works_right (.cons (.v 2) (.cons (.bin .sub (.k (.int 1)) (.v 3)) (.cons (.v 11) (.cons (.v 9) (.cons (.v 13) (.cons (.k (.int 2)) (.nil))))))))))
    (.cons (.ret (.k (.bl false)))
    (.nil))
    (.nil))
   (.nil)))))
section
variable {n b k K T r i named great : Nat} {st S S0 : Sto} {Q : Vl → Sto → Prop} {Qf : Fl → Sto → Prop} {X : XP} {m : Int} {ns : List Int} {U V : Wk} {uv script : Vl} {y5 y7 y11 y12 y13 y14 : Option Sl}
theorem law_tail (UO : U.Ok) (us : Sv b st uv U) (VO : V.Ok) (hT : T ≤ 12) (hB : Bx b K st) (hK : K ≤ 100000)
    (q : ∀ (x11 x12 x13 x14 : Option Sl) S', Qf (.nx [some (.val script), some (.val (.int (i : Int))), some (.val (.ref b)), some (.val (.int (named : Int))), some (.val (.int (great : Int))), y5, some (.val (.int (T : Int))), y7, some (.val (.int (V.N : Int))), some (.val (worksV U uv)), some (.val (worksV V (.lst (rowsL V.S)))), x11, x12, x13, x14]) S') :
    (eb (L.pr (n + 19)) lawBk [some (.val script), some (.val (.int (i : Int))), some (.val (.ref b)), some (.val (.int (named : Int))), some (.val (.int (great : Int))), y5, some (.val (.int (T : Int))), y7, some (.val (.int (V.N : Int))), some (.val (worksV U uv)), some (.val (worksV V (.lst (rowsL V.S)))), y11, y12, y13, y14] st).wp Qf X := by
  have Vs : ∀ S : Sto, Sv b S (.lst (rowsL V.S)) V := fun S => ⟨seqv_lst, fun z => nomatch z⟩
  unfold lawBk
  walk_at "w"
  refine made_wp (n := n + 9) UO us.q ?_
  walk_at "w"
  refine made_wp (n := n + 9) VO seqv_lst ?_
  walk_at "w"
  rw [List.length_map]
  refine begin_wp (n := n + 17) (N := U.N) UO.n1 UO.n2 hB (by omega) fun l1 S1 hl1 hB1 hE1 => ?_
  walk_at "w"
  refine begin_wp (n := n + 17) (N := V.N) VO.n1 VO.n2 hB1 (by omega) fun l2 S2 hl2 hB2 hE2 => ?_
  walk_at "w"
  refine works_right_wp (n := n + 7) UO (us.ext (hE1.trans hE2)) hl1 (by omega) hB2 (by omega) fun S3 hB3 hE3 => ?_
  walk_at "w"
  change ((L.pr (n + 19)).F f__law_works_right [.ref b, .int (1 - (named : Int)), madeV V, worksV V (.lst (rowsL V.S)), .tup (natL l2), .int ((4 : Nat) : Int)] S3).wp _ _
  refine works_right_wp (n := n + 7) VO (Vs S3) hl2 (by omega) hB3 (by omega) fun S4 hB4 hE4 => ?_
  have E4 := ((hE1.trans hE2).trans hE3).trans hE4
  walk_at "w"
  have fin : ∀ S5 : Sto, Bx b (K + 200 + 200 + 3000 + 3000 + 3000) S5 → Ext b S4 S5 → (eb (L.pr (n + 19)) (.cons (.ifs (.not (.tr (.call f__law_works_right (.cons (.v 2) (.cons (.bin .sub (.k (.int 1)) (.v 3)) (.cons (.v 11) (.cons (.v 9) (.cons (.v 13) (.cons (.k (.int 2)) (.nil))))))))))
    (.cons (.ret (.k (.bl false)))
    (.nil))
    (.nil))
   (.nil)) [some (.val script), some (.val (.int (i : Int))), some (.val (.ref b)), some (.val (.int (named : Int))), some (.val (.int (great : Int))), y5, some (.val (.int (T : Int))), y7, some (.val (.int (V.N : Int))), some (.val (worksV U uv)), some (.val (worksV V (.lst (rowsL V.S)))), some (.val (madeV U)), some (.val (madeV V)), some (.val (.tup (natL l1))), some (.val (.tup (natL l2)))] S5).wp Qf X := fun S5 hB5 hE5 => by
    walk_at "w"
    change ((L.pr (n + 19)).F f__law_works_right [.ref b, .int (1 - (named : Int)), madeV U, worksV U uv, .tup (natL l1), .int ((2 : Nat) : Int)] S5).wp _ _
    refine works_right_wp (n := n + 7) UO (us.ext (E4.trans hE5)) hl1 (by omega) hB5 (by omega) fun S6 hB6 hE6 => ?_
    refine tru_B (br_ff ?_)
    walk_at "w"
    exact q _ _ _ _ S6
  apply br_dec <;> intro h1
  · walk_at "w"
    apply br_dec <;> intro h2
    · walk_at "w"
      refine long_right_wp (n := n + 7) UO (us.ext E4) hl1 hB4 (by omega) fun S5 hB5 hE5 => ?_
      refine tru_B (br_ff ?_)
      refine wp_ok ?_
      exact fin S5 hB5 hE5
    · refine br_ff ?_
      refine wp_ok ?_
      exact fin S4 (hB4.up (by omega)) Ext.refl
  · refine br_ff ?_
    refine wp_ok ?_
    exact fin S4 (hB4.up (by omega)) Ext.refl
end
section
variable {n b k K T r : Nat} {st S S0 : Sto} {Q : Vl → Sto → Prop} {X : XP} {m : Int} {ns : List Int}
/-- the first of the works: drawn, or wide -/
def Wv (b : Nat) (S : Sto) (x : Vl) : Prop := ∃ W sv, Wk.Ok W ∧ Sv b S sv W ∧ x = worksV W sv
theorem law_wp (hl : ns.length ≤ 63) (q : ∀ S', Q (.bl true) S') : ((L.pr (n + 20)).F f_law [.fro (ns.map .int)] st).wp Q X := by
  refine u_law ?_
  unfold b_law
  walk_at "w"
  rw [List.length_map]
  have hmx : max (1 : Int) (min 3 (ns.length : Int)) = ((max 1 (min 3 ns.length) : Nat) : Int) := by omega
  rw [hmx, rng_toNat]
  refine for_wp (fun i : Nat => Vl.int (i : Int)) (List.range (max 1 (min 3 ns.length))) (fun _ env _ => ∃ y1 y2 y3 y4 y5 y6 y7 y8 y9 y10 y11 y12 y13 y14 : Option Sl, env = [some (.val (.fro (ns.map .int))), y1, y2, y3, y4, y5, y6, y7, y8, y9, y10, y11, y12, y13, y14]) rfl ⟨none, none, none, none, none, none, none, none, none, none, none, none, none, none, rfl⟩ (fun k i env s hi hj => ?_) fun env s hj => ?_
  · obtain ⟨y1, y2, y3, y4, y5, y6, y7, y8, y9, y10, y11, y12, y13, y14, rfl⟩ := hj
    have hi3 : i ≤ 3 := by
      have := List.mem_range.mp (List.mem_of_getElem? hi)
      omega
    refine set_by rfl ?_
    dsimp only [dz_set0, dz_set1]
    show (eb _ (.cons _ (.cons _ (.cons _ (.cons _ (.cons _ (.cons _ lawBk)))))) _ _).wp _ _
    walk_at "w"
    refine cell_wp (n := n + 18) (by omega) fun g => ?_
    walk_at "w"
    refine box_wp (n := n + 18) fun S0 hB0 hE0 => ?_
    generalize (s : List Ob).length = b at hB0 ⊢
    walk_at "w"
    refine take_wp (w := 2) hB0 (by omega) (by omega) (by omega) fun named S1 h1 hB1 hE1 => ?_
    walk_at "w"
    refine take_wp (w := 8) hB1 (by omega) (by omega) (by omega) fun great S2 h2 hB2 hE2 => ?_
    walk_at "w"
    refine take_wp (w := 6) hB2 (by omega) (by omega) (by omega) fun many S3 h3 hB3 hE3 => ?_
    walk_at "w"
    refine take_wp (w := 8) hB3 (by omega) (by omega) (by omega) fun dt S4 h4 hB4 hE4 => ?_
    walk_at "w"
    refine pickP_wp (P := fun x => ∃ T : Nat, T ≤ 12 ∧ x = .int (T : Int)) (by show dt < 8; omega) (fun x hx => ?_) fun x ⟨T, hT, ex⟩ => ?_
    · simp only [List.mem_cons, List.mem_nil_iff, or_false] at hx
      rcases hx with rfl | rfl | rfl | rfl | rfl | rfl | rfl | rfl
      · exact ⟨3, by omega, rfl⟩
      · exact ⟨1, by omega, rfl⟩
      · exact ⟨5, by omega, rfl⟩
      · exact ⟨2, by omega, rfl⟩
      · exact ⟨8, by omega, rfl⟩
      · exact ⟨4, by omega, rfl⟩
      · exact ⟨12, by omega, rfl⟩
      · exact ⟨6, by omega, rfl⟩
    subst ex
    walk_at "w"
    refine take_wp (w := 5) hB4 (by omega) (by omega) (by omega) fun db S5 h5 hB5 hE5 => ?_
    walk_at "w"
    refine take_wp (w := 4) hB5 (by omega) (by omega) (by omega) fun dl S6 h6 hB6 hE6 => ?_
    walk_at "w"
    refine take_wp (w := 3) hB6 (by omega) (by omega) (by omega) fun d7 S7 h7 hB7 hE7 => ?_
    walk_at "w"
    refine take_wp (w := 3) hB7 (by omega) (by omega) (by omega) fun d8 S8 h8 hB8 hE8 => ?_
    walk_at "w"
    refine take_wp (w := 3) hB8 (by omega) (by omega) (by omega) fun d9 S9 h9 hB9 hE9 => ?_
    walk_at "w"
    rw [show (1 : Int) + (many : Int) = ((1 + many : Nat) : Int) by omega, show (1 : Int) + (d7 : Int) = ((1 + d7 : Nat) : Int) by omega, show (1 : Int) + (d8 : Int) = ((1 + d8 : Nat) : Int) by omega, show (1 : Int) + (d9 : Int) = ((1 + d9 : Nat) : Int) by omega, show (2 : Int) + (db : Int) = ((2 + db : Nat) : Int) by omega, show (2 : Int) + (dl : Int) = ((2 + dl : Nat) : Int) by omega]
    refine works_wp (n := n + 17) (by omega) (by omega) (by omega) (by omega) (by omega) (by omega) (by omega) (by omega) (by omega) (by omega) hB9 (by omega) fun W S10 WO WN hB10 hE10 => ?_
    walk_at "w"
    refine take_wp (w := 2) hB10 (by omega) (by omega) (by omega) fun d11 S11 h11 hB11 hE11 => ?_
    walk_at "w"
    refine take_wp (w := 3) hB11 (by omega) (by omega) (by omega) fun d12 S12 h12 hB12 hE12 => ?_
    walk_at "w"
    rw [show (1 : Int) + (d11 : Int) = ((1 + d11 : Nat) : Int) by omega, show (1 : Int) + (d12 : Int) = ((1 + d12 : Nat) : Int) by omega]
    change ((L.pr (n + 19)).F f__law_works [.ref b, .int ((2 + dl : Nat) : Int), .int ((1 + d11 : Nat) : Int), .int ((1 + d12 : Nat) : Int), .int ((2 : Nat) : Int), .int ((4 : Nat) : Int)] S12).wp _ _
    refine works_wp (n := n + 17) (by omega) (by omega) (by omega) (by omega) (by omega) (by omega) (by omega) (by omega) (by omega) (by omega) hB12 (by omega) fun V S13 VO VN hB13 hE13 => ?_
    have Vs : ∀ S : Sto, Sv b S (.lst (rowsL V.S)) V := fun S => ⟨seqv_lst, fun z => nomatch z⟩
    have Ws : ∀ S : Sto, Sv b S (.lst (rowsL W.S)) W := fun S => ⟨seqv_lst, fun z => nomatch z⟩
    walk_at "w"
    rw [← VN]
    have fin : ∀ (U : Wk) (uv : Vl) (S14 : Sto), U.Ok → Sv b S14 uv U → Bx b 3000 S14 → _ := fun U uv S14 UO us hB14 => law_tail (n := n) (i := i) (named := named) (great := great) (y5 := some (.val (.int ((1 + many : Nat) : Int)))) (y7 := some (.val (.int ((2 + db : Nat) : Int)))) (script := .fro (ns.map .int)) (y11 := y11) (y12 := y12) (y13 := y13) (y14 := y14) (X := X) (Qf := forQ ⟨(List.range (max 1 (min 3 ns.length))).map fun i : Nat => Vl.int (i : Int), []⟩ (fun env _ => ∃ y1 y2 y3 y4 y5 y6 y7 y8 y9 y10 y11 y12 y13 y14 : Option Sl, env = [some (.val (.fro (ns.map .int))), y1, y2, y3, y4, y5, y6, y7, y8, y9, y10, y11, y12, y13, y14]) (nxQ (fun env s => (eb (L.pr (n + 19)) (.cons (.ret (.k (.bl true))) .nil) env s).wp (rtQ Q) X) (rtQ Q))) UO us VO hT hB14 (by omega) fun x11 x12 x13 x14 S' => fq_nx src_ok_nil ⟨_, _, _, _, _, _, _, _, _, _, _, _, _, _, rfl⟩
    apply br_dec <;> intro hg
    · walk_at "w"
      apply br_dec <;> intro hi0
      · walk_at "w"
        refine wide_wp (n := n + 17) hB13 (by omega) fun U uv S14 UO UN us hB14 hE14 => ?_
        walk_at "w"
        exact fin U uv S14 UO us (hB14.up (by omega))
      · walk_at "w"
        exact fin W _ S13 WO (Ws S13) (hB13.up (by omega))
    · walk_at "w"
      exact fin W _ S13 WO (Ws S13) (hB13.up (by omega))
  · obtain ⟨y1, y2, y3, y4, y5, y6, y7, y8, y9, y10, y11, y12, y13, y14, rfl⟩ := hj
    walk_at "w"
    exact q s
end
end K07
open PySem PySem.W PySem.Calls PyProof.Rows
theorem K07.res (ns : List Int) (hl : ns.length ≤ 63) : ∃ st, (K07.L.pr 60).F 43 [.fro (ns.map .int)] [] = .ok (.bl true) st := by
  obtain ⟨v, s, e, h⟩ := TW.wp_get (K07.law_wp (n := 60 - 20) (st := []) (Q := fun v _ => v = .bl true) (X := TW.nX) hl fun _ => rfl)
  rw [h] at e
  exact ⟨s, e⟩
theorem PySem.Challenge.cw_thinwire_k07_courses_judged_holds : PySem.Challenge.rw_thinwire_k07_courses_judged.Holds := by
  exact k07_end 60 k07_room K07.res
#print axioms PySem.Challenge.cw_thinwire_k07_courses_judged_holds
