import PyProof.Rows.All
import Wide.All
import OpenK.AllK
import Wide.FinOn
import HandS.ForMost
import HandS.ForExc
import HandS.Walk
import HandS.TupAny
import HandS.TupMul
import HandS.Zip
import HandS.Rev
import HandS.Conv
import HandS.IsInst
import HandS.Flow
import HandS.Style
import HandS.SortInts
import HandS.WideBits
import HandS.RevTup
import KE.GoesMore
import KE.GoesEnum
import PySem.Challenge.RW_costsahead_k76_whole_heaps_as_counting
import KE.BitLaws
set_option Elab.async false
set_option linter.all false
set_option maxRecDepth 100000
set_option maxHeartbeats 4000000
/-! PFa: data, the relation of data to values over a frozen part of the abstract heap, states, results. -/
namespace PF
open PySem PySem.Spec PyProof.Rows L2

/-- data: None, bools, ints, texts, tuples and lists by value, objects by number, the script -/
inductive D where
  | non | bl (b : Bool) | int (i : Int) | str (x : Str) | tup (xs : List D) | lst (xs : List D) | obj (n : Nat) | scr (ns : List Int)

/-- what an object holds -/
inductive O where
  | lst (xs : List D)
abbrev Mem := List O

/-- an exception: its class by number, what it bears -/
structure Exn where
  c : Nat
  arg : Option D

inductive R (α : Type) where
  | ok (a : α) (m : Mem) | exc (x : Exn) (m : Mem) | stk
def R.bind {α β : Type} : R α → (α → Mem → R β) → R β
  | .ok a m, f => f a m
  | .exc x m, _ => .exc x m
  | .stk, _ => .stk
@[simp] theorem R.bind_ok {α β : Type} (a : α) (m : Mem) (f : α → Mem → R β) : (R.ok a m).bind f = f a m := rfl
@[simp] theorem R.bind_exc {α β : Type} (x : Exn) (m : Mem) (f : α → Mem → R β) : (R.exc x m : R α).bind f = .exc x m := rfl
@[simp] theorem R.bind_stk {α β : Type} (f : α → Mem → R β) : (R.stk : R α).bind f = .stk := rfl
def R.of {α : Type} (o : Option α) (m : Mem) : R α := match o with
  | some a => .ok a m
  | none => .stk
@[simp] theorem R.of_some {α : Type} (a : α) (m : Mem) : R.of (some a) m = .ok a m := rfl
@[simp] theorem R.of_none {α : Type} (m : Mem) : (R.of (none : Option α) m) = .stk := rfl

/-- a slot: without a value | a value that stays | a list of the def's own, that nothing else knows -/
inductive Sl where
  | no | val (d : D) | own (xs : List D)

/-- the objects' places, the frozen part, the abstract heap -/
structure G where
  r : List Addr
  F : Hp
  H : Hp

mutual
inductive RD (K : PySem.W.Frag) (ρ : List Addr) (F : Hp) : D → V → Prop
  | non : RD K ρ F .non .non
  | bl (b : Bool) : RD K ρ F (.bl b) (.bl b)
  | int (i : Int) : RD K ρ F (.int i) (.int i)
  | str (x : Str) (h : PySem.PyData.strOk x = true) : RD K ρ F (.str x) (.str x)
  | tup {a : Addr} {vs : List V} {ds : List D} : F a = some (.tup vs) → RDs K ρ F ds vs → RD K ρ F (.tup ds) (.ref a)
  | lst {a : Addr} {vs : List V} {ds : List D} : F a = some (.lst vs) → RDs K ρ F ds vs → RD K ρ F (.lst ds) (.ref a)
  | obj {n : Nat} {a : Addr} : ρ[n]? = some a → RD K ρ F (.obj n) (.ref a)
  | scr {a : Addr} {ns : List Int} : SqL K F a (ns.map V.int) → RD K ρ F (.scr ns) (.ref a)
inductive RDs (K : PySem.W.Frag) (ρ : List Addr) (F : Hp) : List D → List V → Prop
  | nil : RDs K ρ F [] []
  | cons {d : D} {v : V} {ds : List D} {vs : List V} : RD K ρ F d v → RDs K ρ F ds vs → RDs K ρ F (d :: ds) (v :: vs)
end

section
variable {K : PySem.W.Frag} {ρ ρ' : List Addr} {F F' : Hp}
theorem sql_mono {a : Addr} {xs : List V} (e : Same F F') (h : SqL K F a xs) : SqL K F' a xs := e.seq h
theorem sqt_mono {a : Addr} {xs : List V} (e : Same F F') (h : SqT K F a xs) : SqT K F' a xs := by
  rcases h with (h | ⟨o, h⟩) | h
  · exact Or.inl (Or.inl (e _ _ h))
  · exact Or.inl (Or.inr ⟨o, e _ _ h⟩)
  · exact Or.inr h
mutual
theorem RD.mono (hr : ∀ (n : Nat) (a : Addr), ρ[n]? = some a → ρ'[n]? = some a) (hf : Same F F') : ∀ {d : D} {v : V}, RD K ρ F d v → RD K ρ' F' d v
  | _, _, .non => .non
  | _, _, .bl b => .bl b
  | _, _, .int i => .int i
  | _, _, .str x h => .str x h
  | _, _, .tup h hs => .tup (hf _ _ h) (RDs.mono hr hf hs)
  | _, _, .lst h hs => .lst (hf _ _ h) (RDs.mono hr hf hs)
  | _, _, .obj h => .obj (hr _ _ h)
  | _, _, .scr h => .scr (sql_mono hf h)
theorem RDs.mono (hr : ∀ (n : Nat) (a : Addr), ρ[n]? = some a → ρ'[n]? = some a) (hf : Same F F') : ∀ {ds : List D} {vs : List V}, RDs K ρ F ds vs → RDs K ρ' F' ds vs
  | _, _, .nil => .nil
  | _, _, .cons h hs => .cons (RD.mono hr hf h) (RDs.mono hr hf hs)
end
theorem RDs.length : ∀ {ds : List D} {vs : List V}, RDs K ρ F ds vs → ds.length = vs.length
  | _, _, .nil => rfl
  | _, _, .cons _ hs => by
    rw [List.length_cons, List.length_cons, RDs.length hs]
theorem RDs.get : ∀ {ds : List D} {vs : List V} {i : Nat} {d : D}, RDs K ρ F ds vs → ds[i]? = some d → ∃ v, vs[i]? = some v ∧ RD K ρ F d v
  | _, _, i, d, .nil, h => by simp at h
  | _, _, 0, d, .cons h hs, e => by
    simp at e
    subst e
    exact ⟨_, rfl, h⟩
  | _, _, i + 1, d, .cons h hs, e => by
    obtain ⟨v, q, r⟩ := RDs.get (i := i) hs (by simpa using e)
    exact ⟨v, by simpa using q, r⟩
theorem RDs.getv : ∀ {ds : List D} {vs : List V} {i : Nat} {v : V}, RDs K ρ F ds vs → vs[i]? = some v → ∃ d, ds[i]? = some d ∧ RD K ρ F d v
  | _, _, i, d, .nil, h => by simp at h
  | _, _, 0, d, .cons h hs, e => by
    simp at e
    subst e
    exact ⟨_, rfl, h⟩
  | _, _, i + 1, d, .cons h hs, e => by
    obtain ⟨v, q, r⟩ := RDs.getv (i := i) hs (by simpa using e)
    exact ⟨v, by simpa using q, r⟩
theorem RDs.append : ∀ {ds es : List D} {vs us : List V}, RDs K ρ F ds vs → RDs K ρ F es us → RDs K ρ F (ds ++ es) (vs ++ us)
  | _, _, _, _, .nil, q => q
  | _, _, _, _, .cons h hs, q => .cons h (RDs.append hs q)
theorem RDs.one {d : D} {v : V} (h : RD K ρ F d v) : RDs K ρ F [d] [v] := .cons h .nil
theorem RDs.drop : ∀ {ds : List D} {vs : List V} (n : Nat), RDs K ρ F ds vs → RDs K ρ F (ds.drop n) (vs.drop n)
  | _, _, 0, h => h
  | _, _, _ + 1, .nil => .nil
  | _, _, n + 1, .cons _ hs => RDs.drop n hs
theorem RDs.take : ∀ {ds : List D} {vs : List V} (n : Nat), RDs K ρ F ds vs → RDs K ρ F (ds.take n) (vs.take n)
  | _, _, 0, _ => .nil
  | _, _, _ + 1, .nil => .nil
  | _, _, n + 1, .cons h hs => .cons h (RDs.take n hs)
theorem RDs.reverse : ∀ {ds : List D} {vs : List V}, RDs K ρ F ds vs → RDs K ρ F ds.reverse vs.reverse
  | _, _, .nil => .nil
  | _, _, .cons h hs => by
    rw [List.reverse_cons, List.reverse_cons]
    exact RDs.append (RDs.reverse hs) (.one h)
theorem RDs.set : ∀ {ds : List D} {vs : List V} {d : D} {v : V} (i : Nat), RD K ρ F d v → RDs K ρ F ds vs → RDs K ρ F (ds.set i d) (vs.set i v)
  | _, _, _, _, _, _, .nil => .nil
  | _, _, _, _, 0, q, .cons _ hs => .cons q hs
  | _, _, _, _, i + 1, q, .cons h hs => .cons h (RDs.set i q hs)
theorem RDs.dropLast : ∀ {ds : List D} {vs : List V}, RDs K ρ F ds vs → RDs K ρ F ds.dropLast vs.dropLast
  | _, _, .nil => .nil
  | _, _, .cons _ .nil => .nil
  | _, _, .cons h (.cons h2 hs) => .cons h (RDs.dropLast (.cons h2 hs))
theorem RDs.rep {ds : List D} {vs : List V} (h : RDs K ρ F ds vs) : ∀ n : Nat, RDs K ρ F (List.replicate n ds).flatten (List.replicate n vs).flatten
  | 0 => .nil
  | n + 1 => by
    rw [List.replicate_succ, List.replicate_succ, List.flatten_cons, List.flatten_cons]
    exact RDs.append h (RDs.rep h n)
theorem RDs.ints (ns : List Int) : RDs K ρ F (ns.map D.int) (ns.map V.int) := by
  induction ns with
  | nil => exact .nil
  | cons n ns ih => exact .cons (.int n) ih
theorem RDs.ints_of : ∀ {ns : List Int} {vs : List V}, RDs K ρ F (ns.map D.int) vs → vs = ns.map V.int
  | [], _, h => by
    cases h
    rfl
  | n :: ns, _, h => by
    cases h with
    | cons h hs =>
      cases h
      rw [RDs.ints_of hs]
      rfl
theorem RDs.bls_of : ∀ {ns : List Bool} {vs : List V}, RDs K ρ F (ns.map D.bl) vs → vs = ns.map V.bl
  | [], _, h => by
    cases h
    rfl
  | n :: ns, _, h => by
    cases h with
    | cons h hs =>
      cases h
      rw [RDs.bls_of hs]
      rfl
end

/-- g' lies behind g: nothing that was frozen, or is not an object, has changed -/
structure Ex (g g' : G) : Prop where
  pre : ∃ t, g'.r = g.r ++ t ∧ ∀ a ∈ t, g.H a = none
  frz : ∀ a o, g.F a = some o → g'.F a = some o
  fre : ∀ a o, g.H a = some o → g'.F a = g.F a
  kep : ∀ a o, g.H a = some o → a ∉ g.r → g'.H a = some o
  the : ∀ a o, g.H a = some o → ∃ o', g'.H a = some o'
theorem Ex.refl (g : G) : Ex g g := ⟨⟨[], by simp, by simp⟩, fun _ _ h => h, fun _ _ _ => rfl, fun _ _ h _ => h, fun _ o h => ⟨o, h⟩⟩
theorem Ex.trans {g g1 g2 : G} (a : Ex g g1) (b : Ex g1 g2) : Ex g g2 := by
  obtain ⟨t, e, f⟩ := a.pre
  obtain ⟨t', e', f'⟩ := b.pre
  refine ⟨⟨t ++ t', by rw [e', e, List.append_assoc], fun x hx => ?_⟩, fun x o h => b.frz x o (a.frz x o h), fun x o h => ?_, fun x o h n => ?_, fun x o h => ?_⟩
  · rcases List.mem_append.mp hx with hx | hx
    · exact f x hx
    · cases q : g.H x with
      | none => rfl
      | some o =>
        obtain ⟨o', q'⟩ := a.the x o q
        rw [f' x hx] at q'
        cases q'
  · obtain ⟨o', q'⟩ := a.the x o h
    rw [b.fre x o' q', a.fre x o h]
  · refine b.kep x o (a.kep x o h n) fun hm => ?_
    rw [e] at hm
    rcases List.mem_append.mp hm with hm | hm
    · exact n hm
    · rw [f x hm] at h
      cases h
  · obtain ⟨o', q⟩ := a.the x o h
    exact b.the x o' q
theorem Ex.ix {g g' : G} (e : Ex g g') : ∀ (n : Nat) (a : Addr), g.r[n]? = some a → g'.r[n]? = some a := fun n a h => by
  obtain ⟨t, q, _⟩ := e.pre
  rw [q, List.getElem?_append_left (List.getElem?_eq_some_iff.mp h).1]
  exact h
theorem Ex.rd {K : PySem.W.Frag} {g g' : G} (e : Ex g g') {d : D} {v : V} (h : RD K g.r g.F d v) : RD K g'.r g'.F d v := h.mono e.ix e.frz
theorem Ex.rds {K : PySem.W.Frag} {g g' : G} (e : Ex g g') {d : List D} {v : List V} (h : RDs K g.r g.F d v) : RDs K g'.r g'.F d v := h.mono e.ix e.frz
theorem Ex.nr {g g' : G} (e : Ex g g') {a : Addr} {o : HO} (h : g.H a = some o) (n : a ∉ g.r) : a ∉ g'.r := fun hm => by
  obtain ⟨t, q, f⟩ := e.pre
  rw [q] at hm
  rcases List.mem_append.mp hm with hm | hm
  · exact n hm
  · rw [f a hm] at h
    cases h

/-- an object of the store stands at a -/
def RO (K : PySem.W.Frag) (g : G) (a : Addr) : O → Prop
  | .lst xs => ∃ vs, g.H a = some (.lst vs) ∧ RDs K g.r g.F xs vs
structure HR (K : PySem.W.Frag) (m : Mem) (g : G) : Prop where
  sub : ∀ a o, g.F a = some o → g.H a = some o
  len : g.r.length = m.length
  nd : g.r.Nodup
  fre : ∀ a ∈ g.r, g.F a = none
  obj : ∀ (n : Nat) (a : Addr) (o : O), g.r[n]? = some a → m[n]? = some o → RO K g a o
theorem HR.nof {K : PySem.W.Frag} {m : Mem} {g : G} (h : HR K m g) {a : Addr} {o : HO} (e : g.F a = some o) : a ∉ g.r := fun hm => by
  rw [h.fre a hm] at e
  cases e

/-- the slots -/
structure ER (K : PySem.W.Frag) (env : List Sl) (g : G) (σ : L2.St) : Prop where
  len : env.length = σ.length
  val : ∀ (i : Nat) (d : D), env[i]? = some (.val d) → ∃ v, σ[i]? = some (some v) ∧ RD K g.r g.F d v
  own : ∀ (i : Nat) (xs : List D), env[i]? = some (.own xs) → ∃ p vs, σ[i]? = some (some (.ref p)) ∧ g.H p = some (.lst vs) ∧ g.F p = none ∧ p ∉ g.r ∧ RDs K g.r g.F xs vs
  sep : ∀ (i j : Nat) (xs ys : List D) (p : Addr), env[i]? = some (.own xs) → env[j]? = some (.own ys) → σ[i]? = some (some (.ref p)) → σ[j]? = some (some (.ref p)) → i = j
theorem ER.mono {K : PySem.W.Frag} {env : List Sl} {g g' : G} {σ : L2.St} (h : ER K env g σ) (e : Ex g g') : ER K env g' σ := by
  refine ⟨h.len, fun i d q => ?_, fun i xs q => ?_, h.sep⟩
  · obtain ⟨v, h1, h2⟩ := h.val i d q
    exact ⟨v, h1, e.rd h2⟩
  · obtain ⟨p, vs, h1, h2, h3, h4, h5⟩ := h.own i xs q
    exact ⟨p, vs, h1, e.kep _ _ h2 h4, by rw [e.fre _ _ h2]; exact h3, e.nr h2 h4, e.rds h5⟩

/-- what the classes of exceptions are: their places, the names of what they bear -/
structure XI where
  at_ : Nat → Addr
  fld : Nat → Option Str
def XR (K : PySem.W.Frag) (T : XI) (g : G) (x : Exn) (cls : Value) (dx : Option Addr) : Prop :=
  cls = .ref (T.at_ x.c) ∧ ∀ d, x.arg = some d → ∃ p f v, dx = some p ∧ T.fld x.c = some f ∧ g.H p = some (.xd [(f, v)]) ∧ RD K g.r g.F d v

/-- what is wanted behind a result -/
def Post {α β : Type} (K : PySem.W.Frag) (T : XI) (Rel : G → α → β → Prop) (r : R α) (g : G) (Q : β → Hp → Prop) (W : XK) : Prop := match r with
  | .ok a m => ∀ b g', Ex g g' → HR K m g' → Rel g' a b → Q b g'.H
  | .exc x m => ∀ c dx g', Ex g g' → HR K m g' → XR K T g' x c dx → W c dx g'.H
  | .stk => False
section
variable {α β γ δ : Type} {K : PySem.W.Frag} {T : XI} {Rel : G → α → β → Prop} {Rel2 : G → γ → δ → Prop} {g g1 : G} {W : XK}
theorem Post.mono {r : R α} {Q : β → Hp → Prop} (p : Post K T Rel r g Q W) (e : Ex g g1) : Post K T Rel r g1 Q W := by
  cases r with
  | ok a m => exact fun b g' e' => p b g' (e.trans e')
  | exc x m => exact fun c dx g' e' => p c dx g' (e.trans e')
  | stk => exact p
theorem Post.bind {r : R α} {f : α → Mem → R γ} {Q : δ → Hp → Prop} {Q1 : β → Hp → Prop} (p : Post K T Rel2 (r.bind f) g Q W)
    (k : ∀ a m1, r = .ok a m1 → ∀ b g1, Ex g g1 → HR K m1 g1 → Rel g1 a b → Post K T Rel2 (f a m1) g1 Q W → Q1 b g1.H) : Post K T Rel r g Q1 W := by
  cases r with
  | ok a m => exact fun b g' e h q => k a m rfl b g' e h q (Post.mono p e)
  | exc x m => exact p
  | stk => exact p
theorem Post.imp {r : R α} {Q Q1 : β → Hp → Prop} (p : Post K T Rel r g Q W) (k : ∀ b g', Q b g' → Q1 b g') : Post K T Rel r g Q1 W := by
  cases r with
  | ok a m => exact fun b g' e h q => k _ _ (p b g' e h q)
  | exc x m => exact p
  | stk => exact p
theorem Post.now {a : α} {m : Mem} {Q : β → Hp → Prop} {b : β} (p : Post K T Rel (.ok a m) g Q W) (h : HR K m g) (r : Rel g a b) : Q b g.H := p b g (Ex.refl g) h r
/-- an answer at a later place -/
theorem Post.at {a : α} {m : Mem} {Q : β → Hp → Prop} {b : β} (p : Post K T Rel (.ok a m) g Q W) (e : Ex g g1) (h : HR K m g1) (r : Rel g1 a b) : Q b g1.H := p b g1 e h r
end

/-- relations of answers -/
abbrev RDg (K : PySem.W.Frag) : G → D → V → Prop := fun g d v => RD K g.r g.F d v
abbrev RDsg (K : PySem.W.Frag) : G → List D → List V → Prop := fun g d v => RDs K g.r g.F d v
/-- an operand: a value that stays, or a list of the def's own -/
def RA (K : PySem.W.Frag) : G → D → V → Prop := fun g d v => RD K g.r g.F d v ∨ ∃ p vs xs, d = .lst xs ∧ v = .ref p ∧ g.H p = some (.lst vs) ∧ p ∉ g.r ∧ RDs K g.r g.F xs vs
/-- a new list -/
def RF (K : PySem.W.Frag) (g0 : G) : G → List D → V → Prop := fun g xs v => ∃ p vs, v = .ref p ∧ g0.H p = none ∧ g.H p = some (.lst vs) ∧ g.F p = none ∧ p ∉ g.r ∧ RDs K g.r g.F xs vs
theorem RA.mono {K : PySem.W.Frag} {g g' : G} (e : Ex g g') {d : D} {v : V} (h : RA K g d v) : RA K g' d v := by
  rcases h with h | ⟨p, vs, xs, h1, h2, h3, h4, h5⟩
  · exact .inl (e.rd h)
  · exact .inr ⟨p, vs, xs, h1, h2, e.kep _ _ h3 h4, e.nr h3 h4, e.rds h5⟩
theorem RF.mono {K : PySem.W.Frag} {g0 g g' : G} (e : Ex g g') {d : List D} {v : V} (h : RF K g0 g d v) : RF K g0 g' d v := by
  obtain ⟨p, vs, h1, h0, h2, h3, h4, h5⟩ := h
  exact ⟨p, vs, h1, h0, e.kep _ _ h2 h4, by rw [e.fre _ _ h2]; exact h3, e.nr h2 h4, e.rds h5⟩
theorem RF.back {K : PySem.W.Frag} {g0 g1 g : G} (e : Ex g0 g1) {d : List D} {v : V} (h : RF K g1 g d v) : RF K g0 g d v := by
  obtain ⟨p, vs, h1, h0, h2⟩ := h
  refine ⟨p, vs, h1, ?_, h2⟩
  cases q : g0.H p with
  | none => rfl
  | some o =>
    obtain ⟨o', q'⟩ := e.the p o q
    rw [h0] at q'
    cases q'

/-! ### changes of the heap -/
section
variable {K : PySem.W.Frag} {m : Mem} {g : G} {p : Addr} {vs : List V} {xs : List D}
/-- a new thing, frozen -/
def G.newF (g : G) (p : Addr) (o : HO) : G := ⟨g.r, upd g.F p o, upd g.H p o⟩
/-- a new thing, not frozen -/
def G.newU (g : G) (p : Addr) (o : HO) : G := ⟨g.r, g.F, upd g.H p o⟩
theorem G.nF (h : HR K m g) (hp : g.H p = none) : g.F p = none := by
  cases q : g.F p with
  | none => rfl
  | some o =>
    rw [h.sub p o q] at hp
    cases hp
theorem HR.thr (h : HR K m g) {a : Addr} (ha : a ∈ g.r) : ∃ o, g.H a = some o := by
  obtain ⟨n, hn⟩ := List.mem_iff_getElem?.mp ha
  have hl : n < m.length := by
    rw [← h.len]
    exact (List.getElem?_eq_some_iff.mp hn).1
  have q := h.obj n a m[n] hn (List.getElem?_eq_getElem hl)
  cases e : m[n] with
  | lst xs =>
    rw [e] at q
    obtain ⟨vs, z, _⟩ := q
    exact ⟨_, z⟩
theorem HR.ner (h : HR K m g) (hp : g.H p = none) : p ∉ g.r := fun hm => by
  obtain ⟨o, e⟩ := h.thr hm
  rw [e] at hp
  cases hp
theorem RO.mono {g' : G} {a : Addr} {o : O} (h : RO K g a o) (e : Ex g g') (k : ∀ u, g.H a = some u → g'.H a = some u) : RO K g' a o := by
  cases o with
  | lst xs =>
    obtain ⟨vs, h1, h2⟩ := h
    exact ⟨vs, k _ h1, e.rds h2⟩
theorem Ex.newF {o : HO} (h : HR K m g) (hp : g.H p = none) : Ex g (g.newF p o) :=
  ⟨⟨[], by simp [G.newF], by simp⟩, fun a u q => by
    show upd g.F p o a = some u
    rw [upd_ne (ne_of_none (h.sub a u q) hp)]
    exact q, fun a u q => upd_ne (ne_of_none q hp), fun a u q _ => by
    show upd g.H p o a = some u
    rw [upd_ne (ne_of_none q hp)]
    exact q, fun a u q => ⟨u, by
      show upd g.H p o a = some u
      rw [upd_ne (ne_of_none q hp)]
      exact q⟩⟩
theorem Ex.newU {o : HO} (hp : g.H p = none) : Ex g (g.newU p o) :=
  ⟨⟨[], by simp [G.newU], by simp⟩, fun a u q => q, fun a u q => rfl, fun a u q _ => by
    show upd g.H p o a = some u
    rw [upd_ne (ne_of_none q hp)]
    exact q, fun a u q => ⟨u, by
      show upd g.H p o a = some u
      rw [upd_ne (ne_of_none q hp)]
      exact q⟩⟩
theorem HR.newF {o : HO} (h : HR K m g) (hp : g.H p = none) : HR K m (g.newF p o) := by
  refine ⟨fun a u q => ?_, h.len, h.nd, fun a ha => ?_, fun n a u h1 h2 => ?_⟩
  · by_cases e : a = p
    · subst e
      have q' : upd g.F a o a = some u := q
      rw [upd_same] at q'
      show upd g.H a o a = some u
      rw [upd_same]
      exact q'
    · have q' : upd g.F p o a = some u := q
      rw [upd_ne e] at q'
      show upd g.H p o a = some u
      rw [upd_ne e]
      exact h.sub a u q'
  · show upd g.F p o a = none
    rw [upd_ne (fun (e : a = p) => h.ner hp (by rw [← e]; exact ha))]
    exact h.fre a ha
  · refine (h.obj n a u h1 h2).mono (Ex.newF h hp) fun v q => ?_
    show upd g.H p o a = some v
    rw [upd_ne (ne_of_none q hp)]
    exact q
theorem HR.newU {o : HO} (h : HR K m g) (hp : g.H p = none) : HR K m (g.newU p o) := by
  refine ⟨fun a u q => ?_, h.len, h.nd, h.fre, fun n a u h1 h2 => ?_⟩
  · show upd g.H p o a = some u
    rw [upd_ne (ne_of_none (h.sub a u q) hp)]
    exact h.sub a u q
  · refine (h.obj n a u h1 h2).mono (Ex.newU hp) fun v q => ?_
    show upd g.H p o a = some v
    rw [upd_ne (ne_of_none q hp)]
    exact q
/-- a new tuple of data, a new list of data -/
theorem RD.newTup (h : HR K m g) (hp : g.H p = none) (r : RDs K g.r g.F xs vs) : RD K (g.newF p (.tup vs)).r (g.newF p (.tup vs)).F (.tup xs) (.ref p) :=
  .tup (upd_same) ((Ex.newF (o := .tup vs) h hp).rds r)
theorem RD.newLst (h : HR K m g) (hp : g.H p = none) (r : RDs K g.r g.F xs vs) : RD K (g.newF p (.lst vs)).r (g.newF p (.lst vs)).F (.lst xs) (.ref p) :=
  .lst (upd_same) ((Ex.newF (o := .lst vs) h hp).rds r)
theorem RF.new (h : HR K m g) (hp : g.H p = none) (r : RDs K g.r g.F xs vs) : RF K g (g.newU p (.lst vs)) xs (.ref p) :=
  ⟨p, vs, rfl, hp, upd_same, (show g.F p = none from G.nF h hp), (show p ∉ g.r from h.ner hp), r⟩
/-- a thing that stands unfrozen is frozen -/
def G.frz (g : G) (p : Addr) (o : HO) : G := ⟨g.r, upd g.F p o, g.H⟩
theorem HR.frz {o : HO} (h : HR K m g) (hp : g.H p = some o) (hf : g.F p = none) (hr : p ∉ g.r) : HR K m (g.frz p o) := by
  have mo : Same g.F (upd g.F p o) := fun a u q => by
    rw [upd_ne (ne_of_none q hf)]
    exact q
  refine ⟨fun a u q => ?_, h.len, h.nd, fun a ha => ?_, fun n a u h1 h2 => ?_⟩
  · by_cases e : a = p
    · subst e
      have q' : upd g.F a o a = some u := q
      rw [upd_same] at q'
      rw [← q']
      exact hp
    · have q' : upd g.F p o a = some u := q
      rw [upd_ne e] at q'
      exact h.sub a u q'
  · show upd g.F p o a = none
    rw [upd_ne (fun (e : a = p) => hr (by rw [← e]; exact ha))]
    exact h.fre a ha
  · have z := h.obj n a u h1 h2
    cases u with
    | lst ys =>
      obtain ⟨ws, z1, z2⟩ := z
      exact ⟨ws, z1, z2.mono (fun _ _ q => q) mo⟩
theorem frz_same {o : HO} (hf : g.F p = none) : Same g.F (upd g.F p o) := fun a u q => by
  rw [upd_ne (ne_of_none q hf)]
  exact q
/-- a new list is frozen -/
theorem RF.toRD {g0 : G} {v : V} (h : HR K m g) (r : RF K g0 g xs v) (e : Ex g0 g) : ∃ g', Ex g0 g' ∧ HR K m g' ∧ g'.H = g.H ∧ RD K g'.r g'.F (.lst xs) v := by
  obtain ⟨p, vs, rfl, h0, h1, h2, h3, h4⟩ := r
  refine ⟨g.frz p (.lst vs), ⟨e.pre, fun a u q => ?_, fun a u q => ?_, e.kep, e.the⟩, h.frz h1 h2 h3, rfl, ?_⟩
  · exact frz_same h2 a u (e.frz a u q)
  · show upd g.F p _ a = _
    rw [upd_ne (ne_of_none q h0)]
    exact e.fre a u q
  · exact .lst upd_same (h4.mono (fun _ _ q => q) (frz_same h2))
end
end PF

set_option Elab.async false
set_option linter.all false
set_option maxRecDepth 100000
set_option maxHeartbeats 4000000
/-! PFb: a small language and what it means. -/
namespace PF
open PySem

inductive Cn where
  | non | bl (b : Bool) | int (i : Int) | str (x : Str)
inductive Bop where
  | add | sub | mul | fdiv | mod | pow | shl | shr | band
inductive Cop where
  | eq | ne | lt | le | gt | ge | isin | notin
inductive Bi where
  | len | min2 | max2 | maxl | minl | suml | abs | all | any | tup | int | isInt | isBool | isTup | isStr | isList | repr
inductive Mt where
  | index | bits
mutual
/-- expressions -/
inductive E where
  | var (i : Nat) | cn (c : Cn) | own (i : Nat) | glob (x : Str) (i : Int)
  | tup (es : Es) | fr (f : Fr) | newo (f : Fr)
  | bin (op : Bop) (a b : E) | neg (a : E) | notv (a : E)
  | cmp (op : Cop) (a b : E) | isN (a : E) | notN (a : E) | chain (o1 o2 : Cop) (a b c : E)
  | andv (a b : E) | orv (a b : E) | one (a : E) | ife (t : T) (a b : E)
  | idx (a i : E) | slt (a : E) (lo hi : Oe) | revt (a : E)
  | call (f : Nat) (es : Es) | callk (f : Nat) (perm : List Nat) (es ks : Es)
  | bi (b : Bi) (es : Es) | mt (k : Mt) (o : E) (es : Es)
  | oidx (a i : E) | oeqn (a : E) | opop (a : E) | tuprng (lo : Oe) (hi : E)
/-- tests -/
inductive T where
  | tru | ex (a : E) | nt (t : T) | tand (t u : T) | tor (t u : T) | t1 (t : T) | cmp (a : E)
inductive Es where
  | nil | cons (a : E) (r : Es)
inductive Oe where
  | no | so (a : E)
/-- new lists -/
inductive Fr where
  | lst (es : Es) | comp (vs : List Nat) (tg : Tg) (s : Src) (c : T) (e : E)
  | listof (a : E) | cat (a b : E) | rep (a b : E) | slc (a : E) (lo hi : Oe) | lrev (a : E) | lrng (lo : Oe) (hi : E) | sorted (a : E)
/-- what is walked -/
inductive Src where
  | ex (a : E) | rng1 (a : E) | rng2 (a b : E) | rng3 (a b c : E) | enm (a : E) | zip (a b : E) | rev (a : E)
/-- targets -/
inductive Tg where
  | nm (i : Nat) | tup (ts : Tgs)
inductive Tgs where
  | nil | cons (t : Tg) (r : Tgs)
end
/-- statements -/
inductive Init where
  | val (e : E) | own (f : Fr)
mutual
inductive S where
  | asg (tg : Tg) (e : E) | seto (i : Nat) (f : Fr) | par (ls : List (Nat × Init))
  | app (i : Nat) (e : E) | ext (i : Nat) (e : E) | seti (i : Nat) (k e : E) | popd (i : Nat) | popto (j i : Nat)
  | oset (a k e : E) | ex (e : E) | ret (e : E) | retn
  | ifs (t : T) (a b : Ss) | fors (tg : Tg) (s : Src) (b : Ss) | whl (n : Nat) (t : T) (b : Ss)
  | brk | cnt | pas | rai (c : Nat) (es : Es) | tryas (b : Ss) (c : Nat) (i : Nat) (h : Ss)
inductive Ss where
  | nil | cons (s : S) (r : Ss) | frz (i : Nat) (r : Ss)
end

/-! ### operations on data -/
mutual
def D.pure : D → Bool
  | .non | .bl _ | .int _ | .str _ => true
  | .tup xs | .lst xs => D.pures xs
  | .obj _ | .scr _ => false
def D.pures : List D → Bool
  | [] => true
  | x :: xs => D.pure x && D.pures xs
end
mutual
def D.dep : D → Nat
  | .non | .bl _ | .int _ | .str _ | .obj _ | .scr _ => 0
  | .tup xs | .lst xs => D.deps xs + 1
def D.deps : List D → Nat
  | [] => 0
  | x :: xs => max (D.dep x) (D.deps xs)
end
mutual
def D.toPy : D → PyData
  | .non => .none
  | .bl b => .bool b
  | .int i => .int i
  | .str x => .str x
  | .tup xs => .tuple (D.toPys xs)
  | .lst xs => .list (D.toPys xs)
  | .obj _ => .none
  | .scr _ => .none
def D.toPys : List D → List PyData
  | [] => []
  | x :: xs => D.toPy x :: D.toPys xs
end
mutual
/-- == -/
def D.beq : D → D → Bool
  | .non, .non => true
  | .bl a, .bl b => a == b
  | .bl a, .int j => (if a then 1 else 0) == j
  | .int i, .bl b => i == (if b then 1 else 0)
  | .int i, .int j => i == j
  | .str x, .str y => x == y
  | .tup xs, .tup ys => D.beqs xs ys
  | .lst xs, .lst ys => D.beqs xs ys
  | _, _ => false
def D.beqs : List D → List D → Bool
  | [], [] => true
  | x :: xs, y :: ys => D.beq x y && D.beqs xs ys
  | _, _ => false
end
def D.flat : D → Bool
  | .non | .bl _ | .int _ | .str _ => true
  | _ => false
def D.asInt : D → Option Int
  | .int i => some i
  | _ => none
def D.asInts : List D → Option (List Int)
  | [] => some []
  | .int i :: r => (D.asInts r).map (i :: ·)
  | _ :: _ => none
def D.asBls : List D → Option (List Bool)
  | [] => some []
  | .bl i :: r => (D.asBls r).map (i :: ·)
  | _ :: _ => none
theorem D.asInts_map (ns : List Int) : D.asInts (ns.map D.int) = some ns := by
  induction ns with
  | nil => rfl
  | cons n ns ih =>
    rw [List.map_cons, D.asInts, ih]
    rfl
theorem D.asBls_map (ns : List Bool) : D.asBls (ns.map D.bl) = some ns := by
  induction ns with
  | nil => rfl
  | cons n ns ih =>
    rw [List.map_cons, D.asBls, ih]
    rfl
theorem D.asInts_eq : ∀ {ds : List D} {ns : List Int}, D.asInts ds = some ns → ds = ns.map D.int
  | [], ns, h => by
    cases h
    rfl
  | .int i :: r, ns, h => by
    rw [D.asInts] at h
    cases e : D.asInts r with
    | none =>
      rw [e] at h
      cases h
    | some ms =>
      rw [e] at h
      cases h
      rw [List.map_cons, D.asInts_eq e]
  | .non :: _, _, h => nomatch h
  | .bl _ :: _, _, h => nomatch h
  | .str _ :: _, _, h => nomatch h
  | .tup _ :: _, _, h => nomatch h
  | .lst _ :: _, _, h => nomatch h
  | .obj _ :: _, _, h => nomatch h
  | .scr _ :: _, _, h => nomatch h
theorem D.asBls_eq : ∀ {ds : List D} {ns : List Bool}, D.asBls ds = some ns → ds = ns.map D.bl
  | [], ns, h => by
    cases h
    rfl
  | .bl i :: r, ns, h => by
    rw [D.asBls] at h
    cases e : D.asBls r with
    | none =>
      rw [e] at h
      cases h
    | some ms =>
      rw [e] at h
      cases h
      rw [List.map_cons, D.asBls_eq e]
  | .non :: _, _, h => nomatch h
  | .int _ :: _, _, h => nomatch h
  | .str _ :: _, _, h => nomatch h
  | .tup _ :: _, _, h => nomatch h
  | .lst _ :: _, _, h => nomatch h
  | .obj _ :: _, _, h => nomatch h
  | .scr _ :: _, _, h => nomatch h
def cnF : Cn → D
  | .non => .non
  | .bl b => .bl b
  | .int i => .int i
  | .str x => .str x
/-- one factor within 2 ^ 64 -/
def mulOk (i j : Int) : Bool := (decide (-(2 ^ 64) < i) && decide (i < 2 ^ 64)) || (decide (-(2 ^ 64) < j) && decide (j < 2 ^ 64))
def binF : Bop → D → D → Option D
  | .add, .int i, .int j => some (.int (i + j))
  | .add, .str x, .str y => if x.length + y.length ≤ sizeLine then some (.str (x ++ y)) else none
  | .add, .tup x, .tup y => if x.length + y.length ≤ sizeLine then some (.tup (x ++ y)) else none
  | .sub, .int i, .int j => some (.int (i - j))
  | .mul, .int i, .int j => if mulOk i j then some (.int (i * j)) else none
  | .mul, .tup x, .int k => if x.length = 1 ∧ 0 ≤ k ∧ k ≤ 1000 then some (.tup (List.replicate k.toNat x).flatten) else none
  | .fdiv, .int i, .int j => if 0 < j ∧ j ≤ 10 ^ 70 then some (.int (i / j)) else none
  | .mod, .int i, .int j => if 0 < j then some (.int (i % j)) else none
  | .pow, .int i, .int j => if 0 ≤ j ∧ j ≤ 1000000 ∧ i.natAbs < 2 ^ 64 then some (.int (i ^ j.toNat)) else none
  | .shl, .int i, .int j => if 0 ≤ j ∧ j ≤ 1000000 ∧ i.natAbs < 2 ^ 64 then some (.int (i * 2 ^ j.toNat)) else none
  | .shr, .int i, .int j => if 0 ≤ j then some (.int (i / 2 ^ j.toNat)) else none
  | .band, .int i, .int j => some (.int (Builtin.bitAnd i j))
  | _, _, _ => none
/-- what may be held against each other by == -/
def eqOk (x y : D) : Bool := x.pure && y.pure && decide (min x.dep y.dep ≤ 64)
def cmpF : Cop → D → D → Option Bool
  | .eq, x, y => if eqOk x y then some (x.beq y) else none
  | .ne, x, y => if eqOk x y then some (!x.beq y) else none
  | .lt, .int i, .int j => some (decide (i < j))
  | .le, .int i, .int j => some (decide (i ≤ j))
  | .gt, .int i, .int j => some (decide (j < i))
  | .ge, .int i, .int j => some (decide (j ≤ i))
  | .lt, .tup x, .tup y => match D.asInts x, D.asInts y with
    | some ns, some ms => some (HT.lexLt ns ms)
    | _, _ => none
  | .isin, x, .tup ys => if x.flat && ys.all D.flat then some (ys.any fun y => D.beq y x) else none
  | .isin, x, .lst ys => if x.flat && ys.all D.flat then some (ys.any fun y => D.beq y x) else none
  | .notin, x, .tup ys => if x.flat && ys.all D.flat then some (!ys.any fun y => D.beq y x) else none
  | .notin, x, .lst ys => if x.flat && ys.all D.flat then some (!ys.any fun y => D.beq y x) else none
  | _, _, _ => none
def truF : D → Option Bool
  | .non => some false
  | .bl b => some b
  | .int i => some (i != 0)
  | .tup xs | .lst xs => some (!xs.isEmpty)
  | _ => none
/-- the item at an index of any sign -/
def idxF : D → D → Option D
  | .tup xs, .int i | .lst xs, .int i => L2.atI xs i
  | _, _ => none
def cutD (xs : List D) (lo hi : Option Int) : List D := (xs.drop (HT.sIx xs.length 0 lo)).take (HT.sIx xs.length xs.length hi - HT.sIx xs.length 0 lo)
def sltF (lo hi : Option Int) : D → Option D
  | .tup xs => some (.tup (cutD xs lo hi))
  | _ => none
def revtF : D → Option D
  | .tup xs => some (.tup xs.reverse)
  | _ => none
def biF : Bi → List D → Option D
  | .len, [.tup xs] | .len, [.lst xs] => some (.int xs.length)
  | .min2, [.int i, .int j] => some (.int (if j < i then j else i))
  | .max2, [.int i, .int j] => some (.int (if j > i then j else i))
  | .maxl, [.lst xs] => match D.asInts xs with
    | some (n :: ns) => some (.int (ns.foldl max n))
    | _ => none
  | .minl, [.lst xs] => match D.asInts xs with
    | some (n :: ns) => some (.int (ns.foldl min n))
    | _ => none
  | .suml, [.lst xs] | .suml, [.tup xs] => match D.asInts xs with
    | some ns => some (.int ns.sum)
    | _ => none
  | .abs, [.int i] => some (.int (if i < 0 then -i else i))
  | .all, [.lst xs] => match D.asBls xs with
    | some ns => some (.bl (ns.all id))
    | _ => none
  | .any, [.lst xs] => match D.asBls xs with
    | some ns => some (.bl (ns.any id))
    | _ => none
  | .tup, [.lst xs] | .tup, [.tup xs] => some (.tup xs)
  | .int, [.int i] => some (.int i)
  | .int, [.bl b] => some (.int (if b then 1 else 0))
  | .isInt, [.int _] | .isInt, [.bl _] => some (.bl true)
  | .isInt, [.non] | .isInt, [.str _] | .isInt, [.tup _] | .isInt, [.lst _] => some (.bl false)
  | .isBool, [.bl _] => some (.bl true)
  | .isBool, [.int _] | .isBool, [.non] | .isBool, [.str _] | .isBool, [.tup _] | .isBool, [.lst _] => some (.bl false)
  | .isTup, [.tup _] => some (.bl true)
  | .isTup, [.int _] | .isTup, [.bl _] | .isTup, [.non] | .isTup, [.str _] | .isTup, [.lst _] => some (.bl false)
  | .isStr, [.str _] => some (.bl true)
  | .isStr, [.int _] | .isStr, [.bl _] | .isStr, [.non] | .isStr, [.tup _] | .isStr, [.lst _] => some (.bl false)
  | .isList, [.lst _] => some (.bl true)
  | .isList, [.int _] | .isList, [.bl _] | .isList, [.non] | .isList, [.tup _] | .isList, [.str _] => some (.bl false)
  | _, _ => none
def findD (x : D) : List D → Nat → Option Nat
  | [], _ => none
  | y :: r, k => if D.beq y x then some k else findD x r (k + 1)
def mtF : Mt → D → List D → Option D
  | .index, .lst ys, [x] => if x.flat && ys.all D.flat then (findD x ys 0).map fun k => .int (k : Nat) else none
  | .bits, .int i, [] => some (.int (Builtin.Int.intBits i : Nat))
  | _, _, _ => none
/-- what has the method -/
def mtOk : Mt → D → Bool
  | .index, .lst _ => true
  | .bits, .int _ => true
  | _, _ => false
def lstD : D → Option (List D)
  | .lst xs => some xs
  | _ => none
/-- what list(..) makes of it -/
def listofF : D → Option (List D)
  | .lst xs | .tup xs => some xs
  | _ => none
def slcF (lo hi : Option Int) : D → Option (List D)
  | .lst xs => some (cutD xs lo hi)
  | .scr ns => some (cutD (ns.map D.int) lo hi)
  | _ => none
def intsR (lo : Int) (n : Nat) : List D := (List.range n).map fun i => D.int (lo + (i : Nat))
def rngOk (a b : Int) : Bool := decide (-1000000 ≤ a) && decide (a ≤ 1000000) && decide (-1000000 ≤ b) && decide (b ≤ 1000000)
def isort (x : Int) : List Int → List Int
  | [] => [x]
  | y :: r => if x ≤ y then x :: y :: r else y :: isort x r
def isorts : List Int → List Int
  | [] => []
  | x :: r => isort x (isorts r)
def sortedF : D → Option (List D)
  | .lst xs => match D.asInts xs with
    | some ns => if ns.length < 64 then some ((isorts ns).map D.int) else none
    | none => none
  | _ => none
/-- the object behind a value -/
def objL (m : Mem) : D → Option (Nat × List D)
  | .obj n => match m[n]? with
    | some (.lst xs) => some (n, xs)
    | none => none
  | _ => none
def pairsR (xs ys : List D) : List D := (xs.zip ys).map fun p => D.tup [p.1, p.2]
def enumR (xs : List D) : List D := xs.zipIdx.map fun p => D.tup [.int (p.2 : Nat), p.1]
def seqD : D → Option (List D)
  | .tup xs | .lst xs => some xs
  | _ => none

section
@[simp] theorem bin_add (i j : Int) : binF .add (.int i) (.int j) = some (.int (i + j)) := rfl
@[simp] theorem bin_sub (i j : Int) : binF .sub (.int i) (.int j) = some (.int (i - j)) := rfl
@[simp] theorem bin_addT (x y : List D) : binF .add (.tup x) (.tup y) = if x.length + y.length ≤ sizeLine then some (.tup (x ++ y)) else none := rfl
@[simp] theorem bin_addS (x y : Str) : binF .add (.str x) (.str y) = if x.length + y.length ≤ sizeLine then some (.str (x ++ y)) else none := rfl
@[simp] theorem bin_mul (i j : Int) : binF .mul (.int i) (.int j) = if mulOk i j then some (.int (i * j)) else none := rfl
@[simp] theorem bin_mulT (x : List D) (k : Int) : binF .mul (.tup x) (.int k) = if x.length = 1 ∧ 0 ≤ k ∧ k ≤ 1000 then some (.tup (List.replicate k.toNat x).flatten) else none := rfl
@[simp] theorem bin_fdiv (i j : Int) : binF .fdiv (.int i) (.int j) = if 0 < j ∧ j ≤ 10 ^ 70 then some (.int (i / j)) else none := rfl
@[simp] theorem bin_mod (i j : Int) : binF .mod (.int i) (.int j) = if 0 < j then some (.int (i % j)) else none := rfl
@[simp] theorem bin_pow (i j : Int) : binF .pow (.int i) (.int j) = if 0 ≤ j ∧ j ≤ 1000000 ∧ i.natAbs < 2 ^ 64 then some (.int (i ^ j.toNat)) else none := rfl
@[simp] theorem bin_shl (i j : Int) : binF .shl (.int i) (.int j) = if 0 ≤ j ∧ j ≤ 1000000 ∧ i.natAbs < 2 ^ 64 then some (.int (i * 2 ^ j.toNat)) else none := rfl
@[simp] theorem bin_shr (i j : Int) : binF .shr (.int i) (.int j) = if 0 ≤ j then some (.int (i / 2 ^ j.toNat)) else none := rfl
@[simp] theorem bin_band (i j : Int) : binF .band (.int i) (.int j) = some (.int (Builtin.bitAnd i j)) := rfl
@[simp] theorem cmp_eqI (i j : Int) : cmpF .eq (.int i) (.int j) = some (i == j) := rfl
@[simp] theorem cmp_neI (i j : Int) : cmpF .ne (.int i) (.int j) = some (!(i == j)) := rfl
theorem cmp_eq (x y : D) : cmpF .eq x y = if eqOk x y then some (x.beq y) else none := by cases x <;> rfl
theorem cmp_ne (x y : D) : cmpF .ne x y = if eqOk x y then some (!x.beq y) else none := by cases x <;> rfl
@[simp] theorem cmp_lt (i j : Int) : cmpF .lt (.int i) (.int j) = some (decide (i < j)) := rfl
@[simp] theorem cmp_le (i j : Int) : cmpF .le (.int i) (.int j) = some (decide (i ≤ j)) := rfl
@[simp] theorem cmp_gt (i j : Int) : cmpF .gt (.int i) (.int j) = some (decide (j < i)) := rfl
@[simp] theorem cmp_ge (i j : Int) : cmpF .ge (.int i) (.int j) = some (decide (j ≤ i)) := rfl
@[simp] theorem tru_non : truF .non = some false := rfl
@[simp] theorem tru_bl (b : Bool) : truF (.bl b) = some b := rfl
@[simp] theorem tru_int (i : Int) : truF (.int i) = some (i != 0) := rfl
@[simp] theorem tru_tup (x : List D) : truF (.tup x) = some (!x.isEmpty) := rfl
@[simp] theorem tru_lst (x : List D) : truF (.lst x) = some (!x.isEmpty) := rfl
@[simp] theorem idx_tup (x : List D) (i : Int) : idxF (.tup x) (.int i) = L2.atI x i := rfl
@[simp] theorem idx_lst (x : List D) (i : Int) : idxF (.lst x) (.int i) = L2.atI x i := rfl
@[simp] theorem slt_tup (l h : Option Int) (x : List D) : sltF l h (.tup x) = some (.tup (cutD x l h)) := rfl
@[simp] theorem revt_tup (x : List D) : revtF (.tup x) = some (.tup x.reverse) := rfl
@[simp] theorem bi_lenT (x : List D) : biF .len [.tup x] = some (.int x.length) := rfl
@[simp] theorem bi_lenL (x : List D) : biF .len [.lst x] = some (.int x.length) := rfl
@[simp] theorem bi_min2 (i j : Int) : biF .min2 [.int i, .int j] = some (.int (if j < i then j else i)) := rfl
@[simp] theorem bi_max2 (i j : Int) : biF .max2 [.int i, .int j] = some (.int (if j > i then j else i)) := rfl
theorem bi_sumL (ns : List Int) : biF .suml [.lst (ns.map .int)] = some (.int ns.sum) := by simp [biF, D.asInts_map]
theorem bi_sumT (ns : List Int) : biF .suml [.tup (ns.map .int)] = some (.int ns.sum) := by simp [biF, D.asInts_map]
theorem bi_all (ns : List Bool) : biF .all [.lst (ns.map .bl)] = some (.bl (ns.all id)) := by simp [biF, D.asBls_map]
theorem bi_any (ns : List Bool) : biF .any [.lst (ns.map .bl)] = some (.bl (ns.any id)) := by simp [biF, D.asBls_map]
@[simp] theorem bi_abs (i : Int) : biF .abs [.int i] = some (.int (if i < 0 then -i else i)) := rfl
@[simp] theorem bi_tupL (x : List D) : biF .tup [.lst x] = some (.tup x) := rfl
@[simp] theorem bi_tupT (x : List D) : biF .tup [.tup x] = some (.tup x) := rfl
@[simp] theorem bi_int (i : Int) : biF .int [.int i] = some (.int i) := rfl
@[simp] theorem bi_intb (b : Bool) : biF .int [.bl b] = some (.int (if b then 1 else 0)) := rfl
@[simp] theorem isI_int (i : Int) : biF .isInt [.int i] = some (.bl true) := rfl
@[simp] theorem isI_bl (i : Bool) : biF .isInt [.bl i] = some (.bl true) := rfl
@[simp] theorem isI_non : biF .isInt [.non] = some (.bl false) := rfl
@[simp] theorem isI_str (x : Str) : biF .isInt [.str x] = some (.bl false) := rfl
@[simp] theorem isI_tup (x : List D) : biF .isInt [.tup x] = some (.bl false) := rfl
@[simp] theorem isI_lst (x : List D) : biF .isInt [.lst x] = some (.bl false) := rfl
@[simp] theorem isB_bl (i : Bool) : biF .isBool [.bl i] = some (.bl true) := rfl
@[simp] theorem isB_int (i : Int) : biF .isBool [.int i] = some (.bl false) := rfl
@[simp] theorem isB_non : biF .isBool [.non] = some (.bl false) := rfl
@[simp] theorem isB_str (x : Str) : biF .isBool [.str x] = some (.bl false) := rfl
@[simp] theorem isB_tup (x : List D) : biF .isBool [.tup x] = some (.bl false) := rfl
@[simp] theorem isB_lst (x : List D) : biF .isBool [.lst x] = some (.bl false) := rfl
@[simp] theorem isT_tup (x : List D) : biF .isTup [.tup x] = some (.bl true) := rfl
@[simp] theorem isT_int (i : Int) : biF .isTup [.int i] = some (.bl false) := rfl
@[simp] theorem isT_bl (i : Bool) : biF .isTup [.bl i] = some (.bl false) := rfl
@[simp] theorem isT_non : biF .isTup [.non] = some (.bl false) := rfl
@[simp] theorem isT_str (x : Str) : biF .isTup [.str x] = some (.bl false) := rfl
@[simp] theorem isT_lst (x : List D) : biF .isTup [.lst x] = some (.bl false) := rfl
@[simp] theorem isS_str (x : Str) : biF .isStr [.str x] = some (.bl true) := rfl
@[simp] theorem isS_int (i : Int) : biF .isStr [.int i] = some (.bl false) := rfl
@[simp] theorem isS_bl (i : Bool) : biF .isStr [.bl i] = some (.bl false) := rfl
@[simp] theorem isS_non : biF .isStr [.non] = some (.bl false) := rfl
@[simp] theorem isS_tup (x : List D) : biF .isStr [.tup x] = some (.bl false) := rfl
@[simp] theorem isS_lst (x : List D) : biF .isStr [.lst x] = some (.bl false) := rfl
@[simp] theorem listof_lst (x : List D) : listofF (.lst x) = some x := rfl
@[simp] theorem listof_tup (x : List D) : listofF (.tup x) = some x := rfl
@[simp] theorem slc_lst (l h : Option Int) (x : List D) : slcF l h (.lst x) = some (cutD x l h) := rfl
@[simp] theorem slc_scr (l h : Option Int) (x : List Int) : slcF l h (.scr x) = some (cutD (x.map D.int) l h) := rfl
@[simp] theorem seqD_lst (x : List D) : seqD (.lst x) = some x := rfl
@[simp] theorem seqD_tup (x : List D) : seqD (.tup x) = some x := rfl
@[simp] theorem mtOk_lst (x : List D) : mtOk .index (.lst x) = true := rfl
@[simp] theorem mtOk_int (i : Int) : mtOk .bits (.int i) = true := rfl
@[simp] theorem mt_bits (i : Int) : mtF .bits (.int i) [] = some (.int (Builtin.Int.intBits i : Nat)) := rfl
@[simp] theorem lstD_lst (x : List D) : lstD (.lst x) = some x := rfl
@[simp] theorem asInt_int (i : Int) : (D.int i).asInt = some i := rfl
end

/-! ### slots -/
def Sl.asV : Sl → Option D
  | .val d => some d
  | _ => none
def Sl.asO : Sl → Option (List D)
  | .own d => some d
  | _ => none
@[simp] theorem asV_val (d : D) : (Sl.val d).asV = some d := rfl
@[simp] theorem asV_own (d : List D) : (Sl.own d).asV = none := rfl
@[simp] theorem asV_no : (Sl.no).asV = none := rfl
@[simp] theorem asO_val (d : D) : (Sl.val d).asO = none := rfl
@[simp] theorem asO_own (d : List D) : (Sl.own d).asO = some d := rfl
@[simp] theorem asO_no : (Sl.no).asO = none := rfl
def getV : List Sl → Nat → Option D
  | [], _ => none
  | s :: _, 0 => s.asV
  | _ :: r, n + 1 => getV r n
def getO : List Sl → Nat → Option (List D)
  | [], _ => none
  | s :: _, 0 => s.asO
  | _ :: r, n + 1 => getO r n
theorem getV_at {env : List Sl} {i : Nat} {d : D} (h : getV env i = some d) : env[i]? = some (.val d) := by
  induction env generalizing i with
  | nil => cases i <;> cases h
  | cons s r ih =>
    cases i with
    | zero =>
      have h' : s.asV = some d := h
      cases s with
      | no => cases h'
      | val e =>
        cases h'
        rfl
      | own e => cases h'
    | succ n => simpa using ih (i := n) h
theorem getO_at {env : List Sl} {i : Nat} {d : List D} (h : getO env i = some d) : env[i]? = some (.own d) := by
  induction env generalizing i with
  | nil => cases i <;> cases h
  | cons s r ih =>
    cases i with
    | zero =>
      have h' : s.asO = some d := h
      cases s with
      | no => cases h'
      | val e => cases h'
      | own e =>
        cases h'
        rfl
    | succ n => simpa using ih (i := n) h
/-- an operand: a list of one's own may stand there -/
def opr (a : E) (env : List Sl) (m : Mem) (r : R D) : R D := match a with
  | .own i => R.of ((getO env i).map D.lst) m
  | _ => r
def wipeE (env : List Sl) : List Nat → List Sl
  | [] => env
  | i :: r => (wipeE env r).set i .no
mutual
def bindT : Tg → D → List Sl → Option (List Sl)
  | .nm i, d, env => if i < env.length then some (env.set i (.val d)) else none
  | .tup ts, .tup xs, env => bindTs ts xs env
  | .tup ts, .lst xs, env => bindTs ts xs env
  | .tup _, _, _ => none
def bindTs : Tgs → List D → List Sl → Option (List Sl)
  | .nil, [], env => some env
  | .cons t r, x :: xs, env => (bindT t x env).bind fun env1 => bindTs r xs env1
  | _, _, _ => none
end
/-- a comprehension's turns -/
def compL (f : D → Mem → R (Option D)) : List D → Mem → R (List D)
  | [], m => .ok [] m
  | x :: xs, m => (f x m).bind fun o m1 => (compL f xs m1).bind fun ys m2 => .ok (match o with
    | some y => y :: ys
    | none => ys) m2

/-- exceptions don't leave a comprehension -/
def R.hold {α : Type} : R α → R α
  | .exc _ _ => .stk
  | r => r

abbrev Call := Nat → List D → Mem → R D
/-- one turn of a comprehension -/
def compW (ft : List Sl → Mem → R Bool) (fe : List Sl → Mem → R D) (tg : Tg) (env : List Sl) (x : D) (m : Mem) : R (Option D) := match bindT tg x env with
  | some env1 => (ft env1 m).hold.bind fun k m3 => if k then (fe env1 m3).hold.bind fun y m4 => .ok (some y) m4 else .ok none m3
  | none => .stk
mutual
def evE (C : Call) : E → List Sl → Mem → R D
  | .var i, env, m => R.of (getV env i) m
  | .cn c, _, m => .ok (cnF c) m
  | .own _, _, _ => .stk
  | .glob _ i, _, m => .ok (.int i) m
  | .tup es, env, m => (evEs C es env m).bind fun xs m1 => .ok (.tup xs) m1
  | .fr f, env, m => (evF C f env m).bind fun xs m1 => .ok (.lst xs) m1
  | .newo f, env, m => (evF C f env m).bind fun xs m1 => .ok (.obj m1.length) (m1 ++ [.lst xs])
  | .bin op a b, env, m => (opr a env m (evE C a env m)).bind fun x m1 => (opr b env m1 (evE C b env m1)).bind fun y m2 => R.of (binF op x y) m2
  | .neg a, env, m => (evE C a env m).bind fun x m1 => R.of (x.asInt.map fun i => .int (-i)) m1
  | .notv a, env, m => (evE C a env m).bind fun x m1 => R.of (match x with
    | .bl b => some (.bl (!b))
    | _ => none) m1
  | .cmp op a b, env, m => (opr a env m (evE C a env m)).bind fun x m1 => (opr b env m1 (evE C b env m1)).bind fun y m2 => R.of ((cmpF op x y).map D.bl) m2
  | .isN a, env, m => (evE C a env m).bind fun x m1 => .ok (.bl (match x with
    | .non => true
    | _ => false)) m1
  | .notN a, env, m => (evE C a env m).bind fun x m1 => .ok (.bl (match x with
    | .non => false
    | _ => true)) m1
  | .chain o1 o2 a b c, env, m => (evE C a env m).bind fun x m1 => (evE C b env m1).bind fun y m2 => match cmpF o1 x y with
    | some true => (evE C c env m2).bind fun z m3 => R.of ((cmpF o2 y z).map D.bl) m3
    | some false => .ok (.bl false) m2
    | none => .stk
  | .andv a b, env, m => (evE C a env m).bind fun x m1 => match x with
    | .bl true => evE C b env m1
    | .bl false => .ok (.bl false) m1
    | _ => .stk
  | .orv a b, env, m => (evE C a env m).bind fun x m1 => match x with
    | .bl false => evE C b env m1
    | .bl true => .ok (.bl true) m1
    | _ => .stk
  | .one a, env, m => evE C a env m
  | .ife t a b, env, m => (evT C t env m).bind fun k m1 => if k then evE C a env m1 else evE C b env m1
  | .idx a i, env, m => (opr a env m (evE C a env m)).bind fun x m1 => (evE C i env m1).bind fun y m2 => R.of (idxF x y) m2
  | .slt a lo hi, env, m => (evE C a env m).bind fun x m1 => (evO C lo env m1).bind fun l m2 => (evO C hi env m2).bind fun h m3 => R.of (sltF l h x) m3
  | .revt a, env, m => (evE C a env m).bind fun x m1 => R.of (revtF x) m1
  | .call f es, env, m => (evEs C es env m).bind fun xs m1 => C f xs m1
  | .callk f perm es ks, env, m => (evEs C es env m).bind fun xs m1 => (evEs C ks env m1).bind fun ys m2 => C f (perm.map fun j => (xs ++ ys).getD j .non) m2
  | .bi b es, env, m => (evAs C es env m).bind fun xs m1 => R.of (biF b xs) m1
  | .mt k o es, env, m => (opr o env m (evE C o env m)).bind fun x m1 => if mtOk k x then (evEs C es env m1).bind fun xs m2 => R.of (mtF k x xs) m2 else .stk
  | .oidx a i, env, m => (evE C a env m).bind fun x m1 => (evE C i env m1).bind fun y m2 => match objL m2 x, y with
    | some (_, xs), .int i => R.of (L2.atI xs i) m2
    | _, _ => .stk
  | .oeqn a, env, m => (evE C a env m).bind fun x m1 => match objL m1 x with
    | some (_, xs) => if xs.all D.flat then .ok (.bl xs.isEmpty) m1 else .stk
    | none => .stk
  | .opop a, env, m => (evE C a env m).bind fun x m1 => match objL m1 x with
    | some (n, xs) => match xs[xs.length - 1]? with
      | some y => .ok y (m1.set n (.lst xs.dropLast))
      | none => .stk
    | none => .stk
  | .tuprng lo hi, env, m => (evO C lo env m).bind fun l m1 => (evE C hi env m1).bind fun y m2 => match y with
    | .int j => if rngOk (l.getD 0) j then .ok (.tup (intsR (l.getD 0) (j - l.getD 0).toNat)) m2 else .stk
    | _ => .stk
def evT (C : Call) : T → List Sl → Mem → R Bool
  | .tru, _, m => .ok true m
  | .ex a, env, m => (opr a env m (evE C a env m)).bind fun x m1 => R.of (truF x) m1
  | .nt t, env, m => (evT C t env m).bind fun k m1 => .ok (!k) m1
  | .tand t u, env, m => (evT C t env m).bind fun k m1 => if k then evT C u env m1 else .ok false m1
  | .tor t u, env, m => (evT C t env m).bind fun k m1 => if k then .ok true m1 else evT C u env m1
  | .t1 t, env, m => evT C t env m
  | .cmp a, env, m => (evE C a env m).bind fun x m1 => R.of (match x with
    | .bl b => some b
    | _ => none) m1
def evEs (C : Call) : Es → List Sl → Mem → R (List D)
  | .nil, _, m => .ok [] m
  | .cons a r, env, m => (evE C a env m).bind fun x m1 => (evEs C r env m1).bind fun xs m2 => .ok (x :: xs) m2
/-- operands -/
def evAs (C : Call) : Es → List Sl → Mem → R (List D)
  | .nil, _, m => .ok [] m
  | .cons a r, env, m => (opr a env m (evE C a env m)).bind fun x m1 => (evAs C r env m1).bind fun xs m2 => .ok (x :: xs) m2
def evO (C : Call) : Oe → List Sl → Mem → R (Option Int)
  | .no, _, m => .ok none m
  | .so a, env, m => (evE C a env m).bind fun x m1 => R.of (x.asInt.map some) m1
def evF (C : Call) : Fr → List Sl → Mem → R (List D)
  | .lst es, env, m => evEs C es env m
  | .comp vs tg s c e, env, m => (evR C s env m).bind fun xs m1 =>
      compL (compW (evT C c) (evE C e) tg (wipeE env vs)) xs m1
  | .listof a, env, m => (opr a env m (evE C a env m)).bind fun x m1 => R.of (listofF x) m1
  | .cat a b, env, m => (opr a env m (evE C a env m)).bind fun x m1 => (opr b env m1 (evE C b env m1)).bind fun y m2 => match x, y with
    | .lst xs, .lst ys => if xs.length + ys.length ≤ sizeLine then .ok (xs ++ ys) m2 else .stk
    | _, _ => .stk
  | .rep a b, env, m => (opr a env m (evE C a env m)).bind fun x m1 => (evE C b env m1).bind fun y m2 => match x, y with
    | .lst xs, .int k => if xs.length ≤ 1000 ∧ -1000 ≤ k ∧ k ≤ 1000 then .ok (List.replicate k.toNat xs).flatten m2 else .stk
    | _, _ => .stk
  | .slc a lo hi, env, m => (opr a env m (evE C a env m)).bind fun x m1 => (evO C lo env m1).bind fun l m2 => (evO C hi env m2).bind fun h m3 => R.of (slcF l h x) m3
  | .lrev a, env, m => (opr a env m (evE C a env m)).bind fun x m1 => R.of ((lstD x).map List.reverse) m1
  | .lrng lo hi, env, m => (evO C lo env m).bind fun l m1 => (evE C hi env m1).bind fun y m2 => match y with
    | .int j => if rngOk (l.getD 0) j then .ok (intsR (l.getD 0) (j - l.getD 0).toNat) m2 else .stk
    | _ => .stk
  | .sorted a, env, m => (opr a env m (evE C a env m)).bind fun x m1 => R.of (sortedF x) m1
def evR (C : Call) : Src → List Sl → Mem → R (List D)
  | .ex a, env, m => (opr a env m (evE C a env m)).bind fun x m1 => R.of (seqD x) m1
  | .rng1 a, env, m => (evE C a env m).bind fun x m1 => match x with
    | .int j => if rngOk 0 j then .ok (intsR 0 j.toNat) m1 else .stk
    | _ => .stk
  | .rng2 a b, env, m => (evE C a env m).bind fun x m1 => (evE C b env m1).bind fun y m2 => match x, y with
    | .int i, .int j => if rngOk i j then .ok (intsR i (j - i).toNat) m2 else .stk
    | _, _ => .stk
  | .rng3 a b c, env, m => (evE C a env m).bind fun x m1 => (evE C b env m1).bind fun y m2 => (evE C c env m2).bind fun z m3 => match x, y, z with
    | .int i, .int j, .int c => if rngOk i j && (decide (0 < c) && decide (c ≤ 1000000)) then .ok ((List.range ((j - i + c - 1) / c).toNat).map fun k => D.int (i + (k : Nat) * c)) m3 else .stk
    | _, _, _ => .stk
  | .enm a, env, m => (opr a env m (evE C a env m)).bind fun x m1 => R.of ((seqD x).map enumR) m1
  | .zip a b, env, m => (opr a env m (evE C a env m)).bind fun x m1 => (opr b env m1 (evE C b env m1)).bind fun y m2 => match x, y with
    | .lst xs, .lst ys => .ok (pairsR xs ys) m2
    | .tup xs, .tup ys => .ok (pairsR xs ys) m2
    | _, _ => .stk
  | .rev a, env, m => (opr a env m (evE C a env m)).bind fun x m1 => R.of ((seqD x).map List.reverse) m1
end

/-! ### statements -/
inductive SR where
  | nxt (env : List Sl) (m : Mem) | ret (d : D) (m : Mem) | brk (env : List Sl) (m : Mem) | cnt (env : List Sl) (m : Mem) | exc (x : Exn) (env : List Sl) (m : Mem) | stk
def R.thn {α : Type} (r : R α) (env : List Sl) (f : α → Mem → SR) : SR := match r with
  | .ok a m => f a m
  | .exc x m => .exc x env m
  | .stk => .stk
@[simp] theorem R.thn_ok {α : Type} (a : α) (m : Mem) (env : List Sl) (f : α → Mem → SR) : (R.ok a m).thn env f = f a m := rfl
@[simp] theorem R.thn_exc {α : Type} (x : Exn) (m : Mem) (env : List Sl) (f : α → Mem → SR) : (R.exc x m : R α).thn env f = .exc x env m := rfl
@[simp] theorem R.thn_stk {α : Type} (env : List Sl) (f : α → Mem → SR) : (R.stk : R α).thn env f = .stk := rfl
def SR.seq : SR → (List Sl → Mem → SR) → SR
  | .nxt env m, f => f env m
  | r, _ => r
def SR.ofEnv (o : Option (List Sl)) (m : Mem) : SR := match o with
  | some env => .nxt env m
  | none => .stk
/-- one turn of a for -/
def forW (fb : List Sl → Mem → SR) (tg : Tg) (x : D) (env : List Sl) (m : Mem) : SR := match bindT tg x env with
  | some env2 => fb env2 m
  | none => .stk
/-- the turns of a for -/
def forL (f : D → List Sl → Mem → SR) : List D → List Sl → Mem → SR
  | [], env, m => .nxt env m
  | x :: xs, env, m => match f x env m with
    | .nxt env1 m1 => forL f xs env1 m1
    | .cnt env1 m1 => forL f xs env1 m1
    | .brk env1 m1 => .nxt env1 m1
    | r => r
def whlL (t : List Sl → Mem → R Bool) (f : List Sl → Mem → SR) : Nat → List Sl → Mem → SR
  | 0, _, _ => .stk
  | n + 1, env, m => (t env m).thn env fun k m1 => if k then (match f env m1 with
    | .nxt env1 m2 => whlL t f n env1 m2
    | .cnt env1 m2 => whlL t f n env1 m2
    | .brk env1 m2 => .nxt env1 m2
    | r => r) else .nxt env m1
/-- both sides written: what is to be stored, from the left -/
def evIn (C : Call) : List (Nat × Init) → List Sl → Mem → R (List (Nat × Sl))
  | [], _, m => .ok [] m
  | (i, .val e) :: r, env, m => (evE C e env m).bind fun d m1 => (evIn C r env m1).bind fun l m2 => .ok ((i, .val d) :: l) m2
  | (i, .own f) :: r, env, m => (evF C f env m).bind fun d m1 => (evIn C r env m1).bind fun l m2 => .ok ((i, .own d) :: l) m2
def storeE : List (Nat × Sl) → List Sl → List Sl
  | [], env => env
  | (i, s) :: r, env => storeE r (env.set i s)
mutual
def evS (C : Call) : S → List Sl → Mem → SR
  | .asg tg e, env, m => (evE C e env m).thn env fun d m1 => SR.ofEnv (bindT tg d env) m1
  | .seto i f, env, m => (evF C f env m).thn env fun xs m1 => if i < env.length then .nxt (env.set i (.own xs)) m1 else .stk
  | .par ls, env, m => (evIn C ls env m).thn env fun l m1 => .nxt (storeE l env) m1
  | .app i e, env, m => match getO env i with
    | some xs => if xs.length < sizeLine then (evE C e env m).thn env fun d m1 => .nxt (env.set i (.own (xs ++ [d]))) m1 else .stk
    | none => .stk
  | .ext i e, env, m => match getO env i with
    | some xs => (opr e env m (evE C e env m)).thn env fun d m1 => match d with
      | .lst ys => if xs.length + ys.length ≤ sizeLine then .nxt (env.set i (.own (xs ++ ys))) m1 else .stk
      | _ => .stk
    | none => .stk
  | .seti i k e, env, m => (evE C e env m).thn env fun d m1 => (evE C k env m1).thn env fun y m2 => match getO env i, y with
    | some xs, .int j => match L2.ixN xs.length j with
      | some n => .nxt (env.set i (.own (xs.set n d))) m2
      | none => .stk
    | _, _ => .stk
  | .popd i, env, m => match getO env i with
    | some xs => if xs = [] then .stk else .nxt (env.set i (.own xs.dropLast)) m
    | none => .stk
  | .popto j i, env, m => match getO env i with
    | some xs => match xs[xs.length - 1]? with
      | some y => if j < env.length ∧ j ≠ i then .nxt ((env.set i (.own xs.dropLast)).set j (.val y)) m else .stk
      | none => .stk
    | none => .stk
  | .oset a k e, env, m => (evE C e env m).thn env fun d m1 => (evE C a env m1).thn env fun x m2 => (evE C k env m2).thn env fun y m3 => match objL m3 x, y with
    | some (n, xs), .int j => match L2.ixN xs.length j with
      | some q => .nxt env (m3.set n (.lst (xs.set q d)))
      | none => .stk
    | _, _ => .stk
  | .ex e, env, m => (evE C e env m).thn env fun _ m1 => .nxt env m1
  | .ret e, env, m => (evE C e env m).thn env fun d m1 => .ret d m1
  | .retn, _, m => .ret .non m
  | .ifs t a b, env, m => (evT C t env m).thn env fun k m1 => if k then evSs C a env m1 else evSs C b env m1
  | .fors tg s b, env, m => (evR C s env m).thn env fun xs m1 => forL (forW (evSs C b) tg) xs env m1
  | .whl n t b, env, m => whlL (evT C t) (evSs C b) n env m
  | .brk, env, m => .brk env m
  | .cnt, env, m => .cnt env m
  | .pas, env, m => .nxt env m
  | .rai c es, env, m => (evEs C es env m).thn env fun xs m1 => .exc ⟨c, xs.head?⟩ env m1
  | .tryas b c i h, env, m => match evSs C b env m with
    | .exc x env1 m1 => .stk
    | r => r
def evSs (C : Call) : Ss → List Sl → Mem → SR
  | .nil, env, m => .nxt env m
  | .cons s r, env, m => (evS C s env m).seq fun env1 m1 => evSs C r env1 m1
  | .frz i r, env, m => match getO env i with
    | some xs => evSs C r (env.set i (.val (.lst xs))) m
    | none => .stk
end

/-! ### defs -/
structure FR where
  /-- how many parameters, how many slots -/
  ar : Nat
  sz : Nat
  body : Ss
def startE (fr : FR) (ds : List D) : List Sl := ds.map Sl.val ++ List.replicate (fr.sz - ds.length) Sl.no
def SR.fin : SR → R D
  | .nxt _ m => .ok .non m
  | .ret d m => .ok d m
  | .exc x _ m => .exc x m
  | _ => .stk
def callF (Tb : List FR) : Nat → Call
  | 0, _, _, _ => .stk
  | n + 1, f, ds, m => match Tb[f]? with
    | some fr => if ds.length = fr.ar then (evSs (callF Tb n) fr.body (startE fr ds) m).fin else .stk
    | none => .stk

/-! ### equations for simp -/
@[simp] theorem opr_var (i : Nat) (env : List Sl) (m : Mem) (r : R D) : opr (.var i) env m r = r := rfl
@[simp] theorem opr_cn (c : Cn) (env : List Sl) (m : Mem) (r : R D) : opr (.cn c) env m r = r := rfl
@[simp] theorem opr_glob (x : Str) (j : Int) (env : List Sl) (m : Mem) (r : R D) : opr (.glob x j) env m r = r := rfl
@[simp] theorem opr_tup (es : Es) (env : List Sl) (m : Mem) (r : R D) : opr (.tup es) env m r = r := rfl
@[simp] theorem opr_fr (f : Fr) (env : List Sl) (m : Mem) (r : R D) : opr (.fr f) env m r = r := rfl
@[simp] theorem opr_newo (f : Fr) (env : List Sl) (m : Mem) (r : R D) : opr (.newo f) env m r = r := rfl
@[simp] theorem opr_bin (op : Bop) (a : E) (b : E) (env : List Sl) (m : Mem) (r : R D) : opr (.bin op a b) env m r = r := rfl
@[simp] theorem opr_neg (a : E) (env : List Sl) (m : Mem) (r : R D) : opr (.neg a) env m r = r := rfl
@[simp] theorem opr_notv (a : E) (env : List Sl) (m : Mem) (r : R D) : opr (.notv a) env m r = r := rfl
@[simp] theorem opr_cmp (op : Cop) (a : E) (b : E) (env : List Sl) (m : Mem) (r : R D) : opr (.cmp op a b) env m r = r := rfl
@[simp] theorem opr_isN (a : E) (env : List Sl) (m : Mem) (r : R D) : opr (.isN a) env m r = r := rfl
@[simp] theorem opr_notN (a : E) (env : List Sl) (m : Mem) (r : R D) : opr (.notN a) env m r = r := rfl
@[simp] theorem opr_chain (o1 : Cop) (o2 : Cop) (a : E) (b : E) (c : E) (env : List Sl) (m : Mem) (r : R D) : opr (.chain o1 o2 a b c) env m r = r := rfl
@[simp] theorem opr_andv (a : E) (b : E) (env : List Sl) (m : Mem) (r : R D) : opr (.andv a b) env m r = r := rfl
@[simp] theorem opr_orv (a : E) (b : E) (env : List Sl) (m : Mem) (r : R D) : opr (.orv a b) env m r = r := rfl
@[simp] theorem opr_one (a : E) (env : List Sl) (m : Mem) (r : R D) : opr (.one a) env m r = r := rfl
@[simp] theorem opr_ife (t : T) (a : E) (b : E) (env : List Sl) (m : Mem) (r : R D) : opr (.ife t a b) env m r = r := rfl
@[simp] theorem opr_idx (a : E) (i : E) (env : List Sl) (m : Mem) (r : R D) : opr (.idx a i) env m r = r := rfl
@[simp] theorem opr_slt (a : E) (lo : Oe) (hi : Oe) (env : List Sl) (m : Mem) (r : R D) : opr (.slt a lo hi) env m r = r := rfl
@[simp] theorem opr_revt (a : E) (env : List Sl) (m : Mem) (r : R D) : opr (.revt a) env m r = r := rfl
@[simp] theorem opr_call (k : Nat) (es : Es) (env : List Sl) (m : Mem) (r : R D) : opr (.call k es) env m r = r := rfl
@[simp] theorem opr_callk (k : Nat) (p : List Nat) (es ks : Es) (env : List Sl) (m : Mem) (r : R D) : opr (.callk k p es ks) env m r = r := rfl
@[simp] theorem opr_bi (b : Bi) (es : Es) (env : List Sl) (m : Mem) (r : R D) : opr (.bi b es) env m r = r := rfl
@[simp] theorem opr_mt (k : Mt) (a : E) (es : Es) (env : List Sl) (m : Mem) (r : R D) : opr (.mt k a es) env m r = r := rfl
@[simp] theorem opr_oidx (a : E) (i : E) (env : List Sl) (m : Mem) (r : R D) : opr (.oidx a i) env m r = r := rfl
@[simp] theorem opr_oeqn (a : E) (env : List Sl) (m : Mem) (r : R D) : opr (.oeqn a) env m r = r := rfl
@[simp] theorem opr_opop (a : E) (env : List Sl) (m : Mem) (r : R D) : opr (.opop a) env m r = r := rfl
@[simp] theorem opr_tuprng (lo : Oe) (hi : E) (env : List Sl) (m : Mem) (r : R D) : opr (.tuprng lo hi) env m r = r := rfl
@[simp] theorem opr_own (i : Nat) (env : List Sl) (m : Mem) (r : R D) : opr (.own i) env m r = R.of ((getO env i).map D.lst) m := rfl
@[simp] theorem hold_ok {α : Type} (a : α) (m : Mem) : (R.ok a m).hold = R.ok a m := rfl
@[simp] theorem hold_exc {α : Type} (x : Exn) (m : Mem) : (R.exc x m : R α).hold = R.stk := rfl
@[simp] theorem hold_stk {α : Type} : (R.stk : R α).hold = R.stk := rfl
@[simp] theorem seq_nxt (env : List Sl) (m : Mem) (f : List Sl → Mem → SR) : (SR.nxt env m).seq f = f env m := rfl
@[simp] theorem seq_ret (d : D) (m : Mem) (f : List Sl → Mem → SR) : (SR.ret d m).seq f = .ret d m := rfl
@[simp] theorem seq_brk (env : List Sl) (m : Mem) (f : List Sl → Mem → SR) : (SR.brk env m).seq f = .brk env m := rfl
@[simp] theorem seq_cnt (env : List Sl) (m : Mem) (f : List Sl → Mem → SR) : (SR.cnt env m).seq f = .cnt env m := rfl
@[simp] theorem seq_exc (x : Exn) (env : List Sl) (m : Mem) (f : List Sl → Mem → SR) : (SR.exc x env m).seq f = .exc x env m := rfl
@[simp] theorem seq_stk (f : List Sl → Mem → SR) : (SR.stk).seq f = .stk := rfl
@[simp] theorem fin_nxt (env : List Sl) (m : Mem) : (SR.nxt env m).fin = .ok .non m := rfl
@[simp] theorem fin_ret (d : D) (m : Mem) : (SR.ret d m).fin = .ok d m := rfl
@[simp] theorem fin_exc (x : Exn) (env : List Sl) (m : Mem) : (SR.exc x env m).fin = .exc x m := rfl
@[simp] theorem fin_stk : (SR.stk).fin = .stk := rfl
@[simp] theorem ofEnv_some (env : List Sl) (m : Mem) : SR.ofEnv (some env) m = .nxt env m := rfl
@[simp] theorem ofEnv_none (m : Mem) : SR.ofEnv none m = .stk := rfl
@[simp] theorem startE_mk (fr : FR) (ds : List D) : startE fr ds = ds.map Sl.val ++ List.replicate (fr.sz - ds.length) Sl.no := rfl
@[simp] theorem forL_nil (f : D → List Sl → Mem → SR) (env : List Sl) (m : Mem) : forL f [] env m = .nxt env m := rfl
@[simp] theorem compL_nil (f : D → Mem → R (Option D)) (m : Mem) : compL f [] m = .ok [] m := rfl
@[simp] theorem getV_e1 : type_of% @getV.eq_1 := @getV.eq_1
@[simp] theorem getV_e2 : type_of% @getV.eq_2 := @getV.eq_2
@[simp] theorem getV_e3 : type_of% @getV.eq_3 := @getV.eq_3
@[simp] theorem getO_e1 : type_of% @getO.eq_1 := @getO.eq_1
@[simp] theorem getO_e2 : type_of% @getO.eq_2 := @getO.eq_2
@[simp] theorem getO_e3 : type_of% @getO.eq_3 := @getO.eq_3
@[simp] theorem cnF_e1 : type_of% @cnF.eq_1 := @cnF.eq_1
@[simp] theorem cnF_e2 : type_of% @cnF.eq_2 := @cnF.eq_2
@[simp] theorem cnF_e3 : type_of% @cnF.eq_3 := @cnF.eq_3
@[simp] theorem cnF_e4 : type_of% @cnF.eq_4 := @cnF.eq_4
@[simp] theorem wipeE_e1 : type_of% @wipeE.eq_1 := @wipeE.eq_1
@[simp] theorem wipeE_e2 : type_of% @wipeE.eq_2 := @wipeE.eq_2
@[simp] theorem bindT_e1 : type_of% @bindT.eq_1 := @bindT.eq_1
@[simp] theorem bindT_e2 : type_of% @bindT.eq_2 := @bindT.eq_2
@[simp] theorem bindT_e3 : type_of% @bindT.eq_3 := @bindT.eq_3
@[simp] theorem bindTs_e1 : type_of% @bindTs.eq_1 := @bindTs.eq_1
@[simp] theorem bindTs_e2 : type_of% @bindTs.eq_2 := @bindTs.eq_2
@[simp] theorem evIn_e1 : type_of% @evIn.eq_1 := @evIn.eq_1
@[simp] theorem evIn_e2 : type_of% @evIn.eq_2 := @evIn.eq_2
@[simp] theorem evIn_e3 : type_of% @evIn.eq_3 := @evIn.eq_3
@[simp] theorem storeE_e1 : type_of% @storeE.eq_1 := @storeE.eq_1
@[simp] theorem storeE_e2 : type_of% @storeE.eq_2 := @storeE.eq_2
@[simp] theorem evE_e1 : type_of% @evE.eq_1 := @evE.eq_1
@[simp] theorem evE_e2 : type_of% @evE.eq_2 := @evE.eq_2
@[simp] theorem evE_e3 : type_of% @evE.eq_3 := @evE.eq_3
@[simp] theorem evE_e4 : type_of% @evE.eq_4 := @evE.eq_4
@[simp] theorem evE_e5 : type_of% @evE.eq_5 := @evE.eq_5
@[simp] theorem evE_e6 : type_of% @evE.eq_6 := @evE.eq_6
@[simp] theorem evE_e7 : type_of% @evE.eq_7 := @evE.eq_7
@[simp] theorem evE_e8 : type_of% @evE.eq_8 := @evE.eq_8
@[simp] theorem evE_e9 : type_of% @evE.eq_9 := @evE.eq_9
@[simp] theorem evE_e10 : type_of% @evE.eq_10 := @evE.eq_10
@[simp] theorem evE_e11 : type_of% @evE.eq_11 := @evE.eq_11
@[simp] theorem evE_e12 : type_of% @evE.eq_12 := @evE.eq_12
@[simp] theorem evE_e13 : type_of% @evE.eq_13 := @evE.eq_13
@[simp] theorem evE_e14 : type_of% @evE.eq_14 := @evE.eq_14
@[simp] theorem evE_e15 : type_of% @evE.eq_15 := @evE.eq_15
@[simp] theorem evE_e16 : type_of% @evE.eq_16 := @evE.eq_16
@[simp] theorem evE_e17 : type_of% @evE.eq_17 := @evE.eq_17
@[simp] theorem evE_e18 : type_of% @evE.eq_18 := @evE.eq_18
@[simp] theorem evE_e19 : type_of% @evE.eq_19 := @evE.eq_19
@[simp] theorem evE_e20 : type_of% @evE.eq_20 := @evE.eq_20
@[simp] theorem evE_e21 : type_of% @evE.eq_21 := @evE.eq_21
@[simp] theorem evE_e22 : type_of% @evE.eq_22 := @evE.eq_22
@[simp] theorem evE_e23 : type_of% @evE.eq_23 := @evE.eq_23
@[simp] theorem evE_e24 : type_of% @evE.eq_24 := @evE.eq_24
@[simp] theorem evE_e25 : type_of% @evE.eq_25 := @evE.eq_25
@[simp] theorem evE_e26 : type_of% @evE.eq_26 := @evE.eq_26
@[simp] theorem evE_e27 : type_of% @evE.eq_27 := @evE.eq_27
@[simp] theorem evE_e28 : type_of% @evE.eq_28 := @evE.eq_28
@[simp] theorem evE_e29 : type_of% @evE.eq_29 := @evE.eq_29
@[simp] theorem evT_e1 : type_of% @evT.eq_1 := @evT.eq_1
@[simp] theorem evT_e2 : type_of% @evT.eq_2 := @evT.eq_2
@[simp] theorem evT_e3 : type_of% @evT.eq_3 := @evT.eq_3
@[simp] theorem evT_e4 : type_of% @evT.eq_4 := @evT.eq_4
@[simp] theorem evT_e5 : type_of% @evT.eq_5 := @evT.eq_5
@[simp] theorem evT_e6 : type_of% @evT.eq_6 := @evT.eq_6
@[simp] theorem evT_e7 : type_of% @evT.eq_7 := @evT.eq_7
@[simp] theorem evEs_e1 : type_of% @evEs.eq_1 := @evEs.eq_1
@[simp] theorem evEs_e2 : type_of% @evEs.eq_2 := @evEs.eq_2
@[simp] theorem evAs_e1 : type_of% @evAs.eq_1 := @evAs.eq_1
@[simp] theorem evAs_e2 : type_of% @evAs.eq_2 := @evAs.eq_2
@[simp] theorem evO_e1 : type_of% @evO.eq_1 := @evO.eq_1
@[simp] theorem evO_e2 : type_of% @evO.eq_2 := @evO.eq_2
@[simp] theorem evF_e1 : type_of% @evF.eq_1 := @evF.eq_1
@[simp] theorem evF_e2 : type_of% @evF.eq_2 := @evF.eq_2
@[simp] theorem evF_e3 : type_of% @evF.eq_3 := @evF.eq_3
@[simp] theorem evF_e4 : type_of% @evF.eq_4 := @evF.eq_4
@[simp] theorem evF_e5 : type_of% @evF.eq_5 := @evF.eq_5
@[simp] theorem evF_e6 : type_of% @evF.eq_6 := @evF.eq_6
@[simp] theorem evF_e7 : type_of% @evF.eq_7 := @evF.eq_7
@[simp] theorem evF_e8 : type_of% @evF.eq_8 := @evF.eq_8
@[simp] theorem evF_e9 : type_of% @evF.eq_9 := @evF.eq_9
@[simp] theorem evR_e1 : type_of% @evR.eq_1 := @evR.eq_1
@[simp] theorem evR_e2 : type_of% @evR.eq_2 := @evR.eq_2
@[simp] theorem evR_e3 : type_of% @evR.eq_3 := @evR.eq_3
@[simp] theorem evR_e4 : type_of% @evR.eq_4 := @evR.eq_4
@[simp] theorem evR_e5 : type_of% @evR.eq_5 := @evR.eq_5
@[simp] theorem evR_e6 : type_of% @evR.eq_6 := @evR.eq_6
@[simp] theorem evR_e7 : type_of% @evR.eq_7 := @evR.eq_7
@[simp] theorem evS_e1 : type_of% @evS.eq_1 := @evS.eq_1
@[simp] theorem evS_e2 : type_of% @evS.eq_2 := @evS.eq_2
@[simp] theorem evS_e3 : type_of% @evS.eq_3 := @evS.eq_3
@[simp] theorem evS_e4 : type_of% @evS.eq_4 := @evS.eq_4
@[simp] theorem evS_e5 : type_of% @evS.eq_5 := @evS.eq_5
@[simp] theorem evS_e6 : type_of% @evS.eq_6 := @evS.eq_6
@[simp] theorem evS_e7 : type_of% @evS.eq_7 := @evS.eq_7
@[simp] theorem evS_e8 : type_of% @evS.eq_8 := @evS.eq_8
@[simp] theorem evS_e9 : type_of% @evS.eq_9 := @evS.eq_9
@[simp] theorem evS_e10 : type_of% @evS.eq_10 := @evS.eq_10
@[simp] theorem evS_e11 : type_of% @evS.eq_11 := @evS.eq_11
@[simp] theorem evS_e12 : type_of% @evS.eq_12 := @evS.eq_12
@[simp] theorem evS_e13 : type_of% @evS.eq_13 := @evS.eq_13
@[simp] theorem evS_e14 : type_of% @evS.eq_14 := @evS.eq_14
@[simp] theorem evS_e15 : type_of% @evS.eq_15 := @evS.eq_15
@[simp] theorem evS_e16 : type_of% @evS.eq_16 := @evS.eq_16
@[simp] theorem evS_e17 : type_of% @evS.eq_17 := @evS.eq_17
@[simp] theorem evS_e18 : type_of% @evS.eq_18 := @evS.eq_18
@[simp] theorem evS_e19 : type_of% @evS.eq_19 := @evS.eq_19
@[simp] theorem evSs_e1 : type_of% @evSs.eq_1 := @evSs.eq_1
@[simp] theorem evSs_e2 : type_of% @evSs.eq_2 := @evSs.eq_2
@[simp] theorem evSs_e3 : type_of% @evSs.eq_3 := @evSs.eq_3
end PF

set_option Elab.async false
set_option linter.all false
set_option maxRecDepth 100000
set_option maxHeartbeats 4000000
/-! PFc: the operations keep what the hand layer's rules ask. -/
namespace PF
open PySem PySem.Spec PyProof.Rows L2

section
variable {K : PySem.W.Frag} {T : XI} {g : G} {m : Mem} {W : XK} {x y z : D} {v u : V} {Q : VK}
theorem RA.rd (h : RD K g.r g.F x v) : RA K g x v := .inl h
theorem RA.tup {xs : List D} (h : RA K g (.tup xs) v) : ∃ a vs, v = .ref a ∧ g.F a = some (.tup vs) ∧ RDs K g.r g.F xs vs := by
  rcases h with h | ⟨_, _, _, e, _⟩
  · cases h with
    | tup h1 h2 => exact ⟨_, _, rfl, h1, h2⟩
  · cases e
theorem RA.lst {xs : List D} (hr : HR K m g) (h : RA K g (.lst xs) v) : ∃ a vs, v = .ref a ∧ g.H a = some (.lst vs) ∧ a ∉ g.r ∧ RDs K g.r g.F xs vs := by
  rcases h with h | ⟨p, vs, ys, e, h1, h2, h3, h4⟩
  · cases h with
    | lst h1 h2 => exact ⟨_, _, rfl, hr.sub _ _ h1, hr.nof h1, h2⟩
  · cases e
    exact ⟨p, vs, h1, h2, h3, h4⟩
theorem RA.int {i : Int} (h : RA K g (.int i) v) : v = .int i := by
  rcases h with h | ⟨_, _, _, e, _⟩
  · cases h
    rfl
  · cases e
theorem RA.bl {i : Bool} (h : RA K g (.bl i) v) : v = .bl i := by
  rcases h with h | ⟨_, _, _, e, _⟩
  · cases h
    rfl
  · cases e
theorem RA.non (h : RA K g .non v) : v = .non := by
  rcases h with h | ⟨_, _, _, e, _⟩
  · cases h
    rfl
  · cases e
theorem RA.str {i : Str} (h : RA K g (.str i) v) : v = .str i ∧ PySem.PyData.strOk i = true := by
  rcases h with h | ⟨_, _, _, e, _⟩
  · cases h with
    | str _ h => exact ⟨rfl, h⟩
  · cases e
theorem RA.obj {n : Nat} (h : RA K g (.obj n) v) : ∃ a, v = .ref a ∧ g.r[n]? = some a := by
  rcases h with h | ⟨_, _, _, e, _⟩
  · cases h with
    | obj h => exact ⟨_, rfl, h⟩
  · cases e
theorem RA.scr {ns : List Int} (h : RA K g (.scr ns) v) : ∃ a, v = .ref a ∧ SqL K g.F a (ns.map V.int) := by
  rcases h with h | ⟨_, _, _, e, _⟩
  · cases h with
    | scr h => exact ⟨_, rfl, h⟩
  · cases e
/-- not a list: the value stays -/
theorem RA.stay (h : RA K g x v) (n : ∀ xs, x ≠ .lst xs) : RD K g.r g.F x v := by
  rcases h with h | ⟨_, _, xs, e, _⟩
  · exact h
  · exact absurd e (n xs)
theorem subL (hr : HR K m g) {a : Addr} {vs : List V} (h : SqL K g.F a vs) : SqL K g.H a vs := sql_mono (fun b o q => hr.sub b o q) h

/-- what stands in the answer: now, or behind a new thing -/
theorem Post.val {α β : Type} {Rel : G → α → β → Prop} {a : α} {b : β} {Q : β → Hp → Prop} (p : Post K T Rel (.ok a m) g Q W) (hr : HR K m g) (r : Rel g a b) : Q b g.H := p b g (Ex.refl g) hr r
theorem Post.tup {xs : List D} {vs : List V} {q : Addr} (p : Post K T (RDg K) (.ok (.tup xs) m) g Q W) (hr : HR K m g) (hq : g.H q = none) (r : RDs K g.r g.F xs vs) : Q (.ref q) (upd g.H q (.tup vs)) :=
  p (.ref q) (g.newF q (.tup vs)) (Ex.newF hr hq) (hr.newF hq) (RD.newTup hr hq r)
theorem Post.lst {xs : List D} {vs : List V} {q : Addr} (p : Post K T (RDg K) (.ok (.lst xs) m) g Q W) (hr : HR K m g) (hq : g.H q = none) (r : RDs K g.r g.F xs vs) : Q (.ref q) (upd g.H q (.lst vs)) :=
  p (.ref q) (g.newF q (.lst vs)) (Ex.newF hr hq) (hr.newF hq) (RD.newLst hr hq r)
theorem Post.nls {g0 : G} {xs : List D} {vs : List V} {q : Addr} (e0 : Ex g0 g) (p : Post K T (RF K g0) (.ok xs m) g Q W) (hr : HR K m g) (hq : g.H q = none) (r : RDs K g.r g.F xs vs) : Q (.ref q) (upd g.H q (.lst vs)) :=
  p (.ref q) (g.newU q (.lst vs)) (Ex.newU hq) (hr.newU hq) (RF.back e0 (RF.new hr hq r))
end

/-! ### two-place operators -/
def Bop.py : Bop → Operator
  | .add => .Add
  | .sub => .Sub
  | .mul => .Mult
  | .fdiv => .FloorDiv
  | .mod => .Mod
  | .pow => .Pow
  | .shl => .LShift
  | .shr => .RShift
  | .band => .BitAnd
/-- t * 1: itself -/
def rRepT1 (K : PySem.W.Frag) : R2 := fun x y H Q => ∃ l xs, x = .ref l ∧ y = .int 1 ∧ SqT K H l xs ∧ Q (.ref l) H
section
open PySem.AutoSeq1 (wpAny_loadPart')
theorem tuple_mul1 (l : Addr) (items : Array Value) (n : Nat) (dd : Option Addr) (sl : Array (Option Value)) (u : Tok) :
    Meets (Builtin.«tuple.__mul__» ⟨[.ref l, .int 1 u], []⟩) (fun _ R s => s.heap.get? l = some { cls := .type "tuple", dict := dd, data := .seq items n, slots := sl } ∧ R (.ok (.ret (.ref l))) s) :=
  .of_wp fun prog w A R s hh => by
    obtain ⟨hp, gs, dr, tk, os⟩ := s
    obtain ⟨hl, hh⟩ := hh
    have c1 : (items.isEmpty || (1 : Int) == 1) = true := by simp
    wp_walk using wpAny_loadPart' hl
    all_goals first
      | exact hh
      | (refine wpAny_ite_false (decide_eq_false (by decide)) ?_; wp_walk using wpAny_loadPart' hl; exact ⟨_, rfl, hh⟩)
      | exact ⟨_, rfl, hh⟩
end

section
variable {X : Cx}
theorem op_rep1 : OpR X (binaryOp .Mult) (rRepT1 X.K) := by
  intro pins s σ H x y v u Q I rx ry hh
  obtain ⟨l, xs, rfl, rfl, hT, q⟩ := hh
  cases rx
  obtain ⟨t, rfl⟩ := ry
  obtain ⟨its, r, ⟨⟨cls, dd, data, sl⟩, ho, hc, n, hd⟩, hs⟩ := I.tuple hT
  simp only at hc hd
  subst hc hd
  refine wpAny_binaryOp_repeat_ref (T := "tuple") (U := "int") (by decide) ⟨_, ho, rfl⟩ (fun s' => typeIs_int s' 1 t) noFill_tuple_mul F.fills_int_mul F.slot_int_rmul repeat_tuple F.slot_int_index.lookup
    (call_meets F.slot_int_rmul (typeIs_int s 1 t) F.entry_int_rmul (F.args_int_rmul_2 _ _) (int_rmul_tuple 1 t l its.toArray n dd sl)
      ⟨ho, rfl, ⟨_, ho, rfl⟩, call_meets F.slot_tuple_mul ⟨_, ho, rfl⟩ F.entry_tuple_mul (F.args_tuple_mul_2 _ _) (tuple_mul1 l its.toArray n dd sl t) ⟨ho, ?_⟩⟩)
  exact ⟨.ref l, H, I, rfl, q⟩
/-- (x,) * 0 -/
def rRepT0 (K : PySem.W.Frag) : R2 := fun x y H Q => ∃ l xs, x = .ref l ∧ y = .int 0 ∧ SqT K H l xs ∧ xs ≠ [] ∧ ∀ p, H p = none → Q (.ref p) (upd H p (.tup []))
section
open PySem.AutoSeq1 (wpAny_loadPart')
theorem tuple_mul0 (l : Addr) (items : Array Value) (n : Nat) (dd : Option Addr) (sl : Array (Option Value)) (u : Tok) (he : items.isEmpty = false) :
    Meets (Builtin.«tuple.__mul__» ⟨[.ref l, .int 0 u], []⟩) (fun _ R s => s.heap.get? l = some { cls := .type "tuple", dict := dd, data := .seq items n, slots := sl } ∧
      R (.ok (.ret (Value.ref s.heap.objs.size))) { s with heap := s.heap.push { cls := Value.type "tuple", data := Data.seq #[] }, toks := s.toks }) :=
  .of_wp fun prog w A R s hh => by
    obtain ⟨hp, gs, dr, tk, os⟩ := s
    obtain ⟨hl, hh⟩ := hh
    have c1 : (items.isEmpty || (0 : Int) == 1) = false := by rw [he]; rfl
    have c2 : (decide ((0 : Int) ≤ 0) || items.isEmpty) = true := by simp
    wp_walk using wpAny_loadPart' hl
    repeat (first
      | exact hh
      | exact ⟨_, rfl, hh⟩
      | (refine wpAny_ite_false (decide_eq_false (by decide)) ?_; wp_walk using wpAny_loadPart' hl)
      | (refine wpAny_ite_false (decide_eq_false (by rw [c1]; exact Bool.false_ne_true)) ?_; wp_walk using wpAny_loadPart' hl)
      | (refine wpAny_ite_true (decide_eq_true c2) ?_; wp_walk using wpAny_loadPart' hl))
    all_goals trace_state
end
section
variable {X : Cx}
theorem op_rep0 : OpR X (binaryOp .Mult) (rRepT0 X.K) := by
  intro pins s σ H x y v u Q I rx ry hh
  obtain ⟨l, xs, rfl, rfl, hT, hne, q⟩ := hh
  cases rx
  obtain ⟨t, rfl⟩ := ry
  obtain ⟨its, r, ⟨⟨cls, dd, data, sl⟩, ho, hc, n, hd⟩, hs⟩ := I.tuple hT
  simp only at hc hd
  subst hc hd
  have hle : its.length = xs.length := r.length.symm
  have hi : its.toArray.isEmpty = false := by
    cases its with
    | nil =>
      cases xs with
      | nil => exact absurd rfl hne
      | cons _ _ => cases hle
    | cons a b => rfl
  refine wpAny_binaryOp_repeat_ref (T := "tuple") (U := "int") (by decide) ⟨_, ho, rfl⟩ (fun s' => typeIs_int s' 0 t) noFill_tuple_mul F.fills_int_mul F.slot_int_rmul repeat_tuple F.slot_int_index.lookup
    (call_meets F.slot_int_rmul (typeIs_int s 0 t) F.entry_int_rmul (F.args_int_rmul_2 _ _) (int_rmul_tuple 0 t l its.toArray n dd sl)
      ⟨ho, rfl, ⟨_, ho, rfl⟩, call_meets F.slot_tuple_mul ⟨_, ho, rfl⟩ F.entry_tuple_mul (F.args_tuple_mul_2 _ _) (tuple_mul0 l its.toArray n dd sl t hi) ⟨ho, ?_⟩⟩)
  refine ⟨.ref s.heap.objs.size, upd H s.heap.objs.size (.tup []), I.laid (t' := s.toks) (fun b o e => Heap.get?_push_of_some _ e) (Nat.le_refl _) ⟨Nat.zero_le _, [], .nil, IsTup.new _ _⟩, rfl, q _ (I.hok.fresh (Nat.le_refl _))⟩
end
/-- a divisor of at most 10 ^ 70 -/
def CDivB (i j : Int) : Prop := 0 < j ∧ j ≤ 10 ^ 70
section
variable {X : Cx}
theorem op_fdivB : OpR X (binaryOp .FloorDiv) (rI CDivB fun i j => .int (i / j)) := opI fun i j _ _ _ _ _ hc q => by
  have h1 : (0 : Int) < j := hc.1
  have h2 : j ≤ 10 ^ 70 := hc.2
  refine floordiv_int (by omega) (by rw [Int.fdiv_eq_ediv_of_nonneg i (by omega)]; exact q) (.inl (PyProof.noPylong_of_log2 ?_))
  have h0 : j.natAbs ≠ 0 := by omega
  have h3 : j.natAbs < 2 ^ 250 := by
    have e1 : (10 : Int) ^ 70 < 2 ^ 250 := by decide
    omega
  have h4 := (Nat.log2_lt h0).mpr h3
  omega
end
def rBin (K : PySem.W.Frag) : Bop → R2
  | .add => fun x y H Q => rI0 (fun i j => .int (i + j)) x y H Q ∨ (∃ i j, x = .str i ∧ y = .str j ∧ i.length + j.length ≤ sizeLine ∧ Q (.str (i ++ j)) H) ∨ rCatA K x y H Q
  | .sub => rI0 fun i j => .int (i - j)
  | .mul => fun x y H Q => rI CMul (fun i j => .int (i * j)) x y H Q ∨ rRepT K x y H Q ∨ rRepT1 K x y H Q ∨ rRepT0 K x y H Q
  | .fdiv => rI CDivB fun i j => .int (i / j)
  | .mod => rI (fun _ j => 0 < j) fun i j => .int (i % j)
  | .pow => rI CPow fun i j => .int (i ^ j.toNat)
  | .shl => rI CPow fun i j => .int (i * 2 ^ j.toNat)
  | .shr => rI (fun _ j => 0 ≤ j) fun i j => .int (i / 2 ^ j.toNat)
  | .band => rI0 fun i j => .int (Builtin.bitAnd i j)
theorem op_bin (op : Bop) : OpR X (binaryOp op.py) (rBin X.K op) := by
  cases op with
  | add => exact op_add.or (op_add_str.or op_catA)
  | sub => exact op_sub
  | mul => exact op_mul.or (op_repT.or (op_rep1.or op_rep0))
  | fdiv => exact op_fdivB
  | mod => exact op_mod
  | pow => exact op_pow
  | shl => exact op_shl
  | shr => exact op_shr
  | band => exact op_and
end
theorem strOk_append {x y : Str} (h1 : PySem.PyData.strOk x = true) (h2 : PySem.PyData.strOk y = true) : PySem.PyData.strOk (x ++ y) = true := by
  unfold PySem.PyData.strOk at *
  show (x.cps ++ y.cps).all _ = true
  rw [Array.all_append, h1, h2]
  rfl
theorem mulOk_c {i j : Int} (h : mulOk i j = true) : CMul i j := by
  unfold mulOk at h
  simp only [Bool.or_eq_true, Bool.and_eq_true, decide_eq_true_eq] at h
  exact h
section
variable {K : PySem.W.Frag} {T : XI} {g : G} {m : Mem} {W : XK} {x y : D} {v u : V} {Q : VK}
theorem bin_sound {op : Bop} (hr : HR K m g) (hx : RA K g x v) (hy : RA K g y u) (p : Post K T (RDg K) (R.of (binF op x y) m) g Q W) : rBin K op v u g.H Q := by
  cases op
  case add =>
    cases x <;> cases y <;> first | exact p.elim | skip
    case int.int i j =>
      obtain rfl := hx.int
      obtain rfl := hy.int
      exact .inl ⟨i, j, rfl, rfl, p.val hr (.int _)⟩
    case str.str a b =>
      obtain ⟨rfl, h1⟩ := hx.str
      obtain ⟨rfl, h2⟩ := hy.str
      rw [bin_addS] at p
      split at p
      · rename_i hl
        exact .inr (.inl ⟨a, b, rfl, rfl, hl, p.val hr (.str _ (strOk_append h1 h2))⟩)
      · exact p.elim
    case tup.tup xs ys =>
      obtain ⟨a, vs, rfl, h1, h2⟩ := hx.tup
      obtain ⟨b, us, rfl, k1, k2⟩ := hy.tup
      rw [bin_addT] at p
      split at p
      · rename_i hl
        refine .inr (.inr ⟨a, b, vs, us, rfl, rfl, SqT.of (hr.sub _ _ h1), SqT.of (hr.sub _ _ k1), by rw [← h2.length, ← k2.length]; exact hl, fun e => ?_, fun _ e => ?_, fun _ _ q hq => p.tup hr hq (h2.append k2)⟩)
        · refine p.val hr ?_
          subst e
          cases h2
          exact .tup k1 k2
        · refine p.val hr ?_
          subst e
          cases k2
          rw [List.append_nil]
          exact .tup h1 h2
      · exact p.elim
  case sub =>
    cases x <;> cases y <;> first | exact p.elim | skip
    case int.int i j =>
      obtain rfl := hx.int
      obtain rfl := hy.int
      exact ⟨i, j, rfl, rfl, p.val hr (.int _)⟩
  case mul =>
    cases x <;> cases y <;> first | exact p.elim | skip
    case int.int i j =>
      obtain rfl := hx.int
      obtain rfl := hy.int
      rw [bin_mul] at p
      split at p
      · rename_i hl
        exact .inl ⟨i, j, rfl, rfl, mulOk_c hl, p.val hr (.int _)⟩
      · exact p.elim
    case tup.int xs k =>
      obtain ⟨a, vs, rfl, h1, h2⟩ := hx.tup
      obtain rfl := hy.int
      rw [bin_mulT] at p
      split at p
      · rename_i hl
        obtain ⟨l1, l2, l3⟩ := hl
        have hv : vs.length = 1 := by rw [← h2.length]; exact l1
        by_cases e : k = 1
        · subst e
          refine .inr (.inr (.inl ⟨a, vs, rfl, rfl, SqT.of (hr.sub _ _ h1), p.val hr ?_⟩))
          have z : (List.replicate (1 : Int).toNat xs).flatten = xs := by
            show (List.replicate 1 xs).flatten = xs
            simp [List.replicate]
          rw [z]
          exact .tup h1 h2
        · by_cases e0 : k = 0
          · subst e0
            refine .inr (.inr (.inr ⟨a, vs, rfl, rfl, SqT.of (hr.sub _ _ h1), (fun z => by rw [z] at hv; cases hv), fun q hq => ?_⟩))
            exact p.tup hr hq .nil
          exact .inr (.inl ⟨a, k, vs, rfl, rfl, SqT.of (hr.sub _ _ h1), (fun z => by rw [z] at hv; cases hv), (by omega), l3, by omega, fun q hq => p.tup hr hq (h2.rep _)⟩)
      · exact p.elim
  case fdiv =>
    cases x <;> cases y <;> first | exact p.elim | skip
    case int.int i j =>
      obtain rfl := hx.int
      obtain rfl := hy.int
      rw [bin_fdiv] at p
      split at p
      · rename_i hl
        exact ⟨i, j, rfl, rfl, hl, p.val hr (.int _)⟩
      · exact p.elim
  case mod =>
    cases x <;> cases y <;> first | exact p.elim | skip
    case int.int i j =>
      obtain rfl := hx.int
      obtain rfl := hy.int
      rw [bin_mod] at p
      split at p
      · rename_i hl
        exact ⟨i, j, rfl, rfl, hl, p.val hr (.int _)⟩
      · exact p.elim
  case pow =>
    cases x <;> cases y <;> first | exact p.elim | skip
    case int.int i j =>
      obtain rfl := hx.int
      obtain rfl := hy.int
      rw [bin_pow] at p
      split at p
      · rename_i hl
        exact ⟨i, j, rfl, rfl, hl, p.val hr (.int _)⟩
      · exact p.elim
  case shl =>
    cases x <;> cases y <;> first | exact p.elim | skip
    case int.int i j =>
      obtain rfl := hx.int
      obtain rfl := hy.int
      rw [bin_shl] at p
      split at p
      · rename_i hl
        exact ⟨i, j, rfl, rfl, hl, p.val hr (.int _)⟩
      · exact p.elim
  case shr =>
    cases x <;> cases y <;> first | exact p.elim | skip
    case int.int i j =>
      obtain rfl := hx.int
      obtain rfl := hy.int
      rw [bin_shr] at p
      split at p
      · rename_i hl
        exact ⟨i, j, rfl, rfl, hl, p.val hr (.int _)⟩
      · exact p.elim
  case band =>
    cases x <;> cases y <;> first | exact p.elim | skip
    case int.int i j =>
      obtain rfl := hx.int
      obtain rfl := hy.int
      exact ⟨i, j, rfl, rfl, p.val hr (.int _)⟩
end

/-! ### data of the library -/
section
variable {K : PySem.W.Frag} {ρ : List Addr} {F H : Hp}
mutual
theorem RD.dp (hs : Same F H) : ∀ {d : D} {v : V}, d.pure = true → RD K ρ F d v → Dp K H v d.toPy
  | _, _, _, .non => .non
  | _, _, _, .bl b => .bl b
  | _, _, _, .int i => .int i
  | _, _, _, .str x h => .str x
  | .tup ds, _, hp, .tup h h2 => .tup (SqT.of (hs _ _ h)) (RDs.dp hs (by simpa [D.pure] using hp) h2)
  | .lst ds, _, hp, .lst h h2 => .lst (SqL.of (hs _ _ h)) (RDs.dp hs (by simpa [D.pure] using hp) h2)
  | _, _, hp, .obj h => by simp [D.pure] at hp
  | _, _, hp, .scr h => by simp [D.pure] at hp
theorem RDs.dp (hs : Same F H) : ∀ {d : List D} {v : List V}, D.pures d = true → RDs K ρ F d v → DpAll K H v (D.toPys d)
  | _, _, _, .nil => .nil
  | _, _, hp, .cons h h2 => by
    simp only [D.pures, Bool.and_eq_true] at hp
    exact .cons (RD.dp hs hp.1 h) (RDs.dp hs hp.2 h2)
end
mutual
theorem RD.can : ∀ {d : D} {v : V}, d.pure = true → RD K ρ F d v → d.toPy.canLay0 = true
  | _, _, _, .non => rfl
  | _, _, _, .bl b => rfl
  | _, _, _, .int i => rfl
  | _, _, _, .str x h => by
    rw [D.toPy, PySem.PyData.canLay0]
    exact h
  | .tup ds, _, hp, .tup h h2 => by
    rw [D.toPy, PySem.PyData.canLay0]
    exact RDs.can (by simpa [D.pure] using hp) h2
  | .lst ds, _, hp, .lst h h2 => by
    rw [D.toPy, PySem.PyData.canLay0]
    exact RDs.can (by simpa [D.pure] using hp) h2
  | _, _, hp, .obj h => by simp [D.pure] at hp
  | _, _, hp, .scr h => by simp [D.pure] at hp
theorem RDs.can : ∀ {d : List D} {v : List V}, D.pures d = true → RDs K ρ F d v → PySem.PyData.canLayAll0 (D.toPys d) = true
  | _, _, _, .nil => rfl
  | _, _, hp, .cons h h2 => by
    simp only [D.pures, Bool.and_eq_true] at hp
    rw [D.toPys, PySem.PyData.canLayAll0, RD.can hp.1 h, RDs.can hp.2 h2]
    rfl
end
end
mutual
theorem toPy_depth : ∀ d : D, d.toPy.depth = d.dep
  | .non => rfl
  | .bl b => rfl
  | .int i => rfl
  | .str x => rfl
  | .tup xs => by
    rw [D.toPy, PySem.PyData.depth, toPys_depth xs, D.dep]
  | .lst xs => by
    rw [D.toPy, PySem.PyData.depth, toPys_depth xs, D.dep]
  | .obj _ => rfl
  | .scr _ => rfl
theorem toPys_depth : ∀ d : List D, PySem.PyData.depthAll (D.toPys d) = D.deps d
  | [] => rfl
  | x :: xs => by
    rw [D.toPys, PySem.PyData.depthAll, toPy_depth x, toPys_depth xs, D.deps]
end
mutual
theorem toPy_eqv : ∀ d e : D, d.pure = true → e.pure = true → PyData.eqv d.toPy e.toPy = d.beq e
  | .non, e, _, _ => by cases e <;> simp_all [D.toPy, D.beq, PyData.eqv, D.pure]
  | .bl b, e, _, _ => by cases e <;> simp_all [D.toPy, D.beq, PyData.eqv, D.pure]
  | .int i, e, _, _ => by cases e <;> simp_all [D.toPy, D.beq, PyData.eqv, D.pure]
  | .str x, e, _, _ => by cases e <;> simp_all [D.toPy, D.beq, PyData.eqv, D.pure]
  | .tup xs, e, h1, h2 => by
    cases e with
    | tup ys =>
      rw [D.toPy, D.toPy, PyData.eqv, D.beq]
      exact toPys_eqv xs ys (by simpa [D.pure] using h1) (by simpa [D.pure] using h2)
    | _ => simp_all [D.toPy, D.beq, PyData.eqv, D.pure]
  | .lst xs, e, h1, h2 => by
    cases e with
    | lst ys =>
      rw [D.toPy, D.toPy, PyData.eqv, D.beq]
      exact toPys_eqv xs ys (by simpa [D.pure] using h1) (by simpa [D.pure] using h2)
    | _ => simp_all [D.toPy, D.beq, PyData.eqv, D.pure]
  | .obj _, e, h, _ => by simp [D.pure] at h
  | .scr _, e, h, _ => by simp [D.pure] at h
theorem toPys_eqv : ∀ d e : List D, D.pures d = true → D.pures e = true → PyData.eqvAll (D.toPys d) (D.toPys e) = D.beqs d e
  | [], e, _, _ => by cases e <;> simp [D.toPys, D.beqs, PyData.eqvAll]
  | x :: xs, e, h1, h2 => by
    cases e with
    | nil => simp [D.toPys, D.beqs, PyData.eqvAll]
    | cons y ys =>
      simp only [D.pures, Bool.and_eq_true] at h1 h2
      rw [D.toPys, D.toPys, PyData.eqvAll, D.beqs, toPy_eqv x y h1.1 h2.1, toPys_eqv xs ys h1.2 h2.2]
end

/-! ### comparisons -/
def Cop.py : Cop → CmpOp
  | .eq => .Eq
  | .ne => .NotEq
  | .lt => .Lt
  | .le => .LtE
  | .gt => .Gt
  | .ge => .GtE
  | .isin => .In
  | .notin => .NotIn
/-- == of data, one of them at most 64 deep -/
def rEqM (K : PySem.W.Frag) (neg : Bool) : R2 := fun x y H Q => ∃ d e, Dp K H x d ∧ Dp K H y e ∧ d.canLay0 = true ∧ e.canLay0 = true ∧ min d.depth e.depth ≤ 64 ∧ Q (.bl (if neg then !PyData.eqv d e else PyData.eqv d e)) H
section
variable {X : Cx}
theorem op_eqM (hu : X.A.units + 64 < cLine) : OpR X (compareOp .Eq) (rEqM X.K false) := by
  intro pins s σ H x y v u Q I rx ry hh
  obtain ⟨d, e, hd, he, sd, se, hm, q⟩ := hh
  obtain ⟨as, r1⟩ := Dp.reads I d x v hd rx
  obtain ⟨bs, r2⟩ := Dp.reads I e y u he ry
  exact SeqAt.compareEq_reads r1 r2 sd se (by omega) ⟨.bl _, H, I, rfl, q⟩
theorem op_neM (hu : X.A.units + 64 < cLine) : OpR X (compareOp .NotEq) (rEqM X.K true) := by
  intro pins s σ H x y v u Q I rx ry hh
  obtain ⟨d, e, hd, he, sd, se, hm, q⟩ := hh
  obtain ⟨as, r1⟩ := Dp.reads I d x v hd rx
  obtain ⟨bs, r2⟩ := Dp.reads I e y u he ry
  exact SeqAt.compareNe_reads r1 r2 sd se (by omega) ⟨.bl _, H, I, rfl, q⟩
def rCmp (K : PySem.W.Frag) : Cop → R2
  | .eq => rEqM K false
  | .ne => rEqM K true
  | .lt => fun x y H Q => rI0 (fun i j => .bl (decide (i < j))) x y H Q ∨ rLtT K x y H Q
  | .le => rI0 fun i j => .bl (decide (i ≤ j))
  | .gt => rI0 fun i j => .bl (decide (j < i))
  | .ge => rI0 fun i j => .bl (decide (j ≤ i))
  | .isin => rIn K false
  | .notin => rIn K true
theorem op_cmp {k : Nat} (hr : Room k X.A) (op : Cop) : OpR X (compareOp op.py) (rCmp X.K op) := by
  cases op with
  | eq => exact op_eqM hr.units
  | ne => exact op_neM hr.units
  | lt => exact op_lt.or (op_ltT hr.units0)
  | le => exact op_le
  | gt => exact op_gt
  | ge => exact op_ge
  | isin => exact op_in_seq
  | notin => exact op_notIn_seq
end
section
variable {K : PySem.W.Frag} {T : XI} {g : G} {m : Mem} {W : XK} {x y : D} {v u : V} {Q : VK}
theorem RA.dp (hr : HR K m g) (hp : x.pure = true) (h : RA K g x v) : Dp K g.H v x.toPy := by
  rcases h with h | ⟨p, vs, xs, e, h1, h2, h3, h4⟩
  · exact h.dp (fun b o q => hr.sub b o q) hp
  · subst e h1
    exact .lst (SqL.of h2) (RDs.dp (fun b o q => hr.sub b o q) (by simpa [D.pure] using hp) h4)
theorem RA.can (hp : x.pure = true) (h : RA K g x v) : x.toPy.canLay0 = true := by
  rcases h with h | ⟨p, vs, xs, e, h1, h2, h3, h4⟩
  · exact h.can hp
  · subst e
    rw [D.toPy, PySem.PyData.canLay0]
    exact RDs.can (by simpa [D.pure] using hp) h4
theorem RD.flatV {ρ : List Addr} {F : Hp} (h : RD K ρ F x v) (f : x.flat = true) : flatV v = true := by
  cases h <;> first | rfl | (simp [D.flat] at f)
theorem RDs.flatV {ρ : List Addr} {F : Hp} : ∀ {xs : List D} {vs : List V}, RDs K ρ F xs vs → xs.all D.flat = true → vs.all L2.flatV = true
  | _, _, .nil, _ => rfl
  | _, _, .cons h hs, f => by
    simp only [List.all_cons, Bool.and_eq_true] at f ⊢
    exact ⟨h.flatV f.1, RDs.flatV hs f.2⟩
theorem RD.eqV {ρ : List Addr} {F : Hp} (h : RD K ρ F x v) (k : RD K ρ F y u) (f : x.flat = true) (f2 : y.flat = true) : eqV v u = D.beq x y := by
  cases h <;> first | (simp [D.flat] at f; done) | skip
  all_goals (cases k <;> first | rfl | (simp [D.flat] at f2; done) | simp [L2.eqV, D.beq])
theorem RDs.anyV {ρ : List Addr} {F : Hp} (k : RD K ρ F y u) (f2 : y.flat = true) : ∀ {xs : List D} {vs : List V}, RDs K ρ F xs vs → xs.all D.flat = true → inV u vs = xs.any fun x => D.beq x y
  | _, _, .nil, _ => rfl
  | _, _, .cons h hs, f => by
    simp only [List.all_cons, Bool.and_eq_true] at f
    unfold inV
    rw [List.any_cons, List.any_cons, h.eqV k f.1 f2]
    have z := RDs.anyV k f2 hs f.2
    unfold inV at z
    rw [z]
theorem flat_stay (h : RA K g x v) (f : x.flat = true) : RD K g.r g.F x v := h.stay fun xs e => by
  rw [e] at f
  cases f
theorem cmp_sound {op : Cop} (hr : HR K m g) (hx : RA K g x v) (hy : RA K g y u) (p : Post K T (RDg K) (R.of ((cmpF op x y).map D.bl) m) g Q W) : rCmp K op v u g.H Q := by
  cases op
  case eq =>
    rw [cmp_eq] at p
    split at p
    · rename_i e
      unfold eqOk at e
      simp only [Bool.and_eq_true, decide_eq_true_eq] at e
      refine ⟨_, _, hx.dp hr e.1.1, hy.dp hr e.1.2, hx.can e.1.1, hy.can e.1.2, by rw [toPy_depth, toPy_depth]; exact e.2, ?_⟩
      rw [toPy_eqv _ _ e.1.1 e.1.2]
      exact p.val hr (.bl _)
    · exact p.elim
  case ne =>
    rw [cmp_ne] at p
    split at p
    · rename_i e
      unfold eqOk at e
      simp only [Bool.and_eq_true, decide_eq_true_eq] at e
      refine ⟨_, _, hx.dp hr e.1.1, hy.dp hr e.1.2, hx.can e.1.1, hy.can e.1.2, by rw [toPy_depth, toPy_depth]; exact e.2, ?_⟩
      rw [toPy_eqv _ _ e.1.1 e.1.2]
      exact p.val hr (.bl _)
    · exact p.elim
  case lt =>
    cases x <;> cases y <;> first | exact p.elim | skip
    case int.int i j =>
      obtain rfl := hx.int
      obtain rfl := hy.int
      exact .inl ⟨i, j, rfl, rfl, p.val hr (.bl _)⟩
    case tup.tup xs ys =>
      obtain ⟨a, vs, rfl, h1, h2⟩ := hx.tup
      obtain ⟨b, us, rfl, k1, k2⟩ := hy.tup
      cases e1 : D.asInts xs with
      | none =>
        simp only [cmpF, e1] at p
        exact p.elim
      | some ns =>
        cases e2 : D.asInts ys with
        | none =>
          simp only [cmpF, e1, e2] at p
          exact p.elim
        | some ms =>
          simp only [cmpF, e1, e2] at p
          have d1 := D.asInts_eq e1
          have d2 := D.asInts_eq e2
          subst d1 d2
          obtain rfl := h2.ints_of
          obtain rfl := k2.ints_of
          exact .inr ⟨a, b, ns, ms, rfl, rfl, SqT.of (hr.sub _ _ h1), SqT.of (hr.sub _ _ k1), p.val hr (.bl _)⟩
  case le =>
    cases x <;> cases y <;> first | exact p.elim | skip
    case int.int i j =>
      obtain rfl := hx.int
      obtain rfl := hy.int
      exact ⟨i, j, rfl, rfl, p.val hr (.bl _)⟩
  case gt =>
    cases x <;> cases y <;> first | exact p.elim | skip
    case int.int i j =>
      obtain rfl := hx.int
      obtain rfl := hy.int
      exact ⟨i, j, rfl, rfl, p.val hr (.bl _)⟩
  case ge =>
    cases x <;> cases y <;> first | exact p.elim | skip
    case int.int i j =>
      obtain rfl := hx.int
      obtain rfl := hy.int
      exact ⟨i, j, rfl, rfl, p.val hr (.bl _)⟩
  case isin =>
    have key : ∀ ys : List D, (∃ q vs, u = .ref q ∧ (SqL K g.H q vs ∨ SqT K g.H q vs) ∧ RDs K g.r g.F ys vs) → Post K T (RDg K) (R.of ((if (x.flat && ys.all D.flat) = true then some (ys.any fun y => D.beq y x) else none).map D.bl) m) g Q W → rIn K false v u g.H Q := fun ys ⟨q, vs, e, h1, h2⟩ p => by
      split at p
      · rename_i f
        rw [Bool.and_eq_true] at f
        have hx' := flat_stay hx f.1
        refine ⟨q, vs, e, h1, hx'.flatV f.1, h2.flatV f.2, ?_⟩
        rw [if_neg Bool.false_ne_true, RDs.anyV hx' f.1 h2 f.2]
        exact p.val hr (.bl _)
      · exact p.elim
    cases y
    case non => cases x <;> exact p.elim
    case bl => cases x <;> exact p.elim
    case int => cases x <;> exact p.elim
    case str => cases x <;> exact p.elim
    case obj => cases x <;> exact p.elim
    case scr => cases x <;> exact p.elim
    case tup ys =>
      obtain ⟨b, us, rfl, k1, k2⟩ := hy.tup
      exact key ys ⟨b, us, rfl, .inr (SqT.of (hr.sub _ _ k1)), k2⟩ (by cases x <;> exact p)
    case lst ys =>
      obtain ⟨b, us, rfl, k1, _, k2⟩ := hy.lst hr
      exact key ys ⟨b, us, rfl, .inl (SqL.of k1), k2⟩ (by cases x <;> exact p)
  case notin =>
    have key : ∀ ys : List D, (∃ q vs, u = .ref q ∧ (SqL K g.H q vs ∨ SqT K g.H q vs) ∧ RDs K g.r g.F ys vs) → Post K T (RDg K) (R.of ((if (x.flat && ys.all D.flat) = true then some (!ys.any fun y => D.beq y x) else none).map D.bl) m) g Q W → rIn K true v u g.H Q := fun ys ⟨q, vs, e, h1, h2⟩ p => by
      split at p
      · rename_i f
        rw [Bool.and_eq_true] at f
        have hx' := flat_stay hx f.1
        refine ⟨q, vs, e, h1, hx'.flatV f.1, h2.flatV f.2, ?_⟩
        rw [if_pos rfl, RDs.anyV hx' f.1 h2 f.2]
        exact p.val hr (.bl _)
      · exact p.elim
    cases y
    case non => cases x <;> exact p.elim
    case bl => cases x <;> exact p.elim
    case int => cases x <;> exact p.elim
    case str => cases x <;> exact p.elim
    case obj => cases x <;> exact p.elim
    case scr => cases x <;> exact p.elim
    case tup ys =>
      obtain ⟨b, us, rfl, k1, k2⟩ := hy.tup
      exact key ys ⟨b, us, rfl, .inr (SqT.of (hr.sub _ _ k1)), k2⟩ (by cases x <;> exact p)
    case lst ys =>
      obtain ⟨b, us, rfl, k1, _, k2⟩ := hy.lst hr
      exact key ys ⟨b, us, rfl, .inl (SqL.of k1), k2⟩ (by cases x <;> exact p)
/-! ### truth, items, slices -/
theorem tru_sound {k : Bool} (hr : HR K m g) (hx : RA K g x v) (e : truF x = some k) : TruV K v g.H k := by
  cases x <;> first | (cases e; done) | skip
  case non =>
    cases e
    rw [hx.non]
    rfl
  case bl b =>
    cases e
    rw [hx.bl]
    rfl
  case int i =>
    cases e
    rw [hx.int]
    rfl
  case tup xs =>
    cases e
    obtain ⟨a, vs, rfl, h1, h2⟩ := hx.tup
    refine .inr (.inl ⟨vs, SqT.of (hr.sub _ _ h1), ?_⟩)
    cases h2 <;> rfl
  case lst xs =>
    cases e
    obtain ⟨a, vs, rfl, h1, _, h2⟩ := hx.lst hr
    refine .inl ⟨vs, SqL.of h1, ?_⟩
    cases h2 <;> rfl
theorem atI_rd {ρ : List Addr} {F : Hp} {xs : List D} {vs : List V} {i : Int} {d : D} (h : RDs K ρ F xs vs) (e : atI xs i = some d) : ∃ w, atI vs i = some w ∧ RD K ρ F d w := by
  unfold atI at e ⊢
  rw [← h.length]
  cases q : ixN xs.length i with
  | none =>
    rw [q] at e
    cases e
  | some j =>
    rw [q] at e
    exact h.get e
theorem idx_sound (hr : HR K m g) (hx : RA K g x v) (hy : RD K g.r g.F y u) (p : Post K T (RDg K) (R.of (idxF x y) m) g Q W) : rIx K v u g.H Q := by
  have hy' : RA K g y u := .inl hy
  cases x <;> cases y <;> first | exact p.elim | skip
  case tup.int xs i =>
    obtain ⟨a, vs, rfl, h1, h2⟩ := hx.tup
    obtain rfl := hy'.int
    rw [idx_tup] at p
    cases e : atI xs i with
    | none =>
      rw [e] at p
      exact p.elim
    | some d =>
      rw [e] at p
      obtain ⟨w, e2, r⟩ := atI_rd h2 e
      exact .inr (.inl ⟨a, vs, i, w, rfl, rfl, SqT.of (hr.sub _ _ h1), e2, p.val hr r⟩)
  case lst.int xs i =>
    obtain ⟨a, vs, rfl, h1, _, h2⟩ := hx.lst hr
    obtain rfl := hy'.int
    rw [idx_lst] at p
    cases e : atI xs i with
    | none =>
      rw [e] at p
      exact p.elim
    | some d =>
      rw [e] at p
      obtain ⟨w, e2, r⟩ := atI_rd h2 e
      exact .inl ⟨a, vs, i, w, rfl, rfl, SqL.of h1, e2, p.val hr r⟩
theorem cut_rds {ρ : List Addr} {F : Hp} {xs : List D} {vs : List V} (h : RDs K ρ F xs vs) (lo hi : Option Int) : RDs K ρ F (cutD xs lo hi) (cutV vs lo hi) := by
  unfold cutD cutV
  rw [← h.length]
  exact (h.drop _).take _
theorem cut_whole {α : Type} (xs : List α) {lo hi : Option Int} (h : HT.sIx xs.length 0 lo = 0 ∧ HT.sIx xs.length xs.length hi = xs.length) : (xs.drop (HT.sIx xs.length 0 lo)).take (HT.sIx xs.length xs.length hi - HT.sIx xs.length 0 lo) = xs := by
  rw [h.1, h.2, List.drop_zero, Nat.sub_zero, List.take_length]
theorem slt_sound {lo hi : Option Int} (hr : HR K m g) (hx : RA K g x v) (p : Post K T (RDg K) (R.of (sltF lo hi x) m) g Q W) : rSlA K v lo hi g.H Q := by
  cases x <;> first | exact p.elim | skip
  case tup xs =>
    obtain ⟨a, vs, rfl, h1, h2⟩ := hx.tup
    refine ⟨a, vs, rfl, SqT.of (hr.sub _ _ h1), fun hw => ?_, fun _ q hq => p.tup hr hq (cut_rds h2 lo hi)⟩
    refine p.val hr ?_
    rw [← h2.length] at hw
    have z : cutD xs lo hi = xs := cut_whole xs hw
    rw [z]
    exact .tup h1 h2
theorem slc_sound {g0 : G} {lo hi : Option Int} (e0 : Ex g0 g) (hr : HR K m g) (hx : RA K g x v) (p : Post K T (RF K g0) (R.of (slcF lo hi x) m) g Q W) : rSlL K v lo hi g.H Q := by
  cases x <;> first | exact p.elim | skip
  case lst xs =>
    obtain ⟨a, vs, rfl, h1, _, h2⟩ := hx.lst hr
    exact ⟨a, vs, rfl, SqL.of h1, fun q hq => p.nls e0 hr hq (cut_rds h2 lo hi)⟩
  case scr ns =>
    obtain ⟨a, rfl, h1⟩ := hx.scr
    exact ⟨a, _, rfl, subL hr h1, fun q hq => p.nls e0 hr hq (cut_rds (RDs.ints ns) lo hi)⟩
end
end PF

set_option Elab.async false
set_option linter.all false
set_option maxRecDepth 100000
set_option maxHeartbeats 4000000
/-! PFd: built-in functions, methods, new lists, what is walked. -/
namespace PF
open PySem PySem.Spec PyProof.Rows L2

inductive RAs (K : PySem.W.Frag) (g : G) : List D → List V → Prop
  | nil : RAs K g [] []
  | cons {d : D} {v : V} {ds : List D} {vs : List V} : RA K g d v → RAs K g ds vs → RAs K g (d :: ds) (v :: vs)
theorem RAs.mono {K : PySem.W.Frag} {g g' : G} (e : Ex g g') : ∀ {ds : List D} {vs : List V}, RAs K g ds vs → RAs K g' ds vs
  | _, _, .nil => .nil
  | _, _, .cons h hs => .cons (RA.mono e h) (RAs.mono e hs)

def Bi.val : Bi → Value
  | .len => .builtin "len"
  | .min2 | .minl => .builtin "min"
  | .max2 | .maxl => .builtin "max"
  | .suml => .builtin "sum"
  | .abs => .builtin "abs"
  | .all => .builtin "all"
  | .any => .builtin "any"
  | .tup => .type "tuple"
  | .int => .type "int"
  | .isInt | .isBool | .isTup | .isStr | .isList => .builtin "isinstance"
  | .repr => .builtin "repr"
def Bi.ty : Bi → String
  | .isInt => "int"
  | .isBool => "bool"
  | .isTup => "tuple"
  | .isStr => "str"
  | .isList => "list"
  | _ => ""
def Bi.isi : Bi → Bool
  | .isInt | .isBool | .isTup | .isStr | .isList => true
  | _ => false
/-- sum of a tuple -/
def rSumT (K : PySem.W.Frag) : List V → Hp → VK → Prop := fun vs H Q => ∃ (a : Addr) (ns : List Int), vs = [V.ref a] ∧ SqT K H a (ns.map V.int) ∧ Q (.int ns.sum) H
def rBi (K : PySem.W.Frag) : Bi → List V → Hp → VK → Prop
  | .len => fun xs H Q => ∃ x n, xs = [x] ∧ LenV K x H n ∧ Q (.int n) H
  | .min2 => fun xs H Q => ∃ i j, xs = [.int i, .int j] ∧ Q (.int (if j < i then j else i)) H
  | .max2 => fun xs H Q => ∃ i j, xs = [.int i, .int j] ∧ Q (.int (if j > i then j else i)) H
  | .maxl => rMax K
  | .minl => rMin K
  | .suml => fun xs H Q => rSum K xs H Q ∨ rSumT K xs H Q
  | .abs => fun xs H Q => ∃ i, xs = [.int i] ∧ Q (.int (if i < 0 then -i else i)) H
  | .all => rAll K
  | .any => rAny K
  | .tup => fun xs H Q => ∃ p ys, xs = [.ref p] ∧ ((SqL K H p ys ∧ ∀ l, H l = none → Q (.ref l) (upd H l (.tup ys))) ∨ (SqT K H p ys ∧ Q (.ref p) H))
  | .int => fun xs H Q => (∃ i, xs = [.int i] ∧ Q (.int i) H) ∨ ∃ k, xs = [.bl k] ∧ Q (.int (if k then 1 else 0)) H
  | .isInt | .isBool | .isTup | .isStr | .isList => rIsi K
  | .repr => fun _ _ _ => False
section
variable {X : Cx}
theorem cr_sumT (hc : X.calm = true) : CallR X (.builtin "sum") (rSumT X.K) := by
  intro pins s σ H vs us Q I r hh
  obtain ⟨a, ns, rfl, hs, q⟩ := hh
  obtain ⟨its, rv, hl, _⟩ := I.tuple hs
  rw [Vals.ref1 r]
  have hi := rv.ints
  obtain ⟨xs, e⟩ := hi.allInts.items
  have hn : numsOf (intItems xs).toList = ns := by
    rw [← e]
    exact hi.numsOf
  rw [nums_intItems] at hn
  rw [e] at hl
  obtain ⟨o, ho, hc', n, hd⟩ := id hl
  refine PySem.W.ktm_sumG (I.ok.hd hc) hl fun h' tk t' hk => ?_
  have J : Inv X pins σ H { s with heap := h', toks := tk } := I.kept hk
  rw [preSum_eq, List.take_of_length_le (by simp), hn]
  exact ⟨.int _, H, J, ⟨_, rfl⟩, q⟩
theorem call_bi (hc : X.calm = true) (b : Bi) : CallR X b.val (rBi X.K b) := by
  cases b with
  | len => exact call_len
  | min2 => exact call_min2 hc
  | max2 => exact call_max2 hc
  | maxl => exact cr_max hc
  | minl => exact cr_min hc
  | suml => exact (cr_sum hc).or (cr_sumT hc)
  | abs => exact call_abs
  | all => exact cr_all hc
  | any => exact cr_any hc
  | tup => exact call_tuple_of
  | int => exact call_int1
  | isInt => exact call_isi
  | isBool => exact call_isi
  | isTup => exact call_isi
  | isStr => exact call_isi
  | isList => exact call_isi
  | repr => exact fun _ _ _ _ _ _ _ _ _ z => z.elim
end
section
variable {K : PySem.W.Frag} {T : XI} {g : G} {m : Mem} {W : XK} {x y : D} {v u : V} {Q : VK}
theorem foldl_max_mem : ∀ (ns : List Int) (n : Int), ns.foldl max n ∈ n :: ns ∧ ∀ y ∈ n :: ns, y ≤ ns.foldl max n
  | [], n => by simp
  | k :: ns, n => by
    obtain ⟨h1, h2⟩ := foldl_max_mem ns (max n k)
    rw [List.foldl_cons]
    refine ⟨?_, fun y hy => ?_⟩
    · rcases List.mem_cons.mp h1 with h | h
      · rw [h]
        rcases Int.le_total n k with q | q
        · rw [Int.max_eq_right q]
          simp
        · rw [Int.max_eq_left q]
          simp
      · exact List.mem_cons_of_mem _ (List.mem_cons_of_mem _ h)
    · have h3 := h2 (max n k) List.mem_cons_self
      rcases List.mem_cons.mp hy with h | h
      · subst h
        exact Int.le_trans (Int.le_max_left _ _) h3
      · rcases List.mem_cons.mp h with h | h
        · subst h
          exact Int.le_trans (Int.le_max_right _ _) h3
        · exact h2 y (List.mem_cons_of_mem _ h)
theorem foldl_min_mem : ∀ (ns : List Int) (n : Int), ns.foldl min n ∈ n :: ns ∧ ∀ y ∈ n :: ns, ns.foldl min n ≤ y
  | [], n => by simp
  | k :: ns, n => by
    obtain ⟨h1, h2⟩ := foldl_min_mem ns (min n k)
    rw [List.foldl_cons]
    refine ⟨?_, fun y hy => ?_⟩
    · rcases List.mem_cons.mp h1 with h | h
      · rw [h]
        rcases Int.le_total n k with q | q
        · rw [Int.min_eq_left q]
          simp
        · rw [Int.min_eq_right q]
          simp
      · exact List.mem_cons_of_mem _ (List.mem_cons_of_mem _ h)
    · have h3 := h2 (min n k) List.mem_cons_self
      rcases List.mem_cons.mp hy with h | h
      · subst h
        exact Int.le_trans h3 (Int.min_le_left _ _)
      · rcases List.mem_cons.mp h with h | h
        · subst h
          exact Int.le_trans h3 (Int.min_le_right _ _)
        · exact h2 y (List.mem_cons_of_mem _ h)
/-- isinstance of data -/
theorem isi_sound {b : Bi} {k : D} (hb : b.isi = true) (hr : HR K m g) (hx : RA K g x v) (e : biF b [x] = some k) :
    ∃ t r, k = .bl r ∧ TyX K g.H v t ∧ PySem.W.kitOne K t (.type b.ty) = some r := by
  cases b <;> first | (cases hb; done) | skip
  all_goals (cases x <;> first | (cases e; done) | skip)
  all_goals first
    | (cases e; rw [hx.int]; exact ⟨_, _, rfl, .base (.int _), kit_ty (by decide +kernel)⟩)
    | (cases e; rw [hx.bl]; exact ⟨_, _, rfl, .base (.bl _), kit_ty (by decide +kernel)⟩)
    | (cases e; rw [hx.non]; exact ⟨_, _, rfl, .base .non, kit_ty (by decide +kernel)⟩)
    | (cases e; obtain ⟨rfl, _⟩ := hx.str; exact ⟨_, _, rfl, .base (.str _), kit_ty (by decide +kernel)⟩)
    | (cases e; obtain ⟨a, vs, rfl, h1, _⟩ := hx.tup; exact ⟨_, _, rfl, .base (.tup (hr.sub _ _ h1)), kit_ty (by decide +kernel)⟩)
    | (cases e; obtain ⟨a, vs, rfl, h1, _⟩ := hx.lst hr; exact ⟨_, _, rfl, .base (.lst h1), kit_ty (by decide +kernel)⟩)
theorem biF_nil (b : Bi) : biF b [] = none := by cases b <;> rfl
theorem biF_two {b : Bi} (h : b ≠ .min2) (h2 : b ≠ .max2) (x y : D) (r : List D) : biF b (x :: y :: r) = none := by
  cases b <;> first | exact absurd rfl h | exact absurd rfl h2 | (cases x <;> rfl)
theorem biF_three (b : Bi) (x y z : D) (r : List D) : biF b (x :: y :: z :: r) = none := by
  by_cases h : b = .min2
  · subst h
    cases x <;> first | rfl | (cases y <;> rfl)
  by_cases h2 : b = .max2
  · subst h2
    cases x <;> first | rfl | (cases y <;> rfl)
  exact biF_two h h2 x y (z :: r)
theorem bi_sound {b : Bi} {xs : List D} {vs : List V} (hb : b.isi = false) (hr : HR K m g) (h : RAs K g xs vs) (p : Post K T (RDg K) (R.of (biF b xs) m) g Q W) : rBi K b vs g.H Q := by
  by_cases h2 : b = .min2
  · subst h2
    rcases h with _ | ⟨hx, _ | ⟨hy, _ | ⟨_, _⟩⟩⟩
    · exact p.elim
    · rename_i x v
      cases x <;> exact p.elim
    · rename_i x v y u
      cases x <;> cases y <;> first | exact p.elim | skip
      case int.int i j =>
        rw [hx.int, hy.int]
        exact ⟨i, j, rfl, p.val hr (.int _)⟩
    · rw [biF_three] at p
      exact p.elim
  by_cases h3 : b = .max2
  · subst h3
    rcases h with _ | ⟨hx, _ | ⟨hy, _ | ⟨_, _⟩⟩⟩
    · exact p.elim
    · rename_i x v
      cases x <;> exact p.elim
    · rename_i x v y u
      cases x <;> cases y <;> first | exact p.elim | skip
      case int.int i j =>
        rw [hx.int, hy.int]
        exact ⟨i, j, rfl, p.val hr (.int _)⟩
    · rw [biF_three] at p
      exact p.elim
  rcases h with _ | ⟨hx, _ | ⟨hy, _⟩⟩
  · rw [biF_nil] at p
    exact p.elim
  · rename_i x v
    cases b <;> first | exact absurd rfl h2 | exact absurd rfl h3 | (cases hb; done) | skip
    case len =>
      cases x <;> first | exact p.elim | skip
      case tup xs =>
        obtain ⟨a, vs, rfl, h1, h2⟩ := hx.tup
        refine ⟨_, xs.length, rfl, .inr ⟨vs, SqT.of (hr.sub _ _ h1), h2.length⟩, p.val hr (.int _)⟩
      case lst xs =>
        obtain ⟨a, vs, rfl, h1, _, h2⟩ := hx.lst hr
        refine ⟨_, xs.length, rfl, .inl ⟨vs, SqL.of h1, h2.length⟩, p.val hr (.int _)⟩
    case maxl =>
      cases x <;> first | exact p.elim | skip
      case lst xs =>
        obtain ⟨a, vs, rfl, h1, _, h2⟩ := hx.lst hr
        cases e1 : D.asInts xs with
        | none =>
          simp only [biF, e1] at p
          exact p.elim
        | some ns =>
          cases ns with
          | nil =>
            simp only [biF, e1] at p
            exact p.elim
          | cons n ns =>
            simp only [biF, e1] at p
            have d1 := D.asInts_eq e1
            subst d1
            obtain rfl := h2.ints_of
            refine ⟨a, n :: ns, rfl, SqL.of h1, by simp, fun k hk hle => ?_⟩
            obtain ⟨m1, m2⟩ := foldl_max_mem ns n
            have ek : k = ns.foldl max n := Int.le_antisymm (m2 k hk) (hle _ m1)
            rw [ek]
            exact p.val hr (.int _)
    case minl =>
      cases x <;> first | exact p.elim | skip
      case lst xs =>
        obtain ⟨a, vs, rfl, h1, _, h2⟩ := hx.lst hr
        cases e1 : D.asInts xs with
        | none =>
          simp only [biF, e1] at p
          exact p.elim
        | some ns =>
          cases ns with
          | nil =>
            simp only [biF, e1] at p
            exact p.elim
          | cons n ns =>
            simp only [biF, e1] at p
            have d1 := D.asInts_eq e1
            subst d1
            obtain rfl := h2.ints_of
            refine ⟨a, n :: ns, rfl, SqL.of h1, by simp, fun k hk hle => ?_⟩
            obtain ⟨m1, m2⟩ := foldl_min_mem ns n
            have ek : k = ns.foldl min n := Int.le_antisymm (hle _ m1) (m2 k hk)
            rw [ek]
            exact p.val hr (.int _)
    case suml =>
      cases x <;> first | exact p.elim | skip
      case tup xs =>
        obtain ⟨a, vs, rfl, h1, h2⟩ := hx.tup
        cases e1 : D.asInts xs with
        | none =>
          simp only [biF, e1] at p
          exact p.elim
        | some ns =>
          simp only [biF, e1] at p
          have d1 := D.asInts_eq e1
          subst d1
          obtain rfl := h2.ints_of
          exact .inr ⟨a, ns, rfl, SqT.of (hr.sub _ _ h1), p.val hr (.int _)⟩
      case lst xs =>
        obtain ⟨a, vs, rfl, h1, _, h2⟩ := hx.lst hr
        cases e1 : D.asInts xs with
        | none =>
          simp only [biF, e1] at p
          exact p.elim
        | some ns =>
          simp only [biF, e1] at p
          have d1 := D.asInts_eq e1
          subst d1
          obtain rfl := h2.ints_of
          exact .inl ⟨a, ns, rfl, SqL.of h1, p.val hr (.int _)⟩
    case abs =>
      cases x <;> first | exact p.elim | skip
      case int i =>
        rw [hx.int]
        exact ⟨i, rfl, p.val hr (.int _)⟩
    case all =>
      cases x <;> first | exact p.elim | skip
      case lst xs =>
        obtain ⟨a, vs, rfl, h1, _, h2⟩ := hx.lst hr
        cases e1 : D.asBls xs with
        | none =>
          simp only [biF, e1] at p
          exact p.elim
        | some ns =>
          simp only [biF, e1] at p
          have d1 := D.asBls_eq e1
          subst d1
          obtain rfl := h2.bls_of
          exact ⟨a, ns, rfl, SqL.of h1, p.val hr (.bl _)⟩
    case any =>
      cases x <;> first | exact p.elim | skip
      case lst xs =>
        obtain ⟨a, vs, rfl, h1, _, h2⟩ := hx.lst hr
        cases e1 : D.asBls xs with
        | none =>
          simp only [biF, e1] at p
          exact p.elim
        | some ns =>
          simp only [biF, e1] at p
          have d1 := D.asBls_eq e1
          subst d1
          obtain rfl := h2.bls_of
          exact ⟨a, ns, rfl, SqL.of h1, p.val hr (.bl _)⟩
    case tup =>
      cases x <;> first | exact p.elim | skip
      case tup xs =>
        obtain ⟨a, vs, rfl, h1, h2⟩ := hx.tup
        exact ⟨a, vs, rfl, .inr ⟨SqT.of (hr.sub _ _ h1), p.val hr (.tup h1 h2)⟩⟩
      case lst xs =>
        obtain ⟨a, vs, rfl, h1, _, h2⟩ := hx.lst hr
        exact ⟨a, vs, rfl, .inl ⟨SqL.of h1, fun q hq => p.tup hr hq h2⟩⟩
    case int =>
      cases x <;> first | exact p.elim | skip
      case int i =>
        rw [hx.int]
        exact .inl ⟨i, rfl, p.val hr (.int _)⟩
      case bl i =>
        rw [hx.bl]
        exact .inr ⟨i, rfl, p.val hr (.int _)⟩
    case repr => cases x <;> exact p.elim
  · rw [biF_two h2 h3] at p
    exact p.elim
end
end PF

set_option Elab.async false
set_option linter.all false
set_option maxRecDepth 100000
set_option maxHeartbeats 4000000
/-! PFr: rules of our own: list(reversed(a list)), enumerate of a tuple. -/
namespace PF
open PySem PySem.Spec PySem.Calls PyProof.Rows PySem.W L2 RT

section
variable {prog : Program} {w : World} {A : Around} {E : Value → Shared → Prop} {s : Shared}
theorem lst_rev_init {it l S : Addr} {items : Array Value} {R : Result → Shared → Prop} (hh : A.handled = none) (hit : s.heap.IsRevIter it l ((items.size : Int) - 1)) (hl : s.heap.IsList l items) (hne : l ≠ it) (hn : items.size ≤ sizeLine)
    (hSi : S ≠ it) (hSl : S ≠ l) (hS : s.heap.get? S = some { cls := .type "list", data := .seq #[] })
    (hR : ∀ h' tk acc' c', (∀ b o, b ≠ S → b ≠ it → s.heap.get? b = some o → h'.get? b = some o) → h'.get? S = some { cls := .type "list", dict := none, data := .seq acc' c', slots := #[] } →
      ItemsOf (fun i v => items[items.size - 1 - i]? = some v) acc' items.size → R (.ok (.ret .none)) { s with heap := h', toks := tk }) :
    wpAny (model prog w) A.in1 (Builtin.«list.__init__» ⟨[.ref S, .ref it], []⟩)
      (fun fin s' => match fin with | .done f => R (.ok f) s' | .again c' => c'.quiet = true ∧ codeAny (model prog w) A c' R s') (fun e s' => R (.error e) s') s := by
  have Wk := (Walks.listRev (prog := prog) (w := w) (A := A.in1) hh it l hne items).toS
  have hSf : S ∉ [it, l] := by
    simp only [List.mem_cons, List.not_mem_nil, or_false, not_or]
    exact ⟨hSi, hSl⟩
  show wpAny _ _ (do
    let old ← Builtin.List.listItems (.ref S)
    Builtin.List.listUpdate (.ref S) (fun _ => #[])
    letGo old.toList.reverse
    Builtin.List.listExtendWith (.ref S) (.ref it) .none) _ _ s
  refine wpAny_bind ?_
  unfold Builtin.List.listItems
  refine wpAny_bind (wpAny_seqItems hS rfl (wpAny_pure ?_))
  show wpAny _ _ (updateSeq S (fun _ => #[]) >>= fun _ => letGo (#[] : Array Value).toList.reverse >>= fun _ => Builtin.List.listExtendWith (.ref S) (.ref it) .none) _ _ s
  refine wpAny_bind (wpAny_updateSeq hS rfl ?_)
  have hS₂ := Heap.get?_update_self (Obj.mapSeq (fun _ => (#[] : Array Value))) hS rfl
  have oth : ∀ b o, b ≠ S → s.heap.get? b = some o → (s.heap.update S (Obj.mapSeq (fun _ => (#[] : Array Value)))).get? b = some o := fun b o hb e =>
    (Heap.get?_update_other _ _ (Ne.symm hb)).trans e
  refine wpAny_bind (wpAny_letGo ?_)
  generalize s.heap.update S (Obj.mapSeq (fun _ => (#[] : Array Value))) = hp at hS₂ oth ⊢
  have hit1 : hp.IsRevIter it l ((items.size : Int) - 1) := hit.at fun o e => oth it o hSi.symm e
  have hl1 : hp.IsList l items := hl.at fun o e => oth l o hSl.symm e
  have hT : ({ s with heap := hp } : Shared).TypeIs (.ref it) "list_reverseiterator" := Heap.IsRevIter.typeIs (s := { s with heap := hp }) hit1
  have h1 : Builtin.List.listSameRef (.ref S) (.ref it) = false := by simp [Builtin.List.listSameRef, hSi]
  unfold Builtin.List.listExtendWith
  refine wpAny_bind (wpAny_typeOf hT ?_)
  rw [if_neg (by rw [h1]; decide)]
  refine wpAny_bind (wpAny_pyIter_revIter (s := { s with heap := hp }) hit1 ?_)
  refine wpAny_bind (wpAny_holding ?_)
  unfold Builtin.List.listLengthHint
  refine wpAny_bind (wpAny_specialOf hT nolen_lri ?_)
  show wpAny _ _ (specialOf (Value.ref it) (Str.ofString "__length_hint__") >>= _) _ _ _
  refine wpAny_bind (wpAny_specialOf hT hint_lri ?_)
  generalize hid : ("list_reverseiterator.__length_hint__" : String) = id0
  wp_delta
  rw [show splitId id0 = some ("list_reverseiterator", "__length_hint__") from by subst hid; decide +kernel]
  subst hid
  refine wpAny_bind (wpAny_isInstance (b := true) hT (by rw [isSubtype_type]; kernel_rfl) ?_)
  refine wpAny_pure ?_
  rw [if_neg (by decide)]
  have e0 : ((items.size : Nat) : Int) - 1 - ((0 : Nat) : Int) = (items.size : Int) - 1 := by omega
  refine wpAny_pure ⟨plainId_quiet F.plain_extend_loop _, codeAny_extend_loopS Wk hn _ hSf _ items.size 0 _ _ _ rfl (Nat.zero_le _) ⟨Nat.zero_le _, by rw [e0]; exact hit1, hl1⟩ hS₂ (ItemsOf.nil _) fun s' acc' c' hm hS' hacc => ?_⟩
  rw [Moved.eq_with hm]
  refine hR s'.heap s'.toks acc' c' (fun b o hb hbi e => hm.heap b o (fun hmem => ?_) (oth b o hb e)) hS' hacc
  rcases List.mem_cons.mp hmem with e' | hmem
  · exact hb e'
  · exact hbi (List.mem_singleton.mp hmem)
theorem call_lst_rev {it l : Addr} {items : Array Value} {Q : Value → Shared → Prop} (hh : A.handled = none) (hit : s.heap.IsRevIter it l ((items.size : Int) - 1)) (hl : s.heap.IsList l items) (hne : l ≠ it) (hn : items.size ≤ sizeLine)
    (hQ : ∀ h' tk acc' c', (∀ b o, b ≠ it → s.heap.get? b = some o → h'.get? b = some o) → h'.get? s.heap.objs.size = some { cls := .type "list", dict := none, data := .seq acc' c', slots := #[] } →
      ItemsOf (fun i v => items[items.size - 1 - i]? = some v) acc' items.size → Q (.ref s.heap.objs.size) { s with heap := h', toks := tk }) :
    wpAny (model prog w) A (call (.type "list") [.ref it]) Q E s := by
  refine callType_codes (Q₁ := fun obj s₁ => obj = .ref s.heap.objs.size ∧ s₁ = { s with heap := s.heap.push { cls := .type "list", data := .seq #[] } }) PySem.F.called_list (PySem.F.typeCall_list_1 _) PySem.F.entry_list_init
    (code_list_new _ ⟨rfl, rfl⟩) fun obj s₁ h₁ => ?_
  obtain ⟨rfl, rfl⟩ := h₁
  have hS : (s.heap.push { cls := .type "list", data := .seq #[] }).get? s.heap.objs.size = some { cls := .type "list", data := .seq #[] } := Heap.get?_push_size _ rfl
  have li : it < s.heap.objs.size := by
    obtain ⟨o, ho, _⟩ := id hit
    exact Heap.lt_size ho
  have ll : l < s.heap.objs.size := by
    obtain ⟨o, ho, _⟩ := id hl
    exact Heap.lt_size ho
  refine ⟨⟨_, hS, rfl⟩, PySem.F.args_list_init_2 _ _, lst_rev_init (A := A.in1) hh (hit.at fun o e => Heap.get?_push_of_some _ e) (hl.push _) hne hn (Nat.ne_of_gt li) (Nat.ne_of_gt ll) hS fun h' tk acc' c' hk hS' hacc => ?_⟩
  exact ⟨rfl, hQ h' tk acc' c' (fun b o hb e => hk b o (Nat.ne_of_lt (Heap.lt_size e)) hb (Heap.get?_push_of_some _ e)) hS' hacc⟩
end
/-- list(reversed(x)), x a list: a new list -/
def tLstRev (K : PySem.W.Frag) (te : TE) : TE := fun σ H Q => te σ H fun v H1 => ∃ (a : Addr) (xs : List V), v = .ref a ∧ SqL K H1 a xs ∧ ∀ q, H1 q = none → Q (.ref q) (upd H1 q (.lst xs.reverse))
theorem pe_lstRev {X : Cx} {e : Expr} {te : TE} {p p2 pos pos2 : Pos} (hc : X.calm = true) (hg : Gl X "list") (hm : X.mg "list" = none) (hg2 : Gl X "reversed") (hm2 : X.mg "reversed" = none) (he : PE X e te)
    (hs : starEach [e] X.env = (false, eval e X.env) :: starEach [] X.env) :
    PE X (.Call (.Name "list" p) [.Call (.Name "reversed" p2) [e] [] pos2] [] pos) (tLstRev X.K te) := by
  refine ⟨fun pins s σ H Q I h => ?_⟩
  refine Call_ (ld_blt I hg hm boot_list (PyProof.Rows.callWith_type1 (args_cons (Call_ (ld_blt I hg2 hm2 PyProof.Rows.boot_reversed (PyProof.Rows.callWith_type1 (args_cons (thn (he.run pins s σ H _ I h) fun u s1 ⟨v, H1, I1, r1, q1⟩ => args_nil ?_) hs) hs rfl)) rfl) rfl) rfl rfl))
  obtain ⟨a, xs, ev, hq, q⟩ := q1
  subst ev
  obtain rfl : u = Value.ref a := r1
  obtain ⟨its, rv, p', hz⟩ := I1.list hq
  refine call_reversed_list p'.isList (args_nil ?_)
  have k0 : ∀ b o, s1.heap.get? b = some o → (s1.heap.push (revObj a ((its.toArray.size : Int) - 1))).get? b = some o := fun b o e => Heap.get?_push_of_some _ e
  have I2 : Inv X pins σ H1 { s1 with heap := s1.heap.push (revObj a ((its.toArray.size : Int) - 1)) } := I1.kept (t' := s1.toks) k0
  have hf := I1.fpOk (H' := H1) (b := s1.heap.objs.size) (Nat.le_refl _) (I1.hok.fresh (Nat.le_refl _))
  obtain ⟨f0, f1, f2, f3, f4, f5⟩ := hf
  have hl := p'.isList
  obtain ⟨ol, hol, _⟩ := id hl
  have hne : a ≠ s1.heap.objs.size := Nat.ne_of_lt (Heap.lt_size hol)
  have hn : its.toArray.size ≤ sizeLine := by
    rw [List.size_toArray, ← rv.length]
    exact hz
  refine call_lst_rev (s := { s1 with heap := s1.heap.push (revObj a ((its.toArray.size : Int) - 1)) }) (I1.ok.hd hc) ⟨_, Heap.get?_push_size _ rfl, rfl, rfl⟩ (hl.push _) hne hn fun h' tk acc c' hk hS hi => ?_
  have hD : H1 (s1.heap.push (revObj a ((its.toArray.size : Int) - 1))).objs.size = none := I2.hok.fresh (Nat.le_refl _)
  have new : ObjOk X.prog X.w (upd H1 (s1.heap.push (revObj a ((its.toArray.size : Int) - 1))).objs.size (.lst xs.reverse)) h' (s1.heap.push (revObj a ((its.toArray.size : Int) - 1))).objs.size (.lst xs.reverse) :=
    ⟨by rw [List.length_reverse]; exact hz, acc.toList, c', vals_rev rv hi, by simpa using hS⟩
  have I3 := I2.turnedNew (t' := tk) (ch := [s1.heap.objs.size]) (fun b o hb e => hk b o (fun z => hb (by simp [z])) e) (fun b hb => by
    have z : b = s1.heap.objs.size := by simpa using hb
    subst z
    exact ⟨f0, f1, f2, f3, f4, f5⟩) (Nat.le_refl _) new
  exact ⟨.ref _, _, I3, rfl, q _ hD⟩

/-! ### enumerate(a tuple) -/
/-- its two new cells -/
theorem meets_enum_tup (t : Addr) (items : Array Value) :
    Meets (Builtin.«enumerate.__new__» ⟨[.type "enumerate", .ref t], []⟩) (fun _ R s => s.heap.IsTuple t items ∧
      R (.ok (.ret (.ref (s.heap.push { cls := .type "tuple_iterator", data := .fields #[.ref t, .int 0 0] }).objs.size)))
        { s with heap := (s.heap.push { cls := .type "tuple_iterator", data := .fields #[.ref t, .int 0 0] }).push { cls := .type "enumerate", data := .fields #[.none, .bool false, .ref s.heap.objs.size, rawInt 0, .none, .none] } }) :=
  .of_wp fun prog w A R s hh => by
    obtain ⟨hp, gs, dr, tk, os⟩ := s
    obtain ⟨ht, hh⟩ := hh
    have hsub := sub_enumerate
    have q1 : ∀ {A' : Around} {E : Value → Shared → Prop} {Q : Value → Shared → Prop}, Q (.ref hp.objs.size) ⟨hp.push { cls := .type "tuple_iterator", data := .fields #[.ref t, .int 0 0] }, gs, dr, tk, os⟩ →
        wpAny (model prog w) A' (pyIter (.ref t)) Q E ⟨hp, gs, dr, tk, os⟩ := fun q => wpAny_pyIter_tuple (s := ⟨hp, gs, dr, tk, os⟩) ht q
    wp_walk using q1
    refine wpAny_stack_any fun st => wpAny_pure ?_
    split
    · rename_i c _ _ _ _ _
      cases (c == Value.type "enumerate")
      · wp_walk using q1
        exact ⟨_, rfl, hh⟩
      · wp_walk using q1
        exact ⟨_, rfl, hh⟩
    · wp_walk using q1
      exact ⟨_, rfl, hh⟩
theorem call_enum_tup {prog : Program} {w : World} {A : Around} {E : Value → Shared → Prop} {s : Shared} {t : Addr} {items : Array Value} {Q : Value → Shared → Prop} (ht : s.heap.IsTuple t items)
    (h : ∀ h', IsEnum h' (s.heap.objs.size + 1) s.heap.objs.size 0 .none → h'.IsTupleIter s.heap.objs.size t 0 → h'.objs.size = s.heap.objs.size + 2 →
      (∀ b o, s.heap.get? b = some o → h'.get? b = some o) → Q (.ref (s.heap.objs.size + 1)) { s with heap := h' }) :
    wpAny (model prog w) A (call (.type "enumerate") [.ref t]) Q E s := by
  refine callType_new F.called_enumerate (by decide) (F.typeCall_enumerate_1 _) (F.newCall_enumerate_1 _) (fun obj => F.args_object_init_2 obj _) F.entry_enumerate_new
    (meets_enum_tup t items) ⟨ht, ?_⟩
  have hz : (s.heap.push { cls := .type "tuple_iterator", data := .fields #[.ref t, .int 0 0] }).objs.size = s.heap.objs.size + 1 := Heap.size_push ..
  show _ ∧ _
  rw [hz]
  have he : IsEnum ((s.heap.push { cls := .type "tuple_iterator", data := .fields #[.ref t, .int 0 0] }).push { cls := .type "enumerate", data := .fields #[.none, .bool false, .ref s.heap.objs.size, rawInt 0, .none, .none] }) (s.heap.objs.size + 1) s.heap.objs.size 0 .none := by
    have q := Heap.get?_push_size (s.heap.push { cls := .type "tuple_iterator", data := .fields #[.ref t, .int 0 0] }) (o := { cls := .type "enumerate", data := .fields #[.none, .bool false, .ref s.heap.objs.size, rawInt 0, .none, .none] }) rfl
    rw [hz] at q
    exact q
  exact ⟨⟨_, he, rfl⟩, h _ he ⟨_, Heap.get?_push_of_some _ (Heap.get?_push_size _ rfl), rfl, rfl⟩ (by rw [Heap.size_push, hz]) fun b o x => Heap.get?_push_of_some _ (Heap.get?_push_of_some _ x)⟩
/-- the tuple at a, each item in a new pair -/
def IteT (K : PySem.W.Frag) (a : Addr) : It where
  go := fun i H => ∃ (xs : List V) (x : V), SqT K H a xs ∧ xs[i]? = some x
  yld := fun i H v H' => ∃ T x, v = .ref T ∧ H T = none ∧ H' = upd H T (.tup [.int (i : Nat), x]) ∧ ∀ xs, SqT K H a xs → xs[i]? = some x
  stop := fun i H => ∃ xs : List V, SqT K H a xs ∧ xs.length = i
theorem turn_enumT {P : Program} {w : World} {K : PySem.W.Frag} {elts : List Expr} {kk : Nat} {tpos : Pos} (a e it : Addr) :
    Turn P w K (.Tuple elts kk tpos) (IteT K a) [e, it] e (fun i h => (∃ old, IsEnum h e it ((i : Nat) : Int) old) ∧ h.IsTupleIter it a i ∧ e ≠ it ∧ e ≠ a ∧ a ≠ it) where
  mem := by simp
  obj := fun i h st b hb => by
    obtain ⟨⟨old, he⟩, ⟨o, ho, hc, hd⟩, _⟩ := st
    have e' : b = e ∨ b = it := by simpa using hb
    rcases e' with z | z
    · rw [z]
      exact ⟨_, he, fun v q => nomatch q⟩
    · rw [z]
      exact ⟨o, ho, fun v q => by rw [hd] at q; cases q⟩
  keep := fun i h h' st k => by
    obtain ⟨⟨old, he⟩, hi, hne⟩ := st
    exact ⟨⟨old, k e (by simp) _ he⟩, hi.at fun o q => k it (by simp) o q, hne⟩
  item := by
    intro X hP hw hK hc i pins s σ H E I hf st hg
    subst hP hw hK
    obtain ⟨⟨old, he⟩, hit, hne, hea, hai⟩ := st
    obtain ⟨xs, x, hq, hx⟩ := hg
    obtain ⟨its, rv, p, hz⟩ := I.tuple hq
    obtain ⟨u, hu, ru⟩ := rv.get hx
    have hel : e < s.heap.objs.size := Heap.lt_size he
    have hil : it < s.heap.objs.size := by
      obtain ⟨_, q, _⟩ := hit
      exact Heap.lt_size q
    have hlt : i < its.toArray.size := by
      rw [List.size_toArray]
      exact (List.getElem?_eq_some_iff.mp hu).1
    refine wpAny_pyNext_enum_itemD (Draws.tuple (prog := X.prog) (w := X.w) (A := X.A.in1) (I.ok.hd hc) it a hai its.toArray) he ⟨hit, p⟩ hlt hne (by simp [hne, hea]) fun x' h' tk hP' ho st' hT hsz hk => ?_
    have ex : x' = u := by
      have z : its.toArray[i]? = some x' := hP'
      rw [List.getElem?_toArray, hu] at z
      exact (Option.some.inj z).symm
    subst ex
    refine ⟨_, rfl, wpAny_letOwnedTupleGo_enum (s := { s with heap := h', toks := tk + 1 }) ho fun h'' he' sb => ?_⟩
    have hT2 : h''.get? s.heap.objs.size = some { cls := .type "tuple", data := .seq #[.int i tk, x'] } := (sb.2 _ (Nat.ne_of_gt hel)).trans hT
    have new : ObjOk X.prog X.w (upd H s.heap.objs.size (.tup [.int (i : Nat), x])) h'' s.heap.objs.size (.tup [.int (i : Nat), x]) :=
      ⟨by show 2 ≤ sizeLine; decide, [.int i tk, x'], .cons ⟨_, rfl⟩ (.cons ru .nil), ⟨_, hT2, rfl, _, rfl⟩⟩
    have I1 := I.turnedNew (t' := tk + 1) (ch := [e, it]) (fun b ob hb q => (sb.2 b (fun z => hb (by simp [z]))).trans (hk b ob (fun z => hb (by simp [z])) (fun z => hb (by simp [z])) q)) hf (Nat.le_refl _) new
    refine ⟨.ref s.heap.objs.size, _, I1, rfl, ⟨_, x, rfl, I.hok.fresh (Nat.le_refl _), rfl, fun ys hy => by rw [I.tuple_inj hy hq]; exact hx⟩, ⟨⟨x', ?_⟩, st'.1.at fun o q => (sb.2 it (Ne.symm hne)).trans q, hne, hea, hai⟩, fun b hb => ?_⟩
    · have e1 : ((i + 1 : Nat) : Int) = (i : Int) + 1 := by omega
      rw [e1]
      exact he'
    · have hb' : b < s.heap.objs.size := by
        have e' : b = e ∨ b = it := by simpa using hb
        rcases e' with z | z
        · rw [z]
          exact hel
        · rw [z]
          exact hil
      rw [upd_ne (Nat.ne_of_lt hb')]
      exact (hf b hb).1
  done := by
    intro X hP hw hK hc i pins s σ H E I hf st hg
    subst hP hw hK
    obtain ⟨⟨old, he⟩, hit, hne, hea, hai⟩ := st
    obtain ⟨xs, hq, hx⟩ := hg
    obtain ⟨its, rv, p, hz⟩ := I.tuple hq
    obtain ⟨f0, f1, f2, f3, f4, f5⟩ := hf it (by simp)
    have hl := rv.length
    have hi : i = its.length := by omega
    · subst hi
      refine wpAny_pyNext_enum_endD (n := its.toArray.size) (Draws.tuple (prog := X.prog) (w := X.w) (A := X.A.in1) (I.ok.hd hc) it a hai its.toArray) he ⟨by rw [List.size_toArray]; exact hit, p⟩ fun h' eb => ⟨rfl, I.turned (t' := s.toks) (fun b o hb q => eb b o hb q) f0 f1 f3 f4 f5⟩
  self := fun A i s Q E st h => by
    obtain ⟨⟨_, he⟩, _⟩ := st
    exact wpAny_pyIter_enum he h

theorem pi_enumT {X : Cx} {e : Expr} {te : TE} {p pos tpos : Pos} {elts : List Expr} {kk : Nat} (hg : Gl X "enumerate") (hm : X.mg "enumerate" = none) (he : PE X e te) (hs : starEach [e] X.env = [(false, eval e X.env)]) :
    PI X (.Tuple elts kk tpos) (.Call (.Name "enumerate" p) [e] [] pos) (fun σ H R => te σ H fun v H1 => ∃ a xs, v = .ref a ∧ SqT X.K H1 a xs ∧ R (IteT X.K a) H1) := by
  refine ⟨fun pins s σ H R I h => ?_⟩
  refine Call_ (ld_blt I hg hm boot_enumerate (PyProof.Rows.callWith_type1 (args_cons (thn (he.run pins s σ H _ I h) fun u s1 ⟨v, H1, I1, r1, q1⟩ => args_nil ?_) (by rw [hs]; rfl)) hs rfl))
  obtain ⟨a, xs, ev, hq, q⟩ := q1
  subst ev
  obtain rfl : u = Value.ref a := r1
  obtain ⟨its, rv, p', hz⟩ := I1.tuple hq
  have la : a < s1.heap.objs.size := by
    obtain ⟨o, ho, _⟩ := id p'
    exact Heap.lt_size ho
  refine call_enum_tup p' fun h' he hit hsz hk => wpAny_pyIter_enum he ?_
  have I2 : Inv X pins σ H1 { s1 with heap := h' } := I1.kept (t' := s1.toks) hk
  refine ⟨s1.heap.objs.size + 1, [s1.heap.objs.size + 1, s1.heap.objs.size], _, _, H1, rfl, I2, turn_enumT a (s1.heap.objs.size + 1) s1.heap.objs.size, ⟨⟨.none, he⟩, hit, Nat.succ_ne_self _, Nat.ne_of_gt (Nat.lt_succ_of_lt la), Nat.ne_of_lt la⟩, fun b hb => ?_, q⟩
  have e' : b = s1.heap.objs.size + 1 ∨ b = s1.heap.objs.size := by simpa using hb
  have hle : s1.heap.objs.size ≤ b := by
    rcases e' with z | z
    · rw [z]
      exact Nat.le_add_right _ _
    · rw [z]
      exact Nat.le_refl _
  exact I1.fpOk hle (I1.hok.fresh hle)
theorem PI.or {X : Cx} {tg iter : Expr} {w w' : TI} (h : PI X tg iter w) (h' : PI X tg iter w') : PI X tg iter (fun σ H R => w σ H R ∨ w' σ H R) :=
  ⟨fun pins s σ H R I q => q.elim (h.run pins s σ H R I) (h'.run pins s σ H R I)⟩
end PF

set_option Elab.async false
set_option linter.all false
set_option maxRecDepth 100000
set_option maxHeartbeats 4000000
/-! PFe: readings by the language's meaning; what is walked. -/
namespace PF
open PySem PySem.Spec PyProof.Rows L2 RZ RT

/-- a wish of exceptions at the slots -/
abbrev wat (W : WX) (σ : L2.St) : XK := fun c dx H => W c dx σ H
section
variable (K : PySem.W.Frag) (Tx : XI) (C : Call) (W : WX)
def tE (e : E) : TE := fun σ H Q => ∃ env m g, g.H = H ∧ ER K env g σ ∧ HR K m g ∧ Post K Tx (RDg K) (evE C e env m) g Q (wat W σ)
def tA (e : E) : TE := fun σ H Q => ∃ env m g, g.H = H ∧ ER K env g σ ∧ HR K m g ∧ Post K Tx (RA K) (opr e env m (evE C e env m)) g Q (wat W σ)
def tT (t : T) : TT := fun σ H Q => ∃ env m g, g.H = H ∧ ER K env g σ ∧ HR K m g ∧ Post K Tx (fun _ a b => a = b) (evT C t env m) g Q (wat W σ)
def tEs (es : Es) : TA := fun σ H Q => ∃ env m g, g.H = H ∧ ER K env g σ ∧ HR K m g ∧ Post K Tx (RDsg K) (evEs C es env m) g Q (wat W σ)
def tAs (es : Es) : TA := fun σ H Q => ∃ env m g, g.H = H ∧ ER K env g σ ∧ HR K m g ∧ Post K Tx (RAs K) (evAs C es env m) g Q (wat W σ)
def tO (o : Oe) : TO := fun σ H Q => ∃ env m g, g.H = H ∧ ER K env g σ ∧ HR K m g ∧ Post K Tx (fun _ a b => a = b) (evO C o env m) g Q (wat W σ)
def tF (f : Fr) : TE := fun σ H Q => ∃ env m g, g.H = H ∧ ER K env g σ ∧ HR K m g ∧ Post K Tx (RF K g) (evF C f env m) g Q (wat W σ)
end
/-- lists and tuples keep the line -/
def LenOk (K : PySem.W.Frag) (H : Hp) : Prop := ∀ a xs, SqL K H a xs ∨ SqT K H a xs → xs.length ≤ sizeLine
def pls (K : PySem.W.Frag) (t : TE) : TE := fun σ H Q => t σ H fun v H1 => LenOk K H1 → Q v H1
theorem PE.len {X : Cx} {e : Expr} {t : TE} (h : PE X e t) : PE X e (pls X.K t) := ⟨fun pins s σ H Q I q => thn (h.run pins s σ H _ I q) fun u s1 ⟨v, H1, I1, r, q1⟩ =>
  ⟨v, H1, I1, r, q1 fun a xs z => z.elim (fun z => (I1.list z).choose_spec.2.2) fun z => (I1.tuple z).choose_spec.2.2⟩⟩
theorem PE.imp {X : Cx} {e : Expr} {t t' : TE} (h : PE X e t) (k : ∀ σ H Q, t' σ H Q → t σ H Q) : PE X e t' := ⟨fun pins s σ H Q I q => h.run pins s σ H Q I (k σ H Q q)⟩
theorem PT.imp {X : Cx} {e : Expr} {t t' : TT} (h : PT X e t) (k : ∀ σ H Q, t' σ H Q → t σ H Q) : PT X e t' := ⟨fun pins s σ H Q I q => h.run pins s σ H Q I (k σ H Q q)⟩
theorem PW.imp {X : Cx} {e : Expr} {t t' : TT} (h : PW X e t) (k : ∀ σ H Q, t' σ H Q → t σ H Q) : PW X e t' := ⟨fun wh pins s σ H Q I q => h.run wh pins s σ H Q I (k σ H Q q)⟩
theorem PA.imp {X : Cx} {e : List Expr} {t t' : TA} (h : PA X e t) (k : ∀ σ H Q, t' σ H Q → t σ H Q) : PA X e t' := ⟨fun p pins s σ H Q I q => h.run p pins s σ H Q I (k σ H Q q)⟩
theorem PO.imp {X : Cx} {e : Option Expr} {t t' : TO} (h : PO X e t) (k : ∀ σ H Q, t' σ H Q → t σ H Q) : PO X e t' := ⟨fun pins s σ H Q I q => h.run pins s σ H Q I (k σ H Q q)⟩
theorem PI.imp {X : Cx} {tg e : Expr} {t t' : TI} (h : PI X tg e t) (k : ∀ σ H Q, t' σ H Q → t σ H Q) : PI X tg e t' := ⟨fun pins s σ H Q I q => h.run pins s σ H Q I (k σ H Q q)⟩
theorem PS.imp {X : Cx} {e : Stmt} {t t' : TS} (h : PS X e t) (k : ∀ D σ H, t' D σ H → t D σ H) : PS X e t' := ⟨fun pins s σ H D I q => h.run pins s σ H D I (k D σ H q)⟩
theorem PSs.imp {X : Cx} {e : List Stmt} {t t' : TS} (h : PSs X e t) (k : ∀ D σ H, t' D σ H → t D σ H) : PSs X e t' := ⟨fun pins s σ H D I q => h.run pins s σ H D I (k D σ H q)⟩
theorem PG.imp {X : Cx} {e : Expr} {t t' : TG} (h : PG X e t) (k : ∀ v σ H Q, t' v σ H Q → t v σ H Q) : PG X e t' := ⟨fun pins s σ H v u Q I r q => h.run pins s σ H v u Q I r (k v σ H Q q)⟩

/-! ### what is walked -/
/-- how the state may go on while it is walked: nothing frozen changes | as an expression goes on -/
def StR (fo : Bool) (g1 g : G) : Prop := if fo = true then Same g1.F g.F else Ex g1 g
/-- an iterator that gives these data -/
structure WkD (K : PySem.W.Frag) (J : It) (ds : List D) (S : G → Prop) : Prop where
  len : ds.length ≤ sizeLine
  go : ∀ i g m, S g → HR K m g → i < ds.length → J.go i g.H
  stop : ∀ g m, S g → HR K m g → J.stop ds.length g.H
  yld : ∀ i g m x H', S g → HR K m g → i < ds.length → J.yld i g.H x H' → ∃ d g', ds[i]? = some d ∧ Ex g g' ∧ HR K m g' ∧ g'.H = H' ∧ RD K g'.r g'.F d x
section
variable {K : PySem.W.Frag} {g1 : G} {m1 : Mem} {fo : Bool}
/-- the list at a stays -/
def StayL (K : PySem.W.Frag) (a : Addr) (vs : List V) (ds : List D) (S : G → Prop) : Prop := ∀ g m, S g → HR K m g → SqL K g.H a vs ∧ RDs K g.r g.F ds vs
def StayT (K : PySem.W.Frag) (a : Addr) (vs : List V) (ds : List D) (S : G → Prop) : Prop := ∀ g m, S g → HR K m g → SqT K g.H a vs ∧ RDs K g.r g.F ds vs
theorem stayL {ds : List D} {v : V} (hr1 : HR K m1 g1) (h : RA K g1 (.lst ds) v) (hfo : fo = true → RD K g1.r g1.F (.lst ds) v) (S : G → Prop) (hS : ∀ g, S g → StR fo g1 g ∧ ∃ t, g.r = g1.r ++ t) :
    ∃ a vs, v = .ref a ∧ g1.H a = some (.lst vs) ∧ StayL K a vs ds S := by
  cases fo with
  | true =>
    have h' := hfo rfl
    cases h' with
    | @lst a vs _ h1 h2 =>
      refine ⟨a, vs, rfl, hr1.sub _ _ h1, fun g m s hr => ?_⟩
      obtain ⟨s1, t, e⟩ := hS g s
      have sm : Same g1.F g.F := s1
      refine ⟨SqL.of (hr.sub _ _ (sm _ _ h1)), h2.mono (fun n b q => ?_) sm⟩
      rw [e, List.getElem?_append_left (List.getElem?_eq_some_iff.mp q).1]
      exact q
  | false =>
    obtain ⟨a, vs, rfl, h1, h3, h2⟩ := h.lst hr1
    refine ⟨a, vs, rfl, h1, fun g m s hr => ?_⟩
    obtain ⟨s1, _⟩ := hS g s
    have ex : Ex g1 g := s1
    exact ⟨SqL.of (ex.kep _ _ h1 h3), ex.rds h2⟩
theorem stayT {ds : List D} {v : V} (hr1 : HR K m1 g1) (h : RA K g1 (.tup ds) v) (S : G → Prop) (hS : ∀ g, S g → StR fo g1 g ∧ ∃ t, g.r = g1.r ++ t) :
    ∃ a vs, v = .ref a ∧ g1.H a = some (.tup vs) ∧ StayT K a vs ds S := by
  obtain ⟨a, vs, rfl, h1, h2⟩ := h.tup
  refine ⟨a, vs, rfl, hr1.sub _ _ h1, fun g m s hr => ?_⟩
  obtain ⟨s1, t, e⟩ := hS g s
  have sm : Same g1.F g.F := by
    cases fo with
    | true => exact s1
    | false =>
      have ex : Ex g1 g := s1
      exact ex.frz
  refine ⟨SqT.of (hr.sub _ _ (sm _ _ h1)), h2.mono (fun n b q => ?_) sm⟩
  rw [e, List.getElem?_append_left (List.getElem?_eq_some_iff.mp q).1]
  exact q
/-- how it may go on: the objects' places only grow, too -/
def StG (fo : Bool) (g1 g : G) : Prop := StR fo g1 g ∧ ∃ t, g.r = g1.r ++ t
theorem StG.of {g1 g : G} (e : Ex g1 g) : StG false g1 g := ⟨e, let ⟨t, h, _⟩ := e.pre; ⟨t, h⟩⟩
theorem get_lt {α : Type} {l : List α} {i : Nat} (h : i < l.length) : ∃ x, l[i]? = some x := ⟨_, List.getElem?_eq_getElem h⟩
variable {a : Addr} {vs : List V} {ds : List D} {S : G → Prop}
theorem wk_list (hl : ds.length ≤ sizeLine) (h : StayL K a vs ds S) : WkD K (Itl K a) ds S := by
  refine ⟨hl, fun i g m s hr hi => ?_, fun g m s hr => ?_, fun i g m x H' s hr hi y => ?_⟩
  · obtain ⟨q, r⟩ := h g m s hr
    obtain ⟨x, hx⟩ := get_lt (by rw [← r.length]; exact hi : i < vs.length)
    exact ⟨vs, x, q, hx⟩
  · obtain ⟨q, r⟩ := h g m s hr
    exact ⟨vs, q, by rw [r.length]; exact Nat.le_refl _⟩
  · obtain ⟨q, r⟩ := h g m s hr
    obtain ⟨rfl, y⟩ := y
    obtain ⟨d, hd, rd⟩ := r.getv (y vs q)
    exact ⟨d, g, hd, Ex.refl g, hr, rfl, rd⟩
theorem wk_tup (hl : ds.length ≤ sizeLine) (h : StayT K a vs ds S) : WkD K (Itt K a) ds S := by
  refine ⟨hl, fun i g m s hr hi => ?_, fun g m s hr => ?_, fun i g m x H' s hr hi y => ?_⟩
  · obtain ⟨q, r⟩ := h g m s hr
    obtain ⟨x, hx⟩ := get_lt (by rw [← r.length]; exact hi : i < vs.length)
    exact ⟨vs, x, q, hx⟩
  · obtain ⟨q, r⟩ := h g m s hr
    exact ⟨vs, q, by rw [r.length]; exact Nat.le_refl _⟩
  · obtain ⟨q, r⟩ := h g m s hr
    obtain ⟨rfl, y⟩ := y
    obtain ⟨d, hd, rd⟩ := r.getv (y vs q)
    exact ⟨d, g, hd, Ex.refl g, hr, rfl, rd⟩
theorem intsR_length (lo : Int) (n : Nat) : (intsR lo n).length = n := by
  unfold intsR
  rw [List.length_map, List.length_range]
theorem wk_range {lo : Int} {n : Nat} (hn : n ≤ sizeLine) : WkD K (Itr lo n) (intsR lo n) S := by
  refine ⟨by rw [intsR_length]; exact hn, fun i g m s hr hi => ?_, fun g m s hr => ?_, fun i g m x H' s hr hi y => ?_⟩
  · rw [intsR_length] at hi
    exact hi
  · rw [intsR_length]
    exact Nat.le_refl _
  · rw [intsR_length] at hi
    obtain ⟨rfl, rfl⟩ := y
    refine ⟨.int (lo + i), g, ?_, Ex.refl g, hr, rfl, .int _⟩
    unfold intsR
    rw [List.getElem?_map, List.getElem?_range hi]
    rfl
theorem wk_rangeC {lo c : Int} {n : Nat} (hn : n ≤ sizeLine) : WkD K (Itc lo c n) ((List.range n).map fun k => D.int (lo + (k : Nat) * c)) S := by
  refine ⟨by rw [List.length_map, List.length_range]; exact hn, fun i g m s hr hi => ?_, fun g m s hr => ?_, fun i g m x H' s hr hi y => ?_⟩
  · rw [List.length_map, List.length_range] at hi
    exact hi
  · rw [List.length_map, List.length_range]
    exact Nat.le_refl _
  · rw [List.length_map, List.length_range] at hi
    obtain ⟨rfl, rfl⟩ := y
    refine ⟨.int (lo + (i : Nat) * c), g, ?_, Ex.refl g, hr, rfl, .int _⟩
    rw [List.getElem?_map, List.getElem?_range hi]
    rfl
theorem pair_new {m : Mem} {g : G} {q : Addr} {d e : D} {x y : V} (hr : HR K m g) (hq : g.H q = none) (h1 : RD K g.r g.F d x) (h2 : RD K g.r g.F e y) :
    ∃ g', Ex g g' ∧ HR K m g' ∧ g'.H = upd g.H q (.tup [x, y]) ∧ RD K g'.r g'.F (.tup [d, e]) (.ref q) :=
  ⟨g.newF q (.tup [x, y]), Ex.newF hr hq, hr.newF hq, rfl, RD.newTup hr hq (.cons h1 (.one h2))⟩
theorem enumR_length (ds : List D) : (enumR ds).length = ds.length := by
  unfold enumR
  rw [List.length_map, List.length_zipIdx]
theorem enumR_get {ds : List D} {i : Nat} {d : D} (h : ds[i]? = some d) : (enumR ds)[i]? = some (.tup [.int (i : Nat), d]) := by
  unfold enumR
  rw [List.getElem?_map, List.getElem?_zipIdx, h]
  simp
theorem wk_enum (hl : ds.length ≤ sizeLine) (h : StayL K a vs ds S) : WkD K (Ite K a) (enumR ds) S := by
  refine ⟨by rw [enumR_length]; exact hl, fun i g m s hr hi => ?_, fun g m s hr => ?_, fun i g m x H' s hr hi y => ?_⟩
  · obtain ⟨q, r⟩ := h g m s hr
    rw [enumR_length] at hi
    obtain ⟨x, hx⟩ := get_lt (by rw [← r.length]; exact hi : i < vs.length)
    exact ⟨vs, x, q, hx⟩
  · obtain ⟨q, r⟩ := h g m s hr
    rw [enumR_length]
    exact ⟨vs, q, by rw [r.length]; exact Nat.le_refl _⟩
  · obtain ⟨q, r⟩ := h g m s hr
    obtain ⟨t, x', rfl, ht, rfl, y⟩ := y
    obtain ⟨d, hd, rd⟩ := r.getv (y vs q)
    obtain ⟨g', e1, e2, e3, e4⟩ := pair_new hr ht (.int ((i : Nat) : Int)) rd
    exact ⟨_, g', enumR_get hd, e1, e2, e3, e4⟩
theorem wk_enumT (hl : ds.length ≤ sizeLine) (h : StayT K a vs ds S) : WkD K (IteT K a) (enumR ds) S := by
  refine ⟨by rw [enumR_length]; exact hl, fun i g m s hr hi => ?_, fun g m s hr => ?_, fun i g m x H' s hr hi y => ?_⟩
  · obtain ⟨q, r⟩ := h g m s hr
    rw [enumR_length] at hi
    obtain ⟨x, hx⟩ := get_lt (by rw [← r.length]; exact hi : i < vs.length)
    exact ⟨vs, x, q, hx⟩
  · obtain ⟨q, r⟩ := h g m s hr
    rw [enumR_length]
    exact ⟨vs, q, r.length.symm⟩
  · obtain ⟨q, r⟩ := h g m s hr
    obtain ⟨t, x', rfl, ht, rfl, y⟩ := y
    obtain ⟨d, hd, rd⟩ := r.getv (y vs q)
    obtain ⟨g', e1, e2, e3, e4⟩ := pair_new hr ht (.int ((i : Nat) : Int)) rd
    exact ⟨_, g', enumR_get hd, e1, e2, e3, e4⟩
theorem pairsR_length (ds es : List D) : (pairsR ds es).length = min ds.length es.length := by
  unfold pairsR
  rw [List.length_map, List.length_zip]
theorem pairsR_get {ds es : List D} {i : Nat} {d e : D} (h : ds[i]? = some d) (h2 : es[i]? = some e) : (pairsR ds es)[i]? = some (.tup [d, e]) := by
  unfold pairsR
  rw [List.getElem?_map, List.getElem?_zip_eq_some (z := (d, e)) |>.mpr ⟨h, h2⟩]
  rfl
theorem wk_zip {b : Addr} {us : List V} {es : List D} (hl : ds.length ≤ sizeLine) (h : StayL K a vs ds S) (h2 : StayL K b us es S) : WkD K (Itz K a b) (pairsR ds es) S := by
  refine ⟨by rw [pairsR_length]; omega, fun i g m s hr hi => ?_, fun g m s hr => ?_, fun i g m x H' s hr hi y => ?_⟩
  · obtain ⟨q, r⟩ := h g m s hr
    obtain ⟨q2, r2⟩ := h2 g m s hr
    rw [pairsR_length, r.length, r2.length] at hi
    obtain ⟨x, hx⟩ := get_lt (show i < vs.length by omega)
    obtain ⟨y, hy⟩ := get_lt (show i < us.length by omega)
    exact ⟨vs, us, x, y, q, q2, hx, hy⟩
  · obtain ⟨q, r⟩ := h g m s hr
    obtain ⟨q2, r2⟩ := h2 g m s hr
    rw [pairsR_length, r.length, r2.length]
    exact ⟨vs, us, q, q2, by omega⟩
  · obtain ⟨q, r⟩ := h g m s hr
    obtain ⟨q2, r2⟩ := h2 g m s hr
    obtain ⟨t, x', y', rfl, ht, rfl, y1, y2⟩ := y
    obtain ⟨d, hd, rd⟩ := r.getv (y1 vs q)
    obtain ⟨d2, hd2, rd2⟩ := r2.getv (y2 us q2)
    obtain ⟨g', e1, e2, e3, e4⟩ := pair_new hr ht rd rd2
    exact ⟨_, g', pairsR_get hd hd2, e1, e2, e3, e4⟩
theorem wk_zipT {b : Addr} {us : List V} {es : List D} (hl : ds.length ≤ sizeLine) (h : StayT K a vs ds S) (h2 : StayT K b us es S) : WkD K (ItzT K a b) (pairsR ds es) S := by
  refine ⟨by rw [pairsR_length]; omega, fun i g m s hr hi => ?_, fun g m s hr => ?_, fun i g m x H' s hr hi y => ?_⟩
  · obtain ⟨q, r⟩ := h g m s hr
    obtain ⟨q2, r2⟩ := h2 g m s hr
    rw [pairsR_length, r.length, r2.length] at hi
    obtain ⟨x, hx⟩ := get_lt (show i < vs.length by omega)
    obtain ⟨y, hy⟩ := get_lt (show i < us.length by omega)
    exact ⟨vs, us, x, y, q, q2, hx, hy⟩
  · obtain ⟨q, r⟩ := h g m s hr
    obtain ⟨q2, r2⟩ := h2 g m s hr
    rw [pairsR_length, r.length, r2.length]
    exact ⟨vs, us, q, q2, by omega⟩
  · obtain ⟨q, r⟩ := h g m s hr
    obtain ⟨q2, r2⟩ := h2 g m s hr
    obtain ⟨t, x', y', rfl, ht, rfl, y1, y2⟩ := y
    obtain ⟨d, hd, rd⟩ := r.getv (y1 vs q)
    obtain ⟨d2, hd2, rd2⟩ := r2.getv (y2 us q2)
    obtain ⟨g', e1, e2, e3, e4⟩ := pair_new hr ht rd rd2
    exact ⟨_, g', pairsR_get hd hd2, e1, e2, e3, e4⟩
theorem wk_rev (hl : ds.length ≤ sizeLine) (h : StayL K a vs ds S) (hlen : vs.length = ds.length) : WkD K (Itv K a vs.length) ds.reverse S := by
  refine ⟨by rw [List.length_reverse]; exact hl, fun i g m s hr hi => ?_, fun g m s hr => ?_, fun i g m x H' s hr hi y => ?_⟩
  · obtain ⟨q, r⟩ := h g m s hr
    rw [List.length_reverse] at hi
    obtain ⟨x, hx⟩ := get_lt (show vs.length - 1 - i < vs.length by omega)
    exact ⟨by omega, vs, x, q, hx⟩
  · rw [List.length_reverse, ← hlen]
    exact Nat.le_refl _
  · obtain ⟨q, r⟩ := h g m s hr
    rw [List.length_reverse] at hi
    obtain ⟨rfl, y⟩ := y
    obtain ⟨d, hd, rd⟩ := r.getv (y vs q)
    refine ⟨d, g, ?_, Ex.refl g, hr, rfl, rd⟩
    rw [List.getElem?_reverse hi, ← hlen]
    exact hd
theorem wk_revT (hl : ds.length ≤ sizeLine) (h : StayT K a vs ds S) (hlen : vs.length = ds.length) : WkD K (ItvT K a vs.length) ds.reverse S := by
  refine ⟨by rw [List.length_reverse]; exact hl, fun i g m s hr hi => ?_, fun g m s hr => ?_, fun i g m x H' s hr hi y => ?_⟩
  · obtain ⟨q, r⟩ := h g m s hr
    rw [List.length_reverse] at hi
    obtain ⟨x, hx⟩ := get_lt (show vs.length - 1 - i < vs.length by omega)
    exact ⟨by omega, vs, x, q, hx⟩
  · rw [List.length_reverse, ← hlen]
    exact Nat.le_refl _
  · obtain ⟨q, r⟩ := h g m s hr
    rw [List.length_reverse] at hi
    obtain ⟨rfl, y⟩ := y
    obtain ⟨d, hd, rd⟩ := r.getv (y vs q)
    refine ⟨d, g, ?_, Ex.refl g, hr, rfl, rd⟩
    rw [List.getElem?_reverse hi, ← hlen]
    exact hd
end
section
variable (K : PySem.W.Frag) (Tx : XI) (C : Call) (W : WX) (fo : Bool)
def tR (s : Src) : TI := fun σ H R => ∃ env m g, g.H = H ∧ ER K env g σ ∧ HR K m g ∧ Post K Tx (fun g1 ds J => WkD K J ds (StG fo g1)) (evR C s env m) g (fun J H' => R J H') (wat W σ)
end
end PF

set_option Elab.async false
set_option linter.all false
set_option maxRecDepth 100000
set_option maxHeartbeats 4000000
/-! PFf: what a def promises (the guards told), calls, a def by its body. -/
namespace PF
open PySem PySem.Spec PyProof.Rows L2

def nst : Expr → Bool
  | .Starred _ _ => false
  | _ => true
theorem star_cons {e : Expr} (h : nst e = true) (es : List Expr) (env : Env) : starEach (e :: es) env = (false, eval e env) :: starEach es env := by
  cases e <;> first | rfl | cases h
theorem star_none : ∀ {es : List Expr} (h : es.all nst = true) (pos : Pos) (env : Env), (backTo pos (starEach es env)).any (·.1) = false
  | [], _, _, _ => rfl
  | e :: es, h, pos, env => by
    rw [List.all_cons, Bool.and_eq_true] at h
    rw [star_cons h.1]
    show (false || (backTo pos (starEach es env)).any (·.1)) = false
    rw [star_none h.2]
    rfl
structure FO (P : Program) (w : World) (K : PySem.W.Frag) (mg : Str → Option Value) (base : Heap) (k : Nat) (f : Addr) (fd : FuncData) (ps : List Str) (sp : Sp) : Prop where
  len : ∀ vs H Q E, sp vs H Q E → vs.length = ps.length
  run : ∀ (A : Around) (outer : List Env) (s : Shared) (H : Hp) (args : Args) (us : List Value) (vs : List V) (Q : VK) (E : XK), Room k A → A.guards = some [] → Env0 P w K mg base A outer s H → BindsTo s fd args (ps.zip us) → Vals vs us → sp vs H Q E →
    codeAny (model P w) A (.call (.ref f) args) (CR (L2.CX P w) outer P w H s Q E) s

section
variable {X : Cx} {k : Nat} {f : Addr} {fd : FuncData} {ps : List Str} {sp : Sp} {W : WX}
theorem run_fo {pins : List (Addr × Obj)} {σ : L2.St} {H : Hp} {s : Shared} {Q : VK} {us full : List Value} {kw : List (Str × Value)} {vs : List V} (F : FO X.prog X.w X.K X.mg X.base k f fd ps sp) (hr : Room k X.A) (hg : X.A.guards = some []) (tk : Takes X W)
    (I : Inv X pins σ H s) (hb : bindArgs fd ⟨us, kw⟩ = pure (ps.zip full)) (r : Vals vs full) (h : sp vs H Q (wat W σ)) : wpAny (model X.prog X.w) X.A (call (.ref f) us kw) (EP X pins σ Q) X.xe s := by
  refine wpAny_call (codeAny_mono (F.run X.A X.stack s H ⟨us, kw⟩ full vs Q (wat W σ) hr hg I.env0 (.of_eq hb) r h) fun r s' hq => ?_)
  cases r with
  | error e => exact passAt tk σ pins H s e s' I hq
  | ok fl =>
    cases fl with
    | ret u => exact I.after hq
    | next => exact False.elim hq
    | brk => exact False.elim hq
    | cont => exact False.elim hq
def tCallW (sp : Sp) (W : WX) (t : TA) : TE := fun σ H Q => t σ H fun vs H1 => sp vs H1 Q (wat W σ)
/-- all arguments by place -/
theorem pe_callF {x : Str} {p pos : Pos} {e : Expr} {es : List Expr} {t : TA} (F : FO X.prog X.w X.K X.mg X.base k f fd ps sp) (hr : Room k X.A) (hgd : X.A.guards = some []) (tk : Takes X W) (hg : Gl X x) (hm : X.mg x = some (.ref f)) (hk : PySem.W.keepIn X.K (.ref f) = true)
    (hb : ∀ us : List Value, us.length = ps.length → bindArgs fd ⟨us, []⟩ = pure (ps.zip us)) (ha : PA X (e :: es) t) (hdb : (x == ("__debug__" : Str)) = false) (hst : (e :: es).all nst = true) :
    PE X (.Call (.Name x p) (e :: es) [] pos) (tCallW sp W t) := by
  rw [List.all_cons, Bool.and_eq_true] at hst
  refine ⟨fun pins s σ H Q I h => ?_⟩
  refine wpAny_Call_Name_kw (ld_glob I hg hm ?_ hdb)
  refine PySem.W.callWith_K (h₀ := X.base) I.ok.mod.kin hk (thn (ha.run pos pins s σ H _ I h) fun us s1 ⟨vs, H1, I1, r, q⟩ => ⟨I1.kIn, ?_⟩) (star_cons hst.1 es _) (star_none hst.2 pos _)
  exact run_fo F hr hgd tk I1 (hb us (by rw [← r.length]; exact F.len _ _ _ _ q)) r q
theorem pe_callF0 {x : Str} {p pos : Pos} (F : FO X.prog X.w X.K X.mg X.base k f fd ps sp) (hr : Room k X.A) (hgd : X.A.guards = some []) (tk : Takes X W) (hg : Gl X x) (hm : X.mg x = some (.ref f)) (hk : PySem.W.keepIn X.K (.ref f) = true)
    (hb : ∀ us : List Value, us.length = ps.length → bindArgs fd ⟨us, []⟩ = pure (ps.zip us)) (hdb : (x == ("__debug__" : Str)) = false) :
    PE X (.Call (.Name x p) [] [] pos) (tCallW sp W tNil) := by
  refine ⟨fun pins s σ H Q I h => ?_⟩
  refine wpAny_Call_Name_kw (ld_glob I hg hm ?_ hdb)
  exact PySem.W.callWith_K0 I.kIn hk (run_fo F hr hgd tk I (hb [] (by rw [← F.len _ _ _ _ (show sp [] H Q (wat W σ) from h)]; rfl)) .nil h)
/-- how positional values and keywords' ones come to the parameters -/
def SigOk (fd : FuncData) (ps ks : List Str) (n : Nat) (perm : List Nat) : Prop := ∀ us ws : List Value, us.length = n → ws.length = ks.length → bindArgs fd ⟨us, ks.zip ws⟩ = pure (ps.zip (perm.map fun j => (us ++ ws).getD j .none))
theorem perm_vals {vs : List V} {us : List Value} (r : Vals vs us) : ∀ perm : List Nat, perm.all (fun j => decide (j < vs.length)) = true → Vals (perm.map fun j => vs.getD j .non) (perm.map fun j => us.getD j .none)
  | [], _ => .nil
  | j :: perm, h => by
    rw [List.all_cons, Bool.and_eq_true, decide_eq_true_eq] at h
    refine .cons ?_ (perm_vals r perm h.2)
    obtain ⟨u, hu, ru⟩ := r.get (List.getElem?_eq_getElem h.1)
    show RelV (vs.getD j V.non) (us.getD j Value.none)
    rw [List.getD_eq_getElem?_getD, List.getD_eq_getElem?_getD, hu, List.getElem?_eq_getElem h.1]
    exact ru
def tCallKW (sp : Sp) (perm : List Nat) (W : WX) (n k : Nat) (t u : TA) : TE := fun σ H Q => t σ H fun vs H1 => u σ H1 fun zs H2 => vs.length = n ∧ zs.length = k ∧ sp (perm.map fun j => (vs ++ zs).getD j .non) H2 Q (wat W σ)
theorem kw_all (ks : List Str) {kws : List Keyword} (h : kws.map (·.arg) = ks.map some) (pos : Pos) (env : Env) : (backToKw pos (keywordEach kws env)).all (·.1.isSome) = true ∧ (backToKw pos (keywordEach kws env)).filterMap (·.1) = ks ∧ (backToKw pos (keywordEach kws env)).any (·.1.isNone) = false := by
  induction kws generalizing ks with
  | nil =>
    cases ks with
    | nil => exact ⟨rfl, rfl, rfl⟩
    | cons x r => cases h
  | cons kw kws ih =>
    cases ks with
    | nil => cases h
    | cons x r =>
      rw [List.map_cons, List.map_cons] at h
      injection h with h1 h2
      obtain ⟨nm, v, p⟩ := kw
      have h1' : nm = some x := h1
      subst h1'
      obtain ⟨i1, i2, i3⟩ := ih r h2
      refine ⟨?_, ?_, ?_⟩
      · show (true && (backToKw pos (keywordEach kws env)).all (·.1.isSome)) = true
        rw [i1]
        rfl
      · show x :: (backToKw pos (keywordEach kws env)).filterMap (·.1) = x :: r
        rw [i2]
      · show (false || (backToKw pos (keywordEach kws env)).any (·.1.isNone)) = false
        rw [i3]
        rfl
theorem pe_callFK {x : Str} {p pos : Pos} {e : Expr} {es : List Expr} {kws : List Keyword} {ks : List Str} {n : Nat} {perm : List Nat} {t tk' : TA} (F : FO X.prog X.w X.K X.mg X.base k f fd ps sp) (hr : Room k X.A) (hgd : X.A.guards = some []) (tk : Takes X W) (hg : Gl X x) (hm : X.mg x = some (.ref f)) (hk : PySem.W.keepIn X.K (.ref f) = true)
    (hb : SigOk fd ps ks n perm) (hpm : perm.all (fun j => decide (j < n + ks.length)) = true) (hks : kws.map (·.arg) = ks.map some) (ha : PA X (e :: es) t) (hkw : PK X kws tk') (hdb : (x == ("__debug__" : Str)) = false) (hst : (e :: es).all nst = true) :
    PE X (.Call (.Name x p) (e :: es) kws pos) (tCallKW sp perm W n ks.length t tk') := by
  have hst' := hst
  rw [List.all_cons, Bool.and_eq_true] at hst
  refine ⟨fun pins s σ H Q I h => ?_⟩
  refine wpAny_Call_Name_kw (ld_glob I hg hm ?_ hdb)
  obtain ⟨k1, k2, k3⟩ := kw_all ks hks pos X.env
  refine PySem.W.callWith_KW (h₀ := X.base) I.ok.mod.kin hk k1 (thn (ha.run pos pins s σ H _ I h) fun us s1 ⟨vs, H1, I1, r, q⟩ => ?_) (by rw [star_none hst', k3]; rfl) (star_cons hst.1 es _)
  refine thn (hkw.run pos pins s1 σ H1 _ I1 q) fun ws s2 ⟨zs, H2, I2, rz, q1, q2, q3⟩ => ⟨I2.kIn, ?_⟩
  rw [k2]
  have l1 : us.length = n := by rw [← r.length]; exact q1
  have l2 : ws.length = ks.length := by rw [← rz.length]; exact q2
  refine run_fo F hr hgd tk I2 (hb us ws l1 l2) ?_ q3
  exact perm_vals (r.append rz) perm (by rw [List.length_append, q1, q2]; exact hpm)
theorem pe_callFK0 {x : Str} {p pos : Pos} {kws : List Keyword} {ks : List Str} {perm : List Nat} {tk' : TA} (F : FO X.prog X.w X.K X.mg X.base k f fd ps sp) (hr : Room k X.A) (hgd : X.A.guards = some []) (tk : Takes X W) (hg : Gl X x) (hm : X.mg x = some (.ref f)) (hk : PySem.W.keepIn X.K (.ref f) = true)
    (hb : SigOk fd ps ks 0 perm) (hpm : perm.all (fun j => decide (j < 0 + ks.length)) = true) (hks : kws.map (·.arg) = ks.map some) (hkw : PK X kws tk') (hdb : (x == ("__debug__" : Str)) = false) :
    PE X (.Call (.Name x p) [] kws pos) (tCallKW sp perm W 0 ks.length tNil tk') := by
  refine ⟨fun pins s σ H Q I h => ?_⟩
  refine wpAny_Call_Name_kw (ld_glob I hg hm ?_ hdb)
  obtain ⟨k1, k2, k3⟩ := kw_all ks hks pos X.env
  refine PySem.W.callWith_KW0 (h₀ := X.base) I.ok.mod.kin hk k1 (thn (hkw.run pos pins s σ H _ I h) fun ws s2 ⟨zs, H2, I2, rz, q1, q2, q3⟩ => ⟨I2.kIn, ?_⟩) (by rw [k3]; rfl)
  rw [k2]
  have l2 : ws.length = ks.length := by rw [← rz.length]; exact q2
  refine run_fo F hr hgd tk I2 (hb [] ws rfl l2) ?_ q3
  exact perm_vals (Vals.append .nil rz) perm (by rw [List.length_append, q2]; exact hpm)
end

/-- a def of the text, by its body -/
theorem fo_of {P : Program} {w : World} {K : PySem.W.Frag} {mg : Str → Option Value} {base : Heap} {k : Nat} {f : Addr} {x qual : Str} {st : Stmt} {fd : FuncData} {N ps : List Str} {sp : Sp} (F : Fun K x qual st f fd) (S : FnScope N ps (defScope st))
    (len : ∀ vs H Q E, sp vs H Q E → vs.length = ps.length)
    (hbody : ∀ (cdv : Value) (A : Around) (outer : List Env) (s : Shared) (H : Hp) (vs : List V) (Q : VK) (E : XK), Room k (A.deeper (envOfC qual (defScope st) s.heap.objs.size f cdv)) → A.guards = some [] → sp vs H Q E →
      ∃ t, PSs (cxOf (L2.CX P w) P w K mg base N qual (defScope st) f cdv A outer s H E) (defBody st) t ∧ t { nx := fun _ H' => Q .non H', rt := Q } (start N vs) H) :
    FO P w K mg base (k + 1) f fd ps sp := by
  obtain ⟨oc, od, kV, doc, pm, an, cdv, ct, osl, rfl, lk, hcd⟩ := F.ex
  refine ⟨len, fun A outer s H args us vs Q E hr hg e0 hb r hsp => ?_⟩
  have hl := len _ _ _ _ hsp
  have KX : K.In s.heap := e0.mod.kin.keeps fun b o e => (e0.bs b o e).1
  have lim : s.heap.NoLimit := e0.mod.nolimit.keeps fun b o e => (e0.bs b o e).1
  have hkind : ∀ y ∈ ps.zip us, (defScope st).names.lookup y.1 = some .local ∨ ((defScope st).names.lookup y.1 = some .cell ∧ ((cellsFrom (s.heap.objs.size + 1) (defScope st).names []).lookup y.1).isSome = true) := by
    rintro ⟨n, v⟩ hy
    rcases S.par n (List.of_mem_zip hy).1 with q | q
    · exact .inl q
    · exact .inr ⟨q, PySem.W.cellsFrom_some _ _ _ (.inl q)⟩
  refine codeAny_call_function hr.depth (KX _ _ lk) rfl S.co S.gen rfl (PySem.W.codeRec_of KX hcd) (hb _ _ _ _ ?_)
  refine wpAny_newFunctionEnv_cells S.kind hkind fun env he s1 x => ?_
  subst he
  refine ⟨lim.keeps x.toInCall.keep, codeAny_func ?_⟩
  obtain ⟨t, ht, hq⟩ := hbody cdv A outer s H vs Q E (hr.deeper _) hg hsp
  have I : Inv (cxOf (L2.CX P w) P w K mg base N qual (defScope st) f cdv A outer s H E) [] (start N vs) H s1 := inv_start S hr.hd e0 hl r x
  refine wpAny_mono (ht.run [] s1 (start N vs) H _ I hq) (fun fl s' hs => ?_) fun e s' hs => hs
  have fin : ∀ {σ' : L2.St} {H' : Hp} {v : V} {u : Value}, Inv (cxOf (L2.CX P w) P w K mg base N qual (defScope st) f cdv A outer s H E) [] σ' H' s' → RelV v u → Q v H' → CE outer P w H s Q u s' := fun {σ' H' v u} J rv q =>
    ⟨v, H', J.os, J.bare, J.base, J.hok, rv, q⟩
  cases fl with
  | ret u =>
    obtain ⟨v, σ', H', J, rv, q⟩ := hs
    exact fin J rv q
  | next =>
    obtain ⟨σ', H', J, q⟩ := hs
    exact fin (v := V.non) (u := Value.none) J rfl q
  | brk =>
    obtain ⟨_, _, _, q⟩ := hs
    exact False.elim q
  | cont =>
    obtain ⟨_, _, _, q⟩ := hs
    exact False.elim q
end PF

set_option Elab.async false
set_option linter.all false
set_option maxRecDepth 100000
set_option maxHeartbeats 4000000
/-! PFg: the program's table, the looks that hold the language's text against the model's, targets. -/
namespace PF
open PySem PySem.Spec PyProof.Rows L2

/-- the built-in names that are used -/
def bnames : List Str := ["len", "min", "max", "sum", "abs", "all", "any", "tuple", "int", "isinstance", "repr", "list", "reversed", "range", "enumerate", "zip", "sorted", "bool", "str"]
structure TD where
  fs : List FR
  nm : List Str
  ps : List (List Str)
  sg : List (Nat × Nat × List Str × List Nat)
  gl : List (Str × Int)
  xi : XI
/-- what the top has left -/
structure Fa (D0 : TD) (K : PySem.W.Frag) (mg : Str → Option Value) (fa : Nat → Addr) (fd : Nat → FuncData) : Prop where
  fn : ∀ (f : Nat) (x : Str), D0.nm[f]? = some x → mg x = some (.ref (fa f)) ∧ PySem.W.keepIn K (.ref (fa f)) = true
  ps : ∀ (f : Nat) (ps : List Str), D0.ps[f]? = some ps → ∀ us : List Value, us.length = ps.length → bindArgs (fd f) ⟨us, []⟩ = pure (ps.zip us)
  sg : ∀ (f n : Nat) (ks : List Str) (perm : List Nat), (f, n, ks, perm) ∈ D0.sg → ∃ ps, D0.ps[f]? = some ps ∧ SigOk (fd f) ps ks n perm
  gl : ∀ (x : Str) (i : Int), (x, i) ∈ D0.gl → ∃ t, mg x = some (.int i t)
  bl : ∀ x ∈ bnames, mg x = none
/-- what a def promises: what its meaning says -/
def spI (K : PySem.W.Frag) (D0 : TD) (n f : Nat) : Sp := fun vs H Q E => ∃ ds m g, g.H = H ∧ HR K m g ∧ RDs K g.r g.F ds vs ∧ Post K D0.xi (RDg K) (callF D0.fs n f ds m) g Q E
/-- where one stands: the names by slot, the scope, what may be stored -/
structure Gam where
  N : List Str
  sc : Scope
  sto : Str → Bool
def Gam.vis (Γ : Gam) (x : Str) : Bool := match Γ.sc.names.lookup x with
  | some .local | some .cell | some .free => true
  | _ => false
def Gam.glb (Γ : Gam) (x : Str) : Bool := match Γ.sc.names.lookup x with
  | some .globalImplicit => true
  | _ => false
def Gam.loc (Γ : Gam) (x : Str) : Bool := match Γ.sc.names.lookup x with
  | some .local => true
  | _ => false
def okn (x : Str) : Bool := !(x == ("__debug__" : Str)) && !(x == ("__classdict__" : Str)) && !(x == ("__name__" : Str))
structure Gd (D0 : TD) (fa : Nat → Addr) (fd : Nat → FuncData) (n : Nat) (Γ : Gam) (W : WX) (X : Cx) : Prop where
  fns : ∀ (f : Nat) (ps : List Str), D0.ps[f]? = some ps → FO X.prog X.w X.K X.mg X.base n (fa f) (fd f) ps (spI X.K D0 n f)
  fac : Fa D0 X.K X.mg fa fd
  room : Room n X.A
  grd : X.A.guards = some []
  calm : X.calm = true
  nN : X.N = Γ.N
  nd : Γ.N.Nodup
  sc : X.env.scope = Γ.sc
  sto : ∀ x, Γ.sto x = true → Loc Γ.sc x ∧ (X.fn x = true ∨ Γ.sc.names.lookup x = some .local)
  tk : Takes X W
section
variable {D0 : TD} {fa : Nat → Addr} {fd : Nat → FuncData} {n : Nat} {Γ : Gam} {W : WX} {X : Cx}
theorem Gam.vis_of {x : Str} (h : Γ.vis x = true) : Vis Γ.sc x := by
  unfold Gam.vis at h
  unfold Vis
  split at h
  · exact .inl (by assumption)
  · exact .inr (.inl (by assumption))
  · exact .inr (.inr (by assumption))
  · cases h
theorem Gd.glb (G : Gd D0 fa fd n Γ W X) {x : Str} (h : Γ.glb x = true) : Gl X x := by
  unfold Gam.glb at h
  show X.env.scope.names.lookup x = _
  rw [G.sc]
  split at h
  · assumption
  · cases h
theorem Gd.vis (G : Gd D0 fa fd n Γ W X) {x : Str} (h : Γ.vis x = true) : Vis X.env.scope x := by
  rw [G.sc]
  exact Gam.vis_of h
theorem okn_debug {x : Str} (h : okn x = true) : (x == ("__debug__" : Str)) = false := by
  unfold okn at h
  simp only [Bool.and_eq_true, Bool.not_eq_true'] at h
  exact h.1.1
theorem okn_cd {x : Str} (h : okn x = true) : (x == ("__classdict__" : Str)) = false := by
  unfold okn at h
  simp only [Bool.and_eq_true, Bool.not_eq_true'] at h
  exact h.1.2
end

/-! ### the looks -/
def cnC : Cn → Const → Bool
  | .non, .none => true
  | .bl b, .bool c => b == c
  | .int i, .int j => i == j
  | .str x, .str y => decide (x = y) && PySem.PyData.strOk x
  | _, _ => false
/-- no slice as an index -/
def nsl : Expr → Bool
  | .Slice _ _ _ _ => false
  | _ => true
/-- not a call -/
def ncal : Expr → Bool
  | .Call _ _ _ _ => false
  | _ => true
/-- not a set -/
def nset : Expr → Bool
  | .Set _ _ _ => false
  | _ => true
/-- not a comprehension -/
def ncomp : Expr → Bool
  | .ListComp _ _ _ _ | .SetComp _ _ _ _ | .DictComp _ _ _ _ _ => false
  | _ => true
/-- a test by its value's truth -/
def plainT : Expr → Bool
  | .UnaryOp .Not _ _ | .BoolOp _ _ _ | .IfExp _ _ _ _ | .Compare _ _ _ _ => false
  | _ => true
def Bi.name : Bi → Str
  | .len => "len"
  | .min2 | .minl => "min"
  | .max2 | .maxl => "max"
  | .suml => "sum"
  | .abs => "abs"
  | .all => "all"
  | .any => "any"
  | .tup => "tuple"
  | .int => "int"
  | .isInt | .isBool | .isTup | .isStr | .isList => "isinstance"
  | .repr => "repr"
def Bi.tyName : Bi → Str
  | .isInt => "int"
  | .isBool => "bool"
  | .isTup => "tuple"
  | .isStr => "str"
  | .isList => "list"
  | _ => ""
mutual
def Tg.slots : Tg → List Nat
  | .nm i => [i]
  | .tup ts => Tgs.slots ts
def Tgs.slots : Tgs → List Nat
  | .nil => []
  | .cons t r => Tg.slots t ++ Tgs.slots r
end
/-- a test that is and, or -/
def T.isW : T → Bool
  | .tand _ _ | .tor _ _ | .t1 _ => true
  | _ => false
/-- not a list of one's own -/
def E.nown : E → Bool
  | .own _ => false
  | _ => true
def E.isC : E → Bool
  | .cmp _ _ _ | .isN _ | .notN _ | .chain _ _ _ _ _ | .oeqn _ => true
  | _ => false
/-- within a comprehension -/
def Gam.blk (Γ : Gam) (scope : Scope) : Gam where
  N := Γ.N
  sc := relS scope Γ.sc
  sto := fun x => decide ((relS scope Γ.sc).names.lookup x = some .local) || (decide ((relS scope Γ.sc).names.lookup x = some .cell) && decide (scope.names.lookup x = some .cell))
def ownOf (N : List Str) (vs : List Nat) : List (Str × Nat) := vs.map fun i => (N.getD i "", i)
mutual
def ckG (Γ : Gam) : Tg → Expr → Bool
  | .nm i, e => match e with
    | .Name x _ => decide (Γ.N[i]? = some x) && Γ.sto x
    | _ => false
  | .tup ts, e => match e with
    | .Tuple es _ _ => ckGs Γ ts es && es.all nst
    | _ => false
def ckGs (Γ : Gam) : Tgs → List Expr → Bool
  | .nil, es => es.isEmpty
  | .cons t r, es => match es with
    | e :: es => ckG Γ t e && ckGs Γ r es
    | [] => false
end
def Gam.bi (Γ : Gam) (x y : Str) : Bool := decide (x = y) && Γ.glb y
/-- a list of one's own as an operand -/
def ckW (Γ : Gam) : E → Expr → Bool
  | .own i, .Name x _ => decide (Γ.N[i]? = some x) && Γ.vis x && okn x
  | _, _ => false
mutual
def ckE (D0 : TD) (Γ : Gam) : E → Expr → Bool
  | .var i, e => match e with
    | .Name x _ => decide (Γ.N[i]? = some x) && Γ.vis x && okn x
    | _ => false
  | .cn c, e => match e with
    | .Constant k _ _ => cnC c k
    | _ => false
  | .own _, _ => false
  | .glob x i, e => match e with
    | .Name y _ => decide (x = y) && Γ.glb y && okn y && decide ((x, i) ∈ D0.gl)
    | _ => false
  | .tup es, e => match e with
    | .Tuple xs _ _ => ckEs D0 Γ es xs && decide (xs.length ≤ 1000)
    | _ => false
  | .fr f, e => ckF D0 Γ f e
  | .newo f, e => ckF D0 Γ f e
  | .bin op a b, e => match e with
    | .BinOp x o y _ => decide (o = op.py) && (ckW Γ a x || ckE D0 Γ a x) && (ckW Γ b y || ckE D0 Γ b y)
    | _ => false
  | .neg a, e => match e with
    | .UnaryOp .USub x _ => ckE D0 Γ a x
    | _ => false
  | .notv a, e => match e with
    | .UnaryOp .Not x _ => ckE D0 Γ a x
    | _ => false
  | .cmp op a b, e => match e with
    | .Compare x [o] [y] _ => decide (o = op.py) && (ckW Γ a x || ckE D0 Γ a x) && (ckW Γ b y || ckE D0 Γ b y) && nset y
    | _ => false
  | .isN a, e => match e with
    | .Compare x [.Is] [.Constant .none _ _] _ => ckE D0 Γ a x
    | _ => false
  | .notN a, e => match e with
    | .Compare x [.IsNot] [.Constant .none _ _] _ => ckE D0 Γ a x
    | _ => false
  | .chain o1 o2 a b c, e => match e with
    | .Compare x [p, q] [y, z] _ => decide (p = o1.py) && decide (q = o2.py) && ckE D0 Γ a x && ckE D0 Γ b y && ckE D0 Γ c z && nset y && nset z
    | _ => false
  | .andv a b, e => match e with
    | .BoolOp .And (x :: y :: r) p => ckE D0 Γ a x && ckE D0 Γ b (.BoolOp .And (y :: r) p)
    | _ => false
  | .orv a b, e => match e with
    | .BoolOp .Or (x :: y :: r) p => ckE D0 Γ a x && ckE D0 Γ b (.BoolOp .Or (y :: r) p)
    | _ => false
  | .one a, e => match e with
    | .BoolOp _ [x] _ => ckE D0 Γ a x
    | _ => false
  | .ife t a b, e => match e with
    | .IfExp c x y _ => ckT D0 Γ t c && ckE D0 Γ a x && ckE D0 Γ b y
    | _ => false
  | .idx a i, e => match e with
    | .Subscript x y _ => (ckW Γ a x || ckE D0 Γ a x) && ckE D0 Γ i y && nsl y
    | _ => false
  | .slt a lo hi, e => match e with
    | .Subscript x (.Slice l h none _) _ => ckE D0 Γ a x && ckO D0 Γ lo l && ckO D0 Γ hi h
    | _ => false
  | .revt a, e => false
  | .call f es, e => match e with
    | .Call (.Name x _) xs [] _ => decide (D0.nm[f]? = some x) && Γ.glb x && okn x && ckEs D0 Γ es xs && xs.all nst && decide (f < D0.ps.length)
    | _ => false
  | .callk f perm es ks, e => match e with
    | .Call (.Name x _) xs kws _ => decide (D0.nm[f]? = some x) && Γ.glb x && okn x && ckEs D0 Γ es xs && xs.all nst && ckK D0 Γ ks kws && kws.all (·.arg.isSome) &&
        decide ((f, xs.length, kws.filterMap (·.arg), perm) ∈ D0.sg) && perm.all (fun j => decide (j < xs.length + kws.length))
    | _ => false
  | .bi b es, e => match e with
    | .Call (.Name x _) xs [] _ => Γ.bi b.name x && (if b.isi then (match xs with
        | [y, .Name z _] => ckAs D0 Γ es [y] && nst y && Γ.bi b.tyName z
        | _ => false) else ckAs D0 Γ es xs && xs.all nst && !xs.isEmpty)
    | _ => false
  | .mt k o es, e => match k, e with
    | .bits, .Call (.Attribute x nm ap) [] [] pos => decide (nm = ("bit_length" : Str)) && (ckW Γ o x || ckE D0 Γ o x) && ncal x && (ap.endLine == pos.line) && ckEs D0 Γ es []
    | .index, .Call (.Attribute x nm ap) [y] [] pos => decide (nm = ("index" : Str)) && (ckW Γ o x || ckE D0 Γ o x) && ncal x && (ap.endLine == pos.line) && ckEs D0 Γ es [y]
    | _, _ => false
  | .oidx a i, e => match e with
    | .Subscript x y _ => ckE D0 Γ a x && ckE D0 Γ i y && nsl y
    | _ => false
  | .oeqn a, e => match e with
    | .Compare x [.Eq] [.List [] _] _ => ckE D0 Γ a x
    | _ => false
  | .opop a, e => match e with
    | .Call (.Attribute x nm ap) [] [] pos => decide (nm = ("pop" : Str)) && ckE D0 Γ a x && ncal x && (ap.endLine == pos.line)
    | _ => false
  | .tuprng lo hi, e => match e with
    | .Call (.Name x _) [.Call (.Name y _) xs [] _] [] _ => Γ.bi "tuple" x && Γ.bi "range" y && (match lo, xs with
        | .no, [h] => ckE D0 Γ hi h && nst h
        | .so l, [l', h] => ckE D0 Γ l l' && ckE D0 Γ hi h && nst l' && nst h
        | _, _ => false)
    | _ => false
def ckT (D0 : TD) (Γ : Gam) : T → Expr → Bool
  | .tru, _ => false
  | .ex a, e => plainT e && (ckW Γ a e || ckE D0 Γ a e)
  | .nt t, e => match e with
    | .UnaryOp .Not x _ => ckT D0 Γ t x
    | _ => false
  | .tand t u, e => match e with
    | .BoolOp .And (x :: y :: r) p => ckT D0 Γ t x && u.isW && ckT D0 Γ u (.BoolOp .And (y :: r) p)
    | _ => false
  | .tor t u, e => match e with
    | .BoolOp .Or (x :: y :: r) p => ckT D0 Γ t x && u.isW && ckT D0 Γ u (.BoolOp .Or (y :: r) p)
    | _ => false
  | .t1 t, e => match e with
    | .BoolOp _ [x] _ => ckT D0 Γ t x
    | _ => false
  | .cmp a, e => a.isC && ckE D0 Γ a e
def ckEs (D0 : TD) (Γ : Gam) : Es → List Expr → Bool
  | .nil, xs => xs.isEmpty
  | .cons a r, xs => match xs with
    | x :: xs => nst x && ckE D0 Γ a x && ckEs D0 Γ r xs
    | [] => false
def ckAs (D0 : TD) (Γ : Gam) : Es → List Expr → Bool
  | .nil, xs => xs.isEmpty
  | .cons a r, xs => match xs with
    | x :: xs => nst x && (ckW Γ a x || ckE D0 Γ a x) && ckAs D0 Γ r xs
    | [] => false
def ckK (D0 : TD) (Γ : Gam) : Es → List Keyword → Bool
  | .nil, xs => xs.isEmpty
  | .cons a r, xs => match xs with
    | ⟨_, x, _⟩ :: xs => ckE D0 Γ a x && ckK D0 Γ r xs
    | [] => false
def ckO (D0 : TD) (Γ : Gam) : Oe → Option Expr → Bool
  | .no, o => o.isNone
  | .so a, o => match o with
    | some x => ckE D0 Γ a x
    | none => false
def ckF (D0 : TD) (Γ : Gam) : Fr → Expr → Bool
  | .lst es, e => match e with
    | .List xs _ => ckEs D0 Γ es xs && decide (xs.length ≤ 1000)
    | _ => false
  | .comp vs tg s c x, e => match e with
    | .ListComp elt [⟨t, iter, ifs, 0⟩] scope _ => ckR D0 Γ false s t iter && nset iter && ckG (Γ.blk scope) tg t && (tg.slots.all fun i => decide (i ∈ vs)) && ckE D0 (Γ.blk scope) x elt && blkC Γ.N Γ.sc scope (ownOf Γ.N vs) && (match c, ifs with
        | .tru, [] => true
        | c, [i] => ckT D0 (Γ.blk scope) c i
        | _, _ => false)
    | _ => false
  | .listof a, e => match e with
    | .Call (.Name x _) [y] [] _ => Γ.bi "list" x && (ckW Γ a y || ckE D0 Γ a y) && nst y
    | _ => false
  | .cat a b, e => match e with
    | .BinOp x .Add y _ => (ckW Γ a x || ckE D0 Γ a x) && (ckW Γ b y || ckE D0 Γ b y)
    | _ => false
  | .rep a b, e => match e with
    | .BinOp x .Mult y _ => (ckW Γ a x || ckE D0 Γ a x) && ckE D0 Γ b y
    | _ => false
  | .slc a lo hi, e => match e with
    | .Subscript x (.Slice l h none _) _ => (ckW Γ a x || ckE D0 Γ a x) && ckO D0 Γ lo l && ckO D0 Γ hi h
    | _ => false
  | .lrev a, e => match e with
    | .Call (.Name x _) [.Call (.Name y _) [z] [] _] [] _ => Γ.bi "list" x && Γ.bi "reversed" y && (ckW Γ a z || ckE D0 Γ a z) && nst z
    | _ => false
  | .lrng lo hi, e => match e with
    | .Call (.Name x _) [.Call (.Name y _) xs [] _] [] _ => Γ.bi "list" x && Γ.bi "range" y && (match lo, xs with
        | .no, [h] => ckE D0 Γ hi h && nst h
        | .so l, [l', h] => ckE D0 Γ l l' && ckE D0 Γ hi h && nst l' && nst h
        | _, _ => false)
    | _ => false
  | .sorted a, e => match e with
    | .Call (.Name x _) [y] [] _ => Γ.bi "sorted" x && (ckW Γ a y || ckE D0 Γ a y) && nst y
    | _ => false
def ckR (D0 : TD) (Γ : Gam) (fo : Bool) : Src → Expr → Expr → Bool
  | .ex a, _, e => ((ckW Γ a e && !fo) || ckE D0 Γ a e)
  | .rng1 a, _, e => match e with
    | .Call (.Name x _) [y] [] _ => Γ.bi "range" x && ckE D0 Γ a y && nst y
    | _ => false
  | .rng2 a b, _, e => match e with
    | .Call (.Name x _) [y, z] [] _ => Γ.bi "range" x && ckE D0 Γ a y && ckE D0 Γ b z && nst y && nst z
    | _ => false
  | .rng3 a b c, _, e => match e with
    | .Call (.Name x _) [y, z, u] [] _ => Γ.bi "range" x && ckE D0 Γ a y && ckE D0 Γ b z && ckE D0 Γ c u && nst y && nst z && nst u
    | _ => false
  | .enm a, t, e => match t, e with
    | .Tuple _ _ _, .Call (.Name x _) [y] [] _ => Γ.bi "enumerate" x && ((ckW Γ a y && !fo) || ckE D0 Γ a y) && nst y
    | _, _ => false
  | .zip a b, t, e => match t, e with
    | .Tuple _ _ _, .Call (.Name x _) [y, z] [] _ => Γ.bi "zip" x && ((ckW Γ a y && !fo) || ckE D0 Γ a y) && ((ckW Γ b z && !fo) || ckE D0 Γ b z) && nst y && nst z
    | _, _ => false
  | .rev a, _, e => match e with
    | .Call (.Name x _) [y] [] _ => Γ.bi "reversed" x && ((ckW Γ a y && !fo) || ckE D0 Γ a y) && nst y
    | _ => false
end
end PF

set_option Elab.async false
set_option linter.all false
set_option maxRecDepth 100000
set_option maxHeartbeats 4000000
/-! PFh: each form of the language by its rule. -/
namespace PF
open PySem PySem.Spec PyProof.Rows L2

theorem Post.wk {α β : Type} {K : PySem.W.Frag} {T : XI} {Rel Rel2 : G → α → β → Prop} {r : R α} {g : G} {Q : β → Hp → Prop} {W : XK} (p : Post K T Rel2 r g Q W) (k : ∀ g a b, Rel g a b → Rel2 g a b) : Post K T Rel r g Q W := by
  cases r with
  | ok a m => exact fun b g' e h q => p b g' e h (k _ _ _ q)
  | exc x m => exact p
  | stk => exact p
section
variable {X : Cx} {Tx : XI} {C : Call} {W : WX} {x y z : Expr} {pos : Pos}
theorem l_var {i : Nat} {nm : Str} (hN : X.N[i]? = some nm) (hv : Vis X.env.scope nm) (h : okn nm = true) : PE X (.Name nm pos) (tE X.K Tx C W (.var i)) :=
  PE.imp (pe_var hN hv (okn_debug h) (okn_cd h)) fun σ H Q ⟨env, m, g, e, er, hr, p⟩ => by
    subst e
    rw [evE] at p
    cases q : getV env i with
    | none =>
      rw [q] at p
      exact p.elim
    | some d =>
      rw [q] at p
      obtain ⟨v, h1, h2⟩ := er.val i d (getV_at q)
      exact ⟨v, h1, Post.val (Rel := RDg X.K) p hr h2⟩
theorem l_own {i : Nat} {nm : Str} (hN : X.N[i]? = some nm) (hv : Vis X.env.scope nm) (h : okn nm = true) : PE X (.Name nm pos) (tA X.K Tx C W (.own i)) :=
  PE.imp (pe_var hN hv (okn_debug h) (okn_cd h)) fun σ H Q ⟨env, m, g, e, er, hr, p⟩ => by
    subst e
    rw [opr_own] at p
    cases q : getO env i with
    | none =>
      rw [q] at p
      exact p.elim
    | some d =>
      rw [q] at p
      obtain ⟨a, vs, h1, h2, h3, h4, h5⟩ := er.own i d (getO_at q)
      exact ⟨_, h1, Post.val (Rel := RA X.K) p hr (.inr ⟨a, vs, d, rfl, rfl, h2, h4, h5⟩)⟩
theorem l_A {a : E} (ho : ∀ env m r, opr a env m r = r) (h : PE X x (tE X.K Tx C W a)) : PE X x (tA X.K Tx C W a) :=
  PE.imp h fun σ H Q ⟨env, m, g, e, er, hr, p⟩ => by
    rw [ho] at p
    exact ⟨env, m, g, e, er, hr, p.wk fun _ _ _ => .inl⟩
theorem l_cn {c : Cn} {k : Const} {j : Nat} (h : cnC c k = true) {e : Expr} (he : e = .Constant k j pos) : PE X e (tE X.K Tx C W (.cn c)) := by
  subst he
  cases c with
  | non =>
    cases k <;> first | cases h | skip
    exact PE.imp pe_non fun σ H Q ⟨env, m, g, e, er, hr, p⟩ => e ▸ Post.val (Rel := RDg X.K) p hr .non
  | bl b =>
    cases k <;> first | cases h | skip
    rename_i b'
    obtain rfl : b = b' := by simpa [cnC] using h
    exact PE.imp pe_bl fun σ H Q ⟨env, m, g, e, er, hr, p⟩ => e ▸ Post.val (Rel := RDg X.K) p hr (.bl b)
  | int i =>
    cases k <;> first | cases h | skip
    rename_i b'
    obtain rfl : i = b' := by simpa [cnC] using h
    exact PE.imp pe_int fun σ H Q ⟨env, m, g, e, er, hr, p⟩ => e ▸ Post.val (Rel := RDg X.K) p hr (.int i)
  | str s =>
    cases k <;> first | cases h | skip
    rename_i b'
    rw [cnC, Bool.and_eq_true, decide_eq_true_eq] at h
    obtain ⟨rfl, h⟩ := h
    exact PE.imp pe_str fun σ H Q ⟨env, m, g, e, er, hr, p⟩ => e ▸ Post.val (Rel := RDg X.K) p hr (.str s h)
theorem l_glob {nm : Str} {i : Int} {t : Tok} (hg : Gl X nm) (hm : X.mg nm = some (.int i t)) (h : okn nm = true) : PE X (.Name nm pos) (tE X.K Tx C W (.glob nm i)) :=
  PE.imp (pe_glob (v := .int i) hg hm ⟨t, rfl⟩ (okn_debug h)) fun σ H Q ⟨env, m, g, e, er, hr, p⟩ => e ▸ Post.val (Rel := RDg X.K) p hr (.int i)
theorem l_nil : PA X [] (tEs X.K Tx C W .nil) :=
  PA.imp pa_nil fun σ H Q ⟨env, m, g, e, er, hr, p⟩ => e ▸ Post.val (Rel := RDsg X.K) p hr .nil
theorem l_cons {a : E} {r : Es} {es : List Expr} (ha : PE X x (tE X.K Tx C W a)) (hr : PA X es (tEs X.K Tx C W r)) (hn : nst x = true) : PA X (x :: es) (tEs X.K Tx C W (.cons a r)) :=
  PA.imp (pa_cons ha hr (star_cons hn _ _)) fun σ H Q ⟨env, m, g, e, er, hr, p⟩ => by
    rw [evEs] at p
    exact ⟨env, m, g, e, er, hr, Post.bind p fun d m1 _ v g1 e1 h1 r1 p1 => ⟨env, m1, g1, rfl, er.mono e1, h1, Post.bind p1 fun ds m2 _ vs g2 e2 h2 r2 p2 =>
      Post.val (Rel := RDsg X.K) p2 h2 (.cons (e2.rd r1) r2)⟩⟩
theorem l_anil : PA X [] (tAs X.K Tx C W .nil) :=
  PA.imp pa_nil fun σ H Q ⟨env, m, g, e, er, hr, p⟩ => e ▸ Post.val (Rel := RAs X.K) p hr .nil
theorem l_acons {a : E} {r : Es} {es : List Expr} (ha : PE X x (tA X.K Tx C W a)) (hr : PA X es (tAs X.K Tx C W r)) (hn : nst x = true) : PA X (x :: es) (tAs X.K Tx C W (.cons a r)) :=
  PA.imp (pa_cons ha hr (star_cons hn _ _)) fun σ H Q ⟨env, m, g, e, er, hr, p⟩ => by
    rw [evAs] at p
    exact ⟨env, m, g, e, er, hr, Post.bind p fun d m1 _ v g1 e1 h1 r1 p1 => ⟨env, m1, g1, rfl, er.mono e1, h1, Post.bind p1 fun ds m2 _ vs g2 e2 h2 r2 p2 =>
      Post.val (Rel := RAs X.K) p2 h2 (.cons (r1.mono e2) r2)⟩⟩
/-- keywords' values -/
theorem l_knil : PK X [] (tEs X.K Tx C W .nil) :=
  ⟨fun pos pins s σ H Q I ⟨env, m, g, e, er, hr, p⟩ => pk_nil.run pos pins s σ H Q I (e ▸ Post.val (Rel := RDsg X.K) p hr .nil)⟩
theorem l_kcons {a : E} {r : Es} {kws : List Keyword} {nm : Option Str} {kp : Pos} (ha : PE X x (tE X.K Tx C W a)) (hr : PK X kws (tEs X.K Tx C W r)) : PK X (⟨nm, x, kp⟩ :: kws) (tEs X.K Tx C W (.cons a r)) :=
  ⟨fun pos pins s σ H Q I ⟨env, m, g, e, er, hh, p⟩ => (pk_cons ha hr).run pos pins s σ H Q I (by
    rw [evEs] at p
    exact ⟨env, m, g, e, er, hh, Post.bind p fun d m1 _ v g1 e1 h1 r1 p1 => ⟨env, m1, g1, rfl, er.mono e1, h1, Post.bind p1 fun ds m2 _ vs g2 e2 h2 r2 p2 =>
      Post.val (Rel := RDsg X.K) p2 h2 (.cons (e2.rd r1) r2)⟩⟩)⟩
theorem l_no : PO X none (tO X.K Tx C W .no) :=
  PO.imp po_none fun σ H Q ⟨env, m, g, e, er, hr, p⟩ => e ▸ Post.val (Rel := fun _ a b => a = b) p hr rfl
theorem l_so {a : E} (ha : PE X x (tE X.K Tx C W a)) : PO X (some x) (tO X.K Tx C W (.so a)) :=
  PO.imp (po_some ha) fun σ H Q ⟨env, m, g, e, er, hr, p⟩ => by
    rw [evO] at p
    refine ⟨env, m, g, e, er, hr, Post.bind p fun d m1 _ v g1 e1 h1 r1 p1 => ?_⟩
    cases d <;> first | exact p1.elim | skip
    cases r1
    exact ⟨_, rfl, Post.val (Rel := fun _ a b => a = b) p1 h1 rfl⟩
/-- the length of what a list of expressions gives -/
def Es.len : Es → Nat
  | .nil => 0
  | .cons _ r => r.len + 1
theorem evEs_len : ∀ {es : Es} {env : List Sl} {m m1 : Mem} {ds : List D}, evEs C es env m = .ok ds m1 → ds.length = es.len
  | .nil, env, m, m1, ds, h => by
    rw [evEs] at h
    cases h
    rfl
  | .cons a r, env, m, m1, ds, h => by
    rw [evEs] at h
    cases q : evE C a env m with
    | exc _ _ =>
      rw [q] at h
      cases h
    | stk =>
      rw [q] at h
      cases h
    | ok d m2 =>
      rw [q, R.bind_ok] at h
      cases q2 : evEs C r env m2 with
      | exc _ _ =>
        rw [q2] at h
        cases h
      | stk =>
        rw [q2] at h
        cases h
      | ok ds2 m3 =>
        rw [q2, R.bind_ok] at h
        cases h
        rw [List.length_cons, evEs_len q2, Es.len]
theorem l_tup {es : Es} {xs : List Expr} {k : Nat} (ha : PA X xs (tEs X.K Tx C W es)) (hl : es.len ≤ 1000) : PE X (.Tuple xs k pos) (tE X.K Tx C W (.tup es)) :=
  PE.imp (pe_tup ha) fun σ H Q ⟨env, m, g, e, er, hr, p⟩ => by
    rw [evE] at p
    refine ⟨env, m, g, e, er, hr, Post.bind p fun ds m1 q vs g1 e1 h1 r1 p1 => ⟨?_, fun a ha => Post.tup p1 h1 ha r1⟩⟩
    rw [← r1.length, evEs_len q, sizeLine_eq]
    omega
theorem l_lst {es : Es} {xs : List Expr} (ha : PA X xs (tEs X.K Tx C W es)) (hl : es.len ≤ 1000) : PE X (.List xs pos) (tF X.K Tx C W (.lst es)) :=
  PE.imp (pe_lst ha) fun σ H Q ⟨env, m, g, e, er, hr, p⟩ => by
    rw [evF] at p
    refine ⟨env, m, g, e, er, hr, ?_⟩
    have q : evEs C es env m = (evEs C es env m).bind fun ds m1 => .ok ds m1 := by
      cases evEs C es env m <;> rfl
    rw [q] at p
    refine Post.bind p fun ds m1 q vs g1 e1 h1 r1 p1 => ⟨?_, fun a ha => Post.nls e1 p1 h1 ha r1⟩
    rw [← r1.length, evEs_len q, sizeLine_eq]
    omega
/-- a new list as a value -/
theorem l_fr {f : Fr} (h : PE X x (tF X.K Tx C W f)) : PE X x (tE X.K Tx C W (.fr f)) :=
  PE.imp h fun σ H Q ⟨env, m, g, e, er, hr, p⟩ => by
    rw [evE] at p
    refine ⟨env, m, g, e, er, hr, Post.bind p fun ds m1 q v g1 e1 h1 r1 p1 => ?_⟩
    obtain ⟨g2, e2, h2, q2, r2⟩ := r1.toRD h1 e1
    rw [q] at p
    rw [← q2]
    exact Post.at (Rel := RDg X.K) p e2 h2 r2
/-- a new list that becomes an object -/
theorem HR.newO {K : PySem.W.Frag} {m : Mem} {g : G} {a : Addr} {vs : List V} {xs : List D} (h : HR K m g) (hp : g.H a = some (.lst vs)) (hf : g.F a = none) (hr : a ∉ g.r) (r : RDs K g.r g.F xs vs) : HR K (m ++ [.lst xs]) ⟨g.r ++ [a], g.F, g.H⟩ := by
  have ix : ∀ (n : Nat) (b : Addr), g.r[n]? = some b → (g.r ++ [a])[n]? = some b := fun n b e => by
    rw [List.getElem?_append_left (List.getElem?_eq_some_iff.mp e).1]
    exact e
  refine ⟨h.sub, by simp [h.len], ?_, fun b hb => ?_, fun n b o h1 h2 => ?_⟩
  · show (g.r ++ [a]).Nodup
    rw [List.nodup_append]
    refine ⟨h.nd, by simp, fun b hb c hc e => ?_⟩
    obtain rfl : c = a := by simpa using hc
    exact hr (e ▸ hb)
  · have hb : b ∈ g.r ++ [a] := hb
    rcases List.mem_append.mp hb with hb | hb
    · exact h.fre b hb
    · obtain rfl : b = a := by simpa using hb
      exact hf
  · have h1 : (g.r ++ [a])[n]? = some b := h1
    by_cases hn : n < g.r.length
    · rw [List.getElem?_append_left hn] at h1
      rw [List.getElem?_append_left (by rw [← h.len]; exact hn)] at h2
      have z := h.obj n b o h1 h2
      cases o with
      | lst ys =>
        obtain ⟨ws, z1, z2⟩ := z
        exact ⟨ws, z1, z2.mono ix fun _ _ q => q⟩
    · have hn' : n = g.r.length := by
        have := (List.getElem?_eq_some_iff.mp h1).1
        simp at this
        omega
      subst hn'
      rw [List.getElem?_append_right (Nat.le_refl _)] at h1
      rw [List.getElem?_append_right (by rw [h.len]; exact Nat.le_refl _), h.len] at h2
      simp at h1 h2
      subst h1 h2
      exact ⟨vs, hp, r.mono ix fun _ _ q => q⟩
theorem l_newo {f : Fr} (h : PE X x (tF X.K Tx C W f)) : PE X x (tE X.K Tx C W (.newo f)) :=
  PE.imp h fun σ H Q ⟨env, m, g, e, er, hr, p⟩ => by
    rw [evE] at p
    refine ⟨env, m, g, e, er, hr, Post.bind p fun ds m1 q v g1 e1 h1 r1 p1 => ?_⟩
    rw [q] at p
    obtain ⟨a, vs, rfl, h0, k1, k2, k3, k4⟩ := r1
    refine Post.at (Rel := RDg X.K) p (g1 := ⟨g1.r ++ [a], g1.F, g1.H⟩) ⟨?_, e1.frz, e1.fre, e1.kep, e1.the⟩ (h1.newO k1 k2 k3 k4) (.obj ?_)
    · obtain ⟨t, e2, e3⟩ := e1.pre
      refine ⟨t ++ [a], by rw [e2, List.append_assoc], fun b hb => ?_⟩
      rcases List.mem_append.mp hb with hb | hb
      · exact e3 b hb
      · obtain rfl : b = a := by simpa using hb
        exact h0
    · show (g1.r ++ [a])[m1.length]? = some a
      rw [← h1.len, List.getElem?_append_right (Nat.le_refl _), Nat.sub_self]
      rfl
theorem l_bin {op : Bop} {a b : E} (ha : PE X x (tA X.K Tx C W a)) (hb : PE X y (tA X.K Tx C W b)) : PE X (.BinOp x op.py y pos) (tE X.K Tx C W (.bin op a b)) :=
  PE.imp (pe_op (op_bin op) ha hb) fun σ H Q ⟨env, m, g, e, er, hr, p⟩ => by
    rw [evE] at p
    exact ⟨env, m, g, e, er, hr, Post.bind p fun d m1 _ v g1 e1 h1 r1 p1 => ⟨env, m1, g1, rfl, er.mono e1, h1, Post.bind p1 fun d2 m2 _ u g2 e2 h2 r2 p2 =>
      bin_sound h2 (r1.mono e2) r2 p2⟩⟩
theorem nset_marks {op : CmpOp} (h : nset y = true) : behindInMarks op y = false := by
  cases y <;> first | rfl | (cases h; done) | (cases op <;> rfl)
theorem k_cmp {op : Cop} {a b : E} : ∀ (σ : L2.St) (H : Hp) (Q : VK), tE X.K Tx C W (.cmp op a b) σ H Q → tOp (rCmp X.K op) (tA X.K Tx C W a) (tA X.K Tx C W b) σ H Q :=
  fun σ H Q ⟨env, m, g, e, er, hr, p⟩ => by
    rw [evE] at p
    exact ⟨env, m, g, e, er, hr, Post.bind p fun d m1 _ v g1 e1 h1 r1 p1 => ⟨env, m1, g1, rfl, er.mono e1, h1, Post.bind p1 fun d2 m2 _ u g2 e2 h2 r2 p2 =>
      cmp_sound h2 (r1.mono e2) r2 p2⟩⟩
theorem l_cmp {k : Nat} (hm : Room k X.A) {op : Cop} {a b : E} (ha : PE X x (tA X.K Tx C W a)) (hb : PE X y (tA X.K Tx C W b)) (hs : behindInMarks op.py y = false) : PE X (.Compare x [op.py] [y] pos) (tE X.K Tx C W (.cmp op a b)) :=
  PE.imp (pe_cmpR (op_cmp hm op) ha hb hs) k_cmp
theorem Post.tst {K : PySem.W.Frag} {d : D} {m : Mem} {g : G} {Q : Bool → Hp → Prop} {WW : XK} (p : Post K Tx (fun _ a b => a = b) (R.of (match d with
    | .bl b => some b
    | _ => none) m) g Q WW) (h : HR K m g) {v : V} (r : RD K g.r g.F d v) : ∃ k, v = .bl k ∧ Q k g.H := by
  cases d <;> first | exact p.elim | skip
  cases r
  exact ⟨_, rfl, Post.val (Rel := fun _ a b => a = b) p h rfl⟩
/-- a comparison as a test, from the comparison as a value -/
theorem l_tst {a : E} {t : TE} (h : PT X x (tTest t)) (ht : ∀ σ H Q, tE X.K Tx C W a σ H Q → t σ H Q) : PT X x (tT X.K Tx C W (.cmp a)) :=
  PT.imp h fun σ H Q ⟨env, m, g, e, er, hr, p⟩ => by
    rw [evT] at p
    exact ht _ _ _ ⟨env, m, g, e, er, hr, Post.bind p fun d m1 _ v g1 e1 h1 r1 p1 => p1.tst h1 r1⟩
theorem l_tcmp {k : Nat} (hm : Room k X.A) {op : Cop} {a b : E} (ha : PE X x (tA X.K Tx C W a)) (hb : PE X y (tA X.K Tx C W b)) (hs : behindInMarks op.py y = false) : PT X (.Compare x [op.py] [y] pos) (tT X.K Tx C W (.cmp (.cmp op a b))) :=
  l_tst (pt_cmpR (op_cmp hm op) ha hb hs) k_cmp
theorem k_isN {a : E} : ∀ (σ : L2.St) (H : Hp) (Q : VK), tE X.K Tx C W (.isN a) σ H Q → tIsN (tE X.K Tx C W a) σ H Q :=
  fun σ H Q ⟨env, m, g, e, er, hr, p⟩ => by
    rw [evE] at p
    refine ⟨env, m, g, e, er, hr, Post.bind p fun d m1 _ v g1 e1 h1 r1 p1 => ?_⟩
    cases r1 <;> exact Post.val (Rel := RDg X.K) p1 h1 (.bl _)
theorem k_notN {a : E} : ∀ (σ : L2.St) (H : Hp) (Q : VK), tE X.K Tx C W (.notN a) σ H Q → tNotN (tE X.K Tx C W a) σ H Q :=
  fun σ H Q ⟨env, m, g, e, er, hr, p⟩ => by
    rw [evE] at p
    refine ⟨env, m, g, e, er, hr, Post.bind p fun d m1 _ v g1 e1 h1 r1 p1 => ?_⟩
    cases r1 <;> exact Post.val (Rel := RDg X.K) p1 h1 (.bl _)
theorem l_isN {a : E} {j : Nat} {p2 : Pos} (ha : PE X x (tE X.K Tx C W a)) : PE X (.Compare x [.Is] [.Constant .none j p2] pos) (tE X.K Tx C W (.isN a)) := PE.imp (pe_cmp (pc_isN ha)) k_isN
theorem l_notN {a : E} {j : Nat} {p2 : Pos} (ha : PE X x (tE X.K Tx C W a)) : PE X (.Compare x [.IsNot] [.Constant .none j p2] pos) (tE X.K Tx C W (.notN a)) := PE.imp (pe_cmp (pc_notN ha)) k_notN
theorem l_tisN {a : E} {j : Nat} {p2 : Pos} (ha : PE X x (tE X.K Tx C W a)) : PT X (.Compare x [.Is] [.Constant .none j p2] pos) (tT X.K Tx C W (.cmp (.isN a))) := l_tst (t := tIsN (tE X.K Tx C W a)) (pt_cmp (pc_isN ha)) k_isN
theorem l_tnotN {a : E} {j : Nat} {p2 : Pos} (ha : PE X x (tE X.K Tx C W a)) : PT X (.Compare x [.IsNot] [.Constant .none j p2] pos) (tT X.K Tx C W (.cmp (.notN a))) := l_tst (t := tNotN (tE X.K Tx C W a)) (pt_cmp (pc_notN ha)) k_notN
theorem k_chain {o1 o2 : Cop} {a b c : E} : ∀ (σ : L2.St) (H : Hp) (Q : VK), tE X.K Tx C W (.chain o1 o2 a b c) σ H Q → tChain (rCmp X.K o1) (rCmp X.K o2) (tE X.K Tx C W a) (tE X.K Tx C W b) (tE X.K Tx C W c) σ H Q :=
  fun σ H Q ⟨env, m, g, e, er, hr, p⟩ => by
    rw [evE] at p
    refine ⟨env, m, g, e, er, hr, Post.bind p fun d m1 _ v g1 e1 h1 r1 p1 => ⟨env, m1, g1, rfl, er.mono e1, h1, Post.bind p1 fun d2 m2 _ u g2 e2 h2 r2 p2 => ?_⟩⟩
    cases q : cmpF o1 d d2 with
    | none =>
      rw [q] at p2
      exact p2.elim
    | some k =>
      refine cmp_sound (T := Tx) (m := m2) (W := fun _ _ _ => False) h2 (.inl (e2.rd r1)) (.inl r2) ?_
      rw [q]
      intro z g3 e3 h3 rz
      have rz : RD X.K g3.r g3.F (.bl k) z := rz
      cases rz
      refine ⟨k, rfl, ?_⟩
      rw [q] at p2
      cases k with
      | false => exact Post.at (Rel := RDg X.K) p2 e3 h3 (.bl _)
      | true =>
        exact ⟨env, m2, g3, rfl, (er.mono e1).mono (e2.trans e3), h3, Post.bind (p2.mono e3) fun d3 m4 _ w g4 e4 h4 r4 p4 => cmp_sound h4 (.inl (e4.rd (e3.rd r2))) (.inl r4) p4⟩
theorem last_marks {p q : CmpOp} (hy : nset y = true) (hz : nset z = true) : lastMarks [p, q] [y, z] = false := nset_marks hz
theorem l_chain {k : Nat} (hm : Room k X.A) {o1 o2 : Cop} {a b c : E} (ha : PE X x (tE X.K Tx C W a)) (hb : PE X y (tE X.K Tx C W b)) (hc : PE X z (tE X.K Tx C W c)) (hs : lastMarks [o1.py, o2.py] [y, z] = false) :
    PE X (.Compare x [o1.py, o2.py] [y, z] pos) (tE X.K Tx C W (.chain o1 o2 a b c)) := PE.imp (pe_chain (op_cmp hm o1) (op_cmp hm o2) ha hb hc hs) k_chain
theorem l_tchain {k : Nat} (hm : Room k X.A) {o1 o2 : Cop} {a b c : E} (ha : PE X x (tE X.K Tx C W a)) (hb : PE X y (tE X.K Tx C W b)) (hc : PE X z (tE X.K Tx C W c)) (hs : lastMarks [o1.py, o2.py] [y, z] = false) :
    PT X (.Compare x [o1.py, o2.py] [y, z] pos) (tT X.K Tx C W (.cmp (.chain o1 o2 a b c))) := l_tst (pt_chain (op_cmp hm o1) (op_cmp hm o2) ha hb hc hs) k_chain
theorem l_neg {a : E} (ha : PE X x (tE X.K Tx C W a)) : PE X (.UnaryOp .USub x pos) (tE X.K Tx C W (.neg a)) :=
  PE.imp (pe_un un_neg ha) fun σ H Q ⟨env, m, g, e, er, hr, p⟩ => by
    rw [evE] at p
    refine ⟨env, m, g, e, er, hr, Post.bind p fun d m1 _ v g1 e1 h1 r1 p1 => ?_⟩
    cases d <;> first | exact p1.elim | skip
    cases r1
    exact ⟨_, rfl, Post.val (Rel := RDg X.K) p1 h1 (.int _)⟩
theorem l_notv {a : E} (ha : PE X x (tE X.K Tx C W a)) : PE X (.UnaryOp .Not x pos) (tE X.K Tx C W (.notv a)) :=
  PE.imp (pe_not ha) fun σ H Q ⟨env, m, g, e, er, hr, p⟩ => by
    rw [evE] at p
    refine ⟨env, m, g, e, er, hr, Post.bind p fun d m1 _ v g1 e1 h1 r1 p1 => ?_⟩
    cases d <;> first | exact p1.elim | skip
    cases r1
    exact ⟨_, rfl, Post.val (Rel := RDg X.K) p1 h1 (.bl _)⟩
theorem l_andv {a b : E} {r : List Expr} (ha : PE X x (tE X.K Tx C W a)) (hb : PE X (.BoolOp .And (y :: r) pos) (tE X.K Tx C W b)) : PE X (.BoolOp .And (x :: y :: r) pos) (tE X.K Tx C W (.andv a b)) :=
  PE.imp (pe_and ha hb) fun σ H Q ⟨env, m, g, e, er, hr, p⟩ => by
    rw [evE] at p
    refine ⟨env, m, g, e, er, hr, Post.bind p fun d m1 _ v g1 e1 h1 r1 p1 => ?_⟩
    cases d <;> first | exact p1.elim | skip
    rename_i k _
    cases r1
    refine ⟨k, rfl, ?_⟩
    cases k with
    | false => exact Post.val (Rel := RDg X.K) p1 h1 (.bl _)
    | true => exact ⟨env, m1, g1, rfl, er.mono e1, h1, p1⟩
theorem l_orv {a b : E} {r : List Expr} (ha : PE X x (tE X.K Tx C W a)) (hb : PE X (.BoolOp .Or (y :: r) pos) (tE X.K Tx C W b)) : PE X (.BoolOp .Or (x :: y :: r) pos) (tE X.K Tx C W (.orv a b)) :=
  PE.imp (pe_or ha hb) fun σ H Q ⟨env, m, g, e, er, hr, p⟩ => by
    rw [evE] at p
    refine ⟨env, m, g, e, er, hr, Post.bind p fun d m1 _ v g1 e1 h1 r1 p1 => ?_⟩
    cases d <;> first | exact p1.elim | skip
    rename_i k _
    cases r1
    refine ⟨k, rfl, ?_⟩
    cases k with
    | true => exact Post.val (Rel := RDg X.K) p1 h1 (.bl _)
    | false => exact ⟨env, m1, g1, rfl, er.mono e1, h1, p1⟩
theorem l_one {a : E} {op : BoolOp} (ha : PE X x (tE X.K Tx C W a)) : PE X (.BoolOp op [x] pos) (tE X.K Tx C W (.one a)) :=
  PE.imp (pe_one ha) fun σ H Q ⟨env, m, g, e, er, hr, p⟩ => by
    rw [evE] at p
    exact ⟨env, m, g, e, er, hr, p⟩
theorem l_ife {t : T} {a b : E} (ht : PT X x (tT X.K Tx C W t)) (ha : PE X y (tE X.K Tx C W a)) (hb : PE X z (tE X.K Tx C W b)) : PE X (.IfExp x y z pos) (tE X.K Tx C W (.ife t a b)) :=
  PE.imp (pe_ifExp ht ha hb) fun σ H Q ⟨env, m, g, e, er, hr, p⟩ => by
    rw [evE] at p
    refine ⟨env, m, g, e, er, hr, Post.bind p fun d m1 _ v g1 e1 h1 r1 p1 => ?_⟩
    cases r1
    cases d with
    | true => exact ⟨env, m1, g1, rfl, er.mono e1, h1, p1⟩
    | false => exact ⟨env, m1, g1, rfl, er.mono e1, h1, p1⟩
theorem nsl_plain (h : nsl y = true) : PlainIx y := by
  cases y <;> first | exact fun _ _ => rfl | cases h
theorem l_idx {a i : E} (ha : PE X x (tA X.K Tx C W a)) (hi : PE X y (tE X.K Tx C W i)) (hs : nsl y = true) : PE X (.Subscript x y pos) (tE X.K Tx C W (.idx a i)) :=
  PE.imp (pe_ix ix_seq ha hi (nsl_plain hs)) fun σ H Q ⟨env, m, g, e, er, hr, p⟩ => by
    rw [evE] at p
    exact ⟨env, m, g, e, er, hr, Post.bind p fun d m1 _ v g1 e1 h1 r1 p1 => ⟨env, m1, g1, rfl, er.mono e1, h1, Post.bind p1 fun d2 m2 _ u g2 e2 h2 r2 p2 =>
      idx_sound h2 (r1.mono e2) r2 p2⟩⟩
theorem l_slt {a : E} {lo hi : Oe} {l h : Option Expr} {p2 : Pos} (ha : PE X x (tE X.K Tx C W a)) (hl : PO X l (tO X.K Tx C W lo)) (hh : PO X h (tO X.K Tx C W hi)) : PE X (.Subscript x (.Slice l h none p2) pos) (tE X.K Tx C W (.slt a lo hi)) :=
  PE.imp (pe_slice sl_tupA ha hl hh) fun σ H Q ⟨env, m, g, e, er, hr, p⟩ => by
    rw [evE] at p
    exact ⟨env, m, g, e, er, hr, Post.bind p fun d m1 _ v g1 e1 h1 r1 p1 => ⟨env, m1, g1, rfl, er.mono e1, h1, Post.bind p1 fun d2 m2 _ u g2 e2 h2 r2 p2 =>
      ⟨env, m2, g2, rfl, (er.mono e1).mono e2, h2, Post.bind p2 fun d3 m3 _ w g3 e3 h3 r3 p3 => by
        cases r2
        cases r3
        exact slt_sound h3 (.inl (e3.rd (e2.rd r1))) p3⟩⟩⟩
end
end PF

set_option Elab.async false
set_option linter.all false
set_option maxRecDepth 100000
set_option maxHeartbeats 4000000
/-! PFi: calls, built-ins, tests, new lists, what is walked, by their rules. -/
namespace PF
open PySem PySem.Spec PyProof.Rows L2

section
variable {K : PySem.W.Frag} {ρ : List Addr} {F : Hp}
theorem RDs.getD {ds : List D} {vs : List V} (h : RDs K ρ F ds vs) (j : Nat) : RD K ρ F (ds.getD j .non) (vs.getD j .non) := by
  rw [List.getD_eq_getElem?_getD, List.getD_eq_getElem?_getD]
  cases q : ds[j]? with
  | some d =>
    obtain ⟨v, q2, r⟩ := h.get q
    rw [q2]
    exact r
  | none =>
    have q2 : vs[j]? = none := by
      rw [List.getElem?_eq_none_iff] at q ⊢
      rw [← h.length]
      exact q
    rw [q2]
    exact .non
theorem RDs.perm {ds : List D} {vs : List V} (h : RDs K ρ F ds vs) : ∀ perm : List Nat, RDs K ρ F (perm.map fun j => ds.getD j .non) (perm.map fun j => vs.getD j .non)
  | [] => .nil
  | j :: r => .cons (h.getD j) (RDs.perm h r)
end
section
variable {X : Cx} {Tx : XI} {C : Call} {W : WX} {x y z : Expr} {pos : Pos} {D0 : TD} {n : Nat}
theorem k_call {f : Nat} {es : Es} (σ : L2.St) (H : Hp) (Q : VK) : tE X.K D0.xi (callF D0.fs n) W (.call f es) σ H Q → tCallW (spI X.K D0 n f) W (tEs X.K D0.xi (callF D0.fs n) W es) σ H Q :=
  fun ⟨env, m, g, e, er, hr, p⟩ => by
    rw [evE] at p
    exact ⟨env, m, g, e, er, hr, Post.bind p fun ds m1 _ vs g1 e1 h1 r1 p1 => ⟨ds, m1, g1, rfl, h1, r1, p1⟩⟩
theorem k_callk {f : Nat} {es ks : Es} {perm : List Nat} (σ : L2.St) (H : Hp) (Q : VK) : tE X.K D0.xi (callF D0.fs n) W (.callk f perm es ks) σ H Q →
    tCallKW (spI X.K D0 n f) perm W es.len ks.len (tEs X.K D0.xi (callF D0.fs n) W es) (tEs X.K D0.xi (callF D0.fs n) W ks) σ H Q :=
  fun ⟨env, m, g, e, er, hr, p⟩ => by
    rw [evE] at p
    refine ⟨env, m, g, e, er, hr, Post.bind p fun ds m1 q1 vs g1 e1 h1 r1 p1 => ⟨env, m1, g1, rfl, er.mono e1, h1, Post.bind p1 fun ds2 m2 q2 vs2 g2 e2 h2 r2 p2 =>
      ⟨by rw [← r1.length, evEs_len q1], by rw [← r2.length, evEs_len q2], _, m2, g2, rfl, h2, RDs.perm ((e2.rds r1).append r2) perm, p2⟩⟩⟩
theorem bi_rule (hc : X.calm = true) {b : Bi} {xs : List Expr} {t : TA} {p : Pos} (hb : b.isi = false) (hg : Gl X b.name) (hm : X.mg b.name = none) (ha : PA X (x :: xs) t) (hst : (x :: xs).all nst = true) :
    PE X (.Call (.Name b.name p) (x :: xs) [] pos) (tCB (rBi X.K b) t) := by
  rw [List.all_cons, Bool.and_eq_true] at hst
  cases b <;> first | (cases hb; done) | skip
  · exact pe_callB (call_bi hc .len) hg hm boot_len ha (by decide) (by decide) (star_cons hst.1 _ _) (star_none hst.2 _ _)
  · exact pe_callB (call_bi hc .min2) hg hm boot_min ha (by decide) (by decide) (star_cons hst.1 _ _) (star_none hst.2 _ _)
  · exact pe_callB (call_bi hc .max2) hg hm boot_max ha (by decide) (by decide) (star_cons hst.1 _ _) (star_none hst.2 _ _)
  · exact pe_callB (call_bi hc .maxl) hg hm boot_max ha (by decide) (by decide) (star_cons hst.1 _ _) (star_none hst.2 _ _)
  · exact pe_callB (call_bi hc .minl) hg hm boot_min ha (by decide) (by decide) (star_cons hst.1 _ _) (star_none hst.2 _ _)
  · exact pe_callB (call_bi hc .suml) hg hm boot_sum ha (by decide) (by decide) (star_cons hst.1 _ _) (star_none hst.2 _ _)
  · exact pe_callB (call_bi hc .abs) hg hm PyProof.Rows.boot_abs ha (by decide) (by decide) (star_cons hst.1 _ _) (star_none hst.2 _ _)
  · exact pe_callB (call_bi hc .all) hg hm boot_all ha (by decide) (by decide) (star_cons hst.1 _ _) (star_none hst.2 _ _)
  · exact pe_callB (call_bi hc .any) hg hm boot_any ha (by decide) (by decide) (star_cons hst.1 _ _) (star_none hst.2 _ _)
  · exact pe_callTy (call_bi hc .tup) hg hm boot_tuple ha (by decide) (by decide) (star_cons hst.1 _ _) (star_none hst.2 _ _)
  · exact pe_callTy (call_bi hc .int) hg hm boot_int ha (by decide) (by decide) (star_cons hst.1 _ _) (star_none hst.2 _ _)
  · exact ⟨fun pins s σ H Q I h => by
      refine (pe_callB (X := X) (id := "repr") (r := fun _ _ _ => False) (fun _ _ _ _ _ _ _ _ _ z => z.elim) hg hm (by decide +kernel) ha (by decide) (by decide) (star_cons hst.1 _ _) (star_none hst.2 _ _)).run pins s σ H Q I h⟩
theorem l_bi (hc : X.calm = true) {b : Bi} {es : Es} {xs : List Expr} {p : Pos} (hb : b.isi = false) (hg : Gl X b.name) (hm : X.mg b.name = none) (ha : PA X (x :: xs) (tAs X.K Tx C W es)) (hst : (x :: xs).all nst = true) :
    PE X (.Call (.Name b.name p) (x :: xs) [] pos) (tE X.K Tx C W (.bi b es)) :=
  PE.imp (bi_rule hc hb hg hm ha hst) fun σ H Q ⟨env, m, g, e, er, hr, p⟩ => by
    rw [evE] at p
    exact ⟨env, m, g, e, er, hr, Post.bind p fun ds m1 _ vs g1 e1 h1 r1 p1 => bi_sound hb h1 r1 p1⟩
theorem l_isi (hc : X.calm = true) {b : Bi} {a : E} {p p2 : Pos} (hb : b.isi = true) (hg : Gl X "isinstance") (hm : X.mg "isinstance" = none) (hg2 : Gl X b.tyName) (hm2 : X.mg b.tyName = none) (ha : PE X x (tA X.K Tx C W a)) (hst : nst x = true) :
    PE X (.Call (.Name "isinstance" p) [x, .Name b.tyName p2] [] pos) (tE X.K Tx C W (.bi b (.cons a .nil))) := by
  have ht : PE X (.Name b.tyName p2) (tC (.ty b.ty)) := by
    cases b <;> first | (cases hb; done) | skip
    · exact pe_bltn hg2 hm2 boot_int rfl
    · exact pe_bltn hg2 hm2 boot_bool rfl
    · exact pe_bltn hg2 hm2 boot_tuple rfl
    · exact pe_bltn hg2 hm2 boot_str rfl
    · exact pe_bltn hg2 hm2 boot_list rfl
  have hr : CallR X (.builtin "isinstance") (rIsi X.K) := call_isi
  refine PE.imp (pe_callB hr hg hm PyProof.Rows.boot_isinstance (pa_cons ha (pa_cons ht pa_nil (star_cons rfl _ _)) (star_cons hst _ _)) (by decide) (by decide) (star_cons hst _ _) (star_none rfl _ _)) fun σ H Q ⟨env, m, g, e, er, hr, p⟩ => ?_
  rw [evE, evAs] at p
  cases q : opr a env m (evE C a env m) with
  | stk =>
    rw [q] at p
    exact p.elim
  | exc xx m1 =>
    rw [q] at p
    refine ⟨env, m, g, e, er, hr, ?_⟩
    rw [q]
    exact p
  | ok d m1 =>
    rw [q, R.bind_ok, evAs, R.bind_ok, R.bind_ok] at p
    refine ⟨env, m, g, e, er, hr, ?_⟩
    rw [q]
    intro v g1 e1 h1 r1
    cases q2 : biF b [d] with
    | none =>
      rw [q2] at p
      exact p.elim
    | some k =>
      rw [q2] at p
      obtain ⟨t, k, rfl, ty, kt⟩ := isi_sound hb h1 r1 q2
      exact ⟨v, .ty b.ty, t, .type b.ty, k, rfl, .ty _, ty, kt, Post.at (Rel := RDg X.K) p e1 h1 (.bl k)⟩
/-! ### tests -/
theorem l_tex {a : E} (ha : PE X x (tA X.K Tx C W a)) (hp : plainT x = true) : PT X x (tT X.K Tx C W (.ex a)) :=
  PT.imp (pt_truth ha (by
    intro wh
    cases x <;> first | rfl | (cases hp; done) | skip
    all_goals (rename_i op a p; cases op <;> first | rfl | cases hp))) fun σ H Q ⟨env, m, g, e, er, hr, p⟩ => by
    rw [evT] at p
    refine ⟨env, m, g, e, er, hr, Post.bind p fun d m1 _ v g1 e1 h1 r1 p1 => ?_⟩
    cases q : truF d with
    | none =>
      rw [q] at p1
      exact p1.elim
    | some k =>
      rw [q] at p1
      exact ⟨k, tru_sound h1 r1 q, Post.val (Rel := fun _ a b => a = b) p1 h1 rfl⟩
theorem l_nt {t : T} (ht : PT X x (tT X.K Tx C W t)) : PT X (.UnaryOp .Not x pos) (tT X.K Tx C W (.nt t)) :=
  PT.imp (pt_not ht) fun σ H Q ⟨env, m, g, e, er, hr, p⟩ => by
    rw [evT] at p
    refine ⟨env, m, g, e, er, hr, Post.bind p fun d m1 _ v g1 e1 h1 r1 p1 => ?_⟩
    cases r1
    exact Post.val (Rel := fun _ a b => a = b) p1 h1 rfl
theorem l_tand {t u : T} {r : List Expr} (ht : PT X x (tT X.K Tx C W t)) (hu : PW X (.BoolOp .And (y :: r) pos) (tT X.K Tx C W u)) : PW X (.BoolOp .And (x :: y :: r) pos) (tT X.K Tx C W (.tand t u)) :=
  PW.imp (pw_and ht hu) fun σ H Q ⟨env, m, g, e, er, hr, p⟩ => by
    rw [evT] at p
    refine ⟨env, m, g, e, er, hr, Post.bind p fun d m1 _ v g1 e1 h1 r1 p1 => ?_⟩
    cases r1
    cases d with
    | true => exact ⟨env, m1, g1, rfl, er.mono e1, h1, p1⟩
    | false => exact Post.val (Rel := fun _ a b => a = b) p1 h1 rfl
theorem l_tor {t u : T} {r : List Expr} (ht : PT X x (tT X.K Tx C W t)) (hu : PW X (.BoolOp .Or (y :: r) pos) (tT X.K Tx C W u)) : PW X (.BoolOp .Or (x :: y :: r) pos) (tT X.K Tx C W (.tor t u)) :=
  PW.imp (pw_or ht hu) fun σ H Q ⟨env, m, g, e, er, hr, p⟩ => by
    rw [evT] at p
    refine ⟨env, m, g, e, er, hr, Post.bind p fun d m1 _ v g1 e1 h1 r1 p1 => ?_⟩
    cases r1
    cases d with
    | false => exact ⟨env, m1, g1, rfl, er.mono e1, h1, p1⟩
    | true => exact Post.val (Rel := fun _ a b => a = b) p1 h1 rfl
theorem l_t1 {t : T} {op : BoolOp} (ht : PT X x (tT X.K Tx C W t)) : PW X (.BoolOp op [x] pos) (tT X.K Tx C W (.t1 t)) := by
  have k : PW X (.BoolOp op [x] pos) (tT X.K Tx C W t) := by
    cases op with
    | And => exact pw_and1 ht
    | Or => exact pw_or1 ht
  exact PW.imp k fun σ H Q ⟨env, m, g, e, er, hr, p⟩ => by
    rw [evT] at p
    exact ⟨env, m, g, e, er, hr, p⟩
/-! ### objects -/
theorem objL_at {m : Mem} {d : D} {k : Nat} {xs : List D} (h : objL m d = some (k, xs)) : d = .obj k ∧ m[k]? = some (.lst xs) := by
  cases d <;> first | (cases h; done) | skip
  rename_i j
  unfold objL at h
  cases q : m[j]? with
  | none =>
    simp only [q] at h
    cases h
  | some o =>
    cases o with
    | lst ys =>
      simp only [q] at h
      cases h
      exact ⟨rfl, q⟩
theorem objL_rd {K : PySem.W.Frag} {m : Mem} {g : G} {d : D} {v : V} {k : Nat} {xs : List D} (hr : HR K m g) (r : RD K g.r g.F d v) (h : objL m d = some (k, xs)) : ∃ a vs, v = .ref a ∧ g.r[k]? = some a ∧ g.H a = some (.lst vs) ∧ RDs K g.r g.F xs vs := by
  obtain ⟨rfl, q⟩ := objL_at h
  cases r with
  | obj q2 =>
    obtain ⟨vs, h1, h2⟩ := hr.obj _ _ _ q2 q
    exact ⟨_, vs, rfl, q2, h1, h2⟩
theorem l_oidx {a i : E} (ha : PE X x (tE X.K Tx C W a)) (hi : PE X y (tE X.K Tx C W i)) (hs : nsl y = true) : PE X (.Subscript x y pos) (tE X.K Tx C W (.oidx a i)) :=
  PE.imp (pe_ix ix_list ha hi (nsl_plain hs)) fun σ H Q ⟨env, m, g, e, er, hr, p⟩ => by
    rw [evE] at p
    refine ⟨env, m, g, e, er, hr, Post.bind p fun d m1 _ v g1 e1 h1 r1 p1 => ⟨env, m1, g1, rfl, er.mono e1, h1, Post.bind p1 fun d2 m2 _ u g2 e2 h2 r2 p2 => ?_⟩⟩
    cases q : objL m2 d with
    | none =>
      rw [q] at p2
      exact p2.elim
    | some kx =>
      obtain ⟨k, xs⟩ := kx
      rw [q] at p2
      cases d2 <;> first | exact p2.elim | skip
      rename_i j _
      have p2 : Post X.K Tx (RDg X.K) (R.of (atI xs j) m2) g2 Q (wat W σ) := p2
      obtain ⟨b, vs, rfl, _, h3, h4⟩ := objL_rd h2 (e2.rd r1) q
      cases r2
      cases q3 : atI xs j with
      | none =>
        rw [q3] at p2
        exact p2.elim
      | some w =>
        rw [q3] at p2
        obtain ⟨wv, h5, h6⟩ := atI_rd h4 q3
        exact ⟨b, vs, j, wv, rfl, rfl, SqL.of h3, h5, Post.val (Rel := RDg X.K) p2 h2 h6⟩
/-! ### new lists -/
theorem l_listof (hc : X.calm = true) {a : E} {p : Pos} (hg : Gl X "list") (hm : X.mg "list" = none) (ha : PE X x (tA X.K Tx C W a)) (hst : nst x = true) : PE X (.Call (.Name "list" p) [x] [] pos) (tF X.K Tx C W (.listof a)) :=
  PE.imp (pe_callTy call_list_of hg hm boot_list (pa_cons ha pa_nil (star_cons hst _ _)) (by decide) (by decide) (star_cons hst _ _) rfl) fun σ H Q ⟨env, m, g, e, er, hr, p⟩ => by
    rw [evF] at p
    refine ⟨env, m, g, e, er, hr, Post.bind p fun d m1 _ v g1 e1 h1 r1 p1 => ?_⟩
    cases d <;> first | exact p1.elim | skip
    · obtain ⟨b, vs, rfl, h2, h3⟩ := r1.tup
      exact ⟨b, vs, rfl, .inr (SqT.of (h1.sub _ _ h2)), fun l hl => Post.nls e1 p1 h1 hl h3⟩
    · obtain ⟨b, vs, rfl, h2, h4, h3⟩ := r1.lst h1
      exact ⟨b, vs, rfl, .inl (SqL.of h2), fun l hl => Post.nls e1 p1 h1 hl h3⟩
theorem l_cat {a b : E} (ha : PE X x (tA X.K Tx C W a)) (hb : PE X y (tA X.K Tx C W b)) : PE X (.BinOp x .Add y pos) (tF X.K Tx C W (.cat a b)) :=
  PE.imp (pe_op op_cat ha hb) fun σ H Q ⟨env, m, g, e, er, hr, p⟩ => by
    rw [evF] at p
    refine ⟨env, m, g, e, er, hr, Post.bind p fun d m1 _ v g1 e1 h1 r1 p1 => ⟨env, m1, g1, rfl, er.mono e1, h1, Post.bind p1 fun d2 m2 _ u g2 e2 h2 r2 p2 => ?_⟩⟩
    cases d <;> first | exact p2.elim | skip
    cases d2 <;> first | exact p2.elim | skip
    rename_i xs _ ys _
    have p2 : Post X.K Tx (RF X.K g) (if xs.length + ys.length ≤ sizeLine then .ok (xs ++ ys) m2 else .stk) g2 Q (wat W σ) := p2
    by_cases hz : xs.length + ys.length ≤ sizeLine
    · rw [if_pos hz] at p2
      obtain ⟨c, vs, rfl, h3, _, h4⟩ := (r1.mono e2).lst h2
      obtain ⟨c', vs', rfl, h3', _, h4'⟩ := r2.lst h2
      exact ⟨c, c', vs, vs', rfl, rfl, h3, h3', by rw [← h4.length, ← h4'.length]; exact hz, fun l hl => Post.nls (e1.trans e2) p2 h2 hl (h4.append h4')⟩
    · rw [if_neg hz] at p2
      exact p2.elim
theorem l_rep {a b : E} (ha : PE X x (tA X.K Tx C W a)) (hb : PE X y (tE X.K Tx C W b)) : PE X (.BinOp x .Mult y pos) (tF X.K Tx C W (.rep a b)) :=
  PE.imp (pe_op op_rep ha hb) fun σ H Q ⟨env, m, g, e, er, hr, p⟩ => by
    rw [evF] at p
    refine ⟨env, m, g, e, er, hr, Post.bind p fun d m1 _ v g1 e1 h1 r1 p1 => ⟨env, m1, g1, rfl, er.mono e1, h1, Post.bind p1 fun d2 m2 _ u g2 e2 h2 r2 p2 => ?_⟩⟩
    cases d <;> first | exact p2.elim | skip
    cases d2 <;> first | exact p2.elim | skip
    rename_i xs _ k _
    have p2 : Post X.K Tx (RF X.K g) (if xs.length ≤ 1000 ∧ -1000 ≤ k ∧ k ≤ 1000 then .ok (List.replicate k.toNat xs).flatten m2 else .stk) g2 Q (wat W σ) := p2
    by_cases hz : xs.length ≤ 1000 ∧ -1000 ≤ k ∧ k ≤ 1000
    · rw [if_pos hz] at p2
      obtain ⟨c, vs, rfl, h3, _, h4⟩ := (r1.mono e2).lst h2
      cases r2
      refine ⟨c, k, vs, rfl, rfl, h3, by omega, by omega, ?_, fun l hl => Post.nls (e1.trans e2) p2 h2 hl (h4.rep _)⟩
      rw [← h4.length, sizeLine_eq]
      have q1 : k.toNat ≤ 1000 := by omega
      have := Nat.mul_le_mul hz.1 q1
      omega
    · rw [if_neg hz] at p2
      exact p2.elim
theorem l_slc {a : E} {lo hi : Oe} {l h : Option Expr} {p2 : Pos} (ha : PE X x (tA X.K Tx C W a)) (hl : PO X l (tO X.K Tx C W lo)) (hh : PO X h (tO X.K Tx C W hi)) : PE X (.Subscript x (.Slice l h none p2) pos) (tF X.K Tx C W (.slc a lo hi)) :=
  PE.imp (pe_slice sl_list ha hl hh) fun σ H Q ⟨env, m, g, e, er, hr, p⟩ => by
    rw [evF] at p
    exact ⟨env, m, g, e, er, hr, Post.bind p fun d m1 _ v g1 e1 h1 r1 p1 => ⟨env, m1, g1, rfl, er.mono e1, h1, Post.bind p1 fun d2 m2 _ u g2 e2 h2 r2 p2 =>
      ⟨env, m2, g2, rfl, (er.mono e1).mono e2, h2, Post.bind p2 fun d3 m3 _ w g3 e3 h3 r3 p3 => by
        cases r2
        cases r3
        exact slc_sound ((e1.trans e2).trans e3) h3 ((r1.mono e2).mono e3) p3⟩⟩⟩
theorem l_lrev (hc : X.calm = true) {a : E} {p p2 pos2 : Pos} (hg : Gl X "list") (hm : X.mg "list" = none) (hg2 : Gl X "reversed") (hm2 : X.mg "reversed" = none) (ha : PE X x (tA X.K Tx C W a)) (hst : nst x = true) :
    PE X (.Call (.Name "list" p) [.Call (.Name "reversed" p2) [x] [] pos2] [] pos) (tF X.K Tx C W (.lrev a)) :=
  PE.imp (pe_lstRev hc hg hm hg2 hm2 ha (star_cons hst _ _)) fun σ H Q ⟨env, m, g, e, er, hr, p⟩ => by
    rw [evF] at p
    refine ⟨env, m, g, e, er, hr, Post.bind p fun d m1 _ v g1 e1 h1 r1 p1 => ?_⟩
    cases d <;> first | exact p1.elim | skip
    obtain ⟨b, vs, rfl, h2, h4, h3⟩ := r1.lst h1
    exact ⟨b, vs, rfl, SqL.of h2, fun l hl => Post.nls e1 p1 h1 hl h3.reverse⟩
end
end PF

set_option Elab.async false
set_option linter.all false
set_option maxRecDepth 100000
set_option maxHeartbeats 4000000
/-! PFj: ranges, sorted, what is walked, targets, comprehensions. -/
namespace PF
open PySem PySem.Spec PyProof.Rows L2

/-! ### sorted -/
theorem isort_perm (x : Int) : ∀ l : List Int, (isort x l).Perm (x :: l)
  | [] => .refl _
  | y :: r => by
    unfold isort
    split
    · exact .refl _
    · exact ((isort_perm x r).cons y).trans (.swap x y r)
theorem isorts_perm : ∀ l : List Int, (isorts l).Perm l
  | [] => .refl _
  | x :: r => (isort_perm x (isorts r)).trans ((isorts_perm r).cons x)
theorem isort_sorted (x : Int) : ∀ l : List Int, l.Pairwise (· ≤ ·) → (isort x l).Pairwise (· ≤ ·)
  | [], _ => List.pairwise_singleton _ _
  | y :: r, h => by
    rw [List.pairwise_cons] at h
    unfold isort
    split
    · rename_i hxy
      rw [List.pairwise_cons, List.pairwise_cons]
      refine ⟨fun z hz => ?_, h⟩
      rcases List.mem_cons.mp hz with rfl | hz
      · exact hxy
      · exact Int.le_trans hxy (h.1 z hz)
    · rename_i hxy
      rw [List.pairwise_cons]
      refine ⟨fun z hz => ?_, isort_sorted x r h.2⟩
      rcases List.mem_cons.mp ((isort_perm x r).mem_iff.mp hz) with rfl | hz
      · omega
      · exact h.1 z hz
theorem isorts_sorted : ∀ l : List Int, (isorts l).Pairwise (· ≤ ·)
  | [] => .nil
  | x :: r => isort_sorted x _ (isorts_sorted r)
theorem sorted_is {l l' : List Int} (h : l'.Perm l) (s : l'.Pairwise (· ≤ ·)) : l' = isorts l :=
  List.Perm.eq_of_pairwise (le := (· ≤ ·)) (fun a b _ _ h1 h2 => Int.le_antisymm h1 h2) s (isorts_sorted l) (h.trans (isorts_perm l).symm)
section
variable {X : Cx} {Tx : XI} {C : Call} {W : WX} {x y z : Expr} {pos : Pos}
theorem l_sorted {a : E} {p : Pos} (hg : Gl X "sorted") (hm : X.mg "sorted" = none) (ha : PE X x (tA X.K Tx C W a)) (hst : nst x = true) : PE X (.Call (.Name "sorted" p) [x] [] pos) (tF X.K Tx C W (.sorted a)) :=
  PE.imp (pe_callB cr_sorted hg hm boot_sorted (pa_cons ha pa_nil (star_cons hst _ _)) (by decide) (by decide) (star_cons hst _ _) rfl) fun σ H Q ⟨env, m, g, e, er, hr, p⟩ => by
    rw [evF] at p
    refine ⟨env, m, g, e, er, hr, Post.bind p fun d m1 q1 v g1 e1 h1 r1 p1 => ?_⟩
    have hd : ∃ xs, d = .lst xs := by
      cases d <;> first | exact p1.elim | exact ⟨_, rfl⟩
    obtain ⟨xs, hd⟩ := hd
    subst hd
    cases q2 : D.asInts xs with
    | none =>
      have e2 : sortedF (.lst xs) = none := by
        unfold sortedF
        simp only [q2]
      rw [e2] at p1
      exact p1.elim
    | some ns =>
      by_cases hz : ns.length < 64
      · have e2 : sortedF (.lst xs) = some ((isorts ns).map D.int) := by
          unfold sortedF
          simp only [q2, hz, if_true]
        rw [e2] at p1
        obtain ⟨b, vs, rfl, h2, h4, h3⟩ := r1.lst h1
        have hd2 := D.asInts_eq q2
        rw [hd2] at h3
        have hv := h3.ints_of
        subst hv
        refine ⟨b, ns, rfl, SqL.of h2, hz, fun ns' l hp hs hl => ?_⟩
        rw [sorted_is hp hs]
        exact Post.nls e1 p1 h1 hl (RDs.ints _)
      · have e2 : sortedF (.lst xs) = none := by
          unfold sortedF
          simp only [q2, hz, if_false]
        rw [e2] at p1
        exact p1.elim
/-! ### ranges -/
theorem RDs.range {K : PySem.W.Frag} {ρ : List Addr} {F : Hp} (f : Nat → Int) : ∀ l : List Nat, RDs K ρ F (l.map fun i => D.int (f i)) (l.map fun i => V.int (f i))
  | [] => .nil
  | i :: r => .cons (.int _) (RDs.range f r)
theorem rng_ok {a b : Int} (h : rngOk a b = true) : RgOk a b := by
  unfold rngOk at h
  simp only [Bool.and_eq_true, decide_eq_true_eq] at h
  obtain ⟨⟨⟨h1, h2⟩, h3⟩, h4⟩ := h
  exact ⟨by omega, by omega, by omega, by omega, by omega⟩
/-- a range's bounds -/
def tRg (K : PySem.W.Frag) (Tx : XI) (C : Call) (W : WX) (lo : Oe) (hi : E) : L2.St → Hp → (Int → Int → Hp → Prop) → Prop := fun σ H Q => ∃ env m g, g.H = H ∧ ER K env g σ ∧ HR K m g ∧
  Post K Tx (fun _ (a : Int × Int) (b : Int × Int) => a = b) ((evO C lo env m).bind fun l m1 => (evE C hi env m1).bind fun y m2 => R.of (y.asInt.map fun j => (l.getD 0, j)) m2) g (fun p H => Q p.1 p.2 H) (wat W σ)
theorem rg_no {hi : E} {p : Pos} (hg : Gl X "range") (hm : X.mg "range" = none) (ha : PE X x (tE X.K Tx C W hi)) (hst : nst x = true) : PRg X (.Call (.Name "range" p) [x] [] pos) (tRg X.K Tx C W .no hi) := by
  intro pins s σ H Q I ⟨env, m, g, e, er, hr, p⟩
  rw [evO, R.bind_ok] at p
  refine prg_1 hg hm ha (star_cons hst _ _) pins s σ H Q I ⟨env, m, g, e, er, hr, Post.bind p fun d m1 q1 v g1 e1 h1 r1 p1 => ?_⟩
  cases d <;> first | exact p1.elim | skip
  cases r1
  exact ⟨_, rfl, Post.val (Rel := fun _ (a : Int × Int) (b : Int × Int) => a = b) p1 h1 rfl⟩
theorem rg_so {lo hi : E} {p : Pos} (hg : Gl X "range") (hm : X.mg "range" = none) (ha : PE X x (tE X.K Tx C W lo)) (hb : PE X y (tE X.K Tx C W hi)) (hst : nst x = true) (hst2 : nst y = true) : PRg X (.Call (.Name "range" p) [x, y] [] pos) (tRg X.K Tx C W (.so lo) hi) := by
  intro pins s σ H Q I ⟨env, m, g, e, er, hr, p⟩
  rw [evO] at p
  refine prg_2 hg hm ha hb (star_cons hst _ _) (star_cons hst2 _ _) (by rw [star_cons hst2]; rfl) pins s σ H Q I ⟨env, m, g, e, er, hr, ?_⟩
  cases q : evE C lo env m with
  | stk =>
    rw [q] at p
    exact p.elim
  | exc xx m1 =>
    rw [q] at p
    exact p
  | ok d m1 =>
    rw [q] at p
    intro v g1 e1 h1 r1
    have p := p.mono e1
    have hd : ∃ i, d = .int i := by
      cases d <;> first | exact p.elim | exact ⟨_, rfl⟩
    obtain ⟨i, hd⟩ := hd
    subst hd
    have p : Post X.K Tx (fun _ (a : Int × Int) (b : Int × Int) => a = b) ((evE C hi env m1).bind fun y m2 => R.of (y.asInt.map fun j => (i, j)) m2) g1 (fun p H => Q p.1 p.2 H) (wat W σ) := p
    have r1 : RD X.K g1.r g1.F (.int i) v := r1
    cases r1
    refine ⟨env, m1, g1, rfl, er.mono e1, h1, Post.bind p fun d2 m2 q2 v2 g2 e2 h2 r2 p2 => ?_⟩
    cases d2 <;> first | exact p2.elim | skip
    cases r2
    exact ⟨_, _, rfl, rfl, Post.val (Rel := fun _ (a : Int × Int) (b : Int × Int) => a = b) p2 h2 rfl⟩
/-- what comes behind the bounds -/
theorem rg_post {α β : Type} {K : PySem.W.Frag} {Rel : G → α → β → Prop} {lo : Oe} {hi : E} {env : List Sl} {m : Mem} {g : G} {Q : β → Hp → Prop} {WW : XK} {f : Int → Int → Mem → R α} {Q2 : Int → Int → Hp → Prop}
    (p : Post K Tx Rel ((evO C lo env m).bind fun l m1 => (evE C hi env m1).bind fun y m2 => match y with
      | .int j => f (l.getD 0) j m2
      | _ => .stk) g Q WW) (k : ∀ a b m1 g1, Ex g g1 → HR K m1 g1 → Post K Tx Rel (f a b m1) g1 Q WW → Q2 a b g1.H) :
    Post K Tx (fun _ (a : Int × Int) (b : Int × Int) => a = b) ((evO C lo env m).bind fun l m1 => (evE C hi env m1).bind fun y m2 => R.of (y.asInt.map fun j => (l.getD 0, j)) m2) g (fun p H => Q2 p.1 p.2 H) WW := by
  cases q : evO C lo env m with
  | stk =>
    rw [q] at p
    exact p.elim
  | exc xx m1 =>
    rw [q] at p
    exact p
  | ok l m1 =>
    rw [q, R.bind_ok] at p
    rw [R.bind_ok]
    cases q2 : evE C hi env m1 with
    | stk =>
      rw [q2] at p
      exact p.elim
    | exc xx m2 =>
      rw [q2] at p
      exact p
    | ok d m2 =>
      rw [q2, R.bind_ok] at p
      rw [R.bind_ok]
      cases d <;> first | exact p.elim | skip
      intro b g1 e1 h1 r1
      have r1 : (l.getD 0, _) = b := r1
      subst r1
      exact k _ _ m2 g1 e1 h1 (Post.mono p e1)
theorem l_lrng (hc : X.calm = true) {lo : Oe} {hi : E} {p : Pos} (hg : Gl X "list") (hm : X.mg "list" = none) (hr : PRg X x (tRg X.K Tx C W lo hi)) (hst : nst x = true) : PE X (.Call (.Name "list" p) [x] [] pos) (tF X.K Tx C W (.lrng lo hi)) :=
  PE.imp (pe_listRg hc hg hm hr (star_cons hst _ _)) fun σ H Q ⟨env, m, g, e, er, hr, p⟩ => by
    rw [evF] at p
    refine ⟨env, m, g, e, er, hr, rg_post (Q2 := fun a b H1 => RgOk a b ∧ ∀ q, H1 q = none → Q (.ref q) (upd H1 q (.lst (rgV a b)))) (f := fun a j m2 => if rngOk a j then .ok (intsR a (j - a).toNat) m2 else .stk) p fun a b m1 g1 e1 h1 p1 => ?_⟩
    by_cases hz : rngOk a b = true
    · rw [if_pos hz] at p1
      exact ⟨rng_ok hz, fun l hl => Post.nls e1 p1 h1 hl (RDs.range _ _)⟩
    · rw [if_neg hz] at p1
      exact p1.elim
theorem l_tuprng (hc : X.calm = true) {lo : Oe} {hi : E} {p : Pos} (hg : Gl X "tuple") (hm : X.mg "tuple" = none) (hr : PRg X x (tRg X.K Tx C W lo hi)) (hst : nst x = true) : PE X (.Call (.Name "tuple" p) [x] [] pos) (tE X.K Tx C W (.tuprng lo hi)) :=
  PE.imp (pe_tupRg hc hg hm hr (star_cons hst _ _)) fun σ H Q ⟨env, m, g, e, er, hr, p⟩ => by
    rw [evE] at p
    refine ⟨env, m, g, e, er, hr, rg_post (Q2 := fun a b H1 => RgOk a b ∧ ∀ q, H1 q = none → Q (.ref q) (upd H1 q (.tup (rgV a b)))) (f := fun a j m2 => if rngOk a j then R.ok (D.tup (intsR a (j - a).toNat)) m2 else .stk) p fun a b m1 g1 e1 h1 p1 => ?_⟩
    by_cases hz : rngOk a b = true
    · rw [if_pos hz] at p1
      exact ⟨rng_ok hz, fun l hl => Post.tup p1 h1 hl (RDs.range _ _)⟩
    · rw [if_neg hz] at p1
      exact p1.elim
/-! ### what is walked -/
/-- an operand that may have to stay -/
def RAf (K : PySem.W.Frag) (fo : Bool) : G → D → V → Prop := fun g d v => RA K g d v ∧ (fo = true → RD K g.r g.F d v)
def tQ (K : PySem.W.Frag) (Tx : XI) (C : Call) (W : WX) (fo : Bool) (a : E) : TE := fun σ H Q => ∃ env m g, g.H = H ∧ ER K env g σ ∧ HR K m g ∧ Post K Tx (RAf K fo) (opr a env m (evE C a env m)) g Q (wat W σ)
theorem q_A {a : E} (h : PE X x (tA X.K Tx C W a)) : PE X x (tQ X.K Tx C W false a) :=
  PE.imp h fun σ H Q ⟨env, m, g, e, er, hr, p⟩ => ⟨env, m, g, e, er, hr, p.wk fun _ _ _ r => ⟨r, fun z => nomatch z⟩⟩
theorem q_E {a : E} (ho : ∀ env m r, opr a env m r = r) (h : PE X x (tE X.K Tx C W a)) : PE X x (tQ X.K Tx C W true a) :=
  PE.imp h fun σ H Q ⟨env, m, g, e, er, hr, p⟩ => by
    rw [ho] at p
    exact ⟨env, m, g, e, er, hr, p.wk fun _ _ _ r => ⟨.inl r, fun _ => r⟩⟩
theorem RAf.mono {K : PySem.W.Frag} {fo : Bool} {g g' : G} (e : Ex g g') {d : D} {v : V} (h : RAf K fo g d v) : RAf K fo g' d v := ⟨h.1.mono e, fun z => e.rd (h.2 z)⟩
variable {fo : Bool} {tg : Expr}
theorem stG_S (g1 g : G) (h : StG fo g1 g) : StR fo g1 g ∧ ∃ t, g.r = g1.r ++ t := h
/-- how a sequence is walked -/
theorem wkL {K : PySem.W.Frag} {g1 : G} {m1 : Mem} {ds : List D} {v : V} (h1 : HR K m1 g1) (r1 : RAf K fo g1 (.lst ds) v) (hl : LenOk K g1.H) :
    ∃ a vs, v = .ref a ∧ SqL K g1.H a vs ∧ vs.length = ds.length ∧ ds.length ≤ sizeLine ∧ StayL K a vs ds (StG fo g1) := by
  obtain ⟨a, vs, rfl, h2, st⟩ := stayL h1 r1.1 r1.2 (StG fo g1) fun g s => s
  obtain ⟨b, us, e, h3, _, h4⟩ := r1.1.lst h1
  cases e
  rw [h2] at h3
  cases h3
  have q := hl a vs (.inl (SqL.of h2))
  exact ⟨a, vs, rfl, SqL.of h2, h4.length.symm, by rw [h4.length]; exact q, st⟩
theorem wkT {K : PySem.W.Frag} {g1 : G} {m1 : Mem} {ds : List D} {v : V} (h1 : HR K m1 g1) (r1 : RAf K fo g1 (.tup ds) v) (hl : LenOk K g1.H) :
    ∃ a vs, v = .ref a ∧ SqT K g1.H a vs ∧ vs.length = ds.length ∧ ds.length ≤ sizeLine ∧ StayT K a vs ds (StG fo g1) := by
  obtain ⟨a, vs, rfl, h2, st⟩ := stayT (fo := fo) h1 r1.1 (StG fo g1) fun g s => s
  obtain ⟨b, us, e, h3, h4⟩ := r1.1.tup
  cases e
  have h5 := h1.sub _ _ h3
  rw [h2] at h5
  cases h5
  have q := hl a vs (.inr (SqT.of h2))
  exact ⟨a, vs, rfl, SqT.of h2, h4.length.symm, by rw [h4.length]; exact q, st⟩
theorem PI.ors {X : Cx} {tg it : Expr} {w w' w2 : TI} (h : PI X tg it w) (h' : PI X tg it w') (k : ∀ σ H R, w2 σ H R → w σ H R ∨ w' σ H R) : PI X tg it w2 := PI.imp (PI.or h h') k
/-- over a whole reading: as by two rules, by what comes -/
theorem post_or {α β : Type} {K : PySem.W.Frag} {Rel : G → α → β → Prop} {r : R α} {g : G} {Q Q1 Q2 : β → Hp → Prop} {WW : XK} (p : (∃ a m, r = .ok a m ∧ ((∀ b g', Ex g g' → HR K m g' → Rel g' a b → Q1 b g'.H) ∨ ∀ b g', Ex g g' → HR K m g' → Rel g' a b → Q2 b g'.H)) ∨ ∃ x m, r = .exc x m ∧ Post K Tx Rel r g Q WW) :
    Post K Tx Rel r g Q1 WW ∨ Post K Tx Rel r g Q2 WW := by
  rcases p with ⟨a, m, rfl, p | p⟩ | ⟨xx, m, rfl, p⟩
  · exact .inl p
  · exact .inr p
  · exact .inl p
theorem w_ex {a : E} (ha : PE X x (tQ X.K Tx C W fo a)) : PI X tg x (tR X.K Tx C W fo (.ex a)) :=
  PI.ors (pi_list (PE.len ha)) (pi_tup (PE.len ha)) fun σ H R ⟨env, m, g, e, er, hr, p⟩ => by
    rw [evR] at p
    cases q : opr a env m (evE C a env m) with
    | stk =>
      rw [q] at p
      exact p.elim
    | exc xx m1 =>
      rw [q] at p
      refine .inl ⟨env, m, g, e, er, hr, ?_⟩
      rw [q]
      exact p
    | ok d m1 =>
      rw [q] at p
      cases d <;> first | exact p.elim | skip
      · rename_i ds
        refine .inr ⟨env, m, g, e, er, hr, ?_⟩
        rw [q]
        intro v g1 e1 h1 r1 hl
        obtain ⟨b, vs, rfl, h2, h3, h4, st⟩ := wkT h1 r1 hl
        exact ⟨b, rfl, ⟨vs, h2⟩, Post.at (Rel := fun g1 ds J => WkD X.K J ds (StG fo g1)) p e1 h1 (wk_tup h4 st)⟩
      · rename_i ds
        refine .inl ⟨env, m, g, e, er, hr, ?_⟩
        rw [q]
        intro v g1 e1 h1 r1 hl
        obtain ⟨b, vs, rfl, h2, h3, h4, st⟩ := wkL h1 r1 hl
        exact ⟨b, rfl, ⟨vs, h2⟩, Post.at (Rel := fun g1 ds J => WkD X.K J ds (StG fo g1)) p e1 h1 (wk_list h4 st)⟩
end
end PF

set_option Elab.async false
set_option linter.all false
set_option maxRecDepth 100000
set_option maxHeartbeats 4000000
/-! PFo: methods and objects by their rules. -/
namespace PF
open PySem PySem.Spec PyProof.Rows L2

theorem ncal_base {e : Expr} (h : ncal e = true) (nm : Str) (env : Env) (w : Sem Value) : attributeBase e nm env w = w := by
  cases e <;> first | rfl | cases h
section
variable {K : PySem.W.Frag} {m : Mem} {g : G} {l : Addr} {vs : List V} {ys : List D} {n : Nat}
theorem HR.setO (h : HR K m g) (hn : g.r[n]? = some l) (r : RDs K g.r g.F ys vs) : HR K (m.set n (.lst ys)) (g.newU l (.lst vs)) := by
  refine ⟨fun a u q => ?_, by rw [List.length_set]; exact h.len, h.nd, h.fre, fun k a u h1 h2 => ?_⟩
  · have hne : a ≠ l := fun e => h.nof q (by rw [e]; exact List.mem_of_getElem? hn)
    show upd g.H l _ a = some u
    rw [upd_ne hne]
    exact h.sub a u q
  · have h1 : g.r[k]? = some a := h1
    by_cases e : k = n
    · subst e
      rw [hn] at h1
      cases h1
      rw [List.getElem?_set_self (by rw [← h.len]; exact (List.getElem?_eq_some_iff.mp hn).1)] at h2
      cases h2
      exact ⟨vs, upd_same, r⟩
    · rw [List.getElem?_set_ne (Ne.symm e)] at h2
      have z := h.obj k a u h1 h2
      have hne : a ≠ l := fun e2 => by
        subst e2
        obtain ⟨p1, p2⟩ := List.getElem?_eq_some_iff.mp h1
        obtain ⟨p3, p4⟩ := List.getElem?_eq_some_iff.mp hn
        exact e (List.getElem_inj h.nd |>.mp (p2.trans p4.symm))
      cases u with
      | lst zs =>
        obtain ⟨ws, z1, z2⟩ := z
        exact ⟨ws, by show upd g.H l _ a = _; rw [upd_ne hne]; exact z1, z2⟩
theorem Ex.setO {o : HO} (hl : l ∈ g.r) : Ex g (g.newU l o) := by
  refine ⟨⟨[], by simp [G.newU], by simp⟩, fun _ _ q => q, fun _ _ _ => rfl, fun a u q hn => ?_, fun a u q => ?_⟩
  · have hne : a ≠ l := fun e => hn (by rw [e]; exact hl)
    show upd g.H l o a = some u
    rw [upd_ne hne]
    exact q
  · show ∃ o', upd g.H l o a = some o'
    by_cases e : a = l
    · subst e
      exact ⟨o, upd_same⟩
    · rw [upd_ne e]
      exact ⟨u, q⟩
end
section
variable {X : Cx} {Tx : XI} {C : Call} {W : WX} {x y z : Expr} {pos : Pos}
theorem l_bits {a : E} {ap : Pos} (ha : PE X x (tA X.K Tx C W a)) (hn : ncal x = true) (hl : (ap.endLine == pos.line) = true) : PE X (.Call (.Attribute x "bit_length" ap) [] [] pos) (tE X.K Tx C W (.mt .bits a .nil)) :=
  PE.imp (pe_bits ha (ncal_base hn _ _ _) hl) fun σ H Q ⟨env, m, g, e, er, hr, p⟩ => by
    rw [evE] at p
    refine ⟨env, m, g, e, er, hr, Post.bind p fun d m1 _ v g1 e1 h1 r1 p1 => ?_⟩
    cases d <;> first | exact p1.elim | skip
    rw [mtOk_int, if_pos rfl, evEs, R.bind_ok] at p1
    rw [r1.int]
    exact ⟨_, rfl, Post.val (Rel := RDg X.K) p1 h1 (.int _)⟩
theorem findD_at {x : D} : ∀ {ys : List D} {k0 k : Nat}, findD x ys k0 = some k → ∃ j z, k = k0 + j ∧ ys[j]? = some z ∧ D.beq z x = true ∧ ∀ (i : Nat) (z' : D), i < j → ys[i]? = some z' → D.beq z' x = false
  | [], _, _, h => nomatch h
  | y :: r, k0, k, h => by
    unfold findD at h
    split at h
    · rename_i hb
      cases h
      exact ⟨0, y, rfl, rfl, hb, fun i _ hi _ => absurd hi (Nat.not_lt_zero i)⟩
    · rename_i hb
      obtain ⟨j, z, h1, h2, h3, h4⟩ := findD_at h
      refine ⟨j + 1, z, by omega, h2, h3, fun i z' hi hz => ?_⟩
      cases i with
      | zero =>
        have hz : some y = some z' := hz
        cases hz
        simpa using hb
      | succ i => exact h4 i z' (by omega) hz
theorem l_index {a b : E} {ap : Pos} (ha : PE X x (tA X.K Tx C W a)) (hb : PE X y (tE X.K Tx C W b)) (hn : ncal x = true) (hl : (ap.endLine == pos.line) = true) (hst : nst y = true) :
    PE X (.Call (.Attribute x "index" ap) [y] [] pos) (tE X.K Tx C W (.mt .index a (.cons b .nil))) :=
  PE.imp (pe_bm PySem.F.plainAttrs_list PySem.F.slot_list_index PySem.F.type_list_index mt_index ha (pa_cons hb pa_nil (star_cons hst _ _)) (ncal_base hn _ _ _) (by rw [star_cons hst]; rfl) hl (star_cons hst _ _) rfl) fun σ H Q ⟨env, m, g, e, er, hr, p⟩ => by
    rw [evE] at p
    refine ⟨env, m, g, e, er, hr, Post.bind p fun d m1 q1 v g1 e1 h1 r1 p1 => ?_⟩
    have hd : ∃ ys, d = .lst ys := by
      cases d <;> first | exact p1.elim | exact ⟨_, rfl⟩
    obtain ⟨ys, hd⟩ := hd
    subst hd
    rw [mtOk_lst, if_pos rfl, evEs] at p1
    obtain ⟨w, vs, rfl, k1, k2, k3⟩ := r1.lst h1
    refine ⟨.inl ⟨rfl, vs, SqL.of k1⟩, env, m1, g1, rfl, er.mono e1, h1, ?_⟩
    cases q2 : evE C b env m1 with
    | stk =>
      rw [q2] at p1
      exact p1.elim
    | exc xx m2 =>
      rw [q2] at p1
      exact p1
    | ok d2 m2 =>
      rw [q2, R.bind_ok, evEs, R.bind_ok, R.bind_ok] at p1
      intro u g2 e2 h2 r2
      have p2 : Post X.K Tx (RDg X.K) (R.of (if d2.flat && ys.all D.flat then (findD d2 ys 0).map fun k => .int (k : Nat) else none) m2) g1 Q (wat W σ) := p1
      by_cases hf : (d2.flat && ys.all D.flat) = true
      · rw [if_pos hf] at p2
        rw [Bool.and_eq_true] at hf
        cases q3 : findD d2 ys 0 with
        | none =>
          rw [q3] at p2
          exact p2.elim
        | some k =>
          rw [q3] at p2
          obtain ⟨j, z, rfl, k4, k5, k6⟩ := findD_at q3
          have rds := e2.rds k3
          obtain ⟨zv, z1, z2⟩ := rds.get k4
          have fz : z.flat = true := List.all_eq_true.mp hf.2 z (List.mem_of_getElem? k4)
          refine ⟨w, vs, u, j, zv, rfl, rfl, SqL.of (e2.kep _ _ k1 k2), r2.flatV hf.1, rds.flatV hf.2, z1, ?_, fun i zv' hi hz => ?_, ?_⟩
          · rw [z2.eqV r2 fz hf.1]
            exact k5
          · obtain ⟨z', y1, y2⟩ := rds.getv hz
            rw [y2.eqV r2 (List.all_eq_true.mp hf.2 z' (List.mem_of_getElem? y1)) hf.1]
            exact k6 i z' hi y1
          · have := Post.at (Rel := RDg X.K) p2 e2 h2 (.int ((0 + j : Nat) : Int))
            rw [Nat.zero_add] at this
            exact this
      · rw [if_neg hf] at p2
        exact p2.elim
theorem all_flat_pure : ∀ {xs : List D}, xs.all D.flat = true → D.pures xs = true ∧ D.deps xs = 0
  | [], _ => ⟨rfl, rfl⟩
  | x :: r, h => by
    rw [List.all_cons, Bool.and_eq_true] at h
    obtain ⟨h1, h2⟩ := all_flat_pure h.2
    have h3 : x.pure = true ∧ x.dep = 0 := by
      cases x <;> first | exact ⟨rfl, rfl⟩ | (cases h.1)
    exact ⟨by rw [D.pures, h3.1, h1]; rfl, by rw [D.deps, h3.2, h2]; rfl⟩
theorem k_oeqn {a : E} : ∀ (σ : L2.St) (H : Hp) (Q : VK), tE X.K Tx C W (.oeqn a) σ H Q → tOp (rEqM X.K false) (tE X.K Tx C W a) (tLst tNil) σ H Q :=
  fun σ H Q ⟨env, m, g, e, er, hr, p⟩ => by
    rw [evE] at p
    refine ⟨env, m, g, e, er, hr, Post.bind p fun d m1 q1 v g1 e1 h1 r1 p1 => ⟨by rw [sizeLine_eq]; decide, fun l hl => ?_⟩⟩
    cases q : objL m1 d with
    | none =>
      rw [q] at p1
      exact p1.elim
    | some kx =>
      obtain ⟨j, xs⟩ := kx
      rw [q] at p1
      by_cases hf : xs.all D.flat = true
      · have p1 : Post X.K Tx (RDg X.K) (if xs.all D.flat then .ok (.bl xs.isEmpty) m1 else .stk) g1 Q (wat W σ) := p1
        rw [if_pos hf] at p1
        obtain ⟨b, vs, rfl, k1, k2, k3⟩ := objL_rd h1 r1 q
        obtain ⟨f1, f2⟩ := all_flat_pure hf
        have hne : b ≠ l := ne_of_none k2 hl
        have e2 : Ex g1 (g1.newU l (.lst [])) := Ex.newU hl
        have h2 : HR X.K m1 (g1.newU l (.lst [])) := h1.newU hl
        have eqv : PyData.eqv (PyData.list (D.toPys xs)) (PyData.list []) = xs.isEmpty := by
          have z := toPy_eqv (.lst xs) (.lst []) (by rw [D.pure]; exact f1) rfl
          rw [show (D.lst xs).toPy = PyData.list (D.toPys xs) from by rw [D.toPy], show (D.lst []).toPy = PyData.list [] from by rw [D.toPy, D.toPys]] at z
          rw [z]
          cases xs <;> rfl
        refine ⟨.list (D.toPys xs), .list [], .lst (SqL.of (show upd g1.H l _ b = _ from by rw [upd_ne hne]; exact k2)) (k3.dp (fun c o z => e2.kep c o (h1.sub c o z) (h1.nof z)) f1), .lst (SqL.of upd_same) .nil, ?_, ?_, ?_, ?_⟩
        · exact RD.can (d := .lst xs) (K := X.K) (ρ := g1.r) (F := upd g1.F b (.lst vs)) (v := .ref b) (by rw [D.pure]; exact f1) (.lst upd_same (k3.mono (fun _ _ z => z) fun c o z => by
            rw [upd_ne (ne_of_none z (h1.fre b (List.mem_of_getElem? k1)))]
            exact z))
        · exact RD.can (d := .lst []) (K := X.K) (ρ := []) (F := upd (fun _ => none) 0 (.lst [])) (v := .ref 0) rfl (.lst upd_same .nil)
        · have := toPy_depth (.lst xs)
          rw [show (D.lst xs).toPy = PyData.list (D.toPys xs) from by rw [D.toPy]] at this
          rw [this, D.dep, f2]
          omega
        · rw [eqv]
          exact Post.at (Rel := RDg X.K) p1 e2 h2 (.bl _)
      · have p1 : Post X.K Tx (RDg X.K) (if xs.all D.flat then .ok (.bl xs.isEmpty) m1 else .stk) g1 Q (wat W σ) := p1
        rw [if_neg hf] at p1
        exact p1.elim
theorem l_oeqn {k : Nat} (hm : Room k X.A) {a : E} {lp : Pos} (ha : PE X x (tE X.K Tx C W a)) : PE X (.Compare x [.Eq] [.List [] lp] pos) (tE X.K Tx C W (.oeqn a)) :=
  PE.imp (pe_cmpR (op_eqM hm.units) ha (pe_lst pa_nil) (nobehind _ (by decide) (by decide))) k_oeqn
theorem l_toeqn {k : Nat} (hm : Room k X.A) {a : E} {lp : Pos} (ha : PE X x (tE X.K Tx C W a)) : PT X (.Compare x [.Eq] [.List [] lp] pos) (tT X.K Tx C W (.cmp (.oeqn a))) :=
  l_tst (pt_cmpR (op_eqM hm.units) ha (pe_lst pa_nil) (nobehind _ (by decide) (by decide))) k_oeqn
theorem l_opop {a : E} {ap : Pos} (ha : PE X x (tE X.K Tx C W a)) (hn : ncal x = true) (hl : (ap.endLine == pos.line) = true) : PE X (.Call (.Attribute x "pop" ap) [] [] pos) (tE X.K Tx C W (.opop a)) :=
  PE.imp (pe_bm0 PySem.F.plainAttrs_list PySem.F.slot_list_pop PySem.F.type_list_pop mt_pop ha (ncal_base hn _ _ _) hl) fun σ H Q ⟨env, m, g, e, er, hr, p⟩ => by
    rw [evE] at p
    refine ⟨env, m, g, e, er, hr, Post.bind p fun d m1 q1 v g1 e1 h1 r1 p1 => ?_⟩
    cases q : objL m1 d with
    | none =>
      rw [q] at p1
      exact p1.elim
    | some kx =>
      obtain ⟨j, xs⟩ := kx
      rw [q] at p1
      obtain ⟨b, vs, rfl, k1, k2, k3⟩ := objL_rd h1 r1 q
      refine ⟨.inl ⟨rfl, vs, SqL.of k2⟩, b, vs, ?_⟩
      cases q3 : xs[xs.length - 1]? with
      | none =>
        simp only [q3] at p1
        exact p1.elim
      | some y =>
        simp only [q3] at p1
        obtain ⟨yv, y1, y2⟩ := k3.get q3
        have hb := List.mem_of_getElem? k1
        refine ⟨yv, rfl, rfl, k2, by rw [← k3.length]; exact y1, ?_⟩
        exact Post.at (Rel := RDg X.K) p1 (Ex.setO (o := .lst vs.dropLast) hb) (h1.setO k1 k3.dropLast) ((Ex.setO (o := .lst vs.dropLast) hb).rd y2)
end
end PF

set_option Elab.async false
set_option linter.all false
set_option maxRecDepth 100000
set_option maxHeartbeats 4000000
/-! PFk: what is walked (ranges, enumerate, zip, reversed), targets. -/
namespace PF
open PySem PySem.Spec PyProof.Rows L2 RZ RT
section
variable {X : Cx} {Tx : XI} {C : Call} {W : WX} {x y z tg : Expr} {pos : Pos} {fo : Bool}
abbrev RW_ (K : PySem.W.Frag) (fo : Bool) : G → List D → It → Prop := fun g1 ds J => WkD K J ds (StG fo g1)
theorem rng_bd {a b : Int} (h : rngOk a b = true) : (-1000000 ≤ a ∧ a ≤ 1000000) ∧ -1000000 ≤ b ∧ b ≤ 1000000 := by
  unfold rngOk at h
  simp only [Bool.and_eq_true, decide_eq_true_eq] at h
  omega
theorem w_rng1 {a : E} {p : Pos} (hg : Gl X "range") (hm : X.mg "range" = none) (ha : PE X x (tE X.K Tx C W a)) (hst : nst x = true) : PI X tg (.Call (.Name "range" p) [x] [] pos) (tR X.K Tx C W fo (.rng1 a)) :=
  PI.imp (pi_range1 hg hm (pa_cons ha pa_nil (star_cons hst _ _)) (star_cons hst _ _)) fun σ H R ⟨env, m, g, e, er, hr, p⟩ => by
    rw [evR] at p
    refine ⟨env, m, g, e, er, hr, Post.bind p fun d m1 q1 v g1 e1 h1 r1 p1 => ?_⟩
    have hd : ∃ i, d = .int i := by
      cases d <;> first | exact p1.elim | exact ⟨_, rfl⟩
    obtain ⟨j, hd⟩ := hd
    subst hd
    have r1 : RD X.K g1.r g1.F (.int j) v := r1
    cases r1
    by_cases hz : rngOk 0 j = true
    · simp only [hz, if_true] at p1
      have hb := rng_bd hz
      exact ⟨j, rfl, by omega, by omega, Post.val (Rel := RW_ X.K fo) p1 h1 (wk_range (by rw [sizeLine_eq]; omega))⟩
    · simp only [hz, if_false] at p1
      exact p1.elim
theorem w_rng2 {a b : E} {p : Pos} (hg : Gl X "range") (hm : X.mg "range" = none) (ha : PE X x (tE X.K Tx C W a)) (hb : PE X y (tE X.K Tx C W b)) (hst : nst x = true) (hst2 : nst y = true) : PI X tg (.Call (.Name "range" p) [x, y] [] pos) (tR X.K Tx C W fo (.rng2 a b)) :=
  PI.imp (pi_range2 hg hm (pa_cons ha (pa_cons hb pa_nil (star_cons hst2 _ _)) (star_cons hst _ _)) (by rw [star_cons hst, star_cons hst2]; rfl) (star_cons hst2 _ _)) fun σ H R ⟨env, m, g, e, er, hr, p⟩ => by
    rw [evR] at p
    refine ⟨env, m, g, e, er, hr, Post.bind p fun d m1 q1 v g1 e1 h1 r1 p1 => ⟨env, m1, g1, rfl, er.mono e1, h1, Post.bind p1 fun d2 m2 q2 u g2 e2 h2 r2 p2 => ?_⟩⟩
    have hd : ∃ i j, d = .int i ∧ d2 = .int j := by
      cases d <;> first | exact p2.elim | (cases d2 <;> first | exact p2.elim | exact ⟨_, _, rfl, rfl⟩)
    obtain ⟨i, j, hd, hd2⟩ := hd
    subst hd hd2
    have r1 : RD X.K g1.r g1.F (.int i) v := r1
    have r2 : RD X.K g2.r g2.F (.int j) u := r2
    cases r1
    cases r2
    by_cases hz : rngOk i j = true
    · simp only [hz, if_true] at p2
      have hb := rng_bd hz
      exact ⟨i, j, rfl, by omega, Post.val (Rel := RW_ X.K fo) p2 h2 (wk_range (by rw [sizeLine_eq]; omega))⟩
    · simp only [hz, if_false] at p2
      exact p2.elim
theorem rg3 {i j c : Int} (h : rngOk i j = true) (h0 : 0 < c) (h1 : c ≤ 1000000) : RgC i j c ((j - i + c - 1) / c).toNat ∧ ((j - i + c - 1) / c).toNat ≤ sizeLine := by
  have hb := rng_bd h
  have e : Builtin.Range.rangeSize i j c = (((j - i + c - 1) / c).toNat : Nat) ∧ ((j - i + c - 1) / c).toNat ≤ 2000000 := by
    unfold Builtin.Range.rangeSize
    rw [if_pos h0]
    have e1 : (j - i + c - 1) / c = (j - i - 1) / c + 1 := by
      have : j - i + c - 1 = (j - i - 1) + c * 1 := by omega
      rw [this, Int.add_mul_ediv_left _ _ (by omega)]
    by_cases hij : i < j
    · rw [if_pos hij, e1]
      have q0 : 0 ≤ (j - i - 1) / c := Int.ediv_nonneg (by omega) (by omega)
      have q1 : (j - i - 1) / c ≤ j - i - 1 := Int.ediv_le_self _ (by omega)
      omega
    · rw [if_neg hij, e1]
      have q1 : (j - i - 1) / c < 0 := Int.ediv_neg_of_neg_of_pos (by omega) h0
      omega
  refine ⟨⟨by omega, by omega, ?_, e.1⟩, by rw [sizeLine_eq]; omega⟩
  unfold Builtin.Range.small
  rw [e.1]
  simp only [Builtin.Range.rangeFitsLong, Bool.and_eq_true, Bool.or_eq_true, decide_eq_true_eq, beq_iff_eq, h0, if_true]
  obtain ⟨_, e2⟩ := e
  generalize ((j - i + c - 1) / c).toNat = n at *
  omega
theorem w_rng3 {a b c : E} {p : Pos} (hg : Gl X "range") (hm : X.mg "range" = none) (ha : PE X x (tE X.K Tx C W a)) (hb : PE X y (tE X.K Tx C W b)) (hc : PE X z (tE X.K Tx C W c)) (hst : nst x = true) (hst2 : nst y = true) (hst3 : nst z = true) : PI X tg (.Call (.Name "range" p) [x, y, z] [] pos) (tR X.K Tx C W fo (.rng3 a b c)) :=
  PI.imp (pi_range3 hg hm (pa_cons ha (pa_cons hb (pa_cons hc pa_nil (star_cons hst3 _ _)) (star_cons hst2 _ _)) (star_cons hst _ _)) (star_cons hst _ _) (by rw [star_cons hst2, star_cons hst3]; rfl)) fun σ H R ⟨env, m, g, e, er, hr, p⟩ => by
    rw [evR] at p
    refine ⟨env, m, g, e, er, hr, Post.bind p fun d m1 q1 v g1 e1 h1 r1 p1 => ⟨env, m1, g1, rfl, er.mono e1, h1, Post.bind p1 fun d2 m2 q2 u g2 e2 h2 r2 p2 => ⟨env, m2, g2, rfl, (er.mono e1).mono e2, h2, Post.bind p2 fun d3 m3 q3 w g3 e3 h3 r3 p3 => ?_⟩⟩⟩
    have hd : ∃ i j c, d = .int i ∧ d2 = .int j ∧ d3 = .int c := by
      cases d <;> first | exact p3.elim | (cases d2 <;> first | exact p3.elim | (cases d3 <;> first | exact p3.elim | exact ⟨_, _, _, rfl, rfl, rfl⟩))
    obtain ⟨i, j, c, hd, hd2, hd3⟩ := hd
    subst hd hd2 hd3
    have r1 : RD X.K g1.r g1.F (.int i) v := r1
    have r2 : RD X.K g2.r g2.F (.int j) u := r2
    have r3 : RD X.K g3.r g3.F (.int c) w := r3
    cases r1
    cases r2
    cases r3
    by_cases hz : (rngOk i j && (decide (0 < c) && decide (c ≤ 1000000))) = true
    · simp only [hz, if_true] at p3
      simp only [Bool.and_eq_true, decide_eq_true_eq] at hz
      obtain ⟨k1, k2⟩ := rg3 hz.1 hz.2.1 hz.2.2
      exact ⟨i, j, c, _, rfl, k1, Post.val (Rel := RW_ X.K fo) p3 h3 (wk_rangeC k2)⟩
    · simp only [hz, if_false] at p3
      exact p3.elim
theorem w_enm {a : E} {p tpos : Pos} {elts : List Expr} {kk : Nat} (hg : Gl X "enumerate") (hm : X.mg "enumerate" = none) (ha : PE X x (tQ X.K Tx C W fo a)) (hst : nst x = true) : PI X (.Tuple elts kk tpos) (.Call (.Name "enumerate" p) [x] [] pos) (tR X.K Tx C W fo (.enm a)) :=
  PI.ors (pi_enum hg hm (pa_cons (PE.len ha) pa_nil (star_cons hst _ _)) (star_cons hst _ _)) (pi_enumT hg hm (PE.len ha) (star_cons hst _ _)) fun σ H R ⟨env, m, g, e, er, hr, p⟩ => by
    rw [evR] at p
    cases q : opr a env m (evE C a env m) with
    | stk =>
      rw [q] at p
      exact p.elim
    | exc xx m1 =>
      rw [q] at p
      refine .inl ⟨env, m, g, e, er, hr, ?_⟩
      rw [q]
      exact p
    | ok d m1 =>
      rw [q] at p
      cases d <;> first | exact p.elim | skip
      · refine .inr ⟨env, m, g, e, er, hr, ?_⟩
        rw [q]
        intro v g1 e1 h1 r1 hl
        obtain ⟨b, vs, rfl, h2, h3, h4, st⟩ := wkT h1 r1 hl
        exact ⟨b, vs, rfl, h2, Post.at (Rel := RW_ X.K fo) p e1 h1 (wk_enumT h4 st)⟩
      · refine .inl ⟨env, m, g, e, er, hr, ?_⟩
        rw [q]
        intro v g1 e1 h1 r1 hl
        obtain ⟨b, vs, rfl, h2, h3, h4, st⟩ := wkL h1 r1 hl
        exact ⟨b, vs, rfl, h2, Post.at (Rel := RW_ X.K fo) p e1 h1 (wk_enum h4 st)⟩
theorem w_rev {a : E} {p : Pos} (hg : Gl X "reversed") (hm : X.mg "reversed" = none) (ha : PE X x (tQ X.K Tx C W fo a)) (hst : nst x = true) : PI X tg (.Call (.Name "reversed" p) [x] [] pos) (tR X.K Tx C W fo (.rev a)) :=
  PI.imp (pi_revA hg hm (PE.len ha) (star_cons hst _ _)) fun σ H R ⟨env, m, g, e, er, hr, p⟩ => by
    rw [evR] at p
    refine ⟨env, m, g, e, er, hr, Post.bind p fun d m1 q1 v g1 e1 h1 r1 p1 hl => ?_⟩
    cases d <;> first | exact p1.elim | skip
    · obtain ⟨b, vs, rfl, h2, h3, h4, st⟩ := wkT h1 r1 hl
      exact ⟨b, vs, rfl, .inr ⟨h2, Post.val (Rel := RW_ X.K fo) p1 h1 (wk_revT h4 st h3)⟩⟩
    · obtain ⟨b, vs, rfl, h2, h3, h4, st⟩ := wkL h1 r1 hl
      exact ⟨b, vs, rfl, .inl ⟨h2, Post.val (Rel := RW_ X.K fo) p1 h1 (wk_rev h4 st h3)⟩⟩
theorem StG.tr {fo : Bool} {g g1 g2 : G} (e : Ex g g1) (h : StG fo g1 g2) : StG fo g g2 := by
  obtain ⟨h1, t, h2⟩ := h
  obtain ⟨t0, e0, _⟩ := e.pre
  refine ⟨?_, t0 ++ t, by rw [h2, e0, List.append_assoc]⟩
  cases fo with
  | true =>
    have h1 : Same g1.F g2.F := h1
    exact fun b o q => h1 b o (e.frz b o q)
  | false => exact e.trans h1
theorem w_zip {a b : E} {p tpos : Pos} {elts : List Expr} {kk : Nat} (hg : Gl X "zip") (hm : X.mg "zip" = none) (ha : PE X x (tQ X.K Tx C W fo a)) (hb : PE X y (tQ X.K Tx C W fo b)) (hst : nst x = true) (hst2 : nst y = true) : PI X (.Tuple elts kk tpos) (.Call (.Name "zip" p) [x, y] [] pos) (tR X.K Tx C W fo (.zip a b)) :=
  PI.imp (pi_zipA hg hm (pa_cons (PE.len ha) (pa_cons (PE.len hb) pa_nil (star_cons hst2 _ _)) (star_cons hst _ _)) (star_cons hst _ _) (by rw [star_cons hst2]; rfl)) fun σ H R ⟨env, m, g, e, er, hr, p⟩ => by
    rw [evR] at p
    refine ⟨env, m, g, e, er, hr, Post.bind p fun d m1 q1 v g1 e1 h1 r1 p1 hl1 => ⟨env, m1, g1, rfl, er.mono e1, h1, Post.bind p1 fun d2 m2 q2 u g2 e2 h2 r2 p2 hl => ?_⟩⟩
    have r1' := r1.mono e2
    cases d <;> first | exact p2.elim | skip
    · cases d2 <;> first | exact p2.elim | skip
      obtain ⟨b, vs, rfl, k2, k3, k4, st⟩ := wkT h2 r1' hl
      obtain ⟨b', vs', rfl, k2', k3', k4', st'⟩ := wkT h2 r2 hl
      exact ⟨b, b', vs, vs', rfl, .inr ⟨k2, k2', Post.val (Rel := RW_ X.K fo) p2 h2 (wk_zipT k4 st st')⟩⟩
    · cases d2 <;> first | exact p2.elim | skip
      obtain ⟨b, vs, rfl, k2, k3, k4, st⟩ := wkL h2 r1' hl
      obtain ⟨b', vs', rfl, k2', k3', k4', st'⟩ := wkL h2 r2 hl
      exact ⟨b, b', vs, vs', rfl, .inl ⟨k2, k2', Post.val (Rel := RW_ X.K fo) p2 h2 (wk_zip k4 st st')⟩⟩
end
end PF

set_option Elab.async false
set_option linter.all false
set_option maxRecDepth 100000
set_option maxHeartbeats 4000000
/-! PFl: stores, targets, comprehensions. -/
namespace PF
open PySem PySem.Spec PyProof.Rows L2

section
variable {K : PySem.W.Frag} {env : List Sl} {g : G} {σ : L2.St}
theorem set_at {α : Type} {l : List α} {i j : Nat} {x y : α} (h : (l.set i x)[j]? = some y) : (i = j ∧ x = y) ∨ (i ≠ j ∧ l[j]? = some y) := by
  by_cases e : i = j
  · subst e
    by_cases hl : i < l.length
    · rw [List.getElem?_set_self hl] at h
      exact .inl ⟨rfl, Option.some.inj h⟩
    · rw [List.getElem?_eq_none (by simpa using hl)] at h
      cases h
  · rw [List.getElem?_set_ne e] at h
    exact .inr ⟨e, h⟩
theorem at_set {α : Type} {l : List α} {i : Nat} {x y : α} (h : (l.set i x)[i]? = some y) (z : α) : (l.set i z)[i]? = some z := by
  by_cases hl : i < l.length
  · rw [List.getElem?_set_self hl]
  · rw [List.getElem?_eq_none (by simpa using hl)] at h
    cases h
theorem ER.setV (er : ER K env g σ) (i : Nat) {d : D} {v : V} (r : RD K g.r g.F d v) : ER K (env.set i (.val d)) g (σ.set i (some v)) := by
  refine ⟨by rw [List.length_set, List.length_set, er.len], fun j e q => ?_, fun j xs q => ?_, fun j k xs ys p q1 q2 q3 q4 => ?_⟩
  · rcases set_at q with ⟨rfl, z⟩ | ⟨hn, q⟩
    · cases z
      refine ⟨v, ?_, r⟩
      have hl : i < env.length := by
        by_cases hl : i < env.length
        · exact hl
        · rw [List.getElem?_eq_none (by simpa using hl)] at q
          cases q
      rw [List.getElem?_set_self (by rw [← er.len]; exact hl)]
    · obtain ⟨u, h1, h2⟩ := er.val j e q
      exact ⟨u, by rw [List.getElem?_set_ne hn]; exact h1, h2⟩
  · rcases set_at q with ⟨rfl, z⟩ | ⟨hn, q⟩
    · cases z
    · obtain ⟨p, vs, h1, h2⟩ := er.own j xs q
      exact ⟨p, vs, by rw [List.getElem?_set_ne hn]; exact h1, h2⟩
  · rcases set_at q1 with ⟨_, q1⟩ | ⟨hn, q1⟩
    · cases q1
    · rcases set_at q2 with ⟨_, q2⟩ | ⟨hn2, q2⟩
      · cases q2
      · rw [List.getElem?_set_ne hn] at q3
        rw [List.getElem?_set_ne hn2] at q4
        exact er.sep j k xs ys p q1 q2 q3 q4
theorem ER.setN (er : ER K env g σ) (i : Nat) (o : Option V) : ER K (env.set i .no) g (σ.set i o) := by
  refine ⟨by rw [List.length_set, List.length_set, er.len], fun j e q => ?_, fun j xs q => ?_, fun j k xs ys p q1 q2 q3 q4 => ?_⟩
  · rcases set_at q with ⟨rfl, z⟩ | ⟨hn, q⟩
    · cases z
    · obtain ⟨u, h1, h2⟩ := er.val j e q
      exact ⟨u, by rw [List.getElem?_set_ne hn]; exact h1, h2⟩
  · rcases set_at q with ⟨rfl, z⟩ | ⟨hn, q⟩
    · cases z
    · obtain ⟨p, vs, h1, h2⟩ := er.own j xs q
      exact ⟨p, vs, by rw [List.getElem?_set_ne hn]; exact h1, h2⟩
  · rcases set_at q1 with ⟨_, q1⟩ | ⟨hn, q1⟩
    · cases q1
    · rcases set_at q2 with ⟨_, q2⟩ | ⟨hn2, q2⟩
      · cases q2
      · rw [List.getElem?_set_ne hn] at q3
        rw [List.getElem?_set_ne hn2] at q4
        exact er.sep j k xs ys p q1 q2 q3 q4
theorem ER.wipe (er : ER K env g σ) : ∀ vs : List Nat, ER K (wipeE env vs) g (L2.wipe σ vs)
  | [] => er
  | i :: r => (ER.wipe er r).setN i none
end

/-! ### targets -/
mutual
def Tg.len : Tg → Nat
  | .nm _ => 1
  | .tup ts => Tgs.len ts
def Tgs.len : Tgs → Nat
  | .nil => 0
  | .cons _ r => Tgs.len r + 1
end
theorem bindTs_len : ∀ {ts : Tgs} {ds : List D} {env env' : List Sl}, bindTs ts ds env = some env' → ds.length = Tgs.len ts
  | .nil, [], _, _, _ => rfl
  | .nil, _ :: _, _, _, h => nomatch h
  | .cons _ _, [], _, _, h => nomatch h
  | .cons t r, d :: ds, env, env', h => by
    rw [bindTs] at h
    cases q : bindT t d env with
    | none =>
      rw [q] at h
      cases h
    | some env1 =>
      rw [q] at h
      rw [List.length_cons, bindTs_len (ts := r) h, Tgs.len]
/-- a target's reading -/
def gT (K : PySem.W.Frag) (t : Tg) : TG := fun v σ H Q => ∃ d env env' g m, g.H = H ∧ HR K m g ∧ ER K env g σ ∧ RD K g.r g.F d v ∧ bindT t d env = some env' ∧
  ∀ σ', ER K env' g σ' → (∀ i, i ∉ t.slots → σ'[i]? = σ[i]?) → Q σ' H
def gTs (K : PySem.W.Frag) (ts : Tgs) : TGs := fun vs σ H Q => ∃ ds env env' g m, g.H = H ∧ HR K m g ∧ ER K env g σ ∧ RDs K g.r g.F ds vs ∧ bindTs ts ds env = some env' ∧
  ∀ σ', ER K env' g σ' → (∀ i, i ∉ Tgs.slots ts → σ'[i]? = σ[i]?) → Q σ' H
section
variable {X : Cx} {Γ : Gam} {pos : Pos}
theorem PG.or {t : Expr} {a b : TG} (h : PG X t a) (h' : PG X t b) : PG X t (fun v σ H Q => a v σ H Q ∨ b v σ H Q) :=
  ⟨fun pins s σ H v u Q I r q => q.elim (h.run pins s σ H v u Q I r) (h'.run pins s σ H v u Q I r)⟩
theorem asg_cons {e : Expr} (h : nst e = true) (es : List Expr) (env : Env) : assignEach (e :: es) env = (false, assign e env) :: assignEach es env := by
  cases e <;> first | rfl | cases h
theorem asg_none : ∀ {es : List Expr} (h : es.all nst = true) (env : Env), (assignEach es env).findIdx? (·.1) = none ∧ (assignEach es env).length = es.length
  | [], _, _ => ⟨rfl, rfl⟩
  | e :: es, h, env => by
    rw [List.all_cons, Bool.and_eq_true] at h
    rw [asg_cons h.1]
    obtain ⟨h1, h2⟩ := asg_none h.2 env
    refine ⟨?_, by rw [List.length_cons, List.length_cons, h2]⟩
    rw [List.findIdx?_cons]
    simp [h1]
mutual
theorem g_tg (hc : X.calm = true) (hN : X.N.Nodup) (hG : X.N = Γ.N) (hs : ∀ x, Γ.sto x = true → Loc X.env.scope x ∧ (X.fn x = true ∨ X.env.scope.names.lookup x = some .local)) : ∀ (t : Tg) (e : Expr), ckG Γ t e = true → PG X e (gT X.K t)
  | .nm i, e, h => by
    cases e <;> first | (simp [ckG] at h; done) | skip
    · rename_i x p
      rw [ckG] at h
      rw [Bool.and_eq_true, decide_eq_true_eq] at h
      obtain ⟨h1, h2⟩ := hs x h.2
      exact PG.imp (pg_name hN (by rw [hG]; exact h.1) h1 h2) fun v σ H Q ⟨d, env, env', g, m, e, hr, er, r, b, k⟩ => by
        rw [bindT] at b
        split at b
        · cases b
          refine k _ (er.setV i r) fun j hj => List.getElem?_set_ne fun e => hj ?_
          subst e
          rw [Tg.slots]
          exact List.mem_singleton.mpr rfl
        · cases b
  | .tup ts, e, h => by
    cases e <;> first | (simp [ckG] at h; done) | skip
    · rename_i es p k
      rw [ckG] at h
      rw [Bool.and_eq_true] at h
      obtain ⟨hl, hp⟩ := g_tgs hc hN hG hs ts es h.1 h.2
      obtain ⟨a1, a2⟩ := asg_none h.2 X.env
      refine PG.imp (PG.or (pg_tup hc hp rfl a1) (pg_lst hc hp rfl a1)) fun v σ H Q ⟨d, env, env', g, m, e, hr, er, r, b, k⟩ => ?_
      subst e
      cases r with
      | @tup a vs ds h1 h2 =>
        rw [bindT] at b
        refine .inl ⟨a, vs, rfl, SqT.of (hr.sub _ _ h1), ?_, ds, env, env', g, m, rfl, hr, er, h2, b, fun σ' e1 e2 => k σ' e1 (by rw [Tg.slots]; exact e2)⟩
        rw [← h2.length, bindTs_len b, a2, hl]
      | @lst a vs ds h1 h2 =>
        rw [bindT] at b
        refine .inr ⟨a, vs, rfl, SqL.of (hr.sub _ _ h1), ?_, ds, env, env', g, m, rfl, hr, er, h2, b, fun σ' e1 e2 => k σ' e1 (by rw [Tg.slots]; exact e2)⟩
        rw [← h2.length, bindTs_len b, a2, hl]
      | _ => cases b
theorem g_tgs (hc : X.calm = true) (hN : X.N.Nodup) (hG : X.N = Γ.N) (hs : ∀ x, Γ.sto x = true → Loc X.env.scope x ∧ (X.fn x = true ∨ X.env.scope.names.lookup x = some .local)) : ∀ (ts : Tgs) (es : List Expr), ckGs Γ ts es = true → es.all nst = true → Tgs.len ts = es.length ∧ PGs X es (gTs X.K ts)
  | .nil, es, h, hn => by
    obtain rfl : es = [] := by
      cases es with
      | nil => rfl
      | cons _ _ => simp [ckGs] at h
    refine ⟨rfl, ⟨fun pins s σ H vs us Q I r ⟨ds, env, env', g, m, e, hr, er, rs, b, k⟩ => pgs_nil.run pins s σ H vs us Q I r ?_⟩⟩
    have hd := bindTs_len b
    rw [Tgs.len] at hd
    obtain rfl : ds = [] := by simpa using hd
    cases rs
    rw [bindTs] at b
    cases b
    exact ⟨rfl, k σ er fun _ _ => rfl⟩
  | .cons t r, es, h, hn => by
    cases es with
    | nil => simp [ckGs] at h
    | cons e es =>
      rw [ckGs] at h
      rw [Bool.and_eq_true] at h
      rw [List.all_cons, Bool.and_eq_true] at hn
      obtain ⟨hl, hp⟩ := g_tgs hc hN hG hs r es h.2 hn.2
      have h1 := g_tg hc hN hG hs t e h.1
      refine ⟨by rw [Tgs.len, hl]; rfl, ⟨fun pins s σ H vs us Q I rr ⟨ds, env, env', g, m, e, hr, er, rs, b, k⟩ => (pgs_cons h1 hp (by rw [asg_cons hn.1]; rfl)).run pins s σ H vs us Q I rr ?_⟩⟩
      cases rs with
      | nil => cases b
      | @cons d v ds vs rd rs =>
        rw [bindTs] at b
        cases q : bindT t d env with
        | none =>
          rw [q] at b
          cases b
        | some env1 =>
          rw [q] at b
          refine ⟨v, vs, rfl, d, env, env1, g, m, e, hr, er, rd, q, fun σ' e1 e2 => ⟨ds, env1, env', g, m, e, hr, e1, rs, b, fun σ2 e3 e4 => k σ2 e3 fun i hi => ?_⟩⟩
          rw [Tgs.slots, List.mem_append, not_or] at hi
          rw [e4 i hi.2, e2 i hi.1]
end
end

/-! ### comprehensions -/
section
variable {K : PySem.W.Frag} {m : Mem} {g g1 : G} {p : Addr} {o : HO}
theorem Ex.setU (e : Ex g1 g) (h : g1.H p = none) : Ex g1 (g.newU p o) := by
  refine ⟨e.pre, e.frz, e.fre, fun a u q n => ?_, fun a u q => ?_⟩
  · show upd g.H p o a = some u
    rw [upd_ne (ne_of_none q h)]
    exact e.kep a u q n
  · obtain ⟨u', z⟩ := e.the a u q
    refine ⟨u', ?_⟩
    show upd g.H p o a = some u'
    rw [upd_ne (ne_of_none q h)]
    exact z
theorem HR.setU (h : HR K m g) (hF : g.F p = none) (hr : p ∉ g.r) : HR K m (g.newU p o) := by
  refine ⟨fun a u q => ?_, h.len, h.nd, h.fre, fun n a u h1 h2 => ?_⟩
  · show upd g.H p o a = some u
    rw [upd_ne (ne_of_none q hF)]
    exact h.sub a u q
  · have z := h.obj n a u h1 h2
    have hn : a ≠ p := fun e => hr (by rw [← e]; exact List.mem_of_getElem? h1)
    cases u with
    | lst ys =>
      obtain ⟨ws, z1, z2⟩ := z
      exact ⟨ws, by show upd g.H p o a = _; rw [upd_ne hn]; exact z1, z2⟩
theorem wipe_key {i : Nat} : ∀ (vs : List Nat) (τ : L2.St), (i ∈ vs → (L2.wipe τ vs)[i]? = if i < τ.length then some none else none) ∧ (i ∉ vs → (L2.wipe τ vs)[i]? = τ[i]?) := by
  intro vs
  induction vs with
  | nil => exact fun τ => ⟨fun h => (nomatch h), fun _ => rfl⟩
  | cons v vs ih =>
    intro τ
    unfold L2.wipe
    by_cases hv : v = i
    · subst hv
      refine ⟨fun _ => ?_, fun h => absurd (List.mem_cons_self ..) h⟩
      rw [List.getElem?_set_self', ]
      by_cases hlt : v < τ.length
      · rw [if_pos hlt, List.getElem?_eq_getElem (by rw [wipe_length]; exact hlt)]
        rfl
      · rw [if_neg hlt, List.getElem?_eq_none (by rw [wipe_length]; omega)]
        rfl
    · rw [List.getElem?_set_ne hv]
      refine ⟨fun h => (ih τ).1 ?_, fun h => (ih τ).2 fun z => h (List.mem_cons_of_mem _ z)⟩
      rcases List.mem_cons.mp h with e | h
      · exact absurd e.symm hv
      · exact h
theorem wipe_set {σ σ' : L2.St} {vs : List Nat} (hl : σ'.length = σ.length) (h : ∀ i, i ∉ vs → σ'[i]? = σ[i]?) : L2.wipe σ' vs = L2.wipe σ vs := by
  refine List.ext_getElem? fun i => ?_
  have key : ∀ (vs : List Nat) (τ : L2.St), (i ∈ vs → (L2.wipe τ vs)[i]? = if i < τ.length then some none else none) ∧ (i ∉ vs → (L2.wipe τ vs)[i]? = τ[i]?) := by
    exact fun vs τ => wipe_key vs τ
  by_cases hi : i ∈ vs
  · rw [(key vs σ').1 hi, (key vs σ).1 hi, hl]
  · rw [(key vs σ').2 hi, (key vs σ).2 hi, h i hi]
theorem compL_go {f : D → Mem → R (Option D)} {d : D} {r : List D} {m m' : Mem} {ys : List D} (h : compL f (d :: r) m = .ok ys m') : ∃ o m1 zs, f d m = .ok o m1 ∧ compL f r m1 = .ok zs m' ∧ ys = (match o with
    | some y => y :: zs
    | none => zs) := by
  rw [compL] at h
  cases q : f d m with
  | exc _ _ =>
    rw [q] at h
    cases h
  | stk =>
    rw [q] at h
    cases h
  | ok o m1 =>
    rw [q, R.bind_ok] at h
    cases q2 : compL f r m1 with
    | exc _ _ =>
      rw [q2] at h
      cases h
    | stk =>
      rw [q2] at h
      cases h
    | ok zs m2 =>
      rw [q2, R.bind_ok] at h
      cases h
      exact ⟨o, m1, zs, rfl, q2, rfl⟩
theorem hold_okE {α : Type} {r : R α} {a : α} {m : Mem} (h : r.hold = .ok a m) : r = .ok a m := by
  cases r <;> first | exact h | cases h
theorem compW_ok {ft : List Sl → Mem → R Bool} {fe : List Sl → Mem → R D} {tg : Tg} {env : List Sl} {x : D} {m m' : Mem} {o : Option D} (h : compW ft fe tg env x m = .ok o m') :
    ∃ env1, bindT tg x env = some env1 ∧ ((∃ m1 y, ft env1 m = .ok true m1 ∧ fe env1 m1 = .ok y m' ∧ o = some y) ∨ (ft env1 m = .ok false m' ∧ o = none)) := by
  unfold compW at h
  cases q : bindT tg x env with
  | none =>
    simp only [q] at h
    cases h
  | some env1 =>
    simp only [q] at h
    refine ⟨env1, rfl, ?_⟩
    cases q2 : ft env1 m with
    | exc _ _ =>
      rw [q2] at h
      cases h
    | stk =>
      rw [q2] at h
      cases h
    | ok k m1 =>
      rw [q2, hold_ok, R.bind_ok] at h
      cases k with
      | false =>
        cases h
        exact .inr ⟨rfl, rfl⟩
      | true =>
        simp only [if_true] at h
        cases q3 : fe env1 m1 with
        | exc _ _ =>
          rw [q3] at h
          cases h
        | stk =>
          rw [q3] at h
          cases h
        | ok y m2 =>
          rw [q3, hold_ok, R.bind_ok] at h
          cases h
          exact .inl ⟨m1, y, rfl, q3, rfl⟩
theorem compW_noexc {ft : List Sl → Mem → R Bool} {fe : List Sl → Mem → R D} {tg : Tg} {env : List Sl} : ∀ (xs : List D) (m : Mem) (e : Exn) (m' : Mem), compL (compW ft fe tg env) xs m ≠ .exc e m'
  | [], m, e, m', h => by cases h
  | x :: xs, m, e, m', h => by
    rw [compL] at h
    cases q : compW ft fe tg env x m with
    | stk =>
      rw [q] at h
      cases h
    | exc e2 m2 =>
      unfold compW at q
      split at q
      · rename_i env1 _
        cases q2 : ft env1 m with
        | exc _ _ =>
          rw [q2] at q
          cases q
        | stk =>
          rw [q2] at q
          cases q
        | ok k m1 =>
          rw [q2, hold_ok, R.bind_ok] at q
          cases k with
          | false => cases q
          | true =>
            simp only [if_true] at q
            cases q3 : fe env1 m1 with
            | exc _ _ =>
              rw [q3] at q
              cases q
            | stk =>
              rw [q3] at q
              cases q
            | ok y m2 =>
              rw [q3, hold_ok, R.bind_ok] at q
              cases q
      · cases q
    | ok o m1 =>
      rw [q, R.bind_ok] at h
      cases q2 : compL (compW ft fe tg env) xs m1 with
      | exc e2 m2 => exact compW_noexc xs m1 e2 m2 q2
      | stk =>
        rw [q2] at h
        cases h
      | ok zs m2 =>
        rw [q2, R.bind_ok] at h
        cases h
theorem wipe_idem (σ : L2.St) (vs : List Nat) : L2.wipe (L2.wipe σ vs) vs = L2.wipe σ vs := wipe_set (wipe_length σ vs) fun i hi => (wipe_key vs σ).2 hi
mutual
theorem bindT_len : ∀ {t : Tg} {d : D} {env env' : List Sl}, bindT t d env = some env' → env'.length = env.length
  | .nm i, d, env, env', h => by
    rw [bindT] at h
    split at h
    · cases h
      rw [List.length_set]
    · cases h
  | .tup ts, .tup xs, env, env', h => by
    rw [bindT] at h
    exact bindTs_keep h
  | .tup ts, .lst xs, env, env', h => by
    rw [bindT] at h
    exact bindTs_keep h
  | .tup _, .non, _, _, h => nomatch h
  | .tup _, .bl _, _, _, h => nomatch h
  | .tup _, .int _, _, _, h => nomatch h
  | .tup _, .str _, _, _, h => nomatch h
  | .tup _, .obj _, _, _, h => nomatch h
  | .tup _, .scr _, _, _, h => nomatch h
theorem bindTs_keep : ∀ {ts : Tgs} {ds : List D} {env env' : List Sl}, bindTs ts ds env = some env' → env'.length = env.length
  | .nil, [], _, _, h => by
    cases h
    rfl
  | .nil, _ :: _, _, _, h => nomatch h
  | .cons _ _, [], _, _, h => nomatch h
  | .cons t r, d :: ds, env, env', h => by
    rw [bindTs] at h
    cases q : bindT t d env with
    | none =>
      rw [q] at h
      cases h
    | some env1 =>
      rw [q] at h
      rw [bindTs_keep (ts := r) h, bindT_len q]
end
end
end PF

set_option Elab.async false
set_option linter.all false
set_option maxRecDepth 100000
set_option maxHeartbeats 4000000
/-! PFm: a comprehension by its meaning. -/
namespace PF
open PySem PySem.Spec PyProof.Rows L2

abbrev W0 : WX := fun _ _ _ _ => False
section
variable {K : PySem.W.Frag} {Tx : XI} {C : Call} {W : WX}
theorem k_comp {vs : List Nat} {tg : Tg} {s : Src} {c : T} {e : E} (hsl : ∀ i ∈ tg.slots, i ∈ vs) (σ : L2.St) (H : Hp) (Q : VK) : tF K Tx C W (.comp vs tg s c e) σ H Q →
    tLc (tR K Tx C W false s) (gT K tg) (tT K Tx C W0 c) (tE K Tx C W0 e) vs σ H Q := fun ⟨env, m, g, eH, er, hr, p⟩ => by
  rw [evF] at p
  refine ⟨env, m, g, eH, er, hr, Post.bind p fun xs m1 q1 J g1 e1 h1 wk p1 L hD => ?_⟩
  cases q : compL (compW (evT C c) (evE C e) tg (wipeE env vs)) xs m1 with
  | exc ex m' => exact absurd q (compW_noexc xs m1 ex m')
  | stk =>
    rw [q] at p1
    exact p1.elim
  | ok ys m' =>
    rw [q] at p1
    refine ⟨fun i mm H => ∃ (g2 : G) (m2 : Mem) (acc : List D) (avs : List V) (zs : List D), i ≤ xs.length ∧ mm = xs.length - i ∧ g2.H = H ∧ Ex g1 g2 ∧ HR K m2 g2 ∧ g2.H L = some (.lst avs) ∧ g2.F L = none ∧ L ∉ g2.r ∧ RDs K g2.r g2.F acc avs ∧ acc.length ≤ i ∧
      compL (compW (evT C c) (evE C e) tg (wipeE env vs)) (xs.drop i) m2 = .ok zs m' ∧ acc ++ zs = ys, ?_, ?_⟩
    · exact ⟨xs.length, g1.newU L (.lst []), m1, [], [], ys, Nat.zero_le _, by omega, rfl, Ex.newU hD, h1.newU hD, upd_same, (show g1.F L = none from G.nF h1 hD), h1.ner hD, .nil, Nat.le_refl _, q, rfl⟩
    · rintro i mm H ⟨g2, m2, acc, avs, zs, hi, rfl, rfl, e2, h2, k1, k2, k3, k4, k5, k6, k7⟩
      by_cases hlt : i < xs.length
      · refine .inr ⟨wk.go i g2 m2 (StG.of e2) h2 hlt, fun H' => ∃ (g3 : G) (m3 : Mem) (acc : List D) (avs : List V) (zs : List D), g3.H = H' ∧ Ex g1 g3 ∧ HR K m3 g3 ∧ g3.H L = some (.lst avs) ∧ g3.F L = none ∧ L ∉ g3.r ∧ RDs K g3.r g3.F acc avs ∧ acc.length ≤ i + 1 ∧
          compL (compW (evT C c) (evE C e) tg (wipeE env vs)) (xs.drop (i + 1)) m3 = .ok zs m' ∧ acc ++ zs = ys, ?_, ?_⟩
        · rintro H' ⟨g3, m3, acc, avs, zs, z1, z2, z3, z4, z5, z6, z7, z8, z9, z10⟩
          exact ⟨xs.length - (i + 1), by omega, g3, m3, acc, avs, zs, by omega, rfl, z1, z2, z3, z4, z5, z6, z7, z8, z9, z10⟩
        · intro x H' y
          obtain ⟨d, g3, hd, e3, h3, rfl, rd⟩ := wk.yld i g2 m2 x H' (StG.of e2) h2 hlt y
          have hdrop : xs.drop i = d :: xs.drop (i + 1) := by
            rw [List.drop_eq_getElem_cons hlt]
            rw [List.getElem?_eq_getElem hlt] at hd
            rw [Option.some.inj hd]
          rw [hdrop] at k6
          obtain ⟨o, m3, zs2, w1, w2, w3⟩ := compL_go k6
          obtain ⟨env1, hb, hw⟩ := compW_ok w1
          refine ⟨d, wipeE env vs, env1, g3, m2, rfl, h3, (er.mono (e1.trans (e2.trans e3))).wipe vs, rd, hb, fun σ' e' same => ⟨?_, env1, m2, g3, rfl, e', h3, ?_⟩⟩
          · rw [wipe_set (σ := L2.wipe σ vs) (σ' := σ') ?_ fun i hi => same i fun z => hi (hsl i z)]
            · exact wipe_idem σ vs
            · rw [← e'.len, bindT_len hb, ((er.mono (e1.trans (e2.trans e3))).wipe vs).len]
          · have hlen : avs.length < sizeLine := by
              rw [← k4.length]
              exact Nat.lt_of_le_of_lt k5 (Nat.lt_of_lt_of_le hlt wk.len)
            rcases hw with ⟨m4, yv, t1, t2, rfl⟩ | ⟨t1, rfl⟩
            · rw [t1]
              intro b g4 e4 h4 rb
              have rb : true = b := rb
              subst rb
              rw [if_pos rfl]
              refine ⟨env1, m4, g4, rfl, e'.mono e4, h4, ?_⟩
              rw [t2]
              intro v g5 e5 h5 rv
              have e35 := e3.trans (e4.trans e5)
              have kD := e35.kep _ _ k1 k3
              have kr := e35.nr k1 k3
              have kF : g5.F L = none := by rw [e35.fre _ _ k1]; exact k2
              refine ⟨avs, kD, hlen, g5.newU L (.lst (avs ++ [v])), m3, acc ++ [yv], avs ++ [v], zs2, rfl, (e2.trans e35).setU hD, h5.setU kF kr, upd_same, kF, kr, (e35.rds k4).append (.one rv), ?_, w2, ?_⟩
              · rw [List.length_append, List.length_singleton]
                omega
              · rw [← k7, w3, List.append_assoc]
                rfl
            · rw [t1]
              intro b g4 e4 h4 rb
              have rb : false = b := rb
              subst rb
              rw [if_neg Bool.false_ne_true]
              have e35 := e3.trans e4
              exact ⟨g4, m3, acc, avs, zs2, rfl, e2.trans e35, h4, e35.kep _ _ k1 k3, by rw [e35.fre _ _ k1]; exact k2, e35.nr k1 k3, e35.rds k4, by omega, w2, by rw [← k7, w3]⟩
      · have hi' : i = xs.length := by omega
        subst hi'
        refine .inl ⟨wk.stop g2 m2 (StG.of e2) h2, ?_⟩
        rw [List.drop_length] at k6
        cases k6
        rw [List.append_nil] at k7
        subst k7
        refine Post.at (Rel := RF K g) p1 e2 h2 ⟨L, avs, rfl, ?_, k1, k2, k3, k4⟩
        cases q2 : g.H L with
        | none => rfl
        | some u =>
          obtain ⟨u', z⟩ := e1.the L u q2
          rw [hD] at z
          cases z
end
section
variable {X : Cx} {Tx : XI} {C : Call} {W : WX}
theorem l_comp {vs : List Nat} {tg : Tg} {s : Src} {c : T} {e : E} {elt t iter : Expr} {ifs : List Expr} {scope : Scope} {own : List (Str × Nat)} {pos : Pos} (hvs : own.map (·.2) = vs) (hc : X.calm = true) (hN : X.N.Nodup) (hi : PI X t iter (tR X.K Tx C W false s)) (ok : BlkOk X.N X.env.scope scope own)
    (hg : ∀ (s : Shared) (H : Hp) (Cc : Addr) (cl : List (Str × Addr)) (fp : List Addr), PG (X.blk s H scope (compEnvC scope cl Cc X.env) fp) t (gT X.K tg)) (ht : ∀ (s : Shared) (H : Hp) (Cc : Addr) (cl : List (Str × Addr)) (fp : List Addr), PTs (X.blk s H scope (compEnvC scope cl Cc X.env) fp) ifs (tT X.K Tx C W0 c))
    (he : ∀ (s : Shared) (H : Hp) (Cc : Addr) (cl : List (Str × Addr)) (fp : List Addr), PE (X.blk s H scope (compEnvC scope cl Cc X.env) fp) elt (tE X.K Tx C W0 e)) (hs : ∀ x, foldedSetIterable iter X.env x = pure x) (hsl : ∀ i ∈ tg.slots, i ∈ vs) :
    PE X (.ListComp elt [⟨t, iter, ifs, 0⟩] scope pos) (tF X.K Tx C W (.comp vs tg s c e)) := by
  subst hvs
  exact PE.imp (pe_lc hc hN hi ok hg ht he hs) (k_comp hsl)
end
end PF

set_option Elab.async false
set_option linter.all false
set_option maxRecDepth 100000
set_option maxHeartbeats 8000000
/-! PFn: expressions: what the looks pass is what the language means. -/
namespace PF
open PySem PySem.Spec PyProof.Rows L2

section
variable {D0 : TD} {fa : Nat → Addr} {fd : Nat → FuncData} {n : Nat} {Γ : Gam} {W : WX} {X : Cx}
theorem Gd.bi (G : Gd D0 fa fd n Γ W X) {b x : Str} (h : Γ.bi b x = true) (hb : b ∈ bnames) : x = b ∧ Gl X b ∧ X.mg b = none := by
  unfold Gam.bi at h
  rw [Bool.and_eq_true, decide_eq_true_eq] at h
  obtain ⟨rfl, h⟩ := h
  exact ⟨rfl, G.glb h, G.fac.bl _ hb⟩
theorem Gd.blk (G : Gd D0 fa fd n Γ W X) (scope : Scope) (s : Shared) (H : Hp) (Cc : Addr) (cl : List (Str × Addr)) (fp : List Addr) : Gd D0 fa fd n (Γ.blk scope) W0 (X.blk s H scope (compEnvC scope cl Cc X.env) fp) := by
  have hsc : (compEnvC scope cl Cc X.env).scope = relS scope Γ.sc := by
    show relS scope X.env.scope = _
    rw [G.sc]
  refine ⟨G.fns, G.fac, G.room, G.grd, G.calm, G.nN, G.nd, hsc, fun x h => ?_, takes0⟩
  unfold Gam.blk at h
  simp only [Bool.or_eq_true, Bool.and_eq_true, decide_eq_true_eq] at h
  show L2.Loc (relS scope Γ.sc) x ∧ ((scope.names.lookup x == some .cell) = true ∨ (relS scope Γ.sc).names.lookup x = some .local)
  rcases h with h | ⟨h1, h2⟩
  · exact ⟨.inl h, .inr h⟩
  · exact ⟨.inr h1, .inl (by rw [h2]; rfl)⟩
theorem Gd.pos (G : Gd D0 fa fd n Γ W X) {i : Nat} {x : Str} (h : Γ.N[i]? = some x) : X.N[i]? = some x := by
  rw [G.nN]
  exact h
theorem Gd.tgt (G : Gd D0 fa fd n Γ W X) {t : Tg} {e : Expr} (h : ckG Γ t e = true) : PG X e (gT X.K t) :=
  g_tg G.calm (by rw [G.nN]; exact G.nd) G.nN (fun x hx => by rw [G.sc]; exact G.sto x hx) t e h
theorem snd_own (G : Gd D0 fa fd n Γ W X) {C : Call} {a : E} {e : Expr} (h : ckW Γ a e = true) : PE X e (tA X.K D0.xi C W a) := by
  unfold ckW at h
  split at h
  · simp only [Bool.and_eq_true, decide_eq_true_eq] at h
    exact l_own (G.pos h.1.1) (G.vis h.1.2) h.2
  · cases h
theorem snd_A (G : Gd D0 fa fd n Γ W X) {C : Call} {a : E} {e : Expr} (hE : ckE D0 Γ a e = true → PE X e (tE X.K D0.xi C W a)) (h : (ckW Γ a e || ckE D0 Γ a e) = true) : PE X e (tA X.K D0.xi C W a) := by
  rw [Bool.or_eq_true] at h
  rcases h with h | h
  · exact snd_own G h
  · refine l_A ?_ (hE h)
    cases a <;> first | (intro _ _ _; rfl) | (unfold ckE at h; cases h)
theorem snd_Q (G : Gd D0 fa fd n Γ W X) {C : Call} {fo : Bool} {a : E} {e : Expr} (hE : ckE D0 Γ a e = true → PE X e (tE X.K D0.xi C W a)) (h : ((ckW Γ a e && !fo) || ckE D0 Γ a e) = true) : PE X e (tQ X.K D0.xi C W fo a) := by
  rw [Bool.or_eq_true, Bool.and_eq_true] at h
  cases fo with
  | false => exact q_A (snd_A G hE (by rw [Bool.or_eq_true]; exact h.imp (·.1) id))
  | true =>
    rcases h with ⟨_, h⟩ | h
    · cases h
    · refine q_E ?_ (hE h)
      cases a <;> first | (intro _ _ _; rfl) | (unfold ckE at h; cases h)
theorem nset_fold {e : Expr} (h : nset e = true) (env : Env) : ∀ x, foldedSetIterable e env x = pure x := by
  intro x
  cases e <;> first | rfl | cases h
theorem ckEs_len : ∀ {es : Es} {xs : List Expr}, ckEs D0 Γ es xs = true → es.len = xs.length
  | .nil, xs, h => by
    unfold ckEs at h
    obtain rfl : xs = [] := by simpa using h
    rfl
  | .cons a r, xs, h => by
    unfold ckEs at h
    split at h
    · simp only [Bool.and_eq_true] at h
      rw [Es.len, ckEs_len (es := r) h.2]
      rfl
    · cases h
theorem ckK_len : ∀ {es : Es} {xs : List Keyword}, ckK D0 Γ es xs = true → es.len = xs.length
  | .nil, xs, h => by
    unfold ckK at h
    obtain rfl : xs = [] := by simpa using h
    rfl
  | .cons a r, xs, h => by
    unfold ckK at h
    split at h
    · simp only [Bool.and_eq_true] at h
      rw [Es.len, ckK_len (es := r) h.2]
      rfl
    · cases h
theorem kws_some : ∀ {kws : List Keyword}, kws.all (·.arg.isSome) = true → kws.map (·.arg) = (kws.filterMap (·.arg)).map some ∧ (kws.filterMap (·.arg)).length = kws.length
  | [], _ => ⟨rfl, rfl⟩
  | ⟨some x, v, p⟩ :: r, h => by
    rw [List.all_cons, Bool.and_eq_true] at h
    obtain ⟨h1, h2⟩ := kws_some h.2
    refine ⟨?_, ?_⟩
    · show some x :: _ = some x :: _
      rw [h1]
    · show (x :: _).length = _
      rw [List.length_cons, h2]
      rfl
  | ⟨none, v, p⟩ :: r, h => by
    rw [List.all_cons, Bool.and_eq_true] at h
    cases h.1
end

variable (D0 : TD) (fa : Nat → Addr) (fd : Nat → FuncData) (n : Nat)
mutual
theorem sndE : ∀ (a : E) (Γ : Gam) (W : WX) (X : Cx) (e : Expr), Gd D0 fa fd n Γ W X → ckE D0 Γ a e = true → PE X e (tE X.K D0.xi (callF D0.fs n) W a)
  | .var i, Γ, W, X, e, G, h => by
    unfold ckE at h
    split at h
    · simp only [Bool.and_eq_true, decide_eq_true_eq] at h
      exact l_var (G.pos h.1.1) (G.vis h.1.2) h.2
    · cases h
  | .cn c, Γ, W, X, e, G, h => by
    unfold ckE at h
    split at h
    · exact l_cn h rfl
    · cases h
  | .own i, Γ, W, X, e, G, h => by
    unfold ckE at h
    cases h
  | .glob x i, Γ, W, X, e, G, h => by
    unfold ckE at h
    split at h
    · simp only [Bool.and_eq_true, decide_eq_true_eq] at h
      obtain ⟨⟨⟨rfl, h2⟩, h3⟩, h4⟩ := h
      obtain ⟨t, ht⟩ := G.fac.gl _ _ h4
      exact l_glob (G.glb h2) ht h3
    · cases h
  | .tup es, Γ, W, X, e, G, h => by
    unfold ckE at h
    split at h
    · simp only [Bool.and_eq_true, decide_eq_true_eq] at h
      exact l_tup (sndEs es Γ W X _ G h.1) (by rw [ckEs_len h.1]; exact h.2)
    · cases h
  | .fr f, Γ, W, X, e, G, h => by
    unfold ckE at h
    exact l_fr (sndF f Γ W X e G h)
  | .newo f, Γ, W, X, e, G, h => by
    unfold ckE at h
    exact l_newo (sndF f Γ W X e G h)
  | .bin op a b, Γ, W, X, e, G, h => by
    unfold ckE at h
    split at h
    · simp only [Bool.and_eq_true, decide_eq_true_eq] at h
      obtain ⟨⟨rfl, h1⟩, h2⟩ := h
      exact l_bin (snd_A G (sndE a Γ W X _ G) h1) (snd_A G (sndE b Γ W X _ G) h2)
    · cases h
  | .neg a, Γ, W, X, e, G, h => by
    unfold ckE at h
    split at h
    · exact l_neg (sndE a Γ W X _ G h)
    · cases h
  | .notv a, Γ, W, X, e, G, h => by
    unfold ckE at h
    split at h
    · exact l_notv (sndE a Γ W X _ G h)
    · cases h
  | .cmp op a b, Γ, W, X, e, G, h => by
    unfold ckE at h
    split at h
    · simp only [Bool.and_eq_true, decide_eq_true_eq] at h
      obtain ⟨⟨⟨rfl, h1⟩, h2⟩, h3⟩ := h
      exact l_cmp G.room (snd_A G (sndE a Γ W X _ G) h1) (snd_A G (sndE b Γ W X _ G) h2) (nset_marks h3)
    · cases h
  | .isN a, Γ, W, X, e, G, h => by
    unfold ckE at h
    split at h
    · exact l_isN (sndE a Γ W X _ G h)
    · cases h
  | .notN a, Γ, W, X, e, G, h => by
    unfold ckE at h
    split at h
    · exact l_notN (sndE a Γ W X _ G h)
    · cases h
  | .chain o1 o2 a b c, Γ, W, X, e, G, h => by
    unfold ckE at h
    split at h
    · simp only [Bool.and_eq_true, decide_eq_true_eq] at h
      obtain ⟨⟨⟨⟨⟨⟨rfl, rfl⟩, h1⟩, h2⟩, h3⟩, h4⟩, h5⟩ := h
      exact l_chain G.room (sndE a Γ W X _ G h1) (sndE b Γ W X _ G h2) (sndE c Γ W X _ G h3) (last_marks h4 h5)
    · cases h
  | .andv a b, Γ, W, X, e, G, h => by
    unfold ckE at h
    split at h
    · simp only [Bool.and_eq_true] at h
      exact l_andv (sndE a Γ W X _ G h.1) (sndE b Γ W X _ G h.2)
    · cases h
  | .orv a b, Γ, W, X, e, G, h => by
    unfold ckE at h
    split at h
    · simp only [Bool.and_eq_true] at h
      exact l_orv (sndE a Γ W X _ G h.1) (sndE b Γ W X _ G h.2)
    · cases h
  | .one a, Γ, W, X, e, G, h => by
    unfold ckE at h
    split at h
    · exact l_one (sndE a Γ W X _ G h)
    · cases h
  | .ife t a b, Γ, W, X, e, G, h => by
    unfold ckE at h
    split at h
    · simp only [Bool.and_eq_true] at h
      exact l_ife (sndT t Γ W X _ G h.1.1) (sndE a Γ W X _ G h.1.2) (sndE b Γ W X _ G h.2)
    · cases h
  | .idx a i, Γ, W, X, e, G, h => by
    unfold ckE at h
    split at h
    · rw [Bool.and_eq_true, Bool.and_eq_true] at h
      exact l_idx (snd_A G (sndE a Γ W X _ G) h.1.1) (sndE i Γ W X _ G h.1.2) h.2
    · cases h
  | .slt a lo hi, Γ, W, X, e, G, h => by
    unfold ckE at h
    split at h
    · simp only [Bool.and_eq_true] at h
      exact l_slt (sndE a Γ W X _ G h.1.1) (sndO lo Γ W X _ G h.1.2) (sndO hi Γ W X _ G h.2)
    · cases h
  | .revt a, Γ, W, X, e, G, h => by
    unfold ckE at h
    cases h
  | .call f es, Γ, W, X, e, G, h => by
    unfold ckE at h
    split at h
    · rename_i x p xs pos
      simp only [Bool.and_eq_true, decide_eq_true_eq] at h
      obtain ⟨⟨⟨⟨⟨h1, h2⟩, h3⟩, h4⟩, h5⟩, h6⟩ := h
      obtain ⟨m1, m2⟩ := G.fac.fn f _ h1
      have hp : D0.ps[f]? = some D0.ps[f] := List.getElem?_eq_getElem h6
      have ih := sndEs es Γ W X xs G h4
      cases xs with
      | nil =>
        have hl := ckEs_len h4
        cases es with
        | cons _ _ => cases hl
        | nil =>
          refine PE.imp (pe_callF0 (G.fns f _ hp) G.room G.grd G.tk (G.glb h2) m1 m2 (G.fac.ps f _ hp) (okn_debug h3)) fun σ H Q z => ?_
          obtain ⟨env, m, g, e, er, hr, q⟩ := z
          rw [evE, evEs, R.bind_ok] at q
          exact ⟨[], m, g, e, hr, .nil, q⟩
      | cons y ys => exact PE.imp (pe_callF (G.fns f _ hp) G.room G.grd G.tk (G.glb h2) m1 m2 (G.fac.ps f _ hp) ih (okn_debug h3) h5) k_call
    · cases h
  | .callk f perm es ks, Γ, W, X, e, G, h => by
    unfold ckE at h
    split at h
    · rename_i x p xs kws pos
      simp only [Bool.and_eq_true, decide_eq_true_eq] at h
      obtain ⟨⟨⟨⟨⟨⟨⟨⟨h1, h2⟩, h3⟩, h4⟩, h5⟩, h6⟩, h7⟩, h8⟩, h9⟩ := h
      obtain ⟨m1, m2⟩ := G.fac.fn f _ h1
      obtain ⟨ps, hp, sg⟩ := G.fac.sg _ _ _ _ h8
      obtain ⟨k1, k2⟩ := kws_some h7
      have ih := sndEs es Γ W X xs G h4
      have ihk := sndK ks Γ W X kws G h6
      have l1 := ckEs_len h4
      have l2 := ckK_len h6
      cases xs with
      | nil =>
        cases es with
        | cons _ _ => cases l1
        | nil =>
          refine PE.imp (pe_callFK0 (G.fns f _ hp) G.room G.grd G.tk (G.glb h2) m1 m2 sg (by rw [k2]; exact h9) k1 ihk (okn_debug h3)) fun σ H Q z => ?_
          have z := k_callk σ H Q z
          obtain ⟨env, m, g, e, er, hr, q⟩ := z
          rw [evEs] at q
          have q := Post.val (Rel := RDsg X.K) q hr .nil
          rw [e] at q
          have l3 : ks.len = (kws.filterMap (·.arg)).length := by rw [l2, k2]
          rw [l3] at q
          exact q
      | cons y ys =>
        refine PE.imp (pe_callFK (G.fns f _ hp) G.room G.grd G.tk (G.glb h2) m1 m2 sg (by rw [k2]; exact h9) k1 ih ihk (okn_debug h3) h5) fun σ H Q z => ?_
        have z := k_callk σ H Q z
        have l3 : ks.len = (kws.filterMap (·.arg)).length := by rw [l2, k2]
        rw [l1, l3] at z
        exact z
    · cases h
  | .bi b es, Γ, W, X, e, G, h => by
    unfold ckE at h
    split at h
    · rename_i x p xs pos
      rw [Bool.and_eq_true] at h
      obtain ⟨h1, h2⟩ := h
      obtain ⟨rfl, g1, g2⟩ := G.bi h1 (by cases b <;> decide)
      split at h2
      · rename_i hb
        split at h2
        · rename_i y z zp
          simp only [Bool.and_eq_true] at h2
          obtain ⟨⟨h3, h4⟩, h5⟩ := h2
          obtain ⟨rfl, g3, g4⟩ := G.bi h5 (by cases b <;> first | (cases hb; done) | decide)
          have ih : ∀ es : Es, (∀ a r, es = .cons a r → PE X y (tA X.K D0.xi (callF D0.fs n) W a)) → ckAs D0 Γ es [y] = true → ∃ a, es = .cons a .nil ∧ PE X y (tA X.K D0.xi (callF D0.fs n) W a) := by
            intro es hh h
            cases es with
            | nil =>
              unfold ckAs at h
              cases h
            | cons a r =>
              unfold ckAs at h
              simp only [Bool.and_eq_true] at h
              have hr := h.2
              cases r with
              | nil => exact ⟨a, rfl, hh a .nil rfl⟩
              | cons _ _ =>
                unfold ckAs at hr
                cases hr
          obtain ⟨a, rfl, ha⟩ := ih es (by
            intro a r hes
            subst hes
            unfold ckAs at h3
            simp only [Bool.and_eq_true] at h3
            exact snd_A G (sndE a Γ W X _ G) h3.1.2) h3
          have hn : b.name = "isinstance" := by cases b <;> first | (cases hb; done) | rfl
          rw [hn] at g1 g2 ⊢
          exact l_isi G.calm hb g1 g2 g3 g4 ha h4
        · cases h2
      · rename_i hb
        simp only [Bool.and_eq_true] at h2
        obtain ⟨⟨h3, h4⟩, h5⟩ := h2
        have ih := sndAs es Γ W X xs G h3
        cases xs with
        | nil => cases h5
        | cons y ys => exact l_bi G.calm (by simpa using hb) g1 g2 ih h4
    · cases h
  | .mt k o es, Γ, W, X, e, G, h => by
    unfold ckE at h
    split at h
    · simp only [Bool.and_eq_true, decide_eq_true_eq] at h
      obtain ⟨⟨⟨⟨rfl, h1⟩, h2⟩, h3⟩, h4⟩ := h
      have hl := ckEs_len h4
      cases es with
      | nil => exact l_bits (snd_A G (sndE o Γ W X _ G) h1) h2 h3
      | cons _ _ => cases hl
    · rename_i x nm ap y pos
      simp only [Bool.and_eq_true, decide_eq_true_eq] at h
      obtain ⟨⟨⟨⟨rfl, h1⟩, h2⟩, h3⟩, h4⟩ := h
      have ih : ∀ es : Es, (∀ a r, es = .cons a r → PE X y (tE X.K D0.xi (callF D0.fs n) W a)) → ckEs D0 Γ es [y] = true → ∃ a, es = .cons a .nil ∧ PE X y (tE X.K D0.xi (callF D0.fs n) W a) ∧ nst y = true := by
        intro es hh h
        have hl := ckEs_len h
        cases es with
        | nil => cases hl
        | cons a r =>
          cases r with
          | nil =>
            unfold ckEs at h
            simp only [Bool.and_eq_true] at h
            exact ⟨a, rfl, hh a .nil rfl, h.1.1⟩
          | cons _ _ => cases hl
      obtain ⟨a, rfl, ha, hst⟩ := ih es (by
        intro a r hes
        subst hes
        unfold ckEs at h4
        simp only [Bool.and_eq_true] at h4
        exact sndE a Γ W X _ G h4.1.2) h4
      exact l_index (snd_A G (sndE o Γ W X _ G) h1) ha h2 h3 hst
    · cases h
  | .oidx a i, Γ, W, X, e, G, h => by
    unfold ckE at h
    split at h
    · simp only [Bool.and_eq_true] at h
      exact l_oidx (sndE a Γ W X _ G h.1.1) (sndE i Γ W X _ G h.1.2) h.2
    · cases h
  | .oeqn a, Γ, W, X, e, G, h => by
    unfold ckE at h
    split at h
    · exact l_oeqn G.room (sndE a Γ W X _ G h)
    · cases h
  | .opop a, Γ, W, X, e, G, h => by
    unfold ckE at h
    split at h
    · simp only [Bool.and_eq_true, decide_eq_true_eq] at h
      obtain ⟨⟨⟨rfl, h1⟩, h2⟩, h3⟩ := h
      exact l_opop (sndE a Γ W X _ G h1) h2 h3
    · cases h
  | .tuprng lo hi, Γ, W, X, e, G, h => by
    unfold ckE at h
    split at h
    · rename_i x p y p2 xs p3 pos
      rw [Bool.and_eq_true, Bool.and_eq_true] at h
      obtain ⟨⟨h1, h2⟩, h3⟩ := h
      obtain ⟨rfl, g1, g2⟩ := G.bi h1 (by decide)
      obtain ⟨rfl, g3, g4⟩ := G.bi h2 (by decide)
      refine l_tuprng G.calm g1 g2 ?_ rfl
      split at h3
      · simp only [Bool.and_eq_true] at h3
        exact rg_no g3 g4 (sndE hi Γ W X _ G h3.1) h3.2
      · rename_i l l' hh
        simp only [Bool.and_eq_true] at h3
        exact rg_so g3 g4 (sndE l Γ W X _ G h3.1.1.1) (sndE hi Γ W X _ G h3.1.1.2) h3.1.2 h3.2
      · cases h3
    · cases h
theorem sndT : ∀ (t : T) (Γ : Gam) (W : WX) (X : Cx) (e : Expr), Gd D0 fa fd n Γ W X → ckT D0 Γ t e = true → PT X e (tT X.K D0.xi (callF D0.fs n) W t)
  | .tru, Γ, W, X, e, G, h => by
    unfold ckT at h
    cases h
  | .ex a, Γ, W, X, e, G, h => by
    unfold ckT at h
    rw [Bool.and_eq_true] at h
    exact l_tex (snd_A G (sndE a Γ W X _ G) h.2) h.1
  | .nt t, Γ, W, X, e, G, h => by
    unfold ckT at h
    split at h
    · exact l_nt (sndT t Γ W X _ G h)
    · cases h
  | .tand t u, Γ, W, X, e, G, h => by
    unfold ckT at h
    split at h
    · simp only [Bool.and_eq_true] at h
      exact (l_tand (sndT t Γ W X _ G h.1.1) (sndW u Γ W X _ G h.1.2 h.2)).pt
    · cases h
  | .tor t u, Γ, W, X, e, G, h => by
    unfold ckT at h
    split at h
    · simp only [Bool.and_eq_true] at h
      exact (l_tor (sndT t Γ W X _ G h.1.1) (sndW u Γ W X _ G h.1.2 h.2)).pt
    · cases h
  | .t1 t, Γ, W, X, e, G, h => by
    unfold ckT at h
    split at h
    · exact (l_t1 (sndT t Γ W X _ G h)).pt
    · cases h
  | .cmp a, Γ, W, X, e, G, h => by
    unfold ckT at h
    rw [Bool.and_eq_true] at h
    exact sndC a Γ W X e G h.1 h.2
theorem sndW : ∀ (t : T) (Γ : Gam) (W : WX) (X : Cx) (e : Expr), Gd D0 fa fd n Γ W X → t.isW = true → ckT D0 Γ t e = true → PW X e (tT X.K D0.xi (callF D0.fs n) W t)
  | .tru, Γ, W, X, e, G, w, h => nomatch w
  | .ex a, Γ, W, X, e, G, w, h => nomatch w
  | .nt t, Γ, W, X, e, G, w, h => nomatch w
  | .tand t u, Γ, W, X, e, G, w, h => by
    unfold ckT at h
    split at h
    · simp only [Bool.and_eq_true] at h
      exact l_tand (sndT t Γ W X _ G h.1.1) (sndW u Γ W X _ G h.1.2 h.2)
    · cases h
  | .tor t u, Γ, W, X, e, G, w, h => by
    unfold ckT at h
    split at h
    · simp only [Bool.and_eq_true] at h
      exact l_tor (sndT t Γ W X _ G h.1.1) (sndW u Γ W X _ G h.1.2 h.2)
    · cases h
  | .t1 t, Γ, W, X, e, G, w, h => by
    unfold ckT at h
    split at h
    · exact l_t1 (sndT t Γ W X _ G h)
    · cases h
  | .cmp a, Γ, W, X, e, G, w, h => nomatch w
theorem sndC : ∀ (a : E) (Γ : Gam) (W : WX) (X : Cx) (e : Expr), Gd D0 fa fd n Γ W X → a.isC = true → ckE D0 Γ a e = true → PT X e (tT X.K D0.xi (callF D0.fs n) W (.cmp a))
  | .cmp op a b, Γ, W, X, e, G, w, h => by
    unfold ckE at h
    split at h
    · simp only [Bool.and_eq_true, decide_eq_true_eq] at h
      obtain ⟨⟨⟨rfl, h1⟩, h2⟩, h3⟩ := h
      exact l_tcmp G.room (snd_A G (sndE a Γ W X _ G) h1) (snd_A G (sndE b Γ W X _ G) h2) (nset_marks h3)
    · cases h
  | .isN a, Γ, W, X, e, G, w, h => by
    unfold ckE at h
    split at h
    · exact l_tisN (sndE a Γ W X _ G h)
    · cases h
  | .notN a, Γ, W, X, e, G, w, h => by
    unfold ckE at h
    split at h
    · exact l_tnotN (sndE a Γ W X _ G h)
    · cases h
  | .chain o1 o2 a b c, Γ, W, X, e, G, w, h => by
    unfold ckE at h
    split at h
    · simp only [Bool.and_eq_true, decide_eq_true_eq] at h
      obtain ⟨⟨⟨⟨⟨⟨rfl, rfl⟩, h1⟩, h2⟩, h3⟩, h4⟩, h5⟩ := h
      exact l_tchain G.room (sndE a Γ W X _ G h1) (sndE b Γ W X _ G h2) (sndE c Γ W X _ G h3) (last_marks h4 h5)
    · cases h
  | .var _, Γ, W, X, e, G, w, h => nomatch w
  | .cn _, Γ, W, X, e, G, w, h => nomatch w
  | .own _, Γ, W, X, e, G, w, h => nomatch w
  | .glob _ _, Γ, W, X, e, G, w, h => nomatch w
  | .tup _, Γ, W, X, e, G, w, h => nomatch w
  | .fr _, Γ, W, X, e, G, w, h => nomatch w
  | .newo _, Γ, W, X, e, G, w, h => nomatch w
  | .bin _ _ _, Γ, W, X, e, G, w, h => nomatch w
  | .neg _, Γ, W, X, e, G, w, h => nomatch w
  | .notv _, Γ, W, X, e, G, w, h => nomatch w
  | .andv _ _, Γ, W, X, e, G, w, h => nomatch w
  | .orv _ _, Γ, W, X, e, G, w, h => nomatch w
  | .one _, Γ, W, X, e, G, w, h => nomatch w
  | .ife _ _ _, Γ, W, X, e, G, w, h => nomatch w
  | .idx _ _, Γ, W, X, e, G, w, h => nomatch w
  | .slt _ _ _, Γ, W, X, e, G, w, h => nomatch w
  | .revt _, Γ, W, X, e, G, w, h => nomatch w
  | .call _ _, Γ, W, X, e, G, w, h => nomatch w
  | .callk _ _ _ _, Γ, W, X, e, G, w, h => nomatch w
  | .bi _ _, Γ, W, X, e, G, w, h => nomatch w
  | .mt _ _ _, Γ, W, X, e, G, w, h => nomatch w
  | .oidx _ _, Γ, W, X, e, G, w, h => nomatch w
  | .oeqn a, Γ, W, X, e, G, w, h => by
    unfold ckE at h
    split at h
    · exact l_toeqn G.room (sndE a Γ W X _ G h)
    · cases h
  | .opop _, Γ, W, X, e, G, w, h => nomatch w
  | .tuprng _ _, Γ, W, X, e, G, w, h => nomatch w
theorem sndEs : ∀ (es : Es) (Γ : Gam) (W : WX) (X : Cx) (xs : List Expr), Gd D0 fa fd n Γ W X → ckEs D0 Γ es xs = true → PA X xs (tEs X.K D0.xi (callF D0.fs n) W es)
  | .nil, Γ, W, X, xs, G, h => by
    unfold ckEs at h
    obtain rfl : xs = [] := by simpa using h
    exact l_nil
  | .cons a r, Γ, W, X, xs, G, h => by
    unfold ckEs at h
    split at h
    · simp only [Bool.and_eq_true] at h
      exact l_cons (sndE a Γ W X _ G h.1.2) (sndEs r Γ W X _ G h.2) h.1.1
    · cases h
theorem sndAs : ∀ (es : Es) (Γ : Gam) (W : WX) (X : Cx) (xs : List Expr), Gd D0 fa fd n Γ W X → ckAs D0 Γ es xs = true → PA X xs (tAs X.K D0.xi (callF D0.fs n) W es)
  | .nil, Γ, W, X, xs, G, h => by
    unfold ckAs at h
    obtain rfl : xs = [] := by simpa using h
    exact l_anil
  | .cons a r, Γ, W, X, xs, G, h => by
    unfold ckAs at h
    split at h
    · rw [Bool.and_eq_true, Bool.and_eq_true] at h
      exact l_acons (snd_A G (sndE a Γ W X _ G) h.1.2) (sndAs r Γ W X _ G h.2) h.1.1
    · cases h
theorem sndK : ∀ (es : Es) (Γ : Gam) (W : WX) (X : Cx) (xs : List Keyword), Gd D0 fa fd n Γ W X → ckK D0 Γ es xs = true → PK X xs (tEs X.K D0.xi (callF D0.fs n) W es)
  | .nil, Γ, W, X, xs, G, h => by
    unfold ckK at h
    obtain rfl : xs = [] := by simpa using h
    exact l_knil
  | .cons a r, Γ, W, X, xs, G, h => by
    unfold ckK at h
    split at h
    · simp only [Bool.and_eq_true] at h
      exact l_kcons (sndE a Γ W X _ G h.1) (sndK r Γ W X _ G h.2)
    · cases h
theorem sndO : ∀ (o : Oe) (Γ : Gam) (W : WX) (X : Cx) (x : Option Expr), Gd D0 fa fd n Γ W X → ckO D0 Γ o x = true → PO X x (tO X.K D0.xi (callF D0.fs n) W o)
  | .no, Γ, W, X, x, G, h => by
    unfold ckO at h
    obtain rfl : x = none := by simpa using h
    exact l_no
  | .so a, Γ, W, X, x, G, h => by
    unfold ckO at h
    split at h
    · exact l_so (sndE a Γ W X _ G h)
    · cases h
theorem sndF : ∀ (f : Fr) (Γ : Gam) (W : WX) (X : Cx) (e : Expr), Gd D0 fa fd n Γ W X → ckF D0 Γ f e = true → PE X e (tF X.K D0.xi (callF D0.fs n) W f)
  | .lst es, Γ, W, X, e, G, h => by
    unfold ckF at h
    split at h
    · simp only [Bool.and_eq_true, decide_eq_true_eq] at h
      exact l_lst (sndEs es Γ W X _ G h.1) (by rw [ckEs_len h.1]; exact h.2)
    · cases h
  | .comp vs tg s c x, Γ, W, X, e, G, h => by
    unfold ckF at h
    split at h
    · rename_i elt t iter ifs scope pos
      simp only [Bool.and_eq_true] at h
      obtain ⟨⟨⟨⟨⟨⟨h1, h2⟩, h3⟩, h4⟩, h5⟩, h6⟩, h7⟩ := h
      refine l_comp (own := ownOf Γ.N vs) (by unfold ownOf; rw [List.map_map]; exact List.map_id' vs) G.calm (by rw [G.nN]; exact G.nd) (sndR false s Γ W X t iter G h1) (by rw [G.nN, G.sc]; exact blkOk_by h6)
        (fun s H Cc cl fp => (G.blk scope s H Cc cl fp).tgt h3) (fun s H Cc cl fp => ?_) (fun s H Cc cl fp => sndE x (Γ.blk scope) W0 _ elt (G.blk scope s H Cc cl fp) h5) (nset_fold h2 _) (fun i hi => ?_)
      · split at h7
        · refine ⟨fun pins s' σ H' Q I z => pts_nil.run pins s' σ H' Q I ?_⟩
          obtain ⟨env, m, g, e, er, hr, q⟩ := z
          rw [evT] at q
          have q := Post.val (Rel := fun _ a b => a = b) q hr rfl
          rw [e] at q
          exact q
        · exact pts_one (sndT c (Γ.blk scope) W0 _ _ (G.blk scope s H Cc cl fp) h7)
        · cases h7
      · rw [List.all_eq_true] at h4
        have := h4 i hi
        simpa using this
    · cases h
  | .listof a, Γ, W, X, e, G, h => by
    unfold ckF at h
    split at h
    · rw [Bool.and_eq_true, Bool.and_eq_true] at h
      obtain ⟨rfl, g1, g2⟩ := G.bi h.1.1 (by decide)
      exact l_listof G.calm g1 g2 (snd_A G (sndE a Γ W X _ G) h.1.2) h.2
    · cases h
  | .cat a b, Γ, W, X, e, G, h => by
    unfold ckF at h
    split at h
    · rw [Bool.and_eq_true] at h
      exact l_cat (snd_A G (sndE a Γ W X _ G) h.1) (snd_A G (sndE b Γ W X _ G) h.2)
    · cases h
  | .rep a b, Γ, W, X, e, G, h => by
    unfold ckF at h
    split at h
    · rw [Bool.and_eq_true] at h
      exact l_rep (snd_A G (sndE a Γ W X _ G) h.1) (sndE b Γ W X _ G h.2)
    · cases h
  | .slc a lo hi, Γ, W, X, e, G, h => by
    unfold ckF at h
    split at h
    · rw [Bool.and_eq_true, Bool.and_eq_true] at h
      exact l_slc (snd_A G (sndE a Γ W X _ G) h.1.1) (sndO lo Γ W X _ G h.1.2) (sndO hi Γ W X _ G h.2)
    · cases h
  | .lrev a, Γ, W, X, e, G, h => by
    unfold ckF at h
    split at h
    · rw [Bool.and_eq_true, Bool.and_eq_true, Bool.and_eq_true] at h
      obtain ⟨⟨⟨h1, h2⟩, h3⟩, h4⟩ := h
      obtain ⟨rfl, g1, g2⟩ := G.bi h1 (by decide)
      obtain ⟨rfl, g3, g4⟩ := G.bi h2 (by decide)
      exact l_lrev G.calm g1 g2 g3 g4 (snd_A G (sndE a Γ W X _ G) h3) h4
    · cases h
  | .lrng lo hi, Γ, W, X, e, G, h => by
    unfold ckF at h
    split at h
    · rename_i x p y p2 xs p3 pos
      rw [Bool.and_eq_true, Bool.and_eq_true] at h
      obtain ⟨⟨h1, h2⟩, h3⟩ := h
      obtain ⟨rfl, g1, g2⟩ := G.bi h1 (by decide)
      obtain ⟨rfl, g3, g4⟩ := G.bi h2 (by decide)
      refine l_lrng G.calm g1 g2 ?_ rfl
      split at h3
      · simp only [Bool.and_eq_true] at h3
        exact rg_no g3 g4 (sndE hi Γ W X _ G h3.1) h3.2
      · rename_i l l' hh
        simp only [Bool.and_eq_true] at h3
        exact rg_so g3 g4 (sndE l Γ W X _ G h3.1.1.1) (sndE hi Γ W X _ G h3.1.1.2) h3.1.2 h3.2
      · cases h3
    · cases h
  | .sorted a, Γ, W, X, e, G, h => by
    unfold ckF at h
    split at h
    · rw [Bool.and_eq_true, Bool.and_eq_true] at h
      obtain ⟨rfl, g1, g2⟩ := G.bi h.1.1 (by decide)
      exact l_sorted g1 g2 (snd_A G (sndE a Γ W X _ G) h.1.2) h.2
    · cases h
theorem sndR (fo : Bool) : ∀ (s : Src) (Γ : Gam) (W : WX) (X : Cx) (t e : Expr), Gd D0 fa fd n Γ W X → ckR D0 Γ fo s t e = true → PI X t e (tR X.K D0.xi (callF D0.fs n) W fo s)
  | .ex a, Γ, W, X, t, e, G, h => by
    unfold ckR at h
    exact w_ex (snd_Q G (sndE a Γ W X _ G) h)
  | .rng1 a, Γ, W, X, t, e, G, h => by
    unfold ckR at h
    split at h
    · rw [Bool.and_eq_true, Bool.and_eq_true] at h
      obtain ⟨rfl, g1, g2⟩ := G.bi h.1.1 (by decide)
      exact w_rng1 g1 g2 (sndE a Γ W X _ G h.1.2) h.2
    · cases h
  | .rng2 a b, Γ, W, X, t, e, G, h => by
    unfold ckR at h
    split at h
    · simp only [Bool.and_eq_true] at h
      obtain ⟨⟨⟨⟨h1, h2⟩, h3⟩, h4⟩, h5⟩ := h
      obtain ⟨rfl, g1, g2⟩ := G.bi h1 (by decide)
      exact w_rng2 g1 g2 (sndE a Γ W X _ G h2) (sndE b Γ W X _ G h3) h4 h5
    · cases h
  | .rng3 a b c, Γ, W, X, t, e, G, h => by
    unfold ckR at h
    split at h
    · simp only [Bool.and_eq_true] at h
      obtain ⟨⟨⟨⟨⟨⟨h1, h2⟩, h3⟩, h4⟩, h5⟩, h6⟩, h7⟩ := h
      obtain ⟨rfl, g1, g2⟩ := G.bi h1 (by decide)
      exact w_rng3 g1 g2 (sndE a Γ W X _ G h2) (sndE b Γ W X _ G h3) (sndE c Γ W X _ G h4) h5 h6 h7
    · cases h
  | .enm a, Γ, W, X, t, e, G, h => by
    unfold ckR at h
    split at h
    · rw [Bool.and_eq_true, Bool.and_eq_true] at h
      obtain ⟨rfl, g1, g2⟩ := G.bi h.1.1 (by decide)
      exact w_enm g1 g2 (snd_Q G (sndE a Γ W X _ G) h.1.2) h.2
    · cases h
  | .zip a b, Γ, W, X, t, e, G, h => by
    unfold ckR at h
    split at h
    · rw [Bool.and_eq_true, Bool.and_eq_true, Bool.and_eq_true, Bool.and_eq_true] at h
      obtain ⟨⟨⟨⟨h1, h2⟩, h3⟩, h4⟩, h5⟩ := h
      obtain ⟨rfl, g1, g2⟩ := G.bi h1 (by decide)
      exact w_zip g1 g2 (snd_Q G (sndE a Γ W X _ G) h2) (snd_Q G (sndE b Γ W X _ G) h3) h4 h5
    · cases h
  | .rev a, Γ, W, X, t, e, G, h => by
    unfold ckR at h
    split at h
    · rw [Bool.and_eq_true, Bool.and_eq_true] at h
      obtain ⟨rfl, g1, g2⟩ := G.bi h.1.1 (by decide)
      exact w_rev g1 g2 (snd_Q G (sndE a Γ W X _ G) h.1.2) h.2
    · cases h
end
end PF

set_option Elab.async false
set_option linter.all false
set_option maxRecDepth 100000
set_option maxHeartbeats 8000000
/-! PFp: statements: the state, what is wanted, stores. -/
namespace PF
open PySem PySem.Spec PyProof.Rows L2

/-! ### how tuples are stored -/
theorem sw2 {env : Env} {x y : Str} {px py pt p2 : Pos} {kt k2 : Nat} {a b : Expr} (hk : env.scope.kind = .function) (hx : env.scope.names.lookup x = some .local) (hy : env.scope.names.lookup y = some .local) (hxy : (x == y) = false) (hl : (py.line == px.line) = true)
    (na : nst a = true) (nb : nst b = true) (hf : (foldedForSure 8 a && foldedForSure 8 b) = false) (hc : (constantsAlone 8 a && constantsAlone 8 b) = false) :
    swappedStores [.Tuple [.Name x px, .Name y py] kt pt] (.Tuple [a, b] k2 p2) env = pure (some [x, y]) := by
  have kx : env.kindOf x = some .local := hx
  have ky : env.kindOf y = some .local := hy
  have hb : env.blockKind = .function := by unfold Env.blockKind; rw [hk]; rfl
  have hyx : (y == x) = false := by
    rw [beq_eq_false_iff_ne] at hxy ⊢
    exact fun e => hxy e.symm
  unfold swappedStores
  simp only [hb, List.any_cons, List.any_nil, List.all_cons, List.all_nil, Bool.and_true, Bool.or_false, hf, hc, List.filterMap_cons, List.filterMap_nil, kx, ky, Expr.pos, List.head?_cons, Option.map_some, Option.getD_some, hl, beq_self_eq_true]
  split
  · rename_i h
    simp at h
  · split
    · cases na
    · split
      · cases nb
      · have he : ([x, y].eraseDups).length = 2 := by
          simp [List.eraseDups_cons, hyx]
        simp [he]
theorem sw3 {env : Env} {x y z : Str} {px py pz pt p2 : Pos} {kt k2 : Nat} {a b c : Expr} (hk : env.scope.kind = .function) (hx : env.scope.names.lookup x = some .local) (hy : env.scope.names.lookup y = some .local) (hz : env.scope.names.lookup z = some .local) (hxy : (x == y) = false) (hxz : (x == z) = false) (hyz : (y == z) = false)
    (hl : (py.line == px.line) = true) (hl2 : (pz.line == px.line) = true)
    (na : nst a = true) (nb : nst b = true) (nc : nst c = true) (hf : (foldedForSure 8 a && (foldedForSure 8 b && foldedForSure 8 c)) = false) (hc : (constantsAlone 8 a && (constantsAlone 8 b && constantsAlone 8 c)) = false) :
    swappedStores [.Tuple [.Name x px, .Name y py, .Name z pz] kt pt] (.Tuple [a, b, c] k2 p2) env = pure (some [x, y, z]) := by
  have kx : env.kindOf x = some .local := hx
  have ky : env.kindOf y = some .local := hy
  have kz : env.kindOf z = some .local := hz
  have hb : env.blockKind = .function := by unfold Env.blockKind; rw [hk]; rfl
  have sym : ∀ {u v : Str}, (u == v) = false → (v == u) = false := fun h => by
    rw [beq_eq_false_iff_ne] at h ⊢
    exact fun e => h e.symm
  unfold swappedStores
  simp only [hb, List.any_cons, List.any_nil, List.all_cons, List.all_nil, Bool.and_true, Bool.or_false, hf, hc, List.filterMap_cons, List.filterMap_nil, kx, ky, kz, Expr.pos, List.head?_cons, Option.map_some, Option.getD_some, hl, hl2, beq_self_eq_true]
  split
  · rename_i h
    simp at h
  · split
    · cases na
    · split
      · cases nb
      · split
        · cases nc
        · have he : ([x, y, z].eraseDups).length = 3 := by
            simp [List.eraseDups_cons, sym hxy, sym hxz, sym hyz]
          simp [he]
theorem ps_swNone {t e : Expr} {env : Env} (h : (match t with | .Tuple _ _ _ | .List _ _ => false | _ => true) = true ∨ (match e with | .Tuple _ _ _ => false | _ => true) = true) : swappedStores [t] e env = pure none := by
  unfold swappedStores
  rcases h with h | h
  · cases t <;> first | (cases h; done) | rfl
  · cases t <;> first | rfl | skip
    all_goals (cases e <;> first | (cases h; done) | rfl)
theorem swW_false {e t : Expr} {l : Nat} {env : Env} (h : ncomp e = true) : swapsWithSole [t] e l env = pure false ∧ swapsWith e (some t) l env = pure false ∧ swapsWith e none l env = pure false := by
  cases e <;> first | (cases h; done) | exact ⟨rfl, rfl, rfl⟩
/-- a tuple of constants alone is stored by its items -/
theorem sw_folded {ts vs : List Expr} {k k2 : Nat} {p p2 : Pos} {env : Env} (hn : vs.all nst = true) (h : vs.all (foldedForSure 8) = true) (hk : env.scope.kind = .function) : swappedStores [.Tuple ts k p] (.Tuple vs k2 p2) env = pure none := by
  unfold swappedStores
  simp only [h]
  split
  · rfl
  · split
    · rfl
    · split <;> rfl
theorem sw_long {ts vs : List Expr} {k k2 : Nat} {p p2 : Pos} {env : Env} (h : (ts.length == 2 || ts.length == 3) = false) : swappedStores [.Tuple ts k p] (.Tuple vs k2 p2) env = pure none := by
  unfold swappedStores
  simp only [h]
  rfl

/-! ### the state within a def that began at g0 -/
structure SI (K : PySem.W.Frag) (g0 : G) (env : List Sl) (m : Mem) (g : G) (σ : L2.St) : Prop where
  ex : Ex g0 g
  hr : HR K m g
  er : ER K env g σ
  own : ∀ (i : Nat) (xs : List D) (p : Addr), env[i]? = some (.own xs) → σ[i]? = some (some (.ref p)) → g0.H p = none
def Fw (g1 g : G) : Prop := Same g1.F g.F ∧ ∃ t, g.r = g1.r ++ t
theorem Fw.refl (g : G) : Fw g g := ⟨fun _ _ q => q, [], by simp⟩
theorem Fw.of {g g1 : G} (e : Ex g g1) : Fw g g1 := ⟨e.frz, let ⟨t, h, _⟩ := e.pre; ⟨t, h⟩⟩
theorem Fw.trans {g g1 g2 : G} (a : Fw g g1) (b : Fw g1 g2) : Fw g g2 := by
  obtain ⟨a1, t, a2⟩ := a
  obtain ⟨b1, u, b2⟩ := b
  exact ⟨fun x o q => b1 x o (a1 x o q), t ++ u, by rw [b2, a2, List.append_assoc]⟩
/-- what is wanted behind a statement's result -/
def PostS (K : PySem.W.Frag) (T : XI) (E : XK) (g0 g1 : G) (r : SR) (D : Ends) : Prop := match r with
  | .nxt env m => ∀ σ g, Fw g1 g → SI K g0 env m g σ → D.nx σ g.H
  | .ret d m => ∀ v g, Ex g0 g → HR K m g → RD K g.r g.F d v → D.rt v g.H
  | .brk env m => ∀ σ g, Fw g1 g → SI K g0 env m g σ → D.bk σ g.H
  | .cnt env m => ∀ σ g, Fw g1 g → SI K g0 env m g σ → D.ct σ g.H
  | .exc x _ m => ∀ c dx g, Ex g0 g → HR K m g → XR K T g x c dx → E c dx g.H
  | .stk => False
section
variable {K : PySem.W.Frag} {T : XI} {E : XK} {g0 g g1 g2 : G} {env : List Sl} {m : Mem} {σ : L2.St} {Dn : Ends}
theorem PostS.fw {r : SR} (p : PostS K T E g0 g1 r Dn) (f : Fw g1 g2) : PostS K T E g0 g2 r Dn := by
  cases r with
  | nxt env m => exact fun σ g h => p σ g (f.trans h)
  | ret d m => exact p
  | brk env m => exact fun σ g h => p σ g (f.trans h)
  | cnt env m => exact fun σ g h => p σ g (f.trans h)
  | exc x e m => exact p
  | stk => exact p
abbrev Wd (E : XK) : WX := fun c dx _ H => E c dx H
theorem PostS.thn {α β : Type} {Rel : G → α → β → Prop} {r : R α} {f : α → Mem → SR} {Q : β → Hp → Prop} (p : PostS K T E g0 g (r.thn env f) Dn) (ex : Ex g0 g)
    (k : ∀ a m1, r = .ok a m1 → ∀ b g1, Ex g g1 → HR K m1 g1 → Rel g1 a b → PostS K T E g0 g1 (f a m1) Dn → Q b g1.H) : Post K T Rel r g Q (wat (Wd E) σ) := by
  cases r with
  | ok a m1 => exact fun b g1 e h q => k a m1 rfl b g1 e h q (PostS.fw p (Fw.of e))
  | exc x m1 => exact fun c dx g1 e h q => p c dx g1 (ex.trans e) h q
  | stk => exact p
theorem SI.mono (s : SI K g0 env m g σ) (e : Ex g g1) {m1 : Mem} (h : HR K m1 g1) : SI K g0 env m1 g1 σ := ⟨s.ex.trans e, h, s.er.mono e, s.own⟩
theorem Ex.old {p : Addr} (e : Ex g0 g) (h : g.H p = none) : g0.H p = none := by
  cases q : g0.H p with
  | none => rfl
  | some o =>
    obtain ⟨o', z⟩ := e.the p o q
    rw [h] at z
    cases z
/-- a slot is stored -/
def SlR (K : PySem.W.Frag) (g0 g : G) (env : List Sl) (σ : L2.St) (i : Nat) : Sl → V → Prop
  | .val d, v => RD K g.r g.F d v
  | .own xs, v => ∃ p vs, v = .ref p ∧ g0.H p = none ∧ g.H p = some (.lst vs) ∧ g.F p = none ∧ p ∉ g.r ∧ RDs K g.r g.F xs vs ∧ ∀ j ys, j ≠ i → env[j]? = some (.own ys) → σ[j]? ≠ some (some (.ref p))
  | .no, _ => False
theorem ER.setO (er : ER K env g σ) (i : Nat) {xs : List D} {p : Addr} {vs : List V} (h1 : g.H p = some (.lst vs)) (h2 : g.F p = none) (h3 : p ∉ g.r) (h4 : RDs K g.r g.F xs vs) (h5 : ∀ j ys, j ≠ i → env[j]? = some (.own ys) → σ[j]? ≠ some (some (.ref p))) : ER K (env.set i (.own xs)) g (σ.set i (some (.ref p))) := by
  have at_i : ∀ {s : Sl}, (env.set i (.own xs))[i]? = some s → (σ.set i (some (V.ref p)))[i]? = some (some (.ref p)) := fun {s} q => by
    have hl : i < env.length := by
      by_cases hl : i < env.length
      · exact hl
      · rw [List.getElem?_eq_none (by simpa using hl)] at q
        cases q
    rw [List.getElem?_set_self (by rw [← er.len]; exact hl)]
  refine ⟨by rw [List.length_set, List.length_set, er.len], fun j e q => ?_, fun j ys q => ?_, fun j k xs' ys p' q1 q2 q3 q4 => ?_⟩
  · rcases set_at q with ⟨_, z⟩ | ⟨hn, q⟩
    · cases z
    · obtain ⟨u, k1, k2⟩ := er.val j e q
      exact ⟨u, by rw [List.getElem?_set_ne hn]; exact k1, k2⟩
  · rcases set_at q with ⟨e, z⟩ | ⟨hn, q'⟩
    · cases z
      subst e
      exact ⟨p, vs, at_i q, h1, h2, h3, h4⟩
    · obtain ⟨p', vs', k1, k2⟩ := er.own j ys q'
      exact ⟨p', vs', by rw [List.getElem?_set_ne hn]; exact k1, k2⟩
  · rcases set_at q1 with ⟨e1, z1⟩ | ⟨hn1, q1'⟩
    · subst e1
      rw [at_i q1] at q3
      cases q3
      rcases set_at q2 with ⟨e2, _⟩ | ⟨hn2, q2'⟩
      · exact e2
      · rw [List.getElem?_set_ne hn2] at q4
        exact absurd q4 (h5 k ys (Ne.symm hn2) q2')
    · rw [List.getElem?_set_ne hn1] at q3
      rcases set_at q2 with ⟨e2, z2⟩ | ⟨hn2, q2'⟩
      · subst e2
        rw [at_i q2] at q4
        cases q4
        exact absurd q3 (h5 j xs' (Ne.symm hn1) q1')
      · rw [List.getElem?_set_ne hn2] at q4
        exact er.sep j k xs' ys p' q1' q2' q3 q4
theorem SI.set (s : SI K g0 env m g σ) (i : Nat) {a : Sl} {v : V} (h : SlR K g0 g env σ i a v) : SI K g0 (env.set i a) m g (σ.set i (some v)) := by
  cases a with
  | no => exact h.elim
  | val d =>
    refine ⟨s.ex, s.hr, s.er.setV i h, fun j xs p q1 q2 => ?_⟩
    rcases set_at q1 with ⟨_, z⟩ | ⟨hn, q1⟩
    · cases z
    · rw [List.getElem?_set_ne hn] at q2
      exact s.own j xs p q1 q2
  | own xs =>
    obtain ⟨p, vs, rfl, h0, h1, h2, h3, h4, h5⟩ := h
    refine ⟨s.ex, s.hr, s.er.setO i h1 h2 h3 h4 h5, fun j ys p' q1 q2 => ?_⟩
    rcases set_at q1 with ⟨e, z⟩ | ⟨hn, q1'⟩
    · subst e
      have hl : i < σ.length := by
        by_cases hl : i < σ.length
        · exact hl
        · rw [List.getElem?_eq_none (by simpa using hl)] at q2
          cases q2
      rw [List.getElem?_set_self hl] at q2
      cases q2
      exact h0
    · rw [List.getElem?_set_ne hn] at q2
      exact s.own j ys p' q1' q2
/-- a new list's place is in no slot -/
theorem SI.newp (s : SI K g0 env m g σ) {p : Addr} (hp : g.H p = none) (j : Nat) (ys : List D) (q : env[j]? = some (.own ys)) : σ[j]? ≠ some (some (.ref p)) := fun z => by
  obtain ⟨p', vs, k1, k2, _⟩ := s.er.own j ys q
  rw [z] at k1
  cases k1
  rw [hp] at k2
  cases k2
/-- what one of a def's own lists becomes -/
theorem SI.updO (s : SI K g0 env m g σ) {i : Nat} {xs ys : List D} {p : Addr} {us : List V} (h1 : env[i]? = some (.own xs)) (h2 : σ[i]? = some (some (.ref p))) (h3 : g.F p = none) (h4 : p ∉ g.r) (h5 : RDs K g.r g.F ys us) :
    SI K g0 (env.set i (.own ys)) m (g.newU p (.lst us)) σ ∧ Fw g (g.newU p (.lst us)) := by
  have hold := s.own i xs p h1 h2
  have hσ : σ.set i (some (.ref p)) = σ := by
    refine List.ext_getElem? fun j => ?_
    by_cases e : i = j
    · subst e
      rw [List.getElem?_set_self (List.getElem?_eq_some_iff.mp h2).1, h2]
    · rw [List.getElem?_set_ne e]
  have er1 : ER K (env.set i .no) (g.newU p (.lst us)) (σ.set i none) := by
    have er0 := s.er.setN i none
    refine ⟨er0.len, er0.val, fun j zs q => ?_, er0.sep⟩
    obtain ⟨p', vs, k1, k2, k3, k4, k5⟩ := er0.own j zs q
    have hne : p' ≠ p := fun e => by
      subst e
      rcases set_at q with ⟨_, z⟩ | ⟨hn, q'⟩
      · cases z
      · rw [List.getElem?_set_ne hn] at k1
        exact hn (s.er.sep i j xs zs p' h1 q' h2 k1)
    exact ⟨p', vs, k1, (show L2.upd g.H p _ p' = _ from by rw [upd_ne hne]; exact k2), k3, k4, k5⟩
  refine ⟨⟨s.ex.setU hold, s.hr.setU h3 h4, ?_, fun j zs p' q1 q2 => ?_⟩, fun _ _ q => q, [], by simp [G.newU]⟩
  · have z := er1.setO i (xs := ys) (p := p) (vs := us) upd_same h3 h4 h5 (fun j zs hj q => by
      rw [List.getElem?_set_ne (Ne.symm hj)] at q
      rw [List.getElem?_set_ne (Ne.symm hj)]
      exact fun z => hj (s.er.sep i j xs zs p h1 q h2 z).symm)
    rw [List.set_set, List.set_set, hσ] at z
    exact z
  · rcases set_at q1 with ⟨e, z⟩ | ⟨hn, q1'⟩
    · subst e
      rw [h2] at q2
      cases q2
      exact hold
    · exact s.own j zs p' q1' q2
/-- one of a def's own lists is frozen -/
theorem SI.freeze (s : SI K g0 env m g σ) {i : Nat} {xs : List D} (h1 : env[i]? = some (.own xs)) : ∃ g', SI K g0 (env.set i (.val (.lst xs))) m g' σ ∧ Fw g g' ∧ g'.H = g.H := by
  obtain ⟨p, vs, k1, k2, k3, k4, k5⟩ := s.er.own i xs h1
  have hold := s.own i xs p h1 k1
  have sm : Same g.F (L2.upd g.F p (.lst vs)) := frz_same k3
  have hσ : σ.set i (some (.ref p)) = σ := by
    refine List.ext_getElem? fun j => ?_
    by_cases e : i = j
    · subst e
      rw [List.getElem?_set_self (List.getElem?_eq_some_iff.mp k1).1, k1]
    · rw [List.getElem?_set_ne e]
  refine ⟨g.frz p (.lst vs), ⟨⟨s.ex.pre, fun a o q => sm a o (s.ex.frz a o q), fun a o q => ?_, s.ex.kep, s.ex.the⟩, s.hr.frz k2 k3 k4, ?_, fun j ys p' q1 q2 => ?_⟩, ⟨sm, [], by simp [G.frz]⟩, rfl⟩
  · show L2.upd g.F p _ a = _
    rw [upd_ne (ne_of_none q hold)]
    exact s.ex.fre a o q
  · have er0 := s.er.setN i none
    have er1 : ER K (env.set i .no) (g.frz p (.lst vs)) (σ.set i none) := by
      refine ⟨er0.len, fun j d q => ?_, fun j zs q => ?_, er0.sep⟩
      · obtain ⟨u, j1, j2⟩ := er0.val j d q
        exact ⟨u, j1, j2.mono (fun _ _ z => z) sm⟩
      · obtain ⟨p', ws, j1, j2, j3, j4, j5⟩ := er0.own j zs q
        have hne : p' ≠ p := fun e => by
          subst e
          rcases set_at q with ⟨_, z⟩ | ⟨hn, q'⟩
          · cases z
          · rw [List.getElem?_set_ne hn] at j1
            exact hn (s.er.sep i j xs zs p' h1 q' k1 j1)
        exact ⟨p', ws, j1, j2, (show L2.upd g.F p _ p' = none from by rw [upd_ne hne]; exact j3), j4, j5.mono (fun _ _ z => z) sm⟩
    have z := er1.setV i (d := .lst xs) (v := .ref p) (.lst upd_same (k5.mono (fun _ _ z => z) sm))
    rw [List.set_set, List.set_set, hσ] at z
    exact z
  · rcases set_at q1 with ⟨_, z⟩ | ⟨hn, q1'⟩
    · cases z
    · exact s.own j ys p' q1' q2
mutual
theorem bindT_own : ∀ {t : Tg} {d : D} {env env' : List Sl} {i : Nat} {xs : List D}, bindT t d env = some env' → env'[i]? = some (.own xs) → env[i]? = some (.own xs) ∧ i ∉ t.slots
  | .nm j, d, env, env', i, xs, h, q => by
    rw [bindT] at h
    split at h
    · cases h
      rcases set_at q with ⟨_, z⟩ | ⟨hn, q⟩
      · cases z
      · refine ⟨q, fun z => hn ?_⟩
        rw [Tg.slots] at z
        exact (List.mem_singleton.mp z).symm
    · cases h
  | .tup ts, .tup ds, env, env', i, xs, h, q => by
    rw [bindT] at h
    rw [Tg.slots]
    exact bindTs_own h q
  | .tup ts, .lst ds, env, env', i, xs, h, q => by
    rw [bindT] at h
    rw [Tg.slots]
    exact bindTs_own h q
  | .tup _, .non, _, _, _, _, h, _ => nomatch h
  | .tup _, .bl _, _, _, _, _, h, _ => nomatch h
  | .tup _, .int _, _, _, _, _, h, _ => nomatch h
  | .tup _, .str _, _, _, _, _, h, _ => nomatch h
  | .tup _, .obj _, _, _, _, _, h, _ => nomatch h
  | .tup _, .scr _, _, _, _, _, h, _ => nomatch h
theorem bindTs_own : ∀ {ts : Tgs} {ds : List D} {env env' : List Sl} {i : Nat} {xs : List D}, bindTs ts ds env = some env' → env'[i]? = some (.own xs) → env[i]? = some (.own xs) ∧ i ∉ Tgs.slots ts
  | .nil, [], env, env', i, xs, h, q => by
    cases h
    exact ⟨q, by rw [Tgs.slots]; simp⟩
  | .nil, _ :: _, _, _, _, _, h, _ => nomatch h
  | .cons _ _, [], _, _, _, _, h, _ => nomatch h
  | .cons t r, d :: ds, env, env', i, xs, h, q => by
    rw [bindTs] at h
    cases z : bindT t d env with
    | none =>
      rw [z] at h
      cases h
    | some env1 =>
      rw [z] at h
      obtain ⟨h1, h2⟩ := bindTs_own (ts := r) h q
      obtain ⟨h3, h4⟩ := bindT_own z h1
      refine ⟨h3, ?_⟩
      rw [Tgs.slots, List.mem_append, not_or]
      exact ⟨h4, h2⟩
end
theorem SI.bind (s : SI K g0 env m g σ) {t : Tg} {d : D} {env' : List Sl} {σ' : L2.St} (h : bindT t d env = some env') (e : ER K env' g σ') (same : ∀ i, i ∉ t.slots → σ'[i]? = σ[i]?) : SI K g0 env' m g σ' :=
  ⟨s.ex, s.hr, e, fun i xs p q1 q2 => by
    obtain ⟨k1, k2⟩ := bindT_own h q1
    rw [same i k2] at q2
    exact s.own i xs p k1 q2⟩
end
end PF

set_option Elab.async false
set_option linter.all false
set_option maxRecDepth 100000
set_option maxHeartbeats 8000000
/-! PFq: each statement by its rule. -/
namespace PF
open PySem PySem.Spec PyProof.Rows L2

section
variable (K : PySem.W.Frag) (Tx : XI) (C : Call) (E : XK)
def tS (s : S) : TS := fun Dn σ H => ∃ g0 env m g, g.H = H ∧ SI K g0 env m g σ ∧ PostS K Tx E g0 g (evS C s env m) Dn
def tSs (s : Ss) : TS := fun Dn σ H => ∃ g0 env m g, g.H = H ∧ SI K g0 env m g σ ∧ PostS K Tx E g0 g (evSs C s env m) Dn
end
section
variable {X : Cx} {Tx : XI} {C : Call} {E : XK} {x y z : Expr} {pos : Pos} {st : Stmt} {sts : List Stmt}
theorem ss_nil : PSs X [] (tSs X.K Tx C E .nil) := PSs.imp pss_nil fun Dn σ H ⟨g0, env, m, g, e, si, p⟩ => by
  rw [evSs] at p
  exact e ▸ p σ g (Fw.refl g) si
theorem ss_cons {s : S} {r : Ss} (h1 : PS X st (tS X.K Tx C E s)) (h2 : PSs X sts (tSs X.K Tx C E r)) : PSs X (st :: sts) (tSs X.K Tx C E (.cons s r)) :=
  PSs.imp (pss_cons h1 h2) fun Dn σ H ⟨g0, env, m, g, e, si, p⟩ => by
    rw [evSs] at p
    refine ⟨g0, env, m, g, e, si, ?_⟩
    cases q : evS C s env m with
    | nxt env1 m1 =>
      rw [q] at p
      exact fun σ1 g1 fw si1 => ⟨g0, env1, m1, g1, rfl, si1, PostS.fw p fw⟩
    | ret d m1 =>
      rw [q] at p
      exact p
    | brk env1 m1 =>
      rw [q] at p
      exact p
    | cnt env1 m1 =>
      rw [q] at p
      exact p
    | exc x env1 m1 =>
      rw [q] at p
      exact p
    | stk =>
      rw [q] at p
      exact p
theorem ss_frz {i : Nat} {r : Ss} (h : PSs X sts (tSs X.K Tx C E r)) : PSs X sts (tSs X.K Tx C E (.frz i r)) :=
  PSs.imp h fun Dn σ H ⟨g0, env, m, g, e, si, p⟩ => by
    rw [evSs] at p
    cases q : getO env i with
    | none =>
      rw [q] at p
      exact p.elim
    | some xs =>
      rw [q] at p
      obtain ⟨g1, s1, fw, eH⟩ := si.freeze (getO_at q)
      exact ⟨g0, _, m, g1, eH.trans e, s1, PostS.fw p fw⟩
theorem s_never {n : T} {b : Ss} : PS X st (tS X.K Tx C E (.whl 0 n b)) := PS.imp ps_never fun Dn σ H ⟨g0, env, m, g, e, si, p⟩ => by
  rw [evS] at p
  exact p
theorem s_pas : PS X (.Pass pos) (tS X.K Tx C E .pas) := PS.imp ps_pass fun Dn σ H ⟨g0, env, m, g, e, si, p⟩ => by
  rw [evS] at p
  exact e ▸ p σ g (Fw.refl g) si
theorem s_brk : PS X (.Break pos) (tS X.K Tx C E .brk) := PS.imp ps_break fun Dn σ H ⟨g0, env, m, g, e, si, p⟩ => by
  rw [evS] at p
  exact e ▸ p σ g (Fw.refl g) si
theorem s_cnt : PS X (.Continue pos) (tS X.K Tx C E .cnt) := PS.imp ps_continue fun Dn σ H ⟨g0, env, m, g, e, si, p⟩ => by
  rw [evS] at p
  exact e ▸ p σ g (Fw.refl g) si
theorem s_retn : PS X (.Return none pos) (tS X.K Tx C E .retn) := PS.imp ps_retN fun Dn σ H ⟨g0, env, m, g, e, si, p⟩ => by
  rw [evS] at p
  exact e ▸ p .non g si.ex si.hr .non
theorem s_ret {a : PF.E} (h : PE X x (tE X.K Tx C (Wd E) a)) : PS X (.Return (some x) pos) (tS X.K Tx C E (.ret a)) :=
  PS.imp (ps_ret h) fun Dn σ H ⟨g0, env, m, g, e, si, p⟩ => by
    rw [evS] at p
    exact ⟨env, m, g, e, si.er, si.hr, p.thn si.ex fun d m1 q v g1 e1 h1 r1 p1 => p1 v g1 (si.ex.trans e1) h1 r1⟩
theorem s_ex {a : PF.E} (h : PE X x (tE X.K Tx C (Wd E) a)) (hn : ncomp x = true) : PS X (.Expr x pos) (tS X.K Tx C E (.ex a)) :=
  PS.imp (ps_expr h (swW_false (t := x) hn).2.2) fun Dn σ H ⟨g0, env, m, g, e, si, p⟩ => by
    rw [evS] at p
    exact ⟨env, m, g, e, si.er, si.hr, p.thn si.ex fun d m1 q v g1 e1 h1 r1 p1 => p1 σ g1 (Fw.refl g1) (si.mono e1 h1)⟩
theorem s_ifs {t : T} {a b : Ss} {as bs : List Stmt} (ht : PT X x (tT X.K Tx C (Wd E) t)) (ha : PSs X as (tSs X.K Tx C E a)) (hb : PSs X bs (tSs X.K Tx C E b)) : PS X (.If x as bs pos) (tS X.K Tx C E (.ifs t a b)) :=
  PS.imp (ps_if ht ha hb) fun Dn σ H ⟨g0, env, m, g, e, si, p⟩ => by
    rw [evS] at p
    refine ⟨env, m, g, e, si.er, si.hr, p.thn si.ex fun d m1 q v g1 e1 h1 r1 p1 => ?_⟩
    have r1 : d = v := r1
    subst r1
    cases d with
    | true => exact ⟨g0, env, m1, g1, rfl, si.mono e1 h1, p1⟩
    | false => exact ⟨g0, env, m1, g1, rfl, si.mono e1 h1, p1⟩
theorem s_asg {t : Tg} {a : PF.E} {tg : Expr} (h : PE X x (tE X.K Tx C (Wd E) a)) (hg : PG X tg (gT X.K t)) (hn : ncomp x = true) (hw : swappedStores [tg] x X.env = pure none) (h1 : nst tg = true) : PS X (.Assign [tg] x pos) (tS X.K Tx C E (.asg t a)) :=
  PS.imp (ps_asg h hg (swW_false hn).1 hw (by rw [asg_cons h1]; rfl)) fun Dn σ H ⟨g0, env, m, g, e, si, p⟩ => by
    rw [evS] at p
    refine ⟨env, m, g, e, si.er, si.hr, p.thn si.ex fun d m1 q v g1 e1 h1 r1 p1 => ?_⟩
    cases q2 : bindT t d env with
    | none =>
      rw [q2] at p1
      exact p1.elim
    | some env1 =>
      rw [q2] at p1
      exact ⟨d, env, env1, g1, m1, rfl, h1, si.er.mono e1, r1, q2, fun σ1 k1 k2 => p1 σ1 g1 (Fw.refl g1) ((si.mono e1 h1).bind q2 k1 k2)⟩
/-- behind a new list -/
theorem own_new {K : PySem.W.Frag} {g0 g g1 : G} {env : List Sl} {m m1 : Mem} {σ : L2.St} (si : SI K g0 env m g σ) (e1 : Ex g g1) (h1 : HR K m1 g1) {xs : List D} {v : V} (r1 : RF K g g1 xs v) (i : Nat) : SI K g0 (env.set i (.own xs)) m1 g1 (σ.set i (some v)) := by
  obtain ⟨p, vs, rfl, k0, k1, k2, k3, k4⟩ := r1
  exact (si.mono e1 h1).set i ⟨p, vs, rfl, si.ex.old k0, k1, k2, k3, k4, fun j ys _ q => si.newp k0 j ys q⟩
theorem s_seto {i : Nat} {nm : Str} {f : Fr} {p2 : Pos} (hN : X.N.Nodup) (hi : X.N[i]? = some nm) (hx : L2.Loc X.env.scope nm) (hf : X.fn nm = true ∨ X.env.scope.names.lookup nm = some .local) (h : PE X x (tF X.K Tx C (Wd E) f)) (hn : ncomp x = true) :
    PS X (.Assign [.Name nm p2] x pos) (tS X.K Tx C E (.seto i f)) :=
  PS.imp (ps_set hN hi hx h (swW_false hn).2.1 hf) fun Dn σ H ⟨g0, env, m, g, e, si, p⟩ => by
    rw [evS] at p
    refine ⟨env, m, g, e, si.er, si.hr, p.thn si.ex fun d m1 q v g1 e1 h1 r1 p1 => ?_⟩
    by_cases hl : i < env.length
    · rw [if_pos hl] at p1
      exact p1 _ g1 (Fw.refl g1) (own_new si e1 h1 r1 i)
    · rw [if_neg hl] at p1
      exact p1.elim
theorem s_setc {i : Nat} {nm : Str} {vs : List Nat} {tg : Tg} {s : Src} {c : T} {e : PF.E} {elt t iter : Expr} {ifs : List Expr} {scope : Scope} {own : List (Str × Nat)} {p2 pos2 : Pos} (hk : X.env.scope.kind = .function) (hc : X.calm = true) (hN : X.N.Nodup) (hy : X.N[i]? = some nm) (hyl : X.env.scope.names.lookup nm = some .local)
    (hl : (p2.line == pos.line) = true) (ha : (scope.names.any fun (n, k) => n == nm && (k == .local || k == .cell)) = false) (hvs : own.map (·.2) = vs) (hi : PI X t iter (tR X.K Tx C (Wd E) false s)) (ok : BlkOk X.N X.env.scope scope own)
    (hg : ∀ (s : Shared) (H : Hp) (Cc : Addr) (cl : List (Str × Addr)) (fp : List Addr), PG (X.blk s H scope (compEnvC scope cl Cc X.env) fp) t (gT X.K tg)) (ht : ∀ (s : Shared) (H : Hp) (Cc : Addr) (cl : List (Str × Addr)) (fp : List Addr), PTs (X.blk s H scope (compEnvC scope cl Cc X.env) fp) ifs (tT X.K Tx C W0 c))
    (he : ∀ (s : Shared) (H : Hp) (Cc : Addr) (cl : List (Str × Addr)) (fp : List Addr), PE (X.blk s H scope (compEnvC scope cl Cc X.env) fp) elt (tE X.K Tx C W0 e)) (hs : ∀ x, foldedSetIterable iter X.env x = pure x) (hsl : ∀ i ∈ tg.slots, i ∈ vs) :
    PS X (.Assign [.Name nm p2] (.ListComp elt [⟨t, iter, ifs, 0⟩] scope pos) pos2) (tS X.K Tx C E (.seto i (.comp vs tg s c e))) := by
  subst hvs
  refine PS.imp (ps_setLc hc hN hy hyl (sw_true hk hyl hl ha) hi ok hg ht he hs) fun Dn σ H ⟨g0, env, m, g, e, si, p⟩ => ?_
  rw [evS] at p
  refine k_comp hsl σ H _ ⟨env, m, g, e, si.er, si.hr, p.thn si.ex fun d m1 q v g1 e1 h1 r1 p1 => ?_⟩
  by_cases hl : i < env.length
  · rw [if_pos hl] at p1
    exact p1 _ g1 (Fw.refl g1) (own_new si e1 h1 r1 i)
  · rw [if_neg hl] at p1
    exact p1.elim
/-! ### a def's own lists grow -/
theorem s_app {i : Nat} {nm : Str} {a : PF.E} {np ap cp : Pos} (hN : X.N[i]? = some nm) (hv : Vis X.env.scope nm) (ho : okn nm = true) (ha : PE X x (tE X.K Tx C (Wd E) a)) (hst : nst x = true) (hl : (ap.endLine == cp.line) = true) :
    PS X (.Expr (.Call (.Attribute (.Name nm np) "append" ap) [x] [] cp) pos) (tS X.K Tx C E (.app i a)) :=
  PS.imp (ps_expr (pe_bm PySem.F.plainAttrs_list PySem.F.slot_list_append PySem.F.type_list_append mt_append (pe_var hN hv (okn_debug ho) (okn_cd ho)) (pa_cons ha pa_nil (star_cons hst _ _)) rfl (by rw [star_cons hst]; rfl) hl (star_cons hst _ _) rfl) rfl)
    fun Dn σ H ⟨g0, env, m, g, e, si, p⟩ => by
    rw [evS] at p
    cases q : getO env i with
    | none =>
      rw [q] at p
      exact p.elim
    | some xs =>
      simp only [q] at p
      by_cases hz : xs.length < sizeLine
      · rw [if_pos hz] at p
        obtain ⟨b, vs, k1, k2, k3, k4, k5⟩ := si.er.own i xs (getO_at q)
        subst e
        refine ⟨.ref b, k1, .inl ⟨rfl, vs, SqL.of k2⟩, env, m, g, rfl, si.er, si.hr, p.thn si.ex fun d m1 q1 v g1 e1 h1 r1 p1 => ?_⟩
        have si1 := si.mono e1 h1
        obtain ⟨z1, z2⟩ := si1.updO (getO_at q) k1 (by rw [e1.fre _ _ k2]; exact k3) (e1.nr k2 k4) ((e1.rds k5).append (.one r1))
        exact ⟨b, vs, v, rfl, rfl, e1.kep _ _ k2 k4, by rw [← k5.length]; exact hz, p1 _ _ z2 z1⟩
      · rw [if_neg hz] at p
        exact p.elim
theorem s_ext {i : Nat} {nm : Str} {a : PF.E} {np ap cp : Pos} (hN : X.N[i]? = some nm) (hv : Vis X.env.scope nm) (ho : okn nm = true) (ha : PE X x (tA X.K Tx C (Wd E) a)) (hst : nst x = true) (hl : (ap.endLine == cp.line) = true) :
    PS X (.Expr (.Call (.Attribute (.Name nm np) "extend" ap) [x] [] cp) pos) (tS X.K Tx C E (.ext i a)) :=
  PS.imp (ps_expr (pe_bm PySem.F.plainAttrs_list PySem.F.slot_list_extend PySem.F.type_list_extend mt_extend (pe_var hN hv (okn_debug ho) (okn_cd ho)) (pa_cons ha pa_nil (star_cons hst _ _)) rfl (by rw [star_cons hst]; rfl) hl (star_cons hst _ _) rfl) rfl)
    fun Dn σ H ⟨g0, env, m, g, e, si, p⟩ => by
    rw [evS] at p
    cases q : getO env i with
    | none =>
      rw [q] at p
      exact p.elim
    | some xs =>
      simp only [q] at p
      obtain ⟨b, vs, k1, k2, k3, k4, k5⟩ := si.er.own i xs (getO_at q)
      subst e
      refine ⟨.ref b, k1, .inl ⟨rfl, vs, SqL.of k2⟩, env, m, g, rfl, si.er, si.hr, p.thn si.ex fun d m1 q1 v g1 e1 h1 r1 p1 => ?_⟩
      have hd : ∃ ys, d = .lst ys := by
        cases d <;> first | exact p1.elim | exact ⟨_, rfl⟩
      obtain ⟨ys, hd⟩ := hd
      subst hd
      have p1 : PostS X.K Tx E g0 g1 (if xs.length + ys.length ≤ sizeLine then .nxt (env.set i (.own (xs ++ ys))) m1 else .stk) Dn := p1
      by_cases hz : xs.length + ys.length ≤ sizeLine
      · rw [if_pos hz] at p1
        obtain ⟨c, us, rfl, j1, _, j2⟩ := r1.lst h1
        have si1 := si.mono e1 h1
        obtain ⟨z1, z2⟩ := si1.updO (getO_at q) k1 (by rw [e1.fre _ _ k2]; exact k3) (e1.nr k2 k4) ((e1.rds k5).append j2)
        exact ⟨b, c, vs, us, rfl, rfl, e1.kep _ _ k2 k4, j1, by rw [← k5.length, ← j2.length]; exact hz, p1 _ _ z2 z1⟩
      · rw [if_neg hz] at p1
        exact p1.elim
theorem nsl_set (h : nsl y = true) : ∀ (o : Expr) (v : Value), assign (.Subscript o y pos) X.env v = (do
      let ov ← holding [v] (eval o X.env)
      let iv ← holding [v, ov] (eval y X.env)
      standAt pos
      holding [v, ov, iv] (setItem ov iv v)
      release [v, ov, iv] []) := by
  intro o v
  cases y <;> first | rfl | cases h
theorem s_oset {a k v : PF.E} {tp : Pos} (hv : PE X z (tE X.K Tx C (Wd E) v)) (ha : PE X x (tE X.K Tx C (Wd E) a)) (hk : PE X y (tE X.K Tx C (Wd E) k)) (hs : nsl y = true) (hn : ncomp z = true) : PS X (.Assign [.Subscript x y tp] z pos) (tS X.K Tx C E (.oset a k v)) :=
  PS.imp (ps_asg hv (pg_sub ha hk set_list (nsl_set hs x)) (swW_false hn).1 (ps_swNone (.inl rfl)) rfl) fun Dn σ H ⟨g0, env, m, g, e, si, p⟩ => by
    rw [evS] at p
    refine ⟨env, m, g, e, si.er, si.hr, p.thn si.ex fun d m1 q v g1 e1 h1 r1 p1 => ⟨env, m1, g1, rfl, si.er.mono e1, h1, p1.thn (si.ex.trans e1) fun d2 m2 q2 v2 g2 e2 h2 r2 p2 =>
      ⟨env, m2, g2, rfl, (si.er.mono e1).mono e2, h2, p2.thn ((si.ex.trans e1).trans e2) fun d3 m3 q3 v3 g3 e3 h3 r3 p3 => ?_⟩⟩⟩
    cases q4 : objL m3 d2 with
    | none =>
      rw [q4] at p3
      exact p3.elim
    | some kx =>
      obtain ⟨n, xs⟩ := kx
      rw [q4] at p3
      have hd : ∃ j, d3 = .int j := by
        cases d3 <;> first | exact p3.elim | exact ⟨_, rfl⟩
      obtain ⟨j, hd⟩ := hd
      subst hd
      have p3 : PostS X.K Tx E g0 g3 (match ixN xs.length j with
        | some q => .nxt env (m3.set n (.lst (xs.set q d)))
        | none => .stk) Dn := p3
      obtain ⟨b, vs, rfl, k1, k2, k3⟩ := objL_rd h3 (e3.rd r2) q4
      have r3 : RD X.K g3.r g3.F (.int j) v3 := r3
      cases r3
      cases q5 : ixN xs.length j with
      | none =>
        rw [q5] at p3
        exact p3.elim
      | some w =>
        rw [q5] at p3
        have hb := List.mem_of_getElem? k1
        have si3 : SI X.K g0 env m3 g3 σ := ((si.mono e1 h1).mono e2 h2).mono e3 h3
        have ex4 : Ex g3 (g3.newU b (.lst (vs.set w v))) := Ex.setO hb
        have hr4 : HR X.K (m3.set n (.lst (xs.set w d))) (g3.newU b (.lst (vs.set w v))) := h3.setO k1 (k3.set w (e3.rd (e2.rd r1)))
        exact ⟨b, vs, j, w, rfl, rfl, k2, by rw [← k3.length]; exact q5, p3 σ _ (Fw.of ex4) (si3.mono ex4 hr4)⟩
/-! ### loops -/
theorem s_fors {t : Tg} {s : Src} {b : Ss} {tg : Expr} {bs : List Stmt} (hp : PassesOwn (model X.prog X.w) X.A X.env X.xe) (hc : X.calm = true) (hi : PI X tg x (tR X.K Tx C (Wd E) true s)) (hg : PG X tg (gT X.K t)) (hb : PSs X bs (tSs X.K Tx C E b)) (hs : ∀ v, foldedSetIterable x X.env v = pure v) :
    PS X (.For tg x bs [] pos) (tS X.K Tx C E (.fors t s b)) :=
  PS.imp (ps_for hp hc hi hg hb hs) fun Dn σ H ⟨g0, env, m, g, e, si, p⟩ => by
    rw [evS] at p
    refine ⟨env, m, g, e, si.er, si.hr, p.thn si.ex fun xs m1 q J g1 e1 h1 wk p1 => ?_⟩
    refine ⟨fun i mm σ H => ∃ (env : List Sl) (m : Mem) (g : G), i ≤ xs.length ∧ mm = xs.length - i ∧ g.H = H ∧ Fw g1 g ∧ SI X.K g0 env m g σ ∧ PostS X.K Tx E g0 g (forL (forW (evSs C b) t) (xs.drop i) env m) Dn, ?_, ?_⟩
    · exact ⟨xs.length, env, m1, g1, Nat.zero_le _, by omega, rfl, Fw.refl g1, si.mono e1 h1, p1⟩
    · rintro i mm σ H ⟨env, m, g, hi, rfl, rfl, fw, si, p⟩
      by_cases hlt : i < xs.length
      · refine .inr ⟨wk.go i g m fw si.hr hlt, fun σ' H' => ∃ (env : List Sl) (m : Mem) (g : G), g.H = H' ∧ Fw g1 g ∧ SI X.K g0 env m g σ' ∧ PostS X.K Tx E g0 g (forL (forW (evSs C b) t) (xs.drop (i + 1)) env m) Dn, ?_, ?_⟩
        · rintro σ' H' ⟨env, m, g, k1, k2, k3, k4⟩
          exact ⟨xs.length - (i + 1), by omega, env, m, g, by omega, rfl, k1, k2, k3, k4⟩
        · intro v H' y
          obtain ⟨d, g3, hd, e3, h3, rfl, rd⟩ := wk.yld i g m v H' fw si.hr hlt y
          have hdrop : xs.drop i = d :: xs.drop (i + 1) := by
            rw [List.drop_eq_getElem_cons hlt]
            rw [List.getElem?_eq_getElem hlt] at hd
            rw [Option.some.inj hd]
          rw [hdrop, forL, forW] at p
          cases qb : bindT t d env with
          | none =>
            simp only [qb] at p
            exact p.elim
          | some env1 =>
            simp only [qb] at p
            have fw3 := fw.trans (Fw.of e3)
            refine ⟨d, env, env1, g3, m, rfl, h3, si.er.mono e3, rd, qb, fun σ1 k1 k2 => ⟨g0, env1, m, g3, rfl, (si.mono e3 h3).bind qb k1 k2, ?_⟩⟩
            have p := PostS.fw p (Fw.of e3)
            cases qs : evSs C b env1 m with
            | nxt env2 m2 =>
              simp only [qs] at p
              exact fun σ2 g4 fw4 si4 => ⟨env2, m2, g4, rfl, fw3.trans fw4, si4, PostS.fw p fw4⟩
            | cnt env2 m2 =>
              simp only [qs] at p
              exact fun σ2 g4 fw4 si4 => ⟨env2, m2, g4, rfl, fw3.trans fw4, si4, PostS.fw p fw4⟩
            | brk env2 m2 =>
              simp only [qs] at p
              exact p
            | ret d2 m2 =>
              simp only [qs] at p
              exact p
            | exc xx env2 m2 =>
              simp only [qs] at p
              exact p
            | stk =>
              simp only [qs] at p
              exact p
      · have hi' : i = xs.length := by omega
        subst hi'
        rw [List.drop_length, forL] at p
        exact .inl ⟨wk.stop g m fw si.hr, p σ g (Fw.refl g) si⟩
theorem s_whl {n : Nat} {t : T} {b : Ss} {bs : List Stmt} (hp : PassesOwn (model X.prog X.w) X.A X.env X.xe) (ht : PT X x (tT X.K Tx C (Wd E) t)) (hb : PSs X bs (tSs X.K Tx C E b)) : PS X (.While x bs [] pos) (tS X.K Tx C E (.whl n t b)) :=
  PS.imp (ps_while hp ht hb) fun Dn σ H ⟨g0, env, m, g, e, si, p⟩ => by
    rw [evS] at p
    refine ⟨fun k σ H => ∃ (env : List Sl) (m : Mem) (g : G), g.H = H ∧ SI X.K g0 env m g σ ∧ PostS X.K Tx E g0 g (whlL (evT C t) (evSs C b) k env m) Dn, ⟨n, env, m, g, e, si, p⟩, ?_⟩
    rintro k σ H ⟨env, m, g, e, si, p⟩
    cases k with
    | zero => exact p.elim
    | succ k =>
      rw [whlL] at p
      refine ⟨env, m, g, e, si.er, si.hr, p.thn si.ex fun d m1 q v g1 e1 h1 r1 p1 => ?_⟩
      have r1 : d = v := r1
      subst r1
      cases d with
      | false => exact p1 σ g1 (Fw.refl g1) (si.mono e1 h1)
      | true =>
        refine ⟨fun σ' H' => ∃ (env : List Sl) (m : Mem) (g : G), g.H = H' ∧ SI X.K g0 env m g σ' ∧ PostS X.K Tx E g0 g (whlL (evT C t) (evSs C b) k env m) Dn, fun σ' H' z => ⟨k, Nat.lt_succ_self k, z⟩, g0, env, m1, g1, rfl, si.mono e1 h1, ?_⟩
        simp only [if_true] at p1
        cases qs : evSs C b env m1 with
        | nxt env2 m2 =>
          simp only [qs] at p1
          exact fun σ2 g4 fw4 si4 => ⟨env2, m2, g4, rfl, si4, PostS.fw p1 fw4⟩
        | cnt env2 m2 =>
          simp only [qs] at p1
          exact fun σ2 g4 fw4 si4 => ⟨env2, m2, g4, rfl, si4, PostS.fw p1 fw4⟩
        | brk env2 m2 =>
          simp only [qs] at p1
          exact p1
        | ret d2 m2 =>
          simp only [qs] at p1
          exact p1
        | exc xx env2 m2 =>
          simp only [qs] at p1
          exact p1
        | stk =>
          simp only [qs] at p1
          exact p1
end
end PF

set_option Elab.async false
set_option linter.all false
set_option maxRecDepth 100000
set_option maxHeartbeats 8000000
/-! PFs: two or three names at once; the looks at statements; statements: what the looks pass is what the language means. -/
namespace PF
open PySem PySem.Spec PyProof.Rows L2

def evI (C : Call) : Init → List Sl → Mem → R Sl
  | .val e, env, m => (evE C e env m).bind fun d m1 => .ok (.val d) m1
  | .own f, env, m => (evF C f env m).bind fun d m1 => .ok (.own d) m1
theorem evIn_cons (C : Call) (i : Nat) (a : Init) (r : List (Nat × Init)) (env : List Sl) (m : Mem) : evIn C ((i, a) :: r) env m = (evI C a env m).bind fun s m1 => (evIn C r env m1).bind fun l m2 => .ok ((i, s) :: l) m2 := by
  cases a with
  | val e =>
    rw [evIn, evI]
    cases evE C e env m <;> rfl
  | own e =>
    rw [evIn, evI]
    cases evF C e env m <;> rfl
theorem thn_bind {α β : Type} (r : R α) (f : α → Mem → R β) (env : List Sl) (h : β → Mem → SR) : (r.bind f).thn env h = r.thn env fun a m1 => (f a m1).thn env h := by
  cases r <;> rfl
def RI (K : PySem.W.Frag) (g0 : G) : G → Sl → V → Prop := fun g s v => match s with
  | .val d => RD K g.r g.F d v
  | .own xs => RF K g0 g xs v
  | .no => False
theorem RI.set {K : PySem.W.Frag} {g0 g g1 : G} {env : List Sl} {m m1 : Mem} {σ : L2.St} (si : SI K g0 env m g σ) (e1 : Ex g g1) (h1 : HR K m1 g1) {s : Sl} {v : V} (r1 : RI K g g1 s v) (i : Nat) : SI K g0 (env.set i s) m1 g1 (σ.set i (some v)) := by
  cases s with
  | no => exact r1.elim
  | val d => exact (si.mono e1 h1).set i (a := .val d) r1
  | own xs => exact own_new si e1 h1 r1 i
section
variable {X : Cx} {Tx : XI} {C : Call} {E : XK} {a b c : Expr} {pos : Pos}
def tI (K : PySem.W.Frag) (Tx : XI) (C : Call) (W : WX) (a : Init) : TE := fun σ H Q => ∃ env m g, g.H = H ∧ ER K env g σ ∧ HR K m g ∧ Post K Tx (RI K g) (evI C a env m) g Q (wat W σ)
theorem l_ival {W : WX} {e : PF.E} (h : PE X a (tE X.K Tx C W e)) : PE X a (tI X.K Tx C W (.val e)) :=
  PE.imp h fun σ H Q ⟨env, m, g, e, er, hr, p⟩ => by
    rw [evI] at p
    exact ⟨env, m, g, e, er, hr, Post.bind p fun d m1 q v g1 e1 h1 r1 p1 => Post.val (Rel := RI X.K g) p1 h1 r1⟩
theorem l_iown {W : WX} {f : Fr} (h : PE X a (tF X.K Tx C W f)) : PE X a (tI X.K Tx C W (.own f)) :=
  PE.imp h fun σ H Q ⟨env, m, g, e, er, hr, p⟩ => by
    rw [evI] at p
    exact ⟨env, m, g, e, er, hr, Post.bind p fun d m1 q v g1 e1 h1 r1 p1 => by
      rw [q] at p
      exact Post.at (Rel := RI X.K g) p e1 h1 r1⟩
theorem s_par2 {i j : Nat} {x y : Str} {ia ib : Init} {px py pt : Pos} {kt k2 : Nat} {pt2 : Pos} (hc : X.calm = true) (hN : X.N.Nodup) (hi : X.N[i]? = some x) (hj : X.N[j]? = some y) (hk : X.env.scope.kind = .function)
    (hx : X.env.scope.names.lookup x = some .local) (hy : X.env.scope.names.lookup y = some .local) (hxy : (x == y) = false) (hl : (py.line == px.line) = true)
    (ha : PE X a (tI X.K Tx C (Wd E) ia)) (hb : PE X b (tI X.K Tx C (Wd E) ib)) (na : nst a = true) (nb : nst b = true) (hf : (foldedForSure 8 a && foldedForSure 8 b) = false) (hcn : (constantsAlone 8 a && constantsAlone 8 b) = false) :
    PS X (.Assign [.Tuple [.Name x px, .Name y py] kt pt] (.Tuple [a, b] k2 pt2) pos) (tS X.K Tx C E (.par [(i, ia), (j, ib)])) := by
  have hij : i ≠ j := fun e => by
    subst e
    rw [hi] at hj
    cases hj
    simp at hxy
  refine PS.imp (ps_par hc hN hi hj hij hx hy (pa_cons ha (pa_cons hb pa_nil (star_cons nb _ _)) (star_cons na _ _)) (sw2 hk hx hy hxy hl na nb hf hcn) rfl) fun Dn σ H ⟨g0, env, m, g, e, si, p⟩ => ?_
  rw [evS, evIn_cons, thn_bind] at p
  refine ⟨env, m, g, e, si.er, si.hr, p.thn si.ex fun s1 m1 q1 v1 g1 e1 h1 r1 p1 => ?_⟩
  rw [evIn_cons, thn_bind, thn_bind] at p1
  refine ⟨env, m1, g1, rfl, si.er.mono e1, h1, p1.thn (si.ex.trans e1) fun s2 m2 q2 v2 g2 e2 h2 r2 p2 => ⟨v1, v2, rfl, ?_⟩⟩
  rw [evIn] at p2
  exact p2 _ g2 (Fw.refl g2) (RI.set (RI.set si e1 h1 r1 i) e2 h2 r2 j)
theorem s_par3 {i j l : Nat} {x y z : Str} {ia ib ic : Init} {px py pz pt : Pos} {kt k2 : Nat} {pt2 : Pos} (hc : X.calm = true) (hN : X.N.Nodup) (hi : X.N[i]? = some x) (hj : X.N[j]? = some y) (hl' : X.N[l]? = some z) (hk : X.env.scope.kind = .function)
    (hx : X.env.scope.names.lookup x = some .local) (hy : X.env.scope.names.lookup y = some .local) (hz : X.env.scope.names.lookup z = some .local) (hxy : (x == y) = false) (hxz : (x == z) = false) (hyz : (y == z) = false) (hl : (py.line == px.line) = true) (hl2 : (pz.line == px.line) = true)
    (ha : PE X a (tI X.K Tx C (Wd E) ia)) (hb : PE X b (tI X.K Tx C (Wd E) ib)) (hcc : PE X c (tI X.K Tx C (Wd E) ic)) (na : nst a = true) (nb : nst b = true) (nc : nst c = true) (hf : (foldedForSure 8 a && (foldedForSure 8 b && foldedForSure 8 c)) = false) (hcn : (constantsAlone 8 a && (constantsAlone 8 b && constantsAlone 8 c)) = false) :
    PS X (.Assign [.Tuple [.Name x px, .Name y py, .Name z pz] kt pt] (.Tuple [a, b, c] k2 pt2) pos) (tS X.K Tx C E (.par [(i, ia), (j, ib), (l, ic)])) := by
  have ne : ∀ {i j : Nat} {x y : Str}, X.N[i]? = some x → X.N[j]? = some y → (x == y) = false → i ≠ j := fun {i j x y} hi hj hxy e => by
    subst e
    rw [hi] at hj
    cases hj
    simp at hxy
  refine PS.imp (ps_par3 hc hN hi hj hl' (ne hi hj hxy) (ne hi hl' hxz) (ne hj hl' hyz) hx hy hz (pa_cons ha (pa_cons hb (pa_cons hcc pa_nil (star_cons nc _ _)) (star_cons nb _ _)) (star_cons na _ _)) (sw3 hk hx hy hz hxy hxz hyz hl hl2 na nb nc hf hcn) rfl) fun Dn σ H ⟨g0, env, m, g, e, si, p⟩ => ?_
  rw [evS, evIn_cons, thn_bind] at p
  refine ⟨env, m, g, e, si.er, si.hr, p.thn si.ex fun s1 m1 q1 v1 g1 e1 h1 r1 p1 => ?_⟩
  rw [evIn_cons, thn_bind, thn_bind] at p1
  refine ⟨env, m1, g1, rfl, si.er.mono e1, h1, p1.thn (si.ex.trans e1) fun s2 m2 q2 v2 g2 e2 h2 r2 p2 => ?_⟩
  rw [evIn_cons, thn_bind, thn_bind] at p2
  refine ⟨env, m2, g2, rfl, (si.er.mono e1).mono e2, h2, p2.thn ((si.ex.trans e1).trans e2) fun s3 m3 q3 v3 g3 e3 h3 r3 p3 => ⟨v1, v2, v3, rfl, ?_⟩⟩
  rw [evIn] at p3
  exact p3 _ g3 (Fw.refl g3) (RI.set (RI.set (RI.set si e1 h1 r1 i) e2 h2 r2 j) e3 h3 r3 l)
end

/-! ### the looks at statements -/
/-- how a tuple's parts are stored: by no exchange -/
def noSw (t e : Expr) : Bool := match t, e with
  | .Tuple ts _ _, .Tuple vs _ _ => (vs.all nst && vs.all (foldedForSure 8)) || !(ts.length == 2 || ts.length == 3)
  | .List _ _, .Tuple _ _ _ => false
  | _, _ => true
def ckI (D0 : TD) (Γ : Gam) : Init → Expr → Bool
  | .val e, x => ckE D0 Γ e x
  | .own f, x => ckF D0 Γ f x
/-- a comprehension that is stored on one line -/
def ckCl (Γ : Gam) (y : Str) (py : Pos) : Expr → Bool
  | .ListComp _ _ scope p => Γ.loc y && (py.line == p.line) && !(scope.names.any fun (n, k) => n == y && (k == .local || k == .cell))
  | _ => false
def ckP (D0 : TD) (Γ : Gam) : List (Nat × Init) → List Expr → List Expr → Bool
  | [(i, ia), (j, ib)], [.Name x px, .Name y py], [a, b] => decide (Γ.N[i]? = some x) && decide (Γ.N[j]? = some y) && Γ.loc x && Γ.loc y && !(x == y) && (py.line == px.line) && ckI D0 Γ ia a && ckI D0 Γ ib b && nst a && nst b &&
      !(foldedForSure 8 a && foldedForSure 8 b) && !(constantsAlone 8 a && constantsAlone 8 b)
  | [(i, ia), (j, ib), (l, ic)], [.Name x px, .Name y py, .Name z pz], [a, b, c] => decide (Γ.N[i]? = some x) && decide (Γ.N[j]? = some y) && decide (Γ.N[l]? = some z) && Γ.loc x && Γ.loc y && Γ.loc z && !(x == y) && !(x == z) && !(y == z) && (py.line == px.line) && (pz.line == px.line) &&
      ckI D0 Γ ia a && ckI D0 Γ ib b && ckI D0 Γ ic c && nst a && nst b && nst c && !(foldedForSure 8 a && (foldedForSure 8 b && foldedForSure 8 c)) && !(constantsAlone 8 a && (constantsAlone 8 b && constantsAlone 8 c))
  | _, _, _ => false
def isFn (sc : Scope) : Bool := match sc.kind with
  | .function => true
  | _ => false
mutual
def ckS (D0 : TD) (Γ : Gam) : S → Stmt → Bool
  | .asg tg e, st => match st with
    | .Assign [t] x _ => ckG Γ tg t && ckE D0 Γ e x && ncomp x && nst t && noSw t x && isFn Γ.sc
    | _ => false
  | .seto i f, st => match st with
    | .Assign [.Name y py] x _ => decide (Γ.N[i]? = some y) && Γ.sto y && ckF D0 Γ f x && (ncomp x || (ckCl Γ y py x && isFn Γ.sc))
    | _ => false
  | .par ls, st => match st with
    | .Assign [.Tuple ts _ _] (.Tuple vs _ _) _ => ckP D0 Γ ls ts vs && isFn Γ.sc
    | _ => false
  | .app i e, st => match st with
    | .Expr (.Call (.Attribute (.Name x _) nm ap) [y] [] cp) _ => decide (nm = ("append" : Str)) && decide (Γ.N[i]? = some x) && Γ.vis x && okn x && ckE D0 Γ e y && nst y && (ap.endLine == cp.line)
    | _ => false
  | .ext i e, st => match st with
    | .Expr (.Call (.Attribute (.Name x _) nm ap) [y] [] cp) _ => decide (nm = ("extend" : Str)) && decide (Γ.N[i]? = some x) && Γ.vis x && okn x && (ckW Γ e y || ckE D0 Γ e y) && nst y && (ap.endLine == cp.line)
    | _ => false
  | .seti _ _ _, _ => false
  | .popd _, _ => false
  | .popto _ _, _ => false
  | .oset a k e, st => match st with
    | .Assign [.Subscript x y _] z _ => ckE D0 Γ e z && ckE D0 Γ a x && ckE D0 Γ k y && nsl y && ncomp z
    | _ => false
  | .ex e, st => match st with
    | .Expr x _ => ckE D0 Γ e x && ncomp x
    | _ => false
  | .ret e, st => match st with
    | .Return (some x) _ => ckE D0 Γ e x
    | _ => false
  | .retn, st => match st with
    | .Return none _ => true
    | _ => false
  | .ifs t a b, st => match st with
    | .If x as bs _ => ckT D0 Γ t x && ckSs D0 Γ a as && ckSs D0 Γ b bs
    | _ => false
  | .fors tg s b, st => match st with
    | .For t x bs [] _ => ckR D0 Γ true s t x && ckG Γ tg t && ckSs D0 Γ b bs && nset x
    | _ => false
  | .whl 0 _ _, _ => true
  | .whl (n + 1) t b, st => match st with
    | .While x bs [] _ => ckT D0 Γ t x && ckSs D0 Γ b bs
    | _ => false
  | .brk, st => match st with
    | .Break _ => true
    | _ => false
  | .cnt, st => match st with
    | .Continue _ => true
    | _ => false
  | .pas, st => match st with
    | .Pass _ => true
    | _ => false
  | .rai _ _, _ => false
  | .tryas _ _ _ _, _ => false
def ckSs (D0 : TD) (Γ : Gam) : Ss → List Stmt → Bool
  | .nil, xs => xs.isEmpty
  | .cons s r, xs => match xs with
    | x :: xs => ckS D0 Γ s x && ckSs D0 Γ r xs
    | [] => false
  | .frz i r, xs => ckSs D0 Γ r xs
end
section
variable {D0 : TD} {fa : Nat → Addr} {fd : Nat → FuncData} {n : Nat} {Γ : Gam} {E : XK} {X : Cx}
theorem Gd.fnk {W : WX} (G : Gd D0 fa fd n Γ W X) (h : isFn Γ.sc = true) : X.env.scope.kind = .function := by
  rw [G.sc]
  unfold isFn at h
  split at h
  · assumption
  · cases h
theorem Gd.loc {W : WX} (G : Gd D0 fa fd n Γ W X) {x : Str} (h : Γ.loc x = true) : X.env.scope.names.lookup x = some .local := by
  unfold Gam.loc at h
  rw [G.sc]
  split at h
  · assumption
  · cases h
theorem snd_I {W : WX} (G : Gd D0 fa fd n Γ W X) {a : Init} {x : Expr} (h : ckI D0 Γ a x = true) : PE X x (tI X.K D0.xi (callF D0.fs n) W a) := by
  cases a with
  | val e => exact l_ival (sndE D0 fa fd n e Γ W X x G h)
  | own f => exact l_iown (sndF D0 fa fd n f Γ W X x G h)
theorem noSw_ok {t e : Expr} {env : Env} (h : noSw t e = true) (hk : env.scope.kind = .function) : swappedStores [t] e env = pure none := by
  unfold noSw at h
  split at h
  · rw [Bool.or_eq_true, Bool.and_eq_true] at h
    rcases h with ⟨h1, h2⟩ | h
    · exact sw_folded h1 h2 hk
    · exact sw_long (by simpa using h)
  · cases h
  · rename_i h1 h2
    cases t <;> first | exact ps_swNone (.inl rfl) | skip
    all_goals (cases e <;> first | exact ps_swNone (.inr rfl) | skip)
    all_goals first
      | exact absurd rfl (h1 _ _ _ _ _ _ rfl)
      | exact absurd rfl (h2 _ _ _ _ _ rfl)
theorem bne_of {x y : Str} (h : (!(x == y)) = true) : (x == y) = false := by simpa using h
theorem snd_P {W : WX} (G : Gd D0 fa fd n Γ (Wd E) X) {ls : List (Nat × Init)} {ts vs : List Expr} {k k2 : Nat} {p p2 pos : Pos} (h : ckP D0 Γ ls ts vs = true) (hk : X.env.scope.kind = .function) :
    PS X (.Assign [.Tuple ts k p] (.Tuple vs k2 p2) pos) (tS X.K D0.xi (callF D0.fs n) E (.par ls)) := by
  unfold ckP at h
  split at h
  · simp only [Bool.and_eq_true, decide_eq_true_eq] at h
    obtain ⟨⟨⟨⟨⟨⟨⟨⟨⟨⟨⟨h1, h2⟩, h3⟩, h4⟩, h5⟩, h6⟩, h7⟩, h8⟩, h9⟩, h10⟩, h11⟩, h12⟩ := h
    exact s_par2 G.calm (by rw [G.nN]; exact G.nd) (G.pos h1) (G.pos h2) hk (G.loc h3) (G.loc h4) (bne_of h5) h6 (snd_I G h7) (snd_I G h8) h9 h10 (by rw [Bool.not_eq_true'] at h11; exact h11) (by rw [Bool.not_eq_true'] at h12; exact h12)
  · simp only [Bool.and_eq_true, decide_eq_true_eq] at h
    obtain ⟨⟨⟨⟨⟨⟨⟨⟨⟨⟨⟨⟨⟨⟨⟨⟨⟨⟨h1, h2⟩, h3⟩, h4⟩, h5⟩, h6⟩, h7⟩, h8⟩, h9⟩, h10⟩, h11⟩, h12⟩, h13⟩, h14⟩, h15⟩, h16⟩, h17⟩, h18⟩, h19⟩ := h
    refine s_par3 G.calm (by rw [G.nN]; exact G.nd) (G.pos h1) (G.pos h2) (G.pos h3) hk (G.loc h4) (G.loc h5) (G.loc h6) (bne_of h7) (bne_of h8) (bne_of h9) h10 h11 (snd_I G h12) (snd_I G h13) (snd_I G h14) h15 h16 h17 ?_ ?_
    · rw [Bool.not_eq_true', Bool.and_eq_false_iff] at h18
      rw [Bool.and_eq_false_iff]
      exact h18
    · rw [Bool.not_eq_true', Bool.and_eq_false_iff] at h19
      rw [Bool.and_eq_false_iff]
      exact h19
  · cases h
end
variable (D0 : TD) (fa : Nat → Addr) (fd : Nat → FuncData) (n : Nat)
mutual
theorem sndS : ∀ (s : S) (Γ : Gam) (E : XK) (X : Cx) (st : Stmt), Gd D0 fa fd n Γ (Wd E) X → PassesOwn (model X.prog X.w) X.A X.env X.xe → ckS D0 Γ s st = true → PS X st (tS X.K D0.xi (callF D0.fs n) E s)
  | .asg tg e, Γ, E, X, st, G, hp, h => by
    unfold ckS at h
    split at h
    · rename_i t x pos
      simp only [Bool.and_eq_true] at h
      obtain ⟨⟨⟨⟨⟨h1, h2⟩, h3⟩, h4⟩, h5⟩, h6⟩ := h
      exact s_asg (sndE D0 fa fd n e Γ _ X _ G h2) (G.tgt h1) h3 (noSw_ok h5 (G.fnk h6)) h4
    · cases h
  | .seto i f, Γ, E, X, st, G, hp, h => by
    unfold ckS at h
    split at h
    · rename_i y py x pos
      rw [Bool.and_eq_true, Bool.and_eq_true, Bool.and_eq_true, decide_eq_true_eq] at h
      obtain ⟨⟨⟨h1, h2⟩, h3⟩, h4⟩ := h
      by_cases hn : ncomp x = true
      · obtain ⟨k1, k2⟩ := G.sto y h2
        rw [← G.sc] at k1 k2
        exact s_seto (by rw [G.nN]; exact G.nd) (G.pos h1) k1 k2 (sndF D0 fa fd n f Γ _ X _ G h3) hn
      · rw [Bool.or_eq_true] at h4
        rcases h4 with h4 | h4
        · exact absurd h4 hn
        · rw [Bool.and_eq_true] at h4
          obtain ⟨h4, h5⟩ := h4
          unfold ckCl at h4
          split at h4
          · rename_i elt gs scope p
            simp only [Bool.and_eq_true] at h4
            obtain ⟨⟨c1, c2⟩, c3⟩ := h4
            cases f <;> first | (unfold ckF at h3; cases h3; done) | skip
            rename_i vs tg s c e
            unfold ckF at h3
            split at h3
            · rename_i elt' t iter ifs scope' pos' he
              cases he
              simp only [Bool.and_eq_true] at h3
              obtain ⟨⟨⟨⟨⟨⟨j1, j2⟩, j3⟩, j4⟩, j5⟩, j6⟩, j7⟩ := h3
              refine s_setc (own := ownOf Γ.N vs) (G.fnk h5) G.calm (by rw [G.nN]; exact G.nd) (G.pos h1) (G.loc c1) c2 (by simpa using c3) (by unfold ownOf; rw [List.map_map]; exact List.map_id' vs) (sndR D0 fa fd n false s Γ _ X t iter G j1) (by rw [G.nN, G.sc]; exact blkOk_by j6)
                (fun s H Cc cl fp => (G.blk scope s H Cc cl fp).tgt j3) (fun s H Cc cl fp => ?_) (fun s H Cc cl fp => sndE D0 fa fd n e (Γ.blk scope) W0 _ elt (G.blk scope s H Cc cl fp) j5) (nset_fold j2 _) (fun i hi => ?_)
              · split at j7
                · refine ⟨fun pins s' σ H' Q I z => pts_nil.run pins s' σ H' Q I ?_⟩
                  obtain ⟨env, m, g, e, er, hr, q⟩ := z
                  rw [evT] at q
                  have q := Post.val (Rel := fun _ a b => a = b) q hr rfl
                  rw [e] at q
                  exact q
                · exact pts_one (sndT D0 fa fd n c (Γ.blk scope) W0 _ _ (G.blk scope s H Cc cl fp) j7)
                · cases j7
              · rw [List.all_eq_true] at j4
                have := j4 i hi
                simpa using this
            · cases h3
          · cases h4
    · cases h
  | .par ls, Γ, E, X, st, G, hp, h => by
    unfold ckS at h
    split at h
    · rw [Bool.and_eq_true] at h
      exact snd_P (W := Wd E) G h.1 (G.fnk h.2)
    · cases h
  | .app i e, Γ, E, X, st, G, hp, h => by
    unfold ckS at h
    split at h
    · simp only [Bool.and_eq_true, decide_eq_true_eq] at h
      obtain ⟨⟨⟨⟨⟨⟨rfl, h1⟩, h2⟩, h3⟩, h4⟩, h5⟩, h6⟩ := h
      exact s_app (G.pos h1) (G.vis h2) h3 (sndE D0 fa fd n e Γ _ X _ G h4) h5 h6
    · cases h
  | .ext i e, Γ, E, X, st, G, hp, h => by
    unfold ckS at h
    split at h
    · rw [Bool.and_eq_true, Bool.and_eq_true, Bool.and_eq_true, Bool.and_eq_true, Bool.and_eq_true, Bool.and_eq_true, decide_eq_true_eq, decide_eq_true_eq] at h
      obtain ⟨⟨⟨⟨⟨⟨rfl, h1⟩, h2⟩, h3⟩, h4⟩, h5⟩, h6⟩ := h
      exact s_ext (G.pos h1) (G.vis h2) h3 (snd_A G (sndE D0 fa fd n e Γ _ X _ G) h4) h5 h6
    · cases h
  | .seti _ _ _, Γ, E, X, st, G, hp, h => by
    unfold ckS at h
    cases h
  | .popd _, Γ, E, X, st, G, hp, h => by
    unfold ckS at h
    cases h
  | .popto _ _, Γ, E, X, st, G, hp, h => by
    unfold ckS at h
    cases h
  | .oset a k e, Γ, E, X, st, G, hp, h => by
    unfold ckS at h
    split at h
    · simp only [Bool.and_eq_true] at h
      obtain ⟨⟨⟨⟨h1, h2⟩, h3⟩, h4⟩, h5⟩ := h
      exact s_oset (sndE D0 fa fd n e Γ _ X _ G h1) (sndE D0 fa fd n a Γ _ X _ G h2) (sndE D0 fa fd n k Γ _ X _ G h3) h4 h5
    · cases h
  | .ex e, Γ, E, X, st, G, hp, h => by
    unfold ckS at h
    split at h
    · simp only [Bool.and_eq_true] at h
      exact s_ex (sndE D0 fa fd n e Γ _ X _ G h.1) h.2
    · cases h
  | .ret e, Γ, E, X, st, G, hp, h => by
    unfold ckS at h
    split at h
    · exact s_ret (sndE D0 fa fd n e Γ _ X _ G h)
    · cases h
  | .retn, Γ, E, X, st, G, hp, h => by
    unfold ckS at h
    split at h
    · exact s_retn
    · cases h
  | .ifs t a b, Γ, E, X, st, G, hp, h => by
    unfold ckS at h
    split at h
    · simp only [Bool.and_eq_true] at h
      exact s_ifs (sndT D0 fa fd n t Γ _ X _ G h.1.1) (sndSs a Γ E X _ G hp h.1.2) (sndSs b Γ E X _ G hp h.2)
    · cases h
  | .fors tg s b, Γ, E, X, st, G, hp, h => by
    unfold ckS at h
    split at h
    · simp only [Bool.and_eq_true] at h
      exact s_fors hp G.calm (sndR D0 fa fd n true s Γ _ X _ _ G h.1.1.1) (G.tgt h.1.1.2) (sndSs b Γ E X _ G hp h.1.2) (nset_fold h.2 _)
    · cases h
  | .whl 0 t b, Γ, E, X, st, G, hp, h => s_never
  | .whl (k + 1) t b, Γ, E, X, st, G, hp, h => by
    unfold ckS at h
    split at h
    · simp only [Bool.and_eq_true] at h
      exact s_whl hp (sndT D0 fa fd n t Γ _ X _ G h.1) (sndSs b Γ E X _ G hp h.2)
    · cases h
  | .brk, Γ, E, X, st, G, hp, h => by
    unfold ckS at h
    split at h
    · exact s_brk
    · cases h
  | .cnt, Γ, E, X, st, G, hp, h => by
    unfold ckS at h
    split at h
    · exact s_cnt
    · cases h
  | .pas, Γ, E, X, st, G, hp, h => by
    unfold ckS at h
    split at h
    · exact s_pas
    · cases h
  | .rai _ _, Γ, E, X, st, G, hp, h => by
    unfold ckS at h
    cases h
  | .tryas _ _ _ _, Γ, E, X, st, G, hp, h => by
    unfold ckS at h
    cases h
theorem sndSs : ∀ (s : Ss) (Γ : Gam) (E : XK) (X : Cx) (xs : List Stmt), Gd D0 fa fd n Γ (Wd E) X → PassesOwn (model X.prog X.w) X.A X.env X.xe → ckSs D0 Γ s xs = true → PSs X xs (tSs X.K D0.xi (callF D0.fs n) E s)
  | .nil, Γ, E, X, xs, G, hp, h => by
    unfold ckSs at h
    obtain rfl : xs = [] := by simpa using h
    exact ss_nil
  | .cons s r, Γ, E, X, xs, G, hp, h => by
    unfold ckSs at h
    split at h
    · simp only [Bool.and_eq_true] at h
      exact ss_cons (sndS s Γ E X _ G hp h.1) (sndSs r Γ E X _ G hp h.2)
    · cases h
  | .frz i r, Γ, E, X, xs, G, hp, h => by
    unfold ckSs at h
    exact ss_frz (sndSs r Γ E X _ G hp h)
end
end PF

set_option Elab.async false
set_option linter.all false
set_option maxRecDepth 100000
set_option maxHeartbeats 8000000
/-! PFt: every def does what its meaning says; the law's promise. -/
namespace PF
open PySem PySem.Spec PyProof.Rows L2

/-- a def's text: its name, its path, its statement, its slots' names -/
structure Tx where
  nm : Str
  st : Stmt
  N : List Str
def stoOf (sc : Scope) (x : Str) : Bool := decide (sc.names.lookup x = some .local) || decide (sc.names.lookup x = some .cell)
def Tx.gam (t : Tx) : Gam := ⟨t.N, defScope t.st, stoOf (defScope t.st)⟩
/-- the looks at a def -/
def ckFn (sc : Scope) (N P : List Str) : Bool :=
  isFn sc && !sc.isCoroutine && !sc.isGenerator && decide N.Nodup && decide (N.take P.length = P) && P.all (stoOf sc) && sc.names.all fun y => match y.2 with
    | .free => false
    | _ => true
theorem ckFn_ok {sc : Scope} {N P : List Str} (h : ckFn sc N P = true) : FnScope N P sc := by
  unfold ckFn at h
  simp only [Bool.and_eq_true, Bool.not_eq_true', decide_eq_true_eq, List.all_eq_true] at h
  obtain ⟨⟨⟨⟨⟨⟨h1, h2⟩, h3⟩, h4⟩, h5⟩, h6⟩, h7⟩ := h
  refine ⟨?_, h2, h3, h4, h5, fun x hx => ?_, fun y hy => ?_⟩
  · unfold isFn at h1
    split at h1
    · assumption
    · cases h1
  · have q := h6 x hx
    unfold stoOf at q
    rw [Bool.or_eq_true, decide_eq_true_eq, decide_eq_true_eq] at q
    exact q
  · have q := h7 y hy
    intro e
    rw [e] at q
    cases q
def ckD (D0 : TD) (f : Nat) (t : Tx) : Bool := match D0.ps[f]?, D0.fs[f]? with
  | some ps, some fr => ckFn (defScope t.st) t.N ps && decide (fr.ar = ps.length) && decide (fr.sz = t.N.length) && ckSs D0 t.gam fr.body (defBody t.st)
  | _, _ => false
section
variable {P : Program} {w : World} {K : PySem.W.Frag} {mg : Str → Option Value} {base : Heap} {D0 : TD} {fa : Nat → Addr} {fd : Nat → FuncData}
theorem spI_len {n f : Nat} {ps : List Str} (hps : D0.ps[f]? = some ps) (har : ∀ fr, D0.fs[f]? = some fr → fr.ar = ps.length) : ∀ vs H Q E, spI K D0 n f vs H Q E → vs.length = ps.length := by
  intro vs H Q E ⟨ds, m, g, e, hr, rs, p⟩
  cases n with
  | zero => exact p.elim
  | succ n =>
    rw [callF] at p
    cases q : D0.fs[f]? with
    | none =>
      simp only [q] at p
      exact p.elim
    | some fr =>
      simp only [q] at p
      by_cases hl : ds.length = fr.ar
      · rw [← rs.length, hl, har fr q]
      · rw [if_neg hl] at p
        exact p.elim
theorem rep_at {α : Type} {x y : α} {n i : Nat} (h : (List.replicate n x)[i]? = some y) : y = x := by
  have := List.mem_of_getElem? h
  exact (List.mem_replicate.mp this).2
theorem ER.start {g : G} {fr : FR} {ds : List D} {vs : List V} {N : List Str} (rs : RDs K g.r g.F ds vs) (hz : fr.sz = N.length) : ER K (startE fr ds) g (start N vs) := by
  have hl := rs.length
  have hno : ∀ (i : Nat) (xs : List D), (startE fr ds)[i]? ≠ some (.own xs) := fun i xs q => by
    unfold startE at q
    rcases List.mem_append.mp (List.mem_of_getElem? q) with z | z
    · obtain ⟨d, _, e⟩ := List.mem_map.mp z
      cases e
    · have := (List.mem_replicate.mp z).2
      cases this
  refine ⟨?_, fun i d q => ?_, fun i xs q => absurd q (hno i xs), fun i j xs ys p q1 _ _ _ => absurd q1 (hno i xs)⟩
  · unfold startE L2.start
    rw [List.length_append, List.length_append, List.length_map, List.length_map, List.length_replicate, List.length_replicate, hl, hz]
  · unfold startE at q
    unfold L2.start
    by_cases hi : i < ds.length
    · rw [List.getElem?_append_left (by rw [List.length_map]; exact hi), List.getElem?_map] at q
      obtain ⟨d', hd, e⟩ := Option.map_eq_some_iff.mp q
      cases e
      obtain ⟨v, hv, r⟩ := rs.get hd
      refine ⟨v, ?_, r⟩
      rw [List.getElem?_append_left (by rw [List.length_map, ← hl]; exact hi), List.getElem?_map, hv]
      rfl
    · rw [List.getElem?_append_right (by rw [List.length_map]; omega)] at q
      have := rep_at q
      cases this
theorem fo_all (fac : Fa D0 K mg fa fd) (tx : Nat → Tx) (hF : ∀ (f : Nat) (ps : List Str), D0.ps[f]? = some ps → ∃ qual, Fun K (tx f).nm qual (tx f).st (fa f) (fd f)) (hc : ∀ (f : Nat) (fr : FR), D0.fs[f]? = some fr → ckD D0 f (tx f) = true) :
    ∀ (n f : Nat) (ps : List Str), D0.ps[f]? = some ps → FO P w K mg base n (fa f) (fd f) ps (spI K D0 n f) := by
  intro n
  induction n with
  | zero =>
    intro f ps hps
    exact ⟨fun vs H Q E ⟨ds, m, g, e, hr, rs, p⟩ => p.elim, fun A outer s H args us vs Q E _ _ _ _ _ ⟨ds, m, g, e, hr, rs, p⟩ => p.elim⟩
  | succ n ih =>
    intro f ps hps
    cases hfs : D0.fs[f]? with
    | none =>
      have no : ∀ vs H Q E, spI K D0 (n + 1) f vs H Q E → False := fun vs H Q E ⟨ds, m, g, e, hr, rs, p⟩ => by
        rw [callF] at p
        simp only [hfs] at p
        exact p.elim
      exact ⟨fun vs H Q E z => (no vs H Q E z).elim, fun A outer s H args us vs Q E _ _ _ _ _ z => (no vs H Q E z).elim⟩
    | some fr =>
      obtain ⟨qual, F⟩ := hF f ps hps
      have ck := hc f fr hfs
      unfold ckD at ck
      simp only [hps, hfs, Bool.and_eq_true, decide_eq_true_eq] at ck
      obtain ⟨⟨⟨c1, c2⟩, c3⟩, c4⟩ := ck
      have S := ckFn_ok c1
      refine fo_of F S (spI_len hps fun fr' q => ?_) fun cdv A outer s H vs Q E hr hg hsp => ?_
      · rw [hfs] at q
        cases q
        exact c2
      · obtain ⟨ds, m, g, e, hh, rs, p⟩ := hsp
        subst e
        have G : Gd D0 fa fd n (tx f).gam (Wd E) (cxOf (L2.CX P w) P w K mg base (tx f).N qual (defScope (tx f).st) (fa f) cdv A outer s g.H E) := by
          refine ⟨fun f' ps' h' => ih f' ps' h', fac, hr, hg, rfl, rfl, S.nd, rfl, fun x hx => ?_, takes_of rfl rfl rfl rfl⟩
          have hx : stoOf (defScope (tx f).st) x = true := hx
          unfold stoOf at hx
          rw [Bool.or_eq_true, decide_eq_true_eq, decide_eq_true_eq] at hx
          exact ⟨hx, .inl rfl⟩
        refine ⟨_, sndSs D0 fa fd n fr.body (tx f).gam E _ _ G (passes_of rfl) c4, ?_⟩
        rw [callF] at p
        simp only [hfs] at p
        by_cases hl : ds.length = fr.ar
        · rw [if_pos hl] at p
          refine ⟨g, startE fr ds, m, g, rfl, ⟨Ex.refl g, hh, ER.start rs c3, fun i xs p' q => ?_⟩, ?_⟩
          · exfalso
            unfold startE at q
            rcases List.mem_append.mp (List.mem_of_getElem? q) with z | z
            · obtain ⟨d, _, e⟩ := List.mem_map.mp z
              cases e
            · have := (List.mem_replicate.mp z).2
              cases this
          · cases q : evSs (callF D0.fs n) fr.body (startE fr ds) m with
            | nxt env1 m1 =>
              rw [q] at p
              exact fun σ g1 _ si => Post.at (Rel := RDg K) p si.ex si.hr .non
            | ret d m1 =>
              rw [q] at p
              exact fun v g1 e1 h1 r1 => Post.at (Rel := RDg K) p e1 h1 r1
            | brk env1 m1 =>
              rw [q] at p
              exact p.elim
            | cnt env1 m1 =>
              rw [q] at p
              exact p.elim
            | exc x env1 m1 =>
              rw [q] at p
              exact fun c dx g1 e1 h1 r1 => p c dx g1 e1 h1 r1
            | stk =>
              rw [q] at p
              exact p.elim
        · rw [if_neg hl] at p
          exact p.elim
end
end PF

set_option Elab.async false
set_option linter.all false
set_option maxRecDepth 100000
set_option maxHeartbeats 8000000
/-! PFu: from the law's def to the statement. -/
namespace PF
open PySem PySem.Spec PyProof.Rows L2

section
variable {P : Program} {w : World} {K : PySem.W.Frag} {mg : Str → Option Value} {D0 : TD} {fl : Nat}
/-- the law's def at a heap where the script alone is told of -/
theorem law_sp {n : Nat} {Hq : Hp} {pa : Addr} {ks : List Int} {m' : Mem} (hs : SqL K Hq pa (ks.map V.int)) (hlaw : callF D0.fs n fl [.scr ks] [] = .ok (.bl true) m') : spI K D0 n fl [.ref pa] Hq (fun v _ => v = .bl true) fun _ _ _ => False := by
  refine ⟨[.scr ks], [], ⟨[], Hq, Hq⟩, rfl, ⟨fun _ _ q => q, rfl, .nil, fun _ z => (nomatch z), fun n a o q _ => ?_⟩, .one (.scr hs), ?_⟩
  · have q : ([] : List Addr)[n]? = some a := q
    simp at q
  · rw [hlaw]
    intro v g' _ _ r
    have r : RD K g'.r g'.F (.bl true) v := r
    cases r
    rfl
/-- nothing told of, or the script alone -/
def shown (pa : Addr) (u : Option HO) : Hp := fun b => if b = pa then u else none
theorem shown_at {pa b : Addr} {u : Option HO} {o : HO} (q : shown pa u b = some o) : b = pa ∧ u = some o := by
  unfold shown at q
  by_cases e : b = pa
  · rw [if_pos e] at q
    exact ⟨e, q⟩
  · rw [if_neg e] at q
    cases q
theorem law_callF {mb : Str → Option Value} {n : Nat} {f0 pa : Addr} {fd : FuncData} {x : Str} {s1 : Shared} {us : List Value} {ks : List Int} (kin : K.In s1.heap) (hN : s1.heap.Ns mainGlobals mg) (hB : s1.heap.Ns builtinsNs mb) (hbt : ∀ y : Str, y ≠ "__name__" → mb y = bootBuiltins y) (noL : s1.heap.NoLimit) (hgen : s1.gens = #[])
    (hp : s1.heap.get? pa = some { cls := .type "list", data := .seq us.toArray }) (hks : IntsAre us ks) (hlen : ks.length ≤ sizeLine) (room : Room n callerA) (F : ∀ base : Heap, K.In base → base.Ns mainGlobals mg → FO P w K mg base n f0 fd [x] (spI K D0 n fl)) (bnd : ∀ (s : Shared) (u : Value), BindsTo s fd ⟨[u], []⟩ [(x, u)])
    (hlaw : ∃ m', callF D0.fs n fl [.scr ks] [] = .ok (.bl true) m') :
    codeAny (model P w) callerA (.call (.ref f0) ⟨[.ref pa], []⟩) (fun r s' => r = .ok (.ret (.bool true)) ∧ OldK s1.heap s'.heap ∧ s'.os = s1.os ∧ AllBare s'.gens) s1 := by
  obtain ⟨m', hlaw⟩ := hlaw
  have vi := vals_ints hks
  have vl := hks.length
  -- the script: an object of the module, or the one thing told of
  have two : ∃ u : Option HO, SqL K (shown pa u) pa (ks.map V.int) ∧ (∀ o, u = some o → K.lookup pa = none ∧ o = .frz { cls := .type "list", data := .seq us.toArray } (.lst (ks.map V.int))) := by
    cases q : K.lookup pa with
    | some o =>
      have z := kin pa o q
      rw [hp] at z
      cases z
      exact ⟨none, .inr ⟨_, us.toArray, _, q, rfl, rfl, rfl, by rw [List.size_toArray, vl]; exact hlen, by simpa using vi⟩, fun o z => nomatch z⟩
    | none => exact ⟨some (.frz { cls := .type "list", data := .seq us.toArray } (.lst (ks.map V.int))), .inl (.inr ⟨_, if_pos rfl⟩), fun o z => ⟨rfl, (Option.some.inj z).symm⟩⟩
  obtain ⟨u, hs, hu⟩ := two
  have ok0 : HOk P w (shown pa u) s1.heap := fun b o q => by
    obtain ⟨rfl, q2⟩ := shown_at q
    obtain ⟨_, rfl⟩ := hu o q2
    exact ⟨hp, by rw [List.length_map]; exact hlen, us, _, vi, hp⟩
  have free : ∀ {b : Addr} {o : Obj}, s1.heap.get? b = some o → (∀ xs k, o.data ≠ .seq xs k) → shown pa u b = none := fun {b o} e hd => by
    cases q : shown pa u b with
    | none => rfl
    | some v =>
      obtain ⟨rfl, _⟩ := shown_at q
      rw [hp] at e
      cases e
      exact absurd rfl (hd _ _)
  have space : ∀ {b : Addr} {mm : Str → Option Value}, s1.heap.Ns b mm → (hidT s1.heap (shown pa u)).Ns b mm := fun {b mm} ⟨o, es, ep, h1, h2, h3⟩ =>
    ⟨o, es, ep, hidT_get h1 (free h1 fun xs k z => by rw [h2] at z; cases z), h2, h3⟩
  have kin0 : K.In (hidT s1.heap (shown pa u)) := fun b o e => hidT_get (kin b o e) (by
    cases q : shown pa u b with
    | none => rfl
    | some v =>
      obtain ⟨rfl, q2⟩ := shown_at q
      rw [(hu v q2).1] at e
      cases e)
  have modl : Mod K mg (hidT s1.heap (shown pa u)) := ⟨kin0, space hN, ⟨mb, space hB, hbt⟩, let ⟨mc, h1, h2⟩ := noL; ⟨mc, space h1, h2⟩⟩
  have ev : Env0 P w K mg (hidT s1.heap (shown pa u)) callerA [] s1 (shown pa u) := ⟨rfl, modl, fun b o q => of_hidT q, Nat.le_of_eq (hidT_size _ _), trivial, fun b z => (by cases z), ok0, .of_eq hgen⟩
  refine codeAny_mono ((F _ kin0 (space hN)).run callerA [] s1 (shown pa u) ⟨[.ref pa], []⟩ [.ref pa] [.ref pa] _ _ room rfl ev (bnd s1 (.ref pa)) (.cons rfl .nil) (law_sp hs hlaw)) fun r s' hr => ?_
  cases r with
  | error e =>
    obtain ⟨_, _, _, _, _, _, _, _, _, _, _, _, z⟩ := hr
    exact z.elim
  | ok fin =>
    cases fin with
    | next => exact hr.elim
    | brk => exact hr.elim
    | cont => exact hr.elim
    | ret y =>
      obtain ⟨v, H', k1, k2, k3, k4, k5, k6⟩ := hr
      have k6 : v = .bl true := k6
      subst k6
      have k5 : y = Value.bool true := k5
      subst k5
      refine ⟨rfl, OldK.of_keep fun b o e => ?_, k1, k2⟩
      cases q : shown pa u b with
      | none => exact k3.keep b o e q (fun z => by cases z) (fun z => by cases z)
      | some t =>
        obtain ⟨rfl, q2⟩ := shown_at q
        obtain ⟨_, rfl⟩ := hu t q2
        have f1 := k3.frzs _ _ _ q
        obtain ⟨f2, _⟩ := k4 _ _ f1
        rw [hp] at e
        cases e
        exact f2
end
/-! ### the program's facts -/
/-- a def stands in the written part -/
def DefAt (K : PySem.W.Frag) (x : Str) (st : Stmt) : Prop := ∃ (f : Addr) (oc : Value) (od : Option Addr) (sl : Array (Option Value)) (kV dc pm : Value) (an : Option Addr) (cd ct : Value),
  PySem.W.nsIn K mainGlobals x = some (some (.ref f)) ∧ K.lookup f = some ⟨oc, od, .func (PySem.W.fnOf x x (defArgs st) (defBody st) (defScope st) .none kV dc pm an cd ct), sl⟩ ∧ PySem.W.codeIn K cd x = true ∧ PySem.W.keepIn K (.ref f) = true
/-- how arguments are bound -/
def BindOk (x : Str) (st : Stmt) (ps : List Str) : Prop := ∀ (kV dc pm : Value) (an : Option Addr) (cd ct : Value) (us : List Value), us.length = ps.length →
  bindArgs (PySem.W.fnOf x x (defArgs st) (defBody st) (defScope st) .none kV dc pm an cd ct) ⟨us, []⟩ = pure (ps.zip us)
def SigAt (x : Str) (st : Stmt) (ps ks : List Str) (n : Nat) (perm : List Nat) : Prop := ∀ (kV dc pm : Value) (an : Option Addr) (cd ct : Value), SigOk (PySem.W.fnOf x x (defArgs st) (defBody st) (defScope st) .none kV dc pm an cd ct) ps ks n perm
/-- what is looked up once, of the text alone -/
structure TxOk (D0 : TD) (tx : Nat → Tx) : Prop where
  nm : ∀ (f : Nat) (x : Str), D0.nm[f]? = some x → (tx f).nm = x
  ln : ∀ (f : Nat) (ps : List Str), D0.ps[f]? = some ps → ∃ x, D0.nm[f]? = some x
  bd : ∀ (f : Nat) (ps : List Str), D0.ps[f]? = some ps → BindOk (tx f).nm (tx f).st ps
  sg : ∀ (f n : Nat) (ks : List Str) (perm : List Nat), (f, n, ks, perm) ∈ D0.sg → ∃ ps, D0.ps[f]? = some ps ∧ SigAt (tx f).nm (tx f).st ps ks n perm
  ck : ∀ (f : Nat) (fr : FR), D0.fs[f]? = some fr → ckD D0 f (tx f) = true
/-- what is looked up in the written part -/
structure KOk (K : PySem.W.Frag) (D0 : TD) (tx : Nat → Tx) : Prop where
  df : ∀ (f : Nat) (x : Str), D0.nm[f]? = some x → DefAt K x (tx f).st
  gl : ∀ p ∈ D0.gl, ∃ t, PySem.W.nsIn K mainGlobals p.1 = some (some (.int p.2 t))
  bl : ∀ x ∈ bnames, PySem.W.nsIn K mainGlobals x = some none
section
variable {K : PySem.W.Frag} {mg : Str → Option Value} {D0 : TD} {tx : Nat → Tx} {h : Heap}
theorem fa_of (X : K.In h) (G : h.Ns mainGlobals mg) (T : TxOk D0 tx) (Y : KOk K D0 tx) : ∃ (fa : Nat → Addr) (fd : Nat → FuncData), Fa D0 K mg fa fd ∧ ∀ (f : Nat) (ps : List Str), D0.ps[f]? = some ps → ∃ qual, Fun K (tx f).nm qual (tx f).st (fa f) (fd f) := by
  have ex : ∀ f : Nat, ∃ q : Addr × FuncData, ∀ x, D0.nm[f]? = some x → mg x = some (.ref q.1) ∧ PySem.W.keepIn K (.ref q.1) = true ∧ Fun K (tx f).nm x (tx f).st q.1 q.2 ∧ (∃ (kV dc pm : Value) (an : Option Addr) (cd ct : Value), q.2 = PySem.W.fnOf x x (defArgs (tx f).st) (defBody (tx f).st) (defScope (tx f).st) .none kV dc pm an cd ct) := fun f => by
    cases q : D0.nm[f]? with
    | none => exact ⟨(0, PySem.W.fnOf "" "" (defArgs (.Pass ⟨0, 0, 0, 0⟩)) [] (defScope (.Pass ⟨0, 0, 0, 0⟩)) .none .none .none .none none .none .none), fun x z => nomatch z⟩
    | some x =>
      obtain ⟨a, oc, od, sl, kV, dc, pm, an, cd, ct, h1, h2, h3, h4⟩ := Y.df f x q
      refine ⟨(a, PySem.W.fnOf x x (defArgs (tx f).st) (defBody (tx f).st) (defScope (tx f).st) .none kV dc pm an cd ct), fun y z => ?_⟩
      cases z
      refine ⟨PySem.W.mg_of X G h1, h4, ?_, kV, dc, pm, an, cd, ct, rfl⟩
      rw [T.nm f x q]
      exact fun_mk h2 h3 h4
  obtain ⟨q, hq⟩ := Classical.axiomOfChoice ex
  refine ⟨fun f => (q f).1, fun f => (q f).2, ⟨fun f x hx => ⟨(hq f x hx).1, (hq f x hx).2.1⟩, fun f ps hps us hl => ?_, fun f n ks perm hm => ?_, fun x i hm => ?_, fun x hx => PySem.W.mg_none_of X G (Y.bl x hx)⟩, fun f ps hps => ?_⟩
  · obtain ⟨x, hx⟩ := T.ln f ps hps
    obtain ⟨_, _, _, kV, dc, pm, an, cd, ct, e⟩ := hq f x hx
    show bindArgs (q f).2 _ = _
    rw [e]
    have b := T.bd f ps hps kV dc pm an cd ct us hl
    rw [T.nm f x hx] at b
    exact b
  · obtain ⟨ps, hps, s⟩ := T.sg f n ks perm hm
    obtain ⟨x, hx⟩ := T.ln f ps hps
    obtain ⟨_, _, _, kV, dc, pm, an, cd, ct, e⟩ := hq f x hx
    refine ⟨ps, hps, ?_⟩
    show SigOk (q f).2 _ _ _ _
    rw [e]
    have b := s kV dc pm an cd ct
    rw [T.nm f x hx] at b
    exact b
  · obtain ⟨t, z⟩ := Y.gl (x, i) hm
    exact ⟨t, PySem.W.mg_of X G z⟩
  · obtain ⟨x, hx⟩ := T.ln f ps hps
    exact ⟨x, (hq f x hx).2.2.1⟩
end
/-- the goal that k_head leaves, from the law's meaning -/
theorem walkF {l : PySem.W.OpenLaw} {n fl : Nat} {q : Program} {loose : List Str} {XP : (Str → Option Value) → Heap → Prop} {YP : World → Heap → Prop} {d : DefRec} {K : Params → PySem.W.Frag} {D0 : TD} {tx : Nat → Tx}
    (hm : l.most = some 63) (hdf : d.params.defaults = []) (room : Room n callerA) (hY : ∀ (w : World) (h : Heap), YP w h → (K w.params).In h) (T : TxOk D0 tx) (hfl : D0.nm[fl]? = some d.name) (hps : D0.ps[fl]? = some [("script" : Str)])
    (F : ∀ (w : World) (h : Heap), (K w.params).In h → KOk (K w.params) D0 tx) (hlaw : ∀ ks : List Int, ks.length ≤ 63 → ∃ m', callF D0.fs n fl [.scr ks] [] = .ok (.bl true) m') :
    PySem.W.WalkO q loose XP YP l.row.toRowW d [] (fun f vs => PySem.call f vs) := by
  refine Att.attach_call hm hdf fun w s0 s1 mg mb f0 o pm cd doc pa us ks G Y ho hd hcd hmg hobj hints hlen hg => ?_
  have X := hY w _ Y
  obtain ⟨fa, fd, fac, hF⟩ := fa_of X G.T.g T (F w _ X)
  have e : fa fl = f0 := by
    have z := (fac.fn fl _ hfl).1
    rw [hmg] at z
    cases z
    rfl
  subst e
  refine law_callF X G.T.g G.T.b G.T.builtins G.T.nolimit hg hobj hints (Nat.le_trans hlen (by rw [sizeLine_eq]; decide)) room (fun base _ _ => fo_all fac tx hF T.ck n fl _ hps) (fun s u => .of_eq (fac.ps fl _ hps [u] rfl)) (hlaw ks hlen)
/-- by place -/
theorem ac0 {α : Type} {P : Nat → α → Prop} : ∀ (f : Nat) (x : α), ([] : List α)[f]? = some x → P f x := fun f x h => by simp at h
theorem ac {α : Type} {P : Nat → α → Prop} {a : α} {l : List α} (h0 : P 0 a) (h : ∀ (f : Nat) (x : α), l[f]? = some x → P (f + 1) x) : ∀ (f : Nat) (x : α), (a :: l)[f]? = some x → P f x
  | 0, x, e => by
    have e : some a = some x := e
    cases e
    exact h0
  | f + 1, x, e => h f x e
theorem mc0 {α : Type} {P : α → Prop} : ∀ x ∈ ([] : List α), P x := fun x h => nomatch h
theorem mc {α : Type} {P : α → Prop} {a : α} {l : List α} (h0 : P a) (h : ∀ x ∈ l, P x) : ∀ x ∈ a :: l, P x := fun x hx => by
  rcases List.mem_cons.mp hx with rfl | hx
  · exact h0
  · exact h x hx
theorem DefAt.of {K : PySem.W.Frag} {x : Str} {st : Stmt} {f : Addr} {oc : Value} {od : Option Addr} {sl : Array (Option Value)} {kV dc pm : Value} {an : Option Addr} {cd ct : Value} (h1 : PySem.W.nsIn K mainGlobals x = some (some (.ref f)))
    (h2 : K.lookup f = some ⟨oc, od, .func (PySem.W.fnOf x x (defArgs st) (defBody st) (defScope st) .none kV dc pm an cd ct), sl⟩) (h3 : PySem.W.codeIn K cd x = true) (h4 : PySem.W.keepIn K (.ref f) = true) : DefAt K x st :=
  ⟨f, oc, od, sl, kV, dc, pm, an, cd, ct, h1, h2, h3, h4⟩
theorem glAt_of {K : PySem.W.Frag} {x : Str} {i : Int} {t : Tok} (h : PySem.W.nsIn K mainGlobals x = some (some (.int i t))) : ∃ t, PySem.W.nsIn K mainGlobals x = some (some (.int i t)) := ⟨t, h⟩
theorem gl0 {K : PySem.W.Frag} : ∀ p ∈ ([] : List (Str × Int)), ∃ t, PySem.W.nsIn K mainGlobals p.1 = some (some (.int p.2 t)) := fun p hp => nomatch hp
theorem glc {K : PySem.W.Frag} {x : Str} {i : Int} {t : Tok} {l : List (Str × Int)} (h : PySem.W.nsIn K mainGlobals x = some (some (.int i t))) (hr : ∀ p ∈ l, ∃ t, PySem.W.nsIn K mainGlobals p.1 = some (some (.int p.2 t))) :
    ∀ p ∈ (x, i) :: l, ∃ t, PySem.W.nsIn K mainGlobals p.1 = some (some (.int p.2 t)) := fun p hp => by
  rcases List.mem_cons.mp hp with rfl | hp
  · exact ⟨t, h⟩
  · exact hr p hp
end PF

set_option Elab.async false
set_option linter.all false
set_option maxRecDepth 100000
set_option maxHeartbeats 4000000
/-! PFv: loops by invariants; the laws' own bag of numbers. -/
namespace PF
open PySem

theorem compL_map {α : Type} {f : D → Mem → R (Option D)} {m : Mem} (enc : α → D) (g : α → Option D) : ∀ l : List α, (∀ x ∈ l, f (enc x) m = .ok (g x) m) → compL f (l.map enc) m = .ok (l.filterMap g) m
  | [], _ => rfl
  | x :: l, h => by
    rw [List.map_cons, compL, h x (List.mem_cons_self ..), R.bind_ok, compL_map enc g l fun y hy => h y (List.mem_cons_of_mem _ hy), R.bind_ok, List.filterMap_cons]
    cases g x <;> rfl
theorem compL_inv {f : D → Mem → R (Option D)} {I : Mem → Prop} {P : D → Prop} : ∀ l : List D, (∀ x ∈ l, ∀ m, I m → ∃ y m', f x m = .ok (some y) m' ∧ P y ∧ I m') → ∀ m, I m → ∃ ys m', compL f l m = .ok ys m' ∧ ys.length = l.length ∧ (∀ y ∈ ys, P y) ∧ I m'
  | [], _, m, i => ⟨[], m, rfl, rfl, fun y hy => (nomatch hy), i⟩
  | x :: l, h, m, i => by
    obtain ⟨y, m1, h1, h2, h3⟩ := h x (List.mem_cons_self ..) m i
    obtain ⟨ys, m2, h4, h5, h6, h7⟩ := compL_inv l (fun z hz => h z (List.mem_cons_of_mem _ hz)) m1 h3
    refine ⟨y :: ys, m2, ?_, by rw [List.length_cons, List.length_cons, h5], fun z hz => ?_, h7⟩
    · rw [compL, h1, R.bind_ok, h4, R.bind_ok]
    · rcases List.mem_cons.mp hz with rfl | hz
      · exact h2
      · exact h6 z hz
theorem forL_inv {α : Type} {f : D → List Sl → Mem → SR} {enc : α → D} {P : List α → List Sl → Mem → Prop} : ∀ (l pre : List α) (env : List Sl) (m : Mem), (∀ pr x po env m, pre ++ l = pr ++ x :: po → P pr env m → ∃ env' m', f (enc x) env m = .nxt env' m' ∧ P (pr ++ [x]) env' m') → P pre env m →
    ∃ env' m', forL f (l.map enc) env m = .nxt env' m' ∧ P (pre ++ l) env' m'
  | [], pre, env, m, _, p => ⟨env, m, rfl, by rw [List.append_nil]; exact p⟩
  | x :: l, pre, env, m, h, p => by
    obtain ⟨env1, m1, h1, p1⟩ := h pre x l env m rfl p
    obtain ⟨env2, m2, h2, p2⟩ := forL_inv l (pre ++ [x]) env1 m1 (fun pr y po e m q => h pr y po e m (by rw [← q, List.append_assoc]; rfl)) p1
    refine ⟨env2, m2, ?_, by rw [List.append_assoc] at p2; exact p2⟩
    rw [List.map_cons, forL, h1]
    exact h2
theorem forL_brk {f : D → List Sl → Mem → SR} {P : List Sl → Mem → Prop} (h : ∀ x env m, P env m → ∃ env' m', (f x env m = .nxt env' m' ∨ f x env m = .brk env' m') ∧ P env' m') : ∀ (l : List D) (env : List Sl) (m : Mem), P env m → ∃ env' m', forL f l env m = .nxt env' m' ∧ P env' m'
  | [], env, m, p => ⟨env, m, rfl, p⟩
  | x :: l, env, m, p => by
    obtain ⟨env1, m1, h1 | h1, p1⟩ := h x env m p
    · obtain ⟨env2, m2, h2, p2⟩ := forL_brk h l env1 m1 p1
      refine ⟨env2, m2, ?_, p2⟩
      rw [forL, h1]
      exact h2
    · refine ⟨env1, m1, ?_, p1⟩
      rw [forL, h1]

/-! ### the bag -/
structure BagOk (m : Mem) : Prop where
  ex : ∃ (cs : List Int) (c x : Int), m = [.lst (cs.map .int), .lst [.obj 0, .int c, .int x]] ∧ (∀ k ∈ cs, 0 ≤ k) ∧ 0 ≤ c ∧ 0 ≤ x ∧ x < 2147483647
def drawB : Ss := (.cons (.fors (.nm 2) (.rng1 (.cn (.int 64))) (.cons (.ifs (.tor (.cmp (.cmp .gt (.oidx (.var 0) (.cn (.int 1))) (.cn (.int 0)))) (.t1 (.cmp (.oeqn (.oidx (.var 0) (.cn (.int 0))))))) (.cons .brk
  .nil) .nil)
  (.cons (.asg (.nm 3) (.opop (.oidx (.var 0) (.cn (.int 0)))))
  (.cons (.oset (.var 0) (.cn (.int 1)) (.ife (.cmp (.cmp .gt (.var 3) (.bin .pow (.cn (.int 10)) (.cn (.int 9))))) (.var 3) (.cn (.int 0))))
  .nil))))
  (.cons (.ifs (.cmp (.cmp .gt (.oidx (.var 0) (.cn (.int 1))) (.cn (.int 0)))) (.cons (.asg (.nm 4) (.bin .mod (.bi .int (.cons (.oidx (.var 0) (.cn (.int 1))) .nil)) (.var 1)))
  (.cons (.oset (.var 0) (.cn (.int 1)) (.ife (.cmp (.cmp .gt (.var 1) (.cn (.int 1)))) (.bin .fdiv (.oidx (.var 0) (.cn (.int 1))) (.var 1)) (.bin .fdiv (.oidx (.var 0) (.cn (.int 1))) (.cn (.int 2)))))
  (.cons (.ret (.var 4))
  .nil))) .nil)
  (.cons (.oset (.var 0) (.cn (.int 2)) (.bin .mod (.bin .add (.bin .mul (.bi .int (.cons (.oidx (.var 0) (.cn (.int 2))) .nil)) (.cn (.int 48271))) (.cn (.int 11))) (.cn (.int 2147483647))))
  (.cons (.ret (.bin .mod (.bin .fdiv (.bin .mod (.bi .int (.cons (.bin .mul (.oidx (.var 0) (.cn (.int 2))) (.oidx (.var 0) (.cn (.int 2)))) .nil)) (.cn (.int 2147483629))) (.cn (.int 7))) (.var 1)))
  .nil))))
@[simp] theorem objL_0 (xs : List D) (r : Mem) : objL (.lst xs :: r) (.obj 0) = some (0, xs) := rfl
@[simp] theorem objL_1 (o : O) (xs : List D) (r : Mem) : objL (o :: .lst xs :: r) (.obj 1) = some (1, xs) := rfl
theorem callF_at {Tb : List FR} {k : Nat} {fr : FR} (hk : Tb[k]? = some fr) (n : Nat) (ds : List D) (m : Mem) (hl : ds.length = fr.ar) : callF Tb (n + 1) k ds m = (evSs (callF Tb n) fr.body (startE fr ds) m).fin := by
  rw [callF]
  simp only [hk, hl, if_true]
@[simp] theorem atI3_0 (a b c : D) : L2.atI [a, b, c] 0 = some a := rfl
@[simp] theorem atI3_1 (a b c : D) : L2.atI [a, b, c] 1 = some b := rfl
@[simp] theorem atI3_2 (a b c : D) : L2.atI [a, b, c] 2 = some c := rfl
@[simp] theorem ixN3_1 : L2.ixN 3 1 = some 1 := rfl
@[simp] theorem ixN3_2 : L2.ixN 3 2 = some 2 := rfl
theorem ints_flat (cs : List Int) : (cs.map D.int).all D.flat = true := by
  rw [List.all_eq_true]
  intro d hd
  obtain ⟨i, _, rfl⟩ := List.mem_map.mp hd
  rfl
theorem last_int {cs : List Int} (h : cs ≠ []) : ∃ c, c ∈ cs ∧ (cs.map D.int)[cs.length - 1]? = some (.int c) := by
  have hl : cs.length - 1 < cs.length := by
    have := List.length_pos_iff.mpr h
    omega
  refine ⟨cs[cs.length - 1], List.getElem_mem _, ?_⟩
  rw [List.getElem?_map, List.getElem?_eq_getElem hl]
  rfl
theorem map_dropLast' (cs : List Int) : (cs.map D.int).dropLast = cs.dropLast.map D.int := by
  rw [List.map_dropLast]
theorem draw_ok {Tb : List FR} {k : Nat} (hk : Tb[k]? = some ⟨2, 5, drawB⟩) (n : Nat) {b : Int} (hb : 1 ≤ b) (hb2 : b ≤ 10 ^ 70) {m : Mem} (h : BagOk m) :
    ∃ v m', callF Tb (n + 1) k [.obj 1, .int b] m = .ok (.int v) m' ∧ 0 ≤ v ∧ v < b ∧ BagOk m' := by
  rw [callF_at hk _ _ _ rfl]
  have loop := forL_brk (f := forW (evSs (callF Tb n) (.cons (.ifs (.tor (.cmp (.cmp .gt (.oidx (.var 0) (.cn (.int 1))) (.cn (.int 0)))) (.t1 (.cmp (.oeqn (.oidx (.var 0) (.cn (.int 0))))))) (.cons .brk
  .nil) .nil)
  (.cons (.asg (.nm 3) (.opop (.oidx (.var 0) (.cn (.int 0)))))
  (.cons (.oset (.var 0) (.cn (.int 1)) (.ife (.cmp (.cmp .gt (.var 3) (.bin .pow (.cn (.int 10)) (.cn (.int 9))))) (.var 3) (.cn (.int 0))))
  .nil)))) (.nm 2)) (P := fun env m => (∃ t1 t2, env = [.val (.obj 1), .val (.int b), t1, t2, .no]) ∧ BagOk m) (fun x env m ⟨⟨t1, t2, e⟩, hm⟩ => by
    subst e
    obtain ⟨cs, c, x0, rfl, h1, h2, h3, h4⟩ := hm.ex
    by_cases hc : 0 < c
    · refine ⟨_, _, .inr ?_, ⟨.val x, t2, rfl⟩, hm⟩
      simp [forW, hc]
    · by_cases hn : cs = []
      · subst hn
        refine ⟨_, _, .inr ?_, ⟨.val x, t2, rfl⟩, hm⟩
        simp [forW, hc]
      · obtain ⟨z, hz, hl⟩ := last_int hn
        have z0 := h1 z hz
        have hie : cs.isEmpty = false := by
          cases cs with
          | nil => exact absurd rfl hn
          | cons _ _ => rfl
        refine ⟨[.val (.obj 1), .val (.int b), .val x, .val (.int z), .no], [.lst ((cs.dropLast).map .int), .lst [.obj 0, .int (if 10 ^ 9 < z then z else 0), .int x0]], .inl ?_, ⟨.val x, .val (.int z), rfl⟩, ⟨cs.dropLast, _, x0, rfl, fun k hk => h1 k (List.dropLast_subset _ hk), by split <;> omega, h3, h4⟩⟩
        have hf := ints_flat cs
        have hme : (cs.map D.int).isEmpty = false := by
          cases cs with
          | nil => exact absurd rfl hn
          | cons _ _ => rfl
        have hll : (cs.map D.int)[(cs.map D.int).length - 1]? = some (.int z) := by
          rw [List.length_map]
          exact hl
        have hp : binF .pow (.int 10) (.int 9) = some (.int (10 ^ 9)) := by
          rw [bin_pow, if_pos (by decide)]
          rfl
        have hdl := map_dropLast' cs
        generalize hL : cs.map D.int = L at *
        by_cases hz9 : 10 ^ 9 < z
        · simp [forW, hc, hf, hme, hll, hdl, hp, hz9, -bin_pow, -Int.reducePow, -List.all_eq_true]
        · simp [forW, hc, hf, hme, hll, hdl, hp, hz9, -bin_pow, -Int.reducePow, -List.all_eq_true]) (intsR 0 64) [.val (.obj 1), .val (.int b), .no, .no, .no] m ⟨⟨.no, .no, rfl⟩, h⟩
  obtain ⟨env1, m1, l1, ⟨t1, t2, rfl⟩, hm⟩ := loop
  obtain ⟨cs, c, x0, rfl, h1, h2, h3, h4⟩ := hm.ex
  have b0 : 0 < b := by omega
  have hr : rngOk 0 64 = true := rfl
  have e2 : (2 : Int) ≤ 10 ^ 70 := by decide
  have e7 : (7 : Int) ≤ 10 ^ 70 := by decide
  by_cases hc : 0 < c
  · have q1 : 0 ≤ c % b := Int.emod_nonneg _ (by omega)
    have q2 : c % b < b := Int.emod_lt_of_pos _ b0
    by_cases hb1 : 1 < b
    · refine ⟨c % b, [.lst (cs.map .int), .lst [.obj 0, .int (c / b), .int x0]], ?_, q1, q2, ⟨cs, _, x0, rfl, h1, Int.ediv_nonneg h2 (by omega), h3, h4⟩⟩
      simp [drawB, l1, hc, b0, hb1, hb2, -Int.reducePow, -List.all_eq_true, hr, e2, e7, List.replicate]
    · refine ⟨c % b, [.lst (cs.map .int), .lst [.obj 0, .int (c / 2), .int x0]], ?_, q1, q2, ⟨cs, _, x0, rfl, h1, Int.ediv_nonneg h2 (by omega), h3, h4⟩⟩
      simp [drawB, l1, hc, b0, hb1, hb2, -Int.reducePow, -List.all_eq_true, hr, e2, e7, List.replicate]
  · generalize hx1 : (x0 * 48271 + 11) % 2147483647 = x1
    have y0 : 0 ≤ x1 := by omega
    have y1 : x1 < 2147483647 := by omega
    refine ⟨x1 * x1 % 2147483629 / 7 % b, [.lst (cs.map .int), .lst [.obj 0, .int c, .int x1]], ?_, Int.emod_nonneg _ (by omega), Int.emod_lt_of_pos _ b0, ⟨cs, c, x1, rfl, h1, h2, y0, y1⟩⟩
    have m1 : mulOk x0 48271 = true := by
      unfold mulOk
      simp
    have m2 : mulOk x1 x1 = true := by
      unfold mulOk
      simp
      omega
    simp [drawB, l1, hc, b0, hb2, m1, m2, hx1, -Int.reducePow, -List.all_eq_true, hr, e2, e7, List.replicate]
def ownB (c : Int) : Ss := (.cons (.seto 1 (.comp [3] (.nm 3) (.ex (.fr (.slc (.var 0) .no (.so (.cn (.int 63)))))) .tru (.bin .mod (.bi .abs (.cons (.var 3) .nil)) (.bin .shl (.cn (.int 1)) (.cn (.int 2000))))))
  (.frz 1 (.cons (.asg (.nm 2) (.bin .add (.cn (.int c)) (.bi .len (.cons (.var 1) .nil))))
  (.cons (.fors (.nm 3) (.ex (.var 1)) (.cons (.asg (.nm 2) (.bin .mod (.bin .add (.bin .add (.bin .mul (.var 2) (.cn (.int 48271))) (.bin .mod (.var 3) (.cn (.int 2147483629)))) (.cn (.int 7))) (.cn (.int 2147483647))))
  .nil))
  (.cons (.ret (.newo (.lst (.cons (.newo (.lrev (.fr (.listof (.var 1))))) (.cons (.cn (.int 0)) (.cons (.var 2) .nil))))))
  .nil)))))
theorem cut_map (ks : List Int) (lo hi : Option Int) : ∃ js : List Int, cutD (ks.map D.int) lo hi = js.map D.int ∧ js.length ≤ ks.length := by
  unfold cutD
  refine ⟨((ks.drop (HT.sIx ks.length 0 lo)).take (HT.sIx ks.length ks.length hi - HT.sIx ks.length 0 lo)), ?_, ?_⟩
  · rw [List.length_map, ← List.map_drop, ← List.map_take]
  · rw [List.length_take, List.length_drop]
    omega
theorem own_ok {Tb : List FR} {k : Nat} {c : Int} (hc : 0 ≤ c) (hc2 : c ≤ 1000) (hk : Tb[k]? = some ⟨1, 4, ownB c⟩) (n : Nat) {ks : List Int} (hl : ks.length ≤ 63) :
    ∃ m', callF Tb (n + 1) k [.scr ks] [] = .ok (.obj 1) m' ∧ BagOk m' := by
  rw [callF_at hk _ _ _ rfl]
  obtain ⟨js, hj, hjl⟩ := cut_map ks none (some 63)
  generalize hP : (1 : Int) * 2 ^ (2000 : Int).toNat = P
  have P0 : 0 < P := by
    rw [← hP, Int.one_mul]
    exact Int.pow_pos (by decide)
  have hsh : binF .shl (.int 1) (.int 2000) = some (.int P) := by
    rw [bin_shl, if_pos (by decide), hP]
  have hcomp : compL (compW (evT (callF Tb n) .tru) (evE (callF Tb n) (.bin .mod (.bi .abs (.cons (.var 3) .nil)) (.bin .shl (.cn (.int 1)) (.cn (.int 2000))))) (.nm 3) [.val (.scr ks), .no, .no, .no]) (js.map D.int) [] = .ok ((js.map fun k => (if k < 0 then -k else k) % P).map D.int) [] := by
    rw [compL_map (enc := D.int) (g := fun k => some (.int ((if k < 0 then -k else k) % P))) js fun k _ => by simp [compW, hsh, P0, -bin_shl]]
    simp
  generalize hcs : (js.map fun k => (if k < 0 then -k else k) % P) = cs at hcomp
  have h0 : ∀ k ∈ cs, 0 ≤ k := by
    rw [← hcs]
    intro k hk
    obtain ⟨j, _, rfl⟩ := List.mem_map.mp hk
    exact Int.emod_nonneg _ (by omega)
  have hcl : cs.length ≤ 63 := by
    rw [← hcs, List.length_map]
    omega
  obtain ⟨env1, m1, l1, ⟨t1, x0, rfl, y0, y1⟩, rfl⟩ := forL_inv (f := forW (evSs (callF Tb n) (.cons (.asg (.nm 2) (.bin .mod (.bin .add (.bin .add (.bin .mul (.var 2) (.cn (.int 48271))) (.bin .mod (.var 3) (.cn (.int 2147483629)))) (.cn (.int 7))) (.cn (.int 2147483647))))
  .nil)) (.nm 3)) (enc := D.int) (P := fun _ env m => (∃ t x, env = [.val (.scr ks), .val (.lst (cs.map D.int)), .val (.int x), t] ∧ 0 ≤ x ∧ x < 2147483647) ∧ m = []) cs [] [.val (.scr ks), .val (.lst (cs.map D.int)), .val (.int (c + (cs.length : Nat))), .no] []
    (fun pr x po env m _ ⟨⟨t, x0, e, y0, y1⟩, em⟩ => by
      subst e em
      have m1 : mulOk x0 48271 = true := by
        unfold mulOk
        simp
      refine ⟨[.val (.scr ks), .val (.lst (cs.map D.int)), .val (.int ((x0 * 48271 + x % 2147483629 + 7) % 2147483647)), .val (.int x)], [], ?_, ⟨_, _, rfl, Int.emod_nonneg _ (by omega), Int.emod_lt_of_pos _ (by omega)⟩, rfl⟩
      simp [forW, m1]) ⟨⟨_, _, rfl, by omega, by omega⟩, rfl⟩
  refine ⟨[.lst ((cs.reverse).map .int), .lst [.obj 0, .int 0, .int x0]], ?_, ⟨cs.reverse, 0, x0, rfl, fun k hk => h0 k (List.mem_reverse.mp hk), Int.le_refl _, y0, y1⟩⟩
  simp [ownB, hj, hcomp, l1, List.replicate, List.map_reverse]
def pickB (k : Nat) : Ss := (.cons (.ret (.idx (.var 1) (.call k (.cons (.var 0) (.cons (.bi .len (.cons (.var 1) .nil)) .nil)))))
  .nil)
theorem atI_nat {α : Type} {xs : List α} {i : Int} (h0 : 0 ≤ i) (h1 : i < xs.length) : ∃ x, L2.atI xs i = some x ∧ x ∈ xs := by
  have h2 : i.toNat < xs.length := by omega
  refine ⟨xs[i.toNat], ?_, List.getElem_mem _⟩
  unfold L2.atI L2.ixN
  rw [if_pos h0, if_pos h1]
  exact List.getElem?_eq_getElem h2
theorem pick_ok {Tb : List FR} {k kd : Nat} (hk : Tb[k]? = some ⟨2, 2, pickB kd⟩) (hd : Tb[kd]? = some ⟨2, 5, drawB⟩) (n : Nat) {xs : List D} (hl : 1 ≤ xs.length) (hl2 : xs.length ≤ 1000) {m : Mem} (h : BagOk m) :
    ∃ x m', callF Tb (n + 2) k [.obj 1, .lst xs] m = .ok x m' ∧ x ∈ xs ∧ BagOk m' := by
  rw [callF_at hk _ _ _ rfl]
  obtain ⟨v, m1, q, v0, v1, h1⟩ := draw_ok hd n (b := (xs.length : Int)) (by omega) (by
    have : (1000 : Int) ≤ 10 ^ 70 := by decide
    omega) h
  obtain ⟨x, hx, hm⟩ := atI_nat v0 v1
  refine ⟨x, m1, ?_, hm, h1⟩
  simp [pickB, q, hx]
/-! ### the laws' own sameness -/
def sameB (k : Nat) : Ss := (.cons (.ifs (.ex (.bi .isTup (.cons (.var 1) .nil))) (.cons (.ifs (.tor (.nt (.ex (.bi .isTup (.cons (.var 0) .nil)))) (.t1 (.cmp (.cmp .ne (.bi .len (.cons (.var 0) .nil)) (.bi .len (.cons (.var 1) .nil)))))) (.cons (.ret (.cn (.bl false)))
  .nil) .nil)
  (.cons (.ret (.bi .all (.cons (.fr (.comp [2, 3] (.tup (.cons (.nm 2) (.cons (.nm 3) .nil))) (.zip (.var 0) (.var 1)) .tru (.call k (.cons (.var 2) (.cons (.var 3) .nil))))) .nil)))
  .nil)) .nil)
  (.cons (.ifs (.cmp (.isN (.var 1))) (.cons (.ret (.isN (.var 0)))
  .nil) .nil)
  (.cons (.ifs (.ex (.bi .isBool (.cons (.var 1) .nil))) (.cons (.ret (.andv (.bi .isBool (.cons (.var 0) .nil)) (.one (.cmp .eq (.var 0) (.var 1)))))
  .nil) .nil)
  (.cons (.ifs (.ex (.bi .isStr (.cons (.var 1) .nil))) (.cons (.ret (.andv (.bi .isStr (.cons (.var 0) .nil)) (.one (.cmp .eq (.var 0) (.var 1)))))
  .nil) .nil)
  (.cons (.ret (.andv (.bi .isInt (.cons (.var 0) .nil)) (.andv (.notv (.bi .isBool (.cons (.var 0) .nil))) (.one (.cmp .eq (.var 0) (.var 1))))))
  .nil)))))
mutual
/-- tuples of flat things, d deep at most -/
def D.tu : D → Bool
  | .non | .bl _ | .int _ | .str _ => true
  | .tup xs => D.tus xs
  | .lst _ | .obj _ | .scr _ => false
def D.tus : List D → Bool
  | [] => true
  | x :: xs => D.tu x && D.tus xs
end
theorem pairs_self : ∀ xs : List D, pairsR xs xs = xs.map fun x => D.tup [x, x]
  | [] => rfl
  | x :: r => by
    have h := pairs_self r
    unfold pairsR at h ⊢
    rw [List.zip_cons_cons, List.map_cons, List.map_cons, h]
theorem tus_mem : ∀ {xs : List D}, D.tus xs = true → ∀ x ∈ xs, x.tu = true
  | [], _, x, h => nomatch h
  | y :: r, h, x, hx => by
    rw [D.tus, Bool.and_eq_true] at h
    rcases List.mem_cons.mp hx with rfl | hx
    · exact h.1
    · exact tus_mem h.2 x hx
theorem deps_mem : ∀ {xs : List D}, ∀ x ∈ xs, x.dep ≤ D.deps xs
  | [], x, h => nomatch h
  | y :: r, x, hx => by
    rw [D.deps]
    rcases List.mem_cons.mp hx with rfl | hx
    · omega
    · have := deps_mem x hx
      omega
mutual
theorem beq_refl : ∀ d : D, d.tu = true → d.beq d = true
  | .non, _ => rfl
  | .bl b, _ => by simp [D.beq]
  | .int i, _ => by simp [D.beq]
  | .str x, _ => by simp [D.beq]
  | .tup xs, h => by
    rw [D.beq]
    exact beqs_refl xs (by rw [D.tu] at h; exact h)
theorem beqs_refl : ∀ d : List D, D.tus d = true → D.beqs d d = true
  | [], _ => rfl
  | x :: xs, h => by
    rw [D.tus, Bool.and_eq_true] at h
    rw [D.beqs, beq_refl x h.1, beqs_refl xs h.2]
    rfl
end
theorem same_ok {Tb : List FR} {k : Nat} (hk : Tb[k]? = some ⟨2, 4, sameB k⟩) (m : Mem) : ∀ (n : Nat) (d : D), d.tu = true → d.dep ≤ n → callF Tb (n + 1) k [d, d] m = .ok (.bl true) m := by
  intro n
  induction n with
  | zero =>
    intro d hd hn
    rw [callF_at hk _ _ _ rfl]
    cases d with
    | tup xs => rw [D.dep] at hn; omega
    | lst _ => cases hd
    | obj _ => cases hd
    | scr _ => cases hd
    | non => simp [sameB, List.replicate]
    | bl b => simp [sameB, List.replicate, cmp_eq, eqOk, D.pure, D.dep, D.beq]
    | int i => simp [sameB, List.replicate]
    | str x => simp [sameB, List.replicate, cmp_eq, eqOk, D.pure, D.dep, D.beq]
  | succ n ih =>
    intro d hd hn
    rw [callF_at hk _ _ _ rfl]
    cases d with
    | lst _ => cases hd
    | obj _ => cases hd
    | scr _ => cases hd
    | non => simp [sameB, List.replicate]
    | bl b => simp [sameB, List.replicate, cmp_eq, eqOk, D.pure, D.dep, D.beq]
    | int i => simp [sameB, List.replicate]
    | str x => simp [sameB, List.replicate, cmp_eq, eqOk, D.pure, D.dep, D.beq]
    | tup xs =>
      have each : ∀ x ∈ xs, callF Tb (n + 1) k [x, x] m = .ok (.bl true) m := by
        rw [D.tu] at hd
        rw [D.dep] at hn
        intro x hx
        have := deps_mem x hx
        exact ih x (tus_mem hd x hx) (by omega)
      have hcomp : compL (compW (evT (callF Tb (n + 1)) .tru) (evE (callF Tb (n + 1)) (.call k (.cons (.var 2) (.cons (.var 3) .nil)))) (.tup (.cons (.nm 2) (.cons (.nm 3) .nil))) [.val (.tup xs), .val (.tup xs), .no, .no]) (xs.map fun x => D.tup [x, x]) m = .ok (xs.map fun _ => D.bl true) m := by
        rw [compL_map (enc := fun x => D.tup [x, x]) (g := fun _ => some (.bl true)) xs fun x hx => by simp [compW, each x hx]]
        simp
      have hall : biF .all [.lst (xs.map fun _ => D.bl true)] = some (.bl true) := by
        have := bi_all (xs.map fun _ => true)
        rw [List.map_map] at this
        have e : (xs.map (D.bl ∘ fun _ => true)) = xs.map fun _ => D.bl true := rfl
        rw [e] at this
        rw [this]
        congr 2
        rw [List.all_map]
        simp
      simp [sameB, List.replicate, pairs_self, hcomp, hall]
end PF

set_option Elab.async false
set_option linter.all false
set_option maxRecDepth 100000
set_option maxHeartbeats 8000000
/-! K76: the program in the language, and the looks at its text. Printed by gen.py. -/
namespace K76
open PySem PySem.Spec PyProof.Rows L2 PF
/-- is_integer -/
def b_is_integer : Ss := (.cons (.ret (.andv (.bi .isInt (.cons (.var 0) .nil)) (.one (.notv (.bi .isBool (.cons (.var 0) .nil))))))
  .nil)
/-- is_whole -/
def b_is_whole : Ss := (.cons (.ret (.andv (.call 0 (.cons (.var 0) .nil)) (.one (.chain .le .le (.var 1) (.var 0) (.var 2)))))
  .nil)
/-- is_tuple -/
def b_is_tuple : Ss := (.cons (.ret (.andv (.bi .isTup (.cons (.var 0) .nil)) (.one (.cmp .eq (.bi .len (.cons (.var 0) .nil)) (.var 1)))))
  .nil)
/-- is_key -/
def b_is_key : Ss := (.cons (.ret (.call 1 (.cons (.var 0) (.cons (.neg (.glob "MAX_KEY" (1000))) (.cons (.glob "MAX_KEY" (1000)) .nil)))))
  .nil)
/-- led_keys -/
def b_led_keys : Ss := (.cons (.par [(2, .val (.fr (.lst .nil))), (3, .own (.lst .nil))])
  (.cons (.fors (.nm 1) (.ex (.var 0)) (.cons (.ifs (.cmp (.cmp .eq (.idx (.var 1) (.cn (.int 0))) (.cn (.str "put")))) (.cons (.asg (.nm 2) (.fr (.sorted (.fr (.cat (.var 2) (.fr (.lst (.cons (.idx (.var 1) (.cn (.int 1))) .nil))))))))
  .nil) (.cons (.app 3 (.idx (.var 2) (.cn (.int 0))))
  (.cons (.asg (.nm 2) (.fr (.slc (.var 2) (.so (.cn (.int 1))) .no)))
  .nil)))
  .nil))
  (.cons (.ret (.tup (.cons (.bi .tup (.cons (.own 3) .nil)) (.cons (.bi .tup (.cons (.var 2) .nil)) .nil))))
  .nil)))
/-- taken_keys -/
def b_taken_keys : Ss := (.cons (.ret (.idx (.call 4 (.cons (.var 0) .nil)) (.cn (.int 0))))
  .nil)
/-- kept_keys -/
def b_kept_keys : Ss := (.cons (.ret (.idx (.call 4 (.cons (.var 0) .nil)) (.cn (.int 1))))
  .nil)
/-- is_keyed -/
def b_is_keyed : Ss := (.cons (.ifs (.tor (.nt (.ex (.call 2 (.cons (.var 0) (.cons (.cn (.int 2)) .nil))))) (.tor (.nt (.ex (.call 3 (.cons (.idx (.var 0) (.cn (.int 0))) .nil)))) (.t1 (.nt (.ex (.bi .isTup (.cons (.idx (.var 0) (.cn (.int 1))) .nil))))))) (.cons (.ret (.cn (.bl false)))
  .nil) .nil)
  (.cons (.ret (.bi .all (.cons (.fr (.comp [1] (.nm 1) (.ex (.idx (.var 0) (.cn (.int 1)))) .tru (.call 7 (.cons (.var 1) .nil)))) .nil)))
  .nil))
/-- tree_size -/
def b_tree_size : Ss := (.cons (.ret (.bin .add (.cn (.int 1)) (.bi .suml (.cons (.fr (.comp [1] (.nm 1) (.ex (.idx (.var 0) (.cn (.int 1)))) .tru (.call 8 (.cons (.var 1) .nil)))) .nil))))
  .nil)
/-- is_whole_tree -/
def b_is_whole_tree : Ss := (.cons (.ret (.bi .all (.cons (.fr (.comp [1, 2] (.tup (.cons (.nm 1) (.cons (.nm 2) .nil))) (.enm (.idx (.var 0) (.cn (.int 1)))) .tru (.andv (.cmp .eq (.bi .len (.cons (.idx (.var 2) (.cn (.int 1))) .nil)) (.var 1)) (.one (.call 9 (.cons (.var 2) .nil)))))) .nil)))
  .nil)
/-- is_falling -/
def b_is_falling : Ss := (.cons (.ret (.bi .all (.cons (.fr (.comp [1] (.nm 1) (.ex (.idx (.var 0) (.cn (.int 1)))) .tru (.andv (.cmp .ge (.idx (.var 1) (.cn (.int 0))) (.idx (.var 0) (.cn (.int 0)))) (.one (.call 10 (.cons (.var 1) .nil)))))) .nil)))
  .nil)
/-- binomial_error -/
def b_binomial_error : Ss := (.cons (.ifs (.tor (.nt (.ex (.bi .isTup (.cons (.var 0) .nil)))) (.t1 (.nt (.ex (.bi .all (.cons (.fr (.comp [2] (.nm 2) (.ex (.var 0)) .tru (.call 7 (.cons (.var 2) .nil)))) .nil)))))) (.cons (.ret (.cn (.str "form")))
  .nil) .nil)
  (.cons (.ifs (.cmp (.cmp .gt (.bi .suml (.cons (.fr (.comp [2] (.nm 2) (.ex (.var 0)) .tru (.call 8 (.cons (.var 2) .nil)))) .nil)) (.glob "MAX_HEAPED" (36)))) (.cons (.ret (.cn (.str "many")))
  .nil) .nil)
  (.cons (.fors (.tup (.cons (.nm 1) (.cons (.nm 2) .nil))) (.enm (.var 0)) (.cons (.ifs (.tor (.nt (.ex (.call 9 (.cons (.var 2) .nil)))) (.t1 (.tand (.cmp (.cmp .gt (.var 1) (.cn (.int 0)))) (.t1 (.cmp (.cmp .le (.bi .len (.cons (.idx (.var 2) (.cn (.int 1))) .nil)) (.bi .len (.cons (.idx (.idx (.var 0) (.bin .sub (.var 1) (.cn (.int 1)))) (.cn (.int 1))) .nil)))))))) (.cons (.ret (.tup (.cons (.cn (.str "order")) (.cons (.var 1) .nil))))
  .nil) .nil)
  (.cons (.ifs (.nt (.ex (.call 10 (.cons (.var 2) .nil)))) (.cons (.ret (.tup (.cons (.cn (.str "key")) (.cons (.var 1) .nil))))
  .nil) .nil)
  .nil)))
  (.cons (.ret (.cn .non))
  .nil))))
/-- linked_trees -/
def b_linked_trees : Ss := (.cons (.ret (.ife (.cmp (.cmp .le (.idx (.var 0) (.cn (.int 0))) (.idx (.var 1) (.cn (.int 0))))) (.tup (.cons (.idx (.var 0) (.cn (.int 0))) (.cons (.bin .add (.idx (.var 0) (.cn (.int 1))) (.tup (.cons (.var 1) .nil))) .nil))) (.tup (.cons (.idx (.var 1) (.cn (.int 0))) (.cons (.bin .add (.idx (.var 1) (.cn (.int 1))) (.tup (.cons (.var 0) .nil))) .nil)))))
  .nil)
/-- joined_links -/
def b_joined_links : Ss := (.cons (.par [(4, .own (.lst .nil)), (5, .val (.fr (.lst .nil))), (6, .val (.cn (.int 0)))])
  (.cons (.seto 2 (.comp [8] (.nm 8) (.ex (.bin .add (.var 0) (.var 1))) .tru (.bi .len (.cons (.idx (.var 8) (.cn (.int 1))) .nil))))
  (.frz 2 (.cons (.fors (.nm 3) (.rng1 (.bin .add (.bi .maxl (.cons (.fr (.cat (.var 2) (.fr (.lst (.cons (.cn (.int 0)) .nil))))) .nil)) (.cn (.int 2)))) (.cons (.asg (.nm 7) (.fr (.cat (.var 5) (.fr (.comp [8] (.nm 8) (.ex (.bin .add (.var 0) (.var 1))) (.cmp (.cmp .eq (.bi .len (.cons (.idx (.var 8) (.cn (.int 1))) .nil)) (.var 3))) (.var 8))))))
  (.cons (.asg (.nm 5) (.fr (.lst .nil)))
  (.cons (.ifs (.cmp (.cmp .gt (.bi .len (.cons (.var 7) .nil)) (.cn (.int 1)))) (.cons (.par [(5, .val (.fr (.lst (.cons (.call 12 (.cons (.idx (.var 7) (.neg (.cn (.int 2)))) (.cons (.idx (.var 7) (.neg (.cn (.int 1)))) .nil))) .nil)))), (6, .val (.bin .add (.var 6) (.cn (.int 1))))])
  (.cons (.asg (.nm 7) (.fr (.slc (.var 7) .no (.so (.neg (.cn (.int 2)))))))
  .nil)) .nil)
  (.cons (.ext 4 (.var 7))
  .nil)))))
  (.cons (.ret (.tup (.cons (.bi .tup (.cons (.own 4) .nil)) (.cons (.var 6) .nil))))
  .nil)))))
/-- binomial_joined -/
def b_binomial_joined : Ss := (.cons (.ret (.idx (.call 13 (.cons (.var 0) (.cons (.var 1) .nil))) (.cn (.int 0))))
  .nil)
/-- put_links -/
def b_put_links : Ss := (.cons (.ret (.call 13 (.cons (.var 0) (.cons (.tup (.cons (.tup (.cons (.var 1) (.cons (.tup .nil) .nil))) .nil)) .nil))))
  .nil)
/-- binomial_put -/
def b_binomial_put : Ss := (.cons (.ret (.idx (.call 15 (.cons (.var 0) (.cons (.var 1) .nil))) (.cn (.int 0))))
  .nil)
/-- taken_links -/
def b_taken_links : Ss := (.cons (.ifs (.cmp (.cmp .eq (.var 0) (.tup .nil))) (.cons (.whl 0 .tru .nil)
  .nil) .nil)
  (.cons (.seto 1 (.comp [5] (.nm 5) (.ex (.var 0)) .tru (.idx (.var 5) (.cn (.int 0)))))
  (.frz 1 (.cons (.asg (.nm 2) (.mt .index (.var 1) (.cons (.bi .minl (.cons (.var 1) .nil)) .nil)))
  (.cons (.asg (.tup (.cons (.nm 3) (.cons (.nm 4) .nil))) (.call 13 (.cons (.bin .add (.slt (.var 0) .no (.so (.var 2))) (.slt (.var 0) (.so (.bin .add (.var 2) (.cn (.int 1)))) .no)) (.cons (.idx (.idx (.var 0) (.var 2)) (.cn (.int 1))) .nil))))
  (.cons (.ret (.tup (.cons (.idx (.var 0) (.var 2)) (.cons (.var 3) (.cons (.var 4) .nil)))))
  .nil))))))
/-- binomial_taken -/
def b_binomial_taken : Ss := (.cons (.asg (.tup (.cons (.nm 1) (.cons (.nm 2) (.cons (.nm 3) .nil)))) (.call 17 (.cons (.var 0) .nil)))
  (.cons (.ret (.tup (.cons (.idx (.var 1) (.cn (.int 0))) (.cons (.var 2) .nil))))
  .nil))
/-- led_binomial -/
def b_led_binomial : Ss := (.cons (.par [(2, .val (.tup .nil)), (3, .own (.lst .nil)), (4, .own (.lst .nil))])
  (.cons (.fors (.nm 1) (.ex (.var 0)) (.cons (.ifs (.cmp (.cmp .eq (.idx (.var 1) (.cn (.int 0))) (.cn (.str "put")))) (.cons (.asg (.tup (.cons (.nm 2) (.cons (.nm 5) .nil))) (.call 15 (.cons (.var 2) (.cons (.idx (.var 1) (.cn (.int 1))) .nil))))
  (.cons (.app 4 (.cn (.int 2)))
  .nil)) (.cons (.asg (.tup (.cons (.nm 6) (.cons (.nm 2) (.cons (.nm 5) .nil)))) (.call 17 (.cons (.var 2) .nil)))
  (.cons (.app 4 (.bi .len (.cons (.idx (.var 6) (.cn (.int 1))) .nil)))
  .nil)))
  (.cons (.app 3 (.bin .add (.cn (.int 1)) (.var 5)))
  .nil)))
  (.cons (.ret (.tup (.cons (.var 2) (.cons (.bi .tup (.cons (.own 3) .nil)) (.cons (.bi .tup (.cons (.own 4) .nil)) .nil)))))
  .nil)))
/-- binomial_run -/
def b_binomial_run : Ss := (.cons (.ret (.idx (.call 19 (.cons (.var 0) .nil)) (.cn (.int 0))))
  .nil)
/-- binomial_costs -/
def b_binomial_costs : Ss := (.cons (.ret (.idx (.call 19 (.cons (.var 0) .nil)) (.cn (.int 1))))
  .nil)
/-- binomial_prices -/
def b_binomial_prices : Ss := (.cons (.ret (.idx (.call 19 (.cons (.var 0) .nil)) (.cn (.int 2))))
  .nil)
/-- binomial_potential -/
def b_binomial_potential : Ss := (.cons (.ret (.bi .len (.cons (.var 0) .nil)))
  .nil)
/-- ones_of -/
def b_ones_of : Ss := (.cons (.asg (.nm 1) (.cn (.int 0)))
  (.cons (.fors (.nm 2) (.rng1 (.mt .bits (.var 0) .nil)) (.cons (.asg (.nm 1) (.bin .add (.var 1) (.bin .band (.bin .shr (.var 0) (.var 2)) (.cn (.int 1)))))
  .nil))
  (.cons (.ret (.var 1))
  .nil)))
/-- join_links -/
def b_join_links : Ss := (.cons (.ret (.bin .sub (.bin .add (.call 24 (.cons (.var 0) .nil)) (.call 24 (.cons (.var 1) .nil))) (.call 24 (.cons (.bin .add (.var 0) (.var 1)) .nil))))
  .nil)
/-- puts_cost -/
def b_puts_cost : Ss := (.cons (.ret (.bin .sub (.bin .mul (.cn (.int 2)) (.var 0)) (.call 24 (.cons (.var 0) .nil))))
  .nil)
/-- count_of -/
def b_count_of : Ss := (.cons (.seto 2 (.lst .nil))
  (.cons (.whl 80 (.cmp (.cmp .gt (.var 1) (.cn (.int 0)))) (.cons (.app 2 (.bin .mod (.var 1) (.var 0)))
  (.cons (.asg (.nm 1) (.bin .fdiv (.var 1) (.var 0)))
  .nil)))
  (.cons (.ret (.bi .tup (.cons (.own 2) .nil)))
  .nil)))
/-- count_worth -/
def b_count_worth : Ss := (.cons (.asg (.nm 2) (.cn (.int 0)))
  (.cons (.fors (.nm 3) (.rev (.var 1)) (.cons (.asg (.nm 2) (.bin .add (.bin .mul (.var 2) (.var 0)) (.var 3)))
  .nil))
  (.cons (.ret (.var 2))
  .nil)))
/-- full_figures -/
def b_full_figures : Ss := (.cons (.asg (.nm 2) (.cn (.int 0)))
  (.cons (.whl 80 (.tand (.cmp (.cmp .lt (.var 2) (.bi .len (.cons (.var 1) .nil)))) (.t1 (.cmp (.cmp .eq (.idx (.var 1) (.var 2)) (.bin .sub (.var 0) (.cn (.int 1))))))) (.cons (.asg (.nm 2) (.bin .add (.var 2) (.cn (.int 1))))
  .nil))
  (.cons (.ret (.var 2))
  .nil)))
/-- count_up -/
def b_count_up : Ss := (.cons (.asg (.nm 2) (.call 29 (.cons (.var 0) (.cons (.var 1) .nil))))
  (.cons (.ifs (.cmp (.cmp .eq (.var 2) (.bi .len (.cons (.var 1) .nil)))) (.cons (.ret (.bin .add (.bin .mul (.tup (.cons (.cn (.int 0)) .nil)) (.var 2)) (.tup (.cons (.cn (.int 1)) .nil))))
  .nil) .nil)
  (.cons (.ret (.bin .add (.bin .add (.bin .mul (.tup (.cons (.cn (.int 0)) .nil)) (.var 2)) (.tup (.cons (.bin .add (.idx (.var 1) (.var 2)) (.cn (.int 1))) .nil))) (.slt (.var 1) (.so (.bin .add (.var 2) (.cn (.int 1)))) .no)))
  .nil)))
/-- up_flips -/
def b_up_flips : Ss := (.cons (.ret (.bin .add (.call 29 (.cons (.var 0) (.cons (.var 1) .nil))) (.cn (.int 1))))
  .nil)
/-- count_run -/
def b_count_run : Ss := (.cons (.seto 3 (.lst .nil))
  (.cons (.fors (.nm 4) (.ex (.var 2)) (.cons (.ifs (.cmp (.cmp .eq (.var 4) (.cn (.str "up")))) (.cons (.app 3 (.call 31 (.cons (.var 0) (.cons (.var 1) .nil))))
  (.cons (.asg (.nm 1) (.call 30 (.cons (.var 0) (.cons (.var 1) .nil))))
  .nil)) (.cons (.app 3 (.bi .len (.cons (.fr (.comp [5] (.nm 5) (.ex (.var 1)) (.cmp (.cmp .ne (.var 5) (.cn (.int 0)))) (.var 5))) .nil)))
  (.cons (.asg (.nm 1) (.tup .nil))
  .nil)))
  .nil))
  (.cons (.ret (.bi .tup (.cons (.own 3) .nil)))
  .nil)))
/-- lowest -/
def b_lowest : Ss := (.cons (.par [(2, .val (.bi .abs (.cons (.var 0) .nil))), (3, .val (.var 1))])
  (.cons (.whl 80 (.cmp (.cmp .ne (.var 3) (.cn (.int 0)))) (.cons (.par [(2, .val (.var 3)), (3, .val (.bin .mod (.var 2) (.var 3)))])
  .nil))
  (.cons (.ret (.tup (.cons (.bin .fdiv (.var 0) (.var 2)) (.cons (.bin .fdiv (.var 1) (.var 2)) .nil))))
  .nil)))
/-- flips_to -/
def b_flips_to : Ss := (.cons (.ret (.bin .fdiv (.bin .sub (.bin .mul (.var 0) (.var 1)) (.bi .suml (.cons (.call 27 (.cons (.var 0) (.cons (.var 1) .nil))) .nil))) (.bin .sub (.var 0) (.cn (.int 1)))))
  .nil)
/-- flips_between -/
def b_flips_between : Ss := (.cons (.ret (.bin .sub (.call 34 (.cons (.var 0) (.cons (.bin .add (.var 1) (.var 2)) .nil))) (.call 34 (.cons (.var 0) (.cons (.var 1) .nil)))))
  .nil)
/-- count_price -/
def b_count_price : Ss := (.cons (.ret (.call 33 (.cons (.var 0) (.cons (.bin .sub (.var 0) (.cn (.int 1))) .nil))))
  .nil)
/-- count_potential -/
def b_count_potential : Ss := (.cons (.ret (.call 33 (.cons (.bi .suml (.cons (.var 1) .nil)) (.cons (.bin .sub (.var 0) (.cn (.int 1))) .nil))))
  .nil)
/-- _law_own_bag -/
def b__law_own_bag : Ss := (.cons (.seto 1 (.comp [3] (.nm 3) (.ex (.fr (.slc (.var 0) .no (.so (.cn (.int 63)))))) .tru (.bin .mod (.bi .abs (.cons (.var 3) .nil)) (.bin .shl (.cn (.int 1)) (.cn (.int 2000))))))
  (.frz 1 (.cons (.asg (.nm 2) (.bin .add (.cn (.int 76)) (.bi .len (.cons (.var 1) .nil))))
  (.cons (.fors (.nm 3) (.ex (.var 1)) (.cons (.asg (.nm 2) (.bin .mod (.bin .add (.bin .add (.bin .mul (.var 2) (.cn (.int 48271))) (.bin .mod (.var 3) (.cn (.int 2147483629)))) (.cn (.int 7))) (.cn (.int 2147483647))))
  .nil))
  (.cons (.ret (.newo (.lst (.cons (.newo (.lrev (.fr (.listof (.var 1))))) (.cons (.cn (.int 0)) (.cons (.var 2) .nil))))))
  .nil)))))
/-- _law_draw -/
def b__law_draw : Ss := (.cons (.fors (.nm 2) (.rng1 (.cn (.int 64))) (.cons (.ifs (.tor (.cmp (.cmp .gt (.oidx (.var 0) (.cn (.int 1))) (.cn (.int 0)))) (.t1 (.cmp (.oeqn (.oidx (.var 0) (.cn (.int 0))))))) (.cons .brk
  .nil) .nil)
  (.cons (.asg (.nm 3) (.opop (.oidx (.var 0) (.cn (.int 0)))))
  (.cons (.oset (.var 0) (.cn (.int 1)) (.ife (.cmp (.cmp .gt (.var 3) (.bin .pow (.cn (.int 10)) (.cn (.int 9))))) (.var 3) (.cn (.int 0))))
  .nil))))
  (.cons (.ifs (.cmp (.cmp .gt (.oidx (.var 0) (.cn (.int 1))) (.cn (.int 0)))) (.cons (.asg (.nm 4) (.bin .mod (.bi .int (.cons (.oidx (.var 0) (.cn (.int 1))) .nil)) (.var 1)))
  (.cons (.oset (.var 0) (.cn (.int 1)) (.ife (.cmp (.cmp .gt (.var 1) (.cn (.int 1)))) (.bin .fdiv (.oidx (.var 0) (.cn (.int 1))) (.var 1)) (.bin .fdiv (.oidx (.var 0) (.cn (.int 1))) (.cn (.int 2)))))
  (.cons (.ret (.var 4))
  .nil))) .nil)
  (.cons (.oset (.var 0) (.cn (.int 2)) (.bin .mod (.bin .add (.bin .mul (.bi .int (.cons (.oidx (.var 0) (.cn (.int 2))) .nil)) (.cn (.int 48271))) (.cn (.int 11))) (.cn (.int 2147483647))))
  (.cons (.ret (.bin .mod (.bin .fdiv (.bin .mod (.bi .int (.cons (.bin .mul (.oidx (.var 0) (.cn (.int 2))) (.oidx (.var 0) (.cn (.int 2)))) .nil)) (.cn (.int 2147483629))) (.cn (.int 7))) (.var 1)))
  .nil))))
/-- _law_pick -/
def b__law_pick : Ss := (.cons (.ret (.idx (.var 1) (.call 39 (.cons (.var 0) (.cons (.bi .len (.cons (.var 1) .nil)) .nil)))))
  .nil)
/-- _law_same -/
def b__law_same : Ss := (.cons (.ifs (.ex (.bi .isTup (.cons (.var 1) .nil))) (.cons (.ifs (.tor (.nt (.ex (.bi .isTup (.cons (.var 0) .nil)))) (.t1 (.cmp (.cmp .ne (.bi .len (.cons (.var 0) .nil)) (.bi .len (.cons (.var 1) .nil)))))) (.cons (.ret (.cn (.bl false)))
  .nil) .nil)
  (.cons (.ret (.bi .all (.cons (.fr (.comp [2, 3] (.tup (.cons (.nm 2) (.cons (.nm 3) .nil))) (.zip (.var 0) (.var 1)) .tru (.call 41 (.cons (.var 2) (.cons (.var 3) .nil))))) .nil)))
  .nil)) .nil)
  (.cons (.ifs (.cmp (.isN (.var 1))) (.cons (.ret (.isN (.var 0)))
  .nil) .nil)
  (.cons (.ifs (.ex (.bi .isBool (.cons (.var 1) .nil))) (.cons (.ret (.andv (.bi .isBool (.cons (.var 0) .nil)) (.one (.cmp .eq (.var 0) (.var 1)))))
  .nil) .nil)
  (.cons (.ifs (.ex (.bi .isStr (.cons (.var 1) .nil))) (.cons (.ret (.andv (.bi .isStr (.cons (.var 0) .nil)) (.one (.cmp .eq (.var 0) (.var 1)))))
  .nil) .nil)
  (.cons (.ret (.andv (.bi .isInt (.cons (.var 0) .nil)) (.andv (.notv (.bi .isBool (.cons (.var 0) .nil))) (.one (.cmp .eq (.var 0) (.var 1))))))
  .nil)))))
/-- _law_bits -/
def b__law_bits : Ss := (.cons (.ret (.bi .tup (.cons (.fr (.comp [1] (.nm 1) (.rng1 (.mt .bits (.var 0) .nil)) .tru (.bin .band (.bin .shr (.var 0) (.var 1)) (.cn (.int 1))))) .nil)))
  .nil)
/-- _law_carries -/
def b__law_carries : Ss := (.cons (.asg (.tup (.cons (.nm 3) (.cons (.nm 4) .nil))) (.tup (.cons (.cn (.int 0)) (.cons (.cn (.int 0)) .nil))))
  (.cons (.fors (.nm 2) (.rng1 (.bin .add (.bi .max2 (.cons (.mt .bits (.var 0) .nil) (.cons (.mt .bits (.var 1) .nil) .nil))) (.cn (.int 1)))) (.cons (.asg (.nm 5) (.bin .add (.bin .add (.bin .band (.bin .shr (.var 0) (.var 2)) (.cn (.int 1))) (.bin .band (.bin .shr (.var 1) (.var 2)) (.cn (.int 1)))) (.var 4)))
  (.cons (.asg (.nm 4) (.ife (.cmp (.cmp .gt (.var 5) (.cn (.int 1)))) (.cn (.int 1)) (.cn (.int 0))))
  (.cons (.asg (.nm 3) (.bin .add (.var 3) (.var 4)))
  .nil))))
  (.cons (.ret (.var 3))
  .nil)))
/-- _law_keys -/
def b__law_keys : Ss := (.cons (.seto 1 (.lst (.cons (.idx (.var 0) (.cn (.int 0))) .nil)))
  (.cons (.fors (.nm 2) (.ex (.idx (.var 0) (.cn (.int 1)))) (.cons (.ext 1 (.call 44 (.cons (.var 2) .nil)))
  .nil))
  (.frz 1 (.cons (.ret (.var 1))
  .nil))))
/-- _law_all -/
def b__law_all : Ss := (.cons (.seto 1 (.lst .nil))
  (.cons (.fors (.nm 2) (.ex (.var 0)) (.cons (.ext 1 (.call 44 (.cons (.var 2) .nil)))
  .nil))
  (.cons (.ret (.fr (.sorted (.own 1))))
  .nil)))
/-- _law_orders -/
def b__law_orders : Ss := (.cons (.ret (.bi .tup (.cons (.fr (.comp [1] (.nm 1) (.ex (.var 0)) .tru (.bi .len (.cons (.idx (.var 1) (.cn (.int 1))) .nil)))) .nil)))
  .nil)
/-- _law_ones -/
def b__law_ones : Ss := (.cons (.ret (.bi .tup (.cons (.fr (.comp [1] (.nm 1) (.rng1 (.mt .bits (.var 0) .nil)) (.cmp (.cmp .eq (.bin .band (.bin .shr (.var 0) (.var 1)) (.cn (.int 1))) (.cn (.int 1)))) (.var 1))) .nil)))
  .nil)
/-- _law_puts -/
def b__law_puts : Ss := (.cons (.asg (.nm 2) (.call 40 (.cons (.var 0) (.cons (.fr (.lst (.cons (.cn (.int 1)) (.cons (.cn (.int 5)) (.cons (.cn (.int 1000)) .nil))))) .nil))))
  (.cons (.ret (.bi .tup (.cons (.fr (.comp [3] (.nm 3) (.rng1 (.var 1)) .tru (.tup (.cons (.cn (.str "put")) (.cons (.bin .sub (.call 39 (.cons (.var 0) (.cons (.bin .add (.bin .mul (.cn (.int 2)) (.var 2)) (.cn (.int 1))) .nil))) (.var 2)) .nil))))) .nil)))
  .nil))
/-- _law_are_puts_right -/
def b__law_are_puts_right : Ss := (.cons (.asg (.nm 2) (.call 48 (.cons (.var 0) (.cons (.var 1) .nil))))
  (.cons (.par [(5, .val (.call 20 (.cons (.var 2) .nil))), (6, .val (.call 21 (.cons (.var 2) .nil)))])
  (.cons (.asg (.nm 3) (.call 32 (.cons (.cn (.int 2)) (.cons (.tup .nil) (.cons (.bin .mul (.tup (.cons (.cn (.str "up")) .nil)) (.var 1)) .nil)))))
  (.cons (.ifs (.nt (.ex (.call 41 (.cons (.tup (.cons (.var 6) (.cons (.callk 21 [0] .nil (.cons (.var 2) .nil)) (.cons (.bi .suml (.cons (.var 6) .nil)) (.cons (.call 26 (.cons (.var 1) .nil)) (.cons (.callk 26 [0] .nil (.cons (.var 1) .nil)) .nil)))))) (.cons (.bin .add (.tup (.cons (.var 3) (.cons (.var 3) .nil))) (.bin .mul (.tup (.cons (.call 34 (.cons (.cn (.int 2)) (.cons (.var 1) .nil))) .nil)) (.cn (.int 3)))) .nil))))) (.cons (.ret (.cn (.bl false)))
  .nil) .nil)
  (.cons (.ifs (.tor (.cmp (.notN (.call 11 (.cons (.var 5) .nil)))) (.t1 (.cmp (.cmp .ne (.call 46 (.cons (.var 5) .nil)) (.call 47 (.cons (.var 1) .nil)))))) (.cons (.ret (.cn (.bl false)))
  .nil) .nil)
  (.cons (.ifs (.cmp (.cmp .ne (.call 45 (.cons (.var 5) .nil)) (.fr (.sorted (.fr (.comp [10] (.nm 10) (.ex (.var 2)) .tru (.idx (.var 10) (.cn (.int 1))))))))) (.cons (.ret (.cn (.bl false)))
  .nil) .nil)
  (.cons (.asg (.nm 4) (.tup (.cons (.call 23 (.cons (.var 5) .nil)) (.cons (.call 37 (.cons (.cn (.int 2)) (.cons (.call 27 (.cons (.cn (.int 2)) (.cons (.var 1) .nil))) .nil))) (.cons (.call 22 (.cons (.var 2) .nil)) .nil)))))
  (.cons (.ifs (.tor (.nt (.ex (.call 41 (.cons (.var 4) (.cons (.tup (.cons (.bi .len (.cons (.var 5) .nil)) (.cons (.tup (.cons (.bi .len (.cons (.var 5) .nil)) (.cons (.cn (.int 1)) .nil))) (.cons (.bin .mul (.tup (.cons (.cn (.int 2)) .nil)) (.var 1)) .nil)))) .nil))))) (.t1 (.nt (.ex (.call 41 (.cons (.call 36 (.cons (.cn (.int 2)) .nil)) (.cons (.tup (.cons (.cn (.int 2)) (.cons (.cn (.int 1)) .nil))) .nil))))))) (.cons (.ret (.cn (.bl false)))
  .nil) .nil)
  (.cons (.ifs (.cmp (.cmp .lt (.var 1) (.cn (.int 36)))) (.cons (.asg (.nm 7) (.call 39 (.cons (.var 0) (.cons (.cn (.int 9)) .nil))))
  (.cons (.asg (.nm 8) (.call 16 (.cons (.var 5) (.cons (.var 7) .nil))))
  (.cons (.ifs (.tor (.nt (.ex (.call 41 (.cons (.callk 16 [1, 0] .nil (.cons (.var 7) (.cons (.var 5) .nil))) (.cons (.var 8) .nil))))) (.t1 (.cmp (.cmp .ne (.call 46 (.cons (.var 8) .nil)) (.call 47 (.cons (.bin .add (.var 1) (.cn (.int 1))) .nil)))))) (.cons (.ret (.cn (.bl false)))
  .nil) .nil)
  (.cons (.asg (.nm 9) (.bin .add (.cn (.int 1)) (.call 43 (.cons (.var 1) (.cons (.cn (.int 1)) .nil)))))
  (.cons (.ifs (.nt (.ex (.call 41 (.cons (.tup (.cons (.call 31 (.cons (.cn (.int 2)) (.cons (.call 42 (.cons (.var 1) .nil)) .nil))) (.cons (.call 28 (.cons (.cn (.int 2)) (.cons (.call 30 (.cons (.cn (.int 2)) (.cons (.call 42 (.cons (.var 1) .nil)) .nil))) .nil))) .nil))) (.cons (.tup (.cons (.var 9) (.cons (.bin .add (.var 1) (.cn (.int 1))) .nil))) .nil))))) (.cons (.ret (.cn (.bl false)))
  .nil) .nil)
  (.cons (.ret (.andv (.cmp .eq (.bin .sub (.bin .add (.var 9) (.bi .len (.cons (.var 8) .nil))) (.bi .len (.cons (.var 5) .nil))) (.cn (.int 2))) (.one (.cmp .eq (.call 45 (.cons (.var 8) .nil)) (.fr (.sorted (.fr (.cat (.call 45 (.cons (.var 5) .nil)) (.fr (.lst (.cons (.var 7) .nil)))))))))))
  .nil)))))) .nil)
  (.cons (.ret (.cn (.bl true)))
  .nil))))))))))
/-- _law_is_join_right -/
def b__law_is_join_right : Ss := (.cons (.par [(5, .val (.call 20 (.cons (.call 48 (.cons (.var 0) (.cons (.var 1) .nil))) .nil))), (6, .val (.call 20 (.cons (.call 48 (.cons (.var 0) (.cons (.var 2) .nil))) .nil)))])
  (.cons (.asg (.nm 3) (.call 14 (.cons (.var 5) (.cons (.var 6) .nil))))
  (.cons (.ifs (.tor (.nt (.ex (.call 41 (.cons (.callk 14 [1, 0] .nil (.cons (.var 6) (.cons (.var 5) .nil))) (.cons (.var 3) .nil))))) (.t1 (.cmp (.notN (.call 11 (.cons (.var 3) .nil)))))) (.cons (.ret (.cn (.bl false)))
  .nil) .nil)
  (.cons (.ifs (.tor (.cmp (.cmp .ne (.call 46 (.cons (.var 3) .nil)) (.call 47 (.cons (.bin .add (.var 1) (.var 2)) .nil)))) (.t1 (.cmp (.cmp .ne (.call 45 (.cons (.var 3) .nil)) (.fr (.sorted (.fr (.cat (.call 45 (.cons (.var 5) .nil)) (.call 45 (.cons (.var 6) .nil)))))))))) (.cons (.ret (.cn (.bl false)))
  .nil) .nil)
  (.cons (.asg (.nm 4) (.bin .sub (.bin .add (.bi .len (.cons (.var 5) .nil)) (.bi .len (.cons (.var 6) .nil))) (.bi .len (.cons (.var 3) .nil))))
  (.cons (.ret (.call 41 (.cons (.tup (.cons (.call 25 (.cons (.var 1) (.cons (.var 2) .nil))) (.cons (.callk 25 [1, 0] .nil (.cons (.var 2) (.cons (.var 1) .nil))) (.cons (.call 43 (.cons (.var 1) (.cons (.var 2) .nil))) .nil)))) (.cons (.tup (.cons (.var 4) (.cons (.var 4) (.cons (.var 4) .nil)))) .nil))))
  .nil))))))
/-- _law_is_take_right -/
def b__law_is_take_right : Ss := (.cons (.asg (.nm 2) (.call 20 (.cons (.call 48 (.cons (.var 0) (.cons (.var 1) .nil))) .nil)))
  (.cons (.asg (.tup (.cons (.nm 7) (.cons (.nm 8) .nil))) (.call 18 (.cons (.var 2) .nil)))
  (.cons (.asg (.nm 3) (.call 45 (.cons (.var 2) .nil)))
  (.cons (.ifs (.tor (.nt (.ex (.call 41 (.cons (.callk 18 [0] .nil (.cons (.var 2) .nil)) (.cons (.tup (.cons (.var 7) (.cons (.var 8) .nil))) .nil))))) (.tor (.cmp (.cmp .ne (.var 7) (.idx (.var 3) (.cn (.int 0))))) (.t1 (.cmp (.cmp .ne (.call 45 (.cons (.var 8) .nil)) (.fr (.slc (.var 3) (.so (.cn (.int 1))) .no))))))) (.cons (.ret (.cn (.bl false)))
  .nil) .nil)
  (.cons (.asg (.nm 4) (.idx (.fr (.comp [9] (.nm 9) (.ex (.var 2)) (.cmp (.cmp .eq (.idx (.var 9) (.cn (.int 0))) (.var 7))) (.bi .len (.cons (.idx (.var 9) (.cn (.int 1))) .nil)))) (.cn (.int 0))))
  (.cons (.asg (.nm 5) (.bin .shl (.cn (.int 1)) (.var 4)))
  (.cons (.asg (.nm 6) (.bin .sub (.bin .add (.bin .sub (.bi .len (.cons (.var 2) .nil)) (.cn (.int 1))) (.var 4)) (.bi .len (.cons (.var 8) .nil))))
  (.cons (.ret (.andv (.cmp .eq (.call 46 (.cons (.var 8) .nil)) (.call 47 (.cons (.bin .sub (.var 1) (.cn (.int 1))) .nil))) (.one (.call 41 (.cons (.call 25 (.cons (.bin .sub (.var 1) (.var 5)) (.cons (.bin .sub (.var 5) (.cn (.int 1))) .nil))) (.cons (.var 6) .nil))))))
  .nil))))))))
/-- _law_is_row_right -/
def b__law_is_row_right : Ss := (.cons (.par [(2, .own (.lst .nil)), (4, .val (.cn (.int 0)))])
  (.cons (.fors (.nm 1) (.rng1 (.call 40 (.cons (.var 0) (.cons (.fr (.lst (.cons (.cn (.int 4)) (.cons (.cn (.int 20)) (.cons (.cn (.int 60)) .nil))))) .nil)))) (.cons (.ifs (.tand (.cmp (.cmp .lt (.var 4) (.cn (.int 36)))) (.t1 (.tor (.cmp (.cmp .eq (.var 4) (.cn (.int 0)))) (.t1 (.cmp (.cmp .gt (.call 39 (.cons (.var 0) (.cons (.cn (.int 3)) .nil))) (.cn (.int 0)))))))) (.cons (.app 2 (.tup (.cons (.cn (.str "put")) (.cons (.call 39 (.cons (.var 0) (.cons (.cn (.int 30)) .nil))) .nil))))
  (.cons (.asg (.nm 4) (.bin .add (.var 4) (.cn (.int 1))))
  .nil)) (.cons (.app 2 (.tup (.cons (.cn (.str "take")) .nil)))
  (.cons (.asg (.nm 4) (.bin .sub (.var 4) (.cn (.int 1))))
  .nil)))
  .nil))
  (.cons (.asg (.nm 2) (.bi .tup (.cons (.own 2) .nil)))
  (.cons (.asg (.nm 3) (.callk 20 [0] .nil (.cons (.var 2) .nil)))
  (.cons (.ifs (.nt (.ex (.call 41 (.cons (.bin .add (.bi .suml (.cons (.call 21 (.cons (.var 2) .nil)) .nil)) (.call 23 (.cons (.var 3) .nil))) (.cons (.bi .suml (.cons (.callk 22 [0] .nil (.cons (.var 2) .nil)) .nil)) .nil))))) (.cons (.ret (.cn (.bl false)))
  .nil) .nil)
  (.cons (.ifs (.tor (.cmp (.cmp .ne (.call 46 (.cons (.var 3) .nil)) (.call 47 (.cons (.var 4) .nil)))) (.t1 (.nt (.ex (.call 41 (.cons (.call 6 (.cons (.var 2) .nil)) (.cons (.bi .tup (.cons (.call 45 (.cons (.var 3) .nil)) .nil)) .nil))))))) (.cons (.ret (.cn (.bl false)))
  .nil) .nil)
  (.cons (.ret (.cmp .eq (.bi .len (.cons (.call 5 (.cons (.var 2) .nil)) .nil)) (.bin .sub (.bi .len (.cons (.var 2) .nil)) (.bi .len (.cons (.fr (.comp [5] (.nm 5) (.ex (.var 2)) (.cmp (.cmp .eq (.idx (.var 5) (.cn (.int 0))) (.cn (.str "put")))) (.cn (.int 1)))) .nil)))))
  .nil)))))))
/-- law -/
def b_law : Ss := (.cons (.asg (.nm 1) (.call 38 (.cons (.var 0) .nil)))
  (.cons (.fors (.nm 2) (.rng1 (.cn (.int 2))) (.cons (.asg (.nm 3) (.call 40 (.cons (.var 1) (.cons (.fr (.lst (.cons (.cn (.int 0)) (.cons (.cn (.int 1)) (.cons (.cn (.int 31)) (.cons (.cn (.int 32)) (.cons (.cn (.int 36)) (.cons (.call 39 (.cons (.var 1) (.cons (.cn (.int 37)) .nil))) .nil)))))))) .nil))))
  (.cons (.ifs (.tor (.nt (.ex (.call 49 (.cons (.var 1) (.cons (.var 3) .nil))))) (.t1 (.nt (.ex (.call 51 (.cons (.var 1) (.cons (.bin .add (.cn (.int 1)) (.call 39 (.cons (.var 1) (.cons (.cn (.int 36)) .nil)))) .nil))))))) (.cons (.ret (.cn (.bl false)))
  .nil) .nil)
  (.cons (.ifs (.nt (.ex (.call 52 (.cons (.var 1) .nil)))) (.cons (.ret (.cn (.bl false)))
  .nil) .nil)
  (.cons (.asg (.nm 4) (.call 39 (.cons (.var 1) (.cons (.cn (.int 37)) .nil))))
  (.cons (.ifs (.nt (.ex (.call 50 (.cons (.var 1) (.cons (.var 4) (.cons (.call 39 (.cons (.var 1) (.cons (.bin .sub (.cn (.int 37)) (.var 4)) .nil))) .nil)))))) (.cons (.ret (.cn (.bl false)))
  .nil) .nil)
  (.cons (.par [(5, .val (.call 40 (.cons (.var 1) (.cons (.fr (.lst (.cons (.bin .pow (.cn (.int 10)) (.cn (.int 60))) (.cons (.bin .sub (.bin .shl (.cn (.int 1)) (.cn (.int 199))) (.cn (.int 1))) (.cons (.call 39 (.cons (.var 1) (.cons (.bin .pow (.cn (.int 10)) (.cn (.int 60))) .nil))) .nil))))) .nil)))), (6, .val (.call 40 (.cons (.var 1) (.cons (.fr (.lst (.cons (.cn (.int 0)) (.cons (.cn (.int 1)) (.cons (.bin .pow (.cn (.int 10)) (.cn (.int 60))) (.cons (.call 39 (.cons (.var 1) (.cons (.bin .pow (.cn (.int 10)) (.cn (.int 60))) .nil))) .nil)))))) .nil))))])
  (.cons (.ifs (.nt (.ex (.call 41 (.cons (.tup (.cons (.call 25 (.cons (.var 5) (.cons (.var 6) .nil))) (.cons (.call 26 (.cons (.var 5) .nil)) .nil))) (.cons (.tup (.cons (.call 43 (.cons (.var 5) (.cons (.var 6) .nil))) (.cons (.bin .sub (.bin .mul (.cn (.int 2)) (.var 5)) (.bi .suml (.cons (.call 42 (.cons (.var 5) .nil)) .nil))) .nil))) .nil))))) (.cons (.ret (.cn (.bl false)))
  .nil) .nil)
  (.cons (.par [(7, .val (.call 39 (.cons (.var 1) (.cons (.bin .pow (.cn (.int 10)) (.cn (.int 9))) .nil)))), (8, .val (.call 39 (.cons (.var 1) (.cons (.bin .pow (.cn (.int 10)) (.cn (.int 9))) .nil))))])
  (.cons (.ifs (.nt (.ex (.call 41 (.cons (.call 35 (.cons (.cn (.int 2)) (.cons (.var 7) (.cons (.var 8) .nil)))) (.cons (.bin .sub (.call 26 (.cons (.bin .add (.var 7) (.var 8)) .nil)) (.call 26 (.cons (.var 7) .nil))) .nil))))) (.cons (.ret (.cn (.bl false)))
  .nil) .nil)
  .nil))))))))))
  (.cons (.ret (.call 41 (.cons (.tup (.cons (.call 25 (.cons (.cn (.int 3)) (.cons (.cn (.int 5)) .nil))) (.cons (.call 26 (.cons (.cn (.int 36)) .nil)) (.cons (.call 23 (.cons (.tup (.cons (.tup (.cons (.cn (.int 4)) (.cons (.tup .nil) .nil))) .nil)) .nil)) .nil)))) (.cons (.tup (.cons (.cn (.int 3)) (.cons (.cn (.int 70)) (.cons (.cn (.int 1)) .nil)))) .nil))))
  .nil)))
def fr_ : List FR := [⟨1, 1, b_is_integer⟩, ⟨3, 3, b_is_whole⟩, ⟨2, 2, b_is_tuple⟩, ⟨1, 1, b_is_key⟩, ⟨1, 4, b_led_keys⟩, ⟨1, 1, b_taken_keys⟩, ⟨1, 1, b_kept_keys⟩, ⟨1, 2, b_is_keyed⟩, ⟨1, 2, b_tree_size⟩, ⟨1, 3, b_is_whole_tree⟩, ⟨1, 2, b_is_falling⟩, ⟨1, 3, b_binomial_error⟩, ⟨2, 2, b_linked_trees⟩, ⟨2, 9, b_joined_links⟩, ⟨2, 2, b_binomial_joined⟩, ⟨2, 2, b_put_links⟩, ⟨2, 2, b_binomial_put⟩, ⟨1, 6, b_taken_links⟩, ⟨1, 4, b_binomial_taken⟩, ⟨1, 7, b_led_binomial⟩, ⟨1, 1, b_binomial_run⟩, ⟨1, 1, b_binomial_costs⟩, ⟨1, 1, b_binomial_prices⟩, ⟨1, 1, b_binomial_potential⟩, ⟨1, 3, b_ones_of⟩, ⟨2, 2, b_join_links⟩, ⟨1, 1, b_puts_cost⟩, ⟨2, 3, b_count_of⟩, ⟨2, 4, b_count_worth⟩, ⟨2, 3, b_full_figures⟩, ⟨2, 3, b_count_up⟩, ⟨2, 2, b_up_flips⟩, ⟨3, 6, b_count_run⟩, ⟨2, 4, b_lowest⟩, ⟨2, 2, b_flips_to⟩, ⟨3, 3, b_flips_between⟩, ⟨1, 1, b_count_price⟩, ⟨2, 2, b_count_potential⟩, ⟨1, 4, b__law_own_bag⟩, ⟨2, 5, b__law_draw⟩, ⟨2, 2, b__law_pick⟩, ⟨2, 4, b__law_same⟩, ⟨1, 2, b__law_bits⟩, ⟨2, 6, b__law_carries⟩, ⟨1, 3, b__law_keys⟩, ⟨1, 3, b__law_all⟩, ⟨1, 2, b__law_orders⟩, ⟨1, 2, b__law_ones⟩, ⟨2, 4, b__law_puts⟩, ⟨2, 11, b__law_are_puts_right⟩, ⟨3, 7, b__law_is_join_right⟩, ⟨2, 10, b__law_is_take_right⟩, ⟨1, 6, b__law_is_row_right⟩, ⟨1, 9, b_law⟩]
def nm_ : List Str := [("is_integer" : Str), ("is_whole" : Str), ("is_tuple" : Str), ("is_key" : Str), ("led_keys" : Str), ("taken_keys" : Str), ("kept_keys" : Str), ("is_keyed" : Str), ("tree_size" : Str), ("is_whole_tree" : Str), ("is_falling" : Str), ("binomial_error" : Str), ("linked_trees" : Str), ("joined_links" : Str), ("binomial_joined" : Str), ("put_links" : Str), ("binomial_put" : Str), ("taken_links" : Str), ("binomial_taken" : Str), ("led_binomial" : Str), ("binomial_run" : Str), ("binomial_costs" : Str), ("binomial_prices" : Str), ("binomial_potential" : Str), ("ones_of" : Str), ("join_links" : Str), ("puts_cost" : Str), ("count_of" : Str), ("count_worth" : Str), ("full_figures" : Str), ("count_up" : Str), ("up_flips" : Str), ("count_run" : Str), ("lowest" : Str), ("flips_to" : Str), ("flips_between" : Str), ("count_price" : Str), ("count_potential" : Str), ("_law_own_bag" : Str), ("_law_draw" : Str), ("_law_pick" : Str), ("_law_same" : Str), ("_law_bits" : Str), ("_law_carries" : Str), ("_law_keys" : Str), ("_law_all" : Str), ("_law_orders" : Str), ("_law_ones" : Str), ("_law_puts" : Str), ("_law_are_puts_right" : Str), ("_law_is_join_right" : Str), ("_law_is_take_right" : Str), ("_law_is_row_right" : Str), ("law" : Str)]
def ps_ : List (List Str) := [(["value"] : List Str), (["value", "low", "high"] : List Str), (["value", "many"] : List Str), (["value"] : List Str), (["row"] : List Str), (["row"] : List Str), (["row"] : List Str), (["value"] : List Str), (["tree"] : List Str), (["tree"] : List Str), (["tree"] : List Str), (["value"] : List Str), (["one", "other"] : List Str), (["one", "other"] : List Str), (["one", "other"] : List Str), (["heap", "key"] : List Str), (["heap", "key"] : List Str), (["heap"] : List Str), (["heap"] : List Str), (["row"] : List Str), (["row"] : List Str), (["row"] : List Str), (["row"] : List Str), (["heap"] : List Str), (["n"] : List Str), (["m", "n"] : List Str), (["n"] : List Str), (["b", "n"] : List Str), (["b", "count"] : List Str), (["b", "count"] : List Str), (["b", "count"] : List Str), (["b", "count"] : List Str), (["b", "count", "deeds"] : List Str), (["num", "den"] : List Str), (["b", "n"] : List Str), (["b", "m", "n"] : List Str), (["b"] : List Str), (["b", "count"] : List Str), (["script"] : List Str), (["bag", "below"] : List Str), (["bag", "some"] : List Str), (["told", "due"] : List Str), (["n"] : List Str), (["m", "n"] : List Str), (["tree"] : List Str), (["heap"] : List Str), (["heap"] : List Str), (["n"] : List Str), (["bag", "n"] : List Str), (["bag", "n"] : List Str), (["bag", "m", "n"] : List Str), (["bag", "n"] : List Str), (["bag"] : List Str), (["script"] : List Str)]
def sg_ : List (Nat × Nat × List Str × List Nat) := [(21, 0, ["row"], [0]), (26, 0, ["n"], [0]), (16, 0, ["key", "heap"], [1, 0]), (14, 0, ["other", "one"], [1, 0]), (25, 0, ["n", "m"], [1, 0]), (18, 0, ["heap"], [0]), (20, 0, ["row"], [0]), (22, 0, ["row"], [0])]
def gl_ : List (Str × Int) := [("MAX_HEAPED", 36), ("MAX_KEY", 1000)]
def td : TD := ⟨fr_, nm_, ps_, sg_, gl_, ⟨fun _ => 0, fun _ => none⟩⟩
def top (i : Nat) : Stmt := PySem.Challenge.pw_costsahead_k76_whole_heaps_as_counting.main.body.getD i (.Pass ⟨0, 0, 0, 0⟩)
def txs : List Tx := [⟨"is_integer", top 6, ["value"]⟩, ⟨"is_whole", top 7, ["value", "low", "high"]⟩, ⟨"is_tuple", top 8, ["value", "many"]⟩, ⟨"is_key", top 10, ["value"]⟩, ⟨"led_keys", top 11, ["row", "deed", "held", "taken"]⟩, ⟨"taken_keys", top 12, ["row"]⟩, ⟨"kept_keys", top 13, ["row"]⟩, ⟨"is_keyed", top 15, ["value", "tree"]⟩, ⟨"tree_size", top 16, ["tree", "under"]⟩, ⟨"is_whole_tree", top 17, ["tree", "i", "under"]⟩, ⟨"is_falling", top 18, ["tree", "under"]⟩, ⟨"binomial_error", top 19, ["value", "i", "tree"]⟩, ⟨"linked_trees", top 20, ["one", "other"]⟩, ⟨"joined_links", top 21, ["one", "other", "orders", "order", "found", "carried", "links", "here", "tree"]⟩, ⟨"binomial_joined", top 22, ["one", "other"]⟩, ⟨"put_links", top 23, ["heap", "key"]⟩, ⟨"binomial_put", top 24, ["heap", "key"]⟩, ⟨"taken_links", top 25, ["heap", "roots", "place", "left", "links", "tree"]⟩, ⟨"binomial_taken", top 26, ["heap", "tree", "left", "links"]⟩, ⟨"led_binomial", top 27, ["row", "deed", "heap", "costs", "prices", "links", "tree"]⟩, ⟨"binomial_run", top 28, ["row"]⟩, ⟨"binomial_costs", top 29, ["row"]⟩, ⟨"binomial_prices", top 30, ["row"]⟩, ⟨"binomial_potential", top 31, ["heap"]⟩, ⟨"ones_of", top 32, ["n", "found", "turn"]⟩, ⟨"join_links", top 33, ["m", "n"]⟩, ⟨"puts_cost", top 34, ["n"]⟩, ⟨"count_of", top 36, ["b", "n", "found"]⟩, ⟨"count_worth", top 37, ["b", "count", "worth", "figure"]⟩, ⟨"full_figures", top 38, ["b", "count", "many"]⟩, ⟨"count_up", top 39, ["b", "count", "many"]⟩, ⟨"up_flips", top 40, ["b", "count"]⟩, ⟨"count_run", top 41, ["b", "count", "deeds", "found", "deed", "figure"]⟩, ⟨"lowest", top 43, ["num", "den", "one", "other"]⟩, ⟨"flips_to", top 45, ["b", "n"]⟩, ⟨"flips_between", top 46, ["b", "m", "n"]⟩, ⟨"count_price", top 47, ["b"]⟩, ⟨"count_potential", top 48, ["b", "count"]⟩, ⟨"_law_own_bag", top 50, ["script", "cells", "mixed", "cell"]⟩, ⟨"_law_draw", top 51, ["bag", "below", "turn", "cell", "found"]⟩, ⟨"_law_pick", top 52, ["bag", "some"]⟩, ⟨"_law_same", top 53, ["told", "due", "a", "b"]⟩, ⟨"_law_bits", top 54, ["n", "place"]⟩, ⟨"_law_carries", top 55, ["m", "n", "place", "found", "carry", "total"]⟩, ⟨"_law_keys", top 56, ["tree", "found", "one"]⟩, ⟨"_law_all", top 57, ["heap", "found", "tree"]⟩, ⟨"_law_orders", top 58, ["heap", "tree"]⟩, ⟨"_law_ones", top 59, ["n", "place"]⟩, ⟨"_law_puts", top 60, ["bag", "n", "few", "turn"]⟩, ⟨"_law_are_puts_right", top 61, ["bag", "n", "row", "ups", "told", "heap", "costs", "key", "more", "cost", "deed"]⟩, ⟨"_law_is_join_right", top 62, ["bag", "m", "n", "both", "links", "one", "other"]⟩, ⟨"_law_is_take_right", top 63, ["bag", "n", "heap", "keys", "order", "size", "links", "key", "left", "tree"]⟩, ⟨"_law_is_row_right", top 64, ["bag", "turn", "row", "heap", "held", "deed"]⟩, ⟨"law", top 65, ["script", "bag", "turn", "n", "m", "a", "b", "c", "d"]⟩]
def tx (f : Nat) : Tx := txs.getD f ⟨"", .Pass ⟨0, 0, 0, 0⟩, []⟩
theorem ck0 : ckD td 0 (tx 0) = true := by decide +kernel
theorem ck1 : ckD td 1 (tx 1) = true := by decide +kernel
theorem ck2 : ckD td 2 (tx 2) = true := by decide +kernel
theorem ck3 : ckD td 3 (tx 3) = true := by decide +kernel
theorem ck4 : ckD td 4 (tx 4) = true := by decide +kernel
theorem ck5 : ckD td 5 (tx 5) = true := by decide +kernel
theorem ck6 : ckD td 6 (tx 6) = true := by decide +kernel
theorem ck7 : ckD td 7 (tx 7) = true := by decide +kernel
theorem ck8 : ckD td 8 (tx 8) = true := by decide +kernel
theorem ck9 : ckD td 9 (tx 9) = true := by decide +kernel
theorem ck10 : ckD td 10 (tx 10) = true := by decide +kernel
theorem ck11 : ckD td 11 (tx 11) = true := by decide +kernel
theorem ck12 : ckD td 12 (tx 12) = true := by decide +kernel
theorem ck13 : ckD td 13 (tx 13) = true := by decide +kernel
theorem ck14 : ckD td 14 (tx 14) = true := by decide +kernel
theorem ck15 : ckD td 15 (tx 15) = true := by decide +kernel
theorem ck16 : ckD td 16 (tx 16) = true := by decide +kernel
theorem ck17 : ckD td 17 (tx 17) = true := by decide +kernel
theorem ck18 : ckD td 18 (tx 18) = true := by decide +kernel
theorem ck19 : ckD td 19 (tx 19) = true := by decide +kernel
theorem ck20 : ckD td 20 (tx 20) = true := by decide +kernel
theorem ck21 : ckD td 21 (tx 21) = true := by decide +kernel
theorem ck22 : ckD td 22 (tx 22) = true := by decide +kernel
theorem ck23 : ckD td 23 (tx 23) = true := by decide +kernel
theorem ck24 : ckD td 24 (tx 24) = true := by decide +kernel
theorem ck25 : ckD td 25 (tx 25) = true := by decide +kernel
theorem ck26 : ckD td 26 (tx 26) = true := by decide +kernel
theorem ck27 : ckD td 27 (tx 27) = true := by decide +kernel
theorem ck28 : ckD td 28 (tx 28) = true := by decide +kernel
theorem ck29 : ckD td 29 (tx 29) = true := by decide +kernel
theorem ck30 : ckD td 30 (tx 30) = true := by decide +kernel
theorem ck31 : ckD td 31 (tx 31) = true := by decide +kernel
theorem ck32 : ckD td 32 (tx 32) = true := by decide +kernel
theorem ck33 : ckD td 33 (tx 33) = true := by decide +kernel
theorem ck34 : ckD td 34 (tx 34) = true := by decide +kernel
theorem ck35 : ckD td 35 (tx 35) = true := by decide +kernel
theorem ck36 : ckD td 36 (tx 36) = true := by decide +kernel
theorem ck37 : ckD td 37 (tx 37) = true := by decide +kernel
theorem ck38 : ckD td 38 (tx 38) = true := by decide +kernel
theorem ck39 : ckD td 39 (tx 39) = true := by decide +kernel
theorem ck40 : ckD td 40 (tx 40) = true := by decide +kernel
theorem ck41 : ckD td 41 (tx 41) = true := by decide +kernel
theorem ck42 : ckD td 42 (tx 42) = true := by decide +kernel
theorem ck43 : ckD td 43 (tx 43) = true := by decide +kernel
theorem ck44 : ckD td 44 (tx 44) = true := by decide +kernel
theorem ck45 : ckD td 45 (tx 45) = true := by decide +kernel
theorem ck46 : ckD td 46 (tx 46) = true := by decide +kernel
theorem ck47 : ckD td 47 (tx 47) = true := by decide +kernel
theorem ck48 : ckD td 48 (tx 48) = true := by decide +kernel
theorem ck49 : ckD td 49 (tx 49) = true := by decide +kernel
theorem ck50 : ckD td 50 (tx 50) = true := by decide +kernel
theorem ck51 : ckD td 51 (tx 51) = true := by decide +kernel
theorem ck52 : ckD td 52 (tx 52) = true := by decide +kernel
theorem ck53 : ckD td 53 (tx 53) = true := by decide +kernel
theorem bd0 : BindOk (tx 0).nm (tx 0).st ["value"] := fun _ _ _ _ _ _ us hl => match us, hl with | [_], _ => rfl
theorem bd1 : BindOk (tx 1).nm (tx 1).st ["value", "low", "high"] := fun _ _ _ _ _ _ us hl => match us, hl with | [_, _, _], _ => rfl
theorem bd2 : BindOk (tx 2).nm (tx 2).st ["value", "many"] := fun _ _ _ _ _ _ us hl => match us, hl with | [_, _], _ => rfl
theorem bd3 : BindOk (tx 3).nm (tx 3).st ["value"] := fun _ _ _ _ _ _ us hl => match us, hl with | [_], _ => rfl
theorem bd4 : BindOk (tx 4).nm (tx 4).st ["row"] := fun _ _ _ _ _ _ us hl => match us, hl with | [_], _ => rfl
theorem bd5 : BindOk (tx 5).nm (tx 5).st ["row"] := fun _ _ _ _ _ _ us hl => match us, hl with | [_], _ => rfl
theorem bd6 : BindOk (tx 6).nm (tx 6).st ["row"] := fun _ _ _ _ _ _ us hl => match us, hl with | [_], _ => rfl
theorem bd7 : BindOk (tx 7).nm (tx 7).st ["value"] := fun _ _ _ _ _ _ us hl => match us, hl with | [_], _ => rfl
theorem bd8 : BindOk (tx 8).nm (tx 8).st ["tree"] := fun _ _ _ _ _ _ us hl => match us, hl with | [_], _ => rfl
theorem bd9 : BindOk (tx 9).nm (tx 9).st ["tree"] := fun _ _ _ _ _ _ us hl => match us, hl with | [_], _ => rfl
theorem bd10 : BindOk (tx 10).nm (tx 10).st ["tree"] := fun _ _ _ _ _ _ us hl => match us, hl with | [_], _ => rfl
theorem bd11 : BindOk (tx 11).nm (tx 11).st ["value"] := fun _ _ _ _ _ _ us hl => match us, hl with | [_], _ => rfl
theorem bd12 : BindOk (tx 12).nm (tx 12).st ["one", "other"] := fun _ _ _ _ _ _ us hl => match us, hl with | [_, _], _ => rfl
theorem bd13 : BindOk (tx 13).nm (tx 13).st ["one", "other"] := fun _ _ _ _ _ _ us hl => match us, hl with | [_, _], _ => rfl
theorem bd14 : BindOk (tx 14).nm (tx 14).st ["one", "other"] := fun _ _ _ _ _ _ us hl => match us, hl with | [_, _], _ => rfl
theorem bd15 : BindOk (tx 15).nm (tx 15).st ["heap", "key"] := fun _ _ _ _ _ _ us hl => match us, hl with | [_, _], _ => rfl
theorem bd16 : BindOk (tx 16).nm (tx 16).st ["heap", "key"] := fun _ _ _ _ _ _ us hl => match us, hl with | [_, _], _ => rfl
theorem bd17 : BindOk (tx 17).nm (tx 17).st ["heap"] := fun _ _ _ _ _ _ us hl => match us, hl with | [_], _ => rfl
theorem bd18 : BindOk (tx 18).nm (tx 18).st ["heap"] := fun _ _ _ _ _ _ us hl => match us, hl with | [_], _ => rfl
theorem bd19 : BindOk (tx 19).nm (tx 19).st ["row"] := fun _ _ _ _ _ _ us hl => match us, hl with | [_], _ => rfl
theorem bd20 : BindOk (tx 20).nm (tx 20).st ["row"] := fun _ _ _ _ _ _ us hl => match us, hl with | [_], _ => rfl
theorem bd21 : BindOk (tx 21).nm (tx 21).st ["row"] := fun _ _ _ _ _ _ us hl => match us, hl with | [_], _ => rfl
theorem bd22 : BindOk (tx 22).nm (tx 22).st ["row"] := fun _ _ _ _ _ _ us hl => match us, hl with | [_], _ => rfl
theorem bd23 : BindOk (tx 23).nm (tx 23).st ["heap"] := fun _ _ _ _ _ _ us hl => match us, hl with | [_], _ => rfl
theorem bd24 : BindOk (tx 24).nm (tx 24).st ["n"] := fun _ _ _ _ _ _ us hl => match us, hl with | [_], _ => rfl
theorem bd25 : BindOk (tx 25).nm (tx 25).st ["m", "n"] := fun _ _ _ _ _ _ us hl => match us, hl with | [_, _], _ => rfl
theorem bd26 : BindOk (tx 26).nm (tx 26).st ["n"] := fun _ _ _ _ _ _ us hl => match us, hl with | [_], _ => rfl
theorem bd27 : BindOk (tx 27).nm (tx 27).st ["b", "n"] := fun _ _ _ _ _ _ us hl => match us, hl with | [_, _], _ => rfl
theorem bd28 : BindOk (tx 28).nm (tx 28).st ["b", "count"] := fun _ _ _ _ _ _ us hl => match us, hl with | [_, _], _ => rfl
theorem bd29 : BindOk (tx 29).nm (tx 29).st ["b", "count"] := fun _ _ _ _ _ _ us hl => match us, hl with | [_, _], _ => rfl
theorem bd30 : BindOk (tx 30).nm (tx 30).st ["b", "count"] := fun _ _ _ _ _ _ us hl => match us, hl with | [_, _], _ => rfl
theorem bd31 : BindOk (tx 31).nm (tx 31).st ["b", "count"] := fun _ _ _ _ _ _ us hl => match us, hl with | [_, _], _ => rfl
theorem bd32 : BindOk (tx 32).nm (tx 32).st ["b", "count", "deeds"] := fun _ _ _ _ _ _ us hl => match us, hl with | [_, _, _], _ => rfl
theorem bd33 : BindOk (tx 33).nm (tx 33).st ["num", "den"] := fun _ _ _ _ _ _ us hl => match us, hl with | [_, _], _ => rfl
theorem bd34 : BindOk (tx 34).nm (tx 34).st ["b", "n"] := fun _ _ _ _ _ _ us hl => match us, hl with | [_, _], _ => rfl
theorem bd35 : BindOk (tx 35).nm (tx 35).st ["b", "m", "n"] := fun _ _ _ _ _ _ us hl => match us, hl with | [_, _, _], _ => rfl
theorem bd36 : BindOk (tx 36).nm (tx 36).st ["b"] := fun _ _ _ _ _ _ us hl => match us, hl with | [_], _ => rfl
theorem bd37 : BindOk (tx 37).nm (tx 37).st ["b", "count"] := fun _ _ _ _ _ _ us hl => match us, hl with | [_, _], _ => rfl
theorem bd38 : BindOk (tx 38).nm (tx 38).st ["script"] := fun _ _ _ _ _ _ us hl => match us, hl with | [_], _ => rfl
theorem bd39 : BindOk (tx 39).nm (tx 39).st ["bag", "below"] := fun _ _ _ _ _ _ us hl => match us, hl with | [_, _], _ => rfl
theorem bd40 : BindOk (tx 40).nm (tx 40).st ["bag", "some"] := fun _ _ _ _ _ _ us hl => match us, hl with | [_, _], _ => rfl
theorem bd41 : BindOk (tx 41).nm (tx 41).st ["told", "due"] := fun _ _ _ _ _ _ us hl => match us, hl with | [_, _], _ => rfl
theorem bd42 : BindOk (tx 42).nm (tx 42).st ["n"] := fun _ _ _ _ _ _ us hl => match us, hl with | [_], _ => rfl
theorem bd43 : BindOk (tx 43).nm (tx 43).st ["m", "n"] := fun _ _ _ _ _ _ us hl => match us, hl with | [_, _], _ => rfl
theorem bd44 : BindOk (tx 44).nm (tx 44).st ["tree"] := fun _ _ _ _ _ _ us hl => match us, hl with | [_], _ => rfl
theorem bd45 : BindOk (tx 45).nm (tx 45).st ["heap"] := fun _ _ _ _ _ _ us hl => match us, hl with | [_], _ => rfl
theorem bd46 : BindOk (tx 46).nm (tx 46).st ["heap"] := fun _ _ _ _ _ _ us hl => match us, hl with | [_], _ => rfl
theorem bd47 : BindOk (tx 47).nm (tx 47).st ["n"] := fun _ _ _ _ _ _ us hl => match us, hl with | [_], _ => rfl
theorem bd48 : BindOk (tx 48).nm (tx 48).st ["bag", "n"] := fun _ _ _ _ _ _ us hl => match us, hl with | [_, _], _ => rfl
theorem bd49 : BindOk (tx 49).nm (tx 49).st ["bag", "n"] := fun _ _ _ _ _ _ us hl => match us, hl with | [_, _], _ => rfl
theorem bd50 : BindOk (tx 50).nm (tx 50).st ["bag", "m", "n"] := fun _ _ _ _ _ _ us hl => match us, hl with | [_, _, _], _ => rfl
theorem bd51 : BindOk (tx 51).nm (tx 51).st ["bag", "n"] := fun _ _ _ _ _ _ us hl => match us, hl with | [_, _], _ => rfl
theorem bd52 : BindOk (tx 52).nm (tx 52).st ["bag"] := fun _ _ _ _ _ _ us hl => match us, hl with | [_], _ => rfl
theorem bd53 : BindOk (tx 53).nm (tx 53).st ["script"] := fun _ _ _ _ _ _ us hl => match us, hl with | [_], _ => rfl
theorem sg0 : SigAt (tx 21).nm (tx 21).st ["row"] ["row"] 0 [0] := fun _ _ _ _ _ _ us ws h1 h2 => match us, ws, h1, h2 with | [], [_], _, _ => rfl
theorem sg1 : SigAt (tx 26).nm (tx 26).st ["n"] ["n"] 0 [0] := fun _ _ _ _ _ _ us ws h1 h2 => match us, ws, h1, h2 with | [], [_], _, _ => rfl
theorem sg2 : SigAt (tx 16).nm (tx 16).st ["heap", "key"] ["key", "heap"] 0 [1, 0] := fun _ _ _ _ _ _ us ws h1 h2 => match us, ws, h1, h2 with | [], [_, _], _, _ => rfl
theorem sg3 : SigAt (tx 14).nm (tx 14).st ["one", "other"] ["other", "one"] 0 [1, 0] := fun _ _ _ _ _ _ us ws h1 h2 => match us, ws, h1, h2 with | [], [_, _], _, _ => rfl
theorem sg4 : SigAt (tx 25).nm (tx 25).st ["m", "n"] ["n", "m"] 0 [1, 0] := fun _ _ _ _ _ _ us ws h1 h2 => match us, ws, h1, h2 with | [], [_, _], _, _ => rfl
theorem sg5 : SigAt (tx 18).nm (tx 18).st ["heap"] ["heap"] 0 [0] := fun _ _ _ _ _ _ us ws h1 h2 => match us, ws, h1, h2 with | [], [_], _, _ => rfl
theorem sg6 : SigAt (tx 20).nm (tx 20).st ["row"] ["row"] 0 [0] := fun _ _ _ _ _ _ us ws h1 h2 => match us, ws, h1, h2 with | [], [_], _, _ => rfl
theorem sg7 : SigAt (tx 22).nm (tx 22).st ["row"] ["row"] 0 [0] := fun _ _ _ _ _ _ us ws h1 h2 => match us, ws, h1, h2 with | [], [_], _, _ => rfl
theorem sg_all : ∀ (f n : Nat) (ks : List Str) (perm : List Nat), (f, n, ks, perm) ∈ td.sg → ∃ ps, td.ps[f]? = some ps ∧ SigAt (tx f).nm (tx f).st ps ks n perm := by
  have h : ∀ x ∈ td.sg, ∃ ps, td.ps[x.1]? = some ps ∧ SigAt (tx x.1).nm (tx x.1).st ps x.2.2.1 x.2.1 x.2.2.2 :=
    (mc ⟨_, rfl, sg0⟩
    (mc ⟨_, rfl, sg1⟩
    (mc ⟨_, rfl, sg2⟩
    (mc ⟨_, rfl, sg3⟩
    (mc ⟨_, rfl, sg4⟩
    (mc ⟨_, rfl, sg5⟩
    (mc ⟨_, rfl, sg6⟩
    (mc ⟨_, rfl, sg7⟩
    mc0))))))))
  exact fun f n ks perm hm => h (f, n, ks, perm) hm
theorem txok : TxOk td tx := {
  nm := (ac rfl
  (ac rfl
  (ac rfl
  (ac rfl
  (ac rfl
  (ac rfl
  (ac rfl
  (ac rfl
  (ac rfl
  (ac rfl
  (ac rfl
  (ac rfl
  (ac rfl
  (ac rfl
  (ac rfl
  (ac rfl
  (ac rfl
  (ac rfl
  (ac rfl
  (ac rfl
  (ac rfl
  (ac rfl
  (ac rfl
  (ac rfl
  (ac rfl
  (ac rfl
  (ac rfl
  (ac rfl
  (ac rfl
  (ac rfl
  (ac rfl
  (ac rfl
  (ac rfl
  (ac rfl
  (ac rfl
  (ac rfl
  (ac rfl
  (ac rfl
  (ac rfl
  (ac rfl
  (ac rfl
  (ac rfl
  (ac rfl
  (ac rfl
  (ac rfl
  (ac rfl
  (ac rfl
  (ac rfl
  (ac rfl
  (ac rfl
  (ac rfl
  (ac rfl
  (ac rfl
  (ac rfl
  ac0))))))))))))))))))))))))))))))))))))))))))))))))))))))
  ln := (ac ⟨_, rfl⟩
  (ac ⟨_, rfl⟩
  (ac ⟨_, rfl⟩
  (ac ⟨_, rfl⟩
  (ac ⟨_, rfl⟩
  (ac ⟨_, rfl⟩
  (ac ⟨_, rfl⟩
  (ac ⟨_, rfl⟩
  (ac ⟨_, rfl⟩
  (ac ⟨_, rfl⟩
  (ac ⟨_, rfl⟩
  (ac ⟨_, rfl⟩
  (ac ⟨_, rfl⟩
  (ac ⟨_, rfl⟩
  (ac ⟨_, rfl⟩
  (ac ⟨_, rfl⟩
  (ac ⟨_, rfl⟩
  (ac ⟨_, rfl⟩
  (ac ⟨_, rfl⟩
  (ac ⟨_, rfl⟩
  (ac ⟨_, rfl⟩
  (ac ⟨_, rfl⟩
  (ac ⟨_, rfl⟩
  (ac ⟨_, rfl⟩
  (ac ⟨_, rfl⟩
  (ac ⟨_, rfl⟩
  (ac ⟨_, rfl⟩
  (ac ⟨_, rfl⟩
  (ac ⟨_, rfl⟩
  (ac ⟨_, rfl⟩
  (ac ⟨_, rfl⟩
  (ac ⟨_, rfl⟩
  (ac ⟨_, rfl⟩
  (ac ⟨_, rfl⟩
  (ac ⟨_, rfl⟩
  (ac ⟨_, rfl⟩
  (ac ⟨_, rfl⟩
  (ac ⟨_, rfl⟩
  (ac ⟨_, rfl⟩
  (ac ⟨_, rfl⟩
  (ac ⟨_, rfl⟩
  (ac ⟨_, rfl⟩
  (ac ⟨_, rfl⟩
  (ac ⟨_, rfl⟩
  (ac ⟨_, rfl⟩
  (ac ⟨_, rfl⟩
  (ac ⟨_, rfl⟩
  (ac ⟨_, rfl⟩
  (ac ⟨_, rfl⟩
  (ac ⟨_, rfl⟩
  (ac ⟨_, rfl⟩
  (ac ⟨_, rfl⟩
  (ac ⟨_, rfl⟩
  (ac ⟨_, rfl⟩
  ac0))))))))))))))))))))))))))))))))))))))))))))))))))))))
  bd := (ac bd0
  (ac bd1
  (ac bd2
  (ac bd3
  (ac bd4
  (ac bd5
  (ac bd6
  (ac bd7
  (ac bd8
  (ac bd9
  (ac bd10
  (ac bd11
  (ac bd12
  (ac bd13
  (ac bd14
  (ac bd15
  (ac bd16
  (ac bd17
  (ac bd18
  (ac bd19
  (ac bd20
  (ac bd21
  (ac bd22
  (ac bd23
  (ac bd24
  (ac bd25
  (ac bd26
  (ac bd27
  (ac bd28
  (ac bd29
  (ac bd30
  (ac bd31
  (ac bd32
  (ac bd33
  (ac bd34
  (ac bd35
  (ac bd36
  (ac bd37
  (ac bd38
  (ac bd39
  (ac bd40
  (ac bd41
  (ac bd42
  (ac bd43
  (ac bd44
  (ac bd45
  (ac bd46
  (ac bd47
  (ac bd48
  (ac bd49
  (ac bd50
  (ac bd51
  (ac bd52
  (ac bd53
  ac0))))))))))))))))))))))))))))))))))))))))))))))))))))))
  sg := sg_all
  ck := (ac ck0
  (ac ck1
  (ac ck2
  (ac ck3
  (ac ck4
  (ac ck5
  (ac ck6
  (ac ck7
  (ac ck8
  (ac ck9
  (ac ck10
  (ac ck11
  (ac ck12
  (ac ck13
  (ac ck14
  (ac ck15
  (ac ck16
  (ac ck17
  (ac ck18
  (ac ck19
  (ac ck20
  (ac ck21
  (ac ck22
  (ac ck23
  (ac ck24
  (ac ck25
  (ac ck26
  (ac ck27
  (ac ck28
  (ac ck29
  (ac ck30
  (ac ck31
  (ac ck32
  (ac ck33
  (ac ck34
  (ac ck35
  (ac ck36
  (ac ck37
  (ac ck38
  (ac ck39
  (ac ck40
  (ac ck41
  (ac ck42
  (ac ck43
  (ac ck44
  (ac ck45
  (ac ck46
  (ac ck47
  (ac ck48
  (ac ck49
  (ac ck50
  (ac ck51
  (ac ck52
  (ac ck53
  ac0)))))))))))))))))))))))))))))))))))))))))))))))))))))) }
end K76

set_option Elab.async false
set_option linter.all false
set_option maxRecDepth 100000
set_option maxHeartbeats 4000000
/-! K76m: trees, and what the defs tell of good ones. -/
namespace K76
open PySem PF

inductive BT where
  | nd (key : Int) (cs : List BT)
def BT.key : BT → Int
  | .nd k _ => k
def BT.cs : BT → List BT
  | .nd _ c => c
mutual
def BT.enc : BT → D
  | .nd k cs => .tup [.int k, .tup (BT.encs cs)]
def BT.encs : List BT → List D
  | [] => []
  | t :: r => t.enc :: BT.encs r
end
theorem encs_map : ∀ cs : List BT, BT.encs cs = cs.map BT.enc
  | [] => rfl
  | t :: r => by rw [BT.encs, encs_map r, List.map_cons]
@[simp] theorem enc_nd (k : Int) (cs : List BT) : (BT.nd k cs).enc = .tup [.int k, .tup (cs.map BT.enc)] := by rw [BT.enc, encs_map]
theorem enc_eq (t : BT) : t.enc = .tup [.int t.key, .tup (t.cs.map BT.enc)] := by
  cases t
  rw [enc_nd]
  rfl
@[simp] theorem enc_0 (t : BT) : idxF t.enc (.int 0) = some (.int t.key) := by
  rw [enc_eq]
  rfl
@[simp] theorem enc_1 (t : BT) : idxF t.enc (.int 1) = some (.tup (t.cs.map BT.enc)) := by
  rw [enc_eq]
  rfl
@[simp] theorem key_nd (k : Int) (cs : List BT) : (BT.nd k cs).key = k := rfl
@[simp] theorem cs_nd (k : Int) (cs : List BT) : (BT.nd k cs).cs = cs := rfl
/-- a good tree of that order: keys within the bounds, the i-th part of order i, keys fall to the root -/
inductive G : Nat → BT → Prop
  | nd {key : Int} {cs : List BT} : -1000 ≤ key → key ≤ 1000 → (∀ (i : Nat) (c : BT), cs[i]? = some c → G i c) → (∀ c ∈ cs, key ≤ c.key) → G cs.length (.nd key cs)
@[simp] theorem atI2_0 (a b : D) : L2.atI [a, b] 0 = some a := rfl
@[simp] theorem atI2_1 (a b : D) : L2.atI [a, b] 1 = some b := rfl
@[simp] theorem atI1_0 (a : D) : L2.atI [a] 0 = some a := rfl
abbrev C (n : Nat) : Call := callF td.fs n
theorem c0 (n : Nat) (i : Int) (m : Mem) : C (n + 1) 0 [.int i] m = .ok (.bl true) m := by
  rw [C, callF_at (k := 0) rfl _ _ _ rfl]
  simp [b_is_integer]
theorem c1 (n : Nat) (i lo hi : Int) (m : Mem) : C (n + 2) 1 [.int i, .int lo, .int hi] m = .ok (.bl (decide (lo ≤ i) && decide (i ≤ hi))) m := by
  rw [C, callF_at (k := 1) rfl _ _ _ rfl]
  have h := c0 n i m
  simp [b_is_whole, C] at h ⊢
  simp [h]
  by_cases h1 : lo ≤ i
  · simp [h1]
  · simp [h1]
theorem c2 (n : Nat) (xs : List D) (k : Int) (m : Mem) : C (n + 1) 2 [.tup xs, .int k] m = .ok (.bl ((xs.length : Int) == k)) m := by
  rw [C, callF_at (k := 2) rfl _ _ _ rfl]
  simp [b_is_tuple]
theorem c3 (n : Nat) (i : Int) (m : Mem) : C (n + 3) 3 [.int i] m = .ok (.bl (decide (-1000 ≤ i) && decide (i ≤ 1000))) m := by
  rw [C, callF_at (k := 3) rfl _ _ _ rfl]
  have h := c1 n i (-1000) 1000 m
  simp [b_is_key, C] at h ⊢
  simp [h]
/-- a comprehension over trees' parts, told by place -/
theorem all_true (n : Nat) : biF .all [.lst (List.replicate n (D.bl true))] = some (.bl true) := by
  have := bi_all (List.replicate n true)
  rw [List.map_replicate] at this
  rw [this]
  simp
theorem c7 {k : Nat} {t : BT} (h : G k t) : ∀ (n : Nat) (m : Mem), C (n + k + 5) 7 [t.enc] m = .ok (.bl true) m := by
  induction h with
  | @nd key cs k1 k2 hc hk ih =>
    intro n m
    rw [C, callF_at (k := 7) rfl _ _ _ rfl]
    have e2 := c2 (n + cs.length + 3) [.int key, .tup (cs.map BT.enc)] 2 m
    have e3 := c3 (n + cs.length + 1) key m
    have hx : ∀ c ∈ cs, callF td.fs (n + cs.length + 4) 7 [c.enc] m = .ok (.bl true) m := fun c hcm => by
      obtain ⟨i, hi⟩ := List.mem_iff_getElem?.mp hcm
      have hl := (List.getElem?_eq_some_iff.mp hi).1
      have := ih i c hi (n + (cs.length - i - 1)) m
      rw [show n + (cs.length - i - 1) + i + 5 = n + cs.length + 4 from by omega] at this
      exact this
    have hcomp : compL (compW (evT (callF td.fs (n + cs.length + 4)) .tru) (evE (callF td.fs (n + cs.length + 4)) (.call 7 (.cons (.var 1) .nil))) (.nm 1) [.val (BT.nd key cs).enc, .no]) (cs.map BT.enc) m = .ok ((List.replicate cs.length true).map D.bl) m := by
      rw [compL_map (enc := BT.enc) (g := fun _ => some (.bl true)) cs fun c hcm => by simp [compW, hx c hcm]]
      simp [List.map_const']
    simp [b_is_keyed, C, List.replicate] at e2 e3 hcomp ⊢
    simp [e2, e3, k1, k2, hcomp, all_true]
mutual
def BT.size : BT → Nat
  | .nd _ cs => BT.sizes cs + 1
def BT.sizes : List BT → Nat
  | [] => 0
  | t :: r => t.size + BT.sizes r
end
theorem sizes_sum : ∀ cs : List BT, ((cs.map fun c => (c.size : Int)).sum) = (BT.sizes cs : Nat)
  | [] => rfl
  | t :: r => by
    rw [List.map_cons, List.sum_cons, sizes_sum r, BT.sizes]
    omega
theorem c8 {k : Nat} {t : BT} (h : G k t) : ∀ (n : Nat) (m : Mem), C (n + k + 1) 8 [t.enc] m = .ok (.int t.size) m := by
  induction h with
  | @nd key cs k1 k2 hc hk ih =>
    intro n m
    rw [C, callF_at (k := 8) rfl _ _ _ rfl]
    have hx : ∀ c ∈ cs, callF td.fs (n + cs.length) 8 [c.enc] m = .ok (.int c.size) m := fun c hcm => by
      obtain ⟨i, hi⟩ := List.mem_iff_getElem?.mp hcm
      have hl := (List.getElem?_eq_some_iff.mp hi).1
      have := ih i c hi (n + (cs.length - i - 1)) m
      rw [show n + (cs.length - i - 1) + i + 1 = n + cs.length from by omega] at this
      exact this
    have hcomp : compL (compW (evT (callF td.fs (n + cs.length)) .tru) (evE (callF td.fs (n + cs.length)) (.call 8 (.cons (.var 1) .nil))) (.nm 1) [.val (BT.nd key cs).enc, .no]) (cs.map BT.enc) m = .ok ((cs.map fun c => (c.size : Int)).map D.int) m := by
      rw [compL_map (enc := BT.enc) (g := fun c => some (.int c.size)) cs fun c hcm => by simp [compW, hx c hcm]]
      simp
    have hs := bi_sumL (cs.map fun c => (c.size : Int))
    rw [sizes_sum] at hs
    simp [b_tree_size, C, List.replicate] at hcomp hs ⊢
    simp [hcomp, hs, BT.size]
    omega
theorem enumR_enc (cs : List BT) : enumR (cs.map BT.enc) = cs.zipIdx.map fun p => D.tup [.int (p.2 : Nat), p.1.enc] := by
  unfold enumR
  rw [List.zipIdx_map, List.map_map]
  rfl
theorem c9 {k : Nat} {t : BT} (h : G k t) : ∀ (n : Nat) (m : Mem), C (n + k + 1) 9 [t.enc] m = .ok (.bl true) m := by
  induction h with
  | @nd key cs k1 k2 hc hk ih =>
    intro n m
    rw [C, callF_at (k := 9) rfl _ _ _ rfl]
    have hx : ∀ p ∈ cs.zipIdx, callF td.fs (n + cs.length) 9 [p.1.enc] m = .ok (.bl true) m ∧ p.1.cs.length = p.2 := fun p hp => by
      obtain ⟨c, i⟩ := p
      have hi : cs[i]? = some c := List.mem_zipIdx_iff_getElem?.mp hp
      have hl := (List.getElem?_eq_some_iff.mp hi).1
      have := ih i c hi (n + (cs.length - i - 1)) m
      rw [show n + (cs.length - i - 1) + i + 1 = n + cs.length from by omega] at this
      refine ⟨this, ?_⟩
      have g := hc i c hi
      cases g
      rfl
    have hcomp : compL (compW (evT (callF td.fs (n + cs.length)) .tru) (evE (callF td.fs (n + cs.length)) (.andv (.cmp .eq (.bi .len (.cons (.idx (.var 2) (.cn (.int 1))) .nil)) (.var 1)) (.one (.call 9 (.cons (.var 2) .nil))))) (.tup (.cons (.nm 1) (.cons (.nm 2) .nil))) [.val (BT.nd key cs).enc, .no, .no]) (enumR (cs.map BT.enc)) m = .ok (List.replicate cs.length (D.bl true)) m := by
      rw [enumR_enc, compL_map (enc := fun p : BT × Nat => D.tup [.int (p.2 : Nat), p.1.enc]) (g := fun _ => some (.bl true)) cs.zipIdx fun p hp => by
        obtain ⟨h1, h2⟩ := hx p hp
        simp [compW, h2, h1]]
      simp [List.map_const']
    simp [b_is_whole_tree, C, List.replicate] at hcomp ⊢
    simp [hcomp, all_true]
theorem c10 {k : Nat} {t : BT} (h : G k t) : ∀ (n : Nat) (m : Mem), C (n + k + 1) 10 [t.enc] m = .ok (.bl true) m := by
  induction h with
  | @nd key cs k1 k2 hc hk ih =>
    intro n m
    rw [C, callF_at (k := 10) rfl _ _ _ rfl]
    have hx : ∀ c ∈ cs, callF td.fs (n + cs.length) 10 [c.enc] m = .ok (.bl true) m := fun c hcm => by
      obtain ⟨i, hi⟩ := List.mem_iff_getElem?.mp hcm
      have hl := (List.getElem?_eq_some_iff.mp hi).1
      have := ih i c hi (n + (cs.length - i - 1)) m
      rw [show n + (cs.length - i - 1) + i + 1 = n + cs.length from by omega] at this
      exact this
    have hcomp : compL (compW (evT (callF td.fs (n + cs.length)) .tru) (evE (callF td.fs (n + cs.length)) (.andv (.cmp .ge (.idx (.var 1) (.cn (.int 0))) (.idx (.var 0) (.cn (.int 0)))) (.one (.call 10 (.cons (.var 1) .nil))))) (.nm 1) [.val (BT.nd key cs).enc, .no]) (cs.map BT.enc) m = .ok (List.replicate cs.length (D.bl true)) m := by
      rw [compL_map (enc := BT.enc) (g := fun _ => some (.bl true)) cs fun c hcm => by
        have h1 := hx c hcm
        have h2 := hk c hcm
        simp [compW, h2, h1]]
      simp [List.map_const']
    simp [b_is_falling, C, List.replicate] at hcomp ⊢
    simp [hcomp, all_true]
/-! ### links -/
def link (a b : BT) : BT := if a.key ≤ b.key then .nd a.key (a.cs ++ [b]) else .nd b.key (b.cs ++ [a])
theorem c12 (n : Nat) (a b : BT) (m : Mem) (h1 : a.cs.length ≤ 1000) (h2 : b.cs.length ≤ 1000) : C (n + 1) 12 [a.enc, b.enc] m = .ok (link a b).enc m := by
  rw [C, callF_at (k := 12) rfl _ _ _ rfl]
  have z : ∀ k : Nat, k ≤ 1000 → k + 1 ≤ sizeLine := fun k hk => by
    have : (1001 : Nat) ≤ sizeLine := by decide
    omega
  rw [enc_eq a, enc_eq b, link]
  by_cases hab : a.key ≤ b.key
  · simp [b_linked_trees, hab, z _ h1]
    rw [enc_eq b]
  · simp [b_linked_trees, hab, z _ h2]
    rw [enc_eq a]
theorem G.order {k : Nat} {t : BT} (h : G k t) : t.cs.length = k := by
  cases h
  rfl
theorem G.keyb {k : Nat} {t : BT} (h : G k t) : -1000 ≤ t.key ∧ t.key ≤ 1000 := by
  cases h with
  | nd h1 h2 _ _ => exact ⟨h1, h2⟩
theorem G.link {k : Nat} {a b : BT} (ha : G k a) (hb : G k b) : G (k + 1) (link a b) := by
  have one : ∀ {a b : BT}, G k a → G k b → a.key ≤ b.key → G (k + 1) (.nd a.key (a.cs ++ [b])) := fun {a b} ha hb hab => by
    cases ha with
    | @nd key cs h1 h2 h3 h4 =>
      have e : cs.length + 1 = (cs ++ [b]).length := by simp
      show G (cs.length + 1) _
      rw [e]
      refine G.nd h1 h2 (fun i c hc => ?_) fun c hc => ?_
      · by_cases hi : i < cs.length
        · have hc : (cs ++ [b])[i]? = some c := hc
          rw [List.getElem?_append_left hi] at hc
          exact h3 i c hc
        · have hc : (cs ++ [b])[i]? = some c := hc
          rw [List.getElem?_append_right (by omega)] at hc
          have hz : i - cs.length = 0 := by
            have := (List.getElem?_eq_some_iff.mp hc).1
            simp at this
            omega
          rw [hz] at hc
          have : b = c := by simpa using hc
          subst this
          have : i = cs.length := by omega
          rw [this]
          exact hb
      · rcases List.mem_append.mp hc with hc | hc
        · exact h4 c hc
        · have : c = b := by simpa using hc
          subst this
          exact hab
  unfold K76.link
  split
  · exact one ha hb (by assumption)
  · exact one hb ha (by omega)
/-! ### joining -/
structure JS where
  found : List BT
  carried : List BT
  links : Nat
def jstep (T : List BT) (s : JS) (k : Nat) : JS :=
  let here := s.carried ++ T.filter fun t => t.cs.length == k
  match here.reverse with
  | b :: a :: r => ⟨s.found ++ r.reverse, [link a b], s.links + 1⟩
  | _ => ⟨s.found ++ here, [], s.links⟩
def maxOrd (T : List BT) : Nat := T.foldl (fun m t => max m t.cs.length) 0
def jrun (T : List BT) : JS := (List.range (maxOrd T + 2)).foldl (jstep T) ⟨[], [], 0⟩
theorem cut_last2 (xs : List D) (a b : D) : cutD (xs ++ [a, b]) none (some (-2)) = xs := by
  unfold cutD HT.sIx
  have e : (xs ++ [a, b]).length = xs.length + 2 := by simp
  simp [e]
  rw [show ((-2 : Int) + ((xs.length : Int) + 2)).toNat = xs.length from by omega]
  simp
theorem at_last2 (xs : List D) (a b : D) : L2.atI (xs ++ [a, b]) (-2) = some a ∧ L2.atI (xs ++ [a, b]) (-1) = some b := by
  have e : (xs ++ [a, b]).length = xs.length + 2 := by simp
  constructor
  · unfold L2.atI L2.ixN
    rw [e]
    simp
    rw [if_pos (by omega)]
    simp
    rw [show ((-2 : Int) + ((xs.length : Int) + 2)).toNat = xs.length from by omega]
    simp
  · unfold L2.atI L2.ixN
    rw [e]
    simp
    rw [if_pos (by omega)]
    simp
    rw [show ((-1 : Int) + ((xs.length : Int) + 2)).toNat = xs.length + 1 from by omega]
    simp
theorem filterMap_if {α β : Type} (p : α → Bool) (g : α → β) : ∀ l : List α, l.filterMap (fun t => if p t then some (g t) else none) = (l.filter p).map g
  | [] => rfl
  | t :: r => by
    rw [List.filterMap_cons, List.filter_cons, filterMap_if p g r]
    cases p t <;> rfl
def jbody : Ss := (.cons (.asg (.nm 7) (.fr (.cat (.var 5) (.fr (.comp [8] (.nm 8) (.ex (.bin .add (.var 0) (.var 1))) (.cmp (.cmp .eq (.bi .len (.cons (.idx (.var 8) (.cn (.int 1))) .nil)) (.var 3))) (.var 8))))))
  (.cons (.asg (.nm 5) (.fr (.lst .nil)))
  (.cons (.ifs (.cmp (.cmp .gt (.bi .len (.cons (.var 7) .nil)) (.cn (.int 1)))) (.cons (.par [(5, .val (.fr (.lst (.cons (.call 12 (.cons (.idx (.var 7) (.neg (.cn (.int 2)))) (.cons (.idx (.var 7) (.neg (.cn (.int 1)))) .nil))) .nil)))), (6, .val (.bin .add (.var 6) (.cn (.int 1))))])
  (.cons (.asg (.nm 7) (.fr (.slc (.var 7) .no (.so (.neg (.cn (.int 2)))))))
  .nil)) .nil)
  (.cons (.ext 4 (.var 7))
  .nil))))
def jenv (A B : List BT) (orders : D) (t3 t7 : Sl) (s : JS) : List Sl := [.val (.tup (A.map BT.enc)), .val (.tup (B.map BT.enc)), .val orders, t3, .own (s.found.map BT.enc), .val (.lst (s.carried.map BT.enc)), .val (.int s.links), t7, .no]
theorem jturn (n : Nat) (A B : List BT) (orders : D) (t3 t7 : Sl) (s : JS) (k : Nat) (m : Mem) (hs : s.found.length + s.carried.length + (A ++ B).length ≤ 1000) (ho : ∀ t ∈ s.carried ++ (A ++ B), t.cs.length ≤ 1000) :
    ∃ t3' t7', forW (evSs (C (n + 1)) jbody) (.nm 3) (.int (k : Nat)) (jenv A B orders t3 t7 s) m = .nxt (jenv A B orders t3' t7' (jstep (A ++ B) s k)) m := by
  have z : ∀ j : Nat, j ≤ 5000 → j ≤ sizeLine := fun j hj => by
    have : (5000 : Nat) ≤ sizeLine := by decide
    omega
  have zAB : A.length + B.length ≤ sizeLine := z _ (by rw [List.length_append] at hs; omega)
  have hcomp : compL (compW (evT (callF td.fs (n + 1)) (.cmp (.cmp .eq (.bi .len (.cons (.idx (.var 8) (.cn (.int 1))) .nil)) (.var 3)))) (evE (callF td.fs (n + 1)) (.var 8)) (.nm 8) [.val (.tup (A.map BT.enc)), .val (.tup (B.map BT.enc)), .val orders, .val (.int (k : Nat)), .own (s.found.map BT.enc), .val (.lst (s.carried.map BT.enc)), .val (.int s.links), t7, .no]) ((A ++ B).map BT.enc) m =
      .ok (((A ++ B).filter fun t => t.cs.length == k).map BT.enc) m := by
    rw [compL_map (enc := BT.enc) (g := fun t => if t.cs.length == k then some t.enc else none) (A ++ B) fun t _ => by
      by_cases h : t.cs.length = k
      · simp [compW, h]
      · have h' : ¬ ((t.cs.length : Int) = (k : Int)) := by omega
        simp [compW, h, h']]
    rw [filterMap_if (fun t : BT => t.cs.length == k) BT.enc]
  rw [List.map_append] at hcomp
  generalize hF : (A ++ B).filter (fun t => t.cs.length == k) = F at hcomp
  have hFl : F.length ≤ (A ++ B).length := by
    rw [← hF]
    exact List.length_filter_le _ _
  have hFm : ∀ t ∈ F, t ∈ A ++ B := fun t ht => by
    rw [← hF] at ht
    exact (List.mem_filter.mp ht).1
  generalize hh : s.carried ++ F = here
  have hlen : here.length ≤ 1000 := by
    rw [← hh, List.length_append]
    omega
  have hmap : s.carried.map BT.enc ++ F.map BT.enc = here.map BT.enc := by rw [← hh, List.map_append]
  have zh : s.carried.length + F.length ≤ sizeLine := z _ (by
    have : here.length = s.carried.length + F.length := by rw [← hh, List.length_append]
    omega)
  have small : here.length ≤ 1 → jstep (A ++ B) s k = ⟨s.found ++ here, [], s.links⟩ → ∃ t3' t7', forW (evSs (C (n + 1)) jbody) (.nm 3) (.int (k : Nat)) (jenv A B orders t3 t7 s) m = .nxt (jenv A B orders t3' t7' (jstep (A ++ B) s k)) m := fun hl hj => by
    refine ⟨.val (.int (k : Nat)), .val (.lst (here.map BT.enc)), ?_⟩
    rw [hj]
    have zf : s.found.length + here.length ≤ sizeLine := z _ (by omega)
    have hl' : ¬ (1 : Int) < (here.length : Nat) := by omega
    simp [forW, jbody, jenv, zAB, C, hcomp, zh, hmap, zf, hl']
  rcases hr : here.reverse with _ | ⟨b, _ | ⟨a, r⟩⟩
  · have he : here = [] := by simpa using hr
    refine small (by rw [he]; exact Nat.zero_le _) ?_
    unfold jstep
    simp only [hF, hh, hr]
  · have he : here = [b] := by
      have := congrArg List.reverse hr
      simpa using this
    refine small (by rw [he]; exact Nat.le_refl _) ?_
    unfold jstep
    simp only [hF, hh, hr]
  · have he : here = r.reverse ++ [a, b] := by
      have := congrArg List.reverse hr
      simpa using this
    have hj : jstep (A ++ B) s k = ⟨s.found ++ r.reverse, [link a b], s.links + 1⟩ := by
      unfold jstep
      simp only [hF, hh, hr]
    have hall : ∀ t ∈ here, t.cs.length ≤ 1000 := fun t ht => ho t (by
      rw [← hh] at ht
      rcases List.mem_append.mp ht with ht | ht
      · exact List.mem_append_left _ ht
      · exact List.mem_append_right _ (hFm t ht))
    have e12 := c12 n a b m (hall a (by rw [he]; simp)) (hall b (by rw [he]; simp))
    have hm : here.map BT.enc = (r.reverse).map BT.enc ++ [a.enc, b.enc] := by
      rw [he, List.map_append]
      rfl
    obtain ⟨a1, a2⟩ := at_last2 ((r.reverse).map BT.enc) a.enc b.enc
    have a3 := cut_last2 ((r.reverse).map BT.enc) a.enc b.enc
    have hln : (1 : Int) < (here.length : Nat) := by
      rw [he]
      simp
      omega
    have zf : s.found.length + r.length ≤ sizeLine := z _ (by
      have : here.length = r.length + 2 := by rw [he]; simp
      omega)
    refine ⟨.val (.int (k : Nat)), .val (.lst ((r.reverse).map BT.enc)), ?_⟩
    rw [hj]
    rw [← hm] at a1 a2 a3
    simp [forW, jbody, jenv, zAB, C, hcomp, zh, hmap, hln] at a1 a2 a3 e12 ⊢
    simp [a1, a2, a3, e12, zf]
end K76

set_option Elab.async false
set_option linter.all false
set_option maxRecDepth 100000
set_option maxHeartbeats 4000000
/-! K76n: joining: what stays. -/
namespace K76
open PySem PF

mutual
def BT.keys : BT → List Int
  | .nd k cs => k :: BT.keysL cs
def BT.keysL : List BT → List Int
  | [] => []
  | t :: r => t.keys ++ BT.keysL r
end
theorem keysL_append : ∀ a b : List BT, BT.keysL (a ++ b) = BT.keysL a ++ BT.keysL b
  | [], b => rfl
  | t :: r, b => by rw [List.cons_append, BT.keysL, BT.keysL, keysL_append r b, List.append_assoc]
theorem keys_eq (t : BT) : t.keys = t.key :: BT.keysL t.cs := by
  cases t
  rw [BT.keys]
  rfl
theorem keys_link (a b : BT) : (link a b).keys.Perm (a.keys ++ b.keys) := by
  unfold link
  split
  · rw [keys_eq, key_nd, cs_nd, keysL_append, keys_eq a, BT.keysL, BT.keysL, List.append_nil]
    exact .refl _
  · rw [keys_eq, key_nd, cs_nd, keysL_append, keys_eq b, BT.keysL, BT.keysL, List.append_nil]
    exact List.perm_append_comm (l₁ := b.key :: BT.keysL b.cs) (l₂ := a.keys)
theorem keysL_perm {a b : List BT} (h : a.Perm b) : (BT.keysL a).Perm (BT.keysL b) := by
  induction h with
  | nil => exact .refl _
  | cons x _ ih =>
    rw [BT.keysL, BT.keysL]
    exact ih.append_left _
  | swap x y l =>
    rw [BT.keysL, BT.keysL, BT.keysL, BT.keysL, ← List.append_assoc, ← List.append_assoc]
    exact (List.perm_append_comm).append_right _
  | trans _ _ ih1 ih2 => exact ih1.trans ih2
abbrev BT.ord (t : BT) : Nat := t.cs.length
def wsum : List BT → Nat
  | [] => 0
  | t :: r => 2 ^ t.ord + wsum r
theorem wsum_append : ∀ a b : List BT, wsum (a ++ b) = wsum a + wsum b
  | [], b => by rw [List.nil_append, wsum, Nat.zero_add]
  | t :: r, b => by rw [List.cons_append, wsum, wsum, wsum_append r b, Nat.add_assoc]
theorem wsum_perm {a b : List BT} (h : a.Perm b) : wsum a = wsum b := by
  induction h with
  | nil => rfl
  | cons x _ ih => rw [wsum, wsum, ih]
  | swap x y l =>
    rw [wsum, wsum, wsum, wsum]
    omega
  | trans _ _ ih1 ih2 => exact ih1.trans ih2
/-- the trees of order k or more, parted -/
theorem part (T : List BT) (k : Nat) : (T.filter fun t => decide (k ≤ t.ord)).Perm ((T.filter fun t => t.cs.length == k) ++ T.filter fun t => decide (k + 1 ≤ t.ord)) := by
  induction T with
  | nil => exact .refl _
  | cons t r ih =>
    by_cases h1 : t.cs.length = k
    · have e1 : decide (k ≤ t.ord) = true := decide_eq_true (by show k ≤ t.cs.length; omega)
      have e2 : (t.cs.length == k) = true := by simpa using h1
      have e3 : ¬ decide (k + 1 ≤ t.ord) = true := by
        rw [decide_eq_true_eq]
        show ¬ k + 1 ≤ t.cs.length
        omega
      rw [List.filter_cons_of_pos (p := fun t : BT => decide (k ≤ t.ord)) e1, List.filter_cons_of_pos (p := fun t : BT => t.cs.length == k) e2, List.filter_cons_of_neg (p := fun t : BT => decide (k + 1 ≤ t.ord)) e3]
      exact ih.cons t
    · have e2 : ¬ (t.cs.length == k) = true := by simpa using h1
      rw [List.filter_cons_of_neg (p := fun t : BT => t.cs.length == k) e2]
      by_cases h2 : k ≤ t.cs.length
      · have e1 : decide (k ≤ t.ord) = true := decide_eq_true h2
        have e3 : decide (k + 1 ≤ t.ord) = true := decide_eq_true (by show k + 1 ≤ t.cs.length; omega)
        rw [List.filter_cons_of_pos (p := fun t : BT => decide (k ≤ t.ord)) e1, List.filter_cons_of_pos (p := fun t : BT => decide (k + 1 ≤ t.ord)) e3]
        exact (ih.cons t).trans (List.perm_middle.symm)
      · have e1 : ¬ decide (k ≤ t.ord) = true := by
          rw [decide_eq_true_eq]
          exact h2
        have e3 : ¬ decide (k + 1 ≤ t.ord) = true := by
          rw [decide_eq_true_eq]
          show ¬ k + 1 ≤ t.cs.length
          omega
        rw [List.filter_cons_of_neg (p := fun t : BT => decide (k ≤ t.ord)) e1, List.filter_cons_of_neg (p := fun t : BT => decide (k + 1 ≤ t.ord)) e3]
        exact ih
structure JInv (T : List BT) (k : Nat) (s : JS) : Prop where
  cnt : s.found.length + s.carried.length + (T.filter fun t => decide (k ≤ t.ord)).length + s.links = T.length
  one : s.carried.length ≤ 1
  car : ∀ t ∈ s.carried, G k t
  fnd : ∀ t ∈ s.found, G t.ord t ∧ t.ord < k
  srt : s.found.Pairwise fun a b => a.ord < b.ord
  wgt : wsum s.found + wsum s.carried + wsum (T.filter fun t => decide (k ≤ t.ord)) = wsum T
  kys : (BT.keysL s.found ++ (BT.keysL s.carried ++ BT.keysL (T.filter fun t => decide (k ≤ t.ord)))).Perm (BT.keysL T)
theorem jinv0 (T : List BT) : JInv T 0 ⟨[], [], 0⟩ := by
  have e : (T.filter fun t => decide (0 ≤ t.ord)) = T := by
    rw [List.filter_eq_self]
    intro t _
    simp
  refine ⟨by rw [e]; simp, Nat.zero_le _, fun t h => (nomatch h), fun t h => (nomatch h), .nil, by rw [e]; simp [wsum], ?_⟩
  rw [e]
  exact .refl _
theorem wsum_all {k : Nat} : ∀ {l : List BT}, (∀ t ∈ l, G k t) → wsum l = l.length * 2 ^ k
  | [], _ => by simp [wsum]
  | t :: r, h => by
    have h1 : t.ord = k := (h t (List.mem_cons_self ..)).order
    rw [wsum, wsum_all fun u hu => h u (List.mem_cons_of_mem _ hu), h1, List.length_cons, Nat.add_mul]
    omega
theorem jinv_step {T : List BT} {k : Nat} {s : JS} (hT : ∀ t ∈ T, G t.ord t) (h2 : (T.filter fun t => t.cs.length == k).length ≤ 2) (h : JInv T k s) : JInv T (k + 1) (jstep T s k) := by
  have pp := part T k
  have pl := pp.length_eq
  rw [List.length_append] at pl
  have pw := wsum_perm pp
  rw [wsum_append] at pw
  have pk := keysL_perm pp
  rw [keysL_append] at pk
  generalize hF : (T.filter fun t => t.cs.length == k) = F at *
  have hFG : ∀ t ∈ F, G k t := fun t ht => by
    rw [← hF, List.mem_filter] at ht
    have := hT t ht.1
    have e : t.cs.length = k := by simpa using ht.2
    rw [← e]
    exact this
  generalize hR : (T.filter fun t => decide (k + 1 ≤ t.ord)) = Rr at *
  generalize hK : (T.filter fun t => decide (k ≤ t.ord)) = Kk at *
  obtain ⟨c1, c2, c3, c4, c5, c6, c7⟩ := h
  rw [hK] at c1 c6 c7
  have hG : ∀ t ∈ s.carried ++ F, G k t := fun t ht => (List.mem_append.mp ht).elim (c3 t) (hFG t)
  have hlen : (s.carried ++ F).length = s.carried.length + F.length := List.length_append
  have hw : wsum (s.carried ++ F) = wsum s.carried + wsum F := wsum_append _ _
  have hk : BT.keysL (s.carried ++ F) = BT.keysL s.carried ++ BT.keysL F := keysL_append _ _
  -- all keys: found ++ here ++ rest
  have c7' : (BT.keysL s.found ++ (BT.keysL (s.carried ++ F) ++ BT.keysL Rr)).Perm (BT.keysL T) := by
    refine List.Perm.trans ?_ c7
    refine List.Perm.append_left _ ?_
    rw [hk, List.append_assoc]
    exact List.Perm.append_left _ pk.symm
  generalize hh : s.carried ++ F = here at *
  have small : here.length ≤ 1 → jstep T s k = ⟨s.found ++ here, [], s.links⟩ → JInv T (k + 1) (jstep T s k) := fun hl hj => by
    rw [hj]
    refine ⟨?_, Nat.zero_le _, fun t ht => (nomatch ht), fun t ht => ?_, ?_, ?_, ?_⟩
    · rw [hR, List.length_append]
      show s.found.length + here.length + 0 + Rr.length + s.links = _
      omega
    · rcases List.mem_append.mp ht with ht | ht
      · exact ⟨(c4 t ht).1, Nat.lt_succ_of_lt (c4 t ht).2⟩
      · have := hG t ht
        have e : t.ord = k := this.order
        exact ⟨by rw [e]; exact this, by rw [e]; exact Nat.lt_succ_self k⟩
    · rw [List.pairwise_append]
      refine ⟨c5, ?_, fun a ha b hb => ?_⟩
      · rcases here with _ | ⟨x, _ | ⟨y, r⟩⟩
        · exact .nil
        · exact List.pairwise_singleton _ _
        · simp at hl
      · have e : b.ord = k := (hG b hb).order
        rw [e]
        exact (c4 a ha).2
    · rw [hR, wsum_append]
      show wsum s.found + wsum here + 0 + wsum Rr = _
      omega
    · rw [hR, keysL_append, List.append_assoc]
      exact c7'
  unfold jstep at small ⊢
  simp only [hF, hh] at small ⊢
  rcases hr : here.reverse with _ | ⟨b, _ | ⟨a, r⟩⟩
  · have he : here = [] := by simpa using hr
    simp only [hr] at small
    exact small (by rw [he]; exact Nat.zero_le _) trivial
  · have he : here = [b] := by
      have := congrArg List.reverse hr
      simpa using this
    simp only [hr] at small
    exact small (by rw [he]; exact Nat.le_refl _) trivial
  · have he : here = r.reverse ++ [a, b] := by
      have := congrArg List.reverse hr
      simpa using this
    have ha := hG a (by rw [he]; simp)
    have hb := hG b (by rw [he]; simp)
    have hrG : ∀ t ∈ r.reverse, G k t := fun t ht => hG t (by rw [he]; exact List.mem_append_left _ ht)
    have hrl : here.length = r.reverse.length + 2 := by rw [he]; simp
    have hlk := ha.link hb
    have hlo : (link a b).ord = k + 1 := hlk.order
    have hao : a.ord = k := ha.order
    have hbo : b.ord = k := hb.order
    simp only
    refine ⟨?_, Nat.le_refl _, fun t ht => ?_, fun t ht => ?_, ?_, ?_, ?_⟩
    · rw [hR, List.length_append]
      show s.found.length + r.reverse.length + 1 + Rr.length + (s.links + 1) = _
      omega
    · have : t = link a b := by simpa using ht
      rw [this]
      exact hlk
    · rcases List.mem_append.mp ht with ht | ht
      · exact ⟨(c4 t ht).1, Nat.lt_succ_of_lt (c4 t ht).2⟩
      · have := hrG t ht
        have e : t.ord = k := this.order
        exact ⟨by rw [e]; exact this, by rw [e]; exact Nat.lt_succ_self k⟩
    · rw [List.pairwise_append]
      refine ⟨c5, ?_, fun x hx y hy => ?_⟩
      · have : r.reverse.length ≤ 1 := by omega
        rcases hrr : r.reverse with _ | ⟨x, _ | ⟨y, q⟩⟩
        · exact .nil
        · exact List.pairwise_singleton _ _
        · rw [hrr] at this
          simp at this
      · have e : y.ord = k := (hrG y hy).order
        rw [e]
        exact (c4 x hx).2
    · have hw2 : wsum here = wsum r.reverse + (2 ^ k + 2 ^ k) := by
        rw [he, wsum_append, wsum, wsum, wsum, hao, hbo, Nat.add_zero]
      rw [hR, wsum_append]
      show wsum s.found + wsum r.reverse + (2 ^ (link a b).ord + 0) + wsum Rr = _
      rw [hlo, Nat.pow_succ]
      omega
    · rw [hR, keysL_append]
      refine List.Perm.trans ?_ c7'
      rw [List.append_assoc]
      refine List.Perm.append_left _ ?_
      rw [he, keysL_append, List.append_assoc]
      refine List.Perm.append_left _ ?_
      refine List.Perm.append_right _ ?_
      show (BT.keysL [link a b]).Perm (BT.keysL [a, b])
      rw [BT.keysL, BT.keysL, BT.keysL, BT.keysL, BT.keysL, List.append_nil, List.append_nil]
      exact keys_link a b
end K76

set_option Elab.async false
set_option linter.all false
set_option maxRecDepth 100000
set_option maxHeartbeats 4000000
/-! K76o: joining, as a def. -/
namespace K76
open PySem PF

/-- the greatest order, as the program tells it -/
def mo (T : List BT) : Int := match (T.map fun t => (t.cs.length : Int)) ++ [0] with
  | [] => 0
  | x :: xs => xs.foldl max x
theorem mo_ok (T : List BT) : 0 ≤ mo T ∧ (∀ t ∈ T, (t.cs.length : Int) ≤ mo T) ∧ (mo T = 0 ∨ ∃ t ∈ T, mo T = t.cs.length) ∧
    biF .maxl [.lst ((T.map fun t : BT => D.int (t.cs.length : Nat)) ++ [.int 0])] = some (.int (mo T)) := by
  have hb : biF .maxl [.lst ((T.map fun t : BT => D.int (t.cs.length : Nat)) ++ [.int 0])] = some (.int (mo T)) := by
    have e : (T.map fun t : BT => D.int (t.cs.length : Nat)) ++ [.int 0] = ((T.map fun t : BT => (t.cs.length : Int)) ++ [0]).map D.int := by
      rw [List.map_append, List.map_map]
      rfl
    rw [e]
    unfold mo biF
    simp only [D.asInts_map]
    cases hh : (T.map fun t => (t.cs.length : Int)) ++ [0] with
    | nil => simp at hh
    | cons x xs => rfl
  unfold mo at hb ⊢
  cases hh : (T.map fun t => (t.cs.length : Int)) ++ [0] with
  | nil => simp at hh
  | cons x xs =>
    simp only [hh] at hb ⊢
    obtain ⟨f1, f2⟩ := foldl_max_mem xs x
    rw [← hh] at f1 f2
    refine ⟨f2 0 (by simp), fun t ht => f2 _ (List.mem_append_left _ (List.mem_map.mpr ⟨t, ht, rfl⟩)), ?_, hb⟩
    rcases List.mem_append.mp f1 with f | f
    · obtain ⟨t, ht, e⟩ := List.mem_map.mp f
      exact .inr ⟨t, ht, e.symm⟩
    · exact .inl (by simpa using f)
def jr (T : List BT) : JS := (List.range (mo T + 2).toNat).foldl (jstep T) ⟨[], [], 0⟩
theorem jinv_to {T : List BT} (hT : ∀ t ∈ T, G t.ord t) (h2 : ∀ k, (T.filter fun t => t.cs.length == k).length ≤ 2) : ∀ n, JInv T n ((List.range n).foldl (jstep T) ⟨[], [], 0⟩)
  | 0 => jinv0 T
  | n + 1 => by
    rw [List.range_succ, List.foldl_append]
    exact jinv_step hT (h2 n) (jinv_to hT h2 n)
theorem filterMap_some {α β : Type} (f : α → β) : ∀ l : List α, l.filterMap (fun t => some (f t)) = l.map f
  | [] => rfl
  | t :: r => by
    rw [List.filterMap_cons, List.map_cons, filterMap_some f r]
structure Joined (T : List BT) (s : JS) : Prop where
  cnt : s.found.length + s.links = T.length
  fnd : ∀ t ∈ s.found, G t.ord t
  srt : s.found.Pairwise fun a b => a.ord < b.ord
  wgt : wsum s.found = wsum T
  kys : (BT.keysL s.found).Perm (BT.keysL T)
theorem jr_ok {T : List BT} (hT : ∀ t ∈ T, G t.ord t) (h2 : ∀ k, (T.filter fun t => t.cs.length == k).length ≤ 2) : Joined T (jr T) := by
  obtain ⟨m0, m1, _, _⟩ := mo_ok T
  obtain ⟨M, hM⟩ : ∃ M : Nat, mo T = M := ⟨(mo T).toNat, by omega⟩
  have hn : (mo T + 2).toNat = M + 1 + 1 := by omega
  have no : ∀ k, M + 1 ≤ k → (T.filter fun t => t.cs.length == k) = [] := fun k hk => by
    rw [List.filter_eq_nil_iff]
    intro t ht
    have := m1 t ht
    simp
    omega
  have nf : (T.filter fun t => decide (M + 1 + 1 ≤ t.ord)) = [] := by
    rw [List.filter_eq_nil_iff]
    intro t ht
    have := m1 t ht
    simp
    show t.cs.length < _
    omega
  have j1 := jinv_to hT h2 (M + 1)
  have j2 := jinv_to hT h2 (M + 1 + 1)
  have hcar : ((List.range (M + 1 + 1)).foldl (jstep T) ⟨[], [], 0⟩).carried = [] := by
    rw [List.range_succ, List.foldl_append]
    show (jstep T _ (M + 1)).carried = []
    generalize (List.range (M + 1)).foldl (jstep T) ⟨[], [], 0⟩ = s at j1
    have o := j1.one
    unfold jstep
    simp only [no (M + 1) (Nat.le_refl _), List.append_nil]
    rcases hc : s.carried with _ | ⟨x, _ | ⟨y, r⟩⟩
    · rfl
    · rfl
    · rw [hc] at o
      simp at o
  unfold jr
  rw [hn]
  generalize (List.range (M + 1 + 1)).foldl (jstep T) ⟨[], [], 0⟩ = s at j2 hcar
  obtain ⟨c1, _, _, c4, c5, c6, c7⟩ := j2
  rw [hcar, nf] at c1 c6 c7
  refine ⟨by simpa using c1, fun t ht => (c4 t ht).1, c5, by simpa [wsum] using c6, ?_⟩
  simpa [BT.keysL] using c7
theorem c13 (n : Nat) (A B : List BT) (m : Mem) (hT : ∀ t ∈ A ++ B, G t.ord t) (h2 : ∀ k, ((A ++ B).filter fun t => t.cs.length == k).length ≤ 2) (hl : (A ++ B).length ≤ 100) (ho : ∀ t ∈ A ++ B, t.ord ≤ 100) :
    C (n + 2) 13 [.tup (A.map BT.enc), .tup (B.map BT.enc)] m = .ok (.tup [.tup ((jr (A ++ B)).found.map BT.enc), .int (jr (A ++ B)).links]) m := by
  rw [C, callF_at (k := 13) rfl _ _ _ rfl]
  have z : ∀ j : Nat, j ≤ 5000 → j ≤ sizeLine := fun j hj => by
    have : (5000 : Nat) ≤ sizeLine := by decide
    omega
  have zAB : A.length + B.length ≤ sizeLine := z _ (by rw [List.length_append] at hl; omega)
  obtain ⟨m0, m1, m2, m3⟩ := mo_ok (A ++ B)
  have mu : mo (A ++ B) ≤ 100 := by
    rcases m2 with e | ⟨t, ht, e⟩
    · omega
    · have : t.cs.length ≤ 100 := ho t ht
      omega
  have hcomp : compL (compW (evT (callF td.fs (n + 1)) .tru) (evE (callF td.fs (n + 1)) (.bi .len (.cons (.idx (.var 8) (.cn (.int 1))) .nil))) (.nm 8) [.val (.tup (A.map BT.enc)), .val (.tup (B.map BT.enc)), .no, .no, .own [], .val (.lst []), .val (.int 0), .no, .no]) (A.map BT.enc ++ B.map BT.enc) m =
      .ok ((A ++ B).map fun t => D.int (t.cs.length : Nat)) m := by
    rw [← List.map_append, compL_map (enc := BT.enc) (g := fun t => some (.int (t.cs.length : Nat))) (A ++ B) fun t _ => by simp [compW]]
    rw [filterMap_some]
  have zm : A.length + B.length + 1 ≤ sizeLine := z _ (by rw [List.length_append] at hl; omega)
  have hr : rngOk 0 (mo (A ++ B) + 2) = true := by
    unfold rngOk
    simp
    omega
  generalize hos : ((A ++ B).map fun t => D.int (t.cs.length : Nat)) = os at *
  have hosl : os.length = (A ++ B).length := by rw [← hos, List.length_map]
  obtain ⟨env1, m1', l1, ⟨t3, t7, rfl⟩, rfl⟩ := forL_inv (f := forW (evSs (C (n + 1)) jbody) (.nm 3)) (enc := fun k : Nat => D.int (0 + (k : Nat))) (P := fun pr env m' => (∃ t3 t7, env = jenv A B (.lst os) t3 t7 (pr.foldl (jstep (A ++ B)) ⟨[], [], 0⟩)) ∧ m' = m)
    (List.range (mo (A ++ B) + 2).toNat) [] (jenv A B (.lst os) .no .no ⟨[], [], 0⟩) m (fun pr x po env m' e ⟨⟨t3, t7, e2⟩, e3⟩ => by
      subst e2 e3
      have e : List.range (mo (A ++ B) + 2).toNat = pr ++ x :: po := by simpa using e
      have hpl : pr = List.range pr.length ∧ x = pr.length := by
        have h1 := congrArg (List.take pr.length) e
        have hle : pr.length ≤ (mo (A ++ B) + 2).toNat := by
          have := congrArg List.length e
          simp at this
          omega
        rw [List.take_range, List.take_left, Nat.min_eq_left hle] at h1
        refine ⟨h1.symm, ?_⟩
        have h2 : (List.range (mo (A ++ B) + 2).toNat)[pr.length]? = (pr ++ x :: po)[pr.length]? := by rw [e]
        rw [List.getElem?_append_right (Nat.le_refl _), Nat.sub_self] at h2
        have hlt : pr.length < (mo (A ++ B) + 2).toNat := by
          have := congrArg List.length e
          simp at this
          omega
        rw [List.getElem?_range hlt] at h2
        have : some pr.length = some x := h2
        exact (Option.some.inj this).symm
      have inv := jinv_to hT h2 pr.length
      rw [← hpl.1] at inv
      have cn := inv.cnt
      obtain ⟨t3', t7', ht⟩ := jturn n A B (.lst os) t3 t7 (pr.foldl (jstep (A ++ B)) ⟨[], [], 0⟩) x m' (by omega) (fun t ht => by
        rcases List.mem_append.mp ht with ht | ht
        · have := (inv.car t ht).order
          have hx : x < (mo (A ++ B) + 2).toNat := by
            have := congrArg List.length e
            simp at this
            omega
          omega
        · have : t.cs.length ≤ 100 := ho t ht
          omega)
      refine ⟨jenv A B (.lst os) t3' t7' (jstep (A ++ B) (pr.foldl (jstep (A ++ B)) ⟨[], [], 0⟩) x), m', ?_, ⟨t3', t7', ?_⟩, rfl⟩
      · rw [Int.zero_add]
        exact ht
      · rw [List.foldl_append]
        rfl) ⟨⟨.no, .no, rfl⟩, rfl⟩
  have l1 : forL (forW (evSs (callF td.fs (n + 1)) jbody) (.nm 3)) (intsR 0 (mo (A ++ B) + 2).toNat) (jenv A B (.lst os) .no .no ⟨[], [], 0⟩) m1' = .nxt (jenv A B (.lst os) t3 t7 (jr (A ++ B))) m1' := l1
  rw [jbody] at l1
  simp [jenv] at l1 hcomp m3
  simp [b_joined_links, List.replicate, zAB, hcomp, m3, hr, l1, hosl, zm]
end K76

set_option Elab.async false
set_option linter.all false
set_option maxRecDepth 100000
set_option maxHeartbeats 4000000
/-! K76p: good heaps; put, joined, taken. -/
namespace K76
open PySem PF

structure Hg (h : List BT) : Prop where
  g : ∀ t ∈ h, G t.ord t
  s : h.Pairwise fun a b => a.ord < b.ord
theorem Hg.one : ∀ {h : List BT}, (h.Pairwise fun a b => a.ord < b.ord) → ∀ k, (h.filter fun t => t.cs.length == k).length ≤ 1
  | [], _, k => Nat.zero_le _
  | t :: r, hp, k => by
    rw [List.pairwise_cons] at hp
    by_cases e : (t.cs.length == k) = true
    · rw [List.filter_cons_of_pos (p := fun t : BT => t.cs.length == k) e]
      have : (r.filter fun t => t.cs.length == k) = [] := by
        rw [List.filter_eq_nil_iff]
        intro u hu
        have h1 := hp.1 u hu
        have h2 : t.cs.length = k := by simpa using e
        have h3 : t.cs.length < u.cs.length := h1
        simp
        omega
      rw [this]
      exact Nat.le_refl _
    · rw [List.filter_cons_of_neg (p := fun t : BT => t.cs.length == k) e]
      exact Hg.one hp.2 k
theorem wsum_len : ∀ h : List BT, h.length ≤ wsum h
  | [] => Nat.le_refl _
  | t :: r => by
    have := wsum_len r
    have h1 : 1 ≤ 2 ^ t.ord := Nat.one_le_two_pow
    rw [List.length_cons, wsum]
    omega
theorem wsum_mem : ∀ {h : List BT} {t : BT}, t ∈ h → 2 ^ t.ord ≤ wsum h
  | u :: r, t, ht => by
    rw [wsum]
    rcases List.mem_cons.mp ht with rfl | ht
    · exact Nat.le_add_right _ _
    · exact Nat.le_trans (wsum_mem ht) (Nat.le_add_left _ _)
theorem ord_le {h : List BT} {t : BT} (ht : t ∈ h) : t.ord ≤ wsum h := by
  have h1 := wsum_mem ht
  have h2 : t.ord < 2 ^ t.ord := Nat.lt_two_pow_self
  omega
section
variable {A B : List BT} (hA : Hg A) (hB : Hg B)
include hA hB
theorem both_g : ∀ t ∈ A ++ B, G t.ord t := fun t ht => (List.mem_append.mp ht).elim (hA.g t) (hB.g t)
theorem both_2 (k : Nat) : ((A ++ B).filter fun t => t.cs.length == k).length ≤ 2 := by
  rw [List.filter_append, List.length_append]
  have h1 := Hg.one hA.s k
  have h2 := Hg.one hB.s k
  omega
theorem joined : Joined (A ++ B) (jr (A ++ B)) := jr_ok (both_g hA hB) (both_2 hA hB)
theorem Hg.join : Hg (jr (A ++ B)).found := ⟨(joined hA hB).fnd, (joined hA hB).srt⟩
theorem c13' (n : Nat) (m : Mem) (hw : wsum A + wsum B ≤ 100) : C (n + 2) 13 [.tup (A.map BT.enc), .tup (B.map BT.enc)] m = .ok (.tup [.tup ((jr (A ++ B)).found.map BT.enc), .int (jr (A ++ B)).links]) m := by
  have e := wsum_append A B
  refine c13 n A B m (both_g hA hB) (both_2 hA hB) ?_ fun t ht => ?_
  · have := wsum_len (A ++ B)
    omega
  · have := ord_le ht
    omega
theorem c14 (n : Nat) (m : Mem) (hw : wsum A + wsum B ≤ 100) : C (n + 3) 14 [.tup (A.map BT.enc), .tup (B.map BT.enc)] m = .ok (.tup ((jr (A ++ B)).found.map BT.enc)) m := by
  rw [C, callF_at (k := 14) rfl _ _ _ rfl]
  have e := c13' hA hB n m hw
  rw [C] at e
  simp [b_binomial_joined, e]
end
theorem Hg.single {k : Int} (h1 : -1000 ≤ k) (h2 : k ≤ 1000) : Hg [.nd k []] :=
  ⟨fun t ht => by
    have : t = .nd k [] := by simpa using ht
    subst this
    exact G.nd h1 h2 (fun i c h => by simp at h) (fun c h => by simp at h), List.pairwise_singleton _ _⟩
theorem c15 (n : Nat) {A : List BT} (hA : Hg A) {k : Int} (h1 : -1000 ≤ k) (h2 : k ≤ 1000) (m : Mem) (hw : wsum A ≤ 99) :
    C (n + 3) 15 [.tup (A.map BT.enc), .int k] m = .ok (.tup [.tup ((jr (A ++ [.nd k []])).found.map BT.enc), .int (jr (A ++ [.nd k []])).links]) m := by
  rw [C, callF_at (k := 15) rfl _ _ _ rfl]
  have e := c13' hA (Hg.single h1 h2) n m (by show wsum A + (2 ^ 0 + 0) ≤ 100; omega)
  rw [C] at e
  simp at e
  simp [b_put_links, e]
theorem c16 (n : Nat) {A : List BT} (hA : Hg A) {k : Int} (h1 : -1000 ≤ k) (h2 : k ≤ 1000) (m : Mem) (hw : wsum A ≤ 99) :
    C (n + 4) 16 [.tup (A.map BT.enc), .int k] m = .ok (.tup ((jr (A ++ [.nd k []])).found.map BT.enc)) m := by
  rw [C, callF_at (k := 16) rfl _ _ _ rfl]
  have e := c15 n hA h1 h2 m hw
  rw [C] at e
  simp [b_binomial_put, e]
mutual
theorem enc_pure : ∀ t : BT, t.enc.pure = true
  | .nd k cs => by
    rw [BT.enc, D.pure, D.pures, D.pures, D.pure, D.pure, encs_pure cs, D.pures]
    rfl
theorem encs_pure : ∀ cs : List BT, D.pures (BT.encs cs) = true
  | [] => rfl
  | t :: r => by
    rw [BT.encs, D.pures, enc_pure t, encs_pure r]
    rfl
end
theorem empty_eq (h : List BT) : cmpF .eq (.tup (h.map BT.enc)) (.tup []) = some h.isEmpty := by
  rw [cmp_eq, if_pos, D.beq]
  · cases h <;> rfl
  · unfold eqOk
    rw [← encs_map, D.pure, encs_pure, D.pure, D.pures, D.dep, D.dep, D.deps]
    simp
/-- the place of the first least root -/
def leastAt : List Int → Nat
  | [] => 0
  | [x] => 0
  | x :: y :: r => if x ≤ (y :: r).foldl min y then 0 else leastAt (y :: r) + 1
end K76

set_option Elab.async false
set_option linter.all false
set_option maxRecDepth 100000
set_option maxHeartbeats 4000000
/-! K76q: a take. -/
namespace K76
open PySem PF

theorem cut_take (xs : List D) (k : Nat) (h : k ≤ xs.length) : cutD xs none (some (k : Int)) = xs.take k := by
  unfold cutD HT.sIx
  have h1 : ¬ ((k : Int) < 0) := by omega
  simp [h1]
theorem cut_drop (xs : List D) (k : Nat) (h : k ≤ xs.length) : cutD xs (some (k : Int)) none = xs.drop k := by
  unfold cutD HT.sIx
  have h1 : ¬ ((k : Int) < 0) := by omega
  simp [h1, Nat.min_eq_left h]
  rw [← List.length_drop, List.take_length]
theorem at_nat (p q : List D) (t : D) : L2.atI (p ++ t :: q) (p.length : Int) = some t := by
  unfold L2.atI L2.ixN
  have h1 : (0 : Int) ≤ p.length := by omega
  have h2 : (p.length : Int) < (p ++ t :: q).length := by
    rw [List.length_append, List.length_cons]
    omega
  rw [if_pos h1, if_pos h2]
  simp
theorem first_of {mn : Int} : ∀ {h : List BT}, (∃ t ∈ h, t.key = mn) → ∃ p t q, h = p ++ t :: q ∧ t.key = mn ∧ ∀ u ∈ p, u.key ≠ mn
  | [], ⟨t, ht, _⟩ => nomatch ht
  | x :: r, hx => by
    by_cases e : x.key = mn
    · exact ⟨[], x, r, rfl, e, fun u hu => nomatch hu⟩
    · have : ∃ t ∈ r, t.key = mn := by
        obtain ⟨t, ht, et⟩ := hx
        rcases List.mem_cons.mp ht with rfl | ht
        · exact absurd et e
        · exact ⟨t, ht, et⟩
      obtain ⟨p, t, q, h1, h2, h3⟩ := first_of this
      refine ⟨x :: p, t, q, by rw [h1]; rfl, h2, fun u hu => ?_⟩
      rcases List.mem_cons.mp hu with rfl | hu
      · exact e
      · exact h3 u hu
theorem find_first {mn : Int} {t : BT} {q : List BT} (ht : t.key = mn) : ∀ (p : List BT) (k : Nat), (∀ u ∈ p, u.key ≠ mn) → findD (.int mn) ((p ++ t :: q).map fun u => D.int u.key) k = some (k + p.length)
  | [], k, _ => by
    show findD (.int mn) (D.int t.key :: q.map fun u => D.int u.key) k = _
    unfold findD
    rw [ht]
    simp [D.beq]
  | u :: p, k, h => by
    have hu := h u (List.mem_cons_self ..)
    show findD (.int mn) (D.int u.key :: (p ++ t :: q).map fun u => D.int u.key) k = _
    unfold findD
    have : D.beq (.int u.key) (.int mn) = false := by
      simp [D.beq, hu]
    rw [this, if_neg Bool.false_ne_true, find_first ht p (k + 1) fun v hv => h v (List.mem_cons_of_mem _ hv), List.length_cons]
    congr 1
    omega
theorem kids_g {k : Nat} {t : BT} (h : G k t) : Hg t.cs ∧ wsum t.cs + 1 = 2 ^ t.ord := by
  cases h with
  | @nd key cs h1 h2 h3 h4 =>
    have go : ∀ c ∈ cs, G c.ord c := fun c hc => by
      obtain ⟨i, hi⟩ := List.mem_iff_getElem?.mp hc
      have := h3 i c hi
      have e : c.ord = i := this.order
      rw [e]
      exact this
    have hord : ∀ (i : Nat) (c : BT), cs[i]? = some c → c.ord = i := fun i c hc => (h3 i c hc).order
    refine ⟨⟨go, ?_⟩, ?_⟩
    · rw [cs_nd, List.pairwise_iff_getElem]
      intro i j hi hj hij
      rw [hord i _ (List.getElem?_eq_getElem hi), hord j _ (List.getElem?_eq_getElem hj)]
      exact hij
    · show wsum cs + 1 = 2 ^ cs.length
      have key : ∀ n, n ≤ cs.length → wsum (cs.take n) + 1 = 2 ^ n := by
        intro n
        induction n with
        | zero => intro _; simp [wsum]
        | succ n ih =>
          intro hn
          have hlt : n < cs.length := by omega
          rw [List.take_succ_eq_append_getElem hlt, wsum_append, wsum, wsum, hord n _ (List.getElem?_eq_getElem hlt), Nat.pow_succ]
          have := ih (by omega)
          omega
      have := key cs.length (Nat.le_refl _)
      rw [List.take_length] at this
      exact this
/-- a heap's first least tree, parted -/
structure Least (h p : List BT) (t : BT) (q : List BT) : Prop where
  eq : h = p ++ t :: q
  le : ∀ u ∈ h, t.key ≤ u.key
  ne : ∀ u ∈ p, u.key ≠ t.key
theorem least_of {h : List BT} (hn : h ≠ []) : ∃ p t q, Least h p t q ∧ biF .minl [.lst (h.map fun u => D.int u.key)] = some (.int t.key) := by
  cases h with
  | nil => exact absurd rfl hn
  | cons x r =>
    obtain ⟨f1, f2⟩ := foldl_min_mem (r.map BT.key) x.key
    have hb : biF .minl [.lst ((x :: r).map fun u => D.int u.key)] = some (.int ((r.map BT.key).foldl min x.key)) := by
      have e : ((x :: r).map fun u => D.int u.key) = (x.key :: r.map BT.key).map D.int := by
        rw [List.map_cons, List.map_cons, List.map_map]
        rfl
      rw [e]
      unfold biF
      simp only [D.asInts_map]
    generalize (r.map BT.key).foldl min x.key = mn at *
    have ex : ∃ t ∈ x :: r, t.key = mn := by
      rcases List.mem_cons.mp f1 with e | e
      · exact ⟨x, List.mem_cons_self .., e.symm⟩
      · obtain ⟨t, ht, e⟩ := List.mem_map.mp e
        exact ⟨t, List.mem_cons_of_mem _ ht, e⟩
    obtain ⟨p, t, q, h1, h2, h3⟩ := first_of ex
    subst h2
    refine ⟨p, t, q, ⟨h1, fun u hu => ?_, h3⟩, hb⟩
    rcases List.mem_cons.mp hu with rfl | hu
    · exact f2 _ (List.mem_cons_self ..)
    · exact f2 _ (List.mem_cons_of_mem _ (List.mem_map.mpr ⟨u, hu, rfl⟩))
theorem Hg.part {h p q : List BT} {t : BT} (hh : Hg h) (l : Least h p t q) : Hg (p ++ q) ∧ G t.ord t ∧ wsum h = wsum (p ++ q) + 2 ^ t.ord ∧ (BT.keysL h).Perm (t.keys ++ BT.keysL (p ++ q)) ∧ h.length = (p ++ q).length + 1 := by
  obtain ⟨e, _, _⟩ := l
  subst e
  have pm : (p ++ t :: q).Perm (t :: (p ++ q)) := List.perm_middle
  have hs := hh.s
  rw [List.pairwise_append, List.pairwise_cons] at hs
  refine ⟨⟨fun u hu => hh.g u (pm.mem_iff.mpr (List.mem_cons_of_mem _ hu)), ?_⟩, hh.g t (by simp), ?_, ?_, ?_⟩
  · rw [List.pairwise_append]
    exact ⟨hs.1, hs.2.1.2, fun a ha b hb => hs.2.2 a ha b (List.mem_cons_of_mem _ hb)⟩
  · rw [wsum_perm pm, wsum]
    omega
  · have := keysL_perm pm
    rw [BT.keysL] at this
    exact this
  · simp
    omega
theorem c17 (n : Nat) {h p q : List BT} {t : BT} (hh : Hg h) (hw : wsum h ≤ 50) (l : Least h p t q) (hb : biF .minl [.lst (h.map fun u => D.int u.key)] = some (.int t.key)) (m : Mem) :
    C (n + 3) 17 [.tup (h.map BT.enc)] m = .ok (.tup [t.enc, .tup ((jr ((p ++ q) ++ t.cs)).found.map BT.enc), .int (jr ((p ++ q) ++ t.cs)).links]) m := by
  obtain ⟨g1, g2, g3, _, _⟩ := hh.part l
  obtain ⟨k1, k2⟩ := kids_g g2
  have e13 := c13' g1 k1 n m (by omega)
  rw [C, callF_at (k := 17) rfl _ _ _ rfl]
  have hne : h.isEmpty = false := by
    rw [l.eq]
    cases p <;> rfl
  have he := empty_eq h
  rw [hne] at he
  have hcomp : compL (compW (evT (callF td.fs (n + 2)) .tru) (evE (callF td.fs (n + 2)) (.idx (.var 5) (.cn (.int 0)))) (.nm 5) [.val (.tup (h.map BT.enc)), .no, .no, .no, .no, .no]) (h.map BT.enc) m = .ok (h.map fun u => D.int u.key) m := by
    rw [compL_map (enc := BT.enc) (g := fun u => some (.int u.key)) h fun u _ => by simp [compW]]
    rw [filterMap_some]
  have hf : mtF .index (.lst (h.map fun u => D.int u.key)) [.int t.key] = some (.int (p.length : Nat)) := by
    have e1 : ((h.map fun u => D.int u.key).all D.flat) = true := by
      have := ints_flat (h.map BT.key)
      rw [List.map_map] at this
      exact this
    have e2 := find_first (q := q) rfl p 0 l.ne
    rw [← l.eq, Nat.zero_add] at e2
    unfold mtF
    simp only [e1, e2]
    rfl
  have hmap : h.map BT.enc = p.map BT.enc ++ t.enc :: q.map BT.enc := by rw [l.eq, List.map_append, List.map_cons]
  have hat : L2.atI (h.map BT.enc) (p.length : Int) = some t.enc := by
    have := at_nat (p.map BT.enc) (q.map BT.enc) t.enc
    rw [List.length_map, ← hmap] at this
    exact this
  have hpl : p.length + 1 ≤ h.length := by
    rw [l.eq, List.length_append, List.length_cons]
    omega
  have hc1 : cutD (h.map BT.enc) none (some (p.length : Int)) = p.map BT.enc := by
    rw [cut_take _ _ (by rw [List.length_map]; omega), hmap, List.take_left' (by rw [List.length_map])]
  have hc2 : cutD (h.map BT.enc) (some ((p.length : Int) + 1)) none = q.map BT.enc := by
    have e : ((p.length : Int) + 1) = ((p.length + 1 : Nat) : Int) := by omega
    rw [e, cut_drop _ _ (by rw [List.length_map]; omega), hmap]
    rw [show p.map BT.enc ++ t.enc :: q.map BT.enc = (p.map BT.enc ++ [t.enc]) ++ q.map BT.enc from by simp]
    rw [List.drop_left' (by simp)]
  have zl : p.length + q.length ≤ sizeLine := by
    have z : (1000 : Nat) ≤ sizeLine := by decide
    have := wsum_len (p ++ q)
    rw [List.length_append] at this
    omega
  rw [C] at e13
  simp at e13
  simp [b_taken_links, List.replicate, he, hcomp, hb, hf, hat, hc1, hc2, zl, e13, -List.all_eq_true]
end K76

set_option Elab.async false
set_option linter.all false
set_option maxRecDepth 100000
set_option maxHeartbeats 4000000
/-! K76r: rows of puts and takes. -/
namespace K76
open PySem PF

def encD : Option Int → D
  | some k => .tup [.str "put", .int k]
  | none => .tup [.str "take"]
theorem put_put : cmpF .eq (.str "put") (.str "put") = some true := by
  have e : eqOk (.str "put") (.str "put") = true := rfl
  rw [cmp_eq, if_pos e, D.beq, beq_self_eq_true]
theorem take_put : cmpF .eq (.str "take") (.str "put") = some false := by
  have e : eqOk (.str "take") (.str "put") = true := rfl
  rw [cmp_eq, if_pos e, D.beq]
  have : (("take" : Str) == ("put" : Str)) = false := by decide +kernel
  rw [this]
inductive Led : List (Option Int) → List BT → List Nat → List Nat → List Int → Prop
  | nil : Led [] [] [] [] []
  | put {r : List (Option Int)} {h : List BT} {c p : List Nat} {tk : List Int} {k : Int} : Led r h c p tk → -1000 ≤ k → k ≤ 1000 → Led (r ++ [some k]) (jr (h ++ [.nd k []])).found (c ++ [1 + (jr (h ++ [.nd k []])).links]) (p ++ [2]) tk
  | take {r : List (Option Int)} {h pp q : List BT} {t : BT} {c p : List Nat} {tk : List Int} : Led r h c p tk → Least h pp t q → Led (r ++ [none]) (jr ((pp ++ q) ++ t.cs)).found (c ++ [1 + (jr ((pp ++ q) ++ t.cs)).links]) (p ++ [t.ord]) (tk ++ [t.key])
theorem Led.hg {r : List (Option Int)} {h : List BT} {c p : List Nat} {tk : List Int} (l : Led r h c p tk) : Hg h ∧ c.length = r.length ∧ p.length = r.length ∧ c.sum + h.length = p.sum := by
  induction l with
  | nil => exact ⟨⟨fun t ht => (nomatch ht), .nil⟩, rfl, rfl, rfl⟩
  | @put r h c p tk k l h1 h2 ih =>
    obtain ⟨i1, i2, i3, i4⟩ := ih
    have j := joined i1 (Hg.single h1 h2)
    have jc := j.cnt
    rw [List.length_append] at jc
    refine ⟨⟨j.fnd, j.srt⟩, by simp [i2], by simp [i3], ?_⟩
    simp at jc ⊢
    omega
  | @take r h pp q t c p tk l ls ih =>
    obtain ⟨i1, i2, i3, i4⟩ := ih
    obtain ⟨g1, g2, g3, g4, g5⟩ := i1.part ls
    obtain ⟨k1, k2⟩ := kids_g g2
    have j := joined g1 k1
    have jc := j.cnt
    rw [List.length_append] at jc
    refine ⟨⟨j.fnd, j.srt⟩, by simp [i2], by simp [i3], ?_⟩
    have e : t.cs.length = t.ord := rfl
    simp at jc ⊢
    simp at g5
    omega
/-- a row that may be led from so many things -/
def okR : Nat → List (Option Int) → Prop
  | _, [] => True
  | n, some k :: r => -1000 ≤ k ∧ k ≤ 1000 ∧ n < 36 ∧ okR (n + 1) r
  | n, none :: r => 0 < n ∧ okR (n - 1) r
theorem put_w {h : List BT} {k : Int} (hh : Hg h) (h1 : -1000 ≤ k) (h2 : k ≤ 1000) : wsum (jr (h ++ [.nd k []])).found = wsum h + 1 := by
  rw [(joined hh (Hg.single h1 h2)).wgt, wsum_append]
  rfl
theorem take_w {h p q : List BT} {t : BT} (hh : Hg h) (l : Least h p t q) : wsum (jr ((p ++ q) ++ t.cs)).found + 1 = wsum h := by
  obtain ⟨g1, g2, g3, g4, g5⟩ := hh.part l
  obtain ⟨k1, k2⟩ := kids_g g2
  rw [(joined g1 k1).wgt, wsum_append]
  omega
def lbody : Ss := (.cons (.ifs (.cmp (.cmp .eq (.idx (.var 1) (.cn (.int 0))) (.cn (.str "put")))) (.cons (.asg (.tup (.cons (.nm 2) (.cons (.nm 5) .nil))) (.call 15 (.cons (.var 2) (.cons (.idx (.var 1) (.cn (.int 1))) .nil))))
  (.cons (.app 4 (.cn (.int 2)))
  .nil)) (.cons (.asg (.tup (.cons (.nm 6) (.cons (.nm 2) (.cons (.nm 5) .nil)))) (.call 17 (.cons (.var 2) .nil)))
  (.cons (.app 4 (.bi .len (.cons (.idx (.var 6) (.cn (.int 1))) .nil)))
  .nil)))
  (.cons (.app 3 (.bin .add (.cn (.int 1)) (.var 5)))
  .nil))
def dints (l : List Nat) : List D := l.map fun i => D.int (i : Nat)
structure LS where
  h : List BT
  c : List Nat
  p : List Nat
  tk : List Int
theorem split_ex (h : List BT) : ∃ x : List BT × BT × List BT, h ≠ [] → Least h x.1 x.2.1 x.2.2 ∧ biF .minl [.lst (h.map fun u => D.int u.key)] = some (.int x.2.1.key) := by
  by_cases hn : h = []
  · exact ⟨([], .nd 0 [], []), fun z => absurd hn z⟩
  · obtain ⟨p, t, q, h1, h2⟩ := least_of hn
    exact ⟨(p, t, q), fun _ => ⟨h1, h2⟩⟩
noncomputable def split (h : List BT) : List BT × BT × List BT := Classical.choose (split_ex h)
theorem split_ok {h : List BT} (hn : h ≠ []) : Least h (split h).1 (split h).2.1 (split h).2.2 ∧ biF .minl [.lst (h.map fun u => D.int u.key)] = some (.int (split h).2.1.key) := Classical.choose_spec (split_ex h) hn
noncomputable def lstep (s : LS) : Option Int → LS
  | some k => ⟨(jr (s.h ++ [.nd k []])).found, s.c ++ [1 + (jr (s.h ++ [.nd k []])).links], s.p ++ [2], s.tk⟩
  | none => ⟨(jr (((split s.h).1 ++ (split s.h).2.2) ++ (split s.h).2.1.cs)).found, s.c ++ [1 + (jr (((split s.h).1 ++ (split s.h).2.2) ++ (split s.h).2.1.cs)).links], s.p ++ [(split s.h).2.1.ord], s.tk ++ [(split s.h).2.1.key]⟩
noncomputable def led (row : List (Option Int)) : LS := row.foldl lstep ⟨[], [], [], []⟩
theorem led_snoc (r : List (Option Int)) (x : Option Int) : led (r ++ [x]) = lstep (led r) x := by
  unfold led
  rw [List.foldl_append]
  rfl
/-- what holds of a row that may be led -/
theorem led_ok {row : List (Option Int)} (hok : okR 0 row) : ∀ (pr po : List (Option Int)), row = pr ++ po → Led pr (led pr).h (led pr).c (led pr).p (led pr).tk ∧ okR (wsum (led pr).h) po ∧ wsum (led pr).h ≤ 36 := by
  have go : ∀ (k : Nat) (pr po : List (Option Int)), pr.length = k → row = pr ++ po → Led pr (led pr).h (led pr).c (led pr).p (led pr).tk ∧ okR (wsum (led pr).h) po ∧ wsum (led pr).h ≤ 36 := by
    intro k
    induction k with
    | zero =>
      intro pr po hk e
      obtain rfl : pr = [] := List.eq_nil_of_length_eq_zero hk
      have e : row = po := e
      subst e
      exact ⟨.nil, hok, Nat.zero_le _⟩
    | succ k ih =>
      intro pr po hk e
      have hne : pr ≠ [] := fun z => by
        subst z
        cases hk
      have hd := List.dropLast_concat_getLast hne
      generalize pr.getLast hne = x at hd
      generalize pr.dropLast = r at hd
      subst hd
      have hr : r.length = k := by
        simp at hk
        exact hk
      obtain ⟨i1, i2, i3⟩ := ih r (x :: po) hr (by rw [e, List.append_assoc]; rfl)
      rw [led_snoc]
      have hh := i1.hg.1
      cases x with
      | some v =>
        obtain ⟨k1, k2, k3, k4⟩ := i2
        have hw := put_w hh k1 k2
        refine ⟨i1.put k1 k2, ?_⟩
        show okR (wsum (jr ((led r).h ++ [.nd v []])).found) po ∧ wsum (jr ((led r).h ++ [.nd v []])).found ≤ 36
        rw [hw]
        exact ⟨k4, by omega⟩
      | none =>
        obtain ⟨k3, k4⟩ := i2
        have hn : (led r).h ≠ [] := fun z => by
          rw [z] at k3
          exact absurd k3 (Nat.lt_irrefl _)
        have ls := (split_ok hn).1
        have hw := take_w hh ls
        refine ⟨i1.take ls, ?_⟩
        show okR (wsum (jr (((split (led r).h).1 ++ (split (led r).h).2.2) ++ (split (led r).h).2.1.cs)).found) po ∧ wsum (jr (((split (led r).h).1 ++ (split (led r).h).2.2) ++ (split (led r).h).2.1.cs)).found ≤ 36
        have hw' : wsum (jr (((split (led r).h).1 ++ (split (led r).h).2.2) ++ (split (led r).h).2.1.cs)).found = wsum (led r).h - 1 := by omega
        rw [hw']
        exact ⟨k4, by omega⟩
  exact fun pr po e => go _ pr po rfl e
theorem c19 (n : Nat) (row : List (Option Int)) (hl : row.length ≤ 1000) (hok : okR 0 row) (m : Mem) :
    C (n + 4) 19 [.tup (row.map encD)] m = .ok (.tup [.tup ((led row).h.map BT.enc), .tup (dints (led row).c), .tup (dints (led row).p)]) m := by
  have z : ∀ j : Nat, j ≤ 1000 → j < sizeLine := fun j hj => by
    have : (1001 : Nat) ≤ sizeLine := by decide
    omega
  obtain ⟨env1, m1, l1, ⟨t1, t5, t6, rfl⟩, rfl⟩ := forL_inv (f := forW (evSs (C (n + 3)) lbody) (.nm 1)) (enc := encD)
    (P := fun pr env m' => (∃ t1 t5 t6, env = [.val (.tup (row.map encD)), t1, .val (.tup ((led pr).h.map BT.enc)), .own (dints (led pr).c), .own (dints (led pr).p), t5, t6]) ∧ m' = m)
    row [] [.val (.tup (row.map encD)), .no, .val (.tup []), .own [], .own [], .no, .no] m (fun pr x po env m' e ⟨⟨t1, t5, t6, e2⟩, e3⟩ => by
      subst e2 e3
      have e : row = pr ++ x :: po := by simpa using e
      obtain ⟨ld, ok1, ok2⟩ := led_ok hok pr (x :: po) e
      obtain ⟨hh, lc, lp, _⟩ := ld.hg
      have hpr : pr.length ≤ 1000 := by
        have := congrArg List.length e
        simp at this
        omega
      rw [led_snoc]
      generalize led pr = s at *
      have zc : (dints s.c).length < sizeLine := z _ (by simp [dints]; omega)
      have zp : (dints s.p).length < sizeLine := z _ (by simp [dints]; omega)
      cases x with
      | some k =>
        obtain ⟨k1, k2, k3, k4⟩ := ok1
        have e15 := c15 n hh k1 k2 m' (by omega)
        rw [C] at e15
        refine ⟨[.val (.tup (row.map encD)), .val (encD (some k)), .val (.tup ((jr (s.h ++ [.nd k []])).found.map BT.enc)), .own (dints (s.c ++ [1 + (jr (s.h ++ [.nd k []])).links])), .own (dints (s.p ++ [2])), .val (.int (jr (s.h ++ [.nd k []])).links), t6], m', ?_, ⟨_, _, _, rfl⟩, rfl⟩
        simp [forW, lbody, encD, put_put, e15, zc, zp, C]
        simp [dints]
      | none =>
        obtain ⟨k3, k4⟩ := ok1
        have hne : s.h ≠ [] := fun z => by
          rw [z] at k3
          exact absurd k3 (Nat.lt_irrefl _)
        obtain ⟨ls, hb⟩ := split_ok hne
        unfold lstep
        simp only
        generalize (split s.h).1 = pp at *
        generalize (split s.h).2.1 = t at *
        generalize (split s.h).2.2 = q at *
        have e17 := c17 n hh (by omega) ls hb m'
        rw [C] at e17
        refine ⟨[.val (.tup (row.map encD)), .val (encD none), .val (.tup ((jr ((pp ++ q) ++ t.cs)).found.map BT.enc)), .own (dints (s.c ++ [1 + (jr ((pp ++ q) ++ t.cs)).links])), .own (dints (s.p ++ [t.ord])), .val (.int (jr ((pp ++ q) ++ t.cs)).links), .val t.enc], m', ?_, ⟨_, _, _, rfl⟩, rfl⟩
        simp [forW, lbody, encD, take_put, e17, zc, zp, C]
        simp [dints]) ⟨⟨.no, .no, .no, rfl⟩, rfl⟩
  rw [C, callF_at (k := 19) rfl _ _ _ rfl]
  rw [lbody, C] at l1
  simp [b_led_binomial, List.replicate, l1]
section
variable (n : Nat) (row : List (Option Int)) (hl : row.length ≤ 1000) (hok : okR 0 row) (m : Mem)
include hl hok
theorem c20 : C (n + 5) 20 [.tup (row.map encD)] m = .ok (.tup ((led row).h.map BT.enc)) m := by
  have e := c19 n row hl hok m
  rw [C] at e
  rw [C, callF_at (k := 20) rfl _ _ _ rfl]
  simp [b_binomial_run, e]
theorem c21 : C (n + 5) 21 [.tup (row.map encD)] m = .ok (.tup (dints (led row).c)) m := by
  have e := c19 n row hl hok m
  rw [C] at e
  rw [C, callF_at (k := 21) rfl _ _ _ rfl]
  simp [b_binomial_costs, e]
theorem c22 : C (n + 5) 22 [.tup (row.map encD)] m = .ok (.tup (dints (led row).p)) m := by
  have e := c19 n row hl hok m
  rw [C] at e
  rw [C, callF_at (k := 22) rfl _ _ _ rfl]
  simp [b_binomial_prices, e]
end
theorem c23 (n : Nat) (xs : List D) (m : Mem) : C (n + 1) 23 [.tup xs] m = .ok (.int xs.length) m := by
  rw [C, callF_at (k := 23) rfl _ _ _ rfl]
  simp [b_binomial_potential]
end K76

set_option Elab.async false
set_option linter.all false
set_option maxRecDepth 100000
set_option maxHeartbeats 4000000
/-! K76s: numbers by their bits. -/
namespace K76
open PySem PF

def bl (n : Nat) : Nat := Builtin.Int.intBits (n : Int)
theorem bl_0 : bl 0 = 0 := rfl
theorem bl_pos {n : Nat} (h : 0 < n) : bl n = bl (n / 2) + 1 := by
  unfold bl Builtin.Int.intBits
  have h1 : ¬ (((n : Nat) : Int) == 0) = true := by
    simp
    omega
  rw [if_neg h1]
  by_cases h2 : n / 2 = 0
  · rw [h2]
    have : n = 1 := by omega
    subst this
    rfl
  · have h3 : ¬ (((n / 2 : Nat) : Int) == 0) = true := by
      simp
      omega
    rw [if_neg h3]
    simp only [Int.natAbs_natCast]
    rw [Nat.log2_def n, if_pos (by omega)]
/-- the bits, from the lowest -/
def bitsL (n : Nat) : List Nat := (List.range (bl n)).map fun k => n / 2 ^ k % 2
theorem bitsL_0 : bitsL 0 = [] := rfl
theorem bitsL_pos {n : Nat} (h : 0 < n) : bitsL n = n % 2 :: bitsL (n / 2) := by
  unfold bitsL
  rw [bl_pos h, List.range_succ_eq_map, List.map_cons, List.map_map]
  congr 1
  · simp
  · refine List.map_congr_left fun k _ => ?_
    show n / 2 ^ (k + 1) % 2 = n / 2 / 2 ^ k % 2
    rw [Nat.pow_succ, Nat.mul_comm, Nat.div_div_eq_div_mul]
def pop (n : Nat) : Nat := (bitsL n).sum
theorem pop_0 : pop 0 = 0 := rfl
theorem pop_step (n : Nat) : pop n = n % 2 + pop (n / 2) := by
  by_cases h : 0 < n
  · unfold pop
    rw [bitsL_pos h, List.sum_cons]
  · have : n = 0 := by omega
    subst this
    rfl
def onesL (n : Nat) : List Nat := (List.range (bl n)).filter fun k => n / 2 ^ k % 2 == 1
theorem onesL_pos {n : Nat} (h : 0 < n) : onesL n = (if n % 2 = 1 then [0] else []) ++ (onesL (n / 2)).map Nat.succ := by
  unfold onesL
  rw [bl_pos h, List.range_succ_eq_map]
  have e : ((List.range (bl (n / 2))).map Nat.succ).filter (fun k => n / 2 ^ k % 2 == 1) = ((List.range (bl (n / 2))).filter fun k => n / 2 / 2 ^ k % 2 == 1).map Nat.succ := by
    rw [List.filter_map]
    congr 1
    refine List.filter_congr fun k _ => ?_
    show (n / 2 ^ (k + 1) % 2 == 1) = _
    rw [Nat.pow_succ, Nat.mul_comm, Nat.div_div_eq_div_mul]
  by_cases h1 : n % 2 = 1
  · rw [List.filter_cons_of_pos (by simp [h1]), e, if_pos h1]
    rfl
  · rw [List.filter_cons_of_neg (by simp [h1]), e, if_neg h1]
    rfl
abbrev p2s (l : List Nat) : Nat := (l.map fun k => 2 ^ k).sum
theorem down : ∀ q : List Nat, (∀ x ∈ q, 0 < x) → q = (q.map Nat.pred).map Nat.succ ∧ p2s q = 2 * p2s (q.map Nat.pred)
  | [], _ => ⟨rfl, rfl⟩
  | x :: r, h => by
    obtain ⟨h1, h2⟩ := down r fun y hy => h y (List.mem_cons_of_mem _ hy)
    have hx := h x (List.mem_cons_self ..)
    obtain ⟨y, rfl⟩ : ∃ y, x = y + 1 := ⟨x - 1, by omega⟩
    refine ⟨?_, ?_⟩
    · rw [List.map_cons, List.map_cons, ← h1]
      rfl
    · show 2 ^ (y + 1) + p2s r = 2 * (2 ^ y + p2s (r.map Nat.pred))
      rw [h2, Nat.pow_succ]
      omega
theorem down_lt : ∀ q : List Nat, (∀ x ∈ q, 0 < x) → q.Pairwise (· < ·) → (q.map Nat.pred).Pairwise (· < ·)
  | [], _, _ => .nil
  | x :: r, h, hp => by
    rw [List.pairwise_cons] at hp
    rw [List.map_cons, List.pairwise_cons]
    refine ⟨fun y hy => ?_, down_lt r (fun y hy => h y (List.mem_cons_of_mem _ hy)) hp.2⟩
    obtain ⟨z, hz, rfl⟩ := List.mem_map.mp hy
    have h1 := hp.1 z hz
    have h2 := h x (List.mem_cons_self ..)
    show x - 1 < z - 1
    omega
/-- strictly rising exponents are the places of the ones -/
theorem ones_of_sum : ∀ (n : Nat) (l : List Nat), l.Pairwise (· < ·) → p2s l = n → l = onesL n := by
  intro n
  induction n using Nat.strongRecOn with
  | _ n ih =>
    intro l hp hs
    by_cases h : 0 < n
    · rw [onesL_pos h]
      cases l with
      | nil =>
        have : (0 : Nat) = n := hs
        omega
      | cons x r =>
        rw [List.pairwise_cons] at hp
        have hs' : 2 ^ x + p2s r = n := hs
        have hr : ∀ y ∈ r, 0 < y := fun y hy => Nat.lt_of_le_of_lt (Nat.zero_le _) (hp.1 y hy)
        cases x with
        | zero =>
          obtain ⟨d1, d2⟩ := down r hr
          have e1 : n % 2 = 1 := by
            rw [← hs', d2]
            simp
          have e2 : p2s (r.map Nat.pred) = n / 2 := by
            rw [← hs', d2]
            simp
            omega
          have := ih (n / 2) (by omega) _ (down_lt r hr hp.2) e2
          rw [if_pos e1, ← this, ← d1]
          rfl
        | succ x =>
          have hq : ∀ y ∈ (x + 1) :: r, 0 < y := fun y hy => by
            rcases List.mem_cons.mp hy with rfl | hy
            · omega
            · exact hr y hy
          obtain ⟨d1, d2⟩ := down _ hq
          have hs2 : p2s ((x + 1) :: r) = n := hs
          rw [d2] at hs2
          have e1 : ¬ n % 2 = 1 := by omega
          have e2 : p2s (((x + 1) :: r).map Nat.pred) = n / 2 := by omega
          have := ih (n / 2) (by omega) _ (down_lt _ hq (List.pairwise_cons.mpr hp)) e2
          rw [if_neg e1, ← this, ← d1]
          rfl
    · have h0 : n = 0 := by omega
      subst h0
      cases l with
      | nil => rfl
      | cons x r =>
        have hs' : 2 ^ x + p2s r = 0 := hs
        have : 1 ≤ 2 ^ x := Nat.one_le_two_pow
        omega
theorem pop_len : ∀ n : Nat, (onesL n).length = pop n := by
  intro n
  induction n using Nat.strongRecOn with
  | _ n ih =>
    by_cases h : 0 < n
    · rw [onesL_pos h, pop_step, List.length_append, List.length_map, ih (n / 2) (by omega)]
      by_cases h1 : n % 2 = 1
      · rw [if_pos h1, h1]
        rfl
      · have : n % 2 = 0 := by omega
        rw [if_neg h1, this]
        rfl
    · have h0 : n = 0 := by omega
      subst h0
      rfl
theorem ord_sum : ∀ h : List BT, p2s (h.map BT.ord) = wsum h
  | [] => rfl
  | t :: r => by
    have := ord_sum r
    show 2 ^ t.ord + p2s (r.map BT.ord) = 2 ^ t.ord + wsum r
    rw [this]
/-- a good heap's orders are the ones of its size -/
theorem Hg.ords {h : List BT} (hh : Hg h) : h.map BT.ord = onesL (wsum h) := by
  refine ones_of_sum _ _ ?_ (ord_sum h)
  rw [List.pairwise_map]
  exact hh.s
theorem Hg.len {h : List BT} (hh : Hg h) : h.length = pop (wsum h) := by
  rw [← pop_len, ← hh.ords, List.length_map]
theorem c24 (j n : Nat) (hn : bl n ≤ 1000) (m : Mem) : C (j + 1) 24 [.int n] m = .ok (.int (pop n)) m := by
  rw [C, callF_at (k := 24) rfl _ _ _ rfl]
  have hr : rngOk 0 (bl n : Int) = true := by
    unfold rngOk
    simp
    omega
  obtain ⟨env1, m1, l1, ⟨t1, rfl⟩, rfl⟩ := forL_inv (f := forW (evSs (C j) (.cons (.asg (.nm 1) (.bin .add (.var 1) (.bin .band (.bin .shr (.var 0) (.var 2)) (.cn (.int 1)))))
  .nil)) (.nm 2)) (enc := fun k : Nat => D.int (0 + (k : Nat))) (P := fun pr env m' => (∃ t, env = [.val (.int n), .val (.int ((pr.map fun k => n / 2 ^ k % 2).sum : Nat)), t]) ∧ m' = m)
    (List.range (bl n)) [] [.val (.int n), .val (.int 0), .no] m (fun pr x po env m' e ⟨⟨t, e2⟩, e3⟩ => by
      subst e2 e3
      refine ⟨[.val (.int n), .val (.int (((pr ++ [x]).map fun k => n / 2 ^ k % 2).sum : Nat)), .val (.int x)], m', ?_, ⟨_, rfl⟩, rfl⟩
      simp [forW, PyProof.Rows.bitAnd_m1]) ⟨⟨_, rfl⟩, rfl⟩
  have l1 : forL (forW (evSs (callF td.fs j) (.cons (.asg (.nm 1) (.bin .add (.var 1) (.bin .band (.bin .shr (.var 0) (.var 2)) (.cn (.int 1)))))
  .nil)) (.nm 2)) (intsR 0 (bl n)) [.val (.int n), .val (.int 0), .no] m1 = .nxt [.val (.int n), .val (.int (pop n)), t1] m1 := l1
  have hb : Builtin.Int.intBits (n : Int) = bl n := rfl
  simp [b_ones_of, List.replicate, hb, hr, l1]
theorem c25 (j a b : Nat) (ha : bl a ≤ 1000) (hb : bl b ≤ 1000) (hab : bl (a + b) ≤ 1000) (m : Mem) : C (j + 2) 25 [.int a, .int b] m = .ok (.int ((pop a : Int) + pop b - pop (a + b))) m := by
  rw [C, callF_at (k := 25) rfl _ _ _ rfl]
  have e1 := c24 j a ha m
  have e2 := c24 j b hb m
  have e3 := c24 j (a + b) hab m
  rw [C] at e1 e2 e3
  rw [Int.natCast_add] at e3
  simp [b_join_links, e1, e2, e3]
theorem c26 (j n : Nat) (hn : bl n ≤ 1000) (m : Mem) : C (j + 2) 26 [.int n] m = .ok (.int (2 * (n : Int) - pop n)) m := by
  rw [C, callF_at (k := 26) rfl _ _ _ rfl]
  have e1 := c24 j n hn m
  rw [C] at e1
  have hm : mulOk 2 n = true := by
    unfold mulOk
    simp
  simp [b_puts_cost, e1, hm]
theorem c42 (j n : Nat) (hn : bl n ≤ 1000) (m : Mem) : C (j + 1) 42 [.int n] m = .ok (.tup ((bitsL n).map fun b => D.int (b : Nat))) m := by
  rw [C, callF_at (k := 42) rfl _ _ _ rfl]
  have hr : rngOk 0 (bl n : Int) = true := by
    unfold rngOk
    simp
    omega
  have hcomp : compL (compW (evT (callF td.fs j) .tru) (evE (callF td.fs j) (.bin .band (.bin .shr (.var 0) (.var 1)) (.cn (.int 1)))) (.nm 1) [.val (.int n), .no]) (intsR 0 (bl n)) m = .ok ((bitsL n).map fun b => D.int (b : Nat)) m := by
    unfold intsR
    rw [compL_map (enc := fun k : Nat => D.int (0 + (k : Nat))) (g := fun k => some (.int ((n / 2 ^ k % 2 : Nat) : Int))) _ fun k _ => by simp [compW, PyProof.Rows.bitAnd_m1]]
    rw [filterMap_some]
    unfold bitsL
    rw [List.map_map]
    rfl
  have hb : Builtin.Int.intBits (n : Int) = bl n := rfl
  simp [b__law_bits, List.replicate, hb, hr, hcomp]
theorem c47 (j n : Nat) (hn : bl n ≤ 1000) (m : Mem) : C (j + 1) 47 [.int n] m = .ok (.tup ((onesL n).map fun b => D.int (b : Nat))) m := by
  rw [C, callF_at (k := 47) rfl _ _ _ rfl]
  have hr : rngOk 0 (bl n : Int) = true := by
    unfold rngOk
    simp
    omega
  have hcomp : compL (compW (evT (callF td.fs j) (.cmp (.cmp .eq (.bin .band (.bin .shr (.var 0) (.var 1)) (.cn (.int 1))) (.cn (.int 1))))) (evE (callF td.fs j) (.var 1)) (.nm 1) [.val (.int n), .no]) (intsR 0 (bl n)) m = .ok ((onesL n).map fun b => D.int (b : Nat)) m := by
    unfold intsR
    rw [compL_map (enc := fun k : Nat => D.int (0 + (k : Nat))) (g := fun k => if n / 2 ^ k % 2 == 1 then some (.int (k : Nat)) else none) _ fun k _ => by
      have e : ((n : Int) / 2 ^ k % 2) = ((n / 2 ^ k % 2 : Nat) : Int) := by simp
      by_cases h : n / 2 ^ k % 2 = 1
      · simp [compW, PyProof.Rows.bitAnd_m1, e, h]
      · have h0 : n / 2 ^ k % 2 = 0 := by omega
        simp [compW, PyProof.Rows.bitAnd_m1, e, h0]]
    rw [filterMap_if (fun k => n / 2 ^ k % 2 == 1) (fun k : Nat => D.int (k : Nat))]
    rfl
  have hb : Builtin.Int.intBits (n : Int) = bl n := rfl
  simp [b__law_ones, List.replicate, hb, hr, hcomp]
theorem c46 (j : Nat) (h : List BT) (m : Mem) : C (j + 1) 46 [.tup (h.map BT.enc)] m = .ok (.tup (h.map fun t => D.int (t.ord : Nat))) m := by
  rw [C, callF_at (k := 46) rfl _ _ _ rfl]
  have hcomp : compL (compW (evT (callF td.fs j) .tru) (evE (callF td.fs j) (.bi .len (.cons (.idx (.var 1) (.cn (.int 1))) .nil))) (.nm 1) [.val (.tup (h.map BT.enc)), .no]) (h.map BT.enc) m = .ok (h.map fun t => D.int (t.ord : Nat)) m := by
    rw [compL_map (enc := BT.enc) (g := fun t => some (.int (t.ord : Nat))) h fun t _ => by simp [compW]]
    rw [filterMap_some]
  simp [b__law_orders, List.replicate, hcomp]
end K76

set_option Elab.async false
set_option linter.all false
set_option maxRecDepth 100000
set_option maxHeartbeats 4000000
/-! K76t: carries, keys of heaps. -/
namespace K76
open PySem PF

theorem range_at {N x : Nat} {pr po : List Nat} (e : List.range N = pr ++ x :: po) : x = pr.length := by
  have h2 : (List.range N)[pr.length]? = (pr ++ x :: po)[pr.length]? := by rw [e]
  rw [List.getElem?_append_right (Nat.le_refl _), Nat.sub_self] at h2
  have hlt : pr.length < N := by
    have := congrArg List.length e
    simp at this
    omega
  rw [List.getElem?_range hlt] at h2
  have : some pr.length = some x := h2
  exact (Option.some.inj this).symm
theorem div_high (n : Nat) : ∀ k, bl n ≤ k → n / 2 ^ k = 0 := by
  induction n using Nat.strongRecOn with
  | _ n ih =>
    intro k hk
    by_cases h : 0 < n
    · rw [bl_pos h] at hk
      obtain ⟨j, rfl⟩ : ∃ j, k = j + 1 := ⟨k - 1, by omega⟩
      have := ih (n / 2) (by omega) j (by omega)
      rw [Nat.pow_succ, Nat.mul_comm, ← Nat.div_div_eq_div_mul]
      exact this
    · have h0 : n = 0 := by omega
      subst h0
      simp
/-- what is left to carry -/
def rest (a b c : Nat) : Int := (pop a : Int) + pop b + c - pop (a + b + c)
theorem rest_step (a b c : Nat) : rest a b c = ((a % 2 + b % 2 + c) / 2 : Nat) + rest (a / 2) (b / 2) ((a % 2 + b % 2 + c) / 2) := by
  unfold rest
  rw [pop_step a, pop_step b, pop_step (a + b + c)]
  have e : (a + b + c) / 2 = a / 2 + b / 2 + (a % 2 + b % 2 + c) / 2 := by omega
  have e2 : (a + b + c) % 2 = (a % 2 + b % 2 + c) % 2 := by omega
  rw [e, e2]
  generalize pop (a / 2) = pa
  generalize pop (b / 2) = pb
  generalize pop (a / 2 + b / 2 + (a % 2 + b % 2 + c) / 2) = pc
  omega
theorem c43 (j a b : Nat) (ha : bl a ≤ 1000) (hb : bl b ≤ 1000) (m : Mem) : C (j + 1) 43 [.int a, .int b] m = .ok (.int ((pop a : Int) + pop b - pop (a + b))) m := by
  rw [C, callF_at (k := 43) rfl _ _ _ rfl]
  generalize hN : (if bl b > bl a then bl b else bl a) + 1 = N
  have hN1 : N ≤ 1001 := by
    rw [← hN]
    split <;> omega
  have hNa : bl a ≤ N ∧ bl b ≤ N := by
    rw [← hN]
    constructor <;> split <;> omega
  have hr : rngOk 0 (N : Int) = true := by
    unfold rngOk
    simp
    omega
  obtain ⟨env1, m1, l1, ⟨t1, t5, c, f, hc, rfl, hf⟩, rfl⟩ := forL_inv (f := forW (evSs (C j) (.cons (.asg (.nm 5) (.bin .add (.bin .add (.bin .band (.bin .shr (.var 0) (.var 2)) (.cn (.int 1))) (.bin .band (.bin .shr (.var 1) (.var 2)) (.cn (.int 1)))) (.var 4)))
  (.cons (.asg (.nm 4) (.ife (.cmp (.cmp .gt (.var 5) (.cn (.int 1)))) (.cn (.int 1)) (.cn (.int 0))))
  (.cons (.asg (.nm 3) (.bin .add (.var 3) (.var 4)))
  .nil)))) (.nm 2)) (enc := fun k : Nat => D.int (0 + (k : Nat))) (P := fun pr env m' => (∃ (t t5 : Sl) (c f : Nat), c ≤ 1 ∧ env = [.val (.int a), .val (.int b), t, .val (.int f), .val (.int c), t5] ∧ (f : Int) + rest (a / 2 ^ pr.length) (b / 2 ^ pr.length) c = (pop a : Int) + pop b - pop (a + b)) ∧ m' = m)
    (List.range N) [] [.val (.int a), .val (.int b), .no, .val (.int 0), .val (.int 0), .no] m (fun pr x po env m' e ⟨⟨t, t5, c, f, hc, e2, hf⟩, e3⟩ => by
      subst e2 e3
      have hx := range_at (by simpa using e)
      subst hx
      rw [rest_step] at hf
      have ea : a / 2 ^ pr.length / 2 = a / 2 ^ (pr.length + 1) := by rw [Nat.pow_succ, Nat.div_div_eq_div_mul]
      have eb : b / 2 ^ pr.length / 2 = b / 2 ^ (pr.length + 1) := by rw [Nat.pow_succ, Nat.div_div_eq_div_mul]
      rw [ea, eb] at hf
      generalize hA : a / 2 ^ pr.length % 2 = A at hf
      generalize hB : b / 2 ^ pr.length % 2 = B at hf
      have iA : (a : Int) / 2 ^ pr.length % 2 = (A : Nat) := by rw [← hA]; simp
      have iB : (b : Int) / 2 ^ pr.length % 2 = (B : Nat) := by rw [← hB]; simp
      have A1 : A < 2 := by rw [← hA]; exact Nat.mod_lt _ (by decide)
      have B1 : B < 2 := by rw [← hB]; exact Nat.mod_lt _ (by decide)
      refine ⟨[.val (.int a), .val (.int b), .val (.int (pr.length : Nat)), .val (.int ((f + (A + B + c) / 2 : Nat) : Int)), .val (.int (((A + B + c) / 2 : Nat) : Int)), .val (.int ((A : Int) + B + c))], m', ?_, ⟨_, _, (A + B + c) / 2, f + (A + B + c) / 2, by omega, rfl, ?_⟩, rfl⟩
      · by_cases hg : (1 : Int) < (A : Int) + B + c
        · have h1 : (A + B + c) / 2 = 1 := by omega
          simp [forW, PyProof.Rows.bitAnd_m1, iA, iB, hg, h1]
        · have h1 : (A + B + c) / 2 = 0 := by omega
          simp [forW, PyProof.Rows.bitAnd_m1, iA, iB, hg, h1]
      · rw [List.length_append, List.length_singleton]
        rw [← hf]
        omega) ⟨⟨.no, .no, 0, 0, Nat.zero_le _, rfl, by simp [rest]⟩, rfl⟩
  have hz : (f : Int) = (pop a : Int) + pop b - pop (a + b) := by
    rw [List.nil_append, List.length_range, div_high a N hNa.1, div_high b N hNa.2] at hf
    have hr0 : rest 0 0 c = 0 := by
      unfold rest
      rcases Nat.lt_or_ge 0 c with h | h
      · have : c = 1 := by omega
        subst this
        rfl
      · have : c = 0 := by omega
        subst this
        rfl
    omega
  have l1 : forL (forW (evSs (callF td.fs j) (.cons (.asg (.nm 5) (.bin .add (.bin .add (.bin .band (.bin .shr (.var 0) (.var 2)) (.cn (.int 1))) (.bin .band (.bin .shr (.var 1) (.var 2)) (.cn (.int 1)))) (.var 4)))
  (.cons (.asg (.nm 4) (.ife (.cmp (.cmp .gt (.var 5) (.cn (.int 1)))) (.cn (.int 1)) (.cn (.int 0))))
  (.cons (.asg (.nm 3) (.bin .add (.var 3) (.var 4)))
  .nil)))) (.nm 2)) (intsR 0 N) [.val (.int a), .val (.int b), .no, .val (.int 0), .val (.int 0), .no] m1 = .nxt [.val (.int a), .val (.int b), t1, .val (.int f), .val (.int c), t5] m1 := l1
  have hbb : Builtin.Int.intBits (b : Int) = bl b := rfl
  have hba : Builtin.Int.intBits (a : Int) = bl a := rfl
  have hmx : (if bl a < bl b then (bl b : Int) else (bl a : Int)) + 1 = (N : Int) := by
    rw [← hN]
    by_cases h : bl a < bl b
    · rw [if_pos h, if_pos h]
      rfl
    · rw [if_neg h, if_neg h]
      rfl
  rw [← hz]
  simp [b__law_carries, List.replicate, hba, hbb]
  simp [hmx, hr, l1]
/-! ### keys -/
theorem keysL_snoc (a : List BT) (x : BT) : BT.keysL (a ++ [x]) = BT.keysL a ++ x.keys := by
  rw [keysL_append, BT.keysL, BT.keysL, List.append_nil]
theorem c44 {k : Nat} {t : BT} (h : G k t) : t.keys.length ≤ 1000 → ∀ (n : Nat) (m : Mem), C (n + k + 1) 44 [t.enc] m = .ok (.lst (t.keys.map D.int)) m := by
  induction h with
  | @nd key cs k1 k2 hc hk ih =>
    intro hkl n m
    rw [C, callF_at (k := 44) rfl _ _ _ rfl]
    have hkl' : (BT.keysL cs).length ≤ 999 := by
      rw [BT.keys, List.length_cons] at hkl
      omega
    have z : ∀ j : Nat, j ≤ 5000 → j ≤ sizeLine := fun j hj => by
      have : (5000 : Nat) ≤ sizeLine := by decide
      omega
    obtain ⟨env1, m1, l1, ⟨t2, rfl⟩, rfl⟩ := forL_inv (f := forW (evSs (C (n + cs.length)) (.cons (.ext 1 (.call 44 (.cons (.var 2) .nil)))
  .nil)) (.nm 2)) (enc := BT.enc) (P := fun pr env m' => (∃ t2, env = [.val (BT.nd key cs).enc, .own ((key :: BT.keysL pr).map D.int), t2]) ∧ m' = m) cs [] [.val (BT.nd key cs).enc, .own [.int key], .no] m (fun pr x po env m' e ⟨⟨t2, e2⟩, e3⟩ => by
      subst e2 e3
      have e : cs = pr ++ x :: po := by simpa using e
      have hi : cs[pr.length]? = some x := by
        rw [e]
        simp
      have hl : pr.length < cs.length := (List.getElem?_eq_some_iff.mp hi).1
      have hlen : (BT.keysL pr).length + x.keys.length ≤ 999 := by
        rw [e, keysL_append, BT.keysL, List.length_append, List.length_append] at hkl'
        omega
      have e44 := ih _ x hi (by omega) (n + (cs.length - pr.length - 1)) m'
      rw [C, show n + (cs.length - pr.length - 1) + pr.length + 1 = n + cs.length from by omega] at e44
      have zz : (BT.keysL pr).length + 1 + x.keys.length ≤ sizeLine := z _ (by omega)
      refine ⟨[.val (BT.nd key cs).enc, .own ((key :: BT.keysL (pr ++ [x])).map D.int), .val x.enc], m', ?_, ⟨_, rfl⟩, rfl⟩
      simp [forW, C, e44, zz, keysL_snoc]) ⟨⟨.no, rfl⟩, rfl⟩
    rw [C] at l1
    simp at l1
    simp [b__law_keys, List.replicate, l1, BT.keys]
theorem keys_len {k : Nat} {t : BT} (h : G k t) : t.keys.length = 2 ^ k := by
  induction h with
  | @nd key cs k1 k2 hc hk ih =>
    rw [BT.keys, List.length_cons]
    have key' : ∀ n, n ≤ cs.length → (BT.keysL (cs.take n)).length + 1 = 2 ^ n := by
      intro n
      induction n with
      | zero => intro _; simp [BT.keysL]
      | succ n ihn =>
        intro hn
        have hlt : n < cs.length := by omega
        rw [List.take_succ_eq_append_getElem hlt, keysL_snoc, List.length_append, ih n _ (List.getElem?_eq_getElem hlt), Nat.pow_succ]
        have := ihn (by omega)
        omega
    have := key' cs.length (Nat.le_refl _)
    rw [List.take_length] at this
    exact this
theorem keysL_len : ∀ {h : List BT}, (∀ t ∈ h, G t.ord t) → (BT.keysL h).length = wsum h
  | [], _ => rfl
  | t :: r, hg => by
    rw [BT.keysL, wsum, List.length_append, keys_len (hg t (List.mem_cons_self ..)), keysL_len fun u hu => hg u (List.mem_cons_of_mem _ hu)]
theorem ord6 {h : List BT} {t : BT} (ht : t ∈ h) (hw : wsum h ≤ 100) : t.ord ≤ 6 := by
  have h1 := wsum_mem ht
  by_cases h2 : t.ord ≤ 6
  · exact h2
  · have h3 : 2 ^ 7 ≤ 2 ^ t.ord := Nat.pow_le_pow_right (by decide) (by omega)
    omega
/-- all keys of a heap, in order -/
def allK (h : List BT) : List Int := isorts (BT.keysL h)
theorem c45 (n : Nat) {h : List BT} (hh : Hg h) (hw : wsum h ≤ 63) (m : Mem) : C (n + 10) 45 [.tup (h.map BT.enc)] m = .ok (.lst ((allK h).map D.int)) m := by
  rw [C, callF_at (k := 45) rfl _ _ _ rfl]
  have z : ∀ j : Nat, j ≤ 5000 → j ≤ sizeLine := fun j hj => by
    have : (5000 : Nat) ≤ sizeLine := by decide
    omega
  have hkl := keysL_len hh.g
  obtain ⟨env1, m1, l1, ⟨t2, rfl⟩, rfl⟩ := forL_inv (f := forW (evSs (C (n + 9)) (.cons (.ext 1 (.call 44 (.cons (.var 2) .nil)))
  .nil)) (.nm 2)) (enc := BT.enc) (P := fun pr env m' => (∃ t2, env = [.val (.tup (h.map BT.enc)), .own ((BT.keysL pr).map D.int), t2]) ∧ m' = m) h [] [.val (.tup (h.map BT.enc)), .own [], .no] m (fun pr x po env m' e ⟨⟨t2, e2⟩, e3⟩ => by
      subst e2 e3
      have e : h = pr ++ x :: po := by simpa using e
      have hx : x ∈ h := by
        rw [e]
        simp
      have hlen : (BT.keysL pr).length + x.keys.length ≤ 63 := by
        rw [e, keysL_append, BT.keysL, List.length_append, List.length_append] at hkl
        rw [e] at hw
        omega
      have ho : x.ord ≤ 6 := ord6 hx (by omega)
      have e44 := c44 (hh.g x hx) (by omega) (n + (8 - x.ord)) m'
      rw [C, show n + (8 - x.ord) + x.ord + 1 = n + 9 from by omega] at e44
      have zz : (BT.keysL pr).length + x.keys.length ≤ sizeLine := z _ (by omega)
      refine ⟨[.val (.tup (h.map BT.enc)), .own ((BT.keysL (pr ++ [x])).map D.int), .val x.enc], m', ?_, ⟨_, rfl⟩, rfl⟩
      simp [forW, C, e44, zz, keysL_snoc]) ⟨⟨.no, rfl⟩, rfl⟩
  rw [C] at l1
  have hs : sortedF (.lst ((BT.keysL h).map D.int)) = some ((allK h).map D.int) := by
    unfold sortedF
    simp only [D.asInts_map]
    rw [if_pos (by omega)]
    rfl
  simp at l1
  simp [b__law_all, List.replicate, l1, hs]
theorem c18 (n : Nat) {h p q : List BT} {t : BT} (hh : Hg h) (hw : wsum h ≤ 50) (l : Least h p t q) (hb : biF .minl [.lst (h.map fun u => D.int u.key)] = some (.int t.key)) (m : Mem) :
    C (n + 4) 18 [.tup (h.map BT.enc)] m = .ok (.tup [.int t.key, .tup ((jr ((p ++ q) ++ t.cs)).found.map BT.enc)]) m := by
  rw [C, callF_at (k := 18) rfl _ _ _ rfl]
  have e := c17 n hh hw l hb m
  rw [C] at e
  simp [b_binomial_taken, List.replicate, e]
end K76

set_option Elab.async false
set_option linter.all false
set_option maxRecDepth 100000
set_option maxHeartbeats 4000000
/-! K76u: the judge of heaps; rows by sorted keys. -/
namespace K76
open PySem PF

theorem size_G {k : Nat} {t : BT} (h : G k t) : t.size = 2 ^ k := by
  induction h with
  | @nd key cs k1 k2 hc hk ih =>
    rw [BT.size]
    have app : ∀ (a : List BT) (x : BT), BT.sizes (a ++ [x]) = BT.sizes a + x.size := fun a x => by
      induction a with
      | nil => simp [BT.sizes]
      | cons y r ihr =>
        rw [List.cons_append, BT.sizes, BT.sizes, ihr]
        omega
    have key' : ∀ n, n ≤ cs.length → BT.sizes (cs.take n) + 1 = 2 ^ n := by
      intro n
      induction n with
      | zero => intro _; simp [BT.sizes]
      | succ n ihn =>
        intro hn
        have hlt : n < cs.length := by omega
        rw [List.take_succ_eq_append_getElem hlt, app, ih n _ (List.getElem?_eq_getElem hlt), Nat.pow_succ]
        have := ihn (by omega)
        omega
    have := key' cs.length (Nat.le_refl _)
    rw [List.take_length] at this
    exact this
theorem sizes_w : ∀ {h : List BT}, (∀ t ∈ h, G t.ord t) → ((h.map fun c => (c.size : Int)).sum) = (wsum h : Nat)
  | [], _ => rfl
  | t :: r, hg => by
    rw [List.map_cons, List.sum_cons, sizes_w fun u hu => hg u (List.mem_cons_of_mem _ hu), size_G (hg t (List.mem_cons_self ..)), wsum]
    omega
theorem c11 (n : Nat) {h : List BT} (hh : Hg h) (hw : wsum h ≤ 36) (m : Mem) : C (n + 13) 11 [.tup (h.map BT.enc)] m = .ok .non m := by
  rw [C, callF_at (k := 11) rfl _ _ _ rfl]
  have o6 : ∀ t ∈ h, t.ord ≤ 6 := fun t ht => ord6 ht (by omega)
  have e7 : ∀ t ∈ h, callF td.fs (n + 12) 7 [t.enc] m = .ok (.bl true) m := fun t ht => by
    have := c7 (hh.g t ht) (n + (7 - t.ord)) m
    have ho := o6 t ht
    rw [C, show n + (7 - t.ord) + t.ord + 5 = n + 12 from by omega] at this
    exact this
  have lo : ∀ t ∈ h, ∀ f, (∀ j, C (j + t.ord + 1) f [t.enc] m = .ok (.bl true) m) → callF td.fs (n + 12) f [t.enc] m = .ok (.bl true) m := fun t ht f hf => by
    have := hf (n + (11 - t.ord))
    have ho := o6 t ht
    rw [C, show n + (11 - t.ord) + t.ord + 1 = n + 12 from by omega] at this
    exact this
  have e8 : ∀ t ∈ h, callF td.fs (n + 12) 8 [t.enc] m = .ok (.int t.size) m := fun t ht => by
    have := c8 (hh.g t ht) (n + (11 - t.ord)) m
    have ho := o6 t ht
    rw [C, show n + (11 - t.ord) + t.ord + 1 = n + 12 from by omega] at this
    exact this
  have e9 : ∀ t ∈ h, callF td.fs (n + 12) 9 [t.enc] m = .ok (.bl true) m := fun t ht => lo t ht 9 fun j => c9 (hh.g t ht) j m
  have e10 : ∀ t ∈ h, callF td.fs (n + 12) 10 [t.enc] m = .ok (.bl true) m := fun t ht => lo t ht 10 fun j => c10 (hh.g t ht) j m
  have k1 : compL (compW (evT (callF td.fs (n + 12)) .tru) (evE (callF td.fs (n + 12)) (.call 7 (.cons (.var 2) .nil))) (.nm 2) [.val (.tup (h.map BT.enc)), .no, .no]) (h.map BT.enc) m = .ok (List.replicate h.length (D.bl true)) m := by
    rw [compL_map (enc := BT.enc) (g := fun _ => some (.bl true)) h fun t ht => by simp [compW, e7 t ht]]
    simp [List.map_const']
  have k2 : compL (compW (evT (callF td.fs (n + 12)) .tru) (evE (callF td.fs (n + 12)) (.call 8 (.cons (.var 2) .nil))) (.nm 2) [.val (.tup (h.map BT.enc)), .no, .no]) (h.map BT.enc) m = .ok ((h.map fun c => (c.size : Int)).map D.int) m := by
    rw [compL_map (enc := BT.enc) (g := fun c => some (.int c.size)) h fun t ht => by simp [compW, e8 t ht]]
    simp
  have hs := bi_sumL (h.map fun c => (c.size : Int))
  rw [sizes_w hh.g] at hs
  have hg36 : ¬ (36 : Int) < (wsum h : Nat) := by omega
  obtain ⟨env1, m1, l1, ⟨t1, t2, rfl⟩, rfl⟩ := forL_inv (f := forW (evSs (C (n + 12)) (.cons (.ifs (.tor (.nt (.ex (.call 9 (.cons (.var 2) .nil)))) (.t1 (.tand (.cmp (.cmp .gt (.var 1) (.cn (.int 0)))) (.t1 (.cmp (.cmp .le (.bi .len (.cons (.idx (.var 2) (.cn (.int 1))) .nil)) (.bi .len (.cons (.idx (.idx (.var 0) (.bin .sub (.var 1) (.cn (.int 1)))) (.cn (.int 1))) .nil)))))))) (.cons (.ret (.tup (.cons (.cn (.str "order")) (.cons (.var 1) .nil))))
  .nil) .nil)
  (.cons (.ifs (.nt (.ex (.call 10 (.cons (.var 2) .nil)))) (.cons (.ret (.tup (.cons (.cn (.str "key")) (.cons (.var 1) .nil))))
  .nil) .nil)
  .nil))) (.tup (.cons (.nm 1) (.cons (.nm 2) .nil)))) (enc := fun p : BT × Nat => D.tup [.int (p.2 : Nat), p.1.enc]) (P := fun _ env m' => (∃ t1 t2, env = [.val (.tup (h.map BT.enc)), t1, t2]) ∧ m' = m) h.zipIdx [] [.val (.tup (h.map BT.enc)), .no, .no] m (fun pr x po env m' e ⟨⟨t1, t2, e2⟩, e3⟩ => by
      subst e2 e3
      obtain ⟨t, i⟩ := x
      have hmem : (t, i) ∈ h.zipIdx := by
        have e : h.zipIdx = pr ++ (t, i) :: po := by simpa using e
        rw [e]
        simp
      have hi : h[i]? = some t := List.mem_zipIdx_iff_getElem?.mp hmem
      have ht : t ∈ h := List.mem_of_getElem? hi
      refine ⟨[.val (.tup (h.map BT.enc)), .val (.int (i : Nat)), .val t.enc], m', ?_, ⟨_, _, rfl⟩, rfl⟩
      by_cases h0 : i = 0
      · subst h0
        simp [forW, C, e9 t ht, e10 t ht]
      · have hl : i < h.length := (List.getElem?_eq_some_iff.mp hi).1
        have hu : h[i - 1]? = some h[i - 1] := List.getElem?_eq_getElem (by omega)
        have hat : L2.atI (h.map BT.enc) ((i : Int) - 1) = some h[i - 1].enc := by
          unfold L2.atI L2.ixN
          rw [if_pos (by omega), if_pos (by rw [List.length_map]; omega)]
          show (h.map BT.enc)[((i : Int) - 1).toNat]? = _
          rw [show ((i : Int) - 1).toNat = i - 1 from by omega, List.getElem?_map, hu]
          rfl
        have hlt : h[i - 1].cs.length < t.cs.length := by
          have := List.pairwise_iff_getElem.mp hh.s (i - 1) i (by omega) hl (by omega)
          rw [show h[i] = t from by
            have := List.getElem?_eq_getElem hl
            rw [this] at hi
            exact Option.some.inj hi] at this
          exact this
        have hng : ¬ t.cs.length ≤ h[i - 1].cs.length := by omega
        have hp : 0 < i := by omega
        simp [forW, C, e9 t ht, e10 t ht, hat, hng, hp]) ⟨⟨_, _, rfl⟩, rfl⟩
  rw [C] at l1
  rw [← enumR_enc] at l1
  simp at k1 k2 hs l1
  simp [b_binomial_error, List.replicate, k1, k2, hs, hg36, l1, all_true]
/-! ### rows by sorted keys -/
theorem isorts_len (l : List Int) : (isorts l).length = l.length := (isorts_perm l).length_eq
theorem isorts_of {a b : List Int} (h : a.Perm b) : isorts a = isorts b := sorted_is ((isorts_perm a).trans h) (isorts_sorted a)
/-- a take's least key stands first -/
theorem allK_take {h p q : List BT} {t : BT} (hh : Hg h) (l : Least h p t q) : allK h = t.key :: allK (jr ((p ++ q) ++ t.cs)).found := by
  obtain ⟨g1, g2, g3, g4, g5⟩ := hh.part l
  obtain ⟨k1, k2⟩ := kids_g g2
  have j := (joined g1 k1).kys
  unfold allK
  have pm : (t.key :: isorts (BT.keysL (jr ((p ++ q) ++ t.cs)).found)).Perm (BT.keysL h) := by
    refine List.Perm.trans ?_ g4.symm
    rw [keys_eq t, List.cons_append]
    refine List.Perm.cons _ ((isorts_perm _).trans (j.trans ?_))
    rw [keysL_append]
    exact List.perm_append_comm
  symm
  refine sorted_is pm ?_
  rw [List.pairwise_cons]
  refine ⟨fun y hy => ?_, isorts_sorted _⟩
  -- all keys are at least the least root
  have low : ∀ {k : Nat} {u : BT}, G k u → ∀ y ∈ u.keys, u.key ≤ y := fun {k u} hu => by
    induction hu with
    | @nd key cs h1 h2 h3 h4 ih =>
      intro y hy
      rw [BT.keys] at hy
      rcases List.mem_cons.mp hy with rfl | hy
      · exact Int.le_refl _
      · have inL : ∀ {r : List BT}, y ∈ BT.keysL r → ∃ c ∈ r, y ∈ c.keys := fun {r} => by
          induction r with
          | nil => intro z; cases z
          | cons c r ihr =>
            intro z
            rw [BT.keysL] at z
            rcases List.mem_append.mp z with z | z
            · exact ⟨c, List.mem_cons_self .., z⟩
            · obtain ⟨d, hd, z⟩ := ihr z
              exact ⟨d, List.mem_cons_of_mem _ hd, z⟩
        obtain ⟨c, hcm, hyc⟩ := inL hy
        obtain ⟨i, hi⟩ := List.mem_iff_getElem?.mp hcm
        exact Int.le_trans (h4 c hcm) (ih i c hi y hyc)
  have hy2 : y ∈ BT.keysL h := pm.mem_iff.mp (List.mem_cons_of_mem _ hy)
  have inL : ∀ {r : List BT}, y ∈ BT.keysL r → ∃ c ∈ r, y ∈ c.keys := fun {r} => by
    induction r with
    | nil => intro z; cases z
    | cons c r ihr =>
      intro z
      rw [BT.keysL] at z
      rcases List.mem_append.mp z with z | z
      · exact ⟨c, List.mem_cons_self .., z⟩
      · obtain ⟨d, hd, z⟩ := ihr z
        exact ⟨d, List.mem_cons_of_mem _ hd, z⟩
  obtain ⟨c, hcm, hyc⟩ := inL hy2
  exact Int.le_trans (l.le c hcm) (low (hh.g c hcm) y hyc)
theorem allK_put {h : List BT} (hh : Hg h) {k : Int} (h1 : -1000 ≤ k) (h2 : k ≤ 1000) : isorts (allK h ++ [k]) = allK (jr (h ++ [.nd k []])).found := by
  unfold allK
  refine isorts_of ?_
  have j := (joined hh (Hg.single h1 h2)).kys
  rw [keysL_append] at j
  refine List.Perm.trans ?_ j.symm
  have e : BT.keysL [.nd k []] = [k] := by
    rw [BT.keysL, BT.keysL, BT.keys, BT.keysL]
    rfl
  rw [e]
  exact (isorts_perm _).append_right _
theorem c4 (n : Nat) (row : List (Option Int)) (hl : row.length ≤ 1000) (hok : okR 0 row) (m : Mem) :
    C (n + 1) 4 [.tup (row.map encD)] m = .ok (.tup [.tup ((led row).tk.map D.int), .tup ((allK (led row).h).map D.int)]) m := by
  have z : ∀ j : Nat, j ≤ 1000 → j < sizeLine := fun j hj => by
    have : (1001 : Nat) ≤ sizeLine := by decide
    omega
  obtain ⟨env1, m1, l1, ⟨t1, rfl⟩, rfl⟩ := forL_inv (f := forW (evSs (C n) (.cons (.ifs (.cmp (.cmp .eq (.idx (.var 1) (.cn (.int 0))) (.cn (.str "put")))) (.cons (.asg (.nm 2) (.fr (.sorted (.fr (.cat (.var 2) (.fr (.lst (.cons (.idx (.var 1) (.cn (.int 1))) .nil))))))))
  .nil) (.cons (.app 3 (.idx (.var 2) (.cn (.int 0))))
  (.cons (.asg (.nm 2) (.fr (.slc (.var 2) (.so (.cn (.int 1))) .no)))
  .nil)))
  .nil)) (.nm 1)) (enc := encD) (P := fun pr env m' => (∃ t1, env = [.val (.tup (row.map encD)), t1, .val (.lst ((allK (led pr).h).map D.int)), .own ((led pr).tk.map D.int)]) ∧ m' = m)
    row [] [.val (.tup (row.map encD)), .no, .val (.lst []), .own []] m (fun pr x po env m' e ⟨⟨t1, e2⟩, e3⟩ => by
      subst e2 e3
      have e : row = pr ++ x :: po := by simpa using e
      obtain ⟨ld, ok1, ok2⟩ := led_ok hok pr (x :: po) e
      obtain ⟨hh, lc, lp, _⟩ := ld.hg
      have hkl : (allK (led pr).h).length ≤ 36 := by
        unfold allK
        rw [isorts_len, keysL_len hh.g]
        exact ok2
      have htk : (led pr).tk.length ≤ 1000 := by
        have hpr : pr.length ≤ 1000 := by
          have := congrArg List.length e
          simp at this
          omega
        have : ∀ {r : List (Option Int)} {h : List BT} {c p : List Nat} {tk : List Int}, Led r h c p tk → tk.length ≤ r.length := fun l => by
          induction l with
          | nil => exact Nat.le_refl _
          | put _ _ _ ih => simp; omega
          | take _ _ ih => simp; omega
        have := this ld
        omega
      rw [led_snoc]
      generalize led pr = s at *
      have zt : s.tk.length < sizeLine := z _ htk
      have zk : (allK s.h).length + 1 ≤ sizeLine := by
        have := z 37 (by omega)
        omega
      cases x with
      | some k =>
        obtain ⟨k1, k2, _, _⟩ := ok1
        have e1 := allK_put hh k1 k2
        have hs : sortedF (.lst ((allK s.h).map D.int ++ [.int k])) = some ((allK (jr (s.h ++ [.nd k []])).found).map D.int) := by
          have e3 : (allK s.h).map D.int ++ [.int k] = (allK s.h ++ [k]).map D.int := by rw [List.map_append]; rfl
          rw [e3]
          unfold sortedF
          simp only [D.asInts_map]
          rw [if_pos (by rw [List.length_append, List.length_singleton]; omega), e1]
        refine ⟨[.val (.tup (row.map encD)), .val (encD (some k)), .val (.lst ((allK (jr (s.h ++ [.nd k []])).found).map D.int)), .own (s.tk.map D.int)], m', ?_, ⟨_, rfl⟩, rfl⟩
        simp [forW, encD, put_put, C, zk, hs]
      | none =>
        obtain ⟨k3, _⟩ := ok1
        have hne : s.h ≠ [] := fun z => by
          rw [z] at k3
          exact absurd k3 (Nat.lt_irrefl _)
        obtain ⟨ls, hb⟩ := split_ok hne
        unfold lstep
        simp only
        generalize (split s.h).1 = pp at *
        generalize (split s.h).2.1 = t at *
        generalize (split s.h).2.2 = q at *
        have e1 := allK_take hh ls
        rw [e1]
        generalize allK (jr ((pp ++ q) ++ t.cs)).found = AK
        have hc : cutD (D.int t.key :: AK.map D.int) (some 1) none = AK.map D.int := by
          have := cut_drop (D.int t.key :: AK.map D.int) 1 (by simp)
          exact this
        have ha : L2.atI (D.int t.key :: AK.map D.int) 0 = some (.int t.key) := at_nat [] _ _
        refine ⟨[.val (.tup (row.map encD)), .val (encD none), .val (.lst (AK.map D.int)), .own ((s.tk ++ [t.key]).map D.int)], m', ?_, ⟨_, rfl⟩, rfl⟩
        simp [forW, encD, take_put, C, hc, ha, zt]) ⟨⟨_, rfl⟩, rfl⟩
  rw [C, callF_at (k := 4) rfl _ _ _ rfl]
  rw [C] at l1
  simp at l1
  simp [b_led_keys, List.replicate, l1]
end K76

set_option Elab.async false
set_option linter.all false
set_option maxRecDepth 100000
set_option maxHeartbeats 4000000
/-! K76v: counting to the base 2. -/
namespace K76
open PySem PF

def natD (l : List Nat) : List D := l.map fun b => D.int (b : Nat)
theorem natD_append (a b : List Nat) : natD (a ++ b) = natD a ++ natD b := List.map_append
theorem natD_len (a : List Nat) : (natD a).length = a.length := List.length_map _
theorem bitsL_len (n : Nat) : (bitsL n).length = bl n := by
  unfold bitsL
  rw [List.length_map, List.length_range]
theorem c27_loop (j : Nat) (m : Mem) : ∀ (k n : Nat) (acc : List Nat), bl n < k → acc.length + bl n ≤ 2000 →
    whlL (evT (callF td.fs j) (.cmp (.cmp .gt (.var 1) (.cn (.int 0))))) (evSs (callF td.fs j) (.cons (.app 2 (.bin .mod (.var 1) (.var 0)))
  (.cons (.asg (.nm 1) (.bin .fdiv (.var 1) (.var 0)))
  .nil))) k [.val (.int 2), .val (.int n), .own (natD acc)] m = .nxt [.val (.int 2), .val (.int 0), .own (natD (acc ++ bitsL n))] m
  | 0, n, acc, h, _ => absurd h (Nat.not_lt_zero _)
  | k + 1, n, acc, h, hz => by
    rw [whlL]
    by_cases h0 : 0 < n
    · have hb := bl_pos h0
      have ih := c27_loop j m k (n / 2) (acc ++ [n % 2]) (by omega) (by rw [List.length_append, List.length_singleton]; omega)
      have zl : (natD acc).length < sizeLine := by
        rw [natD_len]
        have : (3000 : Nat) ≤ sizeLine := by decide
        omega
      have e70 : (2 : Int) ≤ 10 ^ 70 := by decide
      rw [List.append_assoc, List.singleton_append, ← bitsL_pos h0] at ih
      have e2 : natD (acc ++ [n % 2]) = natD acc ++ [.int ((n : Int) % 2)] := by
        rw [natD_append]
        simp [natD]
      rw [e2, Int.natCast_ediv] at ih
      simp [h0, zl, e70, -Int.reducePow]
      exact ih
    · have hn : n = 0 := by omega
      subst hn
      simp [bitsL_0]
theorem c27 (j n : Nat) (hn : bl n < 80) (m : Mem) : C (j + 1) 27 [.int 2, .int n] m = .ok (.tup (natD (bitsL n))) m := by
  rw [C, callF_at (k := 27) rfl _ _ _ rfl]
  have e := c27_loop j m 80 n [] hn (by simp; omega)
  simp [natD] at e
  simp [b_count_of, List.replicate, natD, e]
/-- leading ones -/
def lead : List Nat → Nat
  | 1 :: r => lead r + 1
  | _ => 0
theorem lead_le : ∀ l : List Nat, lead l ≤ l.length
  | [] => Nat.le_refl _
  | 1 :: r => by
    rw [lead, List.length_cons]
    have := lead_le r
    omega
  | 0 :: r => Nat.zero_le _
  | (x + 2) :: r => Nat.zero_le _
theorem at_mid (p q : List Nat) (x : Nat) : L2.atI (natD (p ++ x :: q)) (p.length : Int) = some (.int x) := by
  have := at_nat (natD p) (natD q) (.int (x : Nat))
  rw [natD_len] at this
  rw [natD_append]
  exact this
theorem c29_loop (j : Nat) (m : Mem) (l : List Nat) : ∀ (k : Nat) (pre suf : List Nat), l = pre ++ suf → suf.length < k →
    whlL (evT (callF td.fs j) (.tand (.cmp (.cmp .lt (.var 2) (.bi .len (.cons (.var 1) .nil)))) (.t1 (.cmp (.cmp .eq (.idx (.var 1) (.var 2)) (.bin .sub (.var 0) (.cn (.int 1)))))))) (evSs (callF td.fs j) (.cons (.asg (.nm 2) (.bin .add (.var 2) (.cn (.int 1))))
  .nil)) k [.val (.int 2), .val (.tup (natD l)), .val (.int pre.length)] m = .nxt [.val (.int 2), .val (.tup (natD l)), .val (.int ((pre.length + lead suf : Nat) : Int))] m
  | 0, pre, suf, _, h => absurd h (Nat.not_lt_zero _)
  | k + 1, pre, suf, e, h => by
    rw [whlL]
    cases suf with
    | nil =>
      rw [List.append_nil] at e
      subst e
      simp [natD, lead]
    | cons x r =>
      have hlt : pre.length < l.length := by
        rw [e, List.length_append, List.length_cons]
        omega
      have hat := at_mid pre r x
      rw [← e] at hat
      by_cases hx : x = 1
      · subst hx
        have ih := c29_loop j m l k (pre ++ [1]) r (by rw [e, List.append_assoc]; rfl) (by rw [List.length_cons] at h; omega)
        rw [List.length_append, List.length_singleton] at ih
        have e2 : pre.length + lead (1 :: r) = pre.length + 1 + lead r := by
          rw [lead]
          omega
        rw [e2]
        simp [natD_len, hlt, hat]
        simpa using ih
      · have hx' : ¬ ((x : Int) = 1) := by omega
        have e2 : lead (x :: r) = 0 := by
          unfold lead
          split
          · rename_i h1
            cases h1
            exact absurd rfl hx
          · rfl
        simp [natD_len, hlt, hat, hx', e2]
theorem c29 (j : Nat) (l : List Nat) (hl : l.length < 80) (m : Mem) : C (j + 1) 29 [.int 2, .tup (natD l)] m = .ok (.int (lead l)) m := by
  rw [C, callF_at (k := 29) rfl _ _ _ rfl]
  have e := c29_loop j m l 80 [] l rfl hl
  simp at e
  simp [b_full_figures, List.replicate, e]
theorem c31 (j : Nat) (l : List Nat) (hl : l.length < 80) (m : Mem) : C (j + 2) 31 [.int 2, .tup (natD l)] m = .ok (.int ((lead l : Int) + 1)) m := by
  rw [C, callF_at (k := 31) rfl _ _ _ rfl]
  have e := c29 j l hl m
  rw [C] at e
  simp [b_up_flips, e]
/-- one more -/
def incL : List Nat → List Nat
  | [] => [1]
  | 1 :: r => 0 :: incL r
  | x :: r => (x + 1) :: r
theorem incL_bits : ∀ n : Nat, incL (bitsL n) = bitsL (n + 1) ∧ pop n + 1 = pop (n + 1) + lead (bitsL n) := by
  intro n
  induction n using Nat.strongRecOn with
  | _ n ih =>
    by_cases h : 0 < n
    · rw [bitsL_pos h, bitsL_pos (show 0 < n + 1 by omega), pop_step n, pop_step (n + 1)]
      obtain ⟨i1, i2⟩ := ih (n / 2) (by omega)
      by_cases h1 : n % 2 = 1
      · have e1 : (n + 1) / 2 = n / 2 + 1 := by omega
        have e2 : (n + 1) % 2 = 0 := by omega
        rw [h1, e1, e2]
        refine ⟨by rw [incL, i1], ?_⟩
        rw [lead]
        omega
      · have h0 : n % 2 = 0 := by omega
        have e1 : (n + 1) / 2 = n / 2 := by omega
        have e2 : (n + 1) % 2 = 1 := by omega
        rw [h0, e1, e2]
        refine ⟨rfl, ?_⟩
        show 0 + pop (n / 2) + 1 = 1 + pop (n / 2) + 0
        omega
    · have h0 : n = 0 := by omega
      subst h0
      exact ⟨rfl, rfl⟩
end K76

set_option Elab.async false
set_option linter.all false
set_option maxRecDepth 100000
set_option maxHeartbeats 4000000
/-! K76w: counting up, flips, prices. -/
namespace K76
open PySem PF

theorem incL_lead : ∀ l : List Nat, incL l = List.replicate (lead l) 0 ++ (match l.drop (lead l) with
    | [] => [1]
    | x :: r => (x + 1) :: r)
  | [] => rfl
  | 1 :: r => by
    rw [incL, incL_lead r, lead, List.drop_succ_cons, List.replicate_succ, List.cons_append]
  | 0 :: r => rfl
  | (x + 2) :: r => rfl
theorem rep0 (k : Nat) : (List.replicate k [D.int 0]).flatten = natD (List.replicate k 0) := by
  induction k with
  | zero => rfl
  | succ k ih =>
    rw [List.replicate_succ, List.flatten_cons, ih, List.replicate_succ]
    rfl
theorem natD_rep (k : Nat) : natD (List.replicate k 0) = List.replicate k (D.int 0) := by
  unfold natD
  rw [List.map_replicate]
  rfl
theorem c30 (j : Nat) (l : List Nat) (hl : l.length < 80) (m : Mem) : C (j + 2) 30 [.int 2, .tup (natD l)] m = .ok (.tup (natD (incL l))) m := by
  rw [C, callF_at (k := 30) rfl _ _ _ rfl]
  have e := c29 j l hl m
  rw [C] at e
  have hle := lead_le l
  have z : ∀ k : Nat, k ≤ 1000 → k ≤ sizeLine := fun k hk => by
    have : (1001 : Nat) ≤ sizeLine := by decide
    omega
  rw [incL_lead]
  have k1000 : (lead l : Int) ≤ 1000 := by omega
  by_cases h : lead l = l.length
  · have hd : l.drop (lead l) = [] := by rw [h, List.drop_length]
    rw [hd]
    have zz : lead l + 1 ≤ sizeLine := z _ (by omega)
    have h' : (lead l : Int) = (l.length : Nat) := by rw [h]
    rw [natD_append]
    simp [b_count_up, List.replicate, e, natD_len, h, k1000, rep0]
    have zz' : l.length + 1 ≤ sizeLine := by omega
    have k' : (l.length : Int) ≤ 1000 := by omega
    simp [k', natD_len, zz', natD]
  · have hlt : lead l < l.length := by omega
    obtain ⟨x, r, hx⟩ : ∃ x r, l.drop (lead l) = x :: r := by
      cases hd : l.drop (lead l) with
      | nil =>
        have := congrArg List.length hd
        simp at this
        omega
      | cons x r => exact ⟨x, r, rfl⟩
    have hsp : l = l.take (lead l) ++ x :: r := by rw [← hx, List.take_append_drop]
    have hat := at_mid (l.take (lead l)) r x
    rw [← hsp, List.length_take, Nat.min_eq_left hle] at hat
    have hcut : cutD (natD l) (some ((lead l : Int) + 1)) none = natD r := by
      have e2 : ((lead l : Int) + 1) = ((lead l + 1 : Nat) : Int) := by omega
      rw [e2, cut_drop _ _ (by rw [natD_len]; omega)]
      unfold natD
      rw [← List.map_drop]
      congr 1
      rw [← List.drop_drop, hx]
      rfl
    rw [hx]
    have hrl : r.length < 80 := by
      have := congrArg List.length hx
      simp at this
      omega
    have z1 : lead l + 1 ≤ sizeLine := z _ (by omega)
    have z2 : lead l + 1 + r.length ≤ sizeLine := z _ (by omega)
    have hne : ¬ ((lead l : Int) = (l.length : Nat)) := by omega
    have e3 : natD (List.replicate (lead l) 0 ++ (x + 1) :: r) = natD (List.replicate (lead l) 0) ++ .int ((x : Int) + 1) :: natD r := by
      rw [natD_append]
      rfl
    simp only [e3]
    simp [b_count_up, List.replicate, e, natD_len, h, hne, k1000, rep0, natD_rep, hat, hcut, z1, z2]
theorem up_up : cmpF .eq (.str "up") (.str "up") = some true := by
  have e : eqOk (.str "up") (.str "up") = true := rfl
  rw [cmp_eq, if_pos e, D.beq, beq_self_eq_true]
def flipsL (n : Nat) : List Nat := (List.range n).map fun i => lead (bitsL i) + 1
theorem flipsL_succ (n : Nat) : flipsL (n + 1) = flipsL n ++ [lead (bitsL n) + 1] := by
  unfold flipsL
  rw [List.range_succ, List.map_append]
  rfl
theorem bl_le : ∀ (k n : Nat), n < 2 ^ k → bl n ≤ k
  | 0, n, h => by
    have : n = 0 := by omega
    subst this
    exact Nat.le_refl _
  | k + 1, n, h => by
    by_cases h0 : 0 < n
    · rw [bl_pos h0]
      have := bl_le k (n / 2) (by rw [Nat.pow_succ] at h; omega)
      omega
    · have : n = 0 := by omega
      subst this
      exact Nat.zero_le _
theorem c32 (j n : Nat) (hn : n ≤ 40) (m : Mem) : C (j + 3) 32 [.int 2, .tup [], .tup (List.replicate n (.str "up"))] m = .ok (.tup (natD (flipsL n))) m := by
  rw [C, callF_at (k := 32) rfl _ _ _ rfl]
  obtain ⟨env1, m1, l1, ⟨t1, rfl⟩, rfl⟩ := forL_inv (f := forW (evSs (C (j + 2)) (.cons (.ifs (.cmp (.cmp .eq (.var 4) (.cn (.str "up")))) (.cons (.app 3 (.call 31 (.cons (.var 0) (.cons (.var 1) .nil))))
  (.cons (.asg (.nm 1) (.call 30 (.cons (.var 0) (.cons (.var 1) .nil))))
  .nil)) (.cons (.app 3 (.bi .len (.cons (.fr (.comp [5] (.nm 5) (.ex (.var 1)) (.cmp (.cmp .ne (.var 5) (.cn (.int 0)))) (.var 5))) .nil)))
  (.cons (.asg (.nm 1) (.tup .nil))
  .nil)))
  .nil)) (.nm 4)) (enc := fun _ : Unit => D.str "up") (P := fun pr env m' => (∃ t1, env = [.val (.int 2), .val (.tup (natD (bitsL pr.length))), .val (.tup (List.replicate n (.str "up"))), .own (natD (flipsL pr.length)), t1, .no]) ∧ m' = m)
    (List.replicate n ()) [] [.val (.int 2), .val (.tup []), .val (.tup (List.replicate n (.str "up"))), .own [], .no, .no] m (fun pr x po env m' e ⟨⟨t1, e2⟩, e3⟩ => by
      subst e2 e3
      have hpr : pr.length < n := by
        have := congrArg List.length e
        simp at this
        omega
      have hb : (bitsL pr.length).length < 80 := by
        rw [bitsL_len]
        have := bl_le 6 pr.length (by omega)
        omega
      have e31 := c31 j (bitsL pr.length) hb m'
      have e30 := c30 j (bitsL pr.length) hb m'
      rw [C] at e31 e30
      rw [(incL_bits pr.length).1] at e30
      have zf : (natD (flipsL pr.length)).length < sizeLine := by
        have : (1001 : Nat) ≤ sizeLine := by decide
        rw [natD_len]
        unfold flipsL
        rw [List.length_map, List.length_range]
        omega
      refine ⟨[.val (.int 2), .val (.tup (natD (bitsL (pr ++ [x]).length))), .val (.tup (List.replicate n (.str "up"))), .own (natD (flipsL (pr ++ [x]).length)), .val (.str "up"), .no], m', ?_, ⟨_, rfl⟩, rfl⟩
      rw [List.length_append, List.length_singleton, flipsL_succ, natD_append]
      simp [forW, C, up_up, e31, e30, zf]
      simp [natD]) ⟨⟨_, rfl⟩, rfl⟩
  rw [C] at l1
  simp at l1
  simp [b_count_run, List.replicate, l1]
end K76

set_option Elab.async false
set_option linter.all false
set_option maxRecDepth 100000
set_option maxHeartbeats 4000000
/-! K76x: worth, lowest, flips. -/
namespace K76
open PySem PF

def val2 : List Nat → Nat
  | [] => 0
  | x :: r => x + 2 * val2 r
theorem val2_bits : ∀ n : Nat, val2 (bitsL n) = n := by
  intro n
  induction n using Nat.strongRecOn with
  | _ n ih =>
    by_cases h : 0 < n
    · rw [bitsL_pos h, val2, ih (n / 2) (by omega)]
      omega
    · have h0 : n = 0 := by omega
      subst h0
      rfl
theorem whlL_s (t : List Sl → Mem → R Bool) (f : List Sl → Mem → SR) (n : Nat) (env : List Sl) (m : Mem) : whlL t f (n + 1) env m = (t env m).thn env fun k m1 => if k then (match f env m1 with
    | .nxt env1 m2 => whlL t f n env1 m2
    | .cnt env1 m2 => whlL t f n env1 m2
    | .brk env1 m2 => .nxt env1 m2
    | r => r) else .nxt env m1 := by
  rw [whlL] <;> rfl
theorem c33 (j s : Nat) (m : Mem) : C (j + 1) 33 [.int s, .int 1] m = .ok (.tup [.int s, .int 1]) m := by
  rw [C, callF_at (k := 33) rfl _ _ _ rfl]
  have e70 : (1 : Int) ≤ 10 ^ 70 := by decide
  have hs : ¬ ((s : Int) < 0) := by omega
  have l1 : whlL (evT (callF td.fs j) (.cmp (.cmp .ne (.var 3) (.cn (.int 0))))) (evSs (callF td.fs j) (.cons (.par [(2, .val (.var 3)), (3, .val (.bin .mod (.var 2) (.var 3)))])
  .nil)) 80 [.val (.int s), .val (.int 1), .val (.int s), .val (.int 1)] m = .nxt [.val (.int s), .val (.int 1), .val (.int 1), .val (.int 0)] m := by
    rw [show (80 : Nat) = 78 + 1 + 1 from rfl, whlL_s]
    simp [whlL_s]
  simp [b_lowest, List.replicate, hs, l1, e70, -Int.reducePow]
theorem nat_sum : ∀ l : List Nat, ((l.map fun b : Nat => (b : Int)).sum) = (l.sum : Nat)
  | [] => rfl
  | x :: r => by
    rw [List.map_cons, List.sum_cons, nat_sum r, List.sum_cons]
    omega
theorem sum_natD (l : List Nat) : biF .suml [.tup (natD l)] = some (.int (l.sum : Nat)) := by
  have := bi_sumT (l.map fun b : Nat => (b : Int))
  rw [nat_sum, List.map_map] at this
  exact this
theorem c34 (j n : Nat) (hn : bl n < 80) (m : Mem) : C (j + 2) 34 [.int 2, .int n] m = .ok (.int (2 * (n : Int) - pop n)) m := by
  rw [C, callF_at (k := 34) rfl _ _ _ rfl]
  have e := c27 j n hn m
  rw [C] at e
  have hm : mulOk 2 n = true := by
    unfold mulOk
    simp
  have e70 : (1 : Int) ≤ 10 ^ 70 := by decide
  simp [b_flips_to, e, hm, sum_natD, e70, -Int.reducePow]
  rfl
theorem c35 (j a b : Nat) (ha : bl a < 80) (hab : bl (a + b) < 80) (m : Mem) : C (j + 3) 35 [.int 2, .int a, .int b] m = .ok (.int ((2 * ((a + b : Nat) : Int) - pop (a + b)) - (2 * (a : Int) - pop a))) m := by
  rw [C, callF_at (k := 35) rfl _ _ _ rfl]
  have e1 := c34 j a ha m
  have e2 := c34 j (a + b) hab m
  rw [C] at e1 e2
  rw [Int.natCast_add] at e2
  simp [b_flips_between, e1, e2]
theorem c36 (j : Nat) (m : Mem) : C (j + 2) 36 [.int 2] m = .ok (.tup [.int 2, .int 1]) m := by
  rw [C, callF_at (k := 36) rfl _ _ _ rfl]
  have e := c33 j 2 m
  rw [C] at e
  simp at e
  simp [b_count_price, e]
theorem c37 (j : Nat) (l : List Nat) (m : Mem) : C (j + 2) 37 [.int 2, .tup (natD l)] m = .ok (.tup [.int (l.sum : Nat), .int 1]) m := by
  rw [C, callF_at (k := 37) rfl _ _ _ rfl]
  have e := c33 j l.sum m
  rw [C] at e
  simp [b_count_potential, e, sum_natD]
theorem c5 (n : Nat) (row : List (Option Int)) (hl : row.length ≤ 1000) (hok : okR 0 row) (m : Mem) : C (n + 2) 5 [.tup (row.map encD)] m = .ok (.tup ((led row).tk.map D.int)) m := by
  rw [C, callF_at (k := 5) rfl _ _ _ rfl]
  have e := c4 n row hl hok m
  rw [C] at e
  simp [b_taken_keys, e]
theorem c6 (n : Nat) (row : List (Option Int)) (hl : row.length ≤ 1000) (hok : okR 0 row) (m : Mem) : C (n + 2) 6 [.tup (row.map encD)] m = .ok (.tup ((allK (led row).h).map D.int)) m := by
  rw [C, callF_at (k := 6) rfl _ _ _ rfl]
  have e := c4 n row hl hok m
  rw [C] at e
  simp [b_kept_keys, e]
end K76

set_option Elab.async false
set_option linter.all false
set_option maxRecDepth 100000
set_option maxHeartbeats 4000000
/-! K76x28: count_worth. -/
namespace K76
open PySem PF
theorem wturn (K : Call) (v y : Int) (l : D) (t1 : Sl) (m : Mem) (hm : mulOk v 2 = true) : forW (evSs K (.cons (.asg (.nm 2) (.bin .add (.bin .mul (.var 2) (.var 0)) (.var 3)))
  .nil)) (.nm 3) (.int y) [.val (.int 2), .val l, .val (.int v), t1] m = .nxt [.val (.int 2), .val l, .val (.int (v * 2 + y)), .val (.int y)] m := by
  simp [forW, hm]
theorem mul2 (v : Int) : mulOk v 2 = true := by
  unfold mulOk
  rw [Bool.or_eq_true]
  exact .inr (by decide)
theorem c28 (j : Nat) (l : List Nat) (m : Mem) : C (j + 1) 28 [.int 2, .tup (natD l)] m = .ok (.int (val2 l)) m := by
  rw [C, callF_at (k := 28) rfl _ _ _ rfl]
  obtain ⟨env1, m1, l1, ⟨t1, rfl⟩, rfl⟩ := forL_inv (f := forW (evSs (C j) (.cons (.asg (.nm 2) (.bin .add (.bin .mul (.var 2) (.var 0)) (.var 3)))
  .nil)) (.nm 3)) (enc := fun b : Nat => D.int (b : Nat)) (P := fun pr env m' => (∃ t1, env = [.val (.int 2), .val (.tup (natD l)), .val (.int (val2 pr.reverse)), t1]) ∧ m' = m)
    l.reverse [] [.val (.int 2), .val (.tup (natD l)), .val (.int 0), .no] m (fun pr x po env m' e ⟨⟨t1, e2⟩, e3⟩ => by
      subst e2 e3
      refine ⟨[.val (.int 2), .val (.tup (natD l)), .val (.int (val2 (pr ++ [x]).reverse)), .val (.int (x : Nat))], m', ?_, ⟨_, rfl⟩, rfl⟩
      have e4 : ((val2 (pr ++ [x]).reverse : Nat) : Int) = (val2 pr.reverse : Int) * 2 + x := by
        have e5 : val2 (pr ++ [x]).reverse = x + 2 * val2 pr.reverse := by
          rw [List.reverse_append, List.reverse_singleton, List.singleton_append, val2]
        rw [e5]
        omega
      rw [e4]
      exact wturn _ _ _ _ _ _ (mul2 _)) ⟨⟨_, rfl⟩, rfl⟩
  rw [C] at l1
  have er : (natD l).reverse = l.reverse.map fun b : Nat => D.int (b : Nat) := by
    unfold natD
    rw [List.map_reverse]
  rw [List.nil_append, List.reverse_reverse] at l1
  simp [b_count_worth, List.replicate, er]
  simp at l1
  simp [l1]
end K76

set_option Elab.async false
set_option linter.all false
set_option maxRecDepth 100000
set_option maxHeartbeats 4000000
/-! K76b: drawn rows of puts. -/
namespace K76
open PySem PF

theorem dDraw : td.fs[39]? = some ⟨2, 5, drawB⟩ := rfl
theorem dPick : td.fs[40]? = some ⟨2, 2, pickB 39⟩ := rfl
theorem dSame : td.fs[41]? = some ⟨2, 4, sameB 41⟩ := rfl
theorem dOwn : td.fs[38]? = some ⟨1, 4, ownB 76⟩ := rfl
theorem row_of : ∀ ys : List D, (∀ y ∈ ys, ∃ k : Int, y = encD (some k) ∧ -1000 ≤ k ∧ k ≤ 1000) → ∃ ks : List Int, ys = (ks.map some).map encD ∧ ∀ k ∈ ks, -1000 ≤ k ∧ k ≤ 1000
  | [], _ => ⟨[], rfl, fun k hk => nomatch hk⟩
  | y :: r, h => by
    obtain ⟨k, rfl, hk⟩ := h y (List.mem_cons_self ..)
    obtain ⟨ks, rfl, hks⟩ := row_of r fun z hz => h z (List.mem_cons_of_mem _ hz)
    refine ⟨k :: ks, rfl, fun j hj => ?_⟩
    rcases List.mem_cons.mp hj with rfl | hj
    · exact hk
    · exact hks j hj
theorem c48 (j n : Nat) (hn : n ≤ 1000) {m : Mem} (hb : BagOk m) : ∃ (ks : List Int) (m' : Mem), C (j + 3) 48 [.obj 1, .int n] m = .ok (.tup ((ks.map some).map encD)) m' ∧ ks.length = n ∧ (∀ k ∈ ks, -1000 ≤ k ∧ k ≤ 1000) ∧ BagOk m' := by
  obtain ⟨x, m1, e1, hx, hb1⟩ := pick_ok dPick dDraw j (xs := [.int 1, .int 5, .int 1000]) (by simp) (by simp) hb
  obtain ⟨few, rfl, f1, f2⟩ : ∃ few : Int, x = .int few ∧ 1 ≤ few ∧ few ≤ 1000 := by
    simp at hx
    rcases hx with rfl | rfl | rfl
    · exact ⟨1, rfl, by omega, by omega⟩
    · exact ⟨5, rfl, by omega, by omega⟩
    · exact ⟨1000, rfl, by omega, by omega⟩
  have hmul : mulOk 2 few = true := by
    unfold mulOk
    rw [Bool.or_eq_true]
    exact .inl (by decide)
  have hr : rngOk 0 (n : Int) = true := by
    unfold rngOk
    simp
    omega
  obtain ⟨ys, m2, e2, l2, p2, hb2⟩ := compL_inv (f := compW (evT (callF td.fs (j + 2)) .tru) (evE (callF td.fs (j + 2)) (.tup (.cons (.cn (.str "put")) (.cons (.bin .sub (.call 39 (.cons (.var 0) (.cons (.bin .add (.bin .mul (.cn (.int 2)) (.var 2)) (.cn (.int 1))) .nil))) (.var 2)) .nil)))) (.nm 3) [.val (.obj 1), .val (.int n), .val (.int few), .no])
    (I := BagOk) (P := fun y => ∃ k : Int, y = encD (some k) ∧ -1000 ≤ k ∧ k ≤ 1000) (intsR 0 n) (fun z hz m hm => by
      obtain ⟨v, m', e, v0, v1, hm'⟩ := draw_ok dDraw (j + 1) (b := 2 * few + 1) (by omega) (by
        have : (3000 : Int) ≤ 10 ^ 70 := by decide
        omega) hm
      refine ⟨encD (some (v - few)), m', ?_, ⟨_, rfl, by omega, by omega⟩, hm'⟩
      simp [compW, hmul, e, encD]) m1 hb1
  obtain ⟨ks, rfl, hks⟩ := row_of ys p2
  refine ⟨ks, m2, ?_, ?_, hks, hb2⟩
  · rw [C, callF_at (k := 48) rfl _ _ _ rfl]
    simp [b__law_puts, List.replicate, e1, hr]
    simp at e2
    simp [e2]
  · unfold intsR at l2
    simpa using l2
end K76

set_option Elab.async false
set_option linter.all false
set_option maxRecDepth 100000
set_option maxHeartbeats 4000000
/-! K76c: what a row of puts leaves. -/
namespace K76
open PySem PF

structure Puts (ks : List Int) (s : LS) : Prop where
  hg : Hg s.h
  w : wsum s.h = ks.length
  c : s.c = flipsL ks.length
  p : s.p = List.replicate ks.length 2
  k : (BT.keysL s.h).Perm ks
  t : s.tk = []
theorem puts_rev : ∀ l : List Int, (∀ k ∈ l, -1000 ≤ k ∧ k ≤ 1000) → Puts l.reverse (led (l.reverse.map some))
  | [], _ => ⟨⟨fun t ht => (nomatch ht), .nil⟩, rfl, rfl, rfl, .refl _, rfl⟩
  | k :: l, h => by
    obtain ⟨h1, h2, h3, h4, h5, h6⟩ := puts_rev l fun j hj => h j (List.mem_cons_of_mem _ hj)
    obtain ⟨k1, k2⟩ := h k (List.mem_cons_self ..)
    rw [List.reverse_cons, List.map_append]
    show Puts (l.reverse ++ [k]) (led (l.reverse.map some ++ [some k]))
    rw [led_snoc]
    generalize led (l.reverse.map some) = s at *
    have j := joined h1 (Hg.single k1 k2)
    have g := Hg.join h1 (Hg.single k1 k2)
    have w := put_w h1 k1 k2
    have cn := j.cnt
    rw [List.length_append, List.length_singleton, g.len, h1.len, w, h2] at cn
    have ib := (incL_bits l.reverse.length).2
    have hl : (l.reverse ++ [k]).length = l.reverse.length + 1 := by rw [List.length_append, List.length_singleton]
    refine ⟨g, ?_, ?_, ?_, ?_, h6⟩
    · show wsum (jr (s.h ++ [.nd k []])).found = _
      rw [w, h2, hl]
    · show s.c ++ [1 + (jr (s.h ++ [.nd k []])).links] = _
      rw [hl, flipsL_succ, h3]
      congr 2
      omega
    · show s.p ++ [2] = _
      rw [hl, h4, List.replicate_succ']
    · show (BT.keysL (jr (s.h ++ [.nd k []])).found).Perm _
      refine j.kys.trans ?_
      rw [keysL_append]
      have e : BT.keysL [.nd k []] = [k] := by
        rw [BT.keysL, BT.keysL, BT.keys, BT.keysL]
        rfl
      rw [e]
      exact h5.append_right _
theorem puts_ok {ks : List Int} (h : ∀ k ∈ ks, -1000 ≤ k ∧ k ≤ 1000) : Puts ks (led (ks.map some)) := by
  have := puts_rev ks.reverse fun k hk => h k (List.mem_reverse.mp hk)
  rw [List.reverse_reverse] at this
  exact this
theorem puts_row : ∀ (ks : List Int) (n : Nat), (∀ k ∈ ks, -1000 ≤ k ∧ k ≤ 1000) → n + ks.length ≤ 36 → okR n (ks.map some)
  | [], _, _, _ => True.intro
  | k :: r, n, h, hl => by
    obtain ⟨k1, k2⟩ := h k (List.mem_cons_self ..)
    rw [List.length_cons] at hl
    exact ⟨k1, k2, by omega, puts_row r (n + 1) (fun j hj => h j (List.mem_cons_of_mem _ hj)) (by omega)⟩
/-- what the flips come to -/
theorem flips_sum : ∀ n : Nat, (flipsL n).sum + pop n = 2 * n
  | 0 => rfl
  | n + 1 => by
    have := flips_sum n
    have ib := (incL_bits n).2
    rw [flipsL_succ, List.sum_append, List.sum_singleton]
    omega
end K76

set_option Elab.async false
set_option linter.all false
set_option maxRecDepth 100000
set_option maxHeartbeats 8000000
/-! K76d: rows of puts are right. -/
namespace K76
open PySem PF

theorem ints_tu (l : List Nat) : D.tus (natD l) = true := by
  induction l with
  | nil => rfl
  | cons x r ih =>
    show (D.tu (.int x) && D.tus (natD r)) = true
    rw [ih]
    rfl
theorem ints_deps (l : List Nat) : D.deps (natD l) = 0 := by
  induction l with
  | nil => rfl
  | cons x r ih =>
    show max (D.dep (.int x)) (D.deps (natD r)) = 0
    rw [ih]
    rfl
theorem ints_pure (l : List Nat) : D.pures (natD l) = true := by
  induction l with
  | nil => rfl
  | cons x r ih =>
    show (D.pure (.int x) && D.pures (natD r)) = true
    rw [ih]
    rfl
theorem tup_ne (l : List Nat) : cmpF .ne (.tup (natD l)) (.tup (natD l)) = some false := by
  have h1 : eqOk (.tup (natD l)) (.tup (natD l)) = true := by
    unfold eqOk
    rw [D.pure, ints_pure, D.dep, ints_deps]
    rfl
  have h2 : (D.tup (natD l)).beq (.tup (natD l)) = true := beq_refl _ (by rw [D.tu, ints_tu])
  rw [cmp_ne, if_pos h1, h2]
  rfl
theorem same (j : Nat) (d : D) (h : d.tu = true) (hd : d.dep ≤ 5) (m : Mem) : callF td.fs (j + 6) 41 [d, d] m = .ok (.bl true) m :=
  same_ok dSame m (j + 5) d h (by omega)
mutual
theorem enc_tu : ∀ t : BT, t.enc.tu = true
  | .nd k cs => by
    rw [BT.enc, D.tu, D.tus, D.tus, D.tu, D.tu, encs_tu cs, D.tus]
    rfl
theorem encs_tu : ∀ cs : List BT, D.tus (BT.encs cs) = true
  | [] => rfl
  | t :: r => by
    rw [BT.encs, D.tus, enc_tu t, encs_tu r]
    rfl
end
theorem heap_tu (h : List BT) : (D.tup (h.map BT.enc)).tu = true := by
  rw [D.tu, ← encs_map, encs_tu]
theorem deps_le {b : Nat} : ∀ {xs : List D}, (∀ x ∈ xs, x.dep ≤ b) → D.deps xs ≤ b
  | [], _ => Nat.zero_le _
  | x :: r, h => by
    have h1 := h x (List.mem_cons_self ..)
    have h2 := deps_le (xs := r) fun y hy => h y (List.mem_cons_of_mem _ hy)
    rw [D.deps]
    omega
theorem enc_dep {k : Nat} {t : BT} (h : G k t) : t.enc.dep ≤ 2 * k + 2 := by
  induction h with
  | @nd key cs k1 k2 hc hk ih =>
    have hd : D.deps (cs.map BT.enc) ≤ 2 * cs.length := by
      refine deps_le fun x hx => ?_
      obtain ⟨c, hcm, rfl⟩ := List.mem_map.mp hx
      obtain ⟨i, hi⟩ := List.mem_iff_getElem?.mp hcm
      have hl := (List.getElem?_eq_some_iff.mp hi).1
      have := ih i c hi
      omega
    rw [enc_nd, D.dep, D.deps, D.deps, D.deps, D.dep, D.dep]
    omega
theorem heap_dep {h : List BT} (hh : Hg h) (hw : wsum h ≤ 100) : (D.tup (h.map BT.enc)).dep ≤ 15 := by
  have hd : D.deps (h.map BT.enc) ≤ 14 := by
    refine deps_le fun x hx => ?_
    obtain ⟨c, hcm, rfl⟩ := List.mem_map.mp hx
    have h1 := enc_dep (hh.g c hcm)
    have h2 := ord6 hcm hw
    omega
  rw [D.dep]
  omega
theorem same_heap (j : Nat) {h : List BT} (hh : Hg h) (hw : wsum h ≤ 100) (m : Mem) : callF td.fs (j + 16) 41 [.tup (h.map BT.enc), .tup (h.map BT.enc)] m = .ok (.bl true) m :=
  same_ok dSame m (j + 15) _ (heap_tu h) (by have := heap_dep hh hw; omega)
theorem pures_ints (l : List Int) : D.pures (l.map D.int) = true := by
  induction l with
  | nil => rfl
  | cons x r ih =>
    show (D.pure (.int x) && D.pures (r.map D.int)) = true
    rw [ih]
    rfl
theorem deps_ints (l : List Int) : D.deps (l.map D.int) = 0 := by
  induction l with
  | nil => rfl
  | cons x r ih =>
    show max (D.dep (.int x)) (D.deps (r.map D.int)) = 0
    rw [ih]
    rfl
theorem beqs_ints : ∀ l : List Int, D.beqs (l.map D.int) (l.map D.int) = true
  | [] => rfl
  | x :: r => by
    show (D.beq (.int x) (.int x) && D.beqs (r.map D.int) (r.map D.int)) = true
    rw [beqs_ints r]
    simp [D.beq]
theorem lst_cmp (l : List Int) : cmpF .ne (.lst (l.map D.int)) (.lst (l.map D.int)) = some false ∧ cmpF .eq (.lst (l.map D.int)) (.lst (l.map D.int)) = some true := by
  have h1 : eqOk (.lst (l.map D.int)) (.lst (l.map D.int)) = true := by
    unfold eqOk
    rw [D.pure, pures_ints, D.dep, deps_ints]
    rfl
  have h2 : (D.lst (l.map D.int)).beq (.lst (l.map D.int)) = true := by rw [D.beq, beqs_ints]
  exact ⟨by rw [cmp_ne, if_pos h1, h2]; rfl, by rw [cmp_eq, if_pos h1, h2]⟩
end K76

set_option Elab.async false
set_option linter.all false
set_option maxRecDepth 100000
set_option maxHeartbeats 8000000
/-! K76e: two heaps joined are right. -/
namespace K76
open PySem PF

theorem bl64 {n : Nat} (h : n ≤ 63) : bl n ≤ 6 := bl_le 6 n (by omega)
theorem c50 (j a b : Nat) (hab : a + b ≤ 36) {m : Mem} (hb : BagOk m) : ∃ m', C (j + 20) 50 [.obj 1, .int a, .int b] m = .ok (.bl true) m' ∧ BagOk m' := by
  obtain ⟨ka, m1, e1, la, ba, hb1⟩ := c48 (j + 16) a (by omega) hb
  obtain ⟨kb, m2, e2, lb, bb, hb2⟩ := c48 (j + 16) b (by omega) hb1
  have pa := puts_ok ba
  have pb := puts_ok bb
  have e3 := c20 (j + 14) (ka.map some) (by rw [List.length_map]; omega) (puts_row ka 0 ba (by omega)) m1
  have e4 := c20 (j + 14) (kb.map some) (by rw [List.length_map]; omega) (puts_row kb 0 bb (by omega)) m2
  generalize (led (ka.map some)) = sa at *
  generalize (led (kb.map some)) = sb at *
  have wa : wsum sa.h = a := by rw [pa.w, la]
  have wb : wsum sb.h = b := by rw [pb.w, lb]
  have J := joined pa.hg pb.hg
  have F := Hg.join pa.hg pb.hg
  have e5 := c14 pa.hg pb.hg (j + 16) m2 (by omega)
  have wF : wsum (jr (sa.h ++ sb.h)).found = a + b := by rw [J.wgt, wsum_append, wa, wb]
  have kF : allK (jr (sa.h ++ sb.h)).found = isorts (allK sa.h ++ allK sb.h) := by
    unfold allK
    refine isorts_of (J.kys.trans ?_)
    rw [keysL_append]
    exact ((isorts_perm _).append (isorts_perm _)).symm
  have cn := J.cnt
  generalize hFd : (jr (sa.h ++ sb.h)).found = Fd at *
  have e6 := same_heap (j + 3) F (by omega) m2
  have e7 := c11 (j + 6) F (by omega) m2
  have e8 := c46 (j + 18) Fd m2
  have e9 := c47 (j + 18) (a + b) (by have := bl64 (n := a + b) (by omega); omega) m2
  have e10 := c45 (j + 9) F (by omega) m2
  have e11 := c45 (j + 9) pa.hg (by omega) m2
  have e12 := c45 (j + 9) pb.hg (by omega) m2
  have ba6 := bl64 (n := a) (by omega)
  have bb6 := bl64 (n := b) (by omega)
  have bab := bl64 (n := a + b) (by omega)
  have bba : bl (b + a) ≤ 6 := by rw [Nat.add_comm]; exact bab
  have e13 := c25 (j + 17) a b (by omega) (by omega) (by omega) m2
  have e14 := c25 (j + 17) b a (by omega) (by omega) (by omega) m2
  have e15 := c43 (j + 18) a b (by omega) (by omega) m2
  have hord : (Fd.map fun t => D.int (t.ord : Nat)) = natD (onesL (a + b)) := by
    have := F.ords
    rw [wF] at this
    rw [← this]
    unfold natD
    rw [List.map_map]
    rfl
  rw [hord] at e8
  have e9' : C (j + 19) 47 [.int ((a : Int) + b)] m2 = .ok (.tup (natD (onesL (a + b)))) m2 := by
    rw [← Int.natCast_add]
    exact e9
  have hne := tup_ne (onesL (a + b))
  have l1 : (sa.h.length : Int) = pop a := by rw [pa.hg.len, wa]
  have l2 : (sb.h.length : Int) = pop b := by rw [pb.hg.len, wb]
  have l3 : (Fd.length : Int) = pop (a + b) := by rw [F.len, wF]
  have e14' : C (j + 19) 25 [.int b, .int a] m2 = .ok (.int ((pop a : Int) + pop b - pop (a + b))) m2 := by
    rw [Nat.add_comm a b, Int.add_comm (pop a : Int)]
    exact e14
  generalize hv : (pop a : Int) + pop b - pop (a + b) = v at *
  have e16 := same (j + 13) (.tup [.int v, .int v, .int v]) rfl (by simp [D.dep, D.deps]) m2
  have hsort : sortedF (.lst ((allK sa.h).map D.int ++ (allK sb.h).map D.int)) = some ((allK Fd).map D.int) := by
    have e3 : (allK sa.h).map D.int ++ (allK sb.h).map D.int = (allK sa.h ++ allK sb.h).map D.int := by rw [List.map_append]
    rw [e3]
    unfold sortedF
    simp only [D.asInts_map]
    have hl : (allK sa.h ++ allK sb.h).length < 64 := by
      unfold allK
      rw [List.length_append, isorts_len, isorts_len, keysL_len pa.hg.g, keysL_len pb.hg.g, wa, wb]
      omega
    rw [if_pos hl, kF]
  have hz : (allK sa.h).length + (allK sb.h).length ≤ sizeLine := by
    have : (100 : Nat) ≤ sizeLine := by decide
    unfold allK
    rw [isorts_len, isorts_len, keysL_len pa.hg.g, keysL_len pb.hg.g, wa, wb]
    omega
  have hlc := (lst_cmp (allK Fd)).1
  generalize (ka.map some).map encD = ra at e1 e3
  generalize (kb.map some).map encD = rb at e2 e4
  refine ⟨m2, ?_, hb2⟩
  rw [C, callF_at (k := 50) rfl _ _ _ rfl]
  simp only [C] at e1 e2 e3 e4 e5 e6 e7 e8 e9' e10 e11 e12 e13 e14' e15
  simp [b__law_is_join_right, List.replicate, e1, e2, e3, e4, e5, e6, e7, e8, e9', e10, e11, e12, e13, e14', e15, hne, hsort, hz, hlc, l1, l2, l3, hv, e16]
end K76

set_option Elab.async false
set_option linter.all false
set_option maxRecDepth 100000
set_option maxHeartbeats 8000000
/-! K76f: a take is right. -/
namespace K76
open PySem PF

theorem tup_eq (l : List Nat) : cmpF .eq (.tup (natD l)) (.tup (natD l)) = some true := by
  have h1 : eqOk (.tup (natD l)) (.tup (natD l)) = true := by
    unfold eqOk
    rw [D.pure, ints_pure, D.dep, ints_deps]
    rfl
  have h2 : (D.tup (natD l)).beq (.tup (natD l)) = true := beq_refl _ (by rw [D.tu, ints_tu])
  rw [cmp_eq, if_pos h1, h2]
theorem first_ord {h p q : List BT} {t : BT} (l : Least h p t q) : ∃ r : List BT, h.filter (fun u => u.key == t.key) = t :: r := by
  obtain ⟨e, _, ne⟩ := l
  refine ⟨q.filter fun u => u.key == t.key, ?_⟩
  rw [e, List.filter_append, List.filter_cons]
  have : p.filter (fun u => u.key == t.key) = [] := by
    rw [List.filter_eq_nil_iff]
    intro u hu
    simpa using ne u hu
  rw [this]
  simp
theorem at_hd (x : D) (xs : List D) : L2.atI (x :: xs) 0 = some x := by
  unfold L2.atI L2.ixN
  simp
theorem cut_tl (x : D) (xs : List D) : cutD (x :: xs) (some 1) none = xs := by
  have := cut_drop (x :: xs) 1 (by rw [List.length_cons]; omega)
  exact this
theorem c51 (j n : Nat) (hn : n ≤ 36) (h1 : 1 ≤ n) {m : Mem} (hb : BagOk m) : ∃ m', C (j + 20) 51 [.obj 1, .int n] m = .ok (.bl true) m' ∧ BagOk m' := by
  obtain ⟨ka, m1, e1, la, ba, hb1⟩ := c48 (j + 16) n (by omega) hb
  have pa := puts_ok ba
  have e3 := c20 (j + 14) (ka.map some) (by rw [List.length_map]; omega) (puts_row ka 0 ba (by omega)) m1
  generalize (led (ka.map some)) = sa at *
  have wa : wsum sa.h = n := by rw [pa.w, la]
  have hne : sa.h ≠ [] := by
    intro e
    rw [e] at wa
    have : (0 : Nat) = n := wa
    omega
  obtain ⟨p, t, q, l, hm⟩ := least_of hne
  have e4 := c18 (j + 15) pa.hg (by omega) l hm m1
  obtain ⟨g1, g2, g3, g4, g5⟩ := pa.hg.part l
  obtain ⟨k1, k2⟩ := kids_g g2
  have J := joined g1 k1
  have F := Hg.join g1 k1
  have kk := allK_take pa.hg l
  have tw := take_w pa.hg l
  obtain ⟨r, hr⟩ := first_ord l
  have ht6 := ord6 (h := sa.h) (t := t) (by rw [l.eq]; simp) (by omega)
  generalize hFd : (jr ((p ++ q) ++ t.cs)).found = Fd at *
  have wF : wsum Fd = n - 1 := by omega
  have e5 := c45 (j + 9) pa.hg (by omega) m1
  have e6 := c45 (j + 9) F (by omega) m1
  have e8 := c46 (j + 18) Fd m1
  have b1 := bl64 (n := n - 1) (by omega)
  have b2 := bl64 (n := n - 2 ^ t.ord) (by omega)
  have b3 := bl64 (n := 2 ^ t.ord - 1) (by omega)
  have e9 := c47 (j + 18) (n - 1) (by omega) m1
  have hp2 : 1 ≤ 2 ^ t.ord := Nat.one_le_two_pow
  have hsum : n - 2 ^ t.ord + (2 ^ t.ord - 1) = n - 1 := by omega
  have e10 := c25 (j + 17) (n - 2 ^ t.ord) (2 ^ t.ord - 1) (by omega) (by omega) (by rw [hsum]; omega) m1
  rw [hsum] at e10
  have hord : (Fd.map fun t => D.int (t.ord : Nat)) = natD (onesL (n - 1)) := by
    have := F.ords
    rw [wF] at this
    rw [← this]
    unfold natD
    rw [List.map_map]
    rfl
  rw [hord] at e8
  have e9' : C (j + 19) 47 [.int ((n : Int) - 1)] m1 = .ok (.tup (natD (onesL (n - 1)))) m1 := by
    have : (n : Int) - 1 = ((n - 1 : Nat) : Int) := by omega
    rw [this]
    exact e9
  have hcomp : compL (compW (evT (callF td.fs (j + 19)) (.cmp (.cmp .eq (.idx (.var 9) (.cn (.int 0))) (.var 7)))) (evE (callF td.fs (j + 19)) (.bi .len (.cons (.idx (.var 9) (.cn (.int 1))) .nil))) (.nm 9) [.val (.obj 1), .val (.int n), .val (.tup (sa.h.map BT.enc)), .val (.lst ((allK sa.h).map D.int)), .no, .no, .no, .val (.int t.key), .val (.tup (Fd.map BT.enc)), .no]) (sa.h.map BT.enc) m1 = .ok ((t :: r).map fun t => D.int (t.ord : Nat)) m1 := by
    rw [compL_map (enc := BT.enc) (g := fun u => if (u.key == t.key) = true then some (.int (u.ord : Nat)) else none) sa.h fun u _ => by
      by_cases h : u.key = t.key
      · simp [compW, h]
      · simp [compW, h]]
    rw [filterMap_if (fun u : BT => u.key == t.key) (fun u : BT => D.int (u.ord : Nat)), hr]
  have e11 : C (j + 19) 41 [.tup [.int t.key, .tup (Fd.map BT.enc)], .tup [.int t.key, .tup (Fd.map BT.enc)]] m1 = .ok (.bl true) m1 :=
    same_ok dSame m1 (j + 18) _ (by rw [D.tu, D.tus, D.tus, D.tu, heap_tu]; rfl) (by
      have := heap_dep F (by omega)
      rw [D.dep, D.deps, D.deps, D.deps, D.dep]
      omega)
  have ho : (t.ord : Int) ≤ 1000000 := by omega
  have hpw : (2 : Int) ^ t.ord = ((2 ^ t.ord : Nat) : Int) := by simp
  have hlc := (lst_cmp (allK Fd)).1
  have hte := tup_eq (onesL (n - 1))
  have l1 : (sa.h.length : Int) = (p ++ q).length + 1 := by rw [g5]; rfl
  have l2 : ((p ++ q).length : Int) = pop (n - 2 ^ t.ord) := by
    rw [g1.len]
    congr 2
    omega
  have l3 : (t.ord : Int) = pop (2 ^ t.ord - 1) := by
    have := k1.len
    show (t.cs.length : Int) = _
    rw [this]
    congr 2
    omega
  have l4 : (Fd.length : Int) = pop (n - 1) := by rw [F.len, wF]
  have e10' : C (j + 19) 25 [.int ((n : Int) - 2 ^ t.ord), .int (2 ^ t.ord - 1)] m1 = .ok (.int ((sa.h.length : Int) - 1 + t.ord - Fd.length)) m1 := by
    have q1 : (n : Int) - 2 ^ t.ord = ((n - 2 ^ t.ord : Nat) : Int) := by rw [hpw]; omega
    have q2 : (2 : Int) ^ t.ord - 1 = ((2 ^ t.ord - 1 : Nat) : Int) := by rw [hpw]; omega
    rw [q1, q2, l1, l4, l3, l2]
    have q3 : ((pop (n - 2 ^ t.ord) : Int) + 1 - 1 + pop (2 ^ t.ord - 1) - pop (n - 1)) = (pop (n - 2 ^ t.ord) : Int) + pop (2 ^ t.ord - 1) - pop (n - 1) := by omega
    rw [q3]
    exact e10
  generalize hv : (sa.h.length : Int) - 1 + t.ord - Fd.length = v at e10'
  have e12 := same (j + 13) (.int v) rfl (by simp [D.dep]) m1
  rw [kk] at e5 hcomp
  generalize (ka.map some).map encD = ra at e1 e3
  refine ⟨m1, ?_, hb1⟩
  rw [C, callF_at (k := 51) rfl _ _ _ rfl]
  simp only [C] at e1 e3 e4 e5 e6 e8 e9' e10' e11
  simp at hcomp
  simp [b__law_is_take_right, List.replicate, e1, e3, e4, e5, e6, e8, e9', e10', e11, hv, e12, hlc, hte, hcomp, at_hd, cut_tl, ho]
end K76

set_option Elab.async false
set_option linter.all false
set_option maxRecDepth 100000
set_option maxHeartbeats 8000000
/-! K76h: the puts' law in two parts. -/
namespace K76
open PySem PF

def blk : Ss := (.cons (.asg (.nm 7) (.call 39 (.cons (.var 0) (.cons (.cn (.int 9)) .nil))))
  (.cons (.asg (.nm 8) (.call 16 (.cons (.var 5) (.cons (.var 7) .nil))))
  (.cons (.ifs (.tor (.nt (.ex (.call 41 (.cons (.callk 16 [1, 0] .nil (.cons (.var 7) (.cons (.var 5) .nil))) (.cons (.var 8) .nil))))) (.t1 (.cmp (.cmp .ne (.call 46 (.cons (.var 8) .nil)) (.call 47 (.cons (.bin .add (.var 1) (.cn (.int 1))) .nil)))))) (.cons (.ret (.cn (.bl false)))
  .nil) .nil)
  (.cons (.asg (.nm 9) (.bin .add (.cn (.int 1)) (.call 43 (.cons (.var 1) (.cons (.cn (.int 1)) .nil)))))
  (.cons (.ifs (.nt (.ex (.call 41 (.cons (.tup (.cons (.call 31 (.cons (.cn (.int 2)) (.cons (.call 42 (.cons (.var 1) .nil)) .nil))) (.cons (.call 28 (.cons (.cn (.int 2)) (.cons (.call 30 (.cons (.cn (.int 2)) (.cons (.call 42 (.cons (.var 1) .nil)) .nil))) .nil))) .nil))) (.cons (.tup (.cons (.var 9) (.cons (.bin .add (.var 1) (.cn (.int 1))) .nil))) .nil))))) (.cons (.ret (.cn (.bl false)))
  .nil) .nil)
  (.cons (.ret (.andv (.cmp .eq (.bin .sub (.bin .add (.var 9) (.bi .len (.cons (.var 8) .nil))) (.bi .len (.cons (.var 5) .nil))) (.cn (.int 2))) (.one (.cmp .eq (.call 45 (.cons (.var 8) .nil)) (.fr (.sorted (.fr (.cat (.call 45 (.cons (.var 5) .nil)) (.fr (.lst (.cons (.var 7) .nil)))))))))))
  .nil))))))
def body49 : Ss :=  (.cons (.asg (.nm 2) (.call 48 (.cons (.var 0) (.cons (.var 1) .nil))))
  (.cons (.par [(5, .val (.call 20 (.cons (.var 2) .nil))), (6, .val (.call 21 (.cons (.var 2) .nil)))])
  (.cons (.asg (.nm 3) (.call 32 (.cons (.cn (.int 2)) (.cons (.tup .nil) (.cons (.bin .mul (.tup (.cons (.cn (.str "up")) .nil)) (.var 1)) .nil)))))
  (.cons (.ifs (.nt (.ex (.call 41 (.cons (.tup (.cons (.var 6) (.cons (.callk 21 [0] .nil (.cons (.var 2) .nil)) (.cons (.bi .suml (.cons (.var 6) .nil)) (.cons (.call 26 (.cons (.var 1) .nil)) (.cons (.callk 26 [0] .nil (.cons (.var 1) .nil)) .nil)))))) (.cons (.bin .add (.tup (.cons (.var 3) (.cons (.var 3) .nil))) (.bin .mul (.tup (.cons (.call 34 (.cons (.cn (.int 2)) (.cons (.var 1) .nil))) .nil)) (.cn (.int 3)))) .nil))))) (.cons (.ret (.cn (.bl false)))
  .nil) .nil)
  (.cons (.ifs (.tor (.cmp (.notN (.call 11 (.cons (.var 5) .nil)))) (.t1 (.cmp (.cmp .ne (.call 46 (.cons (.var 5) .nil)) (.call 47 (.cons (.var 1) .nil)))))) (.cons (.ret (.cn (.bl false)))
  .nil) .nil)
  (.cons (.ifs (.cmp (.cmp .ne (.call 45 (.cons (.var 5) .nil)) (.fr (.sorted (.fr (.comp [10] (.nm 10) (.ex (.var 2)) .tru (.idx (.var 10) (.cn (.int 1))))))))) (.cons (.ret (.cn (.bl false)))
  .nil) .nil)
  (.cons (.asg (.nm 4) (.tup (.cons (.call 23 (.cons (.var 5) .nil)) (.cons (.call 37 (.cons (.cn (.int 2)) (.cons (.call 27 (.cons (.cn (.int 2)) (.cons (.var 1) .nil))) .nil))) (.cons (.call 22 (.cons (.var 2) .nil)) .nil)))))
  (.cons (.ifs (.tor (.nt (.ex (.call 41 (.cons (.var 4) (.cons (.tup (.cons (.bi .len (.cons (.var 5) .nil)) (.cons (.tup (.cons (.bi .len (.cons (.var 5) .nil)) (.cons (.cn (.int 1)) .nil))) (.cons (.bin .mul (.tup (.cons (.cn (.int 2)) .nil)) (.var 1)) .nil)))) .nil))))) (.t1 (.nt (.ex (.call 41 (.cons (.call 36 (.cons (.cn (.int 2)) .nil)) (.cons (.tup (.cons (.cn (.int 2)) (.cons (.cn (.int 1)) .nil))) .nil))))))) (.cons (.ret (.cn (.bl false)))
  .nil) .nil)
  (.cons (.ifs (.cmp (.cmp .lt (.var 1) (.cn (.int 36)))) blk .nil)
  (.cons (.ret (.cn (.bl true)))
  .nil))))))))))

theorem body49_is : b__law_are_puts_right = body49 := rfl
end K76

set_option Elab.async false
set_option linter.all false
set_option maxRecDepth 100000
set_option maxHeartbeats 8000000
/-! K76g: rows of puts are right. -/
namespace K76
open PySem PF

theorem sort_is {a b : List Int} (h : a.Perm b) (hl : a.length < 64) : sortedF (.lst (a.map D.int)) = some ((isorts b).map D.int) := by
  unfold sortedF
  simp only [D.asInts_map]
  rw [if_pos hl, isorts_of h]
theorem rep1 (k : Nat) (d : D) : (List.replicate k [d]).flatten = List.replicate k d := by
  induction k with
  | zero => rfl
  | succ k ih => rw [List.replicate_succ, List.replicate_succ, List.flatten_cons, ih]; rfl
theorem natD_r (k : Nat) : natD (List.replicate k 2) = List.replicate k (D.int 2) := by
  unfold natD
  rw [List.map_replicate]
  rfl
theorem c49_blk (j n : Nat) (h36 : n < 36) {h : List BT} (hg : Hg h) (wa : wsum h = n) {m1 : Mem} (hb1 : BagOk m1) (s2 s3 s4 s6 : D) :
    ∃ m2, evSs (callF td.fs (j + 19)) blk [.val (.obj 1), .val (.int n), .val s2, .val s3, .val s4, .val (.tup (h.map BT.enc)), .val s6, .no, .no, .no, .no] m1 = .ret (.bl true) m2 ∧ BagOk m2 := by
  have bn := bl64 (n := n) (by omega)
  have bn1 := bl64 (n := n + 1) (by omega)
  have h70 : (9 : Int) ≤ 10 ^ 70 := by
    have : (3000 : Int) ≤ 10 ^ 70 := by decide
    omega
  obtain ⟨key, m2, e39, k0, k1, hb2⟩ := draw_ok dDraw (j + 18) (b := 9) (by omega) h70 hb1
  clear h70
  have g1 := Hg.single (k := key) (by omega) (by omega)
  have e16 := c16 (j + 15) hg (k := key) (by omega) (by omega) m2 (by omega)
  have F := Hg.join hg g1
  have wF := put_w hg (k := key) (by omega) (by omega)
  have kF := allK_put hg (k := key) (by omega) (by omega)
  rw [wa] at wF
  generalize hFd : (jr (h ++ [.nd key []])).found = Fd at *
  have s4' := same_heap (j + 3) F (by omega) m2
  have e46' := c46 (j + 18) Fd m2
  have hord' : (Fd.map fun t => D.int (t.ord : Nat)) = natD (onesL (n + 1)) := by
    have := F.ords
    rw [wF] at this
    rw [← this]
    unfold natD
    rw [List.map_map]
    rfl
  rw [hord'] at e46'
  have hn1 : (n : Int) + 1 = ((n + 1 : Nat) : Int) := by omega
  have e47' := c47 (j + 18) (n + 1) (by omega) m2
  rw [← hn1] at e47'
  have hne' := tup_ne (onesL (n + 1))
  have hnat : ((onesL (n + 1)).map fun b => D.int (b : Nat)) = natD (onesL (n + 1)) := rfl
  rw [hnat] at e47'
  clear hnat
  have p1 : pop 1 = 1 := by decide
  have ib := incL_bits n
  have one1 : (1 : Int) = ((1 : Nat) : Int) := rfl
  have e43 := c43 (j + 18) n 1 (by omega) (by have := bl64 (n := 1) (by omega); omega) m2
  rw [← one1] at e43
  rw [p1] at e43
  have hl : (bitsL n).length < 80 := by rw [bitsL_len]; omega
  have e31 := c31 (j + 17) (bitsL n) hl m2
  have e42 := c42 (j + 18) n (by omega) m2
  have hnat : ((bitsL n).map fun b => D.int (b : Nat)) = natD (bitsL n) := rfl
  rw [hnat] at e42
  clear hnat
  have e30 := c30 (j + 17) (bitsL n) hl m2
  rw [ib.1] at e30
  have e28 := c28 (j + 18) (bitsL (n + 1)) m2
  rw [val2_bits, ← hn1] at e28
  have hpm : (Fd.length : Int) = pop (n + 1) := by rw [F.len, wF]
  have hpl : (h.length : Int) = pop n := by rw [hg.len, wa]
  have q2 : (lead (bitsL n) : Int) + 1 + Fd.length - h.length = 2 := by omega
  have e45a := c45 (j + 9) hg (by omega) m2
  have e45b := c45 (j + 9) F (by omega) m2
  have s5 := same (j + 13) (.tup [.int ((lead (bitsL n) : Int) + 1), .int ((n : Int) + 1)]) (by simp [D.tu, D.tus]) (by simp [D.dep, D.deps]) m2
  have hal : (allK h).length ≤ 36 := by
    unfold allK
    rw [isorts_len, keysL_len hg.g, wa]
    omega
  have hso : sortedF (.lst ((allK h).map D.int ++ [.int key])) = some ((allK Fd).map D.int) := by
    have e3 : (allK h).map D.int ++ [.int key] = (allK h ++ [key]).map D.int := by rw [List.map_append]; rfl
    rw [e3]
    unfold sortedF
    simp only [D.asInts_map]
    rw [if_pos (by rw [List.length_append, List.length_singleton]; omega), kF]
  have hz : (allK h).length + 1 ≤ sizeLine := by
    have : (100 : Nat) ≤ sizeLine := by decide
    omega
  have hl2 := (lst_cmp (allK Fd)).2
  have q4 : ((pop n : Int) + (1 : Nat) - pop (n + 1)) = (lead (bitsL n) : Int) := by omega
  rw [q4] at e43
  have q3 : (1 : Int) + (lead (bitsL n) : Int) = (lead (bitsL n) : Int) + 1 := by omega
  obtain ⟨Cc, hC⟩ : ∃ Cc : Call, callF td.fs (j + 19) = Cc := ⟨_, rfl⟩
  simp only [C, Nat.add_assoc, Nat.reduceAdd, hC] at e39 e16 s4' e46' e47' e43 e31 e42 e30 e28 s5 e45a e45b
  rw [hC]
  clear hC
  generalize hw : (lead (bitsL n) : Int) + 1 = w at *
  generalize (lead (bitsL n) : Int) = lw at *
  generalize (natD (bitsL n)) = zb at *
  generalize (natD (bitsL (n + 1))) = zb1 at *
  generalize (natD (onesL (n + 1))) = zo at *
  generalize hnn : (n : Int) + 1 = nn at *
  generalize hla : (allK h).map D.int = la at *
  generalize hlb : (allK Fd).map D.int = lb at *
  have hla' : la.length + 1 ≤ sizeLine := by rw [← hla, List.length_map]; exact hz
  refine ⟨m2, ?_, hb2⟩
  simp [blk, e39, e16, s4', e46', e47', hne', e43, q3, hnn, e31, e42, e30, e28, s5, q2, e45a, e45b, hso, hla', hl2]
theorem c49 (j n : Nat) (hn : n ≤ 36) {m : Mem} (hb : BagOk m) : ∃ m', C (j + 20) 49 [.obj 1, .int n] m = .ok (.bl true) m' ∧ BagOk m' := by
  obtain ⟨ka, m1, e1, la, ba, hb1⟩ := c48 (j + 16) n (by omega) hb
  have pa := puts_ok ba
  have e20 := c20 (j + 14) (ka.map some) (by rw [List.length_map]; omega) (puts_row ka 0 ba (by omega)) m1
  have e21 := c21 (j + 14) (ka.map some) (by rw [List.length_map]; omega) (puts_row ka 0 ba (by omega)) m1
  have e22 := c22 (j + 14) (ka.map some) (by rw [List.length_map]; omega) (puts_row ka 0 ba (by omega)) m1
  generalize (led (ka.map some)) = sa at *
  have wa : wsum sa.h = n := by rw [pa.w, la]
  have ca : dints sa.c = natD (flipsL n) := by rw [pa.c, la]; rfl
  have cp : dints sa.p = natD (List.replicate n 2) := by rw [pa.p, la]; rfl
  rw [ca] at e21
  rw [cp] at e22
  have bn := bl64 (n := n) (by omega)
  have bn1 := bl64 (n := n + 1) (by omega)
  have e32 := c32 (j + 16) n (by omega) m1
  have e26 := c26 (j + 17) n (by omega) m1
  have e34 := c34 (j + 17) n (by omega) m1
  have e11 := c11 (j + 6) pa.hg (by omega) m1
  have e46 := c46 (j + 18) sa.h m1
  have e47 : C (j + 19) 47 [.int n] m1 = .ok (.tup (natD (onesL n))) m1 := c47 (j + 18) n (by omega) m1
  have e45 := c45 (j + 9) pa.hg (by omega) m1
  have e23 := c23 (j + 18) (sa.h.map BT.enc) m1
  have e27 := c27 (j + 18) n (by omega) m1
  have e37 := c37 (j + 17) (bitsL n) m1
  have e36 := c36 (j + 17) m1
  have hord : (sa.h.map fun t => D.int (t.ord : Nat)) = natD (onesL n) := by
    have := pa.hg.ords
    rw [wa] at this
    rw [← this]
    unfold natD
    rw [List.map_map]
    rfl
  rw [hord] at e46
  have hne := tup_ne (onesL n)
  have fs := flips_sum n
  have hsum := sum_natD (flipsL n)
  have hfs : (((flipsL n).sum : Nat) : Int) = 2 * (n : Int) - pop n := by omega
  rw [hfs] at hsum
  generalize hv : 2 * (n : Int) - pop n = v at e26 e34 hsum
  have s1 := same (j + 13) (.tup [.tup (natD (flipsL n)), .tup (natD (flipsL n)), .int v, .int v, .int v]) (by simp [D.tu, D.tus, ints_tu]) (by simp [D.dep, D.deps, ints_deps]) m1
  have hpl : sa.h.length = pop n := by rw [pa.hg.len, wa]
  have s2 := same (j + 13) (.tup [.int (pop n), .tup [.int (pop n), .int 1], .tup (natD (List.replicate n 2))]) (by simp [D.tu, D.tus, ints_tu]) (by simp [D.dep, D.deps, ints_deps]) m1
  have s3 := same (j + 13) (.tup [.int 2, .int 1]) (by simp [D.tu, D.tus]) (by simp [D.dep, D.deps]) m1
  rw [natD_r] at e22 s2
  have h5 : 5 ≤ sizeLine := by decide
  have h1000 : (n : Int) ≤ 1000 := by omega
  have hsort : sortedF (.lst (ka.map D.int)) = some ((allK sa.h).map D.int) := sort_is pa.k.symm (by omega)
  have hcomp : compL (compW (evT (callF td.fs (j + 19)) .tru) (evE (callF td.fs (j + 19)) (.idx (.var 10) (.cn (.int 1)))) (.nm 10) [.val (.obj 1), .val (.int n), .val (.tup ((ka.map some).map encD)), .val (.tup (natD (flipsL n))), .no, .val (.tup (sa.h.map BT.enc)), .val (.tup (natD (flipsL n))), .no, .no, .no, .no]) ((ka.map some).map encD) m1 = .ok (ka.map D.int) m1 := by
    rw [List.map_map, compL_map (enc := encD ∘ some) (g := fun k => some (.int k)) ka fun u _ => by simp [compW, encD]]
    rw [filterMap_some]
  have hlc := (lst_cmp (allK sa.h)).1
  have hpn : (bitsL n).sum = pop n := rfl
  rw [hpn] at e37
  generalize (ka.map some).map encD = ra at e1 e20 e21 e22 hcomp
  simp only [C] at e1 e20 e21 e22 e32 e26 e34 e11 e46 e47 e45 e23 e27 e37 e36
  rw [C, callF_at (k := 49) rfl _ _ _ rfl]
  by_cases h36 : n < 36
  · have h36' : (n : Int) < 36 := by omega
    obtain ⟨m2, eblk, hb2⟩ := c49_blk j n h36 pa.hg wa hb1 (.tup ra) (.tup (natD (flipsL n))) (.tup [.int (pop n), .tup [.int (pop n), .int 1], .tup (List.replicate n (.int 2))]) (.tup (natD (flipsL n)))
    refine ⟨m2, ?_, hb2⟩
    rw [body49_is]
    simp [body49, List.replicate, e1, e20, e21, e22, e32, e26, e34, e11, e46, e47, e45, e23, e27, e37, e36, s1, s2, s3, hne, hsum, hsort, hcomp, hlc, hpl, rep1, h1000, h5, h36', eblk]
  · have h36' : ¬ (n : Int) < 36 := by omega
    refine ⟨m1, ?_, hb1⟩
    simp [b__law_are_puts_right, List.replicate, e1, e20, e21, e22, e32, e26, e34, e11, e46, e47, e45, e23, e27, e37, e36, s1, s2, s3, hne, hsum, hsort, hcomp, hlc, h36', hpl, rep1, h1000, h5]
end K76

set_option Elab.async false
set_option linter.all false
set_option maxRecDepth 100000
set_option maxHeartbeats 8000000
/-! K76i: rows of puts and takes are right. -/
namespace K76
open PySem PF

def aft : Nat → List (Option Int) → Nat
  | n, [] => n
  | n, some _ :: r => aft (n + 1) r
  | n, none :: r => aft (n - 1) r
theorem aft_put (k : Int) : ∀ (r : List (Option Int)) (n : Nat), aft n (r ++ [some k]) = aft n r + 1
  | [], _ => rfl
  | some _ :: r, n => aft_put k r (n + 1)
  | none :: r, n => aft_put k r (n - 1)
theorem aft_take : ∀ (r : List (Option Int)) (n : Nat), aft n (r ++ [none]) = aft n r - 1
  | [], _ => rfl
  | some _ :: r, n => aft_take r (n + 1)
  | none :: r, n => aft_take r (n - 1)
theorem okR_snoc (x : Option Int) : ∀ (r : List (Option Int)) (n : Nat), okR n r → okR (aft n r) [x] → okR n (r ++ [x])
  | [], _, _, h => h
  | some _ :: r, n, h, h2 => ⟨h.1, h.2.1, h.2.2.1, okR_snoc x r (n + 1) h.2.2.2 h2⟩
  | none :: r, n, h, h2 => ⟨h.1, okR_snoc x r (n - 1) h.2 h2⟩
structure RowI (row : List (Option Int)) (held : Nat) : Prop where
  ok : okR 0 row
  af : aft 0 row = held
  w : wsum (led row).h = held
  le : held ≤ 36
  tk : (led row).tk.length + (row.filter Option.isSome).length = row.length
theorem RowI.nil : RowI [] 0 := ⟨True.intro, rfl, rfl, by omega, rfl⟩
theorem RowI.put {row : List (Option Int)} {held : Nat} (h : RowI row held) (hl : held < 36) {k : Int} (k0 : -1000 ≤ k) (k1 : k ≤ 1000) : RowI (row ++ [some k]) (held + 1) := by
  have hh := (led_ok h.ok row [] (by rw [List.append_nil])).1.hg.1
  refine ⟨okR_snoc _ _ _ h.ok ⟨k0, k1, by rw [h.af]; exact hl, True.intro⟩, by rw [aft_put, h.af], ?_, by omega, ?_⟩
  · rw [led_snoc]
    show wsum (jr ((led row).h ++ [.nd k []])).found = _
    rw [put_w hh k0 k1, h.w]
  · rw [led_snoc]
    show (led row).tk.length + _ = _
    have := h.tk
    simp
    omega
theorem RowI.take {row : List (Option Int)} {held : Nat} (h : RowI row held) (hl : 0 < held) : RowI (row ++ [none]) (held - 1) := by
  have hh := (led_ok h.ok row [] (by rw [List.append_nil])).1.hg.1
  have hn : (led row).h ≠ [] := fun z => by
    have := h.w
    rw [z] at this
    have : (0 : Nat) = held := this
    omega
  have hw := take_w hh (split_ok hn).1
  refine ⟨okR_snoc _ _ _ h.ok ⟨by rw [h.af]; exact hl, True.intro⟩, by rw [aft_take, h.af], ?_, by have := h.le; omega, ?_⟩
  · rw [led_snoc]
    show wsum (jr (((split (led row).h).1 ++ (split (led row).h).2.2) ++ (split (led row).h).2.1.cs)).found = _
    have := h.w
    omega
  · rw [led_snoc]
    show ((led row).tk ++ [_]).length + _ = _
    have := h.tk
    simp
    omega
theorem tus_ints (l : List Int) : D.tus (l.map D.int) = true := by
  induction l with
  | nil => rfl
  | cons x r ih =>
    show (D.tu (.int x) && D.tus (r.map D.int)) = true
    rw [ih]
    rfl
def rbody : Ss := (.cons (.ifs (.tand (.cmp (.cmp .lt (.var 4) (.cn (.int 36)))) (.t1 (.tor (.cmp (.cmp .eq (.var 4) (.cn (.int 0)))) (.t1 (.cmp (.cmp .gt (.call 39 (.cons (.var 0) (.cons (.cn (.int 3)) .nil))) (.cn (.int 0)))))))) (.cons (.app 2 (.tup (.cons (.cn (.str "put")) (.cons (.call 39 (.cons (.var 0) (.cons (.cn (.int 30)) .nil))) .nil))))
  (.cons (.asg (.nm 4) (.bin .add (.var 4) (.cn (.int 1))))
  .nil)) (.cons (.app 2 (.tup (.cons (.cn (.str "take")) .nil)))
  (.cons (.asg (.nm 4) (.bin .sub (.var 4) (.cn (.int 1))))
  .nil)))
  .nil)
def RowE (n : Nat) (env : List Sl) (m : Mem) : Prop := ∃ (t1 : Sl) (row : List (Option Int)) (held : Nat), env = [.val (.obj 1), t1, .own (row.map encD), .no, .val (.int held), .no] ∧ RowI row held ∧ row.length = n ∧ BagOk m
theorem row_turn (j n : Nat) (hn : n ≤ 1000) (x : Int) (env : List Sl) (m : Mem) (h : RowE n env m) : ∃ env' m', forW (evSs (callF td.fs (j + 19)) rbody) (.nm 1) (.int x) env m = .nxt env' m' ∧ RowE (n + 1) env' m' := by
  obtain ⟨t1, row, held, rfl, hi, rfl, hb⟩ := h
  have hz : row.length < sizeLine := by
    have : (2000 : Nat) ≤ sizeLine := by decide
    omega
  have h70 : (3000 : Int) ≤ 10 ^ 70 := by decide
  have eS : ∀ k : Int, row.map encD ++ [.tup [.str "put", .int k]] = (row ++ [some k]).map encD := fun k => by rw [List.map_append]; rfl
  have eT : row.map encD ++ [.tup [.str "take"]] = (row ++ [none]).map encD := by rw [List.map_append]; rfl
  have hll : ∀ u : Option Int, (row ++ [u]).length = row.length + 1 := fun u => by rw [List.length_append]; rfl
  have hle := hi.le
  by_cases h36 : held < 36
  · have h36' : (held : Int) < 36 := by omega
    by_cases h0 : held = 0
    · subst h0
      obtain ⟨v, m1, e1, v0, v1, hb1⟩ := draw_ok dDraw (j + 18) (b := 30) (by omega) (by omega) hb
      refine ⟨_, m1, ?_, .val (.int x), row ++ [some v], 0 + 1, rfl, hi.put h36 (by omega) (by omega), hll _, hb1⟩
      simp [forW, rbody, hz, e1, eS]
    · have h0' : ¬ (held : Int) = 0 := by omega
      obtain ⟨u, m1, e1, u0, u1, hb1⟩ := draw_ok dDraw (j + 18) (b := 3) (by omega) (by omega) hb
      by_cases hu : 0 < u
      · obtain ⟨v, m2, e2, v0, v1, hb2⟩ := draw_ok dDraw (j + 18) (b := 30) (by omega) (by omega) hb1
        refine ⟨_, m2, ?_, .val (.int x), row ++ [some v], held + 1, rfl, hi.put h36 (by omega) (by omega), hll _, hb2⟩
        simp [forW, rbody, hz, h36', h0, e1, hu, e2, eS]
      · refine ⟨_, m1, ?_, .val (.int x), row ++ [none], held - 1, rfl, hi.take (by omega), hll _, hb1⟩
        have : ((held - 1 : Nat) : Int) = (held : Int) - 1 := by omega
        rw [this]
        have hz' := hz
        simp [forW, rbody, hz, h36', h0, e1, hu, eT]
  · have h36' : ¬ (held : Int) < 36 := by omega
    refine ⟨_, m, ?_, .val (.int x), row ++ [none], held - 1, rfl, hi.take (by omega), hll _, hb⟩
    have : ((held - 1 : Nat) : Int) = (held : Int) - 1 := by omega
    rw [this]
    simp [forW, rbody, hz, h36', eT]
theorem row_loop (j : Nat) : ∀ (l : List D) (n : Nat) (env : List Sl) (m : Mem), (∀ x ∈ l, ∃ i : Int, x = .int i) → n + l.length ≤ 1000 → RowE n env m → ∃ env' m', forL (forW (evSs (callF td.fs (j + 19)) rbody) (.nm 1)) l env m = .nxt env' m' ∧ RowE (n + l.length) env' m'
  | [], n, env, m, _, _, h => ⟨env, m, rfl, h⟩
  | x :: l, n, env, m, hx, hn, h => by
    obtain ⟨i, rfl⟩ := hx x (List.mem_cons_self ..)
    rw [List.length_cons] at hn
    obtain ⟨env1, m1, h1, p1⟩ := row_turn j n (by omega) i env m h
    obtain ⟨env2, m2, h2, p2⟩ := row_loop j l (n + 1) env1 m1 (fun y hy => hx y (List.mem_cons_of_mem _ hy)) (by omega) p1
    refine ⟨env2, m2, ?_, by rw [List.length_cons, Nat.add_comm l.length, ← Nat.add_assoc]; exact p2⟩
    rw [forL, h1]
    exact h2
theorem c52 (j : Nat) {m : Mem} (hb : BagOk m) : ∃ m', C (j + 20) 52 [.obj 1] m = .ok (.bl true) m' ∧ BagOk m' := by
  obtain ⟨x, m1, e1, hx, hb1⟩ := pick_ok dPick dDraw (j + 17) (xs := [.int 4, .int 20, .int 60]) (by simp) (by simp) hb
  obtain ⟨k, rfl, hk⟩ : ∃ k : Nat, x = .int k ∧ k ≤ 60 := by
    simp at hx
    rcases hx with rfl | rfl | rfl
    · exact ⟨4, rfl, by omega⟩
    · exact ⟨20, rfl, by omega⟩
    · exact ⟨60, rfl, by omega⟩
  have hr : rngOk 0 (k : Int) = true := by
    unfold rngOk
    simp
    omega
  obtain ⟨env2, m2, e2, t1, row, held, rfl, hi, hrl, hb2⟩ := row_loop j (intsR 0 k) 0 [.val (.obj 1), .no, .own [], .no, .val (.int 0), .no] m1 (fun x hx => by
    unfold intsR at hx
    obtain ⟨i, _, rfl⟩ := List.mem_map.mp hx
    exact ⟨_, rfl⟩) (by unfold intsR; rw [List.length_map, List.length_range]; omega) ⟨.no, [], 0, rfl, .nil, rfl, hb1⟩
  have hrl : row.length ≤ 1000 := by
    unfold intsR at hrl
    rw [List.length_map, List.length_range] at hrl
    omega
  have lk := (led_ok hi.ok row [] (by rw [List.append_nil])).1.hg
  have e20 := c20 (j + 14) row hrl hi.ok m2
  have e21 := c21 (j + 14) row hrl hi.ok m2
  have e22 := c22 (j + 14) row hrl hi.ok m2
  have e6 := c6 (j + 17) row hrl hi.ok m2
  have e5 := c5 (j + 17) row hrl hi.ok m2
  have htk := hi.tk
  have hw := hi.w
  have hle := hi.le
  generalize led row = s at *
  obtain ⟨hg, lc, lp, hs⟩ := lk
  have e23 := c23 (j + 18) (s.h.map BT.enc) m2
  have e45 := c45 (j + 9) hg (by omega) m2
  have e46 := c46 (j + 18) s.h m2
  have bh := bl64 (n := held) (by omega)
  have e47 : C (j + 19) 47 [.int held] m2 = .ok (.tup (natD (onesL held))) m2 := c47 (j + 18) held (by omega) m2
  have hord : (s.h.map fun t => D.int (t.ord : Nat)) = natD (onesL held) := by
    have := hg.ords
    rw [hw] at this
    rw [← this]
    unfold natD
    rw [List.map_map]
    rfl
  rw [hord] at e46
  have hne := tup_ne (onesL held)
  have hsc : biF .suml [.tup (dints s.c)] = some (.int (s.c.sum : Nat)) := sum_natD s.c
  have hsp : biF .suml [.tup (dints s.p)] = some (.int (s.p.sum : Nat)) := sum_natD s.p
  have hsum : ((s.c.sum : Nat) : Int) + (s.h.length : Nat) = (s.p.sum : Nat) := by omega
  have s1 := same (j + 13) (.int ((s.p.sum : Nat) : Int)) rfl (by simp [D.dep]) m2
  have s2 := same (j + 13) (.tup ((allK s.h).map D.int)) (by rw [D.tu, tus_ints]) (by rw [D.dep, deps_ints]; omega) m2
  have hcomp : compL (compW (evT (callF td.fs (j + 19)) (.cmp (.cmp .eq (.idx (.var 5) (.cn (.int 0))) (.cn (.str "put"))))) (evE (callF td.fs (j + 19)) (.cn (.int 1))) (.nm 5) [.val (.obj 1), t1, .val (.tup (row.map encD)), .val (.tup (s.h.map BT.enc)), .val (.int held), .no]) (row.map encD) m2 = .ok ((row.filter Option.isSome).map fun _ => D.int 1) m2 := by
    rw [compL_map (enc := encD) (g := fun u => if u.isSome = true then some (.int 1) else none) row fun u _ => by
      cases u with
      | some k => simp [compW, encD, at_hd, put_put]
      | none => simp [compW, encD, at_hd, take_put]]
    rw [filterMap_if]
  have hfin : ((s.tk.length : Nat) : Int) = (row.length : Int) - ((row.filter Option.isSome).length : Nat) := by omega
  have hrd : (row.map encD).length = row.length := List.length_map ..
  generalize row.map encD = rd at *
  refine ⟨m2, ?_, hb2⟩
  rw [C, callF_at (k := 52) rfl _ _ _ rfl]
  have e2' := e2
  unfold rbody at e2'
  obtain ⟨Cc, hC⟩ : ∃ Cc : Call, callF td.fs (j + 19) = Cc := ⟨_, rfl⟩
  simp only [C, Nat.add_assoc, Nat.reduceAdd, hC] at e1 e2' e20 e21 e22 e6 e5 e23 e45 e46 e47 s1 s2 hcomp
  rw [hC]
  clear hC
  simp [b__law_is_row_right, List.replicate, e1, hr, e2', e20, e21, e22, e6, e5, e23, e45, e46, e47, hne, hsc, hsp, hsum, s1, s2, hcomp, hrd, hfin]
end K76

set_option Elab.async false
set_option linter.all false
set_option maxRecDepth 100000
set_option maxHeartbeats 8000000
/-! K76y: the law. -/
namespace K76
open PySem PF

def wbody : Ss := (.cons (.asg (.nm 3) (.call 40 (.cons (.var 1) (.cons (.fr (.lst (.cons (.cn (.int 0)) (.cons (.cn (.int 1)) (.cons (.cn (.int 31)) (.cons (.cn (.int 32)) (.cons (.cn (.int 36)) (.cons (.call 39 (.cons (.var 1) (.cons (.cn (.int 37)) .nil))) .nil)))))))) .nil))))
  (.cons (.ifs (.tor (.nt (.ex (.call 49 (.cons (.var 1) (.cons (.var 3) .nil))))) (.t1 (.nt (.ex (.call 51 (.cons (.var 1) (.cons (.bin .add (.cn (.int 1)) (.call 39 (.cons (.var 1) (.cons (.cn (.int 36)) .nil)))) .nil))))))) (.cons (.ret (.cn (.bl false)))
  .nil) .nil)
  (.cons (.ifs (.nt (.ex (.call 52 (.cons (.var 1) .nil)))) (.cons (.ret (.cn (.bl false)))
  .nil) .nil)
  (.cons (.asg (.nm 4) (.call 39 (.cons (.var 1) (.cons (.cn (.int 37)) .nil))))
  (.cons (.ifs (.nt (.ex (.call 50 (.cons (.var 1) (.cons (.var 4) (.cons (.call 39 (.cons (.var 1) (.cons (.bin .sub (.cn (.int 37)) (.var 4)) .nil))) .nil)))))) (.cons (.ret (.cn (.bl false)))
  .nil) .nil)
  (.cons (.par [(5, .val (.call 40 (.cons (.var 1) (.cons (.fr (.lst (.cons (.bin .pow (.cn (.int 10)) (.cn (.int 60))) (.cons (.bin .sub (.bin .shl (.cn (.int 1)) (.cn (.int 199))) (.cn (.int 1))) (.cons (.call 39 (.cons (.var 1) (.cons (.bin .pow (.cn (.int 10)) (.cn (.int 60))) .nil))) .nil))))) .nil)))), (6, .val (.call 40 (.cons (.var 1) (.cons (.fr (.lst (.cons (.cn (.int 0)) (.cons (.cn (.int 1)) (.cons (.bin .pow (.cn (.int 10)) (.cn (.int 60))) (.cons (.call 39 (.cons (.var 1) (.cons (.bin .pow (.cn (.int 10)) (.cn (.int 60))) .nil))) .nil)))))) .nil))))])
  (.cons (.ifs (.nt (.ex (.call 41 (.cons (.tup (.cons (.call 25 (.cons (.var 5) (.cons (.var 6) .nil))) (.cons (.call 26 (.cons (.var 5) .nil)) .nil))) (.cons (.tup (.cons (.call 43 (.cons (.var 5) (.cons (.var 6) .nil))) (.cons (.bin .sub (.bin .mul (.cn (.int 2)) (.var 5)) (.bi .suml (.cons (.call 42 (.cons (.var 5) .nil)) .nil))) .nil))) .nil))))) (.cons (.ret (.cn (.bl false)))
  .nil) .nil)
  (.cons (.par [(7, .val (.call 39 (.cons (.var 1) (.cons (.bin .pow (.cn (.int 10)) (.cn (.int 9))) .nil)))), (8, .val (.call 39 (.cons (.var 1) (.cons (.bin .pow (.cn (.int 10)) (.cn (.int 9))) .nil))))])
  (.cons (.ifs (.nt (.ex (.call 41 (.cons (.call 35 (.cons (.cn (.int 2)) (.cons (.var 7) (.cons (.var 8) .nil)))) (.cons (.bin .sub (.call 26 (.cons (.bin .add (.var 7) (.var 8)) .nil)) (.call 26 (.cons (.var 7) .nil))) .nil))))) (.cons (.ret (.cn (.bl false)))
  .nil) .nil)
  .nil)))))))))
def LawE (ks : List Int) (env : List Sl) (m : Mem) : Prop := ∃ t2 t3 t4 t5 t6 t7 t8 : Sl, env = [.val (.scr ks), .val (.obj 1), t2, t3, t4, t5, t6, t7, t8] ∧ BagOk m
theorem nat_of {v b : Int} (h0 : 0 ≤ v) (h1 : v < b) : ∃ n : Nat, v = n ∧ (n : Int) < b := ⟨v.toNat, by omega, by omega⟩
theorem far (a b : Nat) (ha : bl a ≤ 1000) (hb : bl b ≤ 1000) (hab : bl (a + b) ≤ 1000) (j : Nat) (m : Mem) : ∃ v u : Int, C (j + 20) 25 [.int a, .int b] m = .ok (.int v) m ∧ C (j + 20) 26 [.int a] m = .ok (.int u) m ∧ C (j + 20) 43 [.int a, .int b] m = .ok (.int v) m ∧
    C (j + 20) 42 [.int a] m = .ok (.tup (natD (bitsL a))) m ∧ biF .suml [.tup (natD (bitsL a))] = some (.int (pop a : Nat)) ∧ 2 * (a : Int) - (pop a : Nat) = u :=
  ⟨_, _, c25 (j + 18) a b ha hb hab m, c26 (j + 18) a ha m, c43 (j + 19) a b ha hb m, c42 (j + 19) a ha m, sum_natD (bitsL a), rfl⟩
theorem law_turn (ks : List Int) (j : Nat) (x : Int) (env : List Sl) (m : Mem) (h : LawE ks env m) : ∃ env' m', forW (evSs (callF td.fs (j + 20)) wbody) (.nm 2) (.int x) env m = .nxt env' m' ∧ LawE ks env' m' := by
  obtain ⟨t2, t3, t4, t5, t6, t7, t8, rfl, hb⟩ := h
  have h70 : (3000 : Int) ≤ 10 ^ 70 := by decide
  obtain ⟨P, hP⟩ : ∃ P : Nat, P = 10 ^ 60 := ⟨_, rfl⟩
  obtain ⟨S, hS⟩ : ∃ S : Nat, S = 2 ^ 199 - 1 := ⟨_, rfl⟩
  obtain ⟨Q, hQ⟩ : ∃ Q : Nat, Q = 10 ^ 9 := ⟨_, rfl⟩
  have P1 : 1 ≤ P := by subst hP; decide
  have P70 : (P : Int) ≤ 10 ^ 70 := by subst hP; decide
  have P200 : P < 2 ^ 200 := by subst hP; decide
  have S200 : S < 2 ^ 200 := by subst hS; decide
  have Q1 : 1 ≤ Q := by subst hQ; decide
  have Q70 : (Q : Int) ≤ 10 ^ 70 := by subst hQ; decide
  have Q40 : Q < 2 ^ 40 := by subst hQ; decide
  have hp : binF .pow (.int 10) (.int 60) = some (.int P) := by
    rw [bin_pow, if_pos (by decide), hP]
    rfl
  have hq : binF .pow (.int 10) (.int 9) = some (.int Q) := by
    rw [bin_pow, if_pos (by decide), hQ]
    rfl
  obtain ⟨S1, hs, hs1⟩ : ∃ S1 : Int, binF .shl (.int 1) (.int 199) = some (.int S1) ∧ S1 - 1 = S := by
    refine ⟨1 * 2 ^ (199 : Int).toNat, ?_, ?_⟩
    · rw [bin_shl, if_pos (by decide)]
    · subst hS
      decide
  clear hP hS hQ
  obtain ⟨v0, m1, d1, v00, v01, hb1⟩ := draw_ok dDraw (j + 19) (b := 37) (by omega) (by omega) hb
  obtain ⟨v0, rfl, v01⟩ := nat_of v00 v01
  obtain ⟨x1, m2, d2, hx1, hb2⟩ := pick_ok dPick dDraw (j + 18) (xs := [.int 0, .int 1, .int 31, .int 32, .int 36, .int v0]) (by simp) (by simp) hb1
  obtain ⟨n, rfl, hn⟩ : ∃ n : Nat, x1 = .int n ∧ n ≤ 36 := by
    simp at hx1
    rcases hx1 with rfl | rfl | rfl | rfl | rfl | rfl
    · exact ⟨0, rfl, by omega⟩
    · exact ⟨1, rfl, by omega⟩
    · exact ⟨31, rfl, by omega⟩
    · exact ⟨32, rfl, by omega⟩
    · exact ⟨36, rfl, by omega⟩
    · exact ⟨v0, rfl, by omega⟩
  obtain ⟨m3, d3, hb3⟩ := c49 j n hn hb2
  obtain ⟨v2, m4, d4, v20, v21, hb4⟩ := draw_ok dDraw (j + 19) (b := 36) (by omega) (by omega) hb3
  obtain ⟨v2, rfl, v21⟩ := nat_of v20 v21
  obtain ⟨m5, d5, hb5⟩ := c51 j (1 + v2) (by omega) (by omega) hb4
  rw [Int.natCast_add] at d5
  have d5 : C (j + 20) 51 [.obj 1, .int (1 + (v2 : Int))] m4 = .ok (.bl true) m5 := d5
  obtain ⟨m6, d6, hb6⟩ := c52 j hb5
  obtain ⟨v3, m7, d7, v30, v31, hb7⟩ := draw_ok dDraw (j + 19) (b := 37) (by omega) (by omega) hb6
  obtain ⟨v3, rfl, v31⟩ := nat_of v30 v31
  obtain ⟨v4, m8, d8, v40, v41, hb8⟩ := draw_ok dDraw (j + 19) (b := 37 - (v3 : Int)) (by omega) (by omega) hb7
  obtain ⟨v4, rfl, v41⟩ := nat_of v40 v41
  obtain ⟨m9, d9, hb9⟩ := c50 j v3 v4 (by omega) hb8
  obtain ⟨v5, m10, d10, v50, v51, hb10⟩ := draw_ok dDraw (j + 19) (b := (P : Int)) (by omega) (by omega) hb9
  obtain ⟨v5, rfl, v51⟩ := nat_of v50 v51
  obtain ⟨x2, m11, d11, hx2, hb11⟩ := pick_ok dPick dDraw (j + 18) (xs := [.int P, .int S, .int v5]) (by simp) (by simp) hb10
  obtain ⟨a, rfl, ha⟩ : ∃ n : Nat, x2 = .int n ∧ n < 2 ^ 200 := by
    simp at hx2
    rcases hx2 with rfl | rfl | rfl
    · exact ⟨P, rfl, P200⟩
    · exact ⟨S, rfl, S200⟩
    · exact ⟨v5, rfl, by omega⟩
  obtain ⟨v6, m12, d12, v60, v61, hb12⟩ := draw_ok dDraw (j + 19) (b := (P : Int)) (by omega) (by omega) hb11
  obtain ⟨v6, rfl, v61⟩ := nat_of v60 v61
  obtain ⟨x3, m13, d13, hx3, hb13⟩ := pick_ok dPick dDraw (j + 18) (xs := [.int 0, .int 1, .int P, .int v6]) (by simp) (by simp) hb12
  obtain ⟨b, rfl, hbb⟩ : ∃ n : Nat, x3 = .int n ∧ n < 2 ^ 200 := by
    simp at hx3
    rcases hx3 with rfl | rfl | rfl | rfl
    · exact ⟨0, rfl, by omega⟩
    · exact ⟨1, rfl, by omega⟩
    · exact ⟨P, rfl, P200⟩
    · exact ⟨v6, rfl, by omega⟩
  have la := bl_le 200 a ha
  have lb := bl_le 200 b hbb
  have lab := bl_le 201 (a + b) (by omega)
  obtain ⟨w, u, f1, f2, f3, f4, f5, f6⟩ := far a b (by omega) (by omega) (by omega) j m13
  have mu : mulOk 2 (a : Int) = true := by
    unfold mulOk
    simp
  have s1 := same (j + 14) (.tup [.int w, .int u]) rfl (by simp [D.dep, D.deps]) m13
  obtain ⟨v7, m14, d14, v70, v71, hb14⟩ := draw_ok dDraw (j + 19) (b := (Q : Int)) (by omega) (by omega) hb13
  obtain ⟨v7, rfl, v71⟩ := nat_of v70 v71
  obtain ⟨v8, m15, d15, v80, v81, hb15⟩ := draw_ok dDraw (j + 19) (b := (Q : Int)) (by omega) (by omega) hb14
  obtain ⟨v8, rfl, v81⟩ := nat_of v80 v81
  have l7 := bl_le 40 v7 (by omega)
  have l78 := bl_le 41 (v7 + v8) (by omega)
  have g1 := c35 (j + 17) v7 v8 (by omega) (by omega) m15
  have g2 := c26 (j + 18) (v7 + v8) (by omega) m15
  have g3 := c26 (j + 18) v7 (by omega) m15
  rw [Int.natCast_add] at g2 g1
  generalize 2 * ((v7 : Int) + v8) - (pop (v7 + v8) : Int) = r1 at *
  generalize 2 * (v7 : Int) - (pop v7 : Int) = r2 at *
  have s2 := same (j + 14) (.int (r1 - r2)) rfl (by simp [D.dep]) m15
  refine ⟨[.val (.scr ks), .val (.obj 1), .val (.int x), .val (.int n), .val (.int v3), .val (.int a), .val (.int b), .val (.int v7), .val (.int v8)], m15, ?_, ⟨_, _, _, _, _, _, _, rfl, hb15⟩⟩
  obtain ⟨Cc, hC⟩ : ∃ Cc : Call, callF td.fs (j + 20) = Cc := ⟨_, rfl⟩
  simp only [C, Nat.add_assoc, Nat.reduceAdd, hC] at d1 d2 d3 d4 d5 d6 d7 d8 d9 d10 d11 d12 d13 f1 f2 f3 f4 s1 d14 d15 g1 g2 g3 s2
  rw [hC]
  clear hC
  simp [forW, wbody, d1, d2, d3, d4, d5, d6, d7, d8, d9, hp, hs, hs1, d10, d11, d12, d13, f1, f2, f3, f4, f5, f6, mu, s1, hq, d14, d15, g1, g2, g3, s2, -bin_pow, -bin_shl]
theorem last3 (j : Nat) (m : Mem) : C (j + 20) 25 [.int 3, .int 5] m = .ok (.int 3) m ∧ C (j + 20) 26 [.int 36] m = .ok (.int 70) m := by
  have l3 := bl_le 6 3 (by omega)
  have l5 := bl_le 6 5 (by omega)
  have l8 := bl_le 6 (3 + 5) (by omega)
  have l36 := bl_le 6 36 (by omega)
  have e1 := c25 (j + 18) 3 5 (by omega) (by omega) (by omega) m
  have e2 := c26 (j + 18) 36 (by omega) m
  have p1 : ((pop 3 : Int) + pop 5 - pop (3 + 5)) = 3 := by decide
  have p2 : (2 * ((36 : Nat) : Int) - pop 36) = 70 := by decide
  rw [p1] at e1
  rw [p2] at e2
  exact ⟨e1, e2⟩
theorem c53 (j : Nat) (ks : List Int) (hk : ks.length ≤ 63) : ∃ m', C (j + 21) 53 [.scr ks] [] = .ok (.bl true) m' := by
  obtain ⟨m1, e1, hb1⟩ := own_ok (c := 76) (by omega) (by omega) dOwn (j + 19) hk
  obtain ⟨env2, m2, e2, p2⟩ := law_turn ks j 0 [.val (.scr ks), .val (.obj 1), .no, .no, .no, .no, .no, .no, .no] m1 ⟨_, _, _, _, _, _, _, rfl, hb1⟩
  obtain ⟨env3, m3, e3, t2, t3, t4, t5, t6, t7, t8, rfl, hb3⟩ := law_turn ks j 1 env2 m2 p2
  have hl : forL (forW (evSs (callF td.fs (j + 20)) wbody) (.nm 2)) (intsR 0 2) [.val (.scr ks), .val (.obj 1), .no, .no, .no, .no, .no, .no, .no] m1 = .nxt [.val (.scr ks), .val (.obj 1), t2, t3, t4, t5, t6, t7, t8] m3 := by
    have : intsR 0 2 = [.int 0, .int 1] := rfl
    rw [this, forL, e2]
    show forL _ [.int 1] env2 m2 = _
    rw [forL, e3]
    rfl
  obtain ⟨k1, k2⟩ := last3 j m3
  have k3 : C (j + 20) 23 [.tup [.tup [.int 4, .tup []]]] m3 = .ok (.int 1) m3 := c23 (j + 19) _ m3
  have s1 := same (j + 14) (.tup [.int 3, .int 70, .int 1]) rfl (by simp [D.dep, D.deps]) m3
  refine ⟨m3, ?_⟩
  rw [C, callF_at (k := 53) rfl _ _ _ rfl]
  unfold wbody at hl
  obtain ⟨Cc, hC⟩ : ∃ Cc : Call, callF td.fs (j + 20) = Cc := ⟨_, rfl⟩
  simp only [C, Nat.add_assoc, Nat.reduceAdd, hC] at e1 hl k1 k2 k3 s1
  rw [hC]
  clear hC
  have hr : rngOk 0 2 = true := rfl
  have h2 : (2 : Int).toNat = 2 := rfl
  simp [b_law, List.replicate, e1, hr, h2, hl, k1, k2, k3, s1]
theorem holds : ∀ ks : List Int, ks.length ≤ 63 → ∃ m', callF td.fs 40 53 [.scr ks] [] = .ok (.bl true) m' := fun ks hk => c53 19 ks hk
end K76

set_option Elab.async false
set_option linter.all false
open PySem PySem.W PyProof.Rows in
set_option maxRecDepth 100000 in
set_option maxHeartbeats 0 in
theorem PySem.Challenge.cw_costsahead_k76_whole_heaps_as_counting_holds : PySem.Challenge.rw_costsahead_k76_whole_heaps_as_counting.Holds := by
  w_on; o_law; k_head; (case hw => w_witness2)
  k_fill
  refine PF.walkF (l := PySem.Challenge.rw_costsahead_k76_whole_heaps_as_counting) (n := 40) (fl := 53) (D0 := K76.td) (tx := K76.tx) rfl rfl ⟨rfl, by decide, by decide⟩ (fun w h Y => PySem.W.kIn_of Y) K76.txok rfl rfl ?F K76.holds
  case F =>
    intro w h KX
    refine ⟨?df, ?gl, ?bl⟩
    case df =>
      refine' (PF.ac ?d0 (PF.ac ?d1 (PF.ac ?d2 (PF.ac ?d3 (PF.ac ?d4 (PF.ac ?d5 (PF.ac ?d6 (PF.ac ?d7 (PF.ac ?d8 (PF.ac ?d9 (PF.ac ?d10 (PF.ac ?d11 (PF.ac ?d12 (PF.ac ?d13 (PF.ac ?d14 (PF.ac ?d15 (PF.ac ?d16 (PF.ac ?d17 (PF.ac ?d18 (PF.ac ?d19 (PF.ac ?d20 (PF.ac ?d21 (PF.ac ?d22 (PF.ac ?d23 (PF.ac ?d24 (PF.ac ?d25 (PF.ac ?d26 (PF.ac ?d27 (PF.ac ?d28 (PF.ac ?d29 (PF.ac ?d30 (PF.ac ?d31 (PF.ac ?d32 (PF.ac ?d33 (PF.ac ?d34 (PF.ac ?d35 (PF.ac ?d36 (PF.ac ?d37 (PF.ac ?d38 (PF.ac ?d39 (PF.ac ?d40 (PF.ac ?d41 (PF.ac ?d42 (PF.ac ?d43 (PF.ac ?d44 (PF.ac ?d45 (PF.ac ?d46 (PF.ac ?d47 (PF.ac ?d48 (PF.ac ?d49 (PF.ac ?d50 (PF.ac ?d51 (PF.ac ?d52 (PF.ac ?d53 PF.ac0))))))))))))))))))))))))))))))))))))))))))))))))))))))
      case d0 =>
        show PF.DefAt _ "is_integer" (K76.top 6)
        refine' PF.DefAt.of ?a ?b ?c ?e
        case a => k_is
        case b => k_is
        case c => k_is
        case e => k_is
      case d1 =>
        show PF.DefAt _ "is_whole" (K76.top 7)
        refine' PF.DefAt.of ?a ?b ?c ?e
        case a => k_is
        case b => k_is
        case c => k_is
        case e => k_is
      case d2 =>
        show PF.DefAt _ "is_tuple" (K76.top 8)
        refine' PF.DefAt.of ?a ?b ?c ?e
        case a => k_is
        case b => k_is
        case c => k_is
        case e => k_is
      case d3 =>
        show PF.DefAt _ "is_key" (K76.top 10)
        refine' PF.DefAt.of ?a ?b ?c ?e
        case a => k_is
        case b => k_is
        case c => k_is
        case e => k_is
      case d4 =>
        show PF.DefAt _ "led_keys" (K76.top 11)
        refine' PF.DefAt.of ?a ?b ?c ?e
        case a => k_is
        case b => k_is
        case c => k_is
        case e => k_is
      case d5 =>
        show PF.DefAt _ "taken_keys" (K76.top 12)
        refine' PF.DefAt.of ?a ?b ?c ?e
        case a => k_is
        case b => k_is
        case c => k_is
        case e => k_is
      case d6 =>
        show PF.DefAt _ "kept_keys" (K76.top 13)
        refine' PF.DefAt.of ?a ?b ?c ?e
        case a => k_is
        case b => k_is
        case c => k_is
        case e => k_is
      case d7 =>
        show PF.DefAt _ "is_keyed" (K76.top 15)
        refine' PF.DefAt.of ?a ?b ?c ?e
        case a => k_is
        case b => k_is
        case c => k_is
        case e => k_is
      case d8 =>
        show PF.DefAt _ "tree_size" (K76.top 16)
        refine' PF.DefAt.of ?a ?b ?c ?e
        case a => k_is
        case b => k_is
        case c => k_is
        case e => k_is
      case d9 =>
        show PF.DefAt _ "is_whole_tree" (K76.top 17)
        refine' PF.DefAt.of ?a ?b ?c ?e
        case a => k_is
        case b => k_is
        case c => k_is
        case e => k_is
      case d10 =>
        show PF.DefAt _ "is_falling" (K76.top 18)
        refine' PF.DefAt.of ?a ?b ?c ?e
        case a => k_is
        case b => k_is
        case c => k_is
        case e => k_is
      case d11 =>
        show PF.DefAt _ "binomial_error" (K76.top 19)
        refine' PF.DefAt.of ?a ?b ?c ?e
        case a => k_is
        case b => k_is
        case c => k_is
        case e => k_is
      case d12 =>
        show PF.DefAt _ "linked_trees" (K76.top 20)
        refine' PF.DefAt.of ?a ?b ?c ?e
        case a => k_is
        case b => k_is
        case c => k_is
        case e => k_is
      case d13 =>
        show PF.DefAt _ "joined_links" (K76.top 21)
        refine' PF.DefAt.of ?a ?b ?c ?e
        case a => k_is
        case b => k_is
        case c => k_is
        case e => k_is
      case d14 =>
        show PF.DefAt _ "binomial_joined" (K76.top 22)
        refine' PF.DefAt.of ?a ?b ?c ?e
        case a => k_is
        case b => k_is
        case c => k_is
        case e => k_is
      case d15 =>
        show PF.DefAt _ "put_links" (K76.top 23)
        refine' PF.DefAt.of ?a ?b ?c ?e
        case a => k_is
        case b => k_is
        case c => k_is
        case e => k_is
      case d16 =>
        show PF.DefAt _ "binomial_put" (K76.top 24)
        refine' PF.DefAt.of ?a ?b ?c ?e
        case a => k_is
        case b => k_is
        case c => k_is
        case e => k_is
      case d17 =>
        show PF.DefAt _ "taken_links" (K76.top 25)
        refine' PF.DefAt.of ?a ?b ?c ?e
        case a => k_is
        case b => k_is
        case c => k_is
        case e => k_is
      case d18 =>
        show PF.DefAt _ "binomial_taken" (K76.top 26)
        refine' PF.DefAt.of ?a ?b ?c ?e
        case a => k_is
        case b => k_is
        case c => k_is
        case e => k_is
      case d19 =>
        show PF.DefAt _ "led_binomial" (K76.top 27)
        refine' PF.DefAt.of ?a ?b ?c ?e
        case a => k_is
        case b => k_is
        case c => k_is
        case e => k_is
      case d20 =>
        show PF.DefAt _ "binomial_run" (K76.top 28)
        refine' PF.DefAt.of ?a ?b ?c ?e
        case a => k_is
        case b => k_is
        case c => k_is
        case e => k_is
      case d21 =>
        show PF.DefAt _ "binomial_costs" (K76.top 29)
        refine' PF.DefAt.of ?a ?b ?c ?e
        case a => k_is
        case b => k_is
        case c => k_is
        case e => k_is
      case d22 =>
        show PF.DefAt _ "binomial_prices" (K76.top 30)
        refine' PF.DefAt.of ?a ?b ?c ?e
        case a => k_is
        case b => k_is
        case c => k_is
        case e => k_is
      case d23 =>
        show PF.DefAt _ "binomial_potential" (K76.top 31)
        refine' PF.DefAt.of ?a ?b ?c ?e
        case a => k_is
        case b => k_is
        case c => k_is
        case e => k_is
      case d24 =>
        show PF.DefAt _ "ones_of" (K76.top 32)
        refine' PF.DefAt.of ?a ?b ?c ?e
        case a => k_is
        case b => k_is
        case c => k_is
        case e => k_is
      case d25 =>
        show PF.DefAt _ "join_links" (K76.top 33)
        refine' PF.DefAt.of ?a ?b ?c ?e
        case a => k_is
        case b => k_is
        case c => k_is
        case e => k_is
      case d26 =>
        show PF.DefAt _ "puts_cost" (K76.top 34)
        refine' PF.DefAt.of ?a ?b ?c ?e
        case a => k_is
        case b => k_is
        case c => k_is
        case e => k_is
      case d27 =>
        show PF.DefAt _ "count_of" (K76.top 36)
        refine' PF.DefAt.of ?a ?b ?c ?e
        case a => k_is
        case b => k_is
        case c => k_is
        case e => k_is
      case d28 =>
        show PF.DefAt _ "count_worth" (K76.top 37)
        refine' PF.DefAt.of ?a ?b ?c ?e
        case a => k_is
        case b => k_is
        case c => k_is
        case e => k_is
      case d29 =>
        show PF.DefAt _ "full_figures" (K76.top 38)
        refine' PF.DefAt.of ?a ?b ?c ?e
        case a => k_is
        case b => k_is
        case c => k_is
        case e => k_is
      case d30 =>
        show PF.DefAt _ "count_up" (K76.top 39)
        refine' PF.DefAt.of ?a ?b ?c ?e
        case a => k_is
        case b => k_is
        case c => k_is
        case e => k_is
      case d31 =>
        show PF.DefAt _ "up_flips" (K76.top 40)
        refine' PF.DefAt.of ?a ?b ?c ?e
        case a => k_is
        case b => k_is
        case c => k_is
        case e => k_is
      case d32 =>
        show PF.DefAt _ "count_run" (K76.top 41)
        refine' PF.DefAt.of ?a ?b ?c ?e
        case a => k_is
        case b => k_is
        case c => k_is
        case e => k_is
      case d33 =>
        show PF.DefAt _ "lowest" (K76.top 43)
        refine' PF.DefAt.of ?a ?b ?c ?e
        case a => k_is
        case b => k_is
        case c => k_is
        case e => k_is
      case d34 =>
        show PF.DefAt _ "flips_to" (K76.top 45)
        refine' PF.DefAt.of ?a ?b ?c ?e
        case a => k_is
        case b => k_is
        case c => k_is
        case e => k_is
      case d35 =>
        show PF.DefAt _ "flips_between" (K76.top 46)
        refine' PF.DefAt.of ?a ?b ?c ?e
        case a => k_is
        case b => k_is
        case c => k_is
        case e => k_is
      case d36 =>
        show PF.DefAt _ "count_price" (K76.top 47)
        refine' PF.DefAt.of ?a ?b ?c ?e
        case a => k_is
        case b => k_is
        case c => k_is
        case e => k_is
      case d37 =>
        show PF.DefAt _ "count_potential" (K76.top 48)
        refine' PF.DefAt.of ?a ?b ?c ?e
        case a => k_is
        case b => k_is
        case c => k_is
        case e => k_is
      case d38 =>
        show PF.DefAt _ "_law_own_bag" (K76.top 50)
        refine' PF.DefAt.of ?a ?b ?c ?e
        case a => k_is
        case b => k_is
        case c => k_is
        case e => k_is
      case d39 =>
        show PF.DefAt _ "_law_draw" (K76.top 51)
        refine' PF.DefAt.of ?a ?b ?c ?e
        case a => k_is
        case b => k_is
        case c => k_is
        case e => k_is
      case d40 =>
        show PF.DefAt _ "_law_pick" (K76.top 52)
        refine' PF.DefAt.of ?a ?b ?c ?e
        case a => k_is
        case b => k_is
        case c => k_is
        case e => k_is
      case d41 =>
        show PF.DefAt _ "_law_same" (K76.top 53)
        refine' PF.DefAt.of ?a ?b ?c ?e
        case a => k_is
        case b => k_is
        case c => k_is
        case e => k_is
      case d42 =>
        show PF.DefAt _ "_law_bits" (K76.top 54)
        refine' PF.DefAt.of ?a ?b ?c ?e
        case a => k_is
        case b => k_is
        case c => k_is
        case e => k_is
      case d43 =>
        show PF.DefAt _ "_law_carries" (K76.top 55)
        refine' PF.DefAt.of ?a ?b ?c ?e
        case a => k_is
        case b => k_is
        case c => k_is
        case e => k_is
      case d44 =>
        show PF.DefAt _ "_law_keys" (K76.top 56)
        refine' PF.DefAt.of ?a ?b ?c ?e
        case a => k_is
        case b => k_is
        case c => k_is
        case e => k_is
      case d45 =>
        show PF.DefAt _ "_law_all" (K76.top 57)
        refine' PF.DefAt.of ?a ?b ?c ?e
        case a => k_is
        case b => k_is
        case c => k_is
        case e => k_is
      case d46 =>
        show PF.DefAt _ "_law_orders" (K76.top 58)
        refine' PF.DefAt.of ?a ?b ?c ?e
        case a => k_is
        case b => k_is
        case c => k_is
        case e => k_is
      case d47 =>
        show PF.DefAt _ "_law_ones" (K76.top 59)
        refine' PF.DefAt.of ?a ?b ?c ?e
        case a => k_is
        case b => k_is
        case c => k_is
        case e => k_is
      case d48 =>
        show PF.DefAt _ "_law_puts" (K76.top 60)
        refine' PF.DefAt.of ?a ?b ?c ?e
        case a => k_is
        case b => k_is
        case c => k_is
        case e => k_is
      case d49 =>
        show PF.DefAt _ "_law_are_puts_right" (K76.top 61)
        refine' PF.DefAt.of ?a ?b ?c ?e
        case a => k_is
        case b => k_is
        case c => k_is
        case e => k_is
      case d50 =>
        show PF.DefAt _ "_law_is_join_right" (K76.top 62)
        refine' PF.DefAt.of ?a ?b ?c ?e
        case a => k_is
        case b => k_is
        case c => k_is
        case e => k_is
      case d51 =>
        show PF.DefAt _ "_law_is_take_right" (K76.top 63)
        refine' PF.DefAt.of ?a ?b ?c ?e
        case a => k_is
        case b => k_is
        case c => k_is
        case e => k_is
      case d52 =>
        show PF.DefAt _ "_law_is_row_right" (K76.top 64)
        refine' PF.DefAt.of ?a ?b ?c ?e
        case a => k_is
        case b => k_is
        case c => k_is
        case e => k_is
      case d53 =>
        show PF.DefAt _ "law" (K76.top 65)
        refine' PF.DefAt.of ?a ?b ?c ?e
        case a => k_is
        case b => k_is
        case c => k_is
        case e => k_is
    case gl =>
      refine' (PF.glc ?uu0 (PF.glc ?uu1 PF.gl0))
      case uu0 => k_is
      case uu1 => k_is
    case bl =>
      refine' (PF.mc ?b0 (PF.mc ?b1 (PF.mc ?b2 (PF.mc ?b3 (PF.mc ?b4 (PF.mc ?b5 (PF.mc ?b6 (PF.mc ?b7 (PF.mc ?b8 (PF.mc ?b9 (PF.mc ?b10 (PF.mc ?b11 (PF.mc ?b12 (PF.mc ?b13 (PF.mc ?b14 (PF.mc ?b15 (PF.mc ?b16 (PF.mc ?b17 (PF.mc ?b18 PF.mc0)))))))))))))))))))
      case b0 => k_is
      case b1 => k_is
      case b2 => k_is
      case b3 => k_is
      case b4 => k_is
      case b5 => k_is
      case b6 => k_is
      case b7 => k_is
      case b8 => k_is
      case b9 => k_is
      case b10 => k_is
      case b11 => k_is
      case b12 => k_is
      case b13 => k_is
      case b14 => k_is
      case b15 => k_is
      case b16 => k_is
      case b17 => k_is
      case b18 => k_is

