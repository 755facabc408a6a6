import PyProof.Rows.All
import Wide.All
import OpenK.AllK
import Wide.FinOn
import HandS.ForMost
import HandS.Exc
import HandS.WordsExc
import HandS.Wide
import HandS.WideBits
import HandS.Walk
import HandS.Deep
import PyProof.Rows.InDataRows
import HandS.Flow
import HandS.Style
import HandS.IsInst
import KE.KExcIs
import HandS.More
import HandS.OwnEq
import KE.KFmtOwn
import OpenK.KWalk
import HandS.NoneIn
import HandS.Iter
import HandS.Defaults
import HandS.Ends
import HandS.HeadHook1
import HandS.HeadHook2
import HandS.HeadHook3
import HandS.HeadHook4
import HandS.HeadEnd
import HandS.TryMany
import HandS.Comp
import PyProof.ExcBaseAll.ZeroDivisionError
import PyProof.ExcBaseAll.ValueError
import PyProof.ExcBaseAll.IndexError
import HandS.Words
import HandS.Head0
import HandS.Head1
import HandS.Head2
import PySem.Challenge.RW_tiedbeats_k16_rows_refused
set_option Elab.async false
set_option linter.all false
set_option maxRecDepth 100000
set_option maxHeartbeats 0
/-! Mp1: pure data, what stands for it in the abstract heap, the slots of a frame. -/
namespace Mp
open PySem L2

/-- data by value; ins c: an instance of the class with the number c, its fields in order -/
inductive D where
  | non | bl (b : Bool) | int (i : Int) | str (s : Str)
  | tup (l : List D) | lst (l : List D)
  | ins (c : Nat) (l : List D)
  | exc (c : Nat) (l : List D)

/-- flat data as a value -/
def D.flat : D → Option V
  | .non => some .non
  | .bl b => some (.bl b)
  | .int i => some (.int i)
  | .str s => some (.str s)
  | _ => none

/-- a class of the text: where it stands, its fields in the order in which they are stored -/
structure CI where
  addr : Addr
  flds : List Str

/-- what a law's text is: the written part, the classes; the exceptions' classes and their fields' names -/
structure Tx where
  K : PySem.W.Frag
  ci : Nat → CI
  nc : Nat
  ea : Nat → Addr
  en : Nat → Str
  ne : Nat

/-- an exception that was caught: its class, its dict -/
def ExH (cls : Value) (d : Option Addr) (a : Addr) : HO := .ext fun h => ∃ (oe : Obj) (vs : Array Value), h.get? a = some oe ∧ Zc cls d oe ∧ oe.data = .fields vs

/-- sub-heap -/
abbrev Le (F H : Hp) : Prop := ∀ a o, F a = some o → H a = some o
theorem Le.refl (H : Hp) : Le H H := fun _ _ h => h
theorem Le.trans {A B C : Hp} (x : Le A B) (y : Le B C) : Le A C := fun a o h => y a o (x a o h)

theorem rd_le {F H : Hp} {a : Addr} {u : HO} (e : Le F H) (h : Rd F a u) : Rd H a u := by
  rcases h with h | ⟨o, h⟩
  · exact .inl (e _ _ h)
  · exact .inr ⟨o, e _ _ h⟩
theorem sqL_le {K : PySem.W.Frag} {F H : Hp} {a : Addr} {xs : List V} (e : Le F H) (h : SqL K F a xs) : SqL K H a xs := by
  rcases h with h | h
  · exact .inl (rd_le e h)
  · exact .inr h
theorem sqT_le {K : PySem.W.Frag} {F H : Hp} {a : Addr} {xs : List V} (e : Le F H) (h : SqT K F a xs) : SqT K H a xs := by
  rcases h with h | h
  · exact .inl (rd_le e h)
  · exact .inr h

/-- values that stand for data, by the frozen heap F -/
inductive Reps (T : Tx) (F : Hp) : List V → List D → Prop where
  | nil : Reps T F [] []
  | flat {v : V} {d : D} {vs : List V} {ds : List D} (h : d.flat = some v) (t : Reps T F vs ds) : Reps T F (v :: vs) (d :: ds)
  | tup {a : Addr} {xs vs : List V} {es ds : List D} (h : SqT T.K F a xs) (e : Reps T F xs es) (t : Reps T F vs ds) : Reps T F (.ref a :: vs) (.tup es :: ds)
  | lst {a : Addr} {xs vs : List V} {es ds : List D} (h : F a = some (.lst xs)) (e : Reps T F xs es) (t : Reps T F vs ds) : Reps T F (.ref a :: vs) (.lst es :: ds)
  | ins {a dx : Addr} {c : Nat} {fs : List (Str × V)} {vs : List V} {es ds : List D} (h : F a = some (.ins (T.ci c).addr dx fs)) (n : fs.map (·.1) = (T.ci c).flds) (k : c < T.nc) (e : Reps T F (fs.map (·.2)) es) (t : Reps T F vs ds) :
      Reps T F (.ref a :: vs) (.ins c es :: ds)
  | exc {a : Addr} {dx : Option Addr} {c : Nat} {fs : List (Str × V)} {vs : List V} {es ds : List D} (h : F a = some (ExH (.ref (T.ea c)) dx a)) (k : c < T.ne) (q : (dx = none ∧ fs = []) ∨ ∃ x v, dx = some x ∧ F x = some (.xd fs) ∧ fs = [(T.en c, v)]) (e : Reps T F (fs.map (·.2)) es) (t : Reps T F vs ds) :
      Reps T F (.ref a :: vs) (.exc c es :: ds)
def Rep (T : Tx) (F : Hp) (v : V) (d : D) : Prop := Reps T F [v] [d]

section
variable {T : Tx} {F F' H : Hp} {v : V} {d : D} {vs ws : List V} {ds es : List D}
theorem Reps.mono (e : Le F F') (h : Reps T F vs ds) : Reps T F' vs ds := by
  induction h with
  | nil => exact .nil
  | flat h _ ih => exact .flat h ih
  | tup h _ _ i1 i2 => exact .tup (sqT_le e h) i1 i2
  | lst h _ _ i1 i2 => exact .lst (e _ _ h) i1 i2
  | ins h n k _ _ i1 i2 => exact .ins (e _ _ h) n k i1 i2
  | exc h k q _ _ i1 i2 => exact .exc (e _ _ h) k (q.imp_right fun ⟨x, v, q1, q2, q3⟩ => ⟨x, v, q1, e _ _ q2, q3⟩) i1 i2
theorem Rep.mono (e : Le F F') (h : Rep T F v d) : Rep T F' v d := Reps.mono e h
theorem Reps.length (h : Reps T F vs ds) : vs.length = ds.length := by
  induction h with
  | nil => rfl
  | flat _ _ ih => simp [ih]
  | tup _ _ _ _ i2 => simp [i2]
  | lst _ _ _ _ i2 => simp [i2]
  | ins _ _ _ _ _ _ i2 => simp [i2]
  | exc _ _ _ _ _ _ i2 => simp [i2]
/-- head and tail -/
theorem Reps.split (h : Reps T F (v :: vs) (d :: ds)) : Rep T F v d ∧ Reps T F vs ds := by
  cases h with
  | flat h t => exact ⟨.flat h .nil, t⟩
  | tup h e t => exact ⟨.tup h e .nil, t⟩
  | lst h e t => exact ⟨.lst h e .nil, t⟩
  | ins h n k e t => exact ⟨.ins h n k e .nil, t⟩
  | exc h k q e t => exact ⟨.exc h k q e .nil, t⟩
theorem Reps.cons (h : Rep T F v d) (t : Reps T F vs ds) : Reps T F (v :: vs) (d :: ds) := by
  cases h with
  | flat h _ => exact .flat h t
  | tup h e _ => exact .tup h e t
  | lst h e _ => exact .lst h e t
  | ins h n k e _ => exact .ins h n k e t
  | exc h k q e _ => exact .exc h k q e t
theorem Reps.consE (h : Reps T F vs (d :: ds)) : ∃ v ws, vs = v :: ws ∧ Rep T F v d ∧ Reps T F ws ds := by
  cases vs with
  | nil => cases h
  | cons v ws => exact ⟨v, ws, rfl, h.split.1, h.split.2⟩
theorem Reps.consL (h : Reps T F (v :: vs) es) : ∃ d ds, es = d :: ds ∧ Rep T F v d ∧ Reps T F vs ds := by
  cases es with
  | nil => cases h
  | cons d ds => exact ⟨d, ds, rfl, h.split.1, h.split.2⟩
theorem Reps.nilE (h : Reps T F vs []) : vs = [] := by cases h; rfl
theorem Reps.append (h : Reps T F vs ds) (g : Reps T F ws es) : Reps T F (vs ++ ws) (ds ++ es) := by
  induction h with
  | nil => exact g
  | flat h _ ih => exact .flat h ih
  | tup h e _ _ i2 => exact .tup h e i2
  | lst h e _ _ i2 => exact .lst h e i2
  | ins h n k e _ _ i2 => exact .ins h n k e i2
  | exc h k q e _ _ i2 => exact .exc h k q e i2
theorem Reps.get (h : Reps T F vs ds) {i : Nat} {d : D} (e : ds[i]? = some d) : ∃ v, vs[i]? = some v ∧ Rep T F v d := by
  induction i generalizing vs ds with
  | zero =>
    cases ds with
    | nil => simp at e
    | cons d0 ds =>
      simp at e; subst e
      obtain ⟨v, ws, rfl, r, _⟩ := h.consE
      exact ⟨v, rfl, r⟩
  | succ i ih =>
    cases ds with
    | nil => simp at e
    | cons d0 ds =>
      obtain ⟨v, ws, rfl, _, t⟩ := h.consE
      obtain ⟨u, e1, e2⟩ := ih t (by simpa using e)
      exact ⟨u, by simpa using e1, e2⟩
theorem Reps.getL (h : Reps T F vs ds) {i : Nat} {v : V} (e : vs[i]? = some v) : ∃ d, ds[i]? = some d ∧ Rep T F v d := by
  have hl := h.length
  have hi : i < vs.length := (List.getElem?_eq_some_iff.mp e).1
  obtain ⟨u, e1, e2⟩ := h.get (i := i) (d := ds[i]'(by omega)) (by simp [show i < ds.length by omega])
  rw [e] at e1; cases e1
  exact ⟨_, by simp [show i < ds.length by omega], e2⟩
theorem Reps.set (h : Reps T F vs ds) (r : Rep T F v d) (i : Nat) : Reps T F (vs.set i v) (ds.set i d) := by
  induction i generalizing vs ds with
  | zero =>
    cases ds with
    | nil => cases h; exact .nil
    | cons d0 ds =>
      obtain ⟨v0, ws, rfl, _, t⟩ := h.consE
      exact .cons r t
  | succ i ih =>
    cases ds with
    | nil => cases h; exact .nil
    | cons d0 ds =>
      obtain ⟨v0, ws, rfl, r0, t⟩ := h.consE
      exact .cons r0 (ih t)
theorem Reps.take (h : Reps T F vs ds) (n : Nat) : Reps T F (vs.take n) (ds.take n) := by
  induction n generalizing vs ds with
  | zero => exact .nil
  | succ n ih =>
    cases ds with
    | nil => cases h; exact .nil
    | cons d0 ds =>
      obtain ⟨v0, ws, rfl, r0, t⟩ := h.consE
      exact .cons r0 (ih t)
theorem Reps.drop (h : Reps T F vs ds) (n : Nat) : Reps T F (vs.drop n) (ds.drop n) := by
  induction n generalizing vs ds with
  | zero => exact h
  | succ n ih =>
    cases ds with
    | nil => cases h; exact .nil
    | cons d0 ds =>
      obtain ⟨v0, ws, rfl, _, t⟩ := h.consE
      exact ih t
theorem Reps.reverse (h : Reps T F vs ds) : Reps T F vs.reverse ds.reverse := by
  induction ds generalizing vs with
  | nil => cases h; exact .nil
  | cons d ds ih =>
    obtain ⟨v, ws, rfl, r, t⟩ := h.consE
    rw [List.reverse_cons, List.reverse_cons]
    exact (ih t).append r
theorem Reps.eraseIdx (h : Reps T F vs ds) (n : Nat) : Reps T F (vs.eraseIdx n) (ds.eraseIdx n) := by
  rw [List.eraseIdx_eq_take_drop_succ, List.eraseIdx_eq_take_drop_succ]
  exact (h.take n).append (h.drop (n + 1))
theorem Reps.dropLast (h : Reps T F vs ds) : Reps T F vs.dropLast ds.dropLast := by
  rw [List.dropLast_eq_take, List.dropLast_eq_take, h.length]
  exact h.take _
theorem Rep.flatE {x : V} (h : Rep T F v d) (e : d.flat = some x) : v = x := by
  cases h with
  | flat h _ => rw [h] at e; exact Option.some.inj e
  | tup _ _ _ => simp [D.flat] at e
  | lst _ _ _ => simp [D.flat] at e
  | ins _ _ _ _ _ => simp [D.flat] at e
  | exc _ _ _ _ _ => simp [D.flat] at e
theorem Rep.of_flat {x : V} (e : d.flat = some x) : Rep T F x d := .flat e .nil
theorem Rep.intE {i : Int} (h : Rep T F v (.int i)) : v = .int i := h.flatE rfl
theorem Rep.blE {b : Bool} (h : Rep T F v (.bl b)) : v = .bl b := h.flatE rfl
theorem Rep.strE {s : Str} (h : Rep T F v (.str s)) : v = .str s := h.flatE rfl
theorem Rep.nonE (h : Rep T F v .non) : v = .non := h.flatE rfl
theorem Rep.tupE (h : Rep T F v (.tup ds)) : ∃ a xs, v = .ref a ∧ SqT T.K F a xs ∧ Reps T F xs ds := by
  cases h with
  | flat h _ => simp [D.flat] at h
  | tup h e _ => exact ⟨_, _, rfl, h, e⟩
theorem Rep.lstE (h : Rep T F v (.lst ds)) : ∃ a xs, v = .ref a ∧ F a = some (.lst xs) ∧ Reps T F xs ds := by
  cases h with
  | flat h _ => simp [D.flat] at h
  | lst h e _ => exact ⟨_, _, rfl, h, e⟩
theorem Rep.insE {c : Nat} (h : Rep T F v (.ins c ds)) : ∃ a dx fs, v = .ref a ∧ F a = some (.ins (T.ci c).addr dx fs) ∧ fs.map (·.1) = (T.ci c).flds ∧ c < T.nc ∧ Reps T F (fs.map (·.2)) ds := by
  cases h with
  | flat h _ => simp [D.flat] at h
  | ins h n k e _ => exact ⟨_, _, _, rfl, h, n, k, e⟩
theorem Rep.excE {c : Nat} (h : Rep T F v (.exc c ds)) : ∃ a dx fs, v = .ref a ∧ F a = some (ExH (.ref (T.ea c)) dx a) ∧ c < T.ne ∧ ((dx = none ∧ fs = []) ∨ ∃ x w, dx = some x ∧ F x = some (.xd fs) ∧ fs = [(T.en c, w)]) ∧ Reps T F (fs.map (·.2)) ds := by
  cases h with
  | flat h _ => simp [D.flat] at h
  | exc h k q e _ => exact ⟨_, _, _, rfl, h, k, q, e⟩
theorem Rep.mk_tup {a : Addr} {xs : List V} (h : SqT T.K F a xs) (e : Reps T F xs ds) : Rep T F (.ref a) (.tup ds) := .tup h e .nil
theorem Rep.mk_lst {a : Addr} {xs : List V} (h : F a = some (.lst xs)) (e : Reps T F xs ds) : Rep T F (.ref a) (.lst ds) := .lst h e .nil
end

/-- a slot of a frame: empty | frozen data | a list of one's own | a list of somebody else's, read only | an instance being made | the script -/
inductive Sl where
  | no
  | fz (d : D)
  | ol (l : List D)
  | bw (l : List D)
  | oi (c : Nat) (l : List D)
  | sc (l : List D)

/-- m: the own address of each slot; b: where borrowed things may lie (they stood before the frame did) -/
structure Ad where
  m : Nat → Option Addr
  b : Addr → Prop
instance : CoeFun Ad fun _ => Nat → Option Addr := ⟨Ad.m⟩
/-- a borrowed thing's place -/
def Ad.far (A : Ad) (l : Addr) : Prop := A.b l ∧ ∀ i, A i ≠ some l

inductive RepS (T : Tx) (F H : Hp) (A : Ad) : Option Addr → Option (Option V) → Sl → Prop where
  | no {x} : RepS T F H A none x .no
  | fz {v d} (h : Rep T F v d) : RepS T F H A none (some (some v)) (.fz d)
  | ol {l xs ds} (h : H l = some (.lst xs)) (e : Reps T F xs ds) : RepS T F H A (some l) (some (some (.ref l))) (.ol ds)
  | bw {l xs ds} (h : H l = some (.lst xs)) (e : Reps T F xs ds) (n : A.far l) : RepS T F H A none (some (some (.ref l))) (.bw ds)
  | sc {l xs ds} (h : (Rd H l (.lst xs) ∧ A.far l) ∨ SqL T.K (fun _ => none) l xs) (e : Reps T F xs ds) : RepS T F H A none (some (some (.ref l))) (.sc ds)
  | oi {a dx c fs ds} (h : H a = some (.ins (T.ci c).addr dx fs)) (n : fs.map (·.1) = (T.ci c).flds.take ds.length) (m : ds.length ≤ (T.ci c).flds.length ∧ c < T.nc) (e : Reps T F (fs.map (·.2)) ds) : RepS T F H A (some a) (some (some (.ref a))) (.oi c ds)

/-- a frame's slots stand for Γ -/
structure Rel (T : Tx) (F H : Hp) (σ : St) (G : List Sl) (A : Ad) : Prop where
  sub : Le F H
  len : G.length = σ.length
  sl : ∀ i s, G[i]? = some s → RepS T F H A (A i) σ[i]? s
  out : ∀ i, G.length ≤ i → A i = none
  fr : ∀ i a, A i = some a → F a = none
  inj : ∀ i j a, A i = some a → A j = some a → i = j
  bs : ∀ l, A.b l → H l ≠ none ∧ ∀ i, A i ≠ some l

/-- one stretch of a run: what is kept -/
structure Step (F H : Hp) (A : Ad) (F' H' : Hp) (A' : Ad) : Prop where
  f : Le F F'
  h : ∀ a o, H a = some o → (∀ i, A i ≠ some a) → H' a = some o
  n : ∀ a, F' a ≠ none → F a ≠ none ∨ (∃ i, A i = some a) ∨ H a = none
  o : ∀ i a, A' i = some a → (∃ j, A j = some a) ∨ H a = none
  k : ∀ a, H' a = none → H a = none
  b : A'.b = A.b

section
variable {F F1 F2 H H1 H2 : Hp} {A A1 A2 : Ad}
theorem Step.refl : Step F H A F H A := ⟨Le.refl _, fun _ _ h _ => h, fun _ h => .inl h, fun i _ h => .inl ⟨i, h⟩, fun _ h => h, rfl⟩
theorem Step.trans (x : Step F H A F1 H1 A1) (y : Step F1 H1 A1 F2 H2 A2) : Step F H A F2 H2 A2 where
  f := x.f.trans y.f
  h := fun a o h n => y.h a o (x.h a o h n) fun i e => by
    rcases x.o i a e with ⟨j, q⟩ | q
    · exact n j q
    · rw [q] at h; cases h
  n := fun a h => by
    rcases y.n a h with q | ⟨i, q⟩ | q
    · exact x.n a q
    · rcases x.o i a q with ⟨j, z⟩ | z
      · exact .inr (.inl ⟨j, z⟩)
      · exact .inr (.inr z)
    · exact .inr (.inr (x.k a q))
  o := fun i a h => by
    rcases y.o i a h with ⟨j, q⟩ | q
    · exact x.o j a q
    · exact .inr (x.k a q)
  k := fun a h => x.k a (y.k a h)
  b := y.b.trans x.b
end

/-- what an expression gives: frozen data | a new list of nobody's yet | the thing in a slot -/
inductive R where
  | d (d : D)
  | ol (l : List D)
  | al (i : Nat)

inductive RepR (T : Tx) (F H : Hp) (σ : St) (A : Ad) : V → R → Prop where
  | d {v d} (h : Rep T F v d) : RepR T F H σ A v (.d d)
  | ol {l xs ds} (h : H l = some (.lst xs)) (e : Reps T F xs ds) (f : F l = none) (n : ∀ i, A i ≠ some l) : RepR T F H σ A (.ref l) (.ol ds)
  | al {i v} (h : σ[i]? = some (some v)) : RepR T F H σ A v (.al i)

section
variable {T : Tx} {F F' H H' : Hp} {σ : St} {A A' : Ad} {v : V} {r : R}
theorem RepR.step (h : RepR T F H σ A v r) (s : Step F H A F' H' A') : RepR T F' H' σ A' v r := by
  cases h with
  | d h => exact .d (h.mono s.f)
  | ol h e f n =>
    rename_i l xs ds
    refine .ol (s.h _ _ h n) (e.mono s.f) ?_ fun i q => ?_
    · cases q : F' l with
      | none => rfl
      | some o =>
        rcases s.n l (by rw [q]; exact fun z => nomatch z) with z | ⟨i, z⟩ | z
        · exact absurd f z
        · exact absurd z (n i)
        · rw [z] at h; cases h
    · rcases s.o i _ q with ⟨j, z⟩ | z
      · exact n j z
      · rw [z] at h; cases h
  | al h => exact .al h
end
end Mp

/-! Mp2: the small language over data, and what it gives. -/
namespace Mp
open PySem L2

/-! ### operators on data -/
inductive Op2 where
  | add | sub | mul | fdiv | mod | pow | shl | shr | band
inductive Cm where
  | eq | ne | lt | le | gt | ge | isIn | notIn | isN | notN
inductive Ty where
  | int | bool | tuple | list | str | cls (c : Nat) | exc (cs : List Nat)

mutual
def D.toP : D → Option PyData
  | .non => some .none
  | .bl b => some (.bool b)
  | .int i => some (.int i)
  | .str s => some (.str s)
  | .tup l => (D.toPs l).map .tuple
  | .lst l => (D.toPs l).map .list
  | .ins _ _ => none
  | .exc _ _ => none
def D.toPs : List D → Option (List PyData)
  | [] => some []
  | d :: l => match D.toP d, D.toPs l with
    | some p, some q => some (p :: q)
    | _, _ => none
end

def eqD (d e : D) : Option Bool := match d.toP, e.toP with
  | some p, some q => if (SeqAt.shaped p && SeqAt.shaped q) = true then some (PyData.eqv p q) else none
  | _, _ => none

def inD (x : D) (l : List D) : Option Bool := match x.toP, D.toPs l with
  | some p, some q => if (SeqAt.shaped p && SeqAt.shaped (.list q)) = true then some (q.any fun z => PyData.eqv z p) else none
  | _, _ => none

/-- what an expression gives is frozen data | a new list of nobody's yet | the thing in a slot -/
def bop : Op2 → D → D → Option R
  | .add, .int i, .int j => some (.d (.int (i + j)))
  | .add, .str a, .str b => if a.length + b.length ≤ sizeLine then some (.d (.str (a ++ b))) else none
  | .add, .lst a, .lst b => if a.length + b.length ≤ sizeLine then some (.ol (a ++ b)) else none
  | .add, .tup a, .tup b => if a ≠ [] ∧ b ≠ [] ∧ a.length + b.length ≤ sizeLine then some (.d (.tup (a ++ b))) else none
  | .sub, .int i, .int j => some (.d (.int (i - j)))
  | .mul, .int i, .int j => if (Builtin.Int.intBits i : Int) + (Builtin.Int.intBits j : Int) ≤ 134217728 then some (.d (.int (i * j))) else none
  | .mul, .lst a, .int k => if -(2 ^ 63) ≤ k ∧ k < 2 ^ 63 ∧ a.length * k.toNat ≤ sizeLine then some (.ol (List.replicate k.toNat a).flatten) else none
  | .fdiv, .int i, .int j => if j ≠ 0 ∧ j.natAbs.log2 < 9000 then some (.d (.int (i.fdiv j))) else none
  | .mod, .int i, .int j => if j ≠ 0 then some (.d (.int (i.fmod j))) else none
  | .pow, .int i, .int j => if 0 ≤ j ∧ (Builtin.Int.intBits i : Int) * j ≤ 2 ^ 27 then some (.d (.int (i ^ j.toNat))) else none
  | .shl, .int i, .int j => if 0 ≤ j ∧ j ≤ 1000000 ∧ i.natAbs < 2 ^ 64 then some (.d (.int (i * 2 ^ j.toNat))) else none
  | .shr, .int i, .int j => if 0 ≤ j then some (.d (.int (i / 2 ^ j.toNat))) else none
  | .band, .int i, .int j => some (.d (.int (Builtin.bitAnd i j)))
  | _, _, _ => none

def cop : Cm → D → D → Option Bool
  | .eq, x, y => eqD x y
  | .ne, x, y => (eqD x y).map (!·)
  | .lt, .int i, .int j => some (decide (i < j))
  | .le, .int i, .int j => some (decide (i ≤ j))
  | .gt, .int i, .int j => some (decide (j < i))
  | .ge, .int i, .int j => some (decide (j ≤ i))
  | .isIn, x, .lst l => inD x l
  | .notIn, x, .lst l => (inD x l).map (!·)
  | .isIn, x, .tup l => inD x l
  | .notIn, x, .tup l => (inD x l).map (!·)
  | .isN, x, .non => some (match x with | .non => true | _ => false)
  | .notN, x, .non => some (match x with | .non => false | _ => true)
  | _, _, _ => none

/-- truth of data -/
def truD : D → Option Bool
  | .non => some false
  | .bl b => some b
  | .int i => some (i != 0)
  | .str s => if s.length ≤ sizeLine then some ((s.length : Int) != 0) else none
  | .tup l => some !l.isEmpty
  | .lst l => some !l.isEmpty
  | _ => none

def isTy : Ty → D → Bool
  | .int, .int _ => true
  | .int, .bl _ => true
  | .bool, .bl _ => true
  | .tuple, .tup _ => true
  | .list, .lst _ => true
  | .str, .str _ => true
  | .cls c, .ins c' _ => c == c'
  | .exc cs, .exc c _ => cs.contains c
  | _, _ => false

/-! ### the language -/
inductive Tg where
  | n (i : Nat)
  | t (l : List Tg)
/-- how a parameter is taken: frozen | a list that is only read | a list that is changed (the first parameter alone) | the script -/
inductive Pm where
  | f | b | m | s
inductive Bi where
  | len | abs | max | min | str | int | list | tuple | bool | all | any | sum | isi (t : Ty) | bits
/-- methods of lists that change them, of texts -/
inductive Lm where
  | append | pop | popAt | insert | reverse | clear

mutual
inductive E where
  | k (d : D)
  | v (i : Nat)
  | op (o : Op2) (a b : E)
  | neg (a : E)
  | cm (o : Cm) (a b : E)
  | ch (o p : Cm) (a b c : E)
  | and (a b : E)
  | or (a b : E)
  | not (a : E)
  | ite (c a b : E)
  | tup (l : Es)
  | lst (l : Es)
  | ix (a b : E)
  | sl (a : E) (lo hi : Eo)
  | rev (a : E)
  | call (f : Nat) (l : Es)
  | callK (f : Nat) (l : Es) (p : List (Sum Nat D))
  | mk (c f : Nat) (l : Es)
  | mkK (c f : Nat) (l : Es) (p : List (Sum Nat D))
  | meth (m : Nat) (o : E) (l : Es)
  | methK (m : Nat) (o : E) (l : Es) (p : List (Sum Nat D))
  | bd (b : Bi) (m : Nat) (a : E)
  | xf (cs : List Nat) (o : E)
  | bi (b : Bi) (l : Es)
  | lm (m : Lm) (o : E) (l : Es)
  | fld (c j : Nat) (o : E)
  | lc (own : List Nat) (t : Tg) (i : It) (c : Eo) (e : E)
  | lcx (own : List Nat) (t : Tg) (i : It) (c : Eo) (e : E)
  | scl (i : Nat)
  | sci (i : Nat) (a : E)
  | lent (i : Nat) (e : E)
  | bad
inductive Es where
  | nil
  | cons (e : E) (l : Es)
inductive Eo where
  | no
  | so (e : E)
inductive It where
  | e (a : E)
  | rg1 (l : Es)
  | rg2 (l : Es)
  | en (l : Es)
  | zp (l : Es)
end

/-- what a clause does: the exception kept in slot j (it is slot i's meanwhile) | slot j is d | another one raised -/
inductive Act where
  | keep (i j : Nat)
  | put (j : Nat) (d : D)
  | rais (c : Nat)
structure Hd where
  cs : List Nat
  act : Act
mutual
inductive S where
  | asg (t : Tg) (e : E)
  | par (i j : Nat) (a b : E)
  | aug (i : Nat) (o : Op2) (e : E)
  | ex (e : E)
  | ret (e : E)
  | retN
  | iff (c : E) (a b : Ss)
  | whl (c : E) (b : Ss)
  | for (t : Tg) (i : It) (b : Ss)
  | forL (i : Nat) (l : Es) (b : Ss)
  | rs (c : Nat) (l : Es)
  | rsf (c : Nat) (e : E)
  | tr (b : Ss) (hs : List Hd)
  | fld (i c j : Nat) (e : E)
  | six (i : Nat) (a e : E)
  | pass
  | brk
  | cnt
  | bad
inductive Ss where
  | nil
  | cons (s : S) (l : Ss)
end

/-! ### what it gives -/
/-- an exception: the number of its class, its field -/
structure Ex where
  c : Nat
  f : Option D
inductive Res (α : Type) where
  | ok (a : α) (G : List Sl)
  | ex (x : Ex) (G : List Sl)
  | st
/-- a def's end; m: what its first slot holds then -/
inductive Cres where
  | ok (r : R) (m : Sl)
  | ex (x : Ex) (m : Sl)
  | st
inductive Out where
  | nx (G : List Sl)
  | rt (r : R) (G : List Sl)
  | bk (G : List Sl)
  | ct (G : List Sl)
  | ex (x : Ex) (G : List Sl)
  | st

/-- the defs and classes around: what a def gives, how its parameters are taken, how many fields a class has, its methods; w: turns of a while; pr: the first slot is the caller's -/
structure Cf where
  cf : Nat → List Sl → Cres
  pm : Nat → List Pm
  nf : Nat → Nat
  mt : Nat → Nat → Option Nat
  w : Nat
  pr : Bool

/-- the text's own == -/
def ownEq (c : Cf) (cl : Nat) (x y : D) : Option Bool := match c.mt cl 0 with
  | some f => match c.pm f, c.cf f [.fz x, .fz y] with
    | [.f, .f], .ok (.d (.bl b)) _ => some b
    | _, _ => none
  | none => none
def eqL (f : D → D → Option Bool) : List D → List D → Option Bool
  | x :: l, y :: m => match f x y with
    | some true => eqL f l m
    | some false => some false
    | none => none
  | [], [] => some true
  | _, _ => some false
def orE : Option Bool → Option Bool → Option Bool
  | some b, _ => some b
  | none, z => z
def okE : D → Bool
  | .exc _ _ => false
  | _ => true
/-- == of two items of lists or tuples -/
def eqE (c : Cf) : Nat → D → D → Option Bool
  | 0, _, _ => none
  | n + 1, x, y => orE (eqD x y) (match x, y with
      | .ins cl l, y => if okE y = true then (match ownEq c cl (.ins cl l) (.ins cl l) with
        | some true => ownEq c cl (.ins cl l) y
        | _ => none) else none
      | .lst l, .lst m => if l.length = m.length then eqL (eqE c n) l m else some false
      | .tup l, .tup m => eqL (eqE c n) l m
      | _, _ => none)
/-- == of two values, whether they are frozen -/
def eqI (c : Cf) (fx fy : Bool) : D → D → Option Bool
  | .ins cl l, y => if (fx && fy && okE y) = true then ownEq c cl (.ins cl l) y else none
  | .exc _ _, _ => none
  | x, .ins cl l => if (fx && fy) = true then ownEq c cl (.ins cl l) x else none
  | .lst l, .lst m => if l.length = m.length then eqL (eqE c 3) l m else some false
  | .tup l, .tup m => eqL (eqE c 3) l m
  | _, _ => none
def eqX (c : Cf) (fx fy : Bool) (x y : D) : Option Bool := orE (eqD x y) (eqI c fx fy x y)
def inL (f : D → Option Bool) : List D → Option Bool
  | [] => some false
  | z :: l => match f z with
    | some true => some true
    | some false => inL f l
    | none => none
def inX (c : Cf) (fx : Bool) (x : D) (l : List D) : Option Bool := orE (inD x l) (if fx = true then inL (fun z => eqE c 3 z x) l else none)
def neOk : D → D → Bool
  | .ins _ _, _ => true
  | .non, .ins _ _ => true
  | _, .ins _ _ => false
  | _, _ => true
def copX (c : Cf) (fx fy : Bool) : Cm → D → D → Option Bool
  | .eq, x, y => eqX c fx fy x y
  | .ne, x, y => if neOk x y = true then (eqX c fx fy x y).map (!·) else none
  | .isIn, x, .lst l => inX c fx x l
  | .isIn, x, .tup l => inX c fx x l
  | .notIn, x, .lst l => (inX c fx x l).map (!·)
  | .notIn, x, .tup l => (inX c fx x l).map (!·)
  | o, x, y => cop o x y
/-- whether a value is frozen -/
def frzn (G : List Sl) : R → Bool
  | .d _ => true
  | .ol _ => true
  | .al i => match G[i]? with
    | some (.fz _) => true
    | _ => false

/-- a new list becomes frozen -/
def park : R → R
  | .ol l => .d (.lst l)
  | r => r
/-- the data that is to be read -/
def pk (G : List Sl) : R → Option D
  | .d d => some d
  | .ol l => some (.lst l)
  | .al i => match G[i]? with
    | some (.fz d) => some d
    | some (.ol l) => some (.lst l)
    | some (.bw l) => some (.lst l)
    | some (.oi c l) => some (.ins c l)
    | _ => none
/-- frozen -/
def fzR (nf : Nat → Nat) (G : List Sl) : R → Option (D × List Sl)
  | .d d => some (d, G)
  | .ol l => some (.lst l, G)
  | .al i => match G[i]? with
    | some (.fz d) => some (d, G)
    | some (.ol l) => some (.lst l, G.set i (.fz (.lst l)))
    | some (.oi c l) => if l.length = nf c then some (.ins c l, G.set i (.fz (.ins c l))) else none
    | _ => none
def fzAll (nf : Nat → Nat) (G : List Sl) : List R → Option (List D × List Sl)
  | [] => some ([], G)
  | r :: rs => match fzR nf G r with
    | some (d, G1) => match fzAll nf G1 rs with
      | some (ds, G2) => some (d :: ds, G2)
      | none => none
    | none => none
/-- one argument, not of mode m -/
def argS (nf : Nat → Nat) (G : List Sl) : Pm → R → Option (Sl × List Sl)
  | .f, r => match fzR nf G r with
    | some (d, G1) => some (.fz d, G1)
    | none => none
  | .b, r => match pk G r with
    | some (.lst l) => some (.bw l, G)
    | some (.ins _ _) => none
    | some (.exc _ _) => none
    | some d => some (.fz d, G)
    | none => none
  | .s, .al i => match G[i]? with
    | some (.sc l) => some (.sc l, G)
    | _ => none
  | _, _ => none
def argsS (nf : Nat → Nat) (G : List Sl) : List Pm → List R → Option (List Sl × List Sl)
  | [], [] => some ([], G)
  | p :: ps, r :: rs => match argS nf G p r with
    | some (s, G1) => match argsS nf G1 ps rs with
      | some (ss, G2) => some (s :: ss, G2)
      | none => none
    | none => none
  | _, _ => none
def isAl (i : Nat) : R → Bool
  | .al j => j == i
  | _ => false
/-- all arguments; the slot of the caller that the first one changes -/
def argsM (nf : Nat → Nat) (G : List Sl) : List Pm → List R → Option (List Sl × List Sl × Option Nat)
  | .m :: ps, .al i :: rs => if rs.any (isAl i) = true then none else match argsS nf G ps rs with
    | some (ss, G1) => match G1[i]? with
      | some (.ol l) => some (.ol l :: ss, G1, some i)
      | _ => none
    | none => none
  | ps, rs => match argsS nf G ps rs with
    | some (ss, G1) => some (ss, G1, none)
    | none => none
def putM (G : List Sl) : Option Nat → Sl → Option (List Sl)
  | some i, .ol l => some (G.set i (.ol l))
  | some _, _ => none
  | none, _ => some G
/-- a call -/
def callF (c : Cf) (f : Nat) (rs : List R) (G : List Sl) : Res R := match argsM c.nf G (c.pm f) rs with
  | some (ss, G1, mi) => match c.cf f ss with
    | .ok (.al _) _ => .st
    | .ok r m => match putM G1 mi m with
      | some G2 => .ok r G2
      | none => .st
    | .ex x m => match putM G1 mi m with
      | some G2 => .ex x G2
      | none => .st
    | .st => .st
  | none => .st
/-- a new instance -/
def mkF (c : Cf) (cl f : Nat) (rs : List R) (G : List Sl) : Res R := match argsS c.nf G ((c.pm f).drop 1) rs with
  | some (ss, G1) => match c.cf f (.oi cl [] :: ss) with
    | .ok (.d .non) (.oi cl' l) => if cl' = cl ∧ l.length = c.nf cl then .ok (.d (.ins cl l)) G1 else .st
    | .ex x _ => .ex x G1
    | _ => .st
  | none => .st
/-- the arguments of a call with keywords in the parameters' order -/
def permR (rs : List R) : List (Sum Nat D) → Option (List R)
  | [] => some []
  | .inl i :: p => match rs[i]?, permR rs p with
    | some r, some l => some (r :: l)
    | _, _ => none
  | .inr d :: p => match permR rs p with
    | some l => some (.d d :: l)
    | none => none

def biF : Bi → List D → Option R
  | .len, [.lst l] => some (.d (.int l.length))
  | .len, [.tup l] => some (.d (.int l.length))
  | .len, [.str s] => if s.length ≤ sizeLine then some (.d (.int s.length)) else none
  | .abs, [.int i] => some (.d (.int (if i < 0 then -i else i)))
  | .max, [.int i, .int j] => some (.d (.int (if j > i then j else i)))
  | .min, [.int i, .int j] => some (.d (.int (if j < i then j else i)))
  | .str, [.int i] => if i.natAbs.log2 < 1920 then some (.d (.str (toString i))) else none
  | .int, [.int i] => some (.d (.int i))
  | .int, [.bl b] => some (.d (.int (if b then 1 else 0)))
  | .list, [.lst l] => some (.ol l)
  | .list, [.tup l] => some (.ol l)
  | .tuple, [.lst l] => some (.d (.tup l))
  | .tuple, [.tup l] => some (.d (.tup l))
  | .isi t, [d] => some (.d (.bl (isTy t d)))
  | .bits, [.int i] => some (.d (.int (Builtin.Int.intBits i : Nat)))
  | _, _ => none
def pkAll (G : List Sl) : List R → Option (List D)
  | [] => some []
  | r :: rs => match pk G r, pkAll G rs with
    | some d, some ds => some (d :: ds)
    | _, _ => none
def blL : List D → Option (List Bool)
  | [] => some []
  | .bl b :: l => (blL l).map (b :: ·)
  | _ => none
def intL : List D → Option (List Int)
  | [] => some []
  | .int i :: l => (intL l).map (i :: ·)
  | _ => none
def biG (b : Bi) (ds : List D) : Option R := match b, ds with
  | .all, [.lst l] => (blL l).map fun bs => .d (.bl (bs.all id))
  | .any, [.lst l] => (blL l).map fun bs => .d (.bl (bs.any id))
  | .sum, [.lst l] => (intL l).map fun ns => .d (.int ns.sum)
  | b, ds => biF b ds

/-- a built-in over what an own method gives: len, str, bool -/
def dunF : Bi → R → Option R
  | .len, .d (.int i) => if 0 ≤ i ∧ i < 2 ^ 62 then some (.d (.int i)) else none
  | .str, .d (.str s) => some (.d (.str s))
  | .bool, .d (.int i) => if 0 ≤ i ∧ i < 2 ^ 62 then some (.d (.bl (i != 0))) else none
  | _, _ => none

/-- a list's method: what it gives, the list behind it -/
def lmF : Lm → List D → List D → Option (D × List D)
  | .append, l, [d] => if l.length < sizeLine then some (.non, l ++ [d]) else none
  | .pop, l, [] => match l[l.length - 1]? with
    | some d => some (d, l.dropLast)
    | none => none
  | .popAt, l, [.int i] => if -(2 ^ 63) ≤ i ∧ i < 2 ^ 63 then match seqIndex? i l.length with
      | some k => match l[k]? with
        | some d => some (d, l.eraseIdx k)
        | none => none
      | none => none else none
  | .insert, l, [.int i, d] => if 0 ≤ i ∧ i < 2 ^ 63 ∧ l.length < sizeLine then some (.non, l.take i.toNat ++ [d] ++ l.drop i.toNat) else none
  | .reverse, l, [] => some (.non, l.reverse)
  | .clear, _, [] => some (.non, [])
  | _, _, _ => none

def cutD (l : List D) (lo hi : Option Int) : List D := (l.drop (HT.sIx l.length 0 lo)).take (HT.sIx l.length l.length hi - HT.sIx l.length 0 lo)

def ixF : D → D → Option D
  | .lst l, .int i => atI l i
  | .tup l, .int i => atI l i
  | .str s, .int i => if s.length ≤ sizeLine then (atI s.cps.toList i).map fun c => .str ⟨#[c]⟩ else none
  | _, _ => none
def slF : D → Option Int → Option Int → Option R
  | .lst l, lo, hi => some (.ol (cutD l lo hi))
  | .tup l, lo, hi => if (cutD l lo hi).length ≠ l.length then some (.d (.tup (cutD l lo hi))) else none
  | .str s, lo, hi => if s.length ≤ sizeLine then some (.d (.str (cutS s lo hi))) else none
  | _, _, _ => none

/-- a store to a target -/
def setS (pr : Bool) (G : List Sl) (i : Nat) (s : Sl) : Option (List Sl) := if (pr && i == 0) = true ∨ G.length ≤ i then none else some (G.set i s)
mutual
def tgF (pr : Bool) : Tg → D → List Sl → Option (List Sl)
  | .n i, d, G => setS pr G i (.fz d)
  | .t l, .tup ds, G => tgsF pr l ds G
  | .t l, .lst ds, G => tgsF pr l ds G
  | .t _, _, _ => none
def tgsF (pr : Bool) : List Tg → List D → List Sl → Option (List Sl)
  | [], [], G => some G
  | t :: ts, d :: ds, G => match tgF pr t d G with
    | some G1 => tgsF pr ts ds G1
    | none => none
  | _, _, _ => none
end
/-- target = value -/
def asgF (nf : Nat → Nat) (pr : Bool) (t : Tg) (r : R) (G : List Sl) : Option (List Sl) := match t, r with
  | .n i, .ol l => setS pr G i (.ol l)
  | t, r => match fzR nf G r with
    | some (d, G1) => tgF pr t d G1
    | none => none

/-- the list that a loop goes over; a list of one's own is frozen -/
def itL (G : List Sl) : R → Option (List D × List Sl)
  | .d (.lst l) => some (l, G)
  | .ol l => some (l, G)
  | .al i => match G[i]? with
    | some (.ol l) => some (l, G.set i (.fz (.lst l)))
    | some (.bw l) => some (l, G)
    | some (.sc l) => some (l, G)
    | _ => none
  | _ => none
/-- .. a tuple -/
def itT : R → Option (List D)
  | .d (.tup l) => some l
  | _ => none
def numbered (k : Nat) : List D → List D
  | [] => []
  | d :: l => .tup [.int k, d] :: numbered (k + 1) l
def paired : List D → List D → List D
  | d :: l, e :: m => .tup [d, e] :: paired l m
  | _, _ => []
def rgD (a : Int) (n : Nat) : List D := (List.range n).map fun (k : Nat) => .int (a + (k : Int))

/-- the loop of a comprehension: acc the list so far -/
def lcLoop (f : D → List Sl → Res (Option D)) : List D → List D → List Sl → Res (List D)
  | [], acc, G => .ok acc G
  | d :: ds, acc, G => match f d G with
    | .ok (some x) G1 => if acc.length < sizeLine then lcLoop f ds (acc ++ [x]) G1 else .st
    | .ok none G1 => lcLoop f ds acc G1
    | .ex _ _ => .st
    | .st => .st
/-- .. whose item may raise -/
def lcLoopX (f : D → List Sl → Res (Option D)) : List D → List D → List Sl → Res (List D)
  | [], acc, G => .ok acc G
  | d :: ds, acc, G => match f d G with
    | .ok (some x) G1 => if acc.length < sizeLine then lcLoopX f ds (acc ++ [x]) G1 else .st
    | .ok none G1 => lcLoopX f ds acc G1
    | .ex x G1 => .ex x G1
    | .st => .st
/-- the own slots of a comprehension emptied -/
def wipeG (G : List Sl) : List Nat → List Sl
  | [] => G
  | i :: is => (wipeG G is).set i .no
def plainA (G : List Sl) (own : List Nat) : Bool := own.all fun i => match G[i]? with
  | some .no => true
  | some (.fz _) => true
  | _ => false
/-- .. given back what they held -/
def backG (G0 G : List Sl) : List Nat → List Sl
  | [] => G
  | i :: is => match G0[i]? with
    | some s => (backG G0 G is).set i s
    | none => backG G0 G is

def resBind {α β : Type} (r : Res α) (f : α → List Sl → Res β) : Res β := match r with
  | .ok a G => f a G
  | .ex x G => .ex x G
  | .st => .st
def ofO {α : Type} (o : Option α) (G : List Sl) : Res α := match o with
  | some a => .ok a G
  | none => .st
def truR (r : R) (G : List Sl) : Res Bool := match pk G r with
  | some d => ofO (truD d) G
  | none => .st
/-- an int of an optional part -/
def intR (r : R) (G : List Sl) : Res (Option Int) := match pk G r with
  | some (.int i) => .ok (some i) G
  | _ => .st

/-- a list that is lent out: only read meanwhile -/
def farOk : List Sl → List Sl → Bool
  | s :: G, t :: G2 => (match t with
      | .bw _ => match s with
        | .bw _ => true
        | _ => false
      | .sc _ => false
      | _ => true) && farOk G G2
  | _, _ => true
def lentR {α : Type} (i : Nat) (l : List D) (G1 : List Sl) : Res α → Res α
  | .ok r G2 => if farOk G1 G2 = true then .ok r (G2.set i (.ol l)) else .st
  | .ex y G2 => if farOk G1 G2 = true then .ex y (G2.set i (.ol l)) else .st
  | .st => .st
/-- a comprehension's end: its own slots given back -/
def lcxEnd (G1 : List Sl) (own : List Nat) : Res (List D) → Res R
  | .ok acc G2 => .ok (.ol acc) (backG G1 G2 own)
  | .ex x G2 => .ex x (backG G1 G2 own)
  | .st => .st
mutual
def evE (c : Cf) : E → List Sl → Res R
  | .k d, G => .ok (.d d) G
  | .v i, G => match G[i]? with
    | some (.fz d) => .ok (.d d) G
    | some .no => .st
    | some _ => .ok (.al i) G
    | none => .st
  | .op o a b, G => resBind (evE c a G) fun x G1 => resBind (evE c b G1) fun y G2 => match pk G2 (park x), pk G2 (park y) with
    | some d, some e => ofO (bop o d e) G2
    | _, _ => .st
  | .neg a, G => resBind (evE c a G) fun x G1 => match pk G1 (park x) with
    | some (.int i) => .ok (.d (.int (-i))) G1
    | _ => .st
  | .cm o a b, G => resBind (evE c a G) fun x G1 => resBind (evE c b G1) fun y G2 => match pk G2 (park x), pk G2 (park y) with
    | some d, some e => match copX c (frzn G2 x) (frzn G2 y) o d e with
      | some r => .ok (.d (.bl r)) G2
      | none => .st
    | _, _ => .st
  | .ch o p a b d, G => resBind (evE c a G) fun x G1 => resBind (evE c b G1) fun y G2 => match pk G2 (park x), pk G2 (park y) with
    | some x', some y' => match copX c (frzn G2 x) (frzn G2 y) o x' y' with
      | some true => resBind (evE c d G2) fun z G3 => match pk G3 (park y), pk G3 (park z) with
        | some y2, some z2 => match copX c (frzn G3 y) (frzn G3 z) p y2 z2 with
          | some r => .ok (.d (.bl r)) G3
          | none => .st
        | _, _ => .st
      | some false => .ok (.d (.bl false)) G2
      | none => .st
    | _, _ => .st
  | .and a b, G => resBind (evE c a G) fun x G1 => resBind (truR (park x) G1) fun t G2 => if t = true then evE c b G2 else .ok (park x) G2
  | .or a b, G => resBind (evE c a G) fun x G1 => resBind (truR (park x) G1) fun t G2 => if t = true then .ok (park x) G2 else evE c b G2
  | .not a, G => resBind (evE c a G) fun x G1 => resBind (truR (park x) G1) fun t G2 => .ok (.d (.bl (!t))) G2
  | .ite t a b, G => resBind (evE c t G) fun x G1 => resBind (truR (park x) G1) fun t G2 => if t = true then evE c a G2 else evE c b G2
  | .tup l, G => resBind (evEs c l G) fun rs G1 => match fzAll c.nf G1 rs with
    | some (ds, G2) => if ds.length ≤ sizeLine then .ok (.d (.tup ds)) G2 else .st
    | none => .st
  | .lst l, G => resBind (evEs c l G) fun rs G1 => match fzAll c.nf G1 rs with
    | some (ds, G2) => if ds.length ≤ sizeLine then .ok (.ol ds) G2 else .st
    | none => .st
  | .ix a b, G => resBind (evE c a G) fun x G1 => resBind (evE c b G1) fun y G2 => match pk G2 (park x), pk G2 (park y) with
    | some d, some e => ofO ((ixF d e).map .d) G2
    | _, _ => .st
  | .sl a lo hi, G => resBind (evE c a G) fun x G1 => resBind (evEo c lo G1) fun l G2 => resBind (evEo c hi G2) fun h G3 => match pk G3 (park x) with
    | some d => ofO (slF d l h) G3
    | none => .st
  | .rev a, G => resBind (evE c a G) fun x G1 => match pk G1 (park x) with
    | some (.lst l) => .ok (.ol l.reverse) G1
    | _ => .st
  | .call f l, G => resBind (evEs c l G) fun rs G1 => callF c f rs G1
  | .callK f l p, G => resBind (evEs c l G) fun rs G1 => match permR rs p with
    | some qs => callF c f qs G1
    | none => .st
  | .mk cl f l, G => resBind (evEs c l G) fun rs G1 => mkF c cl f rs G1
  | .mkK cl f l p, G => resBind (evEs c l G) fun rs G1 => match permR rs p with
    | some qs => mkF c cl f qs G1
    | none => .st
  | .meth m o l, G => resBind (evE c o G) fun x G1 => match pk G1 (park x) with
    | some (.ins cl _) => match c.mt cl m with
      | some f => resBind (evEs c l G1) fun rs G2 => callF c f (park x :: rs) G2
      | none => .st
    | _ => .st
  | .methK m o l p, G => resBind (evE c o G) fun x G1 => match pk G1 (park x) with
    | some (.ins cl _) => match c.mt cl m with
      | some f => resBind (evEs c l G1) fun rs G2 => match permR rs p with
        | some qs => callF c f (park x :: qs) G2
        | none => .st
      | none => .st
    | _ => .st
  | .bd b m o, G => resBind (evE c o G) fun x G1 => match pk G1 (park x) with
    | some (.ins cl _) => match c.mt cl m with
      | some f => resBind (callF c f [park x] G1) fun r G2 => ofO (dunF b r) G2
      | none => .st
    | some d => ofO (biG b [d]) G1
    | none => .st
  | .xf cs o, G => resBind (evE c o G) fun x G1 => match pk G1 (park x) with
    | some (.exc cl [d]) => if cs.contains cl = true then .ok (.d d) G1 else .st
    | _ => .st
  | .bi b l, G => resBind (evEs c l G) fun rs G1 => match pkAll G1 rs with
    | some ds => ofO (biG b ds) G1
    | none => .st
  | .lm m o l, G => resBind (evE c o G) fun x G1 => match x with
    | .al i => match G1[i]? with
      | some (.ol _) => resBind (evEs c l G1) fun rs G2 => match fzAll c.nf G2 rs with
        | some (ds, G3) => match G3[i]? with
          | some (.ol xs) => match lmF m xs ds with
            | some (d, ys) => .ok (.d d) (G3.set i (.ol ys))
            | none => .st
          | _ => .st
        | none => .st
      | _ => .st
    | _ => .st
  | .fld cl j o, G => resBind (evE c o G) fun x G1 => match pk G1 (park x) with
    | some (.ins cl' l) => if cl' = cl then ofO ((l[j]?).map .d) G1 else .st
    | _ => .st
  | .lc own t i cd e, G => resBind (evIt c i G) fun ds G1 => if plainA G1 own = true then
      resBind (lcLoop (fun d G2 => match tgF false t d G2 with
        | some G3 => resBind (evC c cd G3) fun ok G4 => if ok = true then resBind (evE c e G4) fun x G5 => match fzR c.nf G5 x with
            | some (y, G6) => .ok (some y) (wipeG G6 own)
            | none => .st
          else .ok none (wipeG G4 own)
        | none => .st) ds [] (wipeG G1 own)) fun acc G2 => .ok (.ol acc) (backG G1 G2 own)
      else .st
  | .lcx own t i cd e, G => resBind (evIt c i G) fun ds G1 => if plainA G1 own = true then
      lcxEnd G1 own (lcLoopX (fun d G2 => match tgF false t d G2 with
        | some G3 => match evC c cd G3 with
          | .ok ok G4 => if ok = true then (match evE c e G4 with
              | .ok x G5 => match fzR c.nf G5 x with
                | some (y, G6) => .ok (some y) (wipeG G6 own)
                | none => .st
              | .ex x G5 => .ex x (wipeG G5 own)
              | .st => .st) else .ok none (wipeG G4 own)
          | _ => .st
        | none => .st) ds [] (wipeG G1 own))
      else .st
  | .scl i, G => match G[i]? with
    | some (.sc l) => .ok (.d (.int l.length)) G
    | _ => .st
  | .sci i a, G => match G[i]? with
    | some (.sc _) => resBind (evE c a G) fun x G1 => match G1[i]? with
      | some (.sc l) => match pk G1 (park x) with
        | some (.int k) => ofO ((atI l k).map .d) G1
        | _ => .st
      | _ => .st
    | _ => .st
  | .lent i e, G => match G[i]? with
    | some (.ol l) => lentR i l (G.set i (.bw l)) (evE c e (G.set i (.bw l)))
    | _ => evE c e G
  | .bad, _ => .st
def evEs (c : Cf) : Es → List Sl → Res (List R)
  | .nil, G => .ok [] G
  | .cons e l, G => resBind (evE c e G) fun x G1 => resBind (evEs c l G1) fun rs G2 => .ok (park x :: rs) G2
/-- .. not frozen -/
def evEl (c : Cf) : Es → List Sl → Res (List R)
  | .nil, G => .ok [] G
  | .cons e l, G => resBind (evE c e G) fun x G1 => match x with
    | .al _ => .st
    | x => resBind (evEl c l G1) fun rs G2 => .ok (x :: rs) G2
def evEo (c : Cf) : Eo → List Sl → Res (Option Int)
  | .no, G => .ok none G
  | .so e, G => resBind (evE c e G) fun x G1 => intR (park x) G1
/-- a comprehension's test -/
def evC (c : Cf) : Eo → List Sl → Res Bool
  | .no, G => .ok true G
  | .so e, G => resBind (evE c e G) fun x G1 => truR (park x) G1
def evIt (c : Cf) : It → List Sl → Res (List D)
  | .e a, G => resBind (evE c a G) fun x G1 => match itL G1 x with
    | some (ds, G2) => .ok ds G2
    | none => ofO (itT x) G1
  | .rg1 l, G => resBind (evEs c l G) fun rs G1 => match pkAll G1 rs with
    | some [.int n] => if -(2 ^ 62) ≤ n ∧ n < 2 ^ 62 then .ok (rgD 0 n.toNat) G1 else .st
    | _ => .st
  | .rg2 l, G => resBind (evEs c l G) fun rs G2 => match pkAll G2 rs with
    | some [.int m, .int n] => if -(2 ^ 62) ≤ m ∧ m < 2 ^ 62 ∧ -(2 ^ 62) ≤ n ∧ n < 2 ^ 62 then .ok (rgD m (n - m).toNat) G2 else .st
    | _ => .st
  | .en l, G => resBind (evEs c l G) fun rs G1 => match rs with
    | [x] => match itL G1 (park x) with
      | some (ds, G2) => .ok (numbered 0 ds) G2
      | none => .st
    | _ => .st
  | .zp l, G => resBind (evEs c l G) fun rs G2 => match rs with
    | [x, y] => match itL G2 (park x) with
      | some (l, G3) => match itL G3 (park y) with
        | some (m, G4) => .ok (paired l m) G4
        | none => .st
      | none => .st
    | _ => .st
end

/-- a while, at most w turns -/
def whlF (t : List Sl → Res Bool) (b : List Sl → Out) : Nat → List Sl → Out
  | 0, _ => .st
  | w + 1, G => match t G with
    | .ok true G1 => match b G1 with
      | .nx G2 => whlF t b w G2
      | .ct G2 => whlF t b w G2
      | .bk G2 => .nx G2
      | o => o
    | .ok false G1 => .nx G1
    | .ex x G1 => .ex x G1
    | .st => .st
def forF (b : D → List Sl → Out) : List D → List Sl → Out
  | [], G => .nx G
  | d :: ds, G => match b d G with
    | .nx G1 => forF b ds G1
    | .ct G1 => forF b ds G1
    | .bk G1 => .nx G1
    | o => o
/-- new lists, one after another, as slot i's own -/
def asgL (pr : Bool) (i : Nat) (r : R) (G : List Sl) : Option (List Sl) := match r with
  | .ol l => setS pr G i (.ol l)
  | .d d => setS pr G i (.fz d)
  | .al _ => none
def forL (a : R → List Sl → Option (List Sl)) (b : List Sl → Out) : List R → List Sl → Out
  | [], G => .nx G
  | r :: rs, G => match a r G with
    | some G1 => match b G1 with
      | .nx G2 => forL a b rs G2
      | .ct G2 => forL a b rs G2
      | .bk G2 => .nx G2
      | o => o
    | none => .st
def Out.map (f : List Sl → List Sl) : Out → Out
  | .nx G => .nx (f G)
  | .rt r G => .rt r (f G)
  | .bk G => .bk (f G)
  | .ct G => .ct (f G)
  | .ex x G => .ex x (f G)
  | .st => .st
def outR {α : Type} (r : Res α) (f : α → List Sl → Out) : Out := match r with
  | .ok a G => f a G
  | .ex x G => .ex x G
  | .st => .st
def outO (o : Option (List Sl)) : Out := match o with
  | some G => .nx G
  | none => .st
def evT (c : Cf) (e : E) (G : List Sl) : Res Bool := resBind (evE c e G) fun x G1 => truR (park x) G1

/-- what the clauses of a try make of an exception -/
def hdF (pr : Bool) : List Hd → Ex → List Sl → Out
  | [], x, G => .ex x G
  | h :: hs, x, G => if h.cs.contains x.c = true then (match h.act with
      | .keep i j => if i = j then .st else match setS pr G i .no with
        | some G1 => outO (setS pr G1 j (.fz (.exc x.c x.f.toList)))
        | none => .st
      | .put j d => if d.flat.isSome = true then outO (setS pr G j (.fz d)) else .st
      | .rais c' => .ex ⟨c', none⟩ G)
    else hdF pr hs x G
mutual
def evS (c : Cf) : S → List Sl → Out
  | .asg t e, G => outR (evE c e G) fun x G1 => outO (asgF c.nf c.pr t x G1)
  | .par i j a b, G => outR (evEs c (.cons a (.cons b .nil)) G) fun rs G2 => match fzAll c.nf G2 rs with
    | some ([d, e], G3) => match setS c.pr G3 i (.fz d) with
      | some G4 => outO (setS c.pr G4 j (.fz e))
      | none => .st
    | _ => .st
  | .aug i o e, G => match G[i]? with
    | some (.fz d) => outR (evE c e G) fun y G1 => match pk G1 (park y) with
      | some d2 => match bop o d d2 with
        | some (.d r) => outO (setS c.pr G1 i (.fz r))
        | _ => .st
      | none => .st
    | some (.ol l) => outR (evE c e G) fun y G1 => match o, pk G1 (park y), G1[i]? with
      | .add, some (.lst m), some (.ol l2) => if l2.length + m.length ≤ sizeLine then .nx (G1.set i (.ol (l2 ++ m))) else .st
      | _, _, _ => .st
    | _ => .st
  | .ex e, G => outR (evE c e G) fun _ G1 => .nx G1
  | .ret e, G => outR (evE c e G) fun x G1 => .rt x G1
  | .retN, G => .rt (.d .non) G
  | .iff t a b, G => outR (evT c t G) fun k G1 => if k = true then evSs c a G1 else evSs c b G1
  | .whl t b, G => whlF (evT c t) (evSs c b) c.w G
  | .for t i b, G => outR (evIt c i G) fun ds G1 => forF (fun d G2 => match tgF c.pr t d G2 with
      | some G3 => evSs c b G3
      | none => .st) ds G1
  | .forL i l b, G => outR (evEl c l G) fun rs G1 => if rs.length ≤ sizeLine then forL (asgL c.pr i) (evSs c b) rs G1 else .st
  | .rs cl l, G => outR (evEs c l G) fun _ G1 => .ex ⟨cl, none⟩ G1
  | .rsf cl e, G => outR (evE c e G) fun x G1 => match fzR c.nf G1 x with
    | some (d, G2) => .ex ⟨cl, some d⟩ G2
    | none => .st
  | .tr b hs, G => match evSs c b G with
    | .ex x G1 => hdF c.pr hs x G1
    | o => o
  | .fld i cl j e, G => outR (evE c e G) fun x G1 => match fzR c.nf G1 x with
    | some (d, G2) => match G2[i]? with
      | some (.oi cl' l) => if cl' = cl ∧ j = l.length ∧ j < c.nf cl then .nx (G2.set i (.oi cl (l ++ [d])))
          else if cl' = cl ∧ j < l.length then .nx (G2.set i (.oi cl (l.set j d))) else .st
      | _ => .st
    | none => .st
  | .six i a e, G => outR (evE c e G) fun x G1 => match fzR c.nf G1 x with
    | some (d, G2) => match G2[i]? with
      | some (.ol _) => outR (evE c a G2) fun y G3 => match G3[i]? with
        | some (.ol l) => match pk G3 (park y) with
          | some (.int k) => match L2.ixN l.length k with
            | some j => .nx (G3.set i (.ol (l.set j d)))
            | none => .st
          | _ => .st
        | _ => .st
      | _ => .st
    | none => .st
  | .pass, G => .nx G
  | .brk, G => .bk G
  | .cnt, G => .ct G
  | .bad, _ => .st
def evSs (c : Cf) : Ss → List Sl → Out
  | .nil, G => .nx G
  | .cons s l, G => match evS c s G with
    | .nx G1 => evSs c l G1
    | o => o
end

/-- what a def hands back -/
def fin0 (pr : Bool) (G : List Sl) : Sl := if pr = true then G.getD 0 .no else .no
def retF (pr : Bool) : Out → Cres
  | .nx G => .ok (.d .non) (fin0 pr G)
  | .rt r G => match r with
    | .d d => .ok (.d d) (fin0 pr G)
    | .ol l => .ok (.ol l) (fin0 pr G)
    | .al i => match G[i]? with
      | some (.ol l) => if (pr && i == 0) = true then .st else .ok (.ol l) (fin0 pr G)
      | some (.fz d) => .ok (.d d) (fin0 pr G)
      | _ => .st
  | .ex x G => .ex x (fin0 pr G)
  | _ => .st
/-- a def of the text -/
structure Df where
  n : Nat
  pm : List Pm
  body : Ss
  self : Bool
def Df.pr (d : Df) : Bool := d.self || match d.pm with
  | .m :: _ => true
  | _ => false
/-- a law's text -/
structure Pg where
  defs : List Df
  nf : Nat → Nat
  mt : Nat → Nat → Option Nat
  w : Nat
def run (P : Pg) : Nat → Nat → List Sl → Cres
  | 0, _, _ => .st
  | k + 1, f, ss => match P.defs[f]? with
    | some d => retF d.pr (evSs ⟨run P k, fun g => (P.defs.map Df.pm).getD g [], P.nf, P.mt, P.w, d.pr⟩ d.body (ss ++ List.replicate (d.n - ss.length) .no))
    | none => .st
end Mp

/-! Mp3: from what the small language gives to the readings of the hand layer. -/
namespace Mp
open PySem L2

/-- how an exception lies -/
def ExR (T : Tx) (x : Ex) (cls : Value) (d : Option Addr) (F H : Hp) : Prop :=
  cls = .ref (T.ea x.c) ∧ x.c < T.ne ∧ ((d = none ∧ x.f = none) ∨ ∃ a v y, d = some a ∧ x.f = some y ∧ F a = some (.xd [(T.en x.c, v)]) ∧ Rep T F v y)

section
variable {T : Tx} {W : WX} {σ : St} {F F1 F2 H H1 H2 : Hp} {A A1 A2 : Ad} {α β : Type} {G G1 : List Sl} {v : V} {r : R}
/-- what a run's end asks -/
def Mt (T : Tx) (W : WX) (σ : St) (F H : Hp) (A : Ad) (r : Res α) (P : α → List Sl → Hp → Hp → Ad → Prop) : Prop := match r with
  | .ok a G' => ∀ F' H' A', Rel T F' H' σ G' A' → Step F H A F' H' A' → P a G' F' H' A'
  | .ex x G' => ∀ F' H' A' cls d, Rel T F' H' σ G' A' → Step F H A F' H' A' → ExR T x cls d F' H' → W cls d σ H'
  | .st => False
variable {P P' : α → List Sl → Hp → Hp → Ad → Prop} {Q : β → List Sl → Hp → Hp → Ad → Prop}
theorem Mt.start {r : Res α} (m : Mt T W σ F H A r P) (s : Step F H A F1 H1 A1) : Mt T W σ F1 H1 A1 r P := by
  cases r with
  | ok a G' => exact fun F' H' A' rel st => m F' H' A' rel (s.trans st)
  | ex x G' => exact fun F' H' A' cls d rel st e => m F' H' A' cls d rel (s.trans st) e
  | st => exact m
theorem Mt.bind {r : Res α} {k : α → List Sl → Res β} (m : Mt T W σ F H A (resBind r k) Q) : Mt T W σ F H A r (fun a G1 _ _ _ => Mt T W σ F H A (k a G1) Q) := by
  cases r with
  | ok a G' => exact fun _ _ _ _ _ => m
  | ex x G' => exact m
  | st => exact m
theorem Mt.imp {r : Res α} (m : Mt T W σ F H A r P) (h : ∀ a G' F' H' A', Rel T F' H' σ G' A' → Step F H A F' H' A' → P a G' F' H' A' → P' a G' F' H' A') : Mt T W σ F H A r P' := by
  cases r with
  | ok a G' => exact fun F' H' A' rel st => h a G' F' H' A' rel st (m F' H' A' rel st)
  | ex x G' => exact m
  | st => exact m
theorem Mt.okE {o : Option α} {G' : List Sl} (m : Mt T W σ F H A (ofO o G') P) : ∃ a, o = some a ∧ ∀ F' H' A', Rel T F' H' σ G' A' → Step F H A F' H' A' → P a G' F' H' A' := by
  cases o with
  | none => exact m.elim
  | some a => exact ⟨a, rfl, m⟩

/-- a new list is new since then -/
def Nw (H : Hp) (A : Ad) (v : V) (r : R) : Prop := ∀ ds l, r = .ol ds → v = .ref l → H l = none ∨ ∃ i, A i = some l
theorem Nw.back (n : Nw H1 A1 v r) (s : Step F H A F1 H1 A1) : Nw H A v r := fun ds l e1 e2 => by
  rcases n ds l e1 e2 with q | ⟨i, q⟩
  · exact .inl (s.k l q)
  · rcases s.o i l q with ⟨j, z⟩ | z
    · exact .inr ⟨j, z⟩
    · exact .inl z
theorem Nw.d {d : D} : Nw H A v (.d d) := fun _ _ e => nomatch e
theorem Nw.al {i : Nat} : Nw H A v (.al i) := fun _ _ e => nomatch e

/-- what an expression's reading is -/
def rdE (c : Cf) (T : Tx) (W : WX) (e : E) : TE := fun σ H Q => ∃ F G A, Rel T F H σ G A ∧ Mt T W σ F H A (evE c e G) fun r _ F' H' A' => ∀ v, RepR T F' H' σ A' v r → Nw H A v r → Q v H'

/-! ### growth of the frozen heap -/
theorem Rel.grow (R0 : Rel T F H σ G A) (e : Le F F1) (s : Le F1 H) (n : ∀ i a, A i = some a → F1 a = none) : Rel T F1 H σ G A where
  sub := s
  len := R0.len
  sl := fun i x h => by
    have q := R0.sl i x h
    clear h
    revert q
    generalize A i = ai
    generalize σ[i]? = vi
    intro q
    cases q with
    | no => exact .no
    | fz h => exact .fz (h.mono e)
    | ol h r => exact .ol h (r.mono e)
    | bw h r n => exact .bw h (r.mono e) n
    | oi h n m r => exact .oi h n m (r.mono e)
    | sc h r => exact .sc h (r.mono e)
  out := R0.out
  fr := n
  inj := R0.inj
  bs := R0.bs

/-- a new list of nobody's becomes frozen -/
theorem park_ok (R1 : Rel T F1 H1 σ G1 A1) (s : Step F H A F1 H1 A1) (rp : RepR T F1 H1 σ A1 v r) (nw : Nw H A v r) :
    ∃ F2, Rel T F2 H1 σ G1 A1 ∧ Step F H A F2 H1 A1 ∧ Le F1 F2 ∧ RepR T F2 H1 σ A1 v (park r) := by
  cases rp with
  | d h => exact ⟨F1, R1, s, Le.refl _, .d h⟩
  | al h => exact ⟨F1, R1, s, Le.refl _, .al h⟩
  | ol h e f n =>
    rename_i l xs ds
    have le : Le F1 (upd F1 l (.lst xs)) := fun a o q => by
      rw [upd_ne (ne_of_none q f)]
      exact q
    have sub : Le (upd F1 l (.lst xs)) H1 := fun a o q => by
      by_cases hal : a = l
      · subst hal
        rw [upd_same] at q
        cases q
        exact h
      · rw [upd_ne hal] at q
        exact R1.sub _ _ q
    refine ⟨upd F1 l (.lst xs), R1.grow le sub fun i a q => ?_, ⟨s.f.trans le, s.h, fun a q => ?_, s.o, s.k, s.b⟩, le, .d (Rep.mk_lst upd_same (e.mono le))⟩
    · rw [upd_ne (fun z => n i (by rw [← z]; exact q))]
      exact R1.fr i a q
    · by_cases hal : a = l
      · subst hal
        rcases nw ds a rfl rfl with z | z
        · exact .inr (.inr z)
        · exact .inr (.inl z)
      · rw [upd_ne hal] at q
        exact s.n a q

/-- the reading of an expression that stands before others: its value parked -/
theorem rd_of {c : Cf} {e : E} {Q1 : VK} {k : R → List Sl → Res β} (R0 : Rel T F H σ G A) (m : Mt T W σ F H A (resBind (evE c e G) k) Q)
    (h : ∀ x G1 F1 H1 A1 v, Rel T F1 H1 σ G1 A1 → Step F H A F1 H1 A1 → RepR T F1 H1 σ A1 v (park x) → Mt T W σ F1 H1 A1 (k x G1) Q → Q1 v H1) : rdE c T W e σ H Q1 := by
  refine ⟨F, G, A, R0, m.bind.imp fun x G1 F1 H1 A1 R1 s1 m1 v rp nw => ?_⟩
  obtain ⟨F2, R2, s2, _, rp2⟩ := park_ok R1 s1 rp nw
  exact h x G1 F2 H1 A1 v R2 s2 rp2 (m1.start s2)
/-- .. not parked -/
theorem rd_raw {c : Cf} {e : E} {Q1 : VK} {k : R → List Sl → Res β} (R0 : Rel T F H σ G A) (m : Mt T W σ F H A (resBind (evE c e G) k) Q)
    (h : ∀ x G1 F1 H1 A1 v, Rel T F1 H1 σ G1 A1 → Step F H A F1 H1 A1 → RepR T F1 H1 σ A1 v x → Nw H A v x → Mt T W σ F H A (k x G1) Q → Q1 v H1) : rdE c T W e σ H Q1 :=
  ⟨F, G, A, R0, m.bind.imp fun x G1 F1 H1 A1 R1 s1 m1 v rp nw => h x G1 F1 H1 A1 v R1 s1 rp nw m1⟩

/-! ### what is read -/
inductive Vw (T : Tx) (F H : Hp) : V → D → Prop where
  | rep {v d} (h : Rep T F v d) : Vw T F H v d
  | lst {l xs ds} (h : H l = some (.lst xs)) (e : Reps T F xs ds) : Vw T F H (.ref l) (.lst ds)
  | ins {a dx c fs ds} (h : H a = some (.ins (T.ci c).addr dx fs)) (n : fs.map (·.1) = (T.ci c).flds.take ds.length) (m : ds.length ≤ (T.ci c).flds.length ∧ c < T.nc) (e : Reps T F (fs.map (·.2)) ds) : Vw T F H (.ref a) (.ins c ds)
theorem Rel.view {d : D} (R0 : Rel T F H σ G A) (rp : RepR T F H σ A v r) (e : pk G r = some d) : Vw T F H v d := by
  cases rp with
  | d h => cases e; exact .rep h
  | ol h r f n => cases e; exact .lst h r
  | al h =>
    rename_i i
    dsimp only [pk] at e
    cases hg : G[i]? with
    | none => simp [hg] at e
    | some s =>
      have q := R0.sl i s hg
      rw [h] at q
      rw [hg] at e
      clear hg h
      revert q
      generalize A i = ai
      intro q
      cases q with
      | no => simp at e
      | fz h => simp at e; subst e; exact .rep h
      | ol h r => simp at e; subst e; exact .lst h r
      | bw h r n => simp at e; subst e; exact .lst h r
      | oi h n m r => simp at e; subst e; exact .ins h n m r
      | sc h r => simp at e
theorem Vw.lstE {ds : List D} (h : Vw T F H v (.lst ds)) (s : Le F H) : ∃ l xs, v = .ref l ∧ H l = some (.lst xs) ∧ Reps T F xs ds := by
  cases h with
  | rep h => obtain ⟨a, xs, rfl, h, e⟩ := h.lstE; exact ⟨a, xs, rfl, s _ _ h, e⟩
  | lst h e => exact ⟨_, _, rfl, h, e⟩
theorem Vw.tupE {ds : List D} (h : Vw T F H v (.tup ds)) (s : Le F H) : ∃ l xs, v = .ref l ∧ SqT T.K H l xs ∧ Reps T F xs ds := by
  cases h with
  | rep h => obtain ⟨a, xs, rfl, h, e⟩ := h.tupE; exact ⟨a, xs, rfl, sqT_le s h, e⟩
theorem Vw.flatE {d : D} {x : V} (h : Vw T F H v d) (e : d.flat = some x) : v = x := by
  cases h with
  | rep h => exact h.flatE e
  | lst => simp [D.flat] at e
  | ins => simp [D.flat] at e
theorem Vw.insE {c : Nat} {ds : List D} (h : Vw T F H v (.ins c ds)) (s : Le F H) : ∃ a dx fs, v = .ref a ∧ H a = some (.ins (T.ci c).addr dx fs) ∧ fs.map (·.1) = (T.ci c).flds.take ds.length ∧ (ds.length ≤ (T.ci c).flds.length ∧ c < T.nc) ∧ Reps T F (fs.map (·.2)) ds := by
  cases h with
  | rep h =>
    obtain ⟨a, dx, fs, rfl, h, n, k, e⟩ := h.insE
    have hl := e.length
    have hn := congrArg List.length n
    rw [List.length_map] at hl hn
    exact ⟨a, dx, fs, rfl, s _ _ h, by rw [n, ← hl, hn, List.take_length], ⟨by omega, k⟩, e⟩
  | ins h n m e => exact ⟨_, _, _, rfl, h, n, m, e⟩
theorem Vw.excE {c : Nat} {ds : List D} (h : Vw T F H v (.exc c ds)) : Rep T F v (.exc c ds) := by
  cases h with
  | rep h => exact h
theorem Vw.intE {i : Int} (h : Vw T F H v (.int i)) : v = .int i := h.flatE rfl
theorem Vw.blE {b : Bool} (h : Vw T F H v (.bl b)) : v = .bl b := h.flatE rfl
theorem Vw.strE {s : Str} (h : Vw T F H v (.str s)) : v = .str s := h.flatE rfl
theorem Vw.nonE (h : Vw T F H v .non) : v = .non := h.flatE rfl
end

/-! ### rules: a weaker reading -/
theorem pe_imp {X : Cx} {e : Expr} {t t' : TE} (h : PE X e t) (i : ∀ σ H Q, t' σ H Q → t σ H Q) : PE X e t' := ⟨fun pins s σ H Q I hq => h.run pins s σ H Q I (i σ H Q hq)⟩
theorem pt_imp {X : Cx} {e : Expr} {t t' : TT} (h : PT X e t) (i : ∀ σ H Q, t' σ H Q → t σ H Q) : PT X e t' := ⟨fun pins s σ H Q I hq => h.run pins s σ H Q I (i σ H Q hq)⟩
theorem ps_imp {X : Cx} {e : Stmt} {t t' : TS} (h : PS X e t) (i : ∀ D σ H, t' D σ H → t D σ H) : PS X e t' := ⟨fun pins s σ H D I hq => h.run pins s σ H D I (i D σ H hq)⟩
theorem pss_imp {X : Cx} {e : List Stmt} {t t' : TS} (h : PSs X e t) (i : ∀ D σ H, t' D σ H → t D σ H) : PSs X e t' := ⟨fun pins s σ H D I hq => h.run pins s σ H D I (i D σ H hq)⟩

/-- the judgements -/
abbrev DE (X : Cx) (c : Cf) (T : Tx) (W : WX) (x : Expr) (e : E) : Prop := PE X x (rdE c T W e)

section
variable {X : Cx} {c : Cf} {T : Tx} {W : WX}
/-! ### names, constants -/
theorem de_v {i : Nat} {x : Str} {pos : Pos} (hN : X.N[i]? = some x := by rfl) (hv : Vis X.env.scope x := by first | exact Or.inl rfl | exact Or.inr (Or.inl rfl) | exact Or.inr (Or.inr rfl)) (hd : (x == ("__debug__" : Str)) = false := by decide)
    (hcd : (x == ("__classdict__" : Str)) = false := by decide) : DE X c T W (.Name x pos) (.v i) := by
  refine pe_imp (pe_var (i := i) hN hv hd hcd) fun σ H Q ⟨F, G, A, R0, m⟩ => ?_
  unfold evE at m
  cases hg : G[i]? with
  | none => simp [hg, Mt] at m
  | some s =>
    have q := R0.sl i s hg
    rw [hg] at m
    revert q
    generalize hv : σ[i]? = vi
    generalize A i = ai
    intro q
    cases q with
    | no => simp [Mt] at m
    | fz h => exact ⟨_, hv, m F H A R0 Step.refl _ (.d h) Nw.d⟩
    | ol h r => exact ⟨_, hv, m F H A R0 Step.refl _ (.al hv) Nw.al⟩
    | bw h r n => exact ⟨_, hv, m F H A R0 Step.refl _ (.al hv) Nw.al⟩
    | oi h n k r => exact ⟨_, hv, m F H A R0 Step.refl _ (.al hv) Nw.al⟩
    | sc h r => exact ⟨_, hv, m F H A R0 Step.refl _ (.al hv) Nw.al⟩
theorem de_k {x : Expr} {d : D} {v : V} (h : PE X x (tC v)) (e : d.flat = some v := by rfl) : DE X c T W x (.k d) :=
  pe_imp h fun σ H Q ⟨F, G, A, R0, m⟩ => m F H A R0 Step.refl v (.d (Rep.of_flat e)) Nw.d
/-- a constant of the module that is data -/
theorem de_g {x : Str} {pos : Pos} {d : D} {a : Addr} (hg : Gl X x) (hm : X.mg x = some (.ref a)) (r : ∀ F, Rep T F (.ref a) d) (hd : (x == ("__debug__" : Str)) = false := by decide) : DE X c T W (.Name x pos) (.k d) :=
  pe_imp (pe_glob (v := .ref a) hg hm rfl hd) fun σ H Q ⟨F, G, A, R0, m⟩ => m F H A R0 Step.refl _ (.d (r F)) Nw.d
end
end Mp

/-! Mp4: operators, comparisons, truth, built-ins. -/
namespace Mp
open PySem L2

/-- what an operation hands back -/
inductive NewR (T : Tx) (F H : Hp) : V → Hp → R → Prop where
  | same {v d} (h : Rep T F v d) : NewR T F H v H (.d d)
  | lst {p xs ds} (n : H p = none) (e : Reps T F xs ds) : NewR T F H (.ref p) (upd H p (.lst xs)) (.ol ds)
  | tup {p xs ds} (n : H p = none) (e : Reps T F xs ds) : NewR T F H (.ref p) (upd H p (.tup xs)) (.d (.tup ds))
section
variable {T : Tx} {W : WX} {σ : St} {F F1 F2 H H1 H2 H' : Hp} {A A1 A2 : Ad} {α β : Type} {G G1 : List Sl} {v : V} {r : R}
theorem own_in {ai : Option Addr} {vi : Option (Option V)} {s : Sl} (q : RepS T F H A ai vi s) {a : Addr} (e : ai = some a) : H a ≠ none := by
  cases q with
  | no => cases e
  | fz h => cases e
  | ol h r => cases e; rw [h]; exact fun z => nomatch z
  | bw h r n => cases e
  | oi h n m r => cases e; rw [h]; exact fun z => nomatch z
  | sc h r => cases e
theorem Rel.own (R0 : Rel T F H σ G A) {i : Nat} {a : Addr} (e : A i = some a) : H a ≠ none := by
  by_cases hi : i < G.length
  · exact own_in (R0.sl i G[i] (by simp [hi])) e
  · rw [R0.out i (by omega)] at e
    cases e
theorem RepS.le {ai : Option Addr} {vi : Option (Option V)} {s : Sl} (q : RepS T F H A ai vi s) (hF : Le F F1) (hH : ∀ a o, H a = some o → H1 a = some o) : RepS T F1 H1 A ai vi s := by
  cases q with
  | no => exact .no
  | fz h => exact .fz (h.mono hF)
  | ol h r => exact .ol (hH _ _ h) (r.mono hF)
  | bw h r n => exact .bw (hH _ _ h) (r.mono hF) n
  | oi h n m r => exact .oi (hH _ _ h) n m (r.mono hF)
  | sc h r => exact .sc (h.elim (fun z => .inl ⟨rd_le hH z.1, z.2⟩) .inr) (r.mono hF)
theorem le_upd {p : Addr} {o : HO} (n : H p = none) : Le H (upd H p o) := fun a u q => by
  rw [upd_ne (ne_of_none q n)]
  exact q
theorem none_le (s : Le F H) {p : Addr} (n : H p = none) : F p = none := by
  cases q : F p with
  | none => rfl
  | some o => rw [s p o q] at n; cases n
theorem Rel.nown (R0 : Rel T F H σ G A) {p : Addr} (n : H p = none) (i : Nat) : A i ≠ some p := fun e => R0.own e n
theorem le_ne {H H1 : Hp} (s : Le H H1) {p : Addr} (n : H p ≠ none) : H1 p ≠ none := fun z => n (none_le s z)
/-- something new is laid, not frozen -/
theorem Rel.laid {p : Addr} {o : HO} (R0 : Rel T F H σ G A) (n : H p = none) : Rel T F (upd H p o) σ G A ∧ Step F H A F (upd H p o) A := by
  refine ⟨⟨R0.sub.trans (le_upd n), R0.len, fun i s h => (R0.sl i s h).le (Le.refl _) (le_upd n), R0.out, R0.fr, R0.inj, fun l h => ⟨le_ne (le_upd n) (R0.bs l h).1, (R0.bs l h).2⟩⟩,
    ⟨Le.refl _, fun a u h _ => le_upd n a u h, fun a h => .inl h, fun i a h => .inl ⟨i, h⟩, fun a h => ?_, rfl⟩⟩
  by_cases e : a = p
  · rw [e]; exact n
  · rw [upd_ne e] at h; exact h
/-- .. and frozen -/
theorem Rel.laidF {p : Addr} {o : HO} (R0 : Rel T F H σ G A) (n : H p = none) : Rel T (upd F p o) (upd H p o) σ G A ∧ Step F H A (upd F p o) (upd H p o) A := by
  have nf := none_le R0.sub n
  refine ⟨⟨fun a u h => ?_, R0.len, fun i s h => (R0.sl i s h).le (le_upd nf) (le_upd n), R0.out, fun i a h => ?_, R0.inj, fun l h => ⟨le_ne (le_upd n) (R0.bs l h).1, (R0.bs l h).2⟩⟩,
    ⟨le_upd nf, fun a u h _ => le_upd n a u h, fun a h => ?_, fun i a h => .inl ⟨i, h⟩, fun a h => ?_, rfl⟩⟩
  · by_cases e : a = p
    · subst e; rw [upd_same] at h ⊢; exact h
    · rw [upd_ne e] at h ⊢; exact R0.sub a u h
  · rw [upd_ne (fun e => R0.nown n i (by rw [← e]; exact h))]
    exact R0.fr i a h
  · by_cases e : a = p
    · subst e; exact .inr (.inr n)
    · rw [upd_ne e] at h; exact .inl h
  · by_cases e : a = p
    · rw [e]; exact n
    · rw [upd_ne e] at h; exact h
theorem NewR.fin (R0 : Rel T F H σ G A) (n : NewR T F H v H' r) : ∃ F', Rel T F' H' σ G A ∧ Step F H A F' H' A ∧ RepR T F' H' σ A v r ∧ Nw H A v r := by
  cases n with
  | same h => exact ⟨F, R0, Step.refl, .d h, Nw.d⟩
  | lst n e =>
    obtain ⟨R1, s1⟩ := R0.laid (o := .lst _) n
    exact ⟨F, R1, s1, .ol upd_same e (none_le R0.sub n) (R0.nown n), fun ds l _ e2 => by cases e2; exact .inl n⟩
  | tup n e =>
    obtain ⟨R1, s1⟩ := R0.laidF (o := .tup _) n
    exact ⟨_, R1, s1, .d (Rep.mk_tup (SqT.of upd_same) (e.mono (le_upd (none_le R0.sub n)))), Nw.d⟩
def OpRes (T : Tx) (F H : Hp) (r : R) (Q : VK) : Prop := ∀ v H', NewR T F H v H' r → Q v H'
/-- the end of an operation -/
theorem op_end {F0 H0 : Hp} {A0 : Ad} {Q : VK} {o : Option R} (R1 : Rel T F1 H1 σ G1 A1) (s1 : Step F0 H0 A0 F1 H1 A1)
    (m : Mt T W σ F1 H1 A1 (ofO o G1) fun r _ F' H' A' => ∀ v, RepR T F' H' σ A' v r → Nw H0 A0 v r → Q v H') : ∃ r, o = some r ∧ OpRes T F1 H1 r Q := by
  cases o with
  | none => exact m.elim
  | some r =>
    refine ⟨r, rfl, fun v H' n => ?_⟩
    obtain ⟨F', R', s', rp, nw⟩ := n.fin R1
    exact m F' H' A1 R' s' v rp (nw.back s1)
theorem OpRes.flat {d : D} {x : V} {Q : VK} (h : OpRes T F H (.d d) Q) (e : d.flat = some x := by rfl) : Q x H := h _ _ (.same (Rep.of_flat e))
end

def opOf : Op2 → Operator
  | .add => .Add | .sub => .Sub | .mul => .Mult | .fdiv => .FloorDiv | .mod => .Mod | .pow => .Pow | .shl => .LShift | .shr => .RShift | .band => .BitAnd
section
variable {X : Cx} {c : Cf} {T : Tx} {W : WX}
theorem opr_or {f : Value → Value → Sem Value} {r r' : R2} (h : OpR X f r) (h' : OpR X f r') : OpR X f (fun x y H Q => r x y H Q ∨ r' x y H Q) := fun pins s σ H x y v u Q I rx ry q => q.elim (h pins s σ H x y v u Q I rx ry) (h' pins s σ H x y v u Q I rx ry)
theorem opr_imp {f : Value → Value → Sem Value} {r r' : R2} (h : OpR X f r) (i : ∀ x y H Q, r' x y H Q → r x y H Q) : OpR X f r' := fun pins s σ H x y v u Q I rx ry q => h pins s σ H x y v u Q I rx ry (i _ _ _ _ q)
theorem op_fdivG : OpR X (binaryOp .FloorDiv) (rI (fun _ j => j ≠ 0 ∧ j.natAbs.log2 < 9000) fun i j => .int (i.fdiv j)) := opI fun i j _ _ _ _ _ hc q =>
  PyProof.Rows.floordiv_int hc.1 q (.inl (PyProof.noPylong_of_log2 hc.2))
theorem op_powG : OpR X (binaryOp .Pow) (rI (fun i j => 0 ≤ j ∧ (Builtin.Int.intBits i : Int) * j ≤ 2 ^ 27) fun i j => .int (i ^ j.toNat)) := opI fun i j _ _ _ _ _ hc q => PyProof.Rows.pow_int hc.1 hc.2 q
def rB (T : Tx) (o : Op2) : R2 := fun x y H Q => ∃ F d e r, Le F H ∧ Vw T F H x d ∧ Vw T F H y e ∧ bop o d e = some r ∧ OpRes T F H r Q
theorem bop_ok (hK : X.K = T.K) : ∀ o, OpR X (binaryOp (opOf o)) (rB T o)
  | .add => opr_imp (opr_or op_add (opr_or op_add_str (opr_or op_cat op_catT))) fun x y H Q ⟨F, d, e, r, s, hx, hy, hb, q⟩ => by
    cases d <;> cases e <;> simp [bop] at hb
    case int.int i j =>
      subst hb
      rw [hx.intE, hy.intE]
      exact .inl ⟨_, _, rfl, rfl, q.flat⟩
    case str.str i j =>
      obtain ⟨h, rfl⟩ := hb
      rw [hx.strE, hy.strE]
      exact .inr (.inl ⟨_, _, rfl, rfl, h, q.flat⟩)
    case tup.tup l m =>
      obtain ⟨⟨h1, h2, h3⟩, rfl⟩ := hb
      obtain ⟨a, xs, rfl, ha, ea⟩ := hx.tupE s
      obtain ⟨b, ys, rfl, hb, eb⟩ := hy.tupE s
      have la := ea.length
      have lb := eb.length
      refine .inr (.inr (.inr ?_))
      rw [hK]
      refine ⟨_, _, _, _, rfl, rfl, ha, hb, ?_, by omega, ?_, ?_⟩
      · intro z; subst z; exact h1 (List.length_eq_zero_iff.mp (by simpa using la.symm))
      · intro z; subst z; exact absurd (List.length_eq_zero_iff.mp (by simpa using lb.symm)) h2
      · exact fun _ p hp => q _ _ (.tup hp (ea.append eb))
    case lst.lst l m =>
      obtain ⟨h, rfl⟩ := hb
      obtain ⟨a, xs, rfl, ha, ea⟩ := hx.lstE s
      obtain ⟨b, ys, rfl, hb, eb⟩ := hy.lstE s
      have la := ea.length
      have lb := eb.length
      exact .inr (.inr (.inl ⟨_, _, _, _, rfl, rfl, ha, hb, by omega, fun p hp => q _ _ (.lst hp (ea.append eb))⟩))
  | .sub => opr_imp op_sub fun x y H Q ⟨F, d, e, r, s, hx, hy, hb, q⟩ => by
    cases d <;> cases e <;> simp [bop] at hb
    subst hb
    rw [hx.intE, hy.intE]
    exact ⟨_, _, rfl, rfl, q.flat⟩
  | .mul => opr_imp (opr_or op_mulX op_rep) fun x y H Q ⟨F, d, e, r, s, hx, hy, hb, q⟩ => by
    cases d <;> cases e <;> simp [bop] at hb
    case int.int i j =>
      obtain ⟨h, rfl⟩ := hb
      rw [hx.intE, hy.intE]
      exact .inl ⟨_, _, rfl, rfl, h, q.flat⟩
    case lst.int l k =>
      obtain ⟨⟨h1, h2, h3⟩, rfl⟩ := hb
      obtain ⟨a, xs, rfl, ha, ea⟩ := hx.lstE s
      rw [hy.intE]
      have la := ea.length
      have rr : ∀ n : Nat, Reps T F (List.replicate n xs).flatten (List.replicate n l).flatten := fun n => by
        induction n with
        | zero => exact .nil
        | succ n ih => rw [List.replicate_succ, List.replicate_succ, List.flatten_cons, List.flatten_cons]; exact ea.append ih
      exact .inr ⟨_, _, _, rfl, rfl, ha, h1, h2, by rw [la]; exact h3, fun p hp => q _ _ (.lst hp (rr _))⟩
  | .fdiv => opr_imp op_fdivG fun x y H Q ⟨F, d, e, r, s, hx, hy, hb, q⟩ => by
    cases d <;> cases e <;> simp [bop] at hb
    obtain ⟨⟨h1, h2⟩, rfl⟩ := hb
    rw [hx.intE, hy.intE]
    exact ⟨_, _, rfl, rfl, ⟨h1, h2⟩, q.flat⟩
  | .mod => opr_imp op_modN fun x y H Q ⟨F, d, e, r, s, hx, hy, hb, q⟩ => by
    cases d <;> cases e <;> simp [bop] at hb
    obtain ⟨h1, rfl⟩ := hb
    rw [hx.intE, hy.intE]
    exact ⟨_, _, rfl, rfl, h1, q.flat⟩
  | .pow => opr_imp op_powG fun x y H Q ⟨F, d, e, r, s, hx, hy, hb, q⟩ => by
    cases d <;> cases e <;> simp [bop] at hb
    obtain ⟨h1, rfl⟩ := hb
    rw [hx.intE, hy.intE]
    exact ⟨_, _, rfl, rfl, ⟨h1.1, by simpa using h1.2⟩, q.flat⟩
  | .shl => opr_imp op_shl fun x y H Q ⟨F, d, e, r, s, hx, hy, hb, q⟩ => by
    cases d <;> cases e <;> simp [bop] at hb
    obtain ⟨⟨h1, h2, h3⟩, rfl⟩ := hb
    rw [hx.intE, hy.intE]
    exact ⟨_, _, rfl, rfl, ⟨h1, h2, h3⟩, q.flat⟩
  | .shr => opr_imp op_shr fun x y H Q ⟨F, d, e, r, s, hx, hy, hb, q⟩ => by
    cases d <;> cases e <;> simp [bop] at hb
    obtain ⟨h1, rfl⟩ := hb
    rw [hx.intE, hy.intE]
    exact ⟨_, _, rfl, rfl, h1, q.flat⟩
  | .band => opr_imp op_and fun x y H Q ⟨F, d, e, r, s, hx, hy, hb, q⟩ => by
    cases d <;> cases e <;> simp [bop] at hb
    subst hb
    rw [hx.intE, hy.intE]
    exact ⟨_, _, rfl, rfl, q.flat⟩
theorem de_op {a b : Expr} {x y : E} {pos : Pos} (hK : X.K = T.K) (o : Op2) (ha : DE X c T W a x) (hb : DE X c T W b y) : DE X c T W (.BinOp a (opOf o) b pos) (.op o x y) := by
  refine pe_imp (pe_op (bop_ok hK o) ha hb) fun σ H Q ⟨F, G, A, R0, m⟩ => ?_
  unfold evE at m
  refine rd_of R0 m fun x1 G1 F1 H1 A1 v1 R1 s1 p1 m1 => ?_
  refine rd_of R1 m1 fun x2 G2 F2 H2 A2 v2 R2 s2 p2 m2 => ?_
  cases e1 : pk G2 (park x1) with
  | none => simp [e1, Mt] at m2
  | some d =>
    cases e2 : pk G2 (park x2) with
    | none => simp [e1, e2, Mt] at m2
    | some e =>
      simp only [e1, e2] at m2
      obtain ⟨r, hr, q⟩ := op_end R2 (s1.trans s2) m2
      exact ⟨F2, d, e, r, R2.sub, R2.view (p1.step s2) e1, R2.view p2 e2, hr, q⟩
end
end Mp

/-! Mp5: comparisons, tests, displays, subscripts. -/
namespace Mp
open PySem L2

section
variable {T : Tx} {W : WX} {σ : St} {F F1 F2 H H1 H2 H' : Hp} {A A1 A2 : Ad} {α β : Type} {G G1 : List Sl} {v : V} {r : R}
theorem toPs_cons {d : D} {l : List D} {ps : List PyData} (h : D.toPs (d :: l) = some ps) : ∃ p q, d.toP = some p ∧ D.toPs l = some q ∧ ps = p :: q := by
  rw [D.toPs] at h
  cases e1 : d.toP with
  | none => simp [e1] at h
  | some p =>
    cases e2 : D.toPs l with
    | none => simp [e1, e2] at h
    | some q =>
      simp [e1, e2] at h
      exact ⟨p, q, rfl, rfl, h.symm⟩
theorem Reps.dp {K : PySem.W.Frag} (hK : T.K = K) (s : Le F H) {vs : List V} {ds : List D} (h : Reps T F vs ds) : ∀ {ps : List PyData}, D.toPs ds = some ps → DpAll K H vs ps := by
  induction h with
  | nil =>
    intro ps e
    simp [D.toPs] at e
    subst e
    exact .nil
  | flat hf _ ih =>
    intro ps e
    obtain ⟨p, q, e1, e2, rfl⟩ := toPs_cons e
    refine .cons ?_ (ih e2)
    rename_i d _ _ _
    cases d <;> simp [D.flat] at hf <;> simp [D.toP] at e1
    · subst hf e1; exact .non
    · subst hf e1; exact .bl _
    · subst hf e1; exact .int _
    · subst hf e1; exact .str _
  | tup ha _ _ i1 i2 =>
    intro ps e
    obtain ⟨p, q, e1, e2, rfl⟩ := toPs_cons e
    rw [D.toP] at e1
    obtain ⟨z, e3, rfl⟩ := Option.map_eq_some_iff.mp e1
    rw [hK] at ha
    exact .cons (.tup (sqT_le s ha) (i1 e3)) (i2 e2)
  | lst ha _ _ i1 i2 =>
    intro ps e
    obtain ⟨p, q, e1, e2, rfl⟩ := toPs_cons e
    rw [D.toP] at e1
    obtain ⟨z, e3, rfl⟩ := Option.map_eq_some_iff.mp e1
    exact .cons (.lst (SqL.of (s _ _ ha)) (i1 e3)) (i2 e2)
  | ins ha _ _ _ _ _ _ =>
    intro ps e
    obtain ⟨p, q, e1, e2, rfl⟩ := toPs_cons e
    simp [D.toP] at e1
  | exc ha _ _ _ _ _ _ =>
    intro ps e
    obtain ⟨p, q, e1, e2, rfl⟩ := toPs_cons e
    simp [D.toP] at e1
theorem Vw.dp {K : PySem.W.Frag} (hK : T.K = K) (s : Le F H) {d : D} {p : PyData} (h : Vw T F H v d) (e : d.toP = some p) : Dp K H v p := by
  cases h with
  | rep h =>
    have z : D.toPs [d] = some [p] := by rw [D.toPs, e, D.toPs]
    cases h.dp hK s z with
    | cons a _ => exact a
  | lst h r =>
    rw [D.toP] at e
    obtain ⟨z, e3, rfl⟩ := Option.map_eq_some_iff.mp e
    exact .lst (SqL.of h) (r.dp hK s e3)
  | ins => simp [D.toP] at e
end

def cmOf : Cm → CmpOp
  | .eq => .Eq | .ne => .NotEq | .lt => .Lt | .le => .LtE | .gt => .Gt | .ge => .GtE | .isIn => .In | .notIn => .NotIn | .isN => .Is | .notN => .IsNot
section
variable {X : Cx} {c : Cf} {T : Tx} {W : WX}
/-- in, not in, of lists and tuples of data -/
theorem op_inDT (hu : X.A.units + 65 < cLine) : OpR X (compareOp .In) (fun x y H Q => ∃ d ds, Dp X.K H x d ∧ Dp X.K H y (.tuple ds) ∧ SeqAt.shaped d = true ∧ SeqAt.shaped (.list ds) = true ∧ Q (.bl (ds.any fun z => PyData.eqv z d)) H) := by
  intro pins s σ H x y v u Q I rx ry h
  obtain ⟨d, ds, hd, he, sd, se, q⟩ := h
  obtain ⟨as, r1⟩ := Dp.reads I d x v hd rx
  obtain ⟨bs, r2⟩ := Dp.reads I (.tuple ds) y u he ry
  exact SeqAt.in_tuple_reads r2 r1 (SeqAt.canLay_of_shaped se) (SeqAt.canLay_of_shaped sd) (PyProof.Rows.room_in_shaped sd hu) ⟨.bl _, H, I, rfl, q⟩
theorem op_notInDT (hu : X.A.units + 65 < cLine) : OpR X (compareOp .NotIn) (fun x y H Q => ∃ d ds, Dp X.K H x d ∧ Dp X.K H y (.tuple ds) ∧ SeqAt.shaped d = true ∧ SeqAt.shaped (.list ds) = true ∧ Q (.bl (!ds.any fun z => PyData.eqv z d)) H) := by
  intro pins s σ H x y v u Q I rx ry h
  obtain ⟨d, ds, hd, he, sd, se, q⟩ := h
  obtain ⟨as, r1⟩ := Dp.reads I d x v hd rx
  obtain ⟨bs, r2⟩ := Dp.reads I (.tuple ds) y u he ry
  exact SeqAt.notIn_tuple_reads r2 r1 (SeqAt.canLay_of_shaped se) (SeqAt.canLay_of_shaped sd) (PyProof.Rows.room_in_shaped sd hu) ⟨.bl _, H, I, rfl, q⟩
def rC (T : Tx) (o : Cm) : R2 := fun x y H Q => ∃ F d e b, Le F H ∧ Vw T F H x d ∧ Vw T F H y e ∧ cop o d e = some b ∧ Q (.bl b) H
theorem eqD_some {d e : D} {b : Bool} (h : eqD d e = some b) : ∃ p q, d.toP = some p ∧ e.toP = some q ∧ SeqAt.shaped p = true ∧ SeqAt.shaped q = true ∧ PyData.eqv p q = b := by
  unfold eqD at h
  cases e1 : d.toP with
  | none => simp [e1] at h
  | some p =>
    cases e2 : e.toP with
    | none => simp [e1, e2] at h
    | some q =>
      simp only [e1, e2] at h
      split at h
      · rename_i z
        rw [Bool.and_eq_true] at z
        exact ⟨p, q, rfl, rfl, z.1, z.2, Option.some.inj h⟩
      · cases h
theorem inD_some {x : D} {l : List D} {b : Bool} (h : inD x l = some b) : ∃ p q, x.toP = some p ∧ D.toPs l = some q ∧ SeqAt.shaped p = true ∧ SeqAt.shaped (.list q) = true ∧ (q.any fun z => PyData.eqv z p) = b := by
  unfold inD at h
  cases e1 : x.toP with
  | none => simp [e1] at h
  | some p =>
    cases e2 : D.toPs l with
    | none => simp [e1, e2] at h
    | some q =>
      simp only [e1, e2] at h
      split at h
      · rename_i z
        rw [Bool.and_eq_true] at z
        exact ⟨p, q, rfl, rfl, z.1, z.2, Option.some.inj h⟩
      · cases h
theorem cop_ok (hK : T.K = X.K) (hu : X.A.units + 65 < cLine) : ∀ o, OpR X (compareOp (cmOf o)) (rC T o)
  | .eq => opr_imp (op_eqD (by omega)) fun x y H Q ⟨F, d, e, b, s, hx, hy, hb, q⟩ => by
    obtain ⟨p, q', e1, e2, s1, s2, rfl⟩ := eqD_some hb
    exact ⟨p, q', hx.dp hK s e1, hy.dp hK s e2, s1, s2, q⟩
  | .ne => opr_imp (op_neD (by omega)) fun x y H Q ⟨F, d, e, b, s, hx, hy, hb, q⟩ => by
    obtain ⟨b', hb', rfl⟩ := Option.map_eq_some_iff.mp (show (eqD d e).map (!·) = some b from hb)
    obtain ⟨p, q', e1, e2, s1, s2, rfl⟩ := eqD_some hb'
    exact ⟨p, q', hx.dp hK s e1, hy.dp hK s e2, s1, s2, q⟩
  | .lt => opr_imp op_lt fun x y H Q ⟨F, d, e, b, s, hx, hy, hb, q⟩ => by
    cases d <;> cases e <;> simp [cop] at hb
    subst hb
    rw [hx.intE, hy.intE]
    exact ⟨_, _, rfl, rfl, q⟩
  | .le => opr_imp op_le fun x y H Q ⟨F, d, e, b, s, hx, hy, hb, q⟩ => by
    cases d <;> cases e <;> simp [cop] at hb
    subst hb
    rw [hx.intE, hy.intE]
    exact ⟨_, _, rfl, rfl, q⟩
  | .gt => opr_imp op_gt fun x y H Q ⟨F, d, e, b, s, hx, hy, hb, q⟩ => by
    cases d <;> cases e <;> simp [cop] at hb
    subst hb
    rw [hx.intE, hy.intE]
    exact ⟨_, _, rfl, rfl, q⟩
  | .ge => opr_imp op_ge fun x y H Q ⟨F, d, e, b, s, hx, hy, hb, q⟩ => by
    cases d <;> cases e <;> simp [cop] at hb
    subst hb
    rw [hx.intE, hy.intE]
    exact ⟨_, _, rfl, rfl, q⟩
  | .isIn => opr_imp (opr_or (op_inD hu) (op_inDT hu)) fun x y H Q ⟨F, d, e, b, s, hx, hy, hb, q⟩ => by
    cases e <;> simp [cop] at hb
    · obtain ⟨p, q', e1, e2, s1, s2, rfl⟩ := inD_some hb
      exact .inr ⟨p, q', hx.dp hK s e1, hy.dp hK s (by rw [D.toP, e2]; rfl), s1, s2, q⟩
    · obtain ⟨p, q', e1, e2, s1, s2, rfl⟩ := inD_some hb
      exact .inl ⟨p, q', hx.dp hK s e1, hy.dp hK s (by rw [D.toP, e2]; rfl), s1, s2, q⟩
  | .notIn => opr_imp (opr_or (op_notInD hu) (op_notInDT hu)) fun x y H Q ⟨F, d, e, b, s, hx, hy, hb, q⟩ => by
    cases e with
    | tup l =>
      obtain ⟨b', hb', rfl⟩ := Option.map_eq_some_iff.mp (show (inD d l).map (!·) = some b from hb)
      obtain ⟨p, q', e1, e2, s1, s2, rfl⟩ := inD_some hb'
      exact .inr ⟨p, q', hx.dp hK s e1, hy.dp hK s (by rw [D.toP, e2]; rfl), s1, s2, q⟩
    | lst l =>
      obtain ⟨b', hb', rfl⟩ := Option.map_eq_some_iff.mp (show (inD d l).map (!·) = some b from hb)
      obtain ⟨p, q', e1, e2, s1, s2, rfl⟩ := inD_some hb'
      exact .inl ⟨p, q', hx.dp hK s e1, hy.dp hK s (by rw [D.toP, e2]; rfl), s1, s2, q⟩
    | _ => simp [cop] at hb
  | .isN => opr_imp op_isN fun x y H Q ⟨F, d, e, b, s, hx, hy, hb, q⟩ => by
    cases e <;> simp [cop] at hb
    refine ⟨hy.nonE, ?_⟩
    subst hb
    cases d with
    | non => rw [hx.nonE]; exact q
    | bl b => rw [hx.blE]; exact q
    | int b => rw [hx.intE]; exact q
    | str b => rw [hx.strE]; exact q
    | tup l => obtain ⟨_, _, rfl, _⟩ := hx.tupE s; exact q
    | lst l => obtain ⟨_, _, rfl, _⟩ := hx.lstE s; exact q
    | ins c l => obtain ⟨_, _, _, rfl, _⟩ := hx.insE s; exact q
    | exc c l => obtain ⟨_, _, _, rfl, _⟩ := hx.excE.excE; exact q
  | .notN => opr_imp op_notN fun x y H Q ⟨F, d, e, b, s, hx, hy, hb, q⟩ => by
    cases e <;> simp [cop] at hb
    refine ⟨hy.nonE, ?_⟩
    subst hb
    cases d with
    | non => rw [hx.nonE]; exact q
    | bl b => rw [hx.blE]; exact q
    | int b => rw [hx.intE]; exact q
    | str b => rw [hx.strE]; exact q
    | tup l => obtain ⟨_, _, rfl, _⟩ := hx.tupE s; exact q
    | lst l => obtain ⟨_, _, rfl, _⟩ := hx.lstE s; exact q
    | ins c l => obtain ⟨_, _, _, rfl, _⟩ := hx.insE s; exact q
    | exc c l => obtain ⟨_, _, _, rfl, _⟩ := hx.excE.excE; exact q
variable {a b d : Expr} {x y z : E} {pos : Pos}
theorem de_neg (ha : DE X c T W a x) : DE X c T W (.UnaryOp .USub a pos) (.neg x) := by
  refine pe_imp (pe_un un_neg ha) fun σ H Q ⟨F, G, A, R0, m⟩ => ?_
  unfold evE at m
  refine rd_of R0 m fun x1 G1 F1 H1 A1 v1 R1 s1 p1 m1 => ?_
  cases e1 : pk G1 (park x1) with
  | none => simp [e1, Mt] at m1
  | some d =>
    cases d <;> simp only [e1] at m1
    case int i => exact ⟨i, (R1.view p1 e1).intE, m1 F1 H1 A1 R1 Step.refl _ (.d (Rep.of_flat rfl)) Nw.d⟩
    all_goals exact m1.elim

/-! ### truth -/
theorem Reps.empty {T : Tx} {F : Hp} {vs : List V} {ds : List D} (h : Reps T F vs ds) : vs.isEmpty = ds.isEmpty := by
  have := h.length
  cases vs <;> cases ds <;> simp_all
theorem truD_ok {F H : Hp} {v : V} {d : D} {k : Bool} (s : Le F H) (hv : Vw T F H v d) (h : truD d = some k) : TruV T.K v H k := by
  cases d <;> simp [truD] at h
  · subst h; rw [hv.nonE]; rfl
  · subst h; rw [hv.blE]; rfl
  · subst h; rw [hv.intE]; rfl
  · obtain ⟨h1, rfl⟩ := h; rw [hv.strE]; exact ⟨h1, by simp [bne]⟩
  · obtain ⟨l, xs, rfl, h1, e⟩ := hv.tupE s
    refine .inr (.inl ⟨xs, h1, ?_⟩)
    rw [e.empty, h, Bool.not_not]
  · obtain ⟨l, xs, rfl, h1, e⟩ := hv.lstE s
    refine .inl ⟨xs, SqL.of h1, ?_⟩
    rw [e.empty, h, Bool.not_not]
/-- a test's reading -/
def rdT (c : Cf) (T : Tx) (W : WX) (e : E) : TT := fun σ H Q => ∃ F G A, Rel T F H σ G A ∧ Mt T W σ F H A (evT c e G) fun k _ _ H' _ => Q k H'
abbrev DT (X : Cx) (c : Cf) (T : Tx) (W : WX) (x : Expr) (e : E) : Prop := PT X x (rdT c T W e)
section
variable {σ : St} {F H F1 H1 : Hp} {A A1 : Ad} {G G1 : List Sl} {β : Type} {Q : β → List Sl → Hp → Hp → Ad → Prop}
theorem truR_ok {r : R} {v : V} {P : Bool → List Sl → Hp → Hp → Ad → Prop} (R0 : Rel T F H σ G A) (rp : RepR T F H σ A v r) (m : Mt T W σ F H A (truR r G) P) :
    ∃ k, truR r G = .ok k G ∧ TruV T.K v H k ∧ P k G F H A := by
  unfold truR at m ⊢
  cases e1 : pk G r with
  | none => simp [e1, Mt] at m
  | some d =>
    cases e2 : truD d with
    | none => simp [e1, e2, Mt, ofO] at m
    | some k =>
      simp only [e1, e2, ofO] at m ⊢
      exact ⟨k, rfl, truD_ok R0.sub (R0.view rp e1) e2, m F H A R0 Step.refl⟩
/-- a test ahead of other things -/
theorem rdT_of {e : E} {Q1 : Bool → Hp → Prop} {k : Bool → List Sl → Res β} (R0 : Rel T F H σ G A) (m : Mt T W σ F H A (resBind (evT c e G) k) Q)
    (h : ∀ b G1 F1 H1 A1, Rel T F1 H1 σ G1 A1 → Step F H A F1 H1 A1 → Mt T W σ F1 H1 A1 (k b G1) Q → Q1 b H1) : rdT c T W e σ H Q1 :=
  ⟨F, G, A, R0, m.bind.imp fun b G1 F1 H1 A1 R1 s1 m1 => h b G1 F1 H1 A1 R1 s1 (m1.start s1)⟩
end
/-- any expression as a test -/
theorem dt_e (hK : T.K = X.K) (ha : DE X c T W a x) (he : ∀ whole, isTrue a X.env whole = (do let v ← whole; standAt a.pos; holding [v] (truthy v)) := by intro _; rfl) : DT X c T W a x := by
  refine pt_imp (pt_truth ha he) fun σ H Q ⟨F, G, A, R0, m⟩ => ?_
  unfold evT at m
  refine rd_of R0 m fun x1 G1 F1 H1 A1 v1 R1 s1 p1 m1 => ?_
  obtain ⟨k, _, t, q⟩ := truR_ok R1 p1 m1
  rw [hK] at t
  exact ⟨k, t, q⟩
theorem evT_not {G : List Sl} : evT c (.not x) G = resBind (evT c x G) fun t G1 => .ok (!t) G1 := by
  unfold evT
  rw [evE]
  cases evE c x G with
  | ok r G1 =>
    simp only [resBind]
    cases truR (park r) G1 <;> rfl
  | ex e G1 => rfl
  | st => rfl
theorem pk_park {G : List Sl} {r : R} : pk G (park r) = pk G r := by cases r <;> rfl
theorem park_park {r : R} : park (park r) = park r := by cases r <;> rfl
theorem truR_park {G : List Sl} {r : R} : truR (park r) G = truR r G := by unfold truR; rw [pk_park]
theorem truR_G {G G1 : List Sl} {r : R} {k : Bool} (h : truR r G = .ok k G1) : G1 = G := by
  unfold truR at h
  split at h
  · rename_i d _
    cases e : truD d <;> simp [e, ofO] at h
    exact h.2.symm
  · cases h
theorem truR_ex {G G1 : List Sl} {r : R} {e : Ex} (h : truR r G = .ex e G1) : False := by
  unfold truR at h
  split at h
  · rename_i d _
    cases e : truD d <;> simp [e, ofO] at h
  · cases h
theorem evT_and {G : List Sl} : evT c (.and x y) G = resBind (evT c x G) fun t G1 => if t = true then evT c y G1 else .ok false G1 := by
  unfold evT
  rw [evE]
  cases evE c x G with
  | ok r G1 =>
    simp only [resBind]
    cases h : truR (park r) G1 with
    | ok t G2 =>
      cases truR_G h
      cases t with
      | true => simp
      | false =>
        simp only [Bool.false_eq_true, if_false]
        show truR (park (park r)) G1 = _
        rw [park_park, h]
    | ex e G2 => exact (truR_ex h).elim
    | st => rfl
  | ex e G1 => rfl
  | st => rfl
theorem evT_or {G : List Sl} : evT c (.or x y) G = resBind (evT c x G) fun t G1 => if t = true then .ok true G1 else evT c y G1 := by
  unfold evT
  rw [evE]
  cases evE c x G with
  | ok r G1 =>
    simp only [resBind]
    cases h : truR (park r) G1 with
    | ok t G2 =>
      cases truR_G h
      cases t with
      | false => simp
      | true =>
        simp only [if_true]
        show truR (park (park r)) G1 = _
        rw [park_park, h]
    | ex e G2 => exact (truR_ex h).elim
    | st => rfl
  | ex e G1 => rfl
  | st => rfl
theorem dt_not (ha : DT X c T W a x) : DT X c T W (.UnaryOp .Not a pos) (.not x) := by
  refine pt_imp (pt_not ha) fun σ H Q ⟨F, G, A, R0, m⟩ => ?_
  rw [evT_not] at m
  exact rdT_of R0 m fun b G1 F1 H1 A1 R1 s1 m1 => m1 F1 H1 A1 R1 Step.refl
abbrev DW (X : Cx) (c : Cf) (T : Tx) (W : WX) (x : Expr) (e : E) : Prop := PW X x (rdT c T W e)
theorem dw_and1 (ha : DT X c T W a x) : DW X c T W (.BoolOp .And [a] pos) x := pw_and1 ha
theorem dw_or1 (ha : DT X c T W a x) : DW X c T W (.BoolOp .Or [a] pos) x := pw_or1 ha
theorem pw_imp {e : Expr} {t t' : TT} (h : PW X e t) (i : ∀ σ H Q, t' σ H Q → t σ H Q) : PW X e t' := ⟨fun wh pins s σ H Q I hq => h.run wh pins s σ H Q I (i σ H Q hq)⟩
theorem dw_and {rest : List Expr} (ha : DT X c T W a x) (hb : DW X c T W (.BoolOp .And (b :: rest) pos) y) : DW X c T W (.BoolOp .And (a :: b :: rest) pos) (.and x y) := by
  refine pw_imp (pw_and ha hb) fun σ H Q ⟨F, G, A, R0, m⟩ => ?_
  rw [evT_and] at m
  refine rdT_of R0 m fun b G1 F1 H1 A1 R1 s1 m1 => ?_
  cases b with
  | true => exact ⟨F1, G1, A1, R1, m1⟩
  | false => exact m1 F1 H1 A1 R1 Step.refl
theorem dw_or {rest : List Expr} (ha : DT X c T W a x) (hb : DW X c T W (.BoolOp .Or (b :: rest) pos) y) : DW X c T W (.BoolOp .Or (a :: b :: rest) pos) (.or x y) := by
  refine pw_imp (pw_or ha hb) fun σ H Q ⟨F, G, A, R0, m⟩ => ?_
  rw [evT_or] at m
  refine rdT_of R0 m fun b G1 F1 H1 A1 R1 s1 m1 => ?_
  cases b with
  | true => exact m1 F1 H1 A1 R1 Step.refl
  | false => exact ⟨F1, G1, A1, R1, m1⟩
end
end Mp

/-! Mp6: slots changed, things frozen, displays, built-ins. -/
namespace Mp
open PySem L2

section
variable {T : Tx} {W : WX} {σ σ' : St} {F F' F1 F2 H H1 H2 H' : Hp} {A A1 A2 : Ad} {α β : Type} {G G1 G' : List Sl} {v : V} {r : R} {i : Nat}
def Ad.put (A : Ad) (i : Nat) (ai : Option Addr) : Ad := ⟨fun j => if j = i then ai else A j, A.b⟩
theorem Ad.put_self {ai : Option Addr} : Ad.put A i ai i = ai := by unfold Ad.put; exact if_pos rfl
theorem Ad.put_ne {ai : Option Addr} {j : Nat} (h : j ≠ i) : Ad.put A i ai j = A j := by unfold Ad.put; exact if_neg h
theorem Ad.put_id : Ad.put A i (A i) = A := by
  have : (fun j => if j = i then A i else A j) = A.m := by
    funext j
    split
    · rename_i h; rw [h]
    · rfl
  unfold Ad.put
  rw [this]
theorem rd_some {l : Addr} {u : HO} (h : Rd H l u) : H l ≠ none := by
  rcases h with h | ⟨o, h⟩ <;> (rw [h]; exact fun z => nomatch z)
/-- a slot that is not touched, its own cell kept -/
theorem RepS.move {A' : Ad} {ai : Option Addr} {vi : Option (Option V)} {s : Sl} (q : RepS T F H A ai vi s) (le : Le F F') (hh : ∀ a o, H a = some o → (∀ j, A j = some a → ai = some a) → H' a = some o)
    (hn : ∀ l, H l ≠ none → A.far l → A'.far l) (hi : ∀ a, ai = some a → ∀ j, A j = some a → ai = some a) : RepS T F' H' A' ai vi s := by
  cases q with
  | no => exact .no
  | fz h => exact .fz (h.mono le)
  | ol h r => exact .ol (hh _ _ h fun _ _ => rfl) (r.mono le)
  | bw h r n => exact .bw (hh _ _ h fun j e => absurd e (n.2 j)) (r.mono le) (hn _ (by rw [h]; exact fun z => nomatch z) n)
  | oi h n m r => exact .oi (hh _ _ h fun _ _ => rfl) n m (r.mono le)
  | sc h r =>
    refine .sc (h.elim (fun z => .inl ⟨?_, hn _ (rd_some z.1) z.2⟩) .inr) (r.mono le)
    rcases z.1 with y | ⟨o, y⟩
    · exact .inl (hh _ _ y fun j e => absurd e (z.2.2 j))
    · exact .inr ⟨o, hh _ _ y fun j e => absurd e (z.2.2 j)⟩

/-- THE CHANGE of one slot -/
theorem Rel.put {ai : Option Addr} {s : Sl} (R0 : Rel T F H σ G A) (hi : i < G.length) (le : Le F F') (sub : Le F' H') (hh : ∀ a o, H a = some o → A i ≠ some a → H' a = some o) (hk : ∀ a, H' a = none → H a = none)
    (hs : ∀ j, j ≠ i → σ'[j]? = σ[j]?) (hl : σ'.length = σ.length) (hn : ∀ a, ai = some a → (A i = some a ∨ H a = none) ∧ F' a = none)
    (hf : ∀ a, F' a ≠ none → F a ≠ none ∨ A i = some a ∨ H a = none) (new : RepS T F' H' (Ad.put A i ai) ai σ'[i]? s) :
    Rel T F' H' σ' (G.set i s) (Ad.put A i ai) ∧ Step F H A F' H' (Ad.put A i ai) := by
  have hne : ∀ j a, j ≠ i → A j = some a → A i ≠ some a := fun j a hj e e2 => hj (R0.inj j i a e e2)
  refine ⟨⟨sub, by rw [List.length_set, hl, R0.len], fun j x h => ?_, fun j hj => ?_, fun j a h => ?_, fun j k a h1 h2 => ?_, fun l h => ⟨fun z => (R0.bs l h).1 (hk l z), fun k e => ?_⟩⟩, ⟨le, fun a o h n => hh a o h (n i), fun a h => ?_, fun j a h => ?_, hk, rfl⟩⟩
  · by_cases hj : j = i
    · subst hj
      rw [List.getElem?_set_self hi] at h
      cases h
      rw [Ad.put_self]
      exact new
    · rw [List.getElem?_set_ne (Ne.symm hj)] at h
      rw [Ad.put_ne hj, hs j hj]
      refine (R0.sl j x h).move le (fun a o ha hc => hh a o ha fun e => ?_) (fun l hl n => ⟨n.1, fun k e => ?_⟩) fun a e _ _ => e
      · exact hne j a hj (hc i e) e
      · by_cases hki : k = i
        · subst hki
          rw [Ad.put_self] at e
          rcases (hn l e).1 with z | z
          · exact n.2 k z
          · exact hl z
        · rw [Ad.put_ne hki] at e
          exact n.2 k e
  · rw [List.length_set] at hj
    rw [Ad.put_ne (by omega)]
    exact R0.out j hj
  · by_cases hj : j = i
    · subst hj
      rw [Ad.put_self] at h
      exact (hn a h).2
    · rw [Ad.put_ne hj] at h
      cases q : F' a with
      | none => rfl
      | some o =>
        rcases hf a (by rw [q]; exact fun z => nomatch z) with z | z | z
        · exact absurd (R0.fr j a h) z
        · exact absurd z (hne j a hj h)
        · exact absurd z (R0.own h)
  · by_cases hj : j = i
    · by_cases hk' : k = i
      · rw [hj, hk']
      · subst hj
        rw [Ad.put_self] at h1
        rw [Ad.put_ne hk'] at h2
        rcases (hn a h1).1 with z | z
        · exact absurd z (hne k a hk' h2)
        · exact absurd z (R0.own h2)
    · by_cases hk' : k = i
      · subst hk'
        rw [Ad.put_self] at h2
        rw [Ad.put_ne hj] at h1
        rcases (hn a h2).1 with z | z
        · exact absurd z (hne j a hj h1)
        · exact absurd z (R0.own h1)
      · rw [Ad.put_ne hj] at h1
        rw [Ad.put_ne hk'] at h2
        exact R0.inj j k a h1 h2
  · by_cases hj : k = i
    · subst hj
      rw [Ad.put_self] at e
      rcases (hn l e).1 with z | z
      · exact (R0.bs l h).2 _ z
      · exact (R0.bs l h).1 z
    · rw [Ad.put_ne hj] at e
      exact (R0.bs l h).2 _ e
  · rcases hf a h with z | z | z
    · exact .inl z
    · exact .inr (.inl ⟨i, z⟩)
    · exact .inr (.inr z)
  · by_cases hj : j = i
    · subst hj
      rw [Ad.put_self] at h
      rcases (hn a h).1 with z | z
      · exact .inl ⟨j, z⟩
      · exact .inr z
    · rw [Ad.put_ne hj] at h
      exact .inl ⟨j, h⟩

/-- the number of the fields is told aright -/
def NfOk (T : Tx) (nf : Nat → Nat) : Prop := ∀ c, nf c = (T.ci c).flds.length
theorem get_lt {l : List Sl} {s : Sl} (h : l[i]? = some s) : i < l.length := (List.getElem?_eq_some_iff.mp h).1

/-- a slot's own thing frozen in its place -/
theorem Rel.freeze {o : HO} {a : Addr} {d : D} (R0 : Rel T F H σ G A) (hi : i < G.length) (ha : A i = some a) (ho : H a = some o) (hv : σ[i]? = some (some v)) (rep : Rep T (upd F a o) v d) :
    Rel T (upd F a o) H σ (G.set i (.fz d)) (Ad.put A i none) ∧ Step F H A (upd F a o) H (Ad.put A i none) := by
  have nf := R0.fr i a ha
  refine R0.put hi (le_upd nf) (fun b u q => ?_) (fun b u q _ => q) (fun _ q => q) (fun _ _ => rfl) rfl (fun b q => nomatch q) (fun b q => ?_) ?_
  · by_cases e : b = a
    · subst e; rw [upd_same] at q; cases q; exact ho
    · rw [upd_ne e] at q; exact R0.sub b u q
  · by_cases e : b = a
    · subst e; exact .inr (.inl ha)
    · rw [upd_ne e] at q; exact .inl q
  · rw [hv]
    exact .fz rep
/-- no slot gets a new thing of its own -/
def Sh (A A' : Ad) : Prop := ∀ j a, A' j = some a → A j = some a
theorem Sh.refl : Sh A A := fun _ _ h => h
theorem Sh.trans (x : Sh A A1) (y : Sh A1 A2) : Sh A A2 := fun j a h => x j a (y j a h)
theorem Sh.put : Sh A (Ad.put A i none) := fun j a h => by
  by_cases e : j = i
  · rw [e, Ad.put_self] at h; cases h
  · rw [Ad.put_ne e] at h; exact h
theorem fzR_ok {nf : Nat → Nat} {d : D} (hnf : NfOk T nf) (R0 : Rel T F H σ G A) (rp : RepR T F H σ A v (park r)) (e : fzR nf G r = some (d, G')) :
    ∃ F' A', Rel T F' H σ G' A' ∧ Step F H A F' H A' ∧ Rep T F' v d ∧ Sh A A' := by
  cases r with
  | d d0 =>
    simp [fzR] at e
    obtain ⟨rfl, rfl⟩ := e
    cases rp with
    | d h => exact ⟨F, A, R0, Step.refl, h, Sh.refl⟩
  | ol l =>
    simp [fzR] at e
    obtain ⟨rfl, rfl⟩ := e
    cases rp with
    | d h => exact ⟨F, A, R0, Step.refl, h, Sh.refl⟩
  | al i =>
    cases rp with
    | al hv =>
      dsimp only [fzR] at e
      cases hg : G[i]? with
      | none => simp [hg] at e
      | some s =>
        have q := R0.sl i s hg
        have hi := get_lt hg
        rw [hv] at q
        rw [hg] at e
        clear hg
        revert q
        generalize hai : A i = ai
        intro q
        cases q with
        | no => simp at e
        | fz h =>
          simp at e
          obtain ⟨rfl, rfl⟩ := e
          exact ⟨F, A, R0, Step.refl, h, Sh.refl⟩
        | ol h rr =>
          simp at e
          obtain ⟨rfl, rfl⟩ := e
          rename_i l0 xs0 ds0
          have le := le_upd (o := .lst xs0) (R0.fr i _ hai)
          have rep : Rep T (upd F l0 (.lst xs0)) (.ref l0) (.lst ds0) := Rep.mk_lst upd_same (rr.mono le)
          obtain ⟨R1, s1⟩ := R0.freeze hi hai h hv rep
          exact ⟨_, _, R1, s1, rep, Sh.put⟩
        | bw h rr n => simp at e
        | oi h n m rr =>
          rename_i a dx c fs ds
          simp only at e
          split at e
          · rename_i hl
            cases e
            have le := le_upd (o := .ins (T.ci c).addr dx fs) (R0.fr i _ hai)
            rw [hnf c] at hl
            have rep : Rep T (upd F a (.ins (T.ci c).addr dx fs)) (.ref a) (.ins c ds) := .ins upd_same (by rw [n, hl, List.take_length]) m.2 (rr.mono le) .nil
            obtain ⟨R1, s1⟩ := R0.freeze hi hai h hv rep
            exact ⟨_, _, R1, s1, rep, Sh.put⟩
          · cases e
        | sc h rr => simp at e

/-- parked values -/
inductive RepRs (T : Tx) (F H : Hp) (σ : St) (A : Ad) : List V → List R → Prop where
  | nil : RepRs T F H σ A [] []
  | cons {v r vs rs} (h : RepR T F H σ A v (park r)) (t : RepRs T F H σ A vs rs) : RepRs T F H σ A (v :: vs) (r :: rs)
theorem RepRs.step {vs : List V} {rs : List R} (h : RepRs T F H σ A vs rs) (s : Step F H A F1 H1 A1) : RepRs T F1 H1 σ A1 vs rs := by
  induction h with
  | nil => exact .nil
  | cons h _ ih => exact .cons (h.step s) ih
theorem RepRs.length {vs : List V} {rs : List R} (h : RepRs T F H σ A vs rs) : vs.length = rs.length := by
  induction h with
  | nil => rfl
  | cons _ _ ih => simp [ih]
theorem RepRs.get {vs : List V} {rs : List R} (h : RepRs T F H σ A vs rs) {i : Nat} {r : R} (e : rs[i]? = some r) : ∃ v, vs[i]? = some v ∧ RepR T F H σ A v (park r) := by
  induction h generalizing i with
  | nil => simp at e
  | cons h _ ih =>
    cases i with
    | zero => simp at e; subst e; exact ⟨_, rfl, h⟩
    | succ i => exact ih (by simpa using e)
theorem fzAll_ok {nf : Nat → Nat} (hnf : NfOk T nf) : ∀ {rs : List R} {vs : List V} {ds : List D} {F : Hp} {A : Ad} {G G' : List Sl}, Rel T F H σ G A → RepRs T F H σ A vs rs → fzAll nf G rs = some (ds, G') →
    ∃ F' A', Rel T F' H σ G' A' ∧ Step F H A F' H A' ∧ Reps T F' vs ds ∧ Sh A A'
  | [], _, _, F, A, _, _, R0, h, e => by
    simp [fzAll] at e
    obtain ⟨rfl, rfl⟩ := e
    cases h
    exact ⟨F, A, R0, Step.refl, .nil, Sh.refl⟩
  | r :: rs, _, _, F, A, G, _, R0, h, e => by
    cases h with
    | cons h t =>
      dsimp only [fzAll] at e
      cases e1 : fzR nf G r with
      | none => simp [e1] at e
      | some p =>
        obtain ⟨d, G1⟩ := p
        simp only [e1] at e
        cases e2 : fzAll nf G1 rs with
        | none => simp [e2] at e
        | some p =>
          obtain ⟨ds, G2⟩ := p
          simp [e2] at e
          obtain ⟨rfl, rfl⟩ := e
          obtain ⟨F1, A1, R1, s1, r1, h1⟩ := fzR_ok hnf R0 h e1
          obtain ⟨F2, A2, R2, s2, r2, h2⟩ := fzAll_ok hnf R1 (t.step s1) e2
          exact ⟨F2, A2, R2, s1.trans s2, .cons (r1.mono s2.f) r2, h1.trans h2⟩
end

/-! ### argument lists -/
def rdA (c : Cf) (T : Tx) (W : WX) (l : Es) : TA := fun σ H Q => ∃ F G A, Rel T F H σ G A ∧ Mt T W σ F H A (evEs c l G) fun rs _ F' H' A' => ∀ vs, RepRs T F' H' σ A' vs rs → Q vs H'
abbrev DA (X : Cx) (c : Cf) (T : Tx) (W : WX) (es : List Expr) (l : Es) : Prop := PA X es (rdA c T W l)
theorem pa_imp {X : Cx} {e : List Expr} {t t' : TA} (h : PA X e t) (i : ∀ σ H Q, t' σ H Q → t σ H Q) : PA X e t' := ⟨fun pos pins s σ H Q I hq => h.run pos pins s σ H Q I (i σ H Q hq)⟩
section
variable {X : Cx} {c : Cf} {T : Tx} {W : WX} {a b d : Expr} {x y z : E} {l : Es} {es : List Expr} {pos : Pos}
section
variable {σ : St} {F H F1 H1 : Hp} {A A1 : Ad} {G G1 : List Sl} {β : Type} {Q : β → List Sl → Hp → Hp → Ad → Prop}
theorem rdA_of {Q1 : List V → Hp → Prop} {k : List R → List Sl → Res β} (R0 : Rel T F H σ G A) (m : Mt T W σ F H A (resBind (evEs c l G) k) Q)
    (h : ∀ rs G1 F1 H1 A1 vs, Rel T F1 H1 σ G1 A1 → Step F H A F1 H1 A1 → RepRs T F1 H1 σ A1 vs rs → Mt T W σ F1 H1 A1 (k rs G1) Q → Q1 vs H1) : rdA c T W l σ H Q1 :=
  ⟨F, G, A, R0, m.bind.imp fun rs G1 F1 H1 A1 R1 s1 m1 vs rp => h rs G1 F1 H1 A1 vs R1 s1 rp (m1.start s1)⟩
end
theorem da_nil : DA X c T W [] .nil := pa_imp pa_nil fun σ H Q ⟨F, G, A, R0, m⟩ => m F H A R0 Step.refl [] .nil
theorem da_cons (ha : DE X c T W a x) (hr : DA X c T W es l) (hs : starEach (a :: es) X.env = (false, eval a X.env) :: starEach es X.env := by rfl) : DA X c T W (a :: es) (.cons x l) := by
  refine pa_imp (pa_cons ha hr hs) fun σ H Q ⟨F, G, A, R0, m⟩ => ?_
  unfold evEs at m
  refine rd_of R0 m fun x1 G1 F1 H1 A1 v1 R1 s1 p1 m1 => ?_
  refine rdA_of R1 m1 fun rs G2 F2 H2 A2 vs R2 s2 p2 m2 => ?_
  exact m2 F2 H2 A2 R2 Step.refl _ (.cons (by rw [park_park]; exact p1.step s2) p2)

/-! ### displays -/
theorem de_tup {k : Nat} (hnf : NfOk T c.nf) (h : DA X c T W es l) : DE X c T W (.Tuple es k pos) (.tup l) := by
  refine pe_imp (pe_tup h) fun σ H Q ⟨F, G, A, R0, m⟩ => ?_
  unfold evE at m
  refine rdA_of R0 m fun rs G1 F1 H1 A1 vs R1 s1 p1 m1 => ?_
  cases e1 : fzAll c.nf G1 rs with
  | none => simp [e1, Mt] at m1
  | some q =>
    obtain ⟨ds, G2⟩ := q
    simp only [e1] at m1
    obtain ⟨F2, A2, R2, s2, rp, _⟩ := fzAll_ok hnf R1 p1 e1
    split at m1
    · rename_i hl
      refine ⟨by rw [rp.length]; exact hl, fun p hp => ?_⟩
      obtain ⟨R3, s3⟩ := R2.laidF (o := .tup vs) hp
      exact m1 _ _ _ R3 (s2.trans s3) _ (.d (Rep.mk_tup (SqT.of upd_same) (rp.mono s3.f))) Nw.d
    · exact m1.elim
theorem de_lst (hnf : NfOk T c.nf) (h : DA X c T W es l) : DE X c T W (.List es pos) (.lst l) := by
  refine pe_imp (pe_lst h) fun σ H Q ⟨F, G, A, R0, m⟩ => ?_
  unfold evE at m
  refine rdA_of R0 m fun rs G1 F1 H1 A1 vs R1 s1 p1 m1 => ?_
  cases e1 : fzAll c.nf G1 rs with
  | none => simp [e1, Mt] at m1
  | some q =>
    obtain ⟨ds, G2⟩ := q
    simp only [e1] at m1
    obtain ⟨F2, A2, R2, s2, rp, _⟩ := fzAll_ok hnf R1 p1 e1
    split at m1
    · rename_i hl
      refine ⟨by rw [rp.length]; exact hl, fun p hp => ?_⟩
      obtain ⟨R3, s3⟩ := R2.laid (o := .lst vs) hp
      exact m1 _ _ _ R3 (s2.trans s3) _ (.ol upd_same rp (none_le R2.sub hp) (R2.nown hp)) fun ds l _ e => by
        cases e
        exact .inl (s1.k _ hp)
    · exact m1.elim

/-! ### and, or, not, if, as values -/
theorem de_not (hK : T.K = X.K) (ha : DE X c T W a x) : DE X c T W (.UnaryOp .Not a pos) (.not x) := by
  refine pe_imp (pe_notT ha) fun σ H Q ⟨F, G, A, R0, m⟩ => ?_
  unfold evE at m
  refine rd_of R0 m fun x1 G1 F1 H1 A1 v1 R1 s1 p1 m1 => ?_
  obtain ⟨k, _, t, q⟩ := truR_ok R1 p1 m1.bind
  rw [hK] at t
  exact ⟨k, t, q F1 H1 A1 R1 Step.refl _ (.d (Rep.of_flat rfl)) Nw.d⟩
theorem rd_one {σ : St} {F H : Hp} {A : Ad} {G : List Sl} {Q : VK} (R0 : Rel T F H σ G A) (m : Mt T W σ F H A (evE c x G) fun r _ F' H' A' => ∀ v, RepR T F' H' σ A' v r → Nw H A v r → Q v H') : rdE c T W x σ H Q := ⟨F, G, A, R0, m⟩
theorem Mt.nw {α : Type} {σ : St} {F0 H0 F H : Hp} {A0 A : Ad} {r : Res R} {Q : VK} (s : Step F0 H0 A0 F H A) (m : Mt T W σ F H A r fun r _ F' H' A' => ∀ v, RepR T F' H' σ A' v r → Nw H0 A0 v r → Q v H') :
    Mt T W σ F H A r fun r _ F' H' A' => ∀ v, RepR T F' H' σ A' v r → Nw H A v r → Q v H' :=
  m.imp fun r G' F' H' A' R1 s1 h v rp nw => h v rp (nw.back s)
theorem de_one {op : BoolOp} (h : DE X c T W a x) : DE X c T W (.BoolOp op [a] pos) x := pe_one h
theorem de_and {rest : List Expr} (hK : T.K = X.K) (ha : DE X c T W a x) (hb : DE X c T W (.BoolOp .And (b :: rest) pos) y) : DE X c T W (.BoolOp .And (a :: b :: rest) pos) (.and x y) := by
  refine pe_imp (pe_andT ha hb) fun σ H Q ⟨F, G, A, R0, m⟩ => ?_
  unfold evE at m
  refine rd_of R0 m fun x1 G1 F1 H1 A1 v1 R1 s1 p1 m1 => ?_
  obtain ⟨k, _, t, q⟩ := truR_ok R1 p1 m1.bind
  rw [hK] at t
  refine ⟨k, t, ?_⟩
  cases k with
  | true => exact rd_one R1 (Mt.nw (α := R) s1 (by simpa using q))
  | false =>
    simp only [Bool.false_eq_true, if_false] at q ⊢
    exact q F1 H1 A1 R1 Step.refl _ p1 (by cases x1 <;> first | exact Nw.d | exact Nw.al)
theorem de_or {rest : List Expr} (hK : T.K = X.K) (ha : DE X c T W a x) (hb : DE X c T W (.BoolOp .Or (b :: rest) pos) y) : DE X c T W (.BoolOp .Or (a :: b :: rest) pos) (.or x y) := by
  refine pe_imp (pe_orT ha hb) fun σ H Q ⟨F, G, A, R0, m⟩ => ?_
  unfold evE at m
  refine rd_of R0 m fun x1 G1 F1 H1 A1 v1 R1 s1 p1 m1 => ?_
  obtain ⟨k, _, t, q⟩ := truR_ok R1 p1 m1.bind
  rw [hK] at t
  refine ⟨k, t, ?_⟩
  cases k with
  | false => exact rd_one R1 (Mt.nw (α := R) s1 (by simpa using q))
  | true =>
    simp only [if_true] at q ⊢
    exact q F1 H1 A1 R1 Step.refl _ p1 (by cases x1 <;> first | exact Nw.d | exact Nw.al)
theorem evE_ite {t : E} {G : List Sl} : evE c (.ite t x y) G = resBind (evT c t G) fun k G1 => if k = true then evE c x G1 else evE c y G1 := by
  rw [evE]
  unfold evT
  cases evE c t G <;> rfl
theorem de_ite {t : E} {te : Expr} (ht : DT X c T W te t) (ha : DE X c T W a x) (hb : DE X c T W b y) : DE X c T W (.IfExp te a b pos) (.ite t x y) := by
  refine pe_imp (pe_ifExp ht ha hb) fun σ H Q ⟨F, G, A, R0, m⟩ => ?_
  rw [evE_ite] at m
  refine rdT_of R0 m fun k G1 F1 H1 A1 R1 s1 m1 => ?_
  cases k with
  | true => exact rd_one R1 (Mt.nw (α := R) s1 (by simpa using m1))
  | false => exact rd_one R1 (Mt.nw (α := R) s1 (by simpa using m1))
end
end Mp

/-! Mp7: subscripts, slices, built-ins, methods of lists, fields. -/
namespace Mp
open PySem L2

/-- what is known of a class -/
structure ClsOk (T : Tx) (c : Nat) : Prop where
  cl : Cls T.K (T.ci c).addr
  na : ∀ f ∈ (T.ci c).flds, NoAttr T.K (T.ci c).addr f
  nd : (T.ci c).flds.Nodup
  few : (T.ci c).flds.length ≤ 1000
  ha : PySem.W.findIn T.K (.ref (T.ci c).addr) "__class__" = some (some (.builtin "object.__class__"))
  hn : PySem.W.specialIn T.K (.builtin "object.__class__") "__get__" = some (some (.builtin "getset_descriptor.__get__"))
  htk : PySem.W.takesIn T.K (.builtin "object.__class__") = some true
  hm : PySem.W.mroIn T.K (T.ci c).addr (.type "object") = some true
abbrev TxOk (T : Tx) : Prop := ∀ c, c < T.nc → ClsOk T c
/-- .. of a class of exceptions -/
structure ExcOk (T : Tx) (c : Nat) : Prop where
  cl : (PySem.W.clsIn T.K (T.ea c)).isSome = true
  ga : PySem.W.findIn T.K (.ref (T.ea c)) "__getattribute__" = some (some (.builtin "BaseException.__getattribute__"))
  gt : PySem.W.findIn T.K (.ref (T.ea c)) "__getattr__" = some none
  sub : PySem.W.subIn T.K (.ref (T.ea c)) (.type "BaseException") = some true
  ha : PySem.W.findIn T.K (.ref (T.ea c)) "__class__" = some (some (.builtin "object.__class__"))
  hn : PySem.W.specialIn T.K (.builtin "object.__class__") "__get__" = some (some (.builtin "getset_descriptor.__get__"))
  htk : PySem.W.takesIn T.K (.builtin "object.__class__") = some true
  hm : PySem.W.mroIn T.K (T.ea c) (.type "object") = some true
abbrev ExOk (T : Tx) : Prop := ∀ c, c < T.ne → ExcOk T c

section
variable {T : Tx} {W : WX} {σ : St} {F F1 F2 H H1 H2 H' : Hp} {A A1 A2 : Ad} {α β : Type} {G G1 : List Sl} {v : V} {r : R}
theorem atI_map {vs : List V} {ds : List D} {i : Int} {d : D} (h : Reps T F vs ds) (e : atI ds i = some d) : ∃ v, atI vs i = some v ∧ Rep T F v d := by
  unfold atI at e ⊢
  rw [h.length]
  cases q : ixN ds.length i with
  | none => rw [q] at e; cases e
  | some j =>
    rw [q] at e
    exact h.get (i := j) e
theorem cut_map {vs : List V} {ds : List D} {lo hi : Option Int} (h : Reps T F vs ds) : Reps T F (cutV vs lo hi) (cutD ds lo hi) := by
  unfold cutV cutD
  rw [h.length]
  exact (h.drop _).take _
inductive Vws (T : Tx) (F H : Hp) : List V → List D → Prop where
  | nil : Vws T F H [] []
  | cons {v d vs ds} (h : Vw T F H v d) (t : Vws T F H vs ds) : Vws T F H (v :: vs) (d :: ds)
theorem pkAll_ok (R0 : Rel T F H σ G A) : ∀ {rs : List R} {vs : List V} {ds : List D}, RepRs T F H σ A vs rs → pkAll G rs = some ds → Vws T F H vs ds
  | [], _, _, h, e => by
    simp [pkAll] at e
    subst e
    cases h
    exact .nil
  | r :: rs, _, _, h, e => by
    cases h with
    | cons h t =>
      dsimp only [pkAll] at e
      cases e1 : pk G r with
      | none => simp [e1] at e
      | some d =>
        cases e2 : pkAll G rs with
        | none => simp [e1, e2] at e
        | some ds =>
          simp [e1, e2] at e
          subst e
          exact .cons (R0.view h (by rw [pk_park]; exact e1)) (pkAll_ok R0 t e2)
end

section
variable {X : Cx} {c : Cf} {T : Tx} {W : WX} {a b d o e : Expr} {x y z : E} {l : Es} {es : List Expr} {pos apos : Pos}
theorem ixr_imp {r r' : R2} (h : IxR X r) (i : ∀ x y H Q, r' x y H Q → r x y H Q) : IxR X r' := fun value slice pins s σ H x y v u Q I rx ry q hs => h value slice pins s σ H x y v u Q I rx ry (i _ _ _ _ q) hs
def rIxD (T : Tx) : R2 := fun x y H Q => ∃ F d e r, Le F H ∧ Vw T F H x d ∧ Vw T F H y e ∧ ixF d e = some r ∧ ∀ v, Rep T F v r → Q v H
theorem ix_ok (hK : T.K = X.K) : IxR X (rIxD T) := ixr_imp ix_seq fun x y H Q ⟨F, d, e, r, s, hx, hy, hb, q⟩ => by
  cases d <;> cases e <;> simp [ixF] at hb
  case str.int z i =>
    obtain ⟨h1, k, h2, rfl⟩ := hb
    rw [hx.strE, hy.intE]
    exact .inr (.inr ⟨_, _, _, rfl, rfl, h1, h2, q _ (Rep.of_flat rfl)⟩)
  case tup.int l i =>
    obtain ⟨p, xs, rfl, h1, r1⟩ := hx.tupE s
    rw [hy.intE]
    obtain ⟨v, e1, e2⟩ := atI_map r1 hb
    exact .inr (.inl ⟨p, xs, i, v, rfl, rfl, hK ▸ h1, e1, q v e2⟩)
  case lst.int l i =>
    obtain ⟨p, xs, rfl, h1, r1⟩ := hx.lstE s
    rw [hy.intE]
    obtain ⟨v, e1, e2⟩ := atI_map r1 hb
    exact .inl ⟨p, xs, i, v, rfl, rfl, SqL.of h1, e1, q v e2⟩
theorem de_ix (hK : T.K = X.K) (ha : DE X c T W a x) (hb : DE X c T W b y) (hs : PlainIx b := by exact fun _ _ => rfl) : DE X c T W (.Subscript a b pos) (.ix x y) := by
  refine pe_imp (pe_ix (ix_ok hK) ha hb hs) fun σ H Q ⟨F, G, A, R0, m⟩ => ?_
  unfold evE at m
  refine rd_of R0 m fun x1 G1 F1 H1 A1 v1 R1 s1 p1 m1 => ?_
  refine rd_of R1 m1 fun x2 G2 F2 H2 A2 v2 R2 s2 p2 m2 => ?_
  cases e1 : pk G2 (park x1) with
  | none => simp [e1, Mt] at m2
  | some d =>
    cases e2 : pk G2 (park x2) with
    | none => simp [e1, e2, Mt] at m2
    | some e =>
      simp only [e1, e2] at m2
      obtain ⟨r, hr, q⟩ := m2.okE
      obtain ⟨r', hr', rfl⟩ := Option.map_eq_some_iff.mp hr
      exact ⟨F2, d, e, r', R2.sub, R2.view (p1.step s2) e1, R2.view p2 e2, hr', fun v hv => q F2 H2 A2 R2 Step.refl v (.d hv) Nw.d⟩

/-! ### slices -/
def rdO (c : Cf) (T : Tx) (W : WX) (l : Eo) : TO := fun σ H Q => ∃ F G A, Rel T F H σ G A ∧ Mt T W σ F H A (evEo c l G) fun o _ _ H' _ => Q o H'
abbrev DO (X : Cx) (c : Cf) (T : Tx) (W : WX) (e : Option Expr) (l : Eo) : Prop := PO X e (rdO c T W l)
theorem po_imp {e : Option Expr} {t t' : TO} (h : PO X e t) (i : ∀ σ H Q, t' σ H Q → t σ H Q) : PO X e t' := ⟨fun pins s σ H Q I hq => h.run pins s σ H Q I (i σ H Q hq)⟩
theorem do_none : DO X c T W none .no := po_imp po_none fun σ H Q ⟨F, G, A, R0, m⟩ => m F H A R0 Step.refl
theorem do_some (h : DE X c T W a x) : DO X c T W (some a) (.so x) := po_imp (po_some h) fun σ H Q ⟨F, G, A, R0, m⟩ => by
  unfold evEo at m
  refine rd_of R0 m fun x1 G1 F1 H1 A1 v1 R1 s1 p1 m1 => ?_
  unfold intR at m1
  cases e1 : pk G1 (park x1) with
  | none => simp [e1, Mt] at m1
  | some d =>
    cases d <;> simp only [e1] at m1
    case int i => exact ⟨i, (R1.view p1 e1).intE, m1 F1 H1 A1 R1 Step.refl⟩
    all_goals exact m1.elim
theorem slr_imp {r r' : V → Option Int → Option Int → Hp → VK → Prop} (h : SlR X r) (i : ∀ x l u H Q, r' x l u H Q → r x l u H Q) : SlR X r' := fun pins s σ H x v vl vu lo hi sl Q I rx hs pl pu q => h pins s σ H x v vl vu lo hi sl Q I rx hs pl pu (i _ _ _ _ _ q)
def rSlD (T : Tx) : V → Option Int → Option Int → Hp → VK → Prop := fun x lo hi H Q => ∃ F d r, Le F H ∧ Vw T F H x d ∧ slF d lo hi = some r ∧ OpRes T F H r Q
theorem sl_ok (hK : T.K = X.K) : SlR X (rSlD T) := slr_imp (SlR.or sl_list (SlR.or sl_tup sl_str)) fun x lo hi H Q ⟨F, d, r, s, hx, hb, q⟩ => by
  cases d <;> simp [slF] at hb
  case str z =>
    obtain ⟨h1, rfl⟩ := hb
    rw [hx.strE]
    exact .inr (.inr ⟨_, rfl, h1, q.flat⟩)
  case tup l =>
    obtain ⟨h1, rfl⟩ := hb
    obtain ⟨p, xs, rfl, h2, r1⟩ := hx.tupE s
    refine .inr (.inl ⟨p, xs, rfl, hK ▸ h2, fun z => h1 ?_, fun p hp => q _ _ (.tup hp (cut_map r1))⟩)
    unfold cutD
    rw [← r1.length, z.1, z.2]
    simp [r1.length]
  case lst l =>
    subst hb
    obtain ⟨p, xs, rfl, h2, r1⟩ := hx.lstE s
    exact .inl ⟨p, xs, rfl, SqL.of h2, fun p hp => q _ _ (.lst hp (cut_map r1))⟩
theorem de_sl {lo hi : Option Expr} {ly hy : Eo} {p2 : Pos} (hK : T.K = X.K) (ha : DE X c T W a x) (hl : DO X c T W lo ly) (hh : DO X c T W hi hy) : DE X c T W (.Subscript a (.Slice lo hi none p2) pos) (.sl x ly hy) := by
  refine pe_imp (pe_slice (sl_ok hK) ha hl hh) fun σ H Q ⟨F, G, A, R0, m⟩ => ?_
  unfold evE at m
  refine rd_of R0 m fun x1 G1 F1 H1 A1 v1 R1 s1 p1 m1 => ?_
  refine ⟨F1, G1, A1, R1, m1.bind.imp fun l G2 F2 H2 A2 R2 s2 m2 => ?_⟩
  have m2 := m2.start s2
  refine ⟨F2, G2, A2, R2, m2.bind.imp fun h G3 F3 H3 A3 R3 s3 m3 => ?_⟩
  have m3 := m3.start s3
  cases e1 : pk G3 (park x1) with
  | none => simp [e1, Mt] at m3
  | some d =>
    simp only [e1] at m3
    obtain ⟨r, hr, q⟩ := op_end R3 ((s1.trans s2).trans s3) m3
    exact ⟨F3, d, r, R3.sub, R3.view ((p1.step s2).step s3) e1, hr, q⟩
theorem de_rev {k : Nat} {p1 p2 p3 : Pos} (hK : T.K = X.K) (ha : DE X c T W a x) : DE X c T W (.Subscript a (.Slice none none (some (.UnaryOp .USub (.Constant (.int 1) k p1) p2)) p3) pos) (.rev x) := by
  refine pe_imp (pe_revL ha) fun σ H Q ⟨F, G, A, R0, m⟩ => ?_
  unfold evE at m
  refine rd_of R0 m fun x1 G1 F1 H1 A1 v1 R1 s1 p1 m1 => ?_
  cases e1 : pk G1 (park x1) with
  | none => simp [e1, Mt] at m1
  | some d =>
    cases d <;> simp only [e1] at m1
    case lst l =>
      obtain ⟨p, xs, rfl, h2, r1⟩ := (R1.view p1 e1).lstE R1.sub
      refine ⟨p, xs, rfl, SqL.of h2, fun q hq => ?_⟩
      obtain ⟨R3, s3⟩ := R1.laid (o := .lst xs.reverse) hq
      exact m1 _ _ _ R3 s3 _ (.ol upd_same r1.reverse (none_le R1.sub hq) (R1.nown hq)) fun ds l _ e => by
        cases e
        exact .inl (s1.k _ hq)
    all_goals exact m1.elim

/-! ### built-ins -/
theorem callr_imp {f : Value} {r r' : List V → Hp → VK → Prop} (h : CallR X f r) (i : ∀ xs H Q, r' xs H Q → r xs H Q) : CallR X f r' := fun pins s σ H xs us Q I rx q => h pins s σ H xs us Q I rx (i _ _ _ q)
def rBi (T : Tx) (k : Bi) : List V → Hp → VK → Prop := fun xs H Q => ∃ F ds r, Le F H ∧ Vws T F H xs ds ∧ biG k ds = some r ∧ OpRes T F H r Q
theorem Vws.one {F H : Hp} {xs : List V} {d : D} (h : Vws T F H xs [d]) : ∃ v, xs = [v] ∧ Vw T F H v d := by
  cases h with
  | cons h t => cases t; exact ⟨_, rfl, h⟩
theorem Vws.two {F H : Hp} {xs : List V} {d e : D} (h : Vws T F H xs [d, e]) : ∃ v w, xs = [v, w] ∧ Vw T F H v d ∧ Vw T F H w e := by
  cases h with
  | cons h t => obtain ⟨w, rfl, h2⟩ := t.one; exact ⟨_, _, rfl, h, h2⟩
theorem bi_len (hK : T.K = X.K) : CallR X (.builtin "len") (rBi T .len) := callr_imp (CallR.or call_len_seq call_len_str) fun xs H Q ⟨F, ds, r, s, hv, hb, q⟩ => by
  match ds, hb with
  | [.lst l], hb =>
    obtain ⟨v, rfl, hz⟩ := hv.one
    obtain ⟨p, xs, rfl, h2, r1⟩ := hz.lstE s
    cases hb
    exact .inl ⟨p, xs, rfl, .inl (SqL.of h2), by rw [r1.length]; exact q.flat⟩
  | [.tup l], hb =>
    obtain ⟨v, rfl, hz⟩ := hv.one
    obtain ⟨p, xs, rfl, h2, r1⟩ := hz.tupE s
    cases hb
    exact .inl ⟨p, xs, rfl, .inr (hK ▸ h2), by rw [r1.length]; exact q.flat⟩
  | [.str z], hb =>
    obtain ⟨v, rfl, hz⟩ := hv.one
    rw [hz.strE]
    have hb : (if z.length ≤ sizeLine then some (R.d (.int z.length)) else none) = some r := hb
    split at hb
    · rename_i h1
      cases hb
      exact .inr ⟨z, rfl, h1, q.flat⟩
    · cases hb
theorem bi_abs : CallR X (.builtin "abs") (rBi T .abs) := callr_imp call_abs fun xs H Q ⟨F, ds, r, s, hv, hb, q⟩ => by
  match ds, hb with
  | [.int i], hb =>
    obtain ⟨v, rfl, hz⟩ := hv.one
    rw [hz.intE]
    cases hb
    exact ⟨i, rfl, q.flat⟩
theorem bi_max (hc : X.calm = true) : CallR X (.builtin "max") (rBi T .max) := callr_imp (call_max2 hc) fun xs H Q ⟨F, ds, r, s, hv, hb, q⟩ => by
  match ds, hb with
  | [.int i, .int j], hb =>
    obtain ⟨v, w, rfl, hz, hw⟩ := hv.two
    rw [hz.intE, hw.intE]
    cases hb
    exact ⟨i, j, rfl, q.flat⟩
theorem bi_min (hc : X.calm = true) : CallR X (.builtin "min") (rBi T .min) := callr_imp (call_min2 hc) fun xs H Q ⟨F, ds, r, s, hv, hb, q⟩ => by
  match ds, hb with
  | [.int i, .int j], hb =>
    obtain ⟨v, w, rfl, hz, hw⟩ := hv.two
    rw [hz.intE, hw.intE]
    cases hb
    exact ⟨i, j, rfl, q.flat⟩
theorem bi_str : CallR X (.type "str") (rBi T .str) := callr_imp call_str_int fun xs H Q ⟨F, ds, r, s, hv, hb, q⟩ => by
  match ds, hb with
  | [.int i], hb =>
    obtain ⟨v, rfl, hz⟩ := hv.one
    rw [hz.intE]
    have hb : (if i.natAbs.log2 < 1920 then some (R.d (.str (toString i))) else none) = some r := hb
    split at hb
    · rename_i h1
      cases hb
      exact ⟨i, rfl, h1, q.flat⟩
    · cases hb
theorem bi_int : CallR X (.type "int") (rBi T .int) := callr_imp call_int1 fun xs H Q ⟨F, ds, r, s, hv, hb, q⟩ => by
  match ds, hb with
  | [.int i], hb =>
    obtain ⟨v, rfl, hz⟩ := hv.one
    rw [hz.intE]
    cases hb
    exact .inl ⟨i, rfl, q.flat⟩
  | [.bl k], hb =>
    obtain ⟨v, rfl, hz⟩ := hv.one
    rw [hz.blE]
    cases hb
    exact .inr ⟨k, rfl, q.flat⟩
theorem bi_list (hK : T.K = X.K) : CallR X (.type "list") (rBi T .list) := callr_imp call_list_of fun xs H Q ⟨F, ds, r, s, hv, hb, q⟩ => by
  match ds, hb with
  | [.lst l], hb =>
    obtain ⟨v, rfl, hz⟩ := hv.one
    obtain ⟨p, xs, rfl, h2, r1⟩ := hz.lstE s
    cases hb
    exact ⟨p, xs, rfl, .inl (SqL.of h2), fun p hp => q _ _ (.lst hp r1)⟩
  | [.tup l], hb =>
    obtain ⟨v, rfl, hz⟩ := hv.one
    obtain ⟨p, xs, rfl, h2, r1⟩ := hz.tupE s
    cases hb
    exact ⟨p, xs, rfl, .inr (hK ▸ h2), fun p hp => q _ _ (.lst hp r1)⟩
theorem bi_tuple (hK : T.K = X.K) : CallR X (.type "tuple") (rBi T .tuple) := callr_imp call_tuple_of fun xs H Q ⟨F, ds, r, s, hv, hb, q⟩ => by
  match ds, hb with
  | [.lst l], hb =>
    obtain ⟨v, rfl, hz⟩ := hv.one
    obtain ⟨p, xs, rfl, h2, r1⟩ := hz.lstE s
    cases hb
    exact ⟨p, xs, rfl, .inl ⟨SqL.of h2, fun p hp => q _ _ (.tup hp r1)⟩⟩
  | [.tup l], hb =>
    obtain ⟨v, rfl, hz⟩ := hv.one
    cases hb
    cases hz with
    | rep h =>
      obtain ⟨p, xs, rfl, h2, r1⟩ := h.tupE
      exact ⟨p, xs, rfl, .inr ⟨hK ▸ sqT_le s h2, q _ _ (.same h)⟩⟩
theorem blL_ok {F : Hp} : ∀ {l : List D} {bs : List Bool} {xs : List V}, Reps T F xs l → blL l = some bs → xs = bs.map V.bl
  | [], _, _, h, e => by
    simp [blL] at e
    subst e
    cases h
    rfl
  | d :: l, _, _, h, e => by
    cases d <;> simp [blL] at e
    obtain ⟨bs, e1, rfl⟩ := e
    obtain ⟨v, ws, rfl, h1, h2⟩ := h.consE
    rw [h1.blE, blL_ok h2 e1]
    rfl
theorem intL_ok {F : Hp} : ∀ {l : List D} {ns : List Int} {xs : List V}, Reps T F xs l → intL l = some ns → xs = ns.map V.int
  | [], _, _, h, e => by
    simp [intL] at e
    subst e
    cases h
    rfl
  | d :: l, _, _, h, e => by
    cases d <;> simp [intL] at e
    obtain ⟨bs, e1, rfl⟩ := e
    obtain ⟨v, ws, rfl, h1, h2⟩ := h.consE
    rw [h1.intE, intL_ok h2 e1]
    rfl
theorem bi_all (hc : X.calm = true) : CallR X (.builtin "all") (rBi T .all) := callr_imp (cr_all hc) fun xs H Q ⟨F, ds, r, s, hv, hb, q⟩ => by
  match ds, hb with
  | [.lst l], hb =>
    obtain ⟨v, rfl, hz⟩ := hv.one
    obtain ⟨p, xs, rfl, h2, r1⟩ := hz.lstE s
    obtain ⟨bs, e1, rfl⟩ := Option.map_eq_some_iff.mp hb
    have := blL_ok r1 e1
    subst this
    exact ⟨p, bs, rfl, SqL.of h2, q.flat⟩
theorem bi_any (hc : X.calm = true) : CallR X (.builtin "any") (rBi T .any) := callr_imp (cr_any hc) fun xs H Q ⟨F, ds, r, s, hv, hb, q⟩ => by
  match ds, hb with
  | [.lst l], hb =>
    obtain ⟨v, rfl, hz⟩ := hv.one
    obtain ⟨p, xs, rfl, h2, r1⟩ := hz.lstE s
    obtain ⟨bs, e1, rfl⟩ := Option.map_eq_some_iff.mp hb
    have := blL_ok r1 e1
    subst this
    exact ⟨p, bs, rfl, SqL.of h2, q.flat⟩
theorem bi_sum (hc : X.calm = true) : CallR X (.builtin "sum") (rBi T .sum) := callr_imp (cr_sum hc) fun xs H Q ⟨F, ds, r, s, hv, hb, q⟩ => by
  match ds, hb with
  | [.lst l], hb =>
    obtain ⟨v, rfl, hz⟩ := hv.one
    obtain ⟨p, xs, rfl, h2, r1⟩ := hz.lstE s
    obtain ⟨bs, e1, rfl⟩ := Option.map_eq_some_iff.mp hb
    have := intL_ok r1 e1
    subst this
    exact ⟨p, bs, rfl, SqL.of h2, q.flat⟩
theorem de_bi_of {σ : St} {H : Hp} {Q : VK} {k : Bi} (h : rdE c T W (.bi k l) σ H Q) : tCB (rBi T k) (rdA c T W l) σ H Q := by
  obtain ⟨F, G, A, R0, m⟩ := h
  unfold evE at m
  refine rdA_of R0 m fun rs G1 F1 H1 A1 vs R1 s1 p1 m1 => ?_
  cases e1 : pkAll G1 rs with
  | none => simp [e1, Mt] at m1
  | some ds =>
    simp only [e1] at m1
    obtain ⟨r, hr, q⟩ := op_end R1 s1 m1
    exact ⟨F1, ds, r, R1.sub, pkAll_ok R1 p1 e1, hr, q⟩
/-- a built-in function, a built-in class, by name -/
theorem de_bi {nm : Str} {id : String} {p : Pos} (k : Bi) (hr : CallR X (.builtin id) (rBi T k)) (hg : Gl X nm) (hm : X.mg nm = none) (hv : bootBuiltins nm = some (.builtin id)) (h : DA X c T W (e :: es) l) (hn : nm ≠ "__name__" := by decide) (hdb : (nm == ("__debug__" : Str)) = false := by decide)
    (he : starEach (e :: es) X.env = (false, eval e X.env) :: starEach es X.env := by rfl) (hpl : (backTo pos (starEach es X.env)).any (·.1) = false := by rfl) : DE X c T W (.Call (.Name nm p) (e :: es) [] pos) (.bi k l) :=
  pe_imp (pe_callB hr hg hm hv h hn hdb he hpl) fun σ H Q h => de_bi_of h
theorem de_bt {nm : Str} {id : String} {p : Pos} (k : Bi) (hr : CallR X (.type id) (rBi T k)) (hg : Gl X nm) (hm : X.mg nm = none) (hv : bootBuiltins nm = some (.type id)) (h : DA X c T W (e :: es) l) (hn : nm ≠ "__name__" := by decide) (hdb : (nm == ("__debug__" : Str)) = false := by decide)
    (he : starEach (e :: es) X.env = (false, eval e X.env) :: starEach es X.env := by rfl) (hpl : (backTo pos (starEach es X.env)).any (·.1) = false := by rfl) : DE X c T W (.Call (.Name nm p) (e :: es) [] pos) (.bi k l) :=
  pe_imp (pe_callTy hr hg hm hv h hn hdb he hpl) fun σ H Q h => de_bi_of h
/-- x.bit_length() -/
theorem evE_bits {G : List Sl} : evE c (.bi .bits (.cons x .nil)) G = resBind (evE c x G) fun x1 G1 => match pk G1 (park x1) with
    | some (.int i) => .ok (.d (.int (Builtin.Int.intBits i : Nat))) G1
    | _ => .st := by
  rw [evE, evEs]
  cases evE c x G with
  | ok r G1 =>
    simp only [resBind, evEs, pkAll, pk_park]
    cases pk G1 r with
    | none => rfl
    | some d => cases d <;> rfl
  | ex e G1 => rfl
  | st => rfl
theorem de_bits (ha : DE X c T W o x) (hbase : attributeBase o "bit_length" X.env (eval o X.env) = eval o X.env := by rfl) (hline : (apos.endLine == pos.line) = true := by rfl) : DE X c T W (.Call (.Attribute o "bit_length" apos) [] [] pos) (.bi .bits (.cons x .nil)) := by
  refine pe_imp (pe_bits ha hbase hline) fun σ H Q ⟨F, G, A, R0, m⟩ => ?_
  rw [evE_bits] at m
  refine rd_of R0 m fun x1 G1 F1 H1 A1 v1 R1 s1 p1 m1 => ?_
  cases e1 : pk G1 (park x1) with
  | none => simp [e1, Mt] at m1
  | some d =>
    cases d <;> simp only [e1] at m1
    case int i => exact ⟨i, (R1.view p1 e1).intE, m1 F1 H1 A1 R1 Step.refl _ (.d (Rep.of_flat rfl)) Nw.d⟩
    all_goals exact m1.elim

/-! ### isinstance -/
structure IsiOk (T : Tx) (t : Ty) (u : Value) : Prop where
  non : PySem.W.kitOne T.K (.type "NoneType") u = some (isTy t .non)
  bl : ∀ b, PySem.W.kitOne T.K (.type "bool") u = some (isTy t (.bl b))
  int : ∀ i, PySem.W.kitOne T.K (.type "int") u = some (isTy t (.int i))
  str : ∀ s, PySem.W.kitOne T.K (.type "str") u = some (isTy t (.str s))
  tup : ∀ l, PySem.W.kitOne T.K (.type "tuple") u = some (isTy t (.tup l))
  lst : ∀ l, PySem.W.kitOne T.K (.type "list") u = some (isTy t (.lst l))
  ins : ∀ c l, c < T.nc → PySem.W.kitOne T.K (.ref (T.ci c).addr) u = some (isTy t (.ins c l))
  exc : ∀ c l, c < T.ne → PySem.W.kitOne T.K (.ref (T.ea c)) u = some (isTy t (.exc c l))
theorem isi_ok (hK : T.K = X.K) (hT : TxOk T) {t : Ty} {F H : Hp} {v : V} {d : D} {u : Value} (h : IsiOk T t u) (s : Le F H) (hv : Vw T F H v d) (he : okE d = true) :
    ∃ ty, TyX X.K H v ty ∧ PySem.W.kitOne X.K ty u = some (isTy t d) := by
  rw [← hK]
  cases d with
  | non => rw [hv.nonE]; exact ⟨_, .base .non, h.non⟩
  | bl b => rw [hv.blE]; exact ⟨_, .base (.bl _), h.bl b⟩
  | int b => rw [hv.intE]; exact ⟨_, .base (.int _), h.int b⟩
  | str b => rw [hv.strE]; exact ⟨_, .base (.str _), h.str b⟩
  | tup l =>
    obtain ⟨a, xs, rfl, h1, _⟩ := hv.tupE s
    refine ⟨.type "tuple", ?_, h.tup l⟩
    rcases h1 with (h1 | ⟨o, h1⟩) | ⟨o, its, n, h1, h2, _⟩
    · exact .base (.tup h1)
    · exact .fTuple h1
    · exact .kTuple h1 h2
  | lst l =>
    obtain ⟨a, xs, rfl, h1, _⟩ := hv.lstE s
    exact ⟨_, .base (.lst h1), h.lst l⟩
  | ins c l =>
    obtain ⟨a, dx, fs, rfl, h1, _, h2, _⟩ := hv.insE s
    have k := hT c h2.2
    exact ⟨_, .base (.ins h1 k.cl k.ha k.hn k.htk k.hm), h.ins c l h2.2⟩
  | exc c l => cases he
/-- the object of an exception that was caught -/
theorem exc_at {F H : Hp} {a : Addr} {c : Nat} {dx : Option Addr} {fs : List (Str × V)} {pins : List (Addr × Obj)} {σ : St} {st : Shared} (I : Inv X pins σ H st) (s : Le F H) (h : F a = some (ExH (.ref (T.ea c)) dx a)) (q : (dx = none ∧ fs = []) ∨ ∃ x w, dx = some x ∧ F x = some (.xd fs) ∧ fs = [(T.en c, w)]) :
    ∃ oe od, PySem.W.InstAt st.heap a oe (T.ea c) od ∧ ∀ x, dx = some x → ∃ o, od = some o ∧ st.heap.get? x = some o := by
  obtain ⟨⟨oe, vs, e1, z, e2⟩, _, _⟩ := I.hok a _ (s _ _ h)
  have no : PySem.W.notCls oe = true := by
    unfold PySem.W.notCls
    rw [e2]
  rcases q with ⟨rfl, _⟩ | ⟨x, w, rfl, hx, _⟩
  · exact ⟨oe, none, ⟨e1, z.1, no, by rw [z.2]; trivial⟩, fun x e => nomatch e⟩
  · obtain ⟨mA, ⟨o, _, _, ho, _⟩, _⟩ := (show ObjOk X.prog X.w H st.heap x (.xd fs) from I.hok x _ (s _ _ hx))
    exact ⟨oe, some o, ⟨e1, z.1, no, by rw [z.2]; exact ho⟩, fun y e => by cases e; exact ⟨o, rfl, ho⟩⟩
def rIsiD (T : Tx) (t : Ty) : List V → Hp → VK → Prop := fun xs H Q => ∃ F d v cv u, Le F H ∧ xs = [v, cv] ∧ ClsV cv u ∧ IsiOk T t u ∧ Vw T F H v d ∧ Q (.bl (isTy t d)) H
theorem isi_call (hK : T.K = X.K) (hT : TxOk T) (hX : ExOk T) (t : Ty) : CallR X (.builtin "isinstance") (rIsiD T t) := by
  intro pins s σ H xs us Q I r h
  obtain ⟨F, d, v, cv, u, le, rfl, hu, hi, hv, q⟩ := h
  by_cases he : okE d = true
  · obtain ⟨ty, h1, h2⟩ := isi_ok hK hT hi le hv he
    exact call_isi pins s σ H _ us Q I r ⟨v, cv, ty, u, _, rfl, hu, h1, h2, q⟩
  · cases d with
    | exc c l =>
      obtain ⟨a, dx, fs, rfl, h1, hc, h2, _⟩ := hv.excE.excE
      obtain ⟨u1, u2, rfl, r1, r2⟩ := vals2 r
      have e2 := hu.eq r2
      subst e2
      cases (show u1 = Value.ref a from r1)
      obtain ⟨oe, od, J, _⟩ := exc_at I le h1 h2
      have k := hX c hc
      have kin : T.K.In s.heap := hK ▸ I.kIn
      exact PySem.W.kia_one (PySem.W.kitx_exc k.cl k.ga k.gt k.sub k.ha k.hn k.htk k.hm) kin J (hi.exc c l hc) (fun z => nomatch z) fun tk => ⟨.bl _, H, I.tok tk, rfl, q⟩
    | _ => exact absurd rfl he
end
end Mp

/-! Mp8: isinstance, methods of lists, fields, the script, calls. -/
namespace Mp
open PySem L2

section
variable {T : Tx} {W : WX} {σ σ' : St} {F F' F1 F2 H H1 H2 H' : Hp} {A A' A1 A2 : Ad} {α β : Type} {G G1 G' : List Sl} {v : V} {r : R} {i : Nat}
/-- everything that stood is kept -/
theorem Rel.kept (R0 : Rel T F H σ G A) (le : Le F F') (sub : Le F' H') (hh : Le H H') (hn : ∀ a, F' a ≠ none → F a ≠ none ∨ H a = none) (hk : ∀ a, H' a = none → H a = none) : Rel T F' H' σ G A ∧ Step F H A F' H' A := by
  refine ⟨⟨sub, R0.len, fun j x h => (R0.sl j x h).le le hh, R0.out, fun j a h => ?_, R0.inj, fun l h => ⟨le_ne hh (R0.bs l h).1, (R0.bs l h).2⟩⟩, ⟨le, fun a o h _ => hh a o h, fun a h => (hn a h).elim .inl fun z => .inr (.inr z), fun j a h => .inl ⟨j, h⟩, hk, rfl⟩⟩
  cases q : F' a with
  | none => rfl
  | some o =>
    rcases hn a (by rw [q]; exact fun z => nomatch z) with z | z
    · exact absurd (R0.fr j a h) z
    · exact absurd z (R0.own h)
/-- an own list changed in its place -/
theorem Rel.mut {l : List D} (R0 : Rel T F H σ G A) (hg : G[i]? = some (.ol l)) : ∃ a xs, A i = some a ∧ σ[i]? = some (some (.ref a)) ∧ H a = some (.lst xs) ∧ Reps T F xs l ∧
    ∀ ys l', Reps T F ys l' → Rel T F (upd H a (.lst ys)) σ (G.set i (.ol l')) A ∧ Step F H A F (upd H a (.lst ys)) A := by
  have q := R0.sl i _ hg
  have hi := get_lt hg
  revert q
  generalize hai : A i = ai
  generalize hvi : σ[i]? = vi
  intro q
  cases q with
  | ol h e =>
    rename_i a xs
    refine ⟨a, xs, rfl, rfl, h, e, fun ys l' e' => ?_⟩
    have nf := R0.fr i a hai
    have key := R0.put (σ' := σ) (ai := some a) (s := .ol l') (F' := F) (H' := upd H a (.lst ys)) hi (Le.refl _) (fun b u q => by
      rw [upd_ne (fun z => by rw [z, nf] at q; cases q)]
      exact R0.sub b u q) (fun b u q n => by
      rw [upd_ne (fun z => n (by rw [z]; exact hai))]
      exact q) (fun b q => by
      by_cases z : b = a
      · rw [z, upd_same] at q; cases q
      · rw [upd_ne z] at q; exact q) (fun _ _ => rfl) rfl (fun b e => by cases e; exact ⟨.inl hai, nf⟩) (fun b q => .inl q) (by rw [hvi]; exact .ol upd_same e')
    have eA : Ad.put A i (some a) = A := by rw [← hai]; exact Ad.put_id
    rw [eA] at key
    exact key
end

section
variable {X : Cx} {c : Cf} {T : Tx} {W : WX} {a b d o e : Expr} {x y z : E} {l : Es} {es : List Expr} {pos apos : Pos}
theorem evE_one {k : Bi} {G : List Sl} : evE c (.bi k (.cons x .nil)) G = resBind (evE c x G) fun x1 G1 => match pk G1 (park x1) with
    | some d => ofO (biG k [d]) G1
    | none => .st := by
  rw [evE, evEs]
  cases evE c x G with
  | ok r G1 =>
    simp only [resBind, evEs, pkAll, pk_park]
    cases pk G1 r with
    | none => rfl
    | some d => rfl
  | ex e G1 => rfl
  | st => rfl
/-- isinstance(a, cls) -/
theorem de_isi {nm : Str} {p : Pos} {cv : V} {u : Value} {t : Ty} (hK : T.K = X.K) (hT : TxOk T) (hX : ExOk T) (hg : Gl X nm) (hm : X.mg nm = none) (hv : bootBuiltins nm = some (.builtin "isinstance")) (ha : DE X c T W a x) (hb : PE X b (tC cv)) (hu : ClsV cv u) (hi : IsiOk T t u)
    (hn : nm ≠ "__name__" := by decide) (hdb : (nm == ("__debug__" : Str)) = false := by decide) (h1 : starEach [b] X.env = (false, eval b X.env) :: starEach [] X.env := by rfl)
    (he : starEach [a, b] X.env = (false, eval a X.env) :: starEach [b] X.env := by rfl) (hpl : (backTo pos (starEach [b] X.env)).any (·.1) = false := by rfl) : DE X c T W (.Call (.Name nm p) [a, b] [] pos) (.bi (.isi t) (.cons x .nil)) := by
  refine pe_imp (pe_callB (isi_call hK hT hX t) hg hm hv (pa_cons ha (pa_cons hb pa_nil h1) he) hn hdb he hpl) fun σ H Q ⟨F, G, A, R0, m⟩ => ?_
  rw [evE_one] at m
  refine rd_of R0 m fun x1 G1 F1 H1 A1 v1 R1 s1 p1 m1 => ?_
  cases e1 : pk G1 (park x1) with
  | none => simp [e1, Mt] at m1
  | some d =>
    simp only [e1] at m1
    exact ⟨F1, d, v1, cv, u, R1.sub, rfl, hu, hi, R1.view p1 e1, m1 F1 H1 A1 R1 Step.refl _ (.d (Rep.of_flat rfl)) Nw.d⟩

/-! ### methods of lists -/
def rLm (T : Tx) (k : Lm) : V → List V → Hp → VK → Prop := fun x vs H Q => ∃ F l xs ds es d ds', x = .ref l ∧ H l = some (.lst xs) ∧ Reps T F xs ds ∧ Reps T F vs es ∧ lmF k ds es = some (d, ds') ∧ ∀ v ys, Rep T F v d → Reps T F ys ds' → Q v (upd H l (.lst ys))
theorem mtr_imp {id : String} {r r' : V → List V → Hp → VK → Prop} (h : MtR X id r) (i : ∀ x vs H Q, r' x vs H Q → r x vs H Q) : MtR X id r' := fun pins s σ H x xs v us Q I rx rs q => h pins s σ H x xs v us Q I rx rs (i _ _ _ _ q)
theorem lm_append : MtR X "list.append" (rLm T .append) := mtr_imp mt_append fun x vs H Q ⟨F, l, xs, ds, es, d, ds', hx, hl, e1, e2, hf, q⟩ => by
  match es, hf with
  | [y], hf =>
    have hf : (if ds.length < sizeLine then some (D.non, ds ++ [y]) else none) = some (d, ds') := hf
    obtain ⟨v, ws, rfl, h1, h2⟩ := e2.consE
    cases h2
    split at hf
    · rename_i hlt
      cases hf
      exact ⟨l, xs, v, hx, rfl, hl, by rw [e1.length]; exact hlt, q _ _ (Rep.of_flat rfl) (e1.append (.cons h1 .nil))⟩
    · cases hf
theorem lm_pop : MtR X "list.pop" (rLm T .pop) := mtr_imp mt_pop fun x vs H Q ⟨F, l, xs, ds, es, d, ds', hx, hl, e1, e2, hf, q⟩ => by
  match es, hf with
  | [], hf =>
    have hf : (match ds[ds.length - 1]? with | some d => some (d, ds.dropLast) | none => none) = some (d, ds') := hf
    cases h0 : ds[ds.length - 1]? with
    | none => rw [h0] at hf; cases hf
    | some d0 =>
      rw [h0] at hf
      cases hf
      cases e2
      obtain ⟨v, h1, h2⟩ := e1.get h0
      exact ⟨l, xs, v, hx, rfl, hl, by rw [e1.length]; exact h1, q _ _ h2 e1.dropLast⟩
theorem lm_popAt : MtR X "list.pop" (rLm T .popAt) := mtr_imp mt_popAt fun x vs H Q ⟨F, l, xs, ds, es, d, ds', hx, hl, e1, e2, hf, q⟩ => by
  match es, hf with
  | [.int i], hf =>
    simp only [lmF] at hf
    split at hf
    · rename_i hb
      cases h1 : seqIndex? i ds.length with
      | none => simp [h1] at hf
      | some k =>
        cases h2 : ds[k]? with
        | none => simp [h1, h2] at hf
        | some d0 =>
          simp [h1, h2] at hf
          obtain ⟨rfl, rfl⟩ := hf
          obtain ⟨v, ws, rfl, h3, h4⟩ := e2.consE
          cases h4
          obtain ⟨w, h5, h6⟩ := e1.get h2
          exact ⟨l, xs, i, k, w, hx, by rw [h3.intE], hl, hb.1, hb.2, by rw [e1.length]; exact h1, h5, q _ _ h6 (e1.eraseIdx k)⟩
    · cases hf
theorem lm_insert : MtR X "list.insert" (rLm T .insert) := mtr_imp mt_insert fun x vs H Q ⟨F, l, xs, ds, es, d, ds', hx, hl, e1, e2, hf, q⟩ => by
  match es, hf with
  | [.int i, y], hf =>
    simp only [lmF] at hf
    split at hf
    · rename_i hb
      simp at hf
      obtain ⟨rfl, rfl⟩ := hf
      obtain ⟨v, ws, rfl, h3, h4⟩ := e2.consE
      obtain ⟨w, ws, rfl, h5, h6⟩ := h4.consE
      cases h6
      exact ⟨l, xs, i, w, hx, by rw [h3.intE], hl, by rw [e1.length]; exact hb.2.2, hb.1, hb.2.1, q _ _ (Rep.of_flat rfl) (by simpa using (e1.take i.toNat).append (.cons h5 (e1.drop i.toNat)))⟩
    · cases hf
theorem lm_reverse : MtR X "list.reverse" (rLm T .reverse) := mtr_imp mt_reverse fun x vs H Q ⟨F, l, xs, ds, es, d, ds', hx, hl, e1, e2, hf, q⟩ => by
  match es, hf with
  | [], hf =>
    cases hf
    cases e2
    exact ⟨l, xs, hx, rfl, hl, q _ _ (Rep.of_flat rfl) e1.reverse⟩
theorem lm_clear : MtR X "list.clear" (rLm T .clear) := mtr_imp mt_clear fun x vs H Q ⟨F, l, xs, ds, es, d, ds', hx, hl, e1, e2, hf, q⟩ => by
  match es, hf with
  | [], hf =>
    cases hf
    cases e2
    exact ⟨l, xs, hx, rfl, hl, q _ _ (Rep.of_flat rfl) .nil⟩
theorem lm_end {σ : St} {F H : Hp} {A : Ad} {G : List Sl} {v : V} {i : Nat} {k : Lm} {rs : List R} {vs : List V} {Q : VK} {P : R → List Sl → Hp → Hp → Ad → Prop} (hnf : NfOk T c.nf) (R2 : Rel T F H σ G A) (hv : σ[i]? = some (some v)) (rp : RepRs T F H σ A vs rs)
    (m : Mt T W σ F H A (match fzAll c.nf G rs with
      | some (ds, G3) => match G3[i]? with
        | some (.ol xs) => match lmF k xs ds with
          | some (d, ys) => .ok (.d d) (G3.set i (.ol ys))
          | none => .st
        | _ => .st
      | none => .st) P) (hP : ∀ d G' F' H' A' v, P (.d d) G' F' H' A' → Rep T F' v d → Q v H') : rLm T k v vs H Q := by
  cases e1 : fzAll c.nf G rs with
  | none => simp [e1, Mt] at m
  | some p =>
    obtain ⟨ds, G3⟩ := p
    simp only [e1] at m
    obtain ⟨F3, A3, R3, s3, r3, _⟩ := fzAll_ok hnf R2 rp e1
    cases e2 : G3[i]? with
    | none => simp [e2, Mt] at m
    | some s =>
      cases s <;> simp only [e2] at m
      case ol xs0 =>
        cases e3 : lmF k xs0 ds with
        | none => simp [e3, Mt] at m
        | some p =>
          obtain ⟨d, ys⟩ := p
          simp only [e3] at m
          obtain ⟨a, xs, h1, h2, h3, h4, h5⟩ := R3.mut e2
          rw [hv] at h2
          cases h2
          refine ⟨F3, a, xs, xs0, ds, d, ys, rfl, h3, h4, r3, e3, fun w zs hw hz => ?_⟩
          obtain ⟨R4, s4⟩ := h5 zs ys hz
          exact hP d _ F3 _ A3 w (m F3 _ A3 R4 (s3.trans s4)) hw
      all_goals exact m.elim
theorem lm_ty {σ : St} {F H : Hp} {A : Ad} {G : List Sl} {i : Nat} {l0 : List D} {v : V} {K : PySem.W.Frag} (R1 : Rel T F H σ G A) (hg : G[i]? = some (.ol l0)) (hv : σ[i]? = some (some v)) : tyV K "list" v H := by
  obtain ⟨a, xs, h1, h2, h3, _⟩ := R1.mut hg
  rw [hv] at h2
  cases h2
  exact .inl ⟨rfl, xs, SqL.of h3⟩
theorem de_lm {name : Str} {id : String} (k : Lm) (hnf : NfOk T c.nf) (pa : PlainAttrs "list") (slot : Slot "list" name id) (hty : typeOf (.builtin id) = pure (.type "method_descriptor")) (hm : MtR X id (rLm T k)) (ho : DE X c T W o x) (h : DA X c T W (e :: es) l)
    (hbase : attributeBase o name X.env (eval o X.env) = eval o X.env := by rfl)
    (hfew : ((backTo pos (starEach (e :: es) X.env)).all (fun x => !x.1) && (backToKw pos (keywordEach [] X.env)).all (fun x => x.1.isSome)
      && decide ((e :: es).length + ([] : List Keyword).length + (if ([] : List Keyword).isEmpty then 0 else 1) < 30)) = true := by rfl)
    (hline : (apos.endLine == pos.line) = true := by rfl) (hs : starEach (e :: es) X.env = (false, eval e X.env) :: starEach es X.env := by rfl) (hplain : (backTo pos (starEach es X.env)).any (·.1) = false := by rfl) :
    DE X c T W (.Call (.Attribute o name apos) (e :: es) [] pos) (.lm k x l) := by
  refine pe_imp (pe_bm pa slot hty hm ho h hbase hfew hline hs hplain) fun σ H Q ⟨F, G, A, R0, m⟩ => ?_
  unfold evE at m
  refine rd_raw R0 m fun x1 G1 F1 H1 A1 v1 R1 s1 p1 nw m0 => ?_
  have m1 := m0.start s1
  clear m0
  cases p1 with
  | d _ => exact m1.elim
  | ol _ _ _ _ => exact m1.elim
  | al hv =>
    rename_i i
    simp only at m1
    cases e0 : G1[i]? with
    | none => simp [e0, Mt] at m1
    | some s =>
      cases s <;> simp only [e0] at m1
      case ol l0 =>
        refine ⟨lm_ty R1 e0 hv, ?_⟩
        refine rdA_of R1 m1 fun rs G2 F2 H2 A2 vs R2 s2 p2 m2 => ?_
        exact lm_end hnf R2 hv p2 m2 fun d G' F' H' A' v hp hr => hp v (.d hr) Nw.d
      all_goals exact m1.elim
theorem de_lm0 {name : Str} {id : String} (k : Lm) (hnf : NfOk T c.nf) (pa : PlainAttrs "list") (slot : Slot "list" name id) (hty : typeOf (.builtin id) = pure (.type "method_descriptor")) (hm : MtR X id (rLm T k)) (ho : DE X c T W o x)
    (hbase : attributeBase o name X.env (eval o X.env) = eval o X.env := by rfl) (hline : (apos.endLine == pos.line) = true := by rfl) : DE X c T W (.Call (.Attribute o name apos) [] [] pos) (.lm k x .nil) := by
  refine pe_imp (pe_bm0 pa slot hty hm ho hbase hline) fun σ H Q ⟨F, G, A, R0, m⟩ => ?_
  unfold evE at m
  refine rd_raw R0 m fun x1 G1 F1 H1 A1 v1 R1 s1 p1 nw m0 => ?_
  have m1 := m0.start s1
  clear m0
  cases p1 with
  | d _ => exact m1.elim
  | ol _ _ _ _ => exact m1.elim
  | al hv =>
    rename_i i
    simp only at m1
    cases e0 : G1[i]? with
    | none => simp [e0, Mt] at m1
    | some s =>
      cases s <;> simp only [e0] at m1
      case ol l0 =>
        refine ⟨lm_ty R1 e0 hv, ?_⟩
        simp only [evEs, resBind] at m1
        exact lm_end hnf R1 hv .nil m1 fun d G' F' H' A' v hp hr => hp v (.d hr) Nw.d
      all_goals exact m1.elim

/-! ### fields -/
theorem lookup_at : ∀ {fs : List (Str × V)} {j : Nat} {f : Str}, (fs.map (·.1)).Nodup → (fs.map (·.1))[j]? = some f → ∃ v, fs.lookup f = some v ∧ (fs.map (·.2))[j]? = some v
  | [], j, f, _, h => by simp at h
  | (g, w) :: fs, 0, f, nd, h => by
    simp at h
    subst h
    exact ⟨w, by simp, rfl⟩
  | (g, w) :: fs, j + 1, f, nd, h => by
    simp at h
    obtain ⟨n1, n2⟩ := List.nodup_cons.mp nd
    obtain ⟨v, h1, h2⟩ := lookup_at (j := j) n2 (by simpa using h)
    refine ⟨v, ?_, by simpa using h2⟩
    have hne : (f == g) = false := by
      rw [beq_eq_false_iff_ne]
      rintro rfl
      apply n1
      exact List.mem_of_getElem? (i := j) (by simpa using h)
    rw [List.lookup_cons, hne]
    exact h1
theorem de_fld {f : Str} {cl j : Nat} (hK : T.K = X.K) (hT : TxOk T) (ho : DE X c T W o x) (hj : (T.ci cl).flds[j]? = some f) (hb : attributeBase o f X.env (eval o X.env) = eval o X.env := by rfl) : DE X c T W (.Attribute o f pos) (.fld cl j x) := by
  refine pe_imp (pe_fld ho hb) fun σ H Q ⟨F, G, A, R0, m⟩ => ?_
  unfold evE at m
  refine rd_of R0 m fun x1 G1 F1 H1 A1 v1 R1 s1 p1 m1 => ?_
  cases e1 : pk G1 (park x1) with
  | none => simp [e1, Mt] at m1
  | some d =>
    cases d <;> simp only [e1] at m1
    case ins cl' ds =>
      split at m1
      · rename_i hcl
        subst hcl
        obtain ⟨r, hr, q⟩ := m1.okE
        obtain ⟨d0, hd, rfl⟩ := Option.map_eq_some_iff.mp hr
        obtain ⟨a, dx, fs, rfl, h1, h2, h3, h4⟩ := (R1.view p1 e1).insE R1.sub
        have k := hT _ h3.2
        have hlt : j < ds.length := (List.getElem?_eq_some_iff.mp hd).1
        have hf : (fs.map (·.1))[j]? = some f := by rw [h2, List.getElem?_take_of_lt hlt]; exact hj
        obtain ⟨v, h5, h6⟩ := lookup_at (by rw [h2]; exact k.nd.sublist (List.take_sublist _ _)) hf
        obtain ⟨d', h7, h8⟩ := h4.getL h6
        rw [hd] at h7
        cases h7
        rw [← hK]
        exact ⟨a, _, dx, fs, v, rfl, h1, k.cl, k.na f (List.mem_of_getElem? hj), h5, q F1 H1 A1 R1 Step.refl v (.d h8) Nw.d⟩
      · exact m1.elim
    all_goals exact m1.elim

/-! ### the script -/
theorem sc_of {σ : St} {F H : Hp} {A : Ad} {G : List Sl} {i : Nat} {ds : List D} (R0 : Rel T F H σ G A) (hg : G[i]? = some (.sc ds)) : ∃ a xs, σ[i]? = some (some (.ref a)) ∧ SqL T.K H a xs ∧ Reps T F xs ds := by
  have q := R0.sl i _ hg
  revert q
  generalize A i = ai
  generalize hvi : σ[i]? = vi
  intro q
  cases q with
  | sc h e =>
    refine ⟨_, _, rfl, ?_, e⟩
    rcases h with h | h
    · exact .inl h.1
    · exact sqL_le (fun _ o z => absurd (show (none : Option HO) = some o from z) (fun q => nomatch q)) h
theorem de_scl {nm x0 : Str} {p p0 : Pos} {i : Nat} (hK : T.K = X.K) (hg : Gl X nm) (hm : X.mg nm = none) (hv : bootBuiltins nm = some (.builtin "len")) (hN : X.N[i]? = some x0 := by rfl) (hvis : Vis X.env.scope x0 := by first | exact Or.inl rfl | exact Or.inr (Or.inl rfl) | exact Or.inr (Or.inr rfl))
    (hd : (x0 == ("__debug__" : Str)) = false := by decide) (hcd : (x0 == ("__classdict__" : Str)) = false := by decide) (hn : nm ≠ "__name__" := by decide) (hdb : (nm == ("__debug__" : Str)) = false := by decide) :
    DE X c T W (.Call (.Name nm p) [.Name x0 p0] [] pos) (.scl i) := by
  refine pe_imp (pe_callB call_len_seq hg hm hv (pa_cons (pe_var (i := i) hN hvis hd hcd) pa_nil) hn hdb) fun σ H Q ⟨F, G, A, R0, m⟩ => ?_
  unfold evE at m
  cases e0 : G[i]? with
  | none => simp [e0, Mt] at m
  | some s =>
    cases s <;> simp only [e0] at m
    case sc ds =>
      obtain ⟨a, xs, h1, h2, h3⟩ := sc_of R0 e0
      refine ⟨_, h1, a, xs, rfl, .inl (hK ▸ h2), ?_⟩
      rw [h3.length]
      exact m F H A R0 Step.refl _ (.d (Rep.of_flat rfl)) Nw.d
    all_goals exact m.elim
theorem de_sci {x0 : Str} {p0 : Pos} {i : Nat} (hK : T.K = X.K) (hb : DE X c T W b y) (hN : X.N[i]? = some x0 := by rfl) (hvis : Vis X.env.scope x0 := by first | exact Or.inl rfl | exact Or.inr (Or.inl rfl) | exact Or.inr (Or.inr rfl))
    (hs : PlainIx b := by exact fun _ _ => rfl) (hd : (x0 == ("__debug__" : Str)) = false := by decide) (hcd : (x0 == ("__classdict__" : Str)) = false := by decide) :
    DE X c T W (.Subscript (.Name x0 p0) b pos) (.sci i y) := by
  refine pe_imp (pe_ix ix_list (pe_var (i := i) hN hvis hd hcd) hb hs) fun σ H Q ⟨F, G, A, R0, m⟩ => ?_
  unfold evE at m
  cases e0 : G[i]? with
  | none => simp [e0, Mt] at m
  | some s =>
    cases s <;> simp only [e0] at m
    case sc ds =>
      obtain ⟨a, xs, h1, h2, h3⟩ := sc_of R0 e0
      refine ⟨_, h1, ?_⟩
      refine rd_of R0 m fun x1 G1 F1 H1 A1 v1 R1 s1 p1 m1 => ?_
      cases e2 : G1[i]? with
      | none => simp [e2, Mt] at m1
      | some s2 =>
        cases s2 <;> simp only [e2] at m1
        case sc ds2 =>
          obtain ⟨a2, xs2, h4, h5, h6⟩ := sc_of R1 e2
          rw [h1] at h4
          cases h4
          cases e1 : pk G1 (park x1) with
          | none => simp [e1, Mt] at m1
          | some d =>
            cases d <;> simp only [e1] at m1
            case int k =>
              obtain ⟨r, hr, q⟩ := m1.okE
              obtain ⟨d0, hd, rfl⟩ := Option.map_eq_some_iff.mp hr
              obtain ⟨v, h7, h8⟩ := atI_map h6 hd
              exact ⟨a, xs2, k, v, rfl, (R1.view p1 e1).intE, hK ▸ h5, h7, q F1 H1 A1 R1 Step.refl v (.d h8) Nw.d⟩
            all_goals exact m1.elim
        all_goals exact m1.elim
    all_goals exact m.elim
end
end Mp

/-! Mo1: what a call lets out, taken outside. -/
namespace Mp
open PySem PySem.Spec L2
open PyProof.Rows hiding St

/-- an exception that a call let out, in the air of X -/
def XEf (X : Cx) (W : WX) (u : Value) (s' : Shared) : Prop :=
  ∃ (a : Addr) (B : Heap) (g : Shared) (pins : List (Addr × Obj)) (σ : St) (H : Hp) (cls : Value) (d : Option Addr), u = .ref a ∧ Inv X pins σ H g ∧ (∀ b o, g.heap.get? b = some o → b ∉ frs X.stack → B.get? b = some o) ∧ g.heap.UpToSlots s'.heap ∧
    HandSPX.FlyingZ B X.stack a (Zc cls d) s'.heap ∧ H a = none ∧ s'.os = g.os ∧ AllBare s'.gens ∧ W cls d σ H
def TakesF (X : Cx) (W : WX) : Prop := ∀ u s', XEf X W u s' → X.xe u s'
theorem Takes.f {X : Cx} {W : WX} (t : Takes X W) : TakesF X W := fun u s' ⟨a, B, g, pins, σ, H, cls, d, e, I, n, up, fl, na, os, ag, w⟩ => t u s' ⟨a, B, g, pins, σ, H, cls, d, e, I, n, up, .inr (.inl fl), na, os, ag, w⟩
theorem XEf.of_call {X : Cx} {W : WX} {E : XK} {pins : List (Addr × Obj)} {σ : St} {H : Hp} {s s' : Shared} (I : Inv X pins σ H s) (hW : ∀ cls d H', E cls d H' → W cls d σ H') {u : Value} (c : L2.CX X.prog X.w X.stack H s E u s') : XEf X W u s' := by
  obtain ⟨a, B, H1, cls, d, rfl, fly, hok1, ub1, fresh, os1, bare1, hE1⟩ := c
  obtain ⟨G, in1, out1⟩ := restrict s'.heap fun b => (B.get? b).isSome || decide (b ∈ frs X.stack)
  have kB : ∀ b o, B.get? b = some o → G.get? b = some o := fun b o e => (in1 b (by simp [e])).trans (fly.1 b o e)
  have kF : ∀ b, b ∈ frs X.stack → G.get? b = s'.heap.get? b := fun b hb => in1 b (by simp [hb])
  have kG : ∀ b o, G.get? b = some o → s'.heap.get? b = some o ∧ ((B.get? b).isSome = true ∨ b ∈ frs X.stack) := fun b o e => by
    cases z : ((B.get? b).isSome || decide (b ∈ frs X.stack)) with
    | true => exact ⟨(in1 b z).symm.trans e, by simpa [Bool.or_eq_true] using z⟩
    | false => rw [out1 b z] at e; cases e
  refine ⟨a, B, { s with heap := G, gens := s'.gens, drawn := s'.drawn, toks := s'.toks }, pins, σ, H1, cls, d, rfl, ?_, fun b o e hb => ?_, Heap.UpToSlots.of_keeps (fun b o e => (kG b o e).1), fly, fresh, os1, bare1, hW cls d H1 hE1⟩
  · refine I.call (ch := []) ⟨fun b o e n hb _ => kB b o (ub1.keep b o e n hb), fun b o e n hb _ => ?_, (fun b o e n _ => ub1.free b o e n), fun b o e _ => ?_, ub1.tups, ub1.frzs, ub1.tbls⟩ (hok1.kept kB) bare1 (fun _ z => nomatch z)
    · obtain ⟨sl, z⟩ := ub1.slot b o e hb
      exact ⟨sl, (kF b hb).trans z⟩
    · by_cases hb : b ∈ frs X.stack
      · obtain ⟨sl, z⟩ := ub1.slot b o e hb
        exact ⟨_, (kF b hb).trans z⟩
      · obtain ⟨o2, z⟩ := ub1.there b o e hb
        exact ⟨o2, kB b o2 z⟩
  · obtain ⟨e1, e2⟩ := kG b o e
    rcases e2 with e2 | e2
    · obtain ⟨o2, z⟩ := Option.isSome_iff_exists.mp e2
      have y := fly.1 b o2 z
      rw [e1] at y
      cases y
      exact z
    · exact absurd e2 hb
theorem passAtF {X : Cx} {W : WX} (tk : TakesF X W) (σ : St) : PassesAt (L2.CX X.prog X.w) X σ (WE W σ) := fun _ _ _ e s' I c => tk e s' (XEf.of_call I (fun _ _ _ h => h) c)
end Mp

/-! Mp9: what a def promises; calls. -/
namespace Mp
open PySem L2

def one (b : Addr → Prop) (a0 : Option Addr) : Ad := ⟨fun j => if j = 0 then a0 else none, b⟩
abbrev old (H : Hp) (a0 : Option Addr) : Addr → Prop := fun l => H l ≠ none ∧ a0 ≠ some l
theorem one_self {b : Addr → Prop} {a0 : Option Addr} : one b a0 0 = a0 := rfl
theorem one_eq {b : Addr → Prop} {a0 : Option Addr} {j : Nat} {a : Addr} (h : one b a0 j = some a) : j = 0 ∧ a0 = some a := by
  have h : (if j = 0 then a0 else none) = some a := h
  split at h
  · rename_i e; exact ⟨e, h⟩
  · cases h
/-- the end of a def: F H A at its beginning, vs its arguments; a0 the own address of its first slot then, m what it holds -/
structure EndR (T : Tx) (F H : Hp) (A : Ad) (vs : List V) (m : Sl) (F' H' : Hp) (a0 : Option Addr) : Prop where
  sub : Le F' H'
  st : Step F H A F' H' (one A.b a0)
  rp : RepS T F' H' (one A.b a0) a0 (vs.map some)[0]? m
  fr : ∀ a, a0 = some a → F' a = none
/-- what a def's end asks -/
def PostD (T : Tx) (F H : Hp) (A : Ad) (vs : List V) (res : Cres) (Q : VK) (E : XK) : Prop := match res with
  | .ok r m => (∀ i, r ≠ .al i) ∧ ∀ F' H' a0 v, EndR T F H A vs m F' H' a0 → RepR T F' H' [] (one A.b a0) v r → Nw H A v r → Q v H'
  | .ex x m => ∀ F' H' a0 cls d, EndR T F H A vs m F' H' a0 → ExR T x cls d F' H' → E cls d H'
  | .st => False
/-- the promise of a def of np parameters that gives cf -/
def spD (T : Tx) (cf : List Sl → Cres) (np : Nat) : Sp := fun vs H Q E => vs.length = np ∧ ∃ F G A, Rel T F H (vs.map some) G A ∧ A.b = old H (A 0) ∧ (∀ j a, A j = some a → j = 0) ∧ PostD T F H A vs (cf G) Q E

section
variable {T : Tx} {W : WX} {σ σ' : St} {F F' F1 F2 H H1 H2 H' : Hp} {A A' A1 A2 : Ad} {α β : Type} {G G1 G' : List Sl} {v : V} {r : R} {i : Nat}
/-- an argument as the callee's slot -/
inductive ArgR (T : Tx) (F H : Hp) (A : Ad) (r : R) : V → Sl → Prop where
  | fz {v d} (h : Rep T F v d) : ArgR T F H A r v (.fz d)
  | bw {l xs ds} (h : H l = some (.lst xs)) (e : Reps T F xs ds) (n : ∀ i, A i = some l → r = .al i) : ArgR T F H A r (.ref l) (.bw ds)
  | sc {l xs ds} (h : (Rd H l (.lst xs) ∧ A.far l) ∨ SqL T.K (fun _ => none) l xs) (e : Reps T F xs ds) : ArgR T F H A r (.ref l) (.sc ds)
inductive ArgsR (T : Tx) (F H : Hp) (A : Ad) : List R → List V → List Sl → Prop where
  | nil : ArgsR T F H A [] [] []
  | cons {r v s rs vs ss} (h : ArgR T F H A r v s) (t : ArgsR T F H A rs vs ss) : ArgsR T F H A (r :: rs) (v :: vs) (s :: ss)
theorem ArgR.sh {s : Sl} (h : ArgR T F H A r v s) (st : Step F H A F1 H A1) (sh : Sh A A1) : ArgR T F1 H A1 r v s := by
  cases h with
  | fz h => exact .fz (h.mono st.f)
  | bw h e n => exact .bw h (e.mono st.f) fun i q => n i (sh i _ q)
  | sc h e => exact .sc (h.elim (fun z => .inl ⟨z.1, st.b ▸ z.2.1, fun i q => z.2.2 i (sh i _ q)⟩) .inr) (e.mono st.f)
theorem argS_ok {nf : Nat → Nat} {p : Pm} {s : Sl} (hnf : NfOk T nf) (R0 : Rel T F H σ G A) (rp : RepR T F H σ A v (park r)) (e : argS nf G p r = some (s, G')) (hr : park r = r) :
    ∃ F' A', Rel T F' H σ G' A' ∧ Step F H A F' H A' ∧ ArgR T F' H A' r v s ∧ Sh A A' := by
  cases p with
  | f =>
    dsimp only [argS] at e
    cases e1 : fzR nf G r with
    | none => simp [e1] at e
    | some q =>
      obtain ⟨d, G1⟩ := q
      simp [e1] at e
      obtain ⟨rfl, rfl⟩ := e
      obtain ⟨F1, A1, R1, s1, r1, h1⟩ := fzR_ok hnf R0 rp e1
      exact ⟨F1, A1, R1, s1, .fz r1, h1⟩
  | b =>
    dsimp only [argS] at e
    cases e1 : pk G r with
    | none => simp [e1] at e
    | some d =>
      have vw := R0.view rp (by rw [pk_park]; exact e1)
      have flat : ∀ x, d.flat = some x → ArgR T F H A r v (.fz d) := fun x hx => .fz (by rw [vw.flatE hx]; exact Rep.of_flat hx)
      cases d with
      | ins c l => simp [e1] at e
      | exc c l => simp [e1] at e
      | lst l =>
        simp [e1] at e
        obtain ⟨rfl, rfl⟩ := e
        rw [hr] at rp
        refine ⟨F, A, R0, Step.refl, ?_, Sh.refl⟩
        cases rp with
        | d h =>
          simp [pk] at e1
          subst e1
          obtain ⟨a, xs, rfl, ha, he⟩ := h.lstE
          exact .bw (R0.sub _ _ ha) he fun i q => absurd (R0.fr i a q) (by rw [ha]; exact fun z => nomatch z)
        | ol h e f n => cases hr
        | al h =>
          rename_i i
          dsimp only [pk] at e1
          cases hg : G[i]? with
          | none => simp [hg] at e1
          | some s =>
            have q := R0.sl i s hg
            rw [h] at q
            rw [hg] at e1
            clear hg h
            revert q
            generalize hai : A i = ai
            intro q
            cases q with
            | no => simp at e1
            | fz h =>
              simp at e1
              subst e1
              obtain ⟨a, xs, rfl, ha, he⟩ := h.lstE
              exact .bw (R0.sub _ _ ha) he fun i q => absurd (R0.fr i a q) (by rw [ha]; exact fun z => nomatch z)
            | ol h e =>
              simp at e1
              subst e1
              exact .bw h e fun j q => by rw [R0.inj j i _ q hai]
            | bw h e n =>
              simp at e1
              subst e1
              exact .bw h e fun j q => absurd q (n.2 j)
            | oi h n m e => simp at e1
            | sc h e => simp at e1
      | non => simp [e1] at e; obtain ⟨rfl, rfl⟩ := e; exact ⟨F, A, R0, Step.refl, flat _ rfl, Sh.refl⟩
      | bl b => simp [e1] at e; obtain ⟨rfl, rfl⟩ := e; exact ⟨F, A, R0, Step.refl, flat _ rfl, Sh.refl⟩
      | int b => simp [e1] at e; obtain ⟨rfl, rfl⟩ := e; exact ⟨F, A, R0, Step.refl, flat _ rfl, Sh.refl⟩
      | str b => simp [e1] at e; obtain ⟨rfl, rfl⟩ := e; exact ⟨F, A, R0, Step.refl, flat _ rfl, Sh.refl⟩
      | tup b =>
        simp [e1] at e
        obtain ⟨rfl, rfl⟩ := e
        refine ⟨F, A, R0, Step.refl, ?_, Sh.refl⟩
        cases vw with
        | rep h => exact .fz h
  | m => cases r <;> simp [argS] at e
  | s =>
    cases r with
    | d d => simp [argS] at e
    | ol l => simp [argS] at e
    | al i =>
      dsimp only [argS] at e
      cases rp with
      | al h =>
        cases hg : G[i]? with
        | none => simp [hg] at e
        | some s =>
          have q := R0.sl i s hg
          rw [h] at q
          rw [hg] at e
          clear hg h
          revert q
          generalize hai : A i = ai
          intro q
          cases q with
          | sc h r =>
            simp at e
            obtain ⟨rfl, rfl⟩ := e
            exact ⟨F, A, R0, Step.refl, .sc h r, Sh.refl⟩
          | no => simp at e
          | fz _ => simp at e
          | ol _ _ => simp at e
          | bw _ _ _ => simp at e
          | oi _ _ _ _ => simp at e
theorem argsS_ok {nf : Nat → Nat} (hnf : NfOk T nf) : ∀ {ps : List Pm} {rs : List R} {vs : List V} {ss : List Sl} {F : Hp} {A : Ad} {G G' : List Sl}, Rel T F H σ G A → RepRs T F H σ A vs rs → (∀ r ∈ rs, park r = r) → argsS nf G ps rs = some (ss, G') →
    ∃ F' A', Rel T F' H σ G' A' ∧ Step F H A F' H A' ∧ ArgsR T F' H A' rs vs ss ∧ Sh A A'
  | [], [], _, _, F, A, _, _, R0, h, _, e => by
    simp [argsS] at e
    obtain ⟨rfl, rfl⟩ := e
    cases h
    exact ⟨F, A, R0, Step.refl, .nil, Sh.refl⟩
  | p :: ps, r :: rs, _, _, F, A, G, _, R0, h, hp, e => by
    cases h with
    | cons h t =>
      dsimp only [argsS] at e
      cases e1 : argS nf G p r with
      | none => simp [e1] at e
      | some q =>
        obtain ⟨s, G1⟩ := q
        simp only [e1] at e
        cases e2 : argsS nf G1 ps rs with
        | none => simp [e2] at e
        | some q =>
          obtain ⟨ss, G2⟩ := q
          simp [e2] at e
          obtain ⟨rfl, rfl⟩ := e
          obtain ⟨F1, A1, R1, s1, r1, h1⟩ := argS_ok hnf R0 h e1 (hp r List.mem_cons_self)
          obtain ⟨F2, A2, R2, s2, r2, h2⟩ := argsS_ok hnf R1 (t.step s1) (fun r hr => hp r (List.mem_cons_of_mem _ hr)) e2
          exact ⟨F2, A2, R2, s1.trans s2, .cons (r1.sh s2 h2) r2, h1.trans h2⟩
  | [], _ :: _, _, _, _, _, _, _, _, _, _, e => by simp [argsS] at e
  | _ :: _, [], _, _, _, _, _, _, _, _, _, e => by simp [argsS] at e
theorem ArgsR.length {rs : List R} {vs : List V} {ss : List Sl} (h : ArgsR T F H A rs vs ss) : vs.length = ss.length := by
  induction h with
  | nil => rfl
  | cons _ _ ih => simp [ih]
/-- the callee's frame, its first slots apart -/
theorem ArgsR.slots {B : Ad} {rs : List R} {vs : List V} {ss : List Sl} (h : ArgsR T F H A rs vs ss) (hb : B.b = old H (B 0)) (hB : ∀ j l, B j = some l → ∃ i, A i = some l ∧ rs.any (isAl i) = false) : ∀ (j : Nat) (s : Sl), ss[j]? = some s → RepS T F H B none (vs.map some)[j]? s := by
  induction h with
  | nil => intro j s e; simp at e
  | @cons r v s0 rs vs ss h _ ih =>
    intro j s e
    cases j with
    | zero =>
      simp at e
      subst e
      show RepS T F H B none (some (some v)) s0
      cases h with
      | fz h => exact .fz h
      | bw h e n =>
        have kq : ∀ k, B k ≠ some _ := fun k q => by
          obtain ⟨i, h1, h2⟩ := hB k _ q
          rw [n i h1] at h2
          simp [isAl] at h2
        exact .bw h e ⟨by rw [hb]; exact ⟨(fun z => nomatch (h.symm.trans z)), kq 0⟩, kq⟩
      | sc h e =>
        refine .sc (h.elim (fun z => .inl ⟨z.1, ?_⟩) .inr) e
        have kq : ∀ k, B k ≠ some _ := fun k q => by
          obtain ⟨i, h1, _⟩ := hB k _ q
          exact z.2.2 i h1
        exact ⟨by rw [hb]; exact ⟨rd_some z.1, kq 0⟩, kq⟩
    | succ j =>
      exact ih (fun j l q => by
        obtain ⟨i, h1, h2⟩ := hB j l q
        simp only [List.any_cons, Bool.or_eq_false_iff] at h2
        exact ⟨i, h1, h2.2⟩) j s (by simpa using e)

/-- THE CALL -/
theorem call_ok {c : Cf} {f : Nat} {rs : List R} {vs : List V} {Q : VK} (hnf : NfOk T c.nf) (R0 : Rel T F H σ G A) (rp : RepRs T F H σ A vs rs) (hp : ∀ r ∈ rs, park r = r)
    (m : Mt T W σ F H A (callF c f rs G) fun r _ F' H' A' => ∀ v, RepR T F' H' σ A' v r → Nw H A v r → Q v H') : spD T (c.cf f) vs.length vs H Q (WE W σ) := by
  refine ⟨rfl, ?_⟩
  unfold callF at m
  cases e1 : argsM c.nf G (c.pm f) rs with
  | none => simp [e1, Mt] at m
  | some q =>
    obtain ⟨ss, G1, mi⟩ := q
    simp only [e1] at m
    cases mi with
    | none =>
      -- no slot of ours is changed
      have e2 : argsS c.nf G (c.pm f) rs = some (ss, G1) := by
        unfold argsM at e1
        split at e1
        · split at e1
          · cases e1
          · split at e1
            · split at e1 <;> simp at e1
            · cases e1
        · split at e1
          · rename_i _ _ _ hs
            simp at e1
            obtain ⟨rfl, rfl⟩ := e1
            exact hs
          · cases e1
      obtain ⟨F1, A1, R1, s1, r1, _⟩ := argsS_ok hnf R0 rp hp e2
      have m := m.start s1
      have fin : ∀ {mm : Sl} {F' H' : Hp} {a0 : Option Addr}, EndR T F1 H (one (old H none) none) vs mm F' H' a0 → Rel T F' H' σ G1 A1 ∧ Step F1 H A1 F' H' A1 := fun {mm F' H' a0} x =>
        R1.kept x.st.f x.sub (fun a o h => x.st.h a o h fun _ z => nomatch (one_eq z).2) (fun a h => by
          rcases x.st.n a h with z | ⟨_, z⟩ | z
          · exact .inl z
          · exact nomatch (one_eq z).2
          · exact .inr z) x.st.k
      have hno : ∀ j, one (old H none) none j = none := fun j => by show (if j = 0 then none else none) = none; split <;> rfl
      refine ⟨F1, ss, one (old H none) none, ⟨R1.sub, by rw [List.length_map, r1.length], fun j s e => by rw [hno j]; exact r1.slots (B := one (old H none) none) rfl (fun _ _ z => nomatch (one_eq z).2) j s e, (fun j _ => hno j), (fun _ _ z => nomatch (one_eq z).2), (fun _ _ _ z => nomatch (one_eq z).2), fun l h => ⟨h.1, fun i z => nomatch (one_eq z).2⟩⟩, rfl, (fun _ _ z => (one_eq z).1), ?_⟩
      cases e3 : c.cf f ss with
      | st => simp [e3, Mt] at m
      | ex x mm =>
        simp only [e3, putM] at m
        intro F' H' a0 cls d x hx
        obtain ⟨R2, s2⟩ := fin x
        exact m F' H' A1 cls d R2 s2 hx
      | ok r mm =>
        have go : (∀ i, r ≠ .al i) → Mt T W σ F1 H A1 (.ok r G1) (fun r _ F' H' A' => ∀ v, RepR T F' H' σ A' v r → Nw H A v r → Q v H') → PostD T F1 H (one (old H none) none) vs (.ok r mm) Q (WE W σ) := fun hr m => by
          refine ⟨hr, fun F' H' a0 v x rr nw => ?_⟩
          obtain ⟨R2, s2⟩ := fin x
          refine m F' H' A1 R2 s2 v ?_ fun ds l q1 q2 => ?_
          · cases rr with
            | d h => exact .d h
            | ol h e f n =>
              rename_i l xs ds
              refine .ol h e f fun i q => ?_
              rcases nw ds l rfl rfl with z | ⟨_, z⟩
              · exact R1.own q z
              · exact nomatch (one_eq z).2
            | al h => exact absurd rfl (hr _)
          · rcases nw ds l q1 q2 with z | ⟨_, z⟩
            · exact .inl z
            · exact nomatch (one_eq z).2
        cases r with
        | al i => simp [e3, Mt] at m
        | d d => exact go (fun _ z => nomatch z) (by simpa only [e3, putM] using m)
        | ol d => exact go (fun _ z => nomatch z) (by simpa only [e3, putM] using m)
    | some i =>
      -- the slot i is lent as the callee's first one
      obtain ⟨ps, rs1, hps, hrs, hno, l, hgl, ss1, hss, e2⟩ : ∃ ps rs1, c.pm f = .m :: ps ∧ rs = .al i :: rs1 ∧ rs1.any (isAl i) = false ∧ ∃ l, G1[i]? = some (.ol l) ∧ ∃ ss1, ss = .ol l :: ss1 ∧ argsS c.nf G ps rs1 = some (ss1, G1) := by
        unfold argsM at e1
        split at e1
        · rename_i ps j rs1 hq
          split at e1
          · cases e1
          · rename_i hno
            split at e1
            · rename_i ss1 G2 hs
              split at e1
              · rename_i l hl
                simp at e1
                obtain ⟨rfl, rfl, rfl⟩ := e1
                exact ⟨ps, rs1, ‹_›, rfl, by simpa using hno, l, hl, ss1, rfl, hs⟩
              · cases e1
            · cases e1
        · split at e1 <;> simp at e1
      subst hrs hss
      cases rp with
      | @cons v0 _ vs1 _ h0 t0 =>
        obtain ⟨F1, A1, R1, s1, r1, _⟩ := argsS_ok hnf R0 t0 (fun r hr => hp r (List.mem_cons_of_mem _ hr)) e2
        have m := m.start s1
        obtain ⟨a, xs, ha, hva, hHa, hxs, _⟩ := R1.mut hgl
        have hv0 : v0 = .ref a := by
          cases h0 with
          | al h =>
            rw [hva] at h
            cases h
            rfl
        subst hv0
        have hi := get_lt hgl
        have na : F1 a = none := R1.fr i a ha
        have slots : ∀ j s, (Sl.ol l :: ss1)[j]? = some s → RepS T F1 H (one (old H (some a)) (some a)) (one (old H (some a)) (some a) j) ((V.ref a :: vs1).map some)[j]? s := fun j s e => by
          cases j with
          | zero =>
            simp at e
            subst e
            exact .ol hHa hxs
          | succ j =>
            show RepS T F1 H (one (old H (some a)) (some a)) none (vs1.map some)[j]? s
            refine r1.slots (B := one (old H (some a)) (some a)) rfl (fun k z q => ?_) j s (by simpa using e)
            obtain ⟨_, q2⟩ := one_eq q
            cases q2
            exact ⟨i, ha, hno⟩
        have fin : ∀ {l' : List D} {F' H' : Hp} {a0 : Option Addr}, EndR T F1 H (one (old H (some a)) (some a)) (.ref a :: vs1) (.ol l') F' H' a0 → Rel T F' H' σ (G1.set i (.ol l')) (Ad.put A1 i a0) ∧ Step F1 H A1 F' H' (Ad.put A1 i a0) := fun {l' F' H' a0} x => by
          refine R1.put hi x.st.f x.sub (fun b o h n => x.st.h b o h fun j q => ?_) x.st.k (fun _ _ => rfl) rfl (fun b q => ⟨?_, x.fr b q⟩) (fun b q => ?_) ?_
          · obtain ⟨_, q2⟩ := one_eq q
            cases q2
            exact n ha
          · rcases x.st.o 0 b (by rw [one_self]; exact q) with ⟨j, z⟩ | z
            · obtain ⟨_, q2⟩ := one_eq z
              cases q2
              exact .inl ha
            · exact .inr z
          · rcases x.st.n b q with z | ⟨j, z⟩ | z
            · exact .inl z
            · obtain ⟨_, q2⟩ := one_eq z
              cases q2
              exact .inr (.inl ha)
            · exact .inr (.inr z)
          · rw [hva]
            have q := x.rp
            revert q
            show RepS T F' H' (one (old H (some a)) a0) a0 (some (some (V.ref a))) (.ol l') → _
            intro q
            cases q with
            | ol h e => exact .ol h e
        refine ⟨F1, .ol l :: ss1, one (old H (some a)) (some a), ⟨R1.sub, by rw [List.length_map, List.length_cons, List.length_cons, r1.length], slots, fun j hj => ?_, fun j b q => ?_, fun j k b q1 q2 => ?_, fun l h => ⟨h.1, fun i z => h.2 (one_eq z).2⟩⟩, rfl, fun j b q => (one_eq q).1, ?_⟩
        · exact if_neg (by rw [List.length_cons] at hj; omega)
        · obtain ⟨_, q2⟩ := one_eq q
          cases q2
          exact na
        · rw [(one_eq q1).1, (one_eq q2).1]
        · cases e3 : c.cf f (.ol l :: ss1) with
          | st => simp [e3, Mt] at m
          | ex x mm =>
            cases mm <;> simp only [e3, putM] at m
            case ol l' =>
              intro F' H' a0 cls d x hx
              obtain ⟨R2, s2⟩ := fin x
              exact m F' H' _ cls d R2 s2 hx
            all_goals exact m.elim
          | ok r mm =>
            have go : ∀ l', (∀ i, r ≠ .al i) → Mt T W σ F1 H A1 (.ok r (G1.set i (.ol l'))) (fun r _ F' H' A' => ∀ v, RepR T F' H' σ A' v r → Nw H A v r → Q v H') → PostD T F1 H (one (old H (some a)) (some a)) (.ref a :: vs1) (.ok r (.ol l')) Q (WE W σ) := fun l' hr m => by
              refine ⟨hr, fun F' H' a0 v x rr nw => ?_⟩
              obtain ⟨R2, s2⟩ := fin x
              refine m F' H' _ R2 s2 v ?_ fun ds l q1 q2 => ?_
              · cases rr with
                | d h => exact .d h
                | ol h e f n =>
                  rename_i l xs ds
                  refine .ol h e f fun j q => ?_
                  by_cases hj : j = i
                  · subst hj
                    rw [Ad.put_self] at q
                    exact n 0 (by rw [one_self]; exact q)
                  · rw [Ad.put_ne hj] at q
                    rcases nw ds l rfl rfl with z | ⟨k, z⟩
                    · exact R1.own q z
                    · obtain ⟨_, q2⟩ := one_eq z
                      cases q2
                      exact hj (R1.inj j i _ q ha)
                | al h => exact absurd rfl (hr _)
              · rcases nw ds l q1 q2 with z | ⟨k, z⟩
                · exact .inl z
                · obtain ⟨_, q3⟩ := one_eq z
                  cases q3
                  rcases s1.o i a ha with ⟨j, z⟩ | z
                  · exact .inr ⟨j, z⟩
                  · exact .inl z
            cases r with
            | al i => simp [e3, Mt] at m
            | d d =>
              cases mm <;> simp only [e3, putM] at m
              case ol l' => exact go l' (fun _ z => nomatch z) m
              all_goals exact m.elim
            | ol d =>
              cases mm <;> simp only [e3, putM] at m
              case ol l' => exact go l' (fun _ z => nomatch z) m
              all_goals exact m.elim
end
end Mp

/-! Mp10: calls by name, with keywords. -/
namespace Mp
open PySem L2

def Es.len : Es → Nat
  | .nil => 0
  | .cons _ l => l.len + 1
def Es.app : Es → Es → Es
  | .nil, m => m
  | .cons e l, m => .cons e (l.app m)
section
variable {c : Cf} {T : Tx} {W : WX} {σ : St} {F H F1 H1 : Hp} {A A1 : Ad} {G G1 : List Sl}
theorem evEs_park : ∀ {l : Es} {G G' : List Sl} {rs : List R}, evEs c l G = .ok rs G' → rs.length = l.len ∧ ∀ r ∈ rs, park r = r
  | .nil, G, G', rs, h => by
    simp [evEs] at h
    obtain ⟨rfl, rfl⟩ := h
    exact ⟨rfl, fun r hr => nomatch hr⟩
  | .cons e l, G, G', rs, h => by
    rw [evEs] at h
    cases h1 : evE c e G with
    | ok x G1 =>
      rw [h1] at h
      simp only [resBind] at h
      cases h2 : evEs c l G1 with
      | ok rs1 G2 =>
        rw [h2] at h
        simp at h
        obtain ⟨rfl, rfl⟩ := h
        obtain ⟨e1, e2⟩ := evEs_park h2
        exact ⟨by simp [Es.len, e1], fun r hr => (List.mem_cons.mp hr).elim (fun z => by rw [z, park_park]) (e2 r)⟩
      | ex x G2 => rw [h2] at h; cases h
      | st => rw [h2] at h; cases h
    | ex x G1 => rw [h1] at h; cases h
    | st => rw [h1] at h; cases h
theorem evEs_app : ∀ {l m : Es} {G : List Sl}, evEs c (l.app m) G = resBind (evEs c l G) fun rs G1 => resBind (evEs c m G1) fun ss G2 => .ok (rs ++ ss) G2
  | .nil, m, G => by
    simp only [Es.app, evEs, resBind]
    cases evEs c m G <;> rfl
  | .cons e l, m, G => by
    simp only [Es.app]
    rw [evEs, evEs]
    cases evE c e G with
    | ok x G1 =>
      simp only [resBind]
      rw [evEs_app]
      cases evEs c l G1 with
      | ok rs G2 =>
        simp only [resBind]
        cases evEs c m G2 <;> rfl
      | ex x G2 => rfl
      | st => rfl
    | ex x G1 => rfl
    | st => rfl
theorem Mt.eq {α : Type} {P : α → List Sl → Hp → Hp → Ad → Prop} {r : Res α} (m : Mt T W σ F H A r P) : Mt T W σ F H A r fun a G' F' H' A' => r = .ok a G' ∧ P a G' F' H' A' := by
  cases r with
  | ok a G' => exact fun F' H' A' rel st => ⟨rfl, m F' H' A' rel st⟩
  | ex x G' => exact m
  | st => exact m
/-- arguments ahead of a call: parked, as many as are written -/
theorem rdA_call {l : Es} {β : Type} {Q : β → List Sl → Hp → Hp → Ad → Prop} {Q1 : List V → Hp → Prop} {k : List R → List Sl → Res β} (R0 : Rel T F H σ G A) (m : Mt T W σ F H A (resBind (evEs c l G) k) Q)
    (h : ∀ rs G1 F1 H1 A1 vs, Rel T F1 H1 σ G1 A1 → Step F H A F1 H1 A1 → RepRs T F1 H1 σ A1 vs rs → rs.length = l.len → (∀ r ∈ rs, park r = r) → Mt T W σ F1 H1 A1 (k rs G1) Q → Q1 vs H1) : rdA c T W l σ H Q1 :=
  ⟨F, G, A, R0, m.bind.eq.imp fun rs G1 F1 H1 A1 R1 s1 ⟨e, m1⟩ vs rp => h rs G1 F1 H1 A1 vs R1 s1 rp (evEs_park e).1 (evEs_park e).2 (m1.start s1)⟩
end

/-- a def as the callers know it -/
structure FnAt (X : Cx) (T : Tx) (cf : List Sl → Cres) (k : Nat) (fa : Addr) (fd : FuncData) (ps : List Str) : Prop where
  ok : FnOk X.prog X.w X.K X.mg X.base (L2.CX X.prog X.w) k fa fd ps (spD T cf ps.length)
  bi : Binds X.K fd ps []
  kp : PySem.W.keepIn X.K (.ref fa) = true
section
variable {X : Cx} {c : Cf} {T : Tx} {W : WX} {a b d o e : Expr} {x y z : E} {l : Es} {es : List Expr} {pos apos p : Pos} {nm : Str} {f k : Nat} {fa : Addr} {fd : FuncData} {ps : List Str}
theorem de_call (hnf : NfOk T c.nf) (F : FnAt X T (c.cf f) k fa fd ps) (hr : Room k X.A) (hg : Gl X nm) (hm : X.mg nm = some (.ref fa)) (tk : TakesF X W) (h : DA X c T W (e :: es) l) (hl : l.len = ps.length) (hdb : (nm == ("__debug__" : Str)) = false := by decide)
    (he : starEach (e :: es) X.env = (false, eval e X.env) :: starEach es X.env := by rfl) (hpl : (backTo pos (starEach es X.env)).any (·.1) = false := by rfl) : DE X c T W (.Call (.Name nm p) (e :: es) [] pos) (.call f l) := by
  refine pe_imp (pe_callS F.ok hr hg hm F.kp F.bi (fun σ => passAtF tk σ) h hdb he hpl) fun σ H Q ⟨F0, G, A, R0, m⟩ => ?_
  unfold evE at m
  refine rdA_call R0 m fun rs G1 F1 H1 A1 vs R1 s1 p1 hlen hp m1 => ?_
  have q := call_ok hnf R1 p1 hp (m1.imp fun r G' F' H' A' R2 s2 hq v rr nw => hq v rr (nw.back s1))
  rw [p1.length, hlen, hl] at q
  exact q
/-- f() -/
theorem de_call0 (hnf : NfOk T c.nf) (F : FnAt X T (c.cf f) k fa fd ps) (hr : Room k X.A) (hg : Gl X nm) (hm : X.mg nm = some (.ref fa)) (tk : TakesF X W) (hl : ps.length = 0) (hdb : (nm == ("__debug__" : Str)) = false := by decide) : DE X c T W (.Call (.Name nm p) [] [] pos) (.call f .nil) := by
  refine ⟨fun pins s σ H Q I ⟨F0, G, A, R0, m⟩ => ?_⟩
  refine wpAny_Call_Name_kw (ld_glob I hg hm ?_ hdb)
  unfold evE at m
  rw [evEs] at m
  have q := call_ok (rs := []) (vs := []) hnf R0 .nil (fun r hr => nomatch hr) m
  have q : spD T (c.cf f) ps.length [] H Q (WE W σ) := by rw [hl]; exact q
  exact PySem.W.callWith_K0 I.kIn F.kp (run_fnS (us := []) (E := WE W) F.ok hr F.bi (passAtF tk σ) I .nil q)

/-! ### keywords -/
def rdK (c : Cf) (T : Tx) (W : WX) (l : Es) : TA := rdA c T W l
abbrev DK (X : Cx) (c : Cf) (T : Tx) (W : WX) (kws : List Keyword) (l : Es) : Prop := PK X kws (rdA c T W l)
theorem pk_imp {kws : List Keyword} {t t' : TA} (h : PK X kws t) (i : ∀ σ H Q, t' σ H Q → t σ H Q) : PK X kws t' := ⟨fun pos pins s σ H Q I hq => h.run pos pins s σ H Q I (i σ H Q hq)⟩
theorem dk_nil : DK X c T W [] .nil := pk_imp pk_nil fun σ H Q ⟨F, G, A, R0, m⟩ => m F H A R0 Step.refl [] .nil
theorem dk_cons {kn : Option Str} {kpos : Pos} {kws : List Keyword} (ha : DE X c T W a x) (hr : DK X c T W kws l) : DK X c T W (⟨kn, a, kpos⟩ :: kws) (.cons x l) := by
  refine pk_imp (pk_cons ha hr) fun σ H Q ⟨F, G, A, R0, m⟩ => ?_
  unfold evEs at m
  refine rd_of R0 m fun x1 G1 F1 H1 A1 v1 R1 s1 p1 m1 => ?_
  refine rdA_of R1 m1 fun rs G2 F2 H2 A2 vs R2 s2 p2 m2 => ?_
  exact m2 F2 H2 A2 R2 Step.refl _ (.cons (by rw [park_park]; exact p1.step s2) p2)
/-- values in the parameters' order: a written one by its number, or a default -/
inductive PermV : List Value → List (Sum Nat D) → List Value → Prop where
  | nil {us} : PermV us [] []
  | inl {us i u p l} (h : us[i]? = some u) (t : PermV us p l) : PermV us (.inl i :: p) (u :: l)
  | inr {us d v u p l} (h : d.flat = some v) (r : RelV v u) (t : PermV us p l) : PermV us (.inr d :: p) (u :: l)
/-- how a call with n positional values and keywords ks binds -/
def KBp (X : Cx) (fd : FuncData) (ps : List Str) (n : Nat) (ks : List Str) (p : List (Sum Nat D)) : Prop :=
  ∀ (s : Shared) (us ws : List Value), X.K.In s.heap → us.length = n → ws.length = ks.length → ∃ all, PermV (us ++ ws) p all ∧ BindsTo s fd ⟨us, ks.zip ws⟩ (ps.zip all)
theorem permR_ok {σ : St} {F H : Hp} {A : Ad} {vs : List V} {rs : List R} (rp : RepRs T F H σ A vs rs) (hp : ∀ r ∈ rs, park r = r) {us : List Value} (r : Vals vs us) : ∀ {pm : List (Sum Nat D)} {qs : List R} {all : List Value}, permR rs pm = some qs → PermV us pm all →
    ∃ ws, RepRs T F H σ A ws qs ∧ Vals ws all ∧ (∀ r ∈ qs, park r = r) ∧ qs.length = pm.length
  | [], _, _, e, h => by
    simp [permR] at e
    subst e
    cases h
    exact ⟨[], .nil, .nil, (fun r hr => nomatch hr), rfl⟩
  | .inl i :: pm, _, _, e, h => by
    cases h with
    | inl h t =>
      dsimp only [permR] at e
      cases e1 : rs[i]? with
      | none => simp [e1] at e
      | some r0 =>
        cases e2 : permR rs pm with
        | none => simp [e1, e2] at e
        | some l0 =>
          simp [e1, e2] at e
          subst e
          obtain ⟨ws, h1, h2, h3, h4⟩ := permR_ok rp hp r e2 t
          obtain ⟨v, h5, h6⟩ := rp.get e1
          obtain ⟨u', h7, h8⟩ := r.get h5
          rw [h] at h7
          cases h7
          exact ⟨v :: ws, .cons h6 h1, .cons h8 h2, fun r hr => (List.mem_cons.mp hr).elim (fun z => by rw [z]; exact hp _ (List.mem_of_getElem? e1)) (h3 r), by simp [h4]⟩
  | .inr d :: pm, _, _, e, h => by
    cases h with
    | inr h r' t =>
      dsimp only [permR] at e
      cases e2 : permR rs pm with
      | none => simp [e2] at e
      | some l0 =>
        simp [e2] at e
        subst e
        obtain ⟨ws, h1, h2, h3, h4⟩ := permR_ok rp hp r e2 t
        exact ⟨_ :: ws, .cons (.d (Rep.of_flat h)) h1, .cons r' h2, fun r hr => (List.mem_cons.mp hr).elim (fun z => by rw [z]; rfl) (h3 r), by simp [h4]⟩
theorem Mt.permE {σ : St} {F H : Hp} {A : Ad} {rs : List R} {pm : List (Sum Nat D)} {β : Type} {k : List R → Res β} {P : β → List Sl → Hp → Hp → Ad → Prop} (m : Mt T W σ F H A (match permR rs pm with
    | some qs => k qs
    | none => .st) P) : ∃ qs, permR rs pm = some qs ∧ Mt T W σ F H A (k qs) P := by
  cases e : permR rs pm with
  | none => rw [e] at m; exact m.elim
  | some qs => rw [e] at m; exact ⟨qs, rfl, m⟩
theorem run_fnK {pins : List (Addr × Obj)} {σ : St} {H : Hp} {s : Shared} {Q : VK} {us ws : List Value} {all : List Value} {vs : List V} {ks : List Str} {sp : Sp} (F : FnOk X.prog X.w X.K X.mg X.base (L2.CX X.prog X.w) k fa fd ps sp) (hr : Room k X.A) (tk : TakesF X W)
    (hb : BindsTo s fd ⟨us, ks.zip ws⟩ (ps.zip all)) (I : Inv X pins σ H s) (r : Vals vs all) (h : sp vs H Q (WE W σ)) : wpAny (model X.prog X.w) X.A (call (.ref fa) us (ks.zip ws)) (EP X pins σ Q) X.xe s := by
  refine wpAny_call (codeAny_mono (F.run X.A X.stack s H ⟨us, ks.zip ws⟩ all vs Q (WE W σ) hr I.env0 hb r h) fun r s' hq => ?_)
  cases r with
  | error e => exact passAtF tk σ pins H s e s' I hq
  | ok fl =>
    cases fl with
    | ret u => exact I.after hq
    | next => exact False.elim hq
    | brk => exact False.elim hq
    | cont => exact False.elim hq
/-- f(k = v, ..) -/
theorem de_callK0 {kws : List Keyword} {ks : List Str} {pm : List (Sum Nat D)} (hnf : NfOk T c.nf) (F : FnAt X T (c.cf f) k fa fd ps) (hr : Room k X.A) (hg : Gl X nm) (hm : X.mg nm = some (.ref fa)) (tk : TakesF X W) (hk : DK X c T W kws l) (hb : KBp X fd ps 0 ks pm) (hl : l.len = ks.length) (hpm : pm.length = ps.length)
    (hall : (backToKw pos (keywordEach kws X.env)).all (·.1.isSome) = true := by rfl) (hks : (backToKw pos (keywordEach kws X.env)).filterMap (·.1) = ks := by rfl) (hdb : (nm == ("__debug__" : Str)) = false := by decide)
    (hpl : ((backTo pos (starEach [] X.env)).any (·.1) || (backToKw pos (keywordEach kws X.env)).any (·.1.isNone)) = false := by rfl) : DE X c T W (.Call (.Name nm p) [] kws pos) (.callK f l pm) := by
  refine ⟨fun pins s σ H Q I ⟨F0, G, A, R0, m⟩ => ?_⟩
  refine wpAny_Call_Name_kw (ld_glob I hg hm ?_ hdb)
  refine PySem.W.callWith_KW0 (h₀ := X.base) I.ok.mod.kin F.kp hall ?_ hpl
  unfold evE at m
  refine thn (hk.run pos pins s σ H (fun vs H1 => ∀ us s1, Inv X pins σ H1 s1 → Vals vs us → X.K.In s1.heap ∧ wpAny (model X.prog X.w) X.A (call (.ref fa) ([] ++ []) (((backToKw pos (keywordEach kws X.env)).filterMap (·.1)).zip us)) (EP X pins σ Q) X.xe s1) I ?_)
    fun us s1 ⟨vs, H1, I1, r, q⟩ => q us s1 I1 r
  refine rdA_call R0 m fun rs G1 F1 H1 A1 vs R1 s1 p1 hlen hp m1 us s2 I2 r => ⟨I2.kIn, ?_⟩
  obtain ⟨qs, hq, m2⟩ := m1.permE
  have hul : us.length = ks.length := by rw [← r.length, p1.length, hlen, hl]
  obtain ⟨all, h1, h2⟩ := hb s2 [] us I2.kIn rfl hul
  obtain ⟨ws, h3, h4, h5, h6⟩ := permR_ok p1 hp r hq (by simpa using h1)
  have q := call_ok hnf R1 h3 h5 (m2.imp fun r G' F' H' A' R2 s2 hq v rr nw => hq v rr (nw.back s1))
  rw [h3.length, h6, hpm] at q
  rw [hks]
  exact run_fnK F.ok hr tk h2 I2 h4 q
/-- f(e, .., k = v, ..) -/
theorem de_callK {kws : List Keyword} {ks : List Str} {pm : List (Sum Nat D)} {l2 : Es} {n : Nat} (hnf : NfOk T c.nf) (F : FnAt X T (c.cf f) k fa fd ps) (hr : Room k X.A) (hg : Gl X nm) (hm : X.mg nm = some (.ref fa)) (tk : TakesF X W) (h : DA X c T W (e :: es) l) (hk : DK X c T W kws l2) (hb : KBp X fd ps n ks pm) (hl : l.len = n) (hl2 : l2.len = ks.length) (hpm : pm.length = ps.length)
    (hall : (backToKw pos (keywordEach kws X.env)).all (·.1.isSome) = true := by rfl) (hks : (backToKw pos (keywordEach kws X.env)).filterMap (·.1) = ks := by rfl) (hdb : (nm == ("__debug__" : Str)) = false := by decide)
    (he : starEach (e :: es) X.env = (false, eval e X.env) :: starEach es X.env := by rfl)
    (hpl : ((backTo pos (starEach (e :: es) X.env)).any (·.1) || (backToKw pos (keywordEach kws X.env)).any (·.1.isNone)) = false := by rfl) : DE X c T W (.Call (.Name nm p) (e :: es) kws pos) (.callK f (l.app l2) pm) := by
  refine ⟨fun pins s σ H Q I ⟨F0, G, A, R0, m⟩ => ?_⟩
  refine wpAny_Call_Name_kw (ld_glob I hg hm ?_ hdb)
  unfold evE at m
  rw [evEs_app] at m
  have m : Mt T W σ F0 H A (resBind (evEs c l G) fun rs G1 => resBind (resBind (evEs c l2 G1) fun ss G2 => .ok (rs ++ ss) G2) fun rs G1 => match permR rs pm with
    | some qs => callF c f qs G1
    | none => .st) (fun r _ F' H' A' => ∀ v, RepR T F' H' σ A' v r → Nw H A v r → Q v H') := by
    revert m
    cases evEs c l G <;> exact fun m => m
  refine PySem.W.callWith_KW (h₀ := X.base) I.ok.mod.kin F.kp hall (thn (h.run pos pins s σ H (fun vs H1 => ∀ us s1, Inv X pins σ H1 s1 → Vals vs us → wpAny (model X.prog X.w) X.A (evalAll ((backToKw pos (keywordEach kws X.env)).map (·.2)))
      (fun ks s₂ => X.K.In s₂.heap ∧ wpAny (model X.prog X.w) X.A (call (.ref fa) ([] ++ us) (((backToKw pos (keywordEach kws X.env)).filterMap (·.1)).zip ks)) (EP X pins σ Q) X.xe s₂) X.xe s1) I ?_)
    fun us s1 ⟨vs, H1, I1, r, q⟩ => q us s1 I1 r) hpl he
  refine rdA_call R0 m fun rs G1 F1 H1 A1 vs R1 s1 p1 hlen hp m1 us s2 I2 r => ?_
  have m1 : Mt T W σ F1 H1 A1 (resBind (evEs c l2 G1) fun ss G2 => match permR (rs ++ ss) pm with
    | some qs => callF c f qs G2
    | none => .st) (fun r _ F' H' A' => ∀ v, RepR T F' H' σ A' v r → Nw H A v r → Q v H') := by
    revert m1
    cases evEs c l2 G1 <;> exact fun m => m
  refine thn (hk.run pos pins s2 σ H1 (fun zs H2 => ∀ ws s3, Inv X pins σ H2 s3 → Vals zs ws → X.K.In s3.heap ∧ wpAny (model X.prog X.w) X.A (call (.ref fa) ([] ++ us) (((backToKw pos (keywordEach kws X.env)).filterMap (·.1)).zip ws)) (EP X pins σ Q) X.xe s3) I2 ?_)
    fun ws s3 ⟨zs, H2, I3, r3, q⟩ => q ws s3 I3 r3
  refine rdA_call R1 m1 fun ss G2 F2 H2 A2 zs R2 st2 p2 hlen2 hp2 m2 ws s3 I3 r3 => ⟨I3.kIn, ?_⟩
  obtain ⟨qs, hq, m3⟩ := m2.permE
  have hul : us.length = n := by rw [← r.length, p1.length, hlen, hl]
  have hwl : ws.length = ks.length := by rw [← r3.length, p2.length, hlen2, hl2]
  obtain ⟨all, h1, h2⟩ := hb s3 us ws I3.kIn hul hwl
  have app : ∀ {vs rs zs ss}, RepRs T F2 H2 σ A2 vs rs → RepRs T F2 H2 σ A2 zs ss → RepRs T F2 H2 σ A2 (vs ++ zs) (rs ++ ss) := fun {vs rs zs ss} a b => by
    induction a with
    | nil => exact b
    | cons h _ ih => exact .cons h ih
  obtain ⟨ts, h3, h4, h5, h6⟩ := permR_ok (app (p1.step st2) p2) (fun r hr => (List.mem_append.mp hr).elim (hp r) (hp2 r)) (r.append r3) hq h1
  have q := call_ok hnf R2 h3 h5 (m3.imp fun r G' F' H' A' R2 s2 hq v rr nw => hq v rr (nw.back (s1.trans st2)))
  rw [h3.length, h6, hpm] at q
  rw [hks]
  exact run_fnK F.ok hr tk h2 I3 h4 q
end
end Mp

/-! Mq1: == and != of lists and tuples, item by item, whatever the items' own == does. -/
namespace Mq
open PySem PySem.SeqAt
open AutoSeq1 (wpAny_loadPart')
open MeetsSeq MeetsSeq2 MeetsSeq3 SeqRoads2
section
variable {pg : Program} {wd : World} {A : Around} {R : Result → Shared → Prop}
abbrev Fz (pg : Program) (wd : World) (A : Around) (R : Result → Shared → Prop) : Fin → Shared → Prop := fun z t => match z with
  | .done f => R (.ok f) t
  | .again cc => cc.quiet = true ∧ codeAny (model pg wd) A cc R t
/-- at each turn both lists are read anew; the i-th two items compare as e i -/
def Prs (pg : Program) (wd : World) (A : Around) (E : Value → Shared → Prop) (l m : Addr) (N : Nat) (e : Nat → Bool) (J : Nat → Shared → Prop) : Prop :=
  ∀ i t, J i t → ∃ (us ws : Array Value) (p q : Nat), t.heap.get? l = some { cls := .type "list", data := .seq us p } ∧ t.heap.get? m = some { cls := .type "list", data := .seq ws q } ∧ us.size = N ∧ ws.size = N ∧
    ((∀ j, j < i → e j = true) → ∀ (g1 : i < us.size) (g2 : i < ws.size), wpAny (model pg wd) A.in1 (eqBool us[i] ws[i]) (fun r u => r = e i ∧ J (i + 1) u) E t)
/-- what holds behind the items from i on -/
def Tail (N : Nat) (e : Nat → Bool) (J : Nat → Shared → Prop) (P : Bool → Shared → Prop) : Prop :=
  (∀ t, J N t → (∀ j, j < N → e j = true) → P true t) ∧ ∀ i t, i < N → e i = false → (∀ j, j < i → e j = true) → J (i + 1) t → P false t
theorem loop_eq (l m : Addr) (N : Nat) (e : Nat → Bool) (J : Nat → Shared → Prop) (hl : Prs pg wd A (fun x t => R (.error x) t) l m N e J)
    (hP : Tail N e J fun b t => R (.ok (.ret (.bool b))) t) (k : Nat) : ∀ i : Nat, N - i = k → i ≤ N → (∀ j, j < i → e j = true) → ∀ t, J i t →
      wpAny (model pg wd) A.in1 (Builtin.«list.__eq__.loop» ⟨[.ref l, .ref m, rawInt i, rawInt 2], []⟩) (Fz pg wd A R) (fun x t => R (.error x) t) t := by
  induction k with
  | zero =>
    intro i hk hi he t hJ
    obtain ⟨us, ws, p, q, o1, o2, z1, z2, _⟩ := hl _ _ hJ
    have hi' : i = N := by omega
    have fin := hP.1 t (hi' ▸ hJ) fun j hj => he j (by omega)
    obtain ⟨hp, g, d, tk, os⟩ := t
    wp_walk using wpAny_loadPart' o1, wpAny_loadPart' o2
    have n1 : us[((i : Nat) : Int).toNat]? = none := by simp; omega
    have n2 : ws[((i : Nat) : Int).toNat]? = none := by simp; omega
    rw [n1, n2]
    wp_walk using wpAny_loadPart' o1, wpAny_loadPart' o2
    show R (.ok (.ret (.bool (us.size == ws.size)))) _
    rw [z1, z2]
    simpa using fin
  | succ k ih =>
    intro i hk hi he t hJ
    obtain ⟨us, ws, p, q, o1, o2, z1, z2, turn⟩ := hl _ _ hJ
    have b1 : i < us.size := by omega
    have b2 : i < ws.size := by omega
    have tn := turn he b1 b2
    obtain ⟨hp, g, d, tk, os⟩ := t
    wp_walk using wpAny_loadPart' o1, wpAny_loadPart' o2
    have n1 : us[((i : Nat) : Int).toNat]? = some us[i] := by simp [b1]
    have n2 : ws[((i : Nat) : Int).toNat]? = some ws[i] := by simp [b2]
    have up : ((i : Int) + 1) = ((i + 1 : Nat) : Int) := by omega
    rw [n1, n2]
    refine wpAny_bind (wpAny_mono tn (fun r u hu => ?_) fun _ _ z => z)
    obtain ⟨hr, hu⟩ := hu
    subst hr
    cases hb : e i with
    | true =>
      have he' : ∀ j, j < i + 1 → e j = true := fun j hj => (Nat.lt_succ_iff_lt_or_eq.mp hj).elim (he j) fun z => by rw [z]; exact hb
      have rc := ih (i + 1) (by omega) (by omega) he' u hu
      obtain ⟨hp2, g2, d2, tk2, os2⟩ := u
      wp_walk
      rw [up]
      refine ⟨plainId_quiet plain_eq_loop _, codeAny_builtin entry_eq_loop ?_⟩
      rw [Around.under_plainId plain_eq_loop _]
      exact rc
    | false =>
      have fin := hP.2 i u (by omega) hb he hu
      obtain ⟨us2, ws2, p2, q2, o3, o4, z3, z4⟩ : ∃ (us ws : Array Value) (p q : Nat), u.heap.get? l = some { cls := .type "list", data := .seq us p } ∧ u.heap.get? m = some { cls := .type "list", data := .seq ws q } ∧ us.size = N ∧ ws.size = N := by
        obtain ⟨us, ws, p, q, a1, a2, a3, a4, _⟩ := hl _ _ hu
        exact ⟨us, ws, p, q, a1, a2, a3, a4⟩
      have c1 : i < us2.size := by omega
      have c2 : i < ws2.size := by omega
      have n3 : us2[((i : Nat) : Int).toNat]? = some us2[i] := by simp [c1]
      have n4 : ws2[((i : Nat) : Int).toNat]? = some ws2[i] := by simp [c2]
      obtain ⟨hp2, g2, d2, tk2, os2⟩ := u
      wp_walk using wpAny_loadPart' o3, wpAny_loadPart' o4
      rw [n3, n4]
      wp_walk
      exact fin
theorem loop_ne (l m : Addr) (N : Nat) (e : Nat → Bool) (J : Nat → Shared → Prop) (hl : Prs pg wd A (fun x t => R (.error x) t) l m N e J)
    (hP : Tail N e J fun b t => R (.ok (.ret (.bool (!b)))) t) (k : Nat) : ∀ i : Nat, N - i = k → i ≤ N → (∀ j, j < i → e j = true) → ∀ t, J i t →
      wpAny (model pg wd) A.in1 (Builtin.«list.__eq__.loop» ⟨[.ref l, .ref m, rawInt i, rawInt 3], []⟩) (Fz pg wd A R) (fun x t => R (.error x) t) t := by
  induction k with
  | zero =>
    intro i hk hi he t hJ
    obtain ⟨us, ws, p, q, o1, o2, z1, z2, _⟩ := hl _ _ hJ
    have hi' : i = N := by omega
    have fin := hP.1 t (hi' ▸ hJ) fun j hj => he j (by omega)
    obtain ⟨hp, g, d, tk, os⟩ := t
    wp_walk using wpAny_loadPart' o1, wpAny_loadPart' o2
    have n1 : us[((i : Nat) : Int).toNat]? = none := by simp; omega
    have n2 : ws[((i : Nat) : Int).toNat]? = none := by simp; omega
    rw [n1, n2]
    wp_walk using wpAny_loadPart' o1, wpAny_loadPart' o2
    show R (.ok (.ret (.bool (us.size != ws.size)))) _
    rw [z1, z2]
    simpa using fin
  | succ k ih =>
    intro i hk hi he t hJ
    obtain ⟨us, ws, p, q, o1, o2, z1, z2, turn⟩ := hl _ _ hJ
    have b1 : i < us.size := by omega
    have b2 : i < ws.size := by omega
    have tn := turn he b1 b2
    obtain ⟨hp, g, d, tk, os⟩ := t
    wp_walk using wpAny_loadPart' o1, wpAny_loadPart' o2
    have n1 : us[((i : Nat) : Int).toNat]? = some us[i] := by simp [b1]
    have n2 : ws[((i : Nat) : Int).toNat]? = some ws[i] := by simp [b2]
    have up : ((i : Int) + 1) = ((i + 1 : Nat) : Int) := by omega
    rw [n1, n2]
    refine wpAny_bind (wpAny_mono tn (fun r u hu => ?_) fun _ _ z => z)
    obtain ⟨hr, hu⟩ := hu
    subst hr
    cases hb : e i with
    | true =>
      have he' : ∀ j, j < i + 1 → e j = true := fun j hj => (Nat.lt_succ_iff_lt_or_eq.mp hj).elim (he j) fun z => by rw [z]; exact hb
      have rc := ih (i + 1) (by omega) (by omega) he' u hu
      obtain ⟨hp2, g2, d2, tk2, os2⟩ := u
      wp_walk
      rw [up]
      refine ⟨plainId_quiet plain_eq_loop _, codeAny_builtin entry_eq_loop ?_⟩
      rw [Around.under_plainId plain_eq_loop _]
      exact rc
    | false =>
      have fin := hP.2 i u (by omega) hb he hu
      obtain ⟨us2, ws2, p2, q2, o3, o4, z3, z4⟩ : ∃ (us ws : Array Value) (p q : Nat), u.heap.get? l = some { cls := .type "list", data := .seq us p } ∧ u.heap.get? m = some { cls := .type "list", data := .seq ws q } ∧ us.size = N ∧ ws.size = N := by
        obtain ⟨us, ws, p, q, a1, a2, a3, a4, _⟩ := hl _ _ hu
        exact ⟨us, ws, p, q, a1, a2, a3, a4⟩
      have c1 : i < us2.size := by omega
      have c2 : i < ws2.size := by omega
      have n3 : us2[((i : Nat) : Int).toNat]? = some us2[i] := by simp [c1]
      have n4 : ws2[((i : Nat) : Int).toNat]? = some ws2[i] := by simp [c2]
      obtain ⟨hp2, g2, d2, tk2, os2⟩ := u
      wp_walk using wpAny_loadPart' o3, wpAny_loadPart' o4
      rw [n3, n4]
      wp_walk
      exact fin

theorem list_eqB (l m : Addr) (N : Nat) (e : Nat → Bool) (J : Nat → Shared → Prop) (hl : Prs pg wd A (fun x t => R (.error x) t) l m N e J)
    (hP : Tail N e J fun b t => R (.ok (.ret (.bool b))) t) {t : Shared} (hJ : J 0 t) :
    wpAny (model pg wd) A.in1 (Builtin.«list.__eq__» ⟨[.ref l, .ref m], []⟩) (Fz pg wd A R) (fun x t => R (.error x) t) t := by
  obtain ⟨us, ws, p, q, o1, o2, z1, z2, _⟩ := hl _ _ hJ
  have rc := loop_eq (A := A) (R := R) l m N e J hl hP _ 0 rfl (Nat.zero_le _) (fun j hj => absurd hj (Nat.not_lt_zero j)) t hJ
  obtain ⟨hp, g, d, tk, os⟩ := t
  have sub := AutoSeq1.sub_list_list
  have same : ¬ (us.size != ws.size) = true := by simp [z1, z2]
  wp_walk using wpAny_loadPart' o1, wpAny_loadPart' o2
  refine ⟨plainId_quiet plain_eq_loop _, codeAny_builtin entry_eq_loop ?_⟩
  rw [Around.under_plainId plain_eq_loop _]
  exact rc
theorem list_neB (l m : Addr) (N : Nat) (e : Nat → Bool) (J : Nat → Shared → Prop) (hl : Prs pg wd A (fun x t => R (.error x) t) l m N e J)
    (hP : Tail N e J fun b t => R (.ok (.ret (.bool (!b)))) t) {t : Shared} (hJ : J 0 t) :
    wpAny (model pg wd) A.in1 (Builtin.«list.__ne__» ⟨[.ref l, .ref m], []⟩) (Fz pg wd A R) (fun x t => R (.error x) t) t := by
  obtain ⟨us, ws, p, q, o1, o2, z1, z2, _⟩ := hl _ _ hJ
  have rc := loop_ne (A := A) (R := R) l m N e J hl hP _ 0 rfl (Nat.zero_le _) (fun j hj => absurd hj (Nat.not_lt_zero j)) t hJ
  obtain ⟨hp, g, d, tk, os⟩ := t
  have sub := AutoSeq1.sub_list_list
  have same : ¬ (us.size != ws.size) = true := by simp [z1, z2]
  wp_walk using wpAny_loadPart' o1, wpAny_loadPart' o2
  refine ⟨plainId_quiet plain_eq_loop _, codeAny_builtin entry_eq_loop ?_⟩
  rw [Around.under_plainId plain_eq_loop _]
  exact rc
/-- lists of unlike lengths -/
theorem list_eqN (l m : Addr) {us ws : Array Value} {p q : Nat} {t : Shared} (o1 : t.heap.get? l = some { cls := .type "list", data := .seq us p }) (o2 : t.heap.get? m = some { cls := .type "list", data := .seq ws q }) (hne : us.size ≠ ws.size) (h : R (.ok (.ret (.bool false))) t) :
    wpAny (model pg wd) A.in1 (Builtin.«list.__eq__» ⟨[.ref l, .ref m], []⟩) (Fz pg wd A R) (fun x t => R (.error x) t) t := by
  obtain ⟨hp, g, d, tk, os⟩ := t
  have sub := AutoSeq1.sub_list_list
  have other : (us.size != ws.size) = true := by simpa using hne
  wp_walk using wpAny_loadPart' o1, wpAny_loadPart' o2
  exact h
theorem list_neN (l m : Addr) {us ws : Array Value} {p q : Nat} {t : Shared} (o1 : t.heap.get? l = some { cls := .type "list", data := .seq us p }) (o2 : t.heap.get? m = some { cls := .type "list", data := .seq ws q }) (hne : us.size ≠ ws.size) (h : R (.ok (.ret (.bool true))) t) :
    wpAny (model pg wd) A.in1 (Builtin.«list.__ne__» ⟨[.ref l, .ref m], []⟩) (Fz pg wd A R) (fun x t => R (.error x) t) t := by
  obtain ⟨hp, g, d, tk, os⟩ := t
  have sub := AutoSeq1.sub_list_list
  have other : (us.size != ws.size) = true := by simpa using hne
  wp_walk using wpAny_loadPart' o1, wpAny_loadPart' o2
  exact h

theorem tuple_eqB (l m : Addr) (us ws : Array Value) (p q : Nat) (dd de : Option Addr) (sl sm : Array (Option Value)) (e : Nat → Bool) (J : Nat → Shared → Prop)
    (turn : ∀ i (g1 : i < us.size) (g2 : i < ws.size) t, (∀ j, j < i → e j = true) → J i t → wpAny (model pg wd) A.in1 (eqBool us[i] ws[i]) (fun r u => r = e i ∧ J (i + 1) u) (fun x t => R (.error x) t) t)
    (hE : ∀ t, J (min us.size ws.size) t → (∀ j, j < min us.size ws.size → e j = true) → R (.ok (.ret (.bool (us.size == ws.size)))) t)
    (hD : ∀ i t, i < min us.size ws.size → e i = false → (∀ j, j < i → e j = true) → J (i + 1) t → R (.ok (.ret (.bool false))) t)
    {t : Shared} (o1 : t.heap.get? l = some { cls := .type "tuple", dict := dd, data := .seq us p, slots := sl }) (o2 : t.heap.get? m = some { cls := .type "tuple", dict := de, data := .seq ws q, slots := sm }) (hJ : J 0 t) :
    wpAny (model pg wd) A.in1 (Builtin.«tuple.__eq__» ⟨[.ref l, .ref m], []⟩) (Fz pg wd A R) (fun x t => R (.error x) t) t := by
  have sub := AutoSeq1.sub_tuple_tuple
  have hZ : (us.toList.zip ws.toList).length = min us.size ws.size := by simp
  have J0 := hJ
  obtain ⟨hp, g, d, tk, os⟩ := t
  wp_walk using wpAny_loadPart' o1, wpAny_loadPart' o2, wpAny_forIn_list _ (fun rest b u => b.1 = none ∧ ∃ i, rest = (us.toList.zip ws.toList).drop i ∧ i ≤ min us.size ws.size ∧ (∀ j, j < i → e j = true) ∧ J i u) _
  case turn =>
    rintro ⟨y, x⟩ rest b u ⟨hb', i, hzz, hi, he, hI⟩
    have lt : i < (us.toList.zip ws.toList).length := Nat.lt_of_not_le fun h' => by
      rw [List.drop_of_length_le h'] at hzz
      cases hzz
    have hm : i < min us.size ws.size := hZ ▸ lt
    have g1 : i < us.size := Nat.lt_of_lt_of_le hm (Nat.min_le_left _ _)
    have g2 : i < ws.size := Nat.lt_of_lt_of_le hm (Nat.min_le_right _ _)
    rw [List.drop_eq_getElem_cons lt] at hzz
    injection hzz with pair more
    obtain rfl : y = us[i] := by simpa using congrArg Prod.fst pair
    obtain rfl : x = ws[i] := by simpa using congrArg Prod.snd pair
    refine wpAny_bind (wpAny_mono (turn i g1 g2 u he hI) (fun r u2 qq => ?_) fun _ _ z => z)
    obtain ⟨hr, qq⟩ := qq
    subst hr
    cases hb : e i with
    | true =>
      wp_walk
      exact ⟨rfl, i + 1, more, hm, fun j hj => (Nat.lt_succ_iff_lt_or_eq.mp hj).elim (he j) fun z => by rw [z]; exact hb, qq⟩
    | false =>
      have fin := hD i u2 hm hb he qq
      wp_walk
      exact fin
  case fin =>
    rintro ⟨b1, b2⟩ u ⟨hb', i, hzz, hi, he, hI⟩
    simp only at hb'
    subst hb'
    have ge : min us.size ws.size ≤ i := Nat.le_of_not_lt fun h' => by
      rw [List.drop_eq_getElem_cons (hZ.symm ▸ h')] at hzz
      cases hzz
    have hi' : i = min us.size ws.size := Nat.le_antisymm hi ge
    subst hi'
    have fin := hE u hI he
    wp_walk
    simpa [Builtin.Tuple.tupleCompareSizes] using fin
  case h =>
    exact ⟨rfl, 0, rfl, Nat.zero_le _, (fun j hj => absurd hj (Nat.not_lt_zero j)), J0⟩

theorem tuple_neB (l m : Addr) (us ws : Array Value) (p q : Nat) (dd de : Option Addr) (sl sm : Array (Option Value)) (e : Nat → Bool) (J : Nat → Shared → Prop)
    (turn : ∀ i (g1 : i < us.size) (g2 : i < ws.size) t, (∀ j, j < i → e j = true) → J i t → wpAny (model pg wd) A.in1 (eqBool us[i] ws[i]) (fun r u => r = e i ∧ J (i + 1) u) (fun x t => R (.error x) t) t)
    (hE : ∀ t, J (min us.size ws.size) t → (∀ j, j < min us.size ws.size → e j = true) → R (.ok (.ret (.bool (us.size != ws.size)))) t)
    (hD : ∀ i t, i < min us.size ws.size → e i = false → (∀ j, j < i → e j = true) → J (i + 1) t → R (.ok (.ret (.bool true))) t)
    {t : Shared} (o1 : t.heap.get? l = some { cls := .type "tuple", dict := dd, data := .seq us p, slots := sl }) (o2 : t.heap.get? m = some { cls := .type "tuple", dict := de, data := .seq ws q, slots := sm }) (hJ : J 0 t) :
    wpAny (model pg wd) A.in1 (Builtin.«tuple.__ne__» ⟨[.ref l, .ref m], []⟩) (Fz pg wd A R) (fun x t => R (.error x) t) t := by
  have sub := AutoSeq1.sub_tuple_tuple
  have hZ : (us.toList.zip ws.toList).length = min us.size ws.size := by simp
  have J0 := hJ
  obtain ⟨hp, g, d, tk, os⟩ := t
  wp_walk using wpAny_loadPart' o1, wpAny_loadPart' o2, wpAny_forIn_list _ (fun rest b u => b.1 = none ∧ ∃ i, rest = (us.toList.zip ws.toList).drop i ∧ i ≤ min us.size ws.size ∧ (∀ j, j < i → e j = true) ∧ J i u) _
  case turn =>
    rintro ⟨y, x⟩ rest b u ⟨hb', i, hzz, hi, he, hI⟩
    have lt : i < (us.toList.zip ws.toList).length := Nat.lt_of_not_le fun h' => by
      rw [List.drop_of_length_le h'] at hzz
      cases hzz
    have hm : i < min us.size ws.size := hZ ▸ lt
    have g1 : i < us.size := Nat.lt_of_lt_of_le hm (Nat.min_le_left _ _)
    have g2 : i < ws.size := Nat.lt_of_lt_of_le hm (Nat.min_le_right _ _)
    rw [List.drop_eq_getElem_cons lt] at hzz
    injection hzz with pair more
    obtain rfl : y = us[i] := by simpa using congrArg Prod.fst pair
    obtain rfl : x = ws[i] := by simpa using congrArg Prod.snd pair
    refine wpAny_bind (wpAny_mono (turn i g1 g2 u he hI) (fun r u2 qq => ?_) fun _ _ z => z)
    obtain ⟨hr, qq⟩ := qq
    subst hr
    cases hb : e i with
    | true =>
      wp_walk
      exact ⟨rfl, i + 1, more, hm, fun j hj => (Nat.lt_succ_iff_lt_or_eq.mp hj).elim (he j) fun z => by rw [z]; exact hb, qq⟩
    | false =>
      have fin := hD i u2 hm hb he qq
      wp_walk
      exact fin
  case fin =>
    rintro ⟨b1, b2⟩ u ⟨hb', i, hzz, hi, he, hI⟩
    simp only at hb'
    subst hb'
    have ge : min us.size ws.size ≤ i := Nat.le_of_not_lt fun h' => by
      rw [List.drop_eq_getElem_cons (hZ.symm ▸ h')] at hzz
      cases hzz
    have hi' : i = min us.size ws.size := Nat.le_antisymm hi ge
    subst hi'
    have fin := hE u hI he
    wp_walk
    simpa [Builtin.Tuple.tupleCompareSizes] using fin
  case h =>
    exact ⟨rfl, 0, rfl, Nat.zero_le _, (fun j hj => absurd hj (Nat.not_lt_zero j)), J0⟩

/-- one list read at each turn; its i-th item compared with x gives e i -/
def Prc (pg : Program) (wd : World) (A : Around) (E : Value → Shared → Prop) (l : Addr) (x : Value) (N : Nat) (e : Nat → Bool) (J : Nat → Shared → Prop) : Prop :=
  ∀ i t, J i t → ∃ (us : Array Value) (p : Nat), t.heap.get? l = some { cls := .type "list", data := .seq us p } ∧ us.size = N ∧
    ((∀ j, j < i → e j = false) → ∀ (g1 : i < us.size), wpAny (model pg wd) A.in1 (eqBool us[i] x) (fun r u => r = e i ∧ J (i + 1) u) E t)
theorem loop_in (l : Addr) (x : Value) (N : Nat) (e : Nat → Bool) (J : Nat → Shared → Prop) (hl : Prc pg wd A (fun z t => R (.error z) t) l x N e J)
    (hE : ∀ t, J N t → (∀ j, j < N → e j = false) → R (.ok (.ret (.bool false))) t) (hD : ∀ i t, i < N → e i = true → (∀ j, j < i → e j = false) → J (i + 1) t → R (.ok (.ret (.bool true))) t) (k : Nat) :
    ∀ i : Nat, N - i = k → i ≤ N → (∀ j, j < i → e j = false) → ∀ t, J i t →
      wpAny (model pg wd) A.in1 (Builtin.«list.__contains__.loop» ⟨[.ref l, x, rawInt i], []⟩) (Fz pg wd A R) (fun z t => R (.error z) t) t := by
  induction k with
  | zero =>
    intro i hk hi he t hJ
    obtain ⟨us, p, o1, z1, _⟩ := hl _ _ hJ
    have hi' : i = N := by omega
    have fin := hE t (hi' ▸ hJ) fun j hj => he j (by omega)
    obtain ⟨hp, g, d, tk, os⟩ := t
    wp_walk using wpAny_loadPart' o1
    have n1 : us[((i : Nat) : Int).toNat]? = none := by simp; omega
    rw [n1]
    wp_walk
    exact fin
  | succ k ih =>
    intro i hk hi he t hJ
    obtain ⟨us, p, o1, z1, turn⟩ := hl _ _ hJ
    have b1 : i < us.size := by omega
    have tn := turn he b1
    obtain ⟨hp, g, d, tk, os⟩ := t
    wp_walk using wpAny_loadPart' o1
    have n1 : us[((i : Nat) : Int).toNat]? = some us[i] := by simp [b1]
    have up : ((i : Int) + 1) = ((i + 1 : Nat) : Int) := by omega
    rw [n1]
    refine wpAny_bind (wpAny_mono tn (fun r u hu => ?_) fun _ _ z => z)
    obtain ⟨hr, hu⟩ := hu
    subst hr
    cases hb : e i with
    | true =>
      have fin := hD i u (by omega) hb he hu
      wp_walk
      exact fin
    | false =>
      have he' : ∀ j, j < i + 1 → e j = false := fun j hj => (Nat.lt_succ_iff_lt_or_eq.mp hj).elim (he j) fun z => by rw [z]; exact hb
      have rc := ih (i + 1) (by omega) (by omega) he' u hu
      obtain ⟨hp2, g2, d2, tk2, os2⟩ := u
      wp_walk
      rw [up]
      refine ⟨plainId_quiet plain_contains_loop _, codeAny_builtin entry_contains_loop ?_⟩
      rw [Around.under_plainId plain_contains_loop _]
      exact rc
theorem list_inB (l : Addr) (x : Value) (N : Nat) (e : Nat → Bool) (J : Nat → Shared → Prop) (hl : Prc pg wd A (fun z t => R (.error z) t) l x N e J)
    (hE : ∀ t, J N t → (∀ j, j < N → e j = false) → R (.ok (.ret (.bool false))) t) (hD : ∀ i t, i < N → e i = true → (∀ j, j < i → e j = false) → J (i + 1) t → R (.ok (.ret (.bool true))) t) {t : Shared} (hJ : J 0 t) :
    wpAny (model pg wd) A.in1 (Builtin.«list.__contains__» ⟨[.ref l, x], []⟩) (Fz pg wd A R) (fun z t => R (.error z) t) t := by
  obtain ⟨us, p, o1, z1, _⟩ := hl _ _ hJ
  have rc := loop_in (A := A) (R := R) l x N e J hl hE hD _ 0 rfl (Nat.zero_le _) (fun j hj => absurd hj (Nat.not_lt_zero j)) t hJ
  obtain ⟨hp, g, d, tk, os⟩ := t
  wp_walk using wpAny_loadPart' o1
  refine ⟨plainId_quiet plain_contains_loop _, codeAny_builtin entry_contains_loop ?_⟩
  rw [Around.under_plainId plain_contains_loop _]
  exact rc
theorem tuple_inB (l : Addr) (x : Value) (us : Array Value) (p : Nat) (dd : Option Addr) (sl : Array (Option Value)) (e : Nat → Bool) (J : Nat → Shared → Prop)
    (turn : ∀ i (g1 : i < us.size) t, (∀ j, j < i → e j = false) → J i t → wpAny (model pg wd) A.in1 (eqBool us[i] x) (fun r u => r = e i ∧ J (i + 1) u) (fun z t => R (.error z) t) t)
    (hE : ∀ t, J us.size t → (∀ j, j < us.size → e j = false) → R (.ok (.ret (.bool false))) t) (hD : ∀ i t, i < us.size → e i = true → (∀ j, j < i → e j = false) → J (i + 1) t → R (.ok (.ret (.bool true))) t)
    {t : Shared} (o1 : t.heap.get? l = some { cls := .type "tuple", dict := dd, data := .seq us p, slots := sl }) (hJ : J 0 t) :
    wpAny (model pg wd) A.in1 (Builtin.«tuple.__contains__» ⟨[.ref l, x], []⟩) (Fz pg wd A R) (fun z t => R (.error z) t) t := by
  have J0 := hJ
  obtain ⟨hp, g, d, tk, os⟩ := t
  wp_walk using wpAny_loadPart' o1, wpAny_forIn_array _ (fun rest b u => b.1 = none ∧ ∃ i, rest = us.toList.drop i ∧ i ≤ us.size ∧ (∀ j, j < i → e j = false) ∧ J i u) _
  case turn =>
    rintro y rest b u ⟨hb', i, hzz, hi, he, hI⟩
    have lt : i < us.toList.length := Nat.lt_of_not_le fun h' => by
      rw [List.drop_of_length_le h'] at hzz
      cases hzz
    have g1 : i < us.size := by simpa using lt
    rw [List.drop_eq_getElem_cons lt] at hzz
    injection hzz with pair more
    obtain rfl : y = us[i] := by simpa using pair
    refine wpAny_bind (wpAny_mono (turn i g1 u he hI) (fun r u2 qq => ?_) fun _ _ z => z)
    obtain ⟨hr, qq⟩ := qq
    subst hr
    cases hb : e i with
    | true =>
      have fin := hD i u2 g1 hb he qq
      wp_walk
      exact fin
    | false =>
      wp_walk
      exact ⟨rfl, i + 1, more, g1, fun j hj => (Nat.lt_succ_iff_lt_or_eq.mp hj).elim (he j) fun z => by rw [z]; exact hb, qq⟩
  case fin =>
    rintro ⟨b1, b2⟩ u ⟨hb', i, hzz, hi, he, hI⟩
    simp only at hb'
    subst hb'
    have ge : us.size ≤ i := Nat.le_of_not_lt fun h' => by
      rw [List.drop_eq_getElem_cons (by simpa using h')] at hzz
      cases hzz
    have hi' : i = us.size := Nat.le_antisymm hi ge
    subst hi'
    have fin := hE u hI he
    wp_walk
    exact fin
  case h =>
    exact ⟨rfl, 0, rfl, Nat.zero_le _, (fun j hj => absurd hj (Nat.not_lt_zero j)), J0⟩
end
end Mq

/-! Mq2: == != in, by what the operators do. -/
namespace Mq
open PySem PySem.SeqAt PySem.W
open AutoSeq1 (wpAny_loadPart')
open MeetsSeq MeetsSeq2 MeetsSeq3 SeqRoads2
section
variable {pg : Program} {wd : World} {A : Around} {E : Value → Shared → Prop} {s : Shared} {Q : Value → Shared → Prop} {l m : Addr} {N : Nat} {e : Nat → Bool} {J : Nat → Shared → Prop}
theorem rc_eqL (hu : A.units < cLine) (hl : Prs pg wd A E l m N e J) (hP : Tail N e J fun b t => Q (.bool b) t) (hJ : J 0 s) : wpAny (model pg wd) A (richCompare .Eq (.ref l) (.ref m)) Q E s := by
  obtain ⟨us, ws, p, q, o1, o2, _⟩ := hl _ _ hJ
  refine wpAny_richCompare_same_room (op := .Eq) ⟨_, o1, rfl⟩ ⟨_, o2, rfl⟩ F.slot_list_eq (GQ.call_here F.slot_list_eq ⟨_, o1, rfl⟩ F.entry_list_eq (F.args_list_eq_2 _ _) ?_) hu
  exact list_eqB (R := wants (fun v t => v ≠ .notImplemented ∧ Q v t) E) l m N e J hl ⟨fun t a b => ⟨(fun z => nomatch z), hP.1 t a b⟩, fun i t a b c d => ⟨(fun z => nomatch z), hP.2 i t a b c d⟩⟩ hJ
theorem rc_neL (hu : A.units < cLine) (hl : Prs pg wd A E l m N e J) (hP : Tail N e J fun b t => Q (.bool (!b)) t) (hJ : J 0 s) : wpAny (model pg wd) A (richCompare .NotEq (.ref l) (.ref m)) Q E s := by
  obtain ⟨us, ws, p, q, o1, o2, _⟩ := hl _ _ hJ
  refine wpAny_richCompare_same_room (op := .NotEq) ⟨_, o1, rfl⟩ ⟨_, o2, rfl⟩ F.slot_list_ne (GQ.call_here F.slot_list_ne ⟨_, o1, rfl⟩ F.entry_list_ne (F.args_list_ne_2 _ _) ?_) hu
  exact list_neB (R := wants (fun v t => v ≠ .notImplemented ∧ Q v t) E) l m N e J hl ⟨fun t a b => ⟨(fun z => nomatch z), hP.1 t a b⟩, fun i t a b c d => ⟨(fun z => nomatch z), hP.2 i t a b c d⟩⟩ hJ
theorem rc_eqLN {us ws : Array Value} {p q : Nat} (hu : A.units < cLine) (o1 : s.heap.get? l = some { cls := .type "list", data := .seq us p }) (o2 : s.heap.get? m = some { cls := .type "list", data := .seq ws q }) (hne : us.size ≠ ws.size) (h : Q (.bool false) s) :
    wpAny (model pg wd) A (richCompare .Eq (.ref l) (.ref m)) Q E s := by
  refine wpAny_richCompare_same_room (op := .Eq) ⟨_, o1, rfl⟩ ⟨_, o2, rfl⟩ F.slot_list_eq (GQ.call_here F.slot_list_eq ⟨_, o1, rfl⟩ F.entry_list_eq (F.args_list_eq_2 _ _) ?_) hu
  exact list_eqN (R := wants (fun v t => v ≠ .notImplemented ∧ Q v t) E) l m o1 o2 hne ⟨(fun z => nomatch z), h⟩
theorem rc_neLN {us ws : Array Value} {p q : Nat} (hu : A.units < cLine) (o1 : s.heap.get? l = some { cls := .type "list", data := .seq us p }) (o2 : s.heap.get? m = some { cls := .type "list", data := .seq ws q }) (hne : us.size ≠ ws.size) (h : Q (.bool true) s) :
    wpAny (model pg wd) A (richCompare .NotEq (.ref l) (.ref m)) Q E s := by
  refine wpAny_richCompare_same_room (op := .NotEq) ⟨_, o1, rfl⟩ ⟨_, o2, rfl⟩ F.slot_list_ne (GQ.call_here F.slot_list_ne ⟨_, o1, rfl⟩ F.entry_list_ne (F.args_list_ne_2 _ _) ?_) hu
  exact list_neN (R := wants (fun v t => v ≠ .notImplemented ∧ Q v t) E) l m o1 o2 hne ⟨(fun z => nomatch z), h⟩
/-- the turns of two tuples -/
def Prt (pg : Program) (wd : World) (A : Around) (E : Value → Shared → Prop) (us ws : Array Value) (e : Nat → Bool) (J : Nat → Shared → Prop) : Prop :=
  ∀ i (g1 : i < us.size) (g2 : i < ws.size) t, (∀ j, j < i → e j = true) → J i t → wpAny (model pg wd) A.in1 (eqBool us[i] ws[i]) (fun r u => r = e i ∧ J (i + 1) u) E t
theorem rc_eqT {us ws : Array Value} (hu : A.units < cLine) (i1 : s.heap.IsTuple l us) (i2 : s.heap.IsTuple m ws) (turn : Prt pg wd A E us ws e J)
    (hE : ∀ t, J (min us.size ws.size) t → (∀ j, j < min us.size ws.size → e j = true) → Q (.bool (us.size == ws.size)) t)
    (hD : ∀ i t, i < min us.size ws.size → e i = false → (∀ j, j < i → e j = true) → J (i + 1) t → Q (.bool false) t) (hJ : J 0 s) : wpAny (model pg wd) A (richCompare .Eq (.ref l) (.ref m)) Q E s := by
  obtain ⟨⟨c1, dd, data, sl⟩, o1, h1, n, hd⟩ := id i1
  obtain ⟨⟨c2, de, data2, sm⟩, o2, h2, n2, hd2⟩ := id i2
  simp only at h1 hd h2 hd2
  subst h1 hd h2 hd2
  refine wpAny_richCompare_same_room (op := .Eq) ⟨_, o1, rfl⟩ ⟨_, o2, rfl⟩ F.slot_tuple_eq (GQ.call_here F.slot_tuple_eq ⟨_, o1, rfl⟩ F.entry_tuple_eq (F.args_tuple_eq_2 _ _) ?_) hu
  exact tuple_eqB (R := wants (fun v t => v ≠ .notImplemented ∧ Q v t) E) l m us ws n n2 dd de sl sm e J turn (fun t a b => ⟨(fun z => nomatch z), hE t a b⟩) (fun i t a b c d => ⟨(fun z => nomatch z), hD i t a b c d⟩) o1 o2 hJ
theorem rc_neT {us ws : Array Value} (hu : A.units < cLine) (i1 : s.heap.IsTuple l us) (i2 : s.heap.IsTuple m ws) (turn : Prt pg wd A E us ws e J)
    (hE : ∀ t, J (min us.size ws.size) t → (∀ j, j < min us.size ws.size → e j = true) → Q (.bool (us.size != ws.size)) t)
    (hD : ∀ i t, i < min us.size ws.size → e i = false → (∀ j, j < i → e j = true) → J (i + 1) t → Q (.bool true) t) (hJ : J 0 s) : wpAny (model pg wd) A (richCompare .NotEq (.ref l) (.ref m)) Q E s := by
  obtain ⟨⟨c1, dd, data, sl⟩, o1, h1, n, hd⟩ := id i1
  obtain ⟨⟨c2, de, data2, sm⟩, o2, h2, n2, hd2⟩ := id i2
  simp only at h1 hd h2 hd2
  subst h1 hd h2 hd2
  refine wpAny_richCompare_same_room (op := .NotEq) ⟨_, o1, rfl⟩ ⟨_, o2, rfl⟩ F.slot_tuple_ne (GQ.call_here F.slot_tuple_ne ⟨_, o1, rfl⟩ F.entry_tuple_ne (F.args_tuple_ne_2 _ _) ?_) hu
  exact tuple_neB (R := wants (fun v t => v ≠ .notImplemented ∧ Q v t) E) l m us ws n n2 dd de sl sm e J turn (fun t a b => ⟨(fun z => nomatch z), hE t a b⟩) (fun i t a b c d => ⟨(fun z => nomatch z), hD i t a b c d⟩) o1 o2 hJ
/-- x in c, by what __contains__ gives -/
theorem in_by {T id : String} {B : Builtin} {c x : Value} (hT : s.TypeIs c T) (slot : Slot T "__contains__" id) (entry : entryFor table id = some B) (args : argsOk id ⟨[c, x], []⟩)
    (h : wpAny (model pg wd) A.in1 (B ⟨[c, x], []⟩) (Fz pg wd A (wants (fun v t => ∃ b, v = .bool b ∧ Q (.bool b) t) E)) (fun z t => wants (fun v t => ∃ b, v = .bool b ∧ Q (.bool b) t) E (.error z) t) s) : wpAny (model pg wd) A (compareOp .In x c) Q E s := by
  show wpAny _ A (do return .bool (← contains c x)) Q E s
  refine wpAny_bind (wpAny_contains_slot hT slot (wpAny_mono (GQ.call_here slot hT entry args h) (fun v t hv => ?_) fun _ _ z => z))
  obtain ⟨b, rfl, q⟩ := hv
  exact wpAny_truthy_bool (wpAny_pure q)
theorem notIn_by {T id : String} {B : Builtin} {c x : Value} (hT : s.TypeIs c T) (slot : Slot T "__contains__" id) (entry : entryFor table id = some B) (args : argsOk id ⟨[c, x], []⟩)
    (h : wpAny (model pg wd) A.in1 (B ⟨[c, x], []⟩) (Fz pg wd A (wants (fun v t => ∃ b, v = .bool b ∧ Q (.bool (!b)) t) E)) (fun z t => wants (fun v t => ∃ b, v = .bool b ∧ Q (.bool (!b)) t) E (.error z) t) s) : wpAny (model pg wd) A (compareOp .NotIn x c) Q E s := by
  show wpAny _ A (do return .bool (!(← contains c x))) Q E s
  refine wpAny_bind (wpAny_contains_slot hT slot (wpAny_mono (GQ.call_here slot hT entry args h) (fun v t hv => ?_) fun _ _ z => z))
  obtain ⟨b, rfl, q⟩ := hv
  exact wpAny_truthy_bool (wpAny_pure q)
end
section
variable {pg : Program} {wd : World} {A : Around} {E : Value → Shared → Prop} {s : Shared} {Q : Value → Shared → Prop} {K : Frag} {x C f : Addr} {ox : Obj} {od : Option Obj} {b tb : Value}
/-- what the text says of a class's == -/
structure OwnC (K : Frag) (C f : Addr) : Prop where
  eq : findIn K (.ref C) "__eq__" = some (some (.ref f))
  fn : isFn K (.ref f) = true
  ne : findIn K (.ref C) "__ne__" = some (some (.builtin "object.__ne__"))
  mro : mroIn K C (.type "object") = some true
abbrev SN : Slot "object" (cmpInfo .NotEq).2.1 "object.__ne__" := F.slot_object_ne
/-- a special method that the class has from object, where == may not be bound -/
theorem ifBound_B {M : Model} {name : Str} {id : String} {args : List Value} {Q : Option Value → Shared → Prop} (X : K.In s.heap) (I : InstAt s.heap x ox C od) (hs : findIn K (.ref C) name = some (some (.builtin id))) (hb : ∀ self, bindSpecial (.builtin id) self = pure (.builtin id, [self]))
    (h : wpAny M A (call (.builtin id) (.ref x :: args)) (fun v => Q (some v)) E s) : wpAny M A (callSpecialIfBound? (.ref x) name args) Q E s := by
  simp only [callSpecialIfBound?, bindSpecialIfBound?]
  refine wpAny_holding (wpAny_bind (wpAny_bind (wpAny_bind (I.type.here ((looks_findIn X hs).here ?_)))))
  simp only [hb]
  have last : wpAny M A (call (.builtin id) ([.ref x] ++ args) >>= fun v => pure (some v)) Q E s := wpAny_bind (wpAny_mono h (fun v t q => wpAny_pure q) fun _ _ z => z)
  refine wpAny_bind (wpAny_askSetting (wpAny_ite ?_))
  split
  · exact wpAny_bind (wpAny_pure (wpAny_pure last))
  · exact wpAny_tryCatch (wpAny_bind (wpAny_pure (wpAny_pure last)))
open Builtin in
/-- x.__ne__(b) by its own == -/
theorem tryNe (O : OwnC K C f) (hu : A.in1.units < cLine) (X : K.In s.heap) (I : InstAt s.heap x ox C od) {Q : Option Value → Shared → Prop}
    (h : wpAny (model pg wd) A.in1 (call (.ref f) [.ref x, b]) (fun v t => ∃ r, v = .bool r ∧ Q (some (.bool (!r))) t) E s) : wpAny (model pg wd) A (tryCompare (.ref x) "__ne__" b) Q E s := by
  unfold tryCompare
  refine wpAny_bind (ifBound_B X I O.ne SN.bind ?_)
  refine wpAny_call (codeAny_call_builtin SN.plain F.cmpEntry_ne (check_slot (i := "object.__ne__") (owner := "object") (n := "__ne__") F.cmpKind_ne F.cmpSplit_ne (I.type.andThen (looks_mroIn X O.mro)) (F.cmpArgs_ne _ _) ?_))
  unfold Builtin.«object.__ne__»
  refine wpAny_bind (m := slotArgs "__ne__" 1 _) (wpAny_pure ?_)
  refine wpAny_bind (m := cRoomFor _ _) (wpAny_cRoomFor hu ?_)
  refine wpAny_bind (m := callSpecialIfBound? (.ref x) (Str.ofString "__eq__") _) (ifBound_K X I O.eq O.fn (wpAny_mono h (fun v t hv => ?_) fun _ _ z => z))
  obtain ⟨r, rfl, q⟩ := hv
  refine wpAny_bind (wpAny_truthy_bool ?_)
  exact wpAny_pure (wpAny_pure q)
/-- x == b, x != b: the left one's own == -/
theorem rc_neI {h₀ : Heap} {L : Addr} {m : Str → Option Value} (O : OwnC K C f) (hu : A.in1.units < cLine) (hu0 : A.units < cLine) (X : K.In s.heap) (I : InstAt s.heap x ox C od) (hb : Looks (model pg wd) s.heap (typeOf b) tb) (hn : notFirst K C tb = true)
    (h : wpAny (model pg wd) A.in1 (call (.ref f) [.ref x, b]) (fun v t => ∃ r, v = .bool r ∧ Q (.bool (!r)) t) E s) : wpAny (model pg wd) A (richCompare .NotEq (.ref x) b) Q E s := by
  have one : wpAny (model pg wd) A (tryCompare (.ref x) (cmpInfo .NotEq).2.1 b) (fun r t => ∃ v, r = some v ∧ Q v t) E s := tryNe O hu X I (wpAny_mono h (fun v t ⟨r, e, q⟩ => ⟨r, e, _, rfl, q⟩) fun _ _ z => z)
  unfold richCompare
  simp only [oneThing_ref]
  refine wpAny_holding (wpAny_bind (wpAny_cRoomFor hu0 ?_))
  refine wpAny_bind (I.type.here (wpAny_bind (hb.here ?_)))
  split
  · rename_i q
    have e : subIn K tb (.ref C) = some false := (Bool.or_eq_true_iff.mp hn).elim (fun z => by rw [beq_iff_eq.mp z] at q; simp at q) fun z => beq_iff_eq.mp z
    refine wpAny_bind ((looks_subIn X e).here ?_)
    simp only [Bool.false_eq_true, if_false]
    exact wpAny_bind (wpAny_mono one (fun r t ⟨v, e, q⟩ => by subst e; exact wpAny_pure q) fun _ _ z => z)
  · refine wpAny_bind (wpAny_pure ?_)
    simp only [Bool.false_eq_true, if_false]
    exact wpAny_bind (wpAny_mono one (fun r t ⟨v, e, q⟩ => by subst e; exact wpAny_pure q) fun _ _ z => z)
/-- a == x, the left one declines: by x's own == -/
theorem rc_eqR {a : Value} {T ida : String} (O : OwnC K C f) (hu0 : A.units < cLine) (X : K.In s.heap) (I : InstAt s.heap x ox C od) (ha : s.TypeIs a T) (hs : subIn K (.ref C) (.type T) = some false) (h1 : Slot T (cmpInfo .Eq).2.1 ida)
    (hc : ∀ Q' : Value → Shared → Prop, Q' .notImplemented s → wpAny (model pg wd) A (call (.builtin ida) [a, .ref x]) Q' E s) (h : wpAny (model pg wd) A (call (.ref f) [.ref x, a]) (fun v t => ∃ r, v = .bool r ∧ Q (.bool r) t) E s) : wpAny (model pg wd) A (richCompare .Eq a (.ref x)) Q E s := by
  unfold richCompare
  simp only [ha.oneThing_none]
  refine wpAny_holding (wpAny_bind (wpAny_cRoomFor hu0 ?_))
  refine wpAny_bind (wpAny_typeOf ha (wpAny_bind (I.type.here ?_)))
  rw [if_pos (show (Value.type T != Value.ref C) = true from by simp)]
  refine wpAny_bind ((looks_subIn X hs).here ?_)
  simp only [Bool.false_eq_true, if_false, Bool.not_false, if_true]
  refine wpAny_bind (m := tryCompare a _ (.ref x)) (wpAny_tryCompare_declines ha h1 (hc _ ⟨rfl, ?_⟩))
  refine wpAny_bind (m := tryCompare (.ref x) _ a) ?_
  unfold tryCompare
  refine wpAny_bind (ifBound_K X I O.eq O.fn (wpAny_mono h (fun v t hv => ?_) fun _ _ z => z))
  obtain ⟨r, rfl, q⟩ := hv
  exact wpAny_pure (wpAny_pure q)
theorem rc_neR {a : Value} {T ida : String} (O : OwnC K C f) (hu : A.in1.units < cLine) (hu0 : A.units < cLine) (X : K.In s.heap) (I : InstAt s.heap x ox C od) (ha : s.TypeIs a T) (hs : subIn K (.ref C) (.type T) = some false) (h1 : Slot T (cmpInfo .NotEq).2.1 ida)
    (hc : ∀ Q' : Value → Shared → Prop, Q' .notImplemented s → wpAny (model pg wd) A (call (.builtin ida) [a, .ref x]) Q' E s) (h : wpAny (model pg wd) A.in1 (call (.ref f) [.ref x, a]) (fun v t => ∃ r, v = .bool r ∧ Q (.bool (!r)) t) E s) : wpAny (model pg wd) A (richCompare .NotEq a (.ref x)) Q E s := by
  unfold richCompare
  simp only [ha.oneThing_none]
  refine wpAny_holding (wpAny_bind (wpAny_cRoomFor hu0 ?_))
  refine wpAny_bind (wpAny_typeOf ha (wpAny_bind (I.type.here ?_)))
  rw [if_pos (show (Value.type T != Value.ref C) = true from by simp)]
  refine wpAny_bind ((looks_subIn X hs).here ?_)
  simp only [Bool.false_eq_true, if_false, Bool.not_false, if_true]
  refine wpAny_bind (m := tryCompare a _ (.ref x)) (wpAny_tryCompare_declines ha h1 (hc _ ⟨rfl, ?_⟩))
  refine wpAny_bind (m := tryCompare (.ref x) _ a) (tryNe O hu X I (wpAny_mono h (fun v t hv => ?_) fun _ _ z => z))
  obtain ⟨r, rfl, q⟩ := hv
  exact ⟨r, rfl, wpAny_pure q⟩
end
section
variable {pg : Program} {wd : World} {A : Around} {E : Value → Shared → Prop} {s : Shared} {Q : Value → Shared → Prop} {K : Frag} {x C dx : Addr}
theorem dec_none (h : Q .notImplemented s) : wpAny (model pg wd) A (call (.builtin "NoneType.__eq__") [.none, .ref x]) Q E s :=
  call_gives F.slot_NoneType_eq rfl F.entry_NoneType_eq (F.args_NoneType_eq_2 _ _) (NoneType___eq___none_ref_0 x) h
theorem dec_noneN (h : Q .notImplemented s) : wpAny (model pg wd) A (call (.builtin "NoneType.__ne__") [.none, .ref x]) Q E s := by
  refine GQ.call_here F.slot_NoneType_ne rfl F.entry_NoneType_ne (F.args_NoneType_ne_2 _ _) ?_
  obtain ⟨hp, g, d, tk, os⟩ := s
  wp_walk
  exact h
theorem dec_list {us : Array Value} {p : Nat} {l : Addr} (o1 : s.heap.get? l = some { cls := .type "list", data := .seq us p }) (sub : Looks (model pg wd) s.heap (isInstance (.ref x) (.type "list")) false) (h : Q .notImplemented s) : wpAny (model pg wd) A (call (.builtin "list.__eq__") [.ref l, .ref x]) Q E s := by
  refine GQ.call_here F.slot_list_eq ⟨_, o1, rfl⟩ F.entry_list_eq (F.args_list_eq_2 _ _) ?_
  obtain ⟨hp, g, d, tk, os⟩ := s
  wp_walk using wpAny_loadPart' o1, sub.here
  exact h
theorem dec_tuple {us : Array Value} {p : Nat} {l : Addr} {dd : Option Addr} {sl : Array (Option Value)} (o1 : s.heap.get? l = some { cls := .type "tuple", dict := dd, data := .seq us p, slots := sl }) (sub : Looks (model pg wd) s.heap (isInstance (.ref x) (.type "tuple")) false) (h : Q .notImplemented s) : wpAny (model pg wd) A (call (.builtin "tuple.__eq__") [.ref l, .ref x]) Q E s := by
  refine GQ.call_here F.slot_tuple_eq ⟨_, o1, rfl⟩ F.entry_tuple_eq (F.args_tuple_eq_2 _ _) ?_
  obtain ⟨hp, g, d, tk, os⟩ := s
  wp_walk using wpAny_loadPart' o1, sub.here
  exact h
theorem dec_int {b : Int} {u : Tok} (o1 : s.heap.get? x = some (instObj C dx)) (h : Q .notImplemented s) : wpAny (model pg wd) A (call (.builtin "int.__eq__") [.int b u, .ref x]) Q E s := by
  refine GQ.call_here F.slot_int_eq (typeIs_int s b u) F.entry_int_eq (F.args_int_eq_2 _ _) ?_
  obtain ⟨hp, g, d, tk, os⟩ := s
  wp_walk using wpAny_loadPart' o1, wpAny_load o1
  exact h
theorem dec_bool {b : Bool} (o1 : s.heap.get? x = some (instObj C dx)) (h : Q .notImplemented s) : wpAny (model pg wd) A (call (.builtin "int.__eq__") [.bool b, .ref x]) Q E s := by
  refine GQ.call_here F.slot_bool_eq rfl F.entry_int_eq (F.args_int_eq_2 _ _) ?_
  obtain ⟨hp, g, d, tk, os⟩ := s
  wp_walk using wpAny_loadPart' o1, wpAny_load o1
  exact h
theorem dec_str {b : Str} {u : Tok} (o1 : s.heap.get? x = some (instObj C dx)) (h : Q .notImplemented s) : wpAny (model pg wd) A (call (.builtin "str.__eq__") [.str b u, .ref x]) Q E s := by
  refine GQ.call_here F.slot_str_eq (typeIs_str s b u) F.entry_str_eq (F.args_str_eq_2 _ _) ?_
  obtain ⟨hp, g, d, tk, os⟩ := s
  wp_walk using wpAny_loadPart' o1, wpAny_load o1
  exact h
end
end Mq

/-! Mr1: == of data with instances of the text's own classes. -/
namespace Mp
open PySem L2

/-- only new things are laid -/
structure Kp (F H F' H' : Hp) : Prop where
  f : Le F F'
  s : Le F' H'
  h : Le H H'
  n : ∀ a, F' a ≠ none → F a ≠ none ∨ H a = none
  k : ∀ a, H' a = none → H a = none
section
variable {T : Tx} {F F1 F2 H H1 H2 : Hp}
theorem Kp.refl (s : Le F H) : Kp F H F H := ⟨Le.refl _, s, Le.refl _, fun _ h => .inl h, fun _ h => h⟩
theorem Kp.trans (x : Kp F H F1 H1) (y : Kp F1 H1 F2 H2) : Kp F H F2 H2 := ⟨x.f.trans y.f, y.s, x.h.trans y.h, fun a h => (y.n a h).elim (x.n a) fun z => .inr (x.k a z), fun a h => x.k a (y.k a h)⟩
theorem flat_inj : ∀ {d e : D} {v : V}, d.flat = some v → e.flat = some v → d = e
  | .non, e, v, h, g => by
    simp only [D.flat] at h
    obtain rfl := Option.some.inj h
    cases e <;> simp [D.flat] at g <;> rfl
  | .bl b, e, v, h, g => by
    simp only [D.flat] at h
    obtain rfl := Option.some.inj h
    cases e <;> simp [D.flat] at g <;> rw [g]
  | .int i, e, v, h, g => by
    simp only [D.flat] at h
    obtain rfl := Option.some.inj h
    cases e <;> simp [D.flat] at g <;> rw [g]
  | .str i, e, v, h, g => by
    simp only [D.flat] at h
    obtain rfl := Option.some.inj h
    cases e <;> simp [D.flat] at g <;> rw [g]
  | .tup _, _, _, h, _ => by simp [D.flat] at h
  | .lst _, _, _, h, _ => by simp [D.flat] at h
  | .ins _ _, _, _, h, _ => by simp [D.flat] at h
  | .exc _ _, _, _, h, _ => by simp [D.flat] at h
theorem flat_ref : ∀ {d : D} {a : Addr}, d.flat = some (.ref a) → False
  | .non, _, h => by simp [D.flat] at h
  | .bl _, _, h => by simp [D.flat] at h
  | .int _, _, h => by simp [D.flat] at h
  | .str _, _, h => by simp [D.flat] at h
  | .tup _, _, h => by simp [D.flat] at h
  | .lst _, _, h => by simp [D.flat] at h
  | .ins _ _, _, h => by simp [D.flat] at h
  | .exc _ _, _, h => by simp [D.flat] at h
/-- the written part is not tracked -/
def KfOk (T : Tx) (F : Hp) : Prop := ∀ a o, T.K.lookup a = some o → F a = none
theorem sqT_F {K : PySem.W.Frag} {a : Addr} {xs : List V} (kf : ∀ a o, K.lookup a = some o → F a = none) (h : SqT K F a xs) {u : HO} (g : F a = some u) : u = .tup xs ∨ ∃ o, u = .frz o (.tup xs) := by
  rcases h with (h | ⟨o, h⟩) | ⟨o, its, n, h, _⟩
  · rw [g] at h; exact .inl (Option.some.inj h)
  · rw [g] at h; exact .inr ⟨o, Option.some.inj h⟩
  · rw [kf a o h] at g; cases g
theorem sqT_uniq {K : PySem.W.Frag} {a : Addr} {xs ys : List V} (kf : ∀ a o, K.lookup a = some o → F a = none) (h : SqT K F a xs) (g : SqT K F a ys) : xs = ys := by
  rcases h with (h | ⟨o, h⟩) | ⟨o, its, n, h, _, e, _, r⟩
  · rcases sqT_F kf g h with z | ⟨_, z⟩
    · exact (HO.tup.inj z)
    · cases z
  · rcases sqT_F kf g h with z | ⟨_, z⟩
    · cases z
    · exact HO.tup.inj (HO.frz.inj z).2
  · rcases g with (g | ⟨o', g⟩) | ⟨o', its', n', g, _, e', _, r'⟩
    · rw [kf a o h] at g; cases g
    · rw [kf a o h] at g; cases g
    · rw [h] at g
      obtain rfl := Option.some.inj g
      rw [e] at e'
      injection e' with e1 e2
      subst e1
      exact Vals.inj r r'
theorem exH_ne {cls : Value} {d : Option Addr} {a : Addr} : ∀ {u : HO}, (u = .lst [] ∨ True) → ExH cls d a = u → ∃ φ, u = .ext φ := fun _ e => ⟨_, e.symm⟩
/-- one value, one datum -/
theorem Reps.uniq (ea : ∀ i j, i < T.ne → j < T.ne → T.ea i = T.ea j → i = j) (ci : ∀ i j, i < T.nc → j < T.nc → (T.ci i).addr = (T.ci j).addr → i = j) (kf : KfOk T F) (hx : ∀ (a : Addr) (c1 c2 : Value) (d1 d2 : Option Addr), F a = some (ExH c1 d1 a) → ExH c1 d1 a = ExH c2 d2 a → c1 = c2 ∧ d1 = d2) :
    ∀ {vs : List V} {ds es : List D}, Reps T F vs ds → Reps T F vs es → ds = es := by
  intro vs ds es h
  induction h generalizing es with
  | nil => intro g; cases g; rfl
  | flat h t ih =>
    intro g
    obtain ⟨e, es, rfl, g1, g2⟩ := g.consL
    rw [ih g2]
    congr 1
    cases g1 with
    | flat h' _ => exact flat_inj h h'
    | tup => exact (flat_ref h).elim
    | lst => exact (flat_ref h).elim
    | ins => exact (flat_ref h).elim
    | exc => exact (flat_ref h).elim
  | tup h e t i1 i2 =>
    intro g
    obtain ⟨e, es, rfl, g1, g2⟩ := g.consL
    rw [i2 g2]
    congr 1
    cases g1 with
    | flat h' _ => exact (flat_ref h').elim
    | tup h' e' _ =>
      obtain rfl := sqT_uniq kf h h'
      rw [i1 e']
    | lst h' e' _ => rcases sqT_F kf h h' with z | ⟨_, z⟩ <;> cases z
    | ins h' _ _ _ _ => rcases sqT_F kf h h' with z | ⟨_, z⟩ <;> cases z
    | exc h' _ _ _ _ => rcases sqT_F kf h h' with z | ⟨_, z⟩ <;> (unfold ExH at z; cases z)
  | lst h e t i1 i2 =>
    intro g
    obtain ⟨e, es, rfl, g1, g2⟩ := g.consL
    rw [i2 g2]
    congr 1
    cases g1 with
    | flat h' _ => exact (flat_ref h').elim
    | tup h' e' _ => rcases sqT_F kf h' h with z | ⟨_, z⟩ <;> cases z
    | lst h' e' _ =>
      rw [h] at h'
      obtain rfl := HO.lst.inj (Option.some.inj h')
      rw [i1 e']
    | ins h' _ _ _ _ => rw [h] at h'; cases h'
    | exc h' _ _ _ _ => rw [h] at h'; unfold ExH at h'; cases h'
  | ins h n k e t i1 i2 =>
    intro g
    obtain ⟨e, es, rfl, g1, g2⟩ := g.consL
    rw [i2 g2]
    congr 1
    cases g1 with
    | flat h' _ => exact (flat_ref h').elim
    | tup h' e' _ => rcases sqT_F kf h' h with z | ⟨_, z⟩ <;> cases z
    | lst h' e' _ => rw [h] at h'; cases h'
    | ins h' n' k' e' _ =>
      rw [h] at h'
      injection h' with z
      injection z with z1 z2 z3
      subst z3
      rw [i1 e', ci _ _ k k' z1]
    | exc h' _ _ _ _ => rw [h] at h'; unfold ExH at h'; cases h'
  | exc h k q e t i1 i2 =>
    intro g
    obtain ⟨e, es, rfl, g1, g2⟩ := g.consL
    rw [i2 g2]
    congr 1
    cases g1 with
    | flat h' _ => exact (flat_ref h').elim
    | tup h' e' _ => rcases sqT_F kf h' h with z | ⟨_, z⟩ <;> (unfold ExH at z; cases z)
    | lst h' e' _ => rw [h] at h'; unfold ExH at h'; cases h'
    | ins h' _ _ _ _ => rw [h] at h'; unfold ExH at h'; cases h'
    | exc h' k' q' e' _ =>
      rw [h] at h'
      obtain ⟨z1, z2⟩ := hx _ _ _ _ _ h (Option.some.inj h')
      injection z1 with z1
      have z3 := ea _ _ k k' z1
      subst z3 z2
      have : ∀ {fs gs : List (Str × V)} {dx : Option Addr} {c : Nat}, ((dx = none ∧ fs = []) ∨ ∃ x v, dx = some x ∧ F x = some (.xd fs) ∧ fs = [(T.en c, v)]) → ((dx = none ∧ gs = []) ∨ ∃ x v, dx = some x ∧ F x = some (.xd gs) ∧ gs = [(T.en c, v)]) → fs = gs := fun {fs gs dx c} a b => by
        rcases a with ⟨a1, a2⟩ | ⟨x, v, a1, a2, a3⟩
        · rcases b with ⟨b1, b2⟩ | ⟨y, w, b1, b2, b3⟩
          · rw [a2, b2]
          · rw [a1] at b1; cases b1
        · rcases b with ⟨b1, b2⟩ | ⟨y, w, b1, b2, b3⟩
          · rw [a1] at b1; cases b1
          · rw [a1] at b1
            obtain rfl := Option.some.inj b1
            rw [a2] at b2
            exact HO.xd.inj (Option.some.inj b2)
      obtain rfl := this q q'
      rw [i1 e']
end
end Mp

/-! Mr2: == of items. -/
namespace Mp
open PySem L2

section
variable {T : Tx} {F F1 F2 H H1 H2 : Hp} {c : Cf} {d e : D} {b : Bool}
mutual
theorem eqv_refl : ∀ {p : PyData}, p.canLay0 = true → PyData.eqv p p = true
  | .none, _ => by simp [PyData.eqv]
  | .bool b, _ => by simp [PyData.eqv]
  | .int b, _ => by simp [PyData.eqv]
  | .str b, _ => by simp [PyData.eqv]
  | .list l, h => by
    rw [PyData.eqv]
    exact eqvAll_refl (by simpa [PyData.canLay0] using h)
  | .tuple l, h => by
    rw [PyData.eqv]
    exact eqvAll_refl (by simpa [PyData.canLay0] using h)
  | .dict l, h => by simp [PyData.canLay0] at h
theorem eqvAll_refl : ∀ {l : List PyData}, PyData.canLayAll0 l = true → PyData.eqvAll l l = true
  | [], _ => by simp [PyData.eqvAll]
  | p :: l, h => by
    simp [PyData.canLayAll0] at h
    simp [PyData.eqvAll, eqv_refl h.1, eqvAll_refl h.2]
end
theorem eqD_refl (h : eqD d d = some b) : b = true := by
  obtain ⟨p, q, e1, e2, s1, s2, rfl⟩ := eqD_some h
  rw [e1] at e2
  cases e2
  exact eqv_refl (SeqAt.canLay_of_shaped s1)
theorem orE_some {x y : Option Bool} (h : orE x y = some b) : x = some b ∨ (x = none ∧ y = some b) := by
  cases x with
  | some z => exact .inl h
  | none => exact .inr ⟨rfl, h⟩
theorem eqL_refl {f : D → D → Option Bool} (hf : ∀ d b, f d d = some b → b = true) : ∀ {l : List D}, eqL f l l = some b → b = true
  | [], h => by simp [eqL] at h; exact h
  | x :: l, h => by
    unfold eqL at h
    cases q : f x x with
    | none => simp [q] at h
    | some z =>
      have := hf _ _ q
      subst this
      simp only [q] at h
      exact eqL_refl hf h
theorem eqE_refl : ∀ {n : Nat} {d : D} {b : Bool}, eqE c n d d = some b → b = true
  | 0, d, b, h => by simp [eqE] at h
  | n + 1, d, b, h => by
    unfold eqE at h
    rcases orE_some h with h | ⟨_, h⟩
    · exact eqD_refl h
    · cases d with
      | ins cl l =>
        simp only at h
        split at h
        · split at h
          · rename_i q
            rw [q] at h
            exact (Option.some.inj h).symm
          · cases h
        · cases h
      | lst l =>
        simp only [if_true] at h
        exact eqL_refl (fun d b => eqE_refl) h
      | tup l => exact eqL_refl (fun d b => eqE_refl) h
      | _ => cases h
/-- what the text's own == promises -/
theorem own_sp {f : Nat} {x y : V} {m : Sl} {Q : VK} {E : XK} (rd : Rep T F x d) (re : Rep T F y e) (s : Le F H) (ok : c.cf f [.fz d, .fz e] = .ok (.d (.bl b)) m) (q : ∀ F' H', Kp F H F' H' → Q (.bl b) H') : spD T (c.cf f) 2 [x, y] H Q E := by
  have no : ∀ j, one (old H none) none j = none := fun j => by show (if j = 0 then none else none) = none; split <;> rfl
  refine ⟨rfl, F, [.fz d, .fz e], one (old H none) none, ⟨s, rfl, fun j z hz => ?_, (fun j _ => no j), (fun _ _ z => nomatch (one_eq z).2), (fun _ _ _ z => nomatch (one_eq z).2), fun l h => ⟨h.1, fun i z => nomatch (one_eq z).2⟩⟩, rfl, (fun _ _ z => (one_eq z).1), ?_⟩
  · rw [no j]
    match j, hz with
    | 0, hz => simp at hz; subst hz; exact .fz rd
    | 1, hz => simp at hz; subst hz; exact .fz re
    | j + 2, hz => simp at hz
  · rw [ok]
    refine ⟨fun i z => (nomatch z), fun F' H' a0 v z rp _ => ?_⟩
    cases rp with
    | d hd =>
      rw [hd.blE]
      exact q F' H' ⟨z.st.f, z.sub, fun a o h => z.st.h a o h (fun _ w => nomatch (one_eq w).2), fun a h => (z.st.n a h).imp_right fun w => w.elim (fun ⟨_, w⟩ => nomatch (one_eq w).2) id, z.st.k⟩
end
section
variable {X : Cx} {pins : List (Addr × Obj)} {σ : St} {H : Hp} {s : Shared} {n : Nat} {A : Around} {E : Value → Shared → Prop}
theorem own_call {f : Addr} {fd : FuncData} {ps : List Str} {sp : Sp} {x y : V} {u v : Value} {Q : VK} (sb : Sub X n A) (I : Inv X pins σ H s) (F : FnOk X.prog X.w X.K X.mg X.base (L2.CX X.prog X.w) n f fd ps sp) (hb : Binds X.K fd ps []) (rx : RelV x u) (ry : RelV y v)
    (hsp : sp [x, y] H Q fun _ _ _ => False) : wpAny (model X.prog X.w) A (call (.ref f) [u, v]) (fun r t => ∃ z H', Inv X pins σ H' t ∧ RelV z r ∧ Q z H') E s := by
  have e0 : Env0 X.prog X.w X.K X.mg X.base A X.stack s H := { I.env0 with frames := sb.fr.trans I.env0.frames }
  have hl := F.len _ _ _ _ hsp
  have r2 : Vals [x, y] [u, v] := .cons rx (.cons ry .nil)
  have bd := hb s [u, v] I.kIn (by simpa using hl)
  refine wpAny_call (codeAny_mono (F.run A X.stack s H ⟨[u, v], []⟩ [u, v] [x, y] Q _ sb.room e0 (by simpa using bd) r2 hsp) fun r t hq => ?_)
  cases r with
  | error e =>
    obtain ⟨_, _, _, _, _, _, _, _, _, _, _, _, z⟩ := (show L2.CX X.prog X.w X.stack H s (fun _ _ _ => False) e t from hq)
    exact z.elim
  | ok fl =>
    cases fl with
    | ret w =>
      obtain ⟨z, H', I', rz, q⟩ := I.after hq
      exact ⟨z, H', I', rz, q⟩
    | next => exact False.elim hq
    | brk => exact False.elim hq
    | cont => exact False.elim hq
/-- what is known of the text's own == (k: the callees' level) -/
structure EqSys (X : Cx) (T : Tx) (c : Cf) (k : Nat) : Prop where
  hK : T.K = X.K
  ea : ∀ i j, i < T.ne → j < T.ne → T.ea i = T.ea j → i = j
  ci : ∀ i j, i < T.nc → j < T.nc → (T.ci i).addr = (T.ci j).addr → i = j
  kb : ∀ a o, T.K.lookup a = some o → ∃ o', X.base.get? a = some o'
  own : ∀ cl f, cl < T.nc → c.mt cl 0 = some f → ∃ fa fd ps, FnOk X.prog X.w X.K X.mg X.base (L2.CX X.prog X.w) (5 * k) fa fd ps (spD T (c.cf f) ps.length) ∧ ps.length = 2 ∧ Binds X.K fd ps [] ∧ Mq.OwnC X.K (T.ci cl).addr fa
  nf : ∀ cl c', cl < T.nc → c' < T.nc → PySem.W.notFirst X.K (T.ci cl).addr (.ref (T.ci c').addr) = true
  nt : ∀ cl, cl < T.nc → ∀ t ∈ ["NoneType", "bool", "int", "str", "tuple", "list"], PySem.W.notFirst X.K (T.ci cl).addr (.type t) = true ∧ PySem.W.subIn X.K (.ref (T.ci cl).addr) (.type t) = some false
end
end Mp

/-! Mr3: == of items, on. -/
namespace Mp
open PySem L2

def tyD (T : Tx) : D → Value
  | .non => .type "NoneType"
  | .bl _ => .type "bool"
  | .int _ => .type "int"
  | .str _ => .type "str"
  | .tup _ => .type "tuple"
  | .lst _ => .type "list"
  | .ins c _ => .ref (T.ci c).addr
  | .exc c _ => .ref (T.ea c)
section
variable {X : Cx} {T : Tx} {c : Cf} {k : Nat} {pins : List (Addr × Obj)} {σ : St} {F F1 H H1 : Hp} {s : Shared} {n : Nat} {A : Around} {E : Value → Shared → Prop} {x y : V} {u v : Value} {d e : D} {b : Bool}
theorem kf_of (S : EqSys X T c k) (I : Inv X pins σ H s) (le : Le F H) : KfOk T F := fun a o h => by
  obtain ⟨o', e⟩ := S.kb a o h
  exact none_le le (I.bs a o' e).2
theorem uniq_I (S : EqSys X T c k) (I : Inv X pins σ H s) (le : Le F H) (h : Rep T F x d) (g : Rep T F x e) : d = e := by
  have z := Reps.uniq S.ea S.ci (kf_of S I le) (fun a c1 c2 d1 d2 h e => by
    obtain ⟨q1, ⟨o, ho⟩, _⟩ := I.hok a _ (le _ _ h)
    have q2 : (∃ (oe : Obj) (vs : Array Value), s.heap.get? a = some oe ∧ Zc c1 d1 oe ∧ oe.data = .fields vs) := q1
    unfold ExH at e
    injection e with e
    have q3 := congrFun e s.heap
    have q4 : (∃ (oe : Obj) (vs : Array Value), s.heap.get? a = some oe ∧ Zc c2 d2 oe ∧ oe.data = .fields vs) := q3 ▸ q2
    obtain ⟨o1, _, a1, a2, _⟩ := q2
    obtain ⟨o2, _, b1, b2, _⟩ := q4
    rw [a1] at b1
    obtain rfl := Option.some.inj b1
    exact ⟨a2.1.symm.trans b2.1, a2.2.symm.trans b2.2⟩) h g
  exact (List.cons.inj z).1
theorem looks_ty (I : Inv X pins σ H s) (hK : T.K = X.K) (le : Le F H) (r : RelV x v) (hv : Vw T F H x d) : PySem.W.Looks (model X.prog X.w) s.heap (typeOf v) (tyD T d) := by
  have at_ : ∀ {a : Addr} {o : Obj} {t : Value}, s.heap.get? a = some o → o.cls = t → PySem.W.Looks (model X.prog X.w) s.heap (typeOf (.ref a)) t := fun {a o t} h e A Q E st kk q => wpAny_typeOf_ref (kk _ _ h) (by rw [e]; exact q)
  cases d with
  | non => rw [hv.nonE] at r; cases (show v = Value.none from r); exact PySem.W.Looks.of_pure rfl
  | bl b => rw [hv.blE] at r; cases (show v = Value.bool b from r); exact PySem.W.Looks.of_pure rfl
  | int b => rw [hv.intE] at r; obtain ⟨t, z⟩ := (show ∃ t, v = Value.int b t from r); cases z; exact PySem.W.Looks.of_pure rfl
  | str b => rw [hv.strE] at r; obtain ⟨t, z⟩ := (show ∃ t, v = Value.str b t from r); cases z; exact PySem.W.Looks.of_pure rfl
  | tup l =>
    obtain ⟨a, xs, rfl, h1, _⟩ := hv.tupE le
    cases (show v = Value.ref a from r)
    obtain ⟨its, _, ⟨o, h2, h3, _⟩, _⟩ := I.tuple (hK ▸ h1)
    exact at_ h2 h3
  | lst l =>
    obtain ⟨a, xs, rfl, h1, _⟩ := hv.lstE le
    cases (show v = Value.ref a from r)
    obtain ⟨_, its, n, _, h2⟩ := (show ObjOk X.prog X.w H s.heap a (.lst xs) from I.hok a _ h1)
    exact at_ h2 rfl
  | ins cl l =>
    obtain ⟨a, dx, fs, rfl, h1, _⟩ := hv.insE le
    cases (show v = Value.ref a from r)
    obtain ⟨mA, J, _⟩ := ins_get I.hok h1
    obtain ⟨od, J, _⟩ := J.look
    exact J.type
  | exc cl l =>
    obtain ⟨a, dx, fs, rfl, h1, _⟩ := hv.excE.excE
    cases (show v = Value.ref a from r)
    obtain ⟨⟨oe, vs, e1, z, e2⟩, _, _⟩ := I.hok a _ (le _ _ h1)
    exact at_ e1 z.1
theorem nf_of (S : EqSys X T c k) {cl : Nat} (hc : cl < T.nc) (he : okE d = true) (hd : ∀ c' l, d = .ins c' l → c' < T.nc) : PySem.W.notFirst X.K (T.ci cl).addr (tyD T d) = true := by
  cases d with
  | ins c' l => exact S.nf cl c' hc (hd c' l rfl)
  | exc c' l => cases he
  | non => exact (S.nt cl hc "NoneType" (by simp)).1
  | bl b => exact (S.nt cl hc "bool" (by simp)).1
  | int b => exact (S.nt cl hc "int" (by simp)).1
  | str b => exact (S.nt cl hc "str" (by simp)).1
  | tup b => exact (S.nt cl hc "tuple" (by simp)).1
  | lst b => exact (S.nt cl hc "list" (by simp)).1
theorem ins_lt (h : Vw T F H x d) (le : Le F H) : ∀ c' l, d = .ins c' l → c' < T.nc := fun c' l e => by
  subst e
  obtain ⟨_, _, _, _, _, _, z, _⟩ := h.insE le
  exact z.2
theorem ownEq_some {cl : Nat} (h : ownEq c cl d e = some b) : ∃ f m, c.mt cl 0 = some f ∧ c.cf f [.fz d, .fz e] = .ok (.d (.bl b)) m := by
  unfold ownEq at h
  cases q : c.mt cl 0 with
  | none => simp [q] at h
  | some f =>
    simp only [q] at h
    split at h
    · rename_i bb m h1 h2
      cases h
      exact ⟨f, m, rfl, h2⟩
    · cases h
/-- the text's own == called -/
theorem own_run (S : EqSys X T c k) {cl : Nat} (hc : cl < T.nc) (sb : Sub X (5 * k) A) (I : Inv X pins σ H s) (le : Le F H) (rx : RelV x u) (ry : RelV y v) (hx : Rep T F x d) (hy : Rep T F y e) (h : ownEq c cl d e = some b) :
    ∃ fa, Mq.OwnC X.K (T.ci cl).addr fa ∧ wpAny (model X.prog X.w) A (call (.ref fa) [u, v]) (fun r t => r = .bool b ∧ ∃ F' H', Inv X pins σ H' t ∧ Kp F H F' H') E s := by
  obtain ⟨f, m, hf, ok⟩ := ownEq_some h
  obtain ⟨fa, fd, ps, FO, hl, hb, O⟩ := S.own cl f hc hf
  rw [hl] at FO
  refine ⟨fa, O, wpAny_mono (own_call (Q := fun z H' => z = .bl b ∧ ∃ F', Kp F H F' H') sb I FO hb rx ry (own_sp hx hy le ok fun F' H' q => ⟨rfl, F', q⟩)) (fun r t hq => ?_) fun _ _ z => z⟩
  obtain ⟨z, H', I', rz, rfl, F', q⟩ := hq
  cases rz
  exact ⟨rfl, F', H', I', q⟩
/-- == inside a built-in, by the rich comparison -/
theorem eqBool_by {a : Addr} {Q : Bool → Shared → Prop} (hne : (Value.ref a == v) = false) (h : wpAny (model X.prog X.w) A (richCompare .Eq (.ref a) v) (fun r t => ∃ z, r = .bool z ∧ Q z t) E s) : wpAny (model X.prog X.w) A (eqBool (.ref a) v) Q E s := by
  unfold eqBool
  refine wpAny_holding ?_
  rw [if_neg (by rw [hne]; exact Bool.false_ne_true)]
  refine wpAny_bind (wpAny_mono h (fun r t hv => ?_) fun _ _ z => z)
  obtain ⟨z, rfl, q⟩ := hv
  exact wpAny_truthy_bool q
/-- what is reached behind some comparisons -/
def Jx (X : Cx) (pins : List (Addr × Obj)) (σ : St) (F H : Hp) (t : Shared) : Prop := ∃ F' H', Inv X pins σ H' t ∧ Kp F H F' H'
/-- items that compare by f, wherever Jx holds -/
def ItmOk (X : Cx) (T : Tx) (pins : List (Addr × Obj)) (σ : St) (A : Around) (f : D → D → Option Bool) : Prop := ∀ (d e : D) (b : Bool) (x y : V) (u v : Value) (F H : Hp) (s : Shared), Inv X pins σ H s → RelV x u → RelV y v → Le F H → Rep T F x d → Rep T F y e → f d e = some b →
  wpAny (model X.prog X.w) A (eqBool u v) (fun r t => r = b ∧ Jx X pins σ F H t) X.xe s
/-- how far two lists of data go together -/
def eqF (f : D → D → Option Bool) (l m : List D) (i : Nat) : Bool := match l[i]?, m[i]? with
  | some d, some e => f d e == some true
  | _, _ => false
theorem eqL_pre {f : D → D → Option Bool} : ∀ {l m : List D} {b : Bool} {i : Nat}, eqL f l m = some b → (∀ j, j < i → eqF f l m j = true) → ∀ {d e : D}, l[i]? = some d → m[i]? = some e → f d e = some (eqF f l m i)
  | [], m, b, i, _, _, d, e, h, _ => by simp at h
  | _ :: _, [], b, i, _, _, d, e, _, h => by simp at h
  | d0 :: l, e0 :: m, b, 0, h, _, d, e, h1, h2 => by
    simp at h1 h2
    subst h1 h2
    unfold eqL at h
    unfold eqF
    simp only [List.getElem?_cons_zero]
    cases q : f d0 e0 with
    | none => simp [q] at h
    | some z => cases z <;> rfl
  | d0 :: l, e0 :: m, b, i + 1, h, hp, d, e, h1, h2 => by
    have h0 := hp 0 (Nat.succ_pos i)
    have q : f d0 e0 = some true := by
      unfold eqF at h0
      simpa using h0
    unfold eqL at h
    simp only [q] at h
    exact eqL_pre (l := l) (m := m) (i := i) h (fun j hj => hp (j + 1) (by omega)) (by simpa using h1) (by simpa using h2)
theorem eqL_all {f : D → D → Option Bool} : ∀ {l m : List D} {b : Bool}, eqL f l m = some b → (∀ j, j < min l.length m.length → eqF f l m j = true) → b = (l.length == m.length)
  | [], [], b, h, _ => by simp [eqL] at h; simp [h]
  | [], _ :: _, b, h, _ => by simp [eqL] at h; simp [h]
  | _ :: _, [], b, h, _ => by simp [eqL] at h; simp [h]
  | d0 :: l, e0 :: m, b, h, hp => by
    have h0 := hp 0 (by simp)
    have q : f d0 e0 = some true := by
      unfold eqF at h0
      simpa using h0
    unfold eqL at h
    simp only [q] at h
    have := eqL_all (l := l) (m := m) h fun j hj => hp (j + 1) (by simp at hj ⊢; omega)
    simpa using this
theorem eqL_no {f : D → D → Option Bool} : ∀ {l m : List D} {b : Bool} {i : Nat}, eqL f l m = some b → i < min l.length m.length → eqF f l m i = false → (∀ j, j < i → eqF f l m j = true) → b = false
  | [], m, b, i, _, h, _, _ => by simp at h
  | _ :: _, [], b, i, _, h, _, _ => by simp at h
  | d0 :: l, e0 :: m, b, 0, h, _, hf, _ => by
    unfold eqL at h
    unfold eqF at hf
    simp only [List.getElem?_cons_zero] at hf
    cases q : f d0 e0 with
    | none => simp [q] at h
    | some z =>
      rw [q] at hf h
      cases z with
      | true => cases hf
      | false => exact (Option.some.inj h).symm
  | d0 :: l, e0 :: m, b, i + 1, h, hi, hf, hp => by
    have h0 := hp 0 (Nat.succ_pos i)
    have q : f d0 e0 = some true := by
      unfold eqF at h0
      simpa using h0
    unfold eqL at h
    simp only [q] at h
    exact eqL_no (l := l) (m := m) (i := i) h (by simp at hi; omega) hf fun j hj => hp (j + 1) (by omega)
end
end Mp

/-! Mr4: == and in of lists and tuples of such items. -/
namespace Mp
open PySem L2

section
variable {X : Cx} {T : Tx} {c : Cf} {k : Nat} {pins : List (Addr × Obj)} {σ : St} {F F1 H H1 : Hp} {s : Shared} {n : Nat} {A : Around} {x y : V} {u v : Value} {d e : D} {b : Bool} {f : D → D → Option Bool} {l m : List D} {a a' : Addr} {xs ys : List V}
theorem vals_at {xs : List V} {us : List Value} (r : Vals xs us) {i : Nat} (h : i < us.toArray.size) : ∃ x, xs[i]? = some x ∧ RelV x us.toArray[i] := by
  have hl : i < xs.length := by rw [r.length]; simpa using h
  obtain ⟨u, h1, h2⟩ := r.get (List.getElem?_eq_getElem hl)
  refine ⟨_, List.getElem?_eq_getElem hl, ?_⟩
  have h' : i < us.length := by simpa using h
  rw [List.getElem?_eq_getElem h'] at h1
  have e := Option.some.inj h1
  simp only [List.getElem_toArray]
  rw [e]
  exact h2
theorem turn_ok (K : ItmOk X T pins σ A f) {F' H' : Hp} (ex : Reps T F xs l) (ey : Reps T F ys m) {us ws : List Value} (rx : Vals xs us) (ry : Vals ys ws) (h : eqL f l m = some b) {i : Nat} (hp : ∀ j, j < i → eqF f l m j = true) (g1 : i < us.toArray.size) (g2 : i < ws.toArray.size) {t : Shared} (J : Jx X pins σ F H t) :
    wpAny (model X.prog X.w) A (eqBool us.toArray[i] ws.toArray[i]) (fun r t => r = eqF f l m i ∧ Jx X pins σ F H t) X.xe t := by
  obtain ⟨F1, H1, I1, K1⟩ := J
  obtain ⟨x, hx, r1⟩ := vals_at rx g1
  obtain ⟨y, hy, r2⟩ := vals_at ry g2
  obtain ⟨d, hd, e1⟩ := ex.getL hx
  obtain ⟨e, he, e2⟩ := ey.getL hy
  refine wpAny_mono (K _ _ _ _ _ _ _ _ _ _ I1 r1 r2 K1.s (e1.mono K1.f) (e2.mono K1.f) (eqL_pre h hp hd he)) (fun r t q => ?_) fun _ _ z => z
  obtain ⟨q1, F2, H2, I2, K2⟩ := q
  exact ⟨q1, F2, H2, I2, K1.trans K2⟩
theorem prs_ok (K : ItmOk X T pins σ A.in1 f) (le : Le F H) (ha : H a = some (.lst xs)) (hb : H a' = some (.lst ys)) (ex : Reps T F xs l) (ey : Reps T F ys m) (h : eqL f l m = some b) (hl : l.length = m.length) : Mq.Prs X.prog X.w A X.xe a a' l.length (eqF f l m) fun _ t => Jx X pins σ F H t := by
  intro i t J
  obtain ⟨F1, H1, I1, K1⟩ := id J
  obtain ⟨_, us, p, rx, o1⟩ := (show ObjOk X.prog X.w H1 t.heap a (.lst xs) from I1.hok a _ (K1.h _ _ ha))
  obtain ⟨_, ws, q, ry, o2⟩ := (show ObjOk X.prog X.w H1 t.heap a' (.lst ys) from I1.hok a' _ (K1.h _ _ hb))
  refine ⟨us.toArray, ws.toArray, p, q, o1, o2, by rw [List.size_toArray, ← rx.length, ex.length], by rw [List.size_toArray, ← ry.length, ey.length, hl], fun hp g1 g2 => turn_ok (F' := F) (H' := H) K ex ey rx ry h hp g1 g2 J⟩
theorem prt_ok (K : ItmOk X T pins σ A.in1 f) (ex : Reps T F xs l) (ey : Reps T F ys m) {us ws : List Value} (rx : Vals xs us) (ry : Vals ys ws) (h : eqL f l m = some b) : Mq.Prt X.prog X.w A X.xe us.toArray ws.toArray (eqF f l m) fun _ t => Jx X pins σ F H t :=
  fun i g1 g2 t hp J => turn_ok (F' := F) (H' := H) K ex ey rx ry h hp g1 g2 J
/-- what an operator's end asks -/
def EndJ (X : Cx) (pins : List (Addr × Obj)) (σ : St) (F H : Hp) (b : Bool) (r : Value) (t : Shared) : Prop := r = .bool b ∧ Jx X pins σ F H t
theorem rc_list (hu : A.units < cLine) (K : ItmOk X T pins σ A.in1 f) (I : Inv X pins σ H s) (le : Le F H) (ha : H a = some (.lst xs)) (hb : H a' = some (.lst ys)) (ex : Reps T F xs l) (ey : Reps T F ys m) (h : (if l.length = m.length then eqL f l m else some false) = some b) :
    wpAny (model X.prog X.w) A (richCompare .Eq (.ref a) (.ref a')) (EndJ X pins σ F H b) X.xe s ∧ wpAny (model X.prog X.w) A (richCompare .NotEq (.ref a) (.ref a')) (EndJ X pins σ F H (!b)) X.xe s := by
  have J0 : Jx X pins σ F H s := ⟨F, H, I, Kp.refl le⟩
  by_cases hl : l.length = m.length
  · rw [if_pos hl] at h
    have P := prs_ok (A := A) (a := a) (a' := a') K le ha hb ex ey h hl
    have hm : min l.length m.length = l.length := by rw [hl]; exact Nat.min_self _
    have t1 : ∀ (z : ∀ j, j < l.length → eqF f l m j = true), b = true := fun z => by
      have := eqL_all h (by rw [hm]; exact z)
      rw [this, hl]
      simp
    have t2 : ∀ i, i < l.length → eqF f l m i = false → (∀ j, j < i → eqF f l m j = true) → b = false := fun i hi z w => eqL_no h (by rw [hm]; exact hi) z w
    refine ⟨Mq.rc_eqL hu P ⟨fun t J z => ⟨by rw [t1 z], J⟩, fun i t hi z w J => ⟨by rw [t2 i hi z w], J⟩⟩ J0, Mq.rc_neL hu P ⟨fun t J z => ⟨by rw [t1 z], J⟩, fun i t hi z w J => ⟨by rw [t2 i hi z w], J⟩⟩ J0⟩
  · rw [if_neg hl] at h
    cases h
    obtain ⟨_, us, p, rx, o1⟩ := (show ObjOk X.prog X.w H s.heap a (.lst xs) from I.hok a _ ha)
    obtain ⟨_, ws, q, ry, o2⟩ := (show ObjOk X.prog X.w H s.heap a' (.lst ys) from I.hok a' _ hb)
    have hne : us.toArray.size ≠ ws.toArray.size := by
      rw [List.size_toArray, List.size_toArray, ← rx.length, ← ry.length, ex.length, ey.length]
      exact hl
    exact ⟨Mq.rc_eqLN hu o1 o2 hne ⟨rfl, J0⟩, Mq.rc_neLN hu o1 o2 hne ⟨rfl, J0⟩⟩
theorem rc_tup (hu : A.units < cLine) (K : ItmOk X T pins σ A.in1 f) (I : Inv X pins σ H s) (le : Le F H) (ha : SqT X.K H a xs) (hb : SqT X.K H a' ys) (ex : Reps T F xs l) (ey : Reps T F ys m) (h : eqL f l m = some b) :
    wpAny (model X.prog X.w) A (richCompare .Eq (.ref a) (.ref a')) (EndJ X pins σ F H b) X.xe s ∧ wpAny (model X.prog X.w) A (richCompare .NotEq (.ref a) (.ref a')) (EndJ X pins σ F H (!b)) X.xe s := by
  have J0 : Jx X pins σ F H s := ⟨F, H, I, Kp.refl le⟩
  obtain ⟨us, rx, i1, _⟩ := I.tuple ha
  obtain ⟨ws, ry, i2, _⟩ := I.tuple hb
  have P := prt_ok (A := A) (H := H) (pins := pins) (σ := σ) K ex ey rx ry h
  have z1 : us.toArray.size = l.length := by rw [List.size_toArray, ← rx.length, ex.length]
  have z2 : ws.toArray.size = m.length := by rw [List.size_toArray, ← ry.length, ey.length]
  have t1 : (∀ j, j < min us.toArray.size ws.toArray.size → eqF f l m j = true) → b = (us.toArray.size == ws.toArray.size) := fun z => by
    rw [z1, z2] at z ⊢
    exact eqL_all h z
  have t2 : ∀ i, i < min us.toArray.size ws.toArray.size → eqF f l m i = false → (∀ j, j < i → eqF f l m j = true) → b = false := fun i hi z w => eqL_no h (by rw [← z1, ← z2]; exact hi) z w
  exact ⟨Mq.rc_eqT hu i1 i2 P (fun t J z => ⟨by rw [t1 z], J⟩) (fun i t hi z w J => ⟨by rw [t2 i hi z w], J⟩) J0, Mq.rc_neT hu i1 i2 P (fun t J z => ⟨by rw [t1 z]; rfl, J⟩) (fun i t hi z w J => ⟨by rw [t2 i hi z w]; rfl, J⟩) J0⟩
/-- == of two items -/
theorem eqE_ok (S : EqSys X T c k) : ∀ {n : Nat} {A : Around}, Sub X (5 * k + n) A → ItmOk X T pins σ A (eqE c n)
  | 0, A, _ => fun d e b x y u v F H s I rx ry le hx hy h => by simp [eqE] at h
  | n + 1, A, sb => fun d e b x y u v F H s I rx ry le hx hy h => by
    have hu : A.units + 66 < cLine := by have := sb.room.un; omega
    have ih := eqE_ok S (n := n) (A := A.in1) (Sub.in1 (n := 5 * k + n) sb)
    have same : u = v → ∀ {a : Addr}, u = .ref a → wpAny (model X.prog X.w) A (eqBool u v) (fun r t => r = b ∧ Jx X pins σ F H t) X.xe s := fun z a za => by
      subst z za
      have ex : x = y := RelV.inj rx ry
      subst ex
      obtain rfl := uniq_I S I le hx hy
      have := eqE_refl h
      subst this
      exact SeqAt.EqAt.same (A := A) (s := s) (.ref a) X.prog X.w X.xe _ ⟨rfl, F, H, I, Kp.refl le⟩
    have ne_of : ∀ {a : Addr}, u = .ref a → u ≠ v → (Value.ref a == v) = false := fun {a} za zn => by
      subst za
      exact beq_eq_false_iff_ne.mpr zn
    have h0 := h
    unfold eqE at h
    rcases orE_some h with h | ⟨_, h⟩
    · obtain ⟨p, q, e1, e2, s1, s2, rfl⟩ := eqD_some h
      obtain ⟨as, r1⟩ := Dp.reads I p x u (Vw.dp S.hK le (.rep hx) e1) rx
      obtain ⟨bs, r2⟩ := Dp.reads I q y v (Vw.dp S.hK le (.rep hy) e2) ry
      have dp : p.depth ≤ 64 := by
        have := s1
        unfold SeqAt.shaped at this
        simp at this
        exact this.2
      exact SeqAt.eqAt_reads p q A s u v _ _ r1 r2 (SeqAt.canLay_of_shaped s1) (SeqAt.canLay_of_shaped s2) (by have := Nat.min_le_left p.depth q.depth; omega) X.prog X.w X.xe _ ⟨rfl, F, H, I, Kp.refl le⟩
    · cases d with
      | ins cl l =>
        simp only at h
        split at h
        · rename_i he
          split at h
          · rename_i ho
            obtain ⟨a, dx, fs, rfl, h1, _, hc, _⟩ := hx.insE
            obtain rfl : u = Value.ref a := rx
            by_cases hs : Value.ref a = v
            · exact same hs rfl
            · obtain ⟨mA, J, _⟩ := ins_get I.hok (le _ _ h1)
              obtain ⟨od, J, _⟩ := J.look
              obtain ⟨mm, hF⟩ := I.fr
              obtain ⟨fa, O, run⟩ := own_run (E := X.xe) S hc ⟨sb.room.mono (by omega), sb.fr⟩ I le (x := .ref a) (u := .ref a) rfl ry hx hy h
              refine eqBool_by (ne_of rfl hs) (PySem.W.cmp_K (op := .Eq) (by omega) hF I.ok.mod.kin J (looks_ty I S.hK le ry (.rep hy)) (nf_of S hc he (ins_lt (.rep hy) le)) O.eq O.fn (wpAny_mono run (fun r t q => ?_) fun _ _ z => z))
              obtain ⟨rfl, q⟩ := q
              exact ⟨b, rfl, rfl, q⟩
          · cases h
        · cases h
      | lst l =>
        cases e with
        | lst m =>
          obtain ⟨a, xs, rfl, h1, e1⟩ := hx.lstE
          obtain ⟨a', ys, rfl, h2, e2⟩ := hy.lstE
          obtain rfl : u = Value.ref a := rx
          obtain rfl : v = Value.ref a' := ry
          by_cases hs : Value.ref a = Value.ref a'
          · exact same hs rfl
          · refine eqBool_by (ne_of rfl hs) (wpAny_mono (rc_list (by omega) ih I le (le _ _ h1) (le _ _ h2) e1 e2 h).1 (fun r t q => ?_) fun _ _ z => z)
            exact ⟨b, q.1, rfl, q.2⟩
        | _ => cases h
      | tup l =>
        cases e with
        | tup m =>
          obtain ⟨a, xs, rfl, h1, e1⟩ := hx.tupE
          obtain ⟨a', ys, rfl, h2, e2⟩ := hy.tupE
          obtain rfl : u = Value.ref a := rx
          obtain rfl : v = Value.ref a' := ry
          by_cases hs : Value.ref a = Value.ref a'
          · exact same hs rfl
          · refine eqBool_by (ne_of rfl hs) (wpAny_mono (rc_tup (by omega) ih I le (S.hK ▸ sqT_le le h1) (S.hK ▸ sqT_le le h2) e1 e2 h).1 (fun r t q => ?_) fun _ _ z => z)
            exact ⟨b, q.1, rfl, q.2⟩
        | _ => cases h
      | _ => cases h
end
end Mp

/-! Mr5: the comparison operators. -/
namespace Mp
open PySem L2

section
variable {X : Cx} {T : Tx} {c : Cf} {k : Nat} {pins : List (Addr × Obj)} {σ : St} {F F1 H H1 : Hp} {s : Shared} {n : Nat} {A : Around} {x y : V} {u v : Value} {d e : D} {b : Bool} {f : D → Option Bool} {l m : List D} {a a' : Addr} {xs ys : List V}
/-- how far a thing is not among the first ones -/
def inF (f : D → Option Bool) (l : List D) (i : Nat) : Bool := match l[i]? with
  | some d => f d == some true
  | none => false
theorem inL_pre : ∀ {l : List D} {b : Bool} {i : Nat}, inL f l = some b → (∀ j, j < i → inF f l j = false) → ∀ {d : D}, l[i]? = some d → f d = some (inF f l i)
  | [], b, i, _, _, d, h => by simp at h
  | d0 :: l, b, 0, h, _, d, h1 => by
    simp at h1
    subst h1
    unfold inL at h
    unfold inF
    simp only [List.getElem?_cons_zero]
    cases q : f d0 with
    | none => simp [q] at h
    | some z => cases z <;> rfl
  | d0 :: l, b, i + 1, h, hp, d, h1 => by
    have h0 := hp 0 (Nat.succ_pos i)
    unfold inL at h
    unfold inF at h0
    simp only [List.getElem?_cons_zero] at h0
    cases q : f d0 with
    | none => simp [q] at h
    | some z =>
      rw [q] at h h0
      cases z with
      | true => cases h0
      | false => exact inL_pre (l := l) (i := i) h (fun j hj => hp (j + 1) (by omega)) (by simpa using h1)
theorem inL_all : ∀ {l : List D} {b : Bool}, inL f l = some b → (∀ j, j < l.length → inF f l j = false) → b = false
  | [], b, h, _ => by simp [inL] at h; exact h
  | d0 :: l, b, h, hp => by
    have h0 := hp 0 (by simp)
    unfold inL at h
    unfold inF at h0
    simp only [List.getElem?_cons_zero] at h0
    cases q : f d0 with
    | none => simp [q] at h
    | some z =>
      rw [q] at h h0
      cases z with
      | true => cases h0
      | false => exact inL_all (l := l) h fun j hj => hp (j + 1) (by simpa using hj)
theorem inL_yes : ∀ {l : List D} {b : Bool} {i : Nat}, inL f l = some b → i < l.length → inF f l i = true → (∀ j, j < i → inF f l j = false) → b = true
  | [], b, i, _, h, _, _ => by simp at h
  | d0 :: l, b, 0, h, _, hf, _ => by
    unfold inL at h
    unfold inF at hf
    simp only [List.getElem?_cons_zero] at hf
    cases q : f d0 with
    | none => simp [q] at h
    | some z =>
      rw [q] at hf h
      cases z with
      | true => exact (Option.some.inj h).symm
      | false => cases hf
  | d0 :: l, b, i + 1, h, hi, hf, hp => by
    have h0 := hp 0 (Nat.succ_pos i)
    unfold inL at h
    unfold inF at h0
    simp only [List.getElem?_cons_zero] at h0
    cases q : f d0 with
    | none => simp [q] at h
    | some z =>
      rw [q] at h h0
      cases z with
      | true => cases h0
      | false => exact inL_yes (l := l) (i := i) h (by simpa using hi) hf fun j hj => hp (j + 1) (by omega)
theorem in_ok {g : D → D → Option Bool} (K : ItmOk X T pins σ A.in1 g) (I : Inv X pins σ H s) (le : Le F H) (rx : RelV x v) (hx : Rep T F x d) (ry : RelV y u) (hy : Vw T F H y (.lst l)) (hK : T.K = X.K) (h : inL (fun z => g z d) l = some b) :
    wpAny (model X.prog X.w) A (compareOp .In v u) (EndJ X pins σ F H b) X.xe s ∧ wpAny (model X.prog X.w) A (compareOp .NotIn v u) (EndJ X pins σ F H (!b)) X.xe s := by
  have J0 : Jx X pins σ F H s := ⟨F, H, I, Kp.refl le⟩
  obtain ⟨a, xs, rfl, ha, ex⟩ := hy.lstE le
  obtain rfl : u = Value.ref a := ry
  have P : Mq.Prc X.prog X.w A X.xe a v l.length (inF (fun z => g z d) l) fun _ t => Jx X pins σ F H t := fun i t J => by
    obtain ⟨F1, H1, I1, K1⟩ := id J
    obtain ⟨_, us, p, rus, o1⟩ := (show ObjOk X.prog X.w H1 t.heap a (.lst xs) from I1.hok a _ (K1.h _ _ ha))
    refine ⟨us.toArray, p, o1, by rw [List.size_toArray, ← rus.length, ex.length], fun hp g1 => ?_⟩
    obtain ⟨z, hz, r1⟩ := vals_at rus g1
    obtain ⟨dz, hd, e1⟩ := ex.getL hz
    refine wpAny_mono (K _ _ _ _ _ _ _ _ _ _ I1 r1 rx K1.s (e1.mono K1.f) (hx.mono K1.f) (inL_pre h hp hd)) (fun r t q => ?_) fun _ _ z => z
    obtain ⟨q1, F2, H2, I2, K2⟩ := q
    exact ⟨q1, F2, H2, I2, K1.trans K2⟩
  obtain ⟨_, us, p, rus, o1⟩ := (show ObjOk X.prog X.w H s.heap a (.lst xs) from I.hok a _ ha)
  have t1 := fun z => inL_all h z
  have t2 : ∀ i, i < l.length → inF (fun z => g z d) l i = true → (∀ j, j < i → inF (fun z => g z d) l j = false) → b = true := fun i hi z w => inL_yes h hi z w
  refine ⟨Mq.in_by ⟨_, o1, rfl⟩ PySem.F.slot_list_contains PySem.F.entry_list_contains (PySem.F.args_list_contains_2 _ _) (Mq.list_inB (R := wants _ X.xe) a v l.length _ _ P (fun t J z => ⟨_, rfl, by rw [t1 z], J⟩) (fun i t hi z w J => ⟨_, rfl, by rw [t2 i hi z w], J⟩) J0), Mq.notIn_by ⟨_, o1, rfl⟩ PySem.F.slot_list_contains PySem.F.entry_list_contains (PySem.F.args_list_contains_2 _ _) (Mq.list_inB (R := wants _ X.xe) a v l.length _ _ P (fun t J z => ⟨_, rfl, by rw [t1 z], J⟩) (fun i t hi z w J => ⟨_, rfl, by rw [t2 i hi z w], J⟩) J0)⟩
theorem inT_ok {g : D → D → Option Bool} (K : ItmOk X T pins σ A.in1 g) (I : Inv X pins σ H s) (le : Le F H) (rx : RelV x v) (hx : Rep T F x d) (ry : RelV y u) (hy : Vw T F H y (.tup l)) (hK : T.K = X.K) (h : inL (fun z => g z d) l = some b) :
    wpAny (model X.prog X.w) A (compareOp .In v u) (EndJ X pins σ F H b) X.xe s ∧ wpAny (model X.prog X.w) A (compareOp .NotIn v u) (EndJ X pins σ F H (!b)) X.xe s := by
  have J0 : Jx X pins σ F H s := ⟨F, H, I, Kp.refl le⟩
  obtain ⟨a, xs, rfl, ha, ex⟩ := hy.tupE le
  obtain rfl : u = Value.ref a := ry
  obtain ⟨us, rus, i1, _⟩ := I.tuple (hK ▸ ha)
  obtain ⟨⟨c1, dd, data, sl⟩, o1, h1, n, hd⟩ := id i1
  simp only at h1 hd
  subst h1 hd
  have z1 : us.toArray.size = l.length := by rw [List.size_toArray, ← rus.length, ex.length]
  have P : ∀ i (g1 : i < us.toArray.size) t, (∀ j, j < i → inF (fun z => g z d) l j = false) → Jx X pins σ F H t → wpAny (model X.prog X.w) A.in1 (eqBool us.toArray[i] v) (fun r t => r = inF (fun z => g z d) l i ∧ Jx X pins σ F H t) X.xe t := fun i g1 t hp J => by
    obtain ⟨F1, H1, I1, K1⟩ := id J
    obtain ⟨z, hz, r1⟩ := vals_at rus g1
    obtain ⟨dz, hd, e1⟩ := ex.getL hz
    refine wpAny_mono (K _ _ _ _ _ _ _ _ _ _ I1 r1 rx K1.s (e1.mono K1.f) (hx.mono K1.f) (inL_pre h hp hd)) (fun r t q => ?_) fun _ _ z => z
    obtain ⟨q1, F2, H2, I2, K2⟩ := q
    exact ⟨q1, F2, H2, I2, K1.trans K2⟩
  have t1 : (∀ j, j < us.toArray.size → inF (fun z => g z d) l j = false) → b = false := fun z => inL_all h (by rw [← z1]; exact z)
  have t2 : ∀ i, i < us.toArray.size → inF (fun z => g z d) l i = true → (∀ j, j < i → inF (fun z => g z d) l j = false) → b = true := fun i hi z w => inL_yes h (by rw [← z1]; exact hi) z w
  refine ⟨Mq.in_by ⟨_, o1, rfl⟩ PySem.F.slot_tuple_contains PySem.F.entry_tuple_contains (PySem.F.args_tuple_contains_2 _ _) (Mq.tuple_inB (R := wants _ X.xe) a v _ _ _ _ _ (fun _ t => Jx X pins σ F H t) P (fun t J z => ⟨_, rfl, by rw [t1 z], J⟩) (fun i t hi z w J => ⟨_, rfl, by rw [t2 i hi z w], J⟩) o1 J0), Mq.notIn_by ⟨_, o1, rfl⟩ PySem.F.slot_tuple_contains PySem.F.entry_tuple_contains (PySem.F.args_tuple_contains_2 _ _) (Mq.tuple_inB (R := wants _ X.xe) a v _ _ _ _ _ (fun _ t => Jx X pins σ F H t) P (fun t J z => ⟨_, rfl, by rw [t1 z], J⟩) (fun i t hi z w J => ⟨_, rfl, by rw [t2 i hi z w], J⟩) o1 J0)⟩
end
end Mp

/-! Mr6: comparisons as expressions and tests. -/
namespace Mp
open PySem L2

def rCX (T : Tx) (c : Cf) (o : Cm) : R2 := fun x y H Q => ∃ F d e fx fy b, Le F H ∧ Vw T F H x d ∧ Vw T F H y e ∧ (fx = true → Rep T F x d) ∧ (fy = true → Rep T F y e) ∧ copX c fx fy o d e = some b ∧ ∀ F' H', Kp F H F' H' → Q (.bl b) H'
section
variable {X : Cx} {T : Tx} {W : WX} {c : Cf} {k : Nat} {pins : List (Addr × Obj)} {σ : St} {F F1 H H1 : Hp} {s : Shared} {x y : V} {v u : Value} {d e : D} {b fx fy : Bool}
theorem endJ_EP {Q : VK} (q : ∀ F' H', Kp F H F' H' → Q (.bl b) H') {r : Value} {t : Shared} (h : EndJ X pins σ F H b r t) : EP X pins σ Q r t := by
  obtain ⟨rfl, F', H', I', K'⟩ := h
  exact ⟨.bl b, H', I', rfl, q F' H' K'⟩
theorem not_some {z : Option Bool} {b : Bool} (h : z.map (!·) = some b) : z = some (!b) := by
  cases z with
  | none => cases h
  | some w => simp at h; subst h; simp
/-- an instance compared -/
theorem ins_eq (S : EqSys X T c k) (hr : Room (5 * k + 4) X.A) (I : Inv X pins σ H s) (le : Le F H) (rx : RelV x v) (ry : RelV y u) {cl : Nat} {l : List D} (hx : Rep T F x (.ins cl l)) (hy : Rep T F y e) (he : okE e = true) (h : ownEq c cl (.ins cl l) e = some b) :
    wpAny (model X.prog X.w) X.A (compareOp .Eq v u) (EndJ X pins σ F H b) X.xe s ∧ wpAny (model X.prog X.w) X.A (compareOp .NotEq v u) (EndJ X pins σ F H (!b)) X.xe s := by
  obtain ⟨a, dx, fs, rfl, h1, _, hc, _⟩ := hx.insE
  obtain rfl : v = Value.ref a := rx
  obtain ⟨mA, J, _⟩ := ins_get I.hok (le _ _ h1)
  obtain ⟨od, J, _⟩ := J.look
  obtain ⟨mm, hF⟩ := I.fr
  have hu : X.A.units + 16 * (5 * k + 4) + 200 < cLine := hr.un
  have nf := nf_of S hc he (ins_lt (.rep hy) le)
  have ty := looks_ty I S.hK le ry (.rep hy)
  obtain ⟨fa, O, run⟩ := own_run (A := X.A) (E := X.xe) S hc ⟨hr.mono (by omega), rfl⟩ I le (x := .ref a) (u := .ref a) rfl ry hx hy h
  obtain ⟨fa', O', run'⟩ := own_run (A := X.A.in1) (E := X.xe) S hc ⟨(hr.mono (j := 5 * k + 1) (by omega)).in1, rfl⟩ I le (x := .ref a) (u := .ref a) rfl ry hx hy h
  have ru : Room (5 * k) X.A.in1 := (hr.mono (j := 5 * k + 1) (by omega)).in1
  constructor
  · exact PySem.W.cmp_K (op := .Eq) (by omega) hF I.ok.mod.kin J ty nf O.eq O.fn (wpAny_mono run (fun r t q => by
      obtain ⟨rfl, q⟩ := q
      exact ⟨rfl, q⟩) fun _ _ z => z)
  · exact Mq.rc_neI (h₀ := s.heap) (L := 0) (m := fun _ => none) O' ru.units0 (by omega) I.kIn J ty nf (wpAny_mono run' (fun r t q => by
      obtain ⟨rfl, q⟩ := q
      exact ⟨b, rfl, rfl, q⟩) fun _ _ z => z)
/-- something of a built-in kind compared with an instance -/
theorem ins_eqR (S : EqSys X T c k) (hr : Room (5 * k + 4) X.A) (I : Inv X pins σ H s) (le : Le F H) (rx : RelV x v) (ry : RelV y u) {cl : Nat} {l : List D} (hx : Rep T F x d) (hy : Rep T F y (.ins cl l)) (hd : ∀ c' l', d ≠ .ins c' l') (he : okE d = true) (h : ownEq c cl (.ins cl l) d = some b) :
    wpAny (model X.prog X.w) X.A (compareOp .Eq v u) (EndJ X pins σ F H b) X.xe s ∧ (d = .non → wpAny (model X.prog X.w) X.A (compareOp .NotEq v u) (EndJ X pins σ F H (!b)) X.xe s) := by
  obtain ⟨a, dx, fs, rfl, h1, _, hc, _⟩ := hy.insE
  obtain rfl : u = Value.ref a := ry
  obtain ⟨mA, J, _⟩ := ins_get I.hok (le _ _ h1)
  have J0 := J
  obtain ⟨od, J, _⟩ := J.look
  have hu : X.A.units + 16 * (5 * k + 4) + 200 < cLine := hr.un
  obtain ⟨fa, O, run⟩ := own_run (A := X.A) (E := X.xe) S hc ⟨hr.mono (by omega), rfl⟩ I le (x := .ref a) (u := .ref a) rfl rx hy hx h
  obtain ⟨fa', O', run'⟩ := own_run (A := X.A.in1) (E := X.xe) S hc ⟨(hr.mono (j := 5 * k + 1) (by omega)).in1, rfl⟩ I le (x := .ref a) (u := .ref a) rfl rx hy hx h
  have ru : Room (5 * k) X.A.in1 := (hr.mono (j := 5 * k + 1) (by omega)).in1
  have run2 : wpAny (model X.prog X.w) X.A (call (.ref fa) [.ref a, v]) (fun r t => ∃ z, r = .bool z ∧ EndJ X pins σ F H b (.bool z) t) X.xe s := wpAny_mono run (fun r t q => by
    obtain ⟨rfl, q⟩ := q
    exact ⟨b, rfl, rfl, q⟩) fun _ _ z => z
  have o1 : ∃ dx, s.heap.get? a = some (PySem.W.instObj (T.ci cl).addr dx) := ⟨_, J0.1⟩
  obtain ⟨dx', o1⟩ := o1
  have sub := fun t ht => (S.nt cl hc t ht).2
  cases d with
  | ins c' l' => exact absurd rfl (hd c' l')
  | exc c' l' => cases he
  | non =>
    obtain rfl := hx.nonE
    cases (show v = Value.none from rx)
    refine ⟨Mq.rc_eqR O (by omega) I.kIn J (T := "NoneType") rfl (sub _ (by simp)) PySem.F.slot_NoneType_eq (fun Q' q => Mq.dec_none q) run2, fun _ => ?_⟩
    exact Mq.rc_neR O' ru.units0 (by omega) I.kIn J (T := "NoneType") rfl (sub _ (by simp)) PySem.F.slot_NoneType_ne (fun Q' q => Mq.dec_noneN q) (wpAny_mono run' (fun r t q => by
      obtain ⟨rfl, q⟩ := q
      exact ⟨b, rfl, rfl, q⟩) fun _ _ z => z)
  | bl z =>
    obtain rfl := hx.blE
    cases (show v = Value.bool z from rx)
    exact ⟨Mq.rc_eqR O (by omega) I.kIn J (T := "bool") rfl (sub _ (by simp)) PySem.F.slot_bool_eq (fun Q' q => Mq.dec_bool o1 q) run2, fun h => by cases h⟩
  | int z =>
    obtain rfl := hx.intE
    obtain ⟨t, q⟩ := (show ∃ t, v = Value.int z t from rx)
    subst q
    exact ⟨Mq.rc_eqR O (by omega) I.kIn J (T := "int") (typeIs_int s z t) (sub _ (by simp)) PySem.F.slot_int_eq (fun Q' q => Mq.dec_int o1 q) run2, fun h => by cases h⟩
  | str z =>
    obtain rfl := hx.strE
    obtain ⟨t, q⟩ := (show ∃ t, v = Value.str z t from rx)
    subst q
    exact ⟨Mq.rc_eqR O (by omega) I.kIn J (T := "str") (typeIs_str s z t) (sub _ (by simp)) PySem.F.slot_str_eq (fun Q' q => Mq.dec_str o1 q) run2, fun h => by cases h⟩
  | tup z =>
    obtain ⟨p, xs, rfl, hp, _⟩ := hx.tupE
    obtain rfl : v = Value.ref p := rx
    obtain ⟨its, _, ⟨⟨c1, dd, data, sl⟩, o2, h2, n, h3⟩, _⟩ := I.tuple (S.hK ▸ sqT_le le hp)
    simp only at h2 h3
    subst h2 h3
    exact ⟨Mq.rc_eqR O (by omega) I.kIn J (T := "tuple") ⟨_, o2, rfl⟩ (sub _ (by simp)) PySem.F.slot_tuple_eq (fun Q' q => Mq.dec_tuple o2 (J.type.andThen (PySem.W.looks_subIn I.kIn (sub _ (by simp)))) q) run2, fun h => by cases h⟩
  | lst z =>
    obtain ⟨p, xs, rfl, hp, _⟩ := hx.lstE
    obtain rfl : v = Value.ref p := rx
    obtain ⟨_, its, n, _, o2⟩ := (show ObjOk X.prog X.w H s.heap p (.lst xs) from I.hok p _ (le _ _ hp))
    exact ⟨Mq.rc_eqR O (by omega) I.kIn J (T := "list") ⟨_, o2, rfl⟩ (sub _ (by simp)) PySem.F.slot_list_eq (fun Q' q => Mq.dec_list o2 (J.type.andThen (PySem.W.looks_subIn I.kIn (sub _ (by simp)))) q) run2, fun h => by cases h⟩
/-- == != by what eqI tells -/
theorem eqI_ok (S : EqSys X T c k) (hr : Room (5 * k + 4) X.A) (I : Inv X pins σ H s) (le : Le F H) (rx : RelV x v) (ry : RelV y u) (hx : Vw T F H x d) (hy : Vw T F H y e) (gx : fx = true → Rep T F x d) (gy : fy = true → Rep T F y e) (h : eqI c fx fy d e = some b) :
    wpAny (model X.prog X.w) X.A (compareOp .Eq v u) (EndJ X pins σ F H b) X.xe s ∧ (neOk d e = true → wpAny (model X.prog X.w) X.A (compareOp .NotEq v u) (EndJ X pins σ F H (!b)) X.xe s) := by
  have hu : X.A.units + 16 * (5 * k + 4) + 200 < cLine := hr.un
  have ih := eqE_ok (pins := pins) (σ := σ) S (n := 3) (A := X.A.in1) ⟨hr.in1, rfl⟩
  have insL : ∀ {cl l}, d = .ins cl l → (if (fx && fy && okE e) = true then ownEq c cl (.ins cl l) e else none) = some b → wpAny (model X.prog X.w) X.A (compareOp .Eq v u) (EndJ X pins σ F H b) X.xe s ∧ wpAny (model X.prog X.w) X.A (compareOp .NotEq v u) (EndJ X pins σ F H (!b)) X.xe s := fun {cl l} e1 h9 => by
    clear h
    subst e1
    split at h9
    · rename_i g
      simp only [Bool.and_eq_true] at g
      exact ins_eq S hr I le rx ry (gx g.1.1) (gy g.1.2) g.2 h9
    · cases h9
  have insR : ∀ {cl l}, e = .ins cl l → okE d = true → (∀ c' l', d ≠ .ins c' l') → (if (fx && fy) = true then ownEq c cl (.ins cl l) d else none) = some b → wpAny (model X.prog X.w) X.A (compareOp .Eq v u) (EndJ X pins σ F H b) X.xe s ∧ (d = .non → wpAny (model X.prog X.w) X.A (compareOp .NotEq v u) (EndJ X pins σ F H (!b)) X.xe s) := fun {cl l} e1 he hd h9 => by
    clear h insL
    subst e1
    split at h9
    · rename_i g
      simp only [Bool.and_eq_true] at g
      exact ins_eqR S hr I le rx ry (gx g.1) (gy g.2) hd he h9
    · cases h9
  cases d with
  | ins cl l => exact ⟨(insL rfl h).1, fun _ => (insL rfl h).2⟩
  | exc cl l => cases e <;> cases h
  | non =>
    cases e with
    | ins cl l => exact ⟨(insR rfl rfl (fun _ _ z => nomatch z) h).1, fun _ => (insR rfl rfl (fun _ _ z => nomatch z) h).2 rfl⟩
    | _ => cases h
  | bl z =>
    cases e with
    | ins cl l => exact ⟨(insR rfl rfl (fun _ _ z => nomatch z) h).1, fun z => by cases z⟩
    | _ => cases h
  | int z =>
    cases e with
    | ins cl l => exact ⟨(insR rfl rfl (fun _ _ z => nomatch z) h).1, fun z => by cases z⟩
    | _ => cases h
  | str z =>
    cases e with
    | ins cl l => exact ⟨(insR rfl rfl (fun _ _ z => nomatch z) h).1, fun z => by cases z⟩
    | _ => cases h
  | lst l =>
    cases e with
    | ins cl l => exact ⟨(insR rfl rfl (fun _ _ z => nomatch z) h).1, fun z => by cases z⟩
    | lst m =>
      obtain ⟨a, xs, rfl, h1, e1⟩ := hx.lstE le
      obtain ⟨a', ys, rfl, h2, e2⟩ := hy.lstE le
      obtain rfl : v = Value.ref a := rx
      obtain rfl : u = Value.ref a' := ry
      have z := rc_list (A := X.A) (by omega) ih I le h1 h2 e1 e2 h
      exact ⟨z.1, fun _ => z.2⟩
    | _ => cases h
  | tup l =>
    cases e with
    | ins cl l => exact ⟨(insR rfl rfl (fun _ _ z => nomatch z) h).1, fun z => by cases z⟩
    | tup m =>
      obtain ⟨a, xs, rfl, h1, e1⟩ := hx.tupE le
      obtain ⟨a', ys, rfl, h2, e2⟩ := hy.tupE le
      obtain rfl : v = Value.ref a := rx
      obtain rfl : u = Value.ref a' := ry
      have z := rc_tup (A := X.A) (by omega) ih I le (S.hK ▸ h1) (S.hK ▸ h2) e1 e2 h
      exact ⟨z.1, fun _ => z.2⟩
    | _ => cases h
/-- THE comparison operators -/
theorem copX_ok (S : EqSys X T c k) (hr : Room (5 * k + 4) X.A) : ∀ o, OpR X (compareOp (cmOf o)) (rCX T c o) := fun o => by
  intro pins s σ H x y v u Q I rx ry hq
  obtain ⟨F, d, e, fx, fy, b, le, hx, hy, gx, gy, h, q⟩ := hq
  have hu : X.A.units + 65 < cLine := by have := hr.un; omega
  have plain : cop o d e = some b → wpAny (model X.prog X.w) X.A (compareOp (cmOf o) v u) (EP X pins σ Q) X.xe s := fun h => cop_ok S.hK hu o pins s σ H x y v u Q I rx ry ⟨F, d, e, b, le, hx, hy, h, q F H (Kp.refl le)⟩
  have ih := eqE_ok (pins := pins) (σ := σ) S (n := 3) (A := X.A.in1) ⟨hr.in1, rfl⟩
  have en : ∀ {r t}, EndJ X pins σ F H b r t → EP X pins σ Q r t := fun {r t} => endJ_EP q
  have inn : ∀ {l : List D} {b' : Bool}, (e = .lst l ∨ e = .tup l) → (if fx = true then inL (fun z => eqE c 3 z d) l else none) = some b' → wpAny (model X.prog X.w) X.A (compareOp .In v u) (EndJ X pins σ F H b') X.xe s ∧ wpAny (model X.prog X.w) X.A (compareOp .NotIn v u) (EndJ X pins σ F H (!b')) X.xe s := fun {l b'} e1 h9 => by
    clear h plain
    split at h9
    · rename_i g
      rcases e1 with rfl | rfl
      · obtain ⟨z1, z2⟩ := in_ok ih I le rx (gx g) ry hy S.hK h9
        exact ⟨z1, z2⟩
      · obtain ⟨z1, z2⟩ := inT_ok ih I le rx (gx g) ry hy S.hK h9
        exact ⟨z1, z2⟩
    · cases h9
  cases o with
  | eq =>
    rcases orE_some (show orE (eqD d e) (eqI c fx fy d e) = some b from h) with h | ⟨_, h⟩
    · exact plain h
    · exact wpAny_mono (eqI_ok S hr I le rx ry hx hy gx gy h).1 (fun _ _ z => en z) fun _ _ z => z
  | ne =>
    have h : (if neOk d e = true then (eqX c fx fy d e).map (!·) else none) = some b := h
    split at h
    · rename_i g
      have h := not_some h
      rcases orE_some (show orE (eqD d e) (eqI c fx fy d e) = some (!b) from h) with h | ⟨_, h⟩
      · exact plain (show (eqD d e).map (!·) = some b by rw [h]; simp)
      · exact wpAny_mono ((eqI_ok S hr I le rx ry hx hy gx gy h).2 g) (fun _ _ z => en (by simpa using z)) fun _ _ z => z
    · cases h
  | isIn =>
    have key : ∀ {l : List D}, (e = .lst l ∨ e = .tup l) → inX c fx d l = some b → wpAny (model X.prog X.w) X.A (compareOp .In v u) (EP X pins σ Q) X.xe s := fun {l} e1 h9 => by
      rcases orE_some (show orE (inD d l) _ = some b from h9) with h9 | ⟨_, h9⟩
      · exact plain (by rcases e1 with rfl | rfl <;> exact h9)
      · exact wpAny_mono (inn e1 h9).1 (fun _ _ z => en z) fun _ _ z => z
    cases e with
    | lst l => exact key (.inl rfl) h
    | tup l => exact key (.inr rfl) h
    | _ => exact plain h
  | notIn =>
    have key : ∀ {l : List D}, (e = .lst l ∨ e = .tup l) → (inX c fx d l).map (!·) = some b → wpAny (model X.prog X.w) X.A (compareOp .NotIn v u) (EP X pins σ Q) X.xe s := fun {l} e1 h9 => by
      have h9 := not_some h9
      rcases orE_some (show orE (inD d l) _ = some (!b) from h9) with h9 | ⟨_, h9⟩
      · exact plain (by rcases e1 with rfl | rfl <;> (show (inD d l).map (!·) = some b; rw [h9]; simp))
      · exact wpAny_mono (inn e1 h9).2 (fun _ _ z => en (by simpa using z)) fun _ _ z => z
    cases e with
    | lst l => exact key (.inl rfl) h
    | tup l => exact key (.inr rfl) h
    | _ => exact plain h
  | _ => exact plain h
end
end Mp

/-! Mr7: comparisons in derivations. -/
namespace Mp
open PySem L2

section
variable {T : Tx} {W : WX} {σ : St} {F H : Hp} {A : Ad} {G : List Sl} {v : V} {r : R} {d : D}
theorem frz_rep (R0 : Rel T F H σ G A) (rp : RepR T F H σ A v (park r)) (e : pk G (park r) = some d) (g : frzn G r = true) : Rep T F v d := by
  cases r with
  | d d0 => cases e; cases rp with | d h => exact h
  | ol l => cases e; cases rp with | d h => exact h
  | al i =>
    cases rp with
    | al hv =>
      dsimp only [frzn] at g
      have e : pk G (.al i) = some d := e
      dsimp only [pk] at e
      cases hg : G[i]? with
      | none => simp [hg] at e
      | some s =>
        have q := R0.sl i s hg
        rw [hv] at q
        rw [hg] at e g
        clear hg
        revert q
        generalize A i = ai
        intro q
        cases q with
        | fz h => simp at e; subst e; exact h
        | no => cases g
        | ol _ _ => cases g
        | bw _ _ _ => cases g
        | oi _ _ _ _ => cases g
        | sc _ _ => cases g
theorem frz_step {F1 H1 : Hp} {A1 : Ad} {G1 : List Sl} (R1 : Rel T F1 H1 σ G1 A1) (rp : RepR T F1 H1 σ A1 v (park r)) (e : pk G1 (park r) = some d) : frzn G1 r = true → Rep T F1 v d := fun g => frz_rep R1 rp e g
end
section
variable {X : Cx} {c : Cf} {T : Tx} {W : WX} {a b d : Expr} {x y z : E} {pos : Pos} {σ : St} {H : Hp}
/-- the comparison operators of a context -/
abbrev CmpsOk (X : Cx) (T : Tx) (c : Cf) : Prop := ∀ o, OpR X (compareOp (cmOf o)) (rCX T c o)
theorem cm_core {o : Cm} {Q : VK} (h : rdE c T W (.cm o x y) σ H Q) : tOp (rCX T c o) (rdE c T W x) (rdE c T W y) σ H Q := by
  obtain ⟨F, G, A, R0, m⟩ := h
  unfold evE at m
  refine rd_of R0 m fun x1 G1 F1 H1 A1 v1 R1 s1 p1 m1 => ?_
  refine rd_of R1 m1 fun x2 G2 F2 H2 A2 v2 R2 s2 p2 m2 => ?_
  cases e1 : pk G2 (park x1) with
  | none => simp [e1, Mt] at m2
  | some d =>
    cases e2 : pk G2 (park x2) with
    | none => simp [e1, e2, Mt] at m2
    | some e =>
      cases e3 : copX c (frzn G2 x1) (frzn G2 x2) o d e with
      | none => simp [e1, e2, e3, Mt] at m2
      | some k =>
        simp only [e1, e2, e3] at m2
        refine ⟨F2, d, e, frzn G2 x1, frzn G2 x2, k, R2.sub, R2.view (p1.step s2) e1, R2.view p2 e2, frz_rep R2 (p1.step s2) e1, frz_rep R2 p2 e2, e3, fun F' H' K => ?_⟩
        obtain ⟨R3, s3⟩ := R2.kept K.f K.s K.h K.n K.k
        exact m2 F' H' A2 R3 s3 _ (.d (Rep.of_flat rfl)) Nw.d
theorem de_cm (hop : CmpsOk X T c) (o : Cm) (ha : DE X c T W a x) (hb : DE X c T W b y) (hm : behindInMarks (cmOf o) b = false := by first | exact nobehind _ (by decide) (by decide) | rfl) :
    DE X c T W (.Compare a [cmOf o] [b] pos) (.cm o x y) := pe_imp (pe_cmpR (hop o) ha hb hm) fun σ H Q h => cm_core h
theorem de_ch (hop : CmpsOk X T c) (o p : Cm) (ha : DE X c T W a x) (hb : DE X c T W b y) (hd : DE X c T W d z) (hm : lastMarks [cmOf o, cmOf p] [b, d] = false := by rfl) : DE X c T W (.Compare a [cmOf o, cmOf p] [b, d] pos) (.ch o p x y z) := by
  refine pe_imp (pe_chain (hop o) (hop p) ha hb hd hm) fun σ H Q ⟨F, G, A, R0, m⟩ => ?_
  unfold evE at m
  refine rd_of R0 m fun x1 G1 F1 H1 A1 v1 R1 s1 p1 m1 => ?_
  refine rd_of R1 m1 fun x2 G2 F2 H2 A2 v2 R2 s2 p2 m2 => ?_
  cases e1 : pk G2 (park x1) with
  | none => simp [e1, Mt] at m2
  | some d1 =>
    cases e2 : pk G2 (park x2) with
    | none => simp [e1, e2, Mt] at m2
    | some d2 =>
      cases e3 : copX c (frzn G2 x1) (frzn G2 x2) o d1 d2 with
      | none => simp [e1, e2, e3, Mt] at m2
      | some k =>
        simp only [e1, e2, e3] at m2
        refine ⟨F2, d1, d2, frzn G2 x1, frzn G2 x2, k, R2.sub, R2.view (p1.step s2) e1, R2.view p2 e2, frz_rep R2 (p1.step s2) e1, frz_rep R2 p2 e2, e3, fun F' H' K => ⟨k, rfl, ?_⟩⟩
        obtain ⟨Rk, sk⟩ := R2.kept K.f K.s K.h K.n K.k
        cases k with
        | false => exact m2 F' H' A2 Rk sk _ (.d (Rep.of_flat rfl)) Nw.d
        | true =>
          refine rd_of Rk (m2.start sk) fun x3 G3 F3 H3 A3 v3 R3 s3 p3 m3 => ?_
          cases e4 : pk G3 (park x2) with
          | none => simp [e4, Mt] at m3
          | some d4 =>
            cases e5 : pk G3 (park x3) with
            | none => simp [e4, e5, Mt] at m3
            | some d5 =>
              cases e6 : copX c (frzn G3 x2) (frzn G3 x3) p d4 d5 with
              | none => simp [e4, e5, e6, Mt] at m3
              | some k2 =>
                simp only [e4, e5, e6] at m3
                have p2' := (p2.step sk).step s3
                refine ⟨F3, d4, d5, frzn G3 x2, frzn G3 x3, k2, R3.sub, R3.view p2' e4, R3.view p3 e5, frz_rep R3 p2' e4, frz_rep R3 p3 e5, e6, fun F' H' K => ?_⟩
                obtain ⟨R4, s4⟩ := R3.kept K.f K.s K.h K.n K.k
                exact m3 F' H' A3 R4 s4 _ (.d (Rep.of_flat rfl)) Nw.d
end
end Mp

/-! Mr8: a list lent out. -/
namespace Mp
open PySem L2

theorem farOk_at : ∀ {G G2 : List Sl}, farOk G G2 = true → G.length = G2.length → ∀ {j : Nat} {t : Sl}, G2[j]? = some t → (∀ l, t ≠ .sc l) ∧ ∀ l, t = .bw l → ∃ m, G[j]? = some (.bw m)
  | [], [], _, _, j, t, e => by simp at e
  | [], _ :: _, _, h, _, _, _ => by simp at h
  | _ :: _, [], _, h, _, _, _ => by simp at h
  | s :: G, u :: G2, h, hl, j, t, e => by
    unfold farOk at h
    rw [Bool.and_eq_true] at h
    cases j with
    | zero =>
      simp at e
      subst e
      refine ⟨fun l q => ?_, fun l q => ?_⟩
      · subst q; exact absurd h.1 (fun z => nomatch z)
      · subst q
        cases s with
        | bw m => exact ⟨m, rfl⟩
        | no => exact absurd h.1 (fun z => nomatch z)
        | fz _ => exact absurd h.1 (fun z => nomatch z)
        | ol _ => exact absurd h.1 (fun z => nomatch z)
        | oi _ _ => exact absurd h.1 (fun z => nomatch z)
        | sc _ => exact absurd h.1 (fun z => nomatch z)
    | succ j =>
      have := farOk_at h.2 (by simpa using hl) (j := j) (t := t) (by simpa using e)
      exact ⟨this.1, fun l q => by obtain ⟨m, q⟩ := this.2 l q; exact ⟨m, by simpa using q⟩⟩
section
variable {T : Tx} {W : WX} {σ : St} {F F2 H H2 : Hp} {A A2 : Ad} {G G2 : List Sl} {i : Nat} {a : Addr} {l : List D} {xs : List V}
def lendA (A : Ad) (i : Nat) (a : Addr) : Ad := ⟨fun j => if j = i then none else A j, fun b => A.b b ∨ b = a⟩
def backA (A A2 : Ad) (i : Nat) (a : Addr) : Ad := ⟨fun j => if j = i then some a else A2 j, A.b⟩
theorem lendA_sub {k : Nat} {b : Addr} (e : lendA A i a k = some b) : A k = some b ∧ k ≠ i := by
  have e : (if k = i then none else A k) = some b := e
  split at e
  · cases e
  · rename_i h; exact ⟨e, h⟩
theorem Rel.lend (R0 : Rel T F H σ G A) (hi : i < G.length) (ha : A i = some a) (h : H a = some (.lst xs)) (e : Reps T F xs l) (hs : σ[i]? = some (some (.ref a))) : Rel T F H σ (G.set i (.bw l)) (lendA A i a) := by
  have na : ∀ k, lendA A i a k ≠ some a := fun k q => by
    obtain ⟨q1, q2⟩ := lendA_sub q
    exact q2 (R0.inj k i a q1 ha)
  refine ⟨R0.sub, by rw [List.length_set]; exact R0.len, fun j s q => ?_, fun j q => ?_, fun j b q => R0.fr j b (lendA_sub q).1, fun j k b q1 q2 => R0.inj j k b (lendA_sub q1).1 (lendA_sub q2).1, fun b q => ?_⟩
  · by_cases hj : j = i
    · subst hj
      rw [List.getElem?_set_self hi] at q
      cases q
      have e0 : lendA A j a j = none := if_pos rfl
      rw [e0, hs]
      exact .bw h e ⟨.inr rfl, na⟩
    · rw [List.getElem?_set_ne (Ne.symm hj)] at q
      have e0 : lendA A i a j = A j := if_neg hj
      rw [e0]
      have fr : ∀ {m : Addr}, A.far m → (lendA A i a).far m := fun {m} f => ⟨.inl f.1, fun k z => f.2 k (lendA_sub z).1⟩
      have q := R0.sl j s q
      revert q
      generalize A j = aj
      generalize σ[j]? = vj
      intro q
      cases q with
      | no => exact .no
      | fz h => exact .fz h
      | ol h r => exact .ol h r
      | bw h r n => exact .bw h r (fr n)
      | oi h n m r => exact .oi h n m r
      | sc h r => exact .sc (h.imp (fun z => ⟨z.1, fr z.2⟩) id) r
  · rw [List.length_set] at q
    have : lendA A i a j = A j := if_neg (by omega)
    rw [this]
    exact R0.out j q
  · rcases q with q | q
    · exact ⟨(R0.bs b q).1, fun k z => (R0.bs b q).2 k (lendA_sub z).1⟩
    · subst q
      exact ⟨by rw [h]; exact (fun z => nomatch z), na⟩
theorem Rel.lendBack (R0 : Rel T F H σ G A) (hi : i < G.length) (ha : A i = some a) (h : H a = some (.lst xs)) (e : Reps T F xs l) (hs : σ[i]? = some (some (.ref a))) (R2 : Rel T F2 H2 σ G2 A2) (s2 : Step F H (lendA A i a) F2 H2 A2) (f : farOk (G.set i (.bw l)) G2 = true) :
    Rel T F2 H2 σ (G2.set i (.ol l)) (backA A A2 i a) ∧ Step F H A F2 H2 (backA A A2 i a) ∧ ∀ v r, RepR T F2 H2 σ A2 v r → Nw H (lendA A i a) v r → RepR T F2 H2 σ (backA A A2 i a) v r ∧ Nw H A v r := by
  have na : ∀ k, lendA A i a k ≠ some a := fun k q => by
    obtain ⟨q1, q2⟩ := lendA_sub q
    exact q2 (R0.inj k i a q1 ha)
  have hH : H a ≠ none := by rw [h]; exact fun z => nomatch z
  have h2 := s2.h a _ h na
  have f2 : F2 a = none := by
    cases q : F2 a with
    | none => rfl
    | some o =>
      rcases s2.n a (by rw [q]; exact fun z => nomatch z) with z | ⟨k, z⟩ | z
      · exact absurd (R0.fr i a ha) z
      · exact absurd z (na k)
      · exact absurd z hH
  have n2 : ∀ k, A2 k ≠ some a := fun k q => by
    rcases s2.o k a q with ⟨j, z⟩ | z
    · exact na j z
    · exact hH z
  have hl : G2.length = G.length := by rw [R2.len, R0.len]
  have bi : backA A A2 i a i = some a := if_pos rfl
  have bn : ∀ {j}, j ≠ i → backA A A2 i a j = A2 j := fun h => if_neg h
  refine ⟨⟨R2.sub, by rw [List.length_set]; exact R2.len, fun j s q => ?_, fun j q => ?_, fun j b q => ?_, fun j k b q1 q2 => ?_, fun b q => ?_⟩, ⟨s2.f, fun b o q z => s2.h b o q fun k w => z k (lendA_sub w).1, fun b q => ?_, fun j b q => ?_, s2.k, rfl⟩, fun v r rp nw => ?_⟩
  · by_cases hj : j = i
    · subst hj
      rw [List.getElem?_set_self (by omega)] at q
      cases q
      rw [bi, hs]
      exact .ol h2 (e.mono s2.f)
    · rw [List.getElem?_set_ne (Ne.symm hj)] at q
      rw [bn hj]
      obtain ⟨c1, c2⟩ := farOk_at f (by rw [List.length_set, hl]) q
      have q0 := R2.sl j s q
      cases hv : σ[j]? with
      | none =>
        rw [hv] at q0
        revert q0
        generalize A2 j = aj
        intro q0
        cases q0
        exact .no
      | some vj =>
        rw [hv] at q0
        revert q0
        generalize A2 j = aj
        intro q0
        cases q0 with
        | no => exact .no
        | fz h => exact .fz h
        | ol h r => exact .ol h r
        | oi h n m r => exact .oi h n m r
        | sc h r => exact absurd rfl (c1 _)
        | bw hb r n =>
          obtain ⟨m, c3⟩ := c2 _ rfl
          rw [List.getElem?_set_ne (Ne.symm hj)] at c3
          have q9 := R0.sl j _ c3
          rw [hv] at q9
          revert q9
          generalize A j = aj
          intro q9
          cases q9 with
          | bw _ _ fr =>
            refine .bw hb r ⟨fr.1, fun k z => ?_⟩
            by_cases hk : k = i
            · subst hk
              rw [bi] at z
              exact fr.2 k (ha.trans z)
            · rw [bn hk] at z
              exact n.2 k z
  · rw [List.length_set] at q
    rw [bn (by omega)]
    exact R2.out j q
  · by_cases hj : j = i
    · subst hj
      rw [bi] at q
      cases q
      exact f2
    · rw [bn hj] at q
      exact R2.fr j b q
  · by_cases hj : j = i
    · by_cases hk : k = i
      · rw [hj, hk]
      · subst hj
        rw [bi] at q1
        rw [bn hk] at q2
        cases q1
        exact absurd q2 (n2 k)
    · by_cases hk : k = i
      · subst hk
        rw [bi] at q2
        rw [bn hj] at q1
        cases q2
        exact absurd q1 (n2 j)
      · rw [bn hj] at q1
        rw [bn hk] at q2
        exact R2.inj j k b q1 q2
  · have b2 : A2.b b := by rw [s2.b]; exact .inl q
    refine ⟨(R2.bs b b2).1, fun k z => ?_⟩
    by_cases hk : k = i
    · subst hk
      rw [bi] at z
      exact (R0.bs b q).2 k (ha.trans z)
    · rw [bn hk] at z
      exact (R2.bs b b2).2 k z
  · rcases s2.n b q with z | ⟨k, z⟩ | z
    · exact .inl z
    · exact .inr (.inl ⟨k, (lendA_sub z).1⟩)
    · exact .inr (.inr z)
  · by_cases hj : j = i
    · subst hj
      rw [bi] at q
      cases q
      exact .inl ⟨j, ha⟩
    · rw [bn hj] at q
      rcases s2.o j b q with ⟨k, z⟩ | z
      · exact .inl ⟨k, (lendA_sub z).1⟩
      · exact .inr z
  · have nw' : Nw H A v r := fun ds m e1 e2 => by
      rcases nw ds m e1 e2 with z | ⟨k, z⟩
      · exact .inl z
      · exact .inr ⟨k, (lendA_sub z).1⟩
    refine ⟨?_, nw'⟩
    cases rp with
    | d h => exact .d h
    | al h => exact .al h
    | ol h0 e0 f0 n0 =>
      refine .ol h0 e0 f0 fun k z => ?_
      by_cases hk : k = i
      · subst hk
        rw [bi] at z
        cases z
        rcases nw _ _ rfl rfl with w | ⟨j, w⟩
        · exact hH w
        · exact na j w
      · rw [bn hk] at z
        exact n0 k z
end
/-- e, the list of slot i being lent out -/
theorem de_lent {X : Cx} {c : Cf} {T : Tx} {W : WX} {e : Expr} {x : E} {i : Nat} (he : DE X c T W e x) : DE X c T W e (.lent i x) := pe_imp he fun σ H Q ⟨F, G, A, R0, m⟩ => by
  unfold evE at m
  have plain : Mt T W σ F H A (evE c x G) (fun r _ F' H' A' => ∀ v, RepR T F' H' σ A' v r → Nw H A v r → Q v H') → rdE c T W x σ H Q := fun m => ⟨F, G, A, R0, m⟩
  cases hg : G[i]? with
  | none => simp only [hg] at m; exact plain m
  | some s =>
    cases s <;> simp only [hg] at m
    case ol l =>
      have hi : i < G.length := (List.getElem?_eq_some_iff.mp hg).1
      have q := R0.sl i _ hg
      revert q
      generalize hai : A i = ai
      generalize hsi : σ[i]? = si
      intro q
      cases q with
      | ol h er =>
        have R1 := R0.lend hi hai h er hsi
        refine ⟨F, _, _, R1, ?_⟩
        cases ev : evE c x (G.set i (.bw l)) with
        | st => rw [ev] at m; exact m
        | ok r G2 =>
          rw [ev] at m
          dsimp only [lentR] at m
          split at m
          · rename_i hf
            intro F2 H2 A2 R2 s2 v rp nw
            obtain ⟨R3, s3, k⟩ := R0.lendBack hi hai h er hsi R2 s2 hf
            obtain ⟨k1, k2⟩ := k v r rp nw
            exact m F2 H2 _ R3 s3 v k1 k2
          · exact m.elim
        | ex y G2 =>
          rw [ev] at m
          dsimp only [lentR] at m
          split at m
          · rename_i hf
            intro F2 H2 A2 cls d R2 s2 er2
            obtain ⟨R3, s3, _⟩ := R0.lendBack hi hai h er hsi R2 s2 hf
            exact m F2 H2 _ cls d R3 s3 er2
          · exact m.elim
    all_goals exact plain m
end Mp

/-! Mp11: targets, statements. -/
namespace Mp
open PySem L2

mutual
def tgL : Tg → List Nat
  | .n i => [i]
  | .t l => tgsL l
def tgsL : List Tg → List Nat
  | [] => []
  | t :: ts => tgL t ++ tgsL ts
end
/-- the first slot's value stays, where it is the caller's -/
def Fr (pr : Bool) (σ σ' : St) : Prop := pr = true → σ'[0]? = σ[0]?
/-- only these slots' values change -/
def On (l : List Nat) (σ σ' : St) : Prop := σ'.length = σ.length ∧ ∀ j, j ∉ l → σ'[j]? = σ[j]?
section
variable {T : Tx} {W : WX} {σ σ' σ1 σ2 : St} {F F' F0 F1 F2 H H0 H1 H2 H' : Hp} {A A' A0 A1 A2 : Ad} {α β : Type} {G G1 G' : List Sl} {v : V} {r : R} {i : Nat} {pr : Bool} {d : D}
theorem Fr.refl : Fr pr σ σ := fun _ => rfl
theorem Fr.trans (x : Fr pr σ σ1) (y : Fr pr σ1 σ2) : Fr pr σ σ2 := fun h => (y h).trans (x h)
theorem On.refl {l : List Nat} : On l σ σ := ⟨rfl, fun _ _ => rfl⟩
theorem On.trans {l m : List Nat} (x : On l σ σ1) (y : On m σ1 σ2) : On (l ++ m) σ σ2 :=
  ⟨y.1.trans x.1, fun j h => (y.2 j fun z => h (List.mem_append_right _ z)).trans (x.2 j fun z => h (List.mem_append_left _ z))⟩
theorem setS_some {s : Sl} (e : setS pr G i s = some G') : (pr = true → i ≠ 0) ∧ i < G.length ∧ G' = G.set i s := by
  unfold setS at e
  split at e
  · cases e
  · rename_i h
    refine ⟨fun hp z => h (.inl ?_), ?_, (Option.some.inj e).symm⟩
    · simp [hp, z]
    · exact Nat.lt_of_not_le fun z => h (.inr z)
theorem set_fr {x : Option V} (h : pr = true → i ≠ 0) : Fr pr σ (σ.set i x) := fun hp => by
  rw [List.getElem?_set_ne (h hp)]
theorem set_on {x : Option V} : On [i] σ (σ.set i x) := ⟨List.length_set, fun j h => by
  rw [List.getElem?_set_ne (fun e => h (by rw [e]; exact List.mem_cons_self))]⟩
/-- frozen data into a slot -/
theorem Rel.store (R0 : Rel T F H σ G A) (rp : Rep T F v d) (e : setS pr G i (.fz d) = some G') :
    Rel T F H (σ.set i (some v)) G' (Ad.put A i none) ∧ Step F H A F H (Ad.put A i none) ∧ Fr pr σ (σ.set i (some v)) := by
  obtain ⟨h1, h2, rfl⟩ := setS_some e
  have k := R0.put (σ' := σ.set i (some v)) (ai := none) (s := .fz d) (F' := F) (H' := H) h2 (Le.refl _) R0.sub (fun _ _ q _ => q) (fun _ q => q) (fun j hj => by rw [List.getElem?_set_ne (Ne.symm hj)]) List.length_set (fun a q => nomatch q) (fun a q => .inl q)
    (by rw [List.getElem?_set_self (by rw [← R0.len]; exact h2)]; exact .fz rp)
  exact ⟨k.1, k.2, set_fr h1⟩
/-- a new list becomes a slot's own -/
theorem Rel.adopt {l : Addr} {xs : List V} {ds : List D} (R0 : Rel T F0 H0 σ1 G1 A0) (R1 : Rel T F1 H1 σ G A1) (s : Step F0 H0 A0 F1 H1 A1) (h : H1 l = some (.lst xs)) (er : Reps T F1 xs ds) (f : F1 l = none) (n : ∀ i, A1 i ≠ some l)
    (nw : H0 l = none ∨ ∃ i, A0 i = some l) (e : setS pr G i (.ol ds) = some G') : Rel T F1 H1 (σ.set i (some (.ref l))) G' (Ad.put A1 i (some l)) ∧ Step F0 H0 A0 F1 H1 (Ad.put A1 i (some l)) ∧ Fr pr σ (σ.set i (some (.ref l))) := by
  obtain ⟨h1, h2, rfl⟩ := setS_some e
  have hi : i < σ.length := by rw [← R1.len]; exact h2
  have nb : ¬ A1.b l := fun z => by
    rw [s.b] at z
    rcases nw with q | ⟨j, q⟩
    · exact (R0.bs l z).1 q
    · exact (R0.bs l z).2 j q
  refine ⟨⟨R1.sub, by rw [List.length_set, List.length_set, R1.len], fun j x hx => ?_, fun j hj => ?_, fun j a hx => ?_, fun j k a q1 q2 => ?_, fun a ha => ⟨(R1.bs a ha).1, fun k q => ?_⟩⟩, ⟨s.f, fun a o q z => s.h a o q z, s.n, fun j a q => ?_, s.k, s.b⟩, set_fr h1⟩
  · by_cases hj : j = i
    · subst hj
      rw [List.getElem?_set_self h2] at hx
      cases hx
      rw [Ad.put_self, List.getElem?_set_self hi]
      exact .ol h er
    · rw [List.getElem?_set_ne (Ne.symm hj)] at hx
      rw [Ad.put_ne hj, List.getElem?_set_ne (Ne.symm hj)]
      refine (R1.sl j x hx).move (Le.refl _) (fun a o q _ => q) (fun a ha hfar => ⟨hfar.1, fun k q => ?_⟩) fun a q _ _ => q
      by_cases hk : k = i
      · subst hk
        rw [Ad.put_self] at q
        cases q
        exact nb hfar.1
      · rw [Ad.put_ne hk] at q
        exact hfar.2 k q
  · rw [List.length_set] at hj
    rw [Ad.put_ne (by omega)]
    exact R1.out j hj
  · by_cases hj : j = i
    · subst hj
      rw [Ad.put_self] at hx
      cases hx
      exact f
    · rw [Ad.put_ne hj] at hx
      exact R1.fr j a hx
  · by_cases hj : j = i
    · by_cases hk : k = i
      · rw [hj, hk]
      · subst hj
        rw [Ad.put_self] at q1
        rw [Ad.put_ne hk] at q2
        cases q1
        exact absurd q2 (n k)
    · by_cases hk : k = i
      · subst hk
        rw [Ad.put_self] at q2
        rw [Ad.put_ne hj] at q1
        cases q2
        exact absurd q1 (n j)
      · rw [Ad.put_ne hj] at q1
        rw [Ad.put_ne hk] at q2
        exact R1.inj j k a q1 q2
  · by_cases hk : k = i
    · subst hk
      rw [Ad.put_self] at q
      cases q
      exact nb ha
    · rw [Ad.put_ne hk] at q
      exact (R1.bs a ha).2 k q
  · by_cases hj : j = i
    · subst hj
      rw [Ad.put_self] at q
      cases q
      exact nw.symm
    · rw [Ad.put_ne hj] at q
      exact s.o j a q

/-! ### targets -/
def EndG (T : Tx) (pr : Bool) (l : List Nat) (σ : St) (F H : Hp) (A : Ad) (G' : List Sl) (Q : St → Hp → Prop) : Prop :=
  ∀ σ' F' H' A', Rel T F' H' σ' G' A' → Step F H A F' H' A' → Fr pr σ σ' → On l σ σ' → Q σ' H'
def rdG (T : Tx) (pr : Bool) (t : Tg) : TG := fun v σ H Q => ∃ F G A d G', Rel T F H σ G A ∧ Rep T F v d ∧ tgF pr t d G = some G' ∧ EndG T pr (tgL t) σ F H A G' Q
def rdGs (T : Tx) (pr : Bool) (t : List Tg) : TGs := fun vs σ H Q => ∃ F G A ds G', Rel T F H σ G A ∧ Reps T F vs ds ∧ tgsF pr t ds G = some G' ∧ EndG T pr (tgsL t) σ F H A G' Q
abbrev DG (X : Cx) (T : Tx) (pr : Bool) (e : Expr) (t : Tg) : Prop := PG X e (rdG T pr t)
abbrev DGs (X : Cx) (T : Tx) (pr : Bool) (e : List Expr) (t : List Tg) : Prop := PGs X e (rdGs T pr t)
theorem pg_imp {X : Cx} {e : Expr} {t t' : TG} (h : PG X e t) (i : ∀ v σ H Q, t' v σ H Q → t v σ H Q) : PG X e t' := ⟨fun pins s σ H v u Q I r hq => h.run pins s σ H v u Q I r (i v σ H Q hq)⟩
theorem pgs_imp {X : Cx} {e : List Expr} {t t' : TGs} (h : PGs X e t) (i : ∀ v σ H Q, t' v σ H Q → t v σ H Q) : PGs X e t' := ⟨fun pins s σ H v u Q I r hq => h.run pins s σ H v u Q I r (i v σ H Q hq)⟩
theorem tgsF_len : ∀ {ts : List Tg} {ds : List D} {G G' : List Sl}, tgsF pr ts ds G = some G' → ds.length = ts.length
  | [], [], _, _, _ => rfl
  | t :: ts, d :: ds, G, G', e => by
    unfold tgsF at e
    cases e1 : tgF pr t d G with
    | none => simp [e1] at e
    | some G1 =>
      simp only [e1] at e
      simp [tgsF_len e]
  | [], _ :: _, _, _, e => by simp [tgsF] at e
  | _ :: _, [], _, _, e => by simp [tgsF] at e
end
section
variable {X : Cx} {c : Cf} {T : Tx} {W : WX} {a b d o e : Expr} {x y z : E} {l : Es} {es : List Expr} {pos : Pos} {pr : Bool}
theorem dg_n {i : Nat} {x : Str} (hN : X.N.Nodup) (hi : X.N[i]? = some x) (hx : Loc X.env.scope x) (hf : X.fn x = true ∨ X.env.scope.names.lookup x = some .local) : DG X T pr (.Name x pos) (.n i) :=
  pg_imp (pg_name hN hi hx hf) fun v σ H Q ⟨F, G, A, d, G', R0, rp, e, h⟩ => by
    have e : setS pr G i (.fz d) = some G' := by unfold tgF at e; exact e
    obtain ⟨R1, s1, f1⟩ := R0.store rp e
    exact h _ F H _ R1 s1 f1 set_on
theorem dgs_nil : DGs X T pr [] [] := pgs_imp pgs_nil fun vs σ H Q ⟨F, G, A, ds, G', R0, rp, e, h⟩ => by
  cases ds with
  | nil =>
    have e : some G = some G' := by unfold tgsF at e; exact e
    cases e
    exact ⟨rp.nilE, h σ F H A R0 Step.refl Fr.refl On.refl⟩
  | cons => simp [tgsF] at e
theorem dgs_cons {t : Tg} {ts : List Tg} (h1 : DG X T pr e t) (h2 : DGs X T pr es ts) (hs : (assignEach (e :: es) X.env).map (·.2) = assign e X.env :: (assignEach es X.env).map (·.2) := by rfl) : DGs X T pr (e :: es) (t :: ts) :=
  pgs_imp (pgs_cons h1 h2 hs) fun vs σ H Q ⟨F, G, A, ds, G', R0, rp, e, h⟩ => by
    cases ds with
    | nil => simp [tgsF] at e
    | cons d ds =>
      obtain ⟨v, ws, rfl, r1, r2⟩ := rp.consE
      unfold tgsF at e
      cases e1 : tgF pr t d G with
      | none => simp [e1] at e
      | some G1 =>
        simp only [e1] at e
        refine ⟨v, ws, rfl, F, G, A, d, G1, R0, r1, e1, fun σ1 F1 H1 A1 R1 s1 f1 o1 => ?_⟩
        exact ⟨F1, G1, A1, ds, G', R1, r2.mono s1.f, e, fun σ2 F2 H2 A2 R2 s2 f2 o2 => h σ2 F2 H2 A2 R2 (s1.trans s2) (f1.trans f2) (o1.trans o2)⟩
theorem pg_or {t u : TG} (h1 : PG X e t) (h2 : PG X e u) : PG X e (fun v σ H Q => t v σ H Q ∨ u v σ H Q) := ⟨fun pins s σ H v w Q I r hw => hw.elim (h1.run pins s σ H v w Q I r) (h2.run pins s σ H v w Q I r)⟩
theorem dg_t {k n : Nat} {ts : List Tg} (hK : T.K = X.K) (hc : X.calm = true) (h : DGs X T pr es ts) (hl : ts.length = n := by rfl) (hn : (assignEach es X.env).length = n := by rfl) (hst : (assignEach es X.env).findIdx? (·.1) = none := by rfl) : DG X T pr (.Tuple es k pos) (.t ts) :=
  pg_imp (pg_or (pg_tup hc h hn hst) (pg_unl hc h hn hst)) fun v σ H Q ⟨F, G, A, d, G', R0, rp, e, h⟩ => by
    cases d <;> unfold tgF at e
    case tup ds =>
      obtain ⟨a, xs, rfl, h1, h2⟩ := rp.tupE
      refine .inl ⟨a, xs, rfl, hK ▸ sqT_le R0.sub h1, by rw [h2.length, tgsF_len e, hl], F, G, A, ds, G', R0, h2, e, fun σ' F' H' A' R' s' f' o' => h σ' F' H' A' R' s' f' ?_⟩
      unfold tgL
      exact o'
    case lst ds =>
      obtain ⟨a, xs, rfl, h1, h2⟩ := rp.lstE
      refine .inr ⟨a, xs, rfl, SqL.of (R0.sub _ _ h1), by rw [h2.length, tgsF_len e, hl], F, G, A, ds, G', R0, h2, e, fun σ' F' H' A' R' s' f' o' => h σ' F' H' A' R' s' f' ?_⟩
      unfold tgL
      exact o'
    all_goals cases e

/-! ### statements -/
def MtS (T : Tx) (W : WX) (pr : Bool) (σ : St) (F H : Hp) (A : Ad) (o : Out) (Z : Ends) : Prop := match o with
  | .nx G' => ∀ σ' F' H' A', Rel T F' H' σ' G' A' → Step F H A F' H' A' → Fr pr σ σ' → Z.nx σ' H'
  | .bk G' => ∀ σ' F' H' A', Rel T F' H' σ' G' A' → Step F H A F' H' A' → Fr pr σ σ' → Z.bk σ' H'
  | .ct G' => ∀ σ' F' H' A', Rel T F' H' σ' G' A' → Step F H A F' H' A' → Fr pr σ σ' → Z.ct σ' H'
  | .rt r G' => ∀ σ' F' H' A' v, Rel T F' H' σ' G' A' → Step F H A F' H' A' → Fr pr σ σ' → RepR T F' H' σ' A' v r → Nw H A v r → Z.rt v H'
  | .ex x G' => ∀ σ' F' H' A' cls d, Rel T F' H' σ' G' A' → Step F H A F' H' A' → Fr pr σ σ' → ExR T x cls d F' H' → W cls d σ' H'
  | .st => False
section
variable {σ σ' σ1 : St} {F F1 F2 H H1 H2 : Hp} {A A1 A2 : Ad} {α : Type} {G G1 G' : List Sl} {Z Z' : Ends}
theorem MtS.start {o : Out} (m : MtS T W pr σ F H A o Z) (s : Step F H A F1 H1 A1) (f : Fr pr σ σ1) : MtS T W pr σ1 F1 H1 A1 o Z := by
  cases o with
  | nx G' => exact fun σ' F' H' A' rel st fr => m σ' F' H' A' rel (s.trans st) (f.trans fr)
  | bk G' => exact fun σ' F' H' A' rel st fr => m σ' F' H' A' rel (s.trans st) (f.trans fr)
  | ct G' => exact fun σ' F' H' A' rel st fr => m σ' F' H' A' rel (s.trans st) (f.trans fr)
  | rt r G' => exact fun σ' F' H' A' v rel st fr rp nw => m σ' F' H' A' v rel (s.trans st) (f.trans fr) rp (nw.back s)
  | ex x G' => exact fun σ' F' H' A' cls d rel st fr e => m σ' F' H' A' cls d rel (s.trans st) (f.trans fr) e
  | st => exact m
theorem MtS.out {r : Res α} {k : α → List Sl → Out} (m : MtS T W pr σ F H A (outR r k) Z) : Mt T W σ F H A r fun a G1 _ _ _ => MtS T W pr σ F H A (k a G1) Z := by
  cases r with
  | ok a G' => exact fun _ _ _ _ _ => m
  | ex x G' => exact fun F' H' A' cls d rel st e => m σ F' H' A' cls d rel st Fr.refl e
  | st => exact m
end
def rdS (c : Cf) (T : Tx) (W : WX) (s : S) : TS := fun D σ H => ∃ F G A, Rel T F H σ G A ∧ MtS T W c.pr σ F H A (evS c s G) D
def rdSs (c : Cf) (T : Tx) (W : WX) (s : Ss) : TS := fun D σ H => ∃ F G A, Rel T F H σ G A ∧ MtS T W c.pr σ F H A (evSs c s G) D
abbrev DS (X : Cx) (c : Cf) (T : Tx) (W : WX) (st : Stmt) (s : S) : Prop := PS X st (rdS c T W s)
abbrev DSs (X : Cx) (c : Cf) (T : Tx) (W : WX) (st : List Stmt) (s : Ss) : Prop := PSs X st (rdSs c T W s)
variable {st : Stmt} {rest sa sb : List Stmt} {q : S} {qs qa qb : Ss}
theorem dss_nil : DSs X c T W [] .nil := pss_imp pss_nil fun D σ H ⟨F, G, A, R0, m⟩ => by
  unfold evSs at m
  exact m σ F H A R0 Step.refl Fr.refl
theorem dss_cons (h1 : DS X c T W st q) (h2 : DSs X c T W rest qs) : DSs X c T W (st :: rest) (.cons q qs) := pss_imp (pss_cons h1 h2) fun D σ H ⟨F, G, A, R0, m⟩ => by
  unfold evSs at m
  refine ⟨F, G, A, R0, ?_⟩
  cases h : evS c q G with
  | nx G1 =>
    rw [h] at m
    exact fun σ1 F1 H1 A1 R1 s1 f1 => ⟨F1, G1, A1, R1, m.start s1 f1⟩
  | bk G1 => rw [h] at m; exact m
  | ct G1 => rw [h] at m; exact m
  | rt r G1 => rw [h] at m; exact m
  | ex x G1 => rw [h] at m; exact m
  | st => rw [h] at m; exact m
/-- a statement that gives nothing and goes on (a docstring) -/
theorem ds_doc {w : Str} {j : Nat} {p p' : Pos} : DS X c T W (.Expr (.Constant (.str w) j p) p') .pass := ps_imp ps_doc fun D σ H ⟨F, G, A, R0, m⟩ => by
  unfold evS at m
  exact m σ F H A R0 Step.refl Fr.refl
theorem ds_pass : DS X c T W (.Pass pos) .pass := ps_imp ps_pass fun D σ H ⟨F, G, A, R0, m⟩ => by
  unfold evS at m
  exact m σ F H A R0 Step.refl Fr.refl
theorem ds_brk : DS X c T W (.Break pos) .brk := ps_imp ps_break fun D σ H ⟨F, G, A, R0, m⟩ => by
  unfold evS at m
  exact m σ F H A R0 Step.refl Fr.refl
theorem ds_cnt : DS X c T W (.Continue pos) .cnt := ps_imp ps_continue fun D σ H ⟨F, G, A, R0, m⟩ => by
  unfold evS at m
  exact m σ F H A R0 Step.refl Fr.refl
/-- a statement that is never come to -/
theorem ds_bad : DS X c T W st .bad := ps_imp ps_never fun D σ H ⟨F, G, A, R0, m⟩ => by
  unfold evS at m
  exact m
theorem dss_bad : DSs X c T W rest (.cons .bad .nil) := pss_imp pss_never fun D σ H ⟨F, G, A, R0, m⟩ => by
  unfold evSs evS at m
  exact m
theorem ds_ex (he : DE X c T W e x) (hs : swapsWith e none pos.line X.env = pure false := by rfl) : DS X c T W (.Expr e pos) (.ex x) := ps_imp (ps_expr he hs) fun D σ H ⟨F, G, A, R0, m⟩ => by
  unfold evS at m
  exact ⟨F, G, A, R0, m.out.imp fun x1 G1 F1 H1 A1 R1 s1 m1 v rp nw => m1 σ F1 H1 A1 R1 s1 Fr.refl⟩
theorem ds_ret (he : DE X c T W e x) : DS X c T W (.Return (some e) pos) (.ret x) := ps_imp (ps_ret he) fun D σ H ⟨F, G, A, R0, m⟩ => by
  unfold evS at m
  exact ⟨F, G, A, R0, m.out.imp fun x1 G1 F1 H1 A1 R1 s1 m1 v rp nw => m1 σ F1 H1 A1 v R1 s1 Fr.refl rp nw⟩
theorem ds_retN : DS X c T W (.Return none pos) .retN := ps_imp ps_retN fun D σ H ⟨F, G, A, R0, m⟩ => by
  unfold evS at m
  exact m σ F H A .non R0 Step.refl Fr.refl (.d (Rep.of_flat rfl)) Nw.d
theorem ds_if (hc : DT X c T W e x) (ha : DSs X c T W sa qa) (hb : DSs X c T W sb qb) : DS X c T W (.If e sa sb pos) (.iff x qa qb) := ps_imp (ps_if hc ha hb) fun D σ H ⟨F, G, A, R0, m⟩ => by
  unfold evS at m
  refine ⟨F, G, A, R0, m.out.imp fun k G1 F1 H1 A1 R1 s1 m1 => ?_⟩
  cases k with
  | true => exact ⟨F1, G1, A1, R1, m1.start s1 Fr.refl⟩
  | false => exact ⟨F1, G1, A1, R1, m1.start s1 Fr.refl⟩
/-- the end of an assignment to a name -/
theorem asg_n {σ : St} {F H F1 H1 : Hp} {A A1 : Ad} {G G1 G' : List Sl} {v : V} {r : R} {i : Nat} (hnf : NfOk T c.nf) (R0 : Rel T F H σ G A) (R1 : Rel T F1 H1 σ G1 A1) (s1 : Step F H A F1 H1 A1) (rp : RepR T F1 H1 σ A1 v r) (nw : Nw H A v r) (e : asgF c.nf pr (.n i) r G1 = some G') :
    ∃ F' A', Rel T F' H1 (σ.set i (some v)) G' A' ∧ Step F H A F' H1 A' ∧ Fr pr σ (σ.set i (some v)) := by
  have other : (∀ l, r ≠ .ol l) → ∃ F' A', Rel T F' H1 (σ.set i (some v)) G' A' ∧ Step F H A F' H1 A' ∧ Fr pr σ (σ.set i (some v)) := fun hr => by
    have e : (match fzR c.nf G1 r with
      | some (d, G1) => tgF pr (.n i) d G1
      | none => none) = some G' := by
      cases r with
      | ol l => exact absurd rfl (hr l)
      | d d => exact e
      | al j => exact e
    have rp : RepR T F1 H1 σ A1 v (park r) := by
      cases r with
      | ol l => exact absurd rfl (hr l)
      | d d => exact rp
      | al j => exact rp
    cases e1 : fzR c.nf G1 r with
    | none => simp [e1] at e
    | some p =>
      obtain ⟨d, G2⟩ := p
      simp only [e1] at e
      unfold tgF at e
      obtain ⟨F2, A2, R2, s2, r2, _⟩ := fzR_ok hnf R1 rp e1
      obtain ⟨R3, s3, f3⟩ := R2.store r2 e
      exact ⟨F2, _, R3, (s1.trans s2).trans s3, f3⟩
  cases r with
  | ol l =>
    cases rp with
    | ol h er f n =>
      have e : setS pr G1 i (.ol l) = some G' := e
      obtain ⟨R2, s2, f2⟩ := R0.adopt R1 s1 h er f n (nw l _ rfl rfl) e
      exact ⟨F1, _, R2, s2, f2⟩
  | d d => exact other fun l z => nomatch z
  | al j => exact other fun l z => nomatch z
theorem MtS.nxO {σ : St} {F H : Hp} {A : Ad} {o : Option (List Sl)} {Z : Ends} (m : MtS T W pr σ F H A (outO o) Z) : ∃ G', o = some G' ∧ ∀ σ' F' H' A', Rel T F' H' σ' G' A' → Step F H A F' H' A' → Fr pr σ σ' → Z.nx σ' H' := by
  cases o with
  | none => exact m.elim
  | some G' => exact ⟨G', rfl, m⟩
theorem asg_core {i : Nat} {Z : Ends} {σ : St} {H : Hp} (hnf : NfOk T c.nf) (h : rdS c T W (.asg (.n i) x) Z σ H) : tAsg (rdE c T W x) (gName i) Z σ H := by
  obtain ⟨F, G, A, R0, m⟩ := h
  unfold evS at m
  refine ⟨F, G, A, R0, m.out.imp fun x1 G1 F1 H1 A1 R1 s1 m1 v rp nw => ?_⟩
  obtain ⟨G2, e2, q⟩ := m1.nxO
  obtain ⟨F2, A2, R2, s2, f2⟩ := asg_n hnf R0 R1 s1 rp nw e2
  exact q _ F2 H1 A2 R2 s2 f2
theorem ds_set {i : Nat} {w : Str} {p : Pos} (hnf : NfOk T c.nf) (hN : X.N.Nodup) (hi : X.N[i]? = some w) (hx : Loc X.env.scope w) (hf : X.fn w = true ∨ X.env.scope.names.lookup w = some .local) (he : DE X c T W e x) (hs : swapsWith e (some (.Name w p)) pos.line X.env = pure false := by rfl) :
    DS X c T W (.Assign [.Name w p] e pos) (.asg (.n i) x) := ps_imp (ps_set hN hi hx he hs hf) fun D σ H h => asg_core hnf h
theorem ds_asgT {ts : List Tg} {k : Nat} {p : Pos} (hnf : NfOk T c.nf) (he : DE X c T W e x) (hg : DG X T c.pr (.Tuple es k p) (.t ts)) (hs : swapsWithSole [.Tuple es k p] e pos.line X.env = pure false := by rfl) (hw : swappedStores [.Tuple es k p] e X.env = pure none := by rfl)
    (h1 : (assignEach [.Tuple es k p] X.env).map (·.2) = [assign (.Tuple es k p) X.env] := by rfl) : DS X c T W (.Assign [.Tuple es k p] e pos) (.asg (.t ts) x) := ps_imp (ps_asg he hg hs hw h1) fun D σ H ⟨F, G, A, R0, m⟩ => by
  unfold evS at m
  refine ⟨F, G, A, R0, m.out.imp fun x1 G1 F1 H1 A1 R1 s1 m1 v rp nw => ?_⟩
  obtain ⟨G2, e2, q⟩ := m1.nxO
  obtain ⟨F2, R2, s2, _, rp2⟩ := park_ok R1 s1 rp nw
  have e2 : (match fzR c.nf G1 x1 with
    | some (d, G1) => tgF c.pr (.t ts) d G1
    | none => none) = some G2 := by
    cases x1 <;> exact e2
  cases e3 : fzR c.nf G1 x1 with
  | none => simp [e3] at e2
  | some p =>
    obtain ⟨d, G3⟩ := p
    simp only [e3] at e2
    obtain ⟨F3, A3, R3, s3, r3, _⟩ := fzR_ok hnf R2 rp2 e3
    exact ⟨F3, G3, A3, d, G2, R3, r3, e2, fun σ' F' H' A' R' s' f' o' => q σ' F' H' A' R' ((s2.trans s3).trans s') f'⟩
theorem ds_par {i j : Nat} {w u : Str} {px py pt : Pos} {kt k2 : Nat} {pt2 : Pos} (hnf : NfOk T c.nf) (hc : X.calm = true) (hN : X.N.Nodup) (hi : X.N[i]? = some w) (hj : X.N[j]? = some u) (hij : i ≠ j) (hx : X.env.scope.names.lookup w = some .local) (hy : X.env.scope.names.lookup u = some .local)
    (ha : DA X c T W [a, b] (.cons x (.cons y .nil))) (hw : swappedStores [.Tuple [.Name w px, .Name u py] kt pt] (.Tuple [a, b] k2 pt2) X.env = pure (some [w, u]))
    (hs : swapsWithSole [.Tuple [.Name w px, .Name u py] kt pt] (.Tuple [a, b] k2 pt2) pos.line X.env = pure false := by rfl) : DS X c T W (.Assign [.Tuple [.Name w px, .Name u py] kt pt] (.Tuple [a, b] k2 pt2) pos) (.par i j x y) :=
  ps_imp (ps_par hc hN hi hj hij hx hy ha hw hs) fun D σ H ⟨F, G, A, R0, m⟩ => by
  unfold evS at m
  refine ⟨F, G, A, R0, m.out.imp fun rs G1 F1 H1 A1 R1 s1 m1 vs rp => ?_⟩
  cases e1 : fzAll c.nf G1 rs with
  | none => simp [e1, MtS] at m1
  | some p =>
    obtain ⟨ds, G2⟩ := p
    obtain ⟨F2, A2, R2, s2, r2, _⟩ := fzAll_ok hnf R1 rp e1
    match ds, r2, e1 with
    | [d1, d2], r2, e1 =>
      simp only [e1] at m1
      obtain ⟨v, ws, rfl, r3, r4⟩ := r2.consE
      obtain ⟨u1, ws, rfl, r5, r6⟩ := r4.consE
      cases r6
      cases e3 : setS c.pr G2 i (.fz d1) with
      | none => simp [e3, MtS] at m1
      | some G3 =>
        simp only [e3] at m1
        obtain ⟨G4, e4, q⟩ := m1.nxO
        obtain ⟨R3, s3, f3⟩ := R2.store r3 e3
        obtain ⟨R4, s4, f4⟩ := R3.store r5 e4
        exact ⟨v, u1, rfl, q _ F2 H1 _ R4 (((s1.trans s2).trans s3).trans s4) (f3.trans f4)⟩
    | [], _, e1 => simp [e1, MtS] at m1
    | [_], _, e1 => simp [e1, MtS] at m1
    | _ :: _ :: _ :: _, _, e1 => simp [e1, MtS] at m1
theorem ds_six {i : Nat} {w : Str} {p p2 : Pos} (hnf : NfOk T c.nf) (hN : X.N[i]? = some w) (hv : Vis X.env.scope w) (he : DE X c T W e x) (hb : DE X c T W b y) (hd : (w == ("__debug__" : Str)) = false := by decide) (hcd : (w == ("__classdict__" : Str)) = false := by decide)
    (ha : ∀ v, assign (.Subscript (.Name w p) b p2) X.env v = (do
      let ov ← holding [v] (eval (.Name w p) X.env)
      let iv ← holding [v, ov] (eval b X.env)
      standAt p2
      holding [v, ov, iv] (setItem ov iv v)
      release [v, ov, iv] []) := by intro _; rfl)
    (hs : swapsWithSole [.Subscript (.Name w p) b p2] e pos.line X.env = pure false := by rfl) (hw : swappedStores [.Subscript (.Name w p) b p2] e X.env = pure none := by rfl)
    (h1 : (assignEach [.Subscript (.Name w p) b p2] X.env).map (·.2) = [assign (.Subscript (.Name w p) b p2) X.env] := by rfl) : DS X c T W (.Assign [.Subscript (.Name w p) b p2] e pos) (.six i y x) :=
  ps_imp (ps_asg he (pg_sub (pe_var (i := i) hN hv hd hcd) hb set_list ha) hs hw h1) fun Z σ H ⟨F, G, A, R0, m⟩ => by
  unfold evS at m
  refine ⟨F, G, A, R0, m.out.imp fun x1 G1 F1 H1 A1 R1 s1 m1 v rp nw => ?_⟩
  obtain ⟨F2, R2, s2, _, rp2⟩ := park_ok R1 s1 rp nw
  cases e3 : fzR c.nf G1 x1 with
  | none => simp [e3, MtS] at m1
  | some q =>
    obtain ⟨d, G3⟩ := q
    simp only [e3] at m1
    obtain ⟨F3, A3, R3, s3, r3, _⟩ := fzR_ok hnf R2 rp2 e3
    cases e4 : G3[i]? with
    | none => simp [e4, MtS] at m1
    | some s4 =>
      cases s4 <;> simp only [e4] at m1
      case ol l0 =>
        obtain ⟨a, xs, q1, q2, q3, q4, _⟩ := R3.mut e4
        have st := s2.trans s3
        refine ⟨_, q2, F3, G3, A3, R3, (m1.start st Fr.refl).out.imp fun y1 G4 F4 H4 A4 R4 s4 m4 iv rpi nwi => ?_⟩
        cases e5 : G4[i]? with
        | none => simp [e5, MtS] at m4
        | some s5 =>
          cases s5 <;> simp only [e5] at m4
          case ol l1 =>
            cases e6 : pk G4 (park y1) with
            | none => simp [e6, MtS] at m4
            | some di =>
              cases di <;> simp only [e6] at m4
              case int k =>
                cases e7 : L2.ixN l1.length k with
                | none => simp [e7, MtS] at m4
                | some j =>
                  simp only [e7] at m4
                  obtain ⟨a', ys, t1, t2, t3, t4, t5⟩ := R4.mut e5
                  rw [q2] at t2
                  cases t2
                  obtain ⟨R5, s5⟩ := t5 (ys.set j v) (l1.set j d) (t4.set (r3.mono s4.f) j)
                  refine ⟨_, ys, k, j, rfl, (R4.view rpi (by rw [pk_park] at e6; exact e6)).intE, t3, by rw [t4.length]; exact e7, ?_⟩
                  exact m4 σ F4 _ A4 R5 (s4.trans s5) Fr.refl
              all_goals exact m4.elim
          all_goals exact m4.elim
      all_goals exact m1.elim
end
end Mp

/-! Mp12: loops, comprehensions. -/
namespace Mp
open PySem L2

/-! ### what is gone over -/
/-- J gives ds, one after another, whatever happens meanwhile -/
def SrcOk (T : Tx) (J : L2.It) (F H : Hp) (A : Ad) (ds : List D) : Prop := ∀ (i : Nat) (F' H' : Hp) (σ' : St) (G' : List Sl) (A' : Ad), Rel T F' H' σ' G' A' → Step F H A F' H' A' →
  (i < ds.length → J.go i H') ∧ (ds.length ≤ i → J.stop i H') ∧ ∀ x H2, J.yld i H' x H2 → i < ds.length → ∃ d F2, ds[i]? = some d ∧ Rel T F2 H2 σ' G' A' ∧ Step F' H' A' F2 H2 A' ∧ Rep T F2 x d
section
variable {T : Tx} {W : WX} {σ σ' σ1 σ2 : St} {F F' F0 F1 F2 H H0 H1 H2 H' : Hp} {A A' A0 A1 A2 : Ad} {α β : Type} {G G1 G' : List Sl} {v : V} {r : R} {i : Nat} {pr : Bool} {ds es : List D} {xs ys : List V} {a b : Addr}
theorem src_l (h : ∀ F' H' A', Le F' H' → Step F H A F' H' A' → SqL T.K H' a xs) (e : Reps T F xs ds) : SrcOk T (Itl T.K a) F H A ds := fun i F' H' σ' G' A' R1 s1 => by
  have q := h F' H' A' R1.sub s1
  refine ⟨fun hi => ⟨xs, xs[i]'(by rw [e.length]; exact hi), q, by simp [e.length, hi]⟩, fun hi => ⟨xs, q, by rw [e.length]; exact hi⟩, fun x H2 y hi => ?_⟩
  obtain ⟨rfl, y⟩ := y
  obtain ⟨d, h1, h2⟩ := e.getL (y xs q)
  exact ⟨d, F', h1, R1, Step.refl, h2.mono s1.f⟩
theorem src_t (h : ∀ F' H' A', Le F' H' → Step F H A F' H' A' → SqT T.K H' a xs) (e : Reps T F xs ds) : SrcOk T (Itt T.K a) F H A ds := fun i F' H' σ' G' A' R1 s1 => by
  have q := h F' H' A' R1.sub s1
  refine ⟨fun hi => ⟨xs, xs[i]'(by rw [e.length]; exact hi), q, by simp [e.length, hi]⟩, fun hi => ⟨xs, q, by rw [e.length]; exact hi⟩, fun x H2 y hi => ?_⟩
  obtain ⟨rfl, y⟩ := y
  obtain ⟨d, h1, h2⟩ := e.getL (y xs q)
  exact ⟨d, F', h1, R1, Step.refl, h2.mono s1.f⟩
theorem rgD_len {lo : Int} {n : Nat} : (rgD lo n).length = n := by simp [rgD]
theorem src_r {lo : Int} {n : Nat} : SrcOk T (Itr lo n) F H A (rgD lo n) := fun i F' H' σ' G' A' R1 s1 => by
  rw [rgD_len]
  refine ⟨fun hi => hi, fun hi => hi, fun x H2 y hi => ?_⟩
  obtain ⟨rfl, rfl⟩ := y
  exact ⟨.int (lo + i), F', by simp [rgD, hi], R1, Step.refl, Rep.of_flat rfl⟩
theorem numbered_get : ∀ {l : List D} {k i : Nat}, (numbered k l)[i]? = (l[i]?).map fun d => .tup [.int ((k + i : Nat) : Int), d]
  | [], k, i => by simp [numbered]
  | d :: l, k, 0 => by simp [numbered]
  | d :: l, k, i + 1 => by
    simp only [numbered, List.getElem?_cons_succ]
    rw [numbered_get]
    congr 2
    funext d
    rw [show k + 1 + i = k + (i + 1) by omega]
theorem numbered_len : ∀ {l : List D} {k : Nat}, (numbered k l).length = l.length
  | [], _ => rfl
  | d :: l, k => by simp [numbered, numbered_len]
theorem src_e (h : ∀ F' H' A', Le F' H' → Step F H A F' H' A' → SqL T.K H' a xs) (e : Reps T F xs ds) : SrcOk T (Ite T.K a) F H A (numbered 0 ds) := fun i F' H' σ' G' A' R1 s1 => by
  have q := h F' H' A' R1.sub s1
  rw [numbered_len]
  refine ⟨fun hi => ⟨xs, xs[i]'(by rw [e.length]; exact hi), q, by simp [e.length, hi]⟩, fun hi => ⟨xs, q, by rw [e.length]; exact hi⟩, fun x H2 y hi => ?_⟩
  obtain ⟨p, y, rfl, hp, rfl, hy⟩ := y
  obtain ⟨d, h1, h2⟩ := e.getL (hy xs q)
  obtain ⟨R2, s2⟩ := R1.laidF (o := .tup [.int (i : Nat), y]) hp
  refine ⟨.tup [.int (i : Nat), d], _, by rw [numbered_get, h1]; simp, R2, s2, Rep.mk_tup (SqT.of upd_same) (.cons (Rep.of_flat rfl) (.cons ((h2.mono s1.f).mono s2.f) .nil))⟩
theorem paired_len : ∀ {l m : List D}, (paired l m).length = min l.length m.length
  | [], m => by simp [paired]
  | d :: l, [] => by simp [paired]
  | d :: l, e :: m => by simp [paired, paired_len]
theorem paired_get : ∀ {l m : List D} {i : Nat} {d e : D}, l[i]? = some d → m[i]? = some e → (paired l m)[i]? = some (.tup [d, e])
  | [], m, i, d, e, h, _ => by simp at h
  | d0 :: l, [], i, d, e, _, h => by simp at h
  | d0 :: l, e0 :: m, 0, d, e, h1, h2 => by simp at h1 h2; subst h1 h2; simp [paired]
  | d0 :: l, e0 :: m, i + 1, d, e, h1, h2 => by
    simp only [paired, List.getElem?_cons_succ] at h1 h2 ⊢
    exact paired_get h1 h2
theorem src_z (h : ∀ F' H' A', Le F' H' → Step F H A F' H' A' → SqL T.K H' a xs) (e : Reps T F xs ds) (h2 : ∀ F' H' A', Le F' H' → Step F H A F' H' A' → SqL T.K H' b ys) (e2 : Reps T F ys es) : SrcOk T (Itz T.K a b) F H A (paired ds es) := fun i F' H' σ' G' A' R1 s1 => by
  have q := h F' H' A' R1.sub s1
  have q2 := h2 F' H' A' R1.sub s1
  rw [paired_len]
  refine ⟨fun hi => ⟨xs, ys, xs[i]'(by rw [e.length]; omega), ys[i]'(by rw [e2.length]; omega), q, q2, by simp, by simp⟩, fun hi => ⟨xs, ys, q, q2, by rw [e.length, e2.length]; omega⟩, fun x H2 y hi => ?_⟩
  obtain ⟨p, y, z, rfl, hp, rfl, hy, hz⟩ := y
  obtain ⟨d, h1, h3⟩ := e.getL (hy xs q)
  obtain ⟨d', h4, h5⟩ := e2.getL (hz ys q2)
  obtain ⟨R2, s2⟩ := R1.laidF (o := .tup [y, z]) hp
  refine ⟨.tup [d, d'], _, paired_get h1 h4, R2, s2, Rep.mk_tup (SqT.of upd_same) (.cons ((h3.mono s1.f).mono s2.f) (.cons ((h5.mono s1.f).mono s2.f) .nil))⟩
/-- a value that is a list to go over -/
theorem itL_ok (R1 : Rel T F H σ G A) (rp : RepR T F H σ A v r) (e : itL G r = some (ds, G')) :
    ∃ F' A' a xs, v = .ref a ∧ Rel T F' H σ G' A' ∧ Step F H A F' H A' ∧ Reps T F' xs ds ∧ ∀ F2 H2 A2, Le F2 H2 → Step F' H A' F2 H2 A2 → SqL T.K H2 a xs := by
  cases rp with
  | d h =>
    rename_i d
    cases d <;> simp [itL] at e
    obtain ⟨rfl, rfl⟩ := e
    obtain ⟨a, xs, rfl, h1, h2⟩ := h.lstE
    exact ⟨F, A, a, xs, rfl, R1, Step.refl, h2, fun F2 H2 A2 le s => SqL.of (le _ _ (s.f _ _ h1))⟩
  | ol h r f n =>
    simp [itL] at e
    obtain ⟨rfl, rfl⟩ := e
    exact ⟨F, A, _, _, rfl, R1, Step.refl, r, fun F2 H2 A2 le s => SqL.of (s.h _ _ h n)⟩
  | al hv =>
    rename_i i
    dsimp only [itL] at e
    cases hg : G[i]? with
    | none => simp [hg] at e
    | some s =>
      have q := R1.sl i s hg
      have hi := get_lt hg
      rw [hv] at q
      rw [hg] at e
      clear hg
      revert q
      generalize hai : A i = ai
      intro q
      cases q with
      | no => simp at e
      | fz h => simp at e
      | ol h rr =>
        simp at e
        obtain ⟨rfl, rfl⟩ := e
        rename_i l0 xs0 _
        have le := le_upd (o := .lst xs0) (R1.fr i _ hai)
        obtain ⟨R2, s2⟩ := R1.freeze hi hai h hv (Rep.mk_lst upd_same (rr.mono le))
        exact ⟨_, _, _, xs0, rfl, R2, s2, rr.mono le, fun F2 H2 A2 le s => SqL.of (le _ _ (s.f _ _ upd_same))⟩
      | bw h rr n =>
        simp at e
        obtain ⟨rfl, rfl⟩ := e
        exact ⟨F, A, _, _, rfl, R1, Step.refl, rr, fun F2 H2 A2 le s => SqL.of (s.h _ _ h n.2)⟩
      | oi h n m rr => simp at e
      | sc h rr =>
        simp at e
        obtain ⟨rfl, rfl⟩ := e
        refine ⟨F, A, _, _, rfl, R1, Step.refl, rr, fun F2 H2 A2 le s => ?_⟩
        rcases h with ⟨h, n⟩ | h
        · rcases h with h | ⟨o, h⟩
          · exact .inl (.inl (s.h _ _ h n.2))
          · exact .inl (.inr ⟨o, s.h _ _ h n.2⟩)
        · exact sqL_le (fun _ o z => absurd (show (none : Option HO) = some o from z) (fun q => nomatch q)) h
end

def rdI (c : Cf) (T : Tx) (W : WX) (t : It) : TI := fun σ H Rr => ∃ F G A, Rel T F H σ G A ∧ Mt T W σ F H A (evIt c t G) fun ds _ F' H' A' => ∀ J, SrcOk T J F' H' A' ds → Rr J H'
abbrev DI (X : Cx) (c : Cf) (T : Tx) (W : WX) (tg x : Expr) (t : It) : Prop := PI X tg x (rdI c T W t)
theorem pi_imp {X : Cx} {tg e : Expr} {t t' : TI} (h : PI X tg e t) (i : ∀ σ H Q, t' σ H Q → t σ H Q) : PI X tg e t' := ⟨fun pins s σ H R I hq => h.run pins s σ H R I (i σ H R hq)⟩
/-- a list or a tuple -/
def iSq (K : PySem.W.Frag) (tl : TE) : TI := fun σ H R => tl σ H fun x H1 => ∃ a, x = .ref a ∧ ((∃ xs, SqL K H1 a xs) ∧ R (Itl K a) H1 ∨ (∃ xs, SqT K H1 a xs) ∧ R (Itt K a) H1)
theorem pi_sq {X : Cx} {tg l : Expr} {tl : TE} (hl : PE X l tl) : PI X tg l (iSq X.K tl) := by
  refine ⟨fun pins s σ H R I h => thn (hl.run pins s σ H _ I h) fun v s1 ⟨x, H1, I1, r1, a, e, q⟩ => ?_⟩
  subst e
  cases r1
  have fp : ∀ b ∈ [s1.heap.objs.size], FpOk X pins H1 b := fun b hb => by
    rw [List.mem_singleton.mp hb]
    exact I1.fpOk (Nat.le_refl _) (I1.hok.fresh (Nat.le_refl _))
  rcases q with ⟨⟨xs, hq⟩, q⟩ | ⟨⟨xs, hq⟩, q⟩
  · obtain ⟨its, _, p, _⟩ := I1.list hq
    exact wpAny_pyIter_list p.isList ⟨_, _, _, _, H1, rfl, I1.kept (t' := s1.toks) fun b o e => Heap.get?_push_of_some _ e, turn_list a _, ⟨_, Heap.get?_push_size _ rfl, rfl, rfl⟩, fp, q⟩
  · obtain ⟨its, _, p, _⟩ := I1.tuple hq
    exact wpAny_pyIter_tuple (show s1.heap.IsTuple a its.toArray from p) ⟨_, _, _, _, H1, rfl, I1.kept (t' := s1.toks) fun b o e => Heap.get?_push_of_some _ e, turn_tuple a _, ⟨_, Heap.get?_push_size _ rfl, rfl, rfl⟩, fp, q⟩
section
variable {X : Cx} {c : Cf} {T : Tx} {W : WX} {a b d o e tg : Expr} {x y z : E} {l : Es} {es : List Expr} {pos p : Pos} {pr : Bool}
theorem di_e (hK : T.K = X.K) (he : DE X c T W e x) : DI X c T W tg e (.e x) := pi_imp (pi_sq he) fun σ H Q ⟨F, G, A, R0, m⟩ => by
  unfold evIt at m
  refine ⟨F, G, A, R0, m.bind.imp fun x1 G1 F1 H1 A1 R1 s1 m1 v rp nw => ?_⟩
  cases h1 : itL G1 x1 with
  | some q =>
    obtain ⟨ds, G2⟩ := q
    simp only [h1] at m1
    obtain ⟨F2, A2, a, xs, rfl, R2, s2, r2, q⟩ := itL_ok R1 rp h1
    refine ⟨a, rfl, .inl ⟨⟨xs, hK ▸ q F2 H1 A2 R2.sub Step.refl⟩, ?_⟩⟩
    rw [← hK]
    exact m1 F2 H1 A2 R2 (s1.trans s2) _ (src_l q r2)
  | none =>
    simp only [h1] at m1
    obtain ⟨ds, h2, q⟩ := m1.okE
    cases x1 with
    | ol l => simp [itT] at h2
    | al i => simp [itT] at h2
    | d d =>
      cases d <;> simp [itT] at h2
      subst h2
      cases rp with
      | d h =>
        obtain ⟨a, xs, rfl, h3, h4⟩ := h.tupE
        refine ⟨a, rfl, .inr ⟨⟨xs, hK ▸ sqT_le R1.sub h3⟩, ?_⟩⟩
        rw [← hK]
        exact q F1 H1 A1 R1 s1 _ (src_t (fun F' H' A' le s => sqT_le le (sqT_le s.f h3)) h4)
theorem Vws.int1 {F H : Hp} {xs : List V} {n : Int} (h : Vws T F H xs [.int n]) : xs = [.int n] := by
  obtain ⟨v, rfl, q⟩ := h.one
  rw [q.intE]
theorem Vws.int2 {F H : Hp} {xs : List V} {m n : Int} (h : Vws T F H xs [.int m, .int n]) : xs = [.int m, .int n] := by
  obtain ⟨v, w, rfl, q, r⟩ := h.two
  rw [q.intE, r.intE]
theorem di_rg1 (hg : Gl X "range") (hm : X.mg "range" = none) (ha : DA X c T W [a] l) (hs : starEach [a] X.env = [(false, eval a X.env)] := by rfl) : DI X c T W tg (.Call (.Name "range" p) [a] [] pos) (.rg1 l) := pi_imp (pi_range1 hg hm ha hs) fun σ H Q ⟨F, G, A, R0, m⟩ => by
  unfold evIt at m
  refine ⟨F, G, A, R0, m.bind.imp fun rs G1 F1 H1 A1 R1 s1 m1 vs rp => ?_⟩
  split at m1
  · rename_i n h1
    split at m1
    · rename_i hb
      rw [(pkAll_ok R1 rp h1).int1]
      exact ⟨n, rfl, hb.1, hb.2, m1 F1 H1 A1 R1 s1 _ src_r⟩
    · exact m1.elim
  · exact m1.elim
theorem di_rg2 (hg : Gl X "range") (hm : X.mg "range" = none) (ha : DA X c T W [a, b] l) (hs : starEach [a, b] X.env = [(false, eval a X.env), (false, eval b X.env)] := by rfl) (hs2 : starEach [b] X.env = [(false, eval b X.env)] := by rfl) : DI X c T W tg (.Call (.Name "range" p) [a, b] [] pos) (.rg2 l) :=
  pi_imp (pi_range2 hg hm ha hs hs2) fun σ H Q ⟨F, G, A, R0, m⟩ => by
  unfold evIt at m
  refine ⟨F, G, A, R0, m.bind.imp fun rs G1 F1 H1 A1 R1 s1 m1 vs rp => ?_⟩
  split at m1
  · rename_i k n h1
    split at m1
    · rename_i hb
      rw [(pkAll_ok R1 rp h1).int2]
      exact ⟨k, n, rfl, hb, m1 F1 H1 A1 R1 s1 _ src_r⟩
    · exact m1.elim
  · exact m1.elim
theorem di_en {elts : List Expr} {kk : Nat} {tpos : Pos} (hK : T.K = X.K) (hg : Gl X "enumerate") (hm : X.mg "enumerate" = none) (ha : DA X c T W [e] l) (hs : starEach [e] X.env = [(false, eval e X.env)] := by rfl) : DI X c T W (.Tuple elts kk tpos) (.Call (.Name "enumerate" p) [e] [] pos) (.en l) :=
  pi_imp (pi_enum hg hm ha hs) fun σ H Q ⟨F, G, A, R0, m⟩ => by
  unfold evIt at m
  refine ⟨F, G, A, R0, m.bind.imp fun rs G1 F1 H1 A1 R1 s1 m1 vs rp => ?_⟩
  split at m1
  · rename_i r
    cases rp with
    | cons h t =>
      cases t
      cases h1 : itL G1 (park r) with
      | none => simp [h1, Mt] at m1
      | some q =>
        obtain ⟨ds, G2⟩ := q
        simp only [h1] at m1
        obtain ⟨F2, A2, a, xs, rfl, R2, s2, r2, q⟩ := itL_ok R1 h h1
        refine ⟨a, xs, rfl, hK ▸ q F2 H1 A2 R2.sub Step.refl, ?_⟩
        rw [← hK]
        exact m1 F2 H1 A2 R2 (s1.trans s2) _ (src_e q r2)
  · exact m1.elim
theorem di_zp {elts : List Expr} {kk : Nat} {tpos : Pos} (hK : T.K = X.K) (hg : Gl X "zip") (hm : X.mg "zip" = none) (ha : DA X c T W [a, b] l)
    (hs : starEach [a, b] X.env = (false, eval a X.env) :: starEach [b] X.env := by rfl) (hpl : (backTo pos (starEach [b] X.env)).any (·.1) = false := by rfl) : DI X c T W (.Tuple elts kk tpos) (.Call (.Name "zip" p) [a, b] [] pos) (.zp l) :=
  pi_imp (pi_zip hg hm ha hs hpl) fun σ H Q ⟨F, G, A, R0, m⟩ => by
  unfold evIt at m
  refine ⟨F, G, A, R0, m.bind.imp fun rs G1 F1 H1 A1 R1 s1 m1 vs rp => ?_⟩
  split at m1
  · rename_i r r'
    cases rp with
    | cons h t =>
      cases t with
      | cons h' t =>
        cases t
        cases h1 : itL G1 (park r) with
        | none => simp [h1, Mt] at m1
        | some q =>
          obtain ⟨ds, G2⟩ := q
          simp only [h1] at m1
          obtain ⟨F2, A2, a, xs, rfl, R2, s2, r2, q⟩ := itL_ok R1 h h1
          cases h2 : itL G2 (park r') with
          | none => simp [h2, Mt] at m1
          | some q' =>
            obtain ⟨es, G3⟩ := q'
            simp only [h2] at m1
            obtain ⟨F3, A3, b, ys, rfl, R3, s3, r3, q'⟩ := itL_ok R2 (h'.step s2) h2
            refine ⟨a, b, xs, ys, rfl, hK ▸ q F2 H1 A2 R2.sub Step.refl, hK ▸ q' F3 H1 A3 R3.sub Step.refl, ?_⟩
            rw [← hK]
            exact m1 F3 H1 A3 R3 ((s1.trans s2).trans s3) _ (src_z (fun F' H' A' le s => q F' H' A' le (s3.trans s)) (r2.mono s3.f) q' r3)
  · exact m1.elim

/-! ### while -/
variable {sb : List Stmt} {qb : Ss}
theorem ds_while (hp : PassesOwn (model X.prog X.w) X.A X.env X.xe) (hc : DT X c T W e x) (hb : DSs X c T W sb qb) : DS X c T W (.While e sb [] pos) (.whl x qb) := ps_imp (ps_while hp hc hb) fun Z σ H ⟨F, G, A, R0, m⟩ => by
  unfold evS at m
  refine ⟨fun k σ1 H1 => ∃ F1 G1 A1, Rel T F1 H1 σ1 G1 A1 ∧ Fr c.pr σ σ1 ∧ Step F H A F1 H1 A1 ∧ MtS T W c.pr σ F H A (whlF (evT c x) (evSs c qb) k G1) Z, ⟨c.w, F, G, A, R0, Fr.refl, Step.refl, m⟩, ?_⟩
  rintro k σ1 H1 ⟨F1, G1, A1, R1, f1, s1, m1⟩
  cases k with
  | zero => exact m1.elim
  | succ k =>
    unfold whlF at m1
    refine ⟨F1, G1, A1, R1, ?_⟩
    cases h : evT c x G1 with
    | st => rw [h] at m1; exact m1.elim
    | ex x1 G2 =>
      rw [h] at m1
      exact fun F2 H2 A2 cls d R2 s2 e2 => m1 σ1 F2 H2 A2 cls d R2 (s1.trans s2) f1 e2
    | ok t G2 =>
      rw [h] at m1
      intro F2 H2 A2 R2 s2
      cases t with
      | false => exact m1 σ1 F2 H2 A2 R2 (s1.trans s2) f1
      | true =>
        refine ⟨fun σ3 H3 => ∃ F1 G1 A1, Rel T F1 H3 σ3 G1 A1 ∧ Fr c.pr σ σ3 ∧ Step F H A F1 H3 A1 ∧ MtS T W c.pr σ F H A (whlF (evT c x) (evSs c qb) k G1) Z, fun σ' H' q => ⟨k, Nat.lt_succ_self _, q⟩, F2, G2, A2, R2, ?_⟩
        simp only at m1
        cases h3 : evSs c qb G2 with
        | st => rw [h3] at m1; exact m1.elim
        | nx G3 => rw [h3] at m1; exact fun σ3 F3 H3 A3 R3 s3 f3 => ⟨F3, G3, A3, R3, f1.trans f3, (s1.trans s2).trans s3, m1⟩
        | ct G3 => rw [h3] at m1; exact fun σ3 F3 H3 A3 R3 s3 f3 => ⟨F3, G3, A3, R3, f1.trans f3, (s1.trans s2).trans s3, m1⟩
        | bk G3 => rw [h3] at m1; exact fun σ3 F3 H3 A3 R3 s3 f3 => m1 σ3 F3 H3 A3 R3 ((s1.trans s2).trans s3) (f1.trans f3)
        | rt r G3 => rw [h3] at m1; exact fun σ3 F3 H3 A3 v R3 s3 f3 rp nw => m1 σ3 F3 H3 A3 v R3 ((s1.trans s2).trans s3) (f1.trans f3) rp (nw.back (s1.trans s2))
        | ex x1 G3 => rw [h3] at m1; exact fun σ3 F3 H3 A3 cls d R3 s3 f3 e3 => m1 σ3 F3 H3 A3 cls d R3 ((s1.trans s2).trans s3) (f1.trans f3) e3

/-! ### for -/
theorem drop_get {α : Type} {l : List α} {i : Nat} {d : α} (h : l[i]? = some d) : l.drop i = d :: l.drop (i + 1) := by
  obtain ⟨hi, rfl⟩ := List.getElem?_eq_some_iff.mp h
  exact List.drop_eq_getElem_cons hi
theorem ds_for {t : Tg} {it : It} (hp : PassesOwn (model X.prog X.w) X.A X.env X.xe) (hc : X.calm = true) (hi : DI X c T W tg e it) (hg : DG X T c.pr tg t) (hb : DSs X c T W sb qb) (hs : ∀ x, foldedSetIterable e X.env x = pure x := by intro _; rfl) :
    DS X c T W (.For tg e sb [] pos) (.for t it qb) := ps_imp (ps_for hp hc hi hg hb hs) fun Z σ H ⟨F, G, A, R0, m⟩ => by
  unfold evS at m
  refine ⟨F, G, A, R0, m.out.imp fun ds G1 F1 H1 A1 R1 s1 m1 J src => ?_⟩
  generalize hf : (fun (d : Mp.D) (G2 : List Sl) => match tgF c.pr t d G2 with
    | some G3 => evSs c qb G3
    | none => Out.st) = f at m1
  refine ⟨fun i k σ2 H2 => ∃ F2 G2 A2, Rel T F2 H2 σ2 G2 A2 ∧ Fr c.pr σ σ2 ∧ Step F1 H1 A1 F2 H2 A2 ∧ k = ds.length - i ∧ i ≤ ds.length ∧ MtS T W c.pr σ F H A (forF f (ds.drop i) G2) Z,
    ⟨ds.length, F1, G1, A1, R1, Fr.refl, Step.refl, rfl, Nat.zero_le _, m1⟩, ?_⟩
  rintro i k σ2 H2 ⟨F2, G2, A2, R2, f2, s2, rfl, hle, m2⟩
  obtain ⟨g1, g2, g3⟩ := src i F2 H2 σ2 G2 A2 R2 s2
  by_cases hlt : i < ds.length
  · refine .inr ⟨g1 hlt, fun σ3 H3 => ∃ F3 G3 A3, Rel T F3 H3 σ3 G3 A3 ∧ Fr c.pr σ σ3 ∧ Step F1 H1 A1 F3 H3 A3 ∧ MtS T W c.pr σ F H A (forF f (ds.drop (i + 1)) G3) Z,
      fun σ3 H3 ⟨F3, G3, A3, q1, q2, q3, q4⟩ => ⟨ds.length - (i + 1), by omega, F3, G3, A3, q1, q2, q3, rfl, hlt, q4⟩, fun v H3 y => ?_⟩
    obtain ⟨d, F3, hd, R3, s3, rp⟩ := g3 v H3 y hlt
    rw [drop_get hd] at m2
    unfold forF at m2
    rw [← hf] at m2
    simp only at m2
    rw [hf] at m2
    cases h4 : tgF c.pr t d G2 with
    | none => simp [h4, MtS] at m2
    | some G4 =>
      simp only [h4] at m2
      refine ⟨F3, G2, A2, d, G4, R3, rp, h4, fun σ4 F4 H4 A4 R4 s4 f4 _ => ⟨F4, G4, A4, R4, ?_⟩⟩
      have s04 := (s2.trans s3).trans s4
      have f04 := f2.trans f4
      cases h5 : evSs c qb G4 with
      | st => rw [h5] at m2; exact m2.elim
      | nx G5 => rw [h5] at m2; exact fun σ5 F5 H5 A5 R5 s5 f5 => ⟨F5, G5, A5, R5, f04.trans f5, s04.trans s5, m2⟩
      | ct G5 => rw [h5] at m2; exact fun σ5 F5 H5 A5 R5 s5 f5 => ⟨F5, G5, A5, R5, f04.trans f5, s04.trans s5, m2⟩
      | bk G5 => rw [h5] at m2; exact fun σ5 F5 H5 A5 R5 s5 f5 => m2 σ5 F5 H5 A5 R5 (s1.trans (s04.trans s5)) (f04.trans f5)
      | rt r G5 => rw [h5] at m2; exact fun σ5 F5 H5 A5 v R5 s5 f5 rp nw => m2 σ5 F5 H5 A5 v R5 (s1.trans (s04.trans s5)) (f04.trans f5) rp (nw.back (s1.trans s04))
      | ex x1 G5 => rw [h5] at m2; exact fun σ5 F5 H5 A5 cls d R5 s5 f5 e5 => m2 σ5 F5 H5 A5 cls d R5 (s1.trans (s04.trans s5)) (f04.trans f5) e5
  · have he : i = ds.length := by omega
    subst he
    rw [List.drop_length] at m2
    exact .inl ⟨g2 (Nat.le_refl _), m2 σ2 F2 H2 A2 R2 (s1.trans s2) f2⟩
end
end Mp

/-! Mp13: comprehensions. -/
namespace Mp
open PySem L2

section
variable {T : Tx} {W : WX} {σ σ' σ1 σ2 : St} {F F' F0 F1 F2 H H0 H1 H2 H' : Hp} {A A' A0 A1 A2 : Ad} {G G0 G1 G' : List Sl} {i : Nat} {vs : List Nat} {a : Addr}
theorem wipe_get : ∀ {vs : List Nat} {j : Nat}, (wipe σ vs)[j]? = if j ∈ vs then (σ[j]?).map (fun _ => none) else σ[j]?
  | [], j => by simp [wipe]
  | v :: vs, j => by
    unfold wipe
    by_cases h : v = j
    · subst h
      rw [if_pos List.mem_cons_self, List.getElem?_set_self', wipe_get]
      split <;> cases σ[v]? <;> rfl
    · rw [List.getElem?_set_ne h, wipe_get]
      have : (j ∈ v :: vs) ↔ j ∈ vs := by simp [Ne.symm h]
      simp only [this]
theorem wipeG_get : ∀ {vs : List Nat} {j : Nat}, (wipeG G vs)[j]? = if j ∈ vs then (G[j]?).map (fun _ => Sl.no) else G[j]?
  | [], j => by simp [wipeG]
  | v :: vs, j => by
    unfold wipeG
    by_cases h : v = j
    · subst h
      rw [if_pos List.mem_cons_self, List.getElem?_set_self', wipeG_get]
      split <;> cases G[v]? <;> rfl
    · rw [List.getElem?_set_ne h, wipeG_get]
      have : (j ∈ v :: vs) ↔ j ∈ vs := by simp [Ne.symm h]
      simp only [this]
theorem wipeG_len : ∀ {vs : List Nat}, (wipeG G vs).length = G.length
  | [] => rfl
  | v :: vs => by unfold wipeG; rw [List.length_set, wipeG_len]
theorem backG_len : ∀ {vs : List Nat}, (backG G0 G vs).length = G.length
  | [] => rfl
  | v :: vs => by
    unfold backG
    split
    · rw [List.length_set, backG_len]
    · exact backG_len
theorem backG_get (hl : G0.length = G.length) : ∀ {vs : List Nat} {j : Nat}, (backG G0 G vs)[j]? = if j ∈ vs then G0[j]? else G[j]?
  | [], j => by simp [backG]
  | v :: vs, j => by
    unfold backG
    by_cases h : v = j
    · subst h
      rw [if_pos List.mem_cons_self]
      split
      · rename_i s hs
        have hv := (List.getElem?_eq_some_iff.mp hs).1
        rw [List.getElem?_set_self (by rw [backG_len]; omega), hs]
      · rename_i hs
        rw [backG_get hl, hs]
        have := List.getElem?_eq_none_iff.mp hs
        split
        · rfl
        · exact List.getElem?_eq_none_iff.mpr (by omega)
    · have hm : (j ∈ v :: vs) ↔ j ∈ vs := by simp [Ne.symm h]
      simp only [hm]
      split
      · rw [List.getElem?_set_ne h, backG_get hl]
      · exact backG_get hl
theorem wipe_ext (o : On vs σ σ') : wipe σ' vs = wipe σ vs := by
  apply List.ext_getElem?
  intro j
  rw [wipe_get, wipe_get]
  split
  · rename_i h
    have o1 := o.1
    cases h1 : σ'[j]? <;> cases h2 : σ[j]?
    · rfl
    · have := List.getElem?_eq_none_iff.mp h1
      have := (List.getElem?_eq_some_iff.mp h2).1
      omega
    · have := List.getElem?_eq_none_iff.mp h2
      have := (List.getElem?_eq_some_iff.mp h1).1
      omega
    · rfl
  · rename_i h
    exact o.2 j h
theorem wipe_wipe : wipe (wipe σ vs) vs = wipe σ vs := by
  apply List.ext_getElem?
  intro j
  rw [wipe_get, wipe_get]
  split
  · cases σ[j]? <;> rfl
  · rfl
theorem On.sub {l : List Nat} (o : On l σ σ') (h : ∀ j ∈ l, j ∈ vs) : On vs σ σ' := ⟨o.1, fun j hj => o.2 j fun z => hj (h j z)⟩
def wipeA (A : Ad) (vs : List Nat) : Ad := ⟨fun j => if j ∈ vs then none else A j, A.b⟩
theorem wipeA_in {j : Nat} (h : j ∈ vs) : wipeA A vs j = none := if_pos h
theorem wipeA_out {j : Nat} (h : j ∉ vs) : wipeA A vs j = A j := if_neg h
theorem wipeA_some {j : Nat} (h : wipeA A vs j = some a) : A j = some a := by
  by_cases hj : j ∈ vs
  · rw [wipeA_in hj] at h; cases h
  · rwa [wipeA_out hj] at h
theorem wipeA_step : Step F H A F H (wipeA A vs) := ⟨Le.refl _, fun _ _ h _ => h, fun _ h => .inl h, fun i _ h => .inl ⟨i, wipeA_some h⟩, fun _ h => h, rfl⟩
theorem wipeA_far (h : A.far a) : (wipeA A vs).far a := ⟨h.1, fun i q => h.2 i (wipeA_some q)⟩
/-- the block's own slots emptied -/
theorem Rel.wipe (R0 : Rel T F H σ G A) : Rel T F H (wipe σ vs) (wipeG G vs) (wipeA A vs) := by
  refine ⟨R0.sub, by rw [wipeG_len, wipe_length, R0.len], fun j s h => ?_, fun j h => ?_, fun j a h => R0.fr j a (wipeA_some h), fun j k a h1 h2 => R0.inj j k a (wipeA_some h1) (wipeA_some h2), fun l h => ⟨(R0.bs l h).1, fun k q => (R0.bs l h).2 k (wipeA_some q)⟩⟩
  · rw [wipeG_get] at h
    rw [wipe_get]
    by_cases hj : j ∈ vs
    · rw [if_pos hj] at h
      rw [if_pos hj, wipeA_in hj]
      cases e : G[j]? with
      | none => simp [e] at h
      | some s0 => simp [e] at h; subst h; exact .no
    · rw [if_neg hj] at h
      rw [if_neg hj, wipeA_out hj]
      exact (R0.sl j s h).move (Le.refl _) (fun a o q _ => q) (fun a _ q => wipeA_far q) fun a e _ _ => e
  · rw [wipeG_len] at h
    by_cases hj : j ∈ vs
    · exact wipeA_in hj
    · rw [wipeA_out hj]
      exact R0.out j h
/-- .. given back -/
theorem Rel.back (R0 : Rel T F H σ G0 A0) (hp : plainA G0 vs = true) (R2 : Rel T F2 H2 (L2.wipe σ vs) G A) (le : Le F F2) : Rel T F2 H2 σ (backG G0 G vs) (wipeA A vs) := by
  have hl : G0.length = G.length := by rw [R0.len, R2.len, wipe_length]
  refine ⟨R2.sub, by rw [backG_len, R2.len, wipe_length], fun j s h => ?_, fun j h => ?_, fun j a h => R2.fr j a (wipeA_some h), fun j k a h1 h2 => R2.inj j k a (wipeA_some h1) (wipeA_some h2), fun l h => ⟨(R2.bs l h).1, fun k q => (R2.bs l h).2 k (wipeA_some q)⟩⟩
  · rw [backG_get hl] at h
    by_cases hj : j ∈ vs
    · rw [if_pos hj] at h
      rw [wipeA_in hj]
      have q := R0.sl j s h
      have pl := List.all_eq_true.mp hp j hj
      rw [h] at pl
      clear h
      revert q
      generalize A0 j = aj
      generalize σ[j]? = sj
      intro q
      cases q with
      | no => exact .no
      | fz h => exact .fz (h.mono le)
      | ol _ _ => cases pl
      | bw _ _ _ => cases pl
      | oi _ _ _ _ => cases pl
      | sc _ _ => cases pl
    · rw [if_neg hj] at h
      rw [wipeA_out hj]
      have q := R2.sl j s h
      rw [wipe_get, if_neg hj] at q
      exact q.move (Le.refl _) (fun a o q _ => q) (fun a _ q => wipeA_far q) fun a e _ _ => e
  · rw [backG_len] at h
    by_cases hj : j ∈ vs
    · exact wipeA_in hj
    · rw [wipeA_out hj]
      exact R2.out j h
/-- a cell of nobody's, changed -/
theorem Rel.side {o : HO} (R0 : Rel T F H σ G A) (hF : F a = none) (hA : ∀ i, A i ≠ some a) (hb : ¬ A.b a) (hH : H a ≠ none) : Rel T F (upd H a o) σ G A := by
  refine ⟨fun b u q => ?_, R0.len, fun j s h => ?_, R0.out, R0.fr, R0.inj, fun l h => ⟨fun z => ?_, (R0.bs l h).2⟩⟩
  · rw [upd_ne (ne_of_none q hF)]
    exact R0.sub b u q
  · have q := R0.sl j s h
    have ne : ∀ b, A.b b → b ≠ a := fun b hb' e => hb (e ▸ hb')
    have ne2 : ∀ b, A j = some b → b ≠ a := fun b hb' e => hA j (e ▸ hb')
    clear h
    revert q ne2
    generalize A j = aj
    generalize σ[j]? = sj
    intro q ne2
    cases q with
    | no => exact .no
    | fz h => exact .fz h
    | ol h e => exact .ol (by rw [upd_ne (ne2 _ rfl)]; exact h) e
    | bw h e n => exact .bw (by rw [upd_ne (ne _ n.1)]; exact h) e n
    | oi h n m e => exact .oi (by rw [upd_ne (ne2 _ rfl)]; exact h) n m e
    | sc h e =>
      refine .sc (h.elim (fun z => .inl ⟨?_, z.2⟩) .inr) e
      rcases z.1 with y | ⟨o, y⟩
      · exact .inl (by rw [upd_ne (ne _ z.2.1)]; exact y)
      · exact .inr ⟨o, by rw [upd_ne (ne _ z.2.1)]; exact y⟩
  · by_cases e : l = a
    · exact hb (e ▸ h)
    · rw [upd_ne e] at z
      exact (R0.bs l h).1 z
theorem Step.side {o : HO} (s : Step F H A F1 H1 A1) (hH : H a = none) (h1 : H1 a ≠ none) : Step F H A F1 (upd H1 a o) A1 :=
  ⟨s.f, fun b u q n => by rw [upd_ne (ne_of_none q hH)]; exact s.h b u q n, s.n, s.o, fun b q => by
    by_cases e : b = a
    · rw [e]; exact hH
    · rw [upd_ne e] at q; exact s.k b q, s.b⟩
end
abbrev WF : WX := fun _ _ _ _ => False
def rdC (c : Cf) (T : Tx) (W : WX) (e : Eo) : TT := fun σ H Q => ∃ F G A, Rel T F H σ G A ∧ Mt T W σ F H A (evC c e G) fun k _ _ H' _ => Q k H'
abbrev DC (X : Cx) (c : Cf) (T : Tx) (W : WX) (ifs : List Expr) (e : Eo) : Prop := PTs X ifs (rdC c T W e)
section
variable {X : Cx} {c : Cf} {T : Tx} {W : WX} {a b d o e tg elt iter : Expr} {x y z : E} {l : Es} {es ifs : List Expr} {pos p : Pos} {pr : Bool}
theorem pts_imp {t t' : TT} (h : PTs X es t) (i : ∀ σ H Q, t' σ H Q → t σ H Q) : PTs X es t' := ⟨fun pins s σ H Q I hq => h.run pins s σ H Q I (i σ H Q hq)⟩
theorem dc_nil : DC X c T W [] .no := pts_imp pts_nil fun σ H Q ⟨F, G, A, R0, m⟩ => by
  unfold evC at m
  exact m F H A R0 Step.refl
theorem dc_one (h : DT X c T W e x) : DC X c T W [e] (.so x) := pts_imp (pts_one h) fun σ H Q ⟨F, G, A, R0, m⟩ => by
  unfold evC at m
  exact ⟨F, G, A, R0, m⟩
/-- a new list's own turn -/
structure LcI (T : Tx) (W : WX) (σ : St) (vs : List Nat) (F0 H0 : Hp) (A0 : Ad) (F1 H1 : Hp) (A1 : Ad) (p : Addr) (f : D → List Sl → Res (Option D)) (rest : List D) (k : List D → List Sl → Res R) (P : R → List Sl → Hp → Hp → Ad → Prop) (H : Hp) : Prop where
  ex : ∃ F G A acc xs, Rel T F H (wipe σ vs) G A ∧ Step F1 H1 A1 F H A ∧ H p = some (.lst xs) ∧ Reps T F xs acc ∧ F p = none ∧ (∀ i, A i ≠ some p) ∧ Mt T W σ F0 H0 A0 (resBind (lcLoop f rest acc G) k) P
theorem lc_core' {t : Tg} {it : It} {cd : Eo} {vs : List Nat} {σ : St} {H : Hp} {Q : VK} (hnf : NfOk T c.nf) (hsub : ∀ j ∈ tgL t, j ∈ vs) (h : rdE c T W (.lc vs t it cd x) σ H Q) :
    tLc (rdI c T W it) (rdG T false t) (rdC c T WF cd) (rdE c T WF x) vs σ H Q := by
  obtain ⟨F, G, A, R0, m⟩ := h
  unfold evE at m
  refine ⟨F, G, A, R0, m.bind.imp fun ds G1 F1 H1 A1 R1 s1 m1 J src p hp => ?_⟩
  generalize hf : (fun (d : Mp.D) (G2 : List Sl) => match tgF false t d G2 with
        | some G3 => resBind (evC c cd G3) fun ok G4 => if ok = true then resBind (evE c x G4) fun x G5 => match fzR c.nf G5 x with
            | some (y, G6) => Res.ok (some y) (wipeG G6 vs)
            | none => .st
          else .ok none (wipeG G4 vs)
        | none => .st) = f at m1
  by_cases hpl : plainA G1 vs = true
  case neg => simp [hpl, Mt] at m1
  rw [if_pos hpl] at m1
  -- the new list stands
  have n1 : F1 p = none := none_le R1.sub hp
  have nb : ¬ A1.b p := fun z => (R1.bs p z).1 hp
  obtain ⟨R1p, s1p⟩ := R1.laid (o := .lst []) hp
  have start : LcI T W σ vs F H A F1 H1 A1 p f ds (fun acc G2 => .ok (.ol acc) (backG G1 G2 vs)) (fun r _ F' H' A' => ∀ v, RepR T F' H' σ A' v r → Nw H A v r → Q v H') (upd H1 p (.lst [])) :=
    ⟨F1, wipeG G1 vs, wipeA A1 vs, [], [], R1p.wipe, s1p.trans wipeA_step, upd_same, .nil, n1, fun i q => R1.nown hp i (wipeA_some q), m1⟩
  refine ⟨fun i k H2 => k = ds.length - i ∧ i ≤ ds.length ∧ LcI T W σ vs F H A F1 H1 A1 p f (ds.drop i) (fun acc G2 => .ok (.ol acc) (backG G1 G2 vs)) (fun r _ F' H' A' => ∀ v, RepR T F' H' σ A' v r → Nw H A v r → Q v H') H2,
    ⟨ds.length, rfl, Nat.zero_le _, start⟩, ?_⟩
  rintro i k H2 ⟨rfl, hle, F2, G2, A2, acc, xs, R2, s2, hp2, rx, nF2, nA2, m2⟩
  obtain ⟨g1, g2, g3⟩ := src i F2 H2 (wipe σ vs) G2 A2 R2 s2
  by_cases hlt : i < ds.length
  · refine .inr ⟨g1 hlt, fun H3 => LcI T W σ vs F H A F1 H1 A1 p f (ds.drop (i + 1)) (fun acc G2 => .ok (.ol acc) (backG G1 G2 vs)) (fun r _ F' H' A' => ∀ v, RepR T F' H' σ A' v r → Nw H A v r → Q v H') H3,
      fun H3 q => ⟨ds.length - (i + 1), by omega, rfl, hlt, q⟩, fun v H3 y => ?_⟩
    obtain ⟨d, F3, hd, R3, s3, rp⟩ := g3 v H3 y hlt
    rw [drop_get hd] at m2
    unfold lcLoop at m2
    cases h4 : tgF false t d G2 with
    | none =>
      rw [← hf] at m2
      simp [h4, resBind, Mt] at m2
    | some G4 =>
      have hfd : f d G2 = resBind (evC c cd G4) fun ok G4 => if ok = true then resBind (evE c x G4) fun x G5 => match fzR c.nf G5 x with
            | some (y, G6) => Res.ok (some y) (wipeG G6 vs)
            | none => .st
          else .ok none (wipeG G4 vs) := by
        rw [← hf]
        simp only [h4]
      rw [hfd] at m2
      refine ⟨F3, G2, A2, d, G4, R3, rp, h4, fun σ4 F4 H4 A4 R4 s4 _ o4 => ⟨?_, F4, G4, A4, R4, ?_⟩⟩
      · rw [wipe_ext (o4.sub hsub), wipe_wipe]
      have hw : wipe σ4 vs = wipe σ vs := by rw [wipe_ext (o4.sub hsub), wipe_wipe]
      -- the new list is kept through a stretch
      have keep : ∀ {F5 H5 A5}, Step F2 H2 A2 F5 H5 A5 → H5 p = some (.lst xs) ∧ F5 p = none ∧ (∀ i, A5 i ≠ some p) ∧ ¬ A5.b p := fun {F5 H5 A5} s => by
        refine ⟨s.h _ _ hp2 nA2, ?_, fun i q => ?_, ?_⟩
        · cases q : F5 p with
          | none => rfl
          | some u =>
            rcases s.n p (by rw [q]; exact fun z => nomatch z) with z | ⟨i, z⟩ | z
            · exact absurd nF2 z
            · exact absurd z (nA2 i)
            · rw [z] at hp2; cases hp2
        · rcases s.o i _ q with ⟨j, z⟩ | z
          · exact nA2 j z
          · rw [z] at hp2; cases hp2
        · rw [s.b, s2.b]
          exact nb
      have s24 := s3.trans s4
      cases h5 : evC c cd G4 with
      | st => rw [h5] at m2; exact m2.elim
      | ex x1 G5 => rw [h5] at m2; exact m2.elim
      | ok t5 G5 =>
        rw [h5] at m2
        intro F5 H5 A5 R5 s5
        have s25 := s24.trans s5
        cases t5 with
        | false =>
          obtain ⟨k1, k2, k3, k4⟩ := keep s25
          have R6 := R5.wipe (vs := vs)
          rw [hw] at R6
          exact ⟨F5, _, _, acc, xs, R6, (s2.trans s25).trans wipeA_step, k1, rx.mono s25.f, k2, fun i q => k3 i (wipeA_some q), by simpa [resBind] using m2⟩
        | true =>
          refine ⟨F5, G5, A5, R5, ?_⟩
          simp only [resBind, if_true] at m2
          cases h6 : evE c x G5 with
          | st => rw [h6] at m2; exact m2.elim
          | ex x1 G6 => rw [h6] at m2; exact m2.elim
          | ok y6 G6 =>
            rw [h6] at m2
            intro F6 H6 A6 R6 s6 w rp6 nw6
            simp only at m2
            cases h7 : fzR c.nf G6 y6 with
            | none => simp [h7, Mt] at m2
            | some q7 =>
              obtain ⟨y7, G7⟩ := q7
              simp only [h7] at m2
              obtain ⟨F7, R7, s7, _, rp7⟩ := park_ok R6 s6 rp6 nw6
              obtain ⟨F8, A8, R8, s8, rp8, _⟩ := fzR_ok hnf R7 rp7 h7
              have s28 := (s25.trans s7).trans s8
              obtain ⟨k1, k2, k3, k4⟩ := keep s28
              by_cases hz : acc.length < sizeLine
              case neg => simp [hz, Mt] at m2
              simp only [hz, if_true] at m2
              refine ⟨xs, k1, by rw [rx.length]; exact hz, ?_⟩
              have R9 := (R8.side (o := .lst (xs ++ [w])) k2 k3 k4 (by rw [k1]; exact fun z => nomatch z)).wipe (vs := vs)
              rw [hw] at R9
              refine ⟨F8, _, _, acc ++ [y7], xs ++ [w], R9, ((s2.trans s28).side hp (by rw [k1]; exact fun z => nomatch z)).trans wipeA_step, upd_same, (rx.mono s28.f).append rp8, k2, fun i q => k3 i (wipeA_some q), m2⟩
  · have he : i = ds.length := by omega
    subst he
    rw [List.drop_length] at m2
    refine .inl ⟨g2 (Nat.le_refl _), ?_⟩
    have R3 := R1.back hpl R2 s2.f
    exact m2 F2 H2 _ R3 (s1.trans (s2.trans wipeA_step)) _ (.ol hp2 rx nF2 fun i q => nA2 i (wipeA_some q)) fun ds l _ e => by
      cases e
      exact .inl (s1.k _ hp)
theorem de_lc {t : Tg} {it : It} {cd : Eo} {scope : Scope} {own : List (Str × Nat)} (hnf : NfOk T c.nf) (hc : X.calm = true) (hN : X.N.Nodup) (hi : DI X c T W tg iter it) (ok : BlkOk X.N X.env.scope scope own) (hsub : ∀ j ∈ tgL t, j ∈ own.map (·.2))
    (hg : ∀ (s : Shared) (H : Hp) (C : Addr) (cl : List (Str × Addr)) (fp : List Addr), DG (X.blk s H scope (compEnvC scope cl C X.env) fp) T false tg t) (ht : ∀ (s : Shared) (H : Hp) (C : Addr) (cl : List (Str × Addr)) (fp : List Addr), DC (X.blk s H scope (compEnvC scope cl C X.env) fp) c T WF ifs cd)
    (he : ∀ (s : Shared) (H : Hp) (C : Addr) (cl : List (Str × Addr)) (fp : List Addr), DE (X.blk s H scope (compEnvC scope cl C X.env) fp) c T WF elt x) (hs : ∀ x, foldedSetIterable iter X.env x = pure x := by intro _; rfl) :
    DE X c T W (.ListComp elt [⟨tg, iter, ifs, 0⟩] scope pos) (.lc (own.map (·.2)) t it cd x) :=
  pe_imp (pe_lc hc hN hi ok hg ht he hs) fun σ H Q h => lc_core' hnf hsub h
theorem ds_setLc {t : Tg} {it : It} {cd : Eo} {scope : Scope} {own : List (Str × Nat)} {i : Nat} {w : Str} {py spos : Pos} (hnf : NfOk T c.nf) (hc : X.calm = true) (hN : X.N.Nodup) (hy : X.N[i]? = some w) (hyl : X.env.scope.names.lookup w = some .local)
    (hsw : swapsWith (.ListComp elt [⟨tg, iter, ifs, 0⟩] scope pos) (some (.Name w py)) spos.line X.env = pure true) (hi : DI X c T W tg iter it) (ok : BlkOk X.N X.env.scope scope own) (hsub : ∀ j ∈ tgL t, j ∈ own.map (·.2))
    (hg : ∀ (s : Shared) (H : Hp) (C : Addr) (cl : List (Str × Addr)) (fp : List Addr), DG (X.blk s H scope (compEnvC scope cl C X.env) fp) T false tg t) (ht : ∀ (s : Shared) (H : Hp) (C : Addr) (cl : List (Str × Addr)) (fp : List Addr), DC (X.blk s H scope (compEnvC scope cl C X.env) fp) c T WF ifs cd)
    (he : ∀ (s : Shared) (H : Hp) (C : Addr) (cl : List (Str × Addr)) (fp : List Addr), DE (X.blk s H scope (compEnvC scope cl C X.env) fp) c T WF elt x) (hs : ∀ x, foldedSetIterable iter X.env x = pure x := by intro _; rfl) :
    DS X c T W (.Assign [.Name w py] (.ListComp elt [⟨tg, iter, ifs, 0⟩] scope pos) spos) (.asg (.n i) (.lc (own.map (·.2)) t it cd x)) :=
  ps_imp (ps_setLc hc hN hy hyl hsw hi ok hg ht he hs) fun Z σ H h => by
  have k := asg_core hnf h
  exact lc_core' hnf hsub k
end
end Mp

/-! Mp14: a def keeps its promise. -/
namespace Mp
open PySem PySem.Spec L2
open PyProof.Rows hiding St

section
variable {T : Tx} {W : WX} {σ σ' : St} {F F' H H' : Hp} {A A' : Ad} {G G' : List Sl} {pr : Bool} {vs : List V} {Q : VK} {E : XK} {v : V} {r : R}
def a0Of (pr : Bool) (A : Ad) : Option Addr := if pr = true then A 0 else none
theorem a0_some {a : Addr} (h : a0Of pr A = some a) : pr = true ∧ A 0 = some a := by
  unfold a0Of at h
  split at h
  · rename_i e; exact ⟨e, h⟩
  · cases h
theorem end_ok (hv : pr = true → 0 < vs.length) {n : Nat} (R1 : Rel T F' H' σ' G' A') (s : Step F H A F' H' A') (f : Fr pr (vs.map some ++ List.replicate n none) σ') : EndR T F H A vs (fin0 pr G') F' H' (a0Of pr A') := by
  refine ⟨R1.sub, ⟨s.f, s.h, s.n, fun i a e => ?_, s.k, rfl⟩, ?_, fun a e => R1.fr 0 a (a0_some e).2⟩
  · obtain ⟨_, e2⟩ := one_eq e
    exact s.o 0 a (a0_some e2).2
  · cases pr with
    | false => exact .no
    | true =>
      show RepS T F' H' (one A.b (a0Of true A')) (a0Of true A') (vs.map some)[0]? (G'.getD 0 .no)
      have hσ : σ'[0]? = (vs.map some)[0]? := by
        rw [f rfl, List.getElem?_append_left (by rw [List.length_map]; exact hv rfl)]
      cases e : G'[0]? with
      | none =>
        have hl : G'.length = 0 := by
          have := List.getElem?_eq_none_iff.mp e
          omega
        have e2 : σ'[0]? = none := List.getElem?_eq_none_iff.mpr (by rw [← R1.len, hl]; omega)
        have e3 := List.getElem?_eq_none_iff.mp (hσ.symm.trans e2)
        rw [List.length_map] at e3
        have := hv rfl
        omega
      | some x =>
        have q := R1.sl 0 x e
        rw [hσ] at q
        have eg : G'.getD 0 .no = x := by rw [List.getD_eq_getElem?_getD, e]; rfl
        rw [eg]
        show RepS T F' H' (one A.b (A' 0)) (A' 0) (vs.map some)[0]? x
        exact q.move (Le.refl _) (fun a o z _ => z) (fun l _ fa => ⟨s.b ▸ fa.1, fun i z => fa.2 0 (one_eq z).2⟩) fun a z _ _ => z
/-- from what the def's promise gives to what its body asks -/
theorem post_ok (hv : pr = true → 0 < vs.length) {n : Nat} {o : Out} (h : PostD T F H A vs (retF pr o) Q E) : MtS T (fun cls d _ H => E cls d H) pr (vs.map some ++ List.replicate n none) F H A o { nx := fun _ H' => Q .non H', rt := Q } := by
  cases o with
  | nx G' => exact fun σ' F' H' A' R1 s f => h.2 F' H' _ .non (end_ok hv R1 s f) (.d (Rep.of_flat rfl)) Nw.d
  | bk G' => exact h.elim
  | ct G' => exact h.elim
  | st => exact h.elim
  | ex x G' => exact fun σ' F' H' A' cls d R1 s f e => h F' H' _ cls d (end_ok hv R1 s f) e
  | rt r G' =>
    intro σ' F' H' A' v R1 s f rp nw
    cases r with
    | d d =>
      cases rp with
      | d hd => exact h.2 F' H' _ v (end_ok hv R1 s f) (.d hd) Nw.d
    | ol l =>
      cases rp with
      | ol h1 e fr n =>
        refine h.2 F' H' _ _ (end_ok hv R1 s f) (.ol h1 e fr fun i q => ?_) nw
        obtain ⟨_, q2⟩ := one_eq q
        exact n 0 (a0_some q2).2
    | al i =>
      cases rp with
      | al hσ =>
        unfold retF at h
        cases hg : G'[i]? with
        | none => simp [hg, PostD] at h
        | some x =>
          have q := R1.sl i x hg
          rw [hσ] at q
          simp only [hg] at h
          clear hg
          revert q
          generalize hai : A' i = ai
          intro q
          cases q with
          | no => exact h.elim
          | bw _ _ _ => exact h.elim
          | oi _ _ _ _ => exact h.elim
          | sc _ _ => exact h.elim
          | fz hd => exact h.2 F' H' _ v (end_ok hv R1 s f) (.d hd) Nw.d
          | ol h1 e =>
            simp only at h
            by_cases hp : (pr && i == 0) = true
            · rw [if_pos hp] at h
              exact h.elim
            · rw [if_neg hp] at h
              refine h.2 F' H' _ _ (end_ok hv R1 s f) (.ol h1 e (R1.fr i _ hai) fun j q => ?_) fun ds l' e1 e2 => ?_
              · obtain ⟨_, q2⟩ := one_eq q
                obtain ⟨q3, q4⟩ := a0_some q2
                have := R1.inj 0 i _ q4 hai
                subst this
                simp [q3] at hp
              · cases e2
                exact (s.o i _ hai).symm
theorem Rel.frame {n : Nat} (R0 : Rel T F H (vs.map some) G A) : Rel T F H (vs.map some ++ List.replicate n none) (G ++ List.replicate n .no) A := by
  have hl := R0.len
  rw [List.length_map] at hl
  refine ⟨R0.sub, by simp [hl], fun j s h => ?_, fun j h => R0.out j (by simp at h; omega), R0.fr, R0.inj, R0.bs⟩
  by_cases hj : j < G.length
  · rw [List.getElem?_append_left hj] at h
    rw [List.getElem?_append_left (by rw [List.length_map]; omega)]
    exact R0.sl j s h
  · rw [List.getElem?_append_right (by omega)] at h
    have e := List.mem_of_getElem? h
    rw [List.mem_replicate] at e
    rw [e.2, R0.out j (by omega)]
    exact .no
end

/-- a def of a law's text, at the level k + 1 -/
theorem fn_ok {m : Nat} {P : PySem.Program} {w : World} {K : PySem.W.Frag} {mg : Str → Option Value} {base : Heap} {T : Tx} {G : Pg} {k f : Nat} {d : Df} {x qual : Str} {params : Arguments} {body : List Stmt} {scope : Scope} {fa : Addr} {fd : FuncData} {ps N : List Str} {dvs : List V} {kws : List (Str × V)}
    (FD : FunD K x qual params body scope dvs kws fa fd) (S : FnScope N ps scope) (hd : G.defs[f]? = some d) (hn : d.n = N.length) (hp : d.pr = true → 0 < ps.length)
    (hb : ∀ (cdv : Value) (A : Around) (outer : List Env) (s : Shared) (H : Hp) (E : XK), Room m (A.deeper (envOfC qual scope s.heap.objs.size fa cdv)) →
      DSs (cxOf (L2.CX P w) P w K mg base N qual scope fa cdv A outer s H E) ⟨run G k, fun g => (G.defs.map Df.pm).getD g [], G.nf, G.mt, G.w, d.pr⟩ T (fun cls d _ H => E cls d H) body d.body) :
    FnOk P w K mg base (L2.CX P w) (m + 1) fa fd ps (spD T (run G (k + 1) f) ps.length) := by
  refine FD.ok S (fun vs H Q E h => h.1) fun cdv A outer s H vs Q E hr h => ⟨_, hb cdv A outer s H E hr, ?_⟩
  obtain ⟨hl, F, G0, A0, R0, _, _, post⟩ := h
  have hle : ps.length ≤ N.length := by
    have := congrArg List.length S.pre
    rw [List.length_take] at this
    omega
  have hg : G0.length = vs.length := by rw [R0.len, List.length_map]
  unfold run at post
  rw [hd] at post
  simp only at post
  have e1 : d.n - G0.length = N.length - vs.length := by rw [hn, hg]
  rw [e1] at post
  exact ⟨F, _, A0, R0.frame, post_ok (fun h => by rw [hl]; exact hp h) post⟩
/-- at level 0 nothing is promised -/
theorem fn_ok0 {P : PySem.Program} {w : World} {K : PySem.W.Frag} {mg : Str → Option Value} {base : Heap} {T : Tx} {G : Pg} {f : Nat} {fa : Addr} {fd : FuncData} {ps : List Str} : FnOk P w K mg base (L2.CX P w) 0 fa fd ps (spD T (run G 0 f) ps.length) := by
  have no : ∀ vs H Q E, ¬ spD T (run G 0 f) ps.length vs H Q E := fun vs H Q E ⟨_, _, _, _, _, _, _, post⟩ => by
    unfold run at post
    exact post
  exact ⟨fun vs H Q E h => (no _ _ _ _ h).elim, fun A outer s H args us vs Q E _ _ _ _ h => (no _ _ _ _ h).elim⟩
def CXe (P : PySem.Program) : CXT := fun outer H s E u s' => ∃ w, L2.CX P w outer H s E u s'
theorem FnOk.cxe {P : PySem.Program} {w : World} {K : PySem.W.Frag} {mg : Str → Option Value} {base : Heap} {k : Nat} {fa : Addr} {fd : FuncData} {ps : List Str} {sp sp' : Sp} (F : FnOk P w K mg base (L2.CX P w) k fa fd ps sp) (h : ∀ vs H Q E, sp' vs H Q E → sp vs H Q E) :
    FnOk P w K mg base (CXe P) k fa fd ps sp' :=
  ⟨fun vs H Q E q => F.len vs H Q E (h _ _ _ _ q), fun A outer s H args us vs Q E hr he hb hv hs => codeAny_mono (F.run A outer s H args us vs Q E hr he hb hv (h _ _ _ _ hs)) fun r s' q => by
    cases r with
    | error e => exact ⟨w, q⟩
    | ok fl => cases fl <;> exact q⟩
theorem CXe.no {P : PySem.Program} {H : Hp} {s : Shared} {e : Value} {s' : Shared} (h : CXe P [] H s (fun _ _ _ => False) e s') : False := by
  obtain ⟨w, a, B, H', cls, d, _, _, _, _, _, _, _, q⟩ := h
  exact q
/-- the law's promise -/
def spLaw (T : Tx) : Sp := fun vs H Q _ => ∃ (a : Addr) (ns : List Int), vs = [.ref a] ∧ ns.length ≤ 63 ∧ SqL T.K H a (ns.map V.int) ∧ Only H ∧ ∀ H', Q (.bl true) H'
theorem repsI {T : Tx} {F : Hp} : ∀ {ns : List Int}, Reps T F (ns.map V.int) (ns.map D.int)
  | [] => .nil
  | n :: ns => .flat rfl repsI
theorem law_sp {T : Tx} {cf : List Sl → Cres} (hcf : ∀ ns : List Int, ns.length ≤ 63 → ∃ m, cf [.sc (ns.map .int)] = .ok (.d (.bl true)) m) {vs : List V} {H : Hp} {Q : VK} {E : XK} (h : spLaw T vs H Q E) : spD T cf 1 vs H Q E := by
  obtain ⟨a, ns, rfl, hl, hS, hO, hQ⟩ := h
  obtain ⟨m, e⟩ := hcf ns hl
  refine ⟨rfl, fun _ => none, [.sc (ns.map .int)], one (old H none) none, ⟨fun a o q => (nomatch (show (none : Option HO) = some o from q)), rfl, fun j s q => ?_, fun j _ => ?_, fun j a q => (nomatch (one_eq q).2), fun j k a q => (nomatch (one_eq q).2), fun l q => ⟨q.1, fun i z => (nomatch (one_eq z).2)⟩⟩, rfl, fun j a q => (nomatch (one_eq q).2), ?_⟩
  · cases j with
    | zero =>
      simp at q
      subst q
      show RepS T _ H _ none (some (some (.ref a))) _
      refine .sc ?_ repsI
      rcases hS with z | z
      · exact .inl ⟨z, ⟨rd_some z, fun e => (nomatch e)⟩, fun i e => (nomatch (one_eq e).2)⟩
      · exact .inr (.inr z)
    | succ j => simp at q
  · show (if j = 0 then none else none) = none
    split <;> rfl
  · rw [e]
    refine ⟨fun i z => (nomatch z), fun F' H' a0 v _ rp _ => ?_⟩
    cases rp with
    | d hd => rw [hd.blE]; exact hQ H'
end Mp

/-! Mp15: comparisons as tests; small words for derivations. -/
namespace Mp
open PySem L2

section
variable {X : Cx} {c : Cf} {T : Tx} {W : WX} {a b d : Expr} {x y z e : E} {pos : Pos} {σ : St} {H : Hp}
/-- an expression that gives a bool -/
def GivesB (c : Cf) (e : E) : Prop := ∀ G r G', evE c e G = .ok r G' → ∃ k, r = .d (.bl k)
theorem rdT_E {Q : Bool → Hp → Prop} (g : GivesB c e) (h : rdT c T W e σ H Q) : tTest (rdE c T W e) σ H Q := by
  obtain ⟨F, G, A, R0, m⟩ := h
  unfold evT at m
  refine ⟨F, G, A, R0, m.bind.eq.imp fun r G1 F1 H1 A1 R1 s1 ⟨e1, m1⟩ v rp nw => ?_⟩
  obtain ⟨k, rfl⟩ := g _ _ _ e1
  cases rp with
  | d hd =>
    rw [hd.blE]
    exact ⟨k, rfl, m1 F1 H1 A1 R1 s1⟩
theorem gives_cm {o : Cm} : GivesB c (.cm o x y) := fun G r G' h => by
  unfold evE at h
  cases h1 : evE c x G with
  | ok r1 G1 =>
    rw [h1] at h
    simp only [resBind] at h
    cases h2 : evE c y G1 with
    | ok r2 G2 =>
      rw [h2] at h
      simp only at h
      split at h
      · split at h
        · cases h; exact ⟨_, rfl⟩
        · cases h
      · cases h
    | ex e G2 => rw [h2] at h; cases h
    | st => rw [h2] at h; cases h
  | ex e G1 => rw [h1] at h; cases h
  | st => rw [h1] at h; cases h
theorem dt_cm (hop : CmpsOk X T c) (o : Cm) (ha : DE X c T W a x) (hb : DE X c T W b y) (hm : behindInMarks (cmOf o) b = false := by first | exact nobehind _ (by decide) (by decide) | rfl) :
    DT X c T W (.Compare a [cmOf o] [b] pos) (.cm o x y) := pt_imp (pt_cmpR (hop o) ha hb hm) fun σ H Q h => cm_core (rdT_E gives_cm h)
theorem dt_w (h : DW X c T W a x) : DT X c T W a x := h.pt
end

theorem takesF {X : Cx} : TakesF X WF := fun u s' ⟨a, B, sI, pins, σ, H, cls, d, e, I, nb, up, sky, na, os, ag, w⟩ => w.elim
end Mp

/-! Ms1: a for over new lists that are changed. -/
namespace Mp
open PySem L2

/-- new things of nobody's, side by side -/
inductive Pend (T : Tx) (F H : Hp) (A : Ad) : List V → List R → List Addr → Prop where
  | nil : Pend T F H A [] [] []
  | d {v d vs rs as} (h : Rep T F v d) (t : Pend T F H A vs rs as) : Pend T F H A (v :: vs) (.d d :: rs) as
  | ol {l xs ds vs rs as} (h : H l = some (.lst xs)) (e : Reps T F xs ds) (f : F l = none) (n : ∀ i, A i ≠ some l) (k : l ∉ as) (t : Pend T F H A vs rs as) : Pend T F H A (.ref l :: vs) (.ol ds :: rs) (l :: as)
section
variable {T : Tx} {W : WX} {σ : St} {F F' H H' F0 H0 F1 H1 : Hp} {A A' A0 A1 : Ad} {vs : List V} {rs : List R} {as : List Addr} {G : List Sl}
theorem Pend.step (h : Pend T F H A vs rs as) (s : Step F H A F' H' A') : Pend T F' H' A' vs rs as := by
  induction h with
  | nil => exact .nil
  | d h t ih => exact .d (h.mono s.f) ih
  | ol h e f n k t ih =>
    rename_i l xs ds _ _ _
    have key : RepR T F' H' [] A' (.ref l) (.ol ds) := RepR.step (.ol h e f n) s
    cases key with
    | ol h' e' f' n' => exact .ol h' e' f' n' k ih
theorem Pend.in_ (h : Pend T F H A vs rs as) : ∀ l ∈ as, H l ≠ none ∧ ∀ i, A i ≠ some l := by
  induction h with
  | nil => exact fun l hl => nomatch hl
  | d h t ih => exact ih
  | ol h e f n k t ih =>
    intro l hl
    rcases List.mem_cons.mp hl with rfl | hl
    · exact ⟨by rw [h]; exact (fun z => nomatch z), n⟩
    · exact ih l hl
theorem Pend.length (h : Pend T F H A vs rs as) : vs.length = rs.length := by
  induction h with
  | nil => rfl
  | d _ _ ih => simp [ih]
  | ol _ _ _ _ _ _ ih => simp [ih]
/-- since then -/
abbrev NwA (H : Hp) (A : Ad) (as : List Addr) : Prop := ∀ l ∈ as, H l = none ∨ ∃ i, A i = some l
end
def rdL (c : Cf) (T : Tx) (W : WX) (l : Es) : TA := fun σ H Q => ∃ F G A, Rel T F H σ G A ∧ Mt T W σ F H A (evEl c l G) fun rs _ F' H' A' => ∀ vs as, Pend T F' H' A' vs rs as → NwA H A as → Q vs H'
abbrev DL (X : Cx) (c : Cf) (T : Tx) (W : WX) (es : List Expr) (l : Es) : Prop := PA X es (rdL c T W l)
section
variable {X : Cx} {c : Cf} {T : Tx} {W : WX} {a e : Expr} {x : E} {l : Es} {es : List Expr} {pos p : Pos} {sb : List Stmt} {qb : Ss}
theorem dl_nil : DL X c T W [] .nil := pa_imp pa_nil fun σ H Q ⟨F, G, A, R0, m⟩ => m F H A R0 Step.refl [] [] .nil (fun l hl => nomatch hl)
theorem dl_cons (ha : DE X c T W a x) (hr : DL X c T W es l) (hs : starEach (a :: es) X.env = (false, eval a X.env) :: starEach es X.env := by rfl) : DL X c T W (a :: es) (.cons x l) := by
  refine pa_imp (pa_cons ha hr hs) fun σ H Q ⟨F, G, A, R0, m⟩ => ?_
  unfold evEl at m
  refine ⟨F, G, A, R0, m.bind.imp fun x1 G1 F1 H1 A1 R1 s1 m1 v1 rp nw => ?_⟩
  have m1 := m1.start s1
  have m1 : (∀ i, x1 ≠ .al i) ∧ Mt T W σ F1 H1 A1 (resBind (evEl c l G1) fun rs G2 => .ok (x1 :: rs) G2) (fun rs _ F' H' A' => ∀ vs as, Pend T F' H' A' vs rs as → NwA H A as → Q vs H') := by
    cases x1 with
    | al i => exact m1.elim
    | d d => exact ⟨(fun i z => nomatch z), m1⟩
    | ol l => exact ⟨(fun i z => nomatch z), m1⟩
  obtain ⟨nal, m1⟩ := m1
  refine ⟨F1, G1, A1, R1, m1.bind.imp fun rs G2 F2 H2 A2 R2 s2 m2 vs as pd na => ?_⟩
  have m2 := m2 F2 H2 A2 R2 s2
  have na' : NwA H A as := fun l hl => by
    rcases na l hl with z | ⟨i, z⟩
    · exact .inl (s1.k l z)
    · rcases s1.o i l z with ⟨j, w⟩ | w
      · exact .inr ⟨j, w⟩
      · exact .inl w
  cases rp with
  | d h => exact m2 _ as (.d (h.mono s2.f) pd) na'
  | @ol l0 xs ds h e f n =>
    have rp2 : RepR T F2 H2 [] A2 (.ref l0) (.ol ds) := RepR.step (.ol h e f n) s2
    cases rp2 with
    | ol h' e' f' n' =>
      have k : l0 ∉ as := fun hk => by
        rcases na l0 hk with z | ⟨i, z⟩
        · rw [z] at h; cases h
        · exact n i z
      refine m2 _ (l0 :: as) (.ol h' e' f' n' k pd) fun l hl => ?_
      rcases List.mem_cons.mp hl with rfl | hl
      · exact nw ds _ rfl rfl
      · exact na' l hl
  | al h => exact absurd rfl (nal _)
/-- the target takes the next one -/
theorem asgL_ok {σ σ1 : St} {F F1 H H1 : Hp} {A A1 : Ad} {G G1 G' : List Sl} {pr : Bool} {i : Nat} {v : V} {r : R} {vs : List V} {rs : List R} {as : List Addr} (R0 : Rel T F H σ G A) (R1 : Rel T F1 H1 σ1 G1 A1) (s : Step F H A F1 H1 A1) (pd : Pend T F1 H1 A1 (v :: vs) (r :: rs) as) (nw : NwA H A as) (e : asgL pr i r G1 = some G') :
    ∃ A2 as', Rel T F1 H1 (σ1.set i (some v)) G' A2 ∧ Step F H A F1 H1 A2 ∧ Fr pr σ1 (σ1.set i (some v)) ∧ Pend T F1 H1 A2 vs rs as' ∧ NwA H A as' ∧ (∀ j a, A2 j = some a → (∃ k, A1 k = some a) ∨ a ∈ as) ∧ ∀ a ∈ as', a ∈ as := by
  cases pd with
  | d h t =>
    obtain ⟨R2, s2, f2⟩ := R1.store h e
    refine ⟨_, _, R2, s.trans s2, f2, t.step s2, nw, fun j a q => ?_, fun a ha => ha⟩
    by_cases hj : j = i
    · subst hj
      rw [Ad.put_self] at q
      cases q
    · rw [Ad.put_ne hj] at q
      exact .inl ⟨j, q⟩
  | ol h er f n k t =>
    rename_i l xs ds as
    have e : setS pr G1 i (.ol ds) = some G' := e
    obtain ⟨R2, s2, f2⟩ := R0.adopt R1 s h er f n (nw l List.mem_cons_self) e
    refine ⟨_, as, R2, s2, f2, ?_, (fun a ha => nw a (List.mem_cons_of_mem _ ha)), fun j a q => ?_, fun a ha => List.mem_cons_of_mem _ ha⟩
    rotate_left
    · by_cases hj : j = i
      · subst hj
        rw [Ad.put_self] at q
        cases q
        exact .inr List.mem_cons_self
      · rw [Ad.put_ne hj] at q
        exact .inl ⟨j, q⟩
    have mv : ∀ {vs rs as'}, Pend T F1 H1 A1 vs rs as' → (∀ a ∈ as', a ≠ l) → Pend T F1 H1 (Ad.put A1 i (some l)) vs rs as' := fun {vs rs as'} p => by
      induction p with
      | nil => exact fun _ => .nil
      | d h _ ih => exact fun q => .d h (ih q)
      | ol h e f n k _ ih =>
        intro q
        refine .ol h e f (fun j z => ?_) k (ih fun a ha => q a (List.mem_cons_of_mem _ ha))
        by_cases hj : j = i
        · subst hj
          rw [Ad.put_self] at z
          cases z
          exact q _ List.mem_cons_self rfl
        · rw [Ad.put_ne hj] at z
          exact n j z
    exact mv t fun a ha z => k (by rw [← z]; exact ha)
/-- for x in [e, ..]: new lists that the body may change -/
theorem ds_forL {i : Nat} {w : Str} {pw : Pos} (hK : T.K = X.K) (hp : PassesOwn (model X.prog X.w) X.A X.env X.xe) (hc : X.calm = true) (hN : X.N.Nodup) (hi : X.N[i]? = some w) (hx : Loc X.env.scope w) (hf : X.fn w = true ∨ X.env.scope.names.lookup w = some .local) (hl : DL X c T W es l) (hb : DSs X c T W sb qb)
    (hs : ∀ x, foldedSetIterable (.List es p) X.env x = pure x := by intro _; rfl) : DS X c T W (.For (.Name w pw) (.List es p) sb [] pos) (.forL i l qb) := by
  refine ps_imp (ps_for hp hc (pi_sq (pe_lst hl)) (pg_name hN hi hx hf) hb hs) fun Z σ H ⟨F, G, A, R0, m⟩ => ?_
  unfold evS at m
  refine ⟨F, G, A, R0, m.out.imp fun rs G1 F1 H1 A1 R1 s1 m1 vs as pd na => ?_⟩
  have hlen := pd.length
  by_cases hz : rs.length ≤ sizeLine
  · rw [if_pos hz] at m1
    refine ⟨by rw [hlen]; exact hz, fun q hq => ⟨q, rfl, .inl ⟨⟨vs, SqL.of upd_same⟩, ?_⟩⟩⟩
    obtain ⟨R2, s2⟩ := R1.laid (o := .lst vs) hq
    have nqs : ∀ {F3 H3 A3 F4 H4 A4}, Step F3 H3 A3 F4 H4 A4 → H3 q = some (.lst vs) ∧ (∀ j, A3 j ≠ some q) → H4 q = some (.lst vs) ∧ ∀ j, A4 j ≠ some q := fun {F3 H3 A3 F4 H4 A4} s ⟨z1, z2⟩ => ⟨s.h q _ z1 z2, fun j z => by
      rcases s.o j q z with ⟨k, w⟩ | w
      · exact z2 k w
      · rw [w] at z1; cases z1⟩
    generalize hf0 : asgL c.pr i = fa at m1
    refine ⟨fun j k σ3 H3 => ∃ F3 G3 A3 as3, Rel T F3 H3 σ3 G3 A3 ∧ Fr c.pr σ σ3 ∧ Step F H A F3 H3 A3 ∧ k = rs.length - j ∧ j ≤ rs.length ∧ Pend T F3 H3 A3 (vs.drop j) (rs.drop j) as3 ∧ NwA H A as3 ∧ (H3 q = some (.lst vs) ∧ ∀ j, A3 j ≠ some q) ∧ q ∉ as3 ∧ MtS T W c.pr σ F H A (forL fa (evSs c qb) (rs.drop j) G3) Z,
      ⟨rs.length, F1, G1, A1, as, R2, Fr.refl, s1.trans s2, rfl, Nat.zero_le _, by simpa using pd.step s2, na, ⟨upd_same, R1.nown hq⟩, fun z => (pd.in_ q z).1 hq, by simpa using m1⟩, ?_⟩
    rintro j k σ3 H3 ⟨F3, G3, A3, as3, R3, f3, s3, rfl, hle, pd3, na3, q3, k3, m3⟩
    by_cases hlt : j < rs.length
    · have hv : j < vs.length := by rw [hlen]; exact hlt
      have e1 : vs.drop j = vs[j] :: vs.drop (j + 1) := List.drop_eq_getElem_cons hv
      have e2 : rs.drop j = rs[j] :: rs.drop (j + 1) := List.drop_eq_getElem_cons hlt
      rw [e1, e2] at pd3
      rw [e2] at m3
      refine .inr ⟨⟨vs, vs[j], SqL.of q3.1, by simp [hv]⟩, fun σ4 H4 => ∃ F4 G4 A4 as4, Rel T F4 H4 σ4 G4 A4 ∧ Fr c.pr σ σ4 ∧ Step F H A F4 H4 A4 ∧ Pend T F4 H4 A4 (vs.drop (j + 1)) (rs.drop (j + 1)) as4 ∧ NwA H A as4 ∧ (H4 q = some (.lst vs) ∧ ∀ j, A4 j ≠ some q) ∧ q ∉ as4 ∧ MtS T W c.pr σ F H A (forL fa (evSs c qb) (rs.drop (j + 1)) G4) Z,
        fun σ4 H4 ⟨F4, G4, A4, as4, q1, q2, q3, q4, q5, q6⟩ => ⟨rs.length - (j + 1), by omega, F4, G4, A4, as4, q1, q2, q3, rfl, hlt, q4, q5, q6⟩, fun v H4 y => ?_⟩
      obtain ⟨rfl, y⟩ := y
      have hv2 : vs[j] = v := by
        have := y vs (SqL.of q3.1)
        rw [List.getElem?_eq_getElem hv] at this
        exact Option.some.inj this
      rw [hv2] at pd3
      unfold forL at m3
      cases h4 : fa rs[j] G3 with
      | none => simp [h4, MtS] at m3
      | some G4 =>
        simp only [h4] at m3
        rw [← hf0] at h4
        obtain ⟨A5, as5, R5, s5, f5, pd5, na5, own5, sub5⟩ := asgL_ok R0 R3 s3 pd3 na3 h4
        have q5 : H4 q = some (.lst vs) ∧ ∀ j, A5 j ≠ some q := ⟨q3.1, fun j z => by
          rcases own5 j q z with ⟨k, w⟩ | w
          · exact q3.2 k w
          · exact k3 w⟩
        have k5 : q ∉ as5 := fun z => k3 (sub5 q z)
        have f05 := f3.trans f5
        refine ⟨F3, G4, A5, R5, ?_⟩
        cases h5 : evSs c qb G4 with
        | st => rw [h5] at m3; exact m3.elim
        | nx G6 => rw [h5] at m3; exact fun σ6 F6 H6 A6 R6 s6 f6 => ⟨F6, G6, A6, as5, R6, f05.trans f6, s5.trans s6, pd5.step s6, na5, nqs s6 q5, k5, m3⟩
        | ct G6 => rw [h5] at m3; exact fun σ6 F6 H6 A6 R6 s6 f6 => ⟨F6, G6, A6, as5, R6, f05.trans f6, s5.trans s6, pd5.step s6, na5, nqs s6 q5, k5, m3⟩
        | bk G6 => rw [h5] at m3; exact fun σ6 F6 H6 A6 R6 s6 f6 => m3 σ6 F6 H6 A6 R6 (s5.trans s6) (f05.trans f6)
        | rt r G6 => rw [h5] at m3; exact fun σ6 F6 H6 A6 v R6 s6 f6 rp nw => m3 σ6 F6 H6 A6 v R6 (s5.trans s6) (f05.trans f6) rp (nw.back s5)
        | ex x1 G6 => rw [h5] at m3; exact fun σ6 F6 H6 A6 cls d R6 s6 f6 e6 => m3 σ6 F6 H6 A6 cls d R6 (s5.trans s6) (f05.trans f6) e6
    · have he : j = rs.length := by omega
      subst he
      rw [List.drop_length] at m3
      exact .inl ⟨⟨vs, SqL.of q3.1, by rw [hlen]; exact Nat.le_refl _⟩, m3 σ3 F3 H3 A3 R3 s3 f3⟩
  · rw [if_neg hz] at m1
    exact m1.elim
end
end Mp

/-! Mp16: what a law's text gives to each def's body; words for derivations. -/
namespace Mp
open PySem PySem.Spec L2
open PyProof.Rows hiding St

/-- one def as it is called: its datum, its parameters' names -/
structure Fn where
  d : He.DefD
  ps : List Str
/-- a class, as isinstance, except ask for it -/
inductive Cr where
  | ty (id : String)
  | own (x : Str)
def Cr.val (K : PySem.W.Frag) : Cr → Value
  | .ty id => .type id
  | .own x => .ref (He.ga K x)
def Cr.v (K : PySem.W.Frag) : Cr → V
  | .ty id => .ty id
  | .own x => .ref (He.ga K x)
/-- a class of the text: its name, its fields in order, its methods: name, number, def -/
structure LC where
  nm : Str
  flds : List Str
  ms : List (Str × Nat × Nat)
/-- a class of exceptions: its name, its field's name -/
structure XC where
  nm : Str
  fld : Str
structure Lw where
  fn : List Fn
  cs : List (Str × D)
  fr : List Str
  isl : List (Ty × Cr)
  cls : List LC
  exs : List XC
  fa : List He.Fa
  bs : List (PySem.W.Frag → Bool)
def txOf (K : PySem.W.Frag) (L : Lw) : Tx := ⟨K, fun c => match L.cls[c]? with
  | some k => ⟨He.ga K k.nm, k.flds⟩
  | none => ⟨0, []⟩, L.cls.length, fun c => match L.exs[c]? with
  | some k => He.ga K k.nm
  | none => 0, fun c => match L.exs[c]? with
  | some k => k.fld
  | none => Str.empty, L.exs.length⟩
def nfOf (L : Lw) (c : Nat) : Nat := match L.cls[c]? with
  | some k => k.flds.length
  | none => 0
def mtOf (L : Lw) (c m : Nat) : Option Nat := match L.cls[c]? with
  | some k => (k.ms.find? fun p => p.2.1 == m).map (·.2.2)
  | none => none
/-- the world of a def's body -/
structure Env (X : Cx) (T : Tx) (c : Cf) (k : Nat) (L : Lw) : Prop where
  tx : T = txOf X.K L
  hT : TxOk T
  hX : ExOk T
  calm : X.calm = true
  room : Room (5 * k + 4) X.A
  nf : NfOk T c.nf
  mt : c.mt = mtOf L
  fns : ∀ (g : Nat) (f : Fn), L.fn[g]? = some f → ∃ fd, FunD X.K f.d.name f.d.qual f.d.params f.d.body f.d.scope (f.d.dvs X.K) (f.d.kws X.K) (He.fAd X.K f.d.at_) fd ∧ FnOk X.prog X.w X.K X.mg X.base (L2.CX X.prog X.w) (5 * k) (He.fAd X.K f.d.at_) fd f.ps (spD T (c.cf g) f.ps.length)
  fnm : ∀ (g : Nat) (f : Fn), L.fn[g]? = some f → f.d.at_.2 = none → f.d.name = f.d.at_.1 → X.mg f.d.name = some (.ref (He.fAd X.K f.d.at_))
  cs : ∀ p ∈ L.cs, ∃ u v, X.mg p.1 = some u ∧ RelV v u ∧ ∀ F, Rep T F v p.2
  fr : ∀ x, L.fr.contains x = true → X.mg x = none
  isl : ∀ p ∈ L.isl, IsiOk T p.1 (p.2.val X.K)
  own : ∀ x, He.Fa.glo x ∈ L.fa → X.mg x = some (.ref (He.ga X.K x))
  fa : ∀ f ∈ L.fa, f.ok X.K = true
  bs : ∀ b ∈ L.bs, b X.K = true
  eqs : EqSys X T c k
section
variable {X : Cx} {c : Cf} {T : Tx} {W : WX} {k : Nat} {L : Lw} {a b d e : Expr} {x y z : E} {l : Es} {es : List Expr} {pos p apos : Pos}
theorem Env.hK (V : Env X T c k L) : T.K = X.K := by rw [V.tx]; rfl
theorem Env.room0 (V : Env X T c k L) : Room (5 * k) X.A := V.room.mono (by omega)
theorem Env.un (V : Env X T c k L) : X.A.units + 65 < cLine := by have := V.room.un; omega
theorem Env.cmps (V : Env X T c k L) : CmpsOk X T c := copX_ok V.eqs V.room
theorem Env.blk (V : Env X T c k L) {s : Shared} {H : Hp} {sc : Scope} {ce : PySem.Env} {fp : List Addr} : Env (X.blk s H sc ce fp) T c k L :=
  ⟨V.tx, V.hT, V.hX, V.calm, V.room, V.nf, V.mt, V.fns, V.fnm, V.cs, V.fr, V.isl, V.own, V.fa, V.bs, ⟨V.eqs.hK, V.eqs.ea, V.eqs.ci, V.eqs.kb, V.eqs.own, V.eqs.nf, V.eqs.nt⟩⟩
/-- keywords, no defaults -/
theorem kb_of {K : PySem.W.Frag} {nm qual : Str} {params : Arguments} {body : List Stmt} {scope : Scope} {kws : List (Str × V)} {f : Addr} {fd : FuncData} {ps ks : List Str} {n : Nat} {pm : List (Sum Nat D)} (F : FunD K nm qual params body scope [] kws f fd) (hK : X.K = K)
    (h : ∀ (kV doc pm' : Value) (an : Option Addr) (cdv ct : Value) (us ws : List Value), us.length = n → ws.length = ks.length → ∃ all, PermV (us ++ ws) pm all ∧ bindArgs (PySem.W.fnOf nm qual params body scope .none kV doc pm' an cdv ct) ⟨us, ks.zip ws⟩ = pure (ps.zip all)) : KBp X fd ps n ks pm := by
  intro s us ws _ h1 h2
  obtain ⟨oc, od, dV, kV, doc, pm', an, cdv, ct, osl, rfl, lk, hcd, hD, hK'⟩ := F.ex
  rcases hD with ⟨_, rfl⟩ | ⟨e, _⟩
  · obtain ⟨all, q1, q2⟩ := h kV doc pm' an cdv ct us ws h1 h2
    exact ⟨all, q1, .of_eq q2⟩
  · exact absurd rfl e
/-- binding of a def without defaults, every parameter written -/
def BindN (f : Fn) : Prop := ∀ (kV doc pm : Value) (an : Option Addr) (cdv ct : Value) (us : List Value), us.length = f.ps.length → bindArgs (PySem.W.fnOf f.d.name f.d.qual f.d.params f.d.body f.d.scope .none kV doc pm an cdv ct) ⟨us, []⟩ = pure (f.ps.zip us)
def BindK (f : Fn) (n : Nat) (ks : List Str) (pm : List (Sum Nat D)) : Prop := ∀ (kV doc pm' : Value) (an : Option Addr) (cdv ct : Value) (us ws : List Value), us.length = n → ws.length = ks.length →
  ∃ all, PermV (us ++ ws) pm all ∧ bindArgs (PySem.W.fnOf f.d.name f.d.qual f.d.params f.d.body f.d.scope .none kV doc pm' an cdv ct) ⟨us, ks.zip ws⟩ = pure (f.ps.zip all)
theorem Env.at_ (V : Env X T c k L) {g : Nat} {f : Fn} (hf : L.fn[g]? = some f) (h1 : f.d.at_.2 = none) (h2 : f.d.name = f.d.at_.1) (hd : f.d.dfl = []) (bn : BindN f) : ∃ fd, FunD X.K f.d.name f.d.qual f.d.params f.d.body f.d.scope [] (f.d.kws X.K) (He.fAd X.K f.d.at_) fd ∧ FnAt X T (c.cf g) (5 * k) (He.fAd X.K f.d.at_) fd f.ps ∧ X.mg f.d.name = some (.ref (He.fAd X.K f.d.at_)) := by
  obtain ⟨fd, F, G⟩ := V.fns g f hf
  have hm := V.fnm g f hf h1 h2
  have e : f.d.dvs X.K = [] := by unfold He.DefD.dvs; rw [hd]; rfl
  rw [e] at F
  exact ⟨fd, F, ⟨G, F.bindsN bn, F.kp⟩, hm⟩
theorem w_call (V : Env X T c k L) (tk : TakesF X W) (g : Nat) {f : Fn} (hf : L.fn[g]? = some f) (h1 : f.d.at_.2 = none) (h2 : f.d.name = f.d.at_.1) (hd : f.d.dfl = []) (bn : BindN f) (hg : Gl X f.d.name) (h : DA X c T W (e :: es) l) (hl : l.len = f.ps.length) (hdb : (f.d.name == ("__debug__" : Str)) = false := by decide)
    (he : starEach (e :: es) X.env = (false, eval e X.env) :: starEach es X.env := by rfl) (hpl : (backTo pos (starEach es X.env)).any (·.1) = false := by rfl) : DE X c T W (.Call (.Name f.d.name p) (e :: es) [] pos) (.call g l) := by
  obtain ⟨fd, _, G, hm⟩ := V.at_ hf h1 h2 hd bn
  exact de_call V.nf G V.room0 hg hm tk h hl hdb he hpl
theorem w_call0 (V : Env X T c k L) (tk : TakesF X W) (g : Nat) {f : Fn} (hf : L.fn[g]? = some f) (h1 : f.d.at_.2 = none) (h2 : f.d.name = f.d.at_.1) (hd : f.d.dfl = []) (bn : BindN f) (hg : Gl X f.d.name) (hl : f.ps.length = 0) (hdb : (f.d.name == ("__debug__" : Str)) = false := by decide) :
    DE X c T W (.Call (.Name f.d.name p) [] [] pos) (.call g .nil) := by
  obtain ⟨fd, _, G, hm⟩ := V.at_ hf h1 h2 hd bn
  exact de_call0 V.nf G V.room0 hg hm tk hl hdb
theorem w_callK0 (V : Env X T c k L) (tk : TakesF X W) (g : Nat) {f : Fn} {kws : List Keyword} {ks : List Str} {pm : List (Sum Nat D)} (hf : L.fn[g]? = some f) (h1 : f.d.at_.2 = none) (h2 : f.d.name = f.d.at_.1) (hd : f.d.dfl = []) (bn : BindN f) (bk : BindK f 0 ks pm) (hg : Gl X f.d.name) (h : DK X c T W kws l) (hl : l.len = ks.length) (hpm : pm.length = f.ps.length)
    (hdb : (f.d.name == ("__debug__" : Str)) = false := by decide)
    (hall : (backToKw pos (keywordEach kws X.env)).all (·.1.isSome) = true := by rfl) (hks : (backToKw pos (keywordEach kws X.env)).filterMap (·.1) = ks := by rfl)
    (hpl : ((backTo pos (starEach [] X.env)).any (·.1) || (backToKw pos (keywordEach kws X.env)).any (·.1.isNone)) = false := by rfl) : DE X c T W (.Call (.Name f.d.name p) [] kws pos) (.callK g l pm) := by
  obtain ⟨fd, F, G, hm⟩ := V.at_ hf h1 h2 hd bn
  exact de_callK0 V.nf G V.room0 hg hm tk h (kb_of F rfl bk) hl hpm hall hks hdb hpl
theorem w_callK (V : Env X T c k L) (tk : TakesF X W) (g n : Nat) {f : Fn} {kws : List Keyword} {ks : List Str} {pm : List (Sum Nat D)} {l2 : Es} (hf : L.fn[g]? = some f) (h1 : f.d.at_.2 = none) (h2 : f.d.name = f.d.at_.1) (hd : f.d.dfl = []) (bn : BindN f) (bk : BindK f n ks pm) (hg : Gl X f.d.name) (ha : DA X c T W (e :: es) l) (h : DK X c T W kws l2) (hl : l.len = n) (hl2 : l2.len = ks.length) (hpm : pm.length = f.ps.length)
    (hdb : (f.d.name == ("__debug__" : Str)) = false := by decide)
    (hall : (backToKw pos (keywordEach kws X.env)).all (·.1.isSome) = true := by rfl) (hks : (backToKw pos (keywordEach kws X.env)).filterMap (·.1) = ks := by rfl)
    (he : starEach (e :: es) X.env = (false, eval e X.env) :: starEach es X.env := by rfl)
    (hpl : ((backTo pos (starEach (e :: es) X.env)).any (·.1) || (backToKw pos (keywordEach kws X.env)).any (·.1.isNone)) = false := by rfl) : DE X c T W (.Call (.Name f.d.name p) (e :: es) kws pos) (.callK g (l.app l2) pm) := by
  obtain ⟨fd, F, G, hm⟩ := V.at_ hf h1 h2 hd bn
  exact de_callK V.nf G V.room0 hg hm tk ha h (kb_of F rfl bk) hl hl2 hpm hall hks hdb he hpl
/-! constants -/
theorem w_int {i : Int} {j : Nat} : DE X c T W (.Constant (.int i) j pos) (.k (.int i)) := de_k pe_int
theorem w_str {i : Str} {j : Nat} : DE X c T W (.Constant (.str i) j pos) (.k (.str i)) := de_k pe_str
theorem w_bl {i : Bool} {j : Nat} : DE X c T W (.Constant (.bool i) j pos) (.k (.bl i)) := de_k pe_bl
theorem w_non {j : Nat} : DE X c T W (.Constant .none j pos) (.k .non) := de_k pe_non
theorem w_con (V : Env X T c k L) {x : Str} {d : D} (i : Nat) (hi : L.cs[i]? = some (x, d)) (hg : Gl X x) (hd : (x == ("__debug__" : Str)) = false := by decide) : DE X c T W (.Name x pos) (.k d) := by
  obtain ⟨u, v, hm, rv, r⟩ := V.cs _ (List.mem_of_getElem? hi)
  exact pe_imp (pe_glob hg hm rv hd) fun σ H Q ⟨F, G, A, R0, m⟩ => by
    unfold evE at m
    exact m F H A R0 Step.refl v (.d (r F)) Nw.d
/-! operators -/
theorem w_op (V : Env X T c k L) (o : Op2) (ha : DE X c T W a x) (hb : DE X c T W b y) : DE X c T W (.BinOp a (opOf o) b pos) (.op o x y) := de_op V.hK.symm o ha hb
theorem w_cm (V : Env X T c k L) (o : Cm) (ha : DE X c T W a x) (hb : DE X c T W b y) (hm : behindInMarks (cmOf o) b = false := by first | exact nobehind _ (by decide) (by decide) | rfl) : DE X c T W (.Compare a [cmOf o] [b] pos) (.cm o x y) := de_cm V.cmps o ha hb hm
theorem wt_cm (V : Env X T c k L) (o : Cm) (ha : DE X c T W a x) (hb : DE X c T W b y) (hm : behindInMarks (cmOf o) b = false := by first | exact nobehind _ (by decide) (by decide) | rfl) : DT X c T W (.Compare a [cmOf o] [b] pos) (.cm o x y) := dt_cm V.cmps o ha hb hm
theorem w_ch (V : Env X T c k L) (o q : Cm) (ha : DE X c T W a x) (hb : DE X c T W b y) (hd : DE X c T W d z) (hm : lastMarks [cmOf o, cmOf q] [b, d] = false := by rfl) : DE X c T W (.Compare a [cmOf o, cmOf q] [b, d] pos) (.ch o q x y z) := de_ch V.cmps o q ha hb hd hm
/-! built-ins by name -/
theorem w_bi {nm : Str} {id : String} (V : Env X T c k L) (b : Bi) (hr : CallR X (.builtin id) (rBi T b)) (hv : bootBuiltins nm = some (.builtin id)) (hg : Gl X nm) (hf : L.fr.contains nm = true) (h : DA X c T W (e :: es) l) (hn : nm ≠ "__name__" := by decide) (hdb : (nm == ("__debug__" : Str)) = false := by decide)
    (he : starEach (e :: es) X.env = (false, eval e X.env) :: starEach es X.env := by rfl) (hpl : (backTo pos (starEach es X.env)).any (·.1) = false := by rfl) : DE X c T W (.Call (.Name nm p) (e :: es) [] pos) (.bi b l) := de_bi b hr hg (V.fr _ hf) hv h hn hdb he hpl
theorem w_bt {nm : Str} {id : String} (V : Env X T c k L) (b : Bi) (hr : CallR X (.type id) (rBi T b)) (hv : bootBuiltins nm = some (.type id)) (hg : Gl X nm) (hf : L.fr.contains nm = true) (h : DA X c T W (e :: es) l) (hn : nm ≠ "__name__" := by decide) (hdb : (nm == ("__debug__" : Str)) = false := by decide)
    (he : starEach (e :: es) X.env = (false, eval e X.env) :: starEach es X.env := by rfl) (hpl : (backTo pos (starEach es X.env)).any (·.1) = false := by rfl) : DE X c T W (.Call (.Name nm p) (e :: es) [] pos) (.bi b l) := de_bt b hr hg (V.fr _ hf) hv h hn hdb he hpl
/-- isinstance(a, T), T a built-in class -/
theorem w_isi {nt : Str} {id : String} {t : Ty} {pt : Pos} (V : Env X T c k L) (i : Nat) (hi : L.isl[i]? = some (t, .ty id)) (ha : DE X c T W a x) (hv : bootBuiltins nt = some (.type id)) (hg : Gl X "isinstance") (hgt : Gl X nt) (hf : L.fr.contains "isinstance" = true) (hft : L.fr.contains nt = true) (hnt : nt ≠ "__name__" := by decide) (hdt : (nt == ("__debug__" : Str)) = false := by decide)
    (h1 : starEach [.Name nt pt] X.env = (false, eval (.Name nt pt) X.env) :: starEach [] X.env := by rfl)
    (he : starEach [a, .Name nt pt] X.env = (false, eval a X.env) :: starEach [.Name nt pt] X.env := by rfl) (hpl : (backTo pos (starEach [.Name nt pt] X.env)).any (·.1) = false := by rfl) : DE X c T W (.Call (.Name "isinstance" p) [a, .Name nt pt] [] pos) (.bi (.isi t) (.cons x .nil)) :=
  de_isi V.hK V.hT V.hX hg (V.fr _ hf) boot_isinstance ha (pe_bltn (v := .ty id) hgt (V.fr _ hft) hv rfl hnt hdt) (.ty id) (V.isl _ (List.mem_of_getElem? hi)) (by decide) (by decide) h1 he hpl
theorem w_rg1 {tg : Expr} (V : Env X T c k L) (hg : Gl X "range") (hf : L.fr.contains "range" = true) (ha : DA X c T W [a] l) (hs : starEach [a] X.env = [(false, eval a X.env)] := by rfl) : DI X c T W tg (.Call (.Name "range" p) [a] [] pos) (.rg1 l) := di_rg1 hg (V.fr _ hf) ha hs
theorem w_rg2 {tg : Expr} (V : Env X T c k L) (hg : Gl X "range") (hf : L.fr.contains "range" = true) (ha : DA X c T W [a, b] l) (hs : starEach [a, b] X.env = [(false, eval a X.env), (false, eval b X.env)] := by rfl) (hs2 : starEach [b] X.env = [(false, eval b X.env)] := by rfl) : DI X c T W tg (.Call (.Name "range" p) [a, b] [] pos) (.rg2 l) := di_rg2 hg (V.fr _ hf) ha hs hs2
theorem w_en {elts : List Expr} {kk : Nat} {tpos : Pos} (V : Env X T c k L) (hg : Gl X "enumerate") (hf : L.fr.contains "enumerate" = true) (ha : DA X c T W [e] l) (hs : starEach [e] X.env = [(false, eval e X.env)] := by rfl) : DI X c T W (.Tuple elts kk tpos) (.Call (.Name "enumerate" p) [e] [] pos) (.en l) := di_en V.hK hg (V.fr _ hf) ha hs
theorem w_zp {elts : List Expr} {kk : Nat} {tpos : Pos} (V : Env X T c k L) (hg : Gl X "zip") (hf : L.fr.contains "zip" = true) (ha : DA X c T W [a, b] l) (hs : starEach [a, b] X.env = (false, eval a X.env) :: starEach [b] X.env := by rfl) (hpl : (backTo pos (starEach [b] X.env)).any (·.1) = false := by rfl) : DI X c T W (.Tuple elts kk tpos) (.Call (.Name "zip" p) [a, b] [] pos) (.zp l) := di_zp V.hK hg (V.fr _ hf) ha hs hpl
end
section
variable {X : Cx} {c : Cf} {T : Tx} {W : WX} {k : Nat} {L : Lw} {tg elt iter : Expr} {x : E} {ifs : List Expr} {pos : Pos} {t : Tg} {it : It} {cd : Eo} {scope : Scope} {own : List (Str × Nat)}
theorem w_lc (V : Env X T c k L) (hN : X.N.Nodup) (hi : DI X c T W tg iter it) (ok : BlkOk X.N X.env.scope scope own) (hsub : ∀ j ∈ tgL t, j ∈ own.map (·.2))
    (hg : ∀ (s : Shared) (H : Hp) (C : Addr) (cl : List (Str × Addr)) (fp : List Addr), Env (X.blk s H scope (compEnvC scope cl C X.env) fp) T c k L → DG (X.blk s H scope (compEnvC scope cl C X.env) fp) T false tg t)
    (ht : ∀ (s : Shared) (H : Hp) (C : Addr) (cl : List (Str × Addr)) (fp : List Addr), Env (X.blk s H scope (compEnvC scope cl C X.env) fp) T c k L → DC (X.blk s H scope (compEnvC scope cl C X.env) fp) c T WF ifs cd)
    (he : ∀ (s : Shared) (H : Hp) (C : Addr) (cl : List (Str × Addr)) (fp : List Addr), Env (X.blk s H scope (compEnvC scope cl C X.env) fp) T c k L → DE (X.blk s H scope (compEnvC scope cl C X.env) fp) c T WF elt x) (hs : ∀ x, foldedSetIterable iter X.env x = pure x := by intro _; rfl) :
    DE X c T W (.ListComp elt [⟨tg, iter, ifs, 0⟩] scope pos) (.lc (own.map (·.2)) t it cd x) :=
  de_lc V.nf V.calm hN hi ok hsub (fun s H C cl fp => hg s H C cl fp V.blk) (fun s H C cl fp => ht s H C cl fp V.blk) (fun s H C cl fp => he s H C cl fp V.blk) hs
theorem w_setLc {i : Nat} {w : Str} {py spos : Pos} (V : Env X T c k L) (hN : X.N.Nodup) (hy : X.N[i]? = some w) (hyl : X.env.scope.names.lookup w = some .local) (hsw : swapsWith (.ListComp elt [⟨tg, iter, ifs, 0⟩] scope pos) (some (.Name w py)) spos.line X.env = pure true) (hi : DI X c T W tg iter it) (ok : BlkOk X.N X.env.scope scope own) (hsub : ∀ j ∈ tgL t, j ∈ own.map (·.2))
    (hg : ∀ (s : Shared) (H : Hp) (C : Addr) (cl : List (Str × Addr)) (fp : List Addr), Env (X.blk s H scope (compEnvC scope cl C X.env) fp) T c k L → DG (X.blk s H scope (compEnvC scope cl C X.env) fp) T false tg t)
    (ht : ∀ (s : Shared) (H : Hp) (C : Addr) (cl : List (Str × Addr)) (fp : List Addr), Env (X.blk s H scope (compEnvC scope cl C X.env) fp) T c k L → DC (X.blk s H scope (compEnvC scope cl C X.env) fp) c T WF ifs cd)
    (he : ∀ (s : Shared) (H : Hp) (C : Addr) (cl : List (Str × Addr)) (fp : List Addr), Env (X.blk s H scope (compEnvC scope cl C X.env) fp) T c k L → DE (X.blk s H scope (compEnvC scope cl C X.env) fp) c T WF elt x) (hs : ∀ x, foldedSetIterable iter X.env x = pure x := by intro _; rfl) :
    DS X c T W (.Assign [.Name w py] (.ListComp elt [⟨tg, iter, ifs, 0⟩] scope pos) spos) (.asg (.n i) (.lc (own.map (·.2)) t it cd x)) :=
  ds_setLc V.nf V.calm hN hy hyl hsw hi ok hsub (fun s H C cl fp => hg s H C cl fp V.blk) (fun s H C cl fp => ht s H C cl fp V.blk) (fun s H C cl fp => he s H C cl fp V.blk) hs
end
section
variable {X : Cx} {c : Cf} {T : Tx} {W : WX} {k : Nat} {L : Lw} {a : Expr} {x : E} {p pos : Pos}
/-- isinstance(a, C), C a class of the text -/
theorem w_isiC {nt : Str} {t : Ty} {pt : Pos} (V : Env X T c k L) (i : Nat) (hi : L.isl[i]? = some (t, .own nt)) (ho : He.Fa.glo nt ∈ L.fa) (ha : DE X c T W a x) (hg : Gl X "isinstance") (hgt : Gl X nt) (hf : L.fr.contains "isinstance" = true) (hdt : (nt == ("__debug__" : Str)) = false := by decide)
    (h1 : starEach [.Name nt pt] X.env = (false, eval (.Name nt pt) X.env) :: starEach [] X.env := by rfl)
    (he : starEach [a, .Name nt pt] X.env = (false, eval a X.env) :: starEach [.Name nt pt] X.env := by rfl) (hpl : (backTo pos (starEach [.Name nt pt] X.env)).any (·.1) = false := by rfl) : DE X c T W (.Call (.Name "isinstance" p) [a, .Name nt pt] [] pos) (.bi (.isi t) (.cons x .nil)) :=
  de_isi V.hK V.hT V.hX hg (V.fr _ hf) boot_isinstance ha (pe_glob (v := .ref (He.ga X.K nt)) hgt (V.own _ ho) rfl hdt) (.own _) (V.isl _ (List.mem_of_getElem? hi)) (by decide) (by decide) h1 he hpl
end
/-- what is shown of each def -/
def Body (L : Lw) (N : List Str) (f : Fn) (pr : Bool) (b : Ss) : Prop := ∀ {P : PySem.Program} {w : World} {K : PySem.W.Frag} {mg : Str → Option Value} {base : Heap} {cdv : Value} {A : Around} {outer : List PySem.Env} {s : Shared} {H : Hp} {E : XK} {T : Tx} {c : Cf} {W : WX} {k : Nat},
  Env (cxOf (L2.CX P w) P w K mg base N f.d.qual f.d.scope (He.fAd K f.d.at_) cdv A outer s H E) T c k L → c.pr = pr → Takes (cxOf (L2.CX P w) P w K mg base N f.d.qual f.d.scope (He.fAd K f.d.at_) cdv A outer s H E) W →
  DSs (cxOf (L2.CX P w) P w K mg base N f.d.qual f.d.scope (He.fAd K f.d.at_) cdv A outer s H E) c T W f.d.body b
/-- exceptions pass (of a def's own context) -/
theorem passX {P : PySem.Program} {w : World} {K : PySem.W.Frag} {mg : Str → Option Value} {base : Heap} {N : List Str} {qual : Str} {scope : Scope} {fa : Addr} {cdv : Value} {A : Around} {outer : List PySem.Env} {s : Shared} {H : Hp} {E : XK} :
    PassesOwn (model P w) (cxOf (L2.CX P w) P w K mg base N qual scope fa cdv A outer s H E).A (cxOf (L2.CX P w) P w K mg base N qual scope fa cdv A outer s H E).env (cxOf (L2.CX P w) P w K mg base N qual scope fa cdv A outer s H E).xe := passes_of (X := cxOf (L2.CX P w) P w K mg base N qual scope fa cdv A outer s H E) rfl
end Mp

/-! Mp17: all defs of a law together. -/
namespace Mp
open PySem PySem.Spec L2
open PyProof.Rows hiding St

/-! ### facts of the written part, as they are computed -/
def clsB (K : PySem.W.Frag) (L : Lw) (k : LC) : Bool :=
  (He.Fa.cls k.nm).ok K && (k.flds.all (fun f => (He.Fa.noat k.nm f).ok K) && (decide k.flds.Nodup && (decide (k.flds.length ≤ 1000) &&
  (He.eqO (PySem.W.findIn K (.ref (He.ga K k.nm)) "__class__") (some (some (.builtin "object.__class__"))) && (He.eqO (PySem.W.specialIn K (.builtin "object.__class__") "__get__") (some (some (.builtin "getset_descriptor.__get__"))) &&
  (decide (PySem.W.takesIn K (.builtin "object.__class__") = some true) && (decide (PySem.W.mroIn K (He.ga K k.nm) (.type "object") = some true) &&
  (["NoneType", "bool", "int", "str", "tuple", "list"].all (fun t => PySem.W.notFirst K (He.ga K k.nm) (.type t) && decide (PySem.W.subIn K (.ref (He.ga K k.nm)) (.type t) = some false)) &&
  (L.cls.all (fun k' => PySem.W.notFirst K (He.ga K k.nm) (.ref (He.ga K k'.nm))) &&
  k.ms.all (fun p => if p.2.1 = 0 then (match L.fn[p.2.2]? with
    | some f => decide (f.d.at_ = (k.nm, some ("__eq__" : Str))) && (decide (f.ps.length = 2) && (decide (f.d.dfl = []) && (He.eqO (PySem.W.findIn K (.ref (He.ga K k.nm)) "__eq__") (some (some (.ref (He.ma K (He.ga K k.nm) "__eq__")))) &&
      (PySem.W.isFn K (.ref (He.ma K (He.ga K k.nm) "__eq__")) && He.eqO (PySem.W.findIn K (.ref (He.ga K k.nm)) "__ne__") (some (some (.builtin "object.__ne__")))))))
    | none => false) else true))))))))))
def excB (K : PySem.W.Frag) (k : XC) : Bool :=
  (PySem.W.clsIn K (He.ga K k.nm)).isSome && (He.eqO (PySem.W.findIn K (.ref (He.ga K k.nm)) "__getattribute__") (some (some (.builtin "BaseException.__getattribute__"))) && (He.eqO (PySem.W.findIn K (.ref (He.ga K k.nm)) "__getattr__") (some none) &&
  (decide (PySem.W.subIn K (.ref (He.ga K k.nm)) (.type "BaseException") = some true) &&
  (He.eqO (PySem.W.findIn K (.ref (He.ga K k.nm)) "__class__") (some (some (.builtin "object.__class__"))) && (He.eqO (PySem.W.specialIn K (.builtin "object.__class__") "__get__") (some (some (.builtin "getset_descriptor.__get__"))) &&
  (decide (PySem.W.takesIn K (.builtin "object.__class__") = some true) && decide (PySem.W.mroIn K (He.ga K k.nm) (.type "object") = some true)))))))
def difB (K : PySem.W.Frag) : List Str → Bool
  | [] => true
  | x :: l => l.all (fun y => !decide (He.ga K x = He.ga K y)) && difB K l
/-- isinstance: the plain kinds, the text's classes -/
def isiB (K : PySem.W.Frag) (L : Lw) (t : Ty) (u : Value) : Bool :=
  decide (PySem.W.kitOne K (.type "NoneType") u = some (isTy t .non)) && (decide (PySem.W.kitOne K (.type "bool") u = some (isTy t (.bl true))) && (decide (PySem.W.kitOne K (.type "int") u = some (isTy t (.int 0))) &&
  (decide (PySem.W.kitOne K (.type "str") u = some (isTy t (.str Str.empty))) && (decide (PySem.W.kitOne K (.type "tuple") u = some (isTy t (.tup []))) && (decide (PySem.W.kitOne K (.type "list") u = some (isTy t (.lst []))) &&
  ((List.range L.cls.length).all (fun c => decide (PySem.W.kitOne K (.ref ((txOf K L).ci c).addr) u = some (isTy t (.ins c [])))) && (List.range L.exs.length).all (fun c => decide (PySem.W.kitOne K (.ref ((txOf K L).ea c)) u = some (isTy t (.exc c []))))))))))
section
variable {K : PySem.W.Frag} {L : Lw}
theorem isTy_bl {t : Ty} {b : Bool} : isTy t (.bl b) = isTy t (.bl true) := by cases t <;> rfl
theorem isTy_int {t : Ty} {b : Int} : isTy t (.int b) = isTy t (.int 0) := by cases t <;> rfl
theorem isTy_str {t : Ty} {b : Str} : isTy t (.str b) = isTy t (.str Str.empty) := by cases t <;> rfl
theorem isTy_tup {t : Ty} {l : List D} : isTy t (.tup l) = isTy t (.tup []) := by cases t <;> rfl
theorem isTy_lst {t : Ty} {l : List D} : isTy t (.lst l) = isTy t (.lst []) := by cases t <;> rfl
theorem isTy_ins {t : Ty} {c : Nat} {l : List D} : isTy t (.ins c l) = isTy t (.ins c []) := by cases t <;> rfl
theorem isTy_exc {t : Ty} {c : Nat} {l : List D} : isTy t (.exc c l) = isTy t (.exc c []) := by cases t <;> rfl
theorem isiB_ok {t : Ty} {u : Value} (h : isiB K L t u = true) : IsiOk (txOf K L) t u := by
  obtain ⟨h1, h⟩ := He.ba h
  obtain ⟨h2, h⟩ := He.ba h
  obtain ⟨h3, h⟩ := He.ba h
  obtain ⟨h4, h⟩ := He.ba h
  obtain ⟨h5, h⟩ := He.ba h
  obtain ⟨h6, h⟩ := He.ba h
  obtain ⟨h7, h8⟩ := He.ba h
  exact ⟨of_decide_eq_true h1, fun b => by rw [isTy_bl]; exact of_decide_eq_true h2, fun b => by rw [isTy_int]; exact of_decide_eq_true h3, fun b => by rw [isTy_str]; exact of_decide_eq_true h4, fun b => by rw [isTy_tup]; exact of_decide_eq_true h5, fun b => by rw [isTy_lst]; exact of_decide_eq_true h6,
    fun c l hc => by rw [isTy_ins]; exact of_decide_eq_true (List.all_eq_true.mp h7 c (List.mem_range.mpr hc)), fun c l hc => by rw [isTy_exc]; exact of_decide_eq_true (List.all_eq_true.mp h8 c (List.mem_range.mpr hc))⟩
theorem tx_ci {c : Nat} {k : LC} (h : L.cls[c]? = some k) : (txOf K L).ci c = ⟨He.ga K k.nm, k.flds⟩ := by
  show (match L.cls[c]? with | some k => (⟨He.ga K k.nm, k.flds⟩ : CI) | none => ⟨0, []⟩) = _
  rw [h]
theorem tx_ea {c : Nat} {k : XC} (h : L.exs[c]? = some k) : (txOf K L).ea c = He.ga K k.nm := by
  show (match L.exs[c]? with | some k => He.ga K k.nm | none => 0) = _
  rw [h]
theorem tx_en {c : Nat} {k : XC} (h : L.exs[c]? = some k) : (txOf K L).en c = k.fld := by
  show (match L.exs[c]? with | some k => k.fld | none => Str.empty) = _
  rw [h]
theorem cls_at {c : Nat} (h : c < L.cls.length) : ∃ k, L.cls[c]? = some k ∧ k ∈ L.cls := ⟨L.cls[c], by simp [h], List.getElem_mem h⟩
theorem exs_at {c : Nat} (h : c < L.exs.length) : ∃ k, L.exs[c]? = some k ∧ k ∈ L.exs := ⟨L.exs[c], by simp [h], List.getElem_mem h⟩
theorem clsB_ok (h : L.cls.all (clsB K L) = true) : TxOk (txOf K L) := fun c hc => by
  obtain ⟨k, hk, hm⟩ := cls_at hc
  have h := List.all_eq_true.mp h k hm
  obtain ⟨h1, h⟩ := He.ba h
  obtain ⟨h2, h⟩ := He.ba h
  obtain ⟨h3, h⟩ := He.ba h
  obtain ⟨h4, h⟩ := He.ba h
  obtain ⟨h5, h⟩ := He.ba h
  obtain ⟨h6, h⟩ := He.ba h
  obtain ⟨h7, h⟩ := He.ba h
  obtain ⟨h8, h⟩ := He.ba h
  have e : ((txOf K L).ci c) = ⟨He.ga K k.nm, k.flds⟩ := tx_ci hk
  refine ⟨?_, ?_, ?_, ?_, ?_, He.eqO_ok h6, of_decide_eq_true h7, ?_⟩ <;> rw [e]
  · exact He.cls_ok h1
  · exact fun f hf => He.noat_ok (List.all_eq_true.mp h2 f hf)
  · exact of_decide_eq_true h3
  · exact of_decide_eq_true h4
  · exact He.eqO_ok h5
  · exact of_decide_eq_true h8
theorem excB_ok (h : L.exs.all (excB K) = true) : ExOk (txOf K L) := fun c hc => by
  obtain ⟨k, hk, hm⟩ := exs_at hc
  have h := List.all_eq_true.mp h k hm
  obtain ⟨h1, h⟩ := He.ba h
  obtain ⟨h2, h⟩ := He.ba h
  obtain ⟨h3, h⟩ := He.ba h
  obtain ⟨h4, h⟩ := He.ba h
  obtain ⟨h5, h⟩ := He.ba h
  obtain ⟨h6, h⟩ := He.ba h
  obtain ⟨h7, h8⟩ := He.ba h
  have e := tx_ea (K := K) hk
  refine ⟨?_, ?_, ?_, ?_, ?_, He.eqO_ok h6, of_decide_eq_true h7, ?_⟩ <;> rw [e]
  · exact h1
  · exact He.eqO_ok h2
  · exact He.eqO_ok h3
  · exact of_decide_eq_true h4
  · exact He.eqO_ok h5
  · exact of_decide_eq_true h8
theorem difB_ok : ∀ {l : List Str}, difB K l = true → ∀ {i j : Nat} {x y : Str}, l[i]? = some x → l[j]? = some y → He.ga K x = He.ga K y → i = j
  | [], _, i, j, x, y, e, _, _ => by simp at e
  | z :: l, h, i, j, x, y, e1, e2, e => by
    obtain ⟨h1, h2⟩ := He.ba h
    have no : ∀ w ∈ l, He.ga K z ≠ He.ga K w := fun w hw => by
      have := List.all_eq_true.mp h1 w hw
      simpa using this
    match i, j, e1, e2 with
    | 0, 0, _, _ => rfl
    | 0, j + 1, e1, e2 =>
      simp at e1 e2
      subst e1
      exact absurd e (no y (List.mem_of_getElem? e2))
    | i + 1, 0, e1, e2 =>
      simp at e1 e2
      subst e2
      exact absurd e.symm (no x (List.mem_of_getElem? e1))
    | i + 1, j + 1, e1, e2 =>
      simp at e1 e2
      rw [difB_ok h2 e1 e2 e]
end
/-- what is known of a law's text -/
structure LawF (P : PySem.Program) (w : World) (K : PySem.W.Frag) (mg : Str → Option Value) (L : Lw) (G : Pg) : Prop where
  nf : G.nf = nfOf L
  mt : G.mt = mtOf L
  clsB : L.cls.all (clsB K L) = true
  excB : L.exs.all (excB K) = true
  cdif : difB K (L.cls.map LC.nm) = true
  edif : difB K (L.exs.map XC.nm) = true
  fnD : ∀ (g : Nat) (f : Fn), L.fn[g]? = some f → ∃ fd, FunD K f.d.name f.d.qual f.d.params f.d.body f.d.scope (f.d.dvs K) (f.d.kws K) (He.fAd K f.d.at_) fd
  fnm : ∀ (g : Nat) (f : Fn), L.fn[g]? = some f → f.d.at_.2 = none → f.d.name = f.d.at_.1 → mg f.d.name = some (.ref (He.fAd K f.d.at_))
  cs : ∀ p ∈ L.cs, ∃ u v, mg p.1 = some u ∧ RelV v u ∧ ∀ F, Rep (txOf K L) F v p.2
  fr : ∀ x, L.fr.contains x = true → mg x = none
  isl : ∀ p ∈ L.isl, IsiOk (txOf K L) p.1 (p.2.val K)
  own : ∀ x, He.Fa.glo x ∈ L.fa → mg x = some (.ref (He.ga K x))
  fa : ∀ f ∈ L.fa, f.ok K = true
  bs : ∀ b ∈ L.bs, b K = true
/-- the text's own == are bound by two places -/
def OwnBind (L : Lw) : Prop := ∀ k ∈ L.cls, ∀ p ∈ k.ms, p.2.1 = 0 → ∀ f, L.fn[p.2.2]? = some f → BindN f
/-- what is shown of a text once and for all -/
def Bodies (L : Lw) (G : Pg) : Prop := ∀ (g : Nat) (f : Fn), L.fn[g]? = some f → ∃ N d, FnScope N f.ps f.d.scope ∧ G.defs[g]? = some d ∧ d.n = N.length ∧ (d.pr = true → 0 < f.ps.length) ∧ Body L N f d.pr d.body
section
variable {P : PySem.Program} {w : World} {K : PySem.W.Frag} {mg : Str → Option Value} {base : Heap} {L : Lw} {G : Pg}
theorem LawF.mtE (F : LawF P w K mg L G) {c f : Nat} (hc : c < L.cls.length) (h : G.mt c 0 = some f) : ∃ k fn, L.cls[c]? = some k ∧ k ∈ L.cls ∧ (∃ p ∈ k.ms, p.2.1 = 0 ∧ p.2.2 = f) ∧ L.fn[f]? = some fn ∧ fn.d.at_ = (k.nm, some ("__eq__" : Str)) ∧ fn.ps.length = 2 ∧ fn.d.dfl = [] ∧ Mq.OwnC K (He.ga K k.nm) (He.fAd K fn.d.at_) := by
  obtain ⟨k, hk, hm⟩ := cls_at hc
  rw [F.mt] at h
  unfold mtOf at h
  rw [hk] at h
  obtain ⟨p, e1, e2⟩ := Option.map_eq_some_iff.mp h
  have p1 := List.mem_of_find?_eq_some e1
  have p2 : (p.2.1 == 0) = true := List.find?_some (p := fun p : Str × Nat × Nat => p.2.1 == 0) e1
  have p2 : p.2.1 = 0 := by simpa using p2
  have h := List.all_eq_true.mp F.clsB k hm
  obtain ⟨_, h⟩ := He.ba h
  obtain ⟨_, h⟩ := He.ba h
  obtain ⟨_, h⟩ := He.ba h
  obtain ⟨_, h⟩ := He.ba h
  obtain ⟨_, h⟩ := He.ba h
  obtain ⟨_, h⟩ := He.ba h
  obtain ⟨_, h⟩ := He.ba h
  obtain ⟨h8, h⟩ := He.ba h
  obtain ⟨_, h⟩ := He.ba h
  obtain ⟨_, h⟩ := He.ba h
  have h := List.all_eq_true.mp h p p1
  rw [if_pos p2, e2] at h
  cases e3 : L.fn[f]? with
  | none => rw [e3] at h; cases h
  | some fn =>
    rw [e3] at h
    obtain ⟨q1, h⟩ := He.ba h
    obtain ⟨q2, h⟩ := He.ba h
    obtain ⟨q3, h⟩ := He.ba h
    obtain ⟨q4, h⟩ := He.ba h
    obtain ⟨q5, q6⟩ := He.ba h
    have q1 := of_decide_eq_true q1
    refine ⟨k, fn, hk, hm, ⟨p, p1, p2, e2⟩, rfl, q1, of_decide_eq_true q2, of_decide_eq_true q3, ?_⟩
    have ea : He.fAd K fn.d.at_ = He.ma K (He.ga K k.nm) "__eq__" := by rw [q1]; rfl
    rw [ea]
    exact ⟨He.eqO_ok q4, q5, He.eqO_ok q6, of_decide_eq_true h8⟩
theorem LawF.eqs (F : LawF P w K mg L G) (ob : OwnBind L) (kin : K.In base) {X : Cx} (hP : X.prog = P) (hw : X.w = w) (hk : X.K = K) (hmg : X.mg = mg) (hb : X.base = base) {c : Cf} {k : Nat} (hmt : c.mt = G.mt)
    (fns : ∀ (g : Nat) (f : Fn), L.fn[g]? = some f → ∃ fd, FunD K f.d.name f.d.qual f.d.params f.d.body f.d.scope (f.d.dvs K) (f.d.kws K) (He.fAd K f.d.at_) fd ∧ FnOk P w K mg base (L2.CX P w) (5 * k) (He.fAd K f.d.at_) fd f.ps (spD (txOf K L) (c.cf g) f.ps.length)) : EqSys X (txOf K L) c k := by
  subst hP hw hk hmg hb
  have cnm : ∀ {i : Nat} {q : LC}, L.cls[i]? = some q → (L.cls.map LC.nm)[i]? = some q.nm := fun h => by rw [List.getElem?_map, h]; rfl
  have xnm : ∀ {i : Nat} {q : XC}, L.exs[i]? = some q → (L.exs.map XC.nm)[i]? = some q.nm := fun h => by rw [List.getElem?_map, h]; rfl
  have each : ∀ q ∈ L.cls, _ := fun q hq => List.all_eq_true.mp F.clsB q hq
  refine ⟨rfl, fun i j hi hj e => ?_, fun i j hi hj e => ?_, fun a o h => ⟨o, kin a o h⟩, fun cl f hc h => ?_, fun i j hi hj => ?_, fun i hi t ht => ?_⟩
  · obtain ⟨p, hp, _⟩ := exs_at hi
    obtain ⟨q, hq, _⟩ := exs_at hj
    rw [tx_ea hp, tx_ea hq] at e
    exact difB_ok F.edif (xnm hp) (xnm hq) e
  · obtain ⟨p, hp, _⟩ := cls_at hi
    obtain ⟨q, hq, _⟩ := cls_at hj
    rw [tx_ci hp, tx_ci hq] at e
    exact difB_ok F.cdif (cnm hp) (cnm hq) e
  · rw [hmt] at h
    obtain ⟨k', fn, h1, h2, ⟨p, p1, p2, p3⟩, h3, h4, h5, h6, h7⟩ := F.mtE hc h
    obtain ⟨fd, FD, ok⟩ := fns f fn h3
    have e : fn.d.dvs X.K = [] := by unfold He.DefD.dvs; rw [h6]; rfl
    rw [e] at FD
    refine ⟨He.fAd X.K fn.d.at_, fd, fn.ps, ok, h5, FD.bindsN (ob k' h2 p p1 p2 fn (by rw [p3]; exact h3)), ?_⟩
    rw [tx_ci h1]
    exact h7
  · obtain ⟨p, hp, hm⟩ := cls_at hi
    obtain ⟨q, hq, hm2⟩ := cls_at hj
    rw [tx_ci hp, tx_ci hq]
    have h := each p hm
    obtain ⟨_, h⟩ := He.ba h
    obtain ⟨_, h⟩ := He.ba h
    obtain ⟨_, h⟩ := He.ba h
    obtain ⟨_, h⟩ := He.ba h
    obtain ⟨_, h⟩ := He.ba h
    obtain ⟨_, h⟩ := He.ba h
    obtain ⟨_, h⟩ := He.ba h
    obtain ⟨_, h⟩ := He.ba h
    obtain ⟨_, h⟩ := He.ba h
    obtain ⟨h, _⟩ := He.ba h
    exact List.all_eq_true.mp h q hm2
  · obtain ⟨p, hp, hm⟩ := cls_at hi
    rw [tx_ci hp]
    have h := each p hm
    obtain ⟨_, h⟩ := He.ba h
    obtain ⟨_, h⟩ := He.ba h
    obtain ⟨_, h⟩ := He.ba h
    obtain ⟨_, h⟩ := He.ba h
    obtain ⟨_, h⟩ := He.ba h
    obtain ⟨_, h⟩ := He.ba h
    obtain ⟨_, h⟩ := He.ba h
    obtain ⟨_, h⟩ := He.ba h
    obtain ⟨h, _⟩ := He.ba h
    obtain ⟨q1, q2⟩ := He.ba (List.all_eq_true.mp h t ht)
    exact ⟨q1, of_decide_eq_true q2⟩
theorem LawF.nfOk (F : LawF P w K mg L G) : NfOk (txOf K L) G.nf := fun c => by
  rw [F.nf]
  unfold nfOf
  cases h : L.cls[c]? with
  | none =>
    show 0 = ((txOf K L).ci c).flds.length
    show 0 = (match L.cls[c]? with | some k => (⟨He.ga K k.nm, k.flds⟩ : CI) | none => ⟨0, []⟩).flds.length
    rw [h]
    rfl
  | some k => rw [tx_ci h]
theorem LawF.all (F : LawF P w K mg L G) (B : Bodies L G) (ob : OwnBind L) (kin : K.In base) : ∀ (k g : Nat) (f : Fn), L.fn[g]? = some f → ∃ fd, FunD K f.d.name f.d.qual f.d.params f.d.body f.d.scope (f.d.dvs K) (f.d.kws K) (He.fAd K f.d.at_) fd ∧
    FnOk P w K mg base (L2.CX P w) (5 * k) (He.fAd K f.d.at_) fd f.ps (spD (txOf K L) (run G k g) f.ps.length)
  | 0, g, f, hf => by
    obtain ⟨fd, FD⟩ := F.fnD g f hf
    exact ⟨fd, FD, fn_ok0⟩
  | k + 1, g, f, hf => by
    obtain ⟨fd, FD⟩ := F.fnD g f hf
    obtain ⟨N, d, S, hd, hn, hp, hb⟩ := B g f hf
    refine ⟨fd, FD, fn_ok (m := 5 * k + 4) FD S hd hn hp fun cdv A outer s H E hr => ?_⟩
    exact hb ⟨rfl, clsB_ok F.clsB, excB_ok F.excB, rfl, hr, F.nfOk, F.mt, F.all B ob kin k, F.fnm, F.cs, F.fr, F.isl, F.own, F.fa, F.bs, F.eqs ob kin rfl rfl rfl rfl rfl rfl (F.all B ob kin k)⟩ rfl (takes_of rfl rfl rfl rfl)
end
/-! constants of the module -/
mutual
def repB (K : PySem.W.Frag) : D → Value → Bool
  | .non, .none => true
  | .bl b, .bool c => b == c
  | .int i, .int j _ => decide (i = j)
  | .str x, .str y _ => decide (x = y)
  | .tup ds, .ref a => match K.lookup a with
    | some ⟨.type c, _, .seq its _, _⟩ => decide (c = "tuple") && (decide (its.size ≤ sizeLine) && repsB K ds its.toList)
    | _ => false
  | _, _ => false
def repsB (K : PySem.W.Frag) : List D → List Value → Bool
  | [], [] => true
  | d :: ds, u :: us => repB K d u && repsB K ds us
  | _, _ => false
end
mutual
theorem repB_ok {T : Tx} {K : PySem.W.Frag} (hK : T.K = K) : ∀ {d : D} {u : Value}, repB K d u = true → ∃ v, RelV v u ∧ ∀ F, Rep T F v d
  | .non, .none, _ => ⟨.non, rfl, fun F => Rep.of_flat rfl⟩
  | .bl b, .bool c, h => ⟨.bl b, by
      have e : b = c := by unfold repB at h; exact eq_of_beq h
      rw [e]
      rfl, fun F => Rep.of_flat rfl⟩
  | .int i, .int j t, h => ⟨.int i, by
      have e : i = j := by unfold repB at h; exact of_decide_eq_true h
      exact ⟨t, by rw [e]⟩, fun F => Rep.of_flat rfl⟩
  | .str i, .str j t, h => ⟨.str i, by
      have e : i = j := by unfold repB at h; exact of_decide_eq_true h
      exact ⟨t, by rw [e]⟩, fun F => Rep.of_flat rfl⟩
  | .tup ds, .ref a, h => by
    unfold repB at h
    split at h
    · rename_i c od its n sl q
      obtain ⟨h1, h2⟩ := He.ba h
      obtain ⟨h3, h4⟩ := He.ba h2
      obtain ⟨vs, r1, r2⟩ := repsB_ok hK h4
      refine ⟨.ref a, rfl, fun F => Rep.mk_tup (.inr ⟨_, its, n, by rw [hK]; exact q, congrArg Value.type (of_decide_eq_true h1), rfl, of_decide_eq_true h3, r1⟩) (r2 F)⟩
    · cases h
  | .non, .bool _, h => by simp [repB] at h
  | .non, .int _ _, h => by simp [repB] at h
  | .lst _, _, h => by simp [repB] at h
  | .ins _ _, _, h => by simp [repB] at h
  | .exc _ _, _, h => by simp [repB] at h
theorem repsB_ok {T : Tx} {K : PySem.W.Frag} (hK : T.K = K) : ∀ {ds : List D} {us : List Value}, repsB K ds us = true → ∃ vs, Vals vs us ∧ ∀ F, Reps T F vs ds
  | [], [], _ => ⟨[], .nil, fun F => .nil⟩
  | d :: ds, u :: us, h => by
    unfold repsB at h
    obtain ⟨h1, h2⟩ := He.ba h
    obtain ⟨v, r1, r2⟩ := repB_ok hK h1
    obtain ⟨vs, r3, r4⟩ := repsB_ok hK h2
    exact ⟨v :: vs, .cons r1 r3, fun F => Reps.cons (r2 F) (r4 F)⟩
  | [], _ :: _, h => by simp [repsB] at h
  | _ :: _, [], h => by simp [repsB] at h
end
def conB (K : PySem.W.Frag) (x : Str) (d : D) : Bool := match PySem.W.nsIn K mainGlobals x with
  | some (some u) => repB K d u
  | _ => false
def faOf (L : Lw) : List He.Fa := (L.fn.filter fun f => decide (f.d.at_.2 = none ∧ f.d.name = f.d.at_.1)).map (fun f => He.Fa.glo f.d.name) ++ L.fr.map He.Fa.free ++ L.fa
def exOf (L : Lw) (K : PySem.W.Frag) : Bool := (L.cs.all fun p => conB K p.1 p.2) && (L.cls.all (clsB K L) && (L.exs.all (excB K) && (difB K (L.cls.map LC.nm) && (difB K (L.exs.map XC.nm) && (L.isl.all (fun p => isiB K L p.1 (p.2.val K)) && L.bs.all fun b => b K)))))
theorem contains_mem {l : List Str} {x : Str} (h : l.contains x = true) : x ∈ l := by simpa using h
/-- the facts of a text -/
theorem lawF_of {P : PySem.Program} {w : World} {K : PySem.W.Frag} {mg : Str → Option Value} {L : Lw} {G : Pg} {h : Heap} (X : K.In h) (Gs : h.Ns mainGlobals mg) (c : He.SaysX (faOf L) (L.fn.map Fn.d) [] [] (exOf L) w h K) (hn : G.nf = nfOf L) (hmt : G.mt = mtOf L) : LawF P w K mg L G := by
  have cd := c.t.d
  obtain ⟨m1, m⟩ := He.ba c.more
  obtain ⟨m2, m⟩ := He.ba m
  obtain ⟨m3, m⟩ := He.ba m
  obtain ⟨m4, m⟩ := He.ba m
  obtain ⟨m5, m⟩ := He.ba m
  obtain ⟨m6, m7⟩ := He.ba m
  refine ⟨hn, hmt, m2, m3, m4, m5, fun g f hf => ?_, fun g f hf h1 h2 => ?_, fun p hp => ?_, fun x hx => ?_, fun p hp => isiB_ok (List.all_eq_true.mp m6 p hp), fun x hx => ?_, fun f hf => cd.facts (List.mem_append_right _ hf), fun b hb => List.all_eq_true.mp m7 b hb⟩
  · exact cd.def_ g (d := f.d) (by rw [List.getElem?_map, hf]; rfl)
  · have m : He.Fa.glo f.d.name ∈ faOf L := List.mem_append_left _ (List.mem_append_left _ (List.mem_map.mpr ⟨f, List.mem_filter.mpr ⟨List.mem_of_getElem? hf, decide_eq_true ⟨h1, h2⟩⟩, rfl⟩))
    rw [He.glo_ok X Gs (cd.facts m)]
    unfold He.fAd
    rw [h1, h2]
  · have q := List.all_eq_true.mp m1 p hp
    unfold conB at q
    split at q
    · rename_i u e
      obtain ⟨v, r1, r2⟩ := repB_ok (T := txOf K L) rfl q
      exact ⟨u, v, PySem.W.mg_of X Gs e, r1, r2⟩
    · cases q
  · exact He.free_ok X Gs (cd.facts (f := .free x) (List.mem_append_left _ (List.mem_append_right _ (List.mem_map.mpr ⟨x, contains_mem hx, rfl⟩))))
  · exact He.glo_ok X Gs (cd.facts (f := .glo x) (List.mem_append_right _ hx))
end Mp

/-! Mt1: clauses of a try; a caught exception is kept. -/
namespace Mp
open PySem PySem.Spec L2
open PyProof.Rows hiding St

/-- an exception of the body that has come down to the clauses -/
structure Landed (X : Cx) (pins : List (Addr × Obj)) (σ : St) (H : Hp) (cls : Value) (d : Option Addr) (a : Addr) (B : Heap) (g s : Shared) : Prop where
  inv0 : Inv X pins σ H g
  gnd : ∀ b o, g.heap.get? b = some o → b ∉ frs X.stack → B.get? b = some o
  fly : HandSPX.FlyingZ B (X.env :: X.outer) a (Zc cls d) s.heap
  grow : g.heap.UpToSlots s.heap
  fr : H a = none
  os : s.os = g.os
  bare : AllBare s.gens
section
variable {X : Cx} {pins : List (Addr × Obj)} {σ : St} {H : Hp} {cls : Value} {d : Option Addr} {a : Addr} {B : Heap} {g s : Shared}
theorem Landed.inv (l : Landed X pins σ H cls d a B g s) : Inv X pins σ H s := l.inv0.landed l.gnd l.fly.1 l.grow l.os l.bare
theorem Landed.nofr (l : Landed X pins σ H cls d a B g s) : a ∉ frs (X.env :: X.outer) := fun hm => by
  obtain ⟨oe, vs, h1, _, h3⟩ := l.fly.there
  obtain ⟨_, o', h4, h5⟩ := l.fly.2.2.1.mem hm
  rw [h1] at h4
  cases h4
  exact h5 _ h3
theorem Landed.suite (l : Landed X pins σ H cls d a B g s) (hf : X.env.frame = some X.env.locals) : ∃ oe, s.heap.get? a = some oe ∧ Zc cls d oe ∧ (∃ vs, oe.data = .fields vs) ∧ a ≠ X.env.locals ∧ a ∉ X.fs ∧ Inv (X.suite a ((a, oe) :: (X.pn ++ pins))) [] σ H s := by
  obtain ⟨oe, vs, h1, h2, h3⟩ := l.fly.there
  have nL : a ≠ X.env.locals := fun z => l.nofr (List.mem_filterMap.mpr ⟨X.env, List.mem_cons_self, by rw [hf, z]⟩)
  have nF : a ∉ X.fs := fun hm => by
    obtain ⟨e, he, q⟩ := List.mem_filterMap.mp hm
    exact l.nofr (List.mem_filterMap.mpr ⟨e, List.mem_cons_of_mem _ he, q⟩)
  exact ⟨oe, h1, h2, ⟨vs, h3⟩, nL, nF, l.inv.suite h1 h3 l.fr nL nF⟩
/-- it was made in this def -/
theorem Landed.new (l : Landed X pins σ H cls d a B g s) (hs : X.stack = X.env :: X.outer) (hex : X.ex = []) : X.s_0.heap.get? a = none := by
  cases q : X.s_0.heap.get? a with
  | none => rfl
  | some o =>
    obtain ⟨o', h1⟩ := l.inv0.base.there a o q (by rw [hex]; exact (fun z => nomatch z))
    have := l.gnd a o' h1 (by rw [hs]; exact l.nofr)
    rw [l.fly.2.1] at this
    cases this
end
/-- a thing that stands is tracked from now on -/
theorem track_ok {X : Cx} {pins : List (Addr × Obj)} {σ : St} {H : Hp} {s : Shared} {a : Addr} {o : HO} (I : Inv X pins σ H s) (na : H a = none) (n0 : X.s_0.heap.get? a = none) (nL : a ≠ X.env.locals) (nC : ∀ x c, X.env.cells.lookup x = some c → a ≠ c) (np : ∀ p ∈ X.pn ++ pins, a ≠ p.1) (new : ObjOk X.prog X.w (upd H a o) s.heap a o) : Inv X pins σ (upd H a o) s := by
  have le := le_upd (o := o) na
  refine ⟨I.ok, I.os, I.bare, ⟨I.base.keep, I.base.slot, fun b u q n hx => ?_, I.base.there, fun b xs q => le _ _ (I.base.tups b xs q), fun b u w q => le _ _ (I.base.frzs b u w q), fun b ps q => ?_⟩, I.loc, I.cell, ?_, fun x c e => ?_, fun p hp => ?_, fun b u q => ?_, I.len⟩
  · rw [upd_ne (fun z => by rw [z, n0] at q; cases q)]
    exact I.base.free b u q n hx
  · obtain ⟨more, h⟩ := I.base.tbls b ps q
    exact ⟨more, le _ _ h⟩
  · rw [upd_ne (Ne.symm nL)]
    exact I.free
  · rw [upd_ne (Ne.symm (nC x c e))]
    exact I.freeC x c e
  · obtain ⟨h1, h2, h3⟩ := I.pin p hp
    exact ⟨h1, by rw [upd_ne (Ne.symm (np p hp))]; exact h2, h3⟩
  · by_cases hb : b = a
    · subst hb
      rw [upd_same] at q
      cases q
      exact new
    · rw [upd_ne hb] at q
      exact (I.hok b u q).stay (fun _ _ _ r => r) (fun c r => le _ _ r) fun c xs r => le _ _ r
/-- what clauses do with it -/
def Goes (X : Cx) (hds : List ExceptHandler) (w : Ends → WX) : Prop := ∀ (D : Ends) (pins : List (Addr × Obj)) (σ : St) (H : Hp) (cls : Value) (d : Option Addr) (a : Addr) (B : Heap) (g s : Shared),
  Landed X pins σ H cls d a B g s → w D cls d σ H → wpAny (model X.prog X.w) X.A (handleBy (.ref a) X.env hds) (SP X pins D) X.xe s
section
variable {X : Cx} {hds : List ExceptHandler} {h₀ : ExceptHandler} {w : Ends → WX} {W : WX} {body : List Stmt} {pos : Pos} {tb : WX → TS}
theorem try_ok (hs : X.stack = X.env :: X.outer) (hf : X.env.frame = some X.env.locals)
    (hb : ∀ (W : WX) (pn : List (Addr × Obj)) (xe : Value → Shared → Prop), Takes (X.tr pn xe) W → PassesOwn (model X.prog X.w) X.A X.env xe → PSs (X.tr pn xe) body (tb W))
    (hh : Goes X (h₀ :: hds) w) : PS X (.Try body (h₀ :: hds) [] [] pos) (fun D σ H => tb (w D) D σ H) := by
  refine ⟨fun pins s σ H D I h => ?_⟩
  have fr0 : X.A.frames = some (X.env :: X.outer) := by rw [I.ok.frames, hs]
  refine wpAny_Try_except ?_
  have run := (hb (w D) (X.pn ++ pins) (fun x s1 => wpAny (model X.prog X.w) X.A (noteFrame x X.env) (fun _ s2 => wpAny (model X.prog X.w) X.A (setFlight x none) (fun _ s3 => wpAny (model X.prog X.w) X.A (handleBy x X.env (h₀ :: hds)) (SP X pins D) X.xe s3) X.xe s2) X.xe s1) ?_ PassesOwn.looking).run [] s σ H D (I.toTry _) h
  · refine wpAny_mono run (fun f s1 q => ?_) fun _ _ z => z
    cases f with
    | next => obtain ⟨σ1, H1, J1, q1⟩ := q; exact wpAny_execs_nil ⟨σ1, H1, J1.ofTry I.ok, q1⟩
    | brk => obtain ⟨σ1, H1, J1, q1⟩ := q; exact ⟨σ1, H1, J1.ofTry I.ok, q1⟩
    | cont => obtain ⟨σ1, H1, J1, q1⟩ := q; exact ⟨σ1, H1, J1.ofTry I.ok, q1⟩
    | ret u => obtain ⟨v, σ1, H1, J1, r1, q1⟩ := q; exact ⟨v, σ1, H1, J1.ofTry I.ok, r1, q1⟩
  · intro u s1 x
    obtain ⟨a, B, g, pins1, σ1, H1, cls, d, rfl, J1, gnd, grow, sky, fr, os, bare, hw⟩ := x
    have sky1 : Sky B (X.env :: X.outer) a (Zc cls d) X.env.locals s1.heap := by rw [← hs]; exact sky
    exact Sky.land Zc.steady fr0 hf sky1 fun h2 fly up2 => hh D pins σ1 H1 cls d a B g { s1 with heap := h2 } ⟨J1.ofTry I.ok, gnd, fly, grow.trans up2, fr, os, bare⟩ hw
theorem goes_nil (hs : X.stack = X.env :: X.outer) (hf : X.env.frame = some X.env.locals) (tk : Takes X W) : Goes X [] (fun _ => W) := fun D pins σ H cls d a B g s l hw => by
  refine wpAny_handleBy_nil ?_
  have fl := l.fly
  obtain ⟨_, _, _, oe, vs, T, oT, ts, h1, h2, h3, h4, _⟩ := id fl
  unfold PySem.passOn
  refine wpAny_bind (wpAny_field h1 h3 h4 ?_)
  rw [if_neg (by simp)]
  have last : wpAny (model X.prog X.w) X.A (setFlight (.ref a) X.env.frame) (fun _ t => wpAny (model X.prog X.w) X.A (throw (.ref a) : Sem Flow) (SP X pins D) X.xe t) X.xe s := by
    rw [hf]
    exact HandSPX.setFlight_upZ fl fun h2 held up2 => wpAny_throw (tk _ _ ⟨a, B, g, pins, σ, H, cls, d, rfl, l.inv0, l.gnd, l.grow.trans up2, .inr (.inr (by rw [hs]; exact held)), l.fr, l.os, l.bare, hw⟩)
  first
    | exact wpAny_bind (wpAny_pure (wpAny_bind last))
    | exact wpAny_bind last
end
end Mp
namespace Mp
open PySem PySem.Spec L2
open PyProof.Rows hiding St
section
variable {X : Cx} {hds : List ExceptHandler} {w : Ends → WX}
/-- except C as n: x = n; .. -/
theorem goes_keep {cn n x : Str} {cv : Value} {np pn pc px pa : Pos} {i j : Nat} (hs : X.stack = X.env :: X.outer) (hf : X.env.frame = some X.env.locals) (hex : X.ex = []) (hN : X.N.Nodup) (hi : X.N[i]? = some n) (hj : X.N[j]? = some x) (hln : X.env.kindOf n = some .local) (hlx : X.env.kindOf x = some .local)
    (hc : Names X cn cv) (hd1 : (n == ("__debug__" : Str)) = false) (hd2 : (n == ("__classdict__" : Str)) = false) (hsw : ∀ a q, swapsWith (.Name n pn) (some (.Name x px)) pa.line (X.suite a q).env = pure false) (rest : Goes X hds w) :
    Goes X (.ExceptHandler (some (.Name cn np)) (some n) [.Assign [.Name x px] (.Name n pn) pa] pc :: hds) (fun D cls d σ H => ∃ b, PySem.W.exmOne X.K cls cv = some b ∧
      (b = true → ∀ a, H a = none → D.nx (((σ.set i (some (.ref a))).set j (some (.ref a))).set i none) (upd H a (ExH cls d a))) ∧ (b = false → w D cls d σ H)) := fun D pins σ H cls d a B g s l ⟨b, hb, yes, no⟩ => by
  obtain ⟨oe, h1, h2, h3, nL, nF, S⟩ := l.suite hf
  have ok := l.inv0.ok
  refine wpAny_handleBy_cons (codeAny_handlers_test ?_) (by intro q; cases q)
  have LT : PySem.W.Looks (model X.prog X.w) s.heap (typeOf (.ref a)) cls := fun A Q E t k q => wpAny_typeOf_ref (k _ _ h1) (by rw [h2.1]; exact q)
  have LM := PySem.W.exm_one (M := model X.prog X.w) l.inv.kIn LT hb
  have look : ∀ {Q : Value → Shared → Prop} {E : Value → Shared → Prop}, Q cv s → wpAny (model X.prog X.w) (X.A.mark (some (.ref a))) (eval (.Name cn np) X.env) Q E s := fun {Q E} q => by
    obtain ⟨z1, z2, z | ⟨z3, z4, z5⟩⟩ := hc
    · exact ld_glob S z1 z q z2
    · exact ld_blt S z1 z3 z4 q z5 z2
  refine look (LM.here ?_)
  cases b with
  | false => exact rest D pins σ H cls d a B g s l (no rfl)
  | true =>
    refine codeAny_handlers_suite_as ?_
    refine HandSPX.lands_againZ l.fly fun h4 fly4 up4 => ?_
    have l4 : Landed X pins σ H cls d a B g { s with heap := h4 } := ⟨l.inv0, l.gnd, fly4, l.grow.trans up4, l.fr, l.os, l.bare⟩
    obtain ⟨o4, k1, k2, ⟨vs4, k3⟩, _, _, S4⟩ := l4.suite hf
    refine store_ok (X := X.suite a ((a, o4) :: (X.pn ++ pins))) (v := .ref a) S4 hN hi (.inl hln) rfl (fun s5 S5 => ?_) (.inr hln)
    have suite : PSs (X.suite a ((a, o4) :: (X.pn ++ pins))) [.Assign [.Name x px] (.Name n pn) pa] (fun D' σ' H' => ∃ v, σ'[i]? = some (some v) ∧ D'.nx (σ'.set j (some v)) H') :=
      pss_imp (pss_cons (ps_set hN hj (.inl hlx) (pe_var (i := i) hi (.inl hln) hd1 hd2) (hsw _ _) (.inr hlx)) pss_nil) fun D' σ' H' ⟨v, e, q⟩ => ⟨v, e, q⟩
    have hiσ : i < σ.length := by rw [l.inv0.len]; exact (List.getElem?_eq_some_iff.mp hi).1
    let D' : Ends := { nx := fun σ6 H6 => σ6 = (σ.set i (some (.ref a))).set j (some (.ref a)) ∧ H6 = H, rt := fun _ _ => False, bk := fun _ _ => False, ct := fun _ _ => False }
    refine wpAny_mono (suite.run [] s5 _ H D' S5 ⟨.ref a, by rw [List.getElem?_set_self hiσ], rfl, rfl⟩) (fun f s6 q6 => ?_) (fun _ _ z => False.elim z)
    cases f with
    | next =>
      obtain ⟨σ6, H6, S6, e6, e7⟩ := q6
      subst e6 e7
      have I6 := S6.unsuite ok
      obtain ⟨p1, p2, _⟩ := S6.pin (a, o4) (List.mem_append_left _ List.mem_cons_self)
      have tr := track_ok (o := ExH cls d a) I6 l.fr (l.new hs hex) nL (fun y c e z => ?_) (fun p hp z => ?_) ⟨⟨o4, vs4, p1, k2, k3⟩, ⟨o4, p1⟩, fun u1 u2 ⟨ou, vu, w1, w2, w3⟩ k => ⟨ou, vu, k _ w1, w2, w3⟩⟩
      · exact gone_ok tr hN hi hln fun s7 I7 => ⟨_, _, I7, yes rfl a l.fr⟩
      · subst z
        obtain ⟨v, z2⟩ := I6.cell y _ e
        obtain ⟨oz, z3, z4⟩ := z2
        rw [p1] at z3
        cases z3
        rw [k3] at z4
        cases z4
      · subst z
        obtain ⟨z1, _⟩ := l.inv0.pin p hp
        have := l.gnd _ _ z1 (by rw [hs]; exact l.nofr)
        rw [l.fly.2.1] at this
        cases this
    | brk => obtain ⟨_, _, _, z⟩ := q6; exact z.elim
    | cont => obtain ⟨_, _, _, z⟩ := q6; exact z.elim
    | ret u => obtain ⟨_, _, _, _, _, z⟩ := q6; exact z.elim
end
end Mp

/-! Mt2: try, raise. -/
namespace Mp
open PySem PySem.Spec L2
open PyProof.Rows hiding St

/-- clauses do what the small language's clauses do -/
def HOk (X : Cx) (T : Tx) (W : WX) (pr : Bool) (hds : List ExceptHandler) (hs : List Hd) : Prop := ∃ w, Goes X hds w ∧ ∀ (D : Ends) (σ : St) (F H : Hp) (A : Ad) (x : Ex) (G' : List Sl) (σ' : St) (F' H' : Hp) (A' : Ad) (cls : Value) (d : Option Addr),
  Rel T F' H' σ' G' A' → Step F H A F' H' A' → Fr pr σ σ' → ExR T x cls d F' H' → MtS T W pr σ F H A (hdF pr hs x G') D → w D cls d σ' H'
section
variable {X : Cx} {T : Tx} {W : WX} {pr : Bool} {hds : List ExceptHandler} {hs : List Hd}
theorem hok_nil (h1 : X.stack = X.env :: X.outer) (h2 : X.env.frame = some X.env.locals) (tk : Takes X W) : HOk X T W pr [] [] :=
  ⟨fun _ => W, goes_nil h1 h2 tk, fun D σ F H A x G' σ' F' H' A' cls d R s f e m => by
    unfold hdF at m
    exact m σ' F' H' A' cls d R s f e⟩
/-- slot i is emptied, its value goes -/
theorem Rel.empty1 {σ : St} {F H : Hp} {A : Ad} {G G' : List Sl} {i : Nat} (R : Rel T F H σ G A) (e : setS pr G i .no = some G') : Rel T F H (σ.set i none) G' (Ad.put A i none) ∧ Step F H A F H (Ad.put A i none) ∧ Fr pr σ (σ.set i none) := by
  obtain ⟨h1, h2, rfl⟩ := setS_some e
  have k := R.put (σ' := σ.set i none) (ai := none) (s := .no) (F' := F) (H' := H) h2 (Le.refl _) R.sub (fun _ _ q _ => q) (fun _ q => q) (fun j hj => by rw [List.getElem?_set_ne (Ne.symm hj)]) List.length_set (fun a q => nomatch q) (fun a q => .inl q) .no
  exact ⟨k.1, k.2, set_fr h1⟩
theorem hok_keep {cn n x : Str} {cv : Value} {np pn pc px pa : Pos} {i j : Nat} {cs : List Nat} (h1 : X.stack = X.env :: X.outer) (h2 : X.env.frame = some X.env.locals) (hex : X.ex = []) (hN : X.N.Nodup) (hi : X.N[i]? = some n) (hj : X.N[j]? = some x) (hln : X.env.kindOf n = some .local) (hlx : X.env.kindOf x = some .local)
    (hc : Names X cn cv) (hcs : ∀ k, k < T.ne → PySem.W.exmOne X.K (.ref (T.ea k)) cv = some (cs.contains k)) (rest : HOk X T W pr hds hs) (hd1 : (n == ("__debug__" : Str)) = false := by decide) (hd2 : (n == ("__classdict__" : Str)) = false := by decide) (hsw : ∀ a q, swapsWith (.Name n pn) (some (.Name x px)) pa.line (X.suite a q).env = pure false := by intro _ _; rfl) :
    HOk X T W pr (.ExceptHandler (some (.Name cn np)) (some n) [.Assign [.Name x px] (.Name n pn) pa] pc :: hds) (⟨cs, .keep i j⟩ :: hs) := by
  obtain ⟨w, gw, hw⟩ := rest
  refine ⟨_, goes_keep h1 h2 hex hN hi hj hln hlx hc hd1 hd2 hsw gw, fun D σ F H A x0 G' σ' F' H' A' cls d R s f e m => ?_⟩
  have e0 := e
  obtain ⟨rfl, hk, hx⟩ := e
  refine ⟨cs.contains x0.c, hcs _ hk, fun hb a na => ?_, fun hb => ?_⟩
  · unfold hdF at m
    rw [if_pos hb] at m
    simp only at m
    split at m
    · exact m.elim
    · rename_i hij
      cases g1 : setS pr G' i .no with
      | none => rw [g1] at m; exact m.elim
      | some G1 =>
        rw [g1] at m
        simp only at m
        obtain ⟨G2, g2, q⟩ := m.nxO
        obtain ⟨R1, s1⟩ := R.laidF (o := ExH (.ref (T.ea x0.c)) d a) na
        obtain ⟨R2, s2, f2⟩ := R1.empty1 g1
        have rp : Rep T (upd F' a (ExH (.ref (T.ea x0.c)) d a)) (.ref a) (.exc x0.c x0.f.toList) := by
          have nf := none_le R.sub na
          rcases hx with ⟨rfl, z⟩ | ⟨b, v, y, rfl, z, q1, q2⟩
          · rw [z]
            exact .exc (fs := []) upd_same hk (.inl ⟨rfl, rfl⟩) .nil .nil
          · rw [z]
            refine .exc (fs := [(T.en x0.c, v)]) upd_same hk (.inr ⟨b, v, rfl, ?_, rfl⟩) (q2.mono (le_upd nf)) .nil
            exact le_upd nf _ _ q1
        obtain ⟨R3, s3, f3⟩ := R2.store rp g2
        have eσ : ((σ'.set i (some (V.ref a))).set j (some (.ref a))).set i none = (σ'.set i none).set j (some (.ref a)) := by
          rw [List.set_comm _ _ (fun z => hij z.symm), List.set_set]
        rw [eσ]
        exact q _ _ _ _ R3 (((s.trans s1).trans s2).trans s3) ((f.trans f2).trans f3)
  · unfold hdF at m
    rw [if_neg (by rw [hb]; exact (fun z => nomatch z))] at m
    exact hw D σ F H A x0 G' σ' F' H' A' _ d R s f e0 m
theorem ds_try {c : Cf} {body : List Stmt} {h₀ : ExceptHandler} {b : Ss} {pos : Pos} (h1 : X.stack = X.env :: X.outer) (h2 : X.env.frame = some X.env.locals) (hh : HOk X T W c.pr (h₀ :: hds) hs)
    (hb : ∀ (W' : WX) (pn : List (Addr × Obj)) (xe : Value → Shared → Prop), Takes (X.tr pn xe) W' → PassesOwn (model X.prog X.w) X.A X.env xe → DSs (X.tr pn xe) c T W' body b) : DS X c T W (.Try body (h₀ :: hds) [] [] pos) (.tr b hs) := by
  obtain ⟨w, gw, hw⟩ := hh
  refine ps_imp (try_ok (tb := fun W' => rdSs c T W' b) h1 h2 (fun W' pn xe t p => hb W' pn xe t p) gw) fun D σ H ⟨F, G, A, R0, m⟩ => ?_
  unfold evS at m
  refine ⟨F, G, A, R0, ?_⟩
  cases e : evSs c b G with
  | nx G1 => rw [e] at m; exact m
  | bk G1 => rw [e] at m; exact m
  | ct G1 => rw [e] at m; exact m
  | rt r G1 => rw [e] at m; exact m
  | st => rw [e] at m; exact m
  | ex x G1 =>
    rw [e] at m
    exact fun σ' F' H' A' cls d R s f er => hw D σ F H A x G1 σ' F' H' A' cls d R s f er m
/-! ### raise -/
/-- raise C('text'), C a class of the text without __init__ of its own -/
theorem ds_rs {c : Cf} {cn m : Str} {k j : Nat} {p p2 pos pos' : Pos} {B newId initId : String} {bmB : List Value} (hc : X.calm = true) (tk : Takes X W) (Fb : ExcBaseFacts B newId initId bmB) (q : PySem.W.excIn X.K (T.ea k) bmB newId = true) (gC : X.mg cn = some (.ref (T.ea k))) (kC : PySem.W.keepIn X.K (.ref (T.ea k)) = true) (r : Raises X (.ref (T.ea k))) (hk : k < T.ne) (hg : Gl X cn)
    (hdb : (cn == ("__debug__" : Str)) = false := by decide) : DS X c T W (.Raise (some (.Call (.Name cn p) [.Constant (.str m) j p2] [] pos')) none pos) (.rs k .nil) :=
  ps_imp (ps_raise hc tk (pmk_own Fb q gC kC r hg hdb)) fun D σ H ⟨F, G, A, R0, m⟩ => by
    unfold evS at m
    rw [evEs] at m
    exact m σ F H A _ none R0 Step.refl Fr.refl ⟨rfl, hk, .inl ⟨rfl, rfl⟩⟩
end
end Mp

/-! Mu1: comprehensions whose item raises. -/
namespace Mp
open PySem PySem.Spec L2
open PyProof.Rows hiding St

theorem note_same {x : Value} {e1 e2 : PySem.Env} (h : e1.frame = e2.frame) : noteFrame x e1 = noteFrame x e2 := by
  unfold noteFrame PySem.frameOf
  rw [h]
/-- how a comprehension's block ends; its environment is known -/
def blkEnd (M : Model) (A : Around) (E : Value → Shared → Prop) (use : Option (Value → Sem Unit)) (Q : Value → Shared → Prop) (acc : Value) (ce : PySem.Env) (r : Result) (s' : Shared) : Prop := match r with
  | .ok f => compPost M A E use Q acc ce.locals (.ok f) s'
  | .error x => ∃ m, s'.heap.Ns ce.locals m ∧ ∀ h', Heap.SameBut ce.locals s'.heap h' → wpAny M A (passOn "comprehension.variables-let-go" x ce : Sem Value) (fun _ _ => False) E { s' with heap := h' }
section
variable {M : Model} {A : Around} {E : Value → Shared → Prop} {s : Shared} {env : PySem.Env}
theorem comp_free {e : Expr} {scope : Scope} {pos : Pos} {newAcc first : Sem Value} {c1 : Comprehension} {cs : List Comprehension} {cl : List (Str × Addr)} {use : Option (Value → Sem Unit)} {Q : Value → Shared → Prop}
    (hcl : clausesOf e = c1 :: cs) (hfold : ∀ x, foldedSetIterable c1.iter env x = pure x) (hclos : closureFor scope env = pure cl) (hkind : scope.kind = .function) (hnames : ∀ x ∈ scope.names, x.2 = .local → scope.names.lookup x.1 = some .local)
    (run : wpAny M A first (fun x t1 => wpAny M A (pyIter x) (fun it t2 => wpAny M A newAcc (fun acc t3 => wpAny M A (newFunctionEnv scope env.globals cl [] env.qual none .none (some env)) (fun ce t4 =>
      codeAny M A (.compStart e 0 it acc { ce with scope := relabel scope env }) (blkEnd M A E use Q acc { ce with scope := relabel scope env }) t4) E t3) E t2) E t1) E s) :
    wpAny M A (comprehension e scope env pos newAcc false first use) Q E s := by
  unfold comprehension
  rw [hclos, hcl]
  refine wpAny_bind (wpAny_mono run (fun x t1 k1 => wpAny_bind (wpAny_standAt (wpAny_bind (wpAny_of_eq (hfold x) (wpAny_bind (wpAny_holding (wpAny_mono k1 (fun it t2 k2 => wpAny_standIf (wpAny_bind (wpAny_mono k2 (fun acc t3 k3 => wpAny_bind (wpAny_pure (wpAny_bind (wpAny_mono k3 (fun ce t4 k4 => ?_) fun _ _ z => z)))) fun _ _ z => z))) fun _ _ z => z))))))) fun _ _ z => z)
  dsimp only
  have loc1 : ∀ x ∈ (scope.names.filter fun x => (x.2 == .local || x.2 == .cell) && x.1 != (".0" : Str)).reverse, x.2 = .local → PySem.Env.kindOf { ce with scope := relabel scope env } x.1 = some .local := fun x hx z => lookup_relabel_local (hnames x (List.mem_filter.mp (List.mem_reverse.mp hx)).1 z)
  have loc2 : ∀ x ∈ (scope.names.filter fun x => (x.2 == .local || x.2 == .cell) && x.1 != (".0" : Str)).reverse.drop 1 ++ (scope.names.filter fun x => (x.2 == .local || x.2 == .cell) && x.1 != (".0" : Str)).reverse.take 1, x.2 = .local → PySem.Env.kindOf { ce with scope := relabel scope env } x.1 = some .local :=
    fun x hx z => (List.mem_append.mp hx).elim (fun y => loc1 x (List.mem_of_mem_drop y) z) fun y => loc1 x (List.mem_of_mem_take y) z
  refine wpAny_holding (wpAny_bind (wpAny_attempt (wpAny_holding (wpAny_run (codeAny_mono k4 fun r t5 k5 => ?_)))))
  cases r with
  | error x =>
    obtain ⟨m, n1, n2⟩ := k5
    exact wpAny_bind (wpAny_holding (wpAny_comp_letGo (cenv := { ce with scope := relabel scope env }) hkind _ t5 m loc1 n1 fun h' m' _ sb => wpAny_mono (n2 h' sb) (fun _ _ z => z.elim) fun _ _ z => z))
  | ok f =>
    cases use with
    | none =>
      obtain ⟨m, n1, n2⟩ := k5
      exact wpAny_bind (wpAny_holding (wpAny_comp_letGo (cenv := { ce with scope := relabel scope env }) hkind _ t5 m loc1 n1 fun h' m' _ sb => wpAny_pure (n2 h' sb)))
    | some u =>
      refine wpAny_bind (wpAny_rule (wpAny_bind (wpAny_holding (wpAny_mono k5 (fun _ t6 k6 => ?_) fun _ _ z => z))))
      obtain ⟨m, n1, n2⟩ := k6
      exact wpAny_bind (wpAny_comp_letGo (cenv := { ce with scope := relabel scope env }) hkind _ t6 m loc2 n1 fun h' m' _ sb => wpAny_pure (n2 h' sb))
end
theorem ff_same {B h h' : Heap} : ∀ {l : List PySem.Env}, h.FunFrames B l → (∀ L ∈ frs l, h'.get? L = h.get? L) → h'.FunFrames B l
  | [], _, _ => trivial
  | env :: l, h, k => by
    obtain ⟨h1, ⟨L, o, h2, h3, h4, h5⟩, h6⟩ := h
    exact ⟨h1, ⟨L, o, h2, h3, (k L (List.mem_filterMap.mpr ⟨env, List.mem_cons_self, h2⟩)).trans h4, h5⟩, ff_same h6 fun b hb => by
      obtain ⟨e, he, q⟩ := List.mem_filterMap.mp hb
      exact k b (List.mem_filterMap.mpr ⟨e, List.mem_cons_of_mem _ he, q⟩)⟩
/-- what a block's calls let out is taken outside -/
theorem blk_takes {X : Cx} {W : WX} {σ : St} {pins pn : List (Addr × Obj)} {H3 : Hp} {s3 : Shared} {scope : Scope} {ce : PySem.Env} {fp : List Addr} {use : Option (Value → Sem Unit)} {Qf : Value → Shared → Prop} {acc : Value}
    (hs : X.stack = X.env :: X.outer) (hf : X.env.frame = some X.env.locals) (tk : Takes X W) (I3 : Inv X pins σ H3 s3) (cL : ce.locals = s3.heap.objs.size) (cF : ce.frame = X.env.frame) (f3 : ∀ b ∈ fp, FpOk X pins H3 b) :
    TakesF ((X.blk s3 H3 scope ce fp).tr pn (notedBy (model X.prog X.w) X.A ce fun e t => blkEnd (model X.prog X.w) X.A X.xe use Qf acc ce (.error e) t)) (fun cls d _ H' => W cls d σ H') := by
  rintro u s' ⟨a, B, g, p2, σ2, H2, cls, d, rfl, J, gnd, up, fly, na, os, ag, w⟩
  show wpAny (model X.prog X.w) X.A (noteFrame (.ref a) ce) _ _ s'
  rw [note_same cF]
  have fr0 : X.A.frames = some (X.env :: X.outer) := by rw [I3.ok.frames, hs]
  have fly' : HandSPX.FlyingZ B (X.env :: X.outer) a (Zc cls d) s'.heap := by rw [← hs]; exact fly
  refine HandSPX.looks_onZ Zc.steady fr0 hf fly' fun h1 held up1 => ?_
  have J1 := J.landed (s' := { s' with heap := h1 }) gnd held.1 (up.trans up1) os ag
  obtain ⟨m, hn, _⟩ := J1.loc
  have hn : h1.Ns ce.locals m := hn
  refine ⟨m, hn, fun h2 sb => ?_⟩
  obtain ⟨w1, w2, w3, oe, vs, T, oT, ts, e1, e2, e3, e4, e5, e6, e7, e8, e9⟩ := held
  obtain ⟨oC, es, ep, c1, c2⟩ := id hn
  have c3 : ∀ xs, oC.data ≠ .fields xs := fun xs z => by rw [c2.1] at z; cases z
  have nCa : a ≠ ce.locals := fun z => by
    rw [z, c1] at e1
    cases e1
    exact c3 _ e3
  have nCT : T ≠ ce.locals := fun z => by
    rw [z, c1] at e7
    cases e7
    exact c3 _ e8
  have nC : H2 ce.locals = none := J.free
  have fpC : FpOk X pins H2 ce.locals := by rw [cL]; exact I3.fpOk (Nat.le_refl _) (by rw [← cL]; exact nC)
  have Ig : Inv X pins σ H2 g := I3.call' (ch := fp) J.os J.base J.hok J.bare fun b hb => ⟨(f3 b hb).2.2.2.1, (f3 b hb).2.1, (f3 b hb).2.2.2.2.1, (f3 b hb).2.2.2.2.2⟩
  have Ix := Ig.turned (t' := g.toks) (h' := PySem.W.hideAll g.heap [ce.locals]) (fun b o hb e => PySem.W.hideAll_get _ e (by simpa using hb)) nC fpC.2.1 fpC.2.2.2.1 fpC.2.2.2.2.1 fpC.2.2.2.2.2
  have frC : ∀ L ∈ frs (X.env :: X.outer), L ≠ ce.locals := fun L hL z => by
    rw [← hs] at hL
    obtain ⟨_, o, z1, _⟩ := I3.stack.mem hL
    exact absurd (z.trans cL) (Nat.ne_of_lt (Heap.lt_size z1))
  have stay : (PySem.W.hideAll B [ce.locals]).StaysIn h2 := fun b o e => by
    by_cases hb : b = ce.locals
    · rw [hb, PySem.W.hideAll_none _ (by simp)] at e
      cases e
    · exact (sb.2 b hb).trans (w1 b o (PySem.W.of_hideAll _ e))
  have none2 : ∀ b, B.get? b = none → (PySem.W.hideAll B [ce.locals]).get? b = none := fun b e => by
    cases z : (PySem.W.hideAll B [ce.locals]).get? b with
    | none => rfl
    | some o => rw [PySem.W.of_hideAll _ z] at e; cases e
  have ff2 : h2.FunFrames (PySem.W.hideAll B [ce.locals]) (X.env :: X.outer) := funFrames_none (ff_same w3 fun L hL => sb.2 L (frC L hL)) fun L hL => none2 L (w3.mem hL).1
  have e1' := (sb.2 a nCa).trans e1
  unfold PySem.passOn
  refine wpAny_bind (wpAny_field e1' e3 e4 ?_)
  rw [if_neg (by simp)]
  have last : wpAny (model X.prog X.w) X.A (setFlight (.ref a) ce.frame) (fun _ t => wpAny (model X.prog X.w) X.A (throw (.ref a) : Sem Value) (fun _ _ => False) X.xe t) X.xe { s' with heap := h2 } := by
    rw [cF, hf]
    refine HandSPX.setFlight_anyZ stay ff2 ⟨oe, vs, T, oT, ts, e1', e2, e3, e4, none2 T e5, e6, (sb.2 T nCT).trans e7, e8, e9⟩ fun h4 k1 k2 k3 up4 => wpAny_throw (tk _ _ ?_)
    refine ⟨a, PySem.W.hideAll B [ce.locals], { g with heap := PySem.W.hideAll g.heap [ce.locals] }, pins, σ, H2, cls, d, rfl, Ix, fun b o e hb => ?_, fun b o e hd => ?_, .inr (.inr (by rw [hs]; exact ⟨k1, none2 a w2, k2, k3⟩)), na, os, ag, w⟩
    · have hbC : b ≠ ce.locals := fun z => by
        have e' : (PySem.W.hideAll g.heap [ce.locals]).get? b = some o := e
        rw [z, PySem.W.hideAll_none _ (by simp)] at e'
        cases e'
      exact PySem.W.hideAll_get _ (gnd b o (PySem.W.of_hideAll _ e) hb) (by simpa using hbC)
    · have hbC : b ≠ ce.locals := fun z => by
        have e' : (PySem.W.hideAll g.heap [ce.locals]).get? b = some o := e
        rw [z, PySem.W.hideAll_none _ (by simp)] at e'
        cases e'
      obtain ⟨sl1, z1⟩ := (up.trans up1) b o (PySem.W.of_hideAll _ e) hd
      obtain ⟨sl2, z2⟩ := up4 b _ ((sb.2 b hbC).trans z1) hd
      exact ⟨sl2, z2⟩
  first
    | exact wpAny_bind (wpAny_pure (wpAny_bind last))
    | exact wpAny_bind last
end Mp

/-! Mu2: comprehensions whose item raises, on. -/
namespace Mp
open PySem PySem.Spec L2
open PyProof.Rows hiding St

section
variable {X : Cx} {W : WX} {elt tg iter : Expr} {ifs : List Expr} {scope : Scope} {own : List (Str × Nat)} {pos : Pos} {wi : TI} {g : TG} {tt : TT} {te : WX → TE}
/-- the item's judgement, in the block, whatever takes its exceptions -/
def EltE (X : Cx) (scope : Scope) (elt : Expr) (te : WX → TE) : Prop := ∀ (s : Shared) (H : Hp) (C : Addr) (cl : List (Str × Addr)) (fp : List Addr) (pn : List (Addr × Obj)) (xe : Value → Shared → Prop) (W' : WX),
  TakesF ((X.blk s H scope (compEnvC scope cl C X.env) fp).tr pn xe) W' → PE ((X.blk s H scope (compEnvC scope cl C X.env) fp).tr pn xe) elt (te W')
theorem lcE_core {pins : List (Addr × Obj)} {s : Shared} {σ : St} {H : Hp} {Q : VK} {pos' : Pos} {use : Option (Value → Sem Unit)} {Qf : Value → Shared → Prop} (hst : X.stack = X.env :: X.outer) (hfr : X.env.frame = some X.env.locals) (tk : Takes X W)
    (hc : X.calm = true) (hN : X.N.Nodup) (I : Inv X pins σ H s) (hi : PI X tg iter wi) (ok : BlkOk X.N X.env.scope scope own)
    (hg : ∀ (s : Shared) (H : Hp) (C : Addr) (cl : List (Str × Addr)) (fp : List Addr), PG (X.blk s H scope (compEnvC scope cl C X.env) fp) tg g) (ht : ∀ (s : Shared) (H : Hp) (C : Addr) (cl : List (Str × Addr)) (fp : List Addr), PTs (X.blk s H scope (compEnvC scope cl C X.env) fp) ifs tt)
    (he : EltE X scope elt te) (hfold : ∀ x, foldedSetIterable iter X.env x = pure x) (h : tLc wi g tt (te fun cls d _ H' => W cls d σ H') (own.map (·.2)) σ H Q)
    (fin : ∀ D C s' m H', Inv X pins σ H' s' → Q (.ref D) H' → s'.heap.Ns C m → FpOk X pins H' C → compPost (model X.prog X.w) X.A X.xe use Qf (.ref D) C (.ok .next) s') :
    wpAny (model X.prog X.w) X.A (comprehension (.ListComp elt [⟨tg, iter, ifs, 0⟩] scope pos) scope X.env pos' (newList []) false (eval iter X.env) use) Qf X.xe s := by
  have cells : ∀ y ∈ scope.names, y.2 = .free → ∃ c, X.env.cells.lookup y.1 = some c := fun y hy z => (ok.free y hy z).elim (fun k => I.ok.has _ (.inl k)) fun k => I.ok.has _ (.inr k)
  refine comp_free (use := use) rfl hfold (closure_ok cells) ok.kind (fun y hy z => by rw [ok.uniq y hy, z]) (thn (hi.run pins s σ H _ I h) fun v1 t1 k1 => thn k1 fun v2 t2 k2 => ?_)
  obtain ⟨it, fp, tn, J, H2, rfl, I2, Tn, st2, fp2, q2⟩ := k2
  refine wpAny_newObj_type (newEnv_comp ?_) (by show 0 ≤ sizeLine; decide)
  generalize hD : t2.heap.objs.size = D
  have D0 : H2 D = none := I2.hok.fresh (Nat.le_of_eq hD)
  obtain ⟨Wt, ⟨m0, w0⟩, turn⟩ := q2 D D0
  generalize e3 : ({ t2 with heap := t2.heap.push { cls := .type "list", data := .seq ([] : List Value).toArray } } : Shared) = t3
  have hp3 : t3.heap = t2.heap.push { cls := .type "list", data := .seq ([] : List Value).toArray } := by rw [← e3]
  have I3 : Inv X pins σ (upd H2 D (.lst [])) t3 := by
    rw [← e3]
    exact I2.laid (t' := t2.toks) (fun b o z => Heap.get?_push_of_some _ z) (Nat.le_of_eq hD) ⟨Nat.zero_le _, [], 0, .nil, by rw [← hD]; exact Heap.get?_push_size _ rfl⟩
  have fp3 : ∀ b ∈ fp, FpOk X pins (upd H2 D (.lst [])) b ∧ b < t3.heap.objs.size := fun b hb => by
    obtain ⟨o, z, _⟩ := Tn.obj _ _ st2 b hb
    have lt := Heap.lt_size z
    exact ⟨⟨by rw [upd_ne (by rw [← hD]; exact Nat.ne_of_lt lt)]; exact (fp2 b hb).1, (fp2 b hb).2⟩, by rw [hp3, Heap.size_push]; exact Nat.lt_succ_of_lt lt⟩
  have st3 : tn 0 t3.heap := Tn.keep _ _ _ st2 fun b _ o z => by rw [hp3]; exact Heap.get?_push_of_some _ z
  have I4 := block_start I3 ok hN fp3
  have PG1 := hg t3 (upd H2 D (.lst [])) t3.heap.objs.size (cellsFrom (t3.heap.objs.size + 1) scope.names (cloFrom X.env.cells scope.names [])) fp
  have PT1 := ht t3 (upd H2 D (.lst [])) t3.heap.objs.size (cellsFrom (t3.heap.objs.size + 1) scope.names (cloFrom X.env.cells scope.names [])) fp
  have PE1 := he t3 (upd H2 D (.lst [])) t3.heap.objs.size (cellsFrom (t3.heap.objs.size + 1) scope.names (cloFrom X.env.cells scope.names [])) fp
  show codeAny _ _ (.compStart (.ListComp elt [⟨tg, iter, ifs, 0⟩] scope pos) 0 (.ref it) (.ref D) (compEnvC scope (cellsFrom (t3.heap.objs.size + 1) scope.names (cloFrom X.env.cells scope.names [])) t3.heap.objs.size X.env))
    (blkEnd (model X.prog X.w) X.A X.xe use Qf (.ref D) (compEnvC scope (cellsFrom (t3.heap.objs.size + 1) scope.names (cloFrom X.env.cells scope.names [])) t3.heap.objs.size X.env)) { t3 with heap := pushCells (t3.heap.push { cls := .type "dict", data := .dict #[] }) scope.names }
  generalize ece : compEnvC scope (cellsFrom (t3.heap.objs.size + 1) scope.names (cloFrom X.env.cells scope.names [])) t3.heap.objs.size X.env = ce at I4 PG1 PT1 PE1 ⊢
  have cL : ce.locals = t3.heap.objs.size := by subst ece; rfl
  have cF : ce.frame = X.env.frame := by subst ece; rfl
  have TK := fun pn => blk_takes (scope := scope) (fp := fp) (pn := pn) (use := use) (Qf := Qf) (acc := .ref D) hst hfr tk I3 cL cF fun b hb => (fp3 b hb).1
  have nf3 : ∀ b ∈ fp, (upd H2 D (.lst [])) b = none := fun b hb => (fp3 b hb).1.1
  generalize eH3 : upd H2 D (.lst []) = H3 at I3 I4 PG1 PT1 PE1 w0 nf3 fp3 TK
  generalize e4 : ({ t3 with heap := pushCells (t3.heap.push { cls := .type "dict", data := .dict #[] }) scope.names } : Shared) = t4 at I4 ⊢
  have st4 : tn 0 t4.heap := Tn.keep _ _ _ st3 fun b _ o z => by rw [← e4]; exact pushCells_keeps _ _ _ _ (Heap.get?_push_of_some _ z)
  have fpk : ∀ {σ' : St} {H' : Hp} {s' : Shared}, Inv (X.blk t3 H3 scope ce fp) [] σ' H' s' → (∀ b ∈ fp, H' b = none) → ∀ b ∈ fp, FpOk (X.blk t3 H3 scope ce fp) [] H' b := fun {σ' H' s'} I' hn b hb =>
    ⟨hn b hb, (I'.ok.exf b hb).1, I'.ok.exfs b hb, .inl hb, fun x c z => (I'.ok.exf b hb).2 x c z, fun p hp => absurd (show p ∈ ([] : List (Addr × Obj)) ++ [] from hp) (by simp)⟩
  have loop : codeAny (model X.prog X.w) X.A (.compLoop (.ListComp elt [⟨tg, iter, ifs, 0⟩] scope pos) 0 (.ref it) (.ref D) ce) (blkEnd (model X.prog X.w) X.A X.xe use Qf (.ref D) ce) t4 := by
    refine compLoop_any (fun n t => ∃ i H', Inv (X.blk t3 H3 scope ce fp) [] (L2.wipe σ (own.map (·.2))) H' t ∧ tn i t.heap ∧ (∀ b ∈ fp, H' b = none) ∧ Wt i n H') ?_ m0 ⟨0, H3, I4, st4, nf3, w0⟩
    rintro n t5 ⟨i, H5, I5, st5, n5, w5⟩
    rcases turn i n H5 w5 with ⟨stop, last⟩ | ⟨go, Nx, hNx, step⟩
    · refine thnF (Tn.done (X.blk t3 H3 scope ce fp) rfl rfl rfl hc i [] t5 _ H5 (fun _ _ => False) I5 (fpk I5 n5) st5 stop) fun r t6 ⟨hr, I6⟩ => ?_
      subst hr
      have I7 : Inv X pins σ H5 t6 := I3.call' (ch := fp) I6.os I6.base I6.hok I6.bare fun b hb => ⟨(fp3 b hb).1.2.2.2.1, (fp3 b hb).1.2.1, (fp3 b hb).1.2.2.2.2.1, (fp3 b hb).1.2.2.2.2.2⟩
      have nC : H5 ce.locals = none := I6.free
      obtain ⟨m, hn, _⟩ := I6.loc
      have hn : t6.heap.Ns ce.locals m := hn
      exact fin D ce.locals t6 m H5 I7 last hn (by rw [cL]; exact I3.fpOk (Nat.le_refl _) (by rw [← cL]; exact nC))
    · refine thnF (Tn.item (X.blk t3 H3 scope ce fp) rfl rfl rfl hc i [] t5 _ H5 (fun _ _ => False) I5 (fpk I5 n5) st5 go) fun r t6 ⟨u, hr, k6⟩ => ?_
      subst hr
      refine thnF k6 fun _ t7 ⟨x, H7, I7, r7, y7, st7, n7⟩ => ?_
      have I7p := I7.pinned (fpk I7 n7) (Tn.obj _ _ st7)
      refine thnF (PG1.run _ t7 _ H7 x u _ I7p r7 (step x H7 y7)) fun _ t8 ⟨σ8, H8, I8, ew8, q8⟩ => ?_
      refine thnF (PT1.run _ t8 σ8 H8 _ I8 q8) fun b t9 ⟨H9, I9, q9⟩ => ?_
      have next : ∀ {t : Shared} {H' : Hp}, Inv (X.blk t3 H3 scope ce fp) ([] ++ pinsAt fp t7.heap) σ8 H' t → Nx H' → ∃ m, m < n ∧ ∃ i H', Inv (X.blk t3 H3 scope ce fp) [] (L2.wipe σ (own.map (·.2))) H' t ∧ tn i t.heap ∧ (∀ b ∈ fp, H' b = none) ∧ Wt i m H' := fun {t H'} I' nx => by
        obtain ⟨m', lt, w'⟩ := hNx H' nx
        have pinned : ∀ b ∈ fp, ∀ o, t7.heap.get? b = some o → t.heap.get? b = some o ∧ H' b = none := fun b hb o z =>
          let y := I'.pin (b, o) (List.mem_append_right _ (List.mem_append_right _ (mem_pinsAt hb z)))
          ⟨y.1, y.2.1⟩
        refine ⟨m', lt, i + 1, H', (I'.unpinned (pins := [])).weak (by rw [← ew8, L2.wipe_length]) (fun j v z => ?_), Tn.keep _ _ _ st7 (fun b hb o z => (pinned b hb o z).1), fun b hb => ?_, w'⟩
        · rw [← ew8] at z
          exact (wipe_some z).1
        · obtain ⟨o, z, _⟩ := Tn.obj _ _ st7 b hb
          exact (pinned b hb o z).2
      cases b with
      | false =>
        simp only [Bool.false_eq_true, if_false] at q9 ⊢
        exact next I9 q9
      | true =>
        simp only [if_true] at q9 ⊢
        have I9t : Inv ((X.blk t3 H3 scope ce fp).tr ([] ++ ([] ++ pinsAt fp t7.heap)) (notedBy (model X.prog X.w) X.A ce fun e t => blkEnd (model X.prog X.w) X.A X.xe use Qf (.ref D) ce (.error e) t)) [] σ8 H9 t9 := I9.toTry _
        refine wpAny_mono ((PE1 _ _ _ (TK _)).run [] t9 σ8 H9 _ I9t q9) (fun z t10 ⟨yv, H10, I10, r10, acc, hD10, hz10, nx⟩ => ?_) fun _ _ z => z
        have I10 : Inv (X.blk t3 H3 scope ce fp) ([] ++ pinsAt fp t7.heap) σ8 H10 t10 := I10.ofTry I9.ok
        exact app_ok (X := X.blk t3 H3 scope ce fp) I10 hD10 hz10 r10 fun t11 I11 => next I11 nx
  exact codeAny_compStart_list loop (Tn.self X.A 0 _ _ _ st4 loop)
/-- as a value -/
theorem pe_lcE (hst : X.stack = X.env :: X.outer) (hfr : X.env.frame = some X.env.locals) (tk : Takes X W) (hc : X.calm = true) (hN : X.N.Nodup) (hi : PI X tg iter wi) (ok : BlkOk X.N X.env.scope scope own)
    (hg : ∀ (s : Shared) (H : Hp) (C : Addr) (cl : List (Str × Addr)) (fp : List Addr), PG (X.blk s H scope (compEnvC scope cl C X.env) fp) tg g) (ht : ∀ (s : Shared) (H : Hp) (C : Addr) (cl : List (Str × Addr)) (fp : List Addr), PTs (X.blk s H scope (compEnvC scope cl C X.env) fp) ifs tt)
    (he : EltE X scope elt te) (hfold : ∀ x, foldedSetIterable iter X.env x = pure x := by intro _; rfl) :
    PE X (.ListComp elt [⟨tg, iter, ifs, 0⟩] scope pos) (fun σ H Q => tLc wi g tt (te fun cls d _ H' => W cls d σ H') (own.map (·.2)) σ H Q) := by
  refine ⟨fun pins s σ H Q I h => ?_⟩
  rw [eval_ListComp]
  refine lcE_core hst hfr tk hc hN I hi ok hg ht he hfold h fun D C s' m H' I' q hn f => ⟨m, hn, fun h2 sb => ?_⟩
  obtain ⟨f0, f1, f2, f3, f4, f5⟩ := f
  exact ⟨.ref D, H', I'.turned (t' := s'.toks) (fun b o hb e => (sb.2 b hb).trans e) f0 f1 f3 f4 f5, rfl, q⟩
end
end Mp

/-! Mu3: comprehensions whose item raises, as data. -/
namespace Mp
open PySem L2

/-- a new list's own turn -/
structure LxI (T : Tx) (W : WX) (σ : St) (vs : List Nat) (F0 H0 : Hp) (A0 : Ad) (F1 H1 : Hp) (A1 : Ad) (p : Addr) (f : D → List Sl → Res (Option D)) (rest : List D) (G1 : List Sl) (P : R → List Sl → Hp → Hp → Ad → Prop) (H : Hp) : Prop where
  ex : ∃ F G A acc xs, Rel T F H (wipe σ vs) G A ∧ Step F1 H1 A1 F H A ∧ H p = some (.lst xs) ∧ Reps T F xs acc ∧ F p = none ∧ (∀ i, A i ≠ some p) ∧ Mt T W σ F0 H0 A0 (lcxEnd G1 vs (lcLoopX f rest acc G)) P
section
variable {X : Cx} {c : Cf} {T : Tx} {W : WX} {a b d o e tg elt iter : Expr} {x y z : E} {l : Es} {es ifs : List Expr} {pos p : Pos} {pr : Bool}
theorem lcx_core' {t : Tg} {it : It} {cd : Eo} {vs : List Nat} {σ : St} {H : Hp} {Q : VK} (hnf : NfOk T c.nf) (hsub : ∀ j ∈ tgL t, j ∈ vs) (h : rdE c T W (.lcx vs t it cd x) σ H Q) :
    tLc (rdI c T W it) (rdG T false t) (rdC c T WF cd) (rdE c T (fun cls d _ H' => W cls d σ H') x) vs σ H Q := by
  obtain ⟨F, G, A, R0, m⟩ := h
  unfold evE at m
  refine ⟨F, G, A, R0, m.bind.imp fun ds G1 F1 H1 A1 R1 s1 m1 J src p hp => ?_⟩
  generalize hf : (fun (d : Mp.D) (G2 : List Sl) => match tgF false t d G2 with
        | some G3 => match evC c cd G3 with
          | .ok ok G4 => if ok = true then (match evE c x G4 with
              | .ok x G5 => match fzR c.nf G5 x with
                | some (y, G6) => Res.ok (some y) (wipeG G6 vs)
                | none => .st
              | .ex x G5 => .ex x (wipeG G5 vs)
              | .st => .st) else .ok none (wipeG G4 vs)
          | _ => .st
        | none => .st) = f at m1
  by_cases hpl : plainA G1 vs = true
  case neg => simp [hpl, Mt] at m1
  rw [if_pos hpl] at m1
  have n1 : F1 p = none := none_le R1.sub hp
  have nb : ¬ A1.b p := fun z => (R1.bs p z).1 hp
  obtain ⟨R1p, s1p⟩ := R1.laid (o := .lst []) hp
  have start : LxI T W σ vs F H A F1 H1 A1 p f ds G1 (fun r _ F' H' A' => ∀ v, RepR T F' H' σ A' v r → Nw H A v r → Q v H') (upd H1 p (.lst [])) :=
    ⟨F1, wipeG G1 vs, wipeA A1 vs, [], [], R1p.wipe, s1p.trans wipeA_step, upd_same, .nil, n1, fun i q => R1.nown hp i (wipeA_some q), m1⟩
  refine ⟨fun i k H2 => k = ds.length - i ∧ i ≤ ds.length ∧ LxI T W σ vs F H A F1 H1 A1 p f (ds.drop i) G1 (fun r _ F' H' A' => ∀ v, RepR T F' H' σ A' v r → Nw H A v r → Q v H') H2,
    ⟨ds.length, rfl, Nat.zero_le _, start⟩, ?_⟩
  rintro i k H2 ⟨rfl, hle, F2, G2, A2, acc, xs, R2, s2, hp2, rx, nF2, nA2, m2⟩
  obtain ⟨g1, g2, g3⟩ := src i F2 H2 (wipe σ vs) G2 A2 R2 s2
  by_cases hlt : i < ds.length
  · refine .inr ⟨g1 hlt, fun H3 => LxI T W σ vs F H A F1 H1 A1 p f (ds.drop (i + 1)) G1 (fun r _ F' H' A' => ∀ v, RepR T F' H' σ A' v r → Nw H A v r → Q v H') H3,
      fun H3 q => ⟨ds.length - (i + 1), by omega, rfl, hlt, q⟩, fun v H3 y => ?_⟩
    obtain ⟨d, F3, hd, R3, s3, rp⟩ := g3 v H3 y hlt
    rw [drop_get hd] at m2
    unfold lcLoopX at m2
    cases h4 : tgF false t d G2 with
    | none =>
      rw [← hf] at m2
      simp [h4, lcxEnd, Mt] at m2
    | some G4 =>
      have hfd : f d G2 = match evC c cd G4 with
          | .ok ok G4 => if ok = true then (match evE c x G4 with
              | .ok x G5 => match fzR c.nf G5 x with
                | some (y, G6) => Res.ok (some y) (wipeG G6 vs)
                | none => .st
              | .ex x G5 => .ex x (wipeG G5 vs)
              | .st => .st) else .ok none (wipeG G4 vs)
          | _ => .st := by
        rw [← hf]
        simp only [h4]
      rw [hfd] at m2
      refine ⟨F3, G2, A2, d, G4, R3, rp, h4, fun σ4 F4 H4 A4 R4 s4 _ o4 => ⟨?_, F4, G4, A4, R4, ?_⟩⟩
      · rw [wipe_ext (o4.sub hsub), wipe_wipe]
      have hw : wipe σ4 vs = wipe σ vs := by rw [wipe_ext (o4.sub hsub), wipe_wipe]
      have keep : ∀ {F5 H5 A5}, Step F2 H2 A2 F5 H5 A5 → H5 p = some (.lst xs) ∧ F5 p = none ∧ (∀ i, A5 i ≠ some p) ∧ ¬ A5.b p := fun {F5 H5 A5} s => by
        refine ⟨s.h _ _ hp2 nA2, ?_, fun i q => ?_, ?_⟩
        · cases q : F5 p with
          | none => rfl
          | some u =>
            rcases s.n p (by rw [q]; exact fun z => nomatch z) with z | ⟨i, z⟩ | z
            · exact absurd nF2 z
            · exact absurd z (nA2 i)
            · rw [z] at hp2; cases hp2
        · rcases s.o i _ q with ⟨j, z⟩ | z
          · exact nA2 j z
          · rw [z] at hp2; cases hp2
        · rw [s.b, s2.b]
          exact nb
      have s24 := s3.trans s4
      cases h5 : evC c cd G4 with
      | st => rw [h5] at m2; exact m2.elim
      | ex x1 G5 => rw [h5] at m2; exact m2.elim
      | ok t5 G5 =>
        rw [h5] at m2
        intro F5 H5 A5 R5 s5
        have s25 := s24.trans s5
        cases t5 with
        | false =>
          obtain ⟨k1, k2, k3, k4⟩ := keep s25
          have R6 := R5.wipe (vs := vs)
          rw [hw] at R6
          exact ⟨F5, _, _, acc, xs, R6, (s2.trans s25).trans wipeA_step, k1, rx.mono s25.f, k2, fun i q => k3 i (wipeA_some q), by simpa using m2⟩
        | true =>
          refine ⟨F5, G5, A5, R5, ?_⟩
          simp only [if_true] at m2
          cases h6 : evE c x G5 with
          | st => rw [h6] at m2; exact m2.elim
          | ex x1 G6 =>
            rw [h6] at m2
            intro F6 H6 A6 cls dd R6 s6 er
            have s26 := s25.trans s6
            have R7 := R6.wipe (vs := vs)
            rw [hw] at R7
            have R8 := R1.back hpl R7 ((s2.trans s26).f)
            exact m2 F6 H6 _ cls dd R8 (s1.trans (((s2.trans s26).trans wipeA_step).trans wipeA_step)) er
          | ok y6 G6 =>
            rw [h6] at m2
            intro F6 H6 A6 R6 s6 w rp6 nw6
            simp only at m2
            cases h7 : fzR c.nf G6 y6 with
            | none => simp [h7, lcxEnd, Mt] at m2
            | some q7 =>
              obtain ⟨y7, G7⟩ := q7
              simp only [h7] at m2
              obtain ⟨F7, R7, s7, _, rp7⟩ := park_ok R6 s6 rp6 nw6
              obtain ⟨F8, A8, R8, s8, rp8, _⟩ := fzR_ok hnf R7 rp7 h7
              have s28 := (s25.trans s7).trans s8
              obtain ⟨k1, k2, k3, k4⟩ := keep s28
              by_cases hz : acc.length < sizeLine
              case neg => simp [hz, lcxEnd, Mt] at m2
              simp only [hz, if_true] at m2
              refine ⟨xs, k1, by rw [rx.length]; exact hz, ?_⟩
              have R9 := (R8.side (o := .lst (xs ++ [w])) k2 k3 k4 (by rw [k1]; exact fun z => nomatch z)).wipe (vs := vs)
              rw [hw] at R9
              refine ⟨F8, _, _, acc ++ [y7], xs ++ [w], R9, ((s2.trans s28).side hp (by rw [k1]; exact fun z => nomatch z)).trans wipeA_step, upd_same, (rx.mono s28.f).append rp8, k2, fun i q => k3 i (wipeA_some q), m2⟩
  · have he : i = ds.length := by omega
    subst he
    rw [List.drop_length] at m2
    refine .inl ⟨g2 (Nat.le_refl _), ?_⟩
    have R3 := R1.back hpl R2 s2.f
    exact m2 F2 H2 _ R3 (s1.trans (s2.trans wipeA_step)) _ (.ol hp2 rx nF2 fun i q => nA2 i (wipeA_some q)) fun ds l _ e => by
      cases e
      exact .inl (s1.k _ hp)
theorem de_lcx {t : Tg} {it : It} {cd : Eo} {scope : Scope} {own : List (Str × Nat)} (hst : X.stack = X.env :: X.outer) (hfr : X.env.frame = some X.env.locals) (tk : Takes X W) (hnf : NfOk T c.nf) (hc : X.calm = true) (hN : X.N.Nodup) (hi : DI X c T W tg iter it) (ok : BlkOk X.N X.env.scope scope own) (hsub : ∀ j ∈ tgL t, j ∈ own.map (·.2))
    (hg : ∀ (s : Shared) (H : Hp) (C : Addr) (cl : List (Str × Addr)) (fp : List Addr), DG (X.blk s H scope (compEnvC scope cl C X.env) fp) T false tg t) (ht : ∀ (s : Shared) (H : Hp) (C : Addr) (cl : List (Str × Addr)) (fp : List Addr), DC (X.blk s H scope (compEnvC scope cl C X.env) fp) c T WF ifs cd)
    (he : EltE X scope elt fun W' => rdE c T W' x) (hs : ∀ x, foldedSetIterable iter X.env x = pure x := by intro _; rfl) :
    DE X c T W (.ListComp elt [⟨tg, iter, ifs, 0⟩] scope pos) (.lcx (own.map (·.2)) t it cd x) :=
  pe_imp (pe_lcE hst hfr tk hc hN hi ok hg ht he hs) fun σ H Q h => lcx_core' hnf hsub h
end
end Mp

/-! Mv1: words for try, raise, raising comprehensions. -/
namespace Mp
open PySem PySem.Spec L2
open PyProof.Rows hiding St

/-- what a clause's class takes of the text's classes -/
def catB (exs : List XC) (cn : Str) (cs : List Nat) (K : PySem.W.Frag) : Bool := (List.range exs.length).all fun j => match exs[j]? with
  | some q => decide (PySem.W.exmOne K (.ref (He.ga K q.nm)) (.ref (He.ga K cn)) = some (cs.contains j))
  | none => true
/-- a class without __init__ of its own, of a built-in base -/
def raisB (bm : List Value) (newId : String) (x : Str) (K : PySem.W.Frag) : Bool := PySem.W.excIn K (He.ga K x) bm newId && (PySem.W.keepIn K (.ref (He.ga K x)) && (decide (PySem.W.subIn K (.ref (He.ga K x)) (.type "BaseException") = some true) && decide (PySem.W.typeIn K (.ref (He.ga K x)) = some (.type "type"))))
abbrev bmV : List Value := [.type "ValueError", .type "Exception", .type "BaseException", .type "object"]
abbrev bmZ : List Value := [.type "ZeroDivisionError", .type "ArithmeticError", .type "Exception", .type "BaseException", .type "object"]
abbrev bmI : List Value := [.type "IndexError", .type "LookupError", .type "Exception", .type "BaseException", .type "object"]
section
variable {X : Cx} {c : Cf} {T : Tx} {W : WX} {k : Nat} {L : Lw} {a b d e : Expr} {x y z : E} {l : Es} {es : List Expr} {pos p apos : Pos}
theorem Env.tr (V : Env X T c k L) {pn : List (Addr × Obj)} {xe : Value → Shared → Prop} : Env (X.tr pn xe) T c k L :=
  ⟨V.tx, V.hT, V.hX, V.calm, V.room, V.nf, V.mt, V.fns, V.fnm, V.cs, V.fr, V.isl, V.own, V.fa, V.bs, ⟨V.eqs.hK, V.eqs.ea, V.eqs.ci, V.eqs.kb, V.eqs.own, V.eqs.nf, V.eqs.nt⟩⟩
theorem Env.ea (V : Env X T c k L) {j : Nat} {q : XC} (hj : L.exs[j]? = some q) : T.ea j = He.ga X.K q.nm ∧ j < T.ne := by
  rw [V.tx]
  exact ⟨tx_ea hj, (List.getElem?_eq_some_iff.mp hj).1⟩
theorem w_try {body : List Stmt} {h₀ : ExceptHandler} {hds : List ExceptHandler} {hs : List Hd} {b : Ss} (V : Env X T c k L) (h1 : X.stack = X.env :: X.outer) (h2 : X.env.frame = some X.env.locals)
    (hb : ∀ (W' : WX) (pn : List (Addr × Obj)) (xe : Value → Shared → Prop), Takes (X.tr pn xe) W' → PassesOwn (model X.prog X.w) X.A X.env xe → Env (X.tr pn xe) T c k L → DSs (X.tr pn xe) c T W' body b) (hh : HOk X T W c.pr (h₀ :: hds) hs) : DS X c T W (.Try body (h₀ :: hds) [] [] pos) (.tr b hs) :=
  ds_try h1 h2 hh fun W' pn xe t p => hb W' pn xe t p V.tr
theorem w_keep {cn n x : Str} {np pn pc px pa : Pos} {i j : Nat} {cs : List Nat} {hds : List ExceptHandler} {hs : List Hd} {pr : Bool} (V : Env X T c k L) (h1 : X.stack = X.env :: X.outer) (h2 : X.env.frame = some X.env.locals) (hex : X.ex = []) (hN : X.N.Nodup) (hi : X.N[i]? = some n) (hj : X.N[j]? = some x) (hln : X.env.kindOf n = some .local) (hlx : X.env.kindOf x = some .local)
    (bi : Nat) (hb : L.bs[bi]? = some (catB L.exs cn cs)) (fi : Nat) (hf : L.fa[fi]? = some (He.Fa.glo cn)) (hg : Gl X cn) (rest : HOk X T W pr hds hs) (hd0 : (cn == ("__debug__" : Str)) = false := by decide) (hd1 : (n == ("__debug__" : Str)) = false := by decide) (hd2 : (n == ("__classdict__" : Str)) = false := by decide) (hsw : ∀ a q, swapsWith (.Name n pn) (some (.Name x px)) pa.line (X.suite a q).env = pure false := by intro _ _; rfl) :
    HOk X T W pr (.ExceptHandler (some (.Name cn np)) (some n) [.Assign [.Name x px] (.Name n pn) pa] pc :: hds) (⟨cs, .keep i j⟩ :: hs) :=
  hok_keep h1 h2 hex hN hi hj hln hlx (cv := .ref (He.ga X.K cn)) ⟨hg, hd0, .inl (V.own _ (List.mem_of_getElem? hf))⟩ (fun k hk => by
    have hk' : k < L.exs.length := by rw [V.tx] at hk; exact hk
    obtain ⟨q, hq, _⟩ := exs_at hk'
    rw [(V.ea hq).1]
    have := List.all_eq_true.mp (V.bs _ (List.mem_of_getElem? hb)) k (List.mem_range.mpr hk')
    rw [hq] at this
    exact of_decide_eq_true this) rest hd1 hd2 hsw
theorem w_rs {B newId initId : String} {bmB : List Value} {m : Str} {jj : Nat} {p2 pos' : Pos} (V : Env X T c k L) (tk : Takes X W) (Fb : ExcBaseFacts B newId initId bmB) (j : Nat) {q : XC} (hj : L.exs[j]? = some q) (bi : Nat) (hb : L.bs[bi]? = some (raisB bmB newId q.nm)) (fi : Nat) (hf : L.fa[fi]? = some (He.Fa.glo q.nm)) (hg : Gl X q.nm) (hdb : (q.nm == ("__debug__" : Str)) = false := by decide) :
    DS X c T W (.Raise (some (.Call (.Name q.nm p) [.Constant (.str m) jj p2] [] pos')) none pos) (.rs j .nil) := by
  obtain ⟨e, hk⟩ := V.ea hj
  have h := V.bs _ (List.mem_of_getElem? hb)
  obtain ⟨h1, h⟩ := He.ba h
  obtain ⟨h2, h⟩ := He.ba h
  obtain ⟨h3, h4⟩ := He.ba h
  exact ds_rs V.calm tk Fb (by rw [e]; exact h1) (by rw [e]; exact V.own _ (List.mem_of_getElem? hf)) (by rw [e]; exact h2) (by rw [e]; exact raises_own (of_decide_eq_true h3) (of_decide_eq_true h4)) hk hg hdb
end
section
variable {X : Cx} {c : Cf} {T : Tx} {W : WX} {k : Nat} {L : Lw} {tg elt iter : Expr} {x : E} {ifs : List Expr} {pos : Pos} {t : Tg} {it : It} {cd : Eo} {scope : Scope} {own : List (Str × Nat)}
theorem w_lcx (V : Env X T c k L) (hN : X.N.Nodup) (tk : Takes X W) (h1 : X.stack = X.env :: X.outer) (h2 : X.env.frame = some X.env.locals) (hi : DI X c T W tg iter it) (ok : BlkOk X.N X.env.scope scope own) (hsub : ∀ j ∈ tgL t, j ∈ own.map (·.2))
    (hg : ∀ (s : Shared) (H : Hp) (C : Addr) (cl : List (Str × Addr)) (fp : List Addr), Env (X.blk s H scope (compEnvC scope cl C X.env) fp) T c k L → DG (X.blk s H scope (compEnvC scope cl C X.env) fp) T false tg t)
    (ht : ∀ (s : Shared) (H : Hp) (C : Addr) (cl : List (Str × Addr)) (fp : List Addr), Env (X.blk s H scope (compEnvC scope cl C X.env) fp) T c k L → DC (X.blk s H scope (compEnvC scope cl C X.env) fp) c T WF ifs cd)
    (he : ∀ (s : Shared) (H : Hp) (C : Addr) (cl : List (Str × Addr)) (fp : List Addr) (pn : List (Addr × Obj)) (xe : Value → Shared → Prop) (W' : WX), Env ((X.blk s H scope (compEnvC scope cl C X.env) fp).tr pn xe) T c k L → TakesF ((X.blk s H scope (compEnvC scope cl C X.env) fp).tr pn xe) W' → DE ((X.blk s H scope (compEnvC scope cl C X.env) fp).tr pn xe) c T W' elt x)
    (hs : ∀ x, foldedSetIterable iter X.env x = pure x := by intro _; rfl) : DE X c T W (.ListComp elt [⟨tg, iter, ifs, 0⟩] scope pos) (.lcx (own.map (·.2)) t it cd x) :=
  de_lcx h1 h2 tk V.nf V.calm hN hi ok hsub (fun s H C cl fp => hg s H C cl fp V.blk) (fun s H C cl fp => ht s H C cl fp V.blk) (fun s H C cl fp pn xe W' t => he s H C cl fp pn xe W' V.blk.tr t) hs
end
end Mp

/-! Mp18: running the small language by simp, at a written frame. -/
namespace Mp
open PySem L2
section
variable {c : Cf} {s : Sl} {G : List Sl} {a b d e : E} {l : Es} {o : Eo} {i j : Nat}
@[simp] theorem v_k {d : D} : evE c (.k d) (s :: G) = .ok (.d d) (s :: G) := by rw [evE]
@[simp] theorem v_v : evE c (.v i) (s :: G) = match (s :: G)[i]? with
    | some (.fz d) => .ok (.d d) (s :: G)
    | some .no => .st
    | some _ => .ok (.al i) (s :: G)
    | none => .st := by rw [evE]; try rfl
@[simp] theorem v_op {o : Op2} : evE c (.op o a b) (s :: G) = resBind (evE c a (s :: G)) fun x G1 => resBind (evE c b G1) fun y G2 => match pk G2 (park x), pk G2 (park y) with
    | some d, some e => ofO (bop o d e) G2
    | _, _ => .st := by rw [evE]; try rfl
@[simp] theorem v_neg : evE c (.neg a) (s :: G) = resBind (evE c a (s :: G)) fun x G1 => match pk G1 (park x) with
    | some (.int i) => .ok (.d (.int (-i))) G1
    | _ => .st := by rw [evE]; try rfl
@[simp] theorem v_cm {o : Cm} : evE c (.cm o a b) (s :: G) = resBind (evE c a (s :: G)) fun x G1 => resBind (evE c b G1) fun y G2 => match pk G2 (park x), pk G2 (park y) with
    | some d, some e => match copX c (frzn G2 x) (frzn G2 y) o d e with
      | some r => .ok (.d (.bl r)) G2
      | none => .st
    | _, _ => .st := by rw [evE]; try rfl
@[simp] theorem v_ch {o p : Cm} : evE c (.ch o p a b d) (s :: G) = resBind (evE c a (s :: G)) fun x G1 => resBind (evE c b G1) fun y G2 => match pk G2 (park x), pk G2 (park y) with
    | some x', some y' => match copX c (frzn G2 x) (frzn G2 y) o x' y' with
      | some true => resBind (evE c d G2) fun z G3 => match pk G3 (park y), pk G3 (park z) with
        | some y2, some z2 => match copX c (frzn G3 y) (frzn G3 z) p y2 z2 with
          | some r => .ok (.d (.bl r)) G3
          | none => .st
        | _, _ => .st
      | some false => .ok (.d (.bl false)) G2
      | none => .st
    | _, _ => .st := by rw [evE]; try rfl
@[simp] theorem v_and : evE c (.and a b) (s :: G) = resBind (evE c a (s :: G)) fun x G1 => resBind (truR (park x) G1) fun t G2 => if t = true then evE c b G2 else .ok (park x) G2 := by rw [evE]; try rfl
@[simp] theorem v_or : evE c (.or a b) (s :: G) = resBind (evE c a (s :: G)) fun x G1 => resBind (truR (park x) G1) fun t G2 => if t = true then .ok (park x) G2 else evE c b G2 := by rw [evE]; try rfl
@[simp] theorem v_not : evE c (.not a) (s :: G) = resBind (evE c a (s :: G)) fun x G1 => resBind (truR (park x) G1) fun t G2 => .ok (.d (.bl (!t))) G2 := by rw [evE]; try rfl
@[simp] theorem v_ite : evE c (.ite a b d) (s :: G) = resBind (evE c a (s :: G)) fun x G1 => resBind (truR (park x) G1) fun t G2 => if t = true then evE c b G2 else evE c d G2 := by rw [evE]; try rfl
@[simp] theorem v_tup : evE c (.tup l) (s :: G) = resBind (evEs c l (s :: G)) fun rs G1 => match fzAll c.nf G1 rs with
    | some (ds, G2) => if ds.length ≤ sizeLine then .ok (.d (.tup ds)) G2 else .st
    | none => .st := by rw [evE]; try rfl
@[simp] theorem v_lst : evE c (.lst l) (s :: G) = resBind (evEs c l (s :: G)) fun rs G1 => match fzAll c.nf G1 rs with
    | some (ds, G2) => if ds.length ≤ sizeLine then .ok (.ol ds) G2 else .st
    | none => .st := by rw [evE]; try rfl
@[simp] theorem v_ix : evE c (.ix a b) (s :: G) = resBind (evE c a (s :: G)) fun x G1 => resBind (evE c b G1) fun y G2 => match pk G2 (park x), pk G2 (park y) with
    | some d, some e => ofO ((ixF d e).map .d) G2
    | _, _ => .st := by rw [evE]; try rfl
@[simp] theorem v_sl {lo hi : Eo} : evE c (.sl a lo hi) (s :: G) = resBind (evE c a (s :: G)) fun x G1 => resBind (evEo c lo G1) fun l G2 => resBind (evEo c hi G2) fun h G3 => match pk G3 (park x) with
    | some d => ofO (slF d l h) G3
    | none => .st := by rw [evE]; try rfl
@[simp] theorem v_rev : evE c (.rev a) (s :: G) = resBind (evE c a (s :: G)) fun x G1 => match pk G1 (park x) with
    | some (.lst l) => .ok (.ol l.reverse) G1
    | _ => .st := by rw [evE]; try rfl
@[simp] theorem v_call {f : Nat} : evE c (.call f l) (s :: G) = resBind (evEs c l (s :: G)) fun rs G1 => callF c f rs G1 := by rw [evE]; try rfl
@[simp] theorem v_callK {f : Nat} {p : List (Sum Nat D)} : evE c (.callK f l p) (s :: G) = resBind (evEs c l (s :: G)) fun rs G1 => match permR rs p with
    | some qs => callF c f qs G1
    | none => .st := by rw [evE]; try rfl
@[simp] theorem v_bi {k : Bi} : evE c (.bi k l) (s :: G) = resBind (evEs c l (s :: G)) fun rs G1 => match pkAll G1 rs with
    | some ds => ofO (biG k ds) G1
    | none => .st := by rw [evE]; try rfl
@[simp] theorem v_lm {m : Lm} : evE c (.lm m a l) (s :: G) = resBind (evE c a (s :: G)) fun x G1 => match x with
    | .al i => match G1[i]? with
      | some (.ol _) => resBind (evEs c l G1) fun rs G2 => match fzAll c.nf G2 rs with
        | some (ds, G3) => match G3[i]? with
          | some (.ol xs) => match lmF m xs ds with
            | some (d, ys) => .ok (.d d) (G3.set i (.ol ys))
            | none => .st
          | _ => .st
        | none => .st
      | _ => .st
    | _ => .st := by rw [evE]; try rfl
@[simp] theorem v_fld {cl : Nat} : evE c (.fld cl j a) (s :: G) = resBind (evE c a (s :: G)) fun x G1 => match pk G1 (park x) with
    | some (.ins cl' l) => if cl' = cl then ofO ((l[j]?).map .d) G1 else .st
    | _ => .st := by rw [evE]; try rfl
/-- one turn of a comprehension -/
def lcT (c : Cf) (own : List Nat) (t : Tg) (cd : Eo) (e : E) (d : D) (G : List Sl) : Res (Option D) := match tgF false t d G with
  | some G3 => resBind (evC c cd G3) fun ok G4 => if ok = true then resBind (evE c e G4) fun x G5 => match fzR c.nf G5 x with
      | some (y, G6) => .ok (some y) (wipeG G6 own)
      | none => .st
    else .ok none (wipeG G4 own)
  | none => .st
@[simp] theorem v_lc {own : List Nat} {t : Tg} {it : It} {cd : Eo} : evE c (.lc own t it cd e) (s :: G) = resBind (evIt c it (s :: G)) fun ds G1 => if plainA G1 own = true then
      resBind (lcLoop (lcT c own t cd e) ds [] (wipeG G1 own)) fun acc G2 => .ok (.ol acc) (backG G1 G2 own)
      else .st := by
  rw [evE]
  rfl
@[simp] theorem v_scl : evE c (.scl i) (s :: G) = match (s :: G)[i]? with
    | some (.sc l) => .ok (.d (.int l.length)) (s :: G)
    | _ => .st := by rw [evE]; try rfl
@[simp] theorem v_sci : evE c (.sci i a) (s :: G) = match (s :: G)[i]? with
    | some (.sc _) => resBind (evE c a (s :: G)) fun x G1 => match G1[i]? with
      | some (.sc l) => match pk G1 (park x) with
        | some (.int k) => ofO ((atI l k).map .d) G1
        | _ => .st
      | _ => .st
    | _ => .st := by rw [evE]; try rfl
@[simp] theorem v_nil : evEs c .nil (s :: G) = .ok [] (s :: G) := by rw [evEs]; try rfl
@[simp] theorem v_cons : evEs c (.cons a l) (s :: G) = resBind (evE c a (s :: G)) fun x G1 => resBind (evEs c l G1) fun rs G2 => .ok (park x :: rs) G2 := by rw [evEs]; try rfl
@[simp] theorem v_ono : evEo c .no (s :: G) = .ok none (s :: G) := by rw [evEo]; try rfl
@[simp] theorem v_oso : evEo c (.so a) (s :: G) = resBind (evE c a (s :: G)) fun x G1 => intR (park x) G1 := by rw [evEo]; try rfl
@[simp] theorem v_cno : evC c .no (s :: G) = .ok true (s :: G) := by rw [evC]; try rfl
@[simp] theorem v_cso : evC c (.so a) (s :: G) = resBind (evE c a (s :: G)) fun x G1 => truR (park x) G1 := by rw [evC]; try rfl
@[simp] theorem v_ie : evIt c (.e a) (s :: G) = resBind (evE c a (s :: G)) fun x G1 => match itL G1 x with
    | some (ds, G2) => .ok ds G2
    | none => ofO (itT x) G1 := by rw [evIt]; try rfl
@[simp] theorem v_irg1 : evIt c (.rg1 l) (s :: G) = resBind (evEs c l (s :: G)) fun rs G1 => match pkAll G1 rs with
    | some [.int n] => if -(2 ^ 62) ≤ n ∧ n < 2 ^ 62 then .ok (rgD 0 n.toNat) G1 else .st
    | _ => .st := by rw [evIt]; try rfl
@[simp] theorem v_irg2 : evIt c (.rg2 l) (s :: G) = resBind (evEs c l (s :: G)) fun rs G2 => match pkAll G2 rs with
    | some [.int m, .int n] => if -(2 ^ 62) ≤ m ∧ m < 2 ^ 62 ∧ -(2 ^ 62) ≤ n ∧ n < 2 ^ 62 then .ok (rgD m (n - m).toNat) G2 else .st
    | _ => .st := by rw [evIt]; try rfl
@[simp] theorem v_ien : evIt c (.en l) (s :: G) = resBind (evEs c l (s :: G)) fun rs G1 => match rs with
    | [x] => match itL G1 (park x) with
      | some (ds, G2) => .ok (numbered 0 ds) G2
      | none => .st
    | _ => .st := by rw [evIt]; try rfl
@[simp] theorem v_izp : evIt c (.zp l) (s :: G) = resBind (evEs c l (s :: G)) fun rs G2 => match rs with
    | [x, y] => match itL G2 (park x) with
      | some (l, G3) => match itL G3 (park y) with
        | some (m, G4) => .ok (paired l m) G4
        | none => .st
      | none => .st
    | _ => .st := by rw [evIt]; try rfl
@[simp] theorem v_T : evT c a (s :: G) = resBind (evE c a (s :: G)) fun x G1 => truR (park x) G1 := by rfl
/-! statements -/
variable {t : Tg} {q : S} {qs qa qb : Ss}
@[simp] theorem v_asg : evS c (.asg t a) (s :: G) = outR (evE c a (s :: G)) fun x G1 => outO (asgF c.nf c.pr t x G1) := by rw [evS]; try rfl
@[simp] theorem v_par : evS c (.par i j a b) (s :: G) = outR (evEs c (.cons a (.cons b .nil)) (s :: G)) fun rs G2 => match fzAll c.nf G2 rs with
    | some ([d, e], G3) => match setS c.pr G3 i (.fz d) with
      | some G4 => outO (setS c.pr G4 j (.fz e))
      | none => .st
    | _ => .st := by rw [evS]; try rfl
@[simp] theorem v_ex : evS c (.ex a) (s :: G) = outR (evE c a (s :: G)) fun _ G1 => .nx G1 := by rw [evS]; try rfl
@[simp] theorem v_ret : evS c (.ret a) (s :: G) = outR (evE c a (s :: G)) fun x G1 => .rt x G1 := by rw [evS]; try rfl
@[simp] theorem v_retN : evS c .retN (s :: G) = .rt (.d .non) (s :: G) := by rw [evS]; try rfl
@[simp] theorem v_iff : evS c (.iff a qa qb) (s :: G) = outR (evT c a (s :: G)) fun k G1 => if k = true then evSs c qa G1 else evSs c qb G1 := by rw [evS]; try rfl
@[simp] theorem v_whl : evS c (.whl a qa) (s :: G) = whlF (evT c a) (evSs c qa) c.w (s :: G) := by rw [evS]; try rfl
/-- one turn of a for -/
def forT (c : Cf) (t : Tg) (b : Ss) (d : D) (G : List Sl) : Out := match tgF c.pr t d G with
  | some G3 => evSs c b G3
  | none => .st
@[simp] theorem v_for {it : It} : evS c (.for t it qa) (s :: G) = outR (evIt c it (s :: G)) fun ds G1 => forF (forT c t qa) ds G1 := by
  rw [evS]
  rfl
@[simp] theorem v_forL : evS c (.forL i l qa) (s :: G) = outR (evEl c l (s :: G)) fun rs G1 => if rs.length ≤ sizeLine then forL (asgL c.pr i) (evSs c qa) rs G1 else .st := by rw [evS]; try rfl
@[simp] theorem v_lnil : evEl c .nil (s :: G) = .ok [] (s :: G) := by rw [evEl]; try rfl
@[simp] theorem v_lcons : evEl c (.cons a l) (s :: G) = resBind (evE c a (s :: G)) fun x G1 => match x with
    | .al _ => .st
    | x => resBind (evEl c l G1) fun rs G2 => .ok (x :: rs) G2 := by rw [evEl]; try rfl
@[simp] theorem asgL_ol {pr : Bool} {i : Nat} {l : List D} {G : List Sl} : asgL pr i (.ol l) G = setS pr G i (.ol l) := by rfl
@[simp] theorem asgL_d {pr : Bool} {i : Nat} {d : D} {G : List Sl} : asgL pr i (.d d) G = setS pr G i (.fz d) := by rfl
@[simp] theorem forL_nil {f : R → List Sl → Option (List Sl)} {b : List Sl → Out} {G : List Sl} : forL f b [] G = .nx G := by rfl
theorem forL_cons {f : R → List Sl → Option (List Sl)} {b : List Sl → Out} {r : R} {rs : List R} {G G1 G2 : List Sl} (h1 : f r G = some G1) (h2 : b G1 = .nx G2) : forL f b (r :: rs) G = forL f b rs G2 := by
  rw [forL, h1]
  simp only [h2]
@[simp] theorem v_six : evS c (.six i a e) (s :: G) = outR (evE c e (s :: G)) fun x G1 => match fzR c.nf G1 x with
    | some (d, G2) => match G2[i]? with
      | some (.ol _) => outR (evE c a G2) fun y G3 => match G3[i]? with
        | some (.ol l) => match pk G3 (park y) with
          | some (.int k) => match L2.ixN l.length k with
            | some j => .nx (G3.set i (.ol (l.set j d)))
            | none => .st
          | _ => .st
        | _ => .st
      | _ => .st
    | none => .st := by rw [evS]; try rfl
@[simp] theorem v_pass : evS c .pass (s :: G) = .nx (s :: G) := by rw [evS]; try rfl
@[simp] theorem v_brk : evS c .brk (s :: G) = .bk (s :: G) := by rw [evS]; try rfl
@[simp] theorem v_cnt : evS c .cnt (s :: G) = .ct (s :: G) := by rw [evS]; try rfl
@[simp] theorem v_snil : evSs c .nil (s :: G) = .nx (s :: G) := by rw [evSs]; try rfl
def seqO (c : Cf) (l : Ss) : Out → Out
  | .nx G1 => evSs c l G1
  | o => o
@[simp] theorem v_scons : evSs c (.cons q qs) (s :: G) = seqO c qs (evS c q (s :: G)) := by
  rw [evSs]
  cases evS c q (s :: G) <;> rfl
@[simp] theorem q_nx {G1 : List Sl} : seqO c qs (.nx G1) = evSs c qs G1 := by rfl
@[simp] theorem q_rt {r : R} {G1 : List Sl} : seqO c qs (.rt r G1) = .rt r G1 := by rfl
@[simp] theorem q_bk {G1 : List Sl} : seqO c qs (.bk G1) = .bk G1 := by rfl
@[simp] theorem q_ct {G1 : List Sl} : seqO c qs (.ct G1) = .ct G1 := by rfl
@[simp] theorem q_ex {x : Ex} {G1 : List Sl} : seqO c qs (.ex x G1) = .ex x G1 := by rfl
@[simp] theorem q_ite {p : Prop} [Decidable p] {x y : Out} : seqO c qs (if p then x else y) = if p then seqO c qs x else seqO c qs y := by split <;> rfl
@[simp] theorem r_ok {α β : Type} {x : α} {G1 : List Sl} {f : α → List Sl → Res β} : resBind (.ok x G1) f = f x G1 := by rfl
theorem r_ite {α β : Type} {p : Prop} [Decidable p] {x y : Res α} {f : α → List Sl → Res β} : resBind (if p then x else y) f = if p then resBind x f else resBind y f := by split <;> rfl
@[simp] theorem o_ok {α : Type} {x : α} {G1 : List Sl} {f : α → List Sl → Out} : outR (.ok x G1) f = f x G1 := by rfl
theorem o_ite {α : Type} {p : Prop} [Decidable p] {x y : Res α} {f : α → List Sl → Out} : outR (if p then x else y) f = if p then outR x f else outR y f := by split <;> rfl
@[simp] theorem o_some {G1 : List Sl} : outO (some G1) = .nx G1 := by rfl
@[simp] theorem f_some {α : Type} {x : α} {G1 : List Sl} : ofO (some x) G1 = .ok x G1 := by rfl
@[simp] theorem p_d {d : D} {G : List Sl} : pk G (.d d) = some d := by rfl
@[simp] theorem p_ol {l : List D} {G : List Sl} : pk G (.ol l) = some (.lst l) := by rfl
@[simp] theorem p_al {i : Nat} {s : Sl} {G : List Sl} : pk (s :: G) (.al i) = match (s :: G)[i]? with
    | some (.fz d) => some d
    | some (.ol l) => some (.lst l)
    | some (.bw l) => some (.lst l)
    | some (.oi c l) => some (.ins c l)
    | _ => none := by rfl
@[simp] theorem k_d {d : D} : park (.d d) = .d d := by rfl
@[simp] theorem k_ol {l : List D} : park (.ol l) = .d (.lst l) := by rfl
@[simp] theorem k_al {i : Nat} : park (.al i) = .al i := by rfl
@[simp] theorem t_d {d : D} {G : List Sl} : truR (.d d) G = ofO (truD d) G := by rfl
@[simp] theorem t_al {i : Nat} {s : Sl} {G : List Sl} : truR (.al i) (s :: G) = match pk (s :: G) (.al i) with
    | some d => ofO (truD d) (s :: G)
    | none => .st := by rfl
@[simp] theorem t_bl {b : Bool} {G : List Sl} : truR (.d (.bl b)) G = .ok b G := by rfl
@[simp] theorem z_d {nf : Nat → Nat} {d : D} {G : List Sl} : fzR nf G (.d d) = some (d, G) := by rfl
@[simp] theorem z_ol {nf : Nat → Nat} {l : List D} {G : List Sl} : fzR nf G (.ol l) = some (.lst l, G) := by rfl
@[simp] theorem z_al {nf : Nat → Nat} {i : Nat} {s : Sl} {G : List Sl} : fzR nf (s :: G) (.al i) = match (s :: G)[i]? with
    | some (.fz d) => some (d, s :: G)
    | some (.ol l) => some (.lst l, (s :: G).set i (.fz (.lst l)))
    | some (.oi c l) => if l.length = nf c then some (.ins c l, (s :: G).set i (.fz (.ins c l))) else none
    | _ => none := by rfl
@[simp] theorem za_nil {nf : Nat → Nat} {G : List Sl} : fzAll nf G [] = some ([], G) := by rfl
@[simp] theorem za_cons {nf : Nat → Nat} {r : R} {rs : List R} {s : Sl} {G : List Sl} : fzAll nf (s :: G) (r :: rs) = match fzR nf (s :: G) r with
    | some (d, G1) => match fzAll nf G1 rs with
      | some (ds, G2) => some (d :: ds, G2)
      | none => none
    | none => none := by rfl
@[simp] theorem setS_ok {pr : Bool} {i : Nat} {x s : Sl} {G : List Sl} : setS pr (s :: G) i x = if (pr && i == 0) = true ∨ (s :: G).length ≤ i then none else some ((s :: G).set i x) := by rfl
theorem whl_go {t : List Sl → Res Bool} {b : List Sl → Out} {w : Nat} {G G1 G2 : List Sl} (h1 : t G = .ok true G1) (h2 : b G1 = .nx G2) : whlF t b (w + 1) G = whlF t b w G2 := by
  rw [whlF, h1]
  simp only [h2]
theorem whl_end {t : List Sl → Res Bool} {b : List Sl → Out} {w : Nat} {G G1 : List Sl} (h1 : t G = .ok false G1) : whlF t b (w + 1) G = .nx G1 := by
  rw [whlF, h1]
end
/-- an int compared with an int -/
@[simp] theorem eqD_int (i j : Int) : eqD (.int i) (.int j) = some (decide (i = j)) := by
  have e : PyData.eqv (.int i) (.int j) = decide (i = j) := by
    first | rfl | simp [PyData.eqv]
  unfold eqD
  simp only [D.toP]
  have s : ∀ k : Int, SeqAt.shaped (.int k) = true := fun k => rfl
  rw [s, s, e]
  rfl
@[simp] theorem tru_bl {b : Bool} : truD (.bl b) = some b := by rfl
@[simp] theorem tru_int {i : Int} : truD (.int i) = some (i != 0) := by rfl
@[simp] theorem tru_lst {l : List D} : truD (.lst l) = some !l.isEmpty := by rfl
@[simp] theorem tru_tup {l : List D} : truD (.tup l) = some !l.isEmpty := by rfl
@[simp] theorem pka_nil {G : List Sl} : pkAll G [] = some [] := by rfl
@[simp] theorem pka_cons {s : Sl} {G : List Sl} {r : R} {rs : List R} : pkAll (s :: G) (r :: rs) = match pk (s :: G) r, pkAll (s :: G) rs with
    | some d, some ds => some (d :: ds)
    | _, _ => none := by rfl
@[simp] theorem b_abs {i : Int} : biG .abs [.int i] = some (.d (.int (if i < 0 then -i else i))) := by rfl
@[simp] theorem b_max {i j : Int} : biG .max [.int i, .int j] = some (.d (.int (if i < j then j else i))) := by rfl
@[simp] theorem b_min {i j : Int} : biG .min [.int i, .int j] = some (.d (.int (if j < i then j else i))) := by rfl
@[simp] theorem b_lenL {l : List D} : biG .len [.lst l] = some (.d (.int l.length)) := by rfl
@[simp] theorem b_lenT {l : List D} : biG .len [.tup l] = some (.d (.int l.length)) := by rfl
@[simp] theorem b_int {i : Int} : biG .int [.int i] = some (.d (.int i)) := by rfl
@[simp] theorem b_intB {b : Bool} : biG .int [.bl b] = some (.d (.int (if b = true then 1 else 0))) := by rfl
@[simp] theorem b_listL {l : List D} : biG .list [.lst l] = some (.ol l) := by rfl
@[simp] theorem b_listT {l : List D} : biG .list [.tup l] = some (.ol l) := by rfl
@[simp] theorem b_isi {t : Ty} {d : D} : biG (.isi t) [d] = some (.d (.bl (isTy t d))) := by rfl
@[simp] theorem b_bits {i : Int} : biG .bits [.int i] = some (.d (.int (Builtin.Int.intBits i : Nat))) := by rfl
section
variable {c : Cf} {fx fy : Bool}
/-- what is left of ==, of != where plain data does not tell -/
def neI (c : Cf) (fx fy : Bool) (x y : D) : Option Bool := if neOk x y = true then (eqI c fx fy x y).map (!·) else none
def neE : Option Bool → Option Bool → Option Bool
  | some b, _ => some !b
  | none, z => z
@[simp] theorem orE_s {b : Bool} {z : Option Bool} : orE (some b) z = some b := by rfl
@[simp] theorem orE_n {z : Option Bool} : orE none z = z := by rfl
@[simp] theorem neE_s {b : Bool} {z : Option Bool} : neE (some b) z = some !b := by rfl
@[simp] theorem neE_n {z : Option Bool} : neE none z = z := by rfl
theorem toP_ins {cl : Nat} {l : List D} : D.toP (.ins cl l) = none := by rw [D.toP]
theorem neOk_eqD {x y : D} {b : Bool} (h : eqD x y = some b) : neOk x y = true := by
  cases y with
  | ins cl l =>
    exfalso
    unfold eqD at h
    rw [toP_ins] at h
    cases q : D.toP x with
    | none => rw [q] at h; cases h
    | some p => rw [q] at h; cases h
  | _ => cases x <;> rfl
@[simp] theorem c_eq {x y : D} : copX c fx fy .eq x y = orE (eqD x y) (eqI c fx fy x y) := by rfl
@[simp] theorem c_ne {x y : D} : copX c fx fy .ne x y = neE (eqD x y) (neI c fx fy x y) := by
  cases h : eqD x y with
  | some b =>
    show (if neOk x y = true then (orE (eqD x y) (eqI c fx fy x y)).map (!·) else none) = _
    rw [if_pos (neOk_eqD h), h]
    rfl
  | none =>
    show (if neOk x y = true then (orE (eqD x y) (eqI c fx fy x y)).map (!·) else none) = _
    rw [h]
    rfl
@[simp] theorem c_lt {i j : Int} : copX c fx fy .lt (.int i) (.int j) = some (decide (i < j)) := by rfl
@[simp] theorem c_le {i j : Int} : copX c fx fy .le (.int i) (.int j) = some (decide (i ≤ j)) := by rfl
@[simp] theorem c_gt {i j : Int} : copX c fx fy .gt (.int i) (.int j) = some (decide (j < i)) := by rfl
@[simp] theorem c_ge {i j : Int} : copX c fx fy .ge (.int i) (.int j) = some (decide (j ≤ i)) := by rfl
@[simp] theorem c_in {x : D} {l : List D} : copX c fx fy .isIn x (.lst l) = orE (inD x l) (if fx = true then inL (fun z => eqE c 3 z x) l else none) := by rfl
@[simp] theorem c_inT {x : D} {l : List D} : copX c fx fy .isIn x (.tup l) = orE (inD x l) (if fx = true then inL (fun z => eqE c 3 z x) l else none) := by rfl
@[simp] theorem c_nin {x : D} {l : List D} : copX c fx fy .notIn x (.lst l) = (orE (inD x l) (if fx = true then inL (fun z => eqE c 3 z x) l else none)).map (!·) := by rfl
@[simp] theorem c_ninT {x : D} {l : List D} : copX c fx fy .notIn x (.tup l) = (orE (inD x l) (if fx = true then inL (fun z => eqE c 3 z x) l else none)).map (!·) := by rfl
/-- x is None -/
@[simp] theorem c_isN {x y : D} : copX c fx fy .isN x y = cop .isN x y := by rfl
@[simp] theorem c_notN {x y : D} : copX c fx fy .notN x y = cop .notN x y := by rfl
/-! lists lent out -/
variable {s : Sl} {G : List Sl} {e a : E} {l : Es} {i : Nat}
@[simp] theorem v_lent : evE c (.lent i e) (s :: G) = match (s :: G)[i]? with
    | some (.ol l) => lentR i l ((s :: G).set i (.bw l)) (evE c e ((s :: G).set i (.bw l)))
    | _ => evE c e (s :: G) := by rw [evE]; try rfl
@[simp] theorem lentR_ok {α : Type} {i : Nat} {l : List D} {G1 G2 : List Sl} {r : α} : lentR i l G1 (.ok r G2) = if farOk G1 G2 = true then .ok r (G2.set i (.ol l)) else .st := by rfl
@[simp] theorem lentR_ex {α : Type} {i : Nat} {l : List D} {G1 G2 : List Sl} {y : Ex} : lentR (α := α) i l G1 (.ex y G2) = if farOk G1 G2 = true then .ex y (G2.set i (.ol l)) else .st := by rfl
@[simp] theorem far_nil : farOk [] [] = true := by rfl
@[simp] theorem far_cons {s t : Sl} {G G2 : List Sl} : farOk (s :: G) (t :: G2) = ((match t with
      | .bw _ => match s with
        | .bw _ => true
        | _ => false
      | .sc _ => false
      | _ => true) && farOk G G2) := by rfl
theorem farOk_same : ∀ {G : List Sl}, (∀ l, Sl.sc l ∉ G) → farOk G G = true
  | [], _ => rfl
  | s :: G, h => by
    rw [far_cons, farOk_same fun l hl => h l (List.mem_cons_of_mem _ hl)]
    cases s with
    | sc l => exact absurd List.mem_cons_self (h l)
    | _ => rfl
end
@[simp] theorem a_add {i j : Int} : bop .add (.int i) (.int j) = some (.d (.int (i + j))) := by rfl
@[simp] theorem a_sub {i j : Int} : bop .sub (.int i) (.int j) = some (.d (.int (i - j))) := by rfl
@[simp] theorem a_cat {a b : List D} : bop .add (.lst a) (.lst b) = if a.length + b.length ≤ sizeLine then some (.ol (a ++ b)) else none := by rfl
theorem a_mul {i j : Int} (h : (Builtin.Int.intBits i : Int) + (Builtin.Int.intBits j : Int) ≤ 134217728) : bop .mul (.int i) (.int j) = some (.d (.int (i * j))) := if_pos h
theorem a_fdiv {i j : Int} (h1 : j ≠ 0) (h2 : j.natAbs.log2 < 9000) : bop .fdiv (.int i) (.int j) = some (.d (.int (i.fdiv j))) := if_pos ⟨h1, h2⟩
theorem a_mod {i j : Int} (h1 : j ≠ 0) : bop .mod (.int i) (.int j) = some (.d (.int (i.fmod j))) := if_pos h1
@[simp] theorem g_d {nf : Nat → Nat} {pr : Bool} {i : Nat} {d : D} {G : List Sl} : asgF nf pr (.n i) (.d d) G = setS pr G i (.fz d) := by rfl
@[simp] theorem g_ol {nf : Nat → Nat} {pr : Bool} {i : Nat} {l : List D} {G : List Sl} : asgF nf pr (.n i) (.ol l) G = setS pr G i (.ol l) := by rfl
@[simp] theorem g_al {nf : Nat → Nat} {pr : Bool} {i j : Nat} {s : Sl} {G : List Sl} : asgF nf pr (.n i) (.al j) (s :: G) = match fzR nf (s :: G) (.al j) with
    | some (d, G1) => setS pr G1 i (.fz d)
    | none => none := by
  show (match fzR nf (s :: G) (.al j) with
    | some (d, G1) => tgF pr (.n i) d G1
    | none => none) = _
  cases fzR nf (s :: G) (.al j) with
  | none => rfl
  | some p => obtain ⟨d, G1⟩ := p; simp [tgF]
@[simp] theorem g_td {nf : Nat → Nat} {pr : Bool} {ts : List Tg} {d : D} {G : List Sl} : asgF nf pr (.t ts) (.d d) G = tgF pr (.t ts) d G := by rfl
@[simp] theorem g_tol {nf : Nat → Nat} {pr : Bool} {ts : List Tg} {l : List D} {G : List Sl} : asgF nf pr (.t ts) (.ol l) G = tgF pr (.t ts) (.lst l) G := by rfl
@[simp] theorem tg_n {pr : Bool} {i : Nat} {d : D} {G : List Sl} : tgF pr (.n i) d G = setS pr G i (.fz d) := by rw [tgF]
@[simp] theorem tg_t {pr : Bool} {ts : List Tg} {l : List D} {G : List Sl} : tgF pr (.t ts) (.tup l) G = tgsF pr ts l G := by rw [tgF]
@[simp] theorem tg_tl {pr : Bool} {ts : List Tg} {l : List D} {G : List Sl} : tgF pr (.t ts) (.lst l) G = tgsF pr ts l G := by rw [tgF]
@[simp] theorem tgs_nil {pr : Bool} {G : List Sl} : tgsF pr [] [] G = some G := by rw [tgsF]
@[simp] theorem tgs_cons {pr : Bool} {t : Tg} {ts : List Tg} {d : D} {ds : List D} {s : Sl} {G : List Sl} : tgsF pr (t :: ts) (d :: ds) (s :: G) = match tgF pr t d (s :: G) with
    | some G1 => tgsF pr ts ds G1
    | none => none := by rw [tgsF]; try rfl
@[simp] theorem l_lst {l : List D} {G : List Sl} : itL G (.d (.lst l)) = some (l, G) := by rfl
@[simp] theorem l_tup {l : List D} {G : List Sl} : itL G (.d (.tup l)) = none := by rfl
@[simp] theorem l_ol {l : List D} {G : List Sl} : itL G (.ol l) = some (l, G) := by rfl
@[simp] theorem l_al {i : Nat} {s : Sl} {G : List Sl} : itL (s :: G) (.al i) = match (s :: G)[i]? with
    | some (.ol l) => some (l, (s :: G).set i (.fz (.lst l)))
    | some (.bw l) => some (l, s :: G)
    | some (.sc l) => some (l, s :: G)
    | _ => none := by rfl
@[simp] theorem it_tup {l : List D} : itT (.d (.tup l)) = some l := by rfl
@[simp] theorem lm_app {l : List D} {d : D} : lmF .append l [d] = if l.length < sizeLine then some (.non, l ++ [d]) else none := by rfl
@[simp] theorem lm_rev {l : List D} : lmF .reverse l [] = some (.non, l.reverse) := by rfl
theorem lm_popL {l : List D} {d : D} : lmF .pop (l ++ [d]) [] = some (d, l) := by
  show (match (l ++ [d])[(l ++ [d]).length - 1]? with
    | some d' => some (d', (l ++ [d]).dropLast)
    | none => none) = _
  simp
@[simp] theorem for_nil {b : D → List Sl → Out} {G : List Sl} : forF b [] G = .nx G := by rfl
theorem for_cons {b : D → List Sl → Out} {d : D} {ds : List D} {G G1 : List Sl} (h : b d G = .nx G1) : forF b (d :: ds) G = forF b ds G1 := by
  rw [forF, h]
@[simp] theorem lc_nil {f : D → List Sl → Res (Option D)} {acc : List D} {G : List Sl} : lcLoop f [] acc G = .ok acc G := by rfl
theorem lc_cons {f : D → List Sl → Res (Option D)} {d x : D} {ds acc : List D} {G G1 : List Sl} (h : f d G = .ok (some x) G1) (hz : acc.length < sizeLine) : lcLoop f (d :: ds) acc G = lcLoop f ds (acc ++ [x]) G1 := by
  rw [lcLoop, h]
  simp only
  rw [if_pos hz]
theorem lc_skip {f : D → List Sl → Res (Option D)} {d : D} {ds acc : List D} {G G1 : List Sl} (h : f d G = .ok none G1) : lcLoop f (d :: ds) acc G = lcLoop f ds acc G1 := by
  rw [lcLoop, h]
/-- a def's run, from its body's -/
theorem run_def {P : Pg} {k f : Nat} {d : Df} {ss : List Sl} (hd : P.defs[f]? = some d) : run P (k + 1) f ss = retF d.pr (evSs ⟨run P k, fun g => (P.defs.map Df.pm).getD g [], P.nf, P.mt, P.w, d.pr⟩ d.body (ss ++ List.replicate (d.n - ss.length) .no)) := by
  rw [run, hd]
@[simp] theorem sz_0 : 0 ≤ sizeLine := by decide
@[simp] theorem sz_1 : 1 ≤ sizeLine := by decide
@[simp] theorem sz_2 : 2 ≤ sizeLine := by decide
@[simp] theorem sz_3 : 3 ≤ sizeLine := by decide
@[simp] theorem sz_4 : 4 ≤ sizeLine := by decide
@[simp] theorem sz_5 : 5 ≤ sizeLine := by decide
@[simp] theorem sz_6 : 6 ≤ sizeLine := by decide
@[simp] theorem sz_7 : 7 ≤ sizeLine := by decide
@[simp] theorem sz_8 : 8 ≤ sizeLine := by decide
@[simp] theorem sz_9 : 9 ≤ sizeLine := by decide
@[simp] theorem sz_10 : 10 ≤ sizeLine := by decide
@[simp] theorem sz_11 : 11 ≤ sizeLine := by decide
@[simp] theorem sz_12 : 12 ≤ sizeLine := by decide
@[simp] theorem sz_13 : 13 ≤ sizeLine := by decide
@[simp] theorem sz_14 : 14 ≤ sizeLine := by decide
@[simp] theorem sz_15 : 15 ≤ sizeLine := by decide
@[simp] theorem sz_16 : 16 ≤ sizeLine := by decide
@[simp] theorem sz_17 : 17 ≤ sizeLine := by decide
@[simp] theorem sz_18 : 18 ≤ sizeLine := by decide
@[simp] theorem sz_19 : 19 ≤ sizeLine := by decide
@[simp] theorem sz_20 : 20 ≤ sizeLine := by decide
@[simp] theorem sz_21 : 21 ≤ sizeLine := by decide
@[simp] theorem sz_22 : 22 ≤ sizeLine := by decide
@[simp] theorem sz_23 : 23 ≤ sizeLine := by decide
@[simp] theorem sz_24 : 24 ≤ sizeLine := by decide
/-! calls -/
@[simp] theorem y_call {c : Cf} {f : Nat} {rs : List R} {s : Sl} {G : List Sl} : callF c f rs (s :: G) = match argsM c.nf (s :: G) (c.pm f) rs with
    | some (ss, G1, mi) => match c.cf f ss with
      | .ok (.al _) _ => .st
      | .ok r m => match putM G1 mi m with
        | some G2 => .ok r G2
        | none => .st
      | .ex x m => match putM G1 mi m with
        | some G2 => .ex x G2
        | none => .st
      | .st => .st
    | none => .st := by rfl
@[simp] theorem y_nil {nf : Nat → Nat} {G : List Sl} : argsS nf G [] [] = some ([], G) := by rfl
@[simp] theorem y_cons {nf : Nat → Nat} {s : Sl} {G : List Sl} {p : Pm} {ps : List Pm} {r : R} {rs : List R} : argsS nf (s :: G) (p :: ps) (r :: rs) = match argS nf (s :: G) p r with
    | some (s, G1) => match argsS nf G1 ps rs with
      | some (ss, G2) => some (s :: ss, G2)
      | none => none
    | none => none := by rfl
@[simp] theorem y_f {nf : Nat → Nat} {s : Sl} {G : List Sl} {r : R} : argS nf (s :: G) .f r = match fzR nf (s :: G) r with
    | some (d, G1) => some (.fz d, G1)
    | none => none := by rfl
@[simp] theorem y_b {nf : Nat → Nat} {s : Sl} {G : List Sl} {r : R} : argS nf (s :: G) .b r = match pk (s :: G) r with
    | some (.lst l) => some (.bw l, s :: G)
    | some (.ins _ _) => none
    | some (.exc _ _) => none
    | some d => some (.fz d, s :: G)
    | none => none := by rfl
@[simp] theorem y_s {nf : Nat → Nat} {s : Sl} {G : List Sl} {i : Nat} : argS nf (s :: G) .s (.al i) = match (s :: G)[i]? with
    | some (.sc l) => some (.sc l, s :: G)
    | _ => none := by rfl
@[simp] theorem y_M {nf : Nat → Nat} {G : List Sl} {ps : List Pm} {i : Nat} {rs : List R} : argsM nf G (.m :: ps) (.al i :: rs) = if rs.any (isAl i) = true then none else match argsS nf G ps rs with
    | some (ss, G1) => match G1[i]? with
      | some (.ol l) => some (.ol l :: ss, G1, some i)
      | _ => none
    | none => none := by rfl
@[simp] theorem y_Mf {nf : Nat → Nat} {G : List Sl} {ps : List Pm} {rs : List R} : argsM nf G (.f :: ps) rs = match argsS nf G (.f :: ps) rs with
    | some (ss, G1) => some (ss, G1, none)
    | none => none := by rfl
@[simp] theorem y_Mb {nf : Nat → Nat} {G : List Sl} {ps : List Pm} {rs : List R} : argsM nf G (.b :: ps) rs = match argsS nf G (.b :: ps) rs with
    | some (ss, G1) => some (ss, G1, none)
    | none => none := by rfl
@[simp] theorem y_Ms {nf : Nat → Nat} {G : List Sl} {ps : List Pm} {rs : List R} : argsM nf G (.s :: ps) rs = match argsS nf G (.s :: ps) rs with
    | some (ss, G1) => some (ss, G1, none)
    | none => none := by rfl
@[simp] theorem y_M0 {nf : Nat → Nat} {G : List Sl} {rs : List R} : argsM nf G [] rs = match argsS nf G [] rs with
    | some (ss, G1) => some (ss, G1, none)
    | none => none := by rfl
@[simp] theorem y_p {G : List Sl} {m : Sl} : putM G none m = some G := by rfl
@[simp] theorem y_pm {G : List Sl} {i : Nat} {l : List D} : putM G (some i) (.ol l) = some (G.set i (.ol l)) := by rfl
@[simp] theorem y_al {i j : Nat} : isAl i (.al j) = (j == i) := by rfl
@[simp] theorem y_ad {i : Nat} {d : D} : isAl i (.d d) = false := by rfl
@[simp] theorem y_ao {i : Nat} {d : List D} : isAl i (.ol d) = false := by rfl
@[simp] theorem n_nil {rs : List R} : permR rs [] = some [] := by rfl
@[simp] theorem n_inl {rs : List R} {i : Nat} {p : List (Sum Nat D)} : permR rs (.inl i :: p) = match rs[i]?, permR rs p with
    | some r, some l => some (r :: l)
    | _, _ => none := by rfl
/-! items -/
@[simp] theorem x_lst {l : List D} {i : Int} : ixF (.lst l) (.int i) = atI l i := by rfl
@[simp] theorem x_tup {l : List D} {i : Int} : ixF (.tup l) (.int i) = atI l i := by rfl
end Mp

/-! Mv2: evaluation of try, raise, raising comprehensions. -/
namespace Mp
open PySem L2
section
variable {c : Cf} {s : Sl} {G : List Sl} {e : E} {l : Es} {b : Ss} {hs : List Hd}
@[simp] theorem r_ex {α β : Type} {x : Ex} {G1 : List Sl} {f : α → List Sl → Res β} : resBind (.ex x G1) f = .ex x G1 := by rfl
@[simp] theorem o_ex {α : Type} {x : Ex} {G1 : List Sl} {f : α → List Sl → Out} : outR (.ex x G1) f = .ex x G1 := by rfl
/-- one turn of a comprehension whose item may raise -/
def lcTX (c : Cf) (own : List Nat) (t : Tg) (cd : Eo) (e : E) (d : D) (G2 : List Sl) : Res (Option D) := match tgF false t d G2 with
  | some G3 => match evC c cd G3 with
    | .ok ok G4 => if ok = true then (match evE c e G4 with
        | .ok x G5 => match fzR c.nf G5 x with
          | some (y, G6) => .ok (some y) (wipeG G6 own)
          | none => .st
        | .ex x G5 => .ex x (wipeG G5 own)
        | .st => .st) else .ok none (wipeG G4 own)
    | _ => .st
  | none => .st
@[simp] theorem v_lcx {own : List Nat} {t : Tg} {it : It} {cd : Eo} : evE c (.lcx own t it cd e) (s :: G) = resBind (evIt c it (s :: G)) fun ds G1 => if plainA G1 own = true then
      lcxEnd G1 own (lcLoopX (lcTX c own t cd e) ds [] (wipeG G1 own)) else .st := by
  rw [evE]
  rfl
@[simp] theorem lx_ok {G1 : List Sl} {own : List Nat} {acc : List D} {G2 : List Sl} : lcxEnd G1 own (.ok acc G2) = .ok (.ol acc) (backG G1 G2 own) := by rfl
@[simp] theorem lx_ex {G1 : List Sl} {own : List Nat} {x : Ex} {G2 : List Sl} : lcxEnd G1 own (.ex x G2) = .ex x (backG G1 G2 own) := by rfl
@[simp] theorem v_rs {k : Nat} : evS c (.rs k l) (s :: G) = outR (evEs c l (s :: G)) fun _ G1 => .ex ⟨k, none⟩ G1 := by rw [evS]; try rfl
@[simp] theorem v_tr : evS c (.tr b hs) (s :: G) = match evSs c b (s :: G) with
    | .ex x G1 => hdF c.pr hs x G1
    | o => o := by
  rw [evS]
  try rfl
@[simp] theorem hd_nil {pr : Bool} {x : Ex} {G : List Sl} : hdF pr [] x G = .ex x G := by rfl
@[simp] theorem hd_keep {pr : Bool} {cs : List Nat} {i j : Nat} {x : Ex} {G : List Sl} : hdF pr (⟨cs, .keep i j⟩ :: hs) x G = if cs.contains x.c = true then (if i = j then .st else match setS pr G i .no with
    | some G1 => outO (setS pr G1 j (.fz (.exc x.c x.f.toList)))
    | none => .st) else hdF pr hs x G := by rfl
theorem for_ex {b : D → List Sl → Out} {d : D} {ds : List D} {G G1 : List Sl} {x : Ex} (h : b d G = .ex x G1) : forF b (d :: ds) G = .ex x G1 := by
  rw [forF, h]
theorem lcX_ok {f : D → List Sl → Res (Option D)} {d : D} {ds acc : List D} {x : D} {G G1 : List Sl} (h : f d G = .ok (some x) G1) (hz : acc.length < sizeLine) : lcLoopX f (d :: ds) acc G = lcLoopX f ds (acc ++ [x]) G1 := by
  rw [lcLoopX, h]
  simp [hz]
theorem lcX_ex {f : D → List Sl → Res (Option D)} {d : D} {ds acc : List D} {x : Ex} {G G1 : List Sl} (h : f d G = .ex x G1) : lcLoopX f (d :: ds) acc G = .ex x G1 := by
  rw [lcLoopX, h]
@[simp] theorem lcX_nil {f : D → List Sl → Res (Option D)} {acc : List D} {G : List Sl} : lcLoopX f [] acc G = .ok acc G := by rfl
end
end Mp

namespace K16
open PySem PySem.Spec L2 Mp
open PyProof.Rows hiding St

def top (i : Nat) : Stmt := PySem.Challenge.pw_tiedbeats_k16_rows_refused.main.body.getD i (.Pass ⟨0, 0, 0, 0⟩)
def dd (n : Str) (i : Nat) : He.DefD := ⟨(n, none), n, n, defArgs (top i), defBody (top i), defScope (top i), [], []⟩
def f_0 : Fn := ⟨dd "lowest" 19, ["top", "bottom"]⟩
def f_1 : Fn := ⟨dd "must_time" 20, ["time"]⟩
def f_2 : Fn := ⟨dd "plus" 21, ["one", "other"]⟩
def f_3 : Fn := ⟨dd "less" 22, ["one", "other"]⟩
def f_4 : Fn := ⟨dd "times" 23, ["one", "other"]⟩
def f_5 : Fn := ⟨dd "under" 24, ["one", "other"]⟩
def f_6 : Fn := ⟨dd "lowest_row" 28, ["row"]⟩
def f_7 : Fn := ⟨dd "must_pieces" 29, ["row"]⟩
def f_8 : Fn := ⟨dd "kept_of" 30, ["row"]⟩
def f_9 : Fn := ⟨dd "must_row" 31, ["row"]⟩
def f_10 : Fn := ⟨dd "kept" 32, ["row"]⟩
def f_11 : Fn := ⟨dd "whole_of" 33, ["row"]⟩
def f_12 : Fn := ⟨dd "length_of" 34, ["row"]⟩
def f_13 : Fn := ⟨dd "spans_of" 35, ["row"]⟩
def f_14 : Fn := ⟨dd "in_order" 36, ["some"]⟩
def f_15 : Fn := ⟨dd "sounds" 37, ["spans", "time"]⟩
def f_16 : Fn := ⟨dd "of_both" 38, ["one", "other"]⟩
def f_17 : Fn := ⟨dd "together" 39, ["one", "other"]⟩
def f_18 : Fn := ⟨dd "quickened" 40, ["row", "by"]⟩
def f_19 : Fn := ⟨dd "turned" 41, ["row"]⟩
def f_20 : Fn := ⟨dd "cut_of" 42, ["row", "first", "last"]⟩
def f_21 : Fn := ⟨dd "cut" 43, ["row", "first", "last"]⟩
def f_22 : Fn := ⟨dd "_law_at" 45, ["_law_script", "_law_k"]⟩
def f_23 : Fn := ⟨dd "_law_mixed" 46, ["_law_cell", "_law_k"]⟩
def f_24 : Fn := ⟨dd "_law_purse" 47, ["_law_script", "_law_at_here"]⟩
def f_25 : Fn := ⟨dd "_law_draw" 48, ["_law_purse_here", "_law_out_of"]⟩
def f_26 : Fn := ⟨dd "_law_made" 49, ["_law_top", "_law_bottom"]⟩
def f_27 : Fn := ⟨dd "_law_sum" 50, ["_law_a", "_law_b"]⟩
def f_28 : Fn := ⟨dd "_law_product" 51, ["_law_a", "_law_b"]⟩
def f_29 : Fn := ⟨dd "_law_below" 52, ["_law_a", "_law_b"]⟩
def f_30 : Fn := ⟨dd "_law_all" 53, ["_law_some"]⟩
def f_31 : Fn := ⟨dd "_law_told_otherwise" 54, ["_law_purse_here", "_law_spot"]⟩
def f_32 : Fn := ⟨dd "_law_class" 55, ["_law_e"]⟩
def f_33 : Fn := ⟨dd "_law_row" 56, ["_law_purse_here", "_law_most"]⟩
def f_34 : Fn := ⟨dd "_law_otherwise" 57, ["_law_purse_here", "_law_row_of"]⟩
def f_35 : Fn := ⟨dd "_law_asked" 58, ["_law_way", "_law_a", "_law_b", "_law_far_here"]⟩
def f_36 : Fn := ⟨dd "_law_caught" 59, ["_law_way", "_law_a", "_law_b", "_law_far_here"]⟩
def f_37 : Fn := ⟨dd "_law_bottoms" 60, ["_law_way", "_law_a", "_law_b", "_law_far_here"]⟩
def f_38 : Fn := ⟨dd "_law_good" 61, ["_law_row_of"]⟩
def f_39 : Fn := ⟨dd "_law_long_of" 62, ["_law_row_of"]⟩
def f_40 : Fn := ⟨dd "_law_due" 63, ["_law_way", "_law_a", "_law_b", "_law_far_here"]⟩
def f_41 : Fn := ⟨dd "_law_bent" 64, ["_law_purse_here", "_law_row_of"]⟩
def f_42 : Fn := ⟨dd "_law_far" 65, ["_law_purse_here", "_law_row_of"]⟩
def f_43 : Fn := ⟨dd "law" 66, ["_law_script"]⟩
def fns : List Fn := [f_0, f_1, f_2, f_3, f_4, f_5, f_6, f_7, f_8, f_9, f_10, f_11, f_12, f_13, f_14, f_15, f_16, f_17, f_18, f_19, f_20, f_21, f_22, f_23, f_24, f_25, f_26, f_27, f_28, f_29, f_30, f_31, f_32, f_33, f_34, f_35, f_36, f_37, f_38, f_39, f_40, f_41, f_42, f_43]
def cs : List (Str × D) := [("KINDS", (.tup [(.str "note"), (.str "rest")])), ("NOUGHT", (.tup [(.int 0), (.int 1)]))]
def fr : List Str := ["abs", "len", "zip", "int", "max", "range", "isinstance", "list"]
def isl : List (Ty × Cr) := [((.exc [0, 1, 2, 3, 4, 5, 6, 7, 8, 9, 10, 11, 12, 13]), .own "BeatError"), ((.exc [16]), .own "NoPage"), ((.exc [15]), .own "NoBar"), ((.exc [14]), .own "NoTime"), ((.exc [13]), .own "NoLine"), ((.exc [12]), .own "NoText"), ((.exc [11]), .own "NoDeed"), ((.exc [10]), .own "Full"), ((.exc [9]), .own "NoStep"), ((.exc [8]), .own "NoNote"), ((.exc [7]), .own "NoCost"), ((.exc [6]), .own "NoFit"), ((.exc [5]), .own "NoRow"), ((.exc [4]), .own "NoWriting"), ((.exc [3]), .own "NoGroup"), ((.exc [2]), .own "NoSign"), ((.exc [1]), .own "NoMeter")]
def exs : List XC := [⟨"BeatError", Str.empty⟩, ⟨"NoMeter", Str.empty⟩, ⟨"NoSign", Str.empty⟩, ⟨"NoGroup", Str.empty⟩, ⟨"NoWriting", "bar"⟩, ⟨"NoRow", Str.empty⟩, ⟨"NoFit", Str.empty⟩, ⟨"NoCost", Str.empty⟩, ⟨"NoNote", Str.empty⟩, ⟨"NoStep", "at"⟩, ⟨"Full", Str.empty⟩, ⟨"NoDeed", Str.empty⟩, ⟨"NoText", Str.empty⟩, ⟨"NoLine", Str.empty⟩, ⟨"NoTime", Str.empty⟩, ⟨"NoBar", "bar"⟩, ⟨"NoPage", "name"⟩]
def fa : List He.Fa := [He.Fa.glo "NoTime", He.Fa.glo "NoRow", He.Fa.glo "NoFit", He.Fa.glo "BeatError", He.Fa.glo "NoPage", He.Fa.glo "NoBar", He.Fa.glo "NoLine", He.Fa.glo "NoText", He.Fa.glo "NoDeed", He.Fa.glo "Full", He.Fa.glo "NoStep", He.Fa.glo "NoNote", He.Fa.glo "NoCost", He.Fa.glo "NoWriting", He.Fa.glo "NoGroup", He.Fa.glo "NoSign", He.Fa.glo "NoMeter"]
def bs : List (PySem.W.Frag → Bool) := [raisB bmZ "ZeroDivisionError.__new__" "NoTime", raisB bmV "ValueError.__new__" "NoRow", raisB bmV "ValueError.__new__" "NoFit", catB exs "NoTime" [14], catB exs "BeatError" [0, 1, 2, 3, 4, 5, 6, 7, 8, 9, 10, 11, 12, 13]]
def L : Lw := ⟨fns, cs, fr, isl, [], exs, fa, bs⟩
theorem bn_0 : BindN f_0 := fun _ _ _ _ _ _ us hl => match us, hl with | [_, _], _ => rfl
theorem bn_1 : BindN f_1 := fun _ _ _ _ _ _ us hl => match us, hl with | [_], _ => rfl
theorem bn_2 : BindN f_2 := fun _ _ _ _ _ _ us hl => match us, hl with | [_, _], _ => rfl
theorem bn_3 : BindN f_3 := fun _ _ _ _ _ _ us hl => match us, hl with | [_, _], _ => rfl
theorem bn_4 : BindN f_4 := fun _ _ _ _ _ _ us hl => match us, hl with | [_, _], _ => rfl
theorem bn_5 : BindN f_5 := fun _ _ _ _ _ _ us hl => match us, hl with | [_, _], _ => rfl
theorem bn_6 : BindN f_6 := fun _ _ _ _ _ _ us hl => match us, hl with | [_], _ => rfl
theorem bn_7 : BindN f_7 := fun _ _ _ _ _ _ us hl => match us, hl with | [_], _ => rfl
theorem bn_8 : BindN f_8 := fun _ _ _ _ _ _ us hl => match us, hl with | [_], _ => rfl
theorem bn_9 : BindN f_9 := fun _ _ _ _ _ _ us hl => match us, hl with | [_], _ => rfl
theorem bn_10 : BindN f_10 := fun _ _ _ _ _ _ us hl => match us, hl with | [_], _ => rfl
theorem bn_11 : BindN f_11 := fun _ _ _ _ _ _ us hl => match us, hl with | [_], _ => rfl
theorem bn_12 : BindN f_12 := fun _ _ _ _ _ _ us hl => match us, hl with | [_], _ => rfl
theorem bn_13 : BindN f_13 := fun _ _ _ _ _ _ us hl => match us, hl with | [_], _ => rfl
theorem bn_14 : BindN f_14 := fun _ _ _ _ _ _ us hl => match us, hl with | [_], _ => rfl
theorem bn_15 : BindN f_15 := fun _ _ _ _ _ _ us hl => match us, hl with | [_, _], _ => rfl
theorem bn_16 : BindN f_16 := fun _ _ _ _ _ _ us hl => match us, hl with | [_, _], _ => rfl
theorem bn_17 : BindN f_17 := fun _ _ _ _ _ _ us hl => match us, hl with | [_, _], _ => rfl
theorem bn_18 : BindN f_18 := fun _ _ _ _ _ _ us hl => match us, hl with | [_, _], _ => rfl
theorem bn_19 : BindN f_19 := fun _ _ _ _ _ _ us hl => match us, hl with | [_], _ => rfl
theorem bn_20 : BindN f_20 := fun _ _ _ _ _ _ us hl => match us, hl with | [_, _, _], _ => rfl
theorem bn_21 : BindN f_21 := fun _ _ _ _ _ _ us hl => match us, hl with | [_, _, _], _ => rfl
theorem bn_22 : BindN f_22 := fun _ _ _ _ _ _ us hl => match us, hl with | [_, _], _ => rfl
theorem bn_23 : BindN f_23 := fun _ _ _ _ _ _ us hl => match us, hl with | [_, _], _ => rfl
theorem bn_24 : BindN f_24 := fun _ _ _ _ _ _ us hl => match us, hl with | [_, _], _ => rfl
theorem bn_25 : BindN f_25 := fun _ _ _ _ _ _ us hl => match us, hl with | [_, _], _ => rfl
theorem bn_26 : BindN f_26 := fun _ _ _ _ _ _ us hl => match us, hl with | [_, _], _ => rfl
theorem bn_27 : BindN f_27 := fun _ _ _ _ _ _ us hl => match us, hl with | [_, _], _ => rfl
theorem bn_28 : BindN f_28 := fun _ _ _ _ _ _ us hl => match us, hl with | [_, _], _ => rfl
theorem bn_29 : BindN f_29 := fun _ _ _ _ _ _ us hl => match us, hl with | [_, _], _ => rfl
theorem bn_30 : BindN f_30 := fun _ _ _ _ _ _ us hl => match us, hl with | [_], _ => rfl
theorem bn_31 : BindN f_31 := fun _ _ _ _ _ _ us hl => match us, hl with | [_, _], _ => rfl
theorem bn_32 : BindN f_32 := fun _ _ _ _ _ _ us hl => match us, hl with | [_], _ => rfl
theorem bn_33 : BindN f_33 := fun _ _ _ _ _ _ us hl => match us, hl with | [_, _], _ => rfl
theorem bn_34 : BindN f_34 := fun _ _ _ _ _ _ us hl => match us, hl with | [_, _], _ => rfl
theorem bn_35 : BindN f_35 := fun _ _ _ _ _ _ us hl => match us, hl with | [_, _, _, _], _ => rfl
theorem bn_36 : BindN f_36 := fun _ _ _ _ _ _ us hl => match us, hl with | [_, _, _, _], _ => rfl
theorem bn_37 : BindN f_37 := fun _ _ _ _ _ _ us hl => match us, hl with | [_, _, _, _], _ => rfl
theorem bn_38 : BindN f_38 := fun _ _ _ _ _ _ us hl => match us, hl with | [_], _ => rfl
theorem bn_39 : BindN f_39 := fun _ _ _ _ _ _ us hl => match us, hl with | [_], _ => rfl
theorem bn_40 : BindN f_40 := fun _ _ _ _ _ _ us hl => match us, hl with | [_, _, _, _], _ => rfl
theorem bn_41 : BindN f_41 := fun _ _ _ _ _ _ us hl => match us, hl with | [_, _], _ => rfl
theorem bn_42 : BindN f_42 := fun _ _ _ _ _ _ us hl => match us, hl with | [_, _], _ => rfl
theorem bn_43 : BindN f_43 := fun _ _ _ _ _ _ us hl => match us, hl with | [_], _ => rfl
theorem bk_0 : BindK f_18 0 ["row", "by"] [.inl 0, .inl 1] := fun _ _ _ _ _ _ us ws h1 h2 => match us, ws, h1, h2 with | [], [u0, u1], _, _ => ⟨[u0, u1], (.inl rfl (.inl rfl .nil)), rfl⟩
theorem bk_1 : BindK f_21 0 ["first", "last", "row"] [.inl 2, .inl 0, .inl 1] := fun _ _ _ _ _ _ us ws h1 h2 => match us, ws, h1, h2 with | [], [u0, u1, u2], _, _ => ⟨[u2, u0, u1], (.inl rfl (.inl rfl (.inl rfl .nil))), rfl⟩
theorem bk_2 : BindK f_17 0 ["other", "one"] [.inl 1, .inl 0] := fun _ _ _ _ _ _ us ws h1 h2 => match us, ws, h1, h2 with | [], [u0, u1], _, _ => ⟨[u1, u0], (.inl rfl (.inl rfl .nil)), rfl⟩
def N_0 : List Str := ["top", "bottom", "one", "other"]
theorem nd_0 : N_0.Nodup := by decide +kernel
def N_1 : List Str := ["time"]
theorem nd_1 : N_1.Nodup := by decide +kernel
def N_2 : List Str := ["one", "other"]
theorem nd_2 : N_2.Nodup := by decide +kernel
def N_3 : List Str := ["one", "other"]
theorem nd_3 : N_3.Nodup := by decide +kernel
def N_4 : List Str := ["one", "other"]
theorem nd_4 : N_4.Nodup := by decide +kernel
def N_5 : List Str := ["one", "other"]
theorem nd_5 : N_5.Nodup := by decide +kernel
def N_6 : List Str := ["row", "kind", "length"]
theorem nd_6 : N_6.Nodup := by decide +kernel
def N_7 : List Str := ["row", "kind", "length"]
theorem nd_7 : N_7.Nodup := by decide +kernel
def N_8 : List Str := ["row", "found", "kind", "length"]
theorem nd_8 : N_8.Nodup := by decide +kernel
def N_9 : List Str := ["row", "some"]
theorem nd_9 : N_9.Nodup := by decide +kernel
def N_10 : List Str := ["row"]
theorem nd_10 : N_10.Nodup := by decide +kernel
def N_11 : List Str := ["row", "found", "kind", "length"]
theorem nd_11 : N_11.Nodup := by decide +kernel
def N_12 : List Str := ["row"]
theorem nd_12 : N_12.Nodup := by decide +kernel
def N_13 : List Str := ["row", "found", "time", "kind", "length"]
theorem nd_13 : N_13.Nodup := by decide +kernel
def N_14 : List Str := ["some", "found", "time", "at", "other"]
theorem nd_14 : N_14.Nodup := by decide +kernel
def N_15 : List Str := ["spans", "time", "notes", "span", "on"]
theorem nd_15 : N_15.Nodup := by decide +kernel
def N_16 : List Str := ["one", "other", "spans", "points", "span", "found", "time", "end", "length", "on", "begins"]
theorem nd_16 : N_16.Nodup := by decide +kernel
def N_17 : List Str := ["one", "other", "some", "row"]
theorem nd_17 : N_17.Nodup := by decide +kernel
def N_18 : List Str := ["row", "by", "often", "some", "kind", "length"]
theorem nd_18 : N_18.Nodup := by decide +kernel
def N_19 : List Str := ["row"]
theorem nd_19 : N_19.Nodup := by decide +kernel
def N_20 : List Str := ["row", "first", "last", "found", "kind", "begin", "end"]
theorem nd_20 : N_20.Nodup := by decide +kernel
def N_21 : List Str := ["row", "first", "last", "begin", "end", "some"]
theorem nd_21 : N_21.Nodup := by decide +kernel
def N_22 : List Str := ["_law_script", "_law_k"]
theorem nd_22 : N_22.Nodup := by decide +kernel
def N_23 : List Str := ["_law_cell", "_law_k", "_law_number"]
theorem nd_23 : N_23.Nodup := by decide +kernel
def N_24 : List Str := ["_law_script", "_law_at_here", "_law_cell"]
theorem nd_24 : N_24.Nodup := by decide +kernel
def N_25 : List Str := ["_law_purse_here", "_law_out_of", "_law_drawn", "_law_number", "_law_k"]
theorem nd_25 : N_25.Nodup := by decide +kernel
def N_26 : List Str := ["_law_top", "_law_bottom", "_law_high", "_law_rest"]
theorem nd_26 : N_26.Nodup := by decide +kernel
def N_27 : List Str := ["_law_a", "_law_b"]
theorem nd_27 : N_27.Nodup := by decide +kernel
def N_28 : List Str := ["_law_a", "_law_b"]
theorem nd_28 : N_28.Nodup := by decide +kernel
def N_29 : List Str := ["_law_a", "_law_b"]
theorem nd_29 : N_29.Nodup := by decide +kernel
def N_30 : List Str := ["_law_some", "_law_found", "_law_one_of"]
theorem nd_30 : N_30.Nodup := by decide +kernel
def N_31 : List Str := ["_law_purse_here", "_law_spot", "_law_by_much"]
theorem nd_31 : N_31.Nodup := by decide +kernel
def N_32 : List Str := ["_law_e", "_law_found", "_law_kinds", "_law_k"]
theorem nd_32 : N_32.Nodup := by decide +kernel
def N_33 : List Str := ["_law_purse_here", "_law_most", "_law_found", "_law_k", "_law_low", "_law_long"]
theorem nd_33 : N_33.Nodup := by decide +kernel
def N_34 : List Str := ["_law_purse_here", "_law_row_of", "_law_word", "_law_long"]
theorem nd_34 : N_34.Nodup := by decide +kernel
def N_35 : List Str := ["_law_way", "_law_a", "_law_b", "_law_far_here"]
theorem nd_35 : N_35.Nodup := by decide +kernel
def N_36 : List Str := ["_law_way", "_law_a", "_law_b", "_law_far_here", "_law_caught_here", "_law_e"]
theorem nd_36 : N_36.Nodup := by decide +kernel
def N_37 : List Str := ["_law_way", "_law_a", "_law_b", "_law_far_here", "_law_found", "_law_word", "_law_long", "_law_spot"]
theorem nd_37 : N_37.Nodup := by decide +kernel
def N_38 : List Str := ["_law_row_of", "_law_word", "_law_long"]
theorem nd_38 : N_38.Nodup := by decide +kernel
def N_39 : List Str := ["_law_row_of", "_law_word", "_law_long"]
theorem nd_39 : N_39.Nodup := by decide +kernel
def N_40 : List Str := ["_law_way", "_law_a", "_law_b", "_law_far_here", "_law_low", "_law_begin", "_law_end", "_law_spot", "_law_fine"]
theorem nd_40 : N_40.Nodup := by decide +kernel
def N_41 : List Str := ["_law_purse_here", "_law_row_of", "_law_at_here", "_law_word", "_law_some"]
theorem nd_41 : N_41.Nodup := by decide +kernel
def N_42 : List Str := ["_law_purse_here", "_law_row_of", "_law_whole", "_law_some", "_law_k"]
theorem nd_42 : N_42.Nodup := by decide +kernel
def N_43 : List Str := ["_law_script", "_law_cell", "_law_purse_here", "_law_row_of", "_law_some", "_law_a", "_law_drawn", "_law_b", "_law_far_here", "_law_stayed", "_law_way"]
theorem nd_43 : N_43.Nodup := by decide +kernel
/-- lowest -/
def s_0 : Ss := (.cons (.par 2 3 (.bi .abs (.cons (.v 0) .nil)) (.bi .abs (.cons (.v 1) .nil)))
  (.cons (.whl (.cm .ne (.v 3) (.k (.int 0))) (.cons (.par 2 3 (.v 3) (.op .mod (.v 2) (.v 3)))
  .nil))
  (.cons (.iff (.cm .lt (.v 1) (.k (.int 0))) (.cons (.asg (.n 2) (.op .sub (.k (.int 0)) (.v 2)))
  .nil) .nil)
  (.cons (.ret (.tup (.cons (.op .fdiv (.v 0) (.v 2)) (.cons (.op .fdiv (.v 1) (.v 2)) .nil))))
  .nil))))
/-- must_time -/
def s_1 : Ss := (.cons (.iff (.cm .eq (.ix (.v 0) (.k (.int 1))) (.k (.int 0))) (.cons (.rs 14 .nil)
  .nil) .nil)
  (.cons (.ret (.call 0 (.cons (.ix (.v 0) (.k (.int 0))) (.cons (.ix (.v 0) (.k (.int 1))) .nil))))
  .nil))
/-- plus -/
def s_2 : Ss := (.cons (.ret (.call 0 (.cons (.op .add (.op .mul (.ix (.v 0) (.k (.int 0))) (.ix (.v 1) (.k (.int 1)))) (.op .mul (.ix (.v 1) (.k (.int 0))) (.ix (.v 0) (.k (.int 1))))) (.cons (.op .mul (.ix (.v 0) (.k (.int 1))) (.ix (.v 1) (.k (.int 1)))) .nil))))
  .nil)
/-- less -/
def s_3 : Ss := (.cons (.ret (.call 0 (.cons (.op .sub (.op .mul (.ix (.v 0) (.k (.int 0))) (.ix (.v 1) (.k (.int 1)))) (.op .mul (.ix (.v 1) (.k (.int 0))) (.ix (.v 0) (.k (.int 1))))) (.cons (.op .mul (.ix (.v 0) (.k (.int 1))) (.ix (.v 1) (.k (.int 1)))) .nil))))
  .nil)
/-- times -/
def s_4 : Ss := (.cons (.ret (.call 0 (.cons (.op .mul (.ix (.v 0) (.k (.int 0))) (.ix (.v 1) (.k (.int 0)))) (.cons (.op .mul (.ix (.v 0) (.k (.int 1))) (.ix (.v 1) (.k (.int 1)))) .nil))))
  .nil)
/-- under -/
def s_5 : Ss := (.cons (.ret (.cm .lt (.op .mul (.ix (.v 0) (.k (.int 0))) (.ix (.v 1) (.k (.int 1)))) (.op .mul (.ix (.v 1) (.k (.int 0))) (.ix (.v 0) (.k (.int 1))))))
  .nil)
/-- lowest_row -/
def s_6 : Ss := (.cons (.ret (.lcx [1, 2] (.t [(.n 1), (.n 2)]) (.e (.v 0)) .no (.tup (.cons (.v 1) (.cons (.call 1 (.cons (.v 2) .nil)) .nil)))))
  .nil)
/-- must_pieces -/
def s_7 : Ss := (.cons (.for (.t [(.n 1), (.n 2)]) (.e (.v 0)) (.cons (.iff (.or (.cm .notIn (.v 1) (.k (.tup [(.str "note"), (.str "rest")]))) (.not (.call 5 (.cons (.k (.tup [(.int 0), (.int 1)])) (.cons (.v 2) .nil))))) (.cons (.rs 5 .nil)
  .nil) .nil)
  .nil))
  .nil)
/-- kept_of -/
def s_8 : Ss := (.cons (.asg (.n 1) (.lst .nil))
  (.cons (.for (.t [(.n 2), (.n 3)]) (.e (.v 0)) (.cons (.iff (.and (.cm .eq (.v 2) (.k (.str "rest"))) (.and (.cm .ne (.sl (.v 1) (.so (.neg (.k (.int 1)))) .no) (.lst .nil)) (.cm .eq (.ix (.ix (.v 1) (.neg (.k (.int 1)))) (.k (.int 0))) (.k (.str "rest"))))) (.cons (.asg (.n 3) (.call 2 (.cons (.ix (.lm .pop (.v 1) .nil) (.k (.int 1))) (.cons (.v 3) .nil))))
  .nil) .nil)
  (.cons (.ex (.lm .append (.v 1) (.cons (.tup (.cons (.v 2) (.cons (.v 3) .nil))) .nil)))
  .nil)))
  (.cons (.ret (.v 1))
  .nil)))
/-- must_row -/
def s_9 : Ss := (.cons (.asg (.n 1) (.call 6 (.cons (.v 0) .nil)))
  (.cons (.ex (.call 7 (.cons (.v 1) .nil)))
  (.cons (.ret (.call 8 (.cons (.v 1) .nil)))
  .nil)))
/-- kept -/
def s_10 : Ss := (.cons (.ret (.call 9 (.cons (.v 0) .nil)))
  .nil)
/-- whole_of -/
def s_11 : Ss := (.cons (.asg (.n 1) (.k (.tup [(.int 0), (.int 1)])))
  (.cons (.for (.t [(.n 2), (.n 3)]) (.e (.v 0)) (.cons (.asg (.n 1) (.call 2 (.cons (.v 1) (.cons (.v 3) .nil))))
  .nil))
  (.cons (.ret (.v 1))
  .nil)))
/-- length_of -/
def s_12 : Ss := (.cons (.ret (.call 11 (.cons (.call 9 (.cons (.v 0) .nil)) .nil)))
  .nil)
/-- spans_of -/
def s_13 : Ss := (.cons (.asg (.n 1) (.lst .nil))
  (.cons (.asg (.n 2) (.k (.tup [(.int 0), (.int 1)])))
  (.cons (.for (.t [(.n 3), (.n 4)]) (.e (.v 0)) (.cons (.ex (.lm .append (.v 1) (.cons (.tup (.cons (.v 3) (.cons (.v 2) (.cons (.call 2 (.cons (.v 2) (.cons (.v 4) .nil))) .nil)))) .nil)))
  (.cons (.asg (.n 2) (.call 2 (.cons (.v 2) (.cons (.v 4) .nil))))
  .nil)))
  (.cons (.ret (.v 1))
  .nil))))
/-- in_order -/
def s_14 : Ss := (.cons (.asg (.n 1) (.lst .nil))
  (.cons (.for (.n 2) (.e (.v 0)) (.cons (.asg (.n 3) (.bi .len (.cons (.lent 1 (.lc [4] (.n 4) (.e (.v 1)) (.so (.call 5 (.cons (.v 4) (.cons (.v 2) .nil)))) (.v 4))) .nil)))
  (.cons (.iff (.cm .ne (.sl (.v 1) (.so (.v 3)) (.so (.op .add (.v 3) (.k (.int 1))))) (.lst (.cons (.v 2) .nil))) (.cons (.ex (.lm .insert (.v 1) (.cons (.v 3) (.cons (.v 2) .nil))))
  .nil) .nil)
  .nil)))
  (.cons (.ret (.v 1))
  .nil)))
/-- sounds -/
def s_15 : Ss := (.cons (.asg (.n 2) (.lc [3] (.n 3) (.e (.v 0)) (.so (.cm .eq (.ix (.v 3) (.k (.int 0))) (.k (.str "note")))) (.v 3)))
  (.cons (.asg (.n 4) (.lc [3] (.n 3) (.e (.v 2)) (.so (.and (.not (.call 5 (.cons (.v 1) (.cons (.ix (.v 3) (.k (.int 1))) .nil)))) (.call 5 (.cons (.v 1) (.cons (.ix (.v 3) (.k (.int 2))) .nil))))) (.v 3)))
  (.cons (.ret (.tup (.cons (.cm .ne (.v 4) (.lst .nil)) (.cons (.cm .ne (.lc [3] (.n 3) (.e (.v 4)) (.so (.cm .eq (.ix (.v 3) (.k (.int 1))) (.v 1))) (.v 3)) (.lst .nil)) .nil))))
  .nil)))
/-- of_both -/
def s_16 : Ss := (.cons (.asg (.n 2) (.op .add (.call 13 (.cons (.v 0) .nil)) (.call 13 (.cons (.v 1) .nil))))
  (.cons (.asg (.n 3) (.call 14 (.cons (.op .add (.lc [4] (.n 4) (.e (.v 2)) .no (.ix (.v 4) (.k (.int 1)))) (.lc [4] (.n 4) (.e (.v 2)) .no (.ix (.v 4) (.k (.int 2))))) .nil)))
  (.cons (.asg (.n 5) (.lst .nil))
  (.cons (.for (.t [(.n 6), (.n 7)]) (.zp (.cons (.v 3) (.cons (.sl (.v 3) (.so (.k (.int 1))) .no) .nil))) (.cons (.asg (.n 8) (.call 3 (.cons (.v 7) (.cons (.v 6) .nil))))
  (.cons (.asg (.t [(.n 9), (.n 10)]) (.call 15 (.cons (.v 2) (.cons (.v 6) .nil))))
  (.cons (.iff (.and (.v 9) (.not (.v 10))) (.cons (.asg (.n 8) (.call 2 (.cons (.ix (.lm .pop (.v 5) .nil) (.k (.int 1))) (.cons (.v 8) .nil))))
  .nil) .nil)
  (.cons (.ex (.lm .append (.v 5) (.cons (.tup (.cons (.ix (.lst (.cons (.k (.str "rest")) (.cons (.k (.str "note")) .nil))) (.bi .int (.cons (.v 9) .nil))) (.cons (.v 8) .nil))) .nil)))
  .nil)))))
  (.cons (.ret (.call 8 (.cons (.v 5) .nil)))
  .nil)))))
/-- together -/
def s_17 : Ss := (.cons (.asg (.n 2) (.lst (.cons (.call 6 (.cons (.v 0) .nil)) (.cons (.call 6 (.cons (.v 1) .nil)) .nil))))
  (.cons (.for (.n 3) (.e (.v 2)) (.cons (.ex (.call 7 (.cons (.v 3) .nil)))
  .nil))
  (.cons (.iff (.cm .ne (.call 11 (.cons (.ix (.v 2) (.k (.int 0))) .nil)) (.call 11 (.cons (.ix (.v 2) (.k (.int 1))) .nil))) (.cons (.rs 6 .nil)
  .nil) .nil)
  (.cons (.ret (.call 16 (.cons (.call 8 (.cons (.ix (.v 2) (.k (.int 0))) .nil)) (.cons (.call 8 (.cons (.ix (.v 2) (.k (.int 1))) .nil)) .nil))))
  .nil))))
/-- quickened -/
def s_18 : Ss := (.cons (.asg (.n 2) (.call 1 (.cons (.v 1) .nil)))
  (.cons (.asg (.n 3) (.call 9 (.cons (.v 0) .nil)))
  (.cons (.iff (.not (.call 5 (.cons (.k (.tup [(.int 0), (.int 1)])) (.cons (.v 2) .nil)))) (.cons (.rs 6 .nil)
  .nil) .nil)
  (.cons (.ret (.lc [4, 5] (.t [(.n 4), (.n 5)]) (.e (.v 3)) .no (.tup (.cons (.v 4) (.cons (.call 4 (.cons (.v 5) (.cons (.v 2) .nil))) .nil)))))
  .nil))))
/-- turned -/
def s_19 : Ss := (.cons (.ret (.rev (.call 9 (.cons (.v 0) .nil))))
  .nil)
/-- cut_of -/
def s_20 : Ss := (.cons (.asg (.n 3) (.lst .nil))
  (.cons (.for (.t [(.n 4), (.n 5), (.n 6)]) (.e (.call 13 (.cons (.v 0) .nil))) (.cons (.asg (.n 5) (.ite (.call 5 (.cons (.v 5) (.cons (.v 1) .nil))) (.v 1) (.v 5)))
  (.cons (.asg (.n 6) (.ite (.call 5 (.cons (.v 2) (.cons (.v 6) .nil))) (.v 2) (.v 6)))
  (.cons (.iff (.call 5 (.cons (.v 5) (.cons (.v 6) .nil))) (.cons (.ex (.lm .append (.v 3) (.cons (.tup (.cons (.v 4) (.cons (.call 3 (.cons (.v 6) (.cons (.v 5) .nil))) .nil))) .nil)))
  .nil) .nil)
  .nil))))
  (.cons (.ret (.v 3))
  .nil)))
/-- cut -/
def s_21 : Ss := (.cons (.asg (.n 3) (.call 1 (.cons (.v 1) .nil)))
  (.cons (.asg (.n 4) (.call 1 (.cons (.v 2) .nil)))
  (.cons (.asg (.n 5) (.call 9 (.cons (.v 0) .nil)))
  (.cons (.iff (.or (.call 5 (.cons (.v 3) (.cons (.k (.tup [(.int 0), (.int 1)])) .nil))) (.or (.not (.call 5 (.cons (.v 3) (.cons (.v 4) .nil)))) (.call 5 (.cons (.call 11 (.cons (.v 5) .nil)) (.cons (.v 4) .nil))))) (.cons (.rs 6 .nil)
  .nil) .nil)
  (.cons (.ret (.call 20 (.cons (.v 5) (.cons (.v 3) (.cons (.v 4) .nil)))))
  .nil)))))
/-- _law_at -/
def s_22 : Ss := (.cons (.iff (.cm .lt (.v 1) (.scl 0)) (.cons (.ret (.sci 0 (.v 1)))
  .nil) .nil)
  (.cons (.ret (.k (.int 0)))
  .nil))
/-- _law_mixed -/
def s_23 : Ss := (.cons (.asg (.n 2) (.op .mod (.op .add (.op .add (.op .add (.op .mul (.v 0) (.k (.int 1103515245))) (.op .mul (.op .mul (.k (.int 7919)) (.v 1)) (.v 1))) (.v 1)) (.k (.int 1))) (.k (.int 2147483647))))
  (.cons (.asg (.n 2) (.op .mod (.op .add (.op .mul (.v 2) (.v 2)) (.k (.int 69621))) (.k (.int 2147483629))))
  (.cons (.ret (.op .mod (.op .mul (.v 2) (.k (.int 48271))) (.k (.int 2147483587))))
  .nil)))
/-- _law_purse -/
def s_24 : Ss := (.cons (.asg (.n 2) (.call 22 (.cons (.v 0) (.cons (.v 1) .nil))))
  (.cons (.ret (.lst (.cons (.op .mod (.bi .max (.cons (.op .sub (.v 2) (.op .pow (.k (.int 10)) (.k (.int 18)))) (.cons (.k (.int 0)) .nil))) (.op .pow (.op .pow (.k (.int 10)) (.k (.int 60))) (.k (.int 40)))) (.cons (.op .mod (.v 2) (.k (.int 2147483647))) (.cons (.op .mul (.k (.int 1000)) (.v 1)) .nil)))))
  .nil))
/-- _law_draw -/
def s_25 : Ss := (.cons (.iff (.cm .gt (.ix (.v 0) (.k (.int 0))) (.k (.int 0))) (.cons (.asg (.n 2) (.op .mod (.ix (.v 0) (.k (.int 0))) (.v 1)))
  (.cons (.six 0 (.k (.int 0)) (.op .fdiv (.ix (.v 0) (.k (.int 0))) (.v 1)))
  (.cons (.ret (.v 2))
  .nil))) .nil)
  (.cons (.asg (.n 3) (.k (.int 0)))
  (.cons (.for (.n 4) (.rg1 (.cons (.op .add (.k (.int 1)) (.op .fdiv (.bi .bits (.cons (.v 1) .nil)) (.k (.int 30)))) .nil)) (.cons (.six 0 (.k (.int 2)) (.op .add (.ix (.v 0) (.k (.int 2))) (.k (.int 1))))
  (.cons (.asg (.n 3) (.op .add (.op .mul (.v 3) (.k (.int 2147483587))) (.call 23 (.cons (.ix (.v 0) (.k (.int 1))) (.cons (.ix (.v 0) (.k (.int 2))) .nil)))))
  .nil)))
  (.cons (.ret (.op .mod (.v 3) (.v 1)))
  .nil))))
/-- _law_made -/
def s_26 : Ss := (.cons (.asg (.n 2) (.bi .abs (.cons (.v 0) .nil)))
  (.cons (.asg (.n 3) (.bi .abs (.cons (.v 1) .nil)))
  (.cons (.whl (.cm .ne (.v 3) (.k (.int 0))) (.cons (.par 2 3 (.v 3) (.op .mod (.v 2) (.v 3)))
  .nil))
  (.cons (.iff (.cm .lt (.v 1) (.k (.int 0))) (.cons (.asg (.n 2) (.op .sub (.k (.int 0)) (.v 2)))
  .nil) .nil)
  (.cons (.ret (.tup (.cons (.op .fdiv (.v 0) (.v 2)) (.cons (.op .fdiv (.v 1) (.v 2)) .nil))))
  .nil)))))
/-- _law_sum -/
def s_27 : Ss := (.cons (.ret (.call 26 (.cons (.op .add (.op .mul (.ix (.v 0) (.k (.int 0))) (.ix (.v 1) (.k (.int 1)))) (.op .mul (.ix (.v 1) (.k (.int 0))) (.ix (.v 0) (.k (.int 1))))) (.cons (.op .mul (.ix (.v 0) (.k (.int 1))) (.ix (.v 1) (.k (.int 1)))) .nil))))
  .nil)
/-- _law_product -/
def s_28 : Ss := (.cons (.ret (.call 26 (.cons (.op .mul (.ix (.v 0) (.k (.int 0))) (.ix (.v 1) (.k (.int 0)))) (.cons (.op .mul (.ix (.v 0) (.k (.int 1))) (.ix (.v 1) (.k (.int 1)))) .nil))))
  .nil)
/-- _law_below -/
def s_29 : Ss := (.cons (.ret (.cm .lt (.op .mul (.ix (.v 0) (.k (.int 0))) (.ix (.v 1) (.k (.int 1)))) (.op .mul (.ix (.v 1) (.k (.int 0))) (.ix (.v 0) (.k (.int 1))))))
  .nil)
/-- _law_all -/
def s_30 : Ss := (.cons (.asg (.n 1) (.tup (.cons (.k (.int 0)) (.cons (.k (.int 1)) .nil))))
  (.cons (.for (.n 2) (.e (.v 0)) (.cons (.asg (.n 1) (.call 27 (.cons (.v 1) (.cons (.v 2) .nil))))
  .nil))
  (.cons (.ret (.v 1))
  .nil)))
/-- _law_told_otherwise -/
def s_31 : Ss := (.cons (.asg (.n 2) (.ix (.lst (.cons (.k (.int 1)) (.cons (.k (.int 1)) (.cons (.neg (.k (.int 1))) (.cons (.k (.int 3)) (.cons (.neg (.k (.int 7))) .nil)))))) (.call 25 (.cons (.v 0) (.cons (.k (.int 5)) .nil)))))
  (.cons (.ret (.tup (.cons (.op .mul (.ix (.v 1) (.k (.int 0))) (.v 2)) (.cons (.op .mul (.ix (.v 1) (.k (.int 1))) (.v 2)) .nil))))
  .nil))
/-- _law_class -/
def s_32 : Ss := (.cons (.asg (.n 1) (.lst (.cons (.bi (.isi (.exc [1])) (.cons (.v 0) .nil)) (.cons (.bi (.isi (.exc [2])) (.cons (.v 0) .nil)) (.cons (.bi (.isi (.exc [3])) (.cons (.v 0) .nil)) (.cons (.bi (.isi (.exc [4])) (.cons (.v 0) .nil)) .nil))))))
  (.cons (.asg (.n 1) (.op .add (.v 1) (.lst (.cons (.bi (.isi (.exc [5])) (.cons (.v 0) .nil)) (.cons (.bi (.isi (.exc [6])) (.cons (.v 0) .nil)) (.cons (.bi (.isi (.exc [7])) (.cons (.v 0) .nil)) (.cons (.bi (.isi (.exc [8])) (.cons (.v 0) .nil)) .nil)))))))
  (.cons (.asg (.n 1) (.op .add (.v 1) (.lst (.cons (.bi (.isi (.exc [9])) (.cons (.v 0) .nil)) (.cons (.bi (.isi (.exc [10])) (.cons (.v 0) .nil)) (.cons (.bi (.isi (.exc [11])) (.cons (.v 0) .nil)) (.cons (.bi (.isi (.exc [12])) (.cons (.v 0) .nil)) .nil)))))))
  (.cons (.asg (.n 1) (.op .add (.v 1) (.lst (.cons (.bi (.isi (.exc [13])) (.cons (.v 0) .nil)) (.cons (.bi (.isi (.exc [14])) (.cons (.v 0) .nil)) (.cons (.bi (.isi (.exc [15])) (.cons (.v 0) .nil)) (.cons (.bi (.isi (.exc [16])) (.cons (.v 0) .nil)) .nil)))))))
  (.cons (.asg (.n 2) (.lc [3] (.n 3) (.rg1 (.cons (.k (.int 16)) .nil)) (.so (.ix (.v 1) (.v 3))) (.v 3)))
  (.cons (.iff (.and (.cm .notN (.v 0) (.k .non)) (.cm .eq (.v 2) (.lst .nil))) (.cons (.ret (.lst (.cons (.k (.int 99)) .nil)))
  .nil) .nil)
  (.cons (.iff (.cm .ne (.bi (.isi (.exc [0, 1, 2, 3, 4, 5, 6, 7, 8, 9, 10, 11, 12, 13])) (.cons (.v 0) .nil)) (.and (.cm .ne (.v 2) (.lst .nil)) (.cm .lt (.ix (.v 2) (.k (.int 0))) (.k (.int 13))))) (.cons (.ret (.lst (.cons (.k (.int 98)) .nil)))
  .nil) .nil)
  (.cons (.ret (.v 2))
  .nil))))))))
/-- _law_row -/
def s_33 : Ss := (.cons (.asg (.n 2) (.lst .nil))
  (.cons (.for (.n 3) (.rg1 (.cons (.call 25 (.cons (.v 0) (.cons (.op .add (.v 1) (.k (.int 1))) .nil))) .nil)) (.cons (.asg (.n 4) (.ix (.lst (.cons (.k (.int 1)) (.cons (.k (.int 2)) (.cons (.k (.int 4)) (.cons (.k (.int 8)) (.cons (.k (.int 3)) (.cons (.k (.int 12)) (.cons (.k (.int 5)) (.cons (.k (.int 7)) (.cons (.k (.int 64)) (.cons (.k (.int 1000)) .nil))))))))))) (.call 25 (.cons (.v 0) (.cons (.k (.int 10)) .nil)))))
  (.cons (.asg (.n 5) (.call 26 (.cons (.op .add (.k (.int 1)) (.call 25 (.cons (.v 0) (.cons (.ix (.lst (.cons (.k (.int 2)) (.cons (.k (.int 5)) (.cons (.k (.int 100)) .nil)))) (.call 25 (.cons (.v 0) (.cons (.k (.int 3)) .nil)))) .nil)))) (.cons (.v 4) .nil))))
  (.cons (.ex (.lm .append (.v 2) (.cons (.tup (.cons (.ix (.lst (.cons (.k (.str "note")) (.cons (.k (.str "note")) (.cons (.k (.str "rest")) .nil)))) (.call 25 (.cons (.v 0) (.cons (.k (.int 3)) .nil)))) (.cons (.v 5) .nil))) .nil)))
  .nil))))
  (.cons (.ret (.v 2))
  .nil)))
/-- _law_otherwise -/
def s_34 : Ss := (.cons (.ret (.lc [2, 3] (.t [(.n 2), (.n 3)]) (.e (.v 1)) .no (.tup (.cons (.v 2) (.cons (.call 31 (.cons (.v 0) (.cons (.v 3) .nil))) .nil)))))
  .nil)
/-- _law_asked -/
def s_35 : Ss := (.cons (.iff (.cm .eq (.v 0) (.k (.int 0))) (.cons (.ex (.call 10 (.cons (.v 1) .nil)))
  .nil) (.cons (.iff (.cm .eq (.v 0) (.k (.int 1))) (.cons (.ex (.call 12 (.cons (.v 1) .nil)))
  .nil) (.cons (.iff (.cm .eq (.v 0) (.k (.int 2))) (.cons (.ex (.call 19 (.cons (.v 1) .nil)))
  .nil) (.cons (.iff (.cm .eq (.v 0) (.k (.int 3))) (.cons (.ex (.call 18 (.cons (.v 1) (.cons (.ix (.v 3) (.k (.int 0))) .nil))))
  .nil) (.cons (.iff (.cm .eq (.v 0) (.k (.int 4))) (.cons (.ex (.call 21 (.cons (.v 1) (.cons (.ix (.v 3) (.k (.int 1))) (.cons (.ix (.v 3) (.k (.int 2))) .nil)))))
  .nil) (.cons (.iff (.cm .eq (.v 0) (.k (.int 5))) (.cons (.ex (.call 17 (.cons (.v 1) (.cons (.v 2) .nil))))
  .nil) (.cons (.iff (.cm .eq (.v 0) (.k (.int 6))) (.cons (.ex (.callK 18 (.cons (.v 1) (.cons (.ix (.v 3) (.k (.int 0))) .nil)) [.inl 0, .inl 1]))
  .nil) (.cons (.iff (.cm .eq (.v 0) (.k (.int 7))) (.cons (.ex (.callK 21 (.cons (.ix (.v 3) (.k (.int 1))) (.cons (.ix (.v 3) (.k (.int 2))) (.cons (.v 1) .nil))) [.inl 2, .inl 0, .inl 1]))
  .nil) (.cons (.ex (.callK 17 (.cons (.v 2) (.cons (.v 1) .nil)) [.inl 1, .inl 0]))
  .nil))
  .nil))
  .nil))
  .nil))
  .nil))
  .nil))
  .nil))
  .nil))
  .nil)
/-- _law_caught -/
def s_36 : Ss := (.cons (.asg (.n 4) (.k .non))
  (.cons (.tr (.cons (.ex (.call 35 (.cons (.v 0) (.cons (.v 1) (.cons (.v 2) (.cons (.v 3) .nil))))))
  .nil) [⟨[0, 1, 2, 3, 4, 5, 6, 7, 8, 9, 10, 11, 12, 13], .keep 5 4⟩, ⟨[14], .keep 5 4⟩])
  (.cons (.ret (.call 32 (.cons (.v 4) .nil)))
  .nil)))
/-- _law_bottoms -/
def s_37 : Ss := (.cons (.asg (.n 4) (.lc [5, 6] (.t [(.n 5), (.n 6)]) (.e (.v 1)) .no (.v 6)))
  (.cons (.iff (.cm .isIn (.v 0) (.lst (.cons (.k (.int 5)) (.cons (.k (.int 8)) .nil)))) (.cons (.asg (.n 4) (.op .add (.v 4) (.lc [5, 6] (.t [(.n 5), (.n 6)]) (.e (.v 2)) .no (.v 6))))
  .nil) .nil)
  (.cons (.iff (.cm .isIn (.v 0) (.lst (.cons (.k (.int 3)) (.cons (.k (.int 6)) .nil)))) (.cons (.ex (.lm .append (.v 4) (.cons (.ix (.v 3) (.k (.int 0))) .nil)))
  .nil) .nil)
  (.cons (.iff (.cm .isIn (.v 0) (.lst (.cons (.k (.int 4)) (.cons (.k (.int 7)) .nil)))) (.cons (.asg (.n 4) (.op .add (.v 4) (.sl (.v 3) (.so (.k (.int 1))) .no)))
  .nil) .nil)
  (.cons (.ret (.lent 4 (.lc [7] (.n 7) (.e (.v 4)) .no (.ix (.v 7) (.k (.int 1))))))
  .nil)))))
/-- _law_good -/
def s_38 : Ss := (.cons (.for (.t [(.n 1), (.n 2)]) (.e (.v 0)) (.cons (.iff (.or (.cm .notIn (.v 1) (.lst (.cons (.k (.str "note")) (.cons (.k (.str "rest")) .nil)))) (.not (.call 29 (.cons (.tup (.cons (.k (.int 0)) (.cons (.k (.int 1)) .nil))) (.cons (.call 26 (.cons (.ix (.v 2) (.k (.int 0))) (.cons (.ix (.v 2) (.k (.int 1))) .nil))) .nil))))) (.cons (.ret (.k (.bl false)))
  .nil) .nil)
  .nil))
  (.cons (.ret (.k (.bl true)))
  .nil))
/-- _law_long_of -/
def s_39 : Ss := (.cons (.ret (.call 30 (.cons (.lc [1, 2] (.t [(.n 1), (.n 2)]) (.e (.v 0)) .no (.call 26 (.cons (.ix (.v 2) (.k (.int 0))) (.cons (.ix (.v 2) (.k (.int 1))) .nil)))) .nil)))
  .nil)
/-- _law_due -/
def s_40 : Ss := (.cons (.iff (.cm .isIn (.k (.int 0)) (.call 37 (.cons (.v 0) (.cons (.v 1) (.cons (.v 2) (.cons (.v 3) .nil)))))) (.cons (.ret (.lst (.cons (.k (.int 13)) .nil)))
  .nil) .nil)
  (.cons (.iff (.or (.not (.call 38 (.cons (.v 1) .nil))) (.and (.cm .isIn (.v 0) (.lst (.cons (.k (.int 5)) (.cons (.k (.int 8)) .nil)))) (.not (.call 38 (.cons (.v 2) .nil))))) (.cons (.ret (.lst (.cons (.k (.int 4)) .nil)))
  .nil) .nil)
  (.cons (.asg (.t [(.n 4), (.n 5), (.n 6)]) (.lc [7] (.n 7) (.e (.v 3)) .no (.call 26 (.cons (.ix (.v 7) (.k (.int 0))) (.cons (.op .add (.ix (.v 7) (.k (.int 1))) (.bi .int (.cons (.cm .eq (.ix (.v 7) (.k (.int 1))) (.k (.int 0))) .nil))) .nil)))))
  (.cons (.iff (.cm .isIn (.v 0) (.lst (.cons (.k (.int 3)) (.cons (.k (.int 6)) .nil)))) (.cons (.ret (.ix (.lst (.cons (.lst (.cons (.k (.int 5)) .nil)) (.cons (.lst .nil) .nil))) (.bi .int (.cons (.call 29 (.cons (.tup (.cons (.k (.int 0)) (.cons (.k (.int 1)) .nil))) (.cons (.v 4) .nil))) .nil))))
  .nil) .nil)
  (.cons (.iff (.cm .isIn (.v 0) (.lst (.cons (.k (.int 4)) (.cons (.k (.int 7)) .nil)))) (.cons (.asg (.n 8) (.and (.not (.call 29 (.cons (.v 5) (.cons (.tup (.cons (.k (.int 0)) (.cons (.k (.int 1)) .nil))) .nil)))) (.and (.call 29 (.cons (.v 5) (.cons (.v 6) .nil))) (.not (.call 29 (.cons (.call 39 (.cons (.v 1) .nil)) (.cons (.v 6) .nil)))))))
  (.cons (.ret (.ix (.lst (.cons (.lst (.cons (.k (.int 5)) .nil)) (.cons (.lst .nil) .nil))) (.bi .int (.cons (.v 8) .nil))))
  .nil)) .nil)
  (.cons (.iff (.and (.cm .isIn (.v 0) (.lst (.cons (.k (.int 5)) (.cons (.k (.int 8)) .nil)))) (.cm .ne (.call 39 (.cons (.v 1) .nil)) (.call 39 (.cons (.v 2) .nil)))) (.cons (.ret (.lst (.cons (.k (.int 5)) .nil)))
  .nil) .nil)
  (.cons (.ret (.lst .nil))
  .nil)))))))
/-- _law_bent -/
def s_41 : Ss := (.cons (.asg (.n 2) (.call 25 (.cons (.v 0) (.cons (.op .add (.bi .len (.cons (.v 1) .nil)) (.k (.int 1))) .nil))))
  (.cons (.asg (.n 3) (.ix (.lst (.cons (.k (.str "")) (.cons (.k (.str "Note")) (.cons (.k (.str "n")) (.cons (.k (.str "rests")) (.cons (.k (.str "silence")) .nil)))))) (.call 25 (.cons (.v 0) (.cons (.k (.int 5)) .nil)))))
  (.cons (.asg (.n 4) (.lst (.cons (.tup (.cons (.v 3) (.cons (.tup (.cons (.k (.int 1)) (.cons (.k (.int 4)) .nil))) .nil))) (.cons (.tup (.cons (.k (.str "note")) (.cons (.tup (.cons (.k (.int 0)) (.cons (.k (.int 1)) .nil))) .nil))) (.cons (.tup (.cons (.k (.str "rest")) (.cons (.tup (.cons (.k (.int 0)) (.cons (.neg (.k (.int 3))) .nil))) .nil))) (.cons (.tup (.cons (.k (.str "rest")) (.cons (.tup (.cons (.neg (.k (.int 1))) (.cons (.k (.int 4)) .nil))) .nil))) (.cons (.tup (.cons (.k (.str "note")) (.cons (.tup (.cons (.k (.int 1)) (.cons (.neg (.k (.int 4))) .nil))) .nil))) (.cons (.tup (.cons (.k (.str "note")) (.cons (.tup (.cons (.k (.int 1)) (.cons (.k (.int 0)) .nil))) .nil))) .nil))))))))
  (.cons (.asg (.n 4) (.op .add (.v 4) (.lst (.cons (.tup (.cons (.k (.str "rest")) (.cons (.tup (.cons (.k (.int 0)) (.cons (.k (.int 0)) .nil))) .nil))) (.cons (.tup (.cons (.v 3) (.cons (.tup (.cons (.neg (.k (.int 5))) (.cons (.k (.int 0)) .nil))) .nil))) (.cons (.tup (.cons (.v 3) (.cons (.tup (.cons (.k (.int 0)) (.cons (.k (.int 2)) .nil))) .nil))) (.cons (.tup (.cons (.k (.str "note")) (.cons (.tup (.cons (.neg (.k (.int 2))) (.cons (.neg (.k (.int 8))) .nil))) .nil))) .nil)))))))
  (.cons (.ret (.op .add (.op .add (.sl (.v 1) .no (.so (.v 2))) (.lst (.cons (.ix (.v 4) (.call 25 (.cons (.v 0) (.cons (.k (.int 10)) .nil)))) .nil))) (.sl (.v 1) (.so (.op .add (.v 2) (.bi .int (.cons (.cm .eq (.call 25 (.cons (.v 0) (.cons (.k (.int 2)) .nil))) (.k (.int 0))) .nil)))) .no)))
  .nil)))))
/-- _law_far -/
def s_42 : Ss := (.cons (.asg (.n 2) (.call 39 (.cons (.v 1) .nil)))
  (.cons (.asg (.n 3) (.lst (.cons (.tup (.cons (.k (.int 0)) (.cons (.k (.int 1)) .nil))) (.cons (.tup (.cons (.neg (.k (.int 1))) (.cons (.k (.int 64)) .nil))) (.cons (.v 2) (.cons (.call 27 (.cons (.v 2) (.cons (.tup (.cons (.k (.int 1)) (.cons (.k (.int 1000)) .nil))) .nil))) (.cons (.call 28 (.cons (.v 2) (.cons (.tup (.cons (.k (.int 1)) (.cons (.k (.int 2)) .nil))) .nil))) (.cons (.tup (.cons (.k (.int 0)) (.cons (.neg (.k (.int 1))) .nil))) .nil))))))))
  (.cons (.asg (.n 3) (.op .add (.v 3) (.lst (.cons (.tup (.cons (.k (.int 1)) (.cons (.k (.int 0)) .nil))) (.cons (.tup (.cons (.k (.int 0)) (.cons (.k (.int 0)) .nil))) (.cons (.tup (.cons (.k (.int 99)) (.cons (.k (.int 1)) .nil))) .nil))))))
  (.cons (.ex (.lm .append (.v 3) (.cons (.call 31 (.cons (.v 0) (.cons (.call 28 (.cons (.v 2) (.cons (.tup (.cons (.k (.int 1)) (.cons (.k (.int 3)) .nil))) .nil))) .nil))) .nil)))
  (.cons (.ret (.lc [4] (.n 4) (.rg1 (.cons (.k (.int 3)) .nil)) .no (.ix (.v 3) (.call 25 (.cons (.v 0) (.cons (.k (.int 10)) .nil))))))
  .nil)))))
/-- law -/
def s_43 : Ss := (.cons (.for (.n 1) (.rg1 (.cons (.k (.int 5)) .nil)) (.cons (.asg (.n 2) (.call 24 (.cons (.v 0) (.cons (.v 1) .nil))))
  (.cons (.asg (.n 3) (.call 34 (.cons (.v 2) (.cons (.call 33 (.cons (.v 2) (.cons (.ix (.lst (.cons (.k (.int 8)) (.cons (.k (.int 80)) .nil))) (.bi .int (.cons (.cm .eq (.v 1) (.k (.int 4))) .nil))) .nil))) .nil))))
  (.cons (.asg (.n 4) (.lst (.cons (.v 3) (.cons (.call 41 (.cons (.v 2) (.cons (.v 3) .nil))) .nil))))
  (.cons (.asg (.n 4) (.op .add (.v 4) (.lst (.cons (.call 41 (.cons (.v 2) (.cons (.ix (.v 4) (.k (.int 1))) .nil))) (.cons (.rev (.v 3)) (.cons (.call 33 (.cons (.v 2) (.cons (.k (.int 3)) .nil))) (.cons (.lst .nil) .nil)))))))
  (.cons (.for (.n 5) (.e (.v 4)) (.cons (.asg (.n 6) (.lst (.cons (.ix (.v 4) (.call 25 (.cons (.v 2) (.cons (.k (.int 6)) .nil)))) (.cons (.ix (.v 4) (.call 25 (.cons (.v 2) (.cons (.k (.int 6)) .nil)))) .nil))))
  (.cons (.for (.n 7) (.e (.op .add (.v 6) (.lst (.cons (.v 3) .nil)))) (.cons (.asg (.n 8) (.call 42 (.cons (.v 2) (.cons (.v 3) .nil))))
  (.cons (.asg (.n 9) (.lst (.cons (.bi .list (.cons (.v 5) .nil)) (.cons (.bi .list (.cons (.v 7) .nil)) .nil))))
  (.cons (.for (.n 10) (.rg1 (.cons (.k (.int 9)) .nil)) (.cons (.iff (.cm .ne (.call 36 (.cons (.v 10) (.cons (.v 5) (.cons (.v 7) (.cons (.v 8) .nil))))) (.call 40 (.cons (.v 10) (.cons (.v 5) (.cons (.v 7) (.cons (.v 8) .nil)))))) (.cons (.ret (.k (.bl false)))
  .nil) .nil)
  (.cons (.iff (.cm .ne (.lst (.cons (.v 5) (.cons (.v 7) .nil))) (.v 9)) (.cons (.ret (.k (.bl false)))
  .nil) .nil)
  .nil)))
  .nil))))
  .nil)))
  .nil))))))
  (.cons (.ret (.k (.bl true)))
  .nil))
def defs : List Df := [⟨4, [.f, .f], s_0, false⟩,
  ⟨1, [.f], s_1, false⟩,
  ⟨2, [.f, .f], s_2, false⟩,
  ⟨2, [.f, .f], s_3, false⟩,
  ⟨2, [.f, .f], s_4, false⟩,
  ⟨2, [.f, .f], s_5, false⟩,
  ⟨3, [.f], s_6, false⟩,
  ⟨3, [.f], s_7, false⟩,
  ⟨4, [.f], s_8, false⟩,
  ⟨2, [.f], s_9, false⟩,
  ⟨1, [.f], s_10, false⟩,
  ⟨4, [.f], s_11, false⟩,
  ⟨1, [.f], s_12, false⟩,
  ⟨5, [.f], s_13, false⟩,
  ⟨5, [.f], s_14, false⟩,
  ⟨5, [.f, .f], s_15, false⟩,
  ⟨11, [.f, .f], s_16, false⟩,
  ⟨4, [.f, .f], s_17, false⟩,
  ⟨6, [.f, .f], s_18, false⟩,
  ⟨1, [.f], s_19, false⟩,
  ⟨7, [.f, .f, .f], s_20, false⟩,
  ⟨6, [.f, .f, .f], s_21, false⟩,
  ⟨2, [.s, .f], s_22, false⟩,
  ⟨3, [.f, .f], s_23, false⟩,
  ⟨3, [.s, .f], s_24, false⟩,
  ⟨5, [.m, .f], s_25, false⟩,
  ⟨4, [.f, .f], s_26, false⟩,
  ⟨2, [.f, .f], s_27, false⟩,
  ⟨2, [.f, .f], s_28, false⟩,
  ⟨2, [.f, .f], s_29, false⟩,
  ⟨3, [.f], s_30, false⟩,
  ⟨3, [.m, .f], s_31, false⟩,
  ⟨4, [.f], s_32, false⟩,
  ⟨6, [.m, .f], s_33, false⟩,
  ⟨4, [.m, .f], s_34, false⟩,
  ⟨4, [.f, .f, .f, .f], s_35, false⟩,
  ⟨6, [.f, .f, .f, .f], s_36, false⟩,
  ⟨8, [.f, .f, .f, .f], s_37, false⟩,
  ⟨3, [.f], s_38, false⟩,
  ⟨3, [.f], s_39, false⟩,
  ⟨9, [.f, .f, .f, .f], s_40, false⟩,
  ⟨5, [.m, .f], s_41, false⟩,
  ⟨5, [.m, .f], s_42, false⟩,
  ⟨11, [.s], s_43, false⟩]
end K16

namespace K16
open PySem PySem.Spec L2 Mp
open PyProof.Rows hiding St
theorem b_0 : Body L N_0 f_0 false s_0 := by
  intro P w K mg base cdv A outer s H E T c W k V hpr tk0
  have tk := Mp.Takes.f tk0
  exact (dss_cons (ds_par (i := 2) (j := 3) V.nf V.calm nd_0 rfl rfl (by decide) rfl rfl (da_cons (w_bi V .abs (bi_abs) boot_abs rfl rfl (da_cons (de_v (i := 0)) da_nil)) (da_cons (w_bi V .abs (bi_abs) boot_abs rfl rfl (da_cons (de_v (i := 1)) da_nil)) da_nil)) rfl)
  (dss_cons (ds_while passX (wt_cm V .ne (de_v (i := 3)) w_int) (dss_cons (ds_par (i := 2) (j := 3) V.nf V.calm nd_0 rfl rfl (by decide) rfl rfl (da_cons (de_v (i := 3)) (da_cons (w_op V .mod (de_v (i := 2)) (de_v (i := 3))) da_nil)) rfl)
  dss_nil))
  (dss_cons (ds_if (wt_cm V .lt (de_v (i := 1)) w_int) (dss_cons (ds_set (i := 2) V.nf nd_0 rfl (Or.inl rfl) (Or.inl rfl) (w_op V .sub w_int (de_v (i := 2))))
  dss_nil) dss_nil)
  (dss_cons (ds_ret (de_tup V.nf (da_cons (w_op V .fdiv (de_v (i := 0)) (de_v (i := 2))) (da_cons (w_op V .fdiv (de_v (i := 1)) (de_v (i := 2))) da_nil))))
  dss_nil))))
theorem b_1 : Body L N_1 f_1 false s_1 := by
  intro P w K mg base cdv A outer s H E T c W k V hpr tk0
  have tk := Mp.Takes.f tk0
  exact (dss_cons (ds_if (wt_cm V .eq (de_ix V.hK (de_v (i := 0)) w_int) w_int) (dss_cons (w_rs V tk0 PySem.F.excBase_ZeroDivisionError 14 rfl 0 rfl 0 rfl rfl)
  dss_nil) dss_nil)
  (dss_cons (ds_ret (w_call V tk 0 (f := f_0) rfl rfl rfl rfl bn_0 rfl (da_cons (de_ix V.hK (de_v (i := 0)) w_int) (da_cons (de_ix V.hK (de_v (i := 0)) w_int) da_nil)) rfl))
  dss_nil))
theorem b_2 : Body L N_2 f_2 false s_2 := by
  intro P w K mg base cdv A outer s H E T c W k V hpr tk0
  have tk := Mp.Takes.f tk0
  exact (dss_cons (ds_ret (w_call V tk 0 (f := f_0) rfl rfl rfl rfl bn_0 rfl (da_cons (w_op V .add (w_op V .mul (de_ix V.hK (de_v (i := 0)) w_int) (de_ix V.hK (de_v (i := 1)) w_int)) (w_op V .mul (de_ix V.hK (de_v (i := 1)) w_int) (de_ix V.hK (de_v (i := 0)) w_int))) (da_cons (w_op V .mul (de_ix V.hK (de_v (i := 0)) w_int) (de_ix V.hK (de_v (i := 1)) w_int)) da_nil)) rfl))
  dss_nil)
theorem b_3 : Body L N_3 f_3 false s_3 := by
  intro P w K mg base cdv A outer s H E T c W k V hpr tk0
  have tk := Mp.Takes.f tk0
  exact (dss_cons (ds_ret (w_call V tk 0 (f := f_0) rfl rfl rfl rfl bn_0 rfl (da_cons (w_op V .sub (w_op V .mul (de_ix V.hK (de_v (i := 0)) w_int) (de_ix V.hK (de_v (i := 1)) w_int)) (w_op V .mul (de_ix V.hK (de_v (i := 1)) w_int) (de_ix V.hK (de_v (i := 0)) w_int))) (da_cons (w_op V .mul (de_ix V.hK (de_v (i := 0)) w_int) (de_ix V.hK (de_v (i := 1)) w_int)) da_nil)) rfl))
  dss_nil)
theorem b_4 : Body L N_4 f_4 false s_4 := by
  intro P w K mg base cdv A outer s H E T c W k V hpr tk0
  have tk := Mp.Takes.f tk0
  exact (dss_cons (ds_ret (w_call V tk 0 (f := f_0) rfl rfl rfl rfl bn_0 rfl (da_cons (w_op V .mul (de_ix V.hK (de_v (i := 0)) w_int) (de_ix V.hK (de_v (i := 1)) w_int)) (da_cons (w_op V .mul (de_ix V.hK (de_v (i := 0)) w_int) (de_ix V.hK (de_v (i := 1)) w_int)) da_nil)) rfl))
  dss_nil)
theorem b_5 : Body L N_5 f_5 false s_5 := by
  intro P w K mg base cdv A outer s H E T c W k V hpr tk0
  have tk := Mp.Takes.f tk0
  exact (dss_cons (ds_ret (w_cm V .lt (w_op V .mul (de_ix V.hK (de_v (i := 0)) w_int) (de_ix V.hK (de_v (i := 1)) w_int)) (w_op V .mul (de_ix V.hK (de_v (i := 1)) w_int) (de_ix V.hK (de_v (i := 0)) w_int))))
  dss_nil)
theorem b_6 : Body L N_6 f_6 false s_6 := by
  intro P w K mg base cdv A outer s H E T c W k V hpr tk0
  have tk := Mp.Takes.f tk0
  exact (dss_cons (ds_ret (w_lcx (t := (.t [(.n 1), (.n 2)])) (own := [("kind", 1), ("length", 2)]) V nd_6 tk0 rfl rfl (di_e V.hK (de_v (i := 0))) (blkOk_by rfl) (by decide) (fun _ _ _ _ _ V => (dg_t V.hK V.calm (dgs_cons (dg_n (i := 1) nd_6 rfl (Or.inl rfl) (Or.inr rfl)) (dgs_cons (dg_n (i := 2) nd_6 rfl (Or.inl rfl) (Or.inr rfl)) dgs_nil)))) (fun _ _ _ _ _ V => dc_nil) (fun _ _ _ _ _ _ _ _ V tk => (de_tup V.nf (da_cons (de_v (i := 1)) (da_cons (w_call V tk 1 (f := f_1) rfl rfl rfl rfl bn_1 rfl (da_cons (de_v (i := 2)) da_nil) rfl) da_nil))))))
  dss_nil)
theorem b_7 : Body L N_7 f_7 false s_7 := by
  intro P w K mg base cdv A outer s H E T c W k V hpr tk0
  have tk := Mp.Takes.f tk0
  exact (dss_cons (ds_for passX V.calm (di_e V.hK (de_v (i := 0))) (dg_t V.hK V.calm (dgs_cons (dg_n (i := 1) nd_7 rfl (Or.inl rfl) (Or.inl rfl)) (dgs_cons (dg_n (i := 2) nd_7 rfl (Or.inl rfl) (Or.inl rfl)) dgs_nil))) (dss_cons (ds_if (dt_w (dw_or (wt_cm V .notIn (de_v (i := 1)) (w_con V 0 rfl rfl)) (dw_or1 (dt_not (dt_e V.hK (w_call V tk 5 (f := f_5) rfl rfl rfl rfl bn_5 rfl (da_cons (w_con V 1 rfl rfl) (da_cons (de_v (i := 2)) da_nil)) rfl)))))) (dss_cons (w_rs V tk0 PySem.F.excBase_ValueError 5 rfl 1 rfl 1 rfl rfl)
  dss_nil) dss_nil)
  dss_nil))
  dss_nil)
theorem b_8 : Body L N_8 f_8 false s_8 := by
  intro P w K mg base cdv A outer s H E T c W k V hpr tk0
  have tk := Mp.Takes.f tk0
  exact (dss_cons (ds_set (i := 1) V.nf nd_8 rfl (Or.inl rfl) (Or.inl rfl) (de_lst V.nf da_nil))
  (dss_cons (ds_for passX V.calm (di_e V.hK (de_v (i := 0))) (dg_t V.hK V.calm (dgs_cons (dg_n (i := 2) nd_8 rfl (Or.inl rfl) (Or.inl rfl)) (dgs_cons (dg_n (i := 3) nd_8 rfl (Or.inl rfl) (Or.inl rfl)) dgs_nil))) (dss_cons (ds_if (dt_w (dw_and (wt_cm V .eq (de_v (i := 2)) w_str) (dw_and (wt_cm V .ne (de_sl V.hK (de_v (i := 1)) (do_some (de_neg w_int)) do_none) (de_lst V.nf da_nil)) (dw_and1 (wt_cm V .eq (de_ix V.hK (de_ix V.hK (de_v (i := 1)) (de_neg w_int)) w_int) w_str))))) (dss_cons (ds_set (i := 3) V.nf nd_8 rfl (Or.inl rfl) (Or.inl rfl) (w_call V tk 2 (f := f_2) rfl rfl rfl rfl bn_2 rfl (da_cons (de_ix V.hK (de_lm0 .pop V.nf F.plainAttrs_list F.slot_list_pop F.type_list_pop lm_pop (de_v (i := 1))) w_int) (da_cons (de_v (i := 3)) da_nil)) rfl))
  dss_nil) dss_nil)
  (dss_cons (ds_ex (de_lm .append V.nf F.plainAttrs_list F.slot_list_append F.type_list_append lm_append (de_v (i := 1)) (da_cons (de_tup V.nf (da_cons (de_v (i := 2)) (da_cons (de_v (i := 3)) da_nil))) da_nil)))
  dss_nil)))
  (dss_cons (ds_ret (de_v (i := 1)))
  dss_nil)))
theorem b_9 : Body L N_9 f_9 false s_9 := by
  intro P w K mg base cdv A outer s H E T c W k V hpr tk0
  have tk := Mp.Takes.f tk0
  exact (dss_cons (ds_set (i := 1) V.nf nd_9 rfl (Or.inl rfl) (Or.inl rfl) (w_call V tk 6 (f := f_6) rfl rfl rfl rfl bn_6 rfl (da_cons (de_v (i := 0)) da_nil) rfl))
  (dss_cons (ds_ex (w_call V tk 7 (f := f_7) rfl rfl rfl rfl bn_7 rfl (da_cons (de_v (i := 1)) da_nil) rfl))
  (dss_cons (ds_ret (w_call V tk 8 (f := f_8) rfl rfl rfl rfl bn_8 rfl (da_cons (de_v (i := 1)) da_nil) rfl))
  dss_nil)))
theorem b_10 : Body L N_10 f_10 false s_10 := by
  intro P w K mg base cdv A outer s H E T c W k V hpr tk0
  have tk := Mp.Takes.f tk0
  exact (dss_cons (ds_ret (w_call V tk 9 (f := f_9) rfl rfl rfl rfl bn_9 rfl (da_cons (de_v (i := 0)) da_nil) rfl))
  dss_nil)
theorem b_11 : Body L N_11 f_11 false s_11 := by
  intro P w K mg base cdv A outer s H E T c W k V hpr tk0
  have tk := Mp.Takes.f tk0
  exact (dss_cons (ds_set (i := 1) V.nf nd_11 rfl (Or.inl rfl) (Or.inl rfl) (w_con V 1 rfl rfl))
  (dss_cons (ds_for passX V.calm (di_e V.hK (de_v (i := 0))) (dg_t V.hK V.calm (dgs_cons (dg_n (i := 2) nd_11 rfl (Or.inl rfl) (Or.inl rfl)) (dgs_cons (dg_n (i := 3) nd_11 rfl (Or.inl rfl) (Or.inl rfl)) dgs_nil))) (dss_cons (ds_set (i := 1) V.nf nd_11 rfl (Or.inl rfl) (Or.inl rfl) (w_call V tk 2 (f := f_2) rfl rfl rfl rfl bn_2 rfl (da_cons (de_v (i := 1)) (da_cons (de_v (i := 3)) da_nil)) rfl))
  dss_nil))
  (dss_cons (ds_ret (de_v (i := 1)))
  dss_nil)))
theorem b_12 : Body L N_12 f_12 false s_12 := by
  intro P w K mg base cdv A outer s H E T c W k V hpr tk0
  have tk := Mp.Takes.f tk0
  exact (dss_cons (ds_ret (w_call V tk 11 (f := f_11) rfl rfl rfl rfl bn_11 rfl (da_cons (w_call V tk 9 (f := f_9) rfl rfl rfl rfl bn_9 rfl (da_cons (de_v (i := 0)) da_nil) rfl) da_nil) rfl))
  dss_nil)
theorem b_13 : Body L N_13 f_13 false s_13 := by
  intro P w K mg base cdv A outer s H E T c W k V hpr tk0
  have tk := Mp.Takes.f tk0
  exact (dss_cons (ds_set (i := 1) V.nf nd_13 rfl (Or.inl rfl) (Or.inl rfl) (de_lst V.nf da_nil))
  (dss_cons (ds_set (i := 2) V.nf nd_13 rfl (Or.inl rfl) (Or.inl rfl) (w_con V 1 rfl rfl))
  (dss_cons (ds_for passX V.calm (di_e V.hK (de_v (i := 0))) (dg_t V.hK V.calm (dgs_cons (dg_n (i := 3) nd_13 rfl (Or.inl rfl) (Or.inl rfl)) (dgs_cons (dg_n (i := 4) nd_13 rfl (Or.inl rfl) (Or.inl rfl)) dgs_nil))) (dss_cons (ds_ex (de_lm .append V.nf F.plainAttrs_list F.slot_list_append F.type_list_append lm_append (de_v (i := 1)) (da_cons (de_tup V.nf (da_cons (de_v (i := 3)) (da_cons (de_v (i := 2)) (da_cons (w_call V tk 2 (f := f_2) rfl rfl rfl rfl bn_2 rfl (da_cons (de_v (i := 2)) (da_cons (de_v (i := 4)) da_nil)) rfl) da_nil)))) da_nil)))
  (dss_cons (ds_set (i := 2) V.nf nd_13 rfl (Or.inl rfl) (Or.inl rfl) (w_call V tk 2 (f := f_2) rfl rfl rfl rfl bn_2 rfl (da_cons (de_v (i := 2)) (da_cons (de_v (i := 4)) da_nil)) rfl))
  dss_nil)))
  (dss_cons (ds_ret (de_v (i := 1)))
  dss_nil))))
theorem b_14 : Body L N_14 f_14 false s_14 := by
  intro P w K mg base cdv A outer s H E T c W k V hpr tk0
  have tk := Mp.Takes.f tk0
  exact (dss_cons (ds_set (i := 1) V.nf nd_14 rfl (Or.inl rfl) (Or.inl rfl) (de_lst V.nf da_nil))
  (dss_cons (ds_for passX V.calm (di_e V.hK (de_v (i := 0))) (dg_n (i := 2) nd_14 rfl (Or.inr rfl) (Or.inl rfl)) (dss_cons (ds_set (i := 3) V.nf nd_14 rfl (Or.inl rfl) (Or.inl rfl) (w_bi V .len (bi_len V.hK) boot_len rfl rfl (da_cons (de_lent (i := 1) (w_lc (t := (.n 4)) (own := [("other", 4)]) V nd_14 (di_e V.hK (de_v (i := 1))) (blkOk_by rfl) (by decide) (fun _ _ _ _ _ V => (dg_n (i := 4) nd_14 rfl (Or.inl rfl) (Or.inr rfl))) (fun _ _ _ _ _ V => (dc_one (dt_e V.hK (w_call V takesF 5 (f := f_5) rfl rfl rfl rfl bn_5 rfl (da_cons (de_v (i := 4)) (da_cons (de_v (i := 2)) da_nil)) rfl)))) (fun _ _ _ _ _ V => (de_v (i := 4))))) da_nil)))
  (dss_cons (ds_if (wt_cm V .ne (de_sl V.hK (de_v (i := 1)) (do_some (de_v (i := 3))) (do_some (w_op V .add (de_v (i := 3)) w_int))) (de_lst V.nf (da_cons (de_v (i := 2)) da_nil))) (dss_cons (ds_ex (de_lm .insert V.nf F.plainAttrs_list F.slot_list_insert F.type_list_insert lm_insert (de_v (i := 1)) (da_cons (de_v (i := 3)) (da_cons (de_v (i := 2)) da_nil))))
  dss_nil) dss_nil)
  dss_nil)))
  (dss_cons (ds_ret (de_v (i := 1)))
  dss_nil)))
theorem b_15 : Body L N_15 f_15 false s_15 := by
  intro P w K mg base cdv A outer s H E T c W k V hpr tk0
  have tk := Mp.Takes.f tk0
  exact (dss_cons (w_setLc (i := 2) (t := (.n 3)) (own := [("span", 3)]) V nd_15 rfl rfl (sw_true rfl rfl rfl rfl) (di_e V.hK (de_v (i := 0))) (blkOk_by rfl) (by decide) (fun _ _ _ _ _ V => (dg_n (i := 3) nd_15 rfl (Or.inl rfl) (Or.inr rfl))) (fun _ _ _ _ _ V => (dc_one (wt_cm V .eq (de_ix V.hK (de_v (i := 3)) w_int) w_str))) (fun _ _ _ _ _ V => (de_v (i := 3))))
  (dss_cons (w_setLc (i := 4) (t := (.n 3)) (own := [("span", 3)]) V nd_15 rfl rfl (sw_true rfl rfl rfl rfl) (di_e V.hK (de_v (i := 2))) (blkOk_by rfl) (by decide) (fun _ _ _ _ _ V => (dg_n (i := 3) nd_15 rfl (Or.inl rfl) (Or.inr rfl))) (fun _ _ _ _ _ V => (dc_one (dt_w (dw_and (dt_not (dt_e V.hK (w_call V takesF 5 (f := f_5) rfl rfl rfl rfl bn_5 rfl (da_cons (de_v (i := 1)) (da_cons (de_ix V.hK (de_v (i := 3)) w_int) da_nil)) rfl))) (dw_and1 (dt_e V.hK (w_call V takesF 5 (f := f_5) rfl rfl rfl rfl bn_5 rfl (da_cons (de_v (i := 1)) (da_cons (de_ix V.hK (de_v (i := 3)) w_int) da_nil)) rfl))))))) (fun _ _ _ _ _ V => (de_v (i := 3))))
  (dss_cons (ds_ret (de_tup V.nf (da_cons (w_cm V .ne (de_v (i := 4)) (de_lst V.nf da_nil)) (da_cons (w_cm V .ne (w_lc (t := (.n 3)) (own := [("span", 3)]) V nd_15 (di_e V.hK (de_v (i := 4))) (blkOk_by rfl) (by decide) (fun _ _ _ _ _ V => (dg_n (i := 3) nd_15 rfl (Or.inl rfl) (Or.inr rfl))) (fun _ _ _ _ _ V => (dc_one (wt_cm V .eq (de_ix V.hK (de_v (i := 3)) w_int) (de_v (i := 1))))) (fun _ _ _ _ _ V => (de_v (i := 3)))) (de_lst V.nf da_nil)) da_nil))))
  dss_nil)))
theorem b_16 : Body L N_16 f_16 false s_16 := by
  intro P w K mg base cdv A outer s H E T c W k V hpr tk0
  have tk := Mp.Takes.f tk0
  exact (dss_cons (ds_set (i := 2) V.nf nd_16 rfl (Or.inl rfl) (Or.inl rfl) (w_op V .add (w_call V tk 13 (f := f_13) rfl rfl rfl rfl bn_13 rfl (da_cons (de_v (i := 0)) da_nil) rfl) (w_call V tk 13 (f := f_13) rfl rfl rfl rfl bn_13 rfl (da_cons (de_v (i := 1)) da_nil) rfl)))
  (dss_cons (ds_set (i := 3) V.nf nd_16 rfl (Or.inl rfl) (Or.inl rfl) (w_call V tk 14 (f := f_14) rfl rfl rfl rfl bn_14 rfl (da_cons (w_op V .add (w_lc (t := (.n 4)) (own := [("span", 4)]) V nd_16 (di_e V.hK (de_v (i := 2))) (blkOk_by rfl) (by decide) (fun _ _ _ _ _ V => (dg_n (i := 4) nd_16 rfl (Or.inl rfl) (Or.inr rfl))) (fun _ _ _ _ _ V => dc_nil) (fun _ _ _ _ _ V => (de_ix V.hK (de_v (i := 4)) w_int))) (w_lc (t := (.n 4)) (own := [("span", 4)]) V nd_16 (di_e V.hK (de_v (i := 2))) (blkOk_by rfl) (by decide) (fun _ _ _ _ _ V => (dg_n (i := 4) nd_16 rfl (Or.inl rfl) (Or.inr rfl))) (fun _ _ _ _ _ V => dc_nil) (fun _ _ _ _ _ V => (de_ix V.hK (de_v (i := 4)) w_int)))) da_nil) rfl))
  (dss_cons (ds_set (i := 5) V.nf nd_16 rfl (Or.inl rfl) (Or.inl rfl) (de_lst V.nf da_nil))
  (dss_cons (ds_for passX V.calm (w_zp V rfl rfl (da_cons (de_v (i := 3)) (da_cons (de_sl V.hK (de_v (i := 3)) (do_some w_int) do_none) da_nil))) (dg_t V.hK V.calm (dgs_cons (dg_n (i := 6) nd_16 rfl (Or.inl rfl) (Or.inl rfl)) (dgs_cons (dg_n (i := 7) nd_16 rfl (Or.inl rfl) (Or.inl rfl)) dgs_nil))) (dss_cons (ds_set (i := 8) V.nf nd_16 rfl (Or.inl rfl) (Or.inl rfl) (w_call V tk 3 (f := f_3) rfl rfl rfl rfl bn_3 rfl (da_cons (de_v (i := 7)) (da_cons (de_v (i := 6)) da_nil)) rfl))
  (dss_cons (ds_asgT V.nf (w_call V tk 15 (f := f_15) rfl rfl rfl rfl bn_15 rfl (da_cons (de_v (i := 2)) (da_cons (de_v (i := 6)) da_nil)) rfl) (dg_t V.hK V.calm (dgs_cons (dg_n (i := 9) nd_16 rfl (Or.inl rfl) (Or.inl rfl)) (dgs_cons (dg_n (i := 10) nd_16 rfl (Or.inl rfl) (Or.inl rfl)) dgs_nil))))
  (dss_cons (ds_if (dt_w (dw_and (dt_e V.hK (de_v (i := 9))) (dw_and1 (dt_not (dt_e V.hK (de_v (i := 10))))))) (dss_cons (ds_set (i := 8) V.nf nd_16 rfl (Or.inl rfl) (Or.inl rfl) (w_call V tk 2 (f := f_2) rfl rfl rfl rfl bn_2 rfl (da_cons (de_ix V.hK (de_lm0 .pop V.nf F.plainAttrs_list F.slot_list_pop F.type_list_pop lm_pop (de_v (i := 5))) w_int) (da_cons (de_v (i := 8)) da_nil)) rfl))
  dss_nil) dss_nil)
  (dss_cons (ds_ex (de_lm .append V.nf F.plainAttrs_list F.slot_list_append F.type_list_append lm_append (de_v (i := 5)) (da_cons (de_tup V.nf (da_cons (de_ix V.hK (de_lst V.nf (da_cons w_str (da_cons w_str da_nil))) (w_bt V .int (bi_int) boot_int rfl rfl (da_cons (de_v (i := 9)) da_nil))) (da_cons (de_v (i := 8)) da_nil))) da_nil)))
  dss_nil)))))
  (dss_cons (ds_ret (w_call V tk 8 (f := f_8) rfl rfl rfl rfl bn_8 rfl (da_cons (de_v (i := 5)) da_nil) rfl))
  dss_nil)))))
theorem b_17 : Body L N_17 f_17 false s_17 := by
  intro P w K mg base cdv A outer s H E T c W k V hpr tk0
  have tk := Mp.Takes.f tk0
  exact (dss_cons (ds_set (i := 2) V.nf nd_17 rfl (Or.inl rfl) (Or.inl rfl) (de_lst V.nf (da_cons (w_call V tk 6 (f := f_6) rfl rfl rfl rfl bn_6 rfl (da_cons (de_v (i := 0)) da_nil) rfl) (da_cons (w_call V tk 6 (f := f_6) rfl rfl rfl rfl bn_6 rfl (da_cons (de_v (i := 1)) da_nil) rfl) da_nil))))
  (dss_cons (ds_for passX V.calm (di_e V.hK (de_v (i := 2))) (dg_n (i := 3) nd_17 rfl (Or.inl rfl) (Or.inl rfl)) (dss_cons (ds_ex (w_call V tk 7 (f := f_7) rfl rfl rfl rfl bn_7 rfl (da_cons (de_v (i := 3)) da_nil) rfl))
  dss_nil))
  (dss_cons (ds_if (wt_cm V .ne (w_call V tk 11 (f := f_11) rfl rfl rfl rfl bn_11 rfl (da_cons (de_ix V.hK (de_v (i := 2)) w_int) da_nil) rfl) (w_call V tk 11 (f := f_11) rfl rfl rfl rfl bn_11 rfl (da_cons (de_ix V.hK (de_v (i := 2)) w_int) da_nil) rfl)) (dss_cons (w_rs V tk0 PySem.F.excBase_ValueError 6 rfl 2 rfl 2 rfl rfl)
  dss_nil) dss_nil)
  (dss_cons (ds_ret (w_call V tk 16 (f := f_16) rfl rfl rfl rfl bn_16 rfl (da_cons (w_call V tk 8 (f := f_8) rfl rfl rfl rfl bn_8 rfl (da_cons (de_ix V.hK (de_v (i := 2)) w_int) da_nil) rfl) (da_cons (w_call V tk 8 (f := f_8) rfl rfl rfl rfl bn_8 rfl (da_cons (de_ix V.hK (de_v (i := 2)) w_int) da_nil) rfl) da_nil)) rfl))
  dss_nil))))
theorem b_18 : Body L N_18 f_18 false s_18 := by
  intro P w K mg base cdv A outer s H E T c W k V hpr tk0
  have tk := Mp.Takes.f tk0
  exact (dss_cons (ds_set (i := 2) V.nf nd_18 rfl (Or.inr rfl) (Or.inl rfl) (w_call V tk 1 (f := f_1) rfl rfl rfl rfl bn_1 rfl (da_cons (de_v (i := 1)) da_nil) rfl))
  (dss_cons (ds_set (i := 3) V.nf nd_18 rfl (Or.inl rfl) (Or.inl rfl) (w_call V tk 9 (f := f_9) rfl rfl rfl rfl bn_9 rfl (da_cons (de_v (i := 0)) da_nil) rfl))
  (dss_cons (ds_if (dt_not (dt_e V.hK (w_call V tk 5 (f := f_5) rfl rfl rfl rfl bn_5 rfl (da_cons (w_con V 1 rfl rfl) (da_cons (de_v (i := 2)) da_nil)) rfl))) (dss_cons (w_rs V tk0 PySem.F.excBase_ValueError 6 rfl 2 rfl 2 rfl rfl)
  dss_nil) dss_nil)
  (dss_cons (ds_ret (w_lc (t := (.t [(.n 4), (.n 5)])) (own := [("kind", 4), ("length", 5)]) V nd_18 (di_e V.hK (de_v (i := 3))) (blkOk_by rfl) (by decide) (fun _ _ _ _ _ V => (dg_t V.hK V.calm (dgs_cons (dg_n (i := 4) nd_18 rfl (Or.inl rfl) (Or.inr rfl)) (dgs_cons (dg_n (i := 5) nd_18 rfl (Or.inl rfl) (Or.inr rfl)) dgs_nil)))) (fun _ _ _ _ _ V => dc_nil) (fun _ _ _ _ _ V => (de_tup V.nf (da_cons (de_v (i := 4)) (da_cons (w_call V takesF 4 (f := f_4) rfl rfl rfl rfl bn_4 rfl (da_cons (de_v (i := 5)) (da_cons (de_v (i := 2)) da_nil)) rfl) da_nil))))))
  dss_nil))))
theorem b_19 : Body L N_19 f_19 false s_19 := by
  intro P w K mg base cdv A outer s H E T c W k V hpr tk0
  have tk := Mp.Takes.f tk0
  exact (dss_cons (ds_ret (de_rev V.hK (w_call V tk 9 (f := f_9) rfl rfl rfl rfl bn_9 rfl (da_cons (de_v (i := 0)) da_nil) rfl)))
  dss_nil)
theorem b_20 : Body L N_20 f_20 false s_20 := by
  intro P w K mg base cdv A outer s H E T c W k V hpr tk0
  have tk := Mp.Takes.f tk0
  exact (dss_cons (ds_set (i := 3) V.nf nd_20 rfl (Or.inl rfl) (Or.inl rfl) (de_lst V.nf da_nil))
  (dss_cons (ds_for passX V.calm (di_e V.hK (w_call V tk 13 (f := f_13) rfl rfl rfl rfl bn_13 rfl (da_cons (de_v (i := 0)) da_nil) rfl)) (dg_t V.hK V.calm (dgs_cons (dg_n (i := 4) nd_20 rfl (Or.inl rfl) (Or.inl rfl)) (dgs_cons (dg_n (i := 5) nd_20 rfl (Or.inl rfl) (Or.inl rfl)) (dgs_cons (dg_n (i := 6) nd_20 rfl (Or.inl rfl) (Or.inl rfl)) dgs_nil)))) (dss_cons (ds_set (i := 5) V.nf nd_20 rfl (Or.inl rfl) (Or.inl rfl) (de_ite (dt_e V.hK (w_call V tk 5 (f := f_5) rfl rfl rfl rfl bn_5 rfl (da_cons (de_v (i := 5)) (da_cons (de_v (i := 1)) da_nil)) rfl)) (de_v (i := 1)) (de_v (i := 5))))
  (dss_cons (ds_set (i := 6) V.nf nd_20 rfl (Or.inl rfl) (Or.inl rfl) (de_ite (dt_e V.hK (w_call V tk 5 (f := f_5) rfl rfl rfl rfl bn_5 rfl (da_cons (de_v (i := 2)) (da_cons (de_v (i := 6)) da_nil)) rfl)) (de_v (i := 2)) (de_v (i := 6))))
  (dss_cons (ds_if (dt_e V.hK (w_call V tk 5 (f := f_5) rfl rfl rfl rfl bn_5 rfl (da_cons (de_v (i := 5)) (da_cons (de_v (i := 6)) da_nil)) rfl)) (dss_cons (ds_ex (de_lm .append V.nf F.plainAttrs_list F.slot_list_append F.type_list_append lm_append (de_v (i := 3)) (da_cons (de_tup V.nf (da_cons (de_v (i := 4)) (da_cons (w_call V tk 3 (f := f_3) rfl rfl rfl rfl bn_3 rfl (da_cons (de_v (i := 6)) (da_cons (de_v (i := 5)) da_nil)) rfl) da_nil))) da_nil)))
  dss_nil) dss_nil)
  dss_nil))))
  (dss_cons (ds_ret (de_v (i := 3)))
  dss_nil)))
theorem b_21 : Body L N_21 f_21 false s_21 := by
  intro P w K mg base cdv A outer s H E T c W k V hpr tk0
  have tk := Mp.Takes.f tk0
  exact (dss_cons (ds_set (i := 3) V.nf nd_21 rfl (Or.inl rfl) (Or.inl rfl) (w_call V tk 1 (f := f_1) rfl rfl rfl rfl bn_1 rfl (da_cons (de_v (i := 1)) da_nil) rfl))
  (dss_cons (ds_set (i := 4) V.nf nd_21 rfl (Or.inl rfl) (Or.inl rfl) (w_call V tk 1 (f := f_1) rfl rfl rfl rfl bn_1 rfl (da_cons (de_v (i := 2)) da_nil) rfl))
  (dss_cons (ds_set (i := 5) V.nf nd_21 rfl (Or.inl rfl) (Or.inl rfl) (w_call V tk 9 (f := f_9) rfl rfl rfl rfl bn_9 rfl (da_cons (de_v (i := 0)) da_nil) rfl))
  (dss_cons (ds_if (dt_w (dw_or (dt_e V.hK (w_call V tk 5 (f := f_5) rfl rfl rfl rfl bn_5 rfl (da_cons (de_v (i := 3)) (da_cons (w_con V 1 rfl rfl) da_nil)) rfl)) (dw_or (dt_not (dt_e V.hK (w_call V tk 5 (f := f_5) rfl rfl rfl rfl bn_5 rfl (da_cons (de_v (i := 3)) (da_cons (de_v (i := 4)) da_nil)) rfl))) (dw_or1 (dt_e V.hK (w_call V tk 5 (f := f_5) rfl rfl rfl rfl bn_5 rfl (da_cons (w_call V tk 11 (f := f_11) rfl rfl rfl rfl bn_11 rfl (da_cons (de_v (i := 5)) da_nil) rfl) (da_cons (de_v (i := 4)) da_nil)) rfl)))))) (dss_cons (w_rs V tk0 PySem.F.excBase_ValueError 6 rfl 2 rfl 2 rfl rfl)
  dss_nil) dss_nil)
  (dss_cons (ds_ret (w_call V tk 20 (f := f_20) rfl rfl rfl rfl bn_20 rfl (da_cons (de_v (i := 5)) (da_cons (de_v (i := 3)) (da_cons (de_v (i := 4)) da_nil))) rfl))
  dss_nil)))))
theorem b_22 : Body L N_22 f_22 false s_22 := by
  intro P w K mg base cdv A outer s H E T c W k V hpr tk0
  have tk := Mp.Takes.f tk0
  exact (dss_cons (ds_if (wt_cm V .lt (de_v (i := 1)) (de_scl (i := 0) V.hK rfl (V.fr _ rfl) boot_len)) (dss_cons (ds_ret (de_sci (i := 0) V.hK (de_v (i := 1))))
  dss_nil) dss_nil)
  (dss_cons (ds_ret w_int)
  dss_nil))
theorem b_23 : Body L N_23 f_23 false s_23 := by
  intro P w K mg base cdv A outer s H E T c W k V hpr tk0
  have tk := Mp.Takes.f tk0
  exact (dss_cons (ds_set (i := 2) V.nf nd_23 rfl (Or.inl rfl) (Or.inl rfl) (w_op V .mod (w_op V .add (w_op V .add (w_op V .add (w_op V .mul (de_v (i := 0)) w_int) (w_op V .mul (w_op V .mul w_int (de_v (i := 1))) (de_v (i := 1)))) (de_v (i := 1))) w_int) w_int))
  (dss_cons (ds_set (i := 2) V.nf nd_23 rfl (Or.inl rfl) (Or.inl rfl) (w_op V .mod (w_op V .add (w_op V .mul (de_v (i := 2)) (de_v (i := 2))) w_int) w_int))
  (dss_cons (ds_ret (w_op V .mod (w_op V .mul (de_v (i := 2)) w_int) w_int))
  dss_nil)))
theorem b_24 : Body L N_24 f_24 false s_24 := by
  intro P w K mg base cdv A outer s H E T c W k V hpr tk0
  have tk := Mp.Takes.f tk0
  exact (dss_cons (ds_set (i := 2) V.nf nd_24 rfl (Or.inl rfl) (Or.inl rfl) (w_call V tk 22 (f := f_22) rfl rfl rfl rfl bn_22 rfl (da_cons (de_v (i := 0)) (da_cons (de_v (i := 1)) da_nil)) rfl))
  (dss_cons (ds_ret (de_lst V.nf (da_cons (w_op V .mod (w_bi V .max (bi_max V.calm) boot_max rfl rfl (da_cons (w_op V .sub (de_v (i := 2)) (w_op V .pow w_int w_int)) (da_cons w_int da_nil))) (w_op V .pow (w_op V .pow w_int w_int) w_int)) (da_cons (w_op V .mod (de_v (i := 2)) w_int) (da_cons (w_op V .mul w_int (de_v (i := 1))) da_nil)))))
  dss_nil))
theorem b_25 : Body L N_25 f_25 true s_25 := by
  intro P w K mg base cdv A outer s H E T c W k V hpr tk0
  have tk := Mp.Takes.f tk0
  exact (dss_cons (ds_if (wt_cm V .gt (de_ix V.hK (de_v (i := 0)) w_int) w_int) (dss_cons (ds_set (i := 2) V.nf nd_25 rfl (Or.inl rfl) (Or.inl rfl) (w_op V .mod (de_ix V.hK (de_v (i := 0)) w_int) (de_v (i := 1))))
  (dss_cons (ds_six (i := 0) V.nf rfl (Or.inl rfl) (w_op V .fdiv (de_ix V.hK (de_v (i := 0)) w_int) (de_v (i := 1))) w_int)
  (dss_cons (ds_ret (de_v (i := 2)))
  dss_nil))) dss_nil)
  (dss_cons (ds_set (i := 3) V.nf nd_25 rfl (Or.inl rfl) (Or.inl rfl) w_int)
  (dss_cons (ds_for passX V.calm (w_rg1 V rfl rfl (da_cons (w_op V .add w_int (w_op V .fdiv (de_bits (de_v (i := 1))) w_int)) da_nil)) (dg_n (i := 4) nd_25 rfl (Or.inl rfl) (Or.inl rfl)) (dss_cons (ds_six (i := 0) V.nf rfl (Or.inl rfl) (w_op V .add (de_ix V.hK (de_v (i := 0)) w_int) w_int) w_int)
  (dss_cons (ds_set (i := 3) V.nf nd_25 rfl (Or.inl rfl) (Or.inl rfl) (w_op V .add (w_op V .mul (de_v (i := 3)) w_int) (w_call V tk 23 (f := f_23) rfl rfl rfl rfl bn_23 rfl (da_cons (de_ix V.hK (de_v (i := 0)) w_int) (da_cons (de_ix V.hK (de_v (i := 0)) w_int) da_nil)) rfl)))
  dss_nil)))
  (dss_cons (ds_ret (w_op V .mod (de_v (i := 3)) (de_v (i := 1))))
  dss_nil))))
theorem b_26 : Body L N_26 f_26 false s_26 := by
  intro P w K mg base cdv A outer s H E T c W k V hpr tk0
  have tk := Mp.Takes.f tk0
  exact (dss_cons (ds_set (i := 2) V.nf nd_26 rfl (Or.inl rfl) (Or.inl rfl) (w_bi V .abs (bi_abs) boot_abs rfl rfl (da_cons (de_v (i := 0)) da_nil)))
  (dss_cons (ds_set (i := 3) V.nf nd_26 rfl (Or.inl rfl) (Or.inl rfl) (w_bi V .abs (bi_abs) boot_abs rfl rfl (da_cons (de_v (i := 1)) da_nil)))
  (dss_cons (ds_while passX (wt_cm V .ne (de_v (i := 3)) w_int) (dss_cons (ds_par (i := 2) (j := 3) V.nf V.calm nd_26 rfl rfl (by decide) rfl rfl (da_cons (de_v (i := 3)) (da_cons (w_op V .mod (de_v (i := 2)) (de_v (i := 3))) da_nil)) rfl)
  dss_nil))
  (dss_cons (ds_if (wt_cm V .lt (de_v (i := 1)) w_int) (dss_cons (ds_set (i := 2) V.nf nd_26 rfl (Or.inl rfl) (Or.inl rfl) (w_op V .sub w_int (de_v (i := 2))))
  dss_nil) dss_nil)
  (dss_cons (ds_ret (de_tup V.nf (da_cons (w_op V .fdiv (de_v (i := 0)) (de_v (i := 2))) (da_cons (w_op V .fdiv (de_v (i := 1)) (de_v (i := 2))) da_nil))))
  dss_nil)))))
theorem b_27 : Body L N_27 f_27 false s_27 := by
  intro P w K mg base cdv A outer s H E T c W k V hpr tk0
  have tk := Mp.Takes.f tk0
  exact (dss_cons (ds_ret (w_call V tk 26 (f := f_26) rfl rfl rfl rfl bn_26 rfl (da_cons (w_op V .add (w_op V .mul (de_ix V.hK (de_v (i := 0)) w_int) (de_ix V.hK (de_v (i := 1)) w_int)) (w_op V .mul (de_ix V.hK (de_v (i := 1)) w_int) (de_ix V.hK (de_v (i := 0)) w_int))) (da_cons (w_op V .mul (de_ix V.hK (de_v (i := 0)) w_int) (de_ix V.hK (de_v (i := 1)) w_int)) da_nil)) rfl))
  dss_nil)
theorem b_28 : Body L N_28 f_28 false s_28 := by
  intro P w K mg base cdv A outer s H E T c W k V hpr tk0
  have tk := Mp.Takes.f tk0
  exact (dss_cons (ds_ret (w_call V tk 26 (f := f_26) rfl rfl rfl rfl bn_26 rfl (da_cons (w_op V .mul (de_ix V.hK (de_v (i := 0)) w_int) (de_ix V.hK (de_v (i := 1)) w_int)) (da_cons (w_op V .mul (de_ix V.hK (de_v (i := 0)) w_int) (de_ix V.hK (de_v (i := 1)) w_int)) da_nil)) rfl))
  dss_nil)
theorem b_29 : Body L N_29 f_29 false s_29 := by
  intro P w K mg base cdv A outer s H E T c W k V hpr tk0
  have tk := Mp.Takes.f tk0
  exact (dss_cons (ds_ret (w_cm V .lt (w_op V .mul (de_ix V.hK (de_v (i := 0)) w_int) (de_ix V.hK (de_v (i := 1)) w_int)) (w_op V .mul (de_ix V.hK (de_v (i := 1)) w_int) (de_ix V.hK (de_v (i := 0)) w_int))))
  dss_nil)
theorem b_30 : Body L N_30 f_30 false s_30 := by
  intro P w K mg base cdv A outer s H E T c W k V hpr tk0
  have tk := Mp.Takes.f tk0
  exact (dss_cons (ds_set (i := 1) V.nf nd_30 rfl (Or.inl rfl) (Or.inl rfl) (de_tup V.nf (da_cons w_int (da_cons w_int da_nil))))
  (dss_cons (ds_for passX V.calm (di_e V.hK (de_v (i := 0))) (dg_n (i := 2) nd_30 rfl (Or.inl rfl) (Or.inl rfl)) (dss_cons (ds_set (i := 1) V.nf nd_30 rfl (Or.inl rfl) (Or.inl rfl) (w_call V tk 27 (f := f_27) rfl rfl rfl rfl bn_27 rfl (da_cons (de_v (i := 1)) (da_cons (de_v (i := 2)) da_nil)) rfl))
  dss_nil))
  (dss_cons (ds_ret (de_v (i := 1)))
  dss_nil)))
theorem b_31 : Body L N_31 f_31 true s_31 := by
  intro P w K mg base cdv A outer s H E T c W k V hpr tk0
  have tk := Mp.Takes.f tk0
  exact (dss_cons (ds_set (i := 2) V.nf nd_31 rfl (Or.inl rfl) (Or.inl rfl) (de_ix V.hK (de_lst V.nf (da_cons w_int (da_cons w_int (da_cons (de_neg w_int) (da_cons w_int (da_cons (de_neg w_int) da_nil)))))) (w_call V tk 25 (f := f_25) rfl rfl rfl rfl bn_25 rfl (da_cons (de_v (i := 0)) (da_cons w_int da_nil)) rfl)))
  (dss_cons (ds_ret (de_tup V.nf (da_cons (w_op V .mul (de_ix V.hK (de_v (i := 1)) w_int) (de_v (i := 2))) (da_cons (w_op V .mul (de_ix V.hK (de_v (i := 1)) w_int) (de_v (i := 2))) da_nil))))
  dss_nil))
theorem b_32 : Body L N_32 f_32 false s_32 := by
  intro P w K mg base cdv A outer s H E T c W k V hpr tk0
  have tk := Mp.Takes.f tk0
  exact (dss_cons (ds_set (i := 1) V.nf nd_32 rfl (Or.inr rfl) (Or.inl rfl) (de_lst V.nf (da_cons (w_isiC V 16 rfl (List.mem_of_getElem? (i := 16) rfl) (de_v (i := 0)) rfl rfl rfl) (da_cons (w_isiC V 15 rfl (List.mem_of_getElem? (i := 15) rfl) (de_v (i := 0)) rfl rfl rfl) (da_cons (w_isiC V 14 rfl (List.mem_of_getElem? (i := 14) rfl) (de_v (i := 0)) rfl rfl rfl) (da_cons (w_isiC V 13 rfl (List.mem_of_getElem? (i := 13) rfl) (de_v (i := 0)) rfl rfl rfl) da_nil))))))
  (dss_cons (ds_set (i := 1) V.nf nd_32 rfl (Or.inr rfl) (Or.inl rfl) (w_op V .add (de_v (i := 1)) (de_lst V.nf (da_cons (w_isiC V 12 rfl (List.mem_of_getElem? (i := 1) rfl) (de_v (i := 0)) rfl rfl rfl) (da_cons (w_isiC V 11 rfl (List.mem_of_getElem? (i := 2) rfl) (de_v (i := 0)) rfl rfl rfl) (da_cons (w_isiC V 10 rfl (List.mem_of_getElem? (i := 12) rfl) (de_v (i := 0)) rfl rfl rfl) (da_cons (w_isiC V 9 rfl (List.mem_of_getElem? (i := 11) rfl) (de_v (i := 0)) rfl rfl rfl) da_nil)))))))
  (dss_cons (ds_set (i := 1) V.nf nd_32 rfl (Or.inr rfl) (Or.inl rfl) (w_op V .add (de_v (i := 1)) (de_lst V.nf (da_cons (w_isiC V 8 rfl (List.mem_of_getElem? (i := 10) rfl) (de_v (i := 0)) rfl rfl rfl) (da_cons (w_isiC V 7 rfl (List.mem_of_getElem? (i := 9) rfl) (de_v (i := 0)) rfl rfl rfl) (da_cons (w_isiC V 6 rfl (List.mem_of_getElem? (i := 8) rfl) (de_v (i := 0)) rfl rfl rfl) (da_cons (w_isiC V 5 rfl (List.mem_of_getElem? (i := 7) rfl) (de_v (i := 0)) rfl rfl rfl) da_nil)))))))
  (dss_cons (ds_set (i := 1) V.nf nd_32 rfl (Or.inr rfl) (Or.inl rfl) (w_op V .add (de_v (i := 1)) (de_lst V.nf (da_cons (w_isiC V 4 rfl (List.mem_of_getElem? (i := 6) rfl) (de_v (i := 0)) rfl rfl rfl) (da_cons (w_isiC V 3 rfl (List.mem_of_getElem? (i := 0) rfl) (de_v (i := 0)) rfl rfl rfl) (da_cons (w_isiC V 2 rfl (List.mem_of_getElem? (i := 5) rfl) (de_v (i := 0)) rfl rfl rfl) (da_cons (w_isiC V 1 rfl (List.mem_of_getElem? (i := 4) rfl) (de_v (i := 0)) rfl rfl rfl) da_nil)))))))
  (dss_cons (w_setLc (i := 2) (t := (.n 3)) (own := [("_law_k", 3)]) V nd_32 rfl rfl (sw_true rfl rfl rfl rfl) (w_rg1 V rfl rfl (da_cons w_int da_nil)) (blkOk_by rfl) (by decide) (fun _ _ _ _ _ V => (dg_n (i := 3) nd_32 rfl (Or.inl rfl) (Or.inr rfl))) (fun _ _ _ _ _ V => (dc_one (dt_e V.hK (de_ix V.hK (de_v (i := 1)) (de_v (i := 3)))))) (fun _ _ _ _ _ V => (de_v (i := 3))))
  (dss_cons (ds_if (dt_w (dw_and (wt_cm V .notN (de_v (i := 0)) w_non) (dw_and1 (wt_cm V .eq (de_v (i := 2)) (de_lst V.nf da_nil))))) (dss_cons (ds_ret (de_lst V.nf (da_cons w_int da_nil)))
  dss_nil) dss_nil)
  (dss_cons (ds_if (wt_cm V .ne (w_isiC V 0 rfl (List.mem_of_getElem? (i := 3) rfl) (de_v (i := 0)) rfl rfl rfl) (de_and V.hK (w_cm V .ne (de_v (i := 2)) (de_lst V.nf da_nil)) (de_one (w_cm V .lt (de_ix V.hK (de_v (i := 2)) w_int) w_int)))) (dss_cons (ds_ret (de_lst V.nf (da_cons w_int da_nil)))
  dss_nil) dss_nil)
  (dss_cons (ds_ret (de_v (i := 2)))
  dss_nil))))))))
theorem b_33 : Body L N_33 f_33 true s_33 := by
  intro P w K mg base cdv A outer s H E T c W k V hpr tk0
  have tk := Mp.Takes.f tk0
  exact (dss_cons (ds_set (i := 2) V.nf nd_33 rfl (Or.inl rfl) (Or.inl rfl) (de_lst V.nf da_nil))
  (dss_cons (ds_for passX V.calm (w_rg1 V rfl rfl (da_cons (w_call V tk 25 (f := f_25) rfl rfl rfl rfl bn_25 rfl (da_cons (de_v (i := 0)) (da_cons (w_op V .add (de_v (i := 1)) w_int) da_nil)) rfl) da_nil)) (dg_n (i := 3) nd_33 rfl (Or.inl rfl) (Or.inl rfl)) (dss_cons (ds_set (i := 4) V.nf nd_33 rfl (Or.inl rfl) (Or.inl rfl) (de_ix V.hK (de_lst V.nf (da_cons w_int (da_cons w_int (da_cons w_int (da_cons w_int (da_cons w_int (da_cons w_int (da_cons w_int (da_cons w_int (da_cons w_int (da_cons w_int da_nil))))))))))) (w_call V tk 25 (f := f_25) rfl rfl rfl rfl bn_25 rfl (da_cons (de_v (i := 0)) (da_cons w_int da_nil)) rfl)))
  (dss_cons (ds_set (i := 5) V.nf nd_33 rfl (Or.inl rfl) (Or.inl rfl) (w_call V tk 26 (f := f_26) rfl rfl rfl rfl bn_26 rfl (da_cons (w_op V .add w_int (w_call V tk 25 (f := f_25) rfl rfl rfl rfl bn_25 rfl (da_cons (de_v (i := 0)) (da_cons (de_ix V.hK (de_lst V.nf (da_cons w_int (da_cons w_int (da_cons w_int da_nil)))) (w_call V tk 25 (f := f_25) rfl rfl rfl rfl bn_25 rfl (da_cons (de_v (i := 0)) (da_cons w_int da_nil)) rfl)) da_nil)) rfl)) (da_cons (de_v (i := 4)) da_nil)) rfl))
  (dss_cons (ds_ex (de_lm .append V.nf F.plainAttrs_list F.slot_list_append F.type_list_append lm_append (de_v (i := 2)) (da_cons (de_tup V.nf (da_cons (de_ix V.hK (de_lst V.nf (da_cons w_str (da_cons w_str (da_cons w_str da_nil)))) (w_call V tk 25 (f := f_25) rfl rfl rfl rfl bn_25 rfl (da_cons (de_v (i := 0)) (da_cons w_int da_nil)) rfl)) (da_cons (de_v (i := 5)) da_nil))) da_nil)))
  dss_nil))))
  (dss_cons (ds_ret (de_v (i := 2)))
  dss_nil)))
theorem b_34 : Body L N_34 f_34 true s_34 := by
  intro P w K mg base cdv A outer s H E T c W k V hpr tk0
  have tk := Mp.Takes.f tk0
  exact (dss_cons (ds_ret (w_lc (t := (.t [(.n 2), (.n 3)])) (own := [("_law_word", 2), ("_law_long", 3)]) V nd_34 (di_e V.hK (de_v (i := 1))) (blkOk_by rfl) (by decide) (fun _ _ _ _ _ V => (dg_t V.hK V.calm (dgs_cons (dg_n (i := 2) nd_34 rfl (Or.inl rfl) (Or.inr rfl)) (dgs_cons (dg_n (i := 3) nd_34 rfl (Or.inl rfl) (Or.inr rfl)) dgs_nil)))) (fun _ _ _ _ _ V => dc_nil) (fun _ _ _ _ _ V => (de_tup V.nf (da_cons (de_v (i := 2)) (da_cons (w_call V takesF 31 (f := f_31) rfl rfl rfl rfl bn_31 rfl (da_cons (de_v (i := 0)) (da_cons (de_v (i := 3)) da_nil)) rfl) da_nil))))))
  dss_nil)
theorem b_35 : Body L N_35 f_35 false s_35 := by
  intro P w K mg base cdv A outer s H E T c W k V hpr tk0
  have tk := Mp.Takes.f tk0
  exact (dss_cons (ds_if (wt_cm V .eq (de_v (i := 0)) w_int) (dss_cons (ds_ex (w_call V tk 10 (f := f_10) rfl rfl rfl rfl bn_10 rfl (da_cons (de_v (i := 1)) da_nil) rfl))
  dss_nil) (dss_cons (ds_if (wt_cm V .eq (de_v (i := 0)) w_int) (dss_cons (ds_ex (w_call V tk 12 (f := f_12) rfl rfl rfl rfl bn_12 rfl (da_cons (de_v (i := 1)) da_nil) rfl))
  dss_nil) (dss_cons (ds_if (wt_cm V .eq (de_v (i := 0)) w_int) (dss_cons (ds_ex (w_call V tk 19 (f := f_19) rfl rfl rfl rfl bn_19 rfl (da_cons (de_v (i := 1)) da_nil) rfl))
  dss_nil) (dss_cons (ds_if (wt_cm V .eq (de_v (i := 0)) w_int) (dss_cons (ds_ex (w_call V tk 18 (f := f_18) rfl rfl rfl rfl bn_18 rfl (da_cons (de_v (i := 1)) (da_cons (de_ix V.hK (de_v (i := 3)) w_int) da_nil)) rfl))
  dss_nil) (dss_cons (ds_if (wt_cm V .eq (de_v (i := 0)) w_int) (dss_cons (ds_ex (w_call V tk 21 (f := f_21) rfl rfl rfl rfl bn_21 rfl (da_cons (de_v (i := 1)) (da_cons (de_ix V.hK (de_v (i := 3)) w_int) (da_cons (de_ix V.hK (de_v (i := 3)) w_int) da_nil))) rfl))
  dss_nil) (dss_cons (ds_if (wt_cm V .eq (de_v (i := 0)) w_int) (dss_cons (ds_ex (w_call V tk 17 (f := f_17) rfl rfl rfl rfl bn_17 rfl (da_cons (de_v (i := 1)) (da_cons (de_v (i := 2)) da_nil)) rfl))
  dss_nil) (dss_cons (ds_if (wt_cm V .eq (de_v (i := 0)) w_int) (dss_cons (ds_ex (w_callK0 V tk 18 (f := f_18) rfl rfl rfl rfl bn_18 bk_0 rfl (dk_cons (de_v (i := 1)) (dk_cons (de_ix V.hK (de_v (i := 3)) w_int) dk_nil)) rfl rfl))
  dss_nil) (dss_cons (ds_if (wt_cm V .eq (de_v (i := 0)) w_int) (dss_cons (ds_ex (w_callK0 V tk 21 (f := f_21) rfl rfl rfl rfl bn_21 bk_1 rfl (dk_cons (de_ix V.hK (de_v (i := 3)) w_int) (dk_cons (de_ix V.hK (de_v (i := 3)) w_int) (dk_cons (de_v (i := 1)) dk_nil))) rfl rfl))
  dss_nil) (dss_cons (ds_ex (w_callK0 V tk 17 (f := f_17) rfl rfl rfl rfl bn_17 bk_2 rfl (dk_cons (de_v (i := 2)) (dk_cons (de_v (i := 1)) dk_nil)) rfl rfl))
  dss_nil))
  dss_nil))
  dss_nil))
  dss_nil))
  dss_nil))
  dss_nil))
  dss_nil))
  dss_nil))
  dss_nil)
theorem b_36 : Body L N_36 f_36 false s_36 := by
  intro P w K mg base cdv A outer s H E T c W k V hpr tk0
  have tk := Mp.Takes.f tk0
  exact (dss_cons (ds_set (i := 4) V.nf nd_36 rfl (Or.inl rfl) (Or.inl rfl) w_non)
  (dss_cons (w_try V rfl rfl (fun W _ _ tk0 px V => have tk := Mp.Takes.f tk0; (dss_cons (ds_ex (w_call V tk 35 (f := f_35) rfl rfl rfl rfl bn_35 rfl (da_cons (de_v (i := 0)) (da_cons (de_v (i := 1)) (da_cons (de_v (i := 2)) (da_cons (de_v (i := 3)) da_nil)))) rfl))
  dss_nil)) (w_keep (i := 5) (j := 4) (cs := [0, 1, 2, 3, 4, 5, 6, 7, 8, 9, 10, 11, 12, 13]) V rfl rfl rfl nd_36 rfl rfl rfl rfl 4 rfl 3 rfl rfl (w_keep (i := 5) (j := 4) (cs := [14]) V rfl rfl rfl nd_36 rfl rfl rfl rfl 3 rfl 0 rfl rfl (hok_nil rfl rfl tk0))))
  (dss_cons (ds_ret (w_call V tk 32 (f := f_32) rfl rfl rfl rfl bn_32 rfl (da_cons (de_v (i := 4)) da_nil) rfl))
  dss_nil)))
theorem b_37 : Body L N_37 f_37 false s_37 := by
  intro P w K mg base cdv A outer s H E T c W k V hpr tk0
  have tk := Mp.Takes.f tk0
  exact (dss_cons (w_setLc (i := 4) (t := (.t [(.n 5), (.n 6)])) (own := [("_law_word", 5), ("_law_long", 6)]) V nd_37 rfl rfl (sw_true rfl rfl rfl rfl) (di_e V.hK (de_v (i := 1))) (blkOk_by rfl) (by decide) (fun _ _ _ _ _ V => (dg_t V.hK V.calm (dgs_cons (dg_n (i := 5) nd_37 rfl (Or.inl rfl) (Or.inr rfl)) (dgs_cons (dg_n (i := 6) nd_37 rfl (Or.inl rfl) (Or.inr rfl)) dgs_nil)))) (fun _ _ _ _ _ V => dc_nil) (fun _ _ _ _ _ V => (de_v (i := 6))))
  (dss_cons (ds_if (wt_cm V .isIn (de_v (i := 0)) (de_lst V.nf (da_cons w_int (da_cons w_int da_nil)))) (dss_cons (ds_set (i := 4) V.nf nd_37 rfl (Or.inl rfl) (Or.inl rfl) (w_op V .add (de_v (i := 4)) (w_lc (t := (.t [(.n 5), (.n 6)])) (own := [("_law_word", 5), ("_law_long", 6)]) V nd_37 (di_e V.hK (de_v (i := 2))) (blkOk_by rfl) (by decide) (fun _ _ _ _ _ V => (dg_t V.hK V.calm (dgs_cons (dg_n (i := 5) nd_37 rfl (Or.inl rfl) (Or.inr rfl)) (dgs_cons (dg_n (i := 6) nd_37 rfl (Or.inl rfl) (Or.inr rfl)) dgs_nil)))) (fun _ _ _ _ _ V => dc_nil) (fun _ _ _ _ _ V => (de_v (i := 6))))))
  dss_nil) dss_nil)
  (dss_cons (ds_if (wt_cm V .isIn (de_v (i := 0)) (de_lst V.nf (da_cons w_int (da_cons w_int da_nil)))) (dss_cons (ds_ex (de_lm .append V.nf F.plainAttrs_list F.slot_list_append F.type_list_append lm_append (de_v (i := 4)) (da_cons (de_ix V.hK (de_v (i := 3)) w_int) da_nil)))
  dss_nil) dss_nil)
  (dss_cons (ds_if (wt_cm V .isIn (de_v (i := 0)) (de_lst V.nf (da_cons w_int (da_cons w_int da_nil)))) (dss_cons (ds_set (i := 4) V.nf nd_37 rfl (Or.inl rfl) (Or.inl rfl) (w_op V .add (de_v (i := 4)) (de_sl V.hK (de_v (i := 3)) (do_some w_int) do_none)))
  dss_nil) dss_nil)
  (dss_cons (ds_ret (de_lent (i := 4) (w_lc (t := (.n 7)) (own := [("_law_spot", 7)]) V nd_37 (di_e V.hK (de_v (i := 4))) (blkOk_by rfl) (by decide) (fun _ _ _ _ _ V => (dg_n (i := 7) nd_37 rfl (Or.inl rfl) (Or.inr rfl))) (fun _ _ _ _ _ V => dc_nil) (fun _ _ _ _ _ V => (de_ix V.hK (de_v (i := 7)) w_int)))))
  dss_nil)))))
theorem b_38 : Body L N_38 f_38 false s_38 := by
  intro P w K mg base cdv A outer s H E T c W k V hpr tk0
  have tk := Mp.Takes.f tk0
  exact (dss_cons (ds_for passX V.calm (di_e V.hK (de_v (i := 0))) (dg_t V.hK V.calm (dgs_cons (dg_n (i := 1) nd_38 rfl (Or.inl rfl) (Or.inl rfl)) (dgs_cons (dg_n (i := 2) nd_38 rfl (Or.inl rfl) (Or.inl rfl)) dgs_nil))) (dss_cons (ds_if (dt_w (dw_or (wt_cm V .notIn (de_v (i := 1)) (de_lst V.nf (da_cons w_str (da_cons w_str da_nil)))) (dw_or1 (dt_not (dt_e V.hK (w_call V tk 29 (f := f_29) rfl rfl rfl rfl bn_29 rfl (da_cons (de_tup V.nf (da_cons w_int (da_cons w_int da_nil))) (da_cons (w_call V tk 26 (f := f_26) rfl rfl rfl rfl bn_26 rfl (da_cons (de_ix V.hK (de_v (i := 2)) w_int) (da_cons (de_ix V.hK (de_v (i := 2)) w_int) da_nil)) rfl) da_nil)) rfl)))))) (dss_cons (ds_ret w_bl)
  dss_nil) dss_nil)
  dss_nil))
  (dss_cons (ds_ret w_bl)
  dss_nil))
theorem b_39 : Body L N_39 f_39 false s_39 := by
  intro P w K mg base cdv A outer s H E T c W k V hpr tk0
  have tk := Mp.Takes.f tk0
  exact (dss_cons (ds_ret (w_call V tk 30 (f := f_30) rfl rfl rfl rfl bn_30 rfl (da_cons (w_lc (t := (.t [(.n 1), (.n 2)])) (own := [("_law_word", 1), ("_law_long", 2)]) V nd_39 (di_e V.hK (de_v (i := 0))) (blkOk_by rfl) (by decide) (fun _ _ _ _ _ V => (dg_t V.hK V.calm (dgs_cons (dg_n (i := 1) nd_39 rfl (Or.inl rfl) (Or.inr rfl)) (dgs_cons (dg_n (i := 2) nd_39 rfl (Or.inl rfl) (Or.inr rfl)) dgs_nil)))) (fun _ _ _ _ _ V => dc_nil) (fun _ _ _ _ _ V => (w_call V takesF 26 (f := f_26) rfl rfl rfl rfl bn_26 rfl (da_cons (de_ix V.hK (de_v (i := 2)) w_int) (da_cons (de_ix V.hK (de_v (i := 2)) w_int) da_nil)) rfl))) da_nil) rfl))
  dss_nil)
theorem b_40 : Body L N_40 f_40 false s_40 := by
  intro P w K mg base cdv A outer s H E T c W k V hpr tk0
  have tk := Mp.Takes.f tk0
  exact (dss_cons (ds_if (wt_cm V .isIn w_int (w_call V tk 37 (f := f_37) rfl rfl rfl rfl bn_37 rfl (da_cons (de_v (i := 0)) (da_cons (de_v (i := 1)) (da_cons (de_v (i := 2)) (da_cons (de_v (i := 3)) da_nil)))) rfl)) (dss_cons (ds_ret (de_lst V.nf (da_cons w_int da_nil)))
  dss_nil) dss_nil)
  (dss_cons (ds_if (dt_w (dw_or (dt_not (dt_e V.hK (w_call V tk 38 (f := f_38) rfl rfl rfl rfl bn_38 rfl (da_cons (de_v (i := 1)) da_nil) rfl))) (dw_or1 (dt_w (dw_and (wt_cm V .isIn (de_v (i := 0)) (de_lst V.nf (da_cons w_int (da_cons w_int da_nil)))) (dw_and1 (dt_not (dt_e V.hK (w_call V tk 38 (f := f_38) rfl rfl rfl rfl bn_38 rfl (da_cons (de_v (i := 2)) da_nil) rfl))))))))) (dss_cons (ds_ret (de_lst V.nf (da_cons w_int da_nil)))
  dss_nil) dss_nil)
  (dss_cons (ds_asgT V.nf (w_lc (t := (.n 7)) (own := [("_law_spot", 7)]) V nd_40 (di_e V.hK (de_v (i := 3))) (blkOk_by rfl) (by decide) (fun _ _ _ _ _ V => (dg_n (i := 7) nd_40 rfl (Or.inl rfl) (Or.inr rfl))) (fun _ _ _ _ _ V => dc_nil) (fun _ _ _ _ _ V => (w_call V takesF 26 (f := f_26) rfl rfl rfl rfl bn_26 rfl (da_cons (de_ix V.hK (de_v (i := 7)) w_int) (da_cons (w_op V .add (de_ix V.hK (de_v (i := 7)) w_int) (w_bt V .int (bi_int) boot_int rfl rfl (da_cons (w_cm V .eq (de_ix V.hK (de_v (i := 7)) w_int) w_int) da_nil))) da_nil)) rfl))) (dg_t V.hK V.calm (dgs_cons (dg_n (i := 4) nd_40 rfl (Or.inl rfl) (Or.inl rfl)) (dgs_cons (dg_n (i := 5) nd_40 rfl (Or.inl rfl) (Or.inl rfl)) (dgs_cons (dg_n (i := 6) nd_40 rfl (Or.inl rfl) (Or.inl rfl)) dgs_nil)))))
  (dss_cons (ds_if (wt_cm V .isIn (de_v (i := 0)) (de_lst V.nf (da_cons w_int (da_cons w_int da_nil)))) (dss_cons (ds_ret (de_ix V.hK (de_lst V.nf (da_cons (de_lst V.nf (da_cons w_int da_nil)) (da_cons (de_lst V.nf da_nil) da_nil))) (w_bt V .int (bi_int) boot_int rfl rfl (da_cons (w_call V tk 29 (f := f_29) rfl rfl rfl rfl bn_29 rfl (da_cons (de_tup V.nf (da_cons w_int (da_cons w_int da_nil))) (da_cons (de_v (i := 4)) da_nil)) rfl) da_nil))))
  dss_nil) dss_nil)
  (dss_cons (ds_if (wt_cm V .isIn (de_v (i := 0)) (de_lst V.nf (da_cons w_int (da_cons w_int da_nil)))) (dss_cons (ds_set (i := 8) V.nf nd_40 rfl (Or.inl rfl) (Or.inl rfl) (de_and V.hK (de_not V.hK (w_call V tk 29 (f := f_29) rfl rfl rfl rfl bn_29 rfl (da_cons (de_v (i := 5)) (da_cons (de_tup V.nf (da_cons w_int (da_cons w_int da_nil))) da_nil)) rfl)) (de_and V.hK (w_call V tk 29 (f := f_29) rfl rfl rfl rfl bn_29 rfl (da_cons (de_v (i := 5)) (da_cons (de_v (i := 6)) da_nil)) rfl) (de_one (de_not V.hK (w_call V tk 29 (f := f_29) rfl rfl rfl rfl bn_29 rfl (da_cons (w_call V tk 39 (f := f_39) rfl rfl rfl rfl bn_39 rfl (da_cons (de_v (i := 1)) da_nil) rfl) (da_cons (de_v (i := 6)) da_nil)) rfl))))))
  (dss_cons (ds_ret (de_ix V.hK (de_lst V.nf (da_cons (de_lst V.nf (da_cons w_int da_nil)) (da_cons (de_lst V.nf da_nil) da_nil))) (w_bt V .int (bi_int) boot_int rfl rfl (da_cons (de_v (i := 8)) da_nil))))
  dss_nil)) dss_nil)
  (dss_cons (ds_if (dt_w (dw_and (wt_cm V .isIn (de_v (i := 0)) (de_lst V.nf (da_cons w_int (da_cons w_int da_nil)))) (dw_and1 (wt_cm V .ne (w_call V tk 39 (f := f_39) rfl rfl rfl rfl bn_39 rfl (da_cons (de_v (i := 1)) da_nil) rfl) (w_call V tk 39 (f := f_39) rfl rfl rfl rfl bn_39 rfl (da_cons (de_v (i := 2)) da_nil) rfl))))) (dss_cons (ds_ret (de_lst V.nf (da_cons w_int da_nil)))
  dss_nil) dss_nil)
  (dss_cons (ds_ret (de_lst V.nf da_nil))
  dss_nil)))))))
theorem b_41 : Body L N_41 f_41 true s_41 := by
  intro P w K mg base cdv A outer s H E T c W k V hpr tk0
  have tk := Mp.Takes.f tk0
  exact (dss_cons (ds_set (i := 2) V.nf nd_41 rfl (Or.inl rfl) (Or.inl rfl) (w_call V tk 25 (f := f_25) rfl rfl rfl rfl bn_25 rfl (da_cons (de_v (i := 0)) (da_cons (w_op V .add (w_bi V .len (bi_len V.hK) boot_len rfl rfl (da_cons (de_v (i := 1)) da_nil)) w_int) da_nil)) rfl))
  (dss_cons (ds_set (i := 3) V.nf nd_41 rfl (Or.inl rfl) (Or.inl rfl) (de_ix V.hK (de_lst V.nf (da_cons w_str (da_cons w_str (da_cons w_str (da_cons w_str (da_cons w_str da_nil)))))) (w_call V tk 25 (f := f_25) rfl rfl rfl rfl bn_25 rfl (da_cons (de_v (i := 0)) (da_cons w_int da_nil)) rfl)))
  (dss_cons (ds_set (i := 4) V.nf nd_41 rfl (Or.inl rfl) (Or.inl rfl) (de_lst V.nf (da_cons (de_tup V.nf (da_cons (de_v (i := 3)) (da_cons (de_tup V.nf (da_cons w_int (da_cons w_int da_nil))) da_nil))) (da_cons (de_tup V.nf (da_cons w_str (da_cons (de_tup V.nf (da_cons w_int (da_cons w_int da_nil))) da_nil))) (da_cons (de_tup V.nf (da_cons w_str (da_cons (de_tup V.nf (da_cons w_int (da_cons (de_neg w_int) da_nil))) da_nil))) (da_cons (de_tup V.nf (da_cons w_str (da_cons (de_tup V.nf (da_cons (de_neg w_int) (da_cons w_int da_nil))) da_nil))) (da_cons (de_tup V.nf (da_cons w_str (da_cons (de_tup V.nf (da_cons w_int (da_cons (de_neg w_int) da_nil))) da_nil))) (da_cons (de_tup V.nf (da_cons w_str (da_cons (de_tup V.nf (da_cons w_int (da_cons w_int da_nil))) da_nil))) da_nil))))))))
  (dss_cons (ds_set (i := 4) V.nf nd_41 rfl (Or.inl rfl) (Or.inl rfl) (w_op V .add (de_v (i := 4)) (de_lst V.nf (da_cons (de_tup V.nf (da_cons w_str (da_cons (de_tup V.nf (da_cons w_int (da_cons w_int da_nil))) da_nil))) (da_cons (de_tup V.nf (da_cons (de_v (i := 3)) (da_cons (de_tup V.nf (da_cons (de_neg w_int) (da_cons w_int da_nil))) da_nil))) (da_cons (de_tup V.nf (da_cons (de_v (i := 3)) (da_cons (de_tup V.nf (da_cons w_int (da_cons w_int da_nil))) da_nil))) (da_cons (de_tup V.nf (da_cons w_str (da_cons (de_tup V.nf (da_cons (de_neg w_int) (da_cons (de_neg w_int) da_nil))) da_nil))) da_nil)))))))
  (dss_cons (ds_ret (w_op V .add (w_op V .add (de_sl V.hK (de_v (i := 1)) do_none (do_some (de_v (i := 2)))) (de_lst V.nf (da_cons (de_ix V.hK (de_v (i := 4)) (w_call V tk 25 (f := f_25) rfl rfl rfl rfl bn_25 rfl (da_cons (de_v (i := 0)) (da_cons w_int da_nil)) rfl)) da_nil))) (de_sl V.hK (de_v (i := 1)) (do_some (w_op V .add (de_v (i := 2)) (w_bt V .int (bi_int) boot_int rfl rfl (da_cons (w_cm V .eq (w_call V tk 25 (f := f_25) rfl rfl rfl rfl bn_25 rfl (da_cons (de_v (i := 0)) (da_cons w_int da_nil)) rfl) w_int) da_nil)))) do_none)))
  dss_nil)))))
theorem b_42 : Body L N_42 f_42 true s_42 := by
  intro P w K mg base cdv A outer s H E T c W k V hpr tk0
  have tk := Mp.Takes.f tk0
  exact (dss_cons (ds_set (i := 2) V.nf nd_42 rfl (Or.inl rfl) (Or.inl rfl) (w_call V tk 39 (f := f_39) rfl rfl rfl rfl bn_39 rfl (da_cons (de_v (i := 1)) da_nil) rfl))
  (dss_cons (ds_set (i := 3) V.nf nd_42 rfl (Or.inr rfl) (Or.inl rfl) (de_lst V.nf (da_cons (de_tup V.nf (da_cons w_int (da_cons w_int da_nil))) (da_cons (de_tup V.nf (da_cons (de_neg w_int) (da_cons w_int da_nil))) (da_cons (de_v (i := 2)) (da_cons (w_call V tk 27 (f := f_27) rfl rfl rfl rfl bn_27 rfl (da_cons (de_v (i := 2)) (da_cons (de_tup V.nf (da_cons w_int (da_cons w_int da_nil))) da_nil)) rfl) (da_cons (w_call V tk 28 (f := f_28) rfl rfl rfl rfl bn_28 rfl (da_cons (de_v (i := 2)) (da_cons (de_tup V.nf (da_cons w_int (da_cons w_int da_nil))) da_nil)) rfl) (da_cons (de_tup V.nf (da_cons w_int (da_cons (de_neg w_int) da_nil))) da_nil))))))))
  (dss_cons (ds_set (i := 3) V.nf nd_42 rfl (Or.inr rfl) (Or.inl rfl) (w_op V .add (de_v (i := 3)) (de_lst V.nf (da_cons (de_tup V.nf (da_cons w_int (da_cons w_int da_nil))) (da_cons (de_tup V.nf (da_cons w_int (da_cons w_int da_nil))) (da_cons (de_tup V.nf (da_cons w_int (da_cons w_int da_nil))) da_nil))))))
  (dss_cons (ds_ex (de_lm .append V.nf F.plainAttrs_list F.slot_list_append F.type_list_append lm_append (de_v (i := 3)) (da_cons (w_call V tk 31 (f := f_31) rfl rfl rfl rfl bn_31 rfl (da_cons (de_v (i := 0)) (da_cons (w_call V tk 28 (f := f_28) rfl rfl rfl rfl bn_28 rfl (da_cons (de_v (i := 2)) (da_cons (de_tup V.nf (da_cons w_int (da_cons w_int da_nil))) da_nil)) rfl) da_nil)) rfl) da_nil)))
  (dss_cons (ds_ret (w_lc (t := (.n 4)) (own := [("_law_k", 4)]) V nd_42 (w_rg1 V rfl rfl (da_cons w_int da_nil)) (blkOk_by rfl) (by decide) (fun _ _ _ _ _ V => (dg_n (i := 4) nd_42 rfl (Or.inl rfl) (Or.inr rfl))) (fun _ _ _ _ _ V => dc_nil) (fun _ _ _ _ _ V => (de_ix V.hK (de_v (i := 3)) (w_call V takesF 25 (f := f_25) rfl rfl rfl rfl bn_25 rfl (da_cons (de_v (i := 0)) (da_cons w_int da_nil)) rfl)))))
  dss_nil)))))
theorem b_43 : Body L N_43 f_43 false s_43 := by
  intro P w K mg base cdv A outer s H E T c W k V hpr tk0
  have tk := Mp.Takes.f tk0
  exact (dss_cons (ds_for passX V.calm (w_rg1 V rfl rfl (da_cons w_int da_nil)) (dg_n (i := 1) nd_43 rfl (Or.inl rfl) (Or.inl rfl)) (dss_cons (ds_set (i := 2) V.nf nd_43 rfl (Or.inl rfl) (Or.inl rfl) (w_call V tk 24 (f := f_24) rfl rfl rfl rfl bn_24 rfl (da_cons (de_v (i := 0)) (da_cons (de_v (i := 1)) da_nil)) rfl))
  (dss_cons (ds_set (i := 3) V.nf nd_43 rfl (Or.inl rfl) (Or.inl rfl) (w_call V tk 34 (f := f_34) rfl rfl rfl rfl bn_34 rfl (da_cons (de_v (i := 2)) (da_cons (w_call V tk 33 (f := f_33) rfl rfl rfl rfl bn_33 rfl (da_cons (de_v (i := 2)) (da_cons (de_ix V.hK (de_lst V.nf (da_cons w_int (da_cons w_int da_nil))) (w_bt V .int (bi_int) boot_int rfl rfl (da_cons (w_cm V .eq (de_v (i := 1)) w_int) da_nil))) da_nil)) rfl) da_nil)) rfl))
  (dss_cons (ds_set (i := 4) V.nf nd_43 rfl (Or.inl rfl) (Or.inl rfl) (de_lst V.nf (da_cons (de_v (i := 3)) (da_cons (w_call V tk 41 (f := f_41) rfl rfl rfl rfl bn_41 rfl (da_cons (de_v (i := 2)) (da_cons (de_v (i := 3)) da_nil)) rfl) da_nil))))
  (dss_cons (ds_set (i := 4) V.nf nd_43 rfl (Or.inl rfl) (Or.inl rfl) (w_op V .add (de_v (i := 4)) (de_lst V.nf (da_cons (w_call V tk 41 (f := f_41) rfl rfl rfl rfl bn_41 rfl (da_cons (de_v (i := 2)) (da_cons (de_ix V.hK (de_v (i := 4)) w_int) da_nil)) rfl) (da_cons (de_rev V.hK (de_v (i := 3))) (da_cons (w_call V tk 33 (f := f_33) rfl rfl rfl rfl bn_33 rfl (da_cons (de_v (i := 2)) (da_cons w_int da_nil)) rfl) (da_cons (de_lst V.nf da_nil) da_nil)))))))
  (dss_cons (ds_for passX V.calm (di_e V.hK (de_v (i := 4))) (dg_n (i := 5) nd_43 rfl (Or.inl rfl) (Or.inl rfl)) (dss_cons (ds_set (i := 6) V.nf nd_43 rfl (Or.inl rfl) (Or.inl rfl) (de_lst V.nf (da_cons (de_ix V.hK (de_v (i := 4)) (w_call V tk 25 (f := f_25) rfl rfl rfl rfl bn_25 rfl (da_cons (de_v (i := 2)) (da_cons w_int da_nil)) rfl)) (da_cons (de_ix V.hK (de_v (i := 4)) (w_call V tk 25 (f := f_25) rfl rfl rfl rfl bn_25 rfl (da_cons (de_v (i := 2)) (da_cons w_int da_nil)) rfl)) da_nil))))
  (dss_cons (ds_for passX V.calm (di_e V.hK (w_op V .add (de_v (i := 6)) (de_lst V.nf (da_cons (de_v (i := 3)) da_nil)))) (dg_n (i := 7) nd_43 rfl (Or.inl rfl) (Or.inl rfl)) (dss_cons (ds_set (i := 8) V.nf nd_43 rfl (Or.inl rfl) (Or.inl rfl) (w_call V tk 42 (f := f_42) rfl rfl rfl rfl bn_42 rfl (da_cons (de_v (i := 2)) (da_cons (de_v (i := 3)) da_nil)) rfl))
  (dss_cons (ds_set (i := 9) V.nf nd_43 rfl (Or.inl rfl) (Or.inl rfl) (de_lst V.nf (da_cons (w_bt V .list (bi_list V.hK) boot_list rfl rfl (da_cons (de_v (i := 5)) da_nil)) (da_cons (w_bt V .list (bi_list V.hK) boot_list rfl rfl (da_cons (de_v (i := 7)) da_nil)) da_nil))))
  (dss_cons (ds_for passX V.calm (w_rg1 V rfl rfl (da_cons w_int da_nil)) (dg_n (i := 10) nd_43 rfl (Or.inl rfl) (Or.inl rfl)) (dss_cons (ds_if (wt_cm V .ne (w_call V tk 36 (f := f_36) rfl rfl rfl rfl bn_36 rfl (da_cons (de_v (i := 10)) (da_cons (de_v (i := 5)) (da_cons (de_v (i := 7)) (da_cons (de_v (i := 8)) da_nil)))) rfl) (w_call V tk 40 (f := f_40) rfl rfl rfl rfl bn_40 rfl (da_cons (de_v (i := 10)) (da_cons (de_v (i := 5)) (da_cons (de_v (i := 7)) (da_cons (de_v (i := 8)) da_nil)))) rfl)) (dss_cons (ds_ret w_bl)
  dss_nil) dss_nil)
  (dss_cons (ds_if (wt_cm V .ne (de_lst V.nf (da_cons (de_v (i := 5)) (da_cons (de_v (i := 7)) da_nil))) (de_v (i := 9))) (dss_cons (ds_ret w_bl)
  dss_nil) dss_nil)
  dss_nil)))
  dss_nil))))
  dss_nil)))
  dss_nil))))))
  (dss_cons (ds_ret w_bl)
  dss_nil))
end K16

namespace K16
open PySem PySem.Spec L2 Mp
open PyProof.Rows hiding St
theorem sc_0 : FnScope N_0 ["top", "bottom"] f_0.d.scope := ⟨rfl, rfl, rfl, nd_0, rfl, by decide +kernel, by decide +kernel⟩
theorem sc_1 : FnScope N_1 ["time"] f_1.d.scope := ⟨rfl, rfl, rfl, nd_1, rfl, by decide +kernel, by decide +kernel⟩
theorem sc_2 : FnScope N_2 ["one", "other"] f_2.d.scope := ⟨rfl, rfl, rfl, nd_2, rfl, by decide +kernel, by decide +kernel⟩
theorem sc_3 : FnScope N_3 ["one", "other"] f_3.d.scope := ⟨rfl, rfl, rfl, nd_3, rfl, by decide +kernel, by decide +kernel⟩
theorem sc_4 : FnScope N_4 ["one", "other"] f_4.d.scope := ⟨rfl, rfl, rfl, nd_4, rfl, by decide +kernel, by decide +kernel⟩
theorem sc_5 : FnScope N_5 ["one", "other"] f_5.d.scope := ⟨rfl, rfl, rfl, nd_5, rfl, by decide +kernel, by decide +kernel⟩
theorem sc_6 : FnScope N_6 ["row"] f_6.d.scope := ⟨rfl, rfl, rfl, nd_6, rfl, by decide +kernel, by decide +kernel⟩
theorem sc_7 : FnScope N_7 ["row"] f_7.d.scope := ⟨rfl, rfl, rfl, nd_7, rfl, by decide +kernel, by decide +kernel⟩
theorem sc_8 : FnScope N_8 ["row"] f_8.d.scope := ⟨rfl, rfl, rfl, nd_8, rfl, by decide +kernel, by decide +kernel⟩
theorem sc_9 : FnScope N_9 ["row"] f_9.d.scope := ⟨rfl, rfl, rfl, nd_9, rfl, by decide +kernel, by decide +kernel⟩
theorem sc_10 : FnScope N_10 ["row"] f_10.d.scope := ⟨rfl, rfl, rfl, nd_10, rfl, by decide +kernel, by decide +kernel⟩
theorem sc_11 : FnScope N_11 ["row"] f_11.d.scope := ⟨rfl, rfl, rfl, nd_11, rfl, by decide +kernel, by decide +kernel⟩
theorem sc_12 : FnScope N_12 ["row"] f_12.d.scope := ⟨rfl, rfl, rfl, nd_12, rfl, by decide +kernel, by decide +kernel⟩
theorem sc_13 : FnScope N_13 ["row"] f_13.d.scope := ⟨rfl, rfl, rfl, nd_13, rfl, by decide +kernel, by decide +kernel⟩
theorem sc_14 : FnScope N_14 ["some"] f_14.d.scope := ⟨rfl, rfl, rfl, nd_14, rfl, by decide +kernel, by decide +kernel⟩
theorem sc_15 : FnScope N_15 ["spans", "time"] f_15.d.scope := ⟨rfl, rfl, rfl, nd_15, rfl, by decide +kernel, by decide +kernel⟩
theorem sc_16 : FnScope N_16 ["one", "other"] f_16.d.scope := ⟨rfl, rfl, rfl, nd_16, rfl, by decide +kernel, by decide +kernel⟩
theorem sc_17 : FnScope N_17 ["one", "other"] f_17.d.scope := ⟨rfl, rfl, rfl, nd_17, rfl, by decide +kernel, by decide +kernel⟩
theorem sc_18 : FnScope N_18 ["row", "by"] f_18.d.scope := ⟨rfl, rfl, rfl, nd_18, rfl, by decide +kernel, by decide +kernel⟩
theorem sc_19 : FnScope N_19 ["row"] f_19.d.scope := ⟨rfl, rfl, rfl, nd_19, rfl, by decide +kernel, by decide +kernel⟩
theorem sc_20 : FnScope N_20 ["row", "first", "last"] f_20.d.scope := ⟨rfl, rfl, rfl, nd_20, rfl, by decide +kernel, by decide +kernel⟩
theorem sc_21 : FnScope N_21 ["row", "first", "last"] f_21.d.scope := ⟨rfl, rfl, rfl, nd_21, rfl, by decide +kernel, by decide +kernel⟩
theorem sc_22 : FnScope N_22 ["_law_script", "_law_k"] f_22.d.scope := ⟨rfl, rfl, rfl, nd_22, rfl, by decide +kernel, by decide +kernel⟩
theorem sc_23 : FnScope N_23 ["_law_cell", "_law_k"] f_23.d.scope := ⟨rfl, rfl, rfl, nd_23, rfl, by decide +kernel, by decide +kernel⟩
theorem sc_24 : FnScope N_24 ["_law_script", "_law_at_here"] f_24.d.scope := ⟨rfl, rfl, rfl, nd_24, rfl, by decide +kernel, by decide +kernel⟩
theorem sc_25 : FnScope N_25 ["_law_purse_here", "_law_out_of"] f_25.d.scope := ⟨rfl, rfl, rfl, nd_25, rfl, by decide +kernel, by decide +kernel⟩
theorem sc_26 : FnScope N_26 ["_law_top", "_law_bottom"] f_26.d.scope := ⟨rfl, rfl, rfl, nd_26, rfl, by decide +kernel, by decide +kernel⟩
theorem sc_27 : FnScope N_27 ["_law_a", "_law_b"] f_27.d.scope := ⟨rfl, rfl, rfl, nd_27, rfl, by decide +kernel, by decide +kernel⟩
theorem sc_28 : FnScope N_28 ["_law_a", "_law_b"] f_28.d.scope := ⟨rfl, rfl, rfl, nd_28, rfl, by decide +kernel, by decide +kernel⟩
theorem sc_29 : FnScope N_29 ["_law_a", "_law_b"] f_29.d.scope := ⟨rfl, rfl, rfl, nd_29, rfl, by decide +kernel, by decide +kernel⟩
theorem sc_30 : FnScope N_30 ["_law_some"] f_30.d.scope := ⟨rfl, rfl, rfl, nd_30, rfl, by decide +kernel, by decide +kernel⟩
theorem sc_31 : FnScope N_31 ["_law_purse_here", "_law_spot"] f_31.d.scope := ⟨rfl, rfl, rfl, nd_31, rfl, by decide +kernel, by decide +kernel⟩
theorem sc_32 : FnScope N_32 ["_law_e"] f_32.d.scope := ⟨rfl, rfl, rfl, nd_32, rfl, by decide +kernel, by decide +kernel⟩
theorem sc_33 : FnScope N_33 ["_law_purse_here", "_law_most"] f_33.d.scope := ⟨rfl, rfl, rfl, nd_33, rfl, by decide +kernel, by decide +kernel⟩
theorem sc_34 : FnScope N_34 ["_law_purse_here", "_law_row_of"] f_34.d.scope := ⟨rfl, rfl, rfl, nd_34, rfl, by decide +kernel, by decide +kernel⟩
theorem sc_35 : FnScope N_35 ["_law_way", "_law_a", "_law_b", "_law_far_here"] f_35.d.scope := ⟨rfl, rfl, rfl, nd_35, rfl, by decide +kernel, by decide +kernel⟩
theorem sc_36 : FnScope N_36 ["_law_way", "_law_a", "_law_b", "_law_far_here"] f_36.d.scope := ⟨rfl, rfl, rfl, nd_36, rfl, by decide +kernel, by decide +kernel⟩
theorem sc_37 : FnScope N_37 ["_law_way", "_law_a", "_law_b", "_law_far_here"] f_37.d.scope := ⟨rfl, rfl, rfl, nd_37, rfl, by decide +kernel, by decide +kernel⟩
theorem sc_38 : FnScope N_38 ["_law_row_of"] f_38.d.scope := ⟨rfl, rfl, rfl, nd_38, rfl, by decide +kernel, by decide +kernel⟩
theorem sc_39 : FnScope N_39 ["_law_row_of"] f_39.d.scope := ⟨rfl, rfl, rfl, nd_39, rfl, by decide +kernel, by decide +kernel⟩
theorem sc_40 : FnScope N_40 ["_law_way", "_law_a", "_law_b", "_law_far_here"] f_40.d.scope := ⟨rfl, rfl, rfl, nd_40, rfl, by decide +kernel, by decide +kernel⟩
theorem sc_41 : FnScope N_41 ["_law_purse_here", "_law_row_of"] f_41.d.scope := ⟨rfl, rfl, rfl, nd_41, rfl, by decide +kernel, by decide +kernel⟩
theorem sc_42 : FnScope N_42 ["_law_purse_here", "_law_row_of"] f_42.d.scope := ⟨rfl, rfl, rfl, nd_42, rfl, by decide +kernel, by decide +kernel⟩
theorem sc_43 : FnScope N_43 ["_law_script"] f_43.d.scope := ⟨rfl, rfl, rfl, nd_43, rfl, by decide +kernel, by decide +kernel⟩
def G (w : Nat) : Pg := ⟨defs, nfOf L, mtOf L, w⟩
theorem ob_own : OwnBind L := fun k hk => nomatch hk
theorem bodies (w : Nat) : Bodies L (G w)
  | 0, _, h => by
    obtain rfl := Option.some.inj (show some f_0 = some _ from h)
    exact ⟨N_0, _, sc_0, rfl, rfl, by decide, b_0⟩
  | 1, _, h => by
    obtain rfl := Option.some.inj (show some f_1 = some _ from h)
    exact ⟨N_1, _, sc_1, rfl, rfl, by decide, b_1⟩
  | 2, _, h => by
    obtain rfl := Option.some.inj (show some f_2 = some _ from h)
    exact ⟨N_2, _, sc_2, rfl, rfl, by decide, b_2⟩
  | 3, _, h => by
    obtain rfl := Option.some.inj (show some f_3 = some _ from h)
    exact ⟨N_3, _, sc_3, rfl, rfl, by decide, b_3⟩
  | 4, _, h => by
    obtain rfl := Option.some.inj (show some f_4 = some _ from h)
    exact ⟨N_4, _, sc_4, rfl, rfl, by decide, b_4⟩
  | 5, _, h => by
    obtain rfl := Option.some.inj (show some f_5 = some _ from h)
    exact ⟨N_5, _, sc_5, rfl, rfl, by decide, b_5⟩
  | 6, _, h => by
    obtain rfl := Option.some.inj (show some f_6 = some _ from h)
    exact ⟨N_6, _, sc_6, rfl, rfl, by decide, b_6⟩
  | 7, _, h => by
    obtain rfl := Option.some.inj (show some f_7 = some _ from h)
    exact ⟨N_7, _, sc_7, rfl, rfl, by decide, b_7⟩
  | 8, _, h => by
    obtain rfl := Option.some.inj (show some f_8 = some _ from h)
    exact ⟨N_8, _, sc_8, rfl, rfl, by decide, b_8⟩
  | 9, _, h => by
    obtain rfl := Option.some.inj (show some f_9 = some _ from h)
    exact ⟨N_9, _, sc_9, rfl, rfl, by decide, b_9⟩
  | 10, _, h => by
    obtain rfl := Option.some.inj (show some f_10 = some _ from h)
    exact ⟨N_10, _, sc_10, rfl, rfl, by decide, b_10⟩
  | 11, _, h => by
    obtain rfl := Option.some.inj (show some f_11 = some _ from h)
    exact ⟨N_11, _, sc_11, rfl, rfl, by decide, b_11⟩
  | 12, _, h => by
    obtain rfl := Option.some.inj (show some f_12 = some _ from h)
    exact ⟨N_12, _, sc_12, rfl, rfl, by decide, b_12⟩
  | 13, _, h => by
    obtain rfl := Option.some.inj (show some f_13 = some _ from h)
    exact ⟨N_13, _, sc_13, rfl, rfl, by decide, b_13⟩
  | 14, _, h => by
    obtain rfl := Option.some.inj (show some f_14 = some _ from h)
    exact ⟨N_14, _, sc_14, rfl, rfl, by decide, b_14⟩
  | 15, _, h => by
    obtain rfl := Option.some.inj (show some f_15 = some _ from h)
    exact ⟨N_15, _, sc_15, rfl, rfl, by decide, b_15⟩
  | 16, _, h => by
    obtain rfl := Option.some.inj (show some f_16 = some _ from h)
    exact ⟨N_16, _, sc_16, rfl, rfl, by decide, b_16⟩
  | 17, _, h => by
    obtain rfl := Option.some.inj (show some f_17 = some _ from h)
    exact ⟨N_17, _, sc_17, rfl, rfl, by decide, b_17⟩
  | 18, _, h => by
    obtain rfl := Option.some.inj (show some f_18 = some _ from h)
    exact ⟨N_18, _, sc_18, rfl, rfl, by decide, b_18⟩
  | 19, _, h => by
    obtain rfl := Option.some.inj (show some f_19 = some _ from h)
    exact ⟨N_19, _, sc_19, rfl, rfl, by decide, b_19⟩
  | 20, _, h => by
    obtain rfl := Option.some.inj (show some f_20 = some _ from h)
    exact ⟨N_20, _, sc_20, rfl, rfl, by decide, b_20⟩
  | 21, _, h => by
    obtain rfl := Option.some.inj (show some f_21 = some _ from h)
    exact ⟨N_21, _, sc_21, rfl, rfl, by decide, b_21⟩
  | 22, _, h => by
    obtain rfl := Option.some.inj (show some f_22 = some _ from h)
    exact ⟨N_22, _, sc_22, rfl, rfl, by decide, b_22⟩
  | 23, _, h => by
    obtain rfl := Option.some.inj (show some f_23 = some _ from h)
    exact ⟨N_23, _, sc_23, rfl, rfl, by decide, b_23⟩
  | 24, _, h => by
    obtain rfl := Option.some.inj (show some f_24 = some _ from h)
    exact ⟨N_24, _, sc_24, rfl, rfl, by decide, b_24⟩
  | 25, _, h => by
    obtain rfl := Option.some.inj (show some f_25 = some _ from h)
    exact ⟨N_25, _, sc_25, rfl, rfl, by decide, b_25⟩
  | 26, _, h => by
    obtain rfl := Option.some.inj (show some f_26 = some _ from h)
    exact ⟨N_26, _, sc_26, rfl, rfl, by decide, b_26⟩
  | 27, _, h => by
    obtain rfl := Option.some.inj (show some f_27 = some _ from h)
    exact ⟨N_27, _, sc_27, rfl, rfl, by decide, b_27⟩
  | 28, _, h => by
    obtain rfl := Option.some.inj (show some f_28 = some _ from h)
    exact ⟨N_28, _, sc_28, rfl, rfl, by decide, b_28⟩
  | 29, _, h => by
    obtain rfl := Option.some.inj (show some f_29 = some _ from h)
    exact ⟨N_29, _, sc_29, rfl, rfl, by decide, b_29⟩
  | 30, _, h => by
    obtain rfl := Option.some.inj (show some f_30 = some _ from h)
    exact ⟨N_30, _, sc_30, rfl, rfl, by decide, b_30⟩
  | 31, _, h => by
    obtain rfl := Option.some.inj (show some f_31 = some _ from h)
    exact ⟨N_31, _, sc_31, rfl, rfl, by decide, b_31⟩
  | 32, _, h => by
    obtain rfl := Option.some.inj (show some f_32 = some _ from h)
    exact ⟨N_32, _, sc_32, rfl, rfl, by decide, b_32⟩
  | 33, _, h => by
    obtain rfl := Option.some.inj (show some f_33 = some _ from h)
    exact ⟨N_33, _, sc_33, rfl, rfl, by decide, b_33⟩
  | 34, _, h => by
    obtain rfl := Option.some.inj (show some f_34 = some _ from h)
    exact ⟨N_34, _, sc_34, rfl, rfl, by decide, b_34⟩
  | 35, _, h => by
    obtain rfl := Option.some.inj (show some f_35 = some _ from h)
    exact ⟨N_35, _, sc_35, rfl, rfl, by decide, b_35⟩
  | 36, _, h => by
    obtain rfl := Option.some.inj (show some f_36 = some _ from h)
    exact ⟨N_36, _, sc_36, rfl, rfl, by decide, b_36⟩
  | 37, _, h => by
    obtain rfl := Option.some.inj (show some f_37 = some _ from h)
    exact ⟨N_37, _, sc_37, rfl, rfl, by decide, b_37⟩
  | 38, _, h => by
    obtain rfl := Option.some.inj (show some f_38 = some _ from h)
    exact ⟨N_38, _, sc_38, rfl, rfl, by decide, b_38⟩
  | 39, _, h => by
    obtain rfl := Option.some.inj (show some f_39 = some _ from h)
    exact ⟨N_39, _, sc_39, rfl, rfl, by decide, b_39⟩
  | 40, _, h => by
    obtain rfl := Option.some.inj (show some f_40 = some _ from h)
    exact ⟨N_40, _, sc_40, rfl, rfl, by decide, b_40⟩
  | 41, _, h => by
    obtain rfl := Option.some.inj (show some f_41 = some _ from h)
    exact ⟨N_41, _, sc_41, rfl, rfl, by decide, b_41⟩
  | 42, _, h => by
    obtain rfl := Option.some.inj (show some f_42 = some _ from h)
    exact ⟨N_42, _, sc_42, rfl, rfl, by decide, b_42⟩
  | 43, _, h => by
    obtain rfl := Option.some.inj (show some f_43 = some _ from h)
    exact ⟨N_43, _, sc_43, rfl, rfl, by decide, b_43⟩
  | n + 44, _, h => nomatch (show none = some _ from h)
def ls_0 : List Str := ["BeatError", "NoMeter", "NoSign", "NoGroup", "NoWriting", "NoRow", "NoFit", "NoCost", "NoNote", "NoStep", "Full", "NoDeed", "NoText", "NoLine", "NoTime", "NoBar", "NoPage", "lowest", "must_time", "plus", "less", "times", "under", "KINDS", "NOUGHT", "lowest_row", "must_pieces", "kept_of", "must_row", "kept"]
def ls_1 : List Str := ["whole_of", "length_of", "spans_of", "in_order", "sounds", "of_both", "together", "quickened", "turned", "cut_of", "cut", "_law_at", "_law_mixed", "_law_purse", "_law_draw", "_law_made", "_law_sum", "_law_product", "_law_below", "_law_all", "_law_told_otherwise", "_law_class", "_law_row", "_law_otherwise", "_law_asked", "_law_caught", "_law_bottoms", "_law_good", "_law_long_of", "_law_due"]
def ls_2 : List Str := ["_law_bent", "_law_far"]
def loose : List Str := ls_0 ++ ls_1 ++ ls_2
abbrev R : PySem.W.OpenRow := PySem.W.OpenLaw.row PySem.Challenge.rw_tiedbeats_k16_rows_refused
abbrev hk : PySem.W.Hook := He.hookX 4 (faOf L) (L.fn.map Fn.d) [] [] (exOf L)
def ob (s : PySem.W.SharedT) : He.AlX := He.obsX 4 (faOf L) (L.fn.map Fn.d) [] [] (exOf L) (HandSHeadRun.getT s)
theorem ob_eq (s : PySem.W.SharedT) : ob s = hk.obs s.abs := He.obsX_eq (HandSHeadRun.getT_eq s)
theorem runs (w : World) : HandSHeadRun.RunEq R (PySem.W.view R.prog [66]) hk ob 20000 loose w := by
  intro os
  kernel_rfl
def dep : Nat := 40
theorem facts {P : PySem.Program} {w : World} {K : PySem.W.Frag} {h : Heap} {mg : Str → Option Value} {f : Addr} (W : Nat) (pl : ∀ ns : List Int, ns.length ≤ 63 → ∃ m, run (G W) dep 43 [.sc (ns.map .int)] = .ok (.d (.bl true)) m) (X : K.In h) (Gs : h.Ns mainGlobals mg) (hfa : mg ("law" : Str) = some (.ref f)) (c : He.SaysX (faOf L) (L.fn.map Fn.d) [] [] (exOf L) w h K) :
    ∃ fd : FuncData, (∀ (s : Shared) (v : Value), BindsTo s fd ⟨[v], []⟩ [("_law_script", v)]) ∧ ∀ base : Heap, K.In base → base.Ns mainGlobals mg → FnOk P w K mg base (CXe P) (5 * dep) f fd ["_law_script"] (spLaw (txOf K L)) := by
  have F : LawF P w K mg L (G W) := lawF_of X Gs c rfl rfl
  obtain ⟨fd, FD⟩ := F.fnD 43 f_43 rfl
  have hm := F.fnm 43 f_43 rfl rfl rfl
  have e := hfa.symm.trans hm
  cases e
  refine ⟨fd, fun s v => FunD.bindsA (ps := ["_law_script"]) FD bn_43 s [v] rfl, fun base kin _ => ?_⟩
  obtain ⟨fd2, FD2, ok⟩ := F.all (base := base) (bodies W) ob_own kin dep 43 f_43 rfl
  have e2 : fd2 = fd := by
    obtain ⟨_, _, _, _, _, _, _, _, _, _, _, l1, _, _, _⟩ := FD2.ex
    obtain ⟨_, _, _, _, _, _, _, _, _, _, _, l2, _, _, _⟩ := FD.ex
    rw [l1] at l2
    injection l2 with z
    injection z with _ _ z _
    injection z
  rw [← e2]
  exact Mp.FnOk.cxe ok fun vs H Q E hh => law_sp pl hh
end K16

namespace Pl
open PySem Mp
/-! Pa: times. -/
def sLowest : Ss := (.cons (.par 2 3 (.bi .abs (.cons (.v 0) .nil)) (.bi .abs (.cons (.v 1) .nil)))
  (.cons (.whl (.cm .ne (.v 3) (.k (.int 0))) (.cons (.par 2 3 (.v 3) (.op .mod (.v 2) (.v 3)))
  .nil))
  (.cons (.iff (.cm .lt (.v 1) (.k (.int 0))) (.cons (.asg (.n 2) (.op .sub (.k (.int 0)) (.v 2)))
  .nil) .nil)
  (.cons (.ret (.tup (.cons (.op .fdiv (.v 0) (.v 2)) (.cons (.op .fdiv (.v 1) (.v 2)) .nil))))
  .nil))))

theorem whl_gcd (c : Cf) (hpr : c.pr = false) (a b : Int) : ∀ (w : Nat) (x y : Nat), y < w → whlF (evT c (.cm .ne (.v 3) (.k (.int 0)))) (evSs c (.cons (.par 2 3 (.v 3) (.op .mod (.v 2) (.v 3))) .nil)) w [.fz (.int a), .fz (.int b), .fz (.int x), .fz (.int y)] = .nx [.fz (.int a), .fz (.int b), .fz (.int (Nat.gcd y x)), .fz (.int 0)]
  | 0, x, y, h => by omega
  | w + 1, x, y, h => by
    by_cases hy : y = 0
    · subst hy
      rw [whl_end (G1 := [.fz (.int a), .fz (.int b), .fz (.int x), .fz (.int (0 : Nat))]) (by simp [cop])]
      simp
    · have hy' : (y : Int) ≠ 0 := by omega
      have hm : (x : Int).fmod y = ((x % y : Nat) : Int) := by
        rw [Int.fmod_eq_emod_of_nonneg _ (by omega)]
        simp
      rw [whl_go (G1 := [.fz (.int a), .fz (.int b), .fz (.int x), .fz (.int y)]) (G2 := [.fz (.int a), .fz (.int b), .fz (.int y), .fz (.int (x % y : Nat))]) (by simp [cop, hy]) (by simp [bop, hy, hm, hpr])]
      rw [whl_gcd c hpr a b w y (x % y) (by have := Nat.mod_lt x (Nat.pos_of_ne_zero hy); omega)]
      rw [Nat.gcd_rec y x]
theorem ev_lowest (c : Cf) (hpr : c.pr = false) (a b : Int) (hb : b ≠ 0) (hw : b.natAbs < c.w) (hs : b.natAbs.log2 < 8999) : ∃ G', evSs c sLowest [.fz (.int a), .fz (.int b), .no, .no] = .rt (.d (.tup [.int (Rat.divInt a b).num, .int (Rat.divInt a b).den])) G' := by
  have hg : 0 < Nat.gcd b.natAbs a.natAbs := Nat.gcd_pos_of_pos_left _ (by omega)
  have hl : Nat.gcd b.natAbs a.natAbs ≤ b.natAbs := Nat.gcd_le_left _ (by omega)
  have ea : (if a < 0 then -a else a) = ((a.natAbs : Nat) : Int) := by split <;> omega
  have eb : (if b < 0 then -b else b) = ((b.natAbs : Nat) : Int) := by split <;> omega
  have hlog : (Nat.gcd b.natAbs a.natAbs).log2 < 9000 := by
    have h1 : Nat.gcd b.natAbs a.natAbs < 2 ^ 9000 := Nat.lt_of_le_of_lt hl ((Nat.log2_lt (by omega)).mp (by omega))
    exact (Nat.log2_lt (by omega)).mpr h1
  have hda : ((Nat.gcd b.natAbs a.natAbs : Nat) : Int) ∣ a := by
    have : Nat.gcd b.natAbs a.natAbs ∣ a.natAbs := Nat.gcd_dvd_right _ _
    exact Int.ofNat_dvd_left.mpr this
  have hdb : ((Nat.gcd b.natAbs a.natAbs : Nat) : Int) ∣ b := by
    have : Nat.gcd b.natAbs a.natAbs ∣ b.natAbs := Nat.gcd_dvd_left _ _
    exact Int.ofNat_dvd_left.mpr this
  have hnum : (Rat.divInt a b).num = if b < 0 then -(a / (Nat.gcd b.natAbs a.natAbs : Nat)) else a / (Nat.gcd b.natAbs a.natAbs : Nat) := by
    rw [Rat.num_divInt]
    show b.sign * a / ((Int.gcd b a : Nat) : Int) = _
    have : Int.gcd b a = Nat.gcd b.natAbs a.natAbs := by rfl
    rw [this]
    split
    · rename_i h
      rw [Int.sign_eq_neg_one_of_neg h, Int.neg_one_mul, Int.neg_ediv_of_dvd hda]
    · rename_i h
      rw [Int.sign_eq_one_of_pos (by omega), Int.one_mul]
  have hden : ((Rat.divInt a b).den : Int) = if b < 0 then -(b / (Nat.gcd b.natAbs a.natAbs : Nat)) else b / (Nat.gcd b.natAbs a.natAbs : Nat) := by
    rw [Rat.den_divInt, if_neg hb]
    have : Int.gcd b a = Nat.gcd b.natAbs a.natAbs := by rfl
    rw [this]
    split
    · rename_i h
      rw [← Int.neg_ediv_of_dvd hdb]
      have : -b = (b.natAbs : Int) := by omega
      rw [this]
      rfl
    · rename_i h
      have : b = (b.natAbs : Int) := by omega
      conv => rhs; rw [this]
      rfl
  generalize hgg : Nat.gcd b.natAbs a.natAbs = g at *
  rw [hnum, hden]
  unfold sLowest
  simp [hpr, ea, eb]
  rw [whl_gcd c hpr a b c.w a.natAbs b.natAbs hw]
  by_cases hn : b < 0
  · have hn0 : -(g : Int) ≠ 0 := by omega
    have hl2 : (-(g : Int)).natAbs.log2 < 9000 := by
      have : (-(g : Int)).natAbs = g := by omega
      rw [this]
      exact hlog
    have f1 : ∀ x : Int, (g : Int) ∣ x → x.fdiv (-(g : Int)) = -(x / (g : Int)) := fun x hx => by
      obtain ⟨y, rfl⟩ := hx
      rw [← Int.neg_mul_neg (g : Int) y, Int.mul_fdiv_cancel_left _ hn0, Int.neg_mul_neg, Int.mul_ediv_cancel_left _ (by omega)]
    simp [hn, hgg, a_fdiv hn0 hl2, f1 a hda, f1 b hdb]
  · have hn0 : (g : Int) ≠ 0 := by omega
    have hl2 : ((g : Int)).natAbs.log2 < 9000 := by simpa using hlog
    have f1 : ∀ x : Int, x.fdiv (g : Int) = x / (g : Int) := fun x => Int.fdiv_eq_ediv_of_nonneg _ (by omega)
    simp [hn, hgg, a_fdiv hn0 hl2, f1]

/-! ### times as data -/
def tD (q : Rat) : D := .tup [.int q.num, .int q.den]
def tDs (a b : Int) : D := .tup [.int a, .int b]
/-- of few digits -/
def Sm (i : Int) : Prop := i.natAbs.log2 < 4000
theorem lt_pow {n k : Nat} (h : n.log2 < k) : n < 2 ^ k := by
  by_cases hn : n = 0
  · subst hn; exact Nat.pow_pos (by omega)
  · exact (Nat.log2_lt hn).mp h
theorem log_lt {n k : Nat} (hk : 0 < k) (h : n < 2 ^ k) : n.log2 < k := by
  by_cases hn : n = 0
  · subst hn; simpa using hk
  · exact (Nat.log2_lt hn).mpr h
theorem log_mul {a b : Int} {j k : Nat} (h1 : a.natAbs.log2 < j) (h2 : b.natAbs.log2 < k) : (a * b).natAbs.log2 < j + k := by
  refine log_lt (by omega) ?_
  rw [Int.natAbs_mul, Nat.pow_add]
  exact Nat.mul_lt_mul'' (lt_pow h1) (lt_pow h2)
theorem bits_le {a : Int} {k : Nat} (h : a.natAbs.log2 < k) : (Builtin.Int.intBits a : Int) ≤ k := by
  unfold Builtin.Int.intBits
  split <;> omega
theorem bits_le0 {a : Int} : (0 : Int) ≤ (Builtin.Int.intBits a : Int) := by omega
/-- a product that is taken -/
theorem mulS {a b : Int} (h1 : a.natAbs.log2 < 60000000) (h2 : b.natAbs.log2 < 60000000) : bop .mul (.int a) (.int b) = some (.d (.int (a * b))) :=
  a_mul (by have := bits_le h1; have := bits_le h2; omega)
theorem log_add {a b : Int} {k : Nat} (h1 : a.natAbs.log2 < k) (h2 : b.natAbs.log2 < k) : (a + b).natAbs.log2 < k + 1 := by
  refine log_lt (by omega) ?_
  have := lt_pow h1
  have := lt_pow h2
  rw [Nat.pow_succ]
  omega
theorem log_neg {a : Int} : (-a).natAbs.log2 = a.natAbs.log2 := by rw [Int.natAbs_neg]
theorem log_sub {a b : Int} {k : Nat} (h1 : a.natAbs.log2 < k) (h2 : b.natAbs.log2 < k) : (a - b).natAbs.log2 < k + 1 := by
  rw [Int.sub_eq_add_neg]
  exact log_add h1 (by rw [log_neg]; exact h2)
/-- a time of few digits -/
def Qs (q : Rat) : Prop := Sm q.num ∧ Sm q.den
/-- what a callee does that is lowest -/
def Low (f : List Sl → Cres) : Prop := ∀ a b : Int, b ≠ 0 → b.natAbs.log2 < 8999 → ∃ m, f [.fz (.int a), .fz (.int b)] = .ok (.d (tD (Rat.divInt a b))) m
theorem den_ne (q : Rat) : ((q.den : Nat) : Int) ≠ 0 := by have := q.den_pos; omega
theorem divInt_self (q : Rat) : Rat.divInt q.num q.den = q := Rat.num_divInt_den q
theorem add_eq (p q : Rat) : Rat.divInt (p.num * q.den + q.num * p.den) ((p.den : Int) * q.den) = p + q := by
  rw [← Rat.divInt_add_divInt _ _ (den_ne p) (den_ne q), divInt_self, divInt_self]
theorem sub_eq (p q : Rat) : Rat.divInt (p.num * q.den - q.num * p.den) ((p.den : Int) * q.den) = p - q := by
  have e : p - q = p + -q := Rat.sub_eq_add_neg p q
  rw [e, ← add_eq p (-q)]
  have h1 : (-q).num = -q.num := by rfl
  have h2 : (-q).den = q.den := by rfl
  rw [h1, h2]
  congr 1
  rw [Int.neg_mul]
  rfl
theorem mul_eq (p q : Rat) : Rat.divInt (p.num * q.num) ((p.den : Int) * q.den) = p * q := by
  rw [← Rat.divInt_mul_divInt, divInt_self, divInt_self]
section
variable {c : Cf} {g : Nat} {p q : Rat}
theorem at_nat {α : Type} {l : List α} {n : Nat} (h : n < l.length) : L2.atI l (n : Int) = l[n]? := by
  unfold L2.atI L2.ixN
  rw [if_pos (by omega), if_pos (by omega)]
  rfl
@[simp] theorem at_0 {α : Type} {a : α} {l : List α} : L2.atI (a :: l) 0 = some a := (at_nat (n := 0) (by simp)).trans rfl
@[simp] theorem at_1 {α : Type} {a b : α} {l : List α} : L2.atI (a :: b :: l) 1 = some b := (at_nat (n := 1) (by simp)).trans rfl
@[simp] theorem at_2 {α : Type} {a b d : α} {l : List α} : L2.atI (a :: b :: d :: l) 2 = some d := (at_nat (n := 2) (by simp)).trans rfl
theorem at_last {α : Type} {l : List α} {a : α} : L2.atI (l ++ [a]) (-1) = some a := by
  unfold L2.atI L2.ixN
  rw [if_neg (by omega), if_pos (by rw [List.length_append]; simp; omega)]
  have e : (-1 + ((l ++ [a]).length : Int)).toNat = l.length := by rw [List.length_append]; simp; omega
  simp only [Option.bind]
  rw [e]
  simp
def sPlus (g : Nat) : Ss := (.cons (.ret (.call g (.cons (.op .add (.op .mul (.ix (.v 0) (.k (.int 0))) (.ix (.v 1) (.k (.int 1)))) (.op .mul (.ix (.v 1) (.k (.int 0))) (.ix (.v 0) (.k (.int 1))))) (.cons (.op .mul (.ix (.v 0) (.k (.int 1))) (.ix (.v 1) (.k (.int 1)))) .nil))))
  .nil)
theorem ev_plus (hpm : c.pm g = [.f, .f]) (hl : Low (c.cf g)) (hp : Qs p) (hq : Qs q) : evSs c (sPlus g) [.fz (tD p), .fz (tD q)] = .rt (.d (tD (p + q))) [.fz (tD p), .fz (tD q)] := by
  have big : ∀ {a : Int}, Sm a → a.natAbs.log2 < 60000000 := fun h => Nat.lt_trans h (by decide)
  have h0 : ((p.den : Int) * q.den) ≠ 0 := Int.mul_ne_zero (den_ne p) (den_ne q)
  obtain ⟨m, e⟩ := hl (p.num * q.den + q.num * p.den) ((p.den : Int) * q.den) h0 (Nat.lt_trans (log_mul hp.2 hq.2) (by decide))
  rw [add_eq] at e
  have m1 := mulS (big hp.1) (big hq.2)
  have m2 := mulS (big hq.1) (big hp.2)
  have m3 := mulS (big hp.2) (big hq.2)
  unfold sPlus
  simp [tD] at e ⊢
  simp [m1, m2, m3, hpm, e]
def sLess (g : Nat) : Ss := (.cons (.ret (.call g (.cons (.op .sub (.op .mul (.ix (.v 0) (.k (.int 0))) (.ix (.v 1) (.k (.int 1)))) (.op .mul (.ix (.v 1) (.k (.int 0))) (.ix (.v 0) (.k (.int 1))))) (.cons (.op .mul (.ix (.v 0) (.k (.int 1))) (.ix (.v 1) (.k (.int 1)))) .nil))))
  .nil)
theorem ev_less (hpm : c.pm g = [.f, .f]) (hl : Low (c.cf g)) (hp : Qs p) (hq : Qs q) : evSs c (sLess g) [.fz (tD p), .fz (tD q)] = .rt (.d (tD (p - q))) [.fz (tD p), .fz (tD q)] := by
  have big : ∀ {a : Int}, Sm a → a.natAbs.log2 < 60000000 := fun h => Nat.lt_trans h (by decide)
  have h0 : ((p.den : Int) * q.den) ≠ 0 := Int.mul_ne_zero (den_ne p) (den_ne q)
  obtain ⟨m, e⟩ := hl (p.num * q.den - q.num * p.den) ((p.den : Int) * q.den) h0 (Nat.lt_trans (log_mul hp.2 hq.2) (by decide))
  rw [sub_eq] at e
  have m1 := mulS (big hp.1) (big hq.2)
  have m2 := mulS (big hq.1) (big hp.2)
  have m3 := mulS (big hp.2) (big hq.2)
  unfold sLess
  simp [tD] at e ⊢
  simp [m1, m2, m3, hpm, e]
def sTimes (g : Nat) : Ss := (.cons (.ret (.call g (.cons (.op .mul (.ix (.v 0) (.k (.int 0))) (.ix (.v 1) (.k (.int 0)))) (.cons (.op .mul (.ix (.v 0) (.k (.int 1))) (.ix (.v 1) (.k (.int 1)))) .nil))))
  .nil)
theorem ev_times (hpm : c.pm g = [.f, .f]) (hl : Low (c.cf g)) (hp : Qs p) (hq : Qs q) : evSs c (sTimes g) [.fz (tD p), .fz (tD q)] = .rt (.d (tD (p * q))) [.fz (tD p), .fz (tD q)] := by
  have big : ∀ {a : Int}, Sm a → a.natAbs.log2 < 60000000 := fun h => Nat.lt_trans h (by decide)
  have h0 : ((p.den : Int) * q.den) ≠ 0 := Int.mul_ne_zero (den_ne p) (den_ne q)
  obtain ⟨m, e⟩ := hl (p.num * q.num) ((p.den : Int) * q.den) h0 (Nat.lt_trans (log_mul hp.2 hq.2) (by decide))
  rw [mul_eq] at e
  have m1 := mulS (big hp.1) (big hq.1)
  have m3 := mulS (big hp.2) (big hq.2)
  unfold sTimes
  simp [tD] at e ⊢
  simp [m1, m3, hpm, e]
def sUnder : Ss := (.cons (.ret (.cm .lt (.op .mul (.ix (.v 0) (.k (.int 0))) (.ix (.v 1) (.k (.int 1)))) (.op .mul (.ix (.v 1) (.k (.int 0))) (.ix (.v 0) (.k (.int 1)))))) .nil)
theorem ev_under (hp : Qs p) (hq : Qs q) : evSs c sUnder [.fz (tD p), .fz (tD q)] = .rt (.d (.bl (decide (p < q)))) [.fz (tD p), .fz (tD q)] := by
  have big : ∀ {a : Int}, Sm a → a.natAbs.log2 < 60000000 := fun h => Nat.lt_trans h (by decide)
  have m1 := mulS (big hp.1) (big hq.2)
  have m2 := mulS (big hq.1) (big hp.2)
  have e : decide (p < q) = decide (p.num * q.den < q.num * p.den) := decide_eq_decide.mpr (Rat.lt_iff p q)
  rw [e]
  unfold sUnder
  simp [tD, m1, m2]
def sMustTime (g : Nat) : Ss := (.cons (.iff (.cm .eq (.ix (.v 0) (.k (.int 1))) (.k (.int 0))) (.cons .bad .nil) .nil)
  (.cons (.ret (.call g (.cons (.ix (.v 0) (.k (.int 0))) (.cons (.ix (.v 0) (.k (.int 1))) .nil))))
  .nil))
theorem ev_mustTime (hpm : c.pm g = [.f, .f]) (hl : Low (c.cf g)) {a b : Int} (hb : b ≠ 0) (hs : b.natAbs.log2 < 8999) : evSs c (sMustTime g) [.fz (tDs a b)] = .rt (.d (tD (Rat.divInt a b))) [.fz (tDs a b)] := by
  obtain ⟨m, e⟩ := hl a b hb hs
  unfold sMustTime
  simp [tD, tDs] at e ⊢
  simp [hpm, e, hb]
end
end Pl

namespace Pl
open PySem Mp
/-! Pb: the purse. -/
/-- a purse out of which b draws may still be made -/
def Pu (b : Nat) (l : List D) : Prop := ∃ p0 p1 p2 : Int, l = [.int p0, .int p1, .int p2] ∧ 0 ≤ p1 ∧ p1 < 2147483647 ∧ 0 ≤ p2 ∧ p2 + b ≤ 1152921504606846976
theorem Pu.mono {b b' : Nat} {l : List D} (h : Pu b l) (e : b' ≤ b) : Pu b' l := by
  obtain ⟨p0, p1, p2, rfl, h1, h2, h3, h4⟩ := h
  exact ⟨p0, p1, p2, rfl, h1, h2, h3, by omega⟩
theorem lg {x : Int} (h1 : 0 ≤ x) (h2 : x < 1152921504606846977) : x.natAbs.log2 < 61 := log_lt (by omega) (by
  have : x.natAbs < 1152921504606846977 := by omega
  exact Nat.lt_of_lt_of_le this (by decide))
theorem lt6 {n : Nat} {k : Nat} (h : n < k) (hk : k ≤ 60000000 := by decide) : n < 60000000 := by omega
def sAt : Ss := (.cons (.iff (.cm .lt (.v 1) (.scl 0)) (.cons (.ret (.sci 0 (.v 1)))
  .nil) .nil)
  (.cons (.ret (.k (.int 0)))
  .nil))
def Int1 (f : List Sl → Cres) (ss : List Sl) : Prop := ∃ x : Int, ∃ m, f ss = .ok (.d (.int x)) m
theorem ev_at {c : Cf} {ns : List Int} {k : Nat} : ∃ x : Int, evSs c sAt [.sc (ns.map .int), .fz (.int k)] = .rt (.d (.int x)) [.sc (ns.map .int), .fz (.int k)] := by
  by_cases h : k < ns.length
  · refine ⟨ns[k], ?_⟩
    have e : L2.atI (ns.map D.int) (k : Int) = some (.int ns[k]) := by
      rw [at_nat (by simpa using h)]
      simp [h]
    have h' : (k : Int) < ns.length := by omega
    unfold sAt
    simp [h', e]
  · refine ⟨0, ?_⟩
    have h' : ¬ (k : Int) < ns.length := by omega
    unfold sAt
    simp [h']
def sMixed : Ss := (.cons (.asg (.n 2) (.op .mod (.op .add (.op .add (.op .add (.op .mul (.v 0) (.k (.int 1103515245))) (.op .mul (.op .mul (.k (.int 7919)) (.v 1)) (.v 1))) (.v 1)) (.k (.int 1))) (.k (.int 2147483647))))
  (.cons (.asg (.n 2) (.op .mod (.op .add (.op .mul (.v 2) (.v 2)) (.k (.int 69621))) (.k (.int 2147483629))))
  (.cons (.ret (.op .mod (.op .mul (.v 2) (.k (.int 48271))) (.k (.int 2147483587))))
  .nil)))
theorem fm {x n : Int} (hn : 0 < n) : 0 ≤ x.fmod n ∧ x.fmod n < n := by
  rw [Int.fmod_eq_emod_of_nonneg _ (by omega)]
  exact ⟨Int.emod_nonneg _ (by omega), Int.emod_lt_of_pos _ hn⟩
theorem ev_mixed {c : Cf} (hpr : c.pr = false) {p k : Int} (h1 : 0 ≤ p) (h2 : p < 2147483647) (h3 : 0 ≤ k) (h4 : k < 1152921504606846977) : ∃ x : Int, ∃ G', evSs c sMixed [.fz (.int p), .fz (.int k), .no] = .rt (.d (.int x)) G' := by
  have lp : p.natAbs.log2 < 61 := lg h1 (by omega)
  have lk : k.natAbs.log2 < 61 := lg h3 h4
  have l0 : (7919 : Int).natAbs.log2 < 61 := by decide
  have m1 : bop .mul (.int p) (.int 1103515245) = some (.d (.int (p * 1103515245))) := mulS (lt6 lp) (by decide)
  have m2 : bop .mul (.int 7919) (.int k) = some (.d (.int (7919 * k))) := mulS (by decide) (lt6 lk)
  have m3 : bop .mul (.int (7919 * k)) (.int k) = some (.d (.int (7919 * k * k))) := mulS (lt6 (log_mul l0 lk)) (lt6 lk)
  have d1 := @a_mod (p * 1103515245 + 7919 * k * k + k + 1) 2147483647 (by decide)
  generalize hx : (p * 1103515245 + 7919 * k * k + k + 1).fmod 2147483647 = x at d1
  have bx := @fm (p * 1103515245 + 7919 * k * k + k + 1) 2147483647 (by decide)
  rw [hx] at bx
  have lx : x.natAbs.log2 < 61 := lg bx.1 (by omega)
  have m4 : bop .mul (.int x) (.int x) = some (.d (.int (x * x))) := mulS (lt6 lx) (lt6 lx)
  have d2 := @a_mod (x * x + 69621) 2147483629 (by decide)
  generalize hy : (x * x + 69621).fmod 2147483629 = y at d2
  have bY := @fm (x * x + 69621) 2147483629 (by decide)
  rw [hy] at bY
  have ly : y.natAbs.log2 < 61 := lg bY.1 (by omega)
  have m5 : bop .mul (.int y) (.int 48271) = some (.d (.int (y * 48271))) := mulS (lt6 ly) (by decide)
  have d3 := @a_mod (y * 48271) 2147483587 (by decide)
  unfold sMixed
  simp [hpr, m1, m2, m3, d1, m4, d2, m5, d3]
/-- what a callee does that is a draw -/
def Dra (f : List Sl → Cres) : Prop := ∀ (b : Nat) (n : Int) (l : List D), Pu (b + 1) l → 0 < n → n < 536870912 → ∃ r l', f [.ol l, .fz (.int n)] = .ok (.d (.int r)) (.ol l') ∧ 0 ≤ r ∧ r < n ∧ Pu b l'
def Mix (f : List Sl → Cres) : Prop := ∀ (p k : Int), 0 ≤ p → p < 2147483647 → 0 ≤ k → k < 1152921504606846977 → ∃ x : Int, ∃ m, f [.fz (.int p), .fz (.int k)] = .ok (.d (.int x)) m
def sDraw (g : Nat) : Ss := (.cons (.iff (.cm .gt (.ix (.v 0) (.k (.int 0))) (.k (.int 0))) (.cons (.asg (.n 2) (.op .mod (.ix (.v 0) (.k (.int 0))) (.v 1)))
  (.cons (.six 0 (.k (.int 0)) (.op .fdiv (.ix (.v 0) (.k (.int 0))) (.v 1)))
  (.cons (.ret (.v 2))
  .nil))) .nil)
  (.cons (.asg (.n 3) (.k (.int 0)))
  (.cons (.for (.n 4) (.rg1 (.cons (.op .add (.k (.int 1)) (.op .fdiv (.bi .bits (.cons (.v 1) .nil)) (.k (.int 30)))) .nil)) (.cons (.six 0 (.k (.int 2)) (.op .add (.ix (.v 0) (.k (.int 2))) (.k (.int 1))))
  (.cons (.asg (.n 3) (.op .add (.op .mul (.v 3) (.k (.int 2147483587))) (.call g (.cons (.ix (.v 0) (.k (.int 1))) (.cons (.ix (.v 0) (.k (.int 2))) .nil)))))
  .nil)))
  (.cons (.ret (.op .mod (.v 3) (.v 1)))
  .nil))))
theorem ixn3_0 : L2.ixN 3 0 = some 0 := by rfl
theorem ixn3_2 : L2.ixN 3 2 = some 2 := by rfl
theorem rg_1 : rgD 0 1 = [.int 0] := by rfl
theorem ev_draw {c : Cf} {g : Nat} (hpr : c.pr = true) (hpm : c.pm g = [.f, .f]) (hm : Mix (c.cf g)) {b : Nat} {n : Int} {l : List D} (hl : Pu (b + 1) l) (h1 : 0 < n) (h2 : n < 536870912) :
    ∃ r l' s2 s3 s4, evSs c (sDraw g) [.ol l, .fz (.int n), .no, .no, .no] = .rt (.d (.int r)) [.ol l', .fz (.int n), s2, s3, s4] ∧ 0 ≤ r ∧ r < n ∧ Pu b l' := by
  obtain ⟨p0, p1, p2, rfl, b1, b2, b3, b4⟩ := hl
  have ln : n.natAbs.log2 < 9000 := Nat.lt_of_lt_of_le (lg (by omega) (by omega)) (by decide)
  by_cases h0 : 0 < p0
  · have d1 := @a_mod p0 n (by omega)
    have d2 := @a_fdiv p0 n (by omega) ln
    have f := @fm p0 n h1
    refine ⟨p0.fmod n, [.int (p0.fdiv n), .int p1, .int p2], .fz (.int (p0.fmod n)), .no, .no, ?_, f.1, f.2, ⟨_, p1, p2, rfl, b1, b2, b3, by omega⟩⟩
    unfold sDraw
    simp [hpr, h0, d1, d2, ixn3_0]
  · have lb : (Builtin.Int.intBits n : Int) < 30 := by
      have : n.natAbs.log2 < 29 := log_lt (by omega) (by
        have : n.natAbs < 536870912 := by omega
        exact Nat.lt_of_lt_of_le this (by decide))
      have := bits_le this
      omega
    have d1 := @a_fdiv (Builtin.Int.intBits n : Int) 30 (by decide) (by decide)
    have e1 : (Builtin.Int.intBits n : Int).fdiv 30 = 0 := by
      rw [Int.fdiv_eq_ediv_of_nonneg _ (by omega)]
      exact Int.ediv_eq_zero_of_lt (by omega) lb
    rw [e1] at d1
    obtain ⟨x, m, e2⟩ := hm p1 (p2 + 1) b1 b2 (by omega) (by omega)
    have m1 : bop .mul (.int 0) (.int 2147483587) = some (.d (.int (0 * 2147483587))) := mulS (by decide) (by decide)
    have d3 := @a_mod (0 * 2147483587 + x) n (by omega)
    have f := @fm (0 * 2147483587 + x) n h1
    refine ⟨(0 * 2147483587 + x).fmod n, [.int p0, .int p1, .int (p2 + 1)], .no, .fz (.int (0 * 2147483587 + x)), .fz (.int 0), ?_, f.1, f.2, ⟨p0, p1, p2 + 1, rfl, b1, b2, by omega, by omega⟩⟩
    unfold sDraw
    have et : forT c (.n 4) (.cons (.six 0 (.k (.int 2)) (.op .add (.ix (.v 0) (.k (.int 2))) (.k (.int 1))))
      (.cons (.asg (.n 3) (.op .add (.op .mul (.v 3) (.k (.int 2147483587))) (.call g (.cons (.ix (.v 0) (.k (.int 1))) (.cons (.ix (.v 0) (.k (.int 2))) .nil)))))
      .nil)) (.int 0) [.ol [.int p0, .int p1, .int p2], .fz (.int n), .no, .fz (.int 0), .no] = .nx [.ol [.int p0, .int p1, .int (p2 + 1)], .fz (.int n), .no, .fz (.int (0 * 2147483587 + x)), .fz (.int 0)] := by
      simp [forT, hpr, hpm, ixn3_2, m1, e2]
    simp [hpr, h0, d1, rg_1]
    rw [for_cons et]
    rw [Int.zero_mul, Int.zero_add] at d3
    simp [d3]
def sPurse (g : Nat) : Ss := (.cons (.asg (.n 2) (.call g (.cons (.v 0) (.cons (.v 1) .nil))))
  (.cons (.ret (.lst (.cons (.op .mod (.bi .max (.cons (.op .sub (.v 2) (.op .pow (.k (.int 10)) (.k (.int 18)))) (.cons (.k (.int 0)) .nil))) (.op .pow (.op .pow (.k (.int 10)) (.k (.int 60))) (.k (.int 40)))) (.cons (.op .mod (.v 2) (.k (.int 2147483647))) (.cons (.op .mul (.k (.int 1000)) (.v 1)) .nil)))))
  .nil))
def At (f : List Sl → Cres) (ns : List Int) : Prop := ∀ k : Nat, ∃ x : Int, ∃ m, f [.sc (ns.map .int), .fz (.int k)] = .ok (.d (.int x)) m
theorem ev_purse {c : Cf} {g : Nat} {ns : List Int} (hpr : c.pr = false) (hpm : c.pm g = [.s, .f]) (ha : At (c.cf g) ns) {k : Nat} (hk : k < 1000) : ∃ l G', evSs c (sPurse g) [.sc (ns.map .int), .fz (.int k), .no] = .rt (.ol l) G' ∧ Pu 1152921504605847000 l := by
  obtain ⟨x, m, e⟩ := ha k
  have e1 : bop .pow (.int 10) (.int 18) = some (.d (.int (10 ^ 18))) := by rfl
  have e2 : bop .pow (.int 10) (.int 60) = some (.d (.int (10 ^ 60))) := by rfl
  have e3 : bop .pow (.int (10 ^ 60)) (.int 40) = some (.d (.int ((10 ^ 60) ^ 40))) := by rfl
  have d1 : ∀ y : Int, bop .mod (.int y) (.int ((10 ^ 60) ^ 40)) = some (.d (.int (y.fmod ((10 ^ 60) ^ 40)))) := fun y => a_mod (by decide)
  have d2 := @a_mod x 2147483647 (by decide)
  have f2 := @fm x 2147483647 (by decide)
  have m1 : bop .mul (.int 1000) (.int k) = some (.d (.int (1000 * k))) := mulS (by decide) (lt6 (lg (x := (k : Int)) (by omega) (by omega)))
  generalize (10 : Int) ^ 18 = c18 at e1
  generalize ((10 : Int) ^ 60) ^ 40 = c40 at e3 d1
  generalize (10 : Int) ^ 60 = c60 at e2 e3
  refine ⟨[.int ((if x - c18 < 0 then 0 else x - c18).fmod c40), .int (x.fmod 2147483647), .int (1000 * k)], [.sc (ns.map .int), .fz (.int k), .fz (.int x)], ?_, ⟨_, _, _, rfl, f2.1, f2.2, by omega, by omega⟩⟩
  unfold sPurse
  simp [hpr, hpm, e, e1, e2, e3, d1, d2, m1]
/-- an item that is drawn -/
theorem at_of {α : Type} {l : List α} {r : Int} (h1 : 0 ≤ r) (h2 : r < l.length) : ∃ a, a ∈ l ∧ L2.atI l r = some a := by
  obtain ⟨n, rfl⟩ := Int.eq_ofNat_of_zero_le h1
  have hn : n < l.length := by omega
  exact ⟨l[n], List.getElem_mem hn, by rw [at_nat hn]; simp [hn]⟩
end Pl

namespace Pl
open PySem Mp
/-! Pc: loops; rows of the program. -/
theorem for_fold {α β : Type} {b : D → List Sl → Out} {enc : α → D} {St : β → List Sl → Prop} {f : β → α → β} : ∀ {l : List α}, (∀ s a G, a ∈ l → St s G → ∃ G', b (enc a) G = .nx G' ∧ St (f s a) G') → ∀ {s : β} {G : List Sl}, St s G → ∃ G', forF b (l.map enc) G = .nx G' ∧ St (l.foldl f s) G'
  | [], _, s, G, hs => ⟨G, rfl, hs⟩
  | a :: l, h, s, G, hs => by
    obtain ⟨G1, e1, h1⟩ := h s a G List.mem_cons_self hs
    obtain ⟨G2, e2, h2⟩ := for_fold (l := l) (fun s a G ha => h s a G (List.mem_cons_of_mem _ ha)) h1
    exact ⟨G2, by rw [List.map_cons, for_cons e1, e2], h2⟩
/-- the same, by turns -/
theorem for_ix {b : D → List Sl → Out} {St : Nat → List Sl → Prop} : ∀ {l : List D} {k : Nat}, (∀ j d G, l[j]? = some d → St (k + j) G → ∃ G', b d G = .nx G' ∧ St (k + j + 1) G') → ∀ {G : List Sl}, St k G → ∃ G', forF b l G = .nx G' ∧ St (k + l.length) G'
  | [], k, _, G, hs => ⟨G, rfl, hs⟩
  | d :: l, k, h, G, hs => by
    obtain ⟨G1, e1, h1⟩ := h 0 d G rfl hs
    obtain ⟨G2, e2, h2⟩ := for_ix (l := l) (k := k + 1) (fun j d G hj hs => by
      have := h (j + 1) d G (by simpa using hj) (by rw [show k + (j + 1) = k + 1 + j by omega]; exact hs)
      rw [show k + 1 + j + 1 = k + (j + 1) + 1 by omega]
      exact this) h1
    exact ⟨G2, by rw [for_cons e1, e2], by rw [List.length_cons, show k + (l.length + 1) = k + 1 + l.length by omega]; exact h2⟩
theorem lc_map {α : Type} {f : D → List Sl → Res (Option D)} {enc out : α → D} {St : List Sl → Prop} : ∀ {l : List α}, (∀ a G, a ∈ l → St G → ∃ G', f (enc a) G = .ok (some (out a)) G' ∧ St G') → ∀ {acc : List D} {G : List Sl}, acc.length + l.length ≤ sizeLine → St G → ∃ G', lcLoop f (l.map enc) acc G = .ok (acc ++ l.map out) G' ∧ St G'
  | [], _, acc, G, _, hs => ⟨G, by simp, hs⟩
  | a :: l, h, acc, G, hz, hs => by
    rw [List.length_cons] at hz
    obtain ⟨G1, e1, h1⟩ := h a G List.mem_cons_self hs
    obtain ⟨G2, e2, h2⟩ := lc_map (l := l) (fun a G ha => h a G (List.mem_cons_of_mem _ ha)) (acc := acc ++ [out a]) (by rw [List.length_append]; simp; omega) h1
    exact ⟨G2, by rw [List.map_cons, lc_cons e1 (by omega), e2]; simp, h2⟩
/-- two lists, item by item -/
inductive Two {α β : Type} (Q : α → β → Prop) : List α → List β → Prop where
  | nil : Two Q [] []
  | cons {a b l m} (h : Q a b) (t : Two Q l m) : Two Q (a :: l) (b :: m)
theorem Two.length {α β : Type} {Q : α → β → Prop} {l : List α} {m : List β} (h : Two Q l m) : m.length = l.length := by
  induction h with
  | nil => rfl
  | cons _ _ ih => simp [ih]
theorem lc_two {α : Type} {f : D → List Sl → Res (Option D)} {enc : α → D} {Q : α → D → Prop} {St : Nat → List Sl → Prop} {n : Nat} : ∀ {l : List α}, (∀ a k G, a ∈ l → St (k + 1) G → ∃ x G', f (enc a) G = .ok (some x) G' ∧ Q a x ∧ St k G') → ∀ {acc : List D} {G : List Sl}, acc.length + l.length ≤ sizeLine → St (n + l.length) G → ∃ xs G', lcLoop f (l.map enc) acc G = .ok (acc ++ xs) G' ∧ Two Q l xs ∧ St n G'
  | [], _, acc, G, _, hs => ⟨[], G, by simp, .nil, hs⟩
  | a :: l, h, acc, G, hz, hs => by
    rw [List.length_cons] at hz hs
    obtain ⟨x, G1, e1, q1, h1⟩ := h a (n + l.length) G List.mem_cons_self hs
    obtain ⟨xs, G2, e2, q2, h2⟩ := lc_two (l := l) (fun a k G ha => h a k G (List.mem_cons_of_mem _ ha)) (acc := acc ++ [x]) (by rw [List.length_append]; simp; omega) h1
    exact ⟨x :: xs, G2, by rw [List.map_cons, lc_cons e1 (by omega), e2]; simp, .cons q1 q2, h2⟩

/-! ### rows -/
/-- true: a rest -/
abbrev Pc := Bool × Rat
abbrev Row := List Pc
def kD (b : Bool) : D := .str (if b = true then "rest" else "note")
def pD (p : Pc) : D := .tup [kD p.1, tD p.2]
def rowD (r : Row) : D := .lst (r.map pD)
/-- a piece as it is handed in: its length otherwise told -/
def Told (p : Pc) (d : D) : Prop := ∃ a b : Int, d = .tup [kD p.1, tDs a b] ∧ b ≠ 0 ∧ b.natAbs.log2 < 8999 ∧ Rat.divInt a b = p.2
theorem k_eq (b : Bool) : eqD (kD b) (.str "rest") = some b := by cases b <;> decide +kernel
theorem k_in (b : Bool) : inD (kD b) [.str "note", .str "rest"] = some true := by cases b <;> decide +kernel
def Good (r : Row) : Prop := ∀ p ∈ r, Qs p.2 ∧ 0 < p.2

section
variable {c : Cf} {g g2 : Nat}
def sLowestRow (g : Nat) : Ss := (.cons (.ret (.lc [1, 2] (.t [(.n 1), (.n 2)]) (.e (.v 0)) .no (.tup (.cons (.v 1) (.cons (.call g (.cons (.v 2) .nil)) .nil)))))
  .nil)
def Must (f : List Sl → Cres) : Prop := ∀ a b : Int, b ≠ 0 → b.natAbs.log2 < 8999 → ∃ m, f [.fz (tDs a b)] = .ok (.d (tD (Rat.divInt a b))) m
theorem ev_lowestRow (hpm : c.pm g = [.f]) (hm : Must (c.cf g)) {r : Row} {ds : List D} (h : Two Told r ds) (hz : r.length ≤ sizeLine) : ∃ G', evSs c (sLowestRow g) [.fz (.lst ds), .no, .no] = .rt (.ol (r.map pD)) G' := by
  have key : ∀ {r : Row} {ds : List D}, Two Told r ds → ∀ {acc : List D}, acc.length + r.length ≤ sizeLine → ∀ D0, lcLoop (lcT c [1, 2] (.t [.n 1, .n 2]) .no (.tup (.cons (.v 1) (.cons (.call g (.cons (.v 2) .nil)) .nil)))) ds acc [.fz D0, .no, .no] = .ok (acc ++ r.map pD) [.fz D0, .no, .no] := fun {r ds} h => by
    induction h with
    | nil => intro acc _ D0; simp
    | @cons p d r ds h t ih =>
      intro acc hz D0
      rw [List.length_cons] at hz
      obtain ⟨a, b, rfl, hb, hs, e⟩ := h
      obtain ⟨m, e2⟩ := hm a b hb hs
      rw [e] at e2
      have turn : lcT c [1, 2] (.t [.n 1, .n 2]) .no (.tup (.cons (.v 1) (.cons (.call g (.cons (.v 2) .nil)) .nil))) (.tup [kD p.1, tDs a b]) [.fz D0, .no, .no] = .ok (some (pD p)) [.fz D0, .no, .no] := by
        simp [lcT, hpm, e2, pD, wipeG]
      rw [lc_cons turn (by omega), ih (by rw [List.length_append]; simp; omega)]
      simp
  unfold sLowestRow
  simp [plainA, wipeG]
  rw [key h (by simpa using hz)]
  simp [backG]
end
end Pl

namespace Pl
open PySem Mp
/-! Pd: comparing plain data. -/
inductive Pln : Nat → D → Prop where
  | non {n} : Pln n .non
  | bl {n b} : Pln n (.bl b)
  | int {n i} : Pln n (.int i)
  | str {n s} (h : PyData.canLay0 (.str s) = true) : Pln n (.str s)
  | tup {n l} (h : ∀ d ∈ l, Pln n d) : Pln (n + 1) (.tup l)
  | lst {n l} (h : ∀ d ∈ l, Pln n d) : Pln (n + 1) (.lst l)
theorem toPs_of {n : Nat} : ∀ {l : List D}, (∀ d ∈ l, ∃ p, D.toP d = some p ∧ p.canLay0 = true ∧ p.depth ≤ n) → ∃ ps, D.toPs l = some ps ∧ PyData.canLayAll0 ps = true ∧ PyData.depthAll ps ≤ n ∧ ps.length = l.length
  | [], _ => ⟨[], by simp [D.toPs, PyData.canLayAll0, PyData.depthAll]⟩
  | d :: l, h => by
    obtain ⟨p, e1, c1, d1⟩ := h d List.mem_cons_self
    obtain ⟨ps, e2, c2, d2, l2⟩ := toPs_of (l := l) fun d hd => h d (List.mem_cons_of_mem _ hd)
    refine ⟨p :: ps, ?_, ?_, ?_, by simp [l2]⟩
    · simp [D.toPs, e1, e2]
    · simp [PyData.canLayAll0, c1, c2]
    · simp only [PyData.depthAll]
      omega
theorem Pln.toP {n : Nat} {d : D} (h : Pln n d) : ∃ p, D.toP d = some p ∧ p.canLay0 = true ∧ p.depth ≤ n := by
  induction h with
  | non => exact ⟨.none, by simp [D.toP, PyData.canLay0, PyData.depth]⟩
  | bl => exact ⟨.bool _, by simp [D.toP, PyData.canLay0, PyData.depth]; rfl⟩
  | int => exact ⟨.int _, by simp [D.toP, PyData.canLay0, PyData.depth]; rfl⟩
  | str h => exact ⟨.str _, by simp [D.toP], h, by simp [PyData.depth]⟩
  | tup h ih =>
    obtain ⟨ps, e, c, dd, _⟩ := toPs_of ih
    exact ⟨.tuple ps, by simp [D.toP, e, PyData.canLay0, c, PyData.depth]; omega⟩
  | lst h ih =>
    obtain ⟨ps, e, c, dd, _⟩ := toPs_of ih
    exact ⟨.list ps, by simp [D.toP, e, PyData.canLay0, c, PyData.depth]; omega⟩
mutual
theorem eqv_refl : ∀ {p : PyData}, p.canLay0 = true → PyData.eqv p p = true
  | .none, _ => by simp [PyData.eqv]
  | .bool b, _ => by simp [PyData.eqv]
  | .int b, _ => by simp [PyData.eqv]
  | .str b, _ => by simp [PyData.eqv]
  | .list l, h => by
    rw [PyData.eqv]
    exact eqvAll_refl (by simpa [PyData.canLay0] using h)
  | .tuple l, h => by
    rw [PyData.eqv]
    exact eqvAll_refl (by simpa [PyData.canLay0] using h)
  | .dict l, h => by simp [PyData.canLay0] at h
theorem eqvAll_refl : ∀ {l : List PyData}, PyData.canLayAll0 l = true → PyData.eqvAll l l = true
  | [], _ => by simp [PyData.eqvAll]
  | p :: l, h => by
    simp [PyData.canLayAll0] at h
    simp [PyData.eqvAll, eqv_refl h.1, eqvAll_refl h.2]
end
theorem shaped_of {p : PyData} {n : Nat} (h : p.canLay0 = true) (hd : p.depth ≤ n) (hn : n ≤ 64) : SeqAt.shaped p = true := by
  unfold SeqAt.shaped
  rw [h]
  simp
  omega
theorem eqD_same {n : Nat} {d : D} (h : Pln n d) (hn : n ≤ 64 := by decide) : eqD d d = some true := by
  obtain ⟨p, e, c, dd⟩ := h.toP
  unfold eqD
  simp [e, shaped_of c dd hn, eqv_refl c]
theorem eqD_nil : eqD (.lst []) (.lst []) = some true := eqD_same (n := 1) (.lst fun d h => nomatch h)
theorem eqD_cn {n : Nat} {d : D} {l : List D} (h : Pln n (.lst (d :: l))) (hn : n ≤ 64 := by decide) : eqD (.lst (d :: l)) (.lst []) = some false := by
  obtain ⟨p, e, c, dd⟩ := h.toP
  have e0 : D.toP (.lst []) = some (.list []) := by simp [D.toP, D.toPs]
  have s0 : SeqAt.shaped (.list []) = true := by decide +kernel
  have key : PyData.eqv p (.list []) = false := by
    simp only [D.toP] at e
    cases q : D.toPs (d :: l) with
    | none => simp [q] at e
    | some ps =>
      rw [q] at e
      simp at e
      subst e
      have hl : ∃ a as, ps = a :: as := by
        simp only [D.toPs] at q
        split at q
        · cases q; exact ⟨_, _, rfl⟩
        · cases q
      obtain ⟨a, as, rfl⟩ := hl
      simp [PyData.eqv, PyData.eqvAll]
  unfold eqD
  simp [e, e0, s0, shaped_of c dd hn, key]
theorem pln_t {q : Rat} {n : Nat} : Pln (n + 1) (tD q) := .tup fun d h => by
  simp at h
  rcases h with rfl | rfl <;> exact .int
theorem pln_k {b : Bool} {n : Nat} : Pln n (kD b) := .str (by cases b <;> decide +kernel)
theorem pln_p {p : Pc} {n : Nat} : Pln (n + 2) (pD p) := .tup fun d h => by
  simp at h
  rcases h with rfl | rfl
  · exact pln_k
  · exact pln_t
theorem pln_row {r : Row} : Pln 3 (rowD r) := .lst fun d h => by
  obtain ⟨p, _, rfl⟩ := List.mem_map.mp h
  exact pln_p
end Pl

namespace Pl
open PySem Mp
/-! Pe: rows in whole parts of a beat. -/
def Bin (F : Rat → Rat → D) (f : List Sl → Cres) : Prop := ∀ p q, Qs p → Qs q → ∃ m, f [.fz (tD p), .fz (tD q)] = .ok (.d (F p q)) m
abbrev Plu := Bin fun p q => tD (p + q)
abbrev Les := Bin fun p q => tD (p - q)
abbrev Tim := Bin fun p q => tD (p * q)
abbrev Und := Bin fun p q => .bl (decide (p < q))
/-- so many parts make one -/
class Unt where
  m : Int
  pos : 0 < m
  le : m ≤ 1237940039285380274899124224
def M [U : Unt] : Int := U.m
theorem M_pos [U : Unt] : (0 : Int) < M := U.pos
theorem M_le [U : Unt] : (M : Int) ≤ 1237940039285380274899124224 := U.le
theorem M0 [Unt] : (M : Int) ≠ 0 := by have := M_pos; omega
def uR [Unt] (k : Int) : Rat := Rat.divInt k M
def tU [Unt] (k : Int) : D := tD (uR k)
theorem uR_add [Unt] (a b : Int) : uR a + uR b = uR (a + b) := by
  unfold uR
  rw [Rat.divInt_add_divInt _ _ M0 M0, ← Int.add_mul, Rat.divInt_mul_right M0]
theorem uR_sub [Unt] (a b : Int) : uR a - uR b = uR (a - b) := by
  unfold uR
  rw [Rat.divInt_sub_divInt _ _ M0 M0, ← Int.sub_mul, Rat.divInt_mul_right M0]
theorem uR_lt [Unt] (a b : Int) : (uR a < uR b) ↔ a < b := by
  unfold uR
  have h : (0 : Rat) < ((M : Int) : Rat) := Rat.intCast_lt_intCast.mpr M_pos
  rw [Rat.divInt_eq_div, Rat.divInt_eq_div, Rat.div_def, Rat.div_def, Rat.mul_lt_mul_right (Rat.inv_pos.mpr h), Rat.intCast_lt_intCast]
theorem uR_0 [Unt] : uR 0 = 0 := by unfold uR; rw [Rat.zero_divInt]
theorem uR_inj [Unt] {a b : Int} (h : uR a = uR b) : a = b := by
  have h1 : ¬ a < b := fun z => by
    have := (uR_lt a b).mpr z
    rw [h] at this
    exact Rat.lt_irrefl this
  have h2 : ¬ b < a := fun z => by
    have := (uR_lt b a).mpr z
    rw [h] at this
    exact Rat.lt_irrefl this
  omega
theorem nought [Unt] : D.tup [.int 0, .int 1] = tU 0 := by unfold tU; rw [uR_0]; rfl
theorem qs_u [Unt] {k : Int} (h : k.natAbs < 1237940039285380274899124225) : Qs (uR k) := by
  have hp := M_pos
  have hl := M_le
  have e1 : (uR k).num.natAbs ≤ k.natAbs := by
    unfold uR
    rw [Rat.num_divInt, Int.sign_eq_one_of_pos hp, Int.one_mul]
    exact Int.natAbs_ediv_le_natAbs _ _
  have e2 : (uR k).den ≤ 1237940039285380274899124224 := by
    unfold uR
    rw [Rat.den_divInt, if_neg M0]
    exact Nat.le_trans (Nat.div_le_self _ _) (by omega)
  constructor
  · refine log_lt (by omega) (Nat.lt_of_le_of_lt e1 (Nat.lt_trans h ?_))
    exact Nat.lt_of_lt_of_le (show 1237940039285380274899124225 < 2 ^ 91 by decide) (Nat.pow_le_pow_right (by omega) (by omega))
  · refine log_lt (by omega) (Nat.lt_of_le_of_lt (show ((uR k).den : Int).natAbs ≤ 1237940039285380274899124224 from e2) ?_)
    exact Nat.lt_of_lt_of_le (show 1237940039285380274899124224 < 2 ^ 91 by decide) (Nat.pow_le_pow_right (by omega) (by omega))
theorem qs0 [Unt] : Qs (uR 0) := qs_u (by decide)
/-! ### rows: kinds, lengths in parts -/
abbrev Un := Bool × Int
def pU [Unt] (p : Un) : D := .tup [kD p.1, tU p.2]
def rowU [Unt] (u : List Un) : D := .lst (u.map pU)
def tot (u : List Un) : Int := (u.map (·.2)).sum
def Gu (B : Int) (u : List Un) : Prop := (∀ p ∈ u, 0 < p.2) ∧ tot u ≤ B
theorem tot_nonneg {u : List Un} (h : ∀ p ∈ u, 0 < p.2) : 0 ≤ tot u := by
  induction u with
  | nil => simp [tot]
  | cons p u ih =>
    have h1 := h p List.mem_cons_self
    have h2 := ih fun p hp => h p (List.mem_cons_of_mem _ hp)
    unfold tot at h2 ⊢
    simp only [List.map_cons, List.sum_cons]
    omega
theorem tot_cons {p : Un} {u : List Un} : tot (p :: u) = p.2 + tot u := by simp [tot]
theorem tot_app {u v : List Un} : tot (u ++ v) = tot u + tot v := by simp [tot]
theorem le_tot {u : List Un} (h : ∀ p ∈ u, 0 < p.2) {p : Un} (hp : p ∈ u) : p.2 ≤ tot u := by
  induction u with
  | nil => cases hp
  | cons q u ih =>
    rw [tot_cons]
    have h1 := h q List.mem_cons_self
    have h3 : ∀ p ∈ u, 0 < p.2 := fun p hp => h p (List.mem_cons_of_mem _ hp)
    have h2 := tot_nonneg h3
    rcases List.mem_cons.mp hp with rfl | hp
    · omega
    · have := ih h3 hp
      omega
abbrev Bd : Int := 1237940039285380274899124224
theorem qs_b [Unt] {k : Int} (h1 : -Bd ≤ k) (h2 : k ≤ Bd) : Qs (uR k) := qs_u (by simp only [Bd] at h1 h2; omega)
def PluU [Unt] (f : List Sl → Cres) : Prop := ∀ a b : Int, -Bd ≤ a → a ≤ Bd → -Bd ≤ b → b ≤ Bd → ∃ m, f [.fz (tU a), .fz (tU b)] = .ok (.d (tU (a + b))) m
def LesU [Unt] (f : List Sl → Cres) : Prop := ∀ a b : Int, -Bd ≤ a → a ≤ Bd → -Bd ≤ b → b ≤ Bd → ∃ m, f [.fz (tU a), .fz (tU b)] = .ok (.d (tU (a - b))) m
def UndU [Unt] (f : List Sl → Cres) : Prop := ∀ a b : Int, -Bd ≤ a → a ≤ Bd → -Bd ≤ b → b ≤ Bd → ∃ m, f [.fz (tU a), .fz (tU b)] = .ok (.d (.bl (decide (a < b)))) m
theorem plu_u [Unt] {f : List Sl → Cres} (h : Plu f) : PluU f := fun a b h1 h2 h3 h4 => by
  obtain ⟨m, e⟩ := h (uR a) (uR b) (qs_b h1 h2) (qs_b h3 h4)
  simp only [uR_add] at e
  exact ⟨m, e⟩
theorem les_u [Unt] {f : List Sl → Cres} (h : Les f) : LesU f := fun a b h1 h2 h3 h4 => by
  obtain ⟨m, e⟩ := h (uR a) (uR b) (qs_b h1 h2) (qs_b h3 h4)
  simp only [uR_sub] at e
  exact ⟨m, e⟩
theorem und_u [Unt] {f : List Sl → Cres} (h : Und f) : UndU f := fun a b h1 h2 h3 h4 => by
  obtain ⟨m, e⟩ := h (uR a) (uR b) (qs_b h1 h2) (qs_b h3 h4)
  simp only [show decide (uR a < uR b) = decide (a < b) from decide_eq_decide.mpr (uR_lt a b)] at e
  exact ⟨m, e⟩
section
variable {c : Cf} {g g2 g3 : Nat}
def bMustPieces (g : Nat) : Ss := (.cons (.iff (.or (.cm .notIn (.v 1) (.k (.tup [(.str "note"), (.str "rest")]))) (.not (.call g (.cons (.k (.tup [(.int 0), (.int 1)])) (.cons (.v 2) .nil))))) (.cons .bad .nil) .nil)
  .nil)
def sMustPieces (g : Nat) : Ss := (.cons (.for (.t [(.n 1), (.n 2)]) (.e (.v 0)) (bMustPieces g))
  .nil)
theorem ev_mustPieces [Unt] (hpr : c.pr = false) (hpm : c.pm g = [.f, .f]) (hu : UndU (c.cf g)) {u : List Un} (hg : Gu Bd u) : ∃ G', evSs c (sMustPieces g) [.fz (rowU u), .no, .no] = .nx G' := by
  unfold sMustPieces
  simp [rowU]
  obtain ⟨G', e, s1, s2, rfl⟩ := for_fold (b := forT c (.t [.n 1, .n 2]) (bMustPieces g)) (enc := pU) (l := u) (f := fun (_ : Unit) (_ : Un) => ()) (St := fun _ G => ∃ s1 s2, G = [.fz (.lst (u.map pU)), s1, s2]) (fun s p G hp ⟨s1, s2, hG⟩ => by
    subst hG
    have q1 := hg.1 p hp
    have q2 := le_tot hg.1 hp
    have q3 := hg.2
    obtain ⟨m, e⟩ := hu 0 p.2 (by decide) (by decide) (by omega) (by omega)
    rw [← nought] at e
    refine ⟨[.fz (.lst (u.map pU)), .fz (kD p.1), .fz (tU p.2)], ?_, _, _, rfl⟩
    simp [forT, bMustPieces, pU, hpr, k_in, hpm, e, q1]) (s := ()) (G := [.fz (.lst (u.map pU)), .no, .no]) ⟨_, _, rfl⟩
  rw [e]
  simp
/-- rests that touch become one -/
def mg (acc : List Un) (p : Un) : List Un := match acc.getLast? with
  | some x => if (p.1 && x.1) = true then acc.dropLast ++ [(true, x.2 + p.2)] else acc ++ [p]
  | none => acc ++ [p]
def mergeU (r : List Un) : List Un := r.foldl mg []
theorem mg_nil {p : Un} : mg [] p = [p] := by rfl
theorem mg_sn {l : List Un} {x p : Un} : mg (l ++ [x]) p = if (p.1 && x.1) = true then l ++ [(true, x.2 + p.2)] else l ++ [x] ++ [p] := by
  unfold mg
  simp
theorem sn_cases {α : Type} (l : List α) : l = [] ∨ ∃ l' x, l = l' ++ [x] := by
  cases h : l.getLast? with
  | none => exact .inl (List.getLast?_eq_none_iff.mp h)
  | some x =>
    refine .inr ⟨l.dropLast, x, ?_⟩
    have hne : l ≠ [] := fun e => by subst e; simp at h
    have e : l.getLast? = some (l.getLast hne) := List.getLast?_eq_some_getLast hne
    rw [e] at h
    rw [← Option.some.inj h]
    exact (List.dropLast_concat_getLast hne).symm
theorem cut_last {l : List D} {x : D} : cutD (l ++ [x]) (some (-1)) none = [x] := by
  have e : (-1 + ((l ++ [x]).length : Int)).toNat = l.length := by rw [List.length_append]; simp; omega
  have s1 : HT.sIx (l ++ [x]).length 0 (some (-1)) = l.length := by
    show (if (-1 : Int) < 0 then (-1 + ((l ++ [x]).length : Int)).toNat else min (-1 : Int).toNat (l ++ [x]).length) = _
    rw [if_pos (by decide), e]
  have s2 : HT.sIx (l ++ [x]).length (l ++ [x]).length none = (l ++ [x]).length := by rfl
  unfold cutD
  rw [s1, s2]
  simp
theorem cut_nil : cutD [] (some (-1)) none = [] := by
  unfold cutD
  simp
theorem pln_u [Unt] {p : Un} {n : Nat} : Pln (n + 2) (pU p) := .tup fun d h => by
  simp at h
  rcases h with rfl | rfl
  · exact pln_k
  · exact pln_t
theorem pln_rowU [Unt] {r : List Un} : Pln 3 (.lst (r.map pU)) := .lst fun d h => by
  obtain ⟨p, _, rfl⟩ := List.mem_map.mp h
  exact pln_u
theorem pln_one [Unt] {p : Un} : Pln 3 (.lst [pU p]) := .lst fun d h => by
  simp at h
  rw [h]
  exact pln_u
theorem szl : 0 < sizeLine := by decide
def bKeptOf (g : Nat) : Ss := (.cons (.iff (.and (.cm .eq (.v 2) (.k (.str "rest"))) (.and (.cm .ne (.sl (.v 1) (.so (.neg (.k (.int 1)))) .no) (.lst .nil)) (.cm .eq (.ix (.ix (.v 1) (.neg (.k (.int 1)))) (.k (.int 0))) (.k (.str "rest"))))) (.cons (.asg (.n 3) (.call g (.cons (.ix (.lm .pop (.v 1) .nil) (.k (.int 1))) (.cons (.v 3) .nil))))
  .nil) .nil)
  (.cons (.ex (.lm .append (.v 1) (.cons (.tup (.cons (.v 2) (.cons (.v 3) .nil))) .nil)))
  .nil))
def sKeptOf (g : Nat) : Ss := (.cons (.asg (.n 1) (.lst .nil))
  (.cons (.for (.t [(.n 2), (.n 3)]) (.e (.v 0)) (bKeptOf g))
  (.cons (.ret (.v 1))
  .nil)))
/-- what a kept row is like, midway: at most n pieces, B parts in all -/
def Ku (n : Nat) (B : Int) (acc : List Un) : Prop := (∀ p ∈ acc, 0 < p.2) ∧ tot acc ≤ B ∧ acc.length ≤ n
theorem mg_ku {n : Nat} {B : Int} {acc : List Un} {p : Un} (h : Ku n B acc) (hp : 0 < p.2) : Ku (n + 1) (B + p.2) (mg acc p) := by
  obtain ⟨h1, h2, h3⟩ := h
  rcases sn_cases acc with rfl | ⟨l, x, rfl⟩
  · rw [mg_nil]
    refine ⟨fun q hq => ?_, ?_, by simp⟩
    · rw [List.mem_singleton.mp hq]; exact hp
    · simp [tot] at h2 ⊢; omega
  · rw [mg_sn]
    rw [tot_app] at h2
    have hx := h1 x (by simp)
    split
    · refine ⟨fun q hq => ?_, ?_, by simp at h3 ⊢; omega⟩
      · rcases List.mem_append.mp hq with hq | hq
        · exact h1 q (List.mem_append_left _ hq)
        · rw [List.mem_singleton.mp hq]
          show 0 < x.2 + p.2
          omega
      · rw [tot_app]
        simp [tot] at h2 ⊢
        omega
    · refine ⟨fun q hq => ?_, ?_, by simp at h3 ⊢; omega⟩
      · rcases List.mem_append.mp hq with hq | hq
        · exact h1 q hq
        · rw [List.mem_singleton.mp hq]; exact hp
      · rw [tot_app, tot_app]
        simp [tot] at h2 ⊢
        omega
theorem turn_keptOf [Unt] (hpr : c.pr = false) (hpm : c.pm g = [.f, .f]) (hu : PluU (c.cf g)) {R : D} {acc : List Un} {p : Un} {s2 s3 : Sl} (h1 : ∀ p ∈ acc, 0 < p.2) (h2 : tot acc ≤ Bd) (hp : 0 < p.2) (hp2 : p.2 ≤ Bd) (hz : acc.length < sizeLine) :
    ∃ s4, forT c (.t [.n 2, .n 3]) (bKeptOf g) (pU p) [.fz R, .ol (acc.map pU), s2, s3] = .nx [.fz R, .ol ((mg acc p).map pU), .fz (kD p.1), s4] := by
  rcases sn_cases acc with rfl | ⟨l, x, rfl⟩
  · refine ⟨.fz (tU p.2), ?_⟩
    rw [mg_nil]
    cases hb : p.1 <;> simp [forT, bKeptOf, pU, hpr, k_eq, hb, slF, cut_nil, eqD_nil, intR, szl]
  · have hx := h1 x (by simp)
    have hxt : x.2 ≤ Bd := Int.le_trans (le_tot h1 (by simp)) h2
    obtain ⟨m, e⟩ := hu x.2 p.2 (by omega) hxt (by omega) hp2
    have c1 := cut_last (l := l.map pU) (x := .tup [kD x.1, tU x.2])
    have c2 : eqD (.lst [.tup [kD x.1, tU x.2]]) (.lst []) = some false := eqD_cn (pln_one (p := x))
    have c3 := at_last (l := l.map pU) (a := D.tup [kD x.1, tU x.2])
    have c4 := lm_popL (l := l.map pU) (d := .tup [kD x.1, tU x.2])
    have hz' : l.length + 1 < sizeLine := by simpa using hz
    have hz2 : l.length < sizeLine := by omega
    rw [mg_sn]
    cases hb : p.1
    · refine ⟨.fz (tU p.2), ?_⟩
      simp [forT, bKeptOf, pU, hpr, k_eq, hb, slF, intR, hz']
    · cases hbx : x.1
      · refine ⟨.fz (tU p.2), ?_⟩
        rw [hbx] at c1 c2 c3 c4
        simp [forT, bKeptOf, pU, hpr, k_eq, hb, hbx, slF, intR, hz', c1, c2, c3]
      · refine ⟨.fz (tU (x.2 + p.2)), ?_⟩
        rw [hbx] at c1 c2 c3 c4
        simp [forT, bKeptOf, pU, hpr, hpm, k_eq, hb, hbx, slF, intR, hz2, c1, c2, c3, c4, e]
end
end Pl

namespace Pl
open PySem Mp
/-! Pf: the program's rows, on. -/
section
variable {c : Cf} {g g2 g3 g4 g5 : Nat}
theorem loop_keptOf [Unt] (hpr : c.pr = false) (hpm : c.pm g = [.f, .f]) (hu : PluU (c.cf g)) {R : D} : ∀ {u acc : List Un} {s2 s3 : Sl}, (∀ p ∈ acc, 0 < p.2) → (∀ p ∈ u, 0 < p.2) → tot acc + tot u ≤ Bd → acc.length + u.length ≤ sizeLine →
    ∃ s4 s5, forF (forT c (.t [.n 2, .n 3]) (bKeptOf g)) (u.map pU) [.fz R, .ol (acc.map pU), s2, s3] = .nx [.fz R, .ol ((u.foldl mg acc).map pU), s4, s5]
  | [], acc, s2, s3, _, _, _, _ => ⟨s2, s3, rfl⟩
  | p :: u, acc, s2, s3, h1, h2, h3, h4 => by
    rw [tot_cons] at h3
    rw [List.length_cons] at h4
    have hp := h2 p List.mem_cons_self
    have hu' : ∀ p ∈ u, 0 < p.2 := fun p hp => h2 p (List.mem_cons_of_mem _ hp)
    have t1 := tot_nonneg h1
    have t2 := tot_nonneg hu'
    obtain ⟨s4, e⟩ := turn_keptOf (R := R) (s2 := s2) (s3 := s3) hpr hpm hu h1 (by omega) hp (by omega) (by omega)
    obtain ⟨k1, k2, k3⟩ := mg_ku (n := acc.length) (B := tot acc) ⟨h1, by omega, by omega⟩ hp
    obtain ⟨s5, s6, e2⟩ := loop_keptOf hpr hpm hu (R := R) (u := u) (acc := mg acc p) (s2 := .fz (kD p.1)) (s3 := s4) k1 hu' (by omega) (by omega)
    exact ⟨s5, s6, by rw [List.map_cons, for_cons e, e2]; rfl⟩
theorem ev_keptOf [Unt] (hpr : c.pr = false) (hpm : c.pm g = [.f, .f]) (hu : PluU (c.cf g)) {u : List Un} (hg : Gu Bd u) (hz : u.length ≤ sizeLine) : ∃ s4 s5, evSs c (sKeptOf g) [.fz (rowU u), .no, .no, .no] = .rt (.al 1) [.fz (rowU u), .ol ((mergeU u).map pU), s4, s5] := by
  obtain ⟨s4, s5, e⟩ := loop_keptOf hpr hpm hu (R := rowU u) (u := u) (acc := []) (s2 := .no) (s3 := .no) (fun p h => nomatch h) hg.1 (by have := hg.2; simp [tot] at this ⊢; omega) (by simpa using hz)
  refine ⟨s4, s5, ?_⟩
  unfold sKeptOf
  simp [rowU, hpr] at e ⊢
  rw [e]
  simp [mergeU]
/-- what a callee does -/
def LowRow (f : List Sl → Cres) : Prop := ∀ (r : Row) (ds : List D), Two Told r ds → r.length ≤ sizeLine → ∃ m, f [.fz (.lst ds)] = .ok (.ol (r.map pD)) m
def MustP [Unt] (f : List Sl → Cres) : Prop := ∀ u : List Un, Gu Bd u → ∃ m, f [.fz (rowU u)] = .ok (.d .non) m
def KeptOf [Unt] (f : List Sl → Cres) : Prop := ∀ u : List Un, Gu Bd u → u.length ≤ sizeLine → ∃ m, f [.fz (rowU u)] = .ok (.ol ((mergeU u).map pU)) m
def uP [Unt] (p : Un) : Pc := (p.1, uR p.2)
theorem pD_uP [Unt] {p : Un} : pD (uP p) = pU p := by rfl
theorem map_uP [Unt] {u : List Un} : (u.map uP).map pD = u.map pU := by
  rw [List.map_map]
  rfl
def sMustRow (g g2 g3 : Nat) : Ss := (.cons (.asg (.n 1) (.call g (.cons (.v 0) .nil)))
  (.cons (.ex (.call g2 (.cons (.v 1) .nil)))
  (.cons (.ret (.call g3 (.cons (.v 1) .nil)))
  .nil)))
theorem ev_mustRow [Unt] (hpr : c.pr = false) (h1 : c.pm g = [.f]) (h2 : c.pm g2 = [.f]) (h3 : c.pm g3 = [.f]) (l1 : LowRow (c.cf g)) (l2 : MustP (c.cf g2)) (l3 : KeptOf (c.cf g3)) {u : List Un} {ds : List D} (t : Two Told (u.map uP) ds) (hg : Gu Bd u) (hz : u.length ≤ sizeLine) :
    ∃ G', evSs c (sMustRow g g2 g3) [.fz (.lst ds), .no] = .rt (.ol ((mergeU u).map pU)) G' := by
  obtain ⟨m1, e1⟩ := l1 _ _ t (by simpa using hz)
  obtain ⟨m2, e2⟩ := l2 u hg
  obtain ⟨m3, e3⟩ := l3 u hg hz
  rw [map_uP] at e1
  unfold rowU at e2 e3
  unfold sMustRow
  simp [hpr, h1, h2, h3, e1, e2, e3]
/-- a row, told otherwise, becomes the kept one -/
def MustRow [Unt] (f : List Sl → Cres) : Prop := ∀ (u : List Un) (ds : List D), Two Told (u.map uP) ds → Gu Bd u → u.length ≤ sizeLine → ∃ m, f [.fz (.lst ds)] = .ok (.ol ((mergeU u).map pU)) m
def sKept (g : Nat) : Ss := (.cons (.ret (.call g (.cons (.v 0) .nil)))
  .nil)
theorem ev_kept [Unt] (h1 : c.pm g = [.f]) (l1 : MustRow (c.cf g)) {u : List Un} {ds : List D} (t : Two Told (u.map uP) ds) (hg : Gu Bd u) (hz : u.length ≤ sizeLine) : ∃ G', evSs c (sKept g) [.fz (.lst ds)] = .rt (.ol ((mergeU u).map pU)) G' := by
  obtain ⟨m1, e1⟩ := l1 _ _ t hg hz
  unfold sKept
  simp [h1, e1]
def sTurned (g : Nat) : Ss := (.cons (.ret (.rev (.call g (.cons (.v 0) .nil))))
  .nil)
theorem ev_turned [Unt] (h1 : c.pm g = [.f]) (l1 : MustRow (c.cf g)) {u : List Un} {ds : List D} (t : Two Told (u.map uP) ds) (hg : Gu Bd u) (hz : u.length ≤ sizeLine) : ∃ G', evSs c (sTurned g) [.fz (.lst ds)] = .rt (.ol ((mergeU u).map pU).reverse) G' := by
  obtain ⟨m1, e1⟩ := l1 _ _ t hg hz
  unfold sTurned
  simp [h1, e1]
def bWholeOf (g : Nat) : Ss := (.cons (.asg (.n 1) (.call g (.cons (.v 1) (.cons (.v 3) .nil))))
  .nil)
def sWholeOf (g : Nat) : Ss := (.cons (.asg (.n 1) (.k (.tup [(.int 0), (.int 1)])))
  (.cons (.for (.t [(.n 2), (.n 3)]) (.e (.v 0)) (bWholeOf g))
  (.cons (.ret (.v 1))
  .nil)))
theorem loop_wholeOf [Unt] (hpr : c.pr = false) (hpm : c.pm g = [.f, .f]) (hu : PluU (c.cf g)) {R : D} : ∀ {u : List Un} {a : Int} {s2 s3 : Sl}, 0 ≤ a → (∀ p ∈ u, 0 < p.2) → a + tot u ≤ Bd →
    ∃ s4 s5, forF (forT c (.t [.n 2, .n 3]) (bWholeOf g)) (u.map pU) [.fz R, .fz (tU a), s2, s3] = .nx [.fz R, .fz (tU (a + tot u)), s4, s5]
  | [], a, s2, s3, _, _, _ => ⟨s2, s3, by simp [tot]⟩
  | p :: u, a, s2, s3, h1, h2, h3 => by
    rw [tot_cons] at h3
    have hp := h2 p List.mem_cons_self
    have hu' : ∀ p ∈ u, 0 < p.2 := fun p hp => h2 p (List.mem_cons_of_mem _ hp)
    have t2 := tot_nonneg hu'
    obtain ⟨m, e⟩ := hu a p.2 (by omega) (by omega) (by omega) (by omega)
    have turn : forT c (.t [.n 2, .n 3]) (bWholeOf g) (pU p) [.fz R, .fz (tU a), s2, s3] = .nx [.fz R, .fz (tU (a + p.2)), .fz (kD p.1), .fz (tU p.2)] := by
      simp [forT, bWholeOf, pU, hpr, hpm, e]
    obtain ⟨s5, s6, e2⟩ := loop_wholeOf hpr hpm hu (R := R) (u := u) (a := a + p.2) (s2 := .fz (kD p.1)) (s3 := .fz (tU p.2)) (by omega) hu' (by omega)
    exact ⟨s5, s6, by rw [List.map_cons, for_cons turn, e2, tot_cons, Int.add_assoc]⟩
theorem ev_wholeOf [Unt] (hpr : c.pr = false) (hpm : c.pm g = [.f, .f]) (hu : PluU (c.cf g)) {u : List Un} (hg : Gu Bd u) : ∃ G', evSs c (sWholeOf g) [.fz (rowU u), .no, .no, .no] = .rt (.d (tU (tot u))) G' := by
  obtain ⟨s4, s5, e⟩ := loop_wholeOf hpr hpm hu (R := rowU u) (u := u) (a := 0) (s2 := .no) (s3 := .no) (by omega) hg.1 (by have := hg.2; omega)
  unfold sWholeOf
  simp [rowU, hpr, nought] at e ⊢
  rw [e]
  simp
def WholeOf [Unt] (f : List Sl → Cres) : Prop := ∀ u : List Un, Gu Bd u → ∃ m, f [.fz (rowU u)] = .ok (.d (tU (tot u))) m
theorem tot_mg {acc : List Un} {p : Un} : tot (mg acc p) = tot acc + p.2 := by
  rcases sn_cases acc with rfl | ⟨l, x, rfl⟩
  · rw [mg_nil]; simp [tot]
  · rw [mg_sn]
    split
    · rw [tot_app, tot_app]; simp [tot]; omega
    · rw [tot_app]; simp [tot]
theorem mergeU_ok : ∀ {u acc : List Un}, (∀ p ∈ acc, 0 < p.2) → (∀ p ∈ u, 0 < p.2) → (∀ p ∈ u.foldl mg acc, 0 < p.2) ∧ tot (u.foldl mg acc) = tot acc + tot u ∧ (u.foldl mg acc).length ≤ acc.length + u.length
  | [], acc, h1, _ => ⟨h1, by simp [tot], by simp⟩
  | p :: u, acc, h1, h2 => by
    obtain ⟨k1, k2, k3⟩ := mg_ku (n := acc.length) (B := tot acc) ⟨h1, by omega, by omega⟩ (h2 p List.mem_cons_self)
    obtain ⟨q1, q2, q3⟩ := mergeU_ok (u := u) (acc := mg acc p) k1 fun p hp => h2 p (List.mem_cons_of_mem _ hp)
    refine ⟨q1, ?_, ?_⟩
    · rw [List.foldl_cons, q2, tot_mg, tot_cons]; omega
    · rw [List.foldl_cons, List.length_cons]; omega
theorem merge_gu {u : List Un} {B : Int} (h : Gu B u) : Gu B (mergeU u) ∧ (mergeU u).length ≤ u.length ∧ tot (mergeU u) = tot u := by
  obtain ⟨h1, h2, h3⟩ := mergeU_ok (u := u) (acc := []) (fun p h => nomatch h) h.1
  have e : tot (mergeU u) = tot u := by unfold mergeU; rw [h2]; simp [tot]
  exact ⟨⟨h1, by rw [e]; exact h.2⟩, by rw [List.length_nil, Nat.zero_add] at h3; exact h3, e⟩
def sLengthOf (g g2 : Nat) : Ss := (.cons (.ret (.call g (.cons (.call g2 (.cons (.v 0) .nil)) .nil)))
  .nil)
theorem ev_lengthOf [Unt] (h1 : c.pm g = [.f]) (h2 : c.pm g2 = [.f]) (l1 : WholeOf (c.cf g)) (l2 : MustRow (c.cf g2)) {u : List Un} {ds : List D} (t : Two Told (u.map uP) ds) (hg : Gu Bd u) (hz : u.length ≤ sizeLine) : ∃ G', evSs c (sLengthOf g g2) [.fz (.lst ds)] = .rt (.d (tU (tot u))) G' := by
  obtain ⟨m1, e1⟩ := l2 _ _ t hg hz
  obtain ⟨k1, k2, k3⟩ := merge_gu hg
  obtain ⟨m2, e2⟩ := l1 _ k1
  rw [k3] at e2
  unfold rowU at e2
  unfold sLengthOf
  simp [h1, h2, e1, e2]
end
end Pl

namespace Pl
open PySem Mp
/-! Pg: spans, cuts, turns of the program's rows. -/
abbrev Sp := Bool × Int × Int
def sD [Unt] (s : Sp) : D := .tup [kD s.1, tU s.2.1, tU s.2.2]
def spF : Int → List Un → List Sp
  | _, [] => []
  | t, p :: u => (p.1, t, t + p.2) :: spF (t + p.2) u
theorem spF_len : ∀ {u : List Un} {t : Int}, (spF t u).length = u.length
  | [], _ => rfl
  | p :: u, t => by simp [spF, spF_len]
theorem spF_in : ∀ {u : List Un} {t : Int}, (∀ p ∈ u, 0 < p.2) → ∀ s ∈ spF t u, t ≤ s.2.1 ∧ s.2.1 < s.2.2 ∧ s.2.2 ≤ t + tot u
  | [], t, _, s, hs => nomatch hs
  | p :: u, t, h, s, hs => by
    have hp := h p List.mem_cons_self
    have hu' : ∀ p ∈ u, 0 < p.2 := fun p hp => h p (List.mem_cons_of_mem _ hp)
    have t2 := tot_nonneg hu'
    rw [tot_cons]
    rcases List.mem_cons.mp hs with rfl | hs
    · exact ⟨by simp, by simp; omega, by simp; omega⟩
    · obtain ⟨k1, k2, k3⟩ := spF_in hu' s hs
      exact ⟨by omega, k2, by omega⟩
/-- a span between two times -/
def cutS (a b : Int) (s : Sp) : Option Un :=
  let lo := if s.2.1 < a then a else s.2.1
  let hi := if b < s.2.2 then b else s.2.2
  if lo < hi then some (s.1, hi - lo) else none
section
variable {c : Cf} {g g2 g3 g4 g5 g6 : Nat}
def bSpansOf (g : Nat) : Ss := (.cons (.ex (.lm .append (.v 1) (.cons (.tup (.cons (.v 3) (.cons (.v 2) (.cons (.call g (.cons (.v 2) (.cons (.v 4) .nil))) .nil)))) .nil)))
  (.cons (.asg (.n 2) (.call g (.cons (.v 2) (.cons (.v 4) .nil))))
  .nil))
def sSpansOf (g : Nat) : Ss := (.cons (.asg (.n 1) (.lst .nil))
  (.cons (.asg (.n 2) (.k (.tup [(.int 0), (.int 1)])))
  (.cons (.for (.t [(.n 3), (.n 4)]) (.e (.v 0)) (bSpansOf g))
  (.cons (.ret (.v 1))
  .nil))))
theorem loop_spansOf [Unt] (hpr : c.pr = false) (hpm : c.pm g = [.f, .f]) (hu : PluU (c.cf g)) {R : D} : ∀ {u : List Un} {a : Int} {acc : List D} {s3 s4 : Sl}, 0 ≤ a → (∀ p ∈ u, 0 < p.2) → a + tot u ≤ Bd → acc.length + u.length ≤ sizeLine →
    ∃ s5 s6, forF (forT c (.t [.n 3, .n 4]) (bSpansOf g)) (u.map pU) [.fz R, .ol acc, .fz (tU a), s3, s4] = .nx [.fz R, .ol (acc ++ (spF a u).map sD), .fz (tU (a + tot u)), s5, s6]
  | [], a, acc, s3, s4, _, _, _, _ => ⟨s3, s4, by simp [tot, spF]⟩
  | p :: u, a, acc, s3, s4, h1, h2, h3, h4 => by
    rw [tot_cons] at h3
    rw [List.length_cons] at h4
    have hp := h2 p List.mem_cons_self
    have hu' : ∀ p ∈ u, 0 < p.2 := fun p hp => h2 p (List.mem_cons_of_mem _ hp)
    have t2 := tot_nonneg hu'
    obtain ⟨m, e⟩ := hu a p.2 (by omega) (by omega) (by omega) (by omega)
    have hz : acc.length < sizeLine := by omega
    have turn : forT c (.t [.n 3, .n 4]) (bSpansOf g) (pU p) [.fz R, .ol acc, .fz (tU a), s3, s4] = .nx [.fz R, .ol (acc ++ [sD (p.1, a, a + p.2)]), .fz (tU (a + p.2)), .fz (kD p.1), .fz (tU p.2)] := by
      simp [forT, bSpansOf, pU, sD, hpr, hpm, e, hz]
    obtain ⟨s5, s6, e2⟩ := loop_spansOf hpr hpm hu (R := R) (u := u) (a := a + p.2) (acc := acc ++ [sD (p.1, a, a + p.2)]) (s3 := .fz (kD p.1)) (s4 := .fz (tU p.2)) (by omega) hu' (by omega) (by simp; omega)
    exact ⟨s5, s6, by rw [List.map_cons, for_cons turn, e2, tot_cons, Int.add_assoc]; simp [spF]⟩
theorem ev_spansOf [Unt] (hpr : c.pr = false) (hpm : c.pm g = [.f, .f]) (hu : PluU (c.cf g)) {u : List Un} (hg : Gu Bd u) (hz : u.length ≤ sizeLine) : ∃ s2 s3 s4, evSs c (sSpansOf g) [.fz (rowU u), .no, .no, .no, .no] = .rt (.al 1) [.fz (rowU u), .ol ((spF 0 u).map sD), s2, s3, s4] := by
  obtain ⟨s5, s6, e⟩ := loop_spansOf hpr hpm hu (R := rowU u) (u := u) (a := 0) (acc := []) (s3 := .no) (s4 := .no) (by omega) hg.1 (by have := hg.2; omega) (by simpa using hz)
  refine ⟨.fz (tU (0 + tot u)), s5, s6, ?_⟩
  unfold sSpansOf
  simp [rowU, hpr, nought] at e ⊢
  rw [e]
  simp
def SpansOf [Unt] (f : List Sl → Cres) : Prop := ∀ u : List Un, Gu Bd u → u.length ≤ sizeLine → ∃ m, f [.fz (rowU u)] = .ok (.ol ((spF 0 u).map sD)) m
def bCutOf (g2 g3 : Nat) : Ss := (.cons (.asg (.n 5) (.ite (.call g2 (.cons (.v 5) (.cons (.v 1) .nil))) (.v 1) (.v 5)))
  (.cons (.asg (.n 6) (.ite (.call g2 (.cons (.v 2) (.cons (.v 6) .nil))) (.v 2) (.v 6)))
  (.cons (.iff (.call g2 (.cons (.v 5) (.cons (.v 6) .nil))) (.cons (.ex (.lm .append (.v 3) (.cons (.tup (.cons (.v 4) (.cons (.call g3 (.cons (.v 6) (.cons (.v 5) .nil))) .nil))) .nil)))
  .nil) .nil)
  .nil)))
def sCutOf (g g2 g3 : Nat) : Ss := (.cons (.asg (.n 3) (.lst .nil))
  (.cons (.for (.t [(.n 4), (.n 5), (.n 6)]) (.e (.call g (.cons (.v 0) .nil))) (bCutOf g2 g3))
  (.cons (.ret (.v 3))
  .nil)))
theorem turn_cutOf [Unt] (hpr : c.pr = false) (h2 : c.pm g2 = [.f, .f]) (h3 : c.pm g3 = [.f, .f]) (l2 : UndU (c.cf g2)) (l3 : LesU (c.cf g3)) {R : D} {a b : Int} {acc : List D} {s : Sp} {s4 s5 s6 : Sl} (ha : 0 ≤ a) (ha2 : a ≤ Bd) (hb : 0 ≤ b) (hb2 : b ≤ Bd) (q1 : 0 ≤ s.2.1) (q2 : s.2.1 < s.2.2) (q3 : s.2.2 ≤ Bd) (hz : acc.length < sizeLine) :
    ∃ s7 s8 s9, forT c (.t [.n 4, .n 5, .n 6]) (bCutOf g2 g3) (sD s) [.fz R, .fz (tU a), .fz (tU b), .ol acc, s4, s5, s6] = .nx [.fz R, .fz (tU a), .fz (tU b), .ol (acc ++ ((cutS a b s).map pU).toList), s7, s8, s9] := by
  obtain ⟨k, lo, hi⟩ := s
  simp only at q1 q2 q3
  obtain ⟨m1, e1⟩ := l2 lo a (by omega) (by omega) (by omega) ha2
  obtain ⟨m2, e2⟩ := l2 b hi (by omega) hb2 (by omega) q3
  generalize hlo : (if lo < a then a else lo) = lo'
  generalize hhi : (if b < hi then b else hi) = hi'
  have blo : 0 ≤ lo' ∧ lo' ≤ Bd := by rw [← hlo]; split <;> omega
  have bhi : 0 ≤ hi' ∧ hi' ≤ Bd := by rw [← hhi]; split <;> omega
  obtain ⟨m3, e3⟩ := l2 lo' hi' (by omega) blo.2 (by omega) bhi.2
  obtain ⟨m4, e4⟩ := l3 hi' lo' (by omega) bhi.2 (by omega) blo.2
  have ec : cutS a b (k, lo, hi) = if lo' < hi' then some (k, hi' - lo') else none := by
    unfold cutS
    simp only [hlo, hhi]
  rw [ec]
  have r1 : evS c (.asg (.n 5) (.ite (.call g2 (.cons (.v 5) (.cons (.v 1) .nil))) (.v 1) (.v 5))) [.fz R, .fz (tU a), .fz (tU b), .ol acc, .fz (kD k), .fz (tU lo), .fz (tU hi)] = .nx [.fz R, .fz (tU a), .fz (tU b), .ol acc, .fz (kD k), .fz (tU lo'), .fz (tU hi)] := by
    rw [← hlo]
    by_cases h : lo < a <;> simp [hpr, h2, e1, h]
  have r2 : evS c (.asg (.n 6) (.ite (.call g2 (.cons (.v 2) (.cons (.v 6) .nil))) (.v 2) (.v 6))) [.fz R, .fz (tU a), .fz (tU b), .ol acc, .fz (kD k), .fz (tU lo'), .fz (tU hi)] = .nx [.fz R, .fz (tU a), .fz (tU b), .ol acc, .fz (kD k), .fz (tU lo'), .fz (tU hi')] := by
    rw [← hhi]
    by_cases h : b < hi <;> simp [hpr, h2, e2, h]
  refine ⟨.fz (kD k), .fz (tU lo'), .fz (tU hi'), ?_⟩
  simp [forT, sD, hpr]
  unfold bCutOf
  rw [v_scons, r1, q_nx, v_scons, r2, q_nx]
  by_cases h : lo' < hi' <;> simp [h2, h3, e3, e4, h, hz, pU]
theorem loop_cutOf [Unt] (hpr : c.pr = false) (h2 : c.pm g2 = [.f, .f]) (h3 : c.pm g3 = [.f, .f]) (l2 : UndU (c.cf g2)) (l3 : LesU (c.cf g3)) {R : D} {a b : Int} (ha : 0 ≤ a) (ha2 : a ≤ Bd) (hb : 0 ≤ b) (hb2 : b ≤ Bd) : ∀ {l : List Sp} {acc : List D} {s4 s5 s6 : Sl}, (∀ s ∈ l, 0 ≤ s.2.1 ∧ s.2.1 < s.2.2 ∧ s.2.2 ≤ Bd) → acc.length + l.length ≤ sizeLine →
    ∃ s7 s8 s9, forF (forT c (.t [.n 4, .n 5, .n 6]) (bCutOf g2 g3)) (l.map sD) [.fz R, .fz (tU a), .fz (tU b), .ol acc, s4, s5, s6] = .nx [.fz R, .fz (tU a), .fz (tU b), .ol (acc ++ (l.filterMap (cutS a b)).map pU), s7, s8, s9]
  | [], acc, s4, s5, s6, _, _ => ⟨s4, s5, s6, by simp⟩
  | s :: l, acc, s4, s5, s6, h, hz => by
    rw [List.length_cons] at hz
    obtain ⟨q1, q2, q3⟩ := h s List.mem_cons_self
    obtain ⟨s7, s8, s9, e⟩ := turn_cutOf (R := R) (s4 := s4) (s5 := s5) (s6 := s6) hpr h2 h3 l2 l3 ha ha2 hb hb2 q1 q2 q3 (acc := acc) (by omega)
    have hlen : (((cutS a b s).map pU).toList).length ≤ 1 := by cases cutS a b s <;> simp
    obtain ⟨t7, t8, t9, e2⟩ := loop_cutOf hpr h2 h3 l2 l3 (R := R) ha ha2 hb hb2 (l := l) (acc := acc ++ ((cutS a b s).map pU).toList) (s4 := s7) (s5 := s8) (s6 := s9) (fun s hs => h s (List.mem_cons_of_mem _ hs)) (by rw [List.length_append]; omega)
    refine ⟨t7, t8, t9, ?_⟩
    rw [List.map_cons, for_cons e, e2]
    cases h9 : cutS a b s <;> simp [h9]
theorem ev_cutOf [Unt] (hpr : c.pr = false) (h1 : c.pm g = [.f]) (h2 : c.pm g2 = [.f, .f]) (h3 : c.pm g3 = [.f, .f]) (l1 : SpansOf (c.cf g)) (l2 : UndU (c.cf g2)) (l3 : LesU (c.cf g3)) {u : List Un} {a b : Int} (hg : Gu Bd u) (hz : u.length ≤ sizeLine) (ha : 0 ≤ a) (ha2 : a ≤ Bd) (hb : 0 ≤ b) (hb2 : b ≤ Bd) :
    ∃ s4 s5 s6, evSs c (sCutOf g g2 g3) [.fz (rowU u), .fz (tU a), .fz (tU b), .no, .no, .no, .no] = .rt (.al 3) [.fz (rowU u), .fz (tU a), .fz (tU b), .ol (((spF 0 u).filterMap (cutS a b)).map pU), s4, s5, s6] := by
  obtain ⟨m1, e1⟩ := l1 u hg hz
  obtain ⟨s7, s8, s9, e⟩ := loop_cutOf hpr h2 h3 l2 l3 (R := rowU u) ha ha2 hb hb2 (l := spF 0 u) (acc := []) (s4 := .no) (s5 := .no) (s6 := .no) (fun s hs => by
    obtain ⟨k1, k2, k3⟩ := spF_in hg.1 s hs
    have := hg.2
    exact ⟨k1, k2, by omega⟩) (by simpa [spF_len] using hz)
  refine ⟨s7, s8, s9, ?_⟩
  unfold sCutOf
  simp [hpr, h1, e1]
  rw [e]
  simp
def CutOf [Unt] (f : List Sl → Cres) : Prop := ∀ (u : List Un) (a b : Int), Gu Bd u → u.length ≤ sizeLine → 0 ≤ a → a ≤ Bd → 0 ≤ b → b ≤ Bd → ∃ m, f [.fz (rowU u), .fz (tU a), .fz (tU b)] = .ok (.ol (((spF 0 u).filterMap (cutS a b)).map pU)) m
/-- a time told otherwise -/
def ToldT (q : Rat) (d : D) : Prop := ∃ a b : Int, d = tDs a b ∧ b ≠ 0 ∧ b.natAbs.log2 < 8999 ∧ Rat.divInt a b = q
def sCut (g g2 g3 g4 g5 : Nat) : Ss := (.cons (.asg (.n 3) (.call g (.cons (.v 1) .nil)))
  (.cons (.asg (.n 4) (.call g (.cons (.v 2) .nil)))
  (.cons (.asg (.n 5) (.call g2 (.cons (.v 0) .nil)))
  (.cons (.iff (.or (.call g3 (.cons (.v 3) (.cons (.k (.tup [(.int 0), (.int 1)])) .nil))) (.or (.not (.call g3 (.cons (.v 3) (.cons (.v 4) .nil)))) (.call g3 (.cons (.call g4 (.cons (.v 5) .nil)) (.cons (.v 4) .nil))))) (.cons .bad .nil) .nil)
  (.cons (.ret (.call g5 (.cons (.v 5) (.cons (.v 3) (.cons (.v 4) .nil)))))
  .nil)))))
theorem ev_cut [Unt] (hpr : c.pr = false) (h1 : c.pm g = [.f]) (h2 : c.pm g2 = [.f]) (h3 : c.pm g3 = [.f, .f]) (h4 : c.pm g4 = [.f]) (h5 : c.pm g5 = [.f, .f, .f]) (l1 : Must (c.cf g)) (l2 : MustRow (c.cf g2)) (l3 : UndU (c.cf g3)) (l4 : WholeOf (c.cf g4)) (l5 : CutOf (c.cf g5))
    {u : List Un} {ds : List D} {a b : Int} {da db : D} (t : Two Told (u.map uP) ds) (ta : ToldT (uR a) da) (tb : ToldT (uR b) db) (hg : Gu Bd u) (hz : u.length ≤ sizeLine) (ha : 0 ≤ a) (hab : a < b) (hb : b ≤ tot u) :
    ∃ G', evSs c (sCut g g2 g3 g4 g5) [.fz (.lst ds), .fz da, .fz db, .no, .no, .no] = .rt (.ol (((spF 0 (mergeU u)).filterMap (cutS a b)).map pU)) G' := by
  obtain ⟨a1, a2, rfl, q1, q2, q3⟩ := ta
  obtain ⟨b1, b2, rfl, p1, p2, p3⟩ := tb
  have hB := hg.2
  obtain ⟨m1, e1⟩ := l1 a1 a2 q1 q2
  obtain ⟨m2, e2⟩ := l1 b1 b2 p1 p2
  rw [q3] at e1
  rw [p3] at e2
  obtain ⟨m3, e3⟩ := l2 _ _ t hg hz
  obtain ⟨k1, k2, k3⟩ := merge_gu hg
  obtain ⟨m4, e4⟩ := l3 a 0 (by omega) (by omega) (by omega) (by omega)
  obtain ⟨m5, e5⟩ := l3 a b (by omega) (by omega) (by omega) (by omega)
  obtain ⟨m6, e6⟩ := l4 _ k1
  rw [k3] at e6
  have htot := tot_nonneg hg.1
  obtain ⟨m7, e7⟩ := l3 (tot u) b (by omega) (by omega) (by omega) (by omega)
  obtain ⟨m8, e8⟩ := l5 (mergeU u) a b k1 (by omega) (by omega) (by omega) (by omega) (by omega)
  rw [← nought] at e4
  unfold rowU at e6 e8
  have n1 : ¬ a < 0 := by omega
  have n2 : ¬ tot u < b := by omega
  unfold tU at *
  unfold sCut
  simp [hpr, h1, h2, h3, h4, h5, e1, e2, e3, e4, e5, e6, e7, e8, n1, n2, hab]
def sQuick (g g2 g3 g4 : Nat) : Ss := (.cons (.asg (.n 2) (.call g (.cons (.v 1) .nil)))
  (.cons (.asg (.n 3) (.call g2 (.cons (.v 0) .nil)))
  (.cons (.iff (.not (.call g3 (.cons (.k (.tup [(.int 0), (.int 1)])) (.cons (.v 2) .nil)))) (.cons .bad .nil) .nil)
  (.cons (.ret (.lc [4, 5] (.t [(.n 4), (.n 5)]) (.e (.v 3)) .no (.tup (.cons (.v 4) (.cons (.call g4 (.cons (.v 5) (.cons (.v 2) .nil))) .nil)))))
  .nil))))
/-- a piece made so many times as long -/
def tmD [Unt] (o : Rat) (p : Un) : D := .tup [kD p.1, tD (uR p.2 * o)]
theorem ev_quick [Unt] (hpr : c.pr = false) (h1 : c.pm g = [.f]) (h2 : c.pm g2 = [.f]) (h3 : c.pm g3 = [.f, .f]) (h4 : c.pm g4 = [.f, .f]) (l1 : Must (c.cf g)) (l2 : MustRow (c.cf g2)) (l3 : Und (c.cf g3)) (l4 : Tim (c.cf g4))
    {u : List Un} {ds : List D} {o : Rat} {d : D} (t : Two Told (u.map uP) ds) (td : ToldT o d) (ho : Qs o) (ho2 : 0 < o) (hg : Gu Bd u) (hz : u.length ≤ sizeLine) :
    ∃ G', evSs c (sQuick g g2 g3 g4) [.fz (.lst ds), .fz d, .no, .no, .no, .no] = .rt (.ol ((mergeU u).map (tmD o))) G' := by
  obtain ⟨a1, a2, rfl, q1, q2, q3⟩ := td
  obtain ⟨m1, e1⟩ := l1 a1 a2 q1 q2
  rw [q3] at e1
  obtain ⟨m3, e3⟩ := l2 _ _ t hg hz
  obtain ⟨k1, k2, k3⟩ := merge_gu hg
  have q0 : Qs 0 := by have := qs0; rw [uR_0] at this; exact this
  obtain ⟨m4, e4⟩ := l3 0 o q0 ho
  have nz : D.tup [.int 0, .int 1] = tD 0 := by rfl
  rw [← nz] at e4
  obtain ⟨G1, e5, rfl⟩ := lc_map (f := lcT c [4, 5] (.t [.n 4, .n 5]) .no (.tup (.cons (.v 4) (.cons (.call g4 (.cons (.v 5) (.cons (.v 2) .nil))) .nil)))) (enc := pU) (out := tmD o) (l := mergeU u) (St := fun G => G = [.fz (.lst ds), .fz (tDs a1 a2), .fz (tD o), .fz (.lst ((mergeU u).map pU)), .no, .no]) (fun p G hp hG => by
    subst hG
    have w1 := k1.1 p hp
    have w2 := le_tot k1.1 hp
    have w3 := k1.2
    obtain ⟨m, e⟩ := l4 (uR p.2) o (qs_b (by omega) (by omega)) ho
    refine ⟨_, ?_, rfl⟩
    simp [lcT, pU, tU, h4, e, tmD, wipeG]) (acc := []) (G := [.fz (.lst ds), .fz (tDs a1 a2), .fz (tD o), .fz (.lst ((mergeU u).map pU)), .no, .no]) (by simpa using Nat.le_trans k2 hz) rfl
  unfold sQuick
  simp [hpr, h1, h2, h3, e1, e3, e4, ho2, plainA, wipeG]
  rw [e5]
  simp [backG]
end
end Pl

namespace Pl
open PySem Mp
/-! Ph: the law's own rows. -/
section
variable {c : Cf} {g g2 g3 g4 g5 g6 : Nat}
def sMade : Ss := (.cons (.asg (.n 2) (.bi .abs (.cons (.v 0) .nil)))
  (.cons (.asg (.n 3) (.bi .abs (.cons (.v 1) .nil)))
  (.cons (.whl (.cm .ne (.v 3) (.k (.int 0))) (.cons (.par 2 3 (.v 3) (.op .mod (.v 2) (.v 3)))
  .nil))
  (.cons (.iff (.cm .lt (.v 1) (.k (.int 0))) (.cons (.asg (.n 2) (.op .sub (.k (.int 0)) (.v 2)))
  .nil) .nil)
  (.cons (.ret (.tup (.cons (.op .fdiv (.v 0) (.v 2)) (.cons (.op .fdiv (.v 1) (.v 2)) .nil))))
  .nil)))))
theorem ev_made (hpr : c.pr = false) {a b : Int} (hb : b ≠ 0) (hw : b.natAbs < c.w) (hs : b.natAbs.log2 < 8999) : ∃ G', evSs c sMade [.fz (.int a), .fz (.int b), .no, .no] = .rt (.d (tD (Rat.divInt a b))) G' := by
  obtain ⟨G', e⟩ := ev_lowest c hpr a b hb hw hs
  refine ⟨G', ?_⟩
  rw [show tD (Rat.divInt a b) = .tup [.int (Rat.divInt a b).num, .int (Rat.divInt a b).den] from rfl, ← e]
  unfold sMade sLowest
  simp [hpr]
def bAll (g : Nat) : Ss := (.cons (.asg (.n 1) (.call g (.cons (.v 1) (.cons (.v 2) .nil))))
  .nil)
def sAll (g : Nat) : Ss := (.cons (.asg (.n 1) (.tup (.cons (.k (.int 0)) (.cons (.k (.int 1)) .nil))))
  (.cons (.for (.n 2) (.e (.v 0)) (bAll g))
  (.cons (.ret (.v 1))
  .nil)))
theorem loop_all [Unt] (hpr : c.pr = false) (hpm : c.pm g = [.f, .f]) (hu : PluU (c.cf g)) {R : D} : ∀ {u : List Int} {a : Int} {s2 : Sl}, 0 ≤ a → (∀ p ∈ u, 0 < p) → a + u.sum ≤ Bd →
    ∃ s4, forF (forT c (.n 2) (bAll g)) (u.map tU) [.fz R, .fz (tU a), s2] = .nx [.fz R, .fz (tU (a + u.sum)), s4]
  | [], a, s2, _, _, _ => ⟨s2, by simp⟩
  | p :: u, a, s2, h1, h2, h3 => by
    rw [List.sum_cons] at h3
    have hp := h2 p List.mem_cons_self
    have hu' : ∀ p ∈ u, 0 < p := fun p hp => h2 p (List.mem_cons_of_mem _ hp)
    have t2 : 0 ≤ u.sum := by
      have := tot_nonneg (u := u.map fun x => (false, x)) (fun q hq => by
        obtain ⟨x, hx, rfl⟩ := List.mem_map.mp hq
        exact hu' x hx)
      unfold tot at this
      simpa [List.map_map, Function.comp_def] using this
    obtain ⟨m, e⟩ := hu a p (by omega) (by omega) (by omega) (by omega)
    have turn : forT c (.n 2) (bAll g) (tU p) [.fz R, .fz (tU a), s2] = .nx [.fz R, .fz (tU (a + p)), .fz (tU p)] := by
      simp [forT, bAll, hpr, hpm, e]
    obtain ⟨s5, e2⟩ := loop_all hpr hpm hu (R := R) (u := u) (a := a + p) (s2 := .fz (tU p)) (by omega) hu' (by omega)
    exact ⟨s5, by rw [List.map_cons, for_cons turn, e2, List.sum_cons, Int.add_assoc]⟩
theorem ev_all [Unt] (hpr : c.pr = false) (hpm : c.pm g = [.f, .f]) (hu : PluU (c.cf g)) {u : List Int} (h : ∀ p ∈ u, 0 < p) (hB : u.sum ≤ Bd) : ∃ G', evSs c (sAll g) [.fz (.lst (u.map tU)), .no, .no] = .rt (.d (tU u.sum)) G' := by
  obtain ⟨s4, e⟩ := loop_all hpr hpm hu (R := .lst (u.map tU)) (u := u) (a := 0) (s2 := .no) (by omega) h (by omega)
  unfold sAll
  simp [hpr, nought] at e ⊢
  rw [e]
  simp
def All [Unt] (f : List Sl → Cres) : Prop := ∀ u : List Int, (∀ p ∈ u, 0 < p) → u.sum ≤ Bd → ∃ m, f [.fz (.lst (u.map tU))] = .ok (.d (tU u.sum)) m
/-- _law_kept -/
def bKeptL (g : Nat) : Ss := (.cons (.iff (.and (.cm .eq (.v 2) (.k (.str "rest"))) (.and (.cm .ne (.v 1) (.lst .nil)) (.cm .eq (.ix (.ix (.v 1) (.neg (.k (.int 1)))) (.k (.int 0))) (.k (.str "rest"))))) (.cons (.six 1 (.neg (.k (.int 1))) (.tup (.cons (.k (.str "rest")) (.cons (.call g (.cons (.ix (.ix (.v 1) (.neg (.k (.int 1)))) (.k (.int 1))) (.cons (.v 3) .nil))) .nil))))
  .nil) (.cons (.ex (.lm .append (.v 1) (.cons (.tup (.cons (.v 2) (.cons (.v 3) .nil))) .nil)))
  .nil))
  .nil)
def sKeptL (g : Nat) : Ss := (.cons (.asg (.n 1) (.lst .nil))
  (.cons (.for (.t [(.n 2), (.n 3)]) (.e (.v 0)) (bKeptL g))
  (.cons (.ret (.v 1))
  .nil)))
theorem ixN_last {n : Nat} : L2.ixN (n + 1) (-1) = some n := by
  unfold L2.ixN
  rw [if_neg (by omega), if_pos (by omega)]
  congr 1
  omega
theorem set_last {α : Type} {l : List α} {x y : α} : (l ++ [x]).set l.length y = l ++ [y] := by simp
theorem turn_keptL [Unt] (hpr : c.pr = false) (hpm : c.pm g = [.f, .f]) (hu : PluU (c.cf g)) {R : D} {acc : List Un} {p : Un} {s2 s3 : Sl} (h1 : ∀ p ∈ acc, 0 < p.2) (h2 : tot acc ≤ Bd) (hp : 0 < p.2) (hp2 : p.2 ≤ Bd) (hz : acc.length < sizeLine) :
    forT c (.t [.n 2, .n 3]) (bKeptL g) (pU p) [.fz R, .ol (acc.map pU), s2, s3] = .nx [.fz R, .ol ((mg acc p).map pU), .fz (kD p.1), .fz (tU p.2)] := by
  rcases sn_cases acc with rfl | ⟨l, x, rfl⟩
  · rw [mg_nil]
    cases hb : p.1 <;> simp [forT, bKeptL, pU, hpr, k_eq, hb, eqD_nil, szl]
  · have hx := h1 x (by simp)
    have hxt : x.2 ≤ Bd := Int.le_trans (le_tot h1 (by simp)) h2
    obtain ⟨m, e⟩ := hu x.2 p.2 (by omega) hxt (by omega) hp2
    have c2 : eqD (.lst (l.map pU ++ [.tup [kD x.1, tU x.2]])) (.lst []) = some false := by
      have w := pln_rowU (r := l ++ [x])
      have e : (l ++ [x]).map pU = l.map pU ++ [.tup [kD x.1, tU x.2]] := by simp [pU]
      rw [e] at w
      cases hl : l.map pU ++ [D.tup [kD x.1, tU x.2]] with
      | nil => simp at hl
      | cons d ds =>
        rw [hl] at w
        exact eqD_cn w
    have c3 := at_last (l := l.map pU) (a := D.tup [kD x.1, tU x.2])
    have c5 := ixN_last (n := l.length)
    have c6 : (l.map pU ++ [D.tup [kD x.1, tU x.2]]).set l.length (.tup [kD true, tU (x.2 + p.2)]) = l.map pU ++ [.tup [kD true, tU (x.2 + p.2)]] := by
      have := set_last (l := l.map pU) (x := D.tup [kD x.1, tU x.2]) (y := D.tup [kD true, tU (x.2 + p.2)])
      simpa using this
    have kt : D.str (Str.ofString "rest") = kD true := by rfl
    have hz' : l.length + 1 < sizeLine := by simpa using hz
    rw [mg_sn]
    cases hb : p.1
    · simp [forT, bKeptL, pU, hpr, k_eq, hb, hz']
    · cases hbx : x.1
      · rw [hbx] at c2 c3
        simp [forT, bKeptL, pU, hpr, k_eq, hb, hbx, hz', c2, c3]
      · rw [hbx] at c2 c3 c6
        simp [forT, bKeptL, pU, hpr, hpm, k_eq, hb, hbx, c2, c3, e, c5]
        exact kt
theorem loop_keptL [Unt] (hpr : c.pr = false) (hpm : c.pm g = [.f, .f]) (hu : PluU (c.cf g)) {R : D} : ∀ {u acc : List Un} {s2 s3 : Sl}, (∀ p ∈ acc, 0 < p.2) → (∀ p ∈ u, 0 < p.2) → tot acc + tot u ≤ Bd → acc.length + u.length ≤ sizeLine →
    ∃ s4 s5, forF (forT c (.t [.n 2, .n 3]) (bKeptL g)) (u.map pU) [.fz R, .ol (acc.map pU), s2, s3] = .nx [.fz R, .ol ((u.foldl mg acc).map pU), s4, s5]
  | [], acc, s2, s3, _, _, _, _ => ⟨s2, s3, rfl⟩
  | p :: u, acc, s2, s3, h1, h2, h3, h4 => by
    rw [tot_cons] at h3
    rw [List.length_cons] at h4
    have hp := h2 p List.mem_cons_self
    have hu' : ∀ p ∈ u, 0 < p.2 := fun p hp => h2 p (List.mem_cons_of_mem _ hp)
    have t1 := tot_nonneg h1
    have t2 := tot_nonneg hu'
    have e := turn_keptL (R := R) (s2 := s2) (s3 := s3) hpr hpm hu h1 (by omega) hp (by omega) (by omega)
    obtain ⟨k1, k2, k3⟩ := mg_ku (n := acc.length) (B := tot acc) ⟨h1, by omega, by omega⟩ hp
    obtain ⟨s5, s6, e2⟩ := loop_keptL hpr hpm hu (R := R) (u := u) (acc := mg acc p) (s2 := .fz (kD p.1)) (s3 := .fz (tU p.2)) k1 hu' (by omega) (by omega)
    exact ⟨s5, s6, by rw [List.map_cons, for_cons e, e2]; rfl⟩
theorem ev_keptL [Unt] (hpr : c.pr = false) (hpm : c.pm g = [.f, .f]) (hu : PluU (c.cf g)) {u : List Un} (hg : Gu Bd u) (hz : u.length ≤ sizeLine) : ∃ s4 s5, evSs c (sKeptL g) [.fz (rowU u), .no, .no, .no] = .rt (.al 1) [.fz (rowU u), .ol ((mergeU u).map pU), s4, s5] := by
  obtain ⟨s4, s5, e⟩ := loop_keptL hpr hpm hu (R := rowU u) (u := u) (acc := []) (s2 := .no) (s3 := .no) (fun p h => nomatch h) hg.1 (by have := hg.2; simp [tot] at this ⊢; omega) (by simpa using hz)
  refine ⟨s4, s5, ?_⟩
  unfold sKeptL
  simp [rowU, hpr] at e ⊢
  rw [e]
  simp [mergeU]
/-- _law_spans -/
def bSpansL (g : Nat) : Ss := (.cons (.ex (.lm .append (.v 1) (.cons (.tup (.cons (.v 3) (.cons (.v 2) (.cons (.call g (.cons (.v 2) (.cons (.v 4) .nil))) .nil)))) .nil)))
  (.cons (.asg (.n 2) (.ix (.ix (.v 1) (.neg (.k (.int 1)))) (.k (.int 2))))
  .nil))
def sSpansL (g : Nat) : Ss := (.cons (.asg (.n 1) (.lst .nil))
  (.cons (.asg (.n 2) (.tup (.cons (.k (.int 0)) (.cons (.k (.int 1)) .nil))))
  (.cons (.for (.t [(.n 3), (.n 4)]) (.e (.v 0)) (bSpansL g))
  (.cons (.ret (.v 1))
  .nil))))
theorem loop_spansL [Unt] (hpr : c.pr = false) (hpm : c.pm g = [.f, .f]) (hu : PluU (c.cf g)) {R : D} : ∀ {u : List Un} {a : Int} {acc : List D} {s3 s4 : Sl}, 0 ≤ a → (∀ p ∈ u, 0 < p.2) → a + tot u ≤ Bd → acc.length + u.length ≤ sizeLine →
    ∃ s5 s6, forF (forT c (.t [.n 3, .n 4]) (bSpansL g)) (u.map pU) [.fz R, .ol acc, .fz (tU a), s3, s4] = .nx [.fz R, .ol (acc ++ (spF a u).map sD), .fz (tU (a + tot u)), s5, s6]
  | [], a, acc, s3, s4, _, _, _, _ => ⟨s3, s4, by simp [tot, spF]⟩
  | p :: u, a, acc, s3, s4, h1, h2, h3, h4 => by
    rw [tot_cons] at h3
    rw [List.length_cons] at h4
    have hp := h2 p List.mem_cons_self
    have hu' : ∀ p ∈ u, 0 < p.2 := fun p hp => h2 p (List.mem_cons_of_mem _ hp)
    have t2 := tot_nonneg hu'
    obtain ⟨m, e⟩ := hu a p.2 (by omega) (by omega) (by omega) (by omega)
    have hz : acc.length < sizeLine := by omega
    have c3 := at_last (l := acc) (a := D.tup [kD p.1, tU a, tU (a + p.2)])
    have turn : forT c (.t [.n 3, .n 4]) (bSpansL g) (pU p) [.fz R, .ol acc, .fz (tU a), s3, s4] = .nx [.fz R, .ol (acc ++ [sD (p.1, a, a + p.2)]), .fz (tU (a + p.2)), .fz (kD p.1), .fz (tU p.2)] := by
      simp [forT, bSpansL, pU, sD, hpr, hpm, e, hz, c3]
    obtain ⟨s5, s6, e2⟩ := loop_spansL hpr hpm hu (R := R) (u := u) (a := a + p.2) (acc := acc ++ [sD (p.1, a, a + p.2)]) (s3 := .fz (kD p.1)) (s4 := .fz (tU p.2)) (by omega) hu' (by omega) (by simp; omega)
    exact ⟨s5, s6, by rw [List.map_cons, for_cons turn, e2, tot_cons, Int.add_assoc]; simp [spF]⟩
theorem ev_spansL [Unt] (hpr : c.pr = false) (hpm : c.pm g = [.f, .f]) (hu : PluU (c.cf g)) {u : List Un} (hg : Gu Bd u) (hz : u.length ≤ sizeLine) : ∃ s2 s3 s4, evSs c (sSpansL g) [.fz (rowU u), .no, .no, .no, .no] = .rt (.al 1) [.fz (rowU u), .ol ((spF 0 u).map sD), s2, s3, s4] := by
  obtain ⟨s5, s6, e⟩ := loop_spansL hpr hpm hu (R := rowU u) (u := u) (a := 0) (acc := []) (s3 := .no) (s4 := .no) (by omega) hg.1 (by have := hg.2; omega) (by simpa using hz)
  refine ⟨.fz (tU (0 + tot u)), s5, s6, ?_⟩
  unfold sSpansL
  simp [rowU, hpr, nought] at e ⊢
  rw [e]
  simp
/-- _law_cut -/
def bCutL (g2 g3 : Nat) : Ss := (.cons (.iff (.call g2 (.cons (.v 5) (.cons (.v 1) .nil))) (.cons (.asg (.n 5) (.v 1))
  .nil) .nil)
  (.cons (.iff (.call g2 (.cons (.v 2) (.cons (.v 6) .nil))) (.cons (.asg (.n 6) (.v 2))
  .nil) .nil)
  (.cons (.iff (.call g2 (.cons (.v 5) (.cons (.v 6) .nil))) (.cons (.ex (.lm .append (.v 3) (.cons (.tup (.cons (.v 4) (.cons (.call g3 (.cons (.v 6) (.cons (.v 5) .nil))) .nil))) .nil)))
  .nil) .nil)
  .nil)))
def sCutL (g g2 g3 g4 : Nat) : Ss := (.cons (.asg (.n 3) (.lst .nil))
  (.cons (.for (.t [(.n 4), (.n 5), (.n 6)]) (.e (.call g (.cons (.v 0) .nil))) (bCutL g2 g3))
  (.cons (.ret (.call g4 (.cons (.v 3) .nil)))
  .nil)))
theorem turn_cutL [Unt] (hpr : c.pr = false) (h2 : c.pm g2 = [.f, .f]) (h3 : c.pm g3 = [.f, .f]) (l2 : UndU (c.cf g2)) (l3 : LesU (c.cf g3)) {R : D} {a b : Int} {acc : List D} {s : Sp} {s4 s5 s6 : Sl} (ha : 0 ≤ a) (ha2 : a ≤ Bd) (hb : 0 ≤ b) (hb2 : b ≤ Bd) (q1 : 0 ≤ s.2.1) (q2 : s.2.1 < s.2.2) (q3 : s.2.2 ≤ Bd) (hz : acc.length < sizeLine) :
    ∃ s7 s8 s9, forT c (.t [.n 4, .n 5, .n 6]) (bCutL g2 g3) (sD s) [.fz R, .fz (tU a), .fz (tU b), .ol acc, s4, s5, s6] = .nx [.fz R, .fz (tU a), .fz (tU b), .ol (acc ++ ((cutS a b s).map pU).toList), s7, s8, s9] := by
  obtain ⟨k, lo, hi⟩ := s
  simp only at q1 q2 q3
  obtain ⟨m1, e1⟩ := l2 lo a (by omega) (by omega) (by omega) ha2
  obtain ⟨m2, e2⟩ := l2 b hi (by omega) hb2 (by omega) q3
  generalize hlo : (if lo < a then a else lo) = lo'
  generalize hhi : (if b < hi then b else hi) = hi'
  have blo : 0 ≤ lo' ∧ lo' ≤ Bd := by rw [← hlo]; split <;> omega
  have bhi : 0 ≤ hi' ∧ hi' ≤ Bd := by rw [← hhi]; split <;> omega
  obtain ⟨m3, e3⟩ := l2 lo' hi' (by omega) blo.2 (by omega) bhi.2
  obtain ⟨m4, e4⟩ := l3 hi' lo' (by omega) bhi.2 (by omega) blo.2
  have ec : cutS a b (k, lo, hi) = if lo' < hi' then some (k, hi' - lo') else none := by
    unfold cutS
    simp only [hlo, hhi]
  rw [ec]
  have r1 : evS c (.iff (.call g2 (.cons (.v 5) (.cons (.v 1) .nil))) (.cons (.asg (.n 5) (.v 1)) .nil) .nil) [.fz R, .fz (tU a), .fz (tU b), .ol acc, .fz (kD k), .fz (tU lo), .fz (tU hi)] = .nx [.fz R, .fz (tU a), .fz (tU b), .ol acc, .fz (kD k), .fz (tU lo'), .fz (tU hi)] := by
    rw [← hlo]
    by_cases h : lo < a <;> simp [hpr, h2, e1, h]
  have r2 : evS c (.iff (.call g2 (.cons (.v 2) (.cons (.v 6) .nil))) (.cons (.asg (.n 6) (.v 2)) .nil) .nil) [.fz R, .fz (tU a), .fz (tU b), .ol acc, .fz (kD k), .fz (tU lo'), .fz (tU hi)] = .nx [.fz R, .fz (tU a), .fz (tU b), .ol acc, .fz (kD k), .fz (tU lo'), .fz (tU hi')] := by
    rw [← hhi]
    by_cases h : b < hi <;> simp [hpr, h2, e2, h]
  refine ⟨.fz (kD k), .fz (tU lo'), .fz (tU hi'), ?_⟩
  simp [forT, sD, hpr]
  unfold bCutL
  rw [v_scons, r1, q_nx, v_scons, r2, q_nx]
  by_cases h : lo' < hi' <;> simp [h2, h3, e3, e4, h, hz, pU]
theorem loop_cutL [Unt] (hpr : c.pr = false) (h2 : c.pm g2 = [.f, .f]) (h3 : c.pm g3 = [.f, .f]) (l2 : UndU (c.cf g2)) (l3 : LesU (c.cf g3)) {R : D} {a b : Int} (ha : 0 ≤ a) (ha2 : a ≤ Bd) (hb : 0 ≤ b) (hb2 : b ≤ Bd) : ∀ {l : List Sp} {acc : List D} {s4 s5 s6 : Sl}, (∀ s ∈ l, 0 ≤ s.2.1 ∧ s.2.1 < s.2.2 ∧ s.2.2 ≤ Bd) → acc.length + l.length ≤ sizeLine →
    ∃ s7 s8 s9, forF (forT c (.t [.n 4, .n 5, .n 6]) (bCutL g2 g3)) (l.map sD) [.fz R, .fz (tU a), .fz (tU b), .ol acc, s4, s5, s6] = .nx [.fz R, .fz (tU a), .fz (tU b), .ol (acc ++ (l.filterMap (cutS a b)).map pU), s7, s8, s9]
  | [], acc, s4, s5, s6, _, _ => ⟨s4, s5, s6, by simp⟩
  | s :: l, acc, s4, s5, s6, h, hz => by
    rw [List.length_cons] at hz
    obtain ⟨q1, q2, q3⟩ := h s List.mem_cons_self
    obtain ⟨s7, s8, s9, e⟩ := turn_cutL (R := R) (s4 := s4) (s5 := s5) (s6 := s6) hpr h2 h3 l2 l3 ha ha2 hb hb2 q1 q2 q3 (acc := acc) (by omega)
    have hlen : (((cutS a b s).map pU).toList).length ≤ 1 := by cases cutS a b s <;> simp
    obtain ⟨t7, t8, t9, e2⟩ := loop_cutL hpr h2 h3 l2 l3 (R := R) ha ha2 hb hb2 (l := l) (acc := acc ++ ((cutS a b s).map pU).toList) (s4 := s7) (s5 := s8) (s6 := s9) (fun s hs => h s (List.mem_cons_of_mem _ hs)) (by rw [List.length_append]; omega)
    refine ⟨t7, t8, t9, ?_⟩
    rw [List.map_cons, for_cons e, e2]
    cases h9 : cutS a b s <;> simp [h9]
def KeptL [Unt] (f : List Sl → Cres) : Prop := KeptOf f
/-- what is cut is still a row -/
theorem cut_gu {u : List Un} {t a b : Int} : (∀ p ∈ u, 0 < p.2) → (∀ p ∈ (spF t u).filterMap (cutS a b), 0 < p.2) ∧ tot ((spF t u).filterMap (cutS a b)) ≤ tot u ∧ ((spF t u).filterMap (cutS a b)).length ≤ u.length := by
  induction u generalizing t with
  | nil => intro _; exact ⟨fun p h => (nomatch h), by simp [spF, tot], by simp [spF]⟩
  | cons p u ih =>
    intro h
    have hp := h p List.mem_cons_self
    obtain ⟨k1, k2, k3⟩ := ih (t := t + p.2) fun p hp => h p (List.mem_cons_of_mem _ hp)
    have hc : ∀ q, cutS a b (p.1, t, t + p.2) = some q → 0 < q.2 ∧ q.2 ≤ p.2 := fun q e => by
      unfold cutS at e
      simp only at e
      split at e <;> split at e <;> split at e <;> simp at e <;> subst e <;> simp <;> omega
    rw [tot_cons]
    simp only [spF]
    cases e : cutS a b (p.1, t, t + p.2) with
    | none =>
      rw [List.filterMap_cons_none e]
      exact ⟨k1, by omega, by simp; omega⟩
    | some q =>
      obtain ⟨w1, w2⟩ := hc q e
      rw [List.filterMap_cons_some e]
      refine ⟨fun x hx => ?_, by rw [tot_cons]; omega, by simp; omega⟩
      rcases List.mem_cons.mp hx with rfl | hx
      · exact w1
      · exact k1 x hx
theorem ev_cutL [Unt] (hpr : c.pr = false) (h1 : c.pm g = [.f]) (h2 : c.pm g2 = [.f, .f]) (h3 : c.pm g3 = [.f, .f]) (h4 : c.pm g4 = [.f]) (l1 : SpansOf (c.cf g)) (l2 : UndU (c.cf g2)) (l3 : LesU (c.cf g3)) (l4 : KeptL (c.cf g4)) {u : List Un} {a b : Int} (hg : Gu Bd u) (hz : u.length ≤ sizeLine) (ha : 0 ≤ a) (ha2 : a ≤ Bd) (hb : 0 ≤ b) (hb2 : b ≤ Bd) :
    ∃ G', evSs c (sCutL g g2 g3 g4) [.fz (rowU u), .fz (tU a), .fz (tU b), .no, .no, .no, .no] = .rt (.ol ((mergeU ((spF 0 u).filterMap (cutS a b))).map pU)) G' := by
  obtain ⟨m1, e1⟩ := l1 u hg hz
  obtain ⟨s7, s8, s9, e⟩ := loop_cutL hpr h2 h3 l2 l3 (R := rowU u) ha ha2 hb hb2 (l := spF 0 u) (acc := []) (s4 := .no) (s5 := .no) (s6 := .no) (fun s hs => by
    obtain ⟨k1, k2, k3⟩ := spF_in hg.1 s hs
    have := hg.2
    exact ⟨k1, k2, by omega⟩) (by simpa [spF_len] using hz)
  obtain ⟨w1, w2, w3⟩ := cut_gu (t := 0) (a := a) (b := b) hg.1
  obtain ⟨m4, e4⟩ := l4 _ ⟨w1, Int.le_trans w2 hg.2⟩ (Nat.le_trans w3 hz)
  unfold rowU at e4
  unfold sCutL
  simp [hpr, h1, e1]
  rw [e]
  simp [h4, e4]
end
end Pl

namespace Pl
open PySem Mp
/-! Pi: a kept row's cut is the kept one of the row's cut. -/
def cutC (a b t : Int) (u : List Un) : List Un := (spF t u).filterMap (cutS a b)
theorem spF_app : ∀ {l m : List Un} {t : Int}, spF t (l ++ m) = spF t l ++ spF (t + tot l) m
  | [], m, t => by simp [spF, tot]
  | p :: l, m, t => by
    simp only [List.cons_append, spF, spF_app, tot_cons]
    rw [Int.add_assoc]
theorem cutC_sn {a b t : Int} {l : List Un} {x : Un} : cutC a b t (l ++ [x]) = cutC a b t l ++ (cutS a b (x.1, t + tot l, t + tot l + x.2)).toList := by
  unfold cutC
  rw [spF_app, List.filterMap_append]
  congr 1
theorem cutS_some {a b lo hi : Int} {k : Bool} {q : Un} (h : cutS a b (k, lo, hi) = some q) : q.1 = k ∧ (lo < b ∧ a < hi ∧ lo < hi ∧ a < b) ∧ q.2 = (if b < hi then b else hi) - (if lo < a then a else lo) := by
  unfold cutS at h
  simp only at h
  split at h <;> split at h <;> split at h <;> simp at h <;> subst h <;> simp_all <;> omega
theorem cutS_none {a b lo hi : Int} {k : Bool} (h : cutS a b (k, lo, hi) = none) : b ≤ lo ∨ hi ≤ a ∨ hi ≤ lo ∨ b ≤ a := by
  unfold cutS at h
  simp only at h
  split at h <;> split at h <;> split at h <;> simp at h <;> omega
theorem cutS_is {a b lo hi : Int} {k : Bool} (h1 : lo < b) (h2 : a < hi) (h3 : lo < hi) (h4 : a < b) : cutS a b (k, lo, hi) = some (k, (if b < hi then b else hi) - (if lo < a then a else lo)) := by
  unfold cutS
  simp only
  rw [if_pos]
  split <;> split <;> omega
theorem cutS_not {a b lo hi : Int} {k : Bool} (h : b ≤ lo ∨ hi ≤ a ∨ hi ≤ lo ∨ b ≤ a) : cutS a b (k, lo, hi) = none := by
  unfold cutS
  simp only
  rw [if_neg]
  split <;> split <;> omega
theorem cutC_ne {a b t : Int} {l : List Un} (h : ∀ p ∈ l, 0 < p.2) (hne : cutC a b t l ≠ []) : a < t + tot l := by
  cases e : cutC a b t l with
  | nil => exact absurd e hne
  | cons q qs =>
    have hq : q ∈ cutC a b t l := by rw [e]; exact List.mem_cons_self
    unfold cutC at hq
    obtain ⟨s, hs, es⟩ := List.mem_filterMap.mp hq
    obtain ⟨k1, k2, k3⟩ := spF_in h s hs
    obtain ⟨k, lo, hi⟩ := s
    obtain ⟨_, w, _⟩ := cutS_some es
    simp only at k1 k2 k3
    omega
theorem mg_other {l : List Un} {q : Un} (h : ∀ l' y, l = l' ++ [y] → (q.1 && y.1) = false) : mg l q = l ++ [q] := by
  rcases sn_cases l with rfl | ⟨l', y, rfl⟩
  · rfl
  · rw [mg_sn, h l' y rfl]
    rfl
theorem step_cut {a b : Int} {acc : List Un} {p : Un} (h : ∀ p ∈ acc, 0 < p.2) (hp : 0 < p.2) :
    cutC a b 0 (mg acc p) = match cutS a b (p.1, tot acc, tot acc + p.2) with
      | some q => mg (cutC a b 0 acc) q
      | none => cutC a b 0 acc := by
  rcases sn_cases acc with rfl | ⟨l, x, rfl⟩
  · rw [mg_nil]
    have := cutC_sn (a := a) (b := b) (t := 0) (l := []) (x := p)
    simp only [List.nil_append] at this
    rw [this]
    have e0 : cutC a b 0 [] = [] := rfl
    have t0 : (0 : Int) + tot [] = tot [] := by simp [tot]
    rw [e0, t0]
    cases e : cutS a b (p.1, tot [], tot [] + p.2) <;> rfl
  · have hx := h x (by simp)
    have hl : ∀ p ∈ l, 0 < p.2 := fun p hp => h p (by simp [hp])
    have tl : tot (l ++ [x]) = tot l + x.2 := by rw [tot_app]; simp [tot]
    have z : (0 : Int) + tot l = tot l := by omega
    rw [mg_sn, tl, cutC_sn, z]
    by_cases hm : (p.1 && x.1) = true
    · rw [if_pos hm]
      simp only [Bool.and_eq_true] at hm
      rw [hm.1, hm.2, cutC_sn, z]
      simp only
      cases e1 : cutS a b (true, tot l, tot l + x.2) with
      | none =>
        have n1 := cutS_none e1
        cases e2 : cutS a b (true, tot l + x.2, tot l + x.2 + p.2) with
        | none =>
          have n2 := cutS_none e2
          rw [cutS_not (by omega)]
        | some q =>
          obtain ⟨k1, k2, k3⟩ := cutS_some e2
          have hnil : cutC a b 0 l = [] := by
            cases hc : cutC a b 0 l with
            | nil => rfl
            | cons y ys =>
              have := cutC_ne hl (by rw [hc]; exact fun z => nomatch z)
              omega
          rw [hnil, cutS_is (by omega) (by omega) (by omega) (by omega)]
          show [_] = mg [] q
          rw [mg_nil]
          obtain ⟨q1, q2⟩ := q
          simp only at k1 k3
          subst k1
          congr 2
          rw [k3]
          rw [if_pos (show tot l < a by omega)]
          have : ¬ (tot l + x.2 < a) ∨ tot l + x.2 < a := by omega
          rw [← Int.add_assoc]
          split <;> split <;> omega
      | some x' =>
        obtain ⟨w1, w2, w3⟩ := cutS_some e1
        cases e2 : cutS a b (true, tot l + x.2, tot l + x.2 + p.2) with
        | none =>
          have n2 := cutS_none e2
          rw [cutS_is (by omega) (by omega) (by omega) (by omega)]
          obtain ⟨x1, x2⟩ := x'
          simp only at w1 w3
          subst w1
          simp only [Option.toList]
          congr 3
          rw [w3]
          split <;> split <;> omega
        | some q =>
          obtain ⟨k1, k2, k3⟩ := cutS_some e2
          rw [cutS_is (by omega) (by omega) (by omega) (by omega)]
          obtain ⟨x1, x2⟩ := x'
          obtain ⟨q1, q2⟩ := q
          simp only at w1 w3 k1 k3
          subst w1 k1
          simp only [Option.toList]
          rw [mg_sn]
          simp only [Bool.and_self, if_true]
          congr 3
          rw [w3, k3]
          split <;> split <;> split <;> split <;> omega
    · have hm' : (p.1 && x.1) = false := by simpa using hm
      rw [if_neg hm, cutC_sn, tot_app, cutC_sn, z]
      have t2 : (0 : Int) + (tot l + tot [x]) = tot l + x.2 := by simp [tot]
      rw [t2]
      cases e2 : cutS a b (p.1, tot l + x.2, tot l + x.2 + p.2) with
      | none => simp
      | some q =>
        obtain ⟨k1, k2, k3⟩ := cutS_some e2
        show _ ++ [q] = mg _ q
        rw [mg_other]
        intro l' y hy
        rw [k1]
        cases e1 : cutS a b (x.1, tot l, tot l + x.2) with
        | some x' =>
          rw [e1] at hy
          simp only [Option.toList] at hy
          have := (List.append_inj' hy rfl).2
          simp at this
          obtain ⟨w1, _⟩ := cutS_some e1
          rw [← this, w1]
          exact hm'
        | none =>
          have n1 := cutS_none e1
          rw [e1] at hy
          simp at hy
          have := cutC_ne (a := a) (b := b) (t := 0) hl (by rw [hy]; simp)
          omega
theorem fold_cut {a b : Int} : ∀ {u acc : List Un}, (∀ p ∈ acc, 0 < p.2) → (∀ p ∈ u, 0 < p.2) → cutC a b 0 (u.foldl mg acc) = (cutC a b (tot acc) u).foldl mg (cutC a b 0 acc)
  | [], acc, _, _ => rfl
  | p :: u, acc, h1, h2 => by
    have hp := h2 p List.mem_cons_self
    obtain ⟨k1, k2, k3⟩ := mg_ku (n := acc.length) (B := tot acc) ⟨h1, by omega, by omega⟩ hp
    rw [List.foldl_cons, fold_cut k1 fun p hp => h2 p (List.mem_cons_of_mem _ hp), step_cut h1 hp, tot_mg]
    have e : cutC a b (tot acc) (p :: u) = (cutS a b (p.1, tot acc, tot acc + p.2)).toList ++ cutC a b (tot acc + p.2) u := by
      unfold cutC
      simp only [spF]
      cases e : cutS a b (p.1, tot acc, tot acc + p.2) with
      | none => rw [List.filterMap_cons_none e]; rfl
      | some q => rw [List.filterMap_cons_some e]; rfl
    rw [e]
    cases cutS a b (p.1, tot acc, tot acc + p.2) <;> rfl
theorem cut_merge {a b : Int} {u : List Un} (h : ∀ p ∈ u, 0 < p.2) : (spF 0 (mergeU u)).filterMap (cutS a b) = mergeU ((spF 0 u).filterMap (cutS a b)) := by
  have := fold_cut (a := a) (b := b) (u := u) (acc := []) (fun p h => nomatch h) h
  exact this
end Pl

namespace Pl
open PySem Mp
/-! Pj: what the law draws and looks at. -/
section
variable {c : Cf} {g g2 g3 g4 g5 g6 : Nat}
def sWhole : Ss := (.cons (.ret (.and (.bi (.isi .int) (.cons (.v 0) .nil)) (.not (.bi (.isi .bool) (.cons (.v 0) .nil)))))
  .nil)
theorem ev_whole {i : Int} : evSs c sWhole [.fz (.int i)] = .rt (.d (.bl true)) [.fz (.int i)] := by
  unfold sWhole
  simp [isTy]
def Whole (f : List Sl → Cres) : Prop := ∀ i : Int, ∃ m, f [.fz (.int i)] = .ok (.d (.bl true)) m
def sTimeGood (g g2 : Nat) : Ss := (.cons (.iff (.or (.not (.bi (.isi .tuple) (.cons (.v 0) .nil))) (.or (.cm .ne (.bi .len (.cons (.v 0) .nil)) (.k (.int 2))) (.or (.not (.call g (.cons (.ix (.v 0) (.k (.int 0))) .nil))) (.not (.call g (.cons (.ix (.v 0) (.k (.int 1))) .nil)))))) (.cons (.ret (.k (.bl false)))
  .nil) .nil)
  (.cons (.ret (.and (.cm .gt (.ix (.v 0) (.k (.int 1))) (.k (.int 0))) (.cm .eq (.call g2 (.cons (.ix (.v 0) (.k (.int 0))) (.cons (.ix (.v 0) (.k (.int 1))) .nil))) (.v 0))))
  .nil))
theorem ev_timeGood (h1 : c.pm g = [.f]) (h2 : c.pm g2 = [.f, .f]) (l1 : Whole (c.cf g)) (l2 : Low (c.cf g2)) {q : Rat} (hq : Qs q) : evSs c (sTimeGood g g2) [.fz (tD q)] = .rt (.d (.bl true)) [.fz (tD q)] := by
  obtain ⟨m1, e1⟩ := l1 q.num
  obtain ⟨m2, e2⟩ := l1 (q.den : Int)
  obtain ⟨m3, e3⟩ := l2 q.num q.den (den_ne q) (Nat.lt_trans hq.2 (by decide))
  rw [divInt_self] at e3
  have hp : (0 : Int) < q.den := by have := q.den_pos; omega
  have es := eqD_same (pln_t (q := q) (n := 1))
  unfold sTimeGood
  simp [tD, isTy, h1, h2, e1, e2, hp] at e3 es ⊢
  have hp' := q.den_pos
  simp [e1, e2, e3, es, hp, hp', h1, h2]
def TimeGood (f : List Sl → Cres) : Prop := ∀ q, Qs q → ∃ m, f [.fz (tD q)] = .ok (.d (.bl true)) m
def bPiecesGood (g : Nat) : Ss := (.cons (.iff (.or (.not (.bi (.isi .tuple) (.cons (.v 1) .nil))) (.or (.cm .ne (.bi .len (.cons (.v 1) .nil)) (.k (.int 2))) (.not (.call g (.cons (.ix (.v 1) (.k (.int 1))) .nil))))) (.cons (.ret (.k (.bl false)))
  .nil) .nil)
  .nil)
def sPiecesGood (g : Nat) : Ss := (.cons (.iff (.not (.bi (.isi .list) (.cons (.v 0) .nil))) (.cons (.ret (.k (.bl false)))
  .nil) .nil)
  (.cons (.for (.n 1) (.e (.v 0)) (bPiecesGood g))
  (.cons (.ret (.k (.bl true)))
  .nil)))
theorem ev_piecesGood (hpr : c.pr = false) (h1 : c.pm g = [.f]) (l1 : TimeGood (c.cf g)) {r : Row} (h : ∀ p ∈ r, Qs p.2) : ∃ G', evSs c (sPiecesGood g) [.bw (r.map pD), .no] = .rt (.d (.bl true)) G' := by
  obtain ⟨G', e, s1, rfl⟩ := for_fold (b := forT c (.n 1) (bPiecesGood g)) (enc := pD) (l := r) (f := fun (_ : Unit) (_ : Pc) => ()) (St := fun _ G => ∃ s1, G = [.bw (r.map pD), s1]) (fun s p G hp ⟨s1, hG⟩ => by
    subst hG
    obtain ⟨m, e⟩ := l1 p.2 (h p hp)
    refine ⟨[.bw (r.map pD), .fz (pD p)], ?_, _, rfl⟩
    simp [forT, bPiecesGood, pD, hpr, h1, e, isTy]) (s := ()) (G := [.bw (r.map pD), .no]) ⟨_, rfl⟩
  unfold sPiecesGood
  simp [isTy]
  rw [e]
  simp
def sToldO (g : Nat) : Ss := (.cons (.asg (.n 2) (.ix (.lst (.cons (.k (.int 1)) (.cons (.k (.int 1)) (.cons (.neg (.k (.int 1))) (.cons (.k (.int 3)) (.cons (.neg (.k (.int 7))) .nil)))))) (.call g (.cons (.v 0) (.cons (.k (.int 5)) .nil)))))
  (.cons (.ret (.tup (.cons (.op .mul (.ix (.v 1) (.k (.int 0))) (.v 2)) (.cons (.op .mul (.ix (.v 1) (.k (.int 1))) (.v 2)) .nil))))
  .nil))
theorem told_ok {q : Rat} {k : Int} (hk : k = 1 ∨ k = -1 ∨ k = 3 ∨ k = -7) (hq : Qs q) : ToldT q (tDs (q.num * k) (q.den * k)) := by
  have k0 : k ≠ 0 := by omega
  have lk : k.natAbs.log2 < 3 := by rcases hk with rfl | rfl | rfl | rfl <;> decide
  refine ⟨_, _, rfl, Int.mul_ne_zero (den_ne q) k0, Nat.lt_trans (log_mul hq.2 lk) (by decide), ?_⟩
  rw [Rat.divInt_mul_right k0, divInt_self]
theorem ev_toldO (hpr : c.pr = true) (h1 : c.pm g = [.m, .f]) (l1 : Dra (c.cf g)) {q : Rat} (hq : Qs q) {b : Nat} {l : List D} (hl : Pu (b + 1) l) : ∃ d l' s1 s2, evSs c (sToldO g) [.ol l, .fz (tD q), .no] = .rt (.d d) [.ol l', s1, s2] ∧ ToldT q d ∧ Pu b l' := by
  obtain ⟨r, l', e, r1, r2, hl'⟩ := l1 b 5 l hl (by decide) (by decide)
  have hk : ∃ k : Int, L2.atI [D.int 1, .int 1, .int (-1), .int 3, .int (-7)] r = some (.int k) ∧ (k = 1 ∨ k = -1 ∨ k = 3 ∨ k = -7) := by
    have : r = 0 ∨ r = 1 ∨ r = 2 ∨ r = 3 ∨ r = 4 := by omega
    rcases this with rfl | rfl | rfl | rfl | rfl
    · exact ⟨1, by rfl, by omega⟩
    · exact ⟨1, by rfl, by omega⟩
    · exact ⟨-1, by rfl, by omega⟩
    · exact ⟨3, by rfl, by omega⟩
    · exact ⟨-7, by rfl, by omega⟩
  obtain ⟨k, e2, hk⟩ := hk
  have lk : k.natAbs.log2 < 60000000 := by rcases hk with rfl | rfl | rfl | rfl <;> decide
  have big : ∀ {a : Int}, Sm a → a.natAbs.log2 < 60000000 := fun h => Nat.lt_trans h (by decide)
  have m1 := mulS (big hq.1) lk
  have m2 := mulS (big hq.2) lk
  refine ⟨tDs (q.num * k) (q.den * k), l', .fz (tD q), .fz (.int k), ?_, told_ok hk hq, hl'⟩
  unfold sToldO
  simp [tD, tDs, hpr, h1, e, e2, m1, m2]
def ToldO (f : List Sl → Cres) : Prop := ∀ (q : Rat) (b : Nat) (l : List D), Qs q → Pu (b + 1) l → ∃ d l', f [.ol l, .fz (tD q)] = .ok (.d d) (.ol l') ∧ ToldT q d ∧ Pu b l'
def sOtherwise (g : Nat) : Ss := (.cons (.ret (.lc [2, 3] (.t [(.n 2), (.n 3)]) (.e (.v 1)) .no (.tup (.cons (.v 2) (.cons (.call g (.cons (.v 0) (.cons (.v 3) .nil))) .nil)))))
  .nil)
theorem ev_otherwise (h1 : c.pm g = [.m, .f]) (l1 : ToldO (c.cf g)) {r : Row} (hr : ∀ p ∈ r, Qs p.2) (hz : r.length ≤ sizeLine) {b : Nat} {l : List D} (hl : Pu (b + r.length) l) :
    ∃ ds l' s1 s2 s3, evSs c (sOtherwise g) [.ol l, .fz (.lst (r.map pD)), .no, .no] = .rt (.ol ds) [.ol l', s1, s2, s3] ∧ Two Told r ds ∧ Pu b l' := by
  obtain ⟨xs, G1, e, t, l', hl', rfl⟩ := lc_two (f := lcT c [2, 3] (.t [.n 2, .n 3]) .no (.tup (.cons (.v 2) (.cons (.call g (.cons (.v 0) (.cons (.v 3) .nil))) .nil)))) (enc := pD) (Q := Told) (l := r) (n := b) (St := fun n G => ∃ l, Pu n l ∧ G = [.ol l, .fz (.lst (r.map pD)), .no, .no]) (fun p k G hp ⟨l, hl, hG⟩ => by
    subst hG
    obtain ⟨d, l', e, td, hl'⟩ := l1 p.2 k l (hr p hp) hl
    obtain ⟨a1, a2, rfl, q1, q2, q3⟩ := td
    refine ⟨.tup [kD p.1, tDs a1 a2], _, ?_, ⟨a1, a2, rfl, q1, q2, q3⟩, l', hl', rfl⟩
    simp [lcT, pD, h1, e, wipeG]) (acc := []) (G := [.ol l, .fz (.lst (r.map pD)), .no, .no]) (by simpa using hz) ⟨l, hl, rfl⟩
  refine ⟨xs, l', .fz (.lst (r.map pD)), .no, .no, ?_, t, hl'⟩
  unfold sOtherwise
  simp [plainA, wipeG]
  rw [e]
  simp [backG]
end
end Pl

namespace Pl
open PySem Mp
/-! Pk: a row is drawn. -/
/-- the unit of the drawn rows -/
instance U0 : Unt := ⟨8232000, by decide, by decide⟩
section
variable {c : Cf} {g g2 g3 g4 g5 g6 : Nat}
def bRow (g g2 : Nat) : Ss := (.cons (.asg (.n 4) (.ix (.lst (.cons (.k (.int 1)) (.cons (.k (.int 2)) (.cons (.k (.int 4)) (.cons (.k (.int 8)) (.cons (.k (.int 3)) (.cons (.k (.int 12)) (.cons (.k (.int 5)) (.cons (.k (.int 7)) (.cons (.k (.int 64)) (.cons (.k (.int 1000)) .nil))))))))))) (.call g (.cons (.v 0) (.cons (.k (.int 10)) .nil)))))
  (.cons (.asg (.n 5) (.call g2 (.cons (.op .add (.k (.int 1)) (.call g (.cons (.v 0) (.cons (.ix (.lst (.cons (.k (.int 2)) (.cons (.k (.int 5)) (.cons (.k (.int 100)) .nil)))) (.call g (.cons (.v 0) (.cons (.k (.int 3)) .nil)))) .nil)))) (.cons (.v 4) .nil))))
  (.cons (.ex (.lm .append (.v 2) (.cons (.tup (.cons (.ix (.lst (.cons (.k (.str "note")) (.cons (.k (.str "note")) (.cons (.k (.str "rest")) .nil)))) (.call g (.cons (.v 0) (.cons (.k (.int 3)) .nil)))) (.cons (.v 5) .nil))) .nil)))
  .nil)))
def sRow (g g2 : Nat) : Ss := (.cons (.asg (.n 2) (.lst .nil))
  (.cons (.for (.n 3) (.rg1 (.cons (.call g (.cons (.v 0) (.cons (.op .add (.v 1) (.k (.int 1))) .nil))) .nil)) (bRow g g2))
  (.cons (.ret (.v 2))
  .nil)))
abbrev Mx : Int := 823200000
theorem low_of {r : Int} (h1 : 0 ≤ r) (h2 : r < 10) : ∃ n k : Int, L2.atI [D.int 1, .int 2, .int 4, .int 8, .int 3, .int 12, .int 5, .int 7, .int 64, .int 1000] r = some (.int n) ∧ n ≠ 0 ∧ n.natAbs.log2 < 8999 ∧ n * k = M ∧ 0 < k ∧ k ≤ 8232000 ∧ k % 7 = 0 := by
  have : r = 0 ∨ r = 1 ∨ r = 2 ∨ r = 3 ∨ r = 4 ∨ r = 5 ∨ r = 6 ∨ r = 7 ∨ r = 8 ∨ r = 9 := by omega
  rcases this with rfl | rfl | rfl | rfl | rfl | rfl | rfl | rfl | rfl | rfl
  · exact ⟨1, 8232000, by rfl, by decide, by decide, by decide, by decide, by decide, by decide⟩
  · exact ⟨2, 4116000, by rfl, by decide, by decide, by decide, by decide, by decide, by decide⟩
  · exact ⟨4, 2058000, by rfl, by decide, by decide, by decide, by decide, by decide, by decide⟩
  · exact ⟨8, 1029000, by rfl, by decide, by decide, by decide, by decide, by decide, by decide⟩
  · exact ⟨3, 2744000, by rfl, by decide, by decide, by decide, by decide, by decide, by decide⟩
  · exact ⟨12, 686000, by rfl, by decide, by decide, by decide, by decide, by decide, by decide⟩
  · exact ⟨5, 1646400, by rfl, by decide, by decide, by decide, by decide, by decide, by decide⟩
  · exact ⟨7, 1176000, by rfl, by decide, by decide, by decide, by decide, by decide, by decide⟩
  · exact ⟨64, 128625, by rfl, by decide, by decide, by decide, by decide, by decide, by decide⟩
  · exact ⟨1000, 8232, by rfl, by decide, by decide, by decide, by decide, by decide, by decide⟩
theorem most_of {r : Int} (h1 : 0 ≤ r) (h2 : r < 3) : ∃ n : Int, L2.atI [D.int 2, .int 5, .int 100] r = some (.int n) ∧ 0 < n ∧ n ≤ 100 := by
  have : r = 0 ∨ r = 1 ∨ r = 2 := by omega
  rcases this with rfl | rfl | rfl
  · exact ⟨2, by rfl, by decide, by decide⟩
  · exact ⟨5, by rfl, by decide, by decide⟩
  · exact ⟨100, by rfl, by decide, by decide⟩
theorem kind_of {r : Int} (h1 : 0 ≤ r) (h2 : r < 3) : ∃ b : Bool, L2.atI [D.str "note", .str "note", .str "rest"] r = some (kD b) := by
  have : r = 0 ∨ r = 1 ∨ r = 2 := by omega
  rcases this with rfl | rfl | rfl
  · exact ⟨false, by rfl⟩
  · exact ⟨false, by rfl⟩
  · exact ⟨true, by rfl⟩
theorem turn_row (hpr : c.pr = true) (h1 : c.pm g = [.m, .f]) (h2 : c.pm g2 = [.f, .f]) (l1 : Dra (c.cf g)) (l2 : Low (c.cf g2)) {R d : D} {acc : List Un} {b : Nat} {l : List D} {s3 s4 s5 : Sl} (hl : Pu (b + 4) l) (hz : acc.length < sizeLine) :
    ∃ p l' s6 s7 s8, forT c (.n 3) (bRow g g2) d [.ol l, .fz R, .ol (acc.map pU), s3, s4, s5] = .nx [.ol l', .fz R, .ol ((acc ++ [p]).map pU), s6, s7, s8] ∧ Pu b l' ∧ 0 < p.2 ∧ p.2 ≤ Mx ∧ p.2 % 7 = 0 := by
  obtain ⟨r1, l1', e1, a1, a2, hl1⟩ := l1 (b + 3) 10 l hl (by decide) (by decide)
  obtain ⟨n, k, c1, n0, nl, nk, k0, k1, k7⟩ := low_of a1 a2
  obtain ⟨r2, l2', e2, b1, b2, hl2⟩ := l1 (b + 2) 3 l1' hl1 (by decide) (by decide)
  obtain ⟨w, c2, w0, w1⟩ := most_of b1 b2
  obtain ⟨r3, l3', e3, d1, d2, hl3⟩ := l1 (b + 1) w l2' hl2 w0 (by omega)
  obtain ⟨m4, e4⟩ := l2 (1 + r3) n n0 nl
  obtain ⟨r5, l5', e5, f1, f2, hl5⟩ := l1 b 3 l3' hl3 (by decide) (by decide)
  obtain ⟨kb, c5⟩ := kind_of f1 f2
  have eq : Rat.divInt (1 + r3) n = uR ((1 + r3) * k) := by
    unfold uR
    rw [← nk, Rat.divInt_mul_right (by omega)]
  rw [eq] at e4
  refine ⟨(kb, (1 + r3) * k), l5', .fz d, .fz (.int n), .fz (tU ((1 + r3) * k)), ?_, hl5, ?_, ?_, ?_⟩
  · unfold tU
    simp [forT, bRow, pU, tU, hpr, h1, h2, e1, c1, e2, c2, e3, e4, e5, c5, hz]
  · exact Int.mul_pos (by omega) k0
  · have : (1 + r3) * k ≤ 100 * 8232000 := Int.mul_le_mul (by omega) k1 (by omega) (by omega)
    show (1 + r3) * k ≤ 823200000
    omega
  · show ((1 + r3) * k) % 7 = 0
    rw [Int.mul_emod, k7]
    simp
theorem loop_row (hpr : c.pr = true) (h1 : c.pm g = [.m, .f]) (h2 : c.pm g2 = [.f, .f]) (l1 : Dra (c.cf g)) (l2 : Low (c.cf g2)) {R : D} {b : Nat} : ∀ {ds : List D} {acc : List Un} {l : List D} {s3 s4 s5 : Sl}, Pu (b + 4 * ds.length) l → (∀ p ∈ acc, 0 < p.2 ∧ p.2 ≤ Mx ∧ p.2 % 7 = 0) → acc.length + ds.length ≤ sizeLine →
    ∃ (u : List Un) (l' : List D) (s6 s7 s8 : Sl), forF (forT c (.n 3) (bRow g g2)) ds [.ol l, .fz R, .ol (acc.map pU), s3, s4, s5] = .nx [.ol l', .fz R, .ol (u.map pU), s6, s7, s8] ∧ Pu b l' ∧ (∀ p ∈ u, 0 < p.2 ∧ p.2 ≤ Mx ∧ p.2 % 7 = 0) ∧ u.length = acc.length + ds.length
  | [], acc, l, s3, s4, s5, hl, ha, _ => ⟨acc, l, s3, s4, s5, rfl, hl, ha, rfl⟩
  | d :: ds, acc, l, s3, s4, s5, hl, ha, hz => by
    rw [List.length_cons] at hl hz
    obtain ⟨p, l', s6, s7, s8, e, hl', p1, p2, p3⟩ := turn_row (R := R) (d := d) (acc := acc) (s3 := s3) (s4 := s4) (s5 := s5) (b := b + 4 * ds.length) hpr h1 h2 l1 l2 (hl.mono (by omega)) (by omega)
    obtain ⟨u, l2', t6, t7, t8, e2, hl2, hu, hlen⟩ := loop_row hpr h1 h2 l1 l2 (R := R) (b := b) (ds := ds) (acc := acc ++ [p]) (l := l') (s3 := s6) (s4 := s7) (s5 := s8) hl' (fun q hq => by
      rcases List.mem_append.mp hq with hq | hq
      · exact ha q hq
      · rw [List.mem_singleton.mp hq]; exact ⟨p1, p2, p3⟩) (by simp; omega)
    exact ⟨u, l2', t6, t7, t8, by rw [for_cons e, e2], hl2, hu, by rw [hlen]; simp; omega⟩
/-- rows that are drawn -/
def Dr (n : Nat) (u : List Un) : Prop := (∀ p ∈ u, 0 < p.2 ∧ p.2 ≤ Mx ∧ p.2 % 7 = 0) ∧ u.length ≤ n
theorem ev_row (hpr : c.pr = true) (h1 : c.pm g = [.m, .f]) (h2 : c.pm g2 = [.f, .f]) (l1 : Dra (c.cf g)) (l2 : Low (c.cf g2)) {n b : Nat} (hn : n ≤ 1000) {l : List D} (hl : Pu (b + (4 * n + 1)) l) :
    ∃ (u : List Un) (l' : List D) (s1 s3 s4 s5 : Sl), evSs c (sRow g g2) [.ol l, .fz (.int n), .no, .no, .no, .no] = .rt (.al 2) [.ol l', s1, .ol (u.map pU), s3, s4, s5] ∧ Pu b l' ∧ Dr n u := by
  obtain ⟨r, l', e, r1, r2, hl'⟩ := l1 (b + 4 * n) ((n : Int) + 1) l hl (by omega) (by omega)
  have hlen : (rgD 0 r.toNat).length = r.toNat := by simp [rgD]
  obtain ⟨u, l2', s6, s7, s8, e2, hl2, hu, hul⟩ := loop_row hpr h1 h2 l1 l2 (R := .int n) (b := b) (ds := rgD 0 r.toNat) (acc := []) (l := l') (s3 := .no) (s4 := .no) (s5 := .no) (hl'.mono (by rw [hlen]; omega)) (fun p h => nomatch h) (by rw [hlen, List.length_nil, Nat.zero_add]; exact Nat.le_trans (show r.toNat ≤ 1000 by omega) (show 1000 ≤ sizeLine by decide))
  refine ⟨u, l2', .fz (.int n), s6, s7, s8, ?_, hl2, hu, by rw [hul, hlen]; simp; omega⟩
  have b1 : -4611686018427387904 ≤ r ∧ r < 4611686018427387904 := by omega
  simp only [List.map_nil] at e2
  unfold sRow
  simp [hpr, h1, e, b1]
  rw [e2]
  simp
end
end Pl

namespace Pl
open PySem Mp
/-! Pn0: words for the laws of rows. -/
theorem qs_d {a b : Int} (ha : a.natAbs < 1237940039285380274899124225) (hb : 0 < b) (hb2 : b < 1237940039285380274899124225) : Qs (Rat.divInt a b) := by
  have e1 : (Rat.divInt a b).num.natAbs ≤ a.natAbs := by
    rw [Rat.num_divInt, Int.sign_eq_one_of_pos hb, Int.one_mul]
    exact Int.natAbs_ediv_le_natAbs _ _
  have e2 : (Rat.divInt a b).den ≤ b.natAbs := by
    rw [Rat.den_divInt, if_neg (by omega)]
    exact Nat.div_le_self _ _
  constructor
  · refine log_lt (by omega) (Nat.lt_of_le_of_lt e1 (Nat.lt_trans ha ?_))
    exact Nat.lt_of_lt_of_le (show 1237940039285380274899124225 < 2 ^ 91 by decide) (Nat.pow_le_pow_right (by omega) (by omega))
  · refine log_lt (by omega) (Nat.lt_of_le_of_lt (show ((Rat.divInt a b).den : Int).natAbs ≤ b.natAbs from e2) (Nat.lt_trans (show b.natAbs < 1237940039285380274899124225 by omega) ?_))
    exact Nat.lt_of_lt_of_le (show 1237940039285380274899124225 < 2 ^ 91 by decide) (Nat.pow_le_pow_right (by omega) (by omega))
theorem eqD_tq (p q : Rat) : eqD (tD p) (tD q) = some (decide (p = q)) := by
  by_cases h : p = q
  · subst h
    rw [decide_eq_true rfl]
    exact eqD_same (pln_t (q := p) (n := 1))
  · rw [decide_eq_false h]
    have hne : ¬ (p.num = q.num ∧ (p.den : Int) = q.den) := fun ⟨h1, h2⟩ => h (Rat.ext h1 (by omega))
    unfold eqD tD
    have s : ∀ i j : Int, SeqAt.shaped (.tuple [.int i, .int j]) = true := fun i j => by
      simp [SeqAt.shaped, PyData.canLay0, PyData.canLayAll0, PyData.depth, PyData.depthAll]
    simp only [D.toP, D.toPs, Option.map_some, s, Bool.and_self, if_true, PyData.eqv, PyData.eqvAll, Bool.and_true]
    congr 1
    rw [Bool.and_eq_false_iff]
    by_cases h1 : p.num = q.num
    · right
      exact beq_eq_false_iff_ne.mpr fun h2 => hne ⟨h1, h2⟩
    · left
      exact beq_eq_false_iff_ne.mpr h1
theorem eqD_t [Unt] (x y : Int) : eqD (tU x) (tU y) = some (decide (x = y)) := by
  unfold tU
  rw [eqD_tq]
  congr 1
  exact decide_eq_decide.mpr ⟨uR_inj, fun h => by rw [h]⟩
theorem pln_told {r : Row} {ds : List D} (h : Two Told r ds) : Pln 3 (.lst ds) := .lst fun d hd => by
  induction h with
  | nil => cases hd
  | cons h t ih =>
    rcases List.mem_cons.mp hd with rfl | hd
    · obtain ⟨a, b, rfl, _⟩ := h
      exact .tup fun d hd => by
        simp at hd
        rcases hd with rfl | rfl
        · exact pln_k
        · exact .tup fun d hd => by
            simp at hd
            rcases hd with rfl | rfl <;> exact .int
    · exact ih hd
theorem pln_pD {r : Row} : Pln 3 (.lst (r.map pD)) := pln_row
def PiecesG (f : List Sl → Cres) : Prop := ∀ r : Row, (∀ p ∈ r, Qs p.2) → ∃ m, f [.bw (r.map pD)] = .ok (.d (.bl true)) m
def PurseF (f : List Sl → Cres) (ns : List Int) : Prop := ∀ k : Nat, k < 1000 → ∃ l m, f [.sc (ns.map .int), .fz (.int k)] = .ok (.ol l) m ∧ Pu 1152921504605847000 l
def RowF (f : List Sl → Cres) : Prop := ∀ (n b : Nat) (l : List D), n ≤ 1000 → Pu (b + (4 * n + 1)) l → ∃ (u : List Un) (l' : List D), f [.ol l, .fz (.int n)] = .ok (.ol (u.map (@pU U0))) (.ol l') ∧ Pu b l' ∧ Dr n u
def OthF (f : List Sl → Cres) : Prop := ∀ (r : Row) (b : Nat) (l : List D), (∀ p ∈ r, Qs p.2) → r.length ≤ sizeLine → Pu (b + r.length) l → ∃ ds l', f [.ol l, .fz (.lst (r.map pD))] = .ok (.ol ds) (.ol l') ∧ Two Told r ds ∧ Pu b l'
def LenF [Unt] (f : List Sl → Cres) : Prop := ∀ (u : List Un) (ds : List D), Two Told (u.map uP) ds → Gu Bd u → u.length ≤ sizeLine → ∃ m, f [.fz (.lst ds)] = .ok (.d (tU (tot u))) m
theorem gu_of {n : Nat} {u : List Un} (h : Dr n u) (hn : n ≤ 1000) : Gu Bd u ∧ u.length ≤ sizeLine ∧ tot u % 7 = 0 ∧ tot u ≤ 823200000 * 1000 := by
  obtain ⟨h1, h2⟩ := h
  have key : ∀ {u : List Un}, (∀ p ∈ u, 0 < p.2 ∧ p.2 ≤ Mx ∧ p.2 % 7 = 0) → tot u ≤ 823200000 * (u.length : Int) ∧ tot u % 7 = 0 := fun {u} => by
    induction u with
    | nil => intro _; simp [tot]
    | cons p u ih =>
      intro h
      obtain ⟨k1, k2⟩ := ih fun p hp => h p (List.mem_cons_of_mem _ hp)
      obtain ⟨q1, q2, q3⟩ := h p List.mem_cons_self
      rw [tot_cons, List.length_cons]
      refine ⟨?_, by omega⟩
      simp only [Mx] at q2
      omega
  obtain ⟨k1, k2⟩ := key h1
  refine ⟨⟨fun p hp => (h1 p hp).1, ?_⟩, Nat.le_trans (show u.length ≤ 1000 by omega) (show 1000 ≤ sizeLine by decide), k2, by omega⟩
  simp only [Bd]
  omega
/-! other units -/
def scU (j : Int) (u : List Un) : List Un := u.map fun p => (p.1, p.2 * j)
theorem tU_sc {U U' : Unt} {j k : Int} (h : U'.m = U.m * j) : @tU U' (k * j) = @tU U k := by
  have h0 := @M0 U'
  have hj : j ≠ 0 := fun z => h0 (show U'.m = 0 by rw [h, z, Int.mul_zero])
  unfold tU uR M
  rw [h, Rat.divInt_mul_right hj]
theorem pU_sc {U U' : Unt} {j : Int} (h : U'.m = U.m * j) (p : Un) : @pU U' (p.1, p.2 * j) = @pU U p := by
  unfold pU
  rw [tU_sc h]
theorem map_sc {U U' : Unt} {j : Int} (h : U'.m = U.m * j) (u : List Un) : (scU j u).map (@pU U') = u.map (@pU U) := by
  unfold scU
  rw [List.map_map]
  exact List.map_congr_left fun p _ => pU_sc h p
theorem tot_sc {j : Int} : ∀ {u : List Un}, tot (scU j u) = tot u * j
  | [] => by simp [tot, scU]
  | p :: u => by
    have e : scU j (p :: u) = (p.1, p.2 * j) :: scU j u := rfl
    rw [e, tot_cons, tot_cons, tot_sc, Int.add_mul]
theorem sc_pos {j : Int} (hj : 0 < j) {u : List Un} (h : ∀ p ∈ u, 0 < p.2) : ∀ p ∈ scU j u, 0 < p.2 := fun p hp => by
  obtain ⟨q, hq, rfl⟩ := List.mem_map.mp hp
  exact Int.mul_pos (h q hq) hj
theorem sc_len {j : Int} {u : List Un} : (scU j u).length = u.length := by simp [scU]
end Pl

namespace Pl
open PySem Mp
/-! Qa: two rows as one, by points. -/
abbrev Srt (l : List Int) : Prop := l.Pairwise (· < ·)
def insP : List Int → Int → List Int
  | [], t => [t]
  | x :: l, t => if x < t then x :: insP l t else if x = t then x :: l else t :: x :: l
theorem insP_mem {t x : Int} : ∀ {l : List Int}, x ∈ insP l t ↔ x = t ∨ x ∈ l
  | [] => by simp [insP]
  | y :: l => by
    unfold insP
    split
    · rw [List.mem_cons, insP_mem, List.mem_cons]
      constructor
      · rintro (h | h | h)
        · exact .inr (.inl h)
        · exact .inl h
        · exact .inr (.inr h)
      · rintro (h | h | h)
        · exact .inr (.inl h)
        · exact .inl h
        · exact .inr (.inr h)
    · split
      · rename_i _ h
        rw [List.mem_cons]
        constructor
        · exact .inr
        · rintro (h' | h')
          · exact .inl (by rw [h', h])
          · exact h'
      · rw [List.mem_cons]
theorem insP_srt {t : Int} : ∀ {l : List Int}, Srt l → Srt (insP l t)
  | [], _ => by simp [insP]
  | x :: l, h => by
    have h1 := List.pairwise_cons.mp h
    unfold insP
    split
    · rename_i hx
      refine List.pairwise_cons.mpr ⟨fun y hy => ?_, insP_srt h1.2⟩
      rcases insP_mem.mp hy with rfl | hy
      · exact hx
      · exact h1.1 y hy
    · split
      · exact h
      · rename_i h2 h3
        refine List.pairwise_cons.mpr ⟨fun y hy => ?_, h⟩
        rcases List.mem_cons.mp hy with rfl | hy
        · omega
        · have := h1.1 y hy
          omega
theorem insP_len {t : Int} : ∀ {l : List Int}, (insP l t).length ≤ l.length + 1
  | [] => by simp [insP]
  | x :: l => by
    unfold insP
    split
    · have := insP_len (t := t) (l := l)
      simp; omega
    · split <;> simp
def pts (l : List Int) : List Int := l.foldl insP []
theorem pts_ok : ∀ {l acc : List Int}, Srt acc → Srt (l.foldl insP acc) ∧ (∀ x, x ∈ l.foldl insP acc ↔ x ∈ acc ∨ x ∈ l) ∧ (l.foldl insP acc).length ≤ acc.length + l.length
  | [], acc, h => ⟨h, fun x => by simp, by simp⟩
  | t :: l, acc, h => by
    obtain ⟨h1, h2, h3⟩ := pts_ok (l := l) (insP_srt (t := t) h)
    refine ⟨h1, fun x => ?_, ?_⟩
    · rw [List.foldl_cons, h2, insP_mem, List.mem_cons]
      constructor
      · rintro ((h | h) | h)
        · exact .inr (.inl h)
        · exact .inl h
        · exact .inr (.inr h)
      · rintro (h | h | h)
        · exact .inl (.inr h)
        · exact .inl (.inl h)
        · exact .inr h
    · have := insP_len (t := t) (l := acc)
      rw [List.foldl_cons, List.length_cons]
      omega
theorem pts_srt (l : List Int) : Srt (pts l) := (pts_ok (l := l) (acc := []) .nil).1
theorem pts_mem {l : List Int} {x : Int} : x ∈ pts l ↔ x ∈ l := by
  have := (pts_ok (l := l) (acc := []) .nil).2.1 x
  simpa [pts] using this
theorem pts_len {l : List Int} : (pts l).length ≤ l.length := by
  have := (pts_ok (l := l) (acc := []) .nil).2.2
  simpa [pts] using this
theorem srt_sub : ∀ {l m : List Int}, Srt l → Srt m → (∀ x ∈ l, x ∈ m) → l.Sublist m
  | [], m, _, _, _ => List.nil_sublist m
  | x :: l, [], _, _, h => absurd (h x List.mem_cons_self) (by simp)
  | x :: l, y :: m, hl, hm, h => by
    have hl1 := List.pairwise_cons.mp hl
    have hm1 := List.pairwise_cons.mp hm
    by_cases e : x = y
    · subst e
      refine List.Sublist.cons_cons x (srt_sub hl1.2 hm1.2 fun z hz => ?_)
      rcases List.mem_cons.mp (h z (List.mem_cons_of_mem _ hz)) with q | q
      · have := hl1.1 z hz
        omega
      · exact q
    · have hy : y < x := by
        rcases List.mem_cons.mp (h x List.mem_cons_self) with q | q
        · exact absurd q e
        · exact hm1.1 x q
      refine List.Sublist.cons y (srt_sub hl hm1.2 fun z hz => ?_)
      rcases List.mem_cons.mp (h z hz) with q | q
      · rcases List.mem_cons.mp hz with w | w
        · omega
        · have := hl1.1 z w
          omega
      · exact q
theorem srt_eq {l m : List Int} (hl : Srt l) (hm : Srt m) (h : ∀ x, x ∈ l ↔ x ∈ m) : l = m := (srt_sub hl hm fun x hx => (h x).mp hx).eq_of_length_le (srt_sub hm hl fun x hx => (h x).mpr hx).length_le
/-! what sounds -/
def isOn (t : Int) (s : Sp) : Bool := !s.1 && (!decide (t < s.2.1) && decide (t < s.2.2))
def onN (N : List Sp) (t : Int) : Bool := N.any (isOn t)
def bgN (N : List Sp) (t : Int) : Bool := N.any fun s => isOn t s && decide (s.2.1 = t)
def setL (acc : List Un) (x : Int) : List Un := match acc.getLast? with
  | some p => acc.dropLast ++ [(false, p.2 + x)]
  | none => acc
theorem setL_sn {l : List Un} {p : Un} {x : Int} : setL (l ++ [p]) x = l ++ [(false, p.2 + x)] := by simp [setL]
/-- one stretch, as it is told -/
def stp (N : List Sp) (acc : List Un) (t e : Int) : List Un := if (onN N t && !bgN N t) = true then setL acc (e - t) else acc ++ [(!onN N t, e - t)]
def rn (N : List Sp) : Int → List Int → List Un → List Un
  | _, [], acc => acc
  | t, e :: l, acc => rn N e l (stp N acc t e)
/-- .. rests put together at once -/
def stm (N : List Sp) (acc : List Un) (t e : Int) : List Un := if (onN N t && !bgN N t) = true then setL acc (e - t) else mg acc (!onN N t, e - t)
def rm (N : List Sp) : Int → List Int → List Un → List Un
  | _, [], acc => acc
  | t, e :: l, acc => rm N e l (stm N acc t e)
def both (N : List Sp) : List Int → List Un
  | [] => []
  | t :: l => mergeU (rn N t l [])
def bds (N : List Sp) : List Int := N.map (·.2.1) ++ N.map (·.2.2)
def bothS (N : List Sp) : List Un := both N (pts (bds N))
/-- a note's bounds are behind or ahead -/
def Bnd (N : List Sp) (t : Int) (l : List Int) : Prop := ∀ s ∈ N, s.1 = false → (s.2.1 ≤ t ∨ s.2.1 ∈ l) ∧ (s.2.2 ≤ t ∨ s.2.2 ∈ l)
def Inv (N : List Sp) (t : Int) (acc : List Un) : Prop := (onN N t && !bgN N t) = true → ∃ l x, acc = l ++ [(false, x)]
section
variable {N : List Sp} {t e m : Int} {l : List Int} {acc : List Un}
theorem isOn_iff {s : Sp} : isOn t s = true ↔ s.1 = false ∧ s.2.1 ≤ t ∧ t < s.2.2 := by
  unfold isOn
  cases s.1 <;> simp
theorem onN_iff : onN N t = true ↔ ∃ s ∈ N, s.1 = false ∧ s.2.1 ≤ t ∧ t < s.2.2 := by
  unfold onN
  rw [List.any_eq_true]
  exact ⟨fun ⟨s, h1, h2⟩ => ⟨s, h1, isOn_iff.mp h2⟩, fun ⟨s, h1, h2⟩ => ⟨s, h1, isOn_iff.mpr h2⟩⟩
theorem bgN_iff : bgN N t = true ↔ ∃ s ∈ N, s.1 = false ∧ s.2.1 = t ∧ t < s.2.2 := by
  unfold bgN
  rw [List.any_eq_true]
  constructor
  · rintro ⟨s, h1, h2⟩
    rw [Bool.and_eq_true] at h2
    obtain ⟨a, b, c⟩ := isOn_iff.mp h2.1
    exact ⟨s, h1, a, of_decide_eq_true h2.2, c⟩
  · rintro ⟨s, h1, h2, h3, h4⟩
    refine ⟨s, h1, ?_⟩
    rw [Bool.and_eq_true]
    exact ⟨isOn_iff.mpr ⟨h2, by omega, h4⟩, decide_eq_true h3⟩
/-- between two points nothing begins or ends -/
theorem on_between (h : ∀ s ∈ N, s.1 = false → (s.2.1 ≤ t ∨ m < s.2.1) ∧ (s.2.2 ≤ t ∨ m < s.2.2)) (htm : t < m) : onN N m = onN N t ∧ bgN N m = false := by
  constructor
  · rw [Bool.eq_iff_iff, onN_iff, onN_iff]
    constructor
    · rintro ⟨s, h1, h2, h3, h4⟩
      have := h s h1 h2
      exact ⟨s, h1, h2, by omega, by omega⟩
    · rintro ⟨s, h1, h2, h3, h4⟩
      have := h s h1 h2
      exact ⟨s, h1, h2, by omega, by omega⟩
  · cases q : bgN N m with
    | false => rfl
    | true =>
      obtain ⟨s, h1, h2, h3, h4⟩ := bgN_iff.mp q
      have := h s h1 h2
      omega
/-- what goes on at the next point was on at this one -/
theorem on_next (hb : Bnd N t (e :: l)) (hs : Srt (t :: e :: l)) (h : (onN N e && !bgN N e) = true) : onN N t = true := by
  have h1 := List.pairwise_cons.mp hs
  have h2 := List.pairwise_cons.mp h1.2
  rw [Bool.and_eq_true] at h
  obtain ⟨s, q1, q2, q3, q4⟩ := onN_iff.mp h.1
  have nb : s.2.1 ≠ e := fun z => by
    have : bgN N e = true := bgN_iff.mpr ⟨s, q1, q2, z, q4⟩
    rw [this] at h
    simp at h
  have te := h1.1 e List.mem_cons_self
  have b := (hb s q1 q2).1
  refine onN_iff.mpr ⟨s, q1, q2, ?_, by omega⟩
  rcases b with b | b
  · exact b
  · rcases List.mem_cons.mp b with z | z
    · exact absurd z nb
    · have := h2.1 _ z
      omega
theorem mg_note {x : Int} : mg acc (false, x) = acc ++ [(false, x)] := mg_other fun _ _ _ => rfl
theorem mg_rests {x y : Int} : mg (mg acc (true, x)) (true, y) = mg acc (true, x + y) := by
  rcases sn_cases acc with rfl | ⟨l, p, rfl⟩
  · rfl
  · obtain ⟨b, z⟩ := p
    cases b
    · rw [mg_sn, mg_sn]
      simp only [Bool.true_and, Bool.and_false, if_false, Bool.false_eq_true]
      rw [mg_sn]
      simp
    · rw [mg_sn, mg_sn]
      simp only [Bool.and_self, if_true]
      rw [mg_sn]
      simp [Int.add_assoc]
theorem merge_sn {p : Un} : mergeU (acc ++ [p]) = mg (mergeU acc) p := by unfold mergeU; rw [List.foldl_append]; rfl
theorem stp_merge (i : Inv N t acc) : mergeU (stp N acc t e) = stm N (mergeU acc) t e ∧ ((onN N t = true) → (∃ l x, stp N acc t e = l ++ [(false, x)])) := by
  unfold stp stm
  by_cases h : (onN N t && !bgN N t) = true
  · obtain ⟨l, x, rfl⟩ := i h
    rw [if_pos h, if_pos h, setL_sn, merge_sn, merge_sn, mg_note, mg_note, setL_sn]
    exact ⟨rfl, fun _ => ⟨l, _, rfl⟩⟩
  · rw [if_neg h, if_neg h, merge_sn]
    exact ⟨rfl, fun h => ⟨acc, e - t, by rw [h]; rfl⟩⟩
theorem stm_note (i : Inv N t acc) (h0 : onN N t = true) : ∃ l x, stm N acc t e = l ++ [(false, x)] := by
  unfold stm
  by_cases h : (onN N t && !bgN N t) = true
  · obtain ⟨l, x, rfl⟩ := i h
    rw [if_pos h, setL_sn]
    exact ⟨l, _, rfl⟩
  · rw [if_neg h, h0]
    exact ⟨acc, e - t, mg_note⟩
theorem Bnd.tail (hb : Bnd N t (e :: l)) (h : t < e) : Bnd N e l := fun s h1 h2 => by
  obtain ⟨a, b⟩ := hb s h1 h2
  constructor
  · rcases a with a | a
    · exact .inl (by omega)
    · rcases List.mem_cons.mp a with a | a
      · exact .inl (by omega)
      · exact .inr a
  · rcases b with a | a
    · exact .inl (by omega)
    · rcases List.mem_cons.mp a with a | a
      · exact .inl (by omega)
      · exact .inr a
end
theorem rn_merge {N : List Sp} : ∀ {l : List Int} {t : Int} {acc : List Un}, Srt (t :: l) → Bnd N t l → Inv N t acc → mergeU (rn N t l acc) = rm N t l (mergeU acc)
  | [], _, _, _, _, _ => rfl
  | e :: l, t, acc, hs, hb, i => by
    have h1 := List.pairwise_cons.mp hs
    have te := h1.1 e List.mem_cons_self
    obtain ⟨q1, q2⟩ := stp_merge (e := e) i
    unfold rn rm
    rw [rn_merge h1.2 (hb.tail te) fun h => q2 (on_next hb hs h), q1]
theorem drop_pt {N : List Sp} {t m e : Int} {l : List Int} {acc : List Un} (h : onN N m = onN N t ∧ bgN N m = false) (i : Inv N t acc) : rm N t (m :: e :: l) acc = rm N t (e :: l) acc := by
  unfold rm
  rw [show rm N m (e :: l) (stm N acc t m) = rm N e l (stm N (stm N acc t m) m e) from rfl]
  congr 1
  have hm : (onN N m && !bgN N m) = onN N t := by rw [h.1, h.2]; simp
  cases h0 : onN N t with
  | true =>
    rw [h0] at hm
    obtain ⟨l0, x, e0⟩ := stm_note (e := m) i h0
    rw [show stm N (stm N acc t m) m e = setL (stm N acc t m) (e - m) from if_pos hm]
    unfold stm
    by_cases hh : (onN N t && !bgN N t) = true
    · rw [if_pos hh, if_pos hh]
      obtain ⟨l1, y, rfl⟩ := i hh
      rw [setL_sn, setL_sn, setL_sn]
      congr 3
      show y + (m - t) + (e - m) = y + (e - t)
      omega
    · rw [if_neg hh, if_neg hh, h0]
      show setL (mg acc (false, m - t)) (e - m) = mg acc (false, e - t)
      rw [mg_note, mg_note, setL_sn]
      congr 3
      show m - t + (e - m) = e - t
      omega
  | false =>
    have n1 : ¬ (onN N m && !bgN N m) = true := by rw [hm, h0]; exact fun z => nomatch z
    have n2 : ¬ (onN N t && !bgN N t) = true := by rw [h0]; exact fun z => nomatch z
    unfold stm
    rw [if_neg n1, if_neg n2, if_neg n2, h.1, h0]
    show mg (mg acc (true, m - t)) (true, e - m) = mg acc (true, e - t)
    rw [mg_rests]
    congr 2
    omega
/-- points at which nothing happens may be left out -/
theorem rm_sub {N : List Sp} {T : Int} : ∀ {L' L : List Int} {t : Int} {acc : List Un}, L'.Sublist L → Srt (t :: L) → Bnd N t L' → (T = t ∨ T ∈ L') → (∀ x ∈ L, x ≤ T) → Inv N t acc → rm N t L acc = rm N t L' acc
  | [], [], _, _, _, _, _, _, _, _ => rfl
  | L', m :: L1, t, acc, hsub, hs, hb, hT, hmax, i => by
    have h1 := List.pairwise_cons.mp hs
    have tm := h1.1 m List.mem_cons_self
    have mT := hmax m List.mem_cons_self
    cases hsub with
    | cons _ hsub =>
      have hT' : T ∈ L' := hT.resolve_left (by omega)
      have hT1 : T ∈ L1 := hsub.subset hT'
      have key : onN N m = onN N t ∧ bgN N m = false := on_between (fun s q1 q2 => by
        have h2 := List.pairwise_cons.mp h1.2
        obtain ⟨a, b⟩ := hb s q1 q2
        exact ⟨a.imp_right fun z => h2.1 _ (hsub.subset z), b.imp_right fun z => h2.1 _ (hsub.subset z)⟩) tm
      match L1, hsub, hs, hmax, hT1 with
      | [], _, _, _, hT1 => cases hT1
      | e :: L2, hsub, hs, hmax, hT1 =>
        rw [drop_pt key i]
        have hs2 : Srt (t :: e :: L2) := hs.sublist (List.Sublist.cons_cons t (List.Sublist.cons m (List.Sublist.refl _)))
        exact rm_sub hsub hs2 hb (.inr hT') (fun x hx => hmax x (List.mem_cons_of_mem _ hx)) i
    | cons_cons _ hsub =>
      rename_i L1'
      unfold rm
      refine rm_sub hsub h1.2 (hb.tail tm) ?_ (fun x hx => hmax x (List.mem_cons_of_mem _ hx)) fun h => ?_
      · rcases hT with z | z
        · omega
        · exact (List.mem_cons.mp z)
      · refine stm_note i (on_next hb (l := L1') ?_ h)
        exact hs.sublist (List.Sublist.cons_cons t (List.Sublist.cons_cons m hsub))
/-- two lists of spans that sound alike -/
theorem both_eq {N N' : List Sp} {T : Int} (h1 : ∀ t, onN N t = onN N' t) (h2 : ∀ t, bgN N t = bgN N' t) (hsub : ∀ x ∈ bds N', x ∈ bds N) (h0 : 0 ∈ bds N') (hT : T ∈ bds N') (hb : ∀ x ∈ bds N, 0 ≤ x ∧ x ≤ T) : bothS N = bothS N' := by
  have head : ∀ {N0 : List Sp}, 0 ∈ bds N0 → (∀ x ∈ bds N0, 0 ≤ x ∧ x ≤ T) → ∃ L, pts (bds N0) = 0 :: L ∧ Srt (0 :: L) ∧ ∀ x, x ∈ (0 :: L) ↔ x ∈ bds N0 := fun {N0} h0 hb => by
    have s := pts_srt (bds N0)
    have m := fun x => pts_mem (l := bds N0) (x := x)
    cases q : pts (bds N0) with
    | nil =>
      have := (m 0).mpr h0
      rw [q] at this
      cases this
    | cons y L =>
      rw [q] at s m
      have y0 : y = 0 := by
        have a := (hb y ((m y).mp List.mem_cons_self)).1
        rcases List.mem_cons.mp ((m 0).mpr h0) with z | z
        · omega
        · have := (List.pairwise_cons.mp s).1 0 z
          omega
      subst y0
      exact ⟨L, rfl, s, m⟩
  obtain ⟨L, e1, s1, m1⟩ := head (hsub 0 h0) hb
  obtain ⟨L', e2, s2, m2⟩ := head h0 fun x hx => hb x (hsub x hx)
  have est : ∀ {acc t e}, stm N acc t e = stm N' acc t e := fun {acc t e} => by unfold stm; rw [h1, h2]
  have erm : ∀ {l t acc}, rm N t l acc = rm N' t l acc := fun {l} => by
    induction l with
    | nil => intro _ _; rfl
    | cons e l ih => intro t acc; unfold rm; rw [est, ih]
  have bnd : ∀ {N0 : List Sp} {L0 : List Int}, (∀ x, x ∈ (0 :: L0) ↔ x ∈ bds N0) → Bnd N0 0 L0 := fun {N0 L0} m s hs _ => by
    have a : s.2.1 ∈ bds N0 := List.mem_append_left _ (List.mem_map.mpr ⟨s, hs, rfl⟩)
    have b : s.2.2 ∈ bds N0 := List.mem_append_right _ (List.mem_map.mpr ⟨s, hs, rfl⟩)
    exact ⟨(List.mem_cons.mp ((m _).mpr a)).imp_left (fun z => by omega), (List.mem_cons.mp ((m _).mpr b)).imp_left (fun z => by omega)⟩
  have inv : ∀ {N0 : List Sp}, (∀ x ∈ bds N0, 0 ≤ x ∧ x ≤ T) → Inv N0 0 [] := fun {N0} hb h => by
    exfalso
    rw [Bool.and_eq_true] at h
    obtain ⟨s, q1, q2, q3, q4⟩ := onN_iff.mp h.1
    have := (hb s.2.1 (List.mem_append_left _ (List.mem_map.mpr ⟨s, q1, rfl⟩))).1
    have : bgN N0 0 = true := bgN_iff.mpr ⟨s, q1, q2, by omega, q4⟩
    rw [this] at h
    simp at h
  have hb' : ∀ x ∈ bds N', 0 ≤ x ∧ x ≤ T := fun x hx => hb x (hsub x hx)
  unfold bothS
  rw [e1, e2]
  show mergeU (rn N 0 L []) = mergeU (rn N' 0 L' [])
  rw [rn_merge s1 (bnd m1) (inv hb), rn_merge s2 (bnd m2) (inv hb'), erm]
  have sub : (0 :: L').Sublist (0 :: L) := srt_sub s2 s1 fun x hx => (m1 x).mpr (hsub x ((m2 x).mp hx))
  have sub : L'.Sublist L := by
    cases sub with
    | cons _ h =>
      have := h.subset List.mem_cons_self
      have := (List.pairwise_cons.mp s1).1 0 this
      omega
    | cons_cons _ h => exact h
  exact rm_sub sub s1 (bnd m2) ((List.mem_cons.mp ((m2 T).mpr hT)).imp_left id) (fun x hx => (hb x ((m1 x).mp (List.mem_cons_of_mem _ hx))).2) (inv hb')
end Pl

namespace Pl
open PySem Mp
/-! Qb: kept rows, rests, told as one. -/
theorem any_filter {N : List Sp} {f : Sp → Bool} (h : ∀ s, f s = true → s.1 = false) : N.any f = (N.filter fun s => !s.1).any f := by
  rw [Bool.eq_iff_iff, List.any_eq_true, List.any_eq_true]
  constructor
  · rintro ⟨s, h1, h2⟩
    exact ⟨s, List.mem_filter.mpr ⟨h1, by rw [h s h2]; rfl⟩, h2⟩
  · rintro ⟨s, h1, h2⟩
    exact ⟨s, (List.mem_filter.mp h1).1, h2⟩
theorem isOn_note {t : Int} : ∀ s, isOn t s = true → s.1 = false := fun s h => (isOn_iff.mp h).1
/-- the notes alone are heard -/
abbrev nts (N : List Sp) : List Sp := N.filter fun s => !s.1
theorem onN_nts {N : List Sp} {t : Int} : onN N t = onN (nts N) t := any_filter isOn_note
theorem bgN_nts {N : List Sp} {t : Int} : bgN N t = bgN (nts N) t := any_filter fun s h => isOn_note (t := t) s (Bool.and_eq_true_iff.mp h).1
theorem spF_sn {l : List Un} {x : Un} {t : Int} : spF t (l ++ [x]) = spF t l ++ [(x.1, t + tot l, t + tot l + x.2)] := by
  rw [spF_app]
  rfl
theorem nts_mg {acc : List Un} {p : Un} : nts (spF 0 (mg acc p)) = nts (spF 0 (acc ++ [p])) ∧ ∀ x ∈ bds (spF 0 (mg acc p)), x ∈ bds (spF 0 (acc ++ [p])) := by
  rcases sn_cases acc with rfl | ⟨l, x, rfl⟩
  · rw [mg_nil]
    exact ⟨rfl, fun x h => h⟩
  · rw [mg_sn]
    split
    · rename_i h
      rw [Bool.and_eq_true] at h
      obtain ⟨h1, h2⟩ := h
      have e1 : tot (l ++ [x]) = tot l + x.2 := by rw [tot_app]; simp [tot]
      constructor
      · unfold nts
        rw [spF_sn, spF_sn, spF_sn, List.filter_append, List.filter_append, List.filter_append]
        simp [h1, h2]
      · rw [spF_sn, spF_sn, spF_sn]
        intro y hy
        unfold bds at hy ⊢
        simp only [List.map_append, List.map_cons, List.map_nil, List.mem_append, List.mem_singleton, e1] at hy ⊢
        rcases hy with (hy | hy) | (hy | hy)
        · exact .inl (.inl (.inl hy))
        · exact .inl (.inl (.inr hy))
        · exact .inr (.inl (.inl hy))
        · exact .inr (.inr (by rw [hy]; omega))
    · exact ⟨rfl, fun y h => h⟩
theorem bds_app {N N' : List Sp} {x : Int} : x ∈ bds (N ++ N') ↔ x ∈ bds N ∨ x ∈ bds N' := by
  unfold bds
  simp only [List.map_append, List.mem_append]
  constructor
  · rintro ((h | h) | (h | h))
    · exact .inl (.inl h)
    · exact .inr (.inl h)
    · exact .inl (.inr h)
    · exact .inr (.inr h)
  · rintro ((h | h) | (h | h))
    · exact .inl (.inl h)
    · exact .inr (.inl h)
    · exact .inl (.inr h)
    · exact .inr (.inr h)
theorem nts_fold : ∀ {u acc : List Un}, nts (spF 0 (u.foldl mg acc)) = nts (spF 0 (acc ++ u)) ∧ ∀ x ∈ bds (spF 0 (u.foldl mg acc)), x ∈ bds (spF 0 (acc ++ u))
  | [], acc => by simp
  | p :: u, acc => by
    obtain ⟨h1, h2⟩ := nts_fold (u := u) (acc := mg acc p)
    obtain ⟨h3, h4⟩ := nts_mg (acc := acc) (p := p)
    have ea : acc ++ p :: u = (acc ++ [p]) ++ u := by simp
    have et : tot (mg acc p) = tot (acc ++ [p]) := by rw [tot_mg, tot_app]; simp [tot]
    rw [List.foldl_cons, ea]
    constructor
    · rw [h1, spF_app, spF_app, et]
      unfold nts at h3 ⊢
      rw [List.filter_append, List.filter_append, h3]
    · intro x hx
      have := h2 x hx
      rw [spF_app, bds_app] at this
      rw [spF_app, bds_app, ← et]
      exact this.imp_left (h4 x)
theorem nts_merge {u : List Un} : nts (spF 0 (mergeU u)) = nts (spF 0 u) ∧ ∀ x ∈ bds (spF 0 (mergeU u)), x ∈ bds (spF 0 u) := nts_fold (u := u) (acc := [])
theorem bds_sp {u : List Un} (h : ∀ p ∈ u, 0 < p.2) : ∀ x ∈ bds (spF 0 u), 0 ≤ x ∧ x ≤ tot u := fun x hx => by
  unfold bds at hx
  rcases List.mem_append.mp hx with hx | hx <;> obtain ⟨s, hs, rfl⟩ := List.mem_map.mp hx <;> obtain ⟨k1, k2, k3⟩ := spF_in h s hs <;> exact ⟨by omega, by omega⟩
theorem bds_ends {u : List Un} (hne : u ≠ []) : 0 ∈ bds (spF 0 u) ∧ tot u ∈ bds (spF 0 u) := by
  constructor
  · cases u with
    | nil => exact absurd rfl hne
    | cons p u => exact List.mem_append_left _ List.mem_cons_self
  · rcases sn_cases u with rfl | ⟨l, x, rfl⟩
    · exact absurd rfl hne
    · rw [spF_sn]
      refine List.mem_append_right _ ?_
      rw [List.map_append]
      refine List.mem_append_right _ ?_
      simp [tot]
theorem any_comm {a b : List Sp} {f : Sp → Bool} : (a ++ b).any f = (b ++ a).any f := by rw [List.any_append, List.any_append, Bool.or_comm]
theorem merge_ne {u : List Un} (h : ∀ p ∈ u, 0 < p.2) (hne : u ≠ []) : mergeU u ≠ [] := fun e => by
  have := (merge_gu (B := tot u) ⟨h, Int.le_refl _⟩).2.2
  rw [e] at this
  cases u with
  | nil => exact hne rfl
  | cons p u =>
    have h1 := h p List.mem_cons_self
    have h2 := le_tot h (p := p) List.mem_cons_self
    simp [tot] at this
    rw [tot_cons] at h2
    unfold tot at h2
    omega
/-- kept or not, either way about -/
theorem both_kept {u v : List Un} (hu : ∀ p ∈ u, 0 < p.2) (hv : ∀ p ∈ v, 0 < p.2) (hT : tot u = tot v) (hne : u ≠ []) : bothS (spF 0 u ++ spF 0 v) = bothS (spF 0 (mergeU u) ++ spF 0 (mergeU v)) := by
  have e1 : ∀ t, onN (spF 0 u ++ spF 0 v) t = onN (spF 0 (mergeU u) ++ spF 0 (mergeU v)) t := fun t => by
    rw [onN_nts, onN_nts (N := spF 0 (mergeU u) ++ spF 0 (mergeU v))]
    unfold nts
    rw [List.filter_append, List.filter_append]
    have := nts_merge (u := u)
    have := nts_merge (u := v)
    unfold nts at *
    simp [*]
  have e2 : ∀ t, bgN (spF 0 u ++ spF 0 v) t = bgN (spF 0 (mergeU u) ++ spF 0 (mergeU v)) t := fun t => by
    rw [bgN_nts, bgN_nts (N := spF 0 (mergeU u) ++ spF 0 (mergeU v))]
    unfold nts
    rw [List.filter_append, List.filter_append]
    have := nts_merge (u := u)
    have := nts_merge (u := v)
    unfold nts at *
    simp [*]
  obtain ⟨z1, z2⟩ := bds_ends (merge_ne hu hne)
  have et := (merge_gu (B := tot u) ⟨hu, Int.le_refl _⟩).2.2
  rw [et] at z2
  refine both_eq (T := tot u) e1 e2 (fun x hx => ?_) (bds_app.mpr (.inl z1)) (bds_app.mpr (.inl z2)) fun x hx => ?_
  · rw [bds_app] at hx ⊢
    exact hx.imp (nts_merge.2 x) (nts_merge.2 x)
  · rcases bds_app.mp hx with hx | hx
    · exact bds_sp hu x hx
    · rw [hT]; exact bds_sp hv x hx
theorem both_swap {u v : List Un} (hu : ∀ p ∈ u, 0 < p.2) (hv : ∀ p ∈ v, 0 < p.2) (hT : tot u = tot v) (hne : v ≠ []) : bothS (spF 0 u ++ spF 0 v) = bothS (spF 0 v ++ spF 0 u) := by
  obtain ⟨z1, z2⟩ := bds_ends hne
  refine both_eq (T := tot v) (fun t => any_comm) (fun t => any_comm) (fun x hx => ?_) (bds_app.mpr (.inl z1)) (bds_app.mpr (.inl z2)) fun x hx => ?_
  · rw [bds_app] at hx ⊢
    exact hx.symm
  · rcases bds_app.mp hx with hx | hx
    · rw [← hT]; exact bds_sp hu x hx
    · exact bds_sp hv x hx
/-- the ends of a row's pieces -/
def ends : Int → List Un → List Int
  | _, [] => []
  | t, p :: u => (t + p.2) :: ends (t + p.2) u
theorem ends_srt : ∀ {u : List Un} {t : Int}, (∀ p ∈ u, 0 < p.2) → Srt (t :: ends t u) ∧ ∀ x ∈ ends t u, t < x
  | [], t, _ => ⟨by simp [ends], fun x h => nomatch h⟩
  | p :: u, t, h => by
    have hp := h p List.mem_cons_self
    obtain ⟨k1, k2⟩ := ends_srt (u := u) (t := t + p.2) fun p hp => h p (List.mem_cons_of_mem _ hp)
    have key : ∀ x ∈ ends t (p :: u), t < x := fun x hx => by
      rcases List.mem_cons.mp hx with rfl | hx
      · omega
      · have := k2 x hx
        omega
    exact ⟨List.pairwise_cons.mpr ⟨key, k1⟩, key⟩
theorem ends_mem : ∀ {u : List Un} {t x : Int}, u ≠ [] → (x ∈ t :: ends t u ↔ x ∈ bds (spF t u))
  | [], t, x, h => absurd rfl h
  | [p], t, x, _ => by simp [ends, spF, bds]
  | p :: q :: u, t, x, _ => by
    have ih := ends_mem (u := q :: u) (t := t + p.2) (x := x) (by simp)
    have e : spF t (p :: q :: u) = [(p.1, t, t + p.2)] ++ spF (t + p.2) (q :: u) := rfl
    have e2 : t :: ends t (p :: q :: u) = t :: (t + p.2) :: ends (t + p.2) (q :: u) := rfl
    rw [e, e2, bds_app, List.mem_cons, ih]
    constructor
    · rintro (h | h)
      · exact .inl (List.mem_append_left _ (by simp [h]))
      · exact .inr h
    · rintro (h | h)
      · rcases List.mem_append.mp h with h | h
        · simp at h
          exact .inl h
        · simp at h
          refine .inr ?_
          rw [h]
          exact List.mem_append_left _ List.mem_cons_self
      · exact .inr h
theorem on_piece {pre u : List Un} {p : Un} (h : ∀ q ∈ pre ++ p :: u, 0 < q.2) : onN (spF 0 (pre ++ p :: u)) (tot pre) = !p.1 ∧ bgN (spF 0 (pre ++ p :: u)) (tot pre) = !p.1 := by
  have e : spF 0 (pre ++ p :: u) = spF 0 pre ++ (p.1, tot pre, tot pre + p.2) :: spF (tot pre + p.2) u := by
    rw [spF_app, Int.zero_add]
    rfl
  have hp := h p (by simp)
  have a : ∀ s ∈ spF 0 pre, ¬ (s.2.1 ≤ tot pre ∧ tot pre < s.2.2) := fun s hs => by
    obtain ⟨k1, k2, k3⟩ := spF_in (fun q hq => h q (List.mem_append_left _ hq)) s hs
    omega
  have b : ∀ s ∈ spF (tot pre + p.2) u, ¬ (s.2.1 ≤ tot pre ∧ tot pre < s.2.2) := fun s hs => by
    obtain ⟨k1, k2, k3⟩ := spF_in (fun q hq => h q (List.mem_append_right _ (List.mem_cons_of_mem _ hq))) s hs
    omega
  rw [e]
  cases hp1 : p.1 with
  | false =>
    constructor
    · exact onN_iff.mpr ⟨(false, tot pre, tot pre + p.2), by simp, rfl, by simp, by simp; omega⟩
    · exact bgN_iff.mpr ⟨(false, tot pre, tot pre + p.2), by simp, rfl, by simp, by simp; omega⟩
  | true =>
    have no : ∀ s ∈ spF 0 pre ++ (true, tot pre, tot pre + p.2) :: spF (tot pre + p.2) u, s.1 = false → ¬ (s.2.1 ≤ tot pre ∧ tot pre < s.2.2) := fun s hs h1 => by
      rcases List.mem_append.mp hs with hs | hs
      · exact a s hs
      · rcases List.mem_cons.mp hs with rfl | hs
        · cases h1
        · exact b s hs
    constructor
    · cases q : onN (spF 0 pre ++ (true, tot pre, tot pre + p.2) :: spF (tot pre + p.2) u) (tot pre) with
      | false => rfl
      | true =>
        obtain ⟨s, h1, h2, h3, h4⟩ := onN_iff.mp q
        exact absurd ⟨h3, h4⟩ (no s h1 h2)
    · cases q : bgN (spF 0 pre ++ (true, tot pre, tot pre + p.2) :: spF (tot pre + p.2) u) (tot pre) with
      | false => rfl
      | true =>
        obtain ⟨s, h1, h2, h3, h4⟩ := bgN_iff.mp q
        exact absurd ⟨by omega, h4⟩ (no s h1 h2)
theorem rm_row {R : List Sp} (hR : ∀ s ∈ R, s.1 = true) : ∀ {u pre : List Un} {acc : List Un}, (∀ q ∈ pre ++ u, 0 < q.2) → rm (spF 0 (pre ++ u) ++ R) (tot pre) (ends (tot pre) u) acc = u.foldl mg acc
  | [], pre, acc, h => rfl
  | p :: u, pre, acc, h => by
    have rest : ∀ {f : Sp → Bool}, (∀ s, f s = true → s.1 = false) → ∀ {N : List Sp}, (N ++ R).any f = N.any f := fun {f} hf {N} => by
      rw [List.any_append]
      have : R.any f = false := by
        rw [List.any_eq_false]
        intro s hs q
        exact absurd (hf s q) (by rw [hR s hs]; exact fun z => nomatch z)
      rw [this, Bool.or_false]
    obtain ⟨o1, o2⟩ := on_piece h
    have o1' : onN (spF 0 (pre ++ p :: u) ++ R) (tot pre) = !p.1 := by
      rw [← o1]; exact rest isOn_note
    have o2' : bgN (spF 0 (pre ++ p :: u) ++ R) (tot pre) = !p.1 := by
      rw [← o2]; exact rest fun s h => isOn_note (t := tot pre) s (Bool.and_eq_true_iff.mp h).1
    have es : stm (spF 0 (pre ++ p :: u) ++ R) acc (tot pre) (tot pre + p.2) = mg acc p := by
      unfold stm
      rw [o1', o2']
      have : ((!p.1) && !!p.1) = false := by cases p.1 <;> rfl
      rw [this]
      simp only [Bool.false_eq_true, if_false, Bool.not_not]
      congr 1
      obtain ⟨a, b⟩ := p
      simp only [Prod.mk.injEq, true_and]
      omega
    have ea : pre ++ p :: u = (pre ++ [p]) ++ u := by simp
    have et : tot pre + p.2 = tot (pre ++ [p]) := by rw [tot_app]; simp [tot]
    show rm (spF 0 (pre ++ p :: u) ++ R) (tot pre + p.2) (ends (tot pre + p.2) u) (stm (spF 0 (pre ++ p :: u) ++ R) acc (tot pre) (tot pre + p.2)) = _
    rw [es, ea, et, rm_row hR (by rw [← ea]; exact h)]
    rfl
/-- with a rest as long it is the row -/
theorem both_rest {u : List Un} (h : ∀ p ∈ u, 0 < p.2) (hne : u ≠ []) : bothS (spF 0 u ++ spF 0 [(true, tot u)]) = mergeU u := by
  obtain ⟨s1, s2⟩ := ends_srt (u := u) (t := 0) h
  have mem : ∀ x, x ∈ pts (bds (spF 0 u ++ spF 0 [(true, tot u)])) ↔ x ∈ 0 :: ends 0 u := fun x => by
    rw [pts_mem, bds_app, ends_mem hne]
    constructor
    · rintro (q | q)
      · exact q
      · obtain ⟨z1, z2⟩ := bds_ends hne
        simp [bds, spF] at q
        rcases q with rfl | rfl
        · exact z1
        · exact z2
    · exact .inl
  unfold bothS
  rw [srt_eq (pts_srt _) s1 mem]
  show mergeU (rn _ 0 (ends 0 u) []) = _
  have hR : ∀ s ∈ spF 0 [(true, tot u)], s.1 = true := fun s hs => by
    simp [spF] at hs
    rw [hs]
  rw [rn_merge s1 ?_ ?_]
  · have := rm_row hR (u := u) (pre := []) (acc := []) (by simpa using h)
    have t0 : tot ([] : List Un) = 0 := by simp [tot]
    rw [t0] at this
    exact this
  · intro s hs h1
    rcases List.mem_append.mp hs with hs | hs
    · have m : s.2.1 ∈ 0 :: ends 0 u := (ends_mem hne).mpr (List.mem_append_left _ (List.mem_map.mpr ⟨s, hs, rfl⟩))
      have m2 : s.2.2 ∈ 0 :: ends 0 u := (ends_mem hne).mpr (List.mem_append_right _ (List.mem_map.mpr ⟨s, hs, rfl⟩))
      exact ⟨(List.mem_cons.mp m).imp_left (fun z => by omega), (List.mem_cons.mp m2).imp_left (fun z => by omega)⟩
    · rw [hR s hs] at h1
      cases h1
  · intro q
    exfalso
    rw [Bool.and_eq_true] at q
    obtain ⟨s, q1, q2, q3, q4⟩ := onN_iff.mp q.1
    rcases List.mem_append.mp q1 with q1' | q1'
    · obtain ⟨k1, k2, k3⟩ := spF_in h s q1'
      have : bgN (spF 0 u ++ spF 0 [(true, tot u)]) 0 = true := bgN_iff.mpr ⟨s, q1, q2, by omega, q4⟩
      rw [this] at q
      simp at q
    · rw [hR s q1'] at q2
      cases q2
end Pl

namespace Pl
open PySem Mp
/-! Qc: the program's rows together: points. -/
/-- a plain slot -/
def plS : Option D → Sl
  | none => .no
  | some d => .fz d
theorem eqD_up {n : Nat} {a b : D} {r : Bool} (ha : Pln n a) (hb : Pln n b) (h : eqD a b = some r) (hn : n < 64 := by decide) : eqD (.lst [a]) (.lst [b]) = some r := by
  obtain ⟨p, e1, c1, d1⟩ := ha.toP
  obtain ⟨q, e2, c2, d2⟩ := hb.toP
  obtain ⟨p', e3, c3, d3⟩ := (Pln.lst (n := n) (l := [a]) (fun d h => by rw [List.mem_singleton.mp h]; exact ha)).toP
  obtain ⟨q', e4, c4, d4⟩ := (Pln.lst (n := n) (l := [b]) (fun d h => by rw [List.mem_singleton.mp h]; exact hb)).toP
  have z1 : D.toP (.lst [a]) = some (.list [p]) := by simp [D.toP, D.toPs, e1]
  have z2 : D.toP (.lst [b]) = some (.list [q]) := by simp [D.toP, D.toPs, e2]
  rw [z1] at e3
  rw [z2] at e4
  obtain rfl := Option.some.inj e3
  obtain rfl := Option.some.inj e4
  have h1 : PyData.eqv p q = r := by
    unfold eqD at h
    rw [e1, e2] at h
    simp only [shaped_of c1 d1 (by omega), shaped_of c2 d2 (by omega), Bool.and_self, if_true] at h
    exact Option.some.inj h
  unfold eqD
  rw [z1, z2]
  simp only [shaped_of c3 d3 (by omega), shaped_of c4 d4 (by omega), Bool.and_self, if_true, PyData.eqv, PyData.eqvAll, h1, Bool.and_true]
theorem eqD_nc {n : Nat} {d : D} {l : List D} (h : Pln n (.lst (d :: l))) (hn : n ≤ 64 := by decide) : eqD (.lst []) (.lst (d :: l)) = some false := by
  obtain ⟨p, e, c, dd⟩ := h.toP
  have e0 : D.toP (.lst []) = some (.list []) := by simp [D.toP, D.toPs]
  have s0 : SeqAt.shaped (.list []) = true := by decide +kernel
  have key : PyData.eqv (.list []) p = false := by
    simp only [D.toP] at e
    cases q : D.toPs (d :: l) with
    | none => simp [q] at e
    | some ps =>
      rw [q] at e
      simp at e
      subst e
      have hl : ∃ a as, ps = a :: as := by
        simp only [D.toPs] at q
        split at q
        · cases q; exact ⟨_, _, rfl⟩
        · cases q
      obtain ⟨a, as, rfl⟩ := hl
      simp [PyData.eqv, PyData.eqvAll]
  unfold eqD
  simp [e, e0, s0, shaped_of c dd hn, key]
theorem lc_fm {α : Type} {f : D → List Sl → Res (Option D)} {enc out : α → D} {p : α → Bool} {St : List Sl → Prop} : ∀ {l : List α}, (∀ a G, a ∈ l → St G → ∃ G', f (enc a) G = .ok (if p a = true then some (out a) else none) G' ∧ St G') → ∀ {acc : List D} {G : List Sl}, acc.length + l.length ≤ sizeLine → St G → ∃ G', lcLoop f (l.map enc) acc G = .ok (acc ++ (l.filter p).map out) G' ∧ St G'
  | [], _, acc, G, _, hs => ⟨G, by simp, hs⟩
  | a :: l, h, acc, G, hz, hs => by
    rw [List.length_cons] at hz
    obtain ⟨G1, e1, h1⟩ := h a G List.mem_cons_self hs
    by_cases hp : p a = true
    · rw [if_pos hp] at e1
      obtain ⟨G2, e2, h2⟩ := lc_fm (l := l) (fun a G ha => h a G (List.mem_cons_of_mem _ ha)) (acc := acc ++ [out a]) (by rw [List.length_append]; simp; omega) h1
      exact ⟨G2, by rw [List.map_cons, lc_cons e1 (by omega), e2, List.filter_cons, if_pos hp]; simp, h2⟩
    · rw [if_neg hp] at e1
      obtain ⟨G2, e2, h2⟩ := lc_fm (l := l) (fun a G ha => h a G (List.mem_cons_of_mem _ ha)) (acc := acc) (by omega) h1
      exact ⟨G2, by rw [List.map_cons, lc_skip e1, e2, List.filter_cons, if_neg hp], h2⟩
theorem lm_ins {l : List D} {n : Nat} {d : D} (h1 : n < 1000000) (h2 : l.length < sizeLine) : lmF .insert l [.int n, d] = some (.non, l.take n ++ [d] ++ l.drop n) := by
  have h3 : (0 : Int) ≤ n ∧ (n : Int) < 2 ^ 63 ∧ l.length < sizeLine := ⟨by omega, by omega, h2⟩
  simp only [lmF]
  rw [if_pos h3]
  simp
theorem cut_at {l : List D} {n : Nat} (h : n ≤ l.length) : cutD l (some (n : Int)) (some ((n : Int) + 1)) = (l.drop n).take 1 := by
  unfold cutD
  have e1 : HT.sIx l.length 0 (some (n : Int)) = n := by rw [HT.sIx_nat]; omega
  have e2 : HT.sIx l.length l.length (some ((n : Int) + 1)) = min (n + 1) l.length := by
    have : ((n : Int) + 1) = ((n + 1 : Nat) : Int) := by omega
    rw [this, HT.sIx_nat]
  rw [e1, e2]
  by_cases hn : n = l.length
  · subst hn; simp
  · congr 1; omega
/-- where a time comes among sorted ones -/
theorem srt_split {t : Int} : ∀ {P : List Int}, Srt P → ∃ A B, P = A ++ B ∧ P.filter (fun x => decide (x < t)) = A ∧ (∀ x ∈ A, x < t) ∧ (B = [] ∧ insP P t = A ++ [t] ∨ ∃ x B', B = x :: B' ∧ t ≤ x ∧ insP P t = if x = t then P else A ++ t :: B)
  | [], _ => ⟨[], [], rfl, rfl, (fun x h => nomatch h), .inl ⟨rfl, rfl⟩⟩
  | y :: P, h => by
    have h1 := List.pairwise_cons.mp h
    by_cases hy : y < t
    · obtain ⟨A, B, rfl, e2, e4, e3⟩ := srt_split (t := t) h1.2
      refine ⟨y :: A, B, rfl, by rw [List.filter_cons, if_pos (by simpa using hy), e2], (fun x hx => (List.mem_cons.mp hx).elim (fun z => by rw [z]; exact hy) (e4 x)), ?_⟩
      rcases e3 with ⟨rfl, e⟩ | ⟨x, B', rfl, h2, e⟩
      · refine .inl ⟨rfl, ?_⟩
        unfold insP
        rw [if_pos hy, e]
        rfl
      · refine .inr ⟨x, B', rfl, h2, ?_⟩
        unfold insP
        rw [if_pos hy, e]
        split <;> rfl
    · refine ⟨[], y :: P, rfl, ?_, (fun x h => nomatch h), .inr ⟨y, P, rfl, by omega, ?_⟩⟩
      · rw [List.filter_eq_nil_iff]
        intro x hx
        have : y ≤ x := by
          rcases List.mem_cons.mp hx with rfl | hx
          · omega
          · have := h1.1 x hx
            omega
        simp
        omega
      · unfold insP
        rw [if_neg hy]
        split <;> rfl
section
variable {c : Cf} {g g2 g3 g4 g5 g6 : Nat}
def bInOrder (g : Nat) : Ss := (.cons (.asg (.n 3) (.bi .len (.cons (.lent 1 (.lc [4] (.n 4) (.e (.v 1)) (.so (.call g (.cons (.v 4) (.cons (.v 2) .nil)))) (.v 4))) .nil)))
  (.cons (.iff (.cm .ne (.sl (.v 1) (.so (.v 3)) (.so (.op .add (.v 3) (.k (.int 1))))) (.lst (.cons (.v 2) .nil))) (.cons (.ex (.lm .insert (.v 1) (.cons (.v 3) (.cons (.v 2) .nil))))
  .nil) .nil)
  .nil))
def sInOrder (g : Nat) : Ss := (.cons (.asg (.n 1) (.lst .nil))
  (.cons (.for (.n 2) (.e (.v 0)) (bInOrder g))
  (.cons (.ret (.v 1))
  .nil)))
def eIns (m : Lm) : Ss := (.cons (.iff (.cm .ne (.sl (.v 1) (.so (.v 3)) (.so (.op .add (.v 3) (.k (.int 1))))) (.lst (.cons (.v 2) .nil))) (.cons (.ex (.lm m (.v 1) (.cons (.v 3) (.cons (.v 2) .nil)))) .nil) .nil) .nil)
theorem ev_insTail {m : Lm} {l x y : List D} {n : Nat} {d R : D} {b : Bool} (cA : cutD l (some (n : Int)) (some ((n : Int) + 1)) = x) (q : eqD (.lst x) (.lst [d]) = some b) (ins : lmF m l [.int n, d] = some (.non, y)) : evSs c (eIns m) [.fz R, .ol l, .fz d, .fz (.int n), .no] = .nx [.fz R, .ol (if b = true then l else y), .fz d, .fz (.int n), .no] := by
  unfold eIns
  cases b
  · simp [intR, slF, cA, q, ins]
  · simp [intR, slF, cA, q]
def eInOrder : Ss := eIns .insert
theorem turn_inOrder [Unt] (hpr : c.pr = false) (hpm : c.pm g = [.f, .f]) (hu : UndU (c.cf g)) {R : D} {P : List Int} {t : Int} (hs : Srt P) (hb : ∀ x ∈ P, -Bd ≤ x ∧ x ≤ Bd) (ht : -Bd ≤ t ∧ t ≤ Bd) (hz : P.length < 1000) {o2 o3 : Option D} :
    ∃ o5, forT c (.n 2) (bInOrder g) (tU t) [.fz R, .ol (P.map tU), plS o2, plS o3, .no] = .nx [.fz R, .ol ((insP P t).map tU), .fz (tU t), plS o5, .no] := by
  have hsz : 1000 ≤ sizeLine := by decide
  obtain ⟨A, B, e1, e2, e4, e3⟩ := srt_split (t := t) hs
  obtain ⟨G1, a1, rfl⟩ := lc_fm (f := lcT c [4] (.n 4) (.so (.call g (.cons (.v 4) (.cons (.v 2) .nil)))) (.v 4)) (enc := tU) (out := tU) (p := fun x => decide (x < t)) (l := P) (St := fun G => G = [.fz R, .bw (P.map tU), .fz (tU t), plS o3, .no]) (fun x G hx hG => by
    subst hG
    obtain ⟨m, e⟩ := hu x t (hb x hx).1 (hb x hx).2 ht.1 ht.2
    refine ⟨_, ?_, rfl⟩
    by_cases h : x < t <;> simp [lcT, hpm, e, h, wipeG]) (acc := []) (G := [.fz R, .bw (P.map tU), .fz (tU t), plS o3, .no]) (by simp; omega) rfl
  rw [e2] at a1
  have hn : A.length ≤ P.length := by rw [e1]; simp
  have cA := cut_at (l := P.map tU) (n := A.length) (by simpa using hn)
  have dropA : (P.map tU).drop A.length = B.map tU := by rw [e1]; simp
  have takeA : (P.map tU).take A.length = A.map tU := by rw [e1]; simp
  rw [dropA] at cA
  have ins := lm_ins (l := P.map tU) (n := A.length) (d := tU t) (by omega) (by simp; omega)
  rw [takeA, dropA] at ins
  have step1 : forT c (.n 2) (bInOrder g) (tU t) [.fz R, .ol (P.map tU), plS o2, plS o3, .no] = evSs c eInOrder [.fz R, .ol (P.map tU), .fz (tU t), .fz (.int A.length), .no] := by
    cases o3 with
    | none =>
      unfold plS at a1
      simp [forT, bInOrder, hpr, plainA, wipeG, plS]
      rw [a1]
      unfold eInOrder eIns
      simp [backG, hpr]
    | some d =>
      unfold plS at a1
      simp [forT, bInOrder, hpr, plainA, wipeG, plS]
      rw [a1]
      unfold eInOrder eIns
      simp [backG, hpr]
  rw [step1]
  rcases e3 with ⟨rfl, e3⟩ | ⟨x, B', rfl, h2, e3⟩
  · refine ⟨some (.int A.length), ?_⟩
    have q : eqD (.lst []) (.lst [tU t]) = some false := eqD_nc (n := 2) (.lst fun d h => by rw [List.mem_singleton.mp h]; exact pln_t)
    rw [e3, show eInOrder = eIns .insert from rfl, ev_insTail cA q ins]
    simp [plS]
  · have q : eqD (.lst [tU x]) (.lst [tU t]) = some (decide (x = t)) := eqD_up (n := 1) pln_t pln_t (eqD_t x t)
    refine ⟨some (.int A.length), ?_⟩
    have cA : cutD (P.map tU) (some (A.length : Int)) (some ((A.length : Int) + 1)) = [tU x] := cA
    rw [e3, show eInOrder = eIns .insert from rfl, ev_insTail cA q ins]
    by_cases hx : x = t
    · rw [if_pos hx, if_pos (decide_eq_true hx)]
      rfl
    · rw [if_neg hx, if_neg (by simpa using hx)]
      simp [plS]
end
end Pl

namespace Pl
open PySem Mp
/-! Qd: the program's rows together. -/
theorem isEmpty_filter {α : Type} {p : α → Bool} : ∀ {l : List α}, (l.filter p).isEmpty = !l.any p
  | [] => rfl
  | a :: l => by
    rw [List.filter_cons, List.any_cons]
    split
    · rename_i h; rw [h]; rfl
    · rename_i h
      rw [isEmpty_filter]
      have : p a = false := by simpa using h
      rw [this]
      rfl
theorem eqD_emp {n : Nat} {l : List D} (h : Pln n (.lst l)) (hn : n ≤ 64 := by decide) : eqD (.lst l) (.lst []) = some l.isEmpty := by
  cases l with
  | nil => exact eqD_nil
  | cons d l => exact eqD_cn h hn
theorem pln_s [Unt] {s : Sp} {n : Nat} : Pln (n + 2) (sD s) := .tup fun d h => by
  simp at h
  rcases h with rfl | rfl | rfl
  · exact pln_k
  · exact pln_t
  · exact pln_t
theorem pln_map {α : Type} {f : α → D} {n : Nat} {l : List α} (h : ∀ a, Pln n (f a)) : Pln (n + 1) (.lst (l.map f)) := .lst fun d hd => by
  obtain ⟨a, _, rfl⟩ := List.mem_map.mp hd
  exact h a
theorem k_eqn (b : Bool) : eqD (kD b) (.str "note") = some (!b) := by cases b <;> decide +kernel
section
variable {c : Cf} {g g2 g3 g4 g5 g6 : Nat}
theorem loop_inOrder [Unt] (hpr : c.pr = false) (hpm : c.pm g = [.f, .f]) (hu : UndU (c.cf g)) {R : D} : ∀ {l P : List Int} {o2 o3 : Option D}, Srt P → (∀ x ∈ P, -Bd ≤ x ∧ x ≤ Bd) → (∀ x ∈ l, -Bd ≤ x ∧ x ≤ Bd) → P.length + l.length < 1000 →
    ∃ o4 o5, forF (forT c (.n 2) (bInOrder g)) (l.map tU) [.fz R, .ol (P.map tU), plS o2, plS o3, .no] = .nx [.fz R, .ol ((l.foldl insP P).map tU), plS o4, plS o5, .no]
  | [], P, o2, o3, _, _, _, _ => ⟨o2, o3, rfl⟩
  | t :: l, P, o2, o3, hs, hb, hl, hz => by
    rw [List.length_cons] at hz
    obtain ⟨o5, e⟩ := turn_inOrder (R := R) (o2 := o2) (o3 := o3) hpr hpm hu hs hb (hl t List.mem_cons_self) (by omega)
    have hlen := insP_len (t := t) (l := P)
    obtain ⟨o6, o7, e2⟩ := loop_inOrder hpr hpm hu (R := R) (l := l) (P := insP P t) (o2 := some (tU t)) (o3 := o5) (insP_srt hs) (fun x hx => (insP_mem.mp hx).elim (fun z => by rw [z]; exact hl t List.mem_cons_self) (hb x)) (fun x hx => hl x (List.mem_cons_of_mem _ hx)) (by omega)
    exact ⟨o6, o7, by rw [List.map_cons, for_cons e]; exact e2⟩
theorem ev_inOrder [Unt] (hpr : c.pr = false) (hpm : c.pm g = [.f, .f]) (hu : UndU (c.cf g)) {l : List Int} (hl : ∀ x ∈ l, -Bd ≤ x ∧ x ≤ Bd) (hz : l.length < 1000) : ∃ s4 s5, evSs c (sInOrder g) [.fz (.lst (l.map tU)), .no, .no, .no, .no] = .rt (.al 1) [.fz (.lst (l.map tU)), .ol ((pts l).map tU), s4, s5, .no] := by
  obtain ⟨o4, o5, e⟩ := loop_inOrder hpr hpm hu (R := .lst (l.map tU)) (l := l) (P := []) (o2 := none) (o3 := none) .nil (fun x h => nomatch h) hl (by simpa using hz)
  refine ⟨plS o4, plS o5, ?_⟩
  unfold plS at e ⊢
  simp only [List.map_nil] at e
  unfold sInOrder
  simp [hpr]
  rw [e]
  simp [pts]
def InOrd [Unt] (f : List Sl → Cres) : Prop := ∀ l : List Int, (∀ x ∈ l, -Bd ≤ x ∧ x ≤ Bd) → l.length < 1000 → ∃ m, f [.fz (.lst (l.map tU))] = .ok (.ol ((pts l).map tU)) m
/-- what sounds at a time -/
def sSounds (g : Nat) : Ss := (.cons (.asg (.n 2) (.lc [3] (.n 3) (.e (.v 0)) (.so (.cm .eq (.ix (.v 3) (.k (.int 0))) (.k (.str "note")))) (.v 3)))
  (.cons (.asg (.n 4) (.lc [3] (.n 3) (.e (.v 2)) (.so (.and (.not (.call g (.cons (.v 1) (.cons (.ix (.v 3) (.k (.int 1))) .nil)))) (.call g (.cons (.v 1) (.cons (.ix (.v 3) (.k (.int 2))) .nil))))) (.v 3)))
  (.cons (.ret (.tup (.cons (.cm .ne (.v 4) (.lst .nil)) (.cons (.cm .ne (.lc [3] (.n 3) (.e (.v 4)) (.so (.cm .eq (.ix (.v 3) (.k (.int 1))) (.v 1))) (.v 3)) (.lst .nil)) .nil))))
  .nil)))
def inB (N : List Sp) : Prop := ∀ s ∈ N, -Bd ≤ s.2.1 ∧ s.2.1 ≤ Bd ∧ -Bd ≤ s.2.2 ∧ s.2.2 ≤ Bd
theorem ev_sounds [Unt] (hpr : c.pr = false) (hpm : c.pm g = [.f, .f]) (hu : UndU (c.cf g)) {N : List Sp} {t : Int} (hN : inB N) (ht : -Bd ≤ t ∧ t ≤ Bd) (hz : N.length < 1000) : ∃ G', evSs c (sSounds g) [.fz (.lst (N.map sD)), .fz (tU t), .no, .no, .no] = .rt (.d (.tup [.bl (onN N t), .bl (bgN N t)])) G' := by
  have hsz : 1000 ≤ sizeLine := by decide
  obtain ⟨G1, a1, rfl⟩ := lc_fm (f := lcT c [3] (.n 3) (.so (.cm .eq (.ix (.v 3) (.k (.int 0))) (.k (.str "note")))) (.v 3)) (enc := sD) (out := sD) (p := fun s => !s.1) (l := N) (St := fun G => G = [.fz (.lst (N.map sD)), .fz (tU t), .no, .no, .no]) (fun s G hs hG => by
    subst hG
    refine ⟨_, ?_, rfl⟩
    obtain ⟨b, x, y⟩ := s
    cases b <;> simp [lcT, sD, k_eqn, wipeG]) (acc := []) (G := [.fz (.lst (N.map sD)), .fz (tU t), .no, .no, .no]) (by simp; omega) rfl
  generalize hN1 : N.filter (fun s => !s.1) = N1 at a1
  have hl1 : N1.length ≤ N.length := by rw [← hN1]; exact List.length_filter_le _ _
  have hN1' : inB N1 := fun s hs => hN s (by rw [← hN1] at hs; exact (List.mem_filter.mp hs).1)
  obtain ⟨G1, a2, rfl⟩ := lc_fm (f := lcT c [3] (.n 3) (.so (.and (.not (.call g (.cons (.v 1) (.cons (.ix (.v 3) (.k (.int 1))) .nil)))) (.call g (.cons (.v 1) (.cons (.ix (.v 3) (.k (.int 2))) .nil))))) (.v 3)) (enc := sD) (out := sD) (p := fun s => !decide (t < s.2.1) && decide (t < s.2.2)) (l := N1) (St := fun G => G = [.fz (.lst (N.map sD)), .fz (tU t), .fz (.lst (N1.map sD)), .no, .no]) (fun s G hs hG => by
    subst hG
    refine ⟨_, ?_, rfl⟩
    obtain ⟨b1, b2, b3, b4⟩ := hN1' s hs
    obtain ⟨b, x, y⟩ := s
    simp only at b1 b2 b3 b4
    obtain ⟨m1, e1⟩ := hu t x ht.1 ht.2 b1 b2
    obtain ⟨m2, e2⟩ := hu t y ht.1 ht.2 b3 b4
    by_cases h1 : t < x
    · simp [lcT, sD, hpm, e1, h1, wipeG]
    · by_cases h2 : t < y <;> simp [lcT, sD, hpm, e1, e2, h1, h2, wipeG]) (acc := []) (G := [.fz (.lst (N.map sD)), .fz (tU t), .fz (.lst (N1.map sD)), .no, .no]) (by simp; omega) rfl
  generalize hN2 : N1.filter (fun s => !decide (t < s.2.1) && decide (t < s.2.2)) = N2 at a2
  have hl2 : N2.length ≤ N1.length := by rw [← hN2]; exact List.length_filter_le _ _
  obtain ⟨G1, a3, rfl⟩ := lc_fm (f := lcT c [3] (.n 3) (.so (.cm .eq (.ix (.v 3) (.k (.int 1))) (.v 1))) (.v 3)) (enc := sD) (out := sD) (p := fun s => decide (s.2.1 = t)) (l := N2) (St := fun G => G = [.fz (.lst (N.map sD)), .fz (tU t), .fz (.lst (N1.map sD)), .no, .fz (.lst (N2.map sD))]) (fun s G hs hG => by
    subst hG
    refine ⟨_, ?_, rfl⟩
    obtain ⟨b, x, y⟩ := s
    by_cases h : x = t <;> simp [lcT, sD, eqD_t, h, wipeG]) (acc := []) (G := [.fz (.lst (N.map sD)), .fz (tU t), .fz (.lst (N1.map sD)), .no, .fz (.lst (N2.map sD))]) (by simp; omega) rfl
  have q1 : eqD (.lst (N2.map sD)) (.lst []) = some (!onN N t) := by
    rw [eqD_emp (pln_map (n := 2) fun s => pln_s)]
    congr 1
    rw [List.isEmpty_map, ← hN2, ← hN1, List.filter_filter, isEmpty_filter]
    unfold onN isOn
    congr 2
    funext s
    rw [Bool.and_comm]
  have q2 : eqD (.lst ((N2.filter fun s => decide (s.2.1 = t)).map sD)) (.lst []) = some (!bgN N t) := by
    rw [eqD_emp (pln_map (n := 2) fun s => pln_s)]
    congr 1
    rw [List.isEmpty_map, ← hN2, ← hN1, List.filter_filter, List.filter_filter, isEmpty_filter]
    unfold bgN isOn
    congr 2
    funext s
    cases s.1 <;> cases decide (t < s.2.1) <;> cases decide (t < s.2.2) <;> cases decide (s.2.1 = t) <;> rfl
  unfold sSounds
  simp [hpr, plainA, wipeG]
  rw [a1]
  simp [hpr, plainA, wipeG, backG]
  rw [a2]
  simp [hpr, plainA, wipeG, backG, q1]
  rw [a3]
  simp [backG, q1, q2]
def SoundsF [Unt] (f : List Sl → Cres) : Prop := ∀ (N : List Sp) (t : Int), inB N → -Bd ≤ t ∧ t ≤ Bd → N.length < 1000 → ∃ m, f [.fz (.lst (N.map sD)), .fz (tU t)] = .ok (.d (.tup [.bl (onN N t), .bl (bgN N t)])) m
end
end Pl

namespace Pl
open PySem Mp
/-! Qe: the program's rows together, on. -/
/-- consecutive points -/
def prsD [Unt] : Int → List Int → List D
  | _, [] => []
  | t, e :: l => .tup [tU t, tU e] :: prsD e l
theorem paired_prs [Unt] : ∀ {l : List Int} {t : Int}, paired ((t :: l).map tU) (l.map tU) = prsD t l
  | [], t => by simp [paired, prsD]
  | e :: l, t => by
    have := paired_prs (l := l) (t := e)
    simp only [List.map_cons, paired, prsD] at this ⊢
    rw [this]
theorem cut_1 {l : List D} : cutD l (some 1) none = l.drop 1 := by
  unfold cutD
  have e1 : HT.sIx l.length 0 (some 1) = min 1 l.length := HT.sIx_nat _ _ 1
  have e2 : HT.sIx l.length l.length none = l.length := rfl
  rw [e1, e2]
  cases l with
  | nil => rfl
  | cons a l => simp
theorem rn_len {N : List Sp} : ∀ {l : List Int} {t : Int} {acc : List Un}, (rn N t l acc).length ≤ acc.length + l.length
  | [], _, _ => by simp [rn]
  | e :: l, t, acc => by
    have := rn_len (N := N) (l := l) (t := e) (acc := stp N acc t e)
    have h : (stp N acc t e).length ≤ acc.length + 1 := by
      unfold stp
      split
      · rcases sn_cases acc with rfl | ⟨l, x, rfl⟩
        · simp [setL]
        · rw [setL_sn]; simp
      · simp
    rw [List.length_cons]
    unfold rn
    omega
/-- what is told so far: pieces of some length that come to t -/
def Ok (t : Int) (acc : List Un) : Prop := (∀ p ∈ acc, 0 < p.2) ∧ tot acc = t
theorem stp_ok {N : List Sp} {acc : List Un} {t e : Int} (i : Inv N t acc) (h : Ok t acc) (he : t < e) : Ok e (stp N acc t e) := by
  obtain ⟨h1, h2⟩ := h
  unfold stp
  by_cases hh : (onN N t && !bgN N t) = true
  · obtain ⟨l, x, rfl⟩ := i hh
    rw [if_pos hh, setL_sn]
    have hx := h1 (false, x) (by simp)
    refine ⟨fun p hp => ?_, ?_⟩
    · rcases List.mem_append.mp hp with hp | hp
      · exact h1 p (List.mem_append_left _ hp)
      · rw [List.mem_singleton.mp hp]
        show 0 < x + (e - t)
        simp only at hx
        omega
    · rw [tot_app] at h2 ⊢
      simp [tot] at h2 ⊢
      omega
  · rw [if_neg hh]
    refine ⟨fun p hp => ?_, ?_⟩
    · rcases List.mem_append.mp hp with hp | hp
      · exact h1 p hp
      · rw [List.mem_singleton.mp hp]
        show 0 < e - t
        omega
    · rw [tot_app]
      simp [tot] at h2 ⊢
      omega
section
variable {c : Cf} {g2 g3 g7 g9 g10 g11 : Nat}
def bOfBoth (g2 g3 g11 : Nat) : Ss := (.cons (.asg (.n 8) (.call g3 (.cons (.v 7) (.cons (.v 6) .nil))))
  (.cons (.asg (.t [(.n 9), (.n 10)]) (.call g11 (.cons (.v 2) (.cons (.v 6) .nil))))
  (.cons (.iff (.and (.v 9) (.not (.v 10))) (.cons (.asg (.n 8) (.call g2 (.cons (.ix (.lm .pop (.v 5) .nil) (.k (.int 1))) (.cons (.v 8) .nil))))
  .nil) .nil)
  (.cons (.ex (.lm .append (.v 5) (.cons (.tup (.cons (.ix (.lst (.cons (.k (.str "rest")) (.cons (.k (.str "note")) .nil))) (.bi .int (.cons (.v 9) .nil))) (.cons (.v 8) .nil))) .nil)))
  .nil))))
def sOfBoth (g2 g3 g7 g9 g10 g11 : Nat) : Ss := (.cons (.asg (.n 2) (.op .add (.call g9 (.cons (.v 0) .nil)) (.call g9 (.cons (.v 1) .nil))))
  (.cons (.asg (.n 3) (.call g10 (.cons (.op .add (.lc [4] (.n 4) (.e (.v 2)) .no (.ix (.v 4) (.k (.int 1)))) (.lc [4] (.n 4) (.e (.v 2)) .no (.ix (.v 4) (.k (.int 2))))) .nil)))
  (.cons (.asg (.n 5) (.lst .nil))
  (.cons (.for (.t [(.n 6), (.n 7)]) (.zp (.cons (.v 3) (.cons (.sl (.v 3) (.so (.k (.int 1))) .no) .nil))) (bOfBoth g2 g3 g11))
  (.cons (.ret (.call g7 (.cons (.v 5) .nil)))
  .nil)))))
theorem kind_at (b : Bool) : L2.atI [D.str "rest", .str "note"] (if b = true then 1 else 0) = some (kD !b) := by cases b <;> rfl
theorem turn_ofBoth [Unt] (hpr : c.pr = false) (h2 : c.pm g2 = [.f, .f]) (h3 : c.pm g3 = [.f, .f]) (h11 : c.pm g11 = [.f, .f]) (l2 : PluU (c.cf g2)) (l3 : LesU (c.cf g3)) (l11 : SoundsF (c.cf g11)) {R0 R1 R3 : D} {N : List Sp} {t e : Int} {acc : List Un} {s6 s7 s8 s9 s10 : Sl}
    (hN : inB N) (hz : N.length < 1000) (i : Inv N t acc) (ok : Ok t acc) (te : t < e) (t0 : 0 ≤ t) (eB : e ≤ Bd) (hl : acc.length < 1000) :
    ∃ t8 t9 t10, forT c (.t [.n 6, .n 7]) (bOfBoth g2 g3 g11) (.tup [tU t, tU e]) [.fz R0, .fz R1, .fz (.lst (N.map sD)), .fz R3, .no, .ol (acc.map pU), s6, s7, s8, s9, s10] = .nx [.fz R0, .fz R1, .fz (.lst (N.map sD)), .fz R3, .no, .ol ((stp N acc t e).map pU), .fz (tU t), .fz (tU e), t8, t9, t10] := by
  have hsz : 1000 ≤ sizeLine := by decide
  obtain ⟨m1, e1⟩ := l3 e t (by omega) eB (by omega) (by omega)
  obtain ⟨m2, e2⟩ := l11 N t hN (by omega) hz
  unfold stp
  by_cases hh : (onN N t && !bgN N t) = true
  · obtain ⟨l, x, rfl⟩ := i hh
    rw [if_pos hh, setL_sn]
    rw [Bool.and_eq_true] at hh
    have hb : bgN N t = false := by simpa using hh.2
    rw [hh.1, hb] at e2
    have hx := ok.1 (false, x) (by simp)
    have hxt := le_tot ok.1 (p := (false, x)) (by simp)
    have hto := ok.2
    simp only at hx hxt
    obtain ⟨m4, e4⟩ := l2 x (e - t) (by omega) (by omega) (by omega) (by omega)
    have c4 := lm_popL (l := l.map pU) (d := .tup [kD false, tU x])
    have hz2 : l.length < sizeLine := by simp at hl; omega
    have ka := kind_at true
    simp only [if_true] at ka
    refine ⟨.fz (tU (x + (e - t))), .fz (.bl true), .fz (.bl false), ?_⟩
    simp [forT, bOfBoth, hpr, h2, h3, h11, e1, e2, pU, c4, e4, hz2, ka]
  · rw [if_neg hh]
    have ka := kind_at (onN N t)
    have hz2 : acc.length < sizeLine := by omega
    refine ⟨.fz (tU (e - t)), .fz (.bl (onN N t)), .fz (.bl (bgN N t)), ?_⟩
    cases h1 : onN N t with
    | false =>
      rw [h1] at e2 ka
      simp at ka
      simp [forT, bOfBoth, hpr, h3, h11, e1, e2, pU, hz2, ka]
    | true =>
      rw [h1] at e2 ka hh
      have hb : bgN N t = true := by
        cases q : bgN N t with
        | true => rfl
        | false => rw [q] at hh; exact absurd rfl hh
      rw [hb] at e2 ⊢
      simp at ka
      simp [forT, bOfBoth, hpr, h3, h11, e1, e2, pU, hz2, ka]
theorem loop_ofBoth [Unt] (hpr : c.pr = false) (h2 : c.pm g2 = [.f, .f]) (h3 : c.pm g3 = [.f, .f]) (h11 : c.pm g11 = [.f, .f]) (l2 : PluU (c.cf g2)) (l3 : LesU (c.cf g3)) (l11 : SoundsF (c.cf g11)) {R0 R1 R3 : D} {N : List Sp} (hN : inB N) (hz : N.length < 1000) :
    ∀ {l : List Int} {t : Int} {acc : List Un} {s6 s7 s8 s9 s10 : Sl}, Inv N t acc → Ok t acc → Srt (t :: l) → Bnd N t l → 0 ≤ t → (∀ x ∈ l, x ≤ Bd) → acc.length + l.length < 1000 →
    (∃ t6 t7 t8 t9 t10, forF (forT c (.t [.n 6, .n 7]) (bOfBoth g2 g3 g11)) (prsD t l) [.fz R0, .fz R1, .fz (.lst (N.map sD)), .fz R3, .no, .ol (acc.map pU), s6, s7, s8, s9, s10] = .nx [.fz R0, .fz R1, .fz (.lst (N.map sD)), .fz R3, .no, .ol ((rn N t l acc).map pU), t6, t7, t8, t9, t10]) ∧ (t ≤ Bd → Gu Bd (rn N t l acc))
  | [], t, acc, s6, s7, s8, s9, s10, i, ok, hs, hb, t0, hl, hc => ⟨⟨s6, s7, s8, s9, s10, rfl⟩, fun h => ⟨ok.1, by rw [show tot (rn N t [] acc) = t from ok.2]; exact h⟩⟩
  | e :: l, t, acc, s6, s7, s8, s9, s10, i, ok, hs, hb, t0, hl, hc => by
    rw [List.length_cons] at hc
    have h1 := List.pairwise_cons.mp hs
    have te := h1.1 e List.mem_cons_self
    have eB := hl e List.mem_cons_self
    obtain ⟨t8, t9, t10, e1⟩ := turn_ofBoth (R0 := R0) (R1 := R1) (R3 := R3) (s6 := s6) (s7 := s7) (s8 := s8) (s9 := s9) (s10 := s10) hpr h2 h3 h11 l2 l3 l11 hN hz i ok te t0 eB (by omega)
    have hlen : (stp N acc t e).length ≤ acc.length + 1 := by
      have := rn_len (N := N) (l := [e]) (t := t) (acc := acc)
      exact this
    obtain ⟨⟨u6, u7, u8, u9, u10, e2⟩, k⟩ := loop_ofBoth hpr h2 h3 h11 l2 l3 l11 (R0 := R0) (R1 := R1) (R3 := R3) hN hz (l := l) (t := e) (acc := stp N acc t e) (s6 := .fz (tU t)) (s7 := .fz (tU e)) (s8 := t8) (s9 := t9) (s10 := t10) (fun h => (stp_merge i).2 (on_next hb hs h)) (stp_ok i ok te) h1.2 (hb.tail te) (by omega) (fun x hx => hl x (List.mem_cons_of_mem _ hx)) (by omega)
    exact ⟨⟨u6, u7, u8, u9, u10, by rw [prsD, for_cons e1]; exact e2⟩, fun _ => k eB⟩
theorem mem_sp {u v : List Un} {T : Int} (hu : ∀ p ∈ u, 0 < p.2) (hv : ∀ p ∈ v, 0 < p.2) (h1 : tot u ≤ T) (h2 : tot v ≤ T) : ∀ s ∈ spF 0 u ++ spF 0 v, 0 ≤ s.2.1 ∧ s.2.1 < s.2.2 ∧ s.2.2 ≤ T := fun s hs => by
  rcases List.mem_append.mp hs with hs | hs
  · obtain ⟨k1, k2, k3⟩ := spF_in hu s hs
    exact ⟨k1, k2, by omega⟩
  · obtain ⟨k1, k2, k3⟩ := spF_in hv s hs
    exact ⟨k1, k2, by omega⟩
/-- the points of spans: from the first one on -/
theorem pts_head {N : List Sp} {T : Int} (h : ∀ s ∈ N, 0 ≤ s.2.1 ∧ s.2.1 < s.2.2 ∧ s.2.2 ≤ T) : (pts (bds N) = [] ∧ N = []) ∨ ∃ t l, pts (bds N) = t :: l ∧ Srt (t :: l) ∧ 0 ≤ t ∧ t ≤ T ∧ (∀ x ∈ l, x ≤ T) ∧ Bnd N t l ∧ Inv N t [] := by
  have s := pts_srt (bds N)
  have m := fun x => pts_mem (l := bds N) (x := x)
  have bb : ∀ x ∈ bds N, 0 ≤ x ∧ x ≤ T := fun x hx => by
    rcases List.mem_append.mp hx with hx | hx <;> obtain ⟨s, hs, rfl⟩ := List.mem_map.mp hx <;> have := h s hs <;> omega
  cases q : pts (bds N) with
  | nil =>
    refine .inl ⟨rfl, ?_⟩
    cases N with
    | nil => rfl
    | cons s0 N =>
      have := (m s0.2.1).mpr (List.mem_append_left _ List.mem_cons_self)
      rw [q] at this
      cases this
  | cons t l =>
    rw [q] at s m
    have h1 := List.pairwise_cons.mp s
    have ht := bb t ((m t).mp List.mem_cons_self)
    have low : ∀ x ∈ bds N, t ≤ x := fun x hx => by
      rcases List.mem_cons.mp ((m x).mpr hx) with rfl | z
      · omega
      · have := h1.1 x z
        omega
    refine .inr ⟨t, l, rfl, s, ht.1, ht.2, fun x hx => (bb x ((m x).mp (List.mem_cons_of_mem _ hx))).2, fun s0 hs _ => ?_, fun hh => ?_⟩
    · have a : s0.2.1 ∈ bds N := List.mem_append_left _ (List.mem_map.mpr ⟨s0, hs, rfl⟩)
      have b : s0.2.2 ∈ bds N := List.mem_append_right _ (List.mem_map.mpr ⟨s0, hs, rfl⟩)
      exact ⟨(List.mem_cons.mp ((m _).mpr a)).imp_left (fun z => by omega), (List.mem_cons.mp ((m _).mpr b)).imp_left (fun z => by omega)⟩
    · exfalso
      rw [Bool.and_eq_true] at hh
      obtain ⟨s0, q1, q2, q3, q4⟩ := onN_iff.mp hh.1
      have := low s0.2.1 (List.mem_append_left _ (List.mem_map.mpr ⟨s0, q1, rfl⟩))
      have : bgN N t = true := bgN_iff.mpr ⟨s0, q1, q2, by omega, q4⟩
      rw [this] at hh
      simp at hh
end
end Pl

namespace Pl
open PySem Mp
/-! Qf: together. -/
theorem one_nx {c : Cf} {q : S} {G G' : List Sl} (h : evSs c (.cons q .nil) G = .nx G') : evS c q G = .nx G' := by
  rw [evSs] at h
  cases e : evS c q G with
  | nx G1 =>
    rw [e] at h
    simp only at h
    rw [evSs] at h
    exact h
  | rt r G1 => rw [e] at h; cases h
  | bk G1 => rw [e] at h; cases h
  | ct G1 => rw [e] at h; cases h
  | ex x G1 => rw [e] at h; cases h
  | st => rw [e] at h; cases h
section
variable {c : Cf} {g2 g3 g5 g6 g7 g8 g9 g10 g11 g12 : Nat}
theorem ev_ofBoth [Unt] (hpr : c.pr = false) (h2 : c.pm g2 = [.f, .f]) (h3 : c.pm g3 = [.f, .f]) (h7 : c.pm g7 = [.f]) (h9 : c.pm g9 = [.f]) (h10 : c.pm g10 = [.f]) (h11 : c.pm g11 = [.f, .f]) (l2 : PluU (c.cf g2)) (l3 : LesU (c.cf g3)) (l7 : KeptOf (c.cf g7)) (l9 : SpansOf (c.cf g9)) (l10 : InOrd (c.cf g10)) (l11 : SoundsF (c.cf g11))
    {u v : List Un} (hu : Gu Bd u) (hv : Gu Bd v) (zu : u.length ≤ 200) (zv : v.length ≤ 200) (hT : tot u = tot v) : ∃ G', evSs c (sOfBoth g2 g3 g7 g9 g10 g11) [.fz (rowU u), .fz (rowU v), .no, .no, .no, .no, .no, .no, .no, .no, .no] = .rt (.ol ((bothS (spF 0 u ++ spF 0 v)).map pU)) G' := by
  have hsz : 1000 ≤ sizeLine := by decide
  obtain ⟨m1, e1⟩ := l9 u hu (by omega)
  obtain ⟨m2, e2⟩ := l9 v hv (by omega)
  have hmem := mem_sp hu.1 hv.1 (T := Bd) hu.2 hv.2
  generalize hN : spF 0 u ++ spF 0 v = N at hmem
  have hNl : N.length = u.length + v.length := by rw [← hN]; simp [spF_len]
  have eN : (spF 0 u).map sD ++ (spF 0 v).map sD = N.map sD := by rw [← hN]; simp
  have ib : inB N := fun s hs => by have := hmem s hs; omega
  obtain ⟨G1, a1, rfl⟩ := lc_map (f := lcT c [4] (.n 4) .no (.ix (.v 4) (.k (.int 1)))) (enc := sD) (out := fun s => tU s.2.1) (l := N) (St := fun G => G = [.fz (rowU u), .fz (rowU v), .fz (.lst (N.map sD)), .no, .no, .no, .no, .no, .no, .no, .no]) (fun s G hs hG => by
    subst hG
    exact ⟨_, by simp [lcT, sD, wipeG], rfl⟩) (acc := []) (G := [.fz (rowU u), .fz (rowU v), .fz (.lst (N.map sD)), .no, .no, .no, .no, .no, .no, .no, .no]) (by simp; omega) rfl
  obtain ⟨G1, a2, rfl⟩ := lc_map (f := lcT c [4] (.n 4) .no (.ix (.v 4) (.k (.int 2)))) (enc := sD) (out := fun s => tU s.2.2) (l := N) (St := fun G => G = [.fz (rowU u), .fz (rowU v), .fz (.lst (N.map sD)), .no, .no, .no, .no, .no, .no, .no, .no]) (fun s G hs hG => by
    subst hG
    exact ⟨_, by simp [lcT, sD, wipeG], rfl⟩) (acc := []) (G := [.fz (rowU u), .fz (rowU v), .fz (.lst (N.map sD)), .no, .no, .no, .no, .no, .no, .no, .no]) (by simp; omega) rfl
  have eb : N.map (fun s => tU s.2.1) ++ N.map (fun s => tU s.2.2) = (bds N).map tU := by unfold bds; simp; rfl
  have hbl : (bds N).length = N.length + N.length := by unfold bds; simp
  obtain ⟨m3, a3⟩ := l10 (bds N) (fun x hx => by
    rcases List.mem_append.mp hx with hx | hx <;> obtain ⟨s, hs, rfl⟩ := List.mem_map.mp hx <;> have := hmem s hs <;> omega) (by omega)
  have hpl := pts_len (l := bds N)
  have main : (∃ t3 t6 t7 t8 t9 t10 acc, evSs c (.cons (.for (.t [(.n 6), (.n 7)]) (.zp (.cons (.v 3) (.cons (.sl (.v 3) (.so (.k (.int 1))) .no) .nil))) (bOfBoth g2 g3 g11)) .nil) [.fz (rowU u), .fz (rowU v), .fz (.lst (N.map sD)), .ol ((pts (bds N)).map tU), .no, .ol [], .no, .no, .no, .no, .no] = .nx [.fz (rowU u), .fz (rowU v), .fz (.lst (N.map sD)), t3, .no, .ol (acc.map pU), t6, t7, t8, t9, t10] ∧ Gu Bd acc ∧ acc.length < 1000 ∧ mergeU acc = bothS N) := by
    rcases pts_head hmem with ⟨q1, q2⟩ | ⟨t, l, q1, q2, q3, q4, q5, q6, q7⟩
    · refine ⟨.fz (.lst []), .no, .no, .no, .no, .no, [], ?_, ⟨(fun p hp => nomatch hp), by simp [tot]⟩, by simp, by unfold bothS; rw [q1]; rfl⟩
      rw [q1]
      have c1 := cut_1 (l := [])
      simp [slF, intR, c1, paired]
    · have t00 : t = 0 := by
        have hne : u ≠ [] ∨ v ≠ [] := by
          by_cases hu0 : u = []
          · right
            intro hv0
            rw [hu0, hv0] at hN
            have hN : ([] : List Sp) = N := hN
            rw [← hN] at q1
            cases q1
          · exact .inl hu0
        have z : (0 : Int) ∈ bds N := by
          rw [← hN, bds_app]
          exact hne.imp (fun z => (bds_ends z).1) (fun z => (bds_ends z).1)
        rw [← pts_mem, q1] at z
        rcases List.mem_cons.mp z with z | z
        · exact z.symm
        · have := (List.pairwise_cons.mp q2).1 0 z
          omega
      subst t00
      have hl : l.length + 1 = (pts (bds N)).length := by rw [q1]; rfl
      obtain ⟨⟨t6, t7, t8, t9, t10, e⟩, k⟩ := loop_ofBoth (R0 := rowU u) (R1 := rowU v) (R3 := .lst ((0 :: l).map tU)) hpr h2 h3 h11 l2 l3 l11 ib (by omega) (l := l) (t := 0) (acc := []) (s6 := .no) (s7 := .no) (s8 := .no) (s9 := .no) (s10 := .no) q7 ⟨(fun p hp => nomatch hp), by simp [tot]⟩ q2 q6 q3 q5 (by simp; omega)
      refine ⟨.fz (.lst ((0 :: l).map tU)), t6, t7, t8, t9, t10, rn N 0 l [], ?_, k q4, ?_, ?_⟩
      · rw [q1]
        have c1 := cut_1 (l := (0 :: l).map tU)
        have pp := paired_prs (l := l) (t := 0)
        simp only [List.map_cons, List.drop_succ_cons, List.drop_zero] at c1 pp
        simp [slF, intR, c1, pp]
        simp at e
        rw [e]
        simp
      · have := rn_len (N := N) (l := l) (t := 0) (acc := [])
        simp at this
        omega
      · unfold bothS both
        rw [q1]
  obtain ⟨t3, t6, t7, t8, t9, t10, acc, e, ka, kl, ke⟩ := main
  obtain ⟨m4, a4⟩ := l7 acc ka (by omega)
  rw [ke] at a4
  unfold rowU at *
  refine ⟨[.fz (.lst (u.map pU)), .fz (.lst (v.map pU)), .fz (.lst (N.map sD)), t3, .no, .fz (.lst (acc.map pU)), t6, t7, t8, t9, t10], ?_⟩
  have hcat : (spF 0 u).length + (spF 0 v).length ≤ sizeLine := by simp [spF_len]; omega
  have hcat2 : N.length + N.length ≤ sizeLine := by omega
  have first : evSs c (sOfBoth g2 g3 g7 g9 g10 g11) [.fz (.lst (u.map pU)), .fz (.lst (v.map pU)), .no, .no, .no, .no, .no, .no, .no, .no, .no] = evSs c (.cons (.for (.t [(.n 6), (.n 7)]) (.zp (.cons (.v 3) (.cons (.sl (.v 3) (.so (.k (.int 1))) .no) .nil))) (bOfBoth g2 g3 g11)) (.cons (.ret (.call g7 (.cons (.v 5) .nil))) .nil)) [.fz (.lst (u.map pU)), .fz (.lst (v.map pU)), .fz (.lst (N.map sD)), .ol ((pts (bds N)).map tU), .no, .ol [], .no, .no, .no, .no, .no] := by
    unfold sOfBoth
    simp [hpr, h9, e1, e2, hcat, eN, plainA, wipeG, backG, a1, a2, hcat2, h10, eb, a3]
  rw [first, v_scons, one_nx e]
  simp [h7, a4]
def OfBoth [Unt] (f : List Sl → Cres) : Prop := ∀ u v : List Un, Gu Bd u → Gu Bd v → u.length ≤ 200 → v.length ≤ 200 → tot u = tot v → ∃ m, f [.fz (rowU u), .fz (rowU v)] = .ok (.ol ((bothS (spF 0 u ++ spF 0 v)).map pU)) m
def bTogether (g6 : Nat) : Ss := (.cons (.ex (.call g6 (.cons (.v 3) .nil)))
  .nil)
def sTogether (g5 g6 g7 g8 g12 : Nat) : Ss := (.cons (.asg (.n 2) (.lst (.cons (.call g5 (.cons (.v 0) .nil)) (.cons (.call g5 (.cons (.v 1) .nil)) .nil))))
  (.cons (.for (.n 3) (.e (.v 2)) (bTogether g6))
  (.cons (.iff (.cm .ne (.call g8 (.cons (.ix (.v 2) (.k (.int 0))) .nil)) (.call g8 (.cons (.ix (.v 2) (.k (.int 1))) .nil))) (.cons .bad .nil) .nil)
  (.cons (.ret (.call g12 (.cons (.call g7 (.cons (.ix (.v 2) (.k (.int 0))) .nil)) (.cons (.call g7 (.cons (.ix (.v 2) (.k (.int 1))) .nil)) .nil))))
  .nil))))
theorem ev_together [Unt] (hpr : c.pr = false) (h5 : c.pm g5 = [.f]) (h6 : c.pm g6 = [.f]) (h7 : c.pm g7 = [.f]) (h8 : c.pm g8 = [.f]) (h12 : c.pm g12 = [.f, .f]) (l5 : LowRow (c.cf g5)) (l6 : MustP (c.cf g6)) (l7 : KeptOf (c.cf g7)) (l8 : WholeOf (c.cf g8)) (l12 : OfBoth (c.cf g12))
    {u v : List Un} {d1 d2 : List D} (t1 : Two Told (u.map uP) d1) (t2 : Two Told (v.map uP) d2) (hu : Gu Bd u) (hv : Gu Bd v) (zu : u.length ≤ 200) (zv : v.length ≤ 200) (hT : tot u = tot v) : ∃ G', evSs c (sTogether g5 g6 g7 g8 g12) [.fz (.lst d1), .fz (.lst d2), .no, .no] = .rt (.ol ((bothS (spF 0 (mergeU u) ++ spF 0 (mergeU v))).map pU)) G' := by
  have hsz : 1000 ≤ sizeLine := by decide
  obtain ⟨m1, e1⟩ := l5 _ _ t1 (by simp; omega)
  obtain ⟨m2, e2⟩ := l5 _ _ t2 (by simp; omega)
  obtain ⟨m3, e3⟩ := l6 u hu
  obtain ⟨m4, e4⟩ := l6 v hv
  obtain ⟨m5, e5⟩ := l8 u hu
  obtain ⟨m6, e6⟩ := l8 v hv
  obtain ⟨m7, e7⟩ := l7 u hu (by omega)
  obtain ⟨m8, e8⟩ := l7 v hv (by omega)
  obtain ⟨k1, k2, k3⟩ := merge_gu hu
  obtain ⟨j1, j2, j3⟩ := merge_gu hv
  obtain ⟨m9, e9⟩ := l12 (mergeU u) (mergeU v) k1 j1 (by omega) (by omega) (by rw [k3, j3, hT])
  rw [map_uP] at e1 e2
  rw [← hT] at e6
  have q := eqD_t (tot u) (tot u)
  rw [decide_eq_true rfl] at q
  unfold rowU at *
  unfold sTogether
  have w1 : forT c (.n 3) (bTogether g6) (.lst (u.map pU)) [.fz (.lst d1), .fz (.lst d2), .fz (.lst [.lst (u.map pU), .lst (v.map pU)]), .no] = .nx [.fz (.lst d1), .fz (.lst d2), .fz (.lst [.lst (u.map pU), .lst (v.map pU)]), .fz (.lst (u.map pU))] := by
    simp [forT, bTogether, hpr, h6, e3]
  have w2 : forT c (.n 3) (bTogether g6) (.lst (v.map pU)) [.fz (.lst d1), .fz (.lst d2), .fz (.lst [.lst (u.map pU), .lst (v.map pU)]), .fz (.lst (u.map pU))] = .nx [.fz (.lst d1), .fz (.lst d2), .fz (.lst [.lst (u.map pU), .lst (v.map pU)]), .fz (.lst (v.map pU))] := by
    simp [forT, bTogether, hpr, h6, e4]
  simp [hpr, h5, e1, e2]
  rw [for_cons w1, for_cons w2]
  simp [h8, e5, e6, q, h7, e7, e8, h12, e9]
/-- together, told otherwise -/
def TogF [Unt] (f : List Sl → Cres) : Prop := ∀ (u v : List Un) (d1 d2 : List D), Two Told (u.map uP) d1 → Two Told (v.map uP) d2 → Gu Bd u → Gu Bd v → u.length ≤ 200 → v.length ≤ 200 → tot u = tot v → ∃ m, f [.fz (.lst d1), .fz (.lst d2)] = .ok (.ol ((bothS (spF 0 (mergeU u) ++ spF 0 (mergeU v))).map pU)) m
end
end Pl

namespace Pl
open PySem Mp
/-! Qg: the law's rows together. -/
theorem toP_tD {q : Rat} : D.toP (tD q) = some (.tuple [.int q.num, .int q.den]) := by simp [tD, D.toP, D.toPs]
theorem eqv_t (p q : Rat) : PyData.eqv (.tuple [.int p.num, .int p.den]) (.tuple [.int q.num, .int q.den]) = decide (p = q) := by
  have h := eqD_tq p q
  unfold eqD at h
  rw [toP_tD, toP_tD] at h
  have s : ∀ i j : Int, SeqAt.shaped (.tuple [.int i, .int j]) = true := fun i j => by
    simp [SeqAt.shaped, PyData.canLay0, PyData.canLayAll0, PyData.depth, PyData.depthAll]
  simp only [s, Bool.and_self, if_true] at h
  exact Option.some.inj h
theorem inD_tq {p : Rat} {qs : List Rat} : inD (tD p) (qs.map tD) = some (decide (p ∈ qs)) := by
  have e : D.toPs (qs.map tD) = some (qs.map fun q => PyData.tuple [.int q.num, .int q.den]) := by
    induction qs with
    | nil => simp [D.toPs]
    | cons q qs ih => simp only [List.map_cons, D.toPs, toP_tD, ih]
  obtain ⟨p1, e1, c1, d1⟩ := (pln_t (q := p) (n := 0)).toP
  obtain ⟨p2, e2, c2, d2⟩ := (pln_map (f := tD) (n := 1) (l := qs) fun q => pln_t).toP
  have e3 : D.toP (.lst (qs.map tD)) = some (.list (qs.map fun q => PyData.tuple [.int q.num, .int q.den])) := by rw [D.toP, e]; rfl
  rw [e3] at e2
  obtain rfl := Option.some.inj e2
  rw [toP_tD] at e1
  obtain rfl := Option.some.inj e1
  unfold inD
  rw [toP_tD, e]
  simp only [shaped_of c1 d1 (by omega), shaped_of c2 d2 (by omega), Bool.and_self, if_true]
  congr 1
  rw [Bool.eq_iff_iff, List.any_eq_true, decide_eq_true_iff]
  constructor
  · rintro ⟨z, hz, h⟩
    obtain ⟨q, hq, rfl⟩ := List.mem_map.mp hz
    rw [eqv_t] at h
    rw [← of_decide_eq_true h]
    exact hq
  · intro h
    exact ⟨_, List.mem_map.mpr ⟨p, h, rfl⟩, by rw [eqv_t]; exact decide_eq_true rfl⟩
theorem inD_t [Unt] {t : Int} {ts : List Int} : inD (tU t) (ts.map tU) = some (decide (t ∈ ts)) := by
  have e : ts.map tU = (ts.map uR).map tD := by rw [List.map_map]; rfl
  rw [e]
  unfold tU
  rw [inD_tq]
  congr 1
  refine decide_eq_decide.mpr ⟨fun h => ?_, fun h => List.mem_map.mpr ⟨t, h, rfl⟩⟩
  obtain ⟨x, hx, e⟩ := List.mem_map.mp h
  rw [← uR_inj e]
  exact hx
theorem rgD_succ {a : Int} {n : Nat} : rgD a (n + 1) = .int a :: rgD (a + 1) n := by
  unfold rgD
  rw [List.range_succ_eq_map, List.map_cons, List.map_map]
  congr 1
  · simp
  · apply List.map_congr_left
    intro k _
    simp
    omega
section
variable {c : Cf} {g20 g21 g23 g31 g32 g34 g35 : Nat}
def sOnL (g23 : Nat) : Ss := (.cons (.asg (.n 2) (.lc [3, 4, 5] (.t [(.n 3), (.n 4), (.n 5)]) (.e (.v 0)) (.so (.and (.cm .eq (.v 3) (.k (.str "note"))) (.and (.not (.call g23 (.cons (.v 1) (.cons (.v 4) .nil)))) (.call g23 (.cons (.v 1) (.cons (.v 5) .nil)))))) (.v 4)))
  (.cons (.ret (.tup (.cons (.cm .ne (.v 2) (.lst .nil)) (.cons (.cm .isIn (.v 1) (.v 2)) .nil))))
  .nil))
theorem ev_onL [Unt] (hpr : c.pr = false) (hpm : c.pm g23 = [.f, .f]) (hu : UndU (c.cf g23)) {N : List Sp} {t : Int} (hN : inB N) (ht : -Bd ≤ t ∧ t ≤ Bd) (hz : N.length < 1000) : ∃ G', evSs c (sOnL g23) [.fz (.lst (N.map sD)), .fz (tU t), .no, .no, .no, .no] = .rt (.d (.tup [.bl (onN N t), .bl (bgN N t)])) G' := by
  have hsz : 1000 ≤ sizeLine := by decide
  obtain ⟨G1, a1, rfl⟩ := lc_fm (f := lcT c [3, 4, 5] (.t [.n 3, .n 4, .n 5]) (.so (.and (.cm .eq (.v 3) (.k (.str "note"))) (.and (.not (.call g23 (.cons (.v 1) (.cons (.v 4) .nil)))) (.call g23 (.cons (.v 1) (.cons (.v 5) .nil)))))) (.v 4)) (enc := sD) (out := fun s => tU s.2.1) (p := isOn t) (l := N) (St := fun G => G = [.fz (.lst (N.map sD)), .fz (tU t), .no, .no, .no, .no]) (fun s G hs hG => by
    subst hG
    refine ⟨_, ?_, rfl⟩
    obtain ⟨b1, b2, b3, b4⟩ := hN s hs
    obtain ⟨b, x, y⟩ := s
    simp only at b1 b2 b3 b4
    obtain ⟨m1, e1⟩ := hu t x ht.1 ht.2 b1 b2
    obtain ⟨m2, e2⟩ := hu t y ht.1 ht.2 b3 b4
    cases b
    · by_cases h1 : t < x
      · simp [lcT, sD, hpm, k_eqn, e1, h1, wipeG, isOn]
      · by_cases h2 : t < y <;> simp [lcT, sD, hpm, k_eqn, e1, e2, h1, h2, wipeG, isOn]
    · simp [lcT, sD, k_eqn, wipeG, isOn]) (acc := []) (G := [.fz (.lst (N.map sD)), .fz (tU t), .no, .no, .no, .no]) (by simp; omega) rfl
  have q1 : eqD (.lst ((N.filter (isOn t)).map fun s => tU s.2.1)) (.lst []) = some (!onN N t) := by
    rw [eqD_emp (pln_map (f := fun s : Sp => tU s.2.1) (n := 1) fun s => pln_t)]
    congr 1
    rw [List.isEmpty_map, isEmpty_filter]
    rfl
  have q2 : inD (tU t) ((N.filter (isOn t)).map fun s => tU s.2.1) = some (bgN N t) := by
    have e : (N.filter (isOn t)).map (fun s => tU s.2.1) = ((N.filter (isOn t)).map (·.2.1)).map tU := by rw [List.map_map]; rfl
    rw [e, inD_t]
    congr 1
    rw [Bool.eq_iff_iff, decide_eq_true_iff, bgN_iff]
    constructor
    · intro h
      obtain ⟨s, hs, e⟩ := List.mem_map.mp h
      obtain ⟨h1, h2⟩ := List.mem_filter.mp hs
      obtain ⟨h3, h4, h5⟩ := isOn_iff.mp h2
      exact ⟨s, h1, h3, e, h5⟩
    · rintro ⟨s, h1, h2, h3, h4⟩
      exact List.mem_map.mpr ⟨s, List.mem_filter.mpr ⟨h1, isOn_iff.mpr ⟨h2, by omega, h4⟩⟩, h3⟩
  unfold sOnL
  simp [hpr, plainA, wipeG]
  rw [a1]
  simp [hpr, backG, q1, q2]
/-- the law's points -/
def tPoints (g23 : Nat) : E := .and (.cm .lt (.v 3) (.bi .len (.cons (.v 1) .nil))) (.call g23 (.cons (.ix (.v 1) (.v 3)) (.cons (.v 2) .nil)))
def wPoints : Ss := (.cons (.asg (.n 3) (.op .add (.v 3) (.k (.int 1))))
  .nil)
def bPoints (g23 : Nat) : Ss := (.cons (.asg (.n 3) (.k (.int 0)))
  (.cons (.whl (tPoints g23) wPoints)
  (eIns .insert)))
def sPoints (g23 : Nat) : Ss := (.cons (.asg (.n 1) (.lst .nil))
  (.cons (.for (.n 2) (.e (.op .add (.lc [4, 5, 6] (.t [(.n 4), (.n 5), (.n 6)]) (.e (.v 0)) .no (.v 5)) (.lc [4, 5, 6] (.t [(.n 4), (.n 5), (.n 6)]) (.e (.v 0)) .no (.v 6)))) (bPoints g23))
  (.cons (.ret (.v 1))
  .nil)))
theorem ev_insTail7 {m : Lm} {l x y : List D} {n : Nat} {d R : D} {b : Bool} (cA : cutD l (some (n : Int)) (some ((n : Int) + 1)) = x) (q : eqD (.lst x) (.lst [d]) = some b) (ins : lmF m l [.int n, d] = some (.non, y)) : evSs c (eIns m) [.fz R, .ol l, .fz d, .fz (.int n), .no, .no, .no] = .nx [.fz R, .ol (if b = true then l else y), .fz d, .fz (.int n), .no, .no, .no] := by
  unfold eIns
  cases b
  · simp [intR, slF, cA, q, ins]
  · simp [intR, slF, cA, q]
theorem whl_points [Unt] (hpr : c.pr = false) (hpm : c.pm g23 = [.f, .f]) (hu : UndU (c.cf g23)) {R : D} {t : Int} (ht : -Bd ≤ t ∧ t ≤ Bd) {B : List Int} (hB : B = [] ∨ ∃ x B', B = x :: B' ∧ t ≤ x) : ∀ {A pre : List Int} {w : Nat}, (∀ x ∈ A, x < t) → (∀ x ∈ pre ++ (A ++ B), -Bd ≤ x ∧ x ≤ Bd) → A.length < w →
    whlF (evT c (tPoints g23)) (evSs c wPoints) w [.fz R, .ol ((pre ++ (A ++ B)).map tU), .fz (tU t), .fz (.int pre.length), .no, .no, .no] = .nx [.fz R, .ol ((pre ++ (A ++ B)).map tU), .fz (tU t), .fz (.int (pre.length + A.length : Nat)), .no, .no, .no]
  | [], pre, w, hA, hb, hw => by
    match w, hw with
    | w + 1, _ =>
      refine whl_end ?_
      unfold tPoints
      rcases hB with rfl | ⟨x, B', rfl, hx⟩
      · have : ¬ ((pre.length : Int) < ((pre ++ ([] ++ [])).map tU).length) := by simp
        simp [this]
      · have h1 : (pre.length : Int) < ((pre ++ ([] ++ x :: B')).map tU).length := by simp; omega
        have h2 : L2.atI ((pre ++ ([] ++ x :: B')).map tU) (pre.length : Int) = some (tU x) := by
          rw [at_nat (by simp)]
          simp
        have hxb := hb x (by simp)
        obtain ⟨m, e⟩ := hu x t hxb.1 hxb.2 ht.1 ht.2
        have h3 : ¬ x < t := by omega
        simp only [List.nil_append] at h1 h2 ⊢
        have h1' : (pre.length : Int) < (pre.length : Int) + ((B'.length : Int) + 1) := by omega
        simp at h2
        simp [h1', h2, hpm, e, h3]
  | a :: A, pre, w, hA, hb, hw => by
    match w, hw with
    | w + 1, hw =>
      have hz : a < t := hA a List.mem_cons_self
      have hab := hb a (by simp)
      obtain ⟨m, e⟩ := hu a t hab.1 hab.2 ht.1 ht.2
      have h2 : L2.atI ((pre ++ (a :: A ++ B)).map tU) (pre.length : Int) = some (tU a) := by
        rw [at_nat (by simp)]
        simp
      have h1' : (pre.length : Int) < (pre.length : Int) + ((A.length : Int) + (B.length : Int) + 1) := by omega
      rw [whl_go (G1 := [.fz R, .ol ((pre ++ (a :: A ++ B)).map tU), .fz (tU t), .fz (.int pre.length), .no, .no, .no]) (G2 := [.fz R, .ol ((pre ++ (a :: A ++ B)).map tU), .fz (tU t), .fz (.int (pre.length + 1)), .no, .no, .no])]
      · have ea : pre ++ (a :: A ++ B) = (pre ++ [a]) ++ (A ++ B) := by simp
        have el : ((pre.length : Int) + 1) = ((pre ++ [a]).length : Int) := by simp
        have ih := whl_points hpr hpm hu (R := R) ht hB (A := A) (pre := pre ++ [a]) (w := w) (fun x hx => hA x (List.mem_cons_of_mem _ hx)) (by rw [← ea]; exact hb) (by simp at hw; omega)
        rw [← ea, ← el] at ih
        rw [ih]
        congr 6
        simp
        omega
      · unfold tPoints
        simp at h2
        simp [h1', h2, hpm, e, hz]
      · unfold wPoints
        simp [hpr]
theorem turn_points [Unt] (hpr : c.pr = false) (hpm : c.pm g23 = [.f, .f]) (hw : 1000 < c.w) (hu : UndU (c.cf g23)) {R : D} {P : List Int} {t : Int} (hs : Srt P) (hb : ∀ x ∈ P, -Bd ≤ x ∧ x ≤ Bd) (ht : -Bd ≤ t ∧ t ≤ Bd) (hz : P.length < 1000) {s2 s3 : Sl} :
    ∃ s5, forT c (.n 2) (bPoints g23) (tU t) [.fz R, .ol (P.map tU), s2, s3, .no, .no, .no] = .nx [.fz R, .ol ((insP P t).map tU), .fz (tU t), s5, .no, .no, .no] := by
  have hsz : 1000 ≤ sizeLine := by decide
  obtain ⟨A, B, e1, e2, e4, e3⟩ := srt_split (t := t) hs
  have hn : A.length ≤ P.length := by rw [e1]; simp
  have cA := cut_at (l := P.map tU) (n := A.length) (by simpa using hn)
  have dropA : (P.map tU).drop A.length = B.map tU := by rw [e1]; simp
  have takeA : (P.map tU).take A.length = A.map tU := by rw [e1]; simp
  rw [dropA] at cA
  have ins := lm_ins (l := P.map tU) (n := A.length) (d := tU t) (by omega) (by simp; omega)
  rw [takeA, dropA] at ins
  have hB : B = [] ∨ ∃ x B', B = x :: B' ∧ t ≤ x := e3.imp (fun z => z.1) fun ⟨x, B', q1, q2, _⟩ => ⟨x, B', q1, q2⟩
  have hwl := whl_points hpr hpm hu (R := R) ht hB (A := A) (pre := []) (w := c.w) e4 (by rw [List.nil_append, ← e1]; exact hb) (by omega)
  rw [List.nil_append, ← e1, List.length_nil, Nat.zero_add] at hwl
  have step1 : forT c (.n 2) (bPoints g23) (tU t) [.fz R, .ol (P.map tU), s2, s3, .no, .no, .no] = evSs c (eIns .insert) [.fz R, .ol (P.map tU), .fz (tU t), .fz (.int A.length), .no, .no, .no] := by
    have z : (D.int ((0 : Nat) : Int)) = .int 0 := rfl
    rw [z] at hwl
    simp [forT, bPoints, hpr]
    rw [hwl]
    rfl
  rw [step1]
  rcases e3 with ⟨rfl, e3⟩ | ⟨x, B', rfl, h2, e3⟩
  · have q : eqD (.lst []) (.lst [tU t]) = some false := eqD_nc (n := 2) (.lst fun d h => by rw [List.mem_singleton.mp h]; exact pln_t)
    refine ⟨.fz (.int A.length), ?_⟩
    rw [e3, ev_insTail7 cA q ins]
    simp
  · have q : eqD (.lst [tU x]) (.lst [tU t]) = some (decide (x = t)) := eqD_up (n := 1) pln_t pln_t (eqD_t x t)
    refine ⟨.fz (.int A.length), ?_⟩
    have cA : cutD (P.map tU) (some (A.length : Int)) (some ((A.length : Int) + 1)) = [tU x] := cA
    rw [e3, ev_insTail7 cA q ins]
    by_cases hx : x = t
    · rw [if_pos hx, if_pos (decide_eq_true hx)]
    · rw [if_neg hx, if_neg (by simpa using hx)]
      simp
theorem loop_points [Unt] (hpr : c.pr = false) (hpm : c.pm g23 = [.f, .f]) (hw : 1000 < c.w) (hu : UndU (c.cf g23)) {R : D} : ∀ {l P : List Int} {s2 s3 : Sl}, Srt P → (∀ x ∈ P, -Bd ≤ x ∧ x ≤ Bd) → (∀ x ∈ l, -Bd ≤ x ∧ x ≤ Bd) → P.length + l.length < 1000 →
    ∃ s4 s5, forF (forT c (.n 2) (bPoints g23)) (l.map tU) [.fz R, .ol (P.map tU), s2, s3, .no, .no, .no] = .nx [.fz R, .ol ((l.foldl insP P).map tU), s4, s5, .no, .no, .no]
  | [], P, s2, s3, _, _, _, _ => ⟨s2, s3, rfl⟩
  | t :: l, P, s2, s3, hs, hb, hl, hz => by
    rw [List.length_cons] at hz
    obtain ⟨s5, e⟩ := turn_points (R := R) (s2 := s2) (s3 := s3) hpr hpm hw hu hs hb (hl t List.mem_cons_self) (by omega)
    have hlen := insP_len (t := t) (l := P)
    obtain ⟨s6, s7, e2⟩ := loop_points hpr hpm hw hu (R := R) (l := l) (P := insP P t) (s2 := .fz (tU t)) (s3 := s5) (insP_srt hs) (fun x hx => (insP_mem.mp hx).elim (fun z => by rw [z]; exact hl t List.mem_cons_self) (hb x)) (fun x hx => hl x (List.mem_cons_of_mem _ hx)) (by omega)
    exact ⟨s6, s7, by rw [List.map_cons, for_cons e]; exact e2⟩
theorem ev_points [Unt] (hpr : c.pr = false) (hpm : c.pm g23 = [.f, .f]) (hw : 1000 < c.w) (hu : UndU (c.cf g23)) {N : List Sp} (hN : inB N) (hz : N.length < 400) : ∃ s4 s5, evSs c (sPoints g23) [.fz (.lst (N.map sD)), .no, .no, .no, .no, .no, .no] = .rt (.al 1) [.fz (.lst (N.map sD)), .ol ((pts (bds N)).map tU), s4, s5, .no, .no, .no] := by
  have hsz : 1000 ≤ sizeLine := by decide
  obtain ⟨G1, a1, rfl⟩ := lc_map (f := lcT c [4, 5, 6] (.t [.n 4, .n 5, .n 6]) .no (.v 5)) (enc := sD) (out := fun s => tU s.2.1) (l := N) (St := fun G => G = [.fz (.lst (N.map sD)), .ol [], .no, .no, .no, .no, .no]) (fun s G hs hG => by
    subst hG
    exact ⟨_, by simp [lcT, sD, wipeG], rfl⟩) (acc := []) (G := [.fz (.lst (N.map sD)), .ol [], .no, .no, .no, .no, .no]) (by simp; omega) rfl
  obtain ⟨G1, a2, rfl⟩ := lc_map (f := lcT c [4, 5, 6] (.t [.n 4, .n 5, .n 6]) .no (.v 6)) (enc := sD) (out := fun s => tU s.2.2) (l := N) (St := fun G => G = [.fz (.lst (N.map sD)), .ol [], .no, .no, .no, .no, .no]) (fun s G hs hG => by
    subst hG
    exact ⟨_, by simp [lcT, sD, wipeG], rfl⟩) (acc := []) (G := [.fz (.lst (N.map sD)), .ol [], .no, .no, .no, .no, .no]) (by simp; omega) rfl
  have eb : N.map (fun s => tU s.2.1) ++ N.map (fun s => tU s.2.2) = (bds N).map tU := by unfold bds; simp; rfl
  have hbl : (bds N).length = N.length + N.length := by unfold bds; simp
  have hcat2 : N.length + N.length ≤ sizeLine := by omega
  obtain ⟨s4, s5, e⟩ := loop_points hpr hpm hw hu (R := .lst (N.map sD)) (l := bds N) (P := []) (s2 := .no) (s3 := .no) .nil (fun x h => nomatch h) (fun x hx => by
    rcases List.mem_append.mp hx with hx | hx <;> obtain ⟨s, hs, rfl⟩ := List.mem_map.mp hx <;> have := hN s hs <;> omega) (by simp; omega)
  simp only [List.map_nil] at e
  refine ⟨s4, s5, ?_⟩
  unfold sPoints
  simp [hpr, plainA, wipeG, backG, a1, a2, hcat2, eb]
  rw [e]
  simp [pts]
def PointsF [Unt] (f : List Sl → Cres) : Prop := ∀ N : List Sp, inB N → N.length < 400 → ∃ m, f [.fz (.lst (N.map sD))] = .ok (.ol ((pts (bds N)).map tU)) m
end
end Pl

namespace Pl
open PySem Mp
/-! Qh: the law's two rows as one. -/
section
variable {c : Cf} {g20 g21 g31 g32 g34 g35 : Nat}
def bBothL (g20 g21 g34 : Nat) : Ss := (.cons (.asg (.t [(.n 6), (.n 7)]) (.call g34 (.cons (.v 2) (.cons (.ix (.v 3) (.v 5)) .nil))))
  (.cons (.asg (.n 8) (.call g21 (.cons (.ix (.v 3) (.op .add (.v 5) (.k (.int 1)))) (.cons (.ix (.v 3) (.v 5)) .nil))))
  (.cons (.iff (.and (.v 6) (.not (.v 7))) (.cons (.six 4 (.neg (.k (.int 1))) (.tup (.cons (.k (.str "note")) (.cons (.call g20 (.cons (.ix (.ix (.v 4) (.neg (.k (.int 1)))) (.k (.int 1))) (.cons (.v 8) .nil))) .nil))))
  .nil) (.cons (.ex (.lm .append (.v 4) (.cons (.tup (.cons (.ix (.lst (.cons (.k (.str "rest")) (.cons (.k (.str "note")) .nil))) (.bi .int (.cons (.v 6) .nil))) (.cons (.v 8) .nil))) .nil)))
  .nil))
  .nil)))
def sBothL (g20 g21 g31 g32 g34 g35 : Nat) : Ss := (.cons (.asg (.n 2) (.op .add (.call g32 (.cons (.v 0) .nil)) (.call g32 (.cons (.v 1) .nil))))
  (.cons (.asg (.n 3) (.call g35 (.cons (.v 2) .nil)))
  (.cons (.asg (.n 4) (.lst .nil))
  (.cons (.for (.n 5) (.rg1 (.cons (.op .sub (.bi .len (.cons (.v 3) .nil)) (.k (.int 1))) .nil)) (bBothL g20 g21 g34))
  (.cons (.ret (.call g31 (.cons (.v 4) .nil)))
  .nil)))))
theorem turn_bothL [Unt] (hpr : c.pr = false) (h20 : c.pm g20 = [.f, .f]) (h21 : c.pm g21 = [.f, .f]) (h34 : c.pm g34 = [.f, .f]) (l20 : PluU (c.cf g20)) (l21 : LesU (c.cf g21)) (l34 : SoundsF (c.cf g34)) {R0 R1 : D} {N : List Sp} {pre l : List Int} {t e : Int} {acc : List Un} {s5 s6 s7 s8 : Sl}
    (hN : inB N) (hz : N.length < 1000) (i : Inv N t acc) (ok : Ok t acc) (te : t < e) (t0 : 0 ≤ t) (eB : e ≤ Bd) (hl : acc.length < 1000) :
    ∃ t6 t7 t8, forT c (.n 5) (bBothL g20 g21 g34) (.int pre.length) [.fz R0, .fz R1, .fz (.lst (N.map sD)), .ol ((pre ++ t :: e :: l).map tU), .ol (acc.map pU), s5, s6, s7, s8] = .nx [.fz R0, .fz R1, .fz (.lst (N.map sD)), .ol ((pre ++ t :: e :: l).map tU), .ol ((stp N acc t e).map pU), .fz (.int pre.length), t6, t7, t8] := by
  have hsz : 1000 ≤ sizeLine := by decide
  obtain ⟨m1, e1⟩ := l21 e t (by omega) eB (by omega) (by omega)
  obtain ⟨m2, e2⟩ := l34 N t hN (by omega) hz
  have i1 : L2.atI ((pre ++ t :: e :: l).map tU) (pre.length : Int) = some (tU t) := by
    rw [at_nat (by simp)]
    simp
  have i2 : L2.atI ((pre ++ t :: e :: l).map tU) ((pre.length : Int) + 1) = some (tU e) := by
    have : ((pre.length : Int) + 1) = ((pre.length + 1 : Nat) : Int) := by omega
    rw [this, at_nat (by simp)]
    simp
  generalize (pre ++ t :: e :: l).map tU = PP at i1 i2 ⊢
  unfold stp
  by_cases hh : (onN N t && !bgN N t) = true
  · obtain ⟨l, x, rfl⟩ := i hh
    rw [if_pos hh, setL_sn]
    rw [Bool.and_eq_true] at hh
    have hb : bgN N t = false := by simpa using hh.2
    rw [hh.1, hb] at e2
    have hx := ok.1 (false, x) (by simp)
    have hxt := le_tot ok.1 (p := (false, x)) (by simp)
    have hto := ok.2
    simp only at hx hxt
    obtain ⟨m4, e4⟩ := l20 x (e - t) (by omega) (by omega) (by omega) (by omega)
    have c3 := at_last (l := l.map pU) (a := D.tup [kD false, tU x])
    have c5 := ixN_last (n := l.length)
    have c6 : (l.map pU ++ [D.tup [kD false, tU x]]).set l.length (.tup [kD false, tU (x + (e - t))]) = l.map pU ++ [.tup [kD false, tU (x + (e - t))]] := by
      have := set_last (l := l.map pU) (x := D.tup [kD false, tU x]) (y := D.tup [kD false, tU (x + (e - t))])
      simpa using this
    have kt : D.str (Str.ofString "note") = kD false := by rfl
    refine ⟨.fz (.bl true), .fz (.bl false), .fz (tU (e - t)), ?_⟩
    simp [forT, bBothL, hpr, h20, h21, h34, e1, e2, i1, i2, pU, c3, e4, c5]
    exact kt
  · rw [if_neg hh]
    have ka := kind_at (onN N t)
    have hz2 : acc.length < sizeLine := by omega
    refine ⟨.fz (.bl (onN N t)), .fz (.bl (bgN N t)), .fz (tU (e - t)), ?_⟩
    cases h1 : onN N t with
    | false =>
      rw [h1] at e2 ka
      simp at ka
      simp [forT, bBothL, hpr, h21, h34, e1, e2, i1, i2, pU, hz2, ka]
    | true =>
      rw [h1] at e2 ka hh
      have hb : bgN N t = true := by
        cases q : bgN N t with
        | true => rfl
        | false => rw [q] at hh; exact absurd rfl hh
      rw [hb] at e2 ⊢
      simp at ka
      simp [forT, bBothL, hpr, h21, h34, e1, e2, i1, i2, pU, hz2, ka]
theorem loop_bothL [Unt] (hpr : c.pr = false) (h20 : c.pm g20 = [.f, .f]) (h21 : c.pm g21 = [.f, .f]) (h34 : c.pm g34 = [.f, .f]) (l20 : PluU (c.cf g20)) (l21 : LesU (c.cf g21)) (l34 : SoundsF (c.cf g34)) {R0 R1 : D} {N : List Sp} (hN : inB N) (hz : N.length < 1000) :
    ∀ {l pre : List Int} {t : Int} {acc : List Un} {s5 s6 s7 s8 : Sl}, Inv N t acc → Ok t acc → Srt (t :: l) → Bnd N t l → 0 ≤ t → (∀ x ∈ l, x ≤ Bd) → acc.length + l.length < 1000 →
    (∃ t5 t6 t7 t8, forF (forT c (.n 5) (bBothL g20 g21 g34)) (rgD pre.length l.length) [.fz R0, .fz R1, .fz (.lst (N.map sD)), .ol ((pre ++ t :: l).map tU), .ol (acc.map pU), s5, s6, s7, s8] = .nx [.fz R0, .fz R1, .fz (.lst (N.map sD)), .ol ((pre ++ t :: l).map tU), .ol ((rn N t l acc).map pU), t5, t6, t7, t8]) ∧ (t ≤ Bd → Gu Bd (rn N t l acc))
  | [], pre, t, acc, s5, s6, s7, s8, i, ok, hs, hb, t0, hl, hc => ⟨⟨s5, s6, s7, s8, rfl⟩, fun h => ⟨ok.1, by rw [show tot (rn N t [] acc) = t from ok.2]; exact h⟩⟩
  | e :: l, pre, t, acc, s5, s6, s7, s8, i, ok, hs, hb, t0, hl, hc => by
    rw [List.length_cons] at hc
    have h1 := List.pairwise_cons.mp hs
    have te := h1.1 e List.mem_cons_self
    have eB := hl e List.mem_cons_self
    obtain ⟨t6, t7, t8, e1⟩ := turn_bothL (R0 := R0) (R1 := R1) (pre := pre) (l := l) (s5 := s5) (s6 := s6) (s7 := s7) (s8 := s8) hpr h20 h21 h34 l20 l21 l34 hN hz i ok te t0 eB (by omega)
    have hlen : (stp N acc t e).length ≤ acc.length + 1 := by
      have := rn_len (N := N) (l := [e]) (t := t) (acc := acc)
      exact this
    obtain ⟨⟨u5, u6, u7, u8, e2⟩, k⟩ := loop_bothL hpr h20 h21 h34 l20 l21 l34 (R0 := R0) (R1 := R1) hN hz (l := l) (pre := pre ++ [t]) (t := e) (acc := stp N acc t e) (s5 := .fz (.int pre.length)) (s6 := t6) (s7 := t7) (s8 := t8) (fun h => (stp_merge i).2 (on_next hb hs h)) (stp_ok i ok te) h1.2 (hb.tail te) (by omega) (fun x hx => hl x (List.mem_cons_of_mem _ hx)) (by omega)
    have ea : pre ++ t :: e :: l = (pre ++ [t]) ++ e :: l := by simp
    have el : ((pre ++ [t]).length : Int) = (pre.length : Int) + 1 := by simp
    rw [el, ← ea] at e2
    exact ⟨⟨u5, u6, u7, u8, by rw [List.length_cons, rgD_succ, for_cons e1]; exact e2⟩, fun _ => k eB⟩
theorem ev_bothL [Unt] (hpr : c.pr = false) (h20 : c.pm g20 = [.f, .f]) (h21 : c.pm g21 = [.f, .f]) (h31 : c.pm g31 = [.f]) (h32 : c.pm g32 = [.f]) (h34 : c.pm g34 = [.f, .f]) (h35 : c.pm g35 = [.f]) (l20 : PluU (c.cf g20)) (l21 : LesU (c.cf g21)) (l31 : KeptOf (c.cf g31)) (l32 : SpansOf (c.cf g32)) (l34 : SoundsF (c.cf g34)) (l35 : PointsF (c.cf g35))
    {u v : List Un} (hu : Gu Bd u) (hv : Gu Bd v) (zu : u.length ≤ 200) (zv : v.length < 200) (hne : u ≠ []) : ∃ G', evSs c (sBothL g20 g21 g31 g32 g34 g35) [.fz (rowU u), .fz (rowU v), .no, .no, .no, .no, .no, .no, .no] = .rt (.ol ((bothS (spF 0 u ++ spF 0 v)).map pU)) G' := by
  have hsz : 1000 ≤ sizeLine := by decide
  obtain ⟨m1, e1⟩ := l32 u hu (by omega)
  obtain ⟨m2, e2⟩ := l32 v hv (by omega)
  have hmem := mem_sp hu.1 hv.1 (T := Bd) hu.2 hv.2
  generalize hN : spF 0 u ++ spF 0 v = N at hmem
  have hNl : N.length = u.length + v.length := by rw [← hN]; simp [spF_len]
  have eN : (spF 0 u).map sD ++ (spF 0 v).map sD = N.map sD := by rw [← hN]; simp
  have ib : inB N := fun s hs => by have := hmem s hs; omega
  obtain ⟨m3, a3⟩ := l35 N ib (by omega)
  have hpl := pts_len (l := bds N)
  have hbl : (bds N).length = N.length + N.length := by unfold bds; simp
  have hcat : (spF 0 u).length + (spF 0 v).length ≤ sizeLine := by simp [spF_len]; omega
  rcases pts_head hmem with ⟨q1, q2⟩ | ⟨t, l, q1, q2, q3, q4, q5, q6, q7⟩
  · have z := (bds_ends hne).1
    have z : (0 : Int) ∈ bds N := by rw [← hN, bds_app]; exact .inl z
    rw [← pts_mem, q1] at z
    cases z
  · have t00 : t = 0 := by
      have z : (0 : Int) ∈ bds N := by rw [← hN, bds_app]; exact .inl (bds_ends hne).1
      rw [← pts_mem, q1] at z
      rcases List.mem_cons.mp z with z | z
      · exact z.symm
      · have := (List.pairwise_cons.mp q2).1 0 z
        omega
    subst t00
    have hl : l.length + 1 = (pts (bds N)).length := by rw [q1]; rfl
    obtain ⟨⟨t5, t6, t7, t8, e⟩, k⟩ := loop_bothL (R0 := rowU u) (R1 := rowU v) hpr h20 h21 h34 l20 l21 l34 ib (by omega) (l := l) (pre := []) (t := 0) (acc := []) (s5 := .no) (s6 := .no) (s7 := .no) (s8 := .no) q7 ⟨(fun p hp => nomatch hp), by simp [tot]⟩ q2 q6 q3 q5 (by simp; omega)
    have kl := rn_len (N := N) (l := l) (t := 0) (acc := [])
    obtain ⟨m4, a4⟩ := l31 (rn N 0 l []) (k q4) (by simp at kl; omega)
    have ke : mergeU (rn N 0 l []) = bothS N := by unfold bothS both; rw [q1]
    rw [ke] at a4
    rw [q1] at a3
    unfold rowU at *
    have b1 : -4611686018427387904 ≤ (l.length : Int) ∧ (l.length : Int) < 4611686018427387904 := by omega
    simp only [List.nil_append, List.length_nil, List.map_nil] at e
    have z0 : rgD ((0 : Nat) : Int) l.length = rgD 0 l.length := rfl
    rw [z0] at e
    unfold sBothL
    simp [hpr, h32, e1, e2, hcat, eN, h35, a3] at e ⊢
    simp [b1]
    rw [e]
    simp [h31, a4]
def BothL [Unt] (f : List Sl → Cres) : Prop := ∀ u v : List Un, Gu Bd u → Gu Bd v → u.length < 200 → v.length < 200 → u ≠ [] → ∃ m, f [.fz (rowU u), .fz (rowU v)] = .ok (.ol ((bothS (spF 0 u ++ spF 0 v)).map pU)) m
end
end Pl

namespace Pl
open PySem Mp
/-! Qi: rows as long. -/
theorem cut_none {b : Int} : ∀ {u : List Un} {t : Int}, (∀ p ∈ u, 0 < p.2) → b ≤ t → (spF t u).filterMap (cutS 0 b) = []
  | [], _, _, _ => rfl
  | p :: u, t, h, hb => by
    have hp := h p List.mem_cons_self
    have e : cutS 0 b (p.1, t, t + p.2) = none := cutS_not (by omega)
    unfold spF
    rw [List.filterMap_cons_none e]
    exact cut_none (fun p hp => h p (List.mem_cons_of_mem _ hp)) (by omega)
theorem cut_tot {b : Int} : ∀ {u : List Un} {t : Int}, (∀ p ∈ u, 0 < p.2) → 0 ≤ t → t ≤ b → b ≤ t + tot u → tot ((spF t u).filterMap (cutS 0 b)) = b - t
  | [], t, _, _, h1, h2 => by
    simp [tot] at h2
    simp [spF, tot]
    omega
  | p :: u, t, h, h0, h1, h2 => by
    have hp := h p List.mem_cons_self
    have h' : ∀ p ∈ u, 0 < p.2 := fun p hp => h p (List.mem_cons_of_mem _ hp)
    rw [tot_cons] at h2
    unfold spF
    by_cases hb : t + p.2 ≤ b
    · have e : cutS 0 b (p.1, t, t + p.2) = some (p.1, p.2) := by
        rw [cutS_is (by omega) (by omega) (by omega) (by omega)]
        rw [if_neg (by omega), if_neg (by omega)]
        congr 2
        omega
      rw [List.filterMap_cons_some e, tot_cons, cut_tot h' (by omega) hb (by omega)]
      show p.2 + (b - (t + p.2)) = b - t
      omega
    · have hr := cut_none (b := b) h' (t := t + p.2) (by omega)
      by_cases ht : t < b
      · have e : cutS 0 b (p.1, t, t + p.2) = some (p.1, b - t) := by
          rw [cutS_is ht (by omega) (by omega) (by omega)]
          rw [if_pos (by omega), if_neg (by omega)]
        rw [List.filterMap_cons_some e, tot_cons, hr]
        simp [tot]
      · have e : cutS 0 b (p.1, t, t + p.2) = none := cutS_not (by omega)
        rw [List.filterMap_cons_none e, hr]
        simp [tot]
        omega
def Sr (n : Nat) (u : List Un) : Prop := (∀ p ∈ u, 0 < p.2 ∧ p.2 ≤ 41160000 ∧ p.2 % 343000 = 0) ∧ u.length ≤ n
theorem lowS_of {r : Int} (h1 : 0 ≤ r) (h2 : r < 6) : ∃ n k : Int, L2.atI [D.int 1, .int 2, .int 4, .int 8, .int 3, .int 12] r = some (.int n) ∧ n ≠ 0 ∧ n.natAbs.log2 < 8999 ∧ n * k = M ∧ 0 < k ∧ k ≤ 8232000 ∧ k % 343000 = 0 := by
  have : r = 0 ∨ r = 1 ∨ r = 2 ∨ r = 3 ∨ r = 4 ∨ r = 5 := by omega
  rcases this with rfl | rfl | rfl | rfl | rfl | rfl
  · exact ⟨1, 8232000, by rfl, by decide, by decide, by decide, by decide, by decide, by decide⟩
  · exact ⟨2, 4116000, by rfl, by decide, by decide, by decide, by decide, by decide, by decide⟩
  · exact ⟨4, 2058000, by rfl, by decide, by decide, by decide, by decide, by decide, by decide⟩
  · exact ⟨8, 1029000, by rfl, by decide, by decide, by decide, by decide, by decide, by decide⟩
  · exact ⟨3, 2744000, by rfl, by decide, by decide, by decide, by decide, by decide, by decide⟩
  · exact ⟨12, 686000, by rfl, by decide, by decide, by decide, by decide, by decide, by decide⟩
section
variable {c : Cf} {g17 g19 g21 g22 g23 g24 g29 g33 : Nat}
def bShort (g g2 : Nat) : Ss := (.cons (.asg (.n 4) (.call g2 (.cons (.op .add (.k (.int 1)) (.call g (.cons (.v 0) (.cons (.k (.int 5)) .nil)))) (.cons (.ix (.lst (.cons (.k (.int 1)) (.cons (.k (.int 2)) (.cons (.k (.int 4)) (.cons (.k (.int 8)) (.cons (.k (.int 3)) (.cons (.k (.int 12)) .nil))))))) (.call g (.cons (.v 0) (.cons (.k (.int 6)) .nil)))) .nil))))
  (.cons (.ex (.lm .append (.v 2) (.cons (.tup (.cons (.ix (.lst (.cons (.k (.str "note")) (.cons (.k (.str "note")) (.cons (.k (.str "rest")) .nil)))) (.call g (.cons (.v 0) (.cons (.k (.int 3)) .nil)))) (.cons (.v 4) .nil))) .nil)))
  .nil))
def sShort (g g2 : Nat) : Ss := (.cons (.asg (.n 2) (.lst .nil))
  (.cons (.for (.n 3) (.rg1 (.cons (.call g (.cons (.v 0) (.cons (.op .add (.v 1) (.k (.int 1))) .nil))) .nil)) (bShort g g2))
  (.cons (.ret (.v 2))
  .nil)))
theorem turn_short {g g2 : Nat} (hpr : c.pr = true) (h1 : c.pm g = [.m, .f]) (h2 : c.pm g2 = [.f, .f]) (l1 : Dra (c.cf g)) (l2 : Low (c.cf g2)) {R d : D} {acc : List Un} {b : Nat} {l : List D} {s3 s4 : Sl} (hl : Pu (b + 3) l) (hz : acc.length < sizeLine) :
    ∃ p l' s6 s7, forT c (.n 3) (bShort g g2) d [.ol l, .fz R, .ol (acc.map pU), s3, s4] = .nx [.ol l', .fz R, .ol ((acc ++ [p]).map pU), s6, s7] ∧ Pu b l' ∧ 0 < p.2 ∧ p.2 ≤ 41160000 ∧ p.2 % 343000 = 0 := by
  obtain ⟨r1, l1', e1, a1, a2, hl1⟩ := l1 (b + 2) 5 l hl (by decide) (by decide)
  obtain ⟨r2, l2', e2, b1, b2, hl2⟩ := l1 (b + 1) 6 l1' hl1 (by decide) (by decide)
  obtain ⟨n, k, c1, n0, nl, nk, k0, k1, k7⟩ := lowS_of b1 b2
  obtain ⟨m4, e4⟩ := l2 (1 + r1) n n0 nl
  obtain ⟨r5, l5', e5, f1, f2, hl5⟩ := l1 b 3 l2' hl2 (by decide) (by decide)
  obtain ⟨kb, c5⟩ := kind_of f1 f2
  have eq : Rat.divInt (1 + r1) n = uR ((1 + r1) * k) := by
    unfold uR
    rw [← nk, Rat.divInt_mul_right (by omega)]
  rw [eq] at e4
  refine ⟨(kb, (1 + r1) * k), l5', .fz d, .fz (tU ((1 + r1) * k)), ?_, hl5, ?_, ?_, ?_⟩
  · unfold tU
    simp [forT, bShort, pU, tU, hpr, h1, h2, e1, c1, e2, e4, e5, c5, hz]
  · exact Int.mul_pos (by omega) k0
  · have : (1 + r1) * k ≤ 5 * 8232000 := Int.mul_le_mul (by omega) k1 (by omega) (by omega)
    show (1 + r1) * k ≤ 41160000
    omega
  · show ((1 + r1) * k) % 343000 = 0
    rw [Int.mul_emod, k7]
    simp
theorem loop_short {g g2 : Nat} (hpr : c.pr = true) (h1 : c.pm g = [.m, .f]) (h2 : c.pm g2 = [.f, .f]) (l1 : Dra (c.cf g)) (l2 : Low (c.cf g2)) {R : D} {b : Nat} : ∀ {ds : List D} {acc : List Un} {l : List D} {s3 s4 : Sl}, Pu (b + 3 * ds.length) l → (∀ p ∈ acc, 0 < p.2 ∧ p.2 ≤ 41160000 ∧ p.2 % 343000 = 0) → acc.length + ds.length ≤ sizeLine →
    ∃ (u : List Un) (l' : List D) (s6 s7 : Sl), forF (forT c (.n 3) (bShort g g2)) ds [.ol l, .fz R, .ol (acc.map pU), s3, s4] = .nx [.ol l', .fz R, .ol (u.map pU), s6, s7] ∧ Pu b l' ∧ (∀ p ∈ u, 0 < p.2 ∧ p.2 ≤ 41160000 ∧ p.2 % 343000 = 0) ∧ u.length = acc.length + ds.length
  | [], acc, l, s3, s4, hl, ha, _ => ⟨acc, l, s3, s4, rfl, hl, ha, rfl⟩
  | d :: ds, acc, l, s3, s4, hl, ha, hz => by
    rw [List.length_cons] at hl hz
    obtain ⟨p, l', s6, s7, e, hl', p1, p2, p3⟩ := turn_short (R := R) (d := d) (acc := acc) (s3 := s3) (s4 := s4) (b := b + 3 * ds.length) hpr h1 h2 l1 l2 (hl.mono (by omega)) (by omega)
    obtain ⟨u, l2', t6, t7, e2, hl2, hu, hlen⟩ := loop_short hpr h1 h2 l1 l2 (R := R) (b := b) (ds := ds) (acc := acc ++ [p]) (l := l') (s3 := s6) (s4 := s7) hl' (fun q hq => by
      rcases List.mem_append.mp hq with hq | hq
      · exact ha q hq
      · rw [List.mem_singleton.mp hq]; exact ⟨p1, p2, p3⟩) (by simp; omega)
    exact ⟨u, l2', t6, t7, by rw [for_cons e, e2], hl2, hu, by rw [hlen]; simp; omega⟩
theorem ev_short {g g2 : Nat} (hpr : c.pr = true) (h1 : c.pm g = [.m, .f]) (h2 : c.pm g2 = [.f, .f]) (l1 : Dra (c.cf g)) (l2 : Low (c.cf g2)) {n b : Nat} (hn : n ≤ 1000) {l : List D} (hl : Pu (b + (3 * n + 1)) l) :
    ∃ (u : List Un) (l' : List D) (s1 s3 s4 : Sl), evSs c (sShort g g2) [.ol l, .fz (.int n), .no, .no, .no] = .rt (.al 2) [.ol l', s1, .ol (u.map pU), s3, s4] ∧ Pu b l' ∧ Sr n u := by
  obtain ⟨r, l', e, r1, r2, hl'⟩ := l1 (b + 3 * n) ((n : Int) + 1) l hl (by omega) (by omega)
  have hlen : (rgD 0 r.toNat).length = r.toNat := by simp [rgD]
  obtain ⟨u, l2', s6, s7, e2, hl2, hu, hul⟩ := loop_short hpr h1 h2 l1 l2 (R := .int n) (b := b) (ds := rgD 0 r.toNat) (acc := []) (l := l') (s3 := .no) (s4 := .no) (hl'.mono (by rw [hlen]; omega)) (fun p h => nomatch h) (by rw [hlen, List.length_nil, Nat.zero_add]; exact Nat.le_trans (show r.toNat ≤ 1000 by omega) (show 1000 ≤ sizeLine by decide))
  refine ⟨u, l2', .fz (.int n), s6, s7, ?_, hl2, hu, by rw [hul, hlen]; simp; omega⟩
  have b1 : -4611686018427387904 ≤ r ∧ r < 4611686018427387904 := by omega
  simp only [List.map_nil] at e2
  unfold sShort
  simp [hpr, h1, e, b1]
  rw [e2]
  simp
def ShortF (f : List Sl → Cres) : Prop := ∀ (n b : Nat) (l : List D), n ≤ 1000 → Pu (b + (3 * n + 1)) l → ∃ (u : List Un) (l' : List D), f [.ol l, .fz (.int n)] = .ok (.ol (u.map pU)) (.ol l') ∧ Pu b l' ∧ Sr n u
theorem sr_gu {u : List Un} (h : Sr 9 u) : Gu Bd u ∧ tot u ≤ 370440000 ∧ tot u % 343000 = 0 := by
  obtain ⟨h1, h2⟩ := h
  have key : ∀ {u : List Un}, (∀ p ∈ u, 0 < p.2 ∧ p.2 ≤ 41160000 ∧ p.2 % 343000 = 0) → tot u ≤ 41160000 * (u.length : Int) ∧ tot u % 343000 = 0 := fun {u} => by
    induction u with
    | nil => intro _; simp [tot]
    | cons p u ih =>
      intro h
      obtain ⟨k1, k2⟩ := ih fun p hp => h p (List.mem_cons_of_mem _ hp)
      obtain ⟨q1, q2, q3⟩ := h p List.mem_cons_self
      rw [tot_cons, List.length_cons]
      exact ⟨by omega, by omega⟩
  obtain ⟨k1, k2⟩ := key h1
  exact ⟨⟨fun p hp => (h1 p hp).1, by simp only [Bd]; omega⟩, by omega, k2⟩
/-- the unit made finer -/
def Uj (j : Int) (h : 0 < j ∧ j ≤ 100000) : Unt := ⟨8232000 * j, by omega, by omega⟩
theorem ratio_eq {W G : Int} (hG : G ≠ 0) : Rat.divInt ((uR W).num * (uR G).den) (((uR W).den : Int) * (uR G).num) = Rat.divInt W G := by
  rw [← Rat.divInt_mul_divInt, divInt_self, ← Rat.inv_def]
  unfold uR
  rw [Rat.inv_divInt, Rat.divInt_mul_divInt, Int.mul_comm M G, Rat.divInt_mul_right M0]
theorem ratio_sc {W s G' : Int} (h : 0 < G' ∧ G' ≤ 100000) : uR (343000 * s) * Rat.divInt W (343000 * G') = @uR (Uj G' h) (s * W) := by
  unfold uR
  rw [Rat.divInt_mul_divInt]
  have e1 : (343000 : Int) * s * W = s * W * 343000 := by rw [Int.mul_comm 343000 s, Int.mul_assoc, Int.mul_comm 343000 W, ← Int.mul_assoc]
  have e2 : (M : Int) * (343000 * G') = @M (Uj G' h) * 343000 := by
    show (8232000 : Int) * (343000 * G') = 8232000 * G' * 343000
    omega
  rw [e1, e2, Rat.divInt_mul_right (by omega)]
end
end Pl

namespace Pl
open PySem Mp
/-! Qj: rows as long, on. -/
section
variable {c : Cf} {g17 g19 g21 g22 g23 g24 g29 g33 : Nat}
def CutL [Unt] (f : List Sl → Cres) : Prop := ∀ (u : List Un) (a b : Int), Gu Bd u → u.length ≤ sizeLine → 0 ≤ a → a ≤ Bd → 0 ≤ b → b ≤ Bd → ∃ m, f [.fz (rowU u), .fz (tU a), .fz (tU b)] = .ok (.ol ((mergeU ((spF 0 u).filterMap (cutS a b))).map pU)) m
def e4Long (g17 g21 : Nat) : Ss := (.cons (.iff (.cm .eq (.v 2) (.v 6)) (.cons (.ret (.v 5))
  .nil) .nil)
  (.cons (.ret (.op .add (.v 5) (.lst (.cons (.tup (.cons (.ix (.lst (.cons (.k (.str "note")) (.cons (.k (.str "rest")) .nil))) (.call g17 (.cons (.v 0) (.cons (.k (.int 2)) .nil)))) (.cons (.call g21 (.cons (.v 2) (.cons (.v 6) .nil))) .nil))) .nil))))
  .nil))
def e3Long (g17 g21 g23 g33 : Nat) : Ss := (.cons (.iff (.call g23 (.cons (.v 2) (.cons (.v 6) .nil))) (.cons (.ret (.call g33 (.cons (.v 5) (.cons (.tup (.cons (.k (.int 0)) (.cons (.k (.int 1)) .nil))) (.cons (.v 2) .nil)))))
  .nil) .nil)
  (e4Long g17 g21))
def tLong (g19 g22 : Nat) : Ss := (.cons (.asg (.n 7) (.tup (.cons (.op .mul (.ix (.v 2) (.k (.int 0))) (.ix (.v 6) (.k (.int 1)))) (.cons (.op .mul (.ix (.v 2) (.k (.int 1))) (.ix (.v 6) (.k (.int 0)))) .nil))))
  (.cons (.ret (.lc [3, 4] (.t [(.n 3), (.n 4)]) (.e (.v 5)) .no (.tup (.cons (.v 3) (.cons (.call g22 (.cons (.v 4) (.cons (.call g19 (.cons (.ix (.v 7) (.k (.int 0))) (.cons (.ix (.v 7) (.k (.int 1))) .nil))) .nil))) .nil)))))
  .nil))
def e2Long (g17 g19 g21 g22 g23 g33 : Nat) : Ss := (.cons (.iff (.cm .eq (.call g17 (.cons (.v 0) (.cons (.k (.int 2)) .nil))) (.k (.int 0))) (tLong g19 g22) .nil)
  (e3Long g17 g21 g23 g33))
def e1Long (g17 g19 g21 g22 g23 g33 : Nat) : Ss := (.cons (.iff (.cm .eq (.v 6) (.tup (.cons (.k (.int 0)) (.cons (.k (.int 1)) .nil)))) (.cons (.ret (.lst (.cons (.tup (.cons (.k (.str "rest")) (.cons (.v 2) .nil))) .nil)))
  .nil) .nil)
  (e2Long g17 g19 g21 g22 g23 g33))
def sAsLong (g17 g19 g21 g22 g23 g24 g29 g33 : Nat) : Ss := (.cons (.asg (.n 2) (.call g24 (.cons (.lc [3, 4] (.t [(.n 3), (.n 4)]) (.e (.v 1)) .no (.v 4)) .nil)))
  (.cons (.asg (.n 5) (.call g29 (.cons (.v 0) (.cons (.k (.int 9)) .nil))))
  (.cons (.asg (.n 6) (.call g24 (.cons (.lc [3, 4] (.t [(.n 3), (.n 4)]) (.e (.v 5)) .no (.v 4)) .nil)))
  (e1Long g17 g19 g21 g22 g23 g33))))
/-- a row as long, in some unit -/
def Long (W : Int) (X : List D) : Prop := ∃ (U : Unt) (j : Int) (v : List Un), U.m = 8232000 * j ∧ 0 < j ∧ j ≤ 2000 ∧ X = v.map (@pU U) ∧ (∀ p ∈ v, 0 < p.2) ∧ tot v = W * j ∧ v.length ≤ 40
theorem Long.u0 {W : Int} {v : List Un} (h1 : ∀ p ∈ v, 0 < p.2) (h2 : tot v = W) (h3 : v.length ≤ 40) : Long W (v.map pU) := ⟨U0, 1, v, rfl, by omega, by omega, rfl, h1, by omega, h3⟩
theorem all_map (l24 : All (c.cf g24)) {u : List Un} (hg : Gu Bd u) : ∃ m, c.cf g24 [.fz (.lst (u.map fun p => tU p.2))] = .ok (.d (tU (tot u))) m := by
  have em : u.map (fun p => tU p.2) = (u.map (fun p : Un => p.2)).map tU := by rw [List.map_map]; rfl
  obtain ⟨m2, a2⟩ := l24 (u.map (fun p : Un => p.2)) (fun p hp => by
    obtain ⟨q, hq, rfl⟩ := List.mem_map.mp hp
    exact hg.1 q hq) hg.2
  rw [← em] at a2
  have et : (u.map (fun p : Un => p.2)).sum = tot u := by rfl
  rw [et] at a2
  exact ⟨m2, a2⟩
theorem ev_tLong (hpr : c.pr = true) (h19 : c.pm g19 = [.f, .f]) (h22 : c.pm g22 = [.f, .f]) (l19 : Low (c.cf g19)) (l22 : Tim (c.cf g22)) {l : List D} {R : D} {W G : Int} {some_ : List Un} {s7 : Sl} (hs : Sr 9 some_) (hW : 0 < W) (hW2 : W ≤ 823200000 * 1000) (hG : G = tot some_) (hG0 : 0 < G) :
    ∃ X G', evSs c (tLong g19 g22) [.ol l, .fz R, .fz (tU W), .no, .no, .fz (.lst (some_.map pU)), .fz (tU G), s7] = .rt (.ol X) (.ol l :: G') ∧ Long W X := by
  have hsz : 1000 ≤ sizeLine := by decide
  obtain ⟨hg, hT, h3⟩ := sr_gu hs
  rw [← hG] at hT h3
  obtain ⟨G', rfl⟩ : ∃ G', G = 343000 * G' := ⟨G / 343000, by omega⟩
  have hj : 0 < G' ∧ G' ≤ 100000 := by omega
  have big : ∀ {a : Int}, Sm a → a.natAbs.log2 < 60000000 := fun h => Nat.lt_trans h (by decide)
  have qW : Qs (uR W) := qs_u (by omega)
  have qG : Qs (uR (343000 * G')) := qs_u (by omega)
  have m1 := mulS (big qW.1) (big qG.2)
  have m2 := mulS (big qW.2) (big qG.1)
  have gn : (uR (343000 * G')).num ≠ 0 := fun z => by
    have : uR (343000 * G') = 0 := Rat.num_eq_zero.mp z
    rw [← uR_0] at this
    have := uR_inj this
    omega
  obtain ⟨m3, e3⟩ := l19 ((uR W).num * (uR (343000 * G')).den) (((uR W).den : Int) * (uR (343000 * G')).num) (Int.mul_ne_zero (den_ne _) gn) (Nat.lt_trans (log_mul qW.2 qG.1) (by decide))
  rw [ratio_eq (by omega)] at e3
  have qr : Qs (Rat.divInt W (343000 * G')) := qs_d (by omega) (by omega) (by omega)
  have ms : ∀ p ∈ some_, ∃ s', p.2 = 343000 * s' := fun p hp => ⟨p.2 / 343000, by have := (hs.1 p hp).2.2; omega⟩
  obtain ⟨G1, a1, rfl⟩ := lc_map (f := lcT c [3, 4] (.t [.n 3, .n 4]) .no (.tup (.cons (.v 3) (.cons (.call g22 (.cons (.v 4) (.cons (.call g19 (.cons (.ix (.v 7) (.k (.int 0))) (.cons (.ix (.v 7) (.k (.int 1))) .nil))) .nil))) .nil)))) (enc := pU) (out := fun p => @pU (Uj G' hj) (p.1, p.2 / 343000 * W)) (l := some_) (St := fun G1 => G1 = [.ol l, .fz R, .fz (tU W), .no, .no, .fz (.lst (some_.map pU)), .fz (tU (343000 * G')), .fz (.tup [.int ((uR W).num * (uR (343000 * G')).den), .int (((uR W).den : Int) * (uR (343000 * G')).num)])]) (fun p G1 hp hG1 => by
    subst hG1
    obtain ⟨s', hs'⟩ := ms p hp
    have b1 := hg.1 p hp
    have b2 := le_tot hg.1 hp
    obtain ⟨m4, e4⟩ := l22 (uR p.2) (Rat.divInt W (343000 * G')) (qs_u (by omega)) qr
    have ed : p.2 / 343000 = s' := by omega
    rw [hs'] at e4
    simp only [ratio_sc hj] at e4
    refine ⟨_, ?_, rfl⟩
    rw [ed]
    have ep : pU p = .tup [kD p.1, tD (uR (343000 * s'))] := by unfold pU tU; rw [hs']
    rw [ep]
    simp [lcT, h19, h22, e3, e4, wipeG, pU, tU]) (acc := []) (G := [.ol l, .fz R, .fz (tU W), .no, .no, .fz (.lst (some_.map pU)), .fz (tU (343000 * G')), .fz (.tup [.int ((uR W).num * (uR (343000 * G')).den), .int (((uR W).den : Int) * (uR (343000 * G')).num)])]) (by have := hs.2; simp; omega) rfl
  refine ⟨some_.map fun p => @pU (Uj G' hj) (p.1, p.2 / 343000 * W), [.fz R, .fz (tU W), .no, .no, .fz (.lst (some_.map pU)), .fz (tU (343000 * G')), .fz (.tup [.int ((uR W).num * (uR (343000 * G')).den), .int (((uR W).den : Int) * (uR (343000 * G')).num)])], ?_, ?_⟩
  · unfold tLong
    have tW : tU W = .tup [.int (uR W).num, .int (uR W).den] := rfl
    have tG : tU (343000 * G') = .tup [.int (uR (343000 * G')).num, .int (uR (343000 * G')).den] := rfl
    rw [tW, tG] at a1 ⊢
    simp [hpr, m1, m2, plainA, wipeG]
    rw [a1]
    simp [backG]
  · refine ⟨Uj G' hj, G', some_.map fun p => (p.1, p.2 / 343000 * W), rfl, hj.1, by omega, by rw [List.map_map]; rfl, fun p hp => ?_, ?_, by have := hs.2; simp; omega⟩
    · obtain ⟨q, hq, rfl⟩ := List.mem_map.mp hp
      obtain ⟨s', hs'⟩ := ms q hq
      have := hg.1 q hq
      exact Int.mul_pos (by omega) hW
    · have key : ∀ {v : List Un}, (∀ p ∈ v, ∃ s', p.2 = 343000 * s') → tot (v.map fun p => (p.1, p.2 / 343000 * W)) * 343000 = W * tot v := fun {v} => by
        induction v with
        | nil => intro _; simp [tot]
        | cons p v ih =>
          intro h
          obtain ⟨s', hs'⟩ := h p List.mem_cons_self
          have i := ih fun p hp => h p (List.mem_cons_of_mem _ hp)
          rw [List.map_cons, tot_cons, tot_cons, Int.add_mul, i, Int.mul_add]
          congr 1
          show p.2 / 343000 * W * 343000 = W * p.2
          have ed : p.2 / 343000 = s' := by omega
          rw [ed, hs', Int.mul_comm W (343000 * s'), Int.mul_assoc, Int.mul_assoc, Int.mul_comm W 343000, ← Int.mul_assoc, ← Int.mul_assoc, Int.mul_comm s' 343000]
      have k := key ms
      rw [← hG] at k
      have : W * (343000 * G') = W * G' * 343000 := by rw [Int.mul_comm 343000 G', ← Int.mul_assoc]
      omega
theorem note_at {r : Int} (h1 : 0 ≤ r) (h2 : r < 2) : ∃ b : Bool, L2.atI [D.str "note", .str "rest"] r = some (kD b) := by
  have : r = 0 ∨ r = 1 := by omega
  rcases this with rfl | rfl
  · exact ⟨false, by rfl⟩
  · exact ⟨true, by rfl⟩
end
end Pl

namespace Pl
open PySem Mp
/-! Qk: rows as long, at the end. -/
section
variable {c : Cf} {g17 g19 g21 g22 g23 g24 g29 g33 : Nat}
def lenX (r : Mp.R) (X : List D) : Prop := r = .ol X ∨ r = .d (.lst X)
theorem tot0 {u : List Un} (h : ∀ p ∈ u, 0 < p.2) (e : tot u = 0) : u = [] := by
  cases u with
  | nil => rfl
  | cons p u =>
    have h1 := h p List.mem_cons_self
    have h2 := le_tot h (p := p) List.mem_cons_self
    omega
theorem ev_e4 (hpr : c.pr = true) (h17 : c.pm g17 = [.m, .f]) (h21 : c.pm g21 = [.f, .f]) (l17 : Dra (c.cf g17)) (l21 : LesU (c.cf g21)) {b : Nat} {l : List D} {R : D} {W G : Int} {sm : List Un} {s7 : Sl} (hl : Pu (b + 2) l) (hs : Sr 9 sm) (hW : 0 < W) (hW2 : W ≤ 823200000 * 1000) (hG : G = tot sm) (hG0 : G ≤ W) :
    ∃ r X l', retF true (evSs c (e4Long g17 g21) [.ol l, .fz R, .fz (tU W), .no, .no, .fz (.lst (sm.map pU)), .fz (tU G), s7]) = .ok r (.ol l') ∧ lenX r X ∧ Long W X ∧ Pu b l' := by
  have hsz : 1000 ≤ sizeLine := by decide
  obtain ⟨hg, hT, h3⟩ := sr_gu hs
  have t0 := tot_nonneg hg.1
  have q := eqD_t W G
  by_cases he : W = G
  · rw [decide_eq_true he] at q
    refine ⟨.d (.lst (sm.map pU)), sm.map pU, l, ?_, .inr rfl, Long.u0 hg.1 (by omega) (by have := hs.2; omega), hl.mono (by omega)⟩
    unfold e4Long
    simp [q, retF, fin0]
  · rw [decide_eq_false he] at q
    obtain ⟨r1, l1, e1, r10, r11, hl1⟩ := l17 b 2 l (hl.mono (by omega)) (by decide) (by decide)
    obtain ⟨kb, ek⟩ := note_at r10 r11
    obtain ⟨m2, e2⟩ := l21 W G (by simp only [Bd]; omega) (by simp only [Bd]; omega) (by simp only [Bd]; omega) (by simp only [Bd]; omega)
    have hln := hs.2
    have hcat : sm.length + 1 ≤ sizeLine := by omega
    refine ⟨.ol ((sm ++ [(kb, W - G)]).map pU), (sm ++ [(kb, W - G)]).map pU, l1, ?_, .inl rfl, Long.u0 (fun p hp => ?_) (by rw [tot_app]; simp [tot] at hG ⊢; omega) (by simp; omega), hl1⟩
    · unfold e4Long
      simp [q, h17, e1, ek, h21, e2, hcat, retF, fin0, pU]
    · rcases List.mem_append.mp hp with hp | hp
      · exact hg.1 p hp
      · rw [List.mem_singleton.mp hp]
        show 0 < W - G
        omega
theorem ev_e3 (hpr : c.pr = true) (h17 : c.pm g17 = [.m, .f]) (h21 : c.pm g21 = [.f, .f]) (h23 : c.pm g23 = [.f, .f]) (h33 : c.pm g33 = [.f, .f, .f]) (l17 : Dra (c.cf g17)) (l21 : LesU (c.cf g21)) (l23 : UndU (c.cf g23)) (l33 : CutL (c.cf g33)) {b : Nat} {l : List D} {R : D} {W G : Int} {sm : List Un} {s7 : Sl} (hl : Pu (b + 2) l) (hs : Sr 9 sm) (hW : 0 < W) (hW2 : W ≤ 823200000 * 1000) (hG : G = tot sm) :
    ∃ r X l', retF true (evSs c (e3Long g17 g21 g23 g33) [.ol l, .fz R, .fz (tU W), .no, .no, .fz (.lst (sm.map pU)), .fz (tU G), s7]) = .ok r (.ol l') ∧ lenX r X ∧ Long W X ∧ Pu b l' := by
  have hsz : 1000 ≤ sizeLine := by decide
  obtain ⟨hg, hT, h3⟩ := sr_gu hs
  have t0 := tot_nonneg hg.1
  obtain ⟨m1, e1⟩ := l23 W G (by simp only [Bd]; omega) (by simp only [Bd]; omega) (by simp only [Bd]; omega) (by simp only [Bd]; omega)
  by_cases he : W < G
  · obtain ⟨m2, e2⟩ := l33 sm 0 W hg (by have := hs.2; omega) (by omega) (by decide) (by omega) (by simp only [Bd]; omega)
    obtain ⟨w1, w2, w3⟩ := cut_gu (t := 0) (a := 0) (b := W) hg.1
    obtain ⟨q1, q2, q3⟩ := merge_gu (u := (spF 0 sm).filterMap (cutS 0 W)) (B := tot sm) ⟨w1, w2⟩
    have ct := cut_tot (b := W) (t := 0) hg.1 (by omega) (by omega) (by omega)
    rw [← nought] at e2
    unfold rowU at e2
    refine ⟨.ol ((mergeU ((spF 0 sm).filterMap (cutS 0 W))).map pU), _, l, ?_, .inl rfl, Long.u0 q1.1 (by rw [q3, ct]; omega) (by have := hs.2; omega), hl.mono (by omega)⟩
    unfold e3Long
    simp [h23, e1, he, h33, e2, retF, fin0]
  · obtain ⟨r, X, l', e, k1, k2, k3⟩ := ev_e4 hpr h17 h21 l17 l21 (R := R) (s7 := s7) hl hs hW hW2 hG (by omega)
    refine ⟨r, X, l', ?_, k1, k2, k3⟩
    rw [← e]
    unfold e3Long
    simp [h23, e1, he]
theorem ev_e1 (hpr : c.pr = true) (h17 : c.pm g17 = [.m, .f]) (h19 : c.pm g19 = [.f, .f]) (h21 : c.pm g21 = [.f, .f]) (h22 : c.pm g22 = [.f, .f]) (h23 : c.pm g23 = [.f, .f]) (h33 : c.pm g33 = [.f, .f, .f]) (l17 : Dra (c.cf g17)) (l19 : Low (c.cf g19)) (l21 : LesU (c.cf g21)) (l22 : Tim (c.cf g22)) (l23 : UndU (c.cf g23)) (l33 : CutL (c.cf g33)) {b : Nat} {l : List D} {R : D} {W G : Int} {sm : List Un} (hl : Pu (b + 3) l) (hs : Sr 9 sm) (hW : 0 < W) (hW2 : W ≤ 823200000 * 1000) (hG : G = tot sm) :
    ∃ r X l', retF true (evSs c (e1Long g17 g19 g21 g22 g23 g33) [.ol l, .fz R, .fz (tU W), .no, .no, .fz (.lst (sm.map pU)), .fz (tU G), .no]) = .ok r (.ol l') ∧ lenX r X ∧ Long W X ∧ Pu b l' := by
  have hsz : 1000 ≤ sizeLine := by decide
  obtain ⟨hg, hT, h3⟩ := sr_gu hs
  have t0 := tot_nonneg hg.1
  have q := eqD_t G 0
  rw [← nought] at q
  by_cases he : G = 0
  · rw [decide_eq_true he] at q
    refine ⟨.ol [pU (true, W)], [pU (true, W)], l, ?_, .inl rfl, Long.u0 (v := [(true, W)]) (fun p hp => by rw [List.mem_singleton.mp hp]; exact hW) (by simp [tot]) (by simp), hl.mono (by omega)⟩
    have kt : D.str (Str.ofString "rest") = kD true := by rfl
    unfold e1Long
    simp [q, retF, fin0, pU, kt]
  · rw [decide_eq_false he] at q
    obtain ⟨r1, l1, e1, r10, r11, hl1⟩ := l17 (b + 2) 2 l hl (by decide) (by decide)
    have two : evSs c (e1Long g17 g19 g21 g22 g23 g33) [.ol l, .fz R, .fz (tU W), .no, .no, .fz (.lst (sm.map pU)), .fz (tU G), .no] = evSs c (e2Long g17 g19 g21 g22 g23 g33) [.ol l, .fz R, .fz (tU W), .no, .no, .fz (.lst (sm.map pU)), .fz (tU G), .no] := by
      unfold e1Long
      simp [q]
    rw [two]
    by_cases h0 : r1 = 0
    · obtain ⟨X, G1, e, k⟩ := ev_tLong hpr h19 h22 l19 l22 (l := l1) (R := R) (s7 := .no) hs hW hW2 hG (by omega)
      refine ⟨.ol X, X, l1, ?_, .inl rfl, k, hl1.mono (by omega)⟩
      unfold e2Long
      rw [h0] at e1
      simp [h17, e1]
      rw [e]
      simp [retF, fin0]
    · obtain ⟨r, X, l', e, k1, k2, k3⟩ := ev_e3 hpr h17 h21 h23 h33 l17 l21 l23 l33 (R := R) (s7 := .no) hl1 hs hW hW2 hG
      refine ⟨r, X, l', ?_, k1, k2, k3⟩
      rw [← e]
      unfold e2Long
      simp [h17, e1, h0]
theorem ev_asLong (hpr : c.pr = true) (h17 : c.pm g17 = [.m, .f]) (h19 : c.pm g19 = [.f, .f]) (h21 : c.pm g21 = [.f, .f]) (h22 : c.pm g22 = [.f, .f]) (h23 : c.pm g23 = [.f, .f]) (h24 : c.pm g24 = [.f]) (h29 : c.pm g29 = [.m, .f]) (h33 : c.pm g33 = [.f, .f, .f]) (l17 : Dra (c.cf g17)) (l19 : Low (c.cf g19)) (l21 : LesU (c.cf g21)) (l22 : Tim (c.cf g22)) (l23 : UndU (c.cf g23)) (l24 : All (c.cf g24)) (l29 : ShortF (c.cf g29)) (l33 : CutL (c.cf g33))
    {b : Nat} {l : List D} {u : List Un} (hl : Pu (b + 31) l) (hg : Gu Bd u) (hT : tot u ≤ 823200000 * 1000) (hz : u.length ≤ 1000) (hne : u ≠ []) :
    ∃ r X l', retF true (evSs c (sAsLong g17 g19 g21 g22 g23 g24 g29 g33) [.ol l, .fz (rowU u), .no, .no, .no, .no, .no, .no]) = .ok r (.ol l') ∧ lenX r X ∧ Long (tot u) X ∧ Pu b l' := by
  have hsz : 1000 ≤ sizeLine := by decide
  have hW : 0 < tot u := by
    have := tot_nonneg hg.1
    by_cases z : tot u = 0
    · exact absurd (tot0 hg.1 z) hne
    · omega
  obtain ⟨m1, e1⟩ := all_map (c := c) (g24 := g24) l24 hg
  obtain ⟨sm, l2, e2, hl2, hs⟩ := l29 9 (b + 3) l (by omega) hl
  obtain ⟨hg2, hT2, h3⟩ := sr_gu hs
  obtain ⟨m3, e3⟩ := all_map (c := c) (g24 := g24) l24 hg2
  obtain ⟨G1, a1, rfl⟩ := lc_map (f := lcT c [3, 4] (.t [.n 3, .n 4]) .no (.v 4)) (enc := pU) (out := fun p => tU p.2) (l := u) (St := fun G => G = [.ol l, .fz (rowU u), .no, .no, .no, .no, .no, .no]) (fun p G hp hG => by
    subst hG
    exact ⟨_, by simp [lcT, pU, wipeG], rfl⟩) (acc := []) (G := [.ol l, .fz (rowU u), .no, .no, .no, .no, .no, .no]) (by simp; omega) rfl
  obtain ⟨G1, a2, rfl⟩ := lc_map (f := lcT c [3, 4] (.t [.n 3, .n 4]) .no (.v 4)) (enc := pU) (out := fun p => tU p.2) (l := sm) (St := fun G => G = [.ol l2, .fz (rowU u), .fz (tU (tot u)), .no, .no, .fz (.lst (sm.map pU)), .no, .no]) (fun p G hp hG => by
    subst hG
    exact ⟨_, by simp [lcT, pU, wipeG], rfl⟩) (acc := []) (G := [.ol l2, .fz (rowU u), .fz (tU (tot u)), .no, .no, .fz (.lst (sm.map pU)), .no, .no]) (by have := hs.2; simp; omega) rfl
  obtain ⟨r, X, l', e, k1, k2, k3⟩ := ev_e1 hpr h17 h19 h21 h22 h23 h33 l17 l19 l21 l22 l23 l33 (R := rowU u) hl2 hs hW hT rfl
  refine ⟨r, X, l', ?_, k1, k2, k3⟩
  rw [← e]
  have n9 : D.int 9 = .int ((9 : Nat) : Int) := rfl
  unfold sAsLong
  unfold rowU at *
  simp [hpr, plainA, wipeG]
  rw [a1]
  simp [backG, hpr, h24, e1, h29]
  rw [n9, e2]
  simp [hpr, plainA, wipeG]
  rw [a2]
  simp [backG, hpr, h24, e3]
def AsLong (f : List Sl → Cres) : Prop := ∀ (u : List Un) (b : Nat) (l : List D), Gu Bd u → tot u ≤ 823200000 * 1000 → u.length ≤ 1000 → u ≠ [] → Pu (b + 31) l → ∃ r X l', f [.ol l, .fz (rowU u)] = .ok r (.ol l') ∧ lenX r X ∧ Long (tot u) X ∧ Pu b l'
end
end Pl

namespace Pl
open PySem Mp
/-! Ql: right. -/
theorem rn_gu {N : List Sp} {B : Int} : ∀ {l : List Int} {t : Int} {acc : List Un}, Inv N t acc → Ok t acc → Srt (t :: l) → Bnd N t l → t ≤ B → (∀ x ∈ l, x ≤ B) → Gu B (rn N t l acc)
  | [], t, acc, i, ok, hs, hb, ht, hl => ⟨ok.1, by rw [show tot (rn N t [] acc) = t from ok.2]; exact ht⟩
  | e :: l, t, acc, i, ok, hs, hb, ht, hl => by
    have h1 := List.pairwise_cons.mp hs
    have te := h1.1 e List.mem_cons_self
    exact rn_gu (l := l) (t := e) (acc := stp N acc t e) (fun h => (stp_merge i).2 (on_next hb hs h)) (stp_ok i ok te) h1.2 (hb.tail te) (hl e List.mem_cons_self) fun x hx => hl x (List.mem_cons_of_mem _ hx)
theorem bothS_gu {u v : List Un} {B : Int} (hu : Gu B u) (hv : Gu B v) (hne : u ≠ []) : Gu B (bothS (spF 0 u ++ spF 0 v)) ∧ (bothS (spF 0 u ++ spF 0 v)).length ≤ 2 * (u.length + v.length) := by
  have hmem := mem_sp hu.1 hv.1 (T := B) hu.2 hv.2
  generalize hN : spF 0 u ++ spF 0 v = N at hmem
  have hNl : N.length = u.length + v.length := by rw [← hN]; simp [spF_len]
  have hbl : (bds N).length = N.length + N.length := by unfold bds; simp
  have hpl := pts_len (l := bds N)
  have z : (0 : Int) ∈ bds N := by rw [← hN, bds_app]; exact .inl (bds_ends hne).1
  rcases pts_head hmem with ⟨q1, q2⟩ | ⟨t, l, q1, q2, q3, q4, q5, q6, q7⟩
  · rw [← pts_mem, q1] at z
    cases z
  · have t00 : t = 0 := by
      rw [← pts_mem, q1] at z
      rcases List.mem_cons.mp z with z | z
      · exact z.symm
      · have := (List.pairwise_cons.mp q2).1 0 z
        omega
    subst t00
    have hl : l.length + 1 = (pts (bds N)).length := by rw [q1]; rfl
    have k := rn_gu (B := B) q7 ⟨(fun p hp => nomatch hp), by simp [tot]⟩ q2 q6 q4 q5
    have kl := rn_len (N := N) (l := l) (t := 0) (acc := [])
    obtain ⟨w1, w2, w3⟩ := merge_gu k
    unfold bothS both
    rw [q1]
    simp only
    refine ⟨w1, ?_⟩
    simp at kl
    omega
theorem pln_u' [Unt] {r : List Un} : Pln 3 (.lst (r.map pU)) := pln_map (n := 2) fun p => pln_u
theorem qs_row [Unt] {u : List Un} (h : Gu Bd u) : ∀ p ∈ u.map uP, Qs p.2 := fun p hp => by
  obtain ⟨q, hq, rfl⟩ := List.mem_map.mp hp
  have h1 := h.1 q hq
  have h2 := le_tot h.1 hq
  have h3 := h.2
  exact qs_b (by have : (0 : Int) ≤ Bd := by decide
                 omega) (by omega)
section
variable {c : Cf} {g13 g27 g30 g36 : Nat}
def bRight (g27 : Nat) : Ss := (.cons (.iff (.or (.not (.call g27 (.cons (.v 6) .nil))) (.or (.cm .ne (.v 6) (.v 5)) (.cm .ne (.v 3) (.v 4)))) (.cons (.ret (.k (.bl false)))
  .nil) .nil)
  (.cons (.ex (.lm .reverse (.v 6) .nil))
  (.cons (.ex (.lm .append (.v 6) (.cons (.k .non) .nil)))
  .nil)))
def sRight (g13 g27 g30 g36 : Nat) : Ss := (.cons (.asg (.n 3) (.lst (.cons (.call g30 (.cons (.v 0) (.cons (.v 1) .nil))) (.cons (.call g30 (.cons (.v 0) (.cons (.v 2) .nil))) .nil))))
  (.cons (.asg (.n 4) (.lst (.cons (.bi .list (.cons (.ix (.v 3) (.k (.int 0))) .nil)) (.cons (.bi .list (.cons (.ix (.v 3) (.k (.int 1))) .nil)) .nil))))
  (.cons (.asg (.n 5) (.call g36 (.cons (.v 1) (.cons (.v 2) .nil))))
  (.cons (.forL 6 (.cons (.call g13 (.cons (.ix (.v 3) (.k (.int 0))) (.cons (.ix (.v 3) (.k (.int 1))) .nil))) (.cons (.callK g13 (.cons (.ix (.v 3) (.k (.int 0))) (.cons (.ix (.v 3) (.k (.int 1))) .nil)) [.inl 1, .inl 0]) .nil)) (bRight g27))
  (.cons (.ret (.cm .eq (.call g13 (.cons (.ix (.v 3) (.k (.int 0))) (.cons (.ix (.v 3) (.k (.int 1))) .nil))) (.v 5)))
  .nil)))))
theorem ev_right [Unt] (hpr : c.pr = true) (h13 : c.pm g13 = [.f, .f]) (h27 : c.pm g27 = [.b]) (h30 : c.pm g30 = [.m, .f]) (h36 : c.pm g36 = [.f, .f]) (l13 : TogF (c.cf g13)) (l27 : PiecesG (c.cf g27)) (l30 : OthF (c.cf g30)) (l36 : BothL (c.cf g36))
    {b : Nat} {l : List D} {u v : List Un} (hl : Pu (b + (u.length + v.length)) l) (hu : Gu Bd u) (hv : Gu Bd v) (zu : u.length ≤ 100) (zv : v.length ≤ 100) (hT : tot u = tot v) (hne : u ≠ []) (hne2 : v ≠ []) :
    ∃ l' G', evSs c (sRight g13 g27 g30 g36) [.ol l, .fz (rowU u), .fz (rowU v), .no, .no, .no, .no] = .rt (.d (.bl true)) (.ol l' :: G') ∧ Pu b l' := by
  have hsz : 1000 ≤ sizeLine := by decide
  obtain ⟨d1, l1, e1, t1, hl1⟩ := l30 (u.map uP) (b + v.length) l (qs_row hu) (by simp; omega) (hl.mono (by simp; omega))
  obtain ⟨d2, l2, e2, t2, hl2⟩ := l30 (v.map uP) b l1 (qs_row hv) (by simp; omega) (hl1.mono (by simp))
  rw [map_uP] at e1 e2
  obtain ⟨m3, e3⟩ := l36 u v hu hv (by omega) (by omega) hne
  obtain ⟨m4, e4⟩ := l13 u v d1 d2 t1 t2 hu hv (by omega) (by omega) hT
  obtain ⟨m5, e5⟩ := l13 v u d2 d1 t2 t1 hv hu (by omega) (by omega) hT.symm
  rw [← both_kept hu.1 hv.1 hT hne] at e4
  rw [← both_kept hv.1 hu.1 hT.symm hne2, both_swap hv.1 hu.1 hT.symm hne] at e5
  obtain ⟨kg, kl⟩ := bothS_gu hu hv hne
  generalize bothS (spF 0 u ++ spF 0 v) = due at e3 e4 e5 kg kl
  obtain ⟨m6, e6⟩ := l27 (due.map uP) (qs_row kg)
  rw [map_uP] at e6
  have q1 : eqD (.lst (due.map pU)) (.lst (due.map pU)) = some true := eqD_same pln_u'
  have q2 : eqD (.lst [.lst d1, .lst d2]) (.lst [.lst d1, .lst d2]) = some true := eqD_same (n := 4) (.lst fun d hd => by
    simp at hd
    rcases hd with rfl | rfl
    · exact pln_told t1
    · exact pln_told t2)
  have hz2 : due.length < sizeLine := by omega
  have turn : ∀ s6 : Sl, evSs c (bRight g27) [.ol l2, .fz (rowU u), .fz (rowU v), .ol [.lst d1, .lst d2], .ol [.lst d1, .lst d2], .ol (due.map pU), .ol (due.map pU)] = .nx [.ol l2, .fz (rowU u), .fz (rowU v), .ol [.lst d1, .lst d2], .ol [.lst d1, .lst d2], .ol (due.map pU), .ol ((due.map pU).reverse ++ [.non])] := fun s6 => by
    unfold bRight
    simp [h27, e6, q1, q2, hz2]
  refine ⟨l2, [.fz (rowU u), .fz (rowU v), .ol [.lst d1, .lst d2], .ol [.lst d1, .lst d2], .ol (due.map pU), .ol ((due.map pU).reverse ++ [.non])], ?_, hl2⟩
  have a1 : ∀ s6 : Sl, asgL c.pr 6 (.ol (due.map pU)) [.ol l2, .fz (rowU u), .fz (rowU v), .ol [.lst d1, .lst d2], .ol [.lst d1, .lst d2], .ol (due.map pU), s6] = some [.ol l2, .fz (rowU u), .fz (rowU v), .ol [.lst d1, .lst d2], .ol [.lst d1, .lst d2], .ol (due.map pU), .ol (due.map pU)] := fun s6 => by
    simp
  unfold sRight
  unfold rowU at *
  simp [hpr, h30, e1, e2, h36, e3, h13, e4, e5]
  rw [hpr] at a1
  rw [forL_cons (a1 _) (turn .no), forL_cons (a1 _) (turn .no)]
  simp [h13, e4, q1]
def RightF (f : List Sl → Cres) : Prop := ∀ (U : Unt) (u v : List Un) (b : Nat) (l : List D), Gu Bd u → Gu Bd v → u.length ≤ 100 → v.length ≤ 100 → tot u = tot v → u ≠ [] → v ≠ [] → Pu (b + (u.length + v.length)) l → ∃ l', f [.ol l, .fz (@rowU U u), .fz (@rowU U v)] = .ok (.d (.bl true)) (.ol l') ∧ Pu b l'
end
end Pl

namespace Pl
open PySem Mp
/-! Qm: the law. -/
theorem told_self {p : Pc} (h : Qs p.2) : Told p (pD p) := ⟨p.2.num, p.2.den, rfl, den_ne _, Nat.lt_trans h.2 (by decide), divInt_self _⟩
theorem told_row : ∀ {r : Row}, (∀ p ∈ r, Qs p.2) → Two Told r (r.map pD)
  | [], _ => .nil
  | p :: r, h => .cons (told_self (h p List.mem_cons_self)) (told_row fun p hp => h p (List.mem_cons_of_mem _ hp))
section
variable {c : Cf} {g13 g16 g24 g28 g31 g37 g38 : Nat}
def bFar (g38 : Nat) : Ss := (.cons (.iff (.not (.call g38 (.cons (.v 2) (.cons (.v 3) (.cons (.v 7) .nil))))) (.cons (.ret (.k (.bl false)))
  .nil) .nil)
  .nil)
def bCell15 (g13 g16 g24 g28 g31 g37 g38 : Nat) : Ss := (.cons (.asg (.n 2) (.call g16 (.cons (.v 0) (.cons (.v 1) .nil))))
  (.cons (.asg (.n 3) (.call g28 (.cons (.v 2) (.cons (.ix (.lst (.cons (.k (.int 9)) (.cons (.k (.int 40)) .nil))) (.bi .int (.cons (.cm .eq (.v 1) (.k (.int 4))) .nil))) .nil))))
  (.cons (.asg (.n 4) (.call g24 (.cons (.lc [8, 9] (.t [(.n 8), (.n 9)]) (.e (.v 3)) .no (.v 9)) .nil)))
  (.cons (.iff (.cm .eq (.v 3) (.lst .nil)) (.cons (.iff (.cm .ne (.call g13 (.cons (.lst .nil) (.cons (.lst .nil) .nil))) (.lst .nil)) (.cons (.ret (.k (.bl false)))
  .nil) .nil)
  .nil) (.cons (.asg (.n 5) (.lst (.cons (.tup (.cons (.k (.str "rest")) (.cons (.v 4) .nil))) .nil)))
  (.cons (.asg (.n 6) (.lst (.cons (.call g37 (.cons (.v 2) (.cons (.v 3) .nil))) (.cons (.call g37 (.cons (.v 2) (.cons (.v 3) .nil))) (.cons (.v 3) (.cons (.rev (.v 3)) .nil))))))
  (.cons (.for (.n 7) (.e (.op .add (.v 6) (.lst (.cons (.lst (.cons (.tup (.cons (.k (.str "note")) (.cons (.v 4) .nil))) .nil)) .nil)))) (bFar g38))
  (.cons (.iff (.or (.cm .ne (.call g13 (.cons (.v 3) (.cons (.v 5) .nil))) (.call g31 (.cons (.v 3) .nil))) (.not (.call g38 (.cons (.v 2) (.cons (.v 3) (.cons (.v 5) .nil)))))) (.cons (.ret (.k (.bl false)))
  .nil) .nil)
  .nil)))))
  .nil))))
def sLaw15 (g13 g16 g24 g28 g31 g37 g38 : Nat) : Ss := (.cons (.for (.n 1) (.rg1 (.cons (.k (.int 5)) .nil)) (bCell15 g13 g16 g24 g28 g31 g37 g38))
  (.cons (.ret (.k (.bl true)))
  .nil))
structure Law15 (c : Cf) (ns : List Int) (g13 g16 g24 g28 g31 g37 g38 : Nat) : Prop where
  pr : c.pr = false
  h13 : c.pm g13 = [.f, .f]
  h16 : c.pm g16 = [.s, .f]
  h24 : c.pm g24 = [.f]
  h28 : c.pm g28 = [.m, .f]
  h31 : c.pm g31 = [.f]
  h37 : c.pm g37 = [.m, .f]
  h38 : c.pm g38 = [.m, .f, .f]
  l13 : TogF (c.cf g13)
  l16 : PurseF (c.cf g16) ns
  l24 : All (c.cf g24)
  l28 : RowF (c.cf g28)
  l31 : KeptOf (c.cf g31)
  l37 : AsLong (c.cf g37)
  l38 : RightF (c.cf g38)
theorem long_ne {W : Int} {v : List Un} {j : Int} (hW : 0 < W) (hj : 0 < j) (e : tot v = W * j) : v ≠ [] := fun z => by
  subst z
  have := Int.mul_pos hW hj
  simp [tot] at e
  omega
theorem right_long (l38 : RightF (c.cf g38)) {u : List Un} {X : List D} {b : Nat} {l : List D} (hg : Gu Bd u) (hT : tot u ≤ 823200000 * 1000) (hz : u.length ≤ 40) (hne : u ≠ []) (hX : Long (tot u) X) (hl : Pu (b + 80) l) :
    ∃ l', c.cf g38 [.ol l, .fz (rowU u), .fz (.lst X)] = .ok (.d (.bl true)) (.ol l') ∧ Pu b l' := by
  obtain ⟨U, j, v, eU, j0, j1, rfl, hv, ht, hvl⟩ := hX
  have hW : 0 < tot u := by
    have := tot_nonneg hg.1
    by_cases z : tot u = 0
    · exact absurd (tot0 hg.1 z) hne
    · omega
  have eU' : U.m = U0.m * j := eU
  have bT : tot u * j ≤ 823200000 * 1000 * 2000 := Int.mul_le_mul hT j1 (by omega) (by omega)
  have gs : Gu Bd (scU j u) := ⟨sc_pos j0 hg.1, by rw [tot_sc]; simp only [Bd]; omega⟩
  have gv : Gu Bd v := ⟨hv, by rw [ht]; simp only [Bd]; omega⟩
  have hne2 : scU j u ≠ [] := fun z => hne (by
    have := congrArg List.length z
    rw [sc_len] at this
    exact List.length_eq_zero_iff.mp this)
  obtain ⟨l', e, h⟩ := l38 U (scU j u) v b l gs gv (by rw [sc_len]; omega) (by omega) (by rw [tot_sc, ht]) hne2 (long_ne hW j0 ht) (hl.mono (by rw [sc_len]; omega))
  unfold rowU at e ⊢
  rw [map_sc eU'] at e
  exact ⟨l', e, h⟩
theorem loop_far (hpr : c.pr = false) (h38 : c.pm g38 = [.m, .f, .f]) (l38 : RightF (c.cf g38)) {u : List Un} (hg : Gu Bd u) (hT : tot u ≤ 823200000 * 1000) (hz : u.length ≤ 40) (hne : u ≠ []) {b : Nat} {s0 s1 s4 s5 s6 s8 s9 : Sl} :
    ∀ {Xs : List (List D)} {l : List D} {s7 : Sl}, (∀ X ∈ Xs, Long (tot u) X) → Pu (b + 80 * Xs.length) l → ∃ l' t7, forF (forT c (.n 7) (bFar g38)) (Xs.map D.lst) [s0, s1, .ol l, .fz (rowU u), s4, s5, s6, s7, s8, s9] = .nx [s0, s1, .ol l', .fz (rowU u), s4, s5, s6, t7, s8, s9] ∧ Pu b l'
  | [], l, s7, _, hl => ⟨l, s7, rfl, hl⟩
  | X :: Xs, l, s7, hX, hl => by
    rw [List.length_cons] at hl
    obtain ⟨l1, e1, hl1⟩ := right_long l38 (b := b + 80 * Xs.length) hg hT hz hne (hX X List.mem_cons_self) (hl.mono (by omega))
    have turn : forT c (.n 7) (bFar g38) (.lst X) [s0, s1, .ol l, .fz (rowU u), s4, s5, s6, s7, s8, s9] = .nx [s0, s1, .ol l1, .fz (rowU u), s4, s5, s6, .fz (.lst X), s8, s9] := by
      simp [forT, bFar, hpr, h38, e1]
    obtain ⟨l2, t7, e2, hl2⟩ := loop_far hpr h38 l38 hg hT hz hne (Xs := Xs) (l := l1) (s7 := .fz (.lst X)) (fun X hX' => hX X (List.mem_cons_of_mem _ hX')) hl1
    exact ⟨l2, t7, by rw [List.map_cons, for_cons turn, e2], hl2⟩
def Shp15 (ns : List Int) (G : List Sl) : Prop := ∃ s1 s2 s3 s4 s5 s6 s7, G = [.sc (ns.map .int), s1, s2, s3, s4, s5, s6, s7, .no, .no]
theorem turn_15 {ns : List Int} (C : Law15 c ns g13 g16 g24 g28 g31 g37 g38) {k : Nat} (hk : k < 5) {G : List Sl} (hG : Shp15 ns G) : ∃ G', forT c (.n 1) (bCell15 g13 g16 g24 g28 g31 g37 g38) (.int k) G = .nx G' ∧ Shp15 ns G' := by
  obtain ⟨s1, s2, s3, s4, s5, s6, s7, rfl⟩ := hG
  have hsz : 1000 ≤ sizeLine := by decide
  have hpr := C.pr
  obtain ⟨l0, m0, e0, hl0⟩ := C.l16 k (by omega)
  obtain ⟨n, hn, en⟩ : ∃ n : Nat, n ≤ 40 ∧ L2.atI [D.int 9, .int 40] (if decide ((k : Int) = 4) = true then 1 else 0) = some (.int n) := by
    by_cases h : (k : Int) = 4
    · exact ⟨40, by omega, by simp [h]⟩
    · exact ⟨9, by omega, by simp [h]⟩
  obtain ⟨u, l1, e1, hl1, hd⟩ := C.l28 n 5000 l0 (by omega) (hl0.mono (by omega))
  obtain ⟨hg, hz, h7, hT⟩ := gu_of hd (show n ≤ 1000 by omega)
  have hlen : u.length ≤ 40 := Nat.le_trans hd.2 hn
  obtain ⟨m2, e2⟩ := all_map (c := c) (g24 := g24) C.l24 hg
  obtain ⟨G1, a1, rfl⟩ := lc_map (f := lcT c [8, 9] (.t [.n 8, .n 9]) .no (.v 9)) (enc := pU) (out := fun p => tU p.2) (l := u) (St := fun G => G = [.sc (ns.map .int), .fz (.int k), .ol l1, .fz (rowU u), s4, s5, s6, s7, .no, .no]) (fun p G hp hG => by
    subst hG
    exact ⟨_, by simp [lcT, pU, wipeG], rfl⟩) (acc := []) (G := [.sc (ns.map .int), .fz (.int k), .ol l1, .fz (rowU u), s4, s5, s6, s7, .no, .no]) (by simp; omega) rfl
  have first : forT c (.n 1) (bCell15 g13 g16 g24 g28 g31 g37 g38) (.int k) [.sc (ns.map .int), s1, s2, s3, s4, s5, s6, s7, .no, .no] = evSs c (.cons (.iff (.cm .eq (.v 3) (.lst .nil)) (.cons (.iff (.cm .ne (.call g13 (.cons (.lst .nil) (.cons (.lst .nil) .nil))) (.lst .nil)) (.cons (.ret (.k (.bl false)))
  .nil) .nil)
  .nil) (.cons (.asg (.n 5) (.lst (.cons (.tup (.cons (.k (.str "rest")) (.cons (.v 4) .nil))) .nil)))
  (.cons (.asg (.n 6) (.lst (.cons (.call g37 (.cons (.v 2) (.cons (.v 3) .nil))) (.cons (.call g37 (.cons (.v 2) (.cons (.v 3) .nil))) (.cons (.v 3) (.cons (.rev (.v 3)) .nil))))))
  (.cons (.for (.n 7) (.e (.op .add (.v 6) (.lst (.cons (.lst (.cons (.tup (.cons (.k (.str "note")) (.cons (.v 4) .nil))) .nil)) .nil)))) (bFar g38))
  (.cons (.iff (.or (.cm .ne (.call g13 (.cons (.v 3) (.cons (.v 5) .nil))) (.call g31 (.cons (.v 3) .nil))) (.not (.call g38 (.cons (.v 2) (.cons (.v 3) (.cons (.v 5) .nil)))))) (.cons (.ret (.k (.bl false)))
  .nil) .nil)
  .nil)))))
  .nil) [.sc (ns.map .int), .fz (.int k), .ol l1, .fz (rowU u), .fz (tU (tot u)), s5, s6, s7, .no, .no] := by
    unfold bCell15 rowU
    unfold rowU at a1
    simp [forT, hpr, C.h16, C.h28, C.h24, e0, e1] at en ⊢
    simp [en, C.h28, e1, plainA, wipeG, hpr]
    rw [a1]
    simp [backG, hpr, C.h24, e2]
  rw [first]
  by_cases hne : u = []
  · subst hne
    obtain ⟨m3, e3⟩ := C.l13 [] [] [] [] .nil .nil ⟨(fun p hp => nomatch hp), by simp [tot]⟩ ⟨(fun p hp => nomatch hp), by simp [tot]⟩ (by simp) (by simp) rfl
    have eb : bothS (spF 0 (mergeU []) ++ spF 0 (mergeU [])) = [] := by rfl
    rw [eb] at e3
    refine ⟨[.sc (ns.map .int), .fz (.int k), .ol l1, .fz (rowU []), .fz (tU (tot [])), s5, s6, s7, .no, .no], ?_, _, _, _, _, _, _, _, rfl⟩
    simp [rowU, eqD_nil, C.h13, e3] at e3 ⊢
  · have q0 : eqD (rowU u) (.lst []) = some false := by
      unfold rowU
      rw [eqD_emp pln_u']
      cases u with
      | nil => exact absurd rfl hne
      | cons p u => rfl
    have hW : 0 < tot u := by
      have := tot_nonneg hg.1
      by_cases z : tot u = 0
      · exact absurd (tot0 hg.1 z) hne
      · omega
    obtain ⟨r1, X1, l2, f1, x1, L1, hl2⟩ := C.l37 u 4000 l1 hg hT (by omega) hne (hl1.mono (by omega))
    obtain ⟨r2, X2, l3, f2, x2, L2, hl3⟩ := C.l37 u 3000 l2 hg hT (by omega) hne (hl2.mono (by omega))
    have Lrow : Long (tot u) (u.map pU) := Long.u0 hg.1 rfl hlen
    have trev : ∀ {v : List Un}, tot v.reverse = tot v := fun {v} => by
      induction v with
      | nil => rfl
      | cons p v ih => rw [List.reverse_cons, tot_app, ih, tot_cons]; simp [tot]; omega
    have Lrev : Long (tot u) (u.map pU).reverse := by
      rw [← List.map_reverse]
      exact Long.u0 (fun p hp => hg.1 p (List.mem_reverse.mp hp)) trev (by simpa using hlen)
    have Lnote : Long (tot u) [pU (false, tot u)] := Long.u0 (v := [(false, tot u)]) (fun p hp => by rw [List.mem_singleton.mp hp]; exact hW) (by simp [tot]) (by simp)
    have Lrest : Long (tot u) [pU (true, tot u)] := Long.u0 (v := [(true, tot u)]) (fun p hp => by rw [List.mem_singleton.mp hp]; exact hW) (by simp [tot]) (by simp)
    obtain ⟨l4, t7, e4, hl4⟩ := loop_far (c := c) hpr C.h38 C.l38 hg hT hlen hne (b := 1000) (s0 := .sc (ns.map .int)) (s1 := .fz (.int k)) (s4 := .fz (tU (tot u))) (s5 := .ol [pU (true, tot u)]) (s6 := .ol [.lst X1, .lst X2, .lst (u.map pU), .lst (u.map pU).reverse]) (s8 := .no) (s9 := .no) (Xs := [X1, X2, u.map pU, (u.map pU).reverse, [pU (false, tot u)]]) (l := l3) (s7 := s7) (fun X hX => by
      simp only [List.mem_cons, List.not_mem_nil, or_false] at hX
      rcases hX with rfl | rfl | rfl | rfl | rfl
      · exact L1
      · exact L2
      · exact Lrow
      · exact Lrev
      · exact Lnote) (hl3.mono (by simp))
    obtain ⟨l5, e5, hl5⟩ := right_long C.l38 (b := 100) hg hT hlen hne Lrest (hl4.mono (by omega))
    have gr : Gu Bd [(true, tot u)] := ⟨fun p hp => by rw [List.mem_singleton.mp hp]; exact hW, by simp [tot]; exact hg.2⟩
    have t1 := told_row (qs_row hg)
    have t2 := told_row (qs_row gr)
    rw [map_uP] at t1 t2
    obtain ⟨m6, e6⟩ := C.l13 u [(true, tot u)] _ _ t1 t2 hg gr (by omega) (by simp) (by simp [tot])
    rw [← both_kept hg.1 gr.1 (by simp [tot]) hne, both_rest hg.1 hne] at e6
    obtain ⟨m7, e7⟩ := C.l31 u hg (by omega)
    have q8 : eqD (.lst ((mergeU u).map pU)) (.lst ((mergeU u).map pU)) = some true := eqD_same pln_u'
    refine ⟨[.sc (ns.map .int), .fz (.int k), .ol l5, .fz (rowU u), .fz (tU (tot u)), .fz (.lst [pU (true, tot u)]), .ol [.lst X1, .lst X2, .lst (u.map pU), .lst (u.map pU).reverse], t7, .no, .no], ?_, _, _, _, _, _, _, _, rfl⟩
    have kt : D.str (Str.ofString "rest") = kD true := by rfl
    have kn : D.str (Str.ofString "note") = kD false := by rfl
    have pt : D.tup [kD true, tU (tot u)] = pU (true, tot u) := rfl
    have pn : D.tup [kD false, tU (tot u)] = pU (false, tot u) := rfl
    unfold rowU at *
    simp only [List.map_cons, List.map_nil] at e4 e6
    have sz4 : 4 + 1 ≤ sizeLine := by omega
    rcases x1 with rfl | rfl <;> rcases x2 with rfl | rfl
    all_goals
      simp [q0, hpr, kt, kn, pt, pn, C.h37, f1, f2, sz4]
      rw [e4]
      simp [C.h13, e6, C.h31, e7, q8, C.h38, e5]
theorem ev_law15 {ns : List Int} (C : Law15 c ns g13 g16 g24 g28 g31 g37 g38) : ∃ G', evSs c (sLaw15 g13 g16 g24 g28 g31 g37 g38) [.sc (ns.map .int), .no, .no, .no, .no, .no, .no, .no, .no, .no] = .rt (.d (.bl true)) G' := by
  obtain ⟨G', e, h⟩ := for_ix (b := forT c (.n 1) (bCell15 g13 g16 g24 g28 g31 g37 g38)) (l := rgD 0 5) (k := 0) (St := fun _ G => Shp15 ns G) (fun j d G hj hG => by
    have hj6 : j < 5 := by
      have := (List.getElem?_eq_some_iff.mp hj).1
      simpa [rgD] using this
    have hd : d = .int (j : Int) := by
      simp [rgD, hj6] at hj
      exact hj.symm
    subst hd
    exact turn_15 C hj6 hG) (G := [.sc (ns.map .int), .no, .no, .no, .no, .no, .no, .no, .no, .no]) ⟨_, _, _, _, _, _, _, rfl⟩
  obtain ⟨s1, s2, s3, s4, s5, s6, s7, rfl⟩ := h
  unfold sLaw15
  simp
  rw [e]
  simp
end
end Pl

namespace Pl
open PySem Mp
/-! Ra: rows as they are told, heard or not; the program's defs refuse. -/
/-- a piece as told: its word, its parts (none: a bottom of nought) -/
abbrev Rp := Str × Option Int
def Wd (w : Str) : Prop := w = "note" ∨ w = "rest" ∨ w = "" ∨ w = "Note" ∨ w = "n" ∨ w = "rests" ∨ w = "silence"
def kOk (w : Str) : Bool := decide (w = ("note" : Str)) || decide (w = ("rest" : Str))
theorem k_inW {w : Str} (h : Wd w) : inD (.str w) [.str "note", .str "rest"] = some (kOk w) := by
  rcases h with rfl | rfl | rfl | rfl | rfl | rfl | rfl <;> decide +kernel
theorem pln_w {w : Str} (h : Wd w) {n : Nat} : Pln (n + 1) (.str w) := .str (by rcases h with rfl | rfl | rfl | rfl | rfl | rfl | rfl <;> decide +kernel)
/-- a time as told -/
def RawS [Unt] (o : Option Int) (d : D) : Prop := ∃ a b : Int, d = tDs a b ∧ b.natAbs.log2 < 8999 ∧ match o with
  | none => b = 0
  | some k => b ≠ 0 ∧ Rat.divInt a b = uR k
def RawT [Unt] (p : Rp) (d : D) : Prop := ∃ t, d = .tup [.str p.1, t] ∧ RawS p.2 t
def lo [Unt] (p : Rp) : D := .tup [.str p.1, tU (p.2.getD 0)]
def full (u : List Rp) : Bool := u.all (·.2.isSome)
def gd (p : Rp) : Bool := kOk p.1 && decide (0 < p.2.getD 0)
def good (u : List Rp) : Bool := u.all gd
def asU (u : List Rp) : List Un := u.map fun p => (decide (p.1 = ("rest" : Str)), p.2.getD 0)
abbrev Mr : Int := 10000000000
def Rok (u : List Rp) : Prop := (∀ p ∈ u, Wd p.1 ∧ -Mr ≤ p.2.getD 0 ∧ p.2.getD 0 ≤ Mr) ∧ u.length ≤ 200
theorem lo_pU [Unt] {p : Rp} (h : kOk p.1 = true) : lo p = pU (decide (p.1 = ("rest" : Str)), p.2.getD 0) := by
  unfold lo pU kD
  congr 2
  unfold kOk at h
  rcases Bool.or_eq_true_iff.mp h with h | h
  · rw [of_decide_eq_true h]
    have : decide (("note" : Str) = ("rest" : Str)) = false := by decide
    simp only [this]
    rfl
  · rw [of_decide_eq_true h]
    have : decide (("rest" : Str) = ("rest" : Str)) = true := by decide
    simp only [this]
    rfl
theorem lo_asU [Unt] : ∀ {u : List Rp}, good u = true → u.map lo = (asU u).map pU
  | [], _ => rfl
  | p :: u, h => by
    unfold good at h
    rw [List.all_cons] at h
    obtain ⟨h1, h2⟩ := Bool.and_eq_true_iff.mp h
    obtain ⟨h3, _⟩ := Bool.and_eq_true_iff.mp h1
    show lo p :: u.map lo = pU _ :: (asU u).map pU
    rw [lo_asU h2, lo_pU h3]
theorem asU_gu {u : List Rp} (h : Rok u) (hg : good u = true) : Gu Bd (asU u) ∧ (asU u).length ≤ 200 ∧ tot (asU u) ≤ 200 * Mr := by
  have h1 : ∀ p ∈ asU u, 0 < p.2 ∧ p.2 ≤ Mr := fun p hp => by
    obtain ⟨q, hq, rfl⟩ := List.mem_map.mp hp
    have := List.all_eq_true.mp hg q hq
    exact ⟨of_decide_eq_true (Bool.and_eq_true_iff.mp this).2, (h.1 q hq).2.2⟩
  have hl : (asU u).length = u.length := List.length_map ..
  have hb : ∀ {l : List Un}, (∀ p ∈ l, 0 < p.2 ∧ p.2 ≤ Mr) → tot l ≤ l.length * Mr := fun {l} => by
    induction l with
    | nil => intro _; simp [tot]
    | cons p l ih =>
      intro hh
      have a := (hh p List.mem_cons_self).2
      have b := ih fun p hp => hh p (List.mem_cons_of_mem _ hp)
      rw [tot_cons, List.length_cons]
      simp only [Mr] at *
      omega
  have ht : tot (asU u) ≤ 200 * Mr := by
    have := hb h1
    have h2 := h.2
    rw [hl] at this
    simp only [Mr] at *
    omega
  exact ⟨⟨fun p hp => (h1 p hp).1, by simp only [Mr, Bd] at *; omega⟩, by rw [hl]; exact h.2, ht⟩
/-- what comes of a call: an exception, or something -/
def OutIs (r : Cres) : Option Nat → Prop
  | some n => ∃ m, r = .ex ⟨n, none⟩ m
  | none => (∃ d m, r = .ok (.d d) m) ∨ ∃ l m, r = .ok (.ol l) m
def OutE (o : Out) : Option Nat → Prop
  | some n => ∃ G, o = .ex ⟨n, none⟩ G
  | none => (∃ d G, o = .rt (.d d) G) ∨ (∃ l G, o = .rt (.ol l) G)
theorem OutE.ret {o : Out} {x : Option Nat} (h : OutE o x) : OutIs (retF false o) x := by
  cases x with
  | some n => obtain ⟨G, rfl⟩ := h; exact ⟨_, rfl⟩
  | none =>
    rcases h with ⟨d, G, rfl⟩ | ⟨l, G, rfl⟩
    · exact .inl ⟨d, _, rfl⟩
    · exact .inr ⟨l, _, rfl⟩
section
variable {c : Cf} {g g2 g3 g4 g5 nt nr nf : Nat}
def sMustTimeX (nt g : Nat) : Ss := (.cons (.iff (.cm .eq (.ix (.v 0) (.k (.int 1))) (.k (.int 0))) (.cons (.rs nt .nil) .nil) .nil)
  (.cons (.ret (.call g (.cons (.ix (.v 0) (.k (.int 0))) (.cons (.ix (.v 0) (.k (.int 1))) .nil))))
  .nil))
def MustX (nt : Nat) (f : List Sl → Cres) : Prop := Must f ∧ ∀ a : Int, ∃ m, f [.fz (tDs a 0)] = .ex ⟨nt, none⟩ m
theorem ev_mustTimeX (hpm : c.pm g = [.f, .f]) (hl : Low (c.cf g)) {a b : Int} (hs : b.natAbs.log2 < 8999) : (b ≠ 0 → evSs c (sMustTimeX nt g) [.fz (tDs a b)] = .rt (.d (tD (Rat.divInt a b))) [.fz (tDs a b)]) ∧ (b = 0 → evSs c (sMustTimeX nt g) [.fz (tDs a b)] = .ex ⟨nt, none⟩ [.fz (tDs a b)]) := by
  refine ⟨fun hb => ?_, fun hb => ?_⟩
  · obtain ⟨m, e⟩ := hl a b hb hs
    unfold sMustTimeX
    simp [tD, tDs] at e ⊢
    simp [hpm, e, hb]
  · subst hb
    unfold sMustTimeX
    simp [tDs]
/-- a time that is asked for -/
theorem MustX.of [Unt] {f : List Sl → Cres} (h : MustX nt f) {o : Option Int} {d : D} (t : RawS o d) : match o with
    | none => ∃ m, f [.fz d] = .ex ⟨nt, none⟩ m
    | some k => ∃ m, f [.fz d] = .ok (.d (tU k)) m := by
  obtain ⟨a, b, rfl, hs, q⟩ := t
  cases o with
  | none =>
    simp only at q
    subst q
    exact h.2 a
  | some k =>
    obtain ⟨q1, q2⟩ := q
    have := h.1 a b q1 hs
    rw [q2] at this
    exact this
def sLowestRowX (g : Nat) : Ss := (.cons (.ret (.lcx [1, 2] (.t [(.n 1), (.n 2)]) (.e (.v 0)) .no (.tup (.cons (.v 1) (.cons (.call g (.cons (.v 2) .nil)) .nil)))))
  .nil)
theorem ev_lowestRowX [Unt] (hpm : c.pm g = [.f]) (hm : MustX nt (c.cf g)) {u : List Rp} {ds : List D} (h : Two RawT u ds) (hz : u.length ≤ sizeLine) :
    (full u = true → ∃ G', evSs c (sLowestRowX g) [.fz (.lst ds), .no, .no] = .rt (.ol (u.map lo)) G') ∧ (full u = false → ∃ G', evSs c (sLowestRowX g) [.fz (.lst ds), .no, .no] = .ex ⟨nt, none⟩ G') := by
  have key : ∀ {u : List Rp} {ds : List D}, Two RawT u ds → ∀ {acc : List D}, acc.length + u.length ≤ sizeLine → ∀ D0, (full u = true → lcLoopX (lcTX c [1, 2] (.t [.n 1, .n 2]) .no (.tup (.cons (.v 1) (.cons (.call g (.cons (.v 2) .nil)) .nil)))) ds acc [.fz D0, .no, .no] = .ok (acc ++ u.map lo) [.fz D0, .no, .no]) ∧
      (full u = false → lcLoopX (lcTX c [1, 2] (.t [.n 1, .n 2]) .no (.tup (.cons (.v 1) (.cons (.call g (.cons (.v 2) .nil)) .nil)))) ds acc [.fz D0, .no, .no] = .ex ⟨nt, none⟩ [.fz D0, .no, .no]) := fun {u ds} h => by
    induction h with
    | nil => intro acc _ D0; simp [full]
    | @cons p d u ds h t ih =>
      intro acc hz D0
      rw [List.length_cons] at hz
      obtain ⟨t, rfl, ht⟩ := h
      have e := hm.of ht
      obtain ⟨w, o⟩ := p
      cases o with
      | none =>
        obtain ⟨m, e⟩ := e
        refine ⟨fun z => by simp [full] at z, fun _ => ?_⟩
        exact lcX_ex (by simp [lcTX, hpm, e, wipeG])
      | some k =>
        obtain ⟨m, e⟩ := e
        have turn : lcTX c [1, 2] (.t [.n 1, .n 2]) .no (.tup (.cons (.v 1) (.cons (.call g (.cons (.v 2) .nil)) .nil))) (.tup [.str w, t]) [.fz D0, .no, .no] = .ok (some (lo (w, some k))) [.fz D0, .no, .no] := by
          simp [lcTX, hpm, e, lo, wipeG]
        obtain ⟨i1, i2⟩ := @ih (acc ++ [lo (w, some k)]) (by rw [List.length_append]; simp; omega) D0
        have ef : full ((w, some k) :: u) = full u := by simp [full]
        rw [ef]
        refine ⟨fun z => ?_, fun z => ?_⟩
        · rw [lcX_ok turn (by omega), i1 z]
          simp
        · rw [lcX_ok turn (by omega), i2 z]
  obtain ⟨k1, k2⟩ := key h (acc := []) (by simpa using hz) (.lst ds)
  unfold sLowestRowX
  refine ⟨fun z => ?_, fun z => ?_⟩
  · simp [plainA, wipeG, k1 z, backG]
  · simp [plainA, wipeG, k2 z, backG]
/-- what a callee does -/
def LowX [Unt] (nt : Nat) (f : List Sl → Cres) : Prop := ∀ (u : List Rp) (ds : List D), Two RawT u ds → u.length ≤ sizeLine → (full u = true → ∃ m, f [.fz (.lst ds)] = .ok (.ol (u.map lo)) m) ∧ (full u = false → ∃ m, f [.fz (.lst ds)] = .ex ⟨nt, none⟩ m)
def bMustPiecesX (nr g : Nat) : Ss := (.cons (.iff (.or (.cm .notIn (.v 1) (.k (.tup [(.str "note"), (.str "rest")]))) (.not (.call g (.cons (.k (.tup [(.int 0), (.int 1)])) (.cons (.v 2) .nil))))) (.cons (.rs nr .nil) .nil) .nil)
  .nil)
def sMustPiecesX (nr g : Nat) : Ss := (.cons (.for (.t [(.n 1), (.n 2)]) (.e (.v 0)) (bMustPiecesX nr g))
  .nil)
theorem ev_mustPiecesX [Unt] (hpr : c.pr = false) (hpm : c.pm g = [.f, .f]) (hu : UndU (c.cf g)) {R : D} : ∀ {u : List Rp} {s1 s2 : Sl}, (∀ p ∈ u, Wd p.1 ∧ -Mr ≤ p.2.getD 0 ∧ p.2.getD 0 ≤ Mr) →
    (good u = true → ∃ s1' s2', forF (forT c (.t [.n 1, .n 2]) (bMustPiecesX nr g)) (u.map lo) [.fz R, s1, s2] = .nx [.fz R, s1', s2']) ∧ (good u = false → ∃ G', forF (forT c (.t [.n 1, .n 2]) (bMustPiecesX nr g)) (u.map lo) [.fz R, s1, s2] = .ex ⟨nr, none⟩ G')
  | [], s1, s2, _ => ⟨fun _ => ⟨s1, s2, rfl⟩, fun z => by simp [good] at z⟩
  | p :: u, s1, s2, h => by
    obtain ⟨hw, b1, b2⟩ := h p List.mem_cons_self
    obtain ⟨m, e⟩ := hu 0 (p.2.getD 0) (by decide) (by decide) (by simp only [Mr, Bd] at *; omega) (by simp only [Mr, Bd] at *; omega)
    rw [← nought] at e
    have kw := k_inW hw
    have eg : good (p :: u) = (gd p && good u) := by simp [good]
    rw [eg]
    cases hp : gd p with
    | true =>
      obtain ⟨q1, q2⟩ := Bool.and_eq_true_iff.mp hp
      have turn : forT c (.t [.n 1, .n 2]) (bMustPiecesX nr g) (lo p) [.fz R, s1, s2] = .nx [.fz R, .fz (.str p.1), .fz (tU (p.2.getD 0))] := by
        simp [forT, bMustPiecesX, lo, hpr, kw, q1, hpm, e, of_decide_eq_true q2]
      obtain ⟨i1, i2⟩ := ev_mustPiecesX hpr hpm hu (R := R) (u := u) (s1 := .fz (.str p.1)) (s2 := .fz (tU (p.2.getD 0))) (fun p hp => h p (List.mem_cons_of_mem _ hp))
      simp only [Bool.true_and]
      rw [List.map_cons, for_cons turn]
      exact ⟨i1, i2⟩
    | false =>
      refine ⟨fun z => by simp at z, fun _ => ?_⟩
      have turn : forT c (.t [.n 1, .n 2]) (bMustPiecesX nr g) (lo p) [.fz R, s1, s2] = .ex ⟨nr, none⟩ [.fz R, .fz (.str p.1), .fz (tU (p.2.getD 0))] := by
        cases hk : kOk p.1 with
        | false => simp [forT, bMustPiecesX, lo, hpr, kw, hk]
        | true =>
          have : ¬ 0 < p.2.getD 0 := fun z => by
            unfold gd at hp
            rw [hk, decide_eq_true z] at hp
            cases hp
          simp [forT, bMustPiecesX, lo, hpr, kw, hk, hpm, e, this]
      exact ⟨_, by rw [List.map_cons, for_ex turn]⟩
end
end Pl

namespace Pl
open PySem Mp
/-! Rb: the program's defs, heard or not. -/
def Bnd0 (u : List Rp) : Prop := ∀ p ∈ u, Wd p.1 ∧ -Mr ≤ p.2.getD 0 ∧ p.2.getD 0 ≤ Mr
def PieX [Unt] (nr : Nat) (f : List Sl → Cres) : Prop := ∀ u : List Rp, Bnd0 u → (good u = true → ∃ m, f [.fz (.lst (u.map lo))] = .ok (.d .non) m) ∧ (good u = false → ∃ m, f [.fz (.lst (u.map lo))] = .ex ⟨nr, none⟩ m)
def rowC (nt nr : Nat) (u : List Rp) : Option Nat := if full u = true then (if good u = true then none else some nr) else some nt
def MustRowX [Unt] (nt nr : Nat) (f : List Sl → Cres) : Prop := ∀ (u : List Rp) (ds : List D), Two RawT u ds → Rok u → match rowC nt nr u with
  | none => ∃ m, f [.fz (.lst ds)] = .ok (.ol ((mergeU (asU u)).map pU)) m
  | some x => ∃ m, f [.fz (.lst ds)] = .ex ⟨x, none⟩ m
def RowOut [Unt] (nt nr : Nat) (f : List Sl → Cres) : Prop := ∀ (u : List Rp) (ds : List D), Two RawT u ds → Rok u → OutIs (f [.fz (.lst ds)]) (rowC nt nr u)
theorem rowC_none {nt nr : Nat} {u : List Rp} (h : rowC nt nr u = none) : full u = true ∧ good u = true := by
  unfold rowC at h
  cases h1 : full u <;> cases h2 : good u <;> simp [h1, h2] at h ⊢
section
variable {c : Cf} {g g2 g3 g4 g5 nt nr nf : Nat}
theorem ev_piX [Unt] (hpr : c.pr = false) (hpm : c.pm g = [.f, .f]) (hu : UndU (c.cf g)) {u : List Rp} (h : Bnd0 u) : (good u = true → ∃ G', evSs c (sMustPiecesX nr g) [.fz (.lst (u.map lo)), .no, .no] = .nx G') ∧ (good u = false → ∃ G', evSs c (sMustPiecesX nr g) [.fz (.lst (u.map lo)), .no, .no] = .ex ⟨nr, none⟩ G') := by
  obtain ⟨k1, k2⟩ := ev_mustPiecesX (nr := nr) hpr hpm hu (R := .lst (u.map lo)) (u := u) (s1 := .no) (s2 := .no) h
  unfold sMustPiecesX
  refine ⟨fun z => ?_, fun z => ?_⟩
  · obtain ⟨a, b, e⟩ := k1 z
    exact ⟨_, by simp [e]; rfl⟩
  · obtain ⟨G', e⟩ := k2 z
    exact ⟨_, by simp [e]; rfl⟩
theorem ev_mustRowX [Unt] (hpr : c.pr = false) (h1 : c.pm g = [.f]) (h2 : c.pm g2 = [.f]) (h3 : c.pm g3 = [.f]) (l1 : LowX nt (c.cf g)) (l2 : PieX nr (c.cf g2)) (l3 : KeptOf (c.cf g3)) {u : List Rp} {ds : List D} (t : Two RawT u ds) (hr : Rok u) :
    match rowC nt nr u with
    | none => ∃ G', evSs c (sMustRow g g2 g3) [.fz (.lst ds), .no] = .rt (.ol ((mergeU (asU u)).map pU)) G'
    | some x => ∃ G', evSs c (sMustRow g g2 g3) [.fz (.lst ds), .no] = .ex ⟨x, none⟩ G' := by
  have hsz : 1000 ≤ sizeLine := by decide
  obtain ⟨k1, k2⟩ := l1 u ds t (by have := hr.2; omega)
  obtain ⟨j1, j2⟩ := l2 u hr.1
  unfold rowC sMustRow
  cases hf : full u with
  | false =>
    obtain ⟨m, e⟩ := k2 hf
    simp [hpr, h1, e]
  | true =>
    obtain ⟨m, e⟩ := k1 hf
    cases hg : good u with
    | false =>
      obtain ⟨m2, e2⟩ := j2 hg
      simp [hpr, h1, h2, e, e2]
    | true =>
      obtain ⟨m2, e2⟩ := j1 hg
      obtain ⟨q1, q2, q3⟩ := asU_gu hr hg
      obtain ⟨m3, e3⟩ := l3 (asU u) q1 (by omega)
      unfold rowU at e3
      rw [← lo_asU hg] at e3
      simp [hpr, h1, h2, h3, e, e2, e3]
theorem ev_keptX [Unt] (h1 : c.pm g = [.f]) (l1 : MustRowX nt nr (c.cf g)) {u : List Rp} {ds : List D} (t : Two RawT u ds) (hr : Rok u) : OutE (evSs c (sKept g) [.fz (.lst ds)]) (rowC nt nr u) := by
  have k := l1 u ds t hr
  unfold sKept
  cases e : rowC nt nr u <;> rw [e] at k <;> obtain ⟨m, k⟩ := k <;> simp [h1, k, OutE]
theorem ev_turnedX [Unt] (h1 : c.pm g = [.f]) (l1 : MustRowX nt nr (c.cf g)) {u : List Rp} {ds : List D} (t : Two RawT u ds) (hr : Rok u) : OutE (evSs c (sTurned g) [.fz (.lst ds)]) (rowC nt nr u) := by
  have k := l1 u ds t hr
  unfold sTurned
  cases e : rowC nt nr u <;> rw [e] at k <;> obtain ⟨m, k⟩ := k <;> simp [h1, k, OutE]
theorem ev_lengthX [Unt] (h1 : c.pm g = [.f]) (h2 : c.pm g2 = [.f]) (l1 : WholeOf (c.cf g)) (l2 : MustRowX nt nr (c.cf g2)) {u : List Rp} {ds : List D} (t : Two RawT u ds) (hr : Rok u) : OutE (evSs c (sLengthOf g g2) [.fz (.lst ds)]) (rowC nt nr u) := by
  have k := l2 u ds t hr
  unfold sLengthOf
  cases e : rowC nt nr u with
  | some x => rw [e] at k; obtain ⟨m, k⟩ := k; simp [h2, k, OutE]
  | none =>
    rw [e] at k
    obtain ⟨m, k⟩ := k
    obtain ⟨q1, q2, q3⟩ := asU_gu hr (rowC_none e).2
    obtain ⟨k1, k2, k3⟩ := merge_gu q1
    obtain ⟨m2, e2⟩ := l1 _ k1
    unfold rowU at e2
    simp [h1, h2, k, e2, OutE]
/-- a spot's bound -/
def Sb (o : Option Int) : Prop := -Bd ≤ o.getD 0 ∧ o.getD 0 ≤ Bd
def quickC (nt nr nf : Nat) (u : List Rp) : Option Int → Option Nat
  | none => some nt
  | some k => match rowC nt nr u with
    | some x => some x
    | none => if 0 < k then none else some nf
def sQuickX (nf g g2 g3 g4 : Nat) : Ss := (.cons (.asg (.n 2) (.call g (.cons (.v 1) .nil)))
  (.cons (.asg (.n 3) (.call g2 (.cons (.v 0) .nil)))
  (.cons (.iff (.not (.call g3 (.cons (.k (.tup [(.int 0), (.int 1)])) (.cons (.v 2) .nil)))) (.cons (.rs nf .nil) .nil) .nil)
  (.cons (.ret (.lc [4, 5] (.t [(.n 4), (.n 5)]) (.e (.v 3)) .no (.tup (.cons (.v 4) (.cons (.call g4 (.cons (.v 5) (.cons (.v 2) .nil))) .nil)))))
  .nil))))
theorem ev_quickX [Unt] (hpr : c.pr = false) (h1 : c.pm g = [.f]) (h2 : c.pm g2 = [.f]) (h3 : c.pm g3 = [.f, .f]) (h4 : c.pm g4 = [.f, .f]) (l1 : MustX nt (c.cf g)) (l2 : MustRowX nt nr (c.cf g2)) (l3 : UndU (c.cf g3)) (l4 : Tim (c.cf g4))
    {u : List Rp} {ds : List D} {o : Option Int} {d : D} (t : Two RawT u ds) (td : RawS o d) (hr : Rok u) (ho : Sb o) : OutE (evSs c (sQuickX nf g g2 g3 g4) [.fz (.lst ds), .fz d, .no, .no, .no, .no]) (quickC nt nr nf u o) := by
  have hsz : 1000 ≤ sizeLine := by decide
  have k := l2 u ds t hr
  have e1 := l1.of td
  cases o with
  | none =>
    obtain ⟨m1, e1⟩ := e1
    unfold sQuickX
    simp [hpr, h1, e1, OutE, quickC]
  | some q =>
    obtain ⟨m1, e1⟩ := e1
    unfold quickC
    cases e : rowC nt nr u with
    | some x =>
      rw [e] at k
      obtain ⟨m, k⟩ := k
      unfold sQuickX
      simp [hpr, h1, h2, e1, k, OutE]
    | none =>
      rw [e] at k
      obtain ⟨m, k⟩ := k
      obtain ⟨q1, q2, q3⟩ := asU_gu hr (rowC_none e).2
      obtain ⟨k1, k2, k3⟩ := merge_gu q1
      obtain ⟨o1, o2⟩ := ho
      obtain ⟨m4, e4⟩ := l3 0 q (by decide) (by decide) o1 o2
      rw [← nought] at e4
      by_cases hq : 0 < q
      · obtain ⟨G1, e5, rfl⟩ := lc_map (f := lcT c [4, 5] (.t [.n 4, .n 5]) .no (.tup (.cons (.v 4) (.cons (.call g4 (.cons (.v 5) (.cons (.v 2) .nil))) .nil)))) (enc := pU) (out := tmD (uR q)) (l := mergeU (asU u)) (St := fun G => G = [.fz (.lst ds), .fz d, .fz (tU q), .fz (.lst ((mergeU (asU u)).map pU)), .no, .no]) (fun p G hp hG => by
          subst hG
          have w1 := k1.1 p hp
          have w2 := le_tot k1.1 hp
          have w3 := k1.2
          obtain ⟨m, e⟩ := l4 (uR p.2) (uR q) (qs_b (by omega) (by omega)) (qs_b o1 o2)
          refine ⟨_, ?_, rfl⟩
          simp [lcT, pU, tU, h4, e, tmD, wipeG]) (acc := []) (G := [.fz (.lst ds), .fz d, .fz (tU q), .fz (.lst ((mergeU (asU u)).map pU)), .no, .no]) (by simp; omega) rfl
        unfold sQuickX
        simp [hpr, h1, h2, h3, e1, k, e4, hq, plainA, wipeG]
        rw [e5]
        simp [backG, OutE]
      · unfold sQuickX
        simp [hpr, h1, h2, h3, e1, k, e4, hq, OutE]
def cutX (nt nr nf : Nat) (u : List Rp) : Option Int → Option Int → Option Nat
  | some a, some b => match rowC nt nr u with
    | some x => some x
    | none => if a < 0 ∨ ¬ a < b ∨ tot (asU u) < b then some nf else none
  | _, _ => some nt
def sCutX (nf g g2 g3 g4 g5 : Nat) : Ss := (.cons (.asg (.n 3) (.call g (.cons (.v 1) .nil)))
  (.cons (.asg (.n 4) (.call g (.cons (.v 2) .nil)))
  (.cons (.asg (.n 5) (.call g2 (.cons (.v 0) .nil)))
  (.cons (.iff (.or (.call g3 (.cons (.v 3) (.cons (.k (.tup [(.int 0), (.int 1)])) .nil))) (.or (.not (.call g3 (.cons (.v 3) (.cons (.v 4) .nil)))) (.call g3 (.cons (.call g4 (.cons (.v 5) .nil)) (.cons (.v 4) .nil))))) (.cons (.rs nf .nil) .nil) .nil)
  (.cons (.ret (.call g5 (.cons (.v 5) (.cons (.v 3) (.cons (.v 4) .nil)))))
  .nil)))))
theorem ev_cutX [Unt] (hpr : c.pr = false) (h1 : c.pm g = [.f]) (h2 : c.pm g2 = [.f]) (h3 : c.pm g3 = [.f, .f]) (h4 : c.pm g4 = [.f]) (h5 : c.pm g5 = [.f, .f, .f]) (l1 : MustX nt (c.cf g)) (l2 : MustRowX nt nr (c.cf g2)) (l3 : UndU (c.cf g3)) (l4 : WholeOf (c.cf g4)) (l5 : CutOf (c.cf g5))
    {u : List Rp} {ds : List D} {o p : Option Int} {da db : D} (t : Two RawT u ds) (ta : RawS o da) (tb : RawS p db) (hr : Rok u) (ho : Sb o) (hp : Sb p) : OutE (evSs c (sCutX nf g g2 g3 g4 g5) [.fz (.lst ds), .fz da, .fz db, .no, .no, .no]) (cutX nt nr nf u o p) := by
  have hsz : 1000 ≤ sizeLine := by decide
  have k := l2 u ds t hr
  have e1 := l1.of ta
  have e2 := l1.of tb
  cases o with
  | none =>
    obtain ⟨m1, e1⟩ := e1
    unfold sCutX
    simp [hpr, h1, e1, OutE, cutX]
  | some a =>
    obtain ⟨m1, e1⟩ := e1
    cases p with
    | none =>
      obtain ⟨m2, e2⟩ := e2
      unfold sCutX
      simp [hpr, h1, e1, e2, OutE, cutX]
    | some b =>
      obtain ⟨m2, e2⟩ := e2
      unfold cutX
      cases e : rowC nt nr u with
      | some x =>
        rw [e] at k
        obtain ⟨m, k⟩ := k
        unfold sCutX
        simp [hpr, h1, h2, e1, e2, k, OutE]
      | none =>
        rw [e] at k
        obtain ⟨m, k⟩ := k
        obtain ⟨q1, q2, q3⟩ := asU_gu hr (rowC_none e).2
        obtain ⟨k1, k2, k3⟩ := merge_gu q1
        obtain ⟨o1, o2⟩ := ho
        obtain ⟨p1, p2⟩ := hp
        simp only [Option.getD_some] at o1 o2 p1 p2
        obtain ⟨m4, e4⟩ := l3 a 0 (by omega) (by omega) (by decide) (by decide)
        obtain ⟨m5, e5⟩ := l3 a b (by omega) (by omega) (by omega) (by omega)
        obtain ⟨m6, e6⟩ := l4 _ k1
        rw [k3] at e6
        have htot := tot_nonneg q1.1
        have hB := q1.2
        obtain ⟨m7, e7⟩ := l3 (tot (asU u)) b (by omega) (by omega) (by omega) (by omega)
        rw [← nought] at e4
        unfold rowU at e6
        by_cases n1 : a < 0
        · unfold sCutX
          simp [hpr, h1, h2, h3, e1, e2, k, e4, n1, OutE]
        · by_cases n2 : a < b
          · by_cases n3 : tot (asU u) < b
            · unfold sCutX
              simp [hpr, h1, h2, h3, h4, e1, e2, k, e4, n1, e5, n2, e6, e7, n3, OutE]
            · obtain ⟨m8, e8⟩ := l5 (mergeU (asU u)) a b k1 (by omega) (by omega) (by omega) (by omega) (by omega)
              unfold rowU at e8
              unfold sCutX
              simp [hpr, h1, h2, h3, h4, h5, e1, e2, k, e4, n1, e5, n2, e6, e7, n3, e8, OutE]
          · unfold sCutX
            simp [hpr, h1, h2, h3, h4, e1, e2, k, e4, n1, e5, n2, OutE]
def togC (nt nr nf : Nat) (u v : List Rp) : Option Nat := if full u = true ∧ full v = true then (if good u = true ∧ good v = true then (if tot (asU u) = tot (asU v) then none else some nf) else some nr) else some nt
def sTogX (nf g5 g6 g7 g8 g12 : Nat) : Ss := (.cons (.asg (.n 2) (.lst (.cons (.call g5 (.cons (.v 0) .nil)) (.cons (.call g5 (.cons (.v 1) .nil)) .nil))))
  (.cons (.for (.n 3) (.e (.v 2)) (bTogether g6))
  (.cons (.iff (.cm .ne (.call g8 (.cons (.ix (.v 2) (.k (.int 0))) .nil)) (.call g8 (.cons (.ix (.v 2) (.k (.int 1))) .nil))) (.cons (.rs nf .nil) .nil) .nil)
  (.cons (.ret (.call g12 (.cons (.call g7 (.cons (.ix (.v 2) (.k (.int 0))) .nil)) (.cons (.call g7 (.cons (.ix (.v 2) (.k (.int 1))) .nil)) .nil))))
  .nil))))
theorem ev_togX [Unt] {g5 g6 g7 g8 g12 : Nat} (hpr : c.pr = false) (h5 : c.pm g5 = [.f]) (h6 : c.pm g6 = [.f]) (h7 : c.pm g7 = [.f]) (h8 : c.pm g8 = [.f]) (h12 : c.pm g12 = [.f, .f]) (l5 : LowX nt (c.cf g5)) (l6 : PieX nr (c.cf g6)) (l7 : KeptOf (c.cf g7)) (l8 : WholeOf (c.cf g8)) (l12 : OfBoth (c.cf g12))
    {u v : List Rp} {d1 d2 : List D} (t1 : Two RawT u d1) (t2 : Two RawT v d2) (hu : Rok u) (hv : Rok v) : OutE (evSs c (sTogX nf g5 g6 g7 g8 g12) [.fz (.lst d1), .fz (.lst d2), .no, .no]) (togC nt nr nf u v) := by
  have hsz : 1000 ≤ sizeLine := by decide
  obtain ⟨a1, a2⟩ := l5 u d1 t1 (by have := hu.2; omega)
  obtain ⟨b1, b2⟩ := l5 v d2 t2 (by have := hv.2; omega)
  obtain ⟨p1, p2⟩ := l6 u hu.1
  obtain ⟨r1, r2⟩ := l6 v hv.1
  unfold togC
  cases hf : full u with
  | false =>
    obtain ⟨m, e⟩ := a2 hf
    unfold sTogX
    simp [hpr, h5, e, OutE]
  | true =>
    obtain ⟨m1, e1⟩ := a1 hf
    cases hf2 : full v with
    | false =>
      obtain ⟨m, e⟩ := b2 hf2
      unfold sTogX
      simp [hpr, h5, e1, e, OutE]
    | true =>
      obtain ⟨m2, e2⟩ := b1 hf2
      cases hg : good u with
      | false =>
        obtain ⟨m3, e3⟩ := p2 hg
        have w1 : forT c (.n 3) (bTogether g6) (.lst (u.map lo)) [.fz (.lst d1), .fz (.lst d2), .fz (.lst [.lst (u.map lo), .lst (v.map lo)]), .no] = .ex ⟨nr, none⟩ [.fz (.lst d1), .fz (.lst d2), .fz (.lst [.lst (u.map lo), .lst (v.map lo)]), .fz (.lst (u.map lo))] := by
          simp [forT, bTogether, hpr, h6, e3]
        unfold sTogX
        simp [hpr, h5, e1, e2]
        rw [for_ex w1]
        simp [OutE]
      | true =>
        obtain ⟨m3, e3⟩ := p1 hg
        have w1 : forT c (.n 3) (bTogether g6) (.lst (u.map lo)) [.fz (.lst d1), .fz (.lst d2), .fz (.lst [.lst (u.map lo), .lst (v.map lo)]), .no] = .nx [.fz (.lst d1), .fz (.lst d2), .fz (.lst [.lst (u.map lo), .lst (v.map lo)]), .fz (.lst (u.map lo))] := by
          simp [forT, bTogether, hpr, h6, e3]
        cases hg2 : good v with
        | false =>
          obtain ⟨m4, e4⟩ := r2 hg2
          have w2 : forT c (.n 3) (bTogether g6) (.lst (v.map lo)) [.fz (.lst d1), .fz (.lst d2), .fz (.lst [.lst (u.map lo), .lst (v.map lo)]), .fz (.lst (u.map lo))] = .ex ⟨nr, none⟩ [.fz (.lst d1), .fz (.lst d2), .fz (.lst [.lst (u.map lo), .lst (v.map lo)]), .fz (.lst (v.map lo))] := by
            simp [forT, bTogether, hpr, h6, e4]
          unfold sTogX
          simp [hpr, h5, e1, e2]
          rw [for_cons w1, for_ex w2]
          simp [OutE]
        | true =>
          obtain ⟨m4, e4⟩ := r1 hg2
          have w2 : forT c (.n 3) (bTogether g6) (.lst (v.map lo)) [.fz (.lst d1), .fz (.lst d2), .fz (.lst [.lst (u.map lo), .lst (v.map lo)]), .fz (.lst (u.map lo))] = .nx [.fz (.lst d1), .fz (.lst d2), .fz (.lst [.lst (u.map lo), .lst (v.map lo)]), .fz (.lst (v.map lo))] := by
            simp [forT, bTogether, hpr, h6, e4]
          obtain ⟨q1, q2, q3⟩ := asU_gu hu hg
          obtain ⟨s1, s2, s3⟩ := asU_gu hv hg2
          obtain ⟨m5, e5⟩ := l8 _ q1
          obtain ⟨m6, e6⟩ := l8 _ s1
          have q := eqD_t (tot (asU u)) (tot (asU v))
          unfold rowU at e5 e6
          rw [← lo_asU hg] at e5
          rw [← lo_asU hg2] at e6
          by_cases hT : tot (asU u) = tot (asU v)
          · rw [decide_eq_true hT, hT] at q
            rw [hT] at e5
            obtain ⟨m7, e7⟩ := l7 _ q1 (by omega)
            obtain ⟨m8, e8⟩ := l7 _ s1 (by omega)
            obtain ⟨k1, k2, k3⟩ := merge_gu q1
            obtain ⟨j1, j2, j3⟩ := merge_gu s1
            obtain ⟨m9, e9⟩ := l12 _ _ k1 j1 (by omega) (by omega) (by rw [k3, j3, hT])
            unfold rowU at e7 e8 e9
            rw [← lo_asU hg] at e7
            rw [← lo_asU hg2] at e8
            unfold sTogX
            simp [hpr, h5, e1, e2]
            rw [for_cons w1, for_cons w2]
            simp [h8, e5, e6, q, h7, e7, e8, h12, e9, hT, OutE]
          · rw [decide_eq_false hT] at q
            unfold sTogX
            simp [hpr, h5, e1, e2]
            rw [for_cons w1, for_cons w2]
            simp [h8, e5, e6, q, hT, OutE]
end
end Pl

namespace Pl
open PySem Mp
/-! Rc: what is asked, what is caught. -/
def sClass : Ss := (.cons (.asg (.n 1) (.lst (.cons (.bi (.isi (.exc [1])) (.cons (.v 0) .nil)) (.cons (.bi (.isi (.exc [2])) (.cons (.v 0) .nil)) (.cons (.bi (.isi (.exc [3])) (.cons (.v 0) .nil)) (.cons (.bi (.isi (.exc [4])) (.cons (.v 0) .nil)) .nil))))))
  (.cons (.asg (.n 1) (.op .add (.v 1) (.lst (.cons (.bi (.isi (.exc [5])) (.cons (.v 0) .nil)) (.cons (.bi (.isi (.exc [6])) (.cons (.v 0) .nil)) (.cons (.bi (.isi (.exc [7])) (.cons (.v 0) .nil)) (.cons (.bi (.isi (.exc [8])) (.cons (.v 0) .nil)) .nil)))))))
  (.cons (.asg (.n 1) (.op .add (.v 1) (.lst (.cons (.bi (.isi (.exc [9])) (.cons (.v 0) .nil)) (.cons (.bi (.isi (.exc [10])) (.cons (.v 0) .nil)) (.cons (.bi (.isi (.exc [11])) (.cons (.v 0) .nil)) (.cons (.bi (.isi (.exc [12])) (.cons (.v 0) .nil)) .nil)))))))
  (.cons (.asg (.n 1) (.op .add (.v 1) (.lst (.cons (.bi (.isi (.exc [13])) (.cons (.v 0) .nil)) (.cons (.bi (.isi (.exc [14])) (.cons (.v 0) .nil)) (.cons (.bi (.isi (.exc [15])) (.cons (.v 0) .nil)) (.cons (.bi (.isi (.exc [16])) (.cons (.v 0) .nil)) .nil)))))))
  (.cons (.asg (.n 2) (.lc [3] (.n 3) (.rg1 (.cons (.k (.int 16)) .nil)) (.so (.ix (.v 1) (.v 3))) (.v 3)))
  (.cons (.iff (.and (.cm .notN (.v 0) (.k .non)) (.cm .eq (.v 2) (.lst .nil))) (.cons (.ret (.lst (.cons (.k (.int 99)) .nil)))
  .nil) .nil)
  (.cons (.iff (.cm .ne (.bi (.isi (.exc [0, 1, 2, 3, 4, 5, 6, 7, 8, 9, 10, 11, 12, 13])) (.cons (.v 0) .nil)) (.and (.cm .ne (.v 2) (.lst .nil)) (.cm .lt (.ix (.v 2) (.k (.int 0))) (.k (.int 13))))) (.cons (.ret (.lst (.cons (.k (.int 98)) .nil)))
  .nil) .nil)
  (.cons (.ret (.v 2))
  .nil))))))))
/-- the exception kept, or nothing -/
def keptD : Option Nat → D
  | none => .non
  | some x => .exc x []
/-- the law's number of it -/
def codeL : Option Nat → List D
  | none => []
  | some x => [.int ((x : Int) - 1)]
def Three (o : Option Nat) : Prop := o = none ∨ o = some 5 ∨ o = some 6 ∨ o = some 14
theorem ev_class {c : Cf} (hpr : c.pr = false) {o : Option Nat} (h : Three o) : retF false (evSs c sClass [.fz (keptD o), .no, .no, .no]) = .ok (.ol (codeL o)) .no := by
  obtain ⟨cf, pm, nf, mt, w, pr⟩ := c
  simp only at hpr
  subst hpr
  rcases h with rfl | rfl | rfl | rfl <;> rfl
end Pl

namespace Pl
open PySem Mp
/-! Rd: what is asked, what is caught. -/
def QuickOut [Unt] (nt nr nf : Nat) (f : List Sl → Cres) : Prop := ∀ (u : List Rp) (ds : List D) (o : Option Int) (d : D), Two RawT u ds → RawS o d → Rok u → Sb o → OutIs (f [.fz (.lst ds), .fz d]) (quickC nt nr nf u o)
def CutOut [Unt] (nt nr nf : Nat) (f : List Sl → Cres) : Prop := ∀ (u : List Rp) (ds : List D) (o p : Option Int) (d e : D), Two RawT u ds → RawS o d → RawS p e → Rok u → Sb o → Sb p → OutIs (f [.fz (.lst ds), .fz d, .fz e]) (cutX nt nr nf u o p)
def TogOut [Unt] (nt nr nf : Nat) (f : List Sl → Cres) : Prop := ∀ (u v : List Rp) (d1 d2 : List D), Two RawT u d1 → Two RawT v d2 → Rok u → Rok v → OutIs (f [.fz (.lst d1), .fz (.lst d2)]) (togC nt nr nf u v)
/-- what comes of the k-th way -/
def outC (nt nr nf k : Nat) (u v : List Rp) (o0 o1 o2 : Option Int) : Option Nat := match k with
  | 0 => rowC nt nr u
  | 1 => rowC nt nr u
  | 2 => rowC nt nr u
  | 3 => quickC nt nr nf u o0
  | 4 => cutX nt nr nf u o1 o2
  | 5 => togC nt nr nf u v
  | 6 => quickC nt nr nf u o0
  | 7 => cutX nt nr nf u o1 o2
  | _ => togC nt nr nf u v
def sAsked (g10 g12 g17 g18 g19 g21 : Nat) : Ss := (.cons (.iff (.cm .eq (.v 0) (.k (.int 0))) (.cons (.ex (.call g10 (.cons (.v 1) .nil)))
  .nil) (.cons (.iff (.cm .eq (.v 0) (.k (.int 1))) (.cons (.ex (.call g12 (.cons (.v 1) .nil)))
  .nil) (.cons (.iff (.cm .eq (.v 0) (.k (.int 2))) (.cons (.ex (.call g19 (.cons (.v 1) .nil)))
  .nil) (.cons (.iff (.cm .eq (.v 0) (.k (.int 3))) (.cons (.ex (.call g18 (.cons (.v 1) (.cons (.ix (.v 3) (.k (.int 0))) .nil))))
  .nil) (.cons (.iff (.cm .eq (.v 0) (.k (.int 4))) (.cons (.ex (.call g21 (.cons (.v 1) (.cons (.ix (.v 3) (.k (.int 1))) (.cons (.ix (.v 3) (.k (.int 2))) .nil)))))
  .nil) (.cons (.iff (.cm .eq (.v 0) (.k (.int 5))) (.cons (.ex (.call g17 (.cons (.v 1) (.cons (.v 2) .nil))))
  .nil) (.cons (.iff (.cm .eq (.v 0) (.k (.int 6))) (.cons (.ex (.callK g18 (.cons (.v 1) (.cons (.ix (.v 3) (.k (.int 0))) .nil)) [.inl 0, .inl 1]))
  .nil) (.cons (.iff (.cm .eq (.v 0) (.k (.int 7))) (.cons (.ex (.callK g21 (.cons (.ix (.v 3) (.k (.int 1))) (.cons (.ix (.v 3) (.k (.int 2))) (.cons (.v 1) .nil))) [.inl 2, .inl 0, .inl 1]))
  .nil) (.cons (.ex (.callK g17 (.cons (.v 2) (.cons (.v 1) .nil)) [.inl 1, .inl 0]))
  .nil))
  .nil))
  .nil))
  .nil))
  .nil))
  .nil))
  .nil))
  .nil))
  .nil)
section
variable {c : Cf} {nt nr nf : Nat}
structure AskedF [Unt] (c : Cf) (nt nr nf g10 g12 g17 g18 g19 g21 : Nat) : Prop where
  h10 : c.pm g10 = [.f]
  h12 : c.pm g12 = [.f]
  h17 : c.pm g17 = [.f, .f]
  h18 : c.pm g18 = [.f, .f]
  h19 : c.pm g19 = [.f]
  h21 : c.pm g21 = [.f, .f, .f]
  l10 : RowOut nt nr (c.cf g10)
  l12 : RowOut nt nr (c.cf g12)
  l17 : TogOut nt nr nf (c.cf g17)
  l18 : QuickOut nt nr nf (c.cf g18)
  l19 : RowOut nt nr (c.cf g19)
  l21 : CutOut nt nr nf (c.cf g21)
/-- a def that hands nothing back -/
def DoneE (o : Out) : Option Nat → Prop
  | some n => ∃ G, o = .ex ⟨n, none⟩ G
  | none => ∃ G, o = .nx G
theorem ev_asked [Unt] {g10 g12 g17 g18 g19 g21 : Nat} (C : AskedF c nt nr nf g10 g12 g17 g18 g19 g21) {k : Nat} (hk : k < 9) {u v : List Rp} {d1 d2 : List D} {o0 o1 o2 : Option Int} {t0 t1 t2 : D} (h1 : Two RawT u d1) (h2 : Two RawT v d2) (hu : Rok u) (hv : Rok v) (r0 : RawS o0 t0) (r1 : RawS o1 t1) (r2 : RawS o2 t2) (b0 : Sb o0) (b1 : Sb o1) (b2 : Sb o2) :
    DoneE (evSs c (sAsked g10 g12 g17 g18 g19 g21) [.fz (.int k), .fz (.lst d1), .fz (.lst d2), .fz (.lst [t0, t1, t2])]) (outC nt nr nf k u v o0 o1 o2) := by
  have fin : ∀ {r : Cres} {x : Option Nat} {P : Out → Prop} , OutIs r x → True := fun _ => trivial
  match k, hk with
  | 0, _ =>
    have q := C.l10 u d1 h1 hu
    unfold outC sAsked
    cases e : rowC nt nr u <;> rw [e] at q
    · rcases q with ⟨d, m, q⟩ | ⟨d, m, q⟩ <;> simp [C.h10, q, DoneE]
    · obtain ⟨m, q⟩ := q
      simp [C.h10, q, DoneE]
  | 1, _ =>
    have q := C.l12 u d1 h1 hu
    unfold outC sAsked
    cases e : rowC nt nr u <;> rw [e] at q
    · rcases q with ⟨d, m, q⟩ | ⟨d, m, q⟩ <;> simp [C.h12, q, DoneE]
    · obtain ⟨m, q⟩ := q
      simp [C.h12, q, DoneE]
  | 2, _ =>
    have q := C.l19 u d1 h1 hu
    unfold outC sAsked
    cases e : rowC nt nr u <;> rw [e] at q
    · rcases q with ⟨d, m, q⟩ | ⟨d, m, q⟩ <;> simp [C.h19, q, DoneE]
    · obtain ⟨m, q⟩ := q
      simp [C.h19, q, DoneE]
  | 3, _ =>
    have q := C.l18 u d1 o0 t0 h1 r0 hu b0
    unfold outC sAsked
    cases e : quickC nt nr nf u o0 <;> rw [e] at q
    · rcases q with ⟨d, m, q⟩ | ⟨d, m, q⟩ <;> simp [C.h18, q, DoneE]
    · obtain ⟨m, q⟩ := q
      simp [C.h18, q, DoneE]
  | 4, _ =>
    have q := C.l21 u d1 o1 o2 t1 t2 h1 r1 r2 hu b1 b2
    unfold outC sAsked
    cases e : cutX nt nr nf u o1 o2 <;> rw [e] at q
    · rcases q with ⟨d, m, q⟩ | ⟨d, m, q⟩ <;> simp [C.h21, q, DoneE]
    · obtain ⟨m, q⟩ := q
      simp [C.h21, q, DoneE]
  | 5, _ =>
    have q := C.l17 u v d1 d2 h1 h2 hu hv
    unfold outC sAsked
    cases e : togC nt nr nf u v <;> rw [e] at q
    · rcases q with ⟨d, m, q⟩ | ⟨d, m, q⟩ <;> simp [C.h17, q, DoneE]
    · obtain ⟨m, q⟩ := q
      simp [C.h17, q, DoneE]
  | 6, _ =>
    have q := C.l18 u d1 o0 t0 h1 r0 hu b0
    unfold outC sAsked
    cases e : quickC nt nr nf u o0 <;> rw [e] at q
    · rcases q with ⟨d, m, q⟩ | ⟨d, m, q⟩ <;> simp [C.h18, q, DoneE, permR]
    · obtain ⟨m, q⟩ := q
      simp [C.h18, q, DoneE, permR]
  | 7, _ =>
    have q := C.l21 u d1 o1 o2 t1 t2 h1 r1 r2 hu b1 b2
    unfold outC sAsked
    cases e : cutX nt nr nf u o1 o2 <;> rw [e] at q
    · rcases q with ⟨d, m, q⟩ | ⟨d, m, q⟩ <;> simp [C.h21, q, DoneE, permR]
    · obtain ⟨m, q⟩ := q
      simp [C.h21, q, DoneE, permR]
  | 8, _ =>
    have q := C.l17 u v d1 d2 h1 h2 hu hv
    unfold outC sAsked
    cases e : togC nt nr nf u v <;> rw [e] at q
    · rcases q with ⟨d, m, q⟩ | ⟨d, m, q⟩ <;> simp [C.h17, q, DoneE, permR]
    · obtain ⟨m, q⟩ := q
      simp [C.h17, q, DoneE, permR]
theorem out_three {nt nr nf k : Nat} {u v : List Rp} {o0 o1 o2 : Option Int} (h1 : nt = 14) (h2 : nr = 5) (h3 : nf = 6) : Three (outC nt nr nf k u v o0 o1 o2) := by
  subst h1 h2 h3
  have hr : Three (rowC 14 5 u) := by unfold rowC Three; (repeat' split) <;> simp
  have hq : ∀ o, Three (quickC 14 5 6 u o) := fun o => by
    cases o with
    | none => unfold quickC Three; simp
    | some k =>
      unfold quickC
      simp only
      split
      · rename_i e
        rw [← e]; exact hr
      · unfold Three; split <;> simp
  have hc : ∀ o p, Three (cutX 14 5 6 u o p) := fun o p => by
    cases o with
    | none => unfold cutX Three; simp
    | some a =>
      cases p with
      | none => unfold cutX Three; simp
      | some b =>
        unfold cutX
        simp only
        split
        · rename_i e
          rw [← e]; exact hr
        · unfold Three; split <;> simp
  have ht : Three (togC 14 5 6 u v) := by unfold togC Three; (repeat' split) <;> simp
  unfold outC
  split <;> first | exact hr | exact hq _ | exact hc _ _ | exact ht
def AskedOut [Unt] (nt nr nf : Nat) (f : List Sl → Cres) : Prop := ∀ (k : Nat) (u v : List Rp) (d1 d2 : List D) (o0 o1 o2 : Option Int) (t0 t1 t2 : D), k < 9 → Two RawT u d1 → Two RawT v d2 → Rok u → Rok v → RawS o0 t0 → RawS o1 t1 → RawS o2 t2 → Sb o0 → Sb o1 → Sb o2 →
  match outC nt nr nf k u v o0 o1 o2 with
  | none => ∃ m, f [.fz (.int k), .fz (.lst d1), .fz (.lst d2), .fz (.lst [t0, t1, t2])] = .ok (.d .non) m
  | some x => ∃ m, f [.fz (.int k), .fz (.lst d1), .fz (.lst d2), .fz (.lst [t0, t1, t2])] = .ex ⟨x, none⟩ m
def ClassF (f : List Sl → Cres) : Prop := ∀ o, Three o → f [.fz (keptD o)] = .ok (.ol (codeL o)) .no
def sCaught (g32 g35 : Nat) : Ss := (.cons (.asg (.n 4) (.k .non))
  (.cons (.tr (.cons (.ex (.call g35 (.cons (.v 0) (.cons (.v 1) (.cons (.v 2) (.cons (.v 3) .nil))))))
  .nil) [⟨[0, 1, 2, 3, 4, 5, 6, 7, 8, 9, 10, 11, 12, 13], .keep 5 4⟩, ⟨[14], .keep 5 4⟩])
  (.cons (.ret (.call g32 (.cons (.v 4) .nil)))
  .nil)))
theorem ev_caught [Unt] {g32 g35 : Nat} (hpr : c.pr = false) (h32 : c.pm g32 = [.f]) (h35 : c.pm g35 = [.f, .f, .f, .f]) (l32 : ClassF (c.cf g32)) (l35 : AskedOut 14 5 6 (c.cf g35)) {k : Nat} (hk : k < 9) {u v : List Rp} {d1 d2 : List D} {o0 o1 o2 : Option Int} {t0 t1 t2 : D} (h1 : Two RawT u d1) (h2 : Two RawT v d2) (hu : Rok u) (hv : Rok v) (r0 : RawS o0 t0) (r1 : RawS o1 t1) (r2 : RawS o2 t2) (b0 : Sb o0) (b1 : Sb o1) (b2 : Sb o2) :
    ∃ G', evSs c (sCaught g32 g35) [.fz (.int k), .fz (.lst d1), .fz (.lst d2), .fz (.lst [t0, t1, t2]), .no, .no] = .rt (.ol (codeL (outC 14 5 6 k u v o0 o1 o2))) G' := by
  have q := l35 k u v d1 d2 o0 o1 o2 t0 t1 t2 hk h1 h2 hu hv r0 r1 r2 b0 b1 b2
  have th := out_three (nt := 14) (nr := 5) (nf := 6) (k := k) (u := u) (v := v) (o0 := o0) (o1 := o1) (o2 := o2) rfl rfl rfl
  have z := l32 _ th
  unfold sCaught
  generalize outC 14 5 6 k u v o0 o1 o2 = o at *
  rcases th with rfl | rfl | rfl | rfl <;> obtain ⟨m, q⟩ := q <;> simp [keptD] at z <;> simp [hpr, h32, h35, q, z]
end
end Pl

namespace Pl
open PySem Mp
/-! Re: bottoms. -/
theorem Two.append {α β : Type} {Q : α → β → Prop} {l l2 : List α} {m m2 : List β} (h : Two Q l m) (h2 : Two Q l2 m2) : Two Q (l ++ l2) (m ++ m2) := by
  induction h with
  | nil => exact h2
  | cons q _ ih => exact .cons q ih
theorem inD_i2 (k a b : Int) : inD (.int k) [.int a, .int b] = some (decide (k = a) || decide (k = b)) := by
  unfold inD
  simp [D.toP, D.toPs, SeqAt.shaped, PyData.canLay0, PyData.canLayAll0, PyData.depth, PyData.depthAll, PyData.eqv]
  have e : ∀ x : Int, (x == k) = decide (k = x) := fun x => by
    by_cases h : k = x
    · subst h; simp
    · have h' : ¬ x = k := fun z => h z.symm
      simp [h, h']
  rw [e, e]
theorem inD_is {k : Int} {l : List Int} : inD (.int k) (l.map .int) = some (decide (k ∈ l)) := by
  have e : D.toPs (l.map .int) = some (l.map fun q => PyData.int q) := by
    induction l with
    | nil => simp [D.toPs]
    | cons q qs ih => simp only [List.map_cons, D.toPs, D.toP, ih]
  obtain ⟨p2, e2, c2, d2⟩ := (pln_map (f := D.int) (n := 1) (l := l) fun q => .int).toP
  have e3 : D.toP (.lst (l.map .int)) = some (.list (l.map fun q => PyData.int q)) := by rw [D.toP, e]; rfl
  rw [e3] at e2
  obtain rfl := Option.some.inj e2
  unfold inD
  have s1 : SeqAt.shaped (PyData.int k) = true := by simp [SeqAt.shaped, PyData.canLay0, PyData.depth]
  simp only [D.toP, e, s1, shaped_of c2 d2 (by omega), Bool.and_self, if_true]
  congr 1
  rw [Bool.eq_iff_iff, List.any_eq_true, decide_eq_true_iff]
  constructor
  · rintro ⟨z, hz, h⟩
    obtain ⟨q, hq, rfl⟩ := List.mem_map.mp hz
    simp [PyData.eqv] at h
    rw [← h]
    exact hq
  · intro h
    exact ⟨_, List.mem_map.mpr ⟨k, h, rfl⟩, by simp [PyData.eqv]⟩
def tlBottoms : Ss := (.cons (.ret (.lent 4 (.lc [7] (.n 7) (.e (.v 4)) .no (.ix (.v 7) (.k (.int 1))))))
  .nil)
def sBottomsT (tl : Ss) : Ss := (.cons (.asg (.n 4) (.lc [5, 6] (.t [(.n 5), (.n 6)]) (.e (.v 1)) .no (.v 6)))
  (.cons (.iff (.cm .isIn (.v 0) (.lst (.cons (.k (.int 5)) (.cons (.k (.int 8)) .nil)))) (.cons (.asg (.n 4) (.op .add (.v 4) (.lc [5, 6] (.t [(.n 5), (.n 6)]) (.e (.v 2)) .no (.v 6))))
  .nil) .nil)
  (.cons (.iff (.cm .isIn (.v 0) (.lst (.cons (.k (.int 3)) (.cons (.k (.int 6)) .nil)))) (.cons (.ex (.lm .append (.v 4) (.cons (.ix (.v 3) (.k (.int 0))) .nil)))
  .nil) .nil)
  (.cons (.iff (.cm .isIn (.v 0) (.lst (.cons (.k (.int 4)) (.cons (.k (.int 7)) .nil)))) (.cons (.asg (.n 4) (.op .add (.v 4) (.sl (.v 3) (.so (.k (.int 1))) .no)))
  .nil) .nil)
  tl))))
def sBottoms : Ss := sBottomsT tlBottoms
/-- the times whose bottoms count -/
def osOf (k : Int) (u v : List Rp) (o0 o1 o2 : Option Int) : List (Option Int) := u.map (·.2) ++ ((if (decide (k = 5) || decide (k = 8)) = true then v.map (·.2) else []) ++ ((if (decide (k = 3) || decide (k = 6)) = true then [o0] else []) ++ (if (decide (k = 4) || decide (k = 7)) = true then [o1, o2] else [])))
section
variable {c : Cf}
theorem times_of [Unt] {u : List Rp} {ds : List D} (h : Two RawT u ds) : ∃ ts : List D, Two RawS (u.map (·.2)) ts ∧ ∀ (acc : List D) (s0 s1 s2 s3 s4 s7 : Sl), acc.length + u.length ≤ sizeLine → lcLoop (lcT c [5, 6] (.t [.n 5, .n 6]) .no (.v 6)) ds acc [s0, s1, s2, s3, s4, .no, .no, s7] = .ok (acc ++ ts) [s0, s1, s2, s3, s4, .no, .no, s7] := by
  induction h with
  | nil => exact ⟨[], .nil, fun acc _ _ _ _ _ _ _ => by simp⟩
  | @cons p d u ds h t ih =>
    obtain ⟨t0, rfl, ht⟩ := h
    obtain ⟨ts, h1, h2⟩ := ih
    refine ⟨t0 :: ts, .cons ht h1, fun acc s0 s1 s2 s3 s4 s7 hz => ?_⟩
    rw [List.length_cons] at hz
    rw [lc_cons (x := t0) (G1 := [s0, s1, s2, s3, s4, .no, .no, s7]) (by simp [lcT, wipeG]) (by omega), h2 _ _ _ _ _ _ _ (by rw [List.length_append]; simp; omega)]
    simp
theorem bots_of [Unt] {os : List (Option Int)} {ts : List D} (h : Two RawS os ts) : ∃ bs : List Int, (0 ∈ bs ↔ none ∈ os) ∧ ∀ (acc : List D) (s0 s1 s2 s3 s4 s5 s6 : Sl), acc.length + os.length ≤ sizeLine → lcLoop (lcT c [7] (.n 7) .no (.ix (.v 7) (.k (.int 1)))) ts acc [s0, s1, s2, s3, s4, s5, s6, .no] = .ok (acc ++ bs.map .int) [s0, s1, s2, s3, s4, s5, s6, .no] := by
  induction h with
  | nil => exact ⟨[], by simp, fun acc _ _ _ _ _ _ _ _ => by simp⟩
  | @cons o d os ts h t ih =>
    obtain ⟨a, b, rfl, hs, hq⟩ := h
    obtain ⟨bs, h1, h2⟩ := ih
    refine ⟨b :: bs, ?_, fun acc s0 s1 s2 s3 s4 s5 s6 hz => ?_⟩
    · cases o with
      | none => simp at hq; subst hq; simp
      | some k =>
        obtain ⟨q1, q2⟩ := hq
        simp only [List.mem_cons, h1]
        constructor
        · rintro (z | z)
          · exact absurd z.symm q1
          · exact .inr z
        · rintro (z | z)
          · cases z
          · exact .inr z
    · rw [List.length_cons] at hz
      rw [lc_cons (x := .int b) (G1 := [s0, s1, s2, s3, s4, s5, s6, .no]) (by simp [lcT, wipeG, tDs]) (by omega), h2 _ _ _ _ _ _ _ _ (by rw [List.length_append]; simp; omega)]
      simp
theorem ev_bottoms [Unt] (hpr : c.pr = false) {k : Int} {u v : List Rp} {d1 d2 : List D} {o0 o1 o2 : Option Int} {t0 t1 t2 : D} (h1 : Two RawT u d1) (h2 : Two RawT v d2) (hu : Rok u) (hv : Rok v) (r0 : RawS o0 t0) (r1 : RawS o1 t1) (r2 : RawS o2 t2) :
    ∃ (bs : List Int) (G' : List Sl), (0 ∈ bs ↔ none ∈ osOf k u v o0 o1 o2) ∧ evSs c sBottoms [.fz (.int k), .fz (.lst d1), .fz (.lst d2), .fz (.lst [t0, t1, t2]), .no, .no, .no, .no] = .rt (.ol (bs.map .int)) G' := by
  have hsz : 1000 ≤ sizeLine := by decide
  have zu := hu.2
  have zv := hv.2
  obtain ⟨ts, a1, a2⟩ := times_of (c := c) h1
  obtain ⟨tv, b1, b2⟩ := times_of (c := c) h2
  have lts := a1.length
  have ltv := b1.length
  rw [List.length_map] at lts ltv
  have x1 := inD_i2 k 5 8
  have x2 := inD_i2 k 3 6
  have x3 := inD_i2 k 4 7
  have ct : cutD [t0, t1, t2] (some 1) none = [t1, t2] := by rfl
  have A2 := a2 [] (.fz (.int k)) (.fz (.lst d1)) (.fz (.lst d2)) (.fz (.lst [t0, t1, t2])) .no .no (by simp; omega)
  have B2 := b2 [] (.fz (.int k)) (.fz (.lst d1)) (.fz (.lst d2)) (.fz (.lst [t0, t1, t2])) (.ol ts) .no (by simp; omega)
  simp only [List.nil_append] at A2 B2
  unfold osOf
  cases h5 : (decide (k = 5) || decide (k = 8)) <;> cases h3 : (decide (k = 3) || decide (k = 6)) <;> cases h4 : (decide (k = 4) || decide (k = 7)) <;> rw [h5] at x1 <;> rw [h3] at x2 <;> rw [h4] at x3 <;> simp only [Bool.false_eq_true, if_false, if_true, List.append_nil, List.nil_append]
  all_goals
    have fin : ∀ {os : List (Option Int)} {W : List D}, Two RawS os W → W.length ≤ 600 → (∀ tl, evSs c (sBottomsT tl) [.fz (.int k), .fz (.lst d1), .fz (.lst d2), .fz (.lst [t0, t1, t2]), .no, .no, .no, .no] = evSs c tl [.fz (.int k), .fz (.lst d1), .fz (.lst d2), .fz (.lst [t0, t1, t2]), .ol W, .no, .no, .no]) →
      ∃ (bs : List Int) (G' : List Sl), (0 ∈ bs ↔ none ∈ os) ∧ evSs c sBottoms [.fz (.int k), .fz (.lst d1), .fz (.lst d2), .fz (.lst [t0, t1, t2]), .no, .no, .no, .no] = .rt (.ol (bs.map .int)) G' := fun {os W} hw hz key => by
        obtain ⟨bs, e1, e2⟩ := bots_of (c := c) hw
        have lw := hw.length
        refine ⟨bs, [.fz (.int k), .fz (.lst d1), .fz (.lst d2), .fz (.lst [t0, t1, t2]), .ol W, .no, .no, .no], e1, ?_⟩
        unfold sBottoms
        rw [key]
        unfold tlBottoms
        have E := e2 [] (.fz (.int k)) (.fz (.lst d1)) (.fz (.lst d2)) (.fz (.lst [t0, t1, t2])) (.bw W) .no .no (by simp; omega)
        simp only [List.nil_append] at E
        simp [plainA, wipeG, E, backG]
  · exact fin a1 (by omega) fun tl => by
      unfold sBottomsT
      simp [hpr, plainA, wipeG, A2, backG, x1, x2, x3]
  · exact fin (a1.append (.cons r1 (.cons r2 .nil))) (by simp; omega) fun tl => by
      unfold sBottomsT
      have z : ts.length + 1 + 1 ≤ sizeLine := by omega
      simp [hpr, plainA, wipeG, A2, backG, x1, x2, x3, slF, intR, ct, z]
  · exact fin (a1.append (.cons r0 .nil)) (by simp; omega) fun tl => by
      unfold sBottomsT
      have z : ts.length < sizeLine := by omega
      simp [hpr, plainA, wipeG, A2, backG, x1, x2, x3, z]
  · exact fin (a1.append (.cons r0 (.cons r1 (.cons r2 .nil)))) (by simp; omega) fun tl => by
      unfold sBottomsT
      have z : ts.length < sizeLine := by omega
      have z2 : ts.length + 1 + 1 + 1 ≤ sizeLine := by omega
      simp [hpr, plainA, wipeG, A2, backG, x1, x2, x3, slF, intR, ct, z, z2]
  · exact fin (a1.append b1) (by simp; omega) fun tl => by
      unfold sBottomsT
      have z : ts.length + tv.length ≤ sizeLine := by omega
      simp [hpr, plainA, wipeG, A2, B2, backG, x1, x2, x3, z]
  · exact fin (a1.append (b1.append (.cons r1 (.cons r2 .nil)))) (by simp; omega) fun tl => by
      unfold sBottomsT
      have z : ts.length + tv.length ≤ sizeLine := by omega
      have z2 : ts.length + tv.length + 1 + 1 ≤ sizeLine := by omega
      simp [hpr, plainA, wipeG, A2, B2, backG, x1, x2, x3, slF, intR, ct, z, z2]
  · exact fin (a1.append (b1.append (.cons r0 .nil))) (by simp; omega) fun tl => by
      unfold sBottomsT
      have z : ts.length + tv.length ≤ sizeLine := by omega
      have z2 : ts.length + tv.length < sizeLine := by omega
      simp [hpr, plainA, wipeG, A2, B2, backG, x1, x2, x3, z, z2]
  · exact fin (a1.append (b1.append (.cons r0 (.cons r1 (.cons r2 .nil))))) (by simp; omega) fun tl => by
      unfold sBottomsT
      have z : ts.length + tv.length ≤ sizeLine := by omega
      have z1 : ts.length + tv.length < sizeLine := by omega
      have z2 : ts.length + (tv.length + 1) + 2 ≤ sizeLine := by omega
      simp [hpr, plainA, wipeG, A2, B2, backG, x1, x2, x3, slF, intR, ct, z, z1, z2]
end
end Pl

namespace Pl
open PySem Mp
/-! Rf: heard rows, how long they are. -/
def bGood (g26 g29 : Nat) : Ss := (.cons (.iff (.or (.cm .notIn (.v 1) (.lst (.cons (.k (.str "note")) (.cons (.k (.str "rest")) .nil)))) (.not (.call g29 (.cons (.tup (.cons (.k (.int 0)) (.cons (.k (.int 1)) .nil))) (.cons (.call g26 (.cons (.ix (.v 2) (.k (.int 0))) (.cons (.ix (.v 2) (.k (.int 1))) .nil))) .nil))))) (.cons (.ret (.k (.bl false)))
  .nil) .nil)
  .nil)
def sGood (g26 g29 : Nat) : Ss := (.cons (.for (.t [(.n 1), (.n 2)]) (.e (.v 0)) (bGood g26 g29))
  (.cons (.ret (.k (.bl true)))
  .nil))
def sLongOf (g26 g30 : Nat) : Ss := (.cons (.ret (.call g30 (.cons (.lc [1, 2] (.t [(.n 1), (.n 2)]) (.e (.v 0)) .no (.call g26 (.cons (.ix (.v 2) (.k (.int 0))) (.cons (.ix (.v 2) (.k (.int 1))) .nil)))) .nil)))
  .nil)
theorem for_rt {b : D → List Sl → Out} {d : D} {ds : List D} {G G1 : List Sl} {r : Mp.R} (h : b d G = .rt r G1) : forF b (d :: ds) G = .rt r G1 := by
  rw [forF, h]
section
variable {c : Cf} {g26 g29 g30 : Nat}
/-- a told time, made anew -/
theorem Low.raw [Unt] {f : List Sl → Cres} (h : Low f) {a b k : Int} (hs : b.natAbs.log2 < 8999) (hq : b ≠ 0 ∧ Rat.divInt a b = uR k) : ∃ m, f [.fz (.int a), .fz (.int b)] = .ok (.d (tU k)) m := by
  obtain ⟨m, e⟩ := h a b hq.1 hs
  rw [hq.2] at e
  exact ⟨m, e⟩
theorem loop_good [Unt] (hpr : c.pr = false) (h26 : c.pm g26 = [.f, .f]) (h29 : c.pm g29 = [.f, .f]) (l26 : Low (c.cf g26)) (l29 : UndU (c.cf g29)) {R : D} : ∀ {u : List Rp} {ds : List D} {s1 s2 : Sl}, Two RawT u ds → Bnd0 u → full u = true →
    (good u = true → ∃ s1' s2', forF (forT c (.t [.n 1, .n 2]) (bGood g26 g29)) ds [.fz R, s1, s2] = .nx [.fz R, s1', s2']) ∧ (good u = false → ∃ G', forF (forT c (.t [.n 1, .n 2]) (bGood g26 g29)) ds [.fz R, s1, s2] = .rt (.d (.bl false)) G')
  | _, _, s1, s2, .nil, _, _ => ⟨fun _ => ⟨s1, s2, rfl⟩, fun z => by simp [good] at z⟩
  | _, _, s1, s2, .cons (a := p) (b := d) (l := u) (m := ds) ht t, h, hf => by
    obtain ⟨hw, b1, b2⟩ := h p List.mem_cons_self
    obtain ⟨t0, rfl, a, b, rfl, hs, hq⟩ := ht
    have hf2 : p.2.isSome = true ∧ full u = true := by simpa [full] using hf
    obtain ⟨w, o⟩ := p
    obtain ⟨k, rfl⟩ := Option.isSome_iff_exists.mp hf2.1
    simp only [Option.getD_some] at b1 b2
    obtain ⟨m1, e1⟩ := l26.raw hs hq
    obtain ⟨m, e⟩ := l29 0 k (by decide) (by decide) (by simp only [Mr, Bd] at *; omega) (by simp only [Mr, Bd] at *; omega)
    rw [← nought] at e
    have kw := k_inW hw
    have eg : good ((w, some k) :: u) = (gd (w, some k) && good u) := by simp [good]
    rw [eg]
    cases hp : gd (w, some k) with
    | true =>
      obtain ⟨q1, q2⟩ := Bool.and_eq_true_iff.mp hp
      have q2 := of_decide_eq_true q2
      simp only [Option.getD_some] at q1 q2
      have turn : forT c (.t [.n 1, .n 2]) (bGood g26 g29) (.tup [.str w, tDs a b]) [.fz R, s1, s2] = .nx [.fz R, .fz (.str w), .fz (tDs a b)] := by
        unfold tDs
        simp [forT, bGood, hpr, kw, q1, h26, e1, h29, e, q2]
      obtain ⟨i1, i2⟩ := loop_good hpr h26 h29 l26 l29 (R := R) (u := u) (s1 := .fz (.str w)) (s2 := .fz (tDs a b)) t (fun p hp => h p (List.mem_cons_of_mem _ hp)) hf2.2
      simp only [Bool.true_and]
      rw [for_cons turn]
      exact ⟨i1, i2⟩
    | false =>
      refine ⟨fun z => by simp at z, fun _ => ?_⟩
      have turn : forT c (.t [.n 1, .n 2]) (bGood g26 g29) (.tup [.str w, tDs a b]) [.fz R, s1, s2] = .rt (.d (.bl false)) [.fz R, .fz (.str w), .fz (tDs a b)] := by
        unfold tDs
        cases hk : kOk w with
        | false => simp [forT, bGood, hpr, kw, hk]
        | true =>
          have : ¬ 0 < k := fun z => by
            unfold gd at hp
            simp only [Option.getD_some] at hp
            rw [hk, decide_eq_true z] at hp
            cases hp
          simp [forT, bGood, hpr, kw, hk, h26, e1, h29, e, this]
      exact ⟨_, for_rt turn⟩
theorem ev_good [Unt] (hpr : c.pr = false) (h26 : c.pm g26 = [.f, .f]) (h29 : c.pm g29 = [.f, .f]) (l26 : Low (c.cf g26)) (l29 : UndU (c.cf g29)) {u : List Rp} {ds : List D} (t : Two RawT u ds) (hu : Bnd0 u) (hf : full u = true) : ∃ G', evSs c (sGood g26 g29) [.fz (.lst ds), .no, .no] = .rt (.d (.bl (good u))) G' := by
  obtain ⟨k1, k2⟩ := loop_good hpr h26 h29 l26 l29 (R := .lst ds) (s1 := .no) (s2 := .no) t hu hf
  unfold sGood
  cases hg : good u with
  | true =>
    obtain ⟨a, b, e⟩ := k1 hg
    exact ⟨_, by simp [e]; rfl⟩
  | false =>
    obtain ⟨G', e⟩ := k2 hg
    exact ⟨_, by simp [e]; rfl⟩
def GoodF [Unt] (f : List Sl → Cres) : Prop := ∀ (u : List Rp) (ds : List D), Two RawT u ds → Bnd0 u → full u = true → ∃ m, f [.fz (.lst ds)] = .ok (.d (.bl (good u))) m
theorem mades_of [Unt] (h26 : c.pm g26 = [.f, .f]) (l26 : Low (c.cf g26)) {u : List Rp} {ds : List D} (h : Two RawT u ds) (hf : full u = true) : ∀ (acc : List D) (s0 : Sl), acc.length + u.length ≤ sizeLine → lcLoop (lcT c [1, 2] (.t [.n 1, .n 2]) .no (.call g26 (.cons (.ix (.v 2) (.k (.int 0))) (.cons (.ix (.v 2) (.k (.int 1))) .nil)))) ds acc [s0, .no, .no] = .ok (acc ++ (asU u).map fun p => tU p.2) [s0, .no, .no] := by
  induction h with
  | nil => exact fun acc _ _ => by simp [asU]
  | @cons p d u ds h t ih =>
    obtain ⟨t0, rfl, a, b, rfl, hs, hq⟩ := h
    have hf2 : p.2.isSome = true ∧ full u = true := by simpa [full] using hf
    obtain ⟨w, o⟩ := p
    obtain ⟨k, rfl⟩ := Option.isSome_iff_exists.mp hf2.1
    obtain ⟨m1, e1⟩ := l26.raw hs hq
    intro acc s0 hz
    rw [List.length_cons] at hz
    rw [lc_cons (x := tU k) (G1 := [s0, .no, .no]) (by simp [lcT, wipeG, tDs, h26, e1]) (by omega), ih hf2.2 _ _ (by rw [List.length_append]; simp; omega)]
    simp [asU]
theorem all_mapU [Unt] {g24 : Nat} (l24 : All (c.cf g24)) {u : List Un} (hg : Gu Bd u) : ∃ m, c.cf g24 [.fz (.lst (u.map fun p => tU p.2))] = .ok (.d (tU (tot u))) m := by
  have em : u.map (fun p => tU p.2) = (u.map (fun p : Un => p.2)).map tU := by rw [List.map_map]; rfl
  obtain ⟨m2, a2⟩ := l24 (u.map (fun p : Un => p.2)) (fun p hp => by
    obtain ⟨q, hq, rfl⟩ := List.mem_map.mp hp
    exact hg.1 q hq) hg.2
  rw [← em] at a2
  have et : (u.map (fun p : Un => p.2)).sum = tot u := by rfl
  rw [et] at a2
  exact ⟨m2, a2⟩
theorem ev_longOf [Unt] (hpr : c.pr = false) (h26 : c.pm g26 = [.f, .f]) (h30 : c.pm g30 = [.f]) (l26 : Low (c.cf g26)) (l30 : All (c.cf g30)) {u : List Rp} {ds : List D} (t : Two RawT u ds) (hu : Rok u) (hf : full u = true) (hg : good u = true) : ∃ G', evSs c (sLongOf g26 g30) [.fz (.lst ds), .no, .no] = .rt (.d (tU (tot (asU u)))) G' := by
  have hsz : 1000 ≤ sizeLine := by decide
  have zu := hu.2
  obtain ⟨q1, q2, q3⟩ := asU_gu hu hg
  obtain ⟨m, e⟩ := all_mapU (c := c) (g24 := g30) l30 q1
  have E := mades_of h26 l26 t hf [] (.fz (.lst ds)) (by simp; omega)
  simp only [List.nil_append] at E
  unfold sLongOf
  exact ⟨_, by simp [plainA, wipeG, E, backG, h30, e]; rfl⟩
def LongF [Unt] (f : List Sl → Cres) : Prop := ∀ (u : List Rp) (ds : List D), Two RawT u ds → Rok u → full u = true → good u = true → ∃ m, f [.fz (.lst ds)] = .ok (.d (tU (tot (asU u)))) m
end
end Pl

namespace Pl
open PySem Mp
/-! Rg: what is due. -/
def dA (g26 g29 g37 g38 g39 : Nat) : S := (.iff (.cm .isIn (.k (.int 0)) (.call g37 (.cons (.v 0) (.cons (.v 1) (.cons (.v 2) (.cons (.v 3) .nil)))))) (.cons (.ret (.lst (.cons (.k (.int 13)) .nil)))
  .nil) .nil)
def dB (g26 g29 g37 g38 g39 : Nat) : S := (.iff (.or (.not (.call g38 (.cons (.v 1) .nil))) (.and (.cm .isIn (.v 0) (.lst (.cons (.k (.int 5)) (.cons (.k (.int 8)) .nil)))) (.not (.call g38 (.cons (.v 2) .nil))))) (.cons (.ret (.lst (.cons (.k (.int 4)) .nil)))
  .nil) .nil)
def dC (g26 g29 g37 g38 g39 : Nat) : S := (.asg (.t [(.n 4), (.n 5), (.n 6)]) (.lc [7] (.n 7) (.e (.v 3)) .no (.call g26 (.cons (.ix (.v 7) (.k (.int 0))) (.cons (.op .add (.ix (.v 7) (.k (.int 1))) (.bi .int (.cons (.cm .eq (.ix (.v 7) (.k (.int 1))) (.k (.int 0))) .nil))) .nil)))))
def dD (g26 g29 g37 g38 g39 : Nat) : S := (.iff (.cm .isIn (.v 0) (.lst (.cons (.k (.int 3)) (.cons (.k (.int 6)) .nil)))) (.cons (.ret (.ix (.lst (.cons (.lst (.cons (.k (.int 5)) .nil)) (.cons (.lst .nil) .nil))) (.bi .int (.cons (.call g29 (.cons (.tup (.cons (.k (.int 0)) (.cons (.k (.int 1)) .nil))) (.cons (.v 4) .nil))) .nil))))
  .nil) .nil)
def dE (g26 g29 g37 g38 g39 : Nat) : S := (.iff (.cm .isIn (.v 0) (.lst (.cons (.k (.int 4)) (.cons (.k (.int 7)) .nil)))) (.cons (.asg (.n 8) (.and (.not (.call g29 (.cons (.v 5) (.cons (.tup (.cons (.k (.int 0)) (.cons (.k (.int 1)) .nil))) .nil)))) (.and (.call g29 (.cons (.v 5) (.cons (.v 6) .nil))) (.not (.call g29 (.cons (.call g39 (.cons (.v 1) .nil)) (.cons (.v 6) .nil)))))))
  (.cons (.ret (.ix (.lst (.cons (.lst (.cons (.k (.int 5)) .nil)) (.cons (.lst .nil) .nil))) (.bi .int (.cons (.v 8) .nil))))
  .nil)) .nil)
def dF (g26 g29 g37 g38 g39 : Nat) : S := (.iff (.and (.cm .isIn (.v 0) (.lst (.cons (.k (.int 5)) (.cons (.k (.int 8)) .nil)))) (.cm .ne (.call g39 (.cons (.v 1) .nil)) (.call g39 (.cons (.v 2) .nil)))) (.cons (.ret (.lst (.cons (.k (.int 5)) .nil)))
  .nil) .nil)
def dG (g26 g29 g37 g38 g39 : Nat) : S := (.ret (.lst .nil))
def sDue (g26 g29 g37 g38 g39 : Nat) : Ss := (.cons (dA g26 g29 g37 g38 g39)
  (.cons (dB g26 g29 g37 g38 g39)
  (.cons (dC g26 g29 g37 g38 g39)
  (.cons (dD g26 g29 g37 g38 g39)
  (.cons (dE g26 g29 g37 g38 g39)
  (.cons (dF g26 g29 g37 g38 g39)
  (.cons (dG g26 g29 g37 g38 g39)
  .nil)))))))

abbrev b5 (k : Int) : Bool := decide (k = 5) || decide (k = 8)
abbrev b3 (k : Int) : Bool := decide (k = 3) || decide (k = 6)
abbrev b4 (k : Int) : Bool := decide (k = 4) || decide (k = 7)
theorem full_iff {u : List Rp} : full u = true ↔ none ∉ u.map (·.2) := by
  unfold full
  rw [List.all_eq_true]
  constructor
  · intro h z
    obtain ⟨p, hp, e⟩ := List.mem_map.mp z
    have := h p hp
    rw [e] at this
    cases this
  · intro h p hp
    cases e : p.2 with
    | none => exact absurd (List.mem_map.mpr ⟨p, hp, e⟩) h
    | some k => rfl
theorem kinds {nt nr nf k : Nat} (hk : k < 9) {u v : List Rp} {o0 o1 o2 : Option Int} :
    (b5 k = false ∧ b3 k = false ∧ b4 k = false ∧ outC nt nr nf k u v o0 o1 o2 = rowC nt nr u) ∨ (b5 k = true ∧ b3 k = false ∧ b4 k = false ∧ outC nt nr nf k u v o0 o1 o2 = togC nt nr nf u v) ∨
    (b5 k = false ∧ b3 k = true ∧ b4 k = false ∧ outC nt nr nf k u v o0 o1 o2 = quickC nt nr nf u o0) ∨ (b5 k = false ∧ b3 k = false ∧ b4 k = true ∧ outC nt nr nf k u v o0 o1 o2 = cutX nt nr nf u o1 o2) := by
  match k, hk with
  | 0, _ => exact .inl ⟨by decide, by decide, by decide, rfl⟩
  | 1, _ => exact .inl ⟨by decide, by decide, by decide, rfl⟩
  | 2, _ => exact .inl ⟨by decide, by decide, by decide, rfl⟩
  | 3, _ => exact .inr (.inr (.inl ⟨by decide, by decide, by decide, rfl⟩))
  | 4, _ => exact .inr (.inr (.inr ⟨by decide, by decide, by decide, rfl⟩))
  | 5, _ => exact .inr (.inl ⟨by decide, by decide, by decide, rfl⟩)
  | 6, _ => exact .inr (.inr (.inl ⟨by decide, by decide, by decide, rfl⟩))
  | 7, _ => exact .inr (.inr (.inr ⟨by decide, by decide, by decide, rfl⟩))
  | 8, _ => exact .inr (.inl ⟨by decide, by decide, by decide, rfl⟩)
def BotF [Unt] (f : List Sl → Cres) : Prop := ∀ (k : Int) (u v : List Rp) (d1 d2 : List D) (o0 o1 o2 : Option Int) (t0 t1 t2 : D), Two RawT u d1 → Two RawT v d2 → Rok u → Rok v → RawS o0 t0 → RawS o1 t1 → RawS o2 t2 →
  ∃ (bs : List Int) (m : Sl), (0 ∈ bs ↔ none ∈ osOf k u v o0 o1 o2) ∧ f [.fz (.int k), .fz (.lst d1), .fz (.lst d2), .fz (.lst [t0, t1, t2])] = .ok (.ol (bs.map .int)) m
section
variable {c : Cf} {g26 g29 g37 g38 g39 : Nat}
structure DueF [Unt] (c : Cf) (g26 g29 g37 g38 g39 : Nat) : Prop where
  pr : c.pr = false
  h26 : c.pm g26 = [.f, .f]
  h29 : c.pm g29 = [.f, .f]
  h37 : c.pm g37 = [.f, .f, .f, .f]
  h38 : c.pm g38 = [.f]
  h39 : c.pm g39 = [.f]
  l26 : Low (c.cf g26)
  l29 : UndU (c.cf g29)
  l37 : BotF (c.cf g37)
  l38 : GoodF (c.cf g38)
  l39 : LongF (c.cf g39)
/-- a spot, made anew, a bottom of nought taken for one -/
theorem spot_of [Unt] (h26 : c.pm g26 = [.f, .f]) (l26 : Low (c.cf g26)) {o : Option Int} {t : D} (h : RawS o t) : ∃ x : D, (∀ k, o = some k → x = tU k) ∧ ∀ (s0 s1 s2 s3 s4 s5 s6 s8 : Sl), lcT c [7] (.n 7) .no (.call g26 (.cons (.ix (.v 7) (.k (.int 0))) (.cons (.op .add (.ix (.v 7) (.k (.int 1))) (.bi .int (.cons (.cm .eq (.ix (.v 7) (.k (.int 1))) (.k (.int 0))) .nil))) .nil))) t [s0, s1, s2, s3, s4, s5, s6, .no, s8] = .ok (some x) [s0, s1, s2, s3, s4, s5, s6, .no, s8] := by
  obtain ⟨a, b, rfl, hs, hq⟩ := h
  cases o with
  | none =>
    simp only at hq
    subst hq
    obtain ⟨m, e⟩ := l26 a 1 (by decide) (by decide)
    exact ⟨tD (Rat.divInt a 1), fun k z => (nomatch z), fun s0 s1 s2 s3 s4 s5 s6 s8 => by simp [lcT, wipeG, tDs, h26, e]⟩
  | some k =>
    obtain ⟨m, e⟩ := l26.raw hs hq
    have hb : ¬ b = 0 := hq.1
    refine ⟨tU k, fun k' z => by injection z with z; rw [z], fun s0 s1 s2 s3 s4 s5 s6 s8 => ?_⟩
    simp [lcT, wipeG, tDs, h26, e, hb]
/-- what is due, so far: no bottom of nought, rows heard -/
theorem due_low [Unt] (C : DueF c g26 g29 g37 g38 g39) {k : Nat} {u v : List Rp} {d1 d2 : List D} {o0 o1 o2 : Option Int} {t0 t1 t2 : D} (h1 : Two RawT u d1) (h2 : Two RawT v d2) (hu : Rok u) (hv : Rok v) (r0 : RawS o0 t0) (r1 : RawS o1 t1) (r2 : RawS o2 t2) :
    (none ∈ osOf k u v o0 o1 o2 → ∃ G', evSs c (sDue g26 g29 g37 g38 g39) [.fz (.int k), .fz (.lst d1), .fz (.lst d2), .fz (.lst [t0, t1, t2]), .no, .no, .no, .no, .no] = .rt (.ol [.int 13]) G') ∧
    (none ∉ osOf k u v o0 o1 o2 → evSs c (sDue g26 g29 g37 g38 g39) [.fz (.int k), .fz (.lst d1), .fz (.lst d2), .fz (.lst [t0, t1, t2]), .no, .no, .no, .no, .no] = evSs c (.cons (dB g26 g29 g37 g38 g39) (.cons (dC g26 g29 g37 g38 g39) (.cons (dD g26 g29 g37 g38 g39) (.cons (dE g26 g29 g37 g38 g39) (.cons (dF g26 g29 g37 g38 g39) (.cons (dG g26 g29 g37 g38 g39) .nil)))))) [.fz (.int k), .fz (.lst d1), .fz (.lst d2), .fz (.lst [t0, t1, t2]), .no, .no, .no, .no, .no]) := by
  obtain ⟨bs, m, e1, e2⟩ := C.l37 k u v d1 d2 o0 o1 o2 t0 t1 t2 h1 h2 hu hv r0 r1 r2
  have q := inD_is (k := 0) (l := bs)
  unfold sDue
  refine ⟨fun z => ?_, fun z => ?_⟩
  · rw [decide_eq_true (e1.mpr z)] at q
    unfold dA
    exact ⟨_, by simp [C.h37, e2, q]; rfl⟩
  · rw [decide_eq_false (fun w => z (e1.mp w))] at q
    rw [v_scons]
    have : evS c (dA g26 g29 g37 g38 g39) [.fz (.int k), .fz (.lst d1), .fz (.lst d2), .fz (.lst [t0, t1, t2]), .no, .no, .no, .no, .no] = .nx [.fz (.int k), .fz (.lst d1), .fz (.lst d2), .fz (.lst [t0, t1, t2]), .no, .no, .no, .no, .no] := by
      unfold dA
      simp [C.h37, e2, q]
    rw [this, q_nx]
theorem due_rows [Unt] (C : DueF c g26 g29 g37 g38 g39) {k : Nat} {u v : List Rp} {d1 d2 : List D} {o0 o1 o2 : Option Int} {t0 t1 t2 : D} (h1 : Two RawT u d1) (h2 : Two RawT v d2) (hu : Rok u) (hv : Rok v) (r0 : RawS o0 t0) (r1 : RawS o1 t1) (r2 : RawS o2 t2) (hf : full u = true) (hf2 : b5 k = true → full v = true) {tl : Ss} :
    (good u = false ∨ (b5 k = true ∧ good v = false) → ∃ G', evSs c (.cons (dB g26 g29 g37 g38 g39) tl) [.fz (.int k), .fz (.lst d1), .fz (.lst d2), .fz (.lst [t0, t1, t2]), .no, .no, .no, .no, .no] = .rt (.ol [.int 4]) G') ∧
    (good u = true → (b5 k = true → good v = true) → evSs c (.cons (dB g26 g29 g37 g38 g39) tl) [.fz (.int k), .fz (.lst d1), .fz (.lst d2), .fz (.lst [t0, t1, t2]), .no, .no, .no, .no, .no] = evSs c tl [.fz (.int k), .fz (.lst d1), .fz (.lst d2), .fz (.lst [t0, t1, t2]), .no, .no, .no, .no, .no]) := by
  obtain ⟨m, e⟩ := C.l38 u d1 h1 hu.1 hf
  have x1 := inD_i2 k 5 8
  cases hk : b5 k with
  | false =>
    rw [show (decide ((k : Int) = 5) || decide ((k : Int) = 8)) = false from hk] at x1
    refine ⟨fun z => ?_, fun z _ => ?_⟩
    · have z : good u = false := z.elim id fun w => by cases w.1
      rw [z] at e
      unfold dB
      exact ⟨_, by simp [C.h38, e]; rfl⟩
    · rw [z] at e
      unfold dB
      simp [C.h38, e, x1]
  | true =>
    rw [show (decide ((k : Int) = 5) || decide ((k : Int) = 8)) = true from hk] at x1
    obtain ⟨m2, e2⟩ := C.l38 v d2 h2 hv.1 (hf2 hk)
    refine ⟨fun z => ?_, fun z z2 => ?_⟩
    · cases hg : good u with
      | false =>
        rw [hg] at e
        unfold dB
        exact ⟨_, by simp [C.h38, e]; rfl⟩
      | true =>
        have z : good v = false := z.elim (fun w => by rw [hg] at w; cases w) fun w => w.2
        rw [hg] at e
        rw [z] at e2
        unfold dB
        exact ⟨_, by simp [C.h38, e, x1, e2]; rfl⟩
    · rw [z] at e
      rw [z2 rfl] at e2
      unfold dB
      simp [C.h38, e, x1, e2]
theorem due_spots [Unt] (C : DueF c g26 g29 g37 g38 g39) {k : Nat} {u v : List Rp} {d1 d2 : List D} {o0 o1 o2 : Option Int} {t0 t1 t2 : D} (r0 : RawS o0 t0) (r1 : RawS o1 t1) (r2 : RawS o2 t2) {tl : Ss} :
    ∃ x0 x1 x2 : D, (∀ k, o0 = some k → x0 = tU k) ∧ (∀ k, o1 = some k → x1 = tU k) ∧ (∀ k, o2 = some k → x2 = tU k) ∧
    evSs c (.cons (dC g26 g29 g37 g38 g39) tl) [.fz (.int k), .fz (.lst d1), .fz (.lst d2), .fz (.lst [t0, t1, t2]), .no, .no, .no, .no, .no] = evSs c tl [.fz (.int k), .fz (.lst d1), .fz (.lst d2), .fz (.lst [t0, t1, t2]), .fz x0, .fz x1, .fz x2, .no, .no] := by
  have hsz : 1000 ≤ sizeLine := by decide
  obtain ⟨x0, q0, e0⟩ := spot_of C.h26 C.l26 r0
  obtain ⟨x1, q1, e1⟩ := spot_of C.h26 C.l26 r1
  obtain ⟨x2, q2, e2⟩ := spot_of C.h26 C.l26 r2
  refine ⟨x0, x1, x2, q0, q1, q2, ?_⟩
  unfold dC
  have z : ∀ s0 s1 s2 s3 s4 s5 s6 s8 : Sl, lcLoop (lcT c [7] (.n 7) .no (.call g26 (.cons (.ix (.v 7) (.k (.int 0))) (.cons (.op .add (.ix (.v 7) (.k (.int 1))) (.bi .int (.cons (.cm .eq (.ix (.v 7) (.k (.int 1))) (.k (.int 0))) .nil))) .nil)))) [t0, t1, t2] [] [s0, s1, s2, s3, s4, s5, s6, .no, s8] = .ok [x0, x1, x2] [s0, s1, s2, s3, s4, s5, s6, .no, s8] := fun s0 s1 s2 s3 s4 s5 s6 s8 => by
    rw [lc_cons (e0 s0 s1 s2 s3 s4 s5 s6 s8) (by simp; omega), lc_cons (e1 s0 s1 s2 s3 s4 s5 s6 s8) (by simp; omega), lc_cons (e2 s0 s1 s2 s3 s4 s5 s6 s8) (by simp; omega)]
    simp
  simp [C.pr, plainA, wipeG, z, backG]
end
end Pl

namespace Pl
open PySem Mp
/-! Rh: what is due is what comes. -/
section
variable {c : Cf} {g26 g29 g37 g38 g39 : Nat}
theorem rowC_of {nt nr : Nat} {u : List Rp} (h1 : full u = true) : rowC nt nr u = if good u = true then none else some nr := by
  unfold rowC
  rw [if_pos h1]
theorem ev_due [Unt] (C : DueF c g26 g29 g37 g38 g39) {k : Nat} (hk : k < 9) {u v : List Rp} {d1 d2 : List D} {o0 o1 o2 : Option Int} {t0 t1 t2 : D} (h1 : Two RawT u d1) (h2 : Two RawT v d2) (hu : Rok u) (hv : Rok v) (r0 : RawS o0 t0) (r1 : RawS o1 t1) (r2 : RawS o2 t2) (b0 : Sb o0) (b1 : Sb o1) (b2 : Sb o2) :
    ∃ r G', evSs c (sDue g26 g29 g37 g38 g39) [.fz (.int k), .fz (.lst d1), .fz (.lst d2), .fz (.lst [t0, t1, t2]), .no, .no, .no, .no, .no] = .rt r G' ∧ lenX r (codeL (outC 14 5 6 k u v o0 o1 o2)) := by
  have hsz : 1000 ≤ sizeLine := by decide
  obtain ⟨A1, A2⟩ := due_low C (k := k) h1 h2 hu hv r0 r1 r2
  have x5 := inD_i2 k 5 8
  have x3 := inD_i2 k 3 6
  have x4 := inD_i2 k 4 7
  have stop13 : none ∈ osOf k u v o0 o1 o2 → outC 14 5 6 k u v o0 o1 o2 = some 14 → ∃ r G', evSs c (sDue g26 g29 g37 g38 g39) [.fz (.int k), .fz (.lst d1), .fz (.lst d2), .fz (.lst [t0, t1, t2]), .no, .no, .no, .no, .no] = .rt r G' ∧ lenX r (codeL (outC 14 5 6 k u v o0 o1 o2)) := fun z e => by
    obtain ⟨G', w⟩ := A1 z
    rw [e]
    exact ⟨_, G', w, .inl rfl⟩
  have stop4 : none ∉ osOf k u v o0 o1 o2 → full u = true → (b5 k = true → full v = true) → (good u = false ∨ (b5 k = true ∧ good v = false)) → outC 14 5 6 k u v o0 o1 o2 = some 5 → ∃ r G', evSs c (sDue g26 g29 g37 g38 g39) [.fz (.int k), .fz (.lst d1), .fz (.lst d2), .fz (.lst [t0, t1, t2]), .no, .no, .no, .no, .no] = .rt r G' ∧ lenX r (codeL (outC 14 5 6 k u v o0 o1 o2)) := fun z f1 f2 g e => by
    obtain ⟨G', w⟩ := (due_rows C (k := k) h1 h2 hu hv r0 r1 r2 f1 f2).1 g
    rw [e, A2 z]
    exact ⟨_, G', w, .inl rfl⟩
  have go : none ∉ osOf k u v o0 o1 o2 → full u = true → (b5 k = true → full v = true) → good u = true → (b5 k = true → good v = true) → ∃ x0 x1 x2 : D, (∀ k, o0 = some k → x0 = tU k) ∧ (∀ k, o1 = some k → x1 = tU k) ∧ (∀ k, o2 = some k → x2 = tU k) ∧
      evSs c (sDue g26 g29 g37 g38 g39) [.fz (.int k), .fz (.lst d1), .fz (.lst d2), .fz (.lst [t0, t1, t2]), .no, .no, .no, .no, .no] = evSs c (.cons (dD g26 g29 g37 g38 g39) (.cons (dE g26 g29 g37 g38 g39) (.cons (dF g26 g29 g37 g38 g39) (.cons (dG g26 g29 g37 g38 g39) .nil)))) [.fz (.int k), .fz (.lst d1), .fz (.lst d2), .fz (.lst [t0, t1, t2]), .fz x0, .fz x1, .fz x2, .no, .no] := fun z f1 f2 g1 g2 => by
    obtain ⟨x0, x1, x2, q0, q1, q2, e⟩ := due_spots C (k := k) (u := u) (v := v) (d1 := d1) (d2 := d2) r0 r1 r2 (tl := (.cons (dD g26 g29 g37 g38 g39) (.cons (dE g26 g29 g37 g38 g39) (.cons (dF g26 g29 g37 g38 g39) (.cons (dG g26 g29 g37 g38 g39) .nil)))))
    refine ⟨x0, x1, x2, q0, q1, q2, ?_⟩
    rw [A2 z, (due_rows C (k := k) h1 h2 hu hv r0 r1 r2 f1 f2).2 g1 g2, e]
  rcases kinds (nt := 14) (nr := 5) (nf := 6) hk (u := u) (v := v) (o0 := o0) (o1 := o1) (o2 := o2) with ⟨k5, k3, k4, e⟩ | ⟨k5, k3, k4, e⟩ | ⟨k5, k3, k4, e⟩ | ⟨k5, k3, k4, e⟩ <;> rw [show (decide ((k : Int) = 5) || decide ((k : Int) = 8)) = _ from k5] at x5 <;> rw [show (decide ((k : Int) = 3) || decide ((k : Int) = 6)) = _ from k3] at x3 <;> rw [show (decide ((k : Int) = 4) || decide ((k : Int) = 7)) = _ from k4] at x4
  · have eo : osOf k u v o0 o1 o2 = u.map (·.2) := by unfold osOf; simp only [show (decide ((k : Int) = 5) || decide ((k : Int) = 8)) = _ from k5, show (decide ((k : Int) = 3) || decide ((k : Int) = 6)) = _ from k3, show (decide ((k : Int) = 4) || decide ((k : Int) = 7)) = _ from k4]; simp
    rw [eo] at stop13 stop4 go
    rw [e] at stop13 stop4 ⊢
    have nf5 : b5 k = true → False := fun z => by rw [k5] at z; cases z
    cases hf : full u with
    | false => exact stop13 (Classical.byContradiction fun z => by rw [full_iff.mpr z] at hf; cases hf) (by unfold rowC; simp [hf])
    | true =>
      have hn := full_iff.mp hf
      cases hg : good u with
      | false => exact stop4 hn hf (fun z => (nf5 z).elim) (.inl hg) (by unfold rowC; simp [hf, hg])
      | true =>
        obtain ⟨x0, x1, x2, q0, q1, q2, w⟩ := go hn hf (fun z => (nf5 z).elim) hg (fun z => (nf5 z).elim)
        rw [w]
        have er : rowC 14 5 u = none := by unfold rowC; simp [hf, hg]
        rw [er]
        unfold dD dE dF dG
        exact ⟨.ol [], _, by simp [x3, x4, x5]; rfl, .inl rfl⟩
  · have eo : osOf k u v o0 o1 o2 = u.map (·.2) ++ v.map (·.2) := by unfold osOf; simp only [show (decide ((k : Int) = 5) || decide ((k : Int) = 8)) = _ from k5, show (decide ((k : Int) = 3) || decide ((k : Int) = 6)) = _ from k3, show (decide ((k : Int) = 4) || decide ((k : Int) = 7)) = _ from k4]; simp
    rw [eo] at stop13 stop4 go
    rw [e] at stop13 stop4 ⊢
    cases hf : full u with
    | false => exact stop13 (List.mem_append_left _ (Classical.byContradiction fun z => by rw [full_iff.mpr z] at hf; cases hf)) (by unfold togC; simp [hf])
    | true =>
      cases hf2 : full v with
      | false => exact stop13 (List.mem_append_right _ (Classical.byContradiction fun z => by rw [full_iff.mpr z] at hf2; cases hf2)) (by unfold togC; simp [hf2])
      | true =>
        have hn : none ∉ u.map (·.2) ++ v.map (·.2) := fun z => (List.mem_append.mp z).elim (full_iff.mp hf) (full_iff.mp hf2)
        cases hg : good u with
        | false => exact stop4 hn hf (fun _ => hf2) (.inl hg) (by unfold togC; simp [hf, hf2, hg])
        | true =>
          cases hg2 : good v with
          | false => exact stop4 hn hf (fun _ => hf2) (.inr ⟨k5, hg2⟩) (by unfold togC; simp [hf, hf2, hg2])
          | true =>
            obtain ⟨x0, x1, x2, q0, q1, q2, w⟩ := go hn hf (fun _ => hf2) hg (fun _ => hg2)
            rw [w]
            obtain ⟨m, e1⟩ := C.l39 u d1 h1 hu hf hg
            obtain ⟨m2, e2⟩ := C.l39 v d2 h2 hv hf2 hg2
            have q := eqD_t (tot (asU u)) (tot (asU v))
            unfold dD dE dF dG
            by_cases hT : tot (asU u) = tot (asU v)
            · have er : togC 14 5 6 u v = none := by unfold togC; simp [hf, hf2, hg, hg2, hT]
              rw [er]
              rw [decide_eq_true hT] at q
              exact ⟨.ol [], _, by simp [x3, x4, x5, C.h39, e1, e2, q]; rfl, .inl rfl⟩
            · have er : togC 14 5 6 u v = some 6 := by unfold togC; simp [hf, hf2, hg, hg2, hT]
              rw [er]
              rw [decide_eq_false hT] at q
              exact ⟨.ol [.int 5], _, by simp [x3, x4, x5, C.h39, e1, e2, q]; rfl, .inl rfl⟩
  · have eo : osOf k u v o0 o1 o2 = u.map (·.2) ++ [o0] := by unfold osOf; simp only [show (decide ((k : Int) = 5) || decide ((k : Int) = 8)) = _ from k5, show (decide ((k : Int) = 3) || decide ((k : Int) = 6)) = _ from k3, show (decide ((k : Int) = 4) || decide ((k : Int) = 7)) = _ from k4]; simp
    rw [eo] at stop13 stop4 go
    rw [e] at stop13 stop4 ⊢
    have nf5 : b5 k = true → False := fun z => by rw [k5] at z; cases z
    cases o0 with
    | none => exact stop13 (by simp) rfl
    | some q0' =>
      cases hf : full u with
      | false => exact stop13 (List.mem_append_left _ (Classical.byContradiction fun z => by rw [full_iff.mpr z] at hf; cases hf)) (by unfold quickC rowC; simp [hf])
      | true =>
        have hn : none ∉ u.map (·.2) ++ [some q0'] := fun z => (List.mem_append.mp z).elim (full_iff.mp hf) (fun z => by simp at z)
        cases hg : good u with
        | false => exact stop4 hn hf (fun z => (nf5 z).elim) (.inl hg) (by unfold quickC rowC; simp [hf, hg])
        | true =>
          obtain ⟨x0, x1, x2, q0, q1, q2, w⟩ := go hn hf (fun z => (nf5 z).elim) hg (fun z => (nf5 z).elim)
          rw [w]
          have z0 := q0 _ rfl
          subst z0
          obtain ⟨m, e1⟩ := C.l29 0 q0' (by decide) (by decide) b0.1 b0.2
          rw [← nought] at e1
          unfold dD dE dF dG
          by_cases hq : 0 < q0'
          · have er : quickC 14 5 6 u (some q0') = none := by unfold quickC rowC; simp [hf, hg, hq]
            rw [er]
            exact ⟨.d (.lst []), _, by simp [x3, x4, x5, C.h29, e1, hq]; rfl, .inr rfl⟩
          · have er : quickC 14 5 6 u (some q0') = some 6 := by unfold quickC rowC; simp [hf, hg, hq]
            rw [er]
            exact ⟨.d (.lst [.int 5]), _, by simp [x3, x4, x5, C.h29, e1, hq]; rfl, .inr rfl⟩
  · have eo : osOf k u v o0 o1 o2 = u.map (·.2) ++ [o1, o2] := by unfold osOf; simp only [show (decide ((k : Int) = 5) || decide ((k : Int) = 8)) = _ from k5, show (decide ((k : Int) = 3) || decide ((k : Int) = 6)) = _ from k3, show (decide ((k : Int) = 4) || decide ((k : Int) = 7)) = _ from k4]; simp
    rw [eo] at stop13 stop4 go
    rw [e] at stop13 stop4 ⊢
    have nf5 : b5 k = true → False := fun z => by rw [k5] at z; cases z
    cases o1 with
    | none => exact stop13 (by simp) (by unfold cutX; simp)
    | some a =>
      cases o2 with
      | none => exact stop13 (by simp) (by unfold cutX; simp)
      | some b =>
        cases hf : full u with
        | false => exact stop13 (List.mem_append_left _ (Classical.byContradiction fun z => by rw [full_iff.mpr z] at hf; cases hf)) (by unfold cutX rowC; simp [hf])
        | true =>
          have hn : none ∉ u.map (·.2) ++ [some a, some b] := fun z => (List.mem_append.mp z).elim (full_iff.mp hf) (fun z => by simp at z)
          cases hg : good u with
          | false => exact stop4 hn hf (fun z => (nf5 z).elim) (.inl hg) (by unfold cutX rowC; simp [hf, hg])
          | true =>
            obtain ⟨x0, x1, x2, q0, q1, q2, w⟩ := go hn hf (fun z => (nf5 z).elim) hg (fun z => (nf5 z).elim)
            rw [w]
            have z1 := q1 _ rfl
            have z2 := q2 _ rfl
            subst z1
            subst z2
            obtain ⟨p1, p2, p3⟩ := asU_gu hu hg
            have hB := p1.2
            have htot := tot_nonneg p1.1
            obtain ⟨a1, a2⟩ := b1
            obtain ⟨c1, c2⟩ := b2
            simp only [Option.getD_some] at a1 a2 c1 c2
            obtain ⟨m, e1⟩ := C.l29 a 0 a1 a2 (by decide) (by decide)
            obtain ⟨m2, e2⟩ := C.l29 a b a1 a2 c1 c2
            obtain ⟨m3, e3⟩ := C.l29 (tot (asU u)) b (by omega) (by omega) c1 c2
            obtain ⟨m4, e4⟩ := C.l39 u d1 h1 hu hf hg
            rw [← nought] at e1
            have hpr := C.pr
            unfold dD dE dF dG
            by_cases n1 : a < 0
            · have er : cutX 14 5 6 u (some a) (some b) = some 6 := by unfold cutX rowC; simp [hf, hg, n1]
              rw [er]
              exact ⟨.d (.lst [.int 5]), _, by simp [hpr, x3, x4, x5, C.h29, e1, n1]; rfl, .inr rfl⟩
            · by_cases n2 : a < b
              · by_cases n3 : tot (asU u) < b
                · have er : cutX 14 5 6 u (some a) (some b) = some 6 := by unfold cutX rowC; simp [hf, hg, n3]
                  rw [er]
                  exact ⟨.d (.lst [.int 5]), _, by simp [hpr, x3, x4, x5, C.h29, e1, n1, e2, n2, C.h39, e4, e3, n3]; rfl, .inr rfl⟩
                · have er : cutX 14 5 6 u (some a) (some b) = none := by unfold cutX rowC; simp [hf, hg, n1, n2, n3]
                  rw [er]
                  exact ⟨.d (.lst []), _, by simp [hpr, x3, x4, x5, C.h29, e1, n1, e2, n2, C.h39, e4, e3, n3]; rfl, .inr rfl⟩
              · have er : cutX 14 5 6 u (some a) (some b) = some 6 := by unfold cutX rowC; simp [hf, hg, n2]
                rw [er]
                exact ⟨.d (.lst [.int 5]), _, by simp [hpr, x3, x4, x5, C.h29, e1, n1, e2, n2]; rfl, .inr rfl⟩
end
end Pl

namespace Pl
open PySem Mp
/-! Ri: rows bent. -/
def U6 : Unt := ⟨49392000, by decide, by decide⟩
abbrev S6 := @RawS U6
abbrev R6 := @RawT U6
def Ri (p : Rp) : Prop := Wd p.1 ∧ -Mr ≤ p.2.getD 0 ∧ p.2.getD 0 ≤ Mr
theorem divI {a b k : Int} (hb : b ≠ 0) (h : a * 49392000 = k * b) : Rat.divInt a b = @uR U6 k := by
  show Rat.divInt a b = Rat.divInt k 49392000
  have h0 : (49392000 : Int) ≠ 0 := by decide
  calc Rat.divInt a b = Rat.divInt (a * 49392000) (b * 49392000) := (Rat.divInt_mul_right h0).symm
    _ = Rat.divInt (k * b) (49392000 * b) := by rw [h, Int.mul_comm b]
    _ = Rat.divInt k 49392000 := Rat.divInt_mul_right hb
theorem raw_c {a b k : Int} (hb : b ≠ 0) (hs : b.natAbs.log2 < 8999) (h : a * 49392000 = k * b) : S6 (some k) (tDs a b) := ⟨a, b, rfl, hs, hb, divI hb h⟩
theorem raw_0 {a : Int} : S6 none (tDs a 0) := ⟨a, 0, rfl, by decide, rfl⟩
theorem uR_6 {k : Int} : @uR U0 k = @uR U6 (k * 6) := by
  refine (divI (a := k) (b := 8232000) (k := k * 6) (by decide) (by omega)) ▸ rfl
theorem raw_told {q : Int} {d : D} (h : ToldT (@uR U0 q) d) : S6 (some (q * 6)) d := by
  obtain ⟨a, b, rfl, h1, h2, h3⟩ := h
  exact ⟨a, b, rfl, h2, h1, h3.trans uR_6⟩
def rp (p : Un) : Rp := (if p.1 = true then "rest" else "note", some (p.2 * 6))
theorem raw_row : ∀ {u : List Un} {ds : List D}, Two Told (u.map (@uP U0)) ds → Two R6 (u.map rp) ds
  | [], _, .nil => .nil
  | p :: u, _, .cons h t => .cons (by
      obtain ⟨a, b, rfl, h1, h2, h3⟩ := h
      exact ⟨_, rfl, a, b, rfl, h2, h1, h3.trans uR_6⟩) (raw_row t)
theorem wd_k {b : Bool} : Wd (if b = true then "rest" else "note") := by
  cases b
  · exact .inl rfl
  · exact .inr (.inl rfl)
theorem rp_ok {n : Nat} {u : List Un} (h : Dr n u) : ∀ p ∈ u.map rp, Ri p := fun p hp => by
  obtain ⟨q, hq, rfl⟩ := List.mem_map.mp hp
  obtain ⟨h1, h2, _⟩ := h.1 q hq
  refine ⟨wd_k, ?_, ?_⟩
  · show -Mr ≤ q.2 * 6
    simp only [Mr]; omega
  · show q.2 * 6 ≤ Mr
    simp only [Mr, Mx] at *; omega
theorem rp_good {n : Nat} {u : List Un} (h : Dr n u) : full (u.map rp) = true ∧ good (u.map rp) = true ∧ asU (u.map rp) = scU 6 u := by
  refine ⟨?_, ?_, ?_⟩
  · unfold full
    rw [List.all_eq_true]
    intro p hp
    obtain ⟨q, hq, rfl⟩ := List.mem_map.mp hp
    rfl
  · unfold good
    rw [List.all_eq_true]
    intro p hp
    obtain ⟨q, hq, rfl⟩ := List.mem_map.mp hp
    have := (h.1 q hq).1
    unfold gd rp
    simp only [Option.getD_some]
    rw [decide_eq_true (show 0 < q.2 * 6 by omega)]
    cases q.1 <;> decide +kernel
  · unfold asU scU
    rw [List.map_map]
    refine List.map_congr_left fun p _ => ?_
    show (decide ((if p.1 = true then ("rest" : Str) else "note") = ("rest" : Str)), p.2 * 6) = (p.1, p.2 * 6)
    cases p.1
    · exact congrArg (·, p.2 * 6) (show decide (("note" : Str) = ("rest" : Str)) = false by decide)
    · exact congrArg (·, p.2 * 6) (show decide (("rest" : Str) = ("rest" : Str)) = true by decide)
theorem cut_take {l : List D} {n : Nat} : cutD l none (some (n : Int)) = l.take n := by
  unfold cutD
  have e1 : HT.sIx l.length 0 none = 0 := rfl
  have e2 : HT.sIx l.length l.length (some (n : Int)) = min n l.length := HT.sIx_nat _ _ n
  rw [e1, e2]
  simp
theorem cut_drop {l : List D} {n : Nat} : cutD l (some (n : Int)) none = l.drop n := by
  unfold cutD
  have e1 : HT.sIx l.length 0 (some (n : Int)) = min n l.length := HT.sIx_nat _ _ n
  have e2 : HT.sIx l.length l.length none = l.length := rfl
  rw [e1, e2]
  by_cases h : n ≤ l.length
  · rw [Nat.min_eq_left h]
    rw [List.take_of_length_le (by simp)]
  · rw [Nat.min_eq_right (by omega)]
    simp
    omega
theorem Two.take {α β : Type} {Q : α → β → Prop} {l : List α} {m : List β} (h : Two Q l m) : ∀ n, Two Q (l.take n) (m.take n) := by
  induction h with
  | nil => intro n; simp; exact .nil
  | cons q _ ih => intro n; cases n with
    | zero => exact .nil
    | succ n => exact .cons q (ih n)
theorem Two.drop {α β : Type} {Q : α → β → Prop} {l : List α} {m : List β} (h : Two Q l m) : ∀ n, Two Q (l.drop n) (m.drop n) := by
  induction h with
  | nil => intro n; simp; exact .nil
  | cons q t ih => intro n; cases n with
    | zero => exact .cons q t
    | succ n => exact ih n
theorem Two.reverse {α β : Type} {Q : α → β → Prop} {l : List α} {m : List β} (h : Two Q l m) : Two Q l.reverse m.reverse := by
  induction h with
  | nil => exact .nil
  | cons q _ ih => rw [List.reverse_cons, List.reverse_cons]; exact ih.append (.cons q .nil)
/-- what a row is bent by -/
def pcs (w : Str) : List D := [.tup [.str w, tDs 1 4], .tup [.str "note", tDs 0 1], .tup [.str "rest", tDs 0 (-3)], .tup [.str "rest", tDs (-1) 4], .tup [.str "note", tDs 1 (-4)], .tup [.str "note", tDs 1 0], .tup [.str "rest", tDs 0 0], .tup [.str w, tDs (-5) 0], .tup [.str w, tDs 0 2], .tup [.str "note", tDs (-2) (-8)]]
theorem pcs_raw {w : Str} (hw : Wd w) {d : D} (h : d ∈ pcs w) : ∃ p : Rp, R6 p d ∧ Ri p := by
  have n : Wd "note" := .inl rfl
  have r : Wd "rest" := .inr (.inl rfl)
  unfold pcs at h
  simp only [List.mem_cons, List.not_mem_nil, or_false] at h
  rcases h with rfl | rfl | rfl | rfl | rfl | rfl | rfl | rfl | rfl | rfl
  · exact ⟨(w, some 12348000), ⟨_, rfl, raw_c (by decide) (by decide) (by decide)⟩, hw, show -Mr ≤ (12348000 : Int) by decide, show (12348000 : Int) ≤ Mr by decide⟩
  · exact ⟨("note", some 0), ⟨_, rfl, raw_c (by decide) (by decide) (by decide)⟩, n, by decide, by decide⟩
  · exact ⟨("rest", some 0), ⟨_, rfl, raw_c (by decide) (by decide) (by decide)⟩, r, by decide, by decide⟩
  · exact ⟨("rest", some (-12348000)), ⟨_, rfl, raw_c (by decide) (by decide) (by decide)⟩, r, by decide, by decide⟩
  · exact ⟨("note", some (-12348000)), ⟨_, rfl, raw_c (by decide) (by decide) (by decide)⟩, n, by decide, by decide⟩
  · exact ⟨("note", none), ⟨_, rfl, raw_0⟩, n, by decide, by decide⟩
  · exact ⟨("rest", none), ⟨_, rfl, raw_0⟩, r, by decide, by decide⟩
  · exact ⟨(w, none), ⟨_, rfl, raw_0⟩, hw, show -Mr ≤ (0 : Int) by decide, show (0 : Int) ≤ Mr by decide⟩
  · exact ⟨(w, some 0), ⟨_, rfl, raw_c (by decide) (by decide) (by decide)⟩, hw, show -Mr ≤ (0 : Int) by decide, show (0 : Int) ≤ Mr by decide⟩
  · exact ⟨("note", some 12348000), ⟨_, rfl, raw_c (by decide) (by decide) (by decide)⟩, n, by decide, by decide⟩
theorem word_of {r : Int} (h1 : 0 ≤ r) (h2 : r < 5) : ∃ w : Str, L2.atI [D.str "", .str "Note", .str "n", .str "rests", .str "silence"] r = some (.str w) ∧ Wd w := by
  have : r = 0 ∨ r = 1 ∨ r = 2 ∨ r = 3 ∨ r = 4 := by omega
  rcases this with rfl | rfl | rfl | rfl | rfl
  · exact ⟨"", by rfl, .inr (.inr (.inl rfl))⟩
  · exact ⟨"Note", by rfl, .inr (.inr (.inr (.inl rfl)))⟩
  · exact ⟨"n", by rfl, .inr (.inr (.inr (.inr (.inl rfl))))⟩
  · exact ⟨"rests", by rfl, .inr (.inr (.inr (.inr (.inr (.inl rfl)))))⟩
  · exact ⟨"silence", by rfl, .inr (.inr (.inr (.inr (.inr (.inr rfl)))))⟩
def sBent (g25 : Nat) : Ss := (.cons (.asg (.n 2) (.call g25 (.cons (.v 0) (.cons (.op .add (.bi .len (.cons (.v 1) .nil)) (.k (.int 1))) .nil))))
  (.cons (.asg (.n 3) (.ix (.lst (.cons (.k (.str "")) (.cons (.k (.str "Note")) (.cons (.k (.str "n")) (.cons (.k (.str "rests")) (.cons (.k (.str "silence")) .nil)))))) (.call g25 (.cons (.v 0) (.cons (.k (.int 5)) .nil)))))
  (.cons (.asg (.n 4) (.lst (.cons (.tup (.cons (.v 3) (.cons (.tup (.cons (.k (.int 1)) (.cons (.k (.int 4)) .nil))) .nil))) (.cons (.tup (.cons (.k (.str "note")) (.cons (.tup (.cons (.k (.int 0)) (.cons (.k (.int 1)) .nil))) .nil))) (.cons (.tup (.cons (.k (.str "rest")) (.cons (.tup (.cons (.k (.int 0)) (.cons (.neg (.k (.int 3))) .nil))) .nil))) (.cons (.tup (.cons (.k (.str "rest")) (.cons (.tup (.cons (.neg (.k (.int 1))) (.cons (.k (.int 4)) .nil))) .nil))) (.cons (.tup (.cons (.k (.str "note")) (.cons (.tup (.cons (.k (.int 1)) (.cons (.neg (.k (.int 4))) .nil))) .nil))) (.cons (.tup (.cons (.k (.str "note")) (.cons (.tup (.cons (.k (.int 1)) (.cons (.k (.int 0)) .nil))) .nil))) .nil))))))))
  (.cons (.asg (.n 4) (.op .add (.v 4) (.lst (.cons (.tup (.cons (.k (.str "rest")) (.cons (.tup (.cons (.k (.int 0)) (.cons (.k (.int 0)) .nil))) .nil))) (.cons (.tup (.cons (.v 3) (.cons (.tup (.cons (.neg (.k (.int 5))) (.cons (.k (.int 0)) .nil))) .nil))) (.cons (.tup (.cons (.v 3) (.cons (.tup (.cons (.k (.int 0)) (.cons (.k (.int 2)) .nil))) .nil))) (.cons (.tup (.cons (.k (.str "note")) (.cons (.tup (.cons (.neg (.k (.int 2))) (.cons (.neg (.k (.int 8))) .nil))) .nil))) .nil)))))))
  (.cons (.ret (.op .add (.op .add (.sl (.v 1) .no (.so (.v 2))) (.lst (.cons (.ix (.v 4) (.call g25 (.cons (.v 0) (.cons (.k (.int 10)) .nil)))) .nil))) (.sl (.v 1) (.so (.op .add (.v 2) (.bi .int (.cons (.cm .eq (.call g25 (.cons (.v 0) (.cons (.k (.int 2)) .nil))) (.k (.int 0))) .nil)))) .no)))
  .nil)))))
/-- a row as told: its data, what it says -/
def Raw (n : Nat) (ds : List D) : Prop := ∃ u : List Rp, Two R6 u ds ∧ (∀ p ∈ u, Ri p) ∧ u.length ≤ n
theorem Raw.len {n : Nat} {ds : List D} (h : Raw n ds) : ds.length ≤ n := by
  obtain ⟨u, h1, _, h3⟩ := h
  rw [h1.length]
  exact h3
section
variable {c : Cf} {g25 : Nat}
theorem ev_bent (hpr : c.pr = true) (h25 : c.pm g25 = [.m, .f]) (l25 : Dra (c.cf g25)) {n b : Nat} {l ds : List D} (hr : Raw n ds) (hn : n ≤ 100) (hl : Pu (b + 4) l) : ∃ ds' l' G', evSs c (sBent g25) [.ol l, .fz (.lst ds), .no, .no, .no] = .rt (.ol ds') (.ol l' :: G') ∧ Raw (n + 1) ds' ∧ Pu b l' := by
  have hsz : 1000 ≤ sizeLine := by decide
  have hlen := hr.len
  obtain ⟨u, t, hu, zu⟩ := hr
  have zz := t.length
  obtain ⟨r1, l1, e1, a1, a2, p1⟩ := l25 (b + 3) ((ds.length : Int) + 1) l hl (by omega) (by omega)
  obtain ⟨r2, l2, e2, a3, a4, p2⟩ := l25 (b + 2) 5 l1 p1 (by omega) (by omega)
  obtain ⟨r3, l3, e3, a5, a6, p3⟩ := l25 (b + 1) 10 l2 p2 (by omega) (by omega)
  obtain ⟨r4, l4, e4, a7, a8, p4⟩ := l25 b 2 l3 p3 (by omega) (by omega)
  obtain ⟨n1, rfl⟩ := Int.eq_ofNat_of_zero_le a1
  obtain ⟨w, ew, hw⟩ := word_of a3 a4
  obtain ⟨d, hd, ed⟩ := at_of (l := pcs w) a5 (by simpa [pcs] using a6)
  obtain ⟨p, hp1, hp2⟩ := pcs_raw hw hd
  have c1 := cut_take (l := ds) (n := n1)
  obtain ⟨j, hj, ej⟩ : ∃ j : Nat, j ≤ 1 ∧ (n1 : Int) + (if decide (r4 = 0) = true then 1 else 0) = ((n1 + j : Nat) : Int) := by
    by_cases h : r4 = 0
    · exact ⟨1, by omega, by simp [h]⟩
    · exact ⟨0, by omega, by simp [h]⟩
  have c2 := cut_drop (l := ds) (n := n1 + j)
  rw [← ej] at c2
  simp only [decide_eq_true_eq] at c2
  have lt1 : (ds.take n1).length ≤ ds.length := by simp; omega
  have lt2 : (ds.drop (n1 + j)).length ≤ ds.length := by simp
  have z1 : min n1 ds.length + 1 ≤ sizeLine := by omega
  have z2 : min n1 ds.length + 1 + (ds.length - (n1 + j)) ≤ sizeLine := by omega
  refine ⟨ds.take n1 ++ [d] ++ ds.drop (n1 + j), l4, [.fz (.lst ds), .fz (.int n1), .fz (.str w), .ol (pcs w)], ?_, ⟨u.take n1 ++ [p] ++ u.drop (n1 + j), ((t.take n1).append (.cons hp1 .nil)).append (t.drop (n1 + j)), fun q hq => ?_, ?_⟩, p4⟩
  · unfold sBent
    unfold pcs tDs at *
    simp [hpr, h25, e1, e2, ew]
    simp [h25, e3, ed, e4, slF, intR, c1, c2, z1, z2]
  · simp only [List.mem_append, List.mem_singleton] at hq
    rcases hq with (hq | rfl) | hq
    · exact hu q (List.mem_of_mem_take hq)
    · exact hp2
    · exact hu q (List.mem_of_mem_drop hq)
  · simp
    by_cases hh : n1 ≤ u.length <;> omega
end
def sFar (g25 g27 g28 g31 g39 : Nat) : Ss := (.cons (.asg (.n 2) (.call g39 (.cons (.v 1) .nil)))
  (.cons (.asg (.n 3) (.lst (.cons (.tup (.cons (.k (.int 0)) (.cons (.k (.int 1)) .nil))) (.cons (.tup (.cons (.neg (.k (.int 1))) (.cons (.k (.int 64)) .nil))) (.cons (.v 2) (.cons (.call g27 (.cons (.v 2) (.cons (.tup (.cons (.k (.int 1)) (.cons (.k (.int 1000)) .nil))) .nil))) (.cons (.call g28 (.cons (.v 2) (.cons (.tup (.cons (.k (.int 1)) (.cons (.k (.int 2)) .nil))) .nil))) (.cons (.tup (.cons (.k (.int 0)) (.cons (.neg (.k (.int 1))) .nil))) .nil))))))))
  (.cons (.asg (.n 3) (.op .add (.v 3) (.lst (.cons (.tup (.cons (.k (.int 1)) (.cons (.k (.int 0)) .nil))) (.cons (.tup (.cons (.k (.int 0)) (.cons (.k (.int 0)) .nil))) (.cons (.tup (.cons (.k (.int 99)) (.cons (.k (.int 1)) .nil))) .nil))))))
  (.cons (.ex (.lm .append (.v 3) (.cons (.call g31 (.cons (.v 0) (.cons (.call g28 (.cons (.v 2) (.cons (.tup (.cons (.k (.int 1)) (.cons (.k (.int 3)) .nil))) .nil))) .nil))) .nil)))
  (.cons (.ret (.lc [4] (.n 4) (.rg1 (.cons (.k (.int 3)) .nil)) .no (.ix (.v 3) (.call g25 (.cons (.v 0) (.cons (.k (.int 10)) .nil))))))
  .nil)))))
end Pl

namespace Pl
open PySem Mp
/-! Rj: spots far and near. -/
theorem raw_tU {k : Int} (h1 : -Bd ≤ k) (h2 : k ≤ Bd) : S6 (some k) (@tU U6 k) := ⟨_, _, rfl, Nat.lt_trans (@qs_b U6 k h1 h2).2 (by decide), den_ne _, divInt_self _⟩
theorem raw_t6 {k : Int} {d : D} (h : ToldT (@uR U6 k) d) : S6 (some k) d := by
  obtain ⟨a, b, rfl, h1, h2, h3⟩ := h
  exact ⟨a, b, rfl, h2, h1, h3⟩
theorem half {w : Int} : @uR U6 (w * 6) * Rat.divInt 1 2 = @uR U6 (w * 3) := by
  show Rat.divInt (w * 6) 49392000 * Rat.divInt 1 2 = Rat.divInt (w * 3) 49392000
  rw [Rat.divInt_mul_divInt, Int.mul_one, show w * 6 = w * 3 * 2 by omega, Rat.divInt_mul_right (by decide)]
theorem third {w : Int} : @uR U6 (w * 6) * Rat.divInt 1 3 = @uR U6 (w * 2) := by
  show Rat.divInt (w * 6) 49392000 * Rat.divInt 1 3 = Rat.divInt (w * 2) 49392000
  rw [Rat.divInt_mul_divInt, Int.mul_one, show w * 6 = w * 2 * 3 by omega, Rat.divInt_mul_right (by decide)]
theorem t_half : D.tup [.int 1, .int 2] = tD (Rat.divInt 1 2) := by rfl
theorem t_third : D.tup [.int 1, .int 3] = tD (Rat.divInt 1 3) := by rfl
theorem t_milli : D.tup [.int 1, .int 1000] = @tU U6 49392 := by rfl
/-- spots as told -/
def Spt (d : D) : Prop := ∃ o, S6 o d ∧ Sb o
section
variable {c : Cf} {g25 g27 g28 g31 g39 : Nat}
theorem ev_far (hpr : c.pr = true) (h25 : c.pm g25 = [.m, .f]) (h27 : c.pm g27 = [.f, .f]) (h28 : c.pm g28 = [.f, .f]) (h31 : c.pm g31 = [.m, .f]) (h39 : c.pm g39 = [.f]) (l25 : Dra (c.cf g25)) (l27 : @PluU U6 (c.cf g27)) (l28 : Tim (c.cf g28)) (l31 : ToldO (c.cf g31)) (l39 : @LongF U6 (c.cf g39))
    {n b : Nat} {l ds : List D} {u : List Un} (hd : Dr n u) (hn : n ≤ 100) (t : Two R6 (u.map rp) ds) (hl : Pu (b + 4) l) :
    ∃ (t0 t1 t2 : D) (l' : List D) (G' : List Sl), evSs c (sFar g25 g27 g28 g31 g39) [.ol l, .fz (.lst ds), .no, .no, .no] = .rt (.ol [t0, t1, t2]) (.ol l' :: G') ∧ Spt t0 ∧ Spt t1 ∧ Spt t2 ∧ Pu b l' := by
  have hsz : 1000 ≤ sizeLine := by decide
  obtain ⟨gu, gz, g7, gT⟩ := gu_of hd (show n ≤ 1000 by omega)
  obtain ⟨f1, f2, f3⟩ := rp_good hd
  have hR : Rok (u.map rp) := ⟨rp_ok hd, by rw [List.length_map]; have := hd.2; omega⟩
  obtain ⟨m1, e1⟩ := l39 (u.map rp) ds t hR f1 f2
  rw [f3, tot_sc] at e1
  have w0 := tot_nonneg gu.1
  generalize tot u = w at *
  have bd : ∀ j : Int, 0 ≤ j → j ≤ 7 → -Bd ≤ w * j ∧ w * j ≤ Bd := fun j j0 j7 => by
    have a1 := Int.mul_nonneg w0 j0
    have a2 := Int.mul_le_mul gT j7 j0 (by omega)
    simp only [Bd]
    omega
  obtain ⟨b61, b62⟩ := bd 6 (by omega) (by omega)
  obtain ⟨b31, b32⟩ := bd 3 (by omega) (by omega)
  obtain ⟨b21, b22⟩ := bd 2 (by omega) (by omega)
  have q2 : Qs (Rat.divInt 1 2) := qs_d (by decide) (by decide) (by decide)
  have q3 : Qs (Rat.divInt 1 3) := qs_d (by decide) (by decide) (by decide)
  obtain ⟨m2, e2⟩ := l27 (w * 6) 49392 b61 b62 (by decide) (by decide)
  obtain ⟨m3, e3⟩ := l28 (@uR U6 (w * 6)) (Rat.divInt 1 2) (@qs_b U6 _ b61 b62) q2
  obtain ⟨m4, e4⟩ := l28 (@uR U6 (w * 6)) (Rat.divInt 1 3) (@qs_b U6 _ b61 b62) q3
  dsimp only at e3 e4
  rw [half] at e3
  rw [third] at e4
  rw [← t_half] at e3
  rw [← t_third] at e4
  rw [← t_milli] at e2
  obtain ⟨d9, l1, e5, k5, p1⟩ := l31 (@uR U6 (w * 2)) (b + 3) l (@qs_b U6 _ b21 b22) hl
  have k5 := raw_t6 k5
  have c6 : (c.cf g39 [.fz (.lst ds)]) = .ok (.d (@tU U6 (w * 6))) m1 := e1
  have c2 : c.cf g27 [.fz (@tU U6 (w * 6)), .fz (.tup [.int 1, .int 1000])] = .ok (.d (@tU U6 (w * 6 + 49392))) m2 := e2
  have c3 : c.cf g28 [.fz (@tU U6 (w * 6)), .fz (.tup [.int 1, .int 2])] = .ok (.d (@tU U6 (w * 3))) m3 := e3
  have c4 : c.cf g28 [.fz (@tU U6 (w * 6)), .fz (.tup [.int 1, .int 3])] = .ok (.d (@tU U6 (w * 2))) m4 := e4
  have c5 : c.cf g31 [.ol l, .fz (@tU U6 (w * 2))] = .ok (.d d9) (.ol l1) := e5
  generalize hW : @tU U6 (w * 6) = W at *
  generalize hA : @tU U6 (w * 6 + 49392) = A at *
  generalize hB : @tU U6 (w * 3) = B at *
  generalize hC : @tU U6 (w * 2) = C at *
  have sp : ∀ d ∈ ([.tup [.int 0, .int 1], .tup [.int (-1), .int 64], W, A, B, .tup [.int 0, .int (-1)], .tup [.int 1, .int 0], .tup [.int 0, .int 0], .tup [.int 99, .int 1], d9] : List D), Spt d := fun d h => by
    simp only [List.mem_cons, List.not_mem_nil, or_false] at h
    rcases h with rfl | rfl | rfl | rfl | rfl | rfl | rfl | rfl | rfl | rfl
    · exact ⟨some 0, raw_c (by decide) (by decide) (by decide), by decide, by decide⟩
    · exact ⟨some (-771750), raw_c (by decide) (by decide) (by decide), by decide, by decide⟩
    · rw [← hW]; exact ⟨_, raw_tU b61 b62, b61, b62⟩
    · rw [← hA]
      have x1 : -Bd ≤ w * 6 + 49392 := by omega
      have x2 : w * 6 + 49392 ≤ Bd := by simp only [Bd]; omega
      exact ⟨_, raw_tU x1 x2, x1, x2⟩
    · rw [← hB]; exact ⟨_, raw_tU b31 b32, b31, b32⟩
    · exact ⟨some 0, raw_c (by decide) (by decide) (by decide), by decide, by decide⟩
    · exact ⟨none, raw_0, by decide, by decide⟩
    · exact ⟨none, raw_0, by decide, by decide⟩
    · exact ⟨some 4889808000, raw_c (by decide) (by decide) (by decide), by decide, by decide⟩
    · exact ⟨_, k5, b21, b22⟩
  generalize hX : ([.tup [.int 0, .int 1], .tup [.int (-1), .int 64], W, A, B, .tup [.int 0, .int (-1)], .tup [.int 1, .int 0], .tup [.int 0, .int 0], .tup [.int 99, .int 1], d9] : List D) = X at sp
  have lX : X.length = 10 := by rw [← hX]; rfl
  obtain ⟨r1, l2, x1, a1, a2, p2⟩ := l25 (b + 2) 10 l1 p1 (by omega) (by omega)
  obtain ⟨r2, l3, x2, a3, a4, p3⟩ := l25 (b + 1) 10 l2 p2 (by omega) (by omega)
  obtain ⟨r3, l4, x3, a5, a6, p4⟩ := l25 b 10 l3 p3 (by omega) (by omega)
  obtain ⟨t0, i0, j0⟩ := at_of (l := X) a1 (by rw [lX]; exact a2)
  obtain ⟨t1, i1, j1⟩ := at_of (l := X) a3 (by rw [lX]; exact a4)
  obtain ⟨t2, i2, j2⟩ := at_of (l := X) a5 (by rw [lX]; exact a6)
  refine ⟨t0, t1, t2, l4, [.fz (.lst ds), .fz W, .ol X, .no], ?_, sp _ i0, sp _ i1, sp _ i2, p4⟩
  have turn : ∀ {la lb : List D} {r : Int} {t : D} {k : Int}, c.cf g25 [.ol la, .fz (.int 10)] = .ok (.d (.int r)) (.ol lb) → L2.atI X r = some t → lcT c [4] (.n 4) .no (.ix (.v 3) (.call g25 (.cons (.v 0) (.cons (.k (.int 10)) .nil)))) (.int k) [.ol la, .fz (.lst ds), .fz W, .ol X, .no] = .ok (some t) [.ol lb, .fz (.lst ds), .fz W, .ol X, .no] := fun {la lb r t k} h1 h2 => by
    simp [lcT, wipeG, h25, h1, h2]
  have z9 : 9 < sizeLine := by decide
  have r3' : rgD 0 3 = [.int 0, .int 1, .int 2] := by rfl
  have loop : lcLoop (lcT c [4] (.n 4) .no (.ix (.v 3) (.call g25 (.cons (.v 0) (.cons (.k (.int 10)) .nil))))) [.int 0, .int 1, .int 2] [] [.ol l1, .fz (.lst ds), .fz W, .ol X, .no] = .ok [t0, t1, t2] [.ol l4, .fz (.lst ds), .fz W, .ol X, .no] := by
    rw [lc_cons (turn x1 j0) (by simp; omega), lc_cons (turn x2 j1) (by simp; omega), lc_cons (turn x3 j2) (by simp; omega)]
    simp
  unfold sFar
  simp [hpr, h39, c6, h27, c2, h28, c3, c4, h31, c5, hX, plainA, wipeG, r3', backG, z9]
  rw [loop]
  simp
end
end Pl

namespace Pl
open PySem Mp
/-! Rk: the law. -/
def wW (g36 g40 : Nat) : Ss := (.cons (.iff (.cm .ne (.call g36 (.cons (.v 10) (.cons (.v 5) (.cons (.v 7) (.cons (.v 8) .nil))))) (.call g40 (.cons (.v 10) (.cons (.v 5) (.cons (.v 7) (.cons (.v 8) .nil)))))) (.cons (.ret (.k (.bl false)))
  .nil) .nil)
  (.cons (.iff (.cm .ne (.lst (.cons (.v 5) (.cons (.v 7) .nil))) (.v 9)) (.cons (.ret (.k (.bl false)))
  .nil) .nil)
  .nil))
def wB (g36 g40 g42 : Nat) : Ss := (.cons (.asg (.n 8) (.call g42 (.cons (.v 2) (.cons (.v 3) .nil))))
  (.cons (.asg (.n 9) (.lst (.cons (.bi .list (.cons (.v 5) .nil)) (.cons (.bi .list (.cons (.v 7) .nil)) .nil))))
  (.cons (.for (.n 10) (.rg1 (.cons (.k (.int 9)) .nil)) (wW g36 g40))
  .nil)))
def wA (g25 g36 g40 g42 : Nat) : Ss := (.cons (.asg (.n 6) (.lst (.cons (.ix (.v 4) (.call g25 (.cons (.v 2) (.cons (.k (.int 6)) .nil)))) (.cons (.ix (.v 4) (.call g25 (.cons (.v 2) (.cons (.k (.int 6)) .nil)))) .nil))))
  (.cons (.for (.n 7) (.e (.op .add (.v 6) (.lst (.cons (.v 3) .nil)))) (wB g36 g40 g42))
  .nil))
def wC (g24 g25 g33 g34 g36 g40 g41 g42 : Nat) : Ss := (.cons (.asg (.n 2) (.call g24 (.cons (.v 0) (.cons (.v 1) .nil))))
  (.cons (.asg (.n 3) (.call g34 (.cons (.v 2) (.cons (.call g33 (.cons (.v 2) (.cons (.ix (.lst (.cons (.k (.int 8)) (.cons (.k (.int 80)) .nil))) (.bi .int (.cons (.cm .eq (.v 1) (.k (.int 4))) .nil))) .nil))) .nil))))
  (.cons (.asg (.n 4) (.lst (.cons (.v 3) (.cons (.call g41 (.cons (.v 2) (.cons (.v 3) .nil))) .nil))))
  (.cons (.asg (.n 4) (.op .add (.v 4) (.lst (.cons (.call g41 (.cons (.v 2) (.cons (.ix (.v 4) (.k (.int 1))) .nil))) (.cons (.rev (.v 3)) (.cons (.call g33 (.cons (.v 2) (.cons (.k (.int 3)) .nil))) (.cons (.lst .nil) .nil)))))))
  (.cons (.for (.n 5) (.e (.v 4)) (wA g25 g36 g40 g42))
  .nil)))))
def sLaw16 (g24 g25 g33 g34 g36 g40 g41 g42 : Nat) : Ss := (.cons (.for (.n 1) (.rg1 (.cons (.k (.int 5)) .nil)) (wC g24 g25 g33 g34 g36 g40 g41 g42))
  (.cons (.ret (.k (.bl true)))
  .nil))

def CaughtF (f : List Sl → Cres) : Prop := ∀ (k : Nat) (u v : List Rp) (d1 d2 : List D) (o0 o1 o2 : Option Int) (t0 t1 t2 : D), k < 9 → Two R6 u d1 → Two R6 v d2 → Rok u → Rok v → S6 o0 t0 → S6 o1 t1 → S6 o2 t2 → Sb o0 → Sb o1 → Sb o2 → ∃ m, f [.fz (.int k), .fz (.lst d1), .fz (.lst d2), .fz (.lst [t0, t1, t2])] = .ok (.ol (codeL (outC 14 5 6 k u v o0 o1 o2))) m
def DueOut (f : List Sl → Cres) : Prop := ∀ (k : Nat) (u v : List Rp) (d1 d2 : List D) (o0 o1 o2 : Option Int) (t0 t1 t2 : D), k < 9 → Two R6 u d1 → Two R6 v d2 → Rok u → Rok v → S6 o0 t0 → S6 o1 t1 → S6 o2 t2 → Sb o0 → Sb o1 → Sb o2 → ∃ r m, f [.fz (.int k), .fz (.lst d1), .fz (.lst d2), .fz (.lst [t0, t1, t2])] = .ok r m ∧ lenX r (codeL (outC 14 5 6 k u v o0 o1 o2))
def BentF (f : List Sl → Cres) : Prop := ∀ (n b : Nat) (l ds : List D), Raw n ds → n ≤ 100 → Pu (b + 4) l → ∃ ds' l', f [.ol l, .fz (.lst ds)] = .ok (.ol ds') (.ol l') ∧ Raw (n + 1) ds' ∧ Pu b l'
def FarF (f : List Sl → Cres) : Prop := ∀ (n b : Nat) (l ds : List D) (u : List Un), Dr n u → n ≤ 100 → Two R6 (u.map rp) ds → Pu (b + 4) l → ∃ t0 t1 t2 l', f [.ol l, .fz (.lst ds)] = .ok (.ol [t0, t1, t2]) (.ol l') ∧ Spt t0 ∧ Spt t1 ∧ Spt t2 ∧ Pu b l'
theorem pln_raw {n : Nat} {ds : List D} (h : Raw n ds) : Pln 3 (.lst ds) := .lst fun d hd => by
  obtain ⟨u, t, hu, zz⟩ := h
  clear zz
  induction t with
  | nil => exact nomatch hd
  | @cons p x u ds h t ih =>
    rcases List.mem_cons.mp hd with rfl | hd
    · obtain ⟨y, rfl, a, b, rfl, _, _⟩ := h
      refine .tup fun z hz => ?_
      simp only [List.mem_cons, List.not_mem_nil, or_false] at hz
      rcases hz with rfl | rfl
      · exact pln_w (hu p List.mem_cons_self).1
      · refine .tup fun z hz => ?_
        simp only [List.mem_cons, List.not_mem_nil, or_false] at hz
        rcases hz with rfl | rfl <;> exact .int
    · exact ih hd (fun p hp => hu p (List.mem_cons_of_mem _ hp))
theorem eq_pair {n m : Nat} {d1 d2 : List D} (h1 : Raw n d1) (h2 : Raw m d2) : eqD (.lst [.lst d1, .lst d2]) (.lst [.lst d1, .lst d2]) = some true := eqD_same (n := 4) (.lst fun z hz => by
  simp only [List.mem_cons, List.not_mem_nil, or_false] at hz
  rcases hz with rfl | rfl
  · exact pln_raw h1
  · exact pln_raw h2)
theorem eq_code (o : Option Nat) : eqD (.lst (codeL o)) (.lst (codeL o)) = some true := eqD_same (n := 2) (.lst fun z hz => by
  cases o with
  | none => exact nomatch hz
  | some x => rw [List.mem_singleton.mp hz]; exact .int)
section
variable {c : Cf} {g24 g25 g33 g34 g36 g40 g41 g42 : Nat}
theorem turn_W (h36 : c.pm g36 = [.f, .f, .f, .f]) (h40 : c.pm g40 = [.f, .f, .f, .f]) (hpr : c.pr = false) (l36 : CaughtF (c.cf g36)) (l40 : DueOut (c.cf g40)) {k : Nat} (hk : k < 9) {da db : List D} {t0 t1 t2 : D} (ra : Raw 200 da) (rb : Raw 200 db) (s0 : Spt t0) (s1 : Spt t1) (s2 : Spt t2) {x0 x1 x2 x3 x4 x6 s8 s10 : Sl} (h8 : s8 = .ol [t0, t1, t2] ∨ s8 = .fz (.lst [t0, t1, t2])) :
    forT c (.n 10) (wW g36 g40) (.int k) [x0, x1, x2, x3, x4, .fz (.lst da), x6, .fz (.lst db), s8, .ol [.lst da, .lst db], s10] = .nx [x0, x1, x2, x3, x4, .fz (.lst da), x6, .fz (.lst db), .fz (.lst [t0, t1, t2]), .ol [.lst da, .lst db], .fz (.int k)] := by
  have ep := eq_pair ra rb
  obtain ⟨u, ta, ua, za⟩ := ra
  obtain ⟨v, tb, ub, zb⟩ := rb
  obtain ⟨o0, q0, b0⟩ := s0
  obtain ⟨o1, q1, b1⟩ := s1
  obtain ⟨o2, q2, b2⟩ := s2
  obtain ⟨m1, e1⟩ := l36 k u v da db o0 o1 o2 t0 t1 t2 hk ta tb ⟨ua, za⟩ ⟨ub, zb⟩ q0 q1 q2 b0 b1 b2
  obtain ⟨r, m2, e2, hr⟩ := l40 k u v da db o0 o1 o2 t0 t1 t2 hk ta tb ⟨ua, za⟩ ⟨ub, zb⟩ q0 q1 q2 b0 b1 b2
  have ec := eq_code (outC 14 5 6 k u v o0 o1 o2)
  generalize codeL (outC 14 5 6 k u v o0 o1 o2) = X at *
  rcases h8 with rfl | rfl <;> rcases hr with rfl | rfl <;> simp [forT, wW, hpr, h36, h40, e1, e2, ec, ep]
theorem loop_W (h36 : c.pm g36 = [.f, .f, .f, .f]) (h40 : c.pm g40 = [.f, .f, .f, .f]) (hpr : c.pr = false) (l36 : CaughtF (c.cf g36)) (l40 : DueOut (c.cf g40)) {da db : List D} {t0 t1 t2 : D} (ra : Raw 200 da) (rb : Raw 200 db) (s0 : Spt t0) (s1 : Spt t1) (s2 : Spt t2) {x0 x1 x2 x3 x4 x6 : Sl} :
    ∀ {ks : List Nat} {s8 s10 : Sl}, (∀ k ∈ ks, k < 9) → (s8 = .ol [t0, t1, t2] ∨ s8 = .fz (.lst [t0, t1, t2])) → ∃ s8' s10', forF (forT c (.n 10) (wW g36 g40)) (ks.map fun k : Nat => D.int k) [x0, x1, x2, x3, x4, .fz (.lst da), x6, .fz (.lst db), s8, .ol [.lst da, .lst db], s10] = .nx [x0, x1, x2, x3, x4, .fz (.lst da), x6, .fz (.lst db), s8', .ol [.lst da, .lst db], s10']
  | [], s8, s10, _, _ => ⟨s8, s10, rfl⟩
  | k :: ks, s8, s10, hk, h8 => by
    have e := turn_W h36 h40 hpr l36 l40 (hk k List.mem_cons_self) ra rb s0 s1 s2 (x0 := x0) (x1 := x1) (x2 := x2) (x3 := x3) (x4 := x4) (x6 := x6) (s10 := s10) h8
    obtain ⟨a, b, e2⟩ := loop_W h36 h40 hpr l36 l40 ra rb s0 s1 s2 (x0 := x0) (x1 := x1) (x2 := x2) (x3 := x3) (x4 := x4) (x6 := x6) (ks := ks) (s8 := .fz (.lst [t0, t1, t2])) (s10 := .fz (.int k)) (fun j hj => hk j (List.mem_cons_of_mem _ hj)) (.inr rfl)
    exact ⟨a, b, by rw [List.map_cons, for_cons e, e2]⟩
theorem rg9 : rgD 0 9 = (List.range 9).map fun k : Nat => D.int k := by rfl
theorem turn_B (h36 : c.pm g36 = [.f, .f, .f, .f]) (h40 : c.pm g40 = [.f, .f, .f, .f]) (h42 : c.pm g42 = [.m, .f]) (hpr : c.pr = false) (l36 : CaughtF (c.cf g36)) (l40 : DueOut (c.cf g40)) (l42 : FarF (c.cf g42)) {da db dr : List D} {u : List Un} {n b : Nat} {l : List D} (hd : Dr n u) (hn : n ≤ 100) (tr : Two R6 (u.map rp) dr) (ra : Raw 200 da) (rb : Raw 200 db) (hl : Pu (b + 4) l) {x0 x1 x4 x6 s7 s8 s9 s10 : Sl} :
    ∃ l' s8' s10', forT c (.n 7) (wB g36 g40 g42) (.lst db) [x0, x1, .ol l, .fz (.lst dr), x4, .fz (.lst da), x6, s7, s8, s9, s10] = .nx [x0, x1, .ol l', .fz (.lst dr), x4, .fz (.lst da), x6, .fz (.lst db), s8', .ol [.lst da, .lst db], s10'] ∧ Pu b l' := by
  obtain ⟨t0, t1, t2, l', e, s0, s1, s2, hl'⟩ := l42 n b l dr u hd hn tr hl
  obtain ⟨a, b', e2⟩ := loop_W h36 h40 hpr l36 l40 ra rb s0 s1 s2 (x0 := x0) (x1 := x1) (x2 := .ol l') (x3 := .fz (.lst dr)) (x4 := x4) (x6 := x6) (ks := List.range 9) (s8 := .ol [t0, t1, t2]) (s10 := s10) (fun k hk => List.mem_range.mp hk) (.inl rfl)
  refine ⟨l', a, b', ?_, hl'⟩
  unfold wB
  simp [forT, hpr, h42, e, rg9] at e2 ⊢
  simp [e2]
end
end Pl

namespace Pl
open PySem Mp
/-! Rl: the law, on. -/
section
variable {c : Cf} {g24 g25 g33 g34 g36 g40 g41 g42 : Nat}
theorem loop_B (h36 : c.pm g36 = [.f, .f, .f, .f]) (h40 : c.pm g40 = [.f, .f, .f, .f]) (h42 : c.pm g42 = [.m, .f]) (hpr : c.pr = false) (l36 : CaughtF (c.cf g36)) (l40 : DueOut (c.cf g40)) (l42 : FarF (c.cf g42)) {da dr : List D} {u : List Un} {n b : Nat} (hd : Dr n u) (hn : n ≤ 100) (tr : Two R6 (u.map rp) dr) (ra : Raw 200 da) {x0 x1 x4 x6 : Sl} :
    ∀ {rows : List (List D)} {l : List D} {s7 s8 s9 s10 : Sl}, (∀ r ∈ rows, Raw 200 r) → Pu (b + 4 * rows.length) l → ∃ l' s7' s8' s9' s10', forF (forT c (.n 7) (wB g36 g40 g42)) (rows.map D.lst) [x0, x1, .ol l, .fz (.lst dr), x4, .fz (.lst da), x6, s7, s8, s9, s10] = .nx [x0, x1, .ol l', .fz (.lst dr), x4, .fz (.lst da), x6, s7', s8', s9', s10'] ∧ Pu b l'
  | [], l, s7, s8, s9, s10, _, hl => ⟨l, s7, s8, s9, s10, rfl, hl⟩
  | r :: rows, l, s7, s8, s9, s10, hr, hl => by
    rw [List.length_cons] at hl
    obtain ⟨l1, a, b', e, hl1⟩ := turn_B h36 h40 h42 hpr l36 l40 l42 hd hn tr ra (hr r List.mem_cons_self) (b := b + 4 * rows.length) (hl.mono (by omega)) (x0 := x0) (x1 := x1) (x4 := x4) (x6 := x6) (s7 := s7) (s8 := s8) (s9 := s9) (s10 := s10)
    obtain ⟨l2, c1, c2, c3, c4, e2, hl2⟩ := loop_B h36 h40 h42 hpr l36 l40 l42 hd hn tr ra (x0 := x0) (x1 := x1) (x4 := x4) (x6 := x6) (rows := rows) (l := l1) (s7 := .fz (.lst r)) (s8 := a) (s9 := .ol [.lst da, .lst r]) (s10 := b') (fun r hr' => hr r (List.mem_cons_of_mem _ hr')) hl1
    exact ⟨l2, c1, c2, c3, c4, by rw [List.map_cons, for_cons e, e2], hl2⟩
theorem turn_A (h25 : c.pm g25 = [.m, .f]) (h36 : c.pm g36 = [.f, .f, .f, .f]) (h40 : c.pm g40 = [.f, .f, .f, .f]) (h42 : c.pm g42 = [.m, .f]) (hpr : c.pr = false) (l25 : Dra (c.cf g25)) (l36 : CaughtF (c.cf g36)) (l40 : DueOut (c.cf g40)) (l42 : FarF (c.cf g42)) {da dr l : List D} {S : List (List D)} {u : List Un} {n b : Nat} (hd : Dr n u) (hn : n ≤ 100) (tr : Two R6 (u.map rp) dr) (rr : Raw 200 dr) (ra : Raw 200 da) (hS : ∀ r ∈ S, Raw 200 r) (lS : S.length = 6) (hl : Pu (b + 14) l) {x0 x1 s5 s6 s7 s8 s9 s10 : Sl} :
    ∃ l' s6' s7' s8' s9' s10', forT c (.n 5) (wA g25 g36 g40 g42) (.lst da) [x0, x1, .ol l, .fz (.lst dr), .fz (.lst (S.map D.lst)), s5, s6, s7, s8, s9, s10] = .nx [x0, x1, .ol l', .fz (.lst dr), .fz (.lst (S.map D.lst)), .fz (.lst da), s6', s7', s8', s9', s10'] ∧ Pu b l' := by
  have z3 : 2 + 1 ≤ sizeLine := by decide
  obtain ⟨r1, l1, e1, a1, a2, p1⟩ := l25 (b + 13) 6 l hl (by omega) (by omega)
  obtain ⟨r2, l2, e2, a3, a4, p2⟩ := l25 (b + 12) 6 l1 p1 (by omega) (by omega)
  obtain ⟨d1, i1, j1⟩ := at_of (l := S.map D.lst) a1 (by rw [List.length_map, lS]; exact a2)
  obtain ⟨d2, i2, j2⟩ := at_of (l := S.map D.lst) a3 (by rw [List.length_map, lS]; exact a4)
  obtain ⟨p, ip, rfl⟩ := List.mem_map.mp i1
  obtain ⟨q, iq, rfl⟩ := List.mem_map.mp i2
  obtain ⟨l3, c1, c2, c3, c4, e3, hl3⟩ := loop_B h36 h40 h42 hpr l36 l40 l42 hd hn tr ra (b := b) (x0 := x0) (x1 := x1) (x4 := .fz (.lst (S.map D.lst))) (x6 := .ol [.lst p, .lst q]) (rows := [p, q, dr]) (l := l2) (s7 := s7) (s8 := s8) (s9 := s9) (s10 := s10) (fun r hr => by
    simp only [List.mem_cons, List.not_mem_nil, or_false] at hr
    rcases hr with rfl | rfl | rfl
    · exact hS _ ip
    · exact hS _ iq
    · exact rr) p2
  refine ⟨l3, .ol [.lst p, .lst q], c1, c2, c3, c4, ?_, hl3⟩
  unfold wA
  simp only [List.map_cons, List.map_nil] at e3
  simp [forT, hpr, h25, e1, e2, j1, j2] at e3 ⊢
  simp [e3]
theorem loop_A (h25 : c.pm g25 = [.m, .f]) (h36 : c.pm g36 = [.f, .f, .f, .f]) (h40 : c.pm g40 = [.f, .f, .f, .f]) (h42 : c.pm g42 = [.m, .f]) (hpr : c.pr = false) (l25 : Dra (c.cf g25)) (l36 : CaughtF (c.cf g36)) (l40 : DueOut (c.cf g40)) (l42 : FarF (c.cf g42)) {dr : List D} {S : List (List D)} {u : List Un} {n b : Nat} (hd : Dr n u) (hn : n ≤ 100) (tr : Two R6 (u.map rp) dr) (rr : Raw 200 dr) (hS : ∀ r ∈ S, Raw 200 r) (lS : S.length = 6) {x0 x1 : Sl} :
    ∀ {rows : List (List D)} {l : List D} {s5 s6 s7 s8 s9 s10 : Sl}, (∀ r ∈ rows, Raw 200 r) → Pu (b + 14 * rows.length) l → ∃ l' s5' s6' s7' s8' s9' s10', forF (forT c (.n 5) (wA g25 g36 g40 g42)) (rows.map D.lst) [x0, x1, .ol l, .fz (.lst dr), .fz (.lst (S.map D.lst)), s5, s6, s7, s8, s9, s10] = .nx [x0, x1, .ol l', .fz (.lst dr), .fz (.lst (S.map D.lst)), s5', s6', s7', s8', s9', s10'] ∧ Pu b l'
  | [], l, s5, s6, s7, s8, s9, s10, _, hl => ⟨l, s5, s6, s7, s8, s9, s10, rfl, hl⟩
  | r :: rows, l, s5, s6, s7, s8, s9, s10, hr, hl => by
    rw [List.length_cons] at hl
    obtain ⟨l1, a6, a7, a8, a9, a10, e, hl1⟩ := turn_A h25 h36 h40 h42 hpr l25 l36 l40 l42 hd hn tr rr (hr r List.mem_cons_self) hS lS (b := b + 14 * rows.length) (hl.mono (by omega)) (x0 := x0) (x1 := x1) (s5 := s5) (s6 := s6) (s7 := s7) (s8 := s8) (s9 := s9) (s10 := s10)
    obtain ⟨l2, c5, c6, c7, c8, c9, c10, e2, hl2⟩ := loop_A h25 h36 h40 h42 hpr l25 l36 l40 l42 hd hn tr rr hS lS (x0 := x0) (x1 := x1) (rows := rows) (l := l1) (s5 := .fz (.lst r)) (s6 := a6) (s7 := a7) (s8 := a8) (s9 := a9) (s10 := a10) (fun r hr' => hr r (List.mem_cons_of_mem _ hr')) hl1
    exact ⟨l2, c5, c6, c7, c8, c9, c10, by rw [List.map_cons, for_cons e, e2], hl2⟩
end
end Pl

namespace Pl
open PySem Mp
/-! Rm: the law, whole. -/
structure Law16 (c : Cf) (ns : List Int) (g24 g25 g33 g34 g36 g40 g41 g42 : Nat) : Prop where
  pr : c.pr = false
  h24 : c.pm g24 = [.s, .f]
  h25 : c.pm g25 = [.m, .f]
  h33 : c.pm g33 = [.m, .f]
  h34 : c.pm g34 = [.m, .f]
  h36 : c.pm g36 = [.f, .f, .f, .f]
  h40 : c.pm g40 = [.f, .f, .f, .f]
  h41 : c.pm g41 = [.m, .f]
  h42 : c.pm g42 = [.m, .f]
  l24 : PurseF (c.cf g24) ns
  l25 : Dra (c.cf g25)
  l33 : RowF (c.cf g33)
  l34 : OthF (c.cf g34)
  l36 : CaughtF (c.cf g36)
  l40 : DueOut (c.cf g40)
  l41 : BentF (c.cf g41)
  l42 : FarF (c.cf g42)
theorem Raw.mono {n m : Nat} {ds : List D} (h : Raw n ds) (e : n ≤ m) : Raw m ds := by
  obtain ⟨u, h1, h2, h3⟩ := h
  exact ⟨u, h1, h2, Nat.le_trans h3 e⟩
theorem Raw.rev {n : Nat} {ds : List D} (h : Raw n ds) : Raw n ds.reverse := by
  obtain ⟨u, h1, h2, h3⟩ := h
  exact ⟨u.reverse, h1.reverse, fun p hp => h2 p (List.mem_reverse.mp hp), by simpa using h3⟩
theorem raw_dr {n : Nat} {u : List Un} {ds : List D} (h : Dr n u) (t : Two R6 (u.map rp) ds) : Raw n ds := ⟨u.map rp, t, rp_ok h, by rw [List.length_map]; exact h.2⟩
section
variable {c : Cf} {g24 g25 g33 g34 g36 g40 g41 g42 : Nat}
def Shp16 (ns : List Int) (G : List Sl) : Prop := ∃ s1 s2 s3 s4 s5 s6 s7 s8 s9 s10, G = [.sc (ns.map .int), s1, s2, s3, s4, s5, s6, s7, s8, s9, s10]
theorem turn_16 {ns : List Int} (C : Law16 c ns g24 g25 g33 g34 g36 g40 g41 g42) {k : Nat} (hk : k < 5) {G : List Sl} (hG : Shp16 ns G) : ∃ G', forT c (.n 1) (wC g24 g25 g33 g34 g36 g40 g41 g42) (.int k) G = .nx G' ∧ Shp16 ns G' := by
  obtain ⟨s1, s2, s3, s4, s5, s6, s7, s8, s9, s10, rfl⟩ := hG
  have hsz : 1000 ≤ sizeLine := by decide
  have hpr := C.pr
  obtain ⟨l0, m0, e0, hl0⟩ := C.l24 k (by omega)
  obtain ⟨n, hn, en⟩ : ∃ n : Nat, n ≤ 80 ∧ L2.atI [D.int 8, .int 80] (if decide ((k : Int) = 4) = true then 1 else 0) = some (.int n) := by
    by_cases h : (k : Int) = 4
    · exact ⟨80, by omega, by simp [h]⟩
    · exact ⟨8, by omega, by simp [h]⟩
  obtain ⟨u, l1, e1, hl1, hd⟩ := C.l33 n 5000 l0 (by omega) (hl0.mono (by omega))
  obtain ⟨hg, hz, h7, hT⟩ := gu_of hd (show n ≤ 1000 by omega)
  have hlen := hd.2
  obtain ⟨ds, l2, e2, told, hl2⟩ := C.l34 (u.map (@uP U0)) 4000 l1 (qs_row hg) (by simp; omega) (hl1.mono (by simp; omega))
  rw [map_uP] at e2
  have tr := raw_row told
  have rr := raw_dr hd tr
  obtain ⟨d1, l3, e3, r1, hl3⟩ := C.l41 n 3996 l2 ds rr (by omega) hl2
  obtain ⟨d2, l4, e4, r2, hl4⟩ := C.l41 (n + 1) 3992 l3 d1 r1 (by omega) hl3
  obtain ⟨u3, l5, e5, hl5, hd3⟩ := C.l33 3 3900 l4 (by omega) (hl4.mono (by omega))
  have e5 : c.cf g33 [.ol l4, .fz (.int 3)] = .ok (.ol (u3.map (@pU U0))) (.ol l5) := e5
  obtain ⟨hg3, _, _, _⟩ := gu_of hd3 (show 3 ≤ 1000 by omega)
  have t3 : Two R6 (u3.map rp) (u3.map (@pU U0)) := by
    have := raw_row (told_row (r := u3.map (@uP U0)) (qs_row hg3))
    rw [map_uP] at this
    exact this
  have r3 := raw_dr hd3 t3
  have z4 : 2 + 4 ≤ sizeLine := by decide
  have hS : ∀ r ∈ [ds, d1, d2, ds.reverse, u3.map (@pU U0), []], Raw 200 r := fun r hr => by
    simp only [List.mem_cons, List.not_mem_nil, or_false] at hr
    rcases hr with rfl | rfl | rfl | rfl | rfl | rfl
    · exact rr.mono (by omega)
    · exact r1.mono (by omega)
    · exact r2.mono (by omega)
    · exact rr.rev.mono (by omega)
    · exact r3.mono (by omega)
    · exact ⟨[], .nil, (fun p hp => nomatch hp), by simp⟩
  obtain ⟨l6, b5, b6, b7, b8, b9, b10, e6, hl6⟩ := loop_A C.h25 C.h36 C.h40 C.h42 hpr C.l25 C.l36 C.l40 C.l42 hd (by omega) tr (rr.mono (by omega)) hS rfl (b := 0) (x0 := .sc (ns.map .int)) (x1 := .fz (.int k)) (rows := [ds, d1, d2, ds.reverse, u3.map (@pU U0), []]) (l := l5) (s5 := s5) (s6 := s6) (s7 := s7) (s8 := s8) (s9 := s9) (s10 := s10) hS (hl5.mono (by simp))
  refine ⟨_, ?_, .fz (.int k), .ol l6, .fz (.lst ds), .fz (.lst ([ds, d1, d2, ds.reverse, u3.map (@pU U0), []].map D.lst)), b5, b6, b7, b8, b9, b10, rfl⟩
  unfold wC
  simp only [List.map_cons, List.map_nil] at e6 ⊢
  simp only [decide_eq_true_eq] at en
  generalize u.map (@pU U0) = R at *
  generalize u3.map (@pU U0) = R3 at *
  have h24 := C.h24
  have h33 := C.h33
  have h34 := C.h34
  have h41 := C.h41
  clear C hS
  simp [forT, hpr, h24, h33, h34, h41, e0, en, e1, e2, e3, e4, e5, z4] at e6 ⊢
  simp [e6]
theorem ev_law16 {ns : List Int} (C : Law16 c ns g24 g25 g33 g34 g36 g40 g41 g42) : ∃ G', evSs c (sLaw16 g24 g25 g33 g34 g36 g40 g41 g42) [.sc (ns.map .int), .no, .no, .no, .no, .no, .no, .no, .no, .no, .no] = .rt (.d (.bl true)) G' := by
  have r5 : rgD 0 5 = [.int 0, .int 1, .int 2, .int 3, .int 4] := by rfl
  obtain ⟨G0, e0, h0⟩ := turn_16 C (k := 0) (by omega) (G := [.sc (ns.map .int), .no, .no, .no, .no, .no, .no, .no, .no, .no, .no]) ⟨_, _, _, _, _, _, _, _, _, _, rfl⟩
  obtain ⟨G1, e1, h1⟩ := turn_16 C (k := 1) (by omega) h0
  obtain ⟨G2, e2, h2⟩ := turn_16 C (k := 2) (by omega) h1
  obtain ⟨G3, e3, h3⟩ := turn_16 C (k := 3) (by omega) h2
  obtain ⟨G4, e4, h4⟩ := turn_16 C (k := 4) (by omega) h3
  obtain ⟨s1, s2, s3, s4, s5, s6, s7, s8, s9, s10, rfl⟩ := h4
  have f : forF (forT c (.n 1) (wC g24 g25 g33 g34 g36 g40 g41 g42)) [.int 0, .int 1, .int 2, .int 3, .int 4] [.sc (ns.map .int), .no, .no, .no, .no, .no, .no, .no, .no, .no, .no] = .nx [.sc (ns.map .int), s1, s2, s3, s4, s5, s6, s7, s8, s9, s10] := by
    have e0' := for_cons (ds := [.int 1, .int 2, .int 3, .int 4]) e0
    have e1' := for_cons (ds := [.int 2, .int 3, .int 4]) e1
    have e2' := for_cons (ds := [.int 3, .int 4]) e2
    have e3' := for_cons (ds := [.int 4]) e3
    have e4' := for_cons (ds := []) e4
    exact e0'.trans (e1'.trans (e2'.trans (e3'.trans e4')))
  unfold sLaw16
  exact ⟨_, by simp [r5, f]; rfl⟩
end
end Pl

namespace K16
open PySem Mp Pl
def W0 : Nat := 2 ^ 9000
def P : Pg := ⟨defs, nfOf L, mtOf L, W0⟩
abbrev cg (k : Nat) (b : Bool) : Cf := ⟨run P k, fun g => (P.defs.map Df.pm).getD g [], P.nf, P.mt, P.w, b⟩
section
variable {k f : Nat} {d : Df} {ss : List Sl}
theorem rd {r : D} (hd : P.defs[f]? = some d) (h : ∃ G', evSs (cg k d.pr) d.body (ss ++ List.replicate (d.n - ss.length) .no) = .rt (.d r) G') : ∃ m, run P (k + 1) f ss = .ok (.d r) m := by
  obtain ⟨G', e⟩ := h
  exact ⟨_, by rw [run_def hd, e]; rfl⟩
theorem rol {l : List D} (hd : P.defs[f]? = some d) (h : ∃ G', evSs (cg k d.pr) d.body (ss ++ List.replicate (d.n - ss.length) .no) = .rt (.ol l) G') : ∃ m, run P (k + 1) f ss = .ok (.ol l) m := by
  obtain ⟨G', e⟩ := h
  exact ⟨_, by rw [run_def hd, e]; rfl⟩
theorem ral {i : Nat} {G' : List Sl} {l : List D} (hd : P.defs[f]? = some d) (hp : d.pr = false) (h : evSs (cg k d.pr) d.body (ss ++ List.replicate (d.n - ss.length) .no) = .rt (.al i) G') (hi : G'[i]? = some (.ol l)) : ∃ m, run P (k + 1) f ss = .ok (.ol l) m := by
  refine ⟨.no, ?_⟩
  rw [run_def hd, h, hp]
  simp only [retF, hi]
  rfl
theorem rnx (hd : P.defs[f]? = some d) (h : ∃ G', evSs (cg k d.pr) d.body (ss ++ List.replicate (d.n - ss.length) .no) = .nx G') : ∃ m, run P (k + 1) f ss = .ok (.d .non) m := by
  obtain ⟨G', e⟩ := h
  exact ⟨_, by rw [run_def hd, e]; rfl⟩
theorem rdm {G' : List Sl} {r : D} {l' : List D} (hd : P.defs[f]? = some d) (hp : d.pr = true) (e : evSs (cg k d.pr) d.body (ss ++ List.replicate (d.n - ss.length) .no) = .rt (.d r) (.ol l' :: G')) : run P (k + 1) f ss = .ok (.d r) (.ol l') := by
  rw [run_def hd, e, hp]
  rfl
theorem rolm {G' : List Sl} {r l' : List D} (hd : P.defs[f]? = some d) (hp : d.pr = true) (e : evSs (cg k d.pr) d.body (ss ++ List.replicate (d.n - ss.length) .no) = .rt (.ol r) (.ol l' :: G')) : run P (k + 1) f ss = .ok (.ol r) (.ol l') := by
  rw [run_def hd, e, hp]
  rfl
theorem ralm {i : Nat} {G' : List Sl} {r l' : List D} (hd : P.defs[f]? = some d) (hp : d.pr = true) (e : evSs (cg k d.pr) d.body (ss ++ List.replicate (d.n - ss.length) .no) = .rt (.al (i + 1)) (.ol l' :: G')) (hi : G'[i]? = some (.ol r)) : run P (k + 1) f ss = .ok (.ol r) (.ol l') := by
  rw [run_def hd, e, hp]
  simp [retF, hi, fin0]
theorem rtm {x : Cres} (hd : P.defs[f]? = some d) (e : retF d.pr (evSs (cg k d.pr) d.body (ss ++ List.replicate (d.n - ss.length) .no)) = x) : run P (k + 1) f ss = x := by
  rw [run_def hd]
  exact e
end
theorem hw {b : Int} (h : b.natAbs.log2 < 8999) : b.natAbs < W0 := Nat.lt_of_lt_of_le (lt_pow h) (Nat.pow_le_pow_right (by omega) (by omega))
theorem hwp : 1000 < W0 := Nat.lt_of_lt_of_le (show 1000 < 2 ^ 10 by decide) (Nat.pow_le_pow_right (by omega) (by omega))
theorem rex {k f : Nat} {d : Df} {ss : List Sl} {x : Ex} (hd : P.defs[f]? = some d) (h : ∃ G', evSs (cg k d.pr) d.body (ss ++ List.replicate (d.n - ss.length) .no) = .ex x G') : ∃ m, run P (k + 1) f ss = .ex x m := by
  obtain ⟨G', e⟩ := h
  exact ⟨_, by rw [run_def hd, e]; rfl⟩
theorem rout {k f : Nat} {d : Df} {ss : List Sl} {x : Option Nat} (hd : P.defs[f]? = some d) (hp : d.pr = false) (h : OutE (evSs (cg k d.pr) d.body (ss ++ List.replicate (d.n - ss.length) .no)) x) : OutIs (run P (k + 1) f ss) x := by
  rw [run_def hd, hp]
  rw [hp] at h
  exact h.ret
theorem low0 (k : Nat) : Low (run P (k + 1) 0) := fun a b hb hs => rd (d := ⟨4, [.f, .f], s_0, false⟩) rfl (ev_lowest (cg k false) rfl a b hb (hw hs) hs)
theorem must1 (k : Nat) : MustX 14 (run P (k + 2) 1) := ⟨fun a b hb hs => rd (d := ⟨1, [.f], s_1, false⟩) rfl ⟨_, (ev_mustTimeX (c := cg (k + 1) false) (g := 0) (nt := 14) rfl (low0 k) hs).1 hb⟩,
  fun a => rex (d := ⟨1, [.f], s_1, false⟩) rfl ⟨_, (ev_mustTimeX (c := cg (k + 1) false) (g := 0) (nt := 14) (a := a) (b := 0) rfl (low0 k) (by decide)).2 rfl⟩⟩
theorem plus2 (k : Nat) : Plu (run P (k + 2) 2) := fun p q hp hq => rd (d := ⟨2, [.f, .f], s_2, false⟩) rfl ⟨_, ev_plus (c := cg (k + 1) false) (g := 0) rfl (low0 k) hp hq⟩
theorem less3 (k : Nat) : Les (run P (k + 2) 3) := fun p q hp hq => rd (d := ⟨2, [.f, .f], s_3, false⟩) rfl ⟨_, ev_less (c := cg (k + 1) false) (g := 0) rfl (low0 k) hp hq⟩
theorem times4 (k : Nat) : Tim (run P (k + 2) 4) := fun p q hp hq => rd (d := ⟨2, [.f, .f], s_4, false⟩) rfl ⟨_, ev_times (c := cg (k + 1) false) (g := 0) rfl (low0 k) hp hq⟩
theorem under5 (k : Nat) : Und (run P (k + 1) 5) := fun p q hp hq => rd (d := ⟨2, [.f, .f], s_5, false⟩) rfl ⟨_, ev_under (c := cg k false) hp hq⟩
section
variable [Unt]
theorem lowRow6 (k : Nat) : LowX 14 (run P (k + 3) 6) := fun u ds t hz => by
  obtain ⟨e1, e2⟩ := ev_lowestRowX (c := cg (k + 2) false) (g := 1) rfl (must1 k) t hz
  exact ⟨fun z => rol (d := ⟨3, [.f], s_6, false⟩) rfl (e1 z), fun z => rex (d := ⟨3, [.f], s_6, false⟩) rfl (e2 z)⟩
theorem pie7 (k : Nat) : PieX 5 (run P (k + 2) 7) := fun u hu => by
  obtain ⟨e1, e2⟩ := ev_piX (c := cg (k + 1) false) (g := 5) (nr := 5) rfl rfl (und_u (under5 k)) hu
  exact ⟨fun z => rnx (d := ⟨3, [.f], s_7, false⟩) rfl (e1 z), fun z => rex (d := ⟨3, [.f], s_7, false⟩) rfl (e2 z)⟩
theorem keptOf8 (k : Nat) : KeptOf (run P (k + 3) 8) := fun u hg hz => by
  obtain ⟨s4, s5, e⟩ := ev_keptOf (c := cg (k + 2) false) (g := 2) rfl rfl (plu_u (plus2 k)) hg hz
  exact ral (d := ⟨4, [.f], s_8, false⟩) rfl rfl e rfl
theorem mustRow9 (k : Nat) : MustRowX 14 5 (run P (k + 4) 9) := fun u ds t hr => by
  have h := ev_mustRowX (c := cg (k + 3) false) (g := 6) (g2 := 7) (g3 := 8) rfl rfl rfl rfl (lowRow6 k) (pie7 (k + 1)) (keptOf8 k) t hr
  cases e : rowC 14 5 u with
  | none => rw [e] at h; exact rol (d := ⟨2, [.f], s_9, false⟩) rfl h
  | some x => rw [e] at h; exact rex (d := ⟨2, [.f], s_9, false⟩) rfl h
theorem kept10 (k : Nat) : RowOut 14 5 (run P (k + 5) 10) := fun u ds t hr => rout (d := ⟨1, [.f], s_10, false⟩) rfl rfl (ev_keptX (c := cg (k + 4) false) (g := 9) rfl (mustRow9 k) t hr)
theorem whole11 (k : Nat) : WholeOf (run P (k + 3) 11) := fun u hg => rd (d := ⟨4, [.f], s_11, false⟩) rfl (ev_wholeOf (c := cg (k + 2) false) (g := 2) rfl rfl (plu_u (plus2 k)) hg)
theorem length12 (k : Nat) : RowOut 14 5 (run P (k + 5) 12) := fun u ds t hr => rout (d := ⟨1, [.f], s_12, false⟩) rfl rfl (ev_lengthX (c := cg (k + 4) false) (g := 11) (g2 := 9) rfl rfl (whole11 (k + 1)) (mustRow9 k) t hr)
theorem spans13 (k : Nat) : SpansOf (run P (k + 3) 13) := fun u hg hz => by
  obtain ⟨a, b, d, e⟩ := ev_spansOf (c := cg (k + 2) false) (g := 2) rfl rfl (plu_u (plus2 k)) hg hz
  exact ral (d := ⟨5, [.f], s_13, false⟩) rfl rfl e rfl
theorem inOrder14 (k : Nat) : InOrd (run P (k + 2) 14) := fun l hl hz => by
  obtain ⟨s4, s5, e⟩ := ev_inOrder (c := cg (k + 1) false) (g := 5) rfl rfl (und_u (under5 k)) hl hz
  exact ral (d := ⟨5, [.f], s_14, false⟩) rfl rfl e rfl
theorem sounds15 (k : Nat) : SoundsF (run P (k + 2) 15) := fun N t hN ht hz => rd (d := ⟨5, [.f, .f], s_15, false⟩) rfl (ev_sounds (c := cg (k + 1) false) (g := 5) rfl rfl (und_u (under5 k)) hN ht hz)
theorem ofBoth16 (k : Nat) : OfBoth (run P (k + 4) 16) := fun u v hu hv zu zv hT => rol (d := ⟨11, [.f, .f], s_16, false⟩) rfl (ev_ofBoth (c := cg (k + 3) false) (g2 := 2) (g3 := 3) (g7 := 8) (g9 := 13) (g10 := 14) (g11 := 15) rfl rfl rfl rfl rfl rfl rfl (plu_u (plus2 (k + 1))) (les_u (less3 (k + 1))) (keptOf8 k) (spans13 k) (inOrder14 (k + 1)) (sounds15 (k + 1)) hu hv zu zv hT)
theorem tog17 (k : Nat) : TogOut 14 5 6 (run P (k + 5) 17) := fun u v d1 d2 t1 t2 hu hv => rout (d := ⟨4, [.f, .f], s_17, false⟩) rfl rfl (ev_togX (c := cg (k + 4) false) (g5 := 6) (g6 := 7) (g7 := 8) (g8 := 11) (g12 := 16) rfl rfl rfl rfl rfl rfl (lowRow6 (k + 1)) (pie7 (k + 2)) (keptOf8 (k + 1)) (whole11 (k + 1)) (ofBoth16 k) t1 t2 hu hv)
theorem quick18 (k : Nat) : QuickOut 14 5 6 (run P (k + 5) 18) := fun u ds o d t td hr ho => rout (d := ⟨6, [.f, .f], s_18, false⟩) rfl rfl (ev_quickX (c := cg (k + 4) false) (g := 1) (g2 := 9) (g3 := 5) (g4 := 4) rfl rfl rfl rfl rfl (must1 (k + 2)) (mustRow9 k) (und_u (under5 (k + 3))) (times4 (k + 2)) t td hr ho)
theorem turned19 (k : Nat) : RowOut 14 5 (run P (k + 5) 19) := fun u ds t hr => rout (d := ⟨1, [.f], s_19, false⟩) rfl rfl (ev_turnedX (c := cg (k + 4) false) (g := 9) rfl (mustRow9 k) t hr)
theorem cutOf20 (k : Nat) : CutOf (run P (k + 4) 20) := fun u a b hg hz ha ha2 hb hb2 => by
  obtain ⟨s4, s5, s6, e⟩ := ev_cutOf (c := cg (k + 3) false) (g := 13) (g2 := 5) (g3 := 3) rfl rfl rfl rfl (spans13 k) (und_u (under5 (k + 2))) (les_u (less3 (k + 1))) hg hz ha ha2 hb hb2
  exact ral (d := ⟨7, [.f, .f, .f], s_20, false⟩) rfl rfl e rfl
theorem cut21 (k : Nat) : CutOut 14 5 6 (run P (k + 5) 21) := fun u ds o p d e t td te hr ho hp => rout (d := ⟨6, [.f, .f, .f], s_21, false⟩) rfl rfl (ev_cutX (c := cg (k + 4) false) (g := 1) (g2 := 9) (g3 := 5) (g4 := 11) (g5 := 20) rfl rfl rfl rfl rfl rfl (must1 (k + 2)) (mustRow9 k) (und_u (under5 (k + 3))) (whole11 (k + 1)) (cutOf20 k) t td te hr ho hp)
end
theorem at22 (k : Nat) (ns : List Int) : At (run P (k + 1) 22) ns := fun j => by
  obtain ⟨x, e⟩ := ev_at (c := cg k false) (ns := ns) (k := j)
  obtain ⟨m, e⟩ := rd (k := k) (f := 22) (ss := [.sc (ns.map .int), .fz (.int j)]) (r := .int x) (d := ⟨2, [.s, .f], s_22, false⟩) rfl ⟨_, e⟩
  exact ⟨x, m, e⟩
theorem mix23 (k : Nat) : Mix (run P (k + 1) 23) := fun p q h1 h2 h3 h4 => by
  obtain ⟨x, G', e⟩ := ev_mixed (c := cg k false) rfl h1 h2 h3 h4
  obtain ⟨m, e⟩ := rd (k := k) (f := 23) (ss := [.fz (.int p), .fz (.int q)]) (r := .int x) (d := ⟨3, [.f, .f], s_23, false⟩) rfl ⟨_, e⟩
  exact ⟨x, m, e⟩
theorem purse24 (k : Nat) (ns : List Int) : PurseF (run P (k + 2) 24) ns := fun j hj => by
  obtain ⟨l, G', e, hl⟩ := ev_purse (c := cg (k + 1) false) (g := 22) rfl rfl (at22 k ns) hj
  obtain ⟨m, e⟩ := rol (k := k + 1) (f := 24) (ss := [.sc (ns.map .int), .fz (.int j)]) (l := l) (d := ⟨3, [.s, .f], s_24, false⟩) rfl ⟨_, e⟩
  exact ⟨l, m, e, hl⟩
theorem draw25 (k : Nat) : Dra (run P (k + 2) 25) := fun b n l hl h1 h2 => by
  obtain ⟨r, l', s2, s3, s4, e, r1, r2, hl'⟩ := ev_draw (c := cg (k + 1) true) (g := 23) rfl rfl (mix23 k) hl h1 h2
  exact ⟨r, l', rdm (d := ⟨5, [.m, .f], s_25, false⟩) rfl rfl e, r1, r2, hl'⟩
theorem made26 (k : Nat) : Low (run P (k + 1) 26) := fun a b hb hs => rd (d := ⟨4, [.f, .f], s_26, false⟩) rfl (ev_made (c := cg k false) rfl hb (hw hs) hs)
theorem sum27 (k : Nat) : Plu (run P (k + 2) 27) := fun p q hp hq => rd (d := ⟨2, [.f, .f], s_27, false⟩) rfl ⟨_, ev_plus (c := cg (k + 1) false) (g := 26) rfl (made26 k) hp hq⟩
theorem prod28 (k : Nat) : Tim (run P (k + 2) 28) := fun p q hp hq => rd (d := ⟨2, [.f, .f], s_28, false⟩) rfl ⟨_, ev_times (c := cg (k + 1) false) (g := 26) rfl (made26 k) hp hq⟩
theorem below29 (k : Nat) : Und (run P (k + 1) 29) := fun p q hp hq => rd (d := ⟨2, [.f, .f], s_29, false⟩) rfl ⟨_, ev_under (c := cg k false) hp hq⟩
theorem all30 [Unt] (k : Nat) : All (run P (k + 3) 30) := fun u h hB => rd (d := ⟨3, [.f], s_30, false⟩) rfl (ev_all (c := cg (k + 2) false) (g := 27) rfl rfl (plu_u (sum27 k)) h hB)
theorem toldO31 (k : Nat) : ToldO (run P (k + 3) 31) := fun q b l hq hl => by
  obtain ⟨d, l', s1, s2, e, t, hl'⟩ := ev_toldO (c := cg (k + 2) true) (g := 25) rfl rfl (draw25 k) hq hl
  exact ⟨d, l', rdm (d := ⟨3, [.m, .f], s_31, false⟩) rfl rfl e, t, hl'⟩
theorem class32 (k : Nat) : ClassF (run P (k + 1) 32) := fun o h => rtm (d := ⟨4, [.f], s_32, false⟩) rfl (ev_class (c := cg k false) rfl h)
theorem row33 (k : Nat) : RowF (run P (k + 3) 33) := fun n b l hn hl => by
  obtain ⟨u, l', s1, s3, s4, s5, e, hl', hd⟩ := ev_row (c := cg (k + 2) true) (g := 25) (g2 := 26) rfl rfl rfl (draw25 k) (made26 (k + 1)) hn hl
  exact ⟨u, l', ralm (i := 1) (d := ⟨6, [.m, .f], s_33, false⟩) rfl rfl e rfl, hl', hd⟩
theorem oth34 (k : Nat) : OthF (run P (k + 4) 34) := fun r b l hr hz hl => by
  obtain ⟨ds, l', s1, s2, s3, e, t, hl'⟩ := ev_otherwise (c := cg (k + 3) true) (g := 31) rfl (toldO31 k) hr hz hl
  exact ⟨ds, l', rolm (d := ⟨4, [.m, .f], s_34, false⟩) rfl rfl e, t, hl'⟩
section
variable [Unt]
theorem asked35 (k : Nat) : AskedOut 14 5 6 (run P (k + 6) 35) := fun j u v d1 d2 o0 o1 o2 t0 t1 t2 hj h1 h2 hu hv r0 r1 r2 b0 b1 b2 => by
  have h := ev_asked (c := cg (k + 5) false) (nt := 14) (nr := 5) (nf := 6) (g10 := 10) (g12 := 12) (g17 := 17) (g18 := 18) (g19 := 19) (g21 := 21) ⟨rfl, rfl, rfl, rfl, rfl, rfl, kept10 k, length12 k, tog17 k, quick18 k, turned19 k, cut21 k⟩ hj h1 h2 hu hv r0 r1 r2 b0 b1 b2
  cases e : outC 14 5 6 j u v o0 o1 o2 with
  | none => rw [e] at h; exact rnx (d := ⟨4, [.f, .f, .f, .f], s_35, false⟩) rfl h
  | some x => rw [e] at h; exact rex (d := ⟨4, [.f, .f, .f, .f], s_35, false⟩) rfl h
theorem bot37 (k : Nat) : BotF (run P (k + 1) 37) := fun j u v d1 d2 o0 o1 o2 t0 t1 t2 h1 h2 hu hv r0 r1 r2 => by
  obtain ⟨bs, G', e1, e2⟩ := ev_bottoms (c := cg k false) rfl (k := j) h1 h2 hu hv r0 r1 r2
  obtain ⟨m, e⟩ := rol (k := k) (f := 37) (ss := [.fz (.int j), .fz (.lst d1), .fz (.lst d2), .fz (.lst [t0, t1, t2])]) (d := ⟨8, [.f, .f, .f, .f], s_37, false⟩) rfl ⟨G', e2⟩
  exact ⟨bs, m, e1, e⟩
theorem good38 (k : Nat) : GoodF (run P (k + 2) 38) := fun u ds t hu hf => rd (d := ⟨3, [.f], s_38, false⟩) rfl (ev_good (c := cg (k + 1) false) (g26 := 26) (g29 := 29) rfl rfl rfl (made26 k) (und_u (below29 k)) t hu hf)
theorem long39 (k : Nat) : LongF (run P (k + 4) 39) := fun u ds t hu hf hg => rd (d := ⟨3, [.f], s_39, false⟩) rfl (ev_longOf (c := cg (k + 3) false) (g26 := 26) (g30 := 30) rfl rfl rfl (made26 (k + 2)) (all30 k) t hu hf hg)
end
theorem caught36 (k : Nat) : CaughtF (run P (k + 7) 36) := fun j u v d1 d2 o0 o1 o2 t0 t1 t2 hj h1 h2 hu hv r0 r1 r2 b0 b1 b2 => rol (d := ⟨6, [.f, .f, .f, .f], s_36, false⟩) rfl (@ev_caught (cg (k + 6) false) U6 32 35 rfl rfl rfl (class32 (k + 5)) (@asked35 U6 k) j hj u v d1 d2 o0 o1 o2 t0 t1 t2 h1 h2 hu hv r0 r1 r2 b0 b1 b2)
theorem due40 (k : Nat) : DueOut (run P (k + 5) 40) := fun j u v d1 d2 o0 o1 o2 t0 t1 t2 hj h1 h2 hu hv r0 r1 r2 b0 b1 b2 => by
  obtain ⟨r, G', e, hr⟩ := @ev_due (cg (k + 4) false) 26 29 37 38 39 U6 (@DueF.mk U6 _ _ _ _ _ _ rfl rfl rfl rfl rfl rfl (made26 (k + 3)) (@und_u U6 _ (below29 (k + 3))) (@bot37 U6 (k + 3)) (@good38 U6 (k + 2)) (@long39 U6 k)) j hj u v d1 d2 o0 o1 o2 t0 t1 t2 h1 h2 hu hv r0 r1 r2 b0 b1 b2
  rcases hr with rfl | rfl
  · obtain ⟨m, e⟩ := rol (k := k + 4) (f := 40) (ss := [.fz (.int j), .fz (.lst d1), .fz (.lst d2), .fz (.lst [t0, t1, t2])]) (d := ⟨9, [.f, .f, .f, .f], s_40, false⟩) rfl ⟨G', e⟩
    exact ⟨_, m, e, .inl rfl⟩
  · obtain ⟨m, e⟩ := rd (k := k + 4) (f := 40) (ss := [.fz (.int j), .fz (.lst d1), .fz (.lst d2), .fz (.lst [t0, t1, t2])]) (d := ⟨9, [.f, .f, .f, .f], s_40, false⟩) rfl ⟨G', e⟩
    exact ⟨_, m, e, .inr rfl⟩
theorem bent41 (k : Nat) : BentF (run P (k + 3) 41) := fun n b l ds hr hn hl => by
  obtain ⟨ds', l', G', e, h1, h2⟩ := ev_bent (c := cg (k + 2) true) (g25 := 25) rfl rfl (draw25 k) hr hn hl
  exact ⟨ds', l', rolm (d := ⟨5, [.m, .f], s_41, false⟩) rfl rfl e, h1, h2⟩
theorem far42 (k : Nat) : FarF (run P (k + 5) 42) := fun n b l ds u hd hn t hl => by
  obtain ⟨t0, t1, t2, l', G', e, h⟩ := ev_far (c := cg (k + 4) true) (g25 := 25) (g27 := 27) (g28 := 28) (g31 := 31) (g39 := 39) rfl rfl rfl rfl rfl rfl (draw25 (k + 2)) (@plu_u U6 _ (sum27 (k + 2))) (prod28 (k + 2)) (toldO31 (k + 1)) (@long39 U6 k) hd hn t hl
  exact ⟨t0, t1, t2, l', rolm (d := ⟨5, [.m, .f], s_42, false⟩) rfl rfl e, h⟩
theorem law43 (k : Nat) (ns : List Int) : ∃ m, run P (k + 8) 43 [.sc (ns.map .int)] = .ok (.d (.bl true)) m := rd (d := ⟨11, [.s], s_43, false⟩) rfl (ev_law16 (c := cg (k + 7) false) (g24 := 24) (g25 := 25) (g33 := 33) (g34 := 34) (g36 := 36) (g40 := 40) (g41 := 41) (g42 := 42)
  ⟨rfl, rfl, rfl, rfl, rfl, rfl, rfl, rfl, rfl, purse24 (k + 5) ns, draw25 (k + 5), row33 (k + 4), oth34 (k + 3), caught36 k, due40 (k + 2), bent41 (k + 4), far42 (k + 2)⟩)
end K16

namespace K16
open Mp
theorem plain : ∀ ns : List Int, ns.length ≤ 63 → ∃ m, run (G W0) dep 43 [.sc (ns.map .int)] = .ok (.d (.bl true)) m := fun ns _ => law43 32 ns
end K16
open PySem PySem.W PySem.Calls PyProof.Rows
theorem PySem.Challenge.cw_tiedbeats_k16_rows_refused_holds : PySem.Challenge.rw_tiedbeats_k16_rows_refused.Holds := by
  w_on; o_law
  refine HandSHeadRun.head_any (r := OpenLaw.row PySem.Challenge.rw_tiedbeats_k16_rows_refused) (q := view (OpenLaw.row PySem.Challenge.rw_tiedbeats_k16_rows_refused).prog [66]) (H := K16.hk) (ob := K16.ob) (M := 20000) (loose := K16.loose) (d := HandSHeadRun.topDef (OpenLaw.row PySem.Challenge.rw_tiedbeats_k16_rows_refused).prog 66) (kwd := []) K16.ob_eq
    (by kernel_rfl) (fun s => by kernel_rfl) K16.runs (by kernel_rfl) (by kernel_rfl) (by kernel_rfl) (by rfl) (by first | assumption | decide +kernel) (by decide +kernel) ⟨rfl, rfl, rfl, rfl, rfl, by decide +kernel⟩ ?hw ?hc
  case hw => w_witness2
  case hc =>
    refine L2.walk_ofE (l := PySem.Challenge.rw_tiedbeats_k16_rows_refused) (n := 63) (k := 5 * K16.dep) (x := "_law_script") (CX := Mp.CXe (PySem.Challenge.rw_tiedbeats_k16_rows_refused).prog) rfl (by decide) (by kernel_rfl) ⟨rfl, by decide, by decide⟩ ?F (fun _ _ _ _ z => Mp.CXe.no z)
    intro w mg fa h Y G hmg0
    obtain ⟨K, KX, c⟩ := Y
    have hmg : mg ("law" : PySem.Str) = some (.ref fa) := by
      have e : (HandSHeadRun.topDef (OpenLaw.row PySem.Challenge.rw_tiedbeats_k16_rows_refused).prog 66).name = ("law" : PySem.Str) := by kernel_rfl
      rw [← e]
      exact hmg0
    obtain ⟨fd, hb, hF⟩ := K16.facts (P := (PySem.Challenge.rw_tiedbeats_k16_rows_refused).prog) (w := w) _ K16.plain KX G hmg c
    exact ⟨K, fd, Mp.spLaw (Mp.txOf K K16.L), KX, hb, fun H a ns hl hO hS => ⟨a, ns, rfl, hl, hS, hO, fun _ => rfl⟩, hF⟩
