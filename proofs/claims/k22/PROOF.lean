import PyProof.Rows.All
import Wide.All
import OpenK.AllK
import Wide.FinOn
import PyProof.EqAt
import PyProof.EqKinds
import PyProof.TupleCall
import HandS.ForMost
import HandS.ForExc
import HandS.ExcInit
import HandS.IsInst
import HandS.Wide
import HandS.WideBits
import HandS.Flow
import HandS.Text
import KE.SortData
import HandS.Iter
import HandS.Style
import HandS.Deep
import HandS.NoneIn
import HandS.ExcOwn
import HandS.Conv
import HandS.Dict
import HandS.FStr
import HandS.SortKw
import KE.SortKeyHeap
import KE.DatumOrd
import PySem.Challenge.RW_slideroom_k22_the_book_kept
set_option Elab.async false
set_option linter.all false
set_option maxRecDepth 100000
/-! Sr: an interpreter over pure data, and what ties it to the layer. Part 1: values, states, what they stand for. -/
namespace Sr
open PySem PySem.Spec PyProof.Rows L2

/-- pure values; ref: a cell of the store; obj: an object of the module (a class, a type), by number; xn: a caught exception; scr: a list that was handed in from outside -/
inductive D where
  | non | bl (b : Bool) | int (i : Int) | str (s : Str)
  | tup (ds : List D) | lst (ds : List D) | dic (kvs : List (Key × D))
  | ref (n : Nat) | obj (k : Nat) | xn (c : Nat) (fs : List (Str × D)) | scr (ds : List D)
/-- own: this name (or this passing result) alone has it; lent: it stays as it is for now; pk: looked at in passing -/
inductive Md where | own | val | lent | pk
  deriving DecidableEq
abbrev Sl := Md × D
inductive Cell where | lst (ds : List D) | dic (kvs : List (Key × D)) | inst (c : Nat) (fs : List (Str × D)) | dtp (kvs : List (List Key × D))
structure Stt where
  env : List (Option Sl)
  sto : List Cell
structure Xn where
  cls : Nat
  fs : List (Str × D)
inductive Out (α : Type) where | ok (a : α) (s : Stt) | exc (x : Xn) (s : Stt) | stuck
inductive COut where | ok (r : Sl) (S : List Cell) | exc (x : Xn) (S : List Cell) | stuck
@[simp] def Out.bind {α β : Type} : Out α → (α → Stt → Out β) → Out β
  | .ok a s, f => f a s
  | .exc x s, _ => .exc x s
  | .stuck, _ => .stuck

/-- who has the object at an address -/
inductive Ow where | slot (i : Nat) | cell (n : Nat) | out | tmp
  deriving DecidableEq
abbrev Own := Addr → Option Ow
structure Ctx where
  K : PySem.W.Frag
  ob : Nat → V

def KT (K : PySem.W.Frag) (a : Addr) (xs : List V) : Prop :=
  ∃ (o : Obj) (its : Array Value) (n : Nat), K.lookup a = some o ∧ o.cls = .type "tuple" ∧ o.data = .seq its n ∧ its.size ≤ sizeLine ∧ Vals xs its.toList
def KL (K : PySem.W.Frag) (a : Addr) (xs : List V) : Prop :=
  ∃ (o : Obj) (its : Array Value) (n : Nat), K.lookup a = some o ∧ o.cls = .type "list" ∧ o.dict = none ∧ o.data = .seq its n ∧ its.size ≤ sizeLine ∧ Vals xs its.toList

mutual
inductive IsF (C : Ctx) (ι : List Addr) (o : Own) (H : Hp) : D → V → Prop
  | non : IsF C ι o H .non .non
  | bl (b : Bool) : IsF C ι o H (.bl b) (.bl b)
  | int (i : Int) : IsF C ι o H (.int i) (.int i)
  | str (s : Str) : IsF C ι o H (.str s) (.str s)
  | tup {a : Addr} {vs : List V} {ds : List D} : o a = none → H a = some (.tup vs) → IsFs C ι o H ds vs → IsF C ι o H (.tup ds) (.ref a)
  | lst {a : Addr} {vs : List V} {ds : List D} : o a = none → H a = some (.lst vs) → IsFs C ι o H ds vs → IsF C ι o H (.lst ds) (.ref a)
  | scr {a : Addr} {vs : List V} {ds : List D} : o a = none → Rd H a (.lst vs) → IsFs C ι o H ds vs → IsF C ι o H (.scr ds) (.ref a)
  | scrK {a : Addr} {vs : List V} {ds : List D} : KL C.K a vs → IsFs C ι o H ds vs → IsF C ι o H (.scr ds) (.ref a)
  | dic {a : Addr} {vs : List (Key × V)} {ds : List (Key × D)} : o a = none → H a = some (.dK vs) → IsFk C ι o H ds vs → IsF C ι o H (.dic ds) (.ref a)
  | ref {n : Nat} {a : Addr} : ι[n]? = some a → IsF C ι o H (.ref n) (.ref a)
  | obj (k : Nat) : IsF C ι o H (.obj k) (C.ob k)
inductive IsFs (C : Ctx) (ι : List Addr) (o : Own) (H : Hp) : List D → List V → Prop
  | nil : IsFs C ι o H [] []
  | cons {d : D} {v : V} {ds : List D} {vs : List V} : IsF C ι o H d v → IsFs C ι o H ds vs → IsFs C ι o H (d :: ds) (v :: vs)
inductive IsFk (C : Ctx) (ι : List Addr) (o : Own) (H : Hp) : List (Key × D) → List (Key × V) → Prop
  | nil : IsFk C ι o H [] []
  | cons {k : Key} {d : D} {v : V} {ds : List (Key × D)} {vs : List (Key × V)} : IsF C ι o H d v → IsFk C ι o H ds vs → IsFk C ι o H ((k, d) :: ds) ((k, v) :: vs)
end

/-- what pure data leans on is kept -/
structure Kept (ι : List Addr) (o : Own) (H : Hp) (ι' : List Addr) (o' : Own) (H' : Hp) : Prop where
  io : ∀ (n : Nat) (a : Addr), ι[n]? = some a → ι'[n]? = some a
  hp : ∀ (a : Addr) (x : HO), H a = some x → o a = none → H' a = some x ∧ o' a = none

section
variable {C : Ctx} {ι ι' : List Addr} {o o' : Own} {H H' : Hp}
theorem Kept.rd (k : Kept ι o H ι' o' H') {a : Addr} {u : HO} (h : Rd H a u) (n : o a = none) : Rd H' a u ∧ o' a = none := by
  rcases h with h | ⟨q, h⟩
  · exact ⟨.inl (k.hp a _ h n).1, (k.hp a _ h n).2⟩
  · exact ⟨.inr ⟨q, (k.hp a _ h n).1⟩, (k.hp a _ h n).2⟩
mutual
theorem IsF.mono (k : Kept ι o H ι' o' H') : ∀ {d : D} {v : V}, IsF C ι o H d v → IsF C ι' o' H' d v
  | _, _, .non => .non
  | _, _, .bl b => .bl b
  | _, _, .int i => .int i
  | _, _, .str s => .str s
  | _, _, .tup n r h => .tup (k.hp _ _ r n).2 (k.hp _ _ r n).1 (IsFs.mono k h)
  | _, _, .lst n r h => .lst (k.hp _ _ r n).2 (k.hp _ _ r n).1 (IsFs.mono k h)
  | _, _, .scr n r h => .scr (k.rd r n).2 (k.rd r n).1 (IsFs.mono k h)
  | _, _, .scrK r h => .scrK r (IsFs.mono k h)
  | _, _, .dic n r h => .dic (k.hp _ _ r n).2 (k.hp _ _ r n).1 (IsFk.mono k h)
  | _, _, .ref e => .ref (k.io _ _ e)
  | _, _, .obj n => .obj n
theorem IsFs.mono (k : Kept ι o H ι' o' H') : ∀ {ds : List D} {vs : List V}, IsFs C ι o H ds vs → IsFs C ι' o' H' ds vs
  | _, _, .nil => .nil
  | _, _, .cons h t => .cons (IsF.mono k h) (IsFs.mono k t)
theorem IsFk.mono (k : Kept ι o H ι' o' H') : ∀ {ds : List (Key × D)} {vs : List (Key × V)}, IsFk C ι o H ds vs → IsFk C ι' o' H' ds vs
  | _, _, .nil => .nil
  | _, _, .cons h t => .cons (IsF.mono k h) (IsFk.mono k t)
end
theorem IsFs.length : ∀ {ds : List D} {vs : List V}, IsFs C ι o H ds vs → ds.length = vs.length
  | _, _, .nil => rfl
  | _, _, .cons _ t => congrArg (· + 1) (IsFs.length t)
theorem IsFs.get : ∀ {ds : List D} {vs : List V} {i : Nat} {d : D}, IsFs C ι o H ds vs → ds[i]? = some d → ∃ v, vs[i]? = some v ∧ IsF C ι o H d v
  | _, _, 0, d, .cons h _, e => ⟨_, rfl, by cases e; exact h⟩
  | _, _, i + 1, d, .cons _ t, e => by
    obtain ⟨v, h1, h2⟩ := IsFs.get (i := i) t (by simpa using e)
    exact ⟨v, by simpa using h1, h2⟩
theorem IsFs.append : ∀ {ds es : List D} {vs ws : List V}, IsFs C ι o H ds vs → IsFs C ι o H es ws → IsFs C ι o H (ds ++ es) (vs ++ ws)
  | _, _, _, _, .nil, s => s
  | _, _, _, _, .cons h t, s => .cons h (IsFs.append t s)
theorem IsFs.set {d : D} {v : V} (r : IsF C ι o H d v) : ∀ {ds : List D} {vs : List V} (i : Nat), IsFs C ι o H ds vs → IsFs C ι o H (ds.set i d) (vs.set i v)
  | _, _, _, .nil => .nil
  | _, _, 0, .cons _ t => .cons r t
  | _, _, i + 1, .cons q t => .cons q (IsFs.set r i t)
theorem IsFs.take : ∀ {ds : List D} {vs : List V} (n : Nat), IsFs C ι o H ds vs → IsFs C ι o H (ds.take n) (vs.take n)
  | _, _, 0, _ => .nil
  | _, _, _ + 1, .nil => .nil
  | _, _, n + 1, .cons r t => .cons r (IsFs.take n t)
theorem IsFs.drop : ∀ {ds : List D} {vs : List V} (n : Nat), IsFs C ι o H ds vs → IsFs C ι o H (ds.drop n) (vs.drop n)
  | _, _, 0, r => r
  | _, _, _ + 1, .nil => .nil
  | _, _, n + 1, .cons _ t => IsFs.drop n t
theorem IsFs.reverse : ∀ {ds : List D} {vs : List V}, IsFs C ι o H ds vs → IsFs C ι o H ds.reverse vs.reverse
  | _, _, .nil => .nil
  | _, _, .cons r t => by
    rw [List.reverse_cons, List.reverse_cons]
    exact (IsFs.reverse t).append (.cons r .nil)
theorem IsFs.eraseIdx : ∀ {ds : List D} {vs : List V} (i : Nat), IsFs C ι o H ds vs → IsFs C ι o H (ds.eraseIdx i) (vs.eraseIdx i)
  | _, _, _, .nil => .nil
  | _, _, 0, .cons _ t => t
  | _, _, i + 1, .cons q t => .cons q (IsFs.eraseIdx i t)
theorem IsF.lst_sq {ds : List D} {v : V} (h : IsF C ι o H (.lst ds) v) : ∃ a vs, v = .ref a ∧ SqL C.K H a vs ∧ IsFs C ι o H ds vs := by
  cases h with
  | lst _ r t => exact ⟨_, _, rfl, .inl (.inl r), t⟩
theorem IsF.lst_rd {ds : List D} {v : V} (h : IsF C ι o H (.lst ds) v) : ∃ a vs, v = .ref a ∧ o a = none ∧ H a = some (.lst vs) ∧ IsFs C ι o H ds vs := by
  cases h with
  | lst n r t => exact ⟨_, _, rfl, n, r, t⟩
theorem IsF.tup_sq {ds : List D} {v : V} (h : IsF C ι o H (.tup ds) v) : ∃ a vs, v = .ref a ∧ SqT C.K H a vs ∧ IsFs C ι o H ds vs := by
  cases h with
  | tup _ r t => exact ⟨_, _, rfl, .inl (.inl r), t⟩
end

/-- nobody of the running def's may change it -/
def Stab (w : Option Ow) : Prop := w = none ∨ w = some .out ∨ w = some .tmp
/-- .. and it is no passing result -/
def Sta (w : Option Ow) : Prop := w = none ∨ w = some .out
theorem Sta.stab {w : Option Ow} (h : Sta w) : Stab w := by
  rcases h with h | h
  · exact .inl h
  · exact .inr (.inl h)
/-- between two points of an expression -/
structure Frm (ι : List Addr) (o : Own) (H : Hp) (ι' : List Addr) (o' : Own) (H' : Hp) : Prop where
  io : ∀ (n : Nat) (a : Addr), ι[n]? = some a → ι'[n]? = some a
  hp : ∀ (a : Addr) (x : HO), H a = some x → (∀ (n : Nat), o a ≠ some (.cell n)) → H' a = some x
  tg : ∀ (a : Addr), H a ≠ none → o' a = o a ∨ ((∃ i, o a = some (.slot i)) ∧ o' a = none)
  ex : ∀ (a : Addr), H a ≠ none → H' a ≠ none
/-- between two points of a body -/
structure FrmT (ι : List Addr) (o : Own) (H : Hp) (ι' : List Addr) (o' : Own) (H' : Hp) : Prop where
  io : ∀ (n : Nat) (a : Addr), ι[n]? = some a → ι'[n]? = some a
  hp : ∀ (a : Addr) (x : HO), H a = some x → Stab (o a) → H' a = some x ∧ o' a = o a
  tg : ∀ (a : Addr) (n : Nat), H a ≠ none → o a = some (.cell n) → o' a = some (.cell n)
  ex : ∀ (a : Addr), H a ≠ none → H' a ≠ none

section
variable {C : Ctx} {ι ι' ι₂ : List Addr} {o o' o₂ : Own} {H H' H₂ : Hp}
theorem Stab.ncell {w : Option Ow} (h : Stab w) (n : Nat) : w ≠ some (.cell n) := by
  rcases h with h | h | h <;> rw [h] <;> exact fun z => nomatch z
theorem Stab.nslot {w : Option Ow} (h : Stab w) (n : Nat) : w ≠ some (.slot n) := by
  rcases h with h | h | h <;> rw [h] <;> exact fun z => nomatch z
theorem Frm.refl : Frm ι o H ι o H := ⟨fun _ _ h => h, fun _ _ h _ => h, fun _ _ => .inl rfl, fun _ h => h⟩
theorem FrmT.refl : FrmT ι o H ι o H := ⟨fun _ _ h => h, fun _ _ h _ => ⟨h, rfl⟩, fun _ _ _ h => h, fun _ h => h⟩
theorem Frm.kept (f : Frm ι o H ι' o' H') : Kept ι o H ι' o' H' := ⟨f.io, fun a x h n => ⟨f.hp a x h (by rw [n]; exact fun _ z => nomatch z), by
  rcases f.tg a (by rw [h]; exact fun z => nomatch z) with e | ⟨⟨i, e⟩, _⟩
  · rw [e, n]
  · rw [n] at e; cases e⟩⟩
theorem FrmT.kept (f : FrmT ι o H ι' o' H') : Kept ι o H ι' o' H' := ⟨f.io, fun a x h n => ⟨(f.hp a x h (.inl n)).1, by rw [(f.hp a x h (.inl n)).2, n]⟩⟩
theorem Frm.trans (f : Frm ι o H ι' o' H') (g : Frm ι' o' H' ι₂ o₂ H₂) : Frm ι o H ι₂ o₂ H₂ where
  io := fun n a h => g.io n a (f.io n a h)
  hp := fun a x h n => by
    refine g.hp a x (f.hp a x h n) fun m e => ?_
    rcases f.tg a (by rw [h]; exact fun z => nomatch z) with q | ⟨_, q⟩
    · rw [q] at e; exact n m e
    · rw [q] at e; cases e
  tg := fun a h => by
    rcases f.tg a h with q | ⟨⟨i, q1⟩, q2⟩
    · rcases g.tg a (f.ex a h) with r | ⟨⟨i, r1⟩, r2⟩
      · exact .inl (r.trans q)
      · exact .inr ⟨⟨i, by rw [← q]; exact r1⟩, r2⟩
    · rcases g.tg a (f.ex a h) with r | ⟨⟨i', r1⟩, r2⟩
      · exact .inr ⟨⟨i, q1⟩, r.trans q2⟩
      · exact .inr ⟨⟨i, q1⟩, r2⟩
  ex := fun a h => g.ex a (f.ex a h)
theorem Frm.toT (f : Frm ι o H ι' o' H') : FrmT ι o H ι' o' H' where
  io := f.io
  hp := fun a x h n => by
    refine ⟨f.hp a x h n.ncell, ?_⟩
    rcases f.tg a (by rw [h]; exact fun z => nomatch z) with q | ⟨⟨i, q⟩, _⟩
    · exact q
    · exact absurd q (n.nslot i)
  tg := fun a n h e => by
    rcases f.tg a h with q | ⟨⟨i, q⟩, _⟩
    · rw [q, e]
    · rw [e] at q; cases q
  ex := f.ex
theorem FrmT.trans (f : FrmT ι o H ι' o' H') (g : FrmT ι' o' H' ι₂ o₂ H₂) : FrmT ι o H ι₂ o₂ H₂ where
  io := fun n a h => g.io n a (f.io n a h)
  hp := fun a x h n => by
    obtain ⟨h1, e1⟩ := f.hp a x h n
    obtain ⟨h2, e2⟩ := g.hp a x h1 (by rw [e1]; exact n)
    exact ⟨h2, e2.trans e1⟩
  tg := fun a n h e => g.tg a n (f.ex a h) (f.tg a n h e)
  ex := fun a h => g.ex a (f.ex a h)
end
end Sr

/-! Sr, part 2: states, results, what a piece of code leaves. -/
namespace Sr
open PySem PySem.Spec PyProof.Rows L2

section
variable (C : Ctx) (ι : List Addr) (o : Own) (H : Hp)
/-- a list's content at its address -/
def LAt (p : Addr) (ds : List D) : Prop := ∃ vs, H p = some (.lst vs) ∧ IsFs C ι o H ds vs
def KAt (p : Addr) (ds : List (Key × D)) : Prop := ∃ vs, H p = some (.dK vs) ∧ IsFk C ι o H ds vs
def SlotOk (i : Nat) : Sl → V → Prop
  | (.val, d), v => IsF C ι o H d v
  | (.own, .lst ds), v => ∃ p, v = .ref p ∧ o p = some (.slot i) ∧ LAt C ι o H p ds
  | (.own, .dic ds), v => ∃ p, v = .ref p ∧ o p = some (.slot i) ∧ KAt C ι o H p ds
  | (.lent, .lst ds), v => ∃ p, v = .ref p ∧ Sta (o p) ∧ LAt C ι o H p ds
  | (.lent, .dic ds), v => ∃ p, v = .ref p ∧ Sta (o p) ∧ KAt C ι o H p ds
  | _, _ => False
def ResOk : Sl → V → Prop
  | (.val, d), v => IsF C ι o H d v
  | (.own, .lst ds), v => ∃ p, v = .ref p ∧ o p = some .tmp ∧ LAt C ι o H p ds
  | (.own, .dic ds), v => ∃ p, v = .ref p ∧ o p = some .tmp ∧ KAt C ι o H p ds
  | (.lent, .lst ds), v => ∃ p, v = .ref p ∧ Sta (o p) ∧ LAt C ι o H p ds
  | (.lent, .dic ds), v => ∃ p, v = .ref p ∧ Sta (o p) ∧ KAt C ι o H p ds
  | (.pk, .lst ds), v => ∃ p, v = .ref p ∧ (Sta (o p) ∨ ∃ i, o p = some (.slot i)) ∧ LAt C ι o H p ds
  | (.pk, .dic ds), v => ∃ p, v = .ref p ∧ (Sta (o p) ∨ ∃ i, o p = some (.slot i)) ∧ KAt C ι o H p ds
  | _, _ => False
/-- an instance's attributes, name by name -/
inductive IsFr : List (Str × D) → List (Str × V) → Prop
  | nil : IsFr [] []
  | cons {f : Str} {d : D} {v : V} {ds : List (Str × D)} {vs : List (Str × V)} : IsF C ι o H d v → IsFr ds vs → IsFr ((f, d) :: ds) ((f, v) :: vs)
/-- a dict by tuples, key by key -/
inductive IsFt : List (List Key × D) → List (List Key × V) → Prop
  | nil : IsFt [] []
  | cons {k : List Key} {d : D} {v : V} {ds : List (List Key × D)} {vs : List (List Key × V)} : IsF C ι o H d v → IsFt ds vs → IsFt ((k, d) :: ds) ((k, v) :: vs)
def CellOk (n : Nat) : Cell → Prop
  | .lst ds => ∃ p, ι[n]? = some p ∧ o p = some (.cell n) ∧ LAt C ι o H p ds
  | .dic ds => ∃ p, ι[n]? = some p ∧ o p = some (.cell n) ∧ KAt C ι o H p ds
  | .inst c fs => ∃ p dx B vs, ι[n]? = some p ∧ o p = some (.cell n) ∧ o dx = some (.cell n) ∧ H p = some (.ins B dx vs) ∧ C.ob c = .ref B ∧ IsFr C ι o H fs vs
  | .dtp ds => ∃ p vs, ι[n]? = some p ∧ o p = some (.cell n) ∧ H p = some (.dT vs) ∧ IsFt C ι o H ds vs
/-- the store -/
structure SOk (S : List Cell) : Prop where
  cell : ∀ (n : Nat) (c : Cell), S[n]? = some c → CellOk C ι o H n c
  own : ∀ (a : Addr), o a ≠ none → H a ≠ none
  len : S.length = ι.length
structure Rel (s : Stt) (σ : L2.St) : Prop where
  env : ∀ (i : Nat) (sl : Sl), s.env[i]? = some (some sl) → ∃ v, σ[i]? = some (some v) ∧ SlotOk C ι o H i sl v
  len : s.env.length = σ.length
  sto : SOk C ι o H s.sto
/-- an exception as it flies -/
def ExOk (x : Xn) (cls : Value) (d : Option Addr) : Prop := ∃ (B dx : Addr) (vs : List (Str × V)), C.ob x.cls = .ref B ∧ cls = .ref B ∧ d = some dx ∧ H dx = some (.xd vs) ∧ o dx = none ∧ IsFr C ι o H x.fs vs
end

/-- all is kept -/
structure Hold (ι : List Addr) (o : Own) (H : Hp) (ι' : List Addr) (o' : Own) (H' : Hp) : Prop where
  io : ∀ (n : Nat) (a : Addr), ι[n]? = some a → ι'[n]? = some a
  hp : ∀ (a : Addr) (x : HO), H a = some x → H' a = some x ∧ o' a = o a

section
variable {C : Ctx} {ι ι' ι₂ : List Addr} {o o' o₂ : Own} {H H' H₂ : Hp} {s : Stt} {σ : L2.St} {S : List Cell}
theorem Hold.refl : Hold ι o H ι o H := ⟨fun _ _ h => h, fun _ _ h => ⟨h, rfl⟩⟩
theorem Hold.kept (k : Hold ι o H ι' o' H') : Kept ι o H ι' o' H' := ⟨k.io, fun a x h n => ⟨(k.hp a x h).1, by rw [(k.hp a x h).2, n]⟩⟩
theorem Hold.frm (k : Hold ι o H ι' o' H') : Frm ι o H ι' o' H' := ⟨k.io, fun a x h _ => (k.hp a x h).1, fun a h => by
    cases q : H a with
    | none => exact absurd q h
    | some x => exact .inl (k.hp a x q).2, fun a h => by
    cases q : H a with
    | none => exact absurd q h
    | some x => rw [(k.hp a x q).1]; exact fun z => nomatch z⟩
theorem LAt.mono {p : Addr} {ds : List D} (k : Kept ι o H ι' o' H') (hp : ∀ x, H p = some x → H' p = some x) (h : LAt C ι o H p ds) : LAt C ι' o' H' p ds := by
  obtain ⟨vs, h1, h2⟩ := h
  exact ⟨vs, hp _ h1, h2.mono k⟩
theorem KAt.mono {p : Addr} {ds : List (Key × D)} (k : Kept ι o H ι' o' H') (hp : ∀ x, H p = some x → H' p = some x) (h : KAt C ι o H p ds) : KAt C ι' o' H' p ds := by
  obtain ⟨vs, h1, h2⟩ := h
  exact ⟨vs, hp _ h1, h2.mono k⟩
theorem LAt.some {p : Addr} {ds : List D} (h : LAt C ι o H p ds) : ∃ x, H p = some x := by
  obtain ⟨vs, h1, _⟩ := h
  exact ⟨_, h1⟩
theorem KAt.some {p : Addr} {ds : List (Key × D)} (h : KAt C ι o H p ds) : ∃ x, H p = some x := by
  obtain ⟨vs, h1, _⟩ := h
  exact ⟨_, h1⟩
theorem IsFr.mono (k : Kept ι o H ι' o' H') : ∀ {ds : List (Str × D)} {vs : List (Str × V)}, IsFr C ι o H ds vs → IsFr C ι' o' H' ds vs
  | _, _, .nil => .nil
  | _, _, .cons h t => .cons (h.mono k) (IsFr.mono k t)
theorem IsFt.mono (k : Kept ι o H ι' o' H') : ∀ {ds : List (List Key × D)} {vs : List (List Key × V)}, IsFt C ι o H ds vs → IsFt C ι' o' H' ds vs
  | _, _, .nil => .nil
  | _, _, .cons h t => .cons (h.mono k) (IsFt.mono k t)
/-- what a slot says stays, where its own object stays -/
theorem SlotOk.mono {i : Nat} {sl : Sl} {v : V} (k : Kept ι o H ι' o' H') (hp : ∀ p x, H p = some x → (o p = some (.slot i) ∨ Sta (o p)) → H' p = some x ∧ o' p = o p) (h : SlotOk C ι o H i sl v) : SlotOk C ι' o' H' i sl v := by
  obtain ⟨m, d⟩ := sl
  cases m with
  | val => exact IsF.mono k h
  | own =>
    cases d with
    | lst ds =>
      obtain ⟨p, e, e2, l⟩ := h
      obtain ⟨x, ex⟩ := l.some
      exact ⟨p, e, by rw [(hp p x ex (.inl e2)).2, e2], l.mono k fun y q => (hp p y q (.inl e2)).1⟩
    | dic ds =>
      obtain ⟨p, e, e2, l⟩ := h
      obtain ⟨x, ex⟩ := l.some
      exact ⟨p, e, by rw [(hp p x ex (.inl e2)).2, e2], l.mono k fun y q => (hp p y q (.inl e2)).1⟩
    | _ => exact h.elim
  | lent =>
    cases d with
    | lst ds =>
      obtain ⟨p, e, e2, l⟩ := h
      obtain ⟨x, ex⟩ := l.some
      exact ⟨p, e, by rw [(hp p x ex (.inr e2)).2]; exact e2, l.mono k fun y q => (hp p y q (.inr e2)).1⟩
    | dic ds =>
      obtain ⟨p, e, e2, l⟩ := h
      obtain ⟨x, ex⟩ := l.some
      exact ⟨p, e, by rw [(hp p x ex (.inr e2)).2]; exact e2, l.mono k fun y q => (hp p y q (.inr e2)).1⟩
    | _ => exact h.elim
  | pk => cases d <;> exact h.elim
theorem CellOk.mono {n : Nat} {c : Cell} (k : Kept ι o H ι' o' H') (hp : ∀ p x, H p = some x → o p = some (.cell n) → H' p = some x ∧ o' p = o p) (ow : ∀ a, o a ≠ none → H a ≠ none) (h : CellOk C ι o H n c) : CellOk C ι' o' H' n c := by
  cases c with
  | lst ds =>
    obtain ⟨p, e, e2, l⟩ := h
    obtain ⟨x, ex⟩ := l.some
    exact ⟨p, k.io _ _ e, by rw [(hp p x ex e2).2, e2], l.mono k fun y q => (hp p y q e2).1⟩
  | dic ds =>
    obtain ⟨p, e, e2, l⟩ := h
    obtain ⟨x, ex⟩ := l.some
    exact ⟨p, k.io _ _ e, by rw [(hp p x ex e2).2, e2], l.mono k fun y q => (hp p y q e2).1⟩
  | inst c fs =>
    obtain ⟨p, dx, B, vs, e, e2, e3, e4, e5, l⟩ := h
    refine ⟨p, dx, B, vs, k.io _ _ e, by rw [(hp p _ e4 e2).2, e2], ?_, (hp p _ e4 e2).1, e5, l.mono k⟩
    cases q : H dx with
    | none => exact absurd q (ow dx (by rw [e3]; exact fun z => nomatch z))
    | some x => rw [(hp dx x q e3).2, e3]
  | dtp ds =>
    obtain ⟨p, vs, e, e2, e4, l⟩ := h
    exact ⟨p, vs, k.io _ _ e, by rw [(hp p _ e4 e2).2, e2], (hp p _ e4 e2).1, l.mono k⟩
/-- the same store behind what keeps all -/
theorem SOk.hold (h : SOk C ι o H S) (k : Hold ι o H ι' o' H') (ow : ∀ a, o' a ≠ none → H' a ≠ none) (l : ι'.length = ι.length) : SOk C ι' o' H' S :=
  ⟨fun n c e => (h.cell n c e).mono k.kept (fun p x q _ => k.hp p x q) h.own, ow, h.len.trans l.symm⟩
theorem Rel.hold (h : Rel C ι o H s σ) (k : Hold ι o H ι' o' H') (ow : ∀ a, o' a ≠ none → H' a ≠ none) (l : ι'.length = ι.length) : Rel C ι' o' H' s σ :=
  ⟨fun i sl e => by
    obtain ⟨v, e1, q⟩ := h.env i sl e
    exact ⟨v, e1, q.mono k.kept fun p x z _ => k.hp p x z⟩, h.len, h.sto.hold k ow l⟩
/-- a result stays -/
theorem ResOk.mono {sl : Sl} {v : V} (f : Frm ι o H ι' o' H') (h : ResOk C ι o H sl v) : ResOk C ι' o' H' sl v := by
  have st : ∀ p x, H p = some x → Stab (o p) → H' p = some x ∧ o' p = o p := fun p x e n => f.toT.hp p x e n
  obtain ⟨m, d⟩ := sl
  cases m with
  | val => exact IsF.mono f.kept h
  | own =>
    cases d with
    | lst ds =>
      obtain ⟨p, e, e2, l⟩ := h
      obtain ⟨x, ex⟩ := l.some
      exact ⟨p, e, by rw [(st p x ex (.inr (.inr e2))).2, e2], l.mono f.kept fun y q => (st p y q (.inr (.inr e2))).1⟩
    | dic ds =>
      obtain ⟨p, e, e2, l⟩ := h
      obtain ⟨x, ex⟩ := l.some
      exact ⟨p, e, by rw [(st p x ex (.inr (.inr e2))).2, e2], l.mono f.kept fun y q => (st p y q (.inr (.inr e2))).1⟩
    | _ => exact h.elim
  | lent =>
    cases d with
    | lst ds =>
      obtain ⟨p, e, e2, l⟩ := h
      obtain ⟨x, ex⟩ := l.some
      exact ⟨p, e, by rw [(st p x ex e2.stab).2]; exact e2, l.mono f.kept fun y q => (st p y q e2.stab).1⟩
    | dic ds =>
      obtain ⟨p, e, e2, l⟩ := h
      obtain ⟨x, ex⟩ := l.some
      exact ⟨p, e, by rw [(st p x ex e2.stab).2]; exact e2, l.mono f.kept fun y q => (st p y q e2.stab).1⟩
    | _ => exact h.elim
  | pk =>
    have nc : ∀ p x, H p = some x → (Sta (o p) ∨ ∃ i, o p = some (.slot i)) → (Sta (o' p) ∨ ∃ i, o' p = some (.slot i)) ∧ ∀ n, o p ≠ some (.cell n) := fun p x e m => by
      refine ⟨?_, fun n z => ?_⟩
      · rcases f.tg p (by rw [e]; exact fun z => nomatch z) with q | ⟨_, q⟩
        · rw [q]; exact m
        · exact .inl (.inl q)
      · rcases m with m | ⟨i, m⟩
        · exact m.stab.ncell n z
        · rw [m] at z; cases z
    cases d with
    | lst ds =>
      obtain ⟨p, e, e2, l⟩ := h
      obtain ⟨x, ex⟩ := l.some
      exact ⟨p, e, (nc p x ex e2).1, l.mono f.kept fun y q => f.hp p y q (nc p x ex e2).2⟩
    | dic ds =>
      obtain ⟨p, e, e2, l⟩ := h
      obtain ⟨x, ex⟩ := l.some
      exact ⟨p, e, (nc p x ex e2).1, l.mono f.kept fun y q => f.hp p y q (nc p x ex e2).2⟩
    | _ => exact h.elim
end

/-! ### new objects -/
def tag (o : Own) (p : Addr) (w : Option Ow) : Own := fun a => if a = p then w else o a
theorem tag_same {o : Own} {p : Addr} {w : Option Ow} : tag o p w p = w := if_pos rfl
theorem tag_ne {o : Own} {p a : Addr} {w : Option Ow} (h : a ≠ p) : tag o p w a = o a := if_neg h
section
variable {C : Ctx} {ι ι' ι₂ : List Addr} {o o' o₂ : Own} {H H' H₂ : Hp} {s : Stt} {σ : L2.St} {S : List Cell} {p : Addr} {x : HO} {w : Option Ow}
theorem some_ne {a : Addr} {y : HO} (h : H a = some y) : H a ≠ none := by rw [h]; exact fun z => nomatch z
theorem Hold.new (n : H p = none) : Hold ι o H ι (tag o p w) (upd H p x) :=
  ⟨fun _ _ h => h, fun a y h => by
    have ne : a ≠ p := ne_of_none h n
    exact ⟨by rw [upd_ne ne]; exact h, tag_ne ne⟩⟩
theorem own_new (ow : ∀ a, o a ≠ none → H a ≠ none) : ∀ a, tag o p w a ≠ none → upd H p x a ≠ none := fun a h => by
  by_cases e : a = p
  · rw [e, upd_same]; exact fun z => nomatch z
  · rw [tag_ne e] at h; rw [upd_ne e]; exact ow a h
theorem Rel.new (h : Rel C ι o H s σ) (n : H p = none) : Rel C ι (tag o p w) (upd H p x) s σ := h.hold (Hold.new n) (own_new h.sto.own) rfl
theorem own_none (ow : ∀ a, o a ≠ none → H a ≠ none) (n : H p = none) : o p = none := by
  cases q : o p with
  | none => rfl
  | some _ => exact absurd n (ow p (by rw [q]; exact fun z => nomatch z))
/-- a new tuple, a frozen new list: the tag stays none -/
theorem Hold.newN (ow : ∀ a, o a ≠ none → H a ≠ none) (n : H p = none) : Hold ι o H ι o (upd H p x) :=
  ⟨fun _ _ h => h, fun a y h => ⟨by rw [upd_ne (ne_of_none h n)]; exact h, rfl⟩⟩
theorem own_newN (ow : ∀ a, o a ≠ none → H a ≠ none) : ∀ a, o a ≠ none → upd H p x a ≠ none := fun a h => by
  by_cases e : a = p
  · rw [e, upd_same]; exact fun z => nomatch z
  · rw [upd_ne e]; exact ow a h
theorem Rel.newN (h : Rel C ι o H s σ) (n : H p = none) : Rel C ι o (upd H p x) s σ := h.hold (Hold.newN h.sto.own n) (own_newN h.sto.own) rfl
end

/-! ### what is wanted behind an expression -/
def Fr0 (H : Hp) (sl : Sl) (v : V) : Prop := sl.1 = .own → ∀ p, v = .ref p → H p = none
def Post (C : Ctx) (W : WX) (σ : L2.St) (ι : List Addr) (o : Own) (H : Hp) (r : Out Sl) (Q : VK) : Prop :=
  match r with
  | .ok sl s => ∀ v H' ι' o', Frm ι o H ι' o' H' → Rel C ι' o' H' s σ → ResOk C ι' o' H' sl v → Fr0 H sl v → Q v H'
  | .exc x s => ∀ H' ι' o' cls d, Frm ι o H ι' o' H' → Rel C ι' o' H' s σ → ExOk C ι' o' H' x cls d → W cls d σ H'
  | .stuck => False
section
variable {C : Ctx} {W : WX} {σ : L2.St} {ι ι' : List Addr} {o o' : Own} {H H' : Hp} {r : Out Sl} {Q : VK}
theorem Fr0.back {sl : Sl} {v : V} (ex : ∀ (a : Addr), H a ≠ none → H' a ≠ none) (h : Fr0 H' sl v) : Fr0 H sl v := fun e p q => by
  cases z : H p with
  | none => rfl
  | some x => exact absurd (h e p q) (ex p (by rw [z]; exact fun z => nomatch z))
theorem Post.shift (f : Frm ι o H ι' o' H') (h : Post C W σ ι o H r Q) : Post C W σ ι' o' H' r Q := by
  cases r with
  | ok sl s => exact fun v H2 ι2 o2 g R E F => h v H2 ι2 o2 (f.trans g) R E (F.back f.ex)
  | exc x s => exact fun H2 ι2 o2 cls d g R E => h H2 ι2 o2 cls d (f.trans g) R E
  | stuck => exact h
/-- one after another -/
theorem Post.bind {f : Sl → Stt → Out Sl} (h : Post C W σ ι o H (r.bind f) Q) {Q1 : VK}
    (k : ∀ sl s v H' ι' o', r = .ok sl s → Frm ι o H ι' o' H' → Rel C ι' o' H' s σ → ResOk C ι' o' H' sl v → Fr0 H sl v → Post C W σ ι' o' H' (f sl s) Q → Post C W σ ι o H (f sl s) Q → Q1 v H') : Post C W σ ι o H r Q1 := by
  cases r with
  | ok sl s => exact fun v H2 ι2 o2 g R E F => k sl s v H2 ι2 o2 rfl g R E F (Post.shift g h) h
  | exc x s => exact h
  | stuck => exact h
/-- a passing result is let go: it is plain data from then on -/
def toVal : Sl → Option D
  | (.val, d) => some d
  | (.own, d) => some d
  | _ => none
theorem conv {s : Stt} {sl : Sl} {v : V} {d : D} (f : Frm ι o H ι' o' H') (R : Rel C ι' o' H' s σ) (E : ResOk C ι' o' H' sl v) (F : Fr0 H sl v) (e : toVal sl = some d) :
    ∃ o2, Frm ι o H ι' o2 H' ∧ Rel C ι' o2 H' s σ ∧ IsF C ι' o2 H' d v ∧ Kept ι' o' H' ι' o2 H' := by
  obtain ⟨m, d'⟩ := sl
  have key : ∀ p, v = .ref p → o' p = some .tmp → H p = none → Frm ι o H ι' (tag o' p none) H' ∧ Rel C ι' (tag o' p none) H' s σ ∧ Kept ι' o' H' ι' (tag o' p none) H' := fun p ev et hn => by
    have kk : Kept ι' o' H' ι' (tag o' p none) H' := ⟨fun _ _ h => h, fun a x h n => ⟨h, by
      by_cases z : a = p
      · rw [z, tag_same]
      · rw [tag_ne z]; exact n⟩⟩
    have nt : ∀ a (w : Ow), o' a = some w → w ≠ .tmp → a ≠ p := fun a w e1 e2 z => by
      rw [z, et] at e1
      exact e2 (Option.some.inj e1).symm
    have owt : ∀ a, tag o' p none a ≠ none → H' a ≠ none := fun a h => by
      by_cases z : a = p
      · rw [z, tag_same] at h; exact absurd rfl h
      · rw [tag_ne z] at h; exact R.sto.own a h
    refine ⟨⟨f.io, f.hp, fun a h => ?_, f.ex⟩, ⟨fun i sl e => ?_, R.len, ⟨fun n c e => ?_, owt, R.sto.len⟩⟩, kk⟩
    · have ne : a ≠ p := fun z => h (by rw [z]; exact hn)
      rw [tag_ne ne]
      exact f.tg a h
    · obtain ⟨u, e1, q⟩ := R.env i sl e
      refine ⟨u, e1, ?_⟩
      obtain ⟨m, d2⟩ := sl
      cases m with
      | val => exact IsF.mono kk q
      | own =>
        cases d2 with
        | lst ds =>
          obtain ⟨p2, e3, e4, l⟩ := q
          exact ⟨p2, e3, by rw [tag_ne (nt p2 _ e4 (fun z => nomatch z))]; exact e4, l.mono kk fun y z => z⟩
        | dic ds =>
          obtain ⟨p2, e3, e4, l⟩ := q
          exact ⟨p2, e3, by rw [tag_ne (nt p2 _ e4 (fun z => nomatch z))]; exact e4, l.mono kk fun y z => z⟩
        | _ => exact q.elim
      | lent =>
        have st : ∀ p2, Sta (o' p2) → Sta (tag o' p none p2) := fun p2 h => by
          by_cases z : p2 = p
          · rw [z, tag_same]; exact .inl rfl
          · rw [tag_ne z]; exact h
        cases d2 with
        | lst ds =>
          obtain ⟨p2, e3, e4, l⟩ := q
          exact ⟨p2, e3, st p2 e4, l.mono kk fun y z => z⟩
        | dic ds =>
          obtain ⟨p2, e3, e4, l⟩ := q
          exact ⟨p2, e3, st p2 e4, l.mono kk fun y z => z⟩
        | _ => exact q.elim
      | pk => cases d2 <;> exact q.elim
    · exact (R.sto.cell n c e).mono kk (fun p2 x q z => ⟨q, tag_ne (nt p2 _ z (fun z => nomatch z))⟩) R.sto.own
  cases m with
  | val =>
    obtain rfl : d' = d := Option.some.inj e
    exact ⟨o', f, R, E, ⟨fun _ _ h => h, fun a x h n => ⟨h, n⟩⟩⟩
  | own =>
    obtain rfl : d' = d := Option.some.inj e
    cases d' with
    | lst ds =>
      obtain ⟨p, ev, et, vs, hl, hf⟩ := E
      obtain ⟨k1, k2, k3⟩ := key p ev et (F rfl p ev)
      refine ⟨_, k1, k2, ?_, k3⟩
      rw [ev]
      exact .lst tag_same hl (hf.mono k3)
    | dic ds =>
      obtain ⟨p, ev, et, vs, hl, hf⟩ := E
      obtain ⟨k1, k2, k3⟩ := key p ev et (F rfl p ev)
      refine ⟨_, k1, k2, ?_, k3⟩
      rw [ev]
      exact .dic tag_same hl (hf.mono k3)
    | _ => exact E.elim
  | lent => cases e
  | pk => cases e
end
end Sr

/-! Sr, part 3: the own syntax and its interpreter. -/
namespace Sr
open PySem PySem.Spec PyProof.Rows L2
noncomputable section

inductive BOp where | add | sub | mul | fdiv | mod | pow | shl | band | bxor
  deriving DecidableEq
inductive COp where | lt | le | gt | ge | eq | ne | is | isnot | isin | notin
  deriving DecidableEq
/-- built-in calls -/
inductive Blt where | len | int | max2 | min2 | isinst (ts : List String) | list | sum | all | any | abs | sorted | str | max1 (dflt : Option Int) | min1 (dflt : Option Int) | rangeL | tuple | bool
/-- what a name is bound to: a slot, a tuple of such -/
inductive Pat where | nm (i : Nat) | tup (ps : List Pat)

mutual
inductive Ex where
  | var (i : Nat) | pk (i : Nat) | con (d : D)
  | tup (es : Exs) | lst (es : Exs)
  | bin (op : BOp) (a b : Ex) | neg (a : Ex) | not (a : Ex)
  | cmp (op : COp) (a b : Ex) | chn (o1 o2 : COp) (a b c : Ex)
  | and (a b : Ex) | or (a b : Ex) | ite (c a b : Ex)
  | call (f : Nat) (es : Exs)
  | bi (b : Blt) (es : Exs)
  | ix (a i : Ex) | sl (a lo hi : Ex) | rev (a : Ex)
  | comp (vs : List Nat) (p : Pat) (it : Itr) (c e : Ex)
  | fld (a : Ex) (f : Str) (cs : List Nat)
  | meth (a : Ex) (m : Str) (tbl : List (Nat × Nat)) (es : Exs)
  | make (c g : Nat) (es : Exs)
  | bits (a : Ex)
  | dnew | dsp (a b : Ex)
  | dget (a k : Ex) | din (k a : Ex) (neg : Bool)
  | fmt (a : Ex) | fstr (es : Exs) | join (a b : Ex)
  | glob (a : Ex)
  | popAt (a i : Ex) | sortI (a : Ex) (i : Nat)
  | dtnew | dinT (k a : Ex) (neg : Bool)
  | compK (vs : List Nat) (p : Pat) (a c e : Ex)
inductive Exs where | nil | cons (e : Ex) (es : Exs)
inductive Itr where
  | seq (e : Ex) | rng1 (e : Ex) | rng2 (a b : Ex) | rng3 (a b : Ex) (c : Int) | enum (e : Ex) | revd (e : Ex) | zip (a b : Ex)
end

/-! ### operations on values -/
def lim : Nat := 1000000
def MulOk (i j : Int) : Prop := ((-(2 ^ 64) < i ∧ i < 2 ^ 64) ∨ (-(2 ^ 64) < j ∧ j < 2 ^ 64)) ∨ i.natAbs.log2 + j.natAbs.log2 < 1000000
instance (i j : Int) : Decidable (MulOk i j) := Classical.propDecidable _
def DivOk (j : Int) : Prop := 0 < j ∧ j.natAbs.log2 < 9000
instance (j : Int) : Decidable (DivOk j) := Classical.propDecidable _
/-- a range's bounds -/
def RngB (n : Int) : Prop := n < 2 ^ 62 ∧ -(2 ^ 62) ≤ n
instance (n : Int) : Decidable (RngB n) := Classical.propDecidable _
def RngP (a b : Int) : Prop := RngB a ∧ RngB b
instance (a b : Int) : Decidable (RngP a b) := Classical.propDecidable _
def RngQ (a b : Int) : Prop := RngB a ∧ RngB b ∧ (b - a).toNat ≤ 2 ^ 24
instance (a b : Int) : Decidable (RngQ a b) := Classical.propDecidable _
/-- a range by steps -/
def RngC (i j c : Int) : Prop := L2.RgC i j c (Builtin.Range.rangeSize i j c).toNat
instance (i j c : Int) : Decidable (RngC i j c) := Classical.propDecidable _
def RepOk (n : Nat) (k : Int) : Prop := n * k.toNat ≤ lim ∧ k ≤ 1000000 ∧ -1000000 ≤ k
instance (n : Nat) (k : Int) : Decidable (RepOk n k) := Classical.propDecidable _
def SRepOk (x : Str) (k : Int) : Prop := PySem.MulOk x k
instance (x : Str) (k : Int) : Decidable (SRepOk x k) := Classical.propDecidable _
def PowOk (i j : Int) : Prop := 0 ≤ j ∧ j ≤ 1000000 ∧ i.natAbs < 2 ^ 64
instance (i j : Int) : Decidable (PowOk i j) := Classical.propDecidable _
def ShlOk (i j : Int) : Prop := 0 ≤ j ∧ (Builtin.Int.intBits i : Int) + j ≤ 2 ^ 27
instance (i j : Int) : Decidable (ShlOk i j) := Classical.propDecidable _

/-- numbers and texts -/
def binD : BOp → D → D → Option D
  | .add, .int i, .int j => some (.int (i + j))
  | .add, .str x, .str y => if x.length + y.length ≤ lim then some (.str (x ++ y)) else none
  | .sub, .int i, .int j => some (.int (i - j))
  | .mul, .int i, .int j => if MulOk i j then some (.int (i * j)) else none
  | .fdiv, .int i, .int j => if DivOk j then some (.int (i / j)) else none
  | .mod, .int i, .int j => if 0 < j then some (.int (i % j)) else none
  | .pow, .int i, .int j => if PowOk i j then some (.int (i ^ j.toNat)) else none
  | .shl, .int i, .int j => if ShlOk i j then some (.int (i * 2 ^ j.toNat)) else none
  | .band, .int i, .int j => some (.int (Builtin.bitAnd i j))
  | .bxor, .int i, .int j => some (.int (Builtin.bitXor i j))
  | _, _, _ => none
/-- a list that the program made, as it stands -/
def lstOf (S : List Cell) : Sl → Option (List D)
  | (_, .lst ds) => some ds
  | (.val, .ref n) => match S[n]? with
    | some (.lst ds) => some ds
    | _ => none
  | _ => none
/-- any list -/
def lsqOf (S : List Cell) : Sl → Option (List D)
  | (_, .scr ds) => some ds
  | a => lstOf S a
def addR (S : List Cell) (a b : Sl) : Option Sl :=
  match lstOf S a, lstOf S b with
  | some xs, some ys => if xs.length + ys.length ≤ lim then some (.own, .lst (xs ++ ys)) else none
  | _, _ => (binD .add a.2 b.2).map fun d => (.val, d)
def mulR (S : List Cell) (a b : Sl) : Option Sl :=
  match lstOf S a, b.2 with
  | some xs, .int k => if RepOk xs.length k then some (.own, .lst (List.replicate k.toNat xs).flatten) else none
  | _, _ => match a.2, b.2 with
    | .str x, .int k => if SRepOk x k then some (.val, .str (Txt.mul x k)) else none
    | _, _ => (binD .mul a.2 b.2).map fun d => (.val, d)
def binR (op : BOp) (S : List Cell) (a b : Sl) : Option Sl :=
  match op with
  | .add => addR S a b
  | .mul => mulR S a b
  | op => (binD op a.2 b.2).map fun d => (.val, d)

mutual
def toPy : D → Option PyData
  | .non => some .none
  | .bl b => some (.bool b)
  | .int i => some (.int i)
  | .str s => some (.str s)
  | .tup ds => (toPys ds).map .tuple
  | .lst ds => (toPys ds).map .list
  | .scr ds => (toPys ds).map .list
  | _ => none
def toPys : List D → Option (List PyData)
  | [] => some []
  | d :: ds => match toPy d, toPys ds with
    | some x, some xs => some (x :: xs)
    | _, _ => none
end
/-- the list behind a name is looked at -/
def drf (S : List Cell) : Sl → D
  | (.val, .ref n) => match S[n]? with
    | some (.lst ds) => .lst ds
    | _ => .ref n
  | (_, d) => d
def eqD (S : List Cell) (a b : Sl) : Option Bool :=
  match toPy (drf S a), toPy (drf S b) with
  | some x, some y => if SeqAt.shaped x = true ∧ SeqAt.shaped y = true then some (PyData.eqv x y) else none
  | _, _ => none
def nonD : D → Option Bool
  | .non => some true
  | .obj _ => none
  | .xn _ _ => none
  | _ => some false
def isD : D → D → Option Bool
  | x, .non => nonD x
  | .bl a, .bl b => some (decide (a = b))
  | _, _ => none
/-- a sign in a text; data in a list of data -/
def inD (S : List Cell) (a b : Sl) : Option Bool :=
  match a.2, b.2 with
  | .str x, .str z => match x.cps.toList with
    | [c] => some (decide (c ∈ z.cps.toList))
    | _ => none
  | _, _ => match toPy (drf S a), toPy (drf S b) with
    | some d, some (.list ds) => if SeqAt.shaped d = true ∧ SeqAt.shaped (.list ds) = true then some (ds.any fun z => PyData.eqv z d) else none
    | _, _ => none
def cmpD (op : COp) (S : List Cell) (a b : Sl) : Option Bool :=
  match op with
  | .lt => match a.2, b.2 with
    | .int i, .int j => some (decide (i < j))
    | .str i, .str j => some (decide (i.cps.toList < j.cps.toList))
    | _, _ => none
  | .le => match a.2, b.2 with
    | .int i, .int j => some (decide (i ≤ j))
    | .str i, .str j => some (!decide (j.cps.toList < i.cps.toList))
    | _, _ => none
  | .gt => match a.2, b.2 with
    | .int i, .int j => some (decide (j < i))
    | .str i, .str j => some (decide (j.cps.toList < i.cps.toList))
    | _, _ => none
  | .ge => match a.2, b.2 with
    | .int i, .int j => some (decide (j ≤ i))
    | .str i, .str j => some (!decide (i.cps.toList < j.cps.toList))
    | _, _ => none
  | .eq => eqD S a b
  | .ne => (eqD S a b).map not
  | .is => isD a.2 b.2
  | .isnot => (isD a.2 b.2).map not
  | .isin => inD S a b
  | .notin => (inD S a b).map not

def tyD (S : List Cell) : Sl → Option String
  | (.val, .ref n) => match S[n]? with
    | some (.lst _) => some "list"
    | some (.dic _) => some "dict"
    | _ => none
  | (_, .non) => some "NoneType"
  | (_, .bl _) => some "bool"
  | (_, .int _) => some "int"
  | (_, .str _) => some "str"
  | (_, .tup _) => some "tuple"
  | (_, .lst _) => some "list"
  | (_, .scr _) => some "list"
  | (_, .dic _) => some "dict"
  | _ => none
def isaT (t u : String) : Bool := t == u || (t == "bool" && u == "int") || u == "object"

def ixD (S : List Cell) (a : Sl) (i : D) : Option D :=
  match lsqOf S a, a.2, i with
  | some ds, _, .int k => atI ds k
  | none, .tup ds, .int k => atI ds k
  | none, .str x, .int k => if x.length ≤ lim then (atI x.cps.toList k).map fun c => .str ⟨#[c]⟩ else none
  | _, _, _ => none
def part : D → Option (Option Int)
  | .non => some none
  | .int i => some (some i)
  | _ => none
def cutD (xs : List D) (lo hi : Option Int) : List D := (xs.drop (HT.sIx xs.length 0 lo)).take (HT.sIx xs.length xs.length hi - HT.sIx xs.length 0 lo)


/-! ### built-in calls, by values -/
def intsOf : List D → Option (List Int)
  | [] => some []
  | .int i :: ds => (intsOf ds).map (i :: ·)
  | _ => none
def blsOf : List D → Option (List Bool)
  | [] => some []
  | .bl b :: ds => (blsOf ds).map (b :: ·)
  | _ => none
/-- a list or a tuple -/
def seqOf (S : List Cell) (a : Sl) : Option (List D) :=
  match lsqOf S a, a.2 with
  | some ds, _ => some ds
  | none, .tup ds => some ds
  | _, _ => none
/-- .. or a text: what is walked -/
def walkOf (S : List Cell) (a : Sl) : Option (List D) :=
  match seqOf S a, a.2 with
  | some ds, _ => some ds
  | none, .str z => some (z.cps.toList.map fun c => .str ⟨#[c]⟩)
  | _, _ => none
def lenD (S : List Cell) (a : Sl) : Option Nat :=
  match seqOf S a, a.2 with
  | some ds, _ => some ds.length
  | none, .str x => if x.length ≤ lim then some x.length else none
  | _, _ => none
def on1 (as : List Sl) (f : Sl → Option Sl) : Option Sl := match as with
  | [a] => f a
  | _ => none
def on2 (as : List Sl) (f : Sl → Sl → Option Sl) : Option Sl := match as with
  | [a, b] => f a b
  | _ => none
def vI (i : Int) : Sl := (.val, .int i)
def vB (b : Bool) : Sl := (.val, .bl b)
def intD (a : Sl) : Option Int := match a.2 with
  | .int i => some i
  | .bl b => some (if b then 1 else 0)
  | _ => none
def int2D (a b : Sl) : Option (Int × Int) := match a.2, b.2 with
  | .int i, .int j => some (i, j)
  | _, _ => none
/-- what a walked thing yields: the values one by one -/
def intsUp (lo : Int) (n : Nat) (c : Int) : List D := (List.range n).map fun (k : Nat) => .int (lo + (k : Nat) * c)
/-- a number's text is made -/
def IntOk (i : Int) : Prop := i.natAbs.log2 < 1920
instance (i : Int) : Decidable (IntOk i) := Classical.propDecidable _
/-- a list whose items can be sorted -/
def SrtOk (ds : List D) : Prop := ∃ ps, toPys ds = some ps ∧ PySem.W.AllAlike ps ∧ PySem.W.Sortable ps ∧ ∀ p ∈ ps, p.depth ≤ 32
instance (ds : List D) : Decidable (SrtOk ds) := Classical.propDecidable _
def keyP (d : D) : PyData := (toPy d).getD .none
def sortT (ds : List D) : List D := ds.mergeSort (PySem.W.dataLe false keyP)
/-- the greatest of them, else d -/
def maxL (d : Int) : List Int → Int
  | [] => d
  | i :: ns => ns.foldl (fun a y => if a < y then y else a) i
/-- the ints of a range, as a list of its own -/
def rngL (a b : Sl) : Option Sl := match int2D a b with
  | some p => if RngQ p.1 p.2 then some (.own, .lst (intsUp p.1 (p.2 - p.1).toNat 1)) else none
  | none => none
def biV (S : List Cell) (b : Blt) (as : List Sl) : Option Sl :=
  match b with
  | .len => on1 as fun a => (lenD S a).map fun n => vI (n : Nat)
  | .int => on1 as fun a => (intD a).map vI
  | .max2 => on2 as fun a b => (int2D a b).map fun p => vI (if p.2 > p.1 then p.2 else p.1)
  | .min2 => on2 as fun a b => (int2D a b).map fun p => vI (if p.2 < p.1 then p.2 else p.1)
  | .isinst ts => on1 as fun a => (tyD S a).map fun t => vB (ts.any (isaT t))
  | .list => on1 as fun a => (seqOf S a).map fun ds => (.own, .lst ds)
  | .sum => on1 as fun a => ((lsqOf S a).bind intsOf).map fun ns => vI ns.sum
  | .all => on1 as fun a => ((lsqOf S a).bind blsOf).map fun bs => vB (bs.all id)
  | .any => on1 as fun a => ((lsqOf S a).bind blsOf).map fun bs => vB (bs.any id)
  | .rangeL => on2 as rngL
  | .sorted => on1 as fun a => (lsqOf S a).bind fun ds => if SrtOk ds then some (.own, .lst (sortT ds)) else none
  | .max1 (some d) => on1 as fun a => ((lsqOf S a).bind intsOf).map fun ns => vI (maxL d ns)
  | .max1 none => on1 as fun a => ((lsqOf S a).bind intsOf).bind fun ns => if ns = [] then none else some (vI (maxL 0 ns))
  | .str => on1 as fun a => match a.2 with
    | .int i => if IntOk i then some (.val, .str (Str.ofString (toString i))) else none
    | _ => none
  | _ => none
def slV (S : List Cell) (a : Sl) (lo hi : D) : Option Sl :=
  match part lo, part hi, lsqOf S a, a.2 with
  | some l, some h, some ds, _ => some (.own, .lst (cutD ds l h))
  | some l, some h, none, .tup ds => if (cutD ds l h).length = ds.length then none else some (.val, .tup (cutD ds l h))
  | some l, some h, none, .str x => if x.length ≤ lim then some (.val, .str (cutS x l h)) else none
  | _, _, _, _ => none

def enumD (k : Nat) : List D → List D
  | [] => []
  | d :: ds => .tup [.int (k : Nat), d] :: enumD (k + 1) ds
def zipD : List D → List D → List D
  | a :: as, b :: bs => .tup [a, b] :: zipD as bs
  | _, _ => []

mutual
def bindP : Pat → D → List (Option Sl) → Option (List (Option Sl))
  | .nm i, d, env => if i < env.length then some (env.set i (some (.val, d))) else none
  | .tup ps, .tup ds, env => bindPs ps ds env
  | .tup ps, .lst ds, env => bindPs ps ds env
  | .tup _, _, _ => none
def bindPs : List Pat → List D → List (Option Sl) → Option (List (Option Sl))
  | [], [], env => some env
  | p :: ps, d :: ds, env => match bindP p d env with
    | some env' => bindPs ps ds env'
    | none => none
  | _, _, _ => none
end
def wipeD (env : List (Option Sl)) (vs : List Nat) : List (Option Sl) := vs.foldl (fun e i => e.set i none) env
def back (env0 env : List (Option Sl)) (vs : List Nat) : List (Option Sl) := vs.foldl (fun e i => e.set i ((env0[i]?).getD none)) env
def vsOk (env : List (Option Sl)) (vs : List Nat) : Bool := vs.all fun i => match env[i]? with
  | some (some (.val, _)) => true
  | some none => true
  | _ => false

/-- a passing result becomes plain data -/
def valO (r : Out Sl) : Out Sl := r.bind fun sl s => match toVal sl with
  | some d => .ok (.val, d) s
  | none => .stuck
/-- .. an argument: what is looked at in passing is lent -/
def argO (r : Out Sl) : Out Sl := r.bind fun sl s => match sl with
  | (.pk, d) => .ok (.lent, d) s
  | (.lent, d) => .ok (.lent, d) s
  | (.own, d) => .ok (.val, d) s
  | (.val, d) => .ok (.val, d) s
def lift (s : Stt) : Option Sl → Out Sl
  | some r => .ok r s
  | none => .stuck
def back1 (s : Stt) : COut → Out Sl
  | .ok r S => .ok r { s with sto := S }
  | .exc x S => .exc x { s with sto := S }
  | .stuck => .stuck
def onB {α : Type} (x : Sl) (t f : Out α) : Out α := match x with
  | (.val, .bl b) => if b = true then t else f
  | _ => .stuck
def pOk {α : Type} (x : Sl) (t : Out α) : Out α := match part x.2 with
  | some _ => t
  | none => .stuck
/-- how long a walked thing stands: through a body, or through an expression alone -/
def keyD : D → Option Key
  | .int i => some (.inl i)
  | .str z => some (.inr z)
  | _ => none
def fmtD : D → Option Str
  | .str y => if y.length ≤ lim then some y else none
  | .int i => if IntOk i then some (Str.ofString (toString i)) else none
  | _ => none
def strsOf : List D → Option (List Str)
  | [] => some []
  | .str x :: ds => (strsOf ds).map (x :: ·)
  | _ => none
def JoinOk (a : Str) (ys : List Str) : Prop := (ys.map (·.length)).sum + ys.length * a.length ≤ lim
instance (a : Str) (ys : List Str) : Decidable (JoinOk a ys) := Classical.propDecidable _
/-- a dict, as it stands -/
def dicOf (S : List Cell) : Sl → Option (List (Key × D))
  | (_, .dic ds) => some ds
  | (.val, .ref n) => match S[n]? with
    | some (.dic ds) => some ds
    | _ => none
  | _ => none
def valD (kvs : List (Key × D)) (k : Key) : Option D := (kvs.find? fun kv => decide (kv.1 = k)).map (·.2)
def putKD (kvs : List (Key × D)) (k : Key) (v : D) : List (Key × D) :=
  if (kvs.any fun kv => decide (kv.1 = k)) = true then kvs.map (fun kv => if kv.1 = k then (kv.1, v) else kv) else kvs ++ [(k, v)]
def keysOf : List D → Option (List Key)
  | [] => some []
  | d :: ds => match keyD d, keysOf ds with
    | some k, some ks => some (k :: ks)
    | _, _ => none
def keysD : D → Option (List Key)
  | .tup ds => keysOf ds
  | _ => none
/-- a dict of the store, by tuples -/
def dtpOf (S : List Cell) : Sl → Option (Nat × List (List Key × D))
  | (.val, .ref n) => match S[n]? with
    | some (.dtp ds) => some (n, ds)
    | _ => none
  | _ => none
def valT (kvs : List (List Key × D)) (k : List Key) : Option D := (kvs.find? fun kv => decide (kv.1 = k)).map (·.2)
def putT (kvs : List (List Key × D)) (k : List Key) (v : D) : List (List Key × D) :=
  if (kvs.any fun kv => decide (kv.1 = k)) = true then kvs.map (fun kv => if kv.1 = k then (kv.1, v) else kv) else kvs ++ [(k, v)]
/-- a list in the store -/
def celL (s : Stt) (sl : Sl) : Option (Nat × List D) := match sl with
  | (.val, .ref n) => match s.sto[n]? with
    | some (.lst ds) => some (n, ds)
    | _ => none
  | _ => none
/-- a row's number at a place -/
def keyI (i : Nat) : D → Option Int
  | .tup ts => match ts[i]? with
    | some (.int k) => some k
    | _ => none
  | _ => none
def sortK (i : Nat) (ds : List D) : List D := ds.mergeSort fun a b => decide ((keyI i a).getD 0 ≤ (keyI i b).getD 0)
def IxOk (k : Int) : Prop := -(2 ^ 63) ≤ k ∧ k < 2 ^ 63
instance (k : Int) : Decidable (IxOk k) := Classical.propDecidable _
def srcM : Sl → Option Md
  | (.val, .ref _) => none
  | (.pk, _) => some .pk
  | _ => some .val
def srcO (s : Stt) (x : Sl) (r : Option (List D)) : Out Sl := match srcM x, r with
  | some m, some ds => .ok (m, .lst ds) s
  | _, _ => .stuck
inductive OutL where | ok (as : List Sl) (s : Stt) | exc (x : Xn) (s : Stt) | stuck
def OutL.bind : OutL → (List Sl → Stt → Out Sl) → Out Sl
  | .ok a s, f => f a s
  | .exc x s, _ => .exc x s
  | .stuck, _ => .stuck

section
variable (Φ : Nat → List Sl → List Cell → COut)
def StoAt (s : Stt) (n : Nat) (ds : List D) : Prop := s.sto[n]? = some (.lst ds)
instance (s : Stt) (n : Nat) (ds : List D) : Decidable (StoAt s n ds) := Classical.propDecidable _
/-- no exception leaves a comprehension's own parts -/
def noX (r : Out Sl) : Out Sl := match r with
  | .exc _ _ => .stuck
  | r => r
/-- the turns of a comprehension -/
def compL (vs : List Nat) (p : Pat) (c e : Stt → Out Sl) : List D → List D → Stt → Out Sl
  | [], acc, s => .ok (.own, .lst acc) s
  | d :: ds, acc, s => match bindP p d s.env with
    | none => .stuck
    | some env1 => (noX (c { s with env := env1 })).bind fun b s1 => match b with
      | (.val, .bl true) => (noX (valO (e s1))).bind fun y s2 => if acc.length < lim then compL vs p c e ds (acc ++ [y.2]) { s2 with env := wipeD s2.env vs } else .stuck
      | (.val, .bl false) => compL vs p c e ds acc { s1 with env := wipeD s1.env vs }
      | _ => .stuck
def compO (vs : List Nat) (p : Pat) (c e : Stt → Out Sl) (src : Sl) (s : Stt) : Out Sl := match src with
  | (_, .lst ds) => if vsOk s.env vs then (compL vs p c e ds [] { s with env := wipeD s.env vs }).bind fun r s' => .ok r { s' with env := back s.env s'.env vs } else .stuck
  | _ => .stuck
/-- .. of a list of the store, which stays as it is all the while -/
def compKL (n : Nat) (ds0 : List D) (vs : List Nat) (p : Pat) (c e : Stt → Out Sl) : List D → List D → Stt → Out Sl
  | [], acc, s => if StoAt s n ds0 then .ok (.own, .lst acc) s else .stuck
  | d :: ds, acc, s => if StoAt s n ds0 then (match bindP p d s.env with
    | none => .stuck
    | some env1 => (noX (c { s with env := env1 })).bind fun b s1 => match b with
      | (.val, .bl true) => (noX (valO (e s1))).bind fun y s2 => if acc.length < lim then compKL n ds0 vs p c e ds (acc ++ [y.2]) { s2 with env := wipeD s2.env vs } else .stuck
      | (.val, .bl false) => compKL n ds0 vs p c e ds acc { s1 with env := wipeD s1.env vs }
      | _ => .stuck) else .stuck
def compKO (n : Nat) (vs : List Nat) (p : Pat) (c e : Stt → Out Sl) (s : Stt) : Out Sl := match s.sto[n]? with
  | some (.lst ds) => if vsOk s.env vs then (compKL n ds vs p c e ds [] { s with env := wipeD s.env vs }).bind fun r s' => .ok r { s' with env := back s.env s'.env vs } else .stuck
  | _ => .stuck
mutual
def evE : Ex → Stt → Out Sl
  | .var i, s => match s.env[i]? with
    | some (some (.val, d)) => .ok (.val, d) s
    | some (some (.own, d)) => .ok (.val, d) { s with env := s.env.set i (some (.val, d)) }
    | some (some (.lent, d)) => .ok (.lent, d) s
    | _ => .stuck
  | .pk i, s => match s.env[i]? with
    | some (some (.val, d)) => .ok (.val, d) s
    | some (some (.own, d)) => .ok (.pk, d) s
    | some (some (.lent, d)) => .ok (.lent, d) s
    | _ => .stuck
  | .con d, s => .ok (.val, d) s
  | .tup es, s => (evL es s).bind fun as s => if as.length ≤ lim then .ok (.val, .tup (as.map (·.2))) s else .stuck
  | .lst es, s => (evL es s).bind fun as s => if as.length ≤ lim then .ok (.own, .lst (as.map (·.2))) s else .stuck
  | .bin op a b, s => (evE a s).bind fun x s => (evE b s).bind fun y s => lift s (binR op s.sto x y)
  | .neg a, s => (evE a s).bind fun x s => match x with
    | (.val, .int i) => .ok (.val, .int (-i)) s
    | _ => .stuck
  | .not a, s => (evE a s).bind fun x s => match x with
    | (.val, .bl b) => .ok (.val, .bl (!b)) s
    | _ => .stuck
  | .cmp op a b, s => (evE a s).bind fun x s => (evE b s).bind fun y s => lift s ((cmpD op s.sto x y).map fun b => (.val, .bl b))
  | .chn o1 o2 a b c, s => (evE a s).bind fun x s => (evE b s).bind fun y s => match cmpD o1 s.sto x y with
    | some true => (evE c s).bind fun z s => lift s ((cmpD o2 s.sto y z).map fun b => (.val, .bl b))
    | some false => .ok (.val, .bl false) s
    | none => .stuck
  | .and a b, s => (evE a s).bind fun x s => onB x (evE b s) (.ok (.val, .bl false) s)
  | .or a b, s => (evE a s).bind fun x s => onB x (.ok (.val, .bl true) s) (evE b s)
  | .ite c a b, s => (evE c s).bind fun x s => onB x (evE a s) (evE b s)
  | .call f es, s => (evA es s).bind fun as s => back1 s (Φ f as s.sto)
  | .bi b es, s => (evP es s).bind fun as s => lift s (biV s.sto b as)
  | .ix a i, s => (evE a s).bind fun x s => (evE i s).bind fun y s => lift s ((ixD s.sto x y.2).map fun d => (.val, d))
  | .sl a lo hi, s => (evE a s).bind fun x s => (evE lo s).bind fun l s => pOk l ((evE hi s).bind fun h s => pOk h (lift s (slV s.sto x l.2 h.2)))
  | .rev a, s => (evE a s).bind fun x s => match lsqOf s.sto x with
    | some ds => .ok (.own, .lst ds.reverse) s
    | none => .stuck
  | .comp vs p it c e, s => (itE it s).bind fun src s => compO vs p (evE c) (evE e) src s
  | .compK vs p a c e, s => (evE a s).bind fun x s => match x with
    | (.val, .ref n) => compKO n vs p (evE c) (evE e) s
    | _ => .stuck
  | .fld a f cs, s => (evE a s).bind fun x s => match x with
    | (.val, .ref n) => match s.sto[n]? with
      | some (.inst c fs) => if c ∈ cs then lift s ((fs.lookup f).map fun d => (.val, d)) else .stuck
      | _ => .stuck
    | _ => .stuck
  | .meth a m tbl es, s => (evE a s).bind fun x s => match x with
    | (.val, .ref n) => match s.sto[n]? with
      | some (.inst c fs) => match fs.lookup m, tbl.lookup c with
        | none, some g => (evA es s).bind fun as s => back1 s (Φ g ((.val, .ref n) :: as) s.sto)
        | _, _ => .stuck
      | _ => .stuck
    | _ => .stuck
  | .make c g es, s => (evA es s).bind fun as s => match Φ g ((.val, .ref s.sto.length) :: as) (s.sto ++ [.inst c []]) with
    | .ok (.val, .non) S => .ok (.val, .ref s.sto.length) { s with sto := S }
    | .exc x S => .exc x { s with sto := S }
    | _ => .stuck
  | .bits a, s => (evE a s).bind fun x s => match x with
    | (.val, .int i) => .ok (.val, .int (Builtin.Int.intBits i : Nat)) s
    | _ => .stuck
  | .dnew, s => .ok (.own, .dic []) s
  | .dsp a b, s => (evE a s).bind fun x s => (valO (evE b s)).bind fun y s => match keyD x.2 with
    | some k => .ok (.own, .dic [(k, y.2)]) s
    | none => .stuck
  | .dget a k, s => (evE a s).bind fun x s => (evE k s).bind fun y s => match dicOf s.sto x, keyD y.2 with
    | some kvs, some key => lift s ((valD kvs key).map fun d => (.val, d))
    | _, _ => .stuck
  | .din k a neg, s => (evE k s).bind fun y s => (evE a s).bind fun x s => match dicOf s.sto x, keyD y.2 with
    | some kvs, some key => .ok (.val, .bl (if neg then !(valD kvs key).isSome else (valD kvs key).isSome)) s
    | _, _ => .stuck
  | .fmt a, s => (evE a s).bind fun x s => match fmtD x.2 with
    | some y => .ok (.val, .str y) s
    | none => .stuck
  | .fstr es, s => evJ es Str.empty s
  | .join a b, s => (evE a s).bind fun x s => match x.2 with
    | .str z => (evE b s).bind fun y s => match (lsqOf s.sto y).bind strsOf with
      | some ys => if JoinOk z ys then .ok (.val, .str (Txt.join z ys)) s else .stuck
      | none => .stuck
    | _ => .stuck
  | .glob a, s => (evE a s).bind fun x s => match x with
    | (.own, .lst ds) => .ok (.val, .ref s.sto.length) { s with sto := s.sto ++ [.lst ds] }
    | (.own, .dic ds) => .ok (.val, .ref s.sto.length) { s with sto := s.sto ++ [.dic ds] }
    | _ => .stuck
  | .popAt a i, s => (evE a s).bind fun x s => match celL s x with
    | some _ => (evE i s).bind fun y s => match celL s x, y.2 with
      | some (n, ds), .int k => if IxOk k then match seqIndex? k ds.length with
        | some j => match ds[j]? with
          | some d => .ok (.val, d) { s with sto := s.sto.set n (.lst (ds.eraseIdx j)) }
          | none => .stuck
        | none => .stuck
        else .stuck
      | _, _ => .stuck
    | none => .stuck
  | .sortI a i, s => (evE a s).bind fun x s => match lsqOf s.sto x with
    | some ds => if (ds.all fun d => (keyI i d).isSome) = true then .ok (.own, .lst (sortK i ds)) s else .stuck
    | none => .stuck
  | .dtnew, s => .ok (.val, .ref s.sto.length) { s with sto := s.sto ++ [.dtp []] }
  | .dinT k a neg, s => (evE k s).bind fun y s => (evE a s).bind fun x s => match dtpOf s.sto x, keysD y.2 with
    | some p, some key => .ok (.val, .bl (if neg then !(valT p.2 key).isSome else (valT p.2 key).isSome)) s
    | _, _ => .stuck
/-- the parts of a text, one behind the other -/
def evJ : Exs → Str → Stt → Out Sl
  | .nil, acc, s => .ok (.val, .str acc) s
  | .cons e es, acc, s => (evE e s).bind fun x s => match x.2 with
    | .str y => if (acc ++ y).length ≤ lim then evJ es (acc ++ y) s else .stuck
    | _ => .stuck
/-- items of a display: plain data -/
def evL : Exs → Stt → OutL
  | .nil, s => .ok [] s
  | .cons e es, s => match valO (evE e s) with
    | .ok a s1 => match evL es s1 with
      | .ok as s2 => .ok (a :: as) s2
      | .exc x s2 => .exc x s2
      | .stuck => .stuck
    | .exc x s1 => .exc x s1
    | .stuck => .stuck
/-- arguments of a def -/
def evA : Exs → Stt → OutL
  | .nil, s => .ok [] s
  | .cons e es, s => match argO (evE e s) with
    | .ok a s1 => match evA es s1 with
      | .ok as s2 => .ok (a :: as) s2
      | .exc x s2 => .exc x s2
      | .stuck => .stuck
    | .exc x s1 => .exc x s1
    | .stuck => .stuck
/-- arguments of a built-in: looked at -/
def evP : Exs → Stt → OutL
  | .nil, s => .ok [] s
  | .cons e es, s => match evE e s with
    | .ok a s1 => match evP es s1 with
      | .ok as s2 => .ok (a :: as) s2
      | .exc x s2 => .exc x s2
      | .stuck => .stuck
    | .exc x s1 => .exc x s1
    | .stuck => .stuck
/-- what is walked: its items -/
def itE : Itr → Stt → Out Sl
  | .seq e, s => (evE e s).bind fun x s => srcO s x (walkOf s.sto x)
  | .rng1 e, s => (evE e s).bind fun x s => match x with
    | (.val, .int n) => if RngB n then .ok (.val, .lst (intsUp 0 n.toNat 1)) s else .stuck
    | _ => .stuck
  | .rng2 a b, s => (evE a s).bind fun x s => (evE b s).bind fun y s => match int2D x y with
    | some p => if RngP p.1 p.2 then .ok (.val, .lst (intsUp p.1 (p.2 - p.1).toNat 1)) s else .stuck
    | none => .stuck
  | .rng3 a b c, s => (evE a s).bind fun x s => (evE b s).bind fun y s => match int2D x y with
    | some p => if RngC p.1 p.2 c then .ok (.val, .lst (intsUp p.1 (Builtin.Range.rangeSize p.1 p.2 c).toNat c)) s else .stuck
    | none => .stuck
  | .enum e, s => (evE e s).bind fun x s => srcO s x ((lsqOf s.sto x).map (enumD 0))
  | .revd e, s => (evE e s).bind fun x s => srcO s x ((lsqOf s.sto x).map List.reverse)
  | .zip a b, s => (evE a s).bind fun x s => (evE b s).bind fun y s => match srcM x, srcM y, lsqOf s.sto x, lsqOf s.sto y with
    | some .val, some .val, some ds, some es => .ok (.val, .lst (zipD ds es)) s
    | some _, some _, some ds, some es => .ok (.pk, .lst (zipD ds es)) s
    | _, _, _, _ => .stuck
end
end
end
end Sr

/-! Sr, part 4: expressions: what the interpreter tells holds. -/
namespace Sr
open PySem PySem.Spec PyProof.Rows L2

/-- the place where code stands -/
structure Okx (X : Cx) (C : Ctx) (W : WX) (k : Nat) : Prop where
  kk : X.K = C.K
  room : Room k X.A
  tk : Takes X W
  nd : X.N.Nodup

def rdE (C : Ctx) (Φ : Nat → List Sl → List Cell → COut) (W : WX) (e : Ex) : TE := fun σ H Q => ∃ ι o s, Rel C ι o H s σ ∧ Post C W σ ι o H (evE Φ e s) Q

theorem PE.imp {X : Cx} {e : Expr} {t t' : TE} (h : PE X e t) (w : ∀ σ H Q, t' σ H Q → t σ H Q) : PE X e t' := ⟨fun pins s σ H Q I q => h.run pins s σ H Q I (w _ _ _ q)⟩

section
variable {X : Cx} {C : Ctx} {Φ : Nat → List Sl → List Cell → COut} {W : WX} {k : Nat} {σ : L2.St} {ι ι' : List Addr} {o o' : Own} {H H' : Hp} {s : Stt} {Q : VK} {e e1 e2 e3 : Ex} {a b c : Expr} {pos : Pos}

theorem rd_of {f : Sl → Stt → Out Sl} (R : Rel C ι o H s σ) (h : Post C W σ ι o H ((evE Φ e s).bind f) Q) {Q1 : VK}
    (k : ∀ sl s1 v H' ι' o', evE Φ e s = .ok sl s1 → Frm ι o H ι' o' H' → Rel C ι' o' H' s1 σ → ResOk C ι' o' H' sl v → Fr0 H sl v → Post C W σ ι' o' H' (f sl s1) Q → Post C W σ ι o H (f sl s1) Q → Q1 v H') : rdE C Φ W e σ H Q1 :=
  ⟨ι, o, s, R, h.bind k⟩
/-- a plain value that leaves all as it is -/
theorem Post.val {d : D} {v : V} (R : Rel C ι o H s σ) (h : Post C W σ ι o H (.ok (.val, d) s) Q) (hv : IsF C ι o H d v) : Q v H :=
  h v H ι o Frm.refl R hv (fun z => nomatch z)
/-- a new tuple -/
theorem Post.newT {ds : List D} {vs : List V} {p : Addr} (R : Rel C ι o H s σ) (h : Post C W σ ι o H (.ok (.val, .tup ds) s) Q) (n : H p = none) (hv : IsFs C ι o H ds vs) : Q (.ref p) (upd H p (.tup vs)) :=
  h _ _ ι o (Hold.newN R.sto.own n).frm (R.newN n) (.tup (own_none R.sto.own n) upd_same (hv.mono (Hold.newN R.sto.own n).kept)) (fun z => nomatch z)
/-- a new list -/
theorem Post.newL {ds : List D} {vs : List V} {p : Addr} (R : Rel C ι o H s σ) (h : Post C W σ ι o H (.ok (.own, .lst ds) s) Q) (n : H p = none) (hv : IsFs C ι o H ds vs) : Q (.ref p) (upd H p (.lst vs)) :=
  h _ _ ι (tag o p (some .tmp)) (Hold.new n).frm (R.new n) ⟨p, rfl, tag_same, vs, upd_same, hv.mono (Hold.new n).kept⟩ (fun _ q e => by cases e; exact n)

/-! ### names, constants -/
theorem untag_rel {i : Nat} {p : Addr} {d : D} {v : V} (R : Rel C ι o H s σ) (e : s.env[i]? = some (some (.own, d))) (hv : σ[i]? = some (some v)) (ev : v = .ref p) (ho : o p = some (.slot i))
    (hd : ∀ o', Kept ι o H ι o' H → o' p = none → IsF C ι o' H d v) : Frm ι o H ι (tag o p none) H ∧ Rel C ι (tag o p none) H { s with env := s.env.set i (some (.val, d)) } σ ∧ IsF C ι (tag o p none) H d v := by
  have kk : Kept ι o H ι (tag o p none) H := ⟨fun _ _ h => h, fun a x h n => ⟨h, by
    by_cases z : a = p
    · rw [z, tag_same]
    · rw [tag_ne z]; exact n⟩⟩
  have nt : ∀ a (w : Ow), o a = some w → w ≠ .slot i → a ≠ p := fun a w e1 e2 z => by
    rw [z, ho] at e1
    exact e2 (Option.some.inj e1).symm
  have owt : ∀ a, tag o p none a ≠ none → H a ≠ none := fun a h => by
    by_cases z : a = p
    · rw [z, tag_same] at h; exact absurd rfl h
    · rw [tag_ne z] at h; exact R.sto.own a h
  have hf := hd _ kk tag_same
  refine ⟨⟨fun _ _ h => h, fun a x h _ => h, fun a _ => ?_, fun _ h => h⟩, ⟨fun j sl q => ?_, by rw [List.length_set]; exact R.len, ⟨fun n c q => ?_, owt, R.sto.len⟩⟩, hf⟩
  · by_cases z : a = p
    · exact .inr ⟨⟨i, by rw [z]; exact ho⟩, by rw [z, tag_same]⟩
    · exact .inl (tag_ne z)
  · have hi : i < s.env.length := (List.getElem?_eq_some_iff.mp e).1
    by_cases hj : j = i
    · subst hj
      rw [List.getElem?_set_self hi] at q
      cases q
      exact ⟨v, hv, hf⟩
    · rw [List.getElem?_set_ne (Ne.symm hj)] at q
      obtain ⟨u, e1, q⟩ := R.env j sl q
      refine ⟨u, e1, q.mono kk fun p2 x hx hw => ⟨hx, ?_⟩⟩
      refine tag_ne ?_
      rcases hw with hw | hw
      · exact nt p2 _ hw (fun z => hj (Ow.slot.inj z))
      · intro z
        rw [z, ho] at hw
        exact absurd rfl (hw.stab.nslot i)
  · exact (R.sto.cell n c q).mono kk (fun p2 x hx hw => ⟨hx, tag_ne (nt p2 _ hw (fun z => nomatch z))⟩) R.sto.own

theorem rd_var (i : Nat) : rdE C Φ W (.var i) σ H Q → tVar i σ H Q := by
  rintro ⟨ι, o, s, R, h⟩
  unfold evE at h
  cases e : s.env[i]? with
  | none => rw [e] at h; exact h.elim
  | some w =>
    cases w with
    | none => rw [e] at h; exact h.elim
    | some sl =>
      obtain ⟨m, d⟩ := sl
      rw [e] at h
      obtain ⟨v, hv, q⟩ := R.env i _ e
      refine ⟨v, hv, ?_⟩
      cases m with
      | val => exact h v H ι o Frm.refl R q (fun z => nomatch z)
      | lent =>
        refine h v H ι o Frm.refl R ?_ (fun z => nomatch z)
        cases d <;> first | exact q | exact q.elim
      | pk => exact h.elim
      | own =>
        cases d with
        | lst ds =>
          obtain ⟨p, ev, ho, vs, hl, hf⟩ := q
          obtain ⟨f, R', hF⟩ := untag_rel R e hv ev ho fun o' kk n => by rw [ev]; exact .lst n hl (hf.mono kk)
          exact h v H ι _ f R' hF (fun z => nomatch z)
        | dic ds =>
          obtain ⟨p, ev, ho, vs, hl, hf⟩ := q
          obtain ⟨f, R', hF⟩ := untag_rel R e hv ev ho fun o' kk n => by rw [ev]; exact .dic n hl (hf.mono kk)
          exact h v H ι _ f R' hF (fun z => nomatch z)
        | _ => exact q.elim
theorem rd_pk (i : Nat) : rdE C Φ W (.pk i) σ H Q → tVar i σ H Q := by
  rintro ⟨ι, o, s, R, h⟩
  unfold evE at h
  cases e : s.env[i]? with
  | none => rw [e] at h; exact h.elim
  | some w =>
    cases w with
    | none => rw [e] at h; exact h.elim
    | some sl =>
      obtain ⟨m, d⟩ := sl
      rw [e] at h
      obtain ⟨v, hv, q⟩ := R.env i _ e
      refine ⟨v, hv, ?_⟩
      cases m with
      | val => exact h v H ι o Frm.refl R q (fun z => nomatch z)
      | lent =>
        refine h v H ι o Frm.refl R ?_ (fun z => nomatch z)
        cases d <;> first | exact q | exact q.elim
      | pk => exact h.elim
      | own =>
        refine h v H ι o Frm.refl R ?_ (fun z => nomatch z)
        cases d with
        | lst ds =>
          obtain ⟨p, ev, ho, l⟩ := q
          exact ⟨p, ev, .inr ⟨i, ho⟩, l⟩
        | dic ds =>
          obtain ⟨p, ev, ho, l⟩ := q
          exact ⟨p, ev, .inr ⟨i, ho⟩, l⟩
        | _ => exact q.elim
theorem sE_var (i : Nat) (h : PE X a (tVar i)) : PE X a (rdE C Φ W (.var i)) := PE.imp h fun _ _ _ => rd_var i
theorem sE_pk (i : Nat) (h : PE X a (tVar i)) : PE X a (rdE C Φ W (.pk i)) := PE.imp h fun _ _ _ => rd_pk i
/-- what stands for itself, whatever the state -/
inductive ConOk (C : Ctx) : D → V → Prop
  | non : ConOk C .non .non
  | bl (b : Bool) : ConOk C (.bl b) (.bl b)
  | int (i : Int) : ConOk C (.int i) (.int i)
  | str (s : Str) : ConOk C (.str s) (.str s)
  | obj (k : Nat) : ConOk C (.obj k) (C.ob k)
theorem ConOk.is {d : D} {v : V} (h : ConOk C d v) : IsF C ι o H d v := by
  cases h with
  | non => exact .non
  | bl b => exact .bl b
  | int i => exact .int i
  | str s => exact .str s
  | obj k => exact .obj k
theorem sE_con {d : D} {v : V} (hv : ConOk C d v) (h : PE X a (tC v)) : PE X a (rdE C Φ W (.con d)) := PE.imp h fun σ H Q => by
  rintro ⟨ι, o, s, R, h⟩
  exact Post.val R h hv.is
theorem sE_int {i : Int} {j pos} : PE X (.Constant (.int i) j pos) (rdE C Φ W (.con (.int i))) := sE_con (.int i) pe_int
theorem sE_bl {i : Bool} {j pos} : PE X (.Constant (.bool i) j pos) (rdE C Φ W (.con (.bl i))) := sE_con (.bl i) pe_bl
theorem sE_non {j pos} : PE X (.Constant .none j pos) (rdE C Φ W (.con .non)) := sE_con .non pe_non
theorem sE_str {i : Str} {j pos} : PE X (.Constant (.str i) j pos) (rdE C Φ W (.con (.str i))) := sE_con (.str i) pe_str

/-! ### displays -/
def PostL (C : Ctx) (W : WX) (σ : L2.St) (ι : List Addr) (o : Own) (H : Hp) (r : OutL) (Q : List V → Hp → Prop) : Prop :=
  match r with
  | .ok as s => ∀ vs H' ι' o', Frm ι o H ι' o' H' → Rel C ι' o' H' s σ → (∀ a ∈ as, a.1 = .val) → IsFs C ι' o' H' (as.map (·.2)) vs → Q vs H'
  | .exc x s => ∀ H' ι' o' cls d, Frm ι o H ι' o' H' → Rel C ι' o' H' s σ → ExOk C ι' o' H' x cls d → W cls d σ H'
  | .stuck => False
def rdL (C : Ctx) (Φ : Nat → List Sl → List Cell → COut) (W : WX) (es : Exs) : TA := fun σ H Q => ∃ ι o s, Rel C ι o H s σ ∧ PostL C W σ ι o H (evL Φ es s) Q
theorem PA.imp {es : List Expr} {t t' : TA} (h : PA X es t) (w : ∀ σ H Q, t' σ H Q → t σ H Q) : PA X es t' := ⟨fun pos pins s σ H Q I q => h.run pos pins s σ H Q I (w _ _ _ q)⟩
theorem sL_nil : PA X [] (rdL C Φ W .nil) := PA.imp pa_nil fun σ H Q => by
  rintro ⟨ι, o, s, R, h⟩
  unfold evL at h
  exact h [] H ι o Frm.refl R (fun _ z => nomatch z) .nil
theorem sL_cons {es : List Expr} {xs : Exs} (ha : PE X a (rdE C Φ W e)) (hr : PA X es (rdL C Φ W xs)) (hs : starEach (a :: es) X.env = (false, eval a X.env) :: starEach es X.env := by rfl) : PA X (a :: es) (rdL C Φ W (.cons e xs)) := PA.imp (pa_cons ha hr hs) fun σ H Q => by
  rintro ⟨ι, o, s, R, h⟩
  unfold evL at h
  refine ⟨ι, o, s, R, ?_⟩
  cases q : evE Φ e s with
  | stuck =>
    unfold valO at h
    rw [q] at h
    exact h
  | exc x s1 =>
    unfold valO at h
    rw [q] at h
    exact h
  | ok sl s1 =>
    unfold valO at h
    rw [q, Out.bind] at h
    intro v H1 ι1 o1 f1 R1 E1 F1
    cases t : toVal sl with
    | none => rw [t] at h; exact h.elim
    | some d =>
      rw [t] at h
      obtain ⟨o2, f2, R2, hd, kk⟩ := conv f1 R1 E1 F1 t
      refine ⟨ι1, o2, s1, R2, ?_⟩
      change PostL C W σ ι o H (match evL Φ xs s1 with | .ok as s2 => .ok ((.val, d) :: as) s2 | .exc x s2 => .exc x s2 | .stuck => .stuck) Q at h
      cases q2 : evL Φ xs s1 with
      | stuck => rw [q2] at h; exact h
      | exc x s2 => rw [q2] at h; exact fun H2 ι2 o3 cls d' g R3 E3 => h H2 ι2 o3 cls d' (f2.trans g) R3 E3
      | ok as s2 =>
        rw [q2] at h
        exact fun vs H2 ι2 o3 g R3 hv hf => h (v :: vs) H2 ι2 o3 (f2.trans g) R3 (fun a ha => by
          rcases List.mem_cons.mp ha with e | ha
          · rw [e]
          · exact hv a ha) (.cons (hd.mono g.kept) hf)
theorem post_bindL {f : List Sl → Stt → Out Sl} {es : Exs} (R : Rel C ι o H s σ) (h : Post C W σ ι o H ((evL Φ es s).bind f) Q) {Q1 : List V → Hp → Prop}
    (k : ∀ as s1 vs H' ι' o', evL Φ es s = .ok as s1 → Frm ι o H ι' o' H' → Rel C ι' o' H' s1 σ → IsFs C ι' o' H' (as.map (·.2)) vs → Post C W σ ι' o' H' (f as s1) Q → Q1 vs H') : rdL C Φ W es σ H Q1 := by
  refine ⟨ι, o, s, R, ?_⟩
  cases q : evL Φ es s with
  | stuck => rw [q] at h; exact h
  | exc x s1 => rw [q] at h; exact h
  | ok as s1 =>
    rw [q] at h
    exact fun vs H1 ι1 o1 g R1 hv hf => k as s1 vs H1 ι1 o1 q g R1 hf (Post.shift g h)
theorem lim_le : lim ≤ sizeLine := by decide
theorem sE_tup {es : List Expr} {xs : Exs} {n} (h : PA X es (rdL C Φ W xs)) : PE X (.Tuple es n pos) (rdE C Φ W (.tup xs)) := PE.imp (pe_tup h) fun σ H Q => by
  rintro ⟨ι, o, s, R, h⟩
  unfold evE at h
  refine post_bindL R h fun as s1 vs H1 ι1 o1 q g R1 hf h1 => ?_
  by_cases z : as.length ≤ lim
  · rw [if_pos z] at h1
    have hl := hf.length
    rw [List.length_map] at hl
    exact ⟨Nat.le_trans (by omega) lim_le, fun p n => Post.newT R1 h1 n hf⟩
  · rw [if_neg z] at h1
    exact h1.elim
theorem sE_lst {es : List Expr} {xs : Exs} (h : PA X es (rdL C Φ W xs)) : PE X (.List es pos) (rdE C Φ W (.lst xs)) := PE.imp (pe_lst h) fun σ H Q => by
  rintro ⟨ι, o, s, R, h⟩
  unfold evE at h
  refine post_bindL R h fun as s1 vs H1 ι1 o1 q g R1 hf h1 => ?_
  by_cases z : as.length ≤ lim
  · rw [if_pos z] at h1
    have hl := hf.length
    rw [List.length_map] at hl
    exact ⟨Nat.le_trans (by omega) lim_le, fun p n => Post.newL R1 h1 n hf⟩
  · rw [if_neg z] at h1
    exact h1.elim
end
end Sr

/-! Sr, part 5: operators, comparisons, tests. -/
namespace Sr
open PySem PySem.Spec PyProof.Rows L2

/-! ### what a list's value is read as -/
section
variable {C : Ctx} {ι : List Addr} {o : Own} {H : Hp} {S : List Cell}
theorem lst_rd {sl : Sl} {v : V} {ds : List D} (K : SOk C ι o H S) (E : ResOk C ι o H sl v) (e : lstOf S sl = some ds) : ∃ a vs, v = .ref a ∧ H a = some (.lst vs) ∧ IsFs C ι o H ds vs := by
  obtain ⟨m, d⟩ := sl
  cases d with
  | lst es =>
    have ee : es = ds := by cases m <;> exact Option.some.inj e
    subst ee
    cases m with
    | val =>
      obtain ⟨a, vs, ev, _, r, t⟩ := IsF.lst_rd E
      exact ⟨a, vs, ev, r, t⟩
    | own => obtain ⟨p, ev, _, vs, r, t⟩ := E; exact ⟨p, vs, ev, r, t⟩
    | lent => obtain ⟨p, ev, _, vs, r, t⟩ := E; exact ⟨p, vs, ev, r, t⟩
    | pk => obtain ⟨p, ev, _, vs, r, t⟩ := E; exact ⟨p, vs, ev, r, t⟩
  | ref n =>
    cases m with
    | val =>
      unfold lstOf at e
      dsimp only at e
      cases q : S[n]? with
      | none => rw [q] at e; cases e
      | some c =>
        rw [q] at e
        cases c with
        | lst es =>
          have ee : es = ds := Option.some.inj e
          subst ee
          obtain ⟨p, hp, ho, vs, r, t⟩ := K.cell n _ q
          cases E with
          | ref ha =>
            rw [hp] at ha
            cases ha
            exact ⟨p, vs, rfl, r, t⟩
        | dic _ => cases e
        | inst _ _ => cases e
        | dtp _ => cases e
    | own => cases e
    | lent => cases e
    | pk => cases e
  | _ => cases m <;> cases e
theorem lsq_sq {sl : Sl} {v : V} {ds : List D} (K : SOk C ι o H S) (E : ResOk C ι o H sl v) (e : lsqOf S sl = some ds) : ∃ a vs, v = .ref a ∧ SqL C.K H a vs ∧ IsFs C ι o H ds vs := by
  have go : lstOf S sl = some ds → ∃ a vs, v = .ref a ∧ SqL C.K H a vs ∧ IsFs C ι o H ds vs := fun e => by
    obtain ⟨a, vs, e1, e2, e3⟩ := lst_rd K E e
    exact ⟨a, vs, e1, .inl (.inl e2), e3⟩
  obtain ⟨m, d⟩ := sl
  cases d with
  | scr es =>
    have ee : es = ds := Option.some.inj e
    subst ee
    cases m with
    | val =>
      cases E with
      | scr _ r t => exact ⟨_, _, rfl, .inl r, t⟩
      | scrK r t => exact ⟨_, _, rfl, .inr r, t⟩
    | own => exact E.elim
    | lent => exact E.elim
    | pk => exact E.elim
  | _ => exact go e
theorem lst_none_str {sl : Sl} {x : Str} (h : sl.2 = .str x) : lstOf S sl = none := by
  obtain ⟨m, d⟩ := sl
  have h : d = .str x := h
  subst h
  cases m <;> rfl
theorem res_int {sl : Sl} {v : V} {i : Int} (E : ResOk C ι o H sl v) (h : sl.2 = .int i) : v = .int i := by
  obtain ⟨m, d⟩ := sl
  have h : d = .int i := h
  subst h
  cases m <;> first | (cases E; rfl) | exact E.elim
theorem res_str {sl : Sl} {v : V} {i : Str} (E : ResOk C ι o H sl v) (h : sl.2 = .str i) : v = .str i := by
  obtain ⟨m, d⟩ := sl
  have h : d = .str i := h
  subst h
  cases m <;> first | (cases E; rfl) | exact E.elim
theorem res_bl {sl : Sl} {v : V} {i : Bool} (E : ResOk C ι o H sl v) (h : sl.2 = .bl i) : v = .bl i := by
  obtain ⟨m, d⟩ := sl
  have h : d = .bl i := h
  subst h
  cases m <;> first | (cases E; rfl) | exact E.elim
theorem res_non {sl : Sl} {v : V} (E : ResOk C ι o H sl v) (h : sl.2 = .non) : v = .non := by
  obtain ⟨m, d⟩ := sl
  have h : d = .non := h
  subst h
  cases m <;> first | (cases E; rfl) | exact E.elim
theorem res_tup {sl : Sl} {v : V} {ds : List D} (E : ResOk C ι o H sl v) (h : sl.2 = .tup ds) : ∃ a vs, v = .ref a ∧ SqT C.K H a vs ∧ IsFs C ι o H ds vs := by
  obtain ⟨m, d⟩ := sl
  have h : d = .tup ds := h
  subst h
  cases m <;> first | exact IsF.tup_sq E | exact E.elim
end

/-! ### binary operators -/
def opOf : BOp → Operator
  | .add => .Add | .sub => .Sub | .mul => .Mult | .fdiv => .FloorDiv | .mod => .Mod | .pow => .Pow | .shl => .LShift | .band => .BitAnd | .bxor => .BitXor
section
variable {X : Cx} {C : Ctx} {Φ : Nat → List Sl → List Cell → COut} {W : WX} {k : Nat} {σ : L2.St} {ι ι' : List Addr} {o o' : Own} {H H' : Hp} {s : Stt} {Q : VK} {e e1 e2 e3 : Ex} {a b c : Expr} {pos : Pos}
/-- what a rule by values must serve -/
def rB (C : Ctx) (W : WX) (op : BOp) : R2 := fun x y H Q => ∃ σ ι o s a b, Rel C ι o H s σ ∧ ResOk C ι o H a x ∧ ResOk C ι o H b y ∧ Post C W σ ι o H (lift s (binR op s.sto a b)) Q
theorem rd_bin {op : BOp} (h : rdE C Φ W (.bin op e1 e2) σ H Q) : tOp (rB C W op) (rdE C Φ W e1) (rdE C Φ W e2) σ H Q := by
  obtain ⟨ι, o, s, R, h⟩ := h
  unfold evE at h
  refine rd_of R h fun x s1 v H1 ι1 o1 _ f1 R1 E1 F1 h1 _ => ?_
  refine rd_of R1 h1 fun y s2 u H2 ι2 o2 _ f2 R2 E2 F2 h2 _ => ?_
  exact ⟨σ, ι2, o2, s2, x, y, R2, E1.mono f2, E2, h2⟩
/-- numbers and texts alone -/
inductive BinI (op : BOp) : V → V → V → Prop
  | int (i j : Int) (d : Int) : binD op (.int i) (.int j) = some (.int d) → BinI op (.int i) (.int j) (.int d)
  | str (x y z : Str) : binD op (.str x) (.str y) = some (.str z) → BinI op (.str x) (.str y) (.str z)
theorem binD_cases {op : BOp} {a b d : D} (h : binD op a b = some d) : (∃ i j r, a = .int i ∧ b = .int j ∧ d = .int r) ∨ (∃ x y z, a = .str x ∧ b = .str y ∧ d = .str z) := by
  unfold binD at h
  split at h <;> first
    | (cases h; exact .inl ⟨_, _, _, rfl, rfl, rfl⟩)
    | (split at h <;> first | (cases h; first | exact .inl ⟨_, _, _, rfl, rfl, rfl⟩ | exact .inr ⟨_, _, _, rfl, rfl, rfl⟩) | cases h)
    | cases h
theorem post_bin {op : BOp} {a b : Sl} {x y : V} (R : Rel C ι o H s σ) (ea : ResOk C ι o H a x) (eb : ResOk C ι o H b y) (h : Post C W σ ι o H (lift s ((binD op a.2 b.2).map fun d => (.val, d))) Q) : ∃ z, BinI op x y z ∧ Q z H := by
  cases q : binD op a.2 b.2 with
  | none => rw [q] at h; exact h.elim
  | some d =>
    rw [q] at h
    rcases binD_cases q with ⟨i, j, r, e1, e2, e3⟩ | ⟨u, v, r, e1, e2, e3⟩
    · subst e3
      rw [e1, e2] at q
      rw [res_int ea e1, res_int eb e2]
      exact ⟨_, .int i j r q, Post.val R h (.int r)⟩
    · subst e3
      rw [e1, e2] at q
      rw [res_str ea e1, res_str eb e2]
      exact ⟨_, .str u v r q, Post.val R h (.str r)⟩
theorem opb_sub : OpR X (binaryOp .Sub) (rB C W .sub) := by
  intro pins s σ H x y v u Q I rx ry h
  obtain ⟨σ', ι, o, st, a, b, R, ea, eb, h⟩ := h
  obtain ⟨z, hz, q⟩ := post_bin (op := .sub) R ea eb h
  cases hz with
  | int i j d e =>
    unfold binD at e
    have ed := D.int.inj (Option.some.inj e)
    rw [← ed] at q
    exact op_sub pins s σ H _ _ v u Q I rx ry ⟨i, j, rfl, rfl, q⟩
  | str x y z e =>
    unfold binD at e
    exact absurd e (fun z => nomatch z)
theorem opb_fdiv : OpR X (binaryOp .FloorDiv) (rB C W .fdiv) := by
  intro pins s σ H x y v u Q I rx ry h
  obtain ⟨σ', ι, o, st, a, b, R, ea, eb, h⟩ := h
  obtain ⟨z, hz, q⟩ := post_bin (op := .fdiv) R ea eb h
  cases hz with
  | int i j d e =>
    unfold binD at e
    dsimp only at e
    split at e
    · rename_i hd
      have ed := D.int.inj (Option.some.inj e)
      rw [← ed] at q
      exact op_fdivW pins s σ H _ _ v u Q I rx ry ⟨i, j, rfl, rfl, hd, q⟩
    · exact absurd e (fun z => nomatch z)
  | str x y z e =>
    unfold binD at e
    exact absurd e (fun z => nomatch z)
theorem opb_mod : OpR X (binaryOp .Mod) (rB C W .mod) := by
  intro pins s σ H x y v u Q I rx ry h
  obtain ⟨σ', ι, o, st, a, b, R, ea, eb, h⟩ := h
  obtain ⟨z, hz, q⟩ := post_bin (op := .mod) R ea eb h
  cases hz with
  | int i j d e =>
    unfold binD at e
    dsimp only at e
    split at e
    · rename_i hd
      have ed := D.int.inj (Option.some.inj e)
      rw [← ed] at q
      exact op_mod pins s σ H _ _ v u Q I rx ry ⟨i, j, rfl, rfl, hd, q⟩
    · exact absurd e (fun z => nomatch z)
  | str x y z e =>
    unfold binD at e
    exact absurd e (fun z => nomatch z)
theorem opb_pow : OpR X (binaryOp .Pow) (rB C W .pow) := by
  intro pins s σ H x y v u Q I rx ry h
  obtain ⟨σ', ι, o, st, a, b, R, ea, eb, h⟩ := h
  obtain ⟨z, hz, q⟩ := post_bin (op := .pow) R ea eb h
  cases hz with
  | int i j d e =>
    unfold binD at e
    dsimp only at e
    split at e
    · rename_i hd
      have ed := D.int.inj (Option.some.inj e)
      rw [← ed] at q
      exact op_pow pins s σ H _ _ v u Q I rx ry ⟨i, j, rfl, rfl, hd, q⟩
    · exact absurd e (fun z => nomatch z)
  | str x y z e =>
    unfold binD at e
    exact absurd e (fun z => nomatch z)
theorem opb_shl : OpR X (binaryOp .LShift) (rB C W .shl) := by
  intro pins s σ H x y v u Q I rx ry h
  obtain ⟨σ', ι, o, st, a, b, R, ea, eb, h⟩ := h
  obtain ⟨z, hz, q⟩ := post_bin (op := .shl) R ea eb h
  cases hz with
  | int i j d e =>
    unfold binD at e
    dsimp only at e
    split at e
    · rename_i hd
      have ed := D.int.inj (Option.some.inj e)
      rw [← ed] at q
      exact op_shlW pins s σ H _ _ v u Q I rx ry ⟨i, j, rfl, rfl, hd, q⟩
    · exact absurd e (fun z => nomatch z)
  | str x y z e =>
    unfold binD at e
    exact absurd e (fun z => nomatch z)
theorem opb_band : OpR X (binaryOp .BitAnd) (rB C W .band) := by
  intro pins s σ H x y v u Q I rx ry h
  obtain ⟨σ', ι, o, st, a, b, R, ea, eb, h⟩ := h
  obtain ⟨z, hz, q⟩ := post_bin (op := .band) R ea eb h
  cases hz with
  | int i j d e =>
    unfold binD at e
    have ed := D.int.inj (Option.some.inj e)
    rw [← ed] at q
    exact op_and pins s σ H _ _ v u Q I rx ry ⟨i, j, rfl, rfl, q⟩
  | str x y z e =>
    unfold binD at e
    exact absurd e (fun z => nomatch z)
theorem opb_bxor : OpR X (binaryOp .BitXor) (rB C W .bxor) := by
  intro pins s σ H x y v u Q I rx ry h
  obtain ⟨σ', ι, o, st, a, b, R, ea, eb, h⟩ := h
  obtain ⟨z, hz, q⟩ := post_bin (op := .bxor) R ea eb h
  cases hz with
  | int i j d e =>
    unfold binD at e
    have ed := D.int.inj (Option.some.inj e)
    rw [← ed] at q
    exact op_xor pins s σ H _ _ v u Q I rx ry ⟨i, j, rfl, rfl, q⟩
  | str x y z e =>
    unfold binD at e
    exact absurd e (fun z => nomatch z)
theorem opb_add : OpR X (binaryOp .Add) (rB C W .add) := by
  intro pins s σ H x y v u Q I rx ry h
  obtain ⟨σ', ι, o, st, a, b, R, ea, eb, h⟩ := h
  have sc : Post C W σ' ι o H (lift st ((binD .add a.2 b.2).map fun d => (.val, d))) Q → wpAny (model X.prog X.w) X.A (binaryOp .Add v u) (EP X pins σ Q) X.xe s := fun h => by
    obtain ⟨z, hz, q⟩ := post_bin R ea eb h
    cases hz with
    | int i j d e => cases e; exact op_add pins s σ H _ _ v u Q I rx ry ⟨i, j, rfl, rfl, q⟩
    | str x y z e =>
      unfold binD at e
      dsimp only at e
      split at e
      · rename_i hd
        cases e
        exact op_add_str pins s σ H _ _ v u Q I rx ry ⟨x, y, rfl, rfl, Nat.le_trans hd lim_le, q⟩
      · cases e
  change Post C W σ' ι o H (lift st (addR st.sto a b)) Q at h
  unfold addR at h
  cases la : lstOf st.sto a with
  | none => rw [la] at h; exact sc h
  | some xs =>
    cases lb : lstOf st.sto b with
    | none => rw [la, lb] at h; exact sc h
    | some ys =>
      rw [la, lb] at h
      dsimp only at h
      split at h
      · rename_i hl
        obtain ⟨p, vs, ep, rp, tp⟩ := lst_rd R.sto ea la
        obtain ⟨p2, ws, ep2, rp2, tp2⟩ := lst_rd R.sto eb lb
        have h1 := tp.length
        have h2 := tp2.length
        exact op_cat pins s σ H x y v u Q I rx ry ⟨p, p2, vs, ws, ep, ep2, rp, rp2, Nat.le_trans (by omega) lim_le, fun q n => Post.newL R h n (tp.append tp2)⟩
      · exact h.elim
theorem opb_mul : OpR X (binaryOp .Mult) (rB C W .mul) := by
  intro pins s σ H x y v u Q I rx ry h
  obtain ⟨σ', ι, o, st, a, b, R, ea, eb, h⟩ := h
  have sc : Post C W σ' ι o H (lift st ((binD .mul a.2 b.2).map fun d => (.val, d))) Q → wpAny (model X.prog X.w) X.A (binaryOp .Mult v u) (EP X pins σ Q) X.xe s := fun h => by
    obtain ⟨z, hz, q⟩ := post_bin R ea eb h
    cases hz with
    | int i j d e =>
      unfold binD at e
      dsimp only at e
      split at e
      · rename_i hd
        have ed := D.int.inj (Option.some.inj e)
        rw [← ed] at q
        rcases hd with hd | hd
        · exact op_mul pins s σ H _ _ v u Q I rx ry ⟨i, j, rfl, rfl, hd, q⟩
        · exact op_mulW pins s σ H _ _ v u Q I rx ry ⟨i, j, rfl, rfl, hd, q⟩
      · exact absurd e (fun z => nomatch z)
    | str x y z e =>
      unfold binD at e
      exact absurd e (fun z => nomatch z)
  change Post C W σ' ι o H (lift st (mulR st.sto a b)) Q at h
  unfold mulR at h
  have sc : Post C W σ' ι o H (lift st (match a.2, b.2 with | .str x, .int k => if SRepOk x k then some (.val, .str (Txt.mul x k)) else none | _, _ => (binD .mul a.2 b.2).map fun d => (.val, d))) Q → wpAny (model X.prog X.w) X.A (binaryOp .Mult v u) (EP X pins σ Q) X.xe s := fun h => by
    split at h
    · rename_i z k q1 q2
      split at h
      · rename_i hk
        have e1 := res_str ea q1
        have e2 := res_int eb q2
        subst e1 e2
        obtain ⟨t, rfl⟩ := rx
        obtain ⟨t', rfl⟩ := ry
        refine PySem.SB.mul hk fun t' kk => ⟨.str _, H, I.tok _, ⟨_, rfl⟩, Post.val R h (.str _)⟩
      · exact h.elim
    · exact sc h
  split at h
  · rename_i xs k la lb
    split at h
    · rename_i hl
      obtain ⟨p, vs, ep, rp, tp⟩ := lst_rd R.sto ea la
      have h1 := tp.length
      have eu := res_int eb lb
      refine op_rep pins s σ H x y v u Q I rx ry ⟨p, k, vs, ep, eu, rp, by have := hl.2; omega, by have := hl.2; omega, Nat.le_trans (by rw [← h1]; exact hl.1) lim_le, fun q n => Post.newL R h n ?_⟩
      induction k.toNat with
      | zero => exact .nil
      | succ m ih =>
        rw [List.replicate_succ, List.replicate_succ, List.flatten_cons, List.flatten_cons]
        exact tp.append ih
    · exact h.elim
  · exact sc h
theorem opb_all (op : BOp) : OpR X (binaryOp (opOf op)) (rB C W op) := by
  cases op with
  | add => exact opb_add
  | sub => exact opb_sub
  | mul => exact opb_mul
  | fdiv => exact opb_fdiv
  | mod => exact opb_mod
  | pow => exact opb_pow
  | shl => exact opb_shl
  | band => exact opb_band
  | bxor => exact opb_bxor
theorem sE_bin (op : BOp) (ha : PE X a (rdE C Φ W e1)) (hb : PE X b (rdE C Φ W e2)) : PE X (.BinOp a (opOf op) b pos) (rdE C Φ W (.bin op e1 e2)) := PE.imp (pe_op (opb_all op) ha hb) fun _ _ _ => rd_bin

/-! ### one place: - and not -/
theorem sE_neg (ha : PE X a (rdE C Φ W e)) : PE X (.UnaryOp .USub a pos) (rdE C Φ W (.neg e)) := PE.imp (pe_un un_neg ha) fun σ H Q => by
  rintro ⟨ι, o, s, R, h⟩
  unfold evE at h
  refine rd_of R h fun x s1 v H1 ι1 o1 _ f1 R1 E1 F1 h1 _ => ?_
  split at h1
  · rename_i i _ _
    exact ⟨i, res_int E1 rfl, Post.val R1 h1 (.int _)⟩
  · exact h1.elim
theorem sE_not (ha : PE X a (rdE C Φ W e)) : PE X (.UnaryOp .Not a pos) (rdE C Φ W (.not e)) := PE.imp (pe_not ha) fun σ H Q => by
  rintro ⟨ι, o, s, R, h⟩
  unfold evE at h
  refine rd_of R h fun x s1 v H1 ι1 o1 _ f1 R1 E1 F1 h1 _ => ?_
  split at h1
  · rename_i i _ _
    exact ⟨i, res_bl E1 rfl, Post.val R1 h1 (.bl _)⟩
  · exact h1.elim
theorem sE_bits {apos : Pos} (ha : PE X a (rdE C Φ W e)) (hbase : attributeBase a "bit_length" X.env (eval a X.env) = eval a X.env := by rfl) (hline : (apos.endLine == pos.line) = true := by rfl) :
    PE X (.Call (.Attribute a "bit_length" apos) [] [] pos) (rdE C Φ W (.bits e)) := PE.imp (pe_bits ha hbase hline) fun σ H Q => by
  rintro ⟨ι, o, s, R, h⟩
  unfold evE at h
  refine rd_of R h fun x s1 v H1 ι1 o1 _ f1 R1 E1 F1 h1 _ => ?_
  split at h1
  · rename_i i _ _
    exact ⟨i, res_int E1 rfl, Post.val R1 h1 (.int _)⟩
  · exact h1.elim
end
end Sr

/-! Sr, part 6: comparisons, tests, choices, subscripts, slices. -/
namespace Sr
open PySem PySem.Spec PyProof.Rows L2

section
variable {C : Ctx} {ι : List Addr} {o : Own} {H : Hp} {S : List Cell}
mutual
theorem IsF.dp : ∀ {d : D} {v : V} {p : PyData}, IsF C ι o H d v → toPy d = some p → Dp C.K H v p
  | _, _, _, .non, e => by cases e; exact .non
  | _, _, _, .bl b, e => by cases e; exact .bl b
  | _, _, _, .int i, e => by cases e; exact .int i
  | _, _, _, .str s, e => by cases e; exact .str s
  | _, _, _, .tup n r h, e => by
    unfold toPy at e
    obtain ⟨ps, e1, e2⟩ := Option.map_eq_some_iff.mp e
    subst e2
    exact .tup (.inl (.inl r)) (IsFs.dp h e1)
  | _, _, _, .lst n r h, e => by
    unfold toPy at e
    obtain ⟨ps, e1, e2⟩ := Option.map_eq_some_iff.mp e
    subst e2
    exact .lst (.inl (.inl r)) (IsFs.dp h e1)
  | _, _, _, .scr n r h, e => by
    unfold toPy at e
    obtain ⟨ps, e1, e2⟩ := Option.map_eq_some_iff.mp e
    subst e2
    exact .lst (.inl r) (IsFs.dp h e1)
  | _, _, _, .scrK r h, e => by
    unfold toPy at e
    obtain ⟨ps, e1, e2⟩ := Option.map_eq_some_iff.mp e
    subst e2
    exact .lst (.inr r) (IsFs.dp h e1)
  | _, _, _, .dic _ _ _, e => by cases e
  | _, _, _, .ref _, e => by cases e
  | _, _, _, .obj _, e => by cases e
theorem IsFs.dp : ∀ {ds : List D} {vs : List V} {ps : List PyData}, IsFs C ι o H ds vs → toPys ds = some ps → DpAll C.K H vs ps
  | _, _, _, .nil, e => by cases e; exact .nil
  | _, _, _, .cons (d := d) (ds := ds) h t, e => by
    unfold toPys at e
    cases q1 : toPy d with
    | none => rw [q1] at e; cases e
    | some x =>
      cases q2 : toPys ds with
      | none => rw [q1, q2] at e; cases e
      | some xs =>
        rw [q1, q2] at e
        cases e
        exact .cons (IsF.dp h q1) (IsFs.dp t q2)
end
theorem toPy_lst {ds : List D} {p : PyData} (h : toPy (.lst ds) = some p) : ∃ ps, toPys ds = some ps ∧ p = .list ps := by
  unfold toPy at h
  obtain ⟨ps, e1, e2⟩ := Option.map_eq_some_iff.mp h
  exact ⟨ps, e1, e2.symm⟩
theorem res_dp {sl : Sl} {v : V} {p : PyData} (K : SOk C ι o H S) (E : ResOk C ι o H sl v) (e : toPy (drf S sl) = some p) : Dp C.K H v p := by
  have viaL : ∀ ds, lstOf S sl = some ds → drf S sl = .lst ds → Dp C.K H v p := fun ds h1 h2 => by
    rw [h2] at e
    obtain ⟨ps, e1, e2⟩ := toPy_lst e
    obtain ⟨a, vs, ev, r, t⟩ := lst_rd K E h1
    rw [ev, e2]
    exact .lst (.inl (.inl r)) (t.dp e1)
  obtain ⟨m, d⟩ := sl
  cases m with
  | val =>
    cases d with
    | ref n =>
      cases q : S[n]? with
      | none => simp only [drf, q] at e; cases e
      | some c =>
        cases c with
        | lst es => exact viaL es (by simp only [lstOf, q]) (by simp only [drf, q])
        | dic _ => simp only [drf, q] at e; cases e
        | inst _ _ => simp only [drf, q] at e; cases e
        | dtp _ => simp only [drf, q] at e; cases e
    | _ => exact IsF.dp E e
  | own =>
    cases d with
    | lst ds => exact viaL ds rfl rfl
    | dic _ => cases e
    | _ => exact E.elim
  | lent =>
    cases d with
    | lst ds => exact viaL ds rfl rfl
    | dic _ => cases e
    | _ => exact E.elim
  | pk =>
    cases d with
    | lst ds => exact viaL ds rfl rfl
    | dic _ => cases e
    | _ => exact E.elim
theorem non_is {d : D} {v : V} {b : Bool} (E : IsF C ι o H d v) (h : nonD d = some b) : decide (v = .non) = b := by
  cases E <;> first | (cases h; rfl) | (cases h; simp) | cases h
theorem res_nonb {sl : Sl} {v : V} {b : Bool} (E : ResOk C ι o H sl v) (h : nonD sl.2 = some b) : decide (v = .non) = b := by
  have viaR : ∀ p, v = .ref p → b = false → decide (v = .non) = b := fun p e1 e2 => by rw [e1, e2]; simp
  obtain ⟨m, d⟩ := sl
  cases m with
  | val => exact non_is E h
  | own =>
    cases d with
    | lst ds => obtain ⟨p, ev, _⟩ := E; exact viaR p ev (Option.some.inj h).symm
    | dic ds => obtain ⟨p, ev, _⟩ := E; exact viaR p ev (Option.some.inj h).symm
    | _ => exact E.elim
  | lent =>
    cases d with
    | lst ds => obtain ⟨p, ev, _⟩ := E; exact viaR p ev (Option.some.inj h).symm
    | dic ds => obtain ⟨p, ev, _⟩ := E; exact viaR p ev (Option.some.inj h).symm
    | _ => exact E.elim
  | pk =>
    cases d with
    | lst ds => obtain ⟨p, ev, _⟩ := E; exact viaR p ev (Option.some.inj h).symm
    | dic ds => obtain ⟨p, ev, _⟩ := E; exact viaR p ev (Option.some.inj h).symm
    | _ => exact E.elim
end

def cmpOf : COp → CmpOp
  | .lt => .Lt | .le => .LtE | .gt => .Gt | .ge => .GtE | .eq => .Eq | .ne => .NotEq | .is => .Is | .isnot => .IsNot | .isin => .In | .notin => .NotIn
section
variable {X : Cx} {C : Ctx} {Φ : Nat → List Sl → List Cell → COut} {W : WX} {k : Nat} {σ : L2.St} {ι ι' : List Addr} {o o' : Own} {H H' : Hp} {s : Stt} {Q : VK} {e e1 e2 e3 : Ex} {a b c : Expr} {pos : Pos}
def rC (C : Ctx) (op : COp) : R2 := fun x y H Q => ∃ ι o S a b r, SOk C ι o H S ∧ ResOk C ι o H a x ∧ ResOk C ι o H b y ∧ cmpD op S a b = some r ∧ Q (.bl r) H
theorem int2 {a b : Sl} {r : Bool} {f : Int → Int → Bool} {g : Str → Str → Bool} (h : (match a.2, b.2 with | .int i, .int j => some (f i j) | .str i, .str j => some (g i j) | _, _ => none) = some r) : (∃ i j, a.2 = .int i ∧ b.2 = .int j ∧ f i j = r) ∨ ∃ i j, a.2 = .str i ∧ b.2 = .str j ∧ g i j = r := by
  split at h
  · rename_i i j e1 e2
    exact .inl ⟨i, j, e1, e2, Option.some.inj h⟩
  · rename_i i j e1 e2
    exact .inr ⟨i, j, e1, e2, Option.some.inj h⟩
  · cases h
theorem opc_lt : OpR X (compareOp .Lt) (rC C .lt) := by
  intro pins s σ H x y v u Q I rx ry h
  obtain ⟨ι, o, st, a, b, r, R, ea, eb, h, q⟩ := h
  rcases int2 (f := fun i j => decide (i < j)) (g := fun i j => decide (i.cps.toList < j.cps.toList)) h with ⟨i, j, e1, e2, e3⟩ | ⟨i, j, e1, e2, e3⟩
  · exact op_lt pins s σ H x y v u Q I rx ry ⟨i, j, res_int ea e1, res_int eb e2, by rw [← e3] at q; exact q⟩
  · exact op_lt_str pins s σ H x y v u Q I rx ry ⟨i, j, res_str ea e1, res_str eb e2, by rw [← e3] at q; exact q⟩
theorem opc_le : OpR X (compareOp .LtE) (rC C .le) := by
  intro pins s σ H x y v u Q I rx ry h
  obtain ⟨ι, o, st, a, b, r, R, ea, eb, h, q⟩ := h
  rcases int2 (f := fun i j => decide (i ≤ j)) (g := fun i j => !decide (j.cps.toList < i.cps.toList)) h with ⟨i, j, e1, e2, e3⟩ | ⟨i, j, e1, e2, e3⟩
  · exact op_le pins s σ H x y v u Q I rx ry ⟨i, j, res_int ea e1, res_int eb e2, by rw [← e3] at q; exact q⟩
  · exact op_le_str pins s σ H x y v u Q I rx ry ⟨i, j, res_str ea e1, res_str eb e2, by rw [← e3] at q; exact q⟩
theorem opc_gt : OpR X (compareOp .Gt) (rC C .gt) := by
  intro pins s σ H x y v u Q I rx ry h
  obtain ⟨ι, o, st, a, b, r, R, ea, eb, h, q⟩ := h
  rcases int2 (f := fun i j => decide (j < i)) (g := fun i j => decide (j.cps.toList < i.cps.toList)) h with ⟨i, j, e1, e2, e3⟩ | ⟨i, j, e1, e2, e3⟩
  · exact op_gt pins s σ H x y v u Q I rx ry ⟨i, j, res_int ea e1, res_int eb e2, by rw [← e3] at q; exact q⟩
  · exact op_gt_str pins s σ H x y v u Q I rx ry ⟨i, j, res_str ea e1, res_str eb e2, by rw [← e3] at q; exact q⟩
theorem opc_ge : OpR X (compareOp .GtE) (rC C .ge) := by
  intro pins s σ H x y v u Q I rx ry h
  obtain ⟨ι, o, st, a, b, r, R, ea, eb, h, q⟩ := h
  rcases int2 (f := fun i j => decide (j ≤ i)) (g := fun i j => !decide (i.cps.toList < j.cps.toList)) h with ⟨i, j, e1, e2, e3⟩ | ⟨i, j, e1, e2, e3⟩
  · exact op_ge pins s σ H x y v u Q I rx ry ⟨i, j, res_int ea e1, res_int eb e2, by rw [← e3] at q; exact q⟩
  · exact op_ge_str pins s σ H x y v u Q I rx ry ⟨i, j, res_str ea e1, res_str eb e2, by rw [← e3] at q; exact q⟩
theorem eqD_some {S : List Cell} {a b : Sl} {r : Bool} (h : eqD S a b = some r) : ∃ x y, toPy (drf S a) = some x ∧ toPy (drf S b) = some y ∧ SeqAt.shaped x = true ∧ SeqAt.shaped y = true ∧ PyData.eqv x y = r := by
  unfold eqD at h
  split at h
  · rename_i x y e1 e2
    split at h
    · rename_i hs
      exact ⟨x, y, e1, e2, hs.1, hs.2, Option.some.inj h⟩
    · cases h
  · cases h
theorem opc_eq (K : Okx X C W k) : OpR X (compareOp .Eq) (rC C .eq) := by
  intro pins s σ H x y v u Q I rx ry h
  obtain ⟨ι, o, st, a, b, r, R, ea, eb, h, q⟩ := h
  obtain ⟨p1, p2, h1, h2, h3, h4, h5⟩ := eqD_some h
  refine op_eqD K.room.units pins s σ H x y v u Q I rx ry ⟨p1, p2, ?_, ?_, h3, h4, by rw [h5]; exact q⟩
  · rw [K.kk]; exact res_dp R ea h1
  · rw [K.kk]; exact res_dp R eb h2
theorem opc_ne (K : Okx X C W k) : OpR X (compareOp .NotEq) (rC C .ne) := by
  intro pins s σ H x y v u Q I rx ry h
  obtain ⟨ι, o, st, a, b, r, R, ea, eb, h, q⟩ := h
  obtain ⟨r', h, e⟩ := Option.map_eq_some_iff.mp h
  obtain ⟨p1, p2, h1, h2, h3, h4, h5⟩ := eqD_some h
  refine op_neD K.room.units pins s σ H x y v u Q I rx ry ⟨p1, p2, ?_, ?_, h3, h4, by rw [h5, e]; exact q⟩
  · rw [K.kk]; exact res_dp R ea h1
  · rw [K.kk]; exact res_dp R eb h2
theorem isD_some {x y : D} {r : Bool} (h : isD x y = some r) : (y = .non ∧ nonD x = some r) ∨ ∃ a b, x = .bl a ∧ y = .bl b ∧ decide (a = b) = r := by
  unfold isD at h
  split at h
  · exact .inl ⟨rfl, h⟩
  · exact .inr ⟨_, _, rfl, rfl, Option.some.inj h⟩
  · cases h
theorem opc_is : OpR X (compareOp .Is) (rC C .is) := by
  intro pins s σ H x y v u Q I rx ry h
  obtain ⟨ι, o, st, a, b, r, R, ea, eb, h, q⟩ := h
  rcases isD_some h with ⟨e1, e2⟩ | ⟨i, j, e1, e2, e3⟩
  · exact op_isN pins s σ H x y v u Q I rx ry ⟨res_non eb e1, by rw [res_nonb ea e2]; exact q⟩
  · exact op_isBl pins s σ H x y v u Q I rx ry ⟨i, j, res_bl ea e1, res_bl eb e2, by rw [e3]; exact q⟩
theorem opc_isnot : OpR X (compareOp .IsNot) (rC C .isnot) := by
  intro pins s σ H x y v u Q I rx ry h
  obtain ⟨ι, o, st, a, b, r, R, ea, eb, h, q⟩ := h
  obtain ⟨r', h, e⟩ := Option.map_eq_some_iff.mp h
  rcases isD_some h with ⟨e1, e2⟩ | ⟨i, j, e1, e2, e3⟩
  · exact op_notN pins s σ H x y v u Q I rx ry ⟨res_non eb e1, by rw [res_nonb ea e2, e]; exact q⟩
  · exact op_notBl pins s σ H x y v u Q I rx ry ⟨i, j, res_bl ea e1, res_bl eb e2, by rw [e3, e]; exact q⟩
theorem inD_some {S : List Cell} {a b : Sl} {r : Bool} (h : inD S a b = some r) : (∃ c z, a.2 = .str ⟨#[c]⟩ ∧ b.2 = .str z ∧ decide (c ∈ z.cps.toList) = r) ∨ ∃ d ds, toPy (drf S a) = some d ∧ toPy (drf S b) = some (.list ds) ∧ SeqAt.shaped d = true ∧ SeqAt.shaped (.list ds) = true ∧ (ds.any fun z => PyData.eqv z d) = r := by
  unfold inD at h
  split at h
  · rename_i x z e1 e2
    split at h
    · rename_i c e3
      refine .inl ⟨c, z, ?_, e2, Option.some.inj h⟩
      rw [e1]
      obtain ⟨⟨l⟩⟩ := x
      simp only at e3
      subst e3
      rfl
    · cases h
  · split at h
    · rename_i d ds e1 e2
      split at h
      · rename_i hs
        exact .inr ⟨d, ds, e1, e2, hs.1, hs.2, Option.some.inj h⟩
      · cases h
    · cases h
theorem opc_in (K : Okx X C W k) : OpR X (compareOp .In) (rC C .isin) := by
  intro pins s σ H x y v u Q I rx ry h
  obtain ⟨ι, o, st, a, b, r, R, ea, eb, h, q⟩ := h
  rcases inD_some h with ⟨c, z, e1, e2, e3⟩ | ⟨d, ds, e1, e2, e3, e4, e5⟩
  · exact op_in_sign pins s σ H x y v u Q I rx ry ⟨c, z, res_str ea e1, res_str eb e2, by rw [e3]; exact q⟩
  · refine op_inD (by have := K.room.un; omega) pins s σ H x y v u Q I rx ry ⟨d, ds, ?_, ?_, e3, e4, by rw [e5]; exact q⟩
    · rw [K.kk]; exact res_dp R ea e1
    · rw [K.kk]; exact res_dp R eb e2
theorem opc_notin (K : Okx X C W k) : OpR X (compareOp .NotIn) (rC C .notin) := by
  intro pins s σ H x y v u Q I rx ry h
  obtain ⟨ι, o, st, a, b, r, R, ea, eb, h, q⟩ := h
  obtain ⟨r', h, e⟩ := Option.map_eq_some_iff.mp h
  rcases inD_some h with ⟨c, z, e1, e2, e3⟩ | ⟨d, ds, e1, e2, e3, e4, e5⟩
  · exact op_notIn_sign pins s σ H x y v u Q I rx ry ⟨c, z, res_str ea e1, res_str eb e2, by rw [e3, e]; exact q⟩
  · refine op_notInD (by have := K.room.un; omega) pins s σ H x y v u Q I rx ry ⟨d, ds, ?_, ?_, e3, e4, by rw [e5, e]; exact q⟩
    · rw [K.kk]; exact res_dp R ea e1
    · rw [K.kk]; exact res_dp R eb e2
def isIn : COp → Bool | .isin => true | .notin => true | _ => false
theorem opc_all (K : Okx X C W k) (op : COp) (h : isIn op = false) : OpR X (compareOp (cmpOf op)) (rC C op) := by
  cases op with
  | lt => exact opc_lt
  | le => exact opc_le
  | gt => exact opc_gt
  | ge => exact opc_ge
  | eq => exact opc_eq K
  | ne => exact opc_ne K
  | is => exact opc_is
  | isnot => exact opc_isnot
  | isin => cases h
  | notin => cases h
theorem rd_cmp {op : COp} (h : rdE C Φ W (.cmp op e1 e2) σ H Q) : tOp (rC C op) (rdE C Φ W e1) (rdE C Φ W e2) σ H Q := by
  obtain ⟨ι, o, s, R, h⟩ := h
  unfold evE at h
  refine rd_of R h fun x s1 v H1 ι1 o1 _ f1 R1 E1 F1 h1 _ => ?_
  refine rd_of R1 h1 fun y s2 u H2 ι2 o2 _ f2 R2 E2 F2 h2 _ => ?_
  cases q : cmpD op s2.sto x y with
  | none => rw [q] at h2; exact h2.elim
  | some r =>
    rw [q] at h2
    exact ⟨ι2, o2, s2.sto, x, y, r, R2.sto, E1.mono f2, E2, q, Post.val R2 h2 (.bl _)⟩
theorem nomk (op : COp) (b : Expr) (h : isIn op = false) : behindInMarks (cmpOf op) b = false := by
  cases op <;> first | exact nomark b | cases h
theorem sE_cmp (op : COp) (K : Okx X C W k) (ha : PE X a (rdE C Φ W e1)) (hb : PE X b (rdE C Φ W e2)) (h : isIn op = false := by rfl) : PE X (.Compare a [cmpOf op] [b] pos) (rdE C Φ W (.cmp op e1 e2)) :=
  PE.imp (pe_cmpR (opc_all K op h) ha hb (nomk op b h)) fun _ _ _ => rd_cmp
def rdT (C : Ctx) (Φ : Nat → List Sl → List Cell → COut) (W : WX) (e : Ex) : TT := fun σ H Q => rdE C Φ W e σ H fun x H' => ∃ b, x = .bl b ∧ Q b H'
theorem PT.imp {e : Expr} {t t' : TT} (h : PT X e t) (w : ∀ σ H Q, t' σ H Q → t σ H Q) : PT X e t' := ⟨fun pins s σ H Q I q => h.run pins s σ H Q I (w _ _ _ q)⟩
theorem sT_cmp (op : COp) (K : Okx X C W k) (ha : PE X a (rdE C Φ W e1)) (hb : PE X b (rdE C Φ W e2)) (h : isIn op = false := by rfl) : PT X (.Compare a [cmpOf op] [b] pos) (rdT C Φ W (.cmp op e1 e2)) :=
  PT.imp (pt_cmpR (opc_all K op h) ha hb (nomk op b h)) fun _ _ _ h => rd_cmp h
theorem sE_in (K : Okx X C W k) (ha : PE X a (rdE C Φ W e1)) (hb : PE X b (rdE C Φ W e2)) (hm : behindInMarks .In b = false := by rfl) : PE X (.Compare a [.In] [b] pos) (rdE C Φ W (.cmp .isin e1 e2)) :=
  PE.imp (pe_cmpR (opc_in K) ha hb hm) fun _ _ _ => rd_cmp
theorem sE_notin (K : Okx X C W k) (ha : PE X a (rdE C Φ W e1)) (hb : PE X b (rdE C Φ W e2)) (hm : behindInMarks .NotIn b = false := by rfl) : PE X (.Compare a [.NotIn] [b] pos) (rdE C Φ W (.cmp .notin e1 e2)) :=
  PE.imp (pe_cmpR (opc_notin K) ha hb hm) fun _ _ _ => rd_cmp
theorem sT_in (K : Okx X C W k) (ha : PE X a (rdE C Φ W e1)) (hb : PE X b (rdE C Φ W e2)) (hm : behindInMarks .In b = false := by rfl) : PT X (.Compare a [.In] [b] pos) (rdT C Φ W (.cmp .isin e1 e2)) :=
  PT.imp (pt_cmpR (opc_in K) ha hb hm) fun _ _ _ h => rd_cmp h
theorem sT_notin (K : Okx X C W k) (ha : PE X a (rdE C Φ W e1)) (hb : PE X b (rdE C Φ W e2)) (hm : behindInMarks .NotIn b = false := by rfl) : PT X (.Compare a [.NotIn] [b] pos) (rdT C Φ W (.cmp .notin e1 e2)) :=
  PT.imp (pt_cmpR (opc_notin K) ha hb hm) fun _ _ _ h => rd_cmp h
theorem sT_val (ha : PE X a (rdE C Φ W e)) (he : ∀ whole, isTrue a X.env whole = (do let v ← whole; standAt a.pos; holding [v] (truthy v)) := by intro _; rfl) : PT X a (rdT C Φ W e) := pt_val ha he
/-! ### a < b < c -/
theorem rd_chn {o1 o2 : COp} (h : rdE C Φ W (.chn o1 o2 e1 e2 e3) σ H Q) : tChain (rC C o1) (rC C o2) (rdE C Φ W e1) (rdE C Φ W e2) (rdE C Φ W e3) σ H Q := by
  obtain ⟨ι, o, s, R, h⟩ := h
  unfold evE at h
  refine rd_of R h fun x s1 v H1 ι1 o1' _ f1 R1 E1 F1 h1 _ => ?_
  refine rd_of R1 h1 fun y s2 u H2 ι2 o2' _ f2 R2 E2 F2 h2 _ => ?_
  cases q : cmpD o1 s2.sto x y with
  | none => rw [q] at h2; exact h2.elim
  | some r =>
    rw [q] at h2
    refine ⟨ι2, o2', s2.sto, x, y, r, R2.sto, E1.mono f2, E2, q, r, rfl, ?_⟩
    cases r with
    | false =>
      rw [if_neg Bool.false_ne_true]
      exact Post.val R2 h2 (.bl _)
    | true =>
      rw [if_pos rfl]
      refine rd_of R2 h2 fun z s3 w H3 ι3 o3' _ f3 R3 E3 F3 h3 _ => ?_
      cases q2 : cmpD o2 s3.sto y z with
      | none => rw [q2] at h3; exact h3.elim
      | some r =>
        rw [q2] at h3
        exact ⟨ι3, o3', s3.sto, y, z, r, R3.sto, E2.mono f3, E3, q2, Post.val R3 h3 (.bl _)⟩
theorem sE_chn (o1 o2 : COp) (K : Okx X C W k) (ha : PE X a (rdE C Φ W e1)) (hb : PE X b (rdE C Φ W e2)) (hc : PE X c (rdE C Φ W e3)) (h1 : isIn o1 = false := by rfl) (h2 : isIn o2 = false := by rfl)
    (hm : lastMarks [cmpOf o1, cmpOf o2] [b, c] = false := by with_unfolding_all rfl) : PE X (.Compare a [cmpOf o1, cmpOf o2] [b, c] pos) (rdE C Φ W (.chn o1 o2 e1 e2 e3)) :=
  PE.imp (pe_chain (opc_all K o1 h1) (opc_all K o2 h2) ha hb hc hm) fun _ _ _ => rd_chn
theorem sT_chn (o1 o2 : COp) (K : Okx X C W k) (ha : PE X a (rdE C Φ W e1)) (hb : PE X b (rdE C Φ W e2)) (hc : PE X c (rdE C Φ W e3)) (h1 : isIn o1 = false := by rfl) (h2 : isIn o2 = false := by rfl)
    (hm : lastMarks [cmpOf o1, cmpOf o2] [b, c] = false := by with_unfolding_all rfl) : PT X (.Compare a [cmpOf o1, cmpOf o2] [b, c] pos) (rdT C Φ W (.chn o1 o2 e1 e2 e3)) :=
  PT.imp (pt_chain (opc_all K o1 h1) (opc_all K o2 h2) ha hb hc hm) fun _ _ _ h => rd_chn h
/-! ### and, or, not, a if t else b -/
theorem asb {x : Sl} {v : V} {t f : Out Sl} (E : ResOk C ι o H x v) (h : Post C W σ ι o H (onB x t f) Q) : ∃ b, v = .bl b ∧ Post C W σ ι o H (if b = true then t else f) Q := by
  obtain ⟨m, d⟩ := x
  cases m with
  | val =>
    cases d with
    | bl b =>
      cases E
      exact ⟨b, rfl, h⟩
    | _ => exact h.elim
  | _ => exact h.elim
theorem rd_and (h : rdE C Φ W (.and e1 e2) σ H Q) : tAndV (rdE C Φ W e1) (rdE C Φ W e2) σ H Q := by
  obtain ⟨ι, o, s, R, h⟩ := h
  unfold evE at h
  refine rd_of R h fun x s1 v H1 ι1 o1 _ f1 R1 E1 F1 h1 _ => ?_
  obtain ⟨b, ev, h2⟩ := asb E1 h1
  refine ⟨b, ev, ?_⟩
  cases b with
  | true => exact ⟨ι1, o1, s1, R1, h2⟩
  | false => exact Post.val R1 h2 (.bl _)
theorem rd_or (h : rdE C Φ W (.or e1 e2) σ H Q) : tOrV (rdE C Φ W e1) (rdE C Φ W e2) σ H Q := by
  obtain ⟨ι, o, s, R, h⟩ := h
  unfold evE at h
  refine rd_of R h fun x s1 v H1 ι1 o1 _ f1 R1 E1 F1 h1 _ => ?_
  obtain ⟨b, ev, h2⟩ := asb E1 h1
  refine ⟨b, ev, ?_⟩
  cases b with
  | false => exact ⟨ι1, o1, s1, R1, h2⟩
  | true => exact Post.val R1 h2 (.bl _)
theorem sE_one {op} (h : PE X a (rdE C Φ W e)) : PE X (.BoolOp op [a] pos) (rdE C Φ W e) := pe_one h
theorem sE_and {rest : List Expr} (ha : PE X a (rdE C Φ W e1)) (hb : PE X (.BoolOp .And (b :: rest) pos) (rdE C Φ W e2)) : PE X (.BoolOp .And (a :: b :: rest) pos) (rdE C Φ W (.and e1 e2)) := PE.imp (pe_and ha hb) fun _ _ _ => rd_and
theorem sE_or {rest : List Expr} (ha : PE X a (rdE C Φ W e1)) (hb : PE X (.BoolOp .Or (b :: rest) pos) (rdE C Φ W e2)) : PE X (.BoolOp .Or (a :: b :: rest) pos) (rdE C Φ W (.or e1 e2)) := PE.imp (pe_or ha hb) fun _ _ _ => rd_or
theorem PW.imp {e : Expr} {t t' : TT} (h : PW X e t) (w : ∀ σ H Q, t' σ H Q → t σ H Q) : PW X e t' := ⟨fun wh pins s σ H Q I q => h.run wh pins s σ H Q I (w _ _ _ q)⟩
theorem sW_and1 (ha : PT X a (rdT C Φ W e)) : PW X (.BoolOp .And [a] pos) (rdT C Φ W e) := pw_and1 ha
theorem sW_or1 (ha : PT X a (rdT C Φ W e)) : PW X (.BoolOp .Or [a] pos) (rdT C Φ W e) := pw_or1 ha
theorem sW_and {rest : List Expr} (ha : PT X a (rdT C Φ W e1)) (hb : PW X (.BoolOp .And (b :: rest) pos) (rdT C Φ W e2)) : PW X (.BoolOp .And (a :: b :: rest) pos) (rdT C Φ W (.and e1 e2)) := PW.imp (pw_and ha hb) fun σ H Q h => by
  obtain ⟨ι, o, s, R, h⟩ := h
  unfold evE at h
  refine rd_of R h fun x s1 v H1 ι1 o1 _ f1 R1 E1 F1 h1 _ => ?_
  obtain ⟨b, ev, h2⟩ := asb E1 h1
  refine ⟨b, ev, ?_⟩
  cases b with
  | true => exact ⟨ι1, o1, s1, R1, h2⟩
  | false =>
    obtain ⟨b', e', q⟩ := Post.val R1 h2 (.bl _)
    cases e'
    exact q
theorem sW_or {rest : List Expr} (ha : PT X a (rdT C Φ W e1)) (hb : PW X (.BoolOp .Or (b :: rest) pos) (rdT C Φ W e2)) : PW X (.BoolOp .Or (a :: b :: rest) pos) (rdT C Φ W (.or e1 e2)) := PW.imp (pw_or ha hb) fun σ H Q h => by
  obtain ⟨ι, o, s, R, h⟩ := h
  unfold evE at h
  refine rd_of R h fun x s1 v H1 ι1 o1 _ f1 R1 E1 F1 h1 _ => ?_
  obtain ⟨b, ev, h2⟩ := asb E1 h1
  refine ⟨b, ev, ?_⟩
  cases b with
  | false => exact ⟨ι1, o1, s1, R1, h2⟩
  | true =>
    obtain ⟨b', e', q⟩ := Post.val R1 h2 (.bl _)
    cases e'
    exact q
theorem sT_bool (h : PW X a (rdT C Φ W e)) : PT X a (rdT C Φ W e) := h.pt
theorem sT_not (ha : PT X a (rdT C Φ W e)) : PT X (.UnaryOp .Not a pos) (rdT C Φ W (.not e)) := PT.imp (pt_not ha) fun σ H Q h => by
  obtain ⟨ι, o, s, R, h⟩ := h
  unfold evE at h
  refine rd_of R h fun x s1 v H1 ι1 o1 _ f1 R1 E1 F1 h1 _ => ?_
  obtain ⟨m, d⟩ := x
  cases m with
  | val =>
    cases d with
    | bl b =>
      cases E1
      obtain ⟨b', e', q⟩ := Post.val R1 h1 (.bl _)
      cases e'
      exact ⟨b, rfl, q⟩
    | _ => exact h1.elim
  | _ => exact h1.elim
theorem sE_ite (hc : PT X c (rdT C Φ W e1)) (ha : PE X a (rdE C Φ W e2)) (hb : PE X b (rdE C Φ W e3)) : PE X (.IfExp c a b pos) (rdE C Φ W (.ite e1 e2 e3)) := PE.imp (pe_ifExp hc ha hb) fun σ H Q h => by
  obtain ⟨ι, o, s, R, h⟩ := h
  unfold evE at h
  refine rd_of R h fun x s1 v H1 ι1 o1 _ f1 R1 E1 F1 h1 _ => ?_
  obtain ⟨b, ev, h2⟩ := asb E1 h1
  refine ⟨b, ev, ?_⟩
  cases b with
  | true => exact ⟨ι1, o1, s1, R1, h2⟩
  | false => exact ⟨ι1, o1, s1, R1, h2⟩
end
end Sr

/-! Sr, part 7: subscripts, slices, built-in calls, attributes. -/
namespace Sr
open PySem PySem.Spec PyProof.Rows L2

section
variable {C : Ctx} {ι : List Addr} {o : Own} {H : Hp} {S : List Cell}
theorem IsFs.atI {ds : List D} {vs : List V} {i : Int} {d : D} (h : IsFs C ι o H ds vs) (e : L2.atI ds i = some d) : ∃ v, L2.atI vs i = some v ∧ IsF C ι o H d v := by
  unfold L2.atI at e ⊢
  rw [← h.length]
  cases q : ixN ds.length i with
  | none => rw [q] at e; cases e
  | some j =>
    rw [q] at e
    exact h.get e
theorem cut_is {ds : List D} {vs : List V} (h : IsFs C ι o H ds vs) (lo hi : Option Int) : IsFs C ι o H (cutD ds lo hi) (cutV vs lo hi) := by
  unfold cutD cutV
  rw [h.length]
  exact (h.drop _).take _
/-- a list or a tuple -/
theorem seq_sq {sl : Sl} {v : V} {ds : List D} (K : SOk C ι o H S) (E : ResOk C ι o H sl v) (e : seqOf S sl = some ds) : ∃ a vs, v = .ref a ∧ (SqL C.K H a vs ∨ SqT C.K H a vs) ∧ IsFs C ι o H ds vs := by
  unfold seqOf at e
  split at e
  · rename_i es q
    cases e
    obtain ⟨a, vs, h1, h2, h3⟩ := lsq_sq K E q
    exact ⟨a, vs, h1, .inl h2, h3⟩
  · rename_i es q q2
    cases e
    obtain ⟨a, vs, h1, h2, h3⟩ := res_tup E q2
    exact ⟨a, vs, h1, .inr h2, h3⟩
  · cases e
end

section
variable {X : Cx} {C : Ctx} {Φ : Nat → List Sl → List Cell → COut} {W : WX} {k : Nat} {σ : L2.St} {ι ι' : List Addr} {o o' : Own} {H H' : Hp} {s : Stt} {Q : VK} {e e1 e2 e3 : Ex} {a b c : Expr} {pos : Pos}
/-! ### a[i] -/
theorem post_lift {r : Option Sl} (h : Post C W σ ι o H (lift s r) Q) : ∃ sl, r = some sl ∧ Post C W σ ι o H (.ok sl s) Q := by
  cases r with
  | none => exact h.elim
  | some sl => exact ⟨sl, rfl, h⟩
theorem post_liftV {r : Option D} (h : Post C W σ ι o H (lift s (r.map fun d => (.val, d))) Q) : ∃ d, r = some d ∧ Post C W σ ι o H (.ok (.val, d) s) Q := by
  obtain ⟨sl, e, h⟩ := post_lift h
  obtain ⟨d, e1, e2⟩ := Option.map_eq_some_iff.mp e
  rw [← e2] at h
  exact ⟨d, e1, h⟩
theorem rd_ix (K : Okx X C W k) (h : rdE C Φ W (.ix e1 e2) σ H Q) : tOp (rIx X.K) (rdE C Φ W e1) (rdE C Φ W e2) σ H Q := by
  obtain ⟨ι, o, s, R, h⟩ := h
  unfold evE at h
  refine rd_of R h fun x s1 v H1 ι1 o1 _ f1 R1 E1 F1 h1 _ => ?_
  refine rd_of R1 h1 fun y s2 u H2 ι2 o2 _ f2 R2 E2 F2 h2 _ => ?_
  have E1' := E1.mono f2
  obtain ⟨d, e, h3⟩ := post_liftV h2
  unfold ixD at e
  split at e
  · rename_i ds i q q2
    obtain ⟨p, vs, ev, r, t⟩ := lsq_sq R2.sto E1' q
    obtain ⟨w, hw, hf⟩ := t.atI e
    exact .inl ⟨p, vs, i, w, ev, res_int E2 q2, by rw [K.kk]; exact r, hw, Post.val R2 h3 hf⟩
  · rename_i ds i q q2 q3
    obtain ⟨p, vs, ev, r, t⟩ := res_tup E1' q2
    obtain ⟨w, hw, hf⟩ := t.atI e
    exact .inr (.inl ⟨p, vs, i, w, ev, res_int E2 q3, by rw [K.kk]; exact r, hw, Post.val R2 h3 hf⟩)
  · rename_i z i q q2 q3
    split at e
    · rename_i hl
      obtain ⟨c, hc, ed⟩ := Option.map_eq_some_iff.mp e
      subst ed
      exact .inr (.inr ⟨z, i, c, res_str E1' q2, res_int E2 q3, Nat.le_trans hl lim_le, hc, Post.val R2 h3 (.str _)⟩)
    · cases e
  · cases e
theorem sE_ix (K : Okx X C W k) (ha : PE X a (rdE C Φ W e1)) (hb : PE X b (rdE C Φ W e2)) (hs : PlainIx b := by exact fun _ _ => rfl) : PE X (.Subscript a b pos) (rdE C Φ W (.ix e1 e2)) :=
  PE.imp (pe_ix ix_seq ha hb hs) fun _ _ _ => rd_ix K
theorem post_pOk {x : Sl} {t : Out Sl} (h : Post C W σ ι o H (pOk x t) Q) : ∃ q, part x.2 = some q ∧ Post C W σ ι o H t Q := by
  unfold pOk at h
  cases e : part x.2 with
  | none => rw [e] at h; exact h.elim
  | some q => rw [e] at h; exact ⟨q, rfl, h⟩
/-! ### a[lo:hi], a[::-1] -/
def partV : V → Option (Option Int)
  | .non => some none
  | .int i => some (some i)
  | _ => none
def rdO (C : Ctx) (Φ : Nat → List Sl → List Cell → COut) (W : WX) (e : Ex) : TO := fun σ H Q => rdE C Φ W e σ H fun x H1 => ∃ q, partV x = some q ∧ Q q H1
theorem sO_none : PO X none (rdO C Φ W (.con .non)) := by
  refine ⟨fun pins s σ H Q I h => ?_⟩
  obtain ⟨ι, o, st, R, h⟩ := h
  unfold evE at h
  obtain ⟨q, e, hq⟩ := Post.val R h .non
  cases e
  exact po_none.run pins s σ H Q I hq
theorem sO_some (ha : PE X a (rdE C Φ W e)) : PO X (some a) (rdO C Φ W e) := by
  refine ⟨fun pins s σ H Q I h => ?_⟩
  rw [evalPart_some]
  refine thn (ha.run pins s σ H _ I h) fun u s1 ⟨x, H1, I1, r1, q, e, hq⟩ => ?_
  cases x <;> cases e
  · cases r1
    exact ⟨none, H1, I1, .none, hq⟩
  · rename_i i
    obtain ⟨t, rfl⟩ := r1
    exact ⟨some i, H1, I1, .int i t, hq⟩
theorem part_is {sl : Sl} {v : V} {q : Option Int} (E : ResOk C ι o H sl v) (h : part sl.2 = some q) : partV v = some q := by
  unfold part at h
  split at h
  · rename_i e
    rw [res_non E e]
    exact h
  · rename_i i e
    rw [res_int E e]
    exact h
  · cases h
def rSl (C : Ctx) (W : WX) : V → Option Int → Option Int → Hp → VK → Prop := fun x l u H Q => ∃ σ ι o s a lo hi, Rel C ι o H s σ ∧ ResOk C ι o H a x ∧ part lo = some l ∧ part hi = some u ∧ Post C W σ ι o H (lift s (slV s.sto a lo hi)) Q
theorem sl_all (K : Okx X C W k) : SlR X (rSl C W) := by
  intro pins s σ H x v vl vu lo hi sl Q I rx hs pl pu h
  obtain ⟨σ', ι, o, st, a, dl, dh, R, E, e1, e2, h⟩ := h
  obtain ⟨r, er, h⟩ := post_lift h
  unfold slV at er
  rw [e1, e2] at er
  split at er
  · rename_i l u ds z1 z2 q
    cases z1
    cases z2
    cases er
    obtain ⟨p, vs, ev, r, t⟩ := lsq_sq R.sto E q
    exact sl_list pins s σ H x v vl vu lo hi sl Q I rx hs pl pu ⟨p, vs, ev, by rw [K.kk]; exact r, fun p n => Post.newL R h n (cut_is t lo hi)⟩
  · rename_i l u ds z1 z2 q q2
    cases z1
    cases z2
    split at er
    · cases er
    · rename_i hne
      cases er
      obtain ⟨p, vs, ev, r, t⟩ := res_tup E q2
      refine sl_tup pins s σ H x v vl vu lo hi sl Q I rx hs pl pu ⟨p, vs, ev, by rw [K.kk]; exact r, fun hz => hne ?_, fun p n => Post.newT R h n (cut_is t lo hi)⟩
      unfold cutD
      rw [t.length, hz.1, hz.2, Nat.sub_zero, List.drop_zero, List.length_take, t.length, Nat.min_self]
  · rename_i l u z z1 z2 q q2
    cases z1
    cases z2
    split at er
    · rename_i hl
      cases er
      exact sl_str pins s σ H x v vl vu lo hi sl Q I rx hs pl pu ⟨z, res_str E q2, Nat.le_trans hl lim_le, Post.val R h (.str _)⟩
    · cases er
  · cases er
theorem sE_sl {p2 : Pos} {lo hi : Option Expr} (K : Okx X C W k) (ha : PE X a (rdE C Φ W e1)) (hl : PO X lo (rdO C Φ W e2)) (hh : PO X hi (rdO C Φ W e3)) : PE X (.Subscript a (.Slice lo hi none p2) pos) (rdE C Φ W (.sl e1 e2 e3)) := PE.imp (pe_slice (sl_all K) ha hl hh) fun σ H Q => by
  rintro ⟨ι, o, s, R, h⟩
  unfold evE at h
  refine rd_of R h fun x s1 v H1 ι1 o1 _ f1 R1 E1 F1 h1 _ => ?_
  refine rd_of R1 h1 fun y s2 u H2 ι2 o2 _ f2 R2 E2 F2 h2 _ => ?_
  obtain ⟨ql, e2, h2⟩ := post_pOk h2
  refine ⟨ql, part_is E2 e2, ?_⟩
  refine rd_of R2 h2 fun z s3 w H3 ι3 o3 _ f3 R3 E3 F3 h3 _ => ?_
  obtain ⟨qh, e3, h3⟩ := post_pOk h3
  exact ⟨qh, part_is E3 e3, σ, ι3, o3, s3, x, y.2, z.2, R3, (E1.mono f2).mono f3, e2, e3, h3⟩
theorem sE_rev {n : Nat} {p1 p2 p3 : Pos} (K : Okx X C W k) (ha : PE X a (rdE C Φ W e)) : PE X (.Subscript a (.Slice none none (some (.UnaryOp .USub (.Constant (.int 1) n p1) p2)) p3) pos) (rdE C Φ W (.rev e)) := PE.imp (pe_revL ha) fun σ H Q => by
  rintro ⟨ι, o, s, R, h⟩
  unfold evE at h
  refine rd_of R h fun x s1 v H1 ι1 o1 _ f1 R1 E1 F1 h1 _ => ?_
  cases q : lsqOf s1.sto x with
  | none => rw [q] at h1; exact h1.elim
  | some ds =>
    rw [q] at h1
    obtain ⟨p, vs, ev, r, t⟩ := lsq_sq R1.sto E1 q
    exact ⟨p, vs, ev, by rw [K.kk]; exact r, fun p n => Post.newL R1 h1 n t.reverse⟩

/-! ### built-in calls -/
def PostP (C : Ctx) (W : WX) (σ : L2.St) (ι : List Addr) (o : Own) (H : Hp) (r : OutL) (Q : List V → Hp → Prop) : Prop :=
  match r with
  | .ok as s => ∀ vs H' ι' o', Frm ι o H ι' o' H' → Rel C ι' o' H' s σ → Paired (ResOk C ι' o' H') as vs → Q vs H'
  | .exc x s => ∀ H' ι' o' cls d, Frm ι o H ι' o' H' → Rel C ι' o' H' s σ → ExOk C ι' o' H' x cls d → W cls d σ H'
  | .stuck => False
def rdP (C : Ctx) (Φ : Nat → List Sl → List Cell → COut) (W : WX) (es : Exs) : TA := fun σ H Q => ∃ ι o s, Rel C ι o H s σ ∧ PostP C W σ ι o H (evP Φ es s) Q
theorem sP_nil : PA X [] (rdP C Φ W .nil) := PA.imp pa_nil fun σ H Q => by
  rintro ⟨ι, o, s, R, h⟩
  unfold evP at h
  exact h [] H ι o Frm.refl R .nil
theorem sP_cons {es : List Expr} {xs : Exs} (ha : PE X a (rdE C Φ W e)) (hr : PA X es (rdP C Φ W xs)) (hs : starEach (a :: es) X.env = (false, eval a X.env) :: starEach es X.env := by rfl) : PA X (a :: es) (rdP C Φ W (.cons e xs)) := PA.imp (pa_cons ha hr hs) fun σ H Q => by
  rintro ⟨ι, o, s, R, h⟩
  unfold evP at h
  refine ⟨ι, o, s, R, ?_⟩
  cases q : evE Φ e s with
  | stuck => rw [q] at h; exact h
  | exc x s1 => rw [q] at h; exact h
  | ok sl s1 =>
    rw [q] at h
    intro v H1 ι1 o1 f1 R1 E1 F1
    refine ⟨ι1, o1, s1, R1, ?_⟩
    change PostP C W σ ι o H (match evP Φ xs s1 with | .ok as s2 => .ok (sl :: as) s2 | .exc x s2 => .exc x s2 | .stuck => .stuck) Q at h
    cases q2 : evP Φ xs s1 with
    | stuck => rw [q2] at h; exact h
    | exc x s2 => rw [q2] at h; exact fun H2 ι2 o3 cls d' g R3 E3 => h H2 ι2 o3 cls d' (f1.trans g) R3 E3
    | ok as s2 =>
      rw [q2] at h
      exact fun vs H2 ι2 o3 g R3 hf => h (v :: vs) H2 ι2 o3 (f1.trans g) R3 (.cons (E1.mono g) hf)
/-- a built-in's rule by values -/
def rBi (C : Ctx) (W : WX) (b : Blt) : List V → Hp → VK → Prop := fun vs H Q => ∃ σ ι o s as, Rel C ι o H s σ ∧ Paired (ResOk C ι o H) as vs ∧ Post C W σ ι o H (lift s (biV s.sto b as)) Q
theorem rd_bi {bb : Blt} {es : Exs} (h : rdE C Φ W (.bi bb es) σ H Q) : tCB (rBi C W bb) (rdP C Φ W es) σ H Q := by
  obtain ⟨ι, o, s, R, h⟩ := h
  unfold evE at h
  refine ⟨ι, o, s, R, ?_⟩
  cases q : evP Φ es s with
  | stuck => rw [q] at h; exact h
  | exc x s1 => rw [q] at h; exact h
  | ok as s1 =>
    rw [q] at h
    exact fun vs H1 ι1 o1 g R1 hf => ⟨σ, ι1, o1, s1, as, R1, hf, Post.shift g h⟩
theorem one {as : List Sl} {a : Sl} {vs : List V} (h : Paired (ResOk C ι o H) as vs) (e : as = [a]) : ∃ v, vs = [v] ∧ ResOk C ι o H a v := by
  subst e
  cases h with
  | cons h t =>
    cases t
    exact ⟨_, rfl, h⟩
theorem two {as : List Sl} {a b : Sl} {vs : List V} (h : Paired (ResOk C ι o H) as vs) (e : as = [a, b]) : ∃ v w, vs = [v, w] ∧ ResOk C ι o H a v ∧ ResOk C ι o H b w := by
  subst e
  cases h with
  | cons h t =>
    cases t with
    | cons h2 t =>
      cases t
      exact ⟨_, _, rfl, h, h2⟩
/-- a built-in of one argument -/
theorem bi_one {bb : Blt} {f : List Cell → Sl → Option Sl} (hf : ∀ S as, biV S bb as = on1 as (f S)) {vs : List V} (h : rBi C W bb vs H Q) :
    ∃ σ ι o s a v r, vs = [v] ∧ Rel C ι o H s σ ∧ ResOk C ι o H a v ∧ f s.sto a = some r ∧ Post C W σ ι o H (.ok r s) Q := by
  obtain ⟨σ, ι, o, s, as, R, hp, h⟩ := h
  obtain ⟨r, er, h2⟩ := post_lift h
  rw [hf] at er
  unfold on1 at er
  split at er
  · obtain ⟨v, ev, E⟩ := one hp rfl
    exact ⟨σ, ι, o, s, _, v, r, ev, R, E, er, h2⟩
  · cases er
theorem bi_two {bb : Blt} {f : List Cell → Sl → Sl → Option Sl} (hf : ∀ S as, biV S bb as = on2 as (f S)) {vs : List V} (h : rBi C W bb vs H Q) :
    ∃ σ ι o s a b v w r, vs = [v, w] ∧ Rel C ι o H s σ ∧ ResOk C ι o H a v ∧ ResOk C ι o H b w ∧ f s.sto a b = some r ∧ Post C W σ ι o H (.ok r s) Q := by
  obtain ⟨σ, ι, o, s, as, R, hp, h⟩ := h
  obtain ⟨r, er, h2⟩ := post_lift h
  rw [hf] at er
  unfold on2 at er
  split at er
  · obtain ⟨v, w, ev, E, E2⟩ := two hp rfl
    exact ⟨σ, ι, o, s, _, _, v, w, r, ev, R, E, E2, er, h2⟩
  · cases er
theorem cb_len (K : Okx X C W k) : CallR X (.builtin "len") (rBi C W .len) := by
  intro pins s σ H xs us Q I r h
  obtain ⟨σ', ι, o, st, a, v, rr, ev, R, E, e, h⟩ := bi_one (fun _ _ => rfl) h
  obtain ⟨n, en, e2⟩ := Option.map_eq_some_iff.mp e
  subst e2
  unfold lenD at en
  split at en
  · rename_i ds q
    cases en
    obtain ⟨p, vs, e1, r1, t⟩ := seq_sq R.sto E q
    refine call_len pins s σ H xs us Q I r ⟨v, ds.length, ev, ?_, Post.val R h (.int _)⟩
    rw [e1, K.kk]
    rcases r1 with r1 | r1
    · exact .inl ⟨vs, r1, t.length⟩
    · exact .inr ⟨vs, r1, t.length⟩
  · rename_i z q q2
    split at en
    · rename_i hl
      cases en
      refine call_len pins s σ H xs us Q I r ⟨v, z.length, ev, ?_, Post.val R h (.int _)⟩
      rw [res_str E q2]
      exact ⟨Nat.le_trans hl lim_le, rfl⟩
    · cases en
  · cases en
theorem cb_int : CallR X (.type "int") (rBi C W .int) := by
  intro pins s σ H xs us Q I r h
  obtain ⟨σ', ι, o, st, a, v, rr, ev, R, E, e, h⟩ := bi_one (fun _ _ => rfl) h
  obtain ⟨n, en, e2⟩ := Option.map_eq_some_iff.mp e
  subst e2
  unfold intD at en
  split at en
  · rename_i i q
    cases en
    exact call_int1 pins s σ H xs us Q I r (.inl ⟨n, by rw [ev, res_int E q], Post.val R h (.int _)⟩)
  · rename_i b q
    cases en
    exact call_int1 pins s σ H xs us Q I r (.inr ⟨b, by rw [ev, res_bl E q], Post.val R h (.int _)⟩)
  · cases en
theorem int2D_some {a b : Sl} {p : Int × Int} (h : int2D a b = some p) : a.2 = .int p.1 ∧ b.2 = .int p.2 := by
  unfold int2D at h
  split at h
  · rename_i i j e1 e2
    cases h
    exact ⟨e1, e2⟩
  · cases h
theorem cb_max2 (hc : X.calm = true) : CallR X (.builtin "max") (rBi C W .max2) := by
  intro pins s σ H xs us Q I r h
  obtain ⟨σ', ι, o, st, a, b, v, w, rr, ev, R, E, E2, e, h⟩ := bi_two (fun _ _ => rfl) h
  obtain ⟨p, en, e2⟩ := Option.map_eq_some_iff.mp e
  subst e2
  obtain ⟨h1, h2⟩ := int2D_some en
  exact call_max2 hc pins s σ H xs us Q I r ⟨p.1, p.2, by rw [ev, res_int E h1, res_int E2 h2], Post.val R h (.int _)⟩
theorem cb_min2 (hc : X.calm = true) : CallR X (.builtin "min") (rBi C W .min2) := by
  intro pins s σ H xs us Q I r h
  obtain ⟨σ', ι, o, st, a, b, v, w, rr, ev, R, E, E2, e, h⟩ := bi_two (fun _ _ => rfl) h
  obtain ⟨p, en, e2⟩ := Option.map_eq_some_iff.mp e
  subst e2
  obtain ⟨h1, h2⟩ := int2D_some en
  exact call_min2 hc pins s σ H xs us Q I r ⟨p.1, p.2, by rw [ev, res_int E h1, res_int E2 h2], Post.val R h (.int _)⟩
theorem cb_list (K : Okx X C W k) : CallR X (.type "list") (rBi C W .list) := by
  intro pins s σ H xs us Q I r h
  obtain ⟨σ', ι, o, st, a, v, rr, ev, R, E, e, h⟩ := bi_one (fun _ _ => rfl) h
  obtain ⟨ds, en, e2⟩ := Option.map_eq_some_iff.mp e
  subst e2
  obtain ⟨p, vs, e1, r1, t⟩ := seq_sq R.sto E en
  exact call_list_of pins s σ H xs us Q I r ⟨p, vs, by rw [ev, e1], by rw [K.kk]; exact r1, fun l n => Post.newL R h n t⟩
theorem intsOf_is : ∀ {ds : List D} {ns : List Int} {vs : List V}, intsOf ds = some ns → IsFs C ι o H ds vs → vs = ns.map V.int
  | [], ns, _, e, .nil => by cases e; rfl
  | d :: ds, ns, _, e, .cons h t => by
    cases d with
    | int i =>
      obtain ⟨ms, e1, e2⟩ := Option.map_eq_some_iff.mp (show (intsOf ds).map (i :: ·) = some ns from e)
      subst e2
      cases h
      rw [intsOf_is e1 t]
      rfl
    | _ => cases e
theorem blsOf_is : ∀ {ds : List D} {ns : List Bool} {vs : List V}, blsOf ds = some ns → IsFs C ι o H ds vs → vs = ns.map V.bl
  | [], ns, _, e, .nil => by cases e; rfl
  | d :: ds, ns, _, e, .cons h t => by
    cases d with
    | bl i =>
      obtain ⟨ms, e1, e2⟩ := Option.map_eq_some_iff.mp (show (blsOf ds).map (i :: ·) = some ns from e)
      subst e2
      cases h
      rw [blsOf_is e1 t]
      rfl
    | _ => cases e
theorem cb_sum (K : Okx X C W k) (hc : X.calm = true) : CallR X (.builtin "sum") (rBi C W .sum) := by
  intro pins s σ H xs us Q I r h
  obtain ⟨σ', ι, o, st, a, v, rr, ev, R, E, e, h⟩ := bi_one (fun _ _ => rfl) h
  obtain ⟨ns, en, e2⟩ := Option.map_eq_some_iff.mp e
  subst e2
  obtain ⟨ds, en1, en2⟩ := Option.bind_eq_some_iff.mp en
  obtain ⟨p, vs, e1, r1, t⟩ := lsq_sq R.sto E en1
  have et := intsOf_is en2 t
  subst et
  exact cr_sum hc pins s σ H xs us Q I r ⟨p, ns, by rw [ev, e1], by rw [K.kk]; exact r1, Post.val R h (.int _)⟩
theorem cb_all (K : Okx X C W k) (hc : X.calm = true) : CallR X (.builtin "all") (rBi C W .all) := by
  intro pins s σ H xs us Q I r h
  obtain ⟨σ', ι, o, st, a, v, rr, ev, R, E, e, h⟩ := bi_one (fun _ _ => rfl) h
  obtain ⟨ns, en, e2⟩ := Option.map_eq_some_iff.mp e
  subst e2
  obtain ⟨ds, en1, en2⟩ := Option.bind_eq_some_iff.mp en
  obtain ⟨p, vs, e1, r1, t⟩ := lsq_sq R.sto E en1
  have et := blsOf_is en2 t
  subst et
  exact cr_all hc pins s σ H xs us Q I r ⟨p, ns, by rw [ev, e1], by rw [K.kk]; exact r1, Post.val R h (.bl _)⟩
theorem cb_any (K : Okx X C W k) (hc : X.calm = true) : CallR X (.builtin "any") (rBi C W .any) := by
  intro pins s σ H xs us Q I r h
  obtain ⟨σ', ι, o, st, a, v, rr, ev, R, E, e, h⟩ := bi_one (fun _ _ => rfl) h
  obtain ⟨ns, en, e2⟩ := Option.map_eq_some_iff.mp e
  subst e2
  obtain ⟨ds, en1, en2⟩ := Option.bind_eq_some_iff.mp en
  obtain ⟨p, vs, e1, r1, t⟩ := lsq_sq R.sto E en1
  have et := blsOf_is en2 t
  subst et
  exact cr_any hc pins s σ H xs us Q I r ⟨p, ns, by rw [ev, e1], by rw [K.kk]; exact r1, Post.val R h (.bl _)⟩
/-- isinstance(x, T): the class is written -/
theorem ty_is {sl : Sl} {v : V} {S : List Cell} {t : String} (K : SOk C ι o H S) (E : ResOk C ι o H sl v) (h : tyD S sl = some t) : TyX C.K H v (.type t) := by
  obtain ⟨m, d⟩ := sl
  have rd : ∀ {a : Addr} {vs : List V}, Rd H a (.lst vs) → TyX C.K H (.ref a) (.type "list") := fun r => by
    rcases r with r | ⟨q, r⟩
    · exact .base (.lst r)
    · exact .base (.frz r)
  cases m with
  | val =>
    cases d with
    | non => cases h; cases E; exact .base .non
    | bl b => cases h; cases E; exact .base (.bl b)
    | int b => cases h; cases E; exact .base (.int b)
    | str b => cases h; cases E; exact .base (.str b)
    | tup ds =>
      cases h
      cases E with
      | tup n r t => exact .base (.tup r)
    | lst ds =>
      cases h
      cases E with
      | lst n r t => exact rd (.inl r)
    | scr ds =>
      cases h
      cases E with
      | scr n r t => exact rd r
      | scrK r t =>
        obtain ⟨ob, its, n, e1, e2, _⟩ := r
        exact .kList e1 e2
    | ref n =>
      unfold tyD at h
      dsimp only at h
      split at h
      · rename_i ds q
        cases h
        obtain ⟨p, hp, ho, vs, r, _⟩ := K.cell n _ q
        cases E with
        | ref e =>
          rw [hp] at e
          cases e
          exact rd (.inl r)
      · rename_i ds q
        cases h
        obtain ⟨p, hp, ho, vs, r, _⟩ := K.cell n _ q
        cases E with
        | ref e =>
          rw [hp] at e
          cases e
          exact .base (.dK r)
      · cases h
    | dic ds =>
      cases h
      cases E with
      | dic n r t => exact .base (.dK r)
    | _ => cases h
  | own =>
    cases d with
    | lst ds => cases h; obtain ⟨p, ev, _, vs, r, _⟩ := E; rw [ev]; exact rd (.inl r)
    | dic ds => cases h; obtain ⟨p, ev, _, vs, r, _⟩ := E; rw [ev]; exact .base (.dK r)
    | _ => exact E.elim
  | lent =>
    cases d with
    | lst ds => cases h; obtain ⟨p, ev, _, vs, r, _⟩ := E; rw [ev]; exact rd (.inl r)
    | dic ds => cases h; obtain ⟨p, ev, _, vs, r, _⟩ := E; rw [ev]; exact .base (.dK r)
    | _ => exact E.elim
  | pk =>
    cases d with
    | lst ds => cases h; obtain ⟨p, ev, _, vs, r, _⟩ := E; rw [ev]; exact rd (.inl r)
    | dic ds => cases h; obtain ⟨p, ev, _, vs, r, _⟩ := E; rw [ev]; exact .base (.dK r)
    | _ => exact E.elim
end
end Sr

/-! Sr, part 8: targets, statements, loops. -/
namespace Sr
open PySem PySem.Spec PyProof.Rows L2
noncomputable section

/-! ### the statements' own syntax -/
/-- whose list is changed: a slot's own one, or a cell that an expression tells -/
inductive Rcv where | slot (i : Nat) | at_ (e : Ex)
mutual
inductive Sm where
  | asg (p : Pat) (e : Ex) | par (i j : Nat) (a b : Ex) | aug (i : Nat) (op : BOp) (e : Ex)
  | drop (e : Ex) | ret (e : Ex) | retN | ite (c : Ex) (t f : Sms) | whl (fu : Nat) (c : Ex) (b : Sms) | forS (p : Pat) (it : Itr) (b : Sms) | forC (fu : Nat) (p : Pat) (en : Bool) (e : Ex) (b : Sms)
  | pass | brk | cnt | wall
  | app (r : Rcv) (e : Ex) | seti (r : Rcv) (i e : Ex) | clr (r : Rcv)
  | setk (r : Rcv) (k e : Ex) | setT (a k e : Ex) | ext (r : Rcv) (e : Ex) | sls (a lo hi e : Ex)
  | setf (a : Ex) (f : Str) (cs : List Nat) (e : Ex)
inductive Sms where | nil | cons (a : Sm) (as : Sms)
end
inductive SOut where | nx (s : Stt) | ret (sl : Sl) (S : List Cell) | brk (s : Stt) | cnt (s : Stt) | exc (x : Xn) (s : Stt) | stuck
/-- behind an expression -/
def Out.then (r : Out Sl) (f : Sl → Stt → SOut) : SOut := match r with
  | .ok a s => f a s
  | .exc x s => .exc x s
  | .stuck => .stuck
/-- a value comes to a slot -/
def putS (i : Nat) (sl : Sl) (s : Stt) : SOut :=
  if i < s.env.length then match sl with
    | (.pk, _) => .stuck
    | sl => .nx { s with env := s.env.set i (some sl) }
  else .stuck
def asgP (p : Pat) (sl : Sl) (s : Stt) : SOut := match p with
  | .nm i => putS i sl s
  | .tup ps => match toVal sl with
    | some d => match bindP (.tup ps) d s.env with
      | some env => .nx { s with env := env }
      | none => .stuck
    | none => .stuck
def forL (p : Pat) (b : Stt → SOut) : List D → Stt → SOut
  | [], s => .nx s
  | d :: ds, s => match bindP p d s.env with
    | none => .stuck
    | some env => match b { s with env := env } with
      | .nx s1 => forL p b ds s1
      | .cnt s1 => forL p b ds s1
      | .brk s1 => .nx s1
      | r => r
/-- a list of the store, as it stands at each turn -/
def forC (n : Nat) (en : Bool) (p : Pat) (b : Stt → SOut) : Nat → Nat → Stt → SOut
  | 0, _, _ => .stuck
  | f + 1, k, s => match s.sto[n]? with
    | some (.lst ds) => match (if en then enumD 0 ds else ds)[k]? with
      | none => .nx s
      | some d => match bindP p d s.env with
        | none => .stuck
        | some env => match b { s with env := env } with
          | .nx s1 => forC n en p b f (k + 1) s1
          | .cnt s1 => forC n en p b f (k + 1) s1
          | .brk s1 => .nx s1
          | r => r
    | _ => .stuck
def onS (x : Sl) (t f : SOut) : SOut := match x with
  | (.val, .bl b) => if b = true then t else f
  | _ => .stuck
def whileL (c : Stt → Out Sl) (b : Stt → SOut) : Nat → Stt → SOut
  | 0, _ => .stuck
  | n + 1, s => (c s).then fun x s1 => onS x (match b s1 with
    | .nx s2 => whileL c b n s2
    | .cnt s2 => whileL c b n s2
    | .brk s2 => .nx s2
    | r => r) (.nx s1)
/-- a name's own list, in passing -/
def ownL (s : Stt) (i : Nat) : Option (List D) := match s.env[i]? with
  | some (some (.own, .lst ds)) => some ds
  | _ => none
def ownK (s : Stt) (i : Nat) : Option (List (Key × D)) := match s.env[i]? with
  | some (some (.own, .dic ds)) => some ds
  | _ => none
def celK (s : Stt) (sl : Sl) : Option (Nat × List (Key × D)) := match sl with
  | (.val, .ref n) => match s.sto[n]? with
    | some (.dic ds) => some (n, ds)
    | _ => none
  | _ => none
/-- a changed list comes back to where it was -/
def putO (s : Stt) (i : Nat) (ds : List D) : SOut := .nx { s with env := s.env.set i (some (.own, .lst ds)) }
def putC (s : Stt) (n : Nat) (ds : List D) : SOut := .nx { s with sto := s.sto.set n (.lst ds) }
def orS {α : Type} (r : Option α) (f : α → SOut) : SOut := match r with
  | some a => f a
  | none => .stuck
def intV (x : Sl) : Option Int := match x.2 with
  | .int i => some i
  | _ => none
/-- a list that is no cell of the store -/
def lstD (x : Sl) : Option (List D) := match x.2 with
  | .lst ds => some ds
  | _ => none
def SlsOk (l h : Int) (n m : Nat) : Prop := 0 ≤ l ∧ l ≤ h ∧ h ≤ n ∧ n + m ≤ lim
instance (l h : Int) (n m : Nat) : Decidable (SlsOk l h n m) := Classical.propDecidable _
def augD : BOp → D → D → Option Int
  | .add, .int i, .int j => some (i + j)
  | .sub, .int i, .int j => some (i - j)
  | _, _, _ => none
def putD (f : Str) (v : D) : List (Str × D) → List (Str × D)
  | [] => [(f, v)]
  | (g, x) :: r => if g = f then (g, v) :: r else (g, x) :: putD f v r
/-- the while loops' bound -/
def fuelS : { n : Nat // 100000 ≤ n } := Classical.choice ⟨⟨100000, Nat.le_refl _⟩⟩
def fuel : Nat := fuelS.1
theorem fuel_ge : 100000 ≤ fuel := fuelS.2
section
variable (Φ : Nat → List Sl → List Cell → COut)
mutual
def evS : Sm → Stt → SOut
  | .asg p e, s => (evE Φ e s).then fun x s => asgP p x s
  | .par i j a b, s => (evE Φ a s).then fun x s => (evE Φ b s).then fun y s => match x, y with
    | (.val, d), (.val, d') => if i < s.env.length ∧ j < s.env.length then .nx { s with env := (s.env.set i (some (.val, d))).set j (some (.val, d')) } else .stuck
    | _, _ => .stuck
  | .aug i op e, s => match s.env[i]? with
    | some (some (.val, d)) => (evE Φ e s).then fun y s => match augD op d y.2 with
      | some r => putS i (.val, .int r) s
      | none => .stuck
    | _ => .stuck
  | .drop e, s => (evE Φ e s).then fun _ s => .nx s
  | .ret e, s => match e with
    | .var i => match s.env[i]? with
      | some (some (.own, d)) => .ret (.own, d) s.sto
      | some (some (.val, d)) => .ret (.val, d) s.sto
      | _ => .stuck
    | e => (evE Φ e s).then fun x s => match x with
      | (.val, d) => .ret (.val, d) s.sto
      | (.own, d) => .ret (.own, d) s.sto
      | _ => .stuck
  | .retN, s => .ret (.val, .non) s.sto
  | .ite c t f, s => (evE Φ c s).then fun x s => onS x (evSs t s) (evSs f s)
  | .whl fu c b, s => whileL (evE Φ c) (evSs b) fu s
  | .forS p it b, s => (itE Φ it s).then fun src s => match src with
    | (.val, .lst ds) => forL p (evSs b) ds s
    | _ => .stuck
  | .forC fu p en e b, s => (evE Φ e s).then fun x s => match x with
    | (.val, .ref n) => forC n en p (evSs b) fu 0 s
    | _ => .stuck
  | .pass, s => .nx s
  | .wall, _ => .stuck
  | .brk, s => .brk s
  | .cnt, s => .cnt s
  | .app r e, s => match r with
    | .slot i => orS (ownL s i) fun _ => (valO (evE Φ e s)).then fun y s => orS (ownL s i) fun ds => if ds.length < lim then putO s i (ds ++ [y.2]) else .stuck
    | .at_ a => (evE Φ a s).then fun x s => orS (celL s x) fun _ => (valO (evE Φ e s)).then fun y s => orS (celL s x) fun p => if p.2.length < lim then putC s p.1 (p.2 ++ [y.2]) else .stuck
  | .seti r i e, s => match r with
    | .slot k => (valO (evE Φ e s)).then fun y s => orS (ownL s k) fun _ => (evE Φ i s).then fun j s => orS (ownL s k) fun ds => orS (intV j) fun n => orS (ixN ds.length n) fun m => putO s k (ds.set m y.2)
    | .at_ a => (valO (evE Φ e s)).then fun y s => (evE Φ a s).then fun x s => (evE Φ i s).then fun j s => orS (celL s x) fun p => orS (intV j) fun n => orS (ixN p.2.length n) fun m => putC s p.1 (p.2.set m y.2)
  | .setk r k e, s => match r with
    | .slot i => (valO (evE Φ e s)).then fun y s => orS (ownK s i) fun _ => (evE Φ k s).then fun j s => orS (ownK s i) fun ds => orS (keyD j.2) fun key => if ds.length < lim then .nx { s with env := s.env.set i (some (.own, .dic (putKD ds key y.2))) } else .stuck
    | .at_ a => (valO (evE Φ e s)).then fun y s => (evE Φ a s).then fun x s => (evE Φ k s).then fun j s => orS (celK s x) fun p => orS (keyD j.2) fun key => if p.2.length < lim then .nx { s with sto := s.sto.set p.1 (.dic (putKD p.2 key y.2)) } else .stuck
  | .ext r e, s => match r with
    | .slot i => orS (ownL s i) fun _ => (evE Φ e s).then fun y s => orS (ownL s i) fun ds => orS (lstOf s.sto y) fun es => if ds.length + es.length ≤ lim then putO s i (ds ++ es) else .stuck
    | .at_ a => (evE Φ a s).then fun x s => orS (celL s x) fun _ => (evE Φ e s).then fun y s => orS (celL s x) fun p => orS (lstOf s.sto y) fun es => if p.2.length + es.length ≤ lim then putC s p.1 (p.2 ++ es) else .stuck
  | .sls a lo hi e, s => (evE Φ e s).then fun y s => (evE Φ a s).then fun x s => (evE Φ lo s).then fun j s => (evE Φ hi s).then fun k s => orS (celL s x) fun p => orS (lstD y) fun ys => orS (intV j) fun l => orS (intV k) fun h => if SlsOk l h p.2.length ys.length then putC s p.1 (p.2.take l.toNat ++ ys ++ p.2.drop h.toNat) else .stuck
  | .setT a k e, s => (valO (evE Φ e s)).then fun y s => (evE Φ a s).then fun x s => (evE Φ k s).then fun j s => orS (dtpOf s.sto x) fun p => orS (keysD j.2) fun key => if p.2.length < lim then .nx { s with sto := s.sto.set p.1 (.dtp (putT p.2 key y.2)) } else .stuck
  | .setf a f cs e, s => (valO (evE Φ e s)).then fun y s => (evE Φ a s).then fun x s => match x with
    | (.val, .ref n) => match s.sto[n]? with
      | some (.inst c fs) => if c ∈ cs ∧ fs.length < 1000 then .nx { s with sto := s.sto.set n (.inst c (putD f y.2 fs)) } else .stuck
      | _ => .stuck
    | _ => .stuck
  | .clr r, s => match r with
    | .slot i => orS (ownL s i) fun _ => putO s i []
    | .at_ a => (evE Φ a s).then fun x s => orS (celL s x) fun p => putC s p.1 []
def evSs : Sms → Stt → SOut
  | .nil, s => .nx s
  | .cons a as, s => match evS a s with
    | .nx s1 => evSs as s1
    | r => r
end
end

/-! ### what is wanted behind a statement -/
def Fr1 (o : Own) (H : Hp) (sl : Sl) (v : V) : Prop := sl.1 = .own → ∀ p, v = .ref p → H p = none ∨ ∃ i, o p = some (.slot i)
def PostS (C : Ctx) (W : WX) (ι : List Addr) (o : Own) (H : Hp) (r : SOut) (D : Ends) : Prop :=
  match r with
  | .nx s => ∀ σ' H' ι' o', FrmT ι o H ι' o' H' → Rel C ι' o' H' s σ' → D.nx σ' H'
  | .brk s => ∀ σ' H' ι' o', FrmT ι o H ι' o' H' → Rel C ι' o' H' s σ' → D.bk σ' H'
  | .cnt s => ∀ σ' H' ι' o', FrmT ι o H ι' o' H' → Rel C ι' o' H' s σ' → D.ct σ' H'
  | .ret sl S => ∀ v H' ι' o', FrmT ι o H ι' o' H' → SOk C ι' o' H' S → ResOk C ι' o' H' sl v → Fr1 o H sl v → (sl.1 = .val ∨ sl.1 = .own) → D.rt v H'
  | .exc x s => ∀ σ' H' ι' o' cls d, FrmT ι o H ι' o' H' → Rel C ι' o' H' s σ' → ExOk C ι' o' H' x cls d → W cls d σ' H'
  | .stuck => False
def rdS (C : Ctx) (Φ : Nat → List Sl → List Cell → COut) (W : WX) (a : Sm) : TS := fun D σ H => ∃ ι o s, Rel C ι o H s σ ∧ PostS C W ι o H (evS Φ a s) D
def rdSs (C : Ctx) (Φ : Nat → List Sl → List Cell → COut) (W : WX) (a : Sms) : TS := fun D σ H => ∃ ι o s, Rel C ι o H s σ ∧ PostS C W ι o H (evSs Φ a s) D
theorem PS.imp {X : Cx} {st : Stmt} {t t' : TS} (h : PS X st t) (w : ∀ D σ H, t' D σ H → t D σ H) : PS X st t' := ⟨fun pins s σ H D I q => h.run pins s σ H D I (w _ _ _ q)⟩
theorem PSs.imp {X : Cx} {st : List Stmt} {t t' : TS} (h : PSs X st t) (w : ∀ D σ H, t' D σ H → t D σ H) : PSs X st t' := ⟨fun pins s σ H D I q => h.run pins s σ H D I (w _ _ _ q)⟩

section
variable {X : Cx} {C : Ctx} {Φ : Nat → List Sl → List Cell → COut} {W : WX} {k : Nat} {σ : L2.St} {ι ι' : List Addr} {o o' : Own} {H H' : Hp} {s : Stt} {D : Ends} {e e1 e2 e3 : Ex} {a b c : Expr} {pos : Pos} {r : SOut}
theorem Fr1.back {sl : Sl} {v : V} (f : FrmT ι o H ι' o' H') (h : Fr1 o' H' sl v) : Fr1 o H sl v := fun e p q => by
  cases z : H p with
  | none => exact .inl rfl
  | some x =>
    refine .inr ?_
    rcases h e p q with h | ⟨i, h⟩
    · exact absurd h (f.ex p (some_ne z))
    · cases w : o p with
      | none => have := (f.hp p x z (.inl w)).2; rw [h, w] at this; cases this
      | some u =>
        cases u with
        | slot j => exact ⟨j, rfl⟩
        | cell n => have := f.tg p n (some_ne z) w; rw [h] at this; cases this
        | out => have := (f.hp p x z (.inr (.inl w))).2; rw [h, w] at this; cases this
        | tmp => have := (f.hp p x z (.inr (.inr w))).2; rw [h, w] at this; cases this
theorem PostS.shift (f : FrmT ι o H ι' o' H') (h : PostS C W ι o H r D) : PostS C W ι' o' H' r D := by
  cases r with
  | nx s => exact fun σ2 H2 ι2 o2 g R => h σ2 H2 ι2 o2 (f.trans g) R
  | brk s => exact fun σ2 H2 ι2 o2 g R => h σ2 H2 ι2 o2 (f.trans g) R
  | cnt s => exact fun σ2 H2 ι2 o2 g R => h σ2 H2 ι2 o2 (f.trans g) R
  | ret sl S => exact fun v H2 ι2 o2 g R E F m => h v H2 ι2 o2 (f.trans g) R E (F.back f) m
  | exc x s => exact fun σ2 H2 ι2 o2 cls d g R E => h σ2 H2 ι2 o2 cls d (f.trans g) R E
  | stuck => exact h
/-- an expression, then more -/
theorem PostS.then {r : Out Sl} {f : Sl → Stt → SOut} (h : PostS C W ι o H (r.then f) D) {Q1 : VK}
    (k : ∀ sl s v H' ι' o', r = .ok sl s → Frm ι o H ι' o' H' → Rel C ι' o' H' s σ → ResOk C ι' o' H' sl v → Fr0 H sl v → PostS C W ι' o' H' (f sl s) D → PostS C W ι o H (f sl s) D → Q1 v H') : Post C W σ ι o H r Q1 := by
  cases r with
  | ok sl s => exact fun v H2 ι2 o2 g R E F => k sl s v H2 ι2 o2 rfl g R E F (PostS.shift g.toT h) h
  | exc x s => exact fun H2 ι2 o2 cls d g R E => h σ H2 ι2 o2 cls d g.toT R E
  | stuck => exact h
theorem rs_of {f : Sl → Stt → SOut} (R : Rel C ι o H s σ) (h : PostS C W ι o H ((evE Φ e s).then f) D) {Q1 : VK}
    (k : ∀ sl s1 v H' ι' o', evE Φ e s = .ok sl s1 → Frm ι o H ι' o' H' → Rel C ι' o' H' s1 σ → ResOk C ι' o' H' sl v → Fr0 H sl v → PostS C W ι' o' H' (f sl s1) D → PostS C W ι o H (f sl s1) D → Q1 v H') : rdE C Φ W e σ H Q1 :=
  ⟨ι, o, s, R, h.then k⟩
/-- .. made plain data -/
theorem rsv_of {f : Sl → Stt → SOut} (R : Rel C ι o H s σ) (h : PostS C W ι o H ((valO (evE Φ e s)).then f) D) {Q1 : VK}
    (k : ∀ d s1 v H' ι' o', Frm ι o H ι' o' H' → Rel C ι' o' H' s1 σ → IsF C ι' o' H' d v → PostS C W ι' o' H' (f (.val, d) s1) D → Q1 v H') : rdE C Φ W e σ H Q1 := by
  refine ⟨ι, o, s, R, ?_⟩
  cases q : evE Φ e s with
  | stuck => unfold valO at h; rw [q] at h; exact h
  | exc x s1 => unfold valO at h; rw [q] at h; exact fun H2 ι2 o2 cls d g R E => h σ H2 ι2 o2 cls d g.toT R E
  | ok sl s1 =>
    unfold valO at h
    rw [q, Out.bind] at h
    intro v H1 ι1 o1 f1 R1 E1 F1
    cases t : toVal sl with
    | none => rw [t] at h; exact h.elim
    | some d =>
      rw [t] at h
      obtain ⟨o2, f2, R2, hd, kk⟩ := conv f1 R1 E1 F1 t
      exact k d s1 v H1 ι1 o2 f2 R2 hd (PostS.shift f2.toT h)
theorem PostS.go {s : Stt} (R : Rel C ι o H s σ) (h : PostS C W ι o H (.nx s) D) : D.nx σ H := h σ H ι o FrmT.refl R

/-! ### blocks -/
theorem sS_nil : PSs X [] (rdSs C Φ W .nil) := PSs.imp pss_nil fun D σ H => by
  rintro ⟨ι, o, s, R, h⟩
  unfold evSs at h
  exact PostS.go R h
theorem sS_cons {st : Stmt} {rest : List Stmt} {x : Sm} {xs : Sms} (h1 : PS X st (rdS C Φ W x)) (h2 : PSs X rest (rdSs C Φ W xs)) : PSs X (st :: rest) (rdSs C Φ W (.cons x xs)) := PSs.imp (pss_cons h1 h2) fun D σ H => by
  rintro ⟨ι, o, s, R, h⟩
  unfold evSs at h
  refine ⟨ι, o, s, R, ?_⟩
  cases q : evS Φ x s with
  | nx s1 => rw [q] at h; exact fun σ' H' ι' o' f R' => ⟨ι', o', s1, R', PostS.shift f h⟩
  | brk s1 => rw [q] at h; exact h
  | cnt s1 => rw [q] at h; exact h
  | ret sl S => rw [q] at h; exact h
  | exc y s1 => rw [q] at h; exact h
  | stuck => rw [q] at h; exact h
theorem sS_pass : PS X (.Pass pos) (rdS C Φ W .pass) := PS.imp ps_pass fun D σ H => by
  rintro ⟨ι, o, s, R, h⟩
  unfold evS at h
  exact PostS.go R h
theorem sS_brk : PS X (.Break pos) (rdS C Φ W .brk) := PS.imp ps_break fun D σ H => by
  rintro ⟨ι, o, s, R, h⟩
  unfold evS at h
  exact h σ H ι o FrmT.refl R
theorem sS_cnt : PS X (.Continue pos) (rdS C Φ W .cnt) := PS.imp ps_continue fun D σ H => by
  rintro ⟨ι, o, s, R, h⟩
  unfold evS at h
  exact h σ H ι o FrmT.refl R
theorem sS_drop (ha : PE X a (rdE C Φ W e)) (hs : swapsWith a none pos.line X.env = pure false := by rfl) : PS X (.Expr a pos) (rdS C Φ W (.drop e)) := PS.imp (ps_expr ha hs) fun D σ H => by
  rintro ⟨ι, o, s, R, h⟩
  unfold evS at h
  exact rs_of R h fun x s1 v H1 ι1 o1 _ f1 R1 E1 F1 h1 _ => PostS.go R1 h1
theorem sS_retN : PS X (.Return none pos) (rdS C Φ W .retN) := PS.imp ps_retN fun D σ H => by
  rintro ⟨ι, o, s, R, h⟩
  unfold evS at h
  exact h _ H ι o FrmT.refl R.sto (IsF.non : IsF C ι o H .non .non) (fun z => nomatch z) (.inl rfl)
theorem onS_is {x : Sl} {v : V} {t f : SOut} (E : ResOk C ι o H x v) (h : PostS C W ι o H (onS x t f) D) : ∃ b, v = .bl b ∧ PostS C W ι o H (if b = true then t else f) D := by
  obtain ⟨m, d⟩ := x
  cases m with
  | val =>
    cases d with
    | bl b =>
      cases E
      exact ⟨b, rfl, h⟩
    | _ => exact h.elim
  | _ => exact h.elim
theorem sS_if {ts fs : List Stmt} {xt xf : Sms} (hc : PT X c (rdT C Φ W e)) (ht : PSs X ts (rdSs C Φ W xt)) (hf : PSs X fs (rdSs C Φ W xf)) : PS X (.If c ts fs pos) (rdS C Φ W (.ite e xt xf)) := PS.imp (ps_if hc ht hf) fun D σ H => by
  rintro ⟨ι, o, s, R, h⟩
  unfold evS at h
  refine rs_of R h fun x s1 v H1 ι1 o1 _ f1 R1 E1 F1 h1 _ => ?_
  obtain ⟨b, ev, h2⟩ := onS_is E1 h1
  refine ⟨b, ev, ?_⟩
  cases b with
  | true => exact ⟨ι1, o1, s1, R1, h2⟩
  | false => exact ⟨ι1, o1, s1, R1, h2⟩
/-! ### return -/
theorem slot_res {i : Nat} {d : Sr.D} {v : V} (R : Rel C ι o H s σ) (e : s.env[i]? = some (some (.own, d))) (hv : σ[i]? = some (some v)) (q : SlotOk C ι o H i (.own, d) v) :
    ∃ p, v = .ref p ∧ o p = some (.slot i) ∧ FrmT ι o H ι (tag o p (some .tmp)) H ∧ SOk C ι (tag o p (some .tmp)) H s.sto ∧ ResOk C ι (tag o p (some .tmp)) H (.own, d) v := by
  have key : ∀ p, o p = some (.slot i) → Kept ι o H ι (tag o p (some .tmp)) H ∧ FrmT ι o H ι (tag o p (some .tmp)) H ∧ SOk C ι (tag o p (some .tmp)) H s.sto := fun p ho => by
    have ne : ∀ a, o a ≠ some (.slot i) → a ≠ p := fun a h z => h (by rw [z]; exact ho)
    have kk : Kept ι o H ι (tag o p (some .tmp)) H := ⟨fun _ _ h => h, fun a x h n => ⟨h, by rw [tag_ne (ne a (by rw [n]; exact fun z => nomatch z))]; exact n⟩⟩
    refine ⟨kk, ⟨fun _ _ h => h, fun a x h n => ⟨h, tag_ne (ne a (n.nslot i))⟩, fun a n _ h => by rw [tag_ne (ne a (by rw [h]; exact fun z => nomatch z))]; exact h, fun _ h => h⟩, ⟨fun n c q => ?_, fun a h => ?_, R.sto.len⟩⟩
    · exact (R.sto.cell n c q).mono kk (fun p2 x hx hw => ⟨hx, tag_ne (ne p2 (by rw [hw]; exact fun z => nomatch z))⟩) R.sto.own
    · by_cases z : a = p
      · rw [z]; exact R.sto.own p (by rw [ho]; exact fun z => nomatch z)
      · rw [tag_ne z] at h; exact R.sto.own a h
  cases d with
  | lst ds =>
    obtain ⟨p, ev, ho, l⟩ := q
    obtain ⟨k1, k2, k3⟩ := key p ho
    exact ⟨p, ev, ho, k2, k3, p, ev, tag_same, l.mono k1 fun y z => z⟩
  | dic ds =>
    obtain ⟨p, ev, ho, l⟩ := q
    obtain ⟨k1, k2, k3⟩ := key p ho
    exact ⟨p, ev, ho, k2, k3, p, ev, tag_same, l.mono k1 fun y z => z⟩
  | _ => exact q.elim
theorem sS_ret (ha : PE X a (rdE C Φ W e)) (hv : ∀ i, e = .var i → PE X a (tVar i)) : PS X (.Return (some a) pos) (rdS C Φ W (.ret e)) := by
  by_cases z : ∃ i, e = .var i
  · obtain ⟨i, z⟩ := z
    refine PS.imp (ps_ret (hv i z)) fun D σ H => ?_
    subst z
    rintro ⟨ι, o, s, R, h⟩
    unfold evS at h
    cases q : s.env[i]? with
    | none => simp only [q] at h; exact h.elim
    | some w =>
      cases w with
      | none => simp only [q] at h; exact h.elim
      | some sl =>
        obtain ⟨m, d⟩ := sl
        obtain ⟨v, e1, hs⟩ := R.env i _ q
        refine ⟨v, e1, ?_⟩
        cases m with
        | val =>
          simp only [q] at h
          exact h v H ι o FrmT.refl R.sto hs (fun z => nomatch z) (.inl rfl)
        | own =>
          simp only [q] at h
          obtain ⟨p, ev, ho, f, K, E⟩ := slot_res R q e1 hs
          exact h v H ι _ f K E (fun _ p2 e2 => by
            rw [ev] at e2
            cases e2
            exact .inr ⟨i, ho⟩) (.inr rfl)
        | lent => simp only [q] at h; exact h.elim
        | pk => simp only [q] at h; exact h.elim
  · refine PS.imp (ps_ret ha) fun D σ H => ?_
    rintro ⟨ι, o, s, R, h⟩
    have h' : PostS C W ι o H ((evE Φ e s).then fun x s => match x with | (.val, d) => .ret (.val, d) s.sto | (.own, d) => .ret (.own, d) s.sto | _ => .stuck) D := by
      unfold evS at h
      cases e <;> first | exact h | exact absurd ⟨_, rfl⟩ z
    refine ⟨ι, o, s, R, ?_⟩
    cases q : evE Φ e s with
    | stuck => rw [q] at h'; exact h'
    | exc x s1 => rw [q] at h'; exact fun H2 ι2 o2 cls d g R E => h' σ H2 ι2 o2 cls d g.toT R E
    | ok sl s1 =>
      rw [q] at h'
      intro v H1 ι1 o1 f1 R1 E1 F1
      obtain ⟨m, d⟩ := sl
      cases m with
      | val => exact h' v H1 ι1 o1 f1.toT R1.sto E1 (fun z => nomatch z) (.inl rfl)
      | own => exact h' v H1 ι1 o1 f1.toT R1.sto E1 (fun e p q => .inl (F1 e p q)) (.inr rfl)
      | lent => exact h'.elim
      | pk => exact h'.elim
end
end
end Sr

/-! Sr, part 9: stores. -/
namespace Sr
open PySem PySem.Spec PyProof.Rows L2
noncomputable section

section
variable {X : Cx} {C : Ctx} {Φ : Nat → List Sl → List Cell → COut} {W : WX} {k : Nat} {σ : L2.St} {ι ι' : List Addr} {o o' : Own} {H H' : Hp} {s : Stt} {D : Ends} {e e1 e2 e3 : Ex} {a b c : Expr} {pos : Pos} {r : SOut}
theorem Rel.put {i : Nat} {sl : Sl} {v : V} (R : Rel C ι o H s σ) (q : SlotOk C ι o H i sl v) : Rel C ι o H { s with env := s.env.set i (some sl) } (σ.set i (some v)) := by
  refine ⟨fun j sl' e => ?_, by rw [List.length_set, List.length_set]; exact R.len, R.sto⟩
  by_cases hj : j = i
  · subst hj
    have hi : j < s.env.length := by
      have := (List.getElem?_eq_some_iff.mp e).1
      rwa [List.length_set] at this
    rw [List.getElem?_set_self hi] at e
    cases e
    exact ⟨v, by rw [List.getElem?_set_self (by rw [← R.len]; exact hi)], q⟩
  · rw [List.getElem?_set_ne (Ne.symm hj)] at e
    obtain ⟨u, e1, q'⟩ := R.env j sl' e
    exact ⟨u, by rw [List.getElem?_set_ne (Ne.symm hj)]; exact e1, q'⟩
/-- a passing result is given an owner -/
theorem Rel.retag {p : Addr} {w : Ow} (R : Rel C ι o H s σ) (ho : o p = some .tmp) : Kept ι o H ι (tag o p (some w)) H ∧ Rel C ι (tag o p (some w)) H s σ := by
  have ne : ∀ a, o a ≠ some .tmp → a ≠ p := fun a h z => h (by rw [z]; exact ho)
  have kk : Kept ι o H ι (tag o p (some w)) H := ⟨fun _ _ h => h, fun a x h n => ⟨h, by rw [tag_ne (ne a (by rw [n]; exact fun z => nomatch z))]; exact n⟩⟩
  refine ⟨kk, ⟨fun j sl e => ?_, R.len, ⟨fun n c q => ?_, fun a h => ?_, R.sto.len⟩⟩⟩
  · obtain ⟨u, e1, q⟩ := R.env j sl e
    refine ⟨u, e1, q.mono kk fun p2 x hx hw => ⟨hx, tag_ne (ne p2 ?_)⟩⟩
    rcases hw with hw | hw | hw <;> rw [hw] <;> exact fun z => nomatch z
  · exact (R.sto.cell n c q).mono kk (fun p2 x hx hw => ⟨hx, tag_ne (ne p2 (by rw [hw]; exact fun z => nomatch z))⟩) R.sto.own
  · by_cases z : a = p
    · rw [z]; exact R.sto.own p (by rw [ho]; exact fun z => nomatch z)
    · rw [tag_ne z] at h; exact R.sto.own a h
theorem FrmT.retag {p : Addr} {w : Ow} (f : Frm ι o H ι' o' H') (n : H p = none) : FrmT ι o H ι' (tag o' p (some w)) H' := by
  have ne : ∀ a x, H a = some x → a ≠ p := fun a x h z => by rw [z, n] at h; cases h
  refine ⟨f.toT.io, fun a x h m => ⟨(f.toT.hp a x h m).1, by rw [tag_ne (ne a x h)]; exact (f.toT.hp a x h m).2⟩, fun a m h e => ?_, f.toT.ex⟩
  cases q : H a with
  | none => exact absurd q h
  | some x => rw [tag_ne (ne a x q)]; exact f.toT.tg a m h e
theorem put_ok {i : Nat} {sl : Sl} {v : V} (f1 : Frm ι o H ι' o' H') (R1 : Rel C ι' o' H' s σ) (E1 : ResOk C ι' o' H' sl v) (F1 : Fr0 H sl v) (h : PostS C W ι o H (putS i sl s) D) : D.nx (σ.set i (some v)) H' := by
  unfold putS at h
  by_cases hi : i < s.env.length
  · rw [if_pos hi] at h
    obtain ⟨m, d⟩ := sl
    cases m with
    | val => exact h _ _ ι' o' f1.toT (R1.put E1)
    | lent =>
      refine h _ _ ι' o' f1.toT (R1.put ?_)
      cases d <;> first | exact E1 | exact E1.elim
    | pk => exact h.elim
    | own =>
      have go : ∀ p, v = .ref p → o' p = some .tmp → (Kept ι' o' H' ι' (tag o' p (some (.slot i))) H' → SlotOk C ι' (tag o' p (some (.slot i))) H' i (.own, d) v) → D.nx (σ.set i (some v)) H' := fun p ev ho q => by
        obtain ⟨kk, R2⟩ := R1.retag (w := .slot i) ho
        exact h _ _ ι' _ (FrmT.retag f1 (F1 rfl p ev)) (R2.put (q kk))
      cases d with
      | lst ds =>
        obtain ⟨p, ev, ho, l⟩ := E1
        exact go p ev ho fun kk => ⟨p, ev, tag_same, l.mono kk fun y z => z⟩
      | dic ds =>
        obtain ⟨p, ev, ho, l⟩ := E1
        exact go p ev ho fun kk => ⟨p, ev, tag_same, l.mono kk fun y z => z⟩
      | _ => exact E1.elim
  · rw [if_neg hi] at h
    exact h.elim
/-! ### targets -/
mutual
def patV : Pat → List Nat
  | .nm i => [i]
  | .tup ps => patVs ps
def patVs : List Pat → List Nat
  | [] => []
  | p :: ps => patV p ++ patVs ps
end
/-- the same but at these slots -/
def Off (l : List Nat) (σ σ' : L2.St) : Prop := σ'.length = σ.length ∧ ∀ j, j ∉ l → σ'[j]? = σ[j]?
theorem Off.refl {l : List Nat} {σ : L2.St} : Off l σ σ := ⟨rfl, fun _ _ => rfl⟩
theorem Off.app {l m : List Nat} {σ σ' σ₂ : L2.St} (h : Off l σ σ') (g : Off m σ' σ₂) : Off (l ++ m) σ σ₂ :=
  ⟨g.1.trans h.1, fun j hj => (g.2 j fun z => hj (List.mem_append_right _ z)).trans (h.2 j fun z => hj (List.mem_append_left _ z))⟩
theorem Off.set {i : Nat} {x : Option V} {σ : L2.St} : Off [i] σ (σ.set i x) := ⟨List.length_set, fun j hj => List.getElem?_set_ne fun z => hj (by rw [z]; exact List.mem_singleton.mpr rfl)⟩
def rdG (C : Ctx) (p : Pat) : TG := fun v σ H Q => ∃ ι o s d env, Rel C ι o H s σ ∧ IsF C ι o H d v ∧ bindP p d s.env = some env ∧ ∀ σ', Rel C ι o H { s with env := env } σ' → Off (patV p) σ σ' → Q σ' H
def rdGs (C : Ctx) (ps : List Pat) : TGs := fun vs σ H Q => ∃ ι o s ds env, Rel C ι o H s σ ∧ IsFs C ι o H ds vs ∧ bindPs ps ds s.env = some env ∧ ∀ σ', Rel C ι o H { s with env := env } σ' → Off (patVs ps) σ σ' → Q σ' H
theorem PG.imp {t : Expr} {g g' : TG} (h : PG X t g) (w : ∀ v σ H Q, g' v σ H Q → g v σ H Q) : PG X t g' := ⟨fun pins s σ H v u Q I r q => h.run pins s σ H v u Q I r (w _ _ _ _ q)⟩
theorem PGs.imp {t : List Expr} {g g' : TGs} (h : PGs X t g) (w : ∀ v σ H Q, g' v σ H Q → g v σ H Q) : PGs X t g' := ⟨fun pins s σ H v u Q I r q => h.run pins s σ H v u Q I r (w _ _ _ _ q)⟩
theorem PG.or {t : Expr} {g g' : TG} (h : PG X t g) (h' : PG X t g') : PG X t (fun v σ H Q => g v σ H Q ∨ g' v σ H Q) := ⟨fun pins s σ H v u Q I r q => by
  rcases q with q | q
  · exact h.run pins s σ H v u Q I r q
  · exact h'.run pins s σ H v u Q I r q⟩
theorem sG_name {t : Expr} {i : Nat} (h : PG X t (gName i)) : PG X t (rdG C (.nm i)) := PG.imp h fun v σ H Q => by
  rintro ⟨ι, o, s, d, env, R, hd, hb, q⟩
  unfold bindP at hb
  split at hb
  · cases hb
    exact q _ (R.put (sl := (.val, d)) hd) Off.set
  · cases hb
theorem sGs_nil : PGs X [] (rdGs C []) := PGs.imp pgs_nil fun vs σ H Q => by
  rintro ⟨ι, o, s, ds, env, R, hd, hb, q⟩
  unfold bindPs at hb
  cases ds with
  | nil =>
    cases hd
    cases hb
    exact ⟨rfl, q _ R Off.refl⟩
  | cons _ _ => cases hb
theorem sGs_cons {t : Expr} {ts : List Expr} {p : Pat} {ps : List Pat} (h : PG X t (rdG C p)) (hs : PGs X ts (rdGs C ps)) (he : (assignEach (t :: ts) X.env).map (·.2) = assign t X.env :: (assignEach ts X.env).map (·.2) := by rfl) : PGs X (t :: ts) (rdGs C (p :: ps)) := PGs.imp (pgs_cons h hs he) fun vs σ H Q => by
  rintro ⟨ι, o, s, ds, env, R, hd, hb, q⟩
  unfold bindPs at hb
  cases ds with
  | nil => cases hb
  | cons d ds =>
    cases hd with
    | cons h1 h2 =>
      dsimp only at hb
      cases e : bindP p d s.env with
      | none => rw [e] at hb; cases hb
      | some env1 =>
        rw [e] at hb
        exact ⟨_, _, rfl, ι, o, s, d, env1, R, h1, e, fun σ' R' O1 => ⟨ι, o, _, ds, env, R', h2, hb, fun σ2 R2 O2 => q σ2 R2 (O1.app O2)⟩⟩
theorem bindPs_len : ∀ {ps : List Pat} {ds : List Sr.D} {env env' : List (Option Sl)}, bindPs ps ds env = some env' → ps.length = ds.length
  | [], [], _, _, _ => rfl
  | [], _ :: _, _, _, h => by unfold bindPs at h; cases h
  | _ :: _, [], _, _, h => by unfold bindPs at h; cases h
  | p :: ps, d :: ds, env, _, h => by
    unfold bindPs at h
    cases e : bindP p d env with
    | none => rw [e] at h; cases h
    | some env1 =>
      rw [e] at h
      exact congrArg (· + 1) (bindPs_len h)
theorem sG_tup {ts : List Expr} {ps : List Pat} {n : Nat} (hk : X.K = C.K) (hc : X.calm = true) (h : PGs X ts (rdGs C ps)) (hn : (assignEach ts X.env).length = ps.length := by rfl) (hst : (assignEach ts X.env).findIdx? (·.1) = none := by rfl) : PG X (.Tuple ts n pos) (rdG C (.tup ps)) :=
  PG.imp (PG.or (pg_tup hc h hn hst) (pg_unl hc h hn hst)) fun v σ H Q => by
    rintro ⟨ι, o, s, d, env, R, hd, hb, q⟩
    unfold bindP at hb
    cases d with
    | tup ds =>
      obtain ⟨p, vs, ev, r, t⟩ := hd.tup_sq
      exact .inl ⟨p, vs, ev, by rw [hk]; exact r, by rw [← t.length, bindPs_len hb], ι, o, s, ds, env, R, t, hb, q⟩
    | lst ds =>
      obtain ⟨p, vs, ev, r, t⟩ := hd.lst_sq
      exact .inr ⟨p, vs, ev, by rw [hk]; exact r, by rw [← t.length, bindPs_len hb], ι, o, s, ds, env, R, t, hb, q⟩
    | _ => cases hb
/-! ### x = e; a, b = e -/
theorem sS_set {i : Nat} {x : Str} {pos' : Pos} (hN : X.N.Nodup) (hi : X.N[i]? = some x) (hx : Loc X.env.scope x) (ha : PE X a (rdE C Φ W e)) (hs : swapsWith a (some (.Name x pos')) pos.line X.env = pure false := by rfl) (hf : X.fn x = true ∨ X.env.scope.names.lookup x = some .local := by first | exact .inl rfl | exact .inr rfl | assumption) :
    PS X (.Assign [.Name x pos'] a pos) (rdS C Φ W (.asg (.nm i) e)) := PS.imp (ps_set hN hi hx ha hs hf) fun D σ H => by
  rintro ⟨ι, o, s, R, h⟩
  unfold evS at h
  exact rs_of R h fun x s1 v H1 ι1 o1 _ f1 R1 E1 F1 _ h0 => put_ok f1 R1 E1 F1 h0
theorem sS_asgT {t : Expr} {ps : List Pat} (ha : PE X a (rdE C Φ W e)) (hg : PG X t (rdG C (.tup ps))) (hs : swapsWithSole [t] a pos.line X.env = pure false := by rfl) (hw : swappedStores [t] a X.env = pure none := by rfl) (h1 : (assignEach [t] X.env).map (·.2) = [assign t X.env] := by rfl) :
    PS X (.Assign [t] a pos) (rdS C Φ W (.asg (.tup ps) e)) := PS.imp (ps_asg ha hg hs hw h1) fun D σ H => by
  rintro ⟨ι, o, s, R, h⟩
  unfold evS at h
  refine rs_of R h fun x s1 v H1 ι1 o1 _ f1 R1 E1 F1 _ h0 => ?_
  unfold asgP at h0
  dsimp only at h0
  cases q : toVal x with
  | none => rw [q] at h0; exact h0.elim
  | some d =>
    rw [q] at h0
    dsimp only at h0
    cases q2 : bindP (.tup ps) d s1.env with
    | none => rw [q2] at h0; exact h0.elim
    | some env =>
      rw [q2] at h0
      obtain ⟨o2, f2, R2, hd, kk⟩ := conv f1 R1 E1 F1 q
      exact ⟨ι1, o2, s1, d, env, R2, hd, q2, fun σ' R' _ => h0 σ' H1 ι1 o2 f2.toT R'⟩
theorem sS_par {i j : Nat} {x y : Str} {px py pt pt2 : Pos} {kt k2 : Nat} (hc : X.calm = true) (hN : X.N.Nodup) (hi : X.N[i]? = some x) (hj : X.N[j]? = some y) (hij : i ≠ j)
    (hx : X.env.scope.names.lookup x = some .local) (hy : X.env.scope.names.lookup y = some .local) (ha : PE X a (rdE C Φ W e1)) (hb : PE X b (rdE C Φ W e2)) (h1 : starEach [a, b] X.env = (false, eval a X.env) :: starEach [b] X.env := by rfl) (h2 : starEach [b] X.env = (false, eval b X.env) :: starEach [] X.env := by rfl)
    (hw : swappedStores [.Tuple [.Name x px, .Name y py] kt pt] (.Tuple [a, b] k2 pt2) X.env = pure (some [x, y]) := by rfl)
    (hs : swapsWithSole [.Tuple [.Name x px, .Name y py] kt pt] (.Tuple [a, b] k2 pt2) pos.line X.env = pure false := by rfl) :
    PS X (.Assign [.Tuple [.Name x px, .Name y py] kt pt] (.Tuple [a, b] k2 pt2) pos) (rdS C Φ W (.par i j e1 e2)) := PS.imp (ps_par hc hN hi hj hij hx hy (pa_cons ha (pa_cons hb pa_nil h2) h1) hw hs) fun D σ H => by
  rintro ⟨ι, o, s, R, h⟩
  unfold evS at h
  refine rs_of R h fun x s1 v H1 ι1 o1 _ f1 R1 E1 F1 h1 _ => ?_
  refine rs_of R1 h1 fun y s2 u H2 ι2 o2 _ f2 R2 E2 F2 h2 _ => ?_
  have E1' := E1.mono f2
  obtain ⟨m, d⟩ := x
  obtain ⟨m2, d2⟩ := y
  refine ⟨v, u, rfl, ?_⟩
  cases m with
  | val =>
    cases m2 with
    | val =>
      dsimp only at h2
      split at h2
      · exact h2 _ _ ι2 o2 FrmT.refl ((R2.put (i := i) (sl := (.val, d)) E1').put (i := j) (sl := (.val, d2)) E2)
      · exact h2.elim
    | _ => exact h2.elim
  | _ => exact h2.elim
end
end
end Sr

/-! Sr, part 10: lists that are changed where they stand; loops. -/
namespace Sr
open PySem PySem.Spec PyProof.Rows L2

section
variable {X : Cx} {C : Ctx} {Φ : Nat → List Sl → List Cell → COut} {W : WX} {k : Nat} {σ : L2.St} {ι ι' : List Addr} {o o' : Own} {H H' : Hp} {s : Stt} {D : Ends} {e e1 e2 e3 : Ex} {a b c : Expr} {pos : Pos} {r : SOut}
theorem orS_some {α : Type} {q : Option α} {f : α → SOut} (h : PostS C W ι o H (orS q f) D) : ∃ a, q = some a ∧ PostS C W ι o H (f a) D := by
  cases q with
  | none => exact h.elim
  | some a => exact ⟨a, rfl, h⟩
theorem ownL_some {i : Nat} {ds : List Sr.D} (h : ownL s i = some ds) : s.env[i]? = some (some (.own, .lst ds)) := by
  unfold ownL at h
  split at h
  · rename_i ds' e
    cases h
    exact e
  · cases h
theorem own_at {i : Nat} {ds : List Sr.D} (R : Rel C ι o H s σ) (h : ownL s i = some ds) : ∃ p vs, σ[i]? = some (some (.ref p)) ∧ o p = some (.slot i) ∧ H p = some (.lst vs) ∧ IsFs C ι o H ds vs := by
  obtain ⟨v, e, p, ev, ho, vs, h1, h2⟩ := R.env i _ (ownL_some h)
  exact ⟨p, vs, by rw [e, ev], ho, h1, h2⟩
theorem cel_at {x : Sl} {v : V} {n : Nat} {ds : List Sr.D} (R : Rel C ι o H s σ) (E : ResOk C ι o H x v) (h : celL s x = some (n, ds)) : ∃ p vs, v = .ref p ∧ s.sto[n]? = some (.lst ds) ∧ ι[n]? = some p ∧ o p = some (.cell n) ∧ H p = some (.lst vs) ∧ IsFs C ι o H ds vs := by
  unfold celL at h
  split at h
  · rename_i m
    split at h
    · rename_i ds' e
      cases h
      obtain ⟨p, h1, h2, vs, h3, h4⟩ := R.sto.cell n _ e
      cases E with
      | ref q =>
        rw [h1] at q
        cases q
        exact ⟨p, vs, rfl, e, h1, h2, h3, h4⟩
    · cases h
  · cases h
/-- the object at p is changed by the one who has it -/
theorem chg {p : Addr} {x : HO} {w : Ow} (ho : o p = some w) (hs : (∃ i, w = .slot i) ∨ ∃ n, w = .cell n) : Kept ι o H ι o (upd H p x) ∧ FrmT ι o H ι o (upd H p x) := by
  have ne : ∀ a, Stab (o a) → a ≠ p := fun a h z => by
    rw [z, ho] at h
    rcases hs with ⟨i, rfl⟩ | ⟨n, rfl⟩
    · exact absurd rfl (h.nslot i)
    · exact absurd rfl (h.ncell n)
  refine ⟨⟨fun _ _ h => h, fun a y h n => ⟨by rw [upd_ne (ne a (.inl n))]; exact h, n⟩⟩, ⟨fun _ _ h => h, fun a y h n => ⟨by rw [upd_ne (ne a n)]; exact h, rfl⟩, fun _ _ _ h => h, fun a h => ?_⟩⟩
  by_cases z : a = p
  · rw [z, upd_same]; exact fun z => nomatch z
  · rw [upd_ne z]; exact h
theorem Rel.mutS {i : Nat} {p : Addr} {ds es : List Sr.D} {ws : List V} (R : Rel C ι o H s σ) (h : s.env[i]? = some (some (.own, .lst ds))) (hv : σ[i]? = some (some (.ref p))) (ho : o p = some (.slot i)) (new : IsFs C ι o H es ws) :
    Rel C ι o (upd H p (.lst ws)) { s with env := s.env.set i (some (.own, .lst es)) } σ := by
  have kk := (chg (ι := ι) (H := H) (x := .lst ws) ho (.inl ⟨i, rfl⟩)).1
  have ne : ∀ a, o a ≠ some (.slot i) → a ≠ p := fun a h z => h (by rw [z]; exact ho)
  refine ⟨fun j sl e => ?_, by rw [List.length_set]; exact R.len, ⟨fun n c q => ?_, fun a h => ?_, R.sto.len⟩⟩
  · by_cases hj : j = i
    · subst hj
      have hi : j < s.env.length := (List.getElem?_eq_some_iff.mp h).1
      rw [List.getElem?_set_self hi] at e
      cases e
      exact ⟨_, hv, p, rfl, ho, ws, upd_same, new.mono kk⟩
    · rw [List.getElem?_set_ne (Ne.symm hj)] at e
      obtain ⟨u, e1, q⟩ := R.env j sl e
      refine ⟨u, e1, q.mono kk fun p2 x hx hw => ⟨?_, rfl⟩⟩
      rw [upd_ne (ne p2 ?_)]
      · exact hx
      · rcases hw with hw | hw | hw
        · rw [hw]; exact fun z => hj (Ow.slot.inj (Option.some.inj z))
        · rw [hw]; exact fun z => nomatch z
        · rw [hw]; exact fun z => nomatch z
  · exact (R.sto.cell n c q).mono kk (fun p2 x hx hw => ⟨by rw [upd_ne (ne p2 (by rw [hw]; exact fun z => nomatch z))]; exact hx, rfl⟩) R.sto.own
  · by_cases z : a = p
    · rw [z, upd_same]; exact fun z => nomatch z
    · rw [upd_ne z]; exact R.sto.own a h
theorem Rel.mutC {n : Nat} {p : Addr} {ds es : List Sr.D} {ws : List V} (R : Rel C ι o H s σ) (h : s.sto[n]? = some (.lst ds)) (hp : ι[n]? = some p) (ho : o p = some (.cell n)) (new : IsFs C ι o H es ws) :
    Rel C ι o (upd H p (.lst ws)) { s with sto := s.sto.set n (.lst es) } σ := by
  have kk := (chg (ι := ι) (H := H) (x := .lst ws) ho (.inr ⟨n, rfl⟩)).1
  have ne : ∀ a, o a ≠ some (.cell n) → a ≠ p := fun a h z => h (by rw [z]; exact ho)
  refine ⟨fun j sl e => ?_, R.len, ⟨fun m c q => ?_, fun a h => ?_, by rw [List.length_set]; exact R.sto.len⟩⟩
  · obtain ⟨u, e1, q⟩ := R.env j sl e
    refine ⟨u, e1, q.mono kk fun p2 x hx hw => ⟨?_, rfl⟩⟩
    rw [upd_ne (ne p2 ?_)]
    · exact hx
    · rcases hw with hw | hw | hw <;> rw [hw] <;> exact fun z => nomatch z
  · by_cases hm : m = n
    · subst hm
      have hi : m < s.sto.length := (List.getElem?_eq_some_iff.mp h).1
      rw [List.getElem?_set_self hi] at q
      cases q
      exact ⟨p, hp, ho, ws, upd_same, new.mono kk⟩
    · rw [List.getElem?_set_ne (Ne.symm hm)] at q
      exact (R.sto.cell m c q).mono kk (fun p2 x hx hw => ⟨by rw [upd_ne (ne p2 (by rw [hw]; exact fun z => hm (Ow.cell.inj (Option.some.inj z))))]; exact hx, rfl⟩) R.sto.own
  · by_cases z : a = p
    · rw [z, upd_same]; exact fun z => nomatch z
    · rw [upd_ne z]; exact R.sto.own a h
theorem putO_ok {i : Nat} {ds es : List Sr.D} {p : Addr} {ws : List V} (R : Rel C ι o H s σ) (h : ownL s i = some ds) (hv : σ[i]? = some (some (.ref p))) (ho : o p = some (.slot i)) (new : IsFs C ι o H es ws) (q : PostS C W ι o H (putO s i es) D) : D.nx σ (upd H p (.lst ws)) :=
  q σ _ ι o (chg ho (.inl ⟨i, rfl⟩)).2 (R.mutS (ownL_some h) hv ho new)
theorem putC_ok {n : Nat} {ds es : List Sr.D} {p : Addr} {ws : List V} (R : Rel C ι o H s σ) (h : s.sto[n]? = some (.lst ds)) (hp : ι[n]? = some p) (ho : o p = some (.cell n)) (new : IsFs C ι o H es ws) (q : PostS C W ι o H (putC s n es) D) : D.nx σ (upd H p (.lst ws)) :=
  q σ _ ι o (chg ho (.inr ⟨n, rfl⟩)).2 (R.mutC h hp ho new)
theorem lim_lt {n : Nat} (h : n < lim) : n < sizeLine := Nat.lt_of_lt_of_le h lim_le
/-! ### xs.append(e) -/
theorem ty_list {K : PySem.W.Frag} {p : Addr} {vs : List V} (h : H p = some (.lst vs)) : tyV K "list" (.ref p) H := .inl ⟨rfl, vs, .inl (.inl h)⟩
theorem sS_app {i : Nat} {apos cpos : Pos} (hv : PE X a (tVar i)) (ha : PE X b (rdE C Φ W e)) (hbase : attributeBase a "append" X.env (eval a X.env) = eval a X.env := by rfl)
    (hfew : ((backTo cpos (starEach [b] X.env)).all (fun x => !x.1) && (backToKw cpos (keywordEach [] X.env)).all (fun x => x.1.isSome) && decide ([b].length + ([] : List Keyword).length + (if ([] : List Keyword).isEmpty then 0 else 1) < 30)) = true := by rfl)
    (hline : (apos.endLine == cpos.line) = true := by rfl) (hst : starEach [b] X.env = (false, eval b X.env) :: starEach [] X.env := by rfl) (hplain : (backTo cpos (starEach [] X.env)).any (·.1) = false := by rfl)
    (hs : swapsWith (.Call (.Attribute a "append" apos) [b] [] cpos) none pos.line X.env = pure false := by rfl) :
    PS X (.Expr (.Call (.Attribute a "append" apos) [b] [] cpos) pos) (rdS C Φ W (.app (.slot i) e)) :=
  PS.imp (ps_expr (pe_bm PySem.F.plainAttrs_list PySem.F.slot_list_append PySem.F.type_list_append mt_append hv (pa_cons ha pa_nil hst) hbase hfew hline hst hplain) hs) fun D σ H => by
    rintro ⟨ι, o, s, R, h⟩
    unfold evS at h
    obtain ⟨ds, q, h⟩ := orS_some h
    obtain ⟨p, vs, e1, e2, e3, e4⟩ := own_at R q
    refine ⟨_, e1, ty_list e3, ?_⟩
    refine rsv_of R h fun d s1 v H1 ι1 o1 f1 R1 E1 h1 => ?_
    obtain ⟨ds1, q1, h1⟩ := orS_some h1
    obtain ⟨p1, vs1, c1, c2, c3, c4⟩ := own_at R1 q1
    rw [e1] at c1
    cases c1
    split at h1
    · rename_i hl
      exact ⟨p, vs1, v, rfl, rfl, c3, by rw [← c4.length]; exact lim_lt hl, putO_ok R1 q1 e1 c2 (c4.append (.cons E1 .nil)) h1⟩
    · exact h1.elim
theorem sS_appC {apos cpos : Pos} (hv : PE X a (rdE C Φ W e1)) (ha : PE X b (rdE C Φ W e)) (hbase : attributeBase a "append" X.env (eval a X.env) = eval a X.env := by rfl)
    (hfew : ((backTo cpos (starEach [b] X.env)).all (fun x => !x.1) && (backToKw cpos (keywordEach [] X.env)).all (fun x => x.1.isSome) && decide ([b].length + ([] : List Keyword).length + (if ([] : List Keyword).isEmpty then 0 else 1) < 30)) = true := by rfl)
    (hline : (apos.endLine == cpos.line) = true := by rfl) (hst : starEach [b] X.env = (false, eval b X.env) :: starEach [] X.env := by rfl) (hplain : (backTo cpos (starEach [] X.env)).any (·.1) = false := by rfl)
    (hs : swapsWith (.Call (.Attribute a "append" apos) [b] [] cpos) none pos.line X.env = pure false := by rfl) :
    PS X (.Expr (.Call (.Attribute a "append" apos) [b] [] cpos) pos) (rdS C Φ W (.app (.at_ e1) e)) :=
  PS.imp (ps_expr (pe_bm PySem.F.plainAttrs_list PySem.F.slot_list_append PySem.F.type_list_append mt_append hv (pa_cons ha pa_nil hst) hbase hfew hline hst hplain) hs) fun D σ H => by
    rintro ⟨ι, o, s, R, h⟩
    unfold evS at h
    refine rs_of R h fun x s1 v H1 ι1 o1 _ f1 R1 E1 F1 h1 _ => ?_
    obtain ⟨⟨n, ds⟩, q, h1⟩ := orS_some h1
    obtain ⟨p, vs, e1, e2, e3, e4, e5, e6⟩ := cel_at R1 E1 q
    refine ⟨by rw [e1]; exact ty_list e5, ?_⟩
    refine rsv_of R1 h1 fun d s2 u H2 ι2 o2 f2 R2 E2 h2 => ?_
    obtain ⟨⟨m, ds1⟩, q1, h2⟩ := orS_some h2
    obtain ⟨p1, vs1, c1, c2, c3, c4, c5, c6⟩ := cel_at R2 (E1.mono f2) q1
    rw [e1] at c1
    cases c1
    dsimp only at h2
    split at h2
    · rename_i hl
      exact ⟨p, vs1, u, e1, rfl, c5, by rw [← c6.length]; exact lim_lt hl, putC_ok R2 c2 c3 c4 (c6.append (.cons E2 .nil)) h2⟩
    · exact h2.elim
/-! ### xs[i] = e -/
theorem intV_is {x : Sl} {v : V} {n : Int} (E : ResOk C ι o H x v) (h : intV x = some n) : v = .int n := by
  unfold intV at h
  split at h
  · rename_i i e
    cases h
    exact res_int E e
  · cases h
theorem sS_seti {i : Nat} {tp : Pos} (hv : PE X a (tVar i)) (hb : PE X b (rdE C Φ W e1)) (hc : PE X c (rdE C Φ W e))
    (ha : ∀ v, assign (.Subscript a b tp) X.env v = (do
      let ov ← holding [v] (eval a X.env)
      let iv ← holding [v, ov] (eval b X.env)
      standAt tp
      holding [v, ov, iv] (setItem ov iv v)
      release [v, ov, iv] []) := by intro _; rfl)
    (hs : swapsWithSole [.Subscript a b tp] c pos.line X.env = pure false := by rfl) (hw : swappedStores [.Subscript a b tp] c X.env = pure none := by rfl) (h1 : (assignEach [.Subscript a b tp] X.env).map (·.2) = [assign (.Subscript a b tp) X.env] := by rfl) :
    PS X (.Assign [.Subscript a b tp] c pos) (rdS C Φ W (.seti (.slot i) e1 e)) := PS.imp (ps_asg hc (pg_sub hv hb set_list ha) hs hw h1) fun D σ H => by
  rintro ⟨ι, o, s, R, h⟩
  unfold evS at h
  refine rsv_of R h fun d s1 v H1 ι1 o1 f1 R1 E1 h1 => ?_
  obtain ⟨ds0, q0, h1⟩ := orS_some h1
  obtain ⟨p, vs0, e1, _⟩ := own_at R1 q0
  refine ⟨_, e1, ?_⟩
  refine rs_of R1 h1 fun j s2 u H2 ι2 o2 _ f2 R2 E2 F2 h2 _ => ?_
  obtain ⟨ds, q, h2⟩ := orS_some h2
  obtain ⟨n, qn, h2⟩ := orS_some h2
  obtain ⟨m, qm, h2⟩ := orS_some h2
  obtain ⟨p1, vs, c1, c2, c3, c4⟩ := own_at R2 q
  rw [e1] at c1
  cases c1
  exact ⟨p, vs, n, m, rfl, intV_is E2 qn, c3, by rw [← c4.length]; exact qm, putO_ok R2 q e1 c2 (IsFs.set (E1.mono f2.kept) m c4) h2⟩
theorem sS_setiC {tp : Pos} (hv : PE X a (rdE C Φ W e2)) (hb : PE X b (rdE C Φ W e1)) (hc : PE X c (rdE C Φ W e))
    (ha : ∀ v, assign (.Subscript a b tp) X.env v = (do
      let ov ← holding [v] (eval a X.env)
      let iv ← holding [v, ov] (eval b X.env)
      standAt tp
      holding [v, ov, iv] (setItem ov iv v)
      release [v, ov, iv] []) := by intro _; rfl)
    (hs : swapsWithSole [.Subscript a b tp] c pos.line X.env = pure false := by rfl) (hw : swappedStores [.Subscript a b tp] c X.env = pure none := by rfl) (h1 : (assignEach [.Subscript a b tp] X.env).map (·.2) = [assign (.Subscript a b tp) X.env] := by rfl) :
    PS X (.Assign [.Subscript a b tp] c pos) (rdS C Φ W (.seti (.at_ e2) e1 e)) := PS.imp (ps_asg hc (pg_sub hv hb set_list ha) hs hw h1) fun D σ H => by
  rintro ⟨ι, o, s, R, h⟩
  unfold evS at h
  refine rsv_of R h fun d s1 v H1 ι1 o1 f1 R1 E1 h1 => ?_
  refine rs_of R1 h1 fun x s2 w H2 ι2 o2 _ f2 R2 E2 F2 h2 _ => ?_
  refine rs_of R2 h2 fun j s3 u H3 ι3 o3 _ f3 R3 E3 F3 h3 _ => ?_
  obtain ⟨⟨nn, ds⟩, q, h3⟩ := orS_some h3
  obtain ⟨n, qn, h3⟩ := orS_some h3
  obtain ⟨m, qm, h3⟩ := orS_some h3
  obtain ⟨p, vs, c1, c2, c3, c4, c5, c6⟩ := cel_at R3 (E2.mono f3) q
  exact ⟨p, vs, n, m, c1, intV_is E3 qn, c5, by rw [← c6.length]; exact qm, putC_ok R3 c2 c3 c4 (IsFs.set ((E1.mono f2.kept).mono f3.kept) m c6) h3⟩
/-! ### xs.clear() -/
theorem sS_clrC {apos cpos : Pos} (hv : PE X a (rdE C Φ W e1)) (hbase : attributeBase a "clear" X.env (eval a X.env) = eval a X.env := by rfl) (hline : (apos.endLine == cpos.line) = true := by rfl)
    (hs : swapsWith (.Call (.Attribute a "clear" apos) [] [] cpos) none pos.line X.env = pure false := by rfl) :
    PS X (.Expr (.Call (.Attribute a "clear" apos) [] [] cpos) pos) (rdS C Φ W (.clr (.at_ e1))) :=
  PS.imp (ps_expr (pe_bm0 PySem.F.plainAttrs_list PySem.F.slot_list_clear PySem.F.type_list_clear mt_clear hv hbase hline) hs) fun D σ H => by
    rintro ⟨ι, o, s, R, h⟩
    unfold evS at h
    refine rs_of R h fun x s1 v H1 ι1 o1 _ f1 R1 E1 F1 h1 _ => ?_
    obtain ⟨⟨n, ds⟩, q, h1⟩ := orS_some h1
    obtain ⟨p, vs, c1, c2, c3, c4, c5, c6⟩ := cel_at R1 E1 q
    exact ⟨by rw [c1]; exact ty_list c5, p, vs, c1, rfl, c5, putC_ok R1 c2 c3 c4 .nil h1⟩
theorem sS_clr {i : Nat} {apos cpos : Pos} (hv : PE X a (tVar i)) (hbase : attributeBase a "clear" X.env (eval a X.env) = eval a X.env := by rfl) (hline : (apos.endLine == cpos.line) = true := by rfl)
    (hs : swapsWith (.Call (.Attribute a "clear" apos) [] [] cpos) none pos.line X.env = pure false := by rfl) :
    PS X (.Expr (.Call (.Attribute a "clear" apos) [] [] cpos) pos) (rdS C Φ W (.clr (.slot i))) :=
  PS.imp (ps_expr (pe_bm0 PySem.F.plainAttrs_list PySem.F.slot_list_clear PySem.F.type_list_clear mt_clear hv hbase hline) hs) fun D σ H => by
    rintro ⟨ι, o, s, R, h⟩
    unfold evS at h
    obtain ⟨ds, q, h⟩ := orS_some h
    obtain ⟨p, vs, e1, e2, e3, e4⟩ := own_at R q
    exact ⟨_, e1, ty_list e3, p, vs, rfl, rfl, e3, putO_ok R q e1 e2 .nil h⟩
/-! ### while -/
theorem sS_while {fu : Nat} {body : List Stmt} {xb : Sms} (hp : PassesOwn (model X.prog X.w) X.A X.env X.xe) (hc : PT X c (rdT C Φ W e)) (hb : PSs X body (rdSs C Φ W xb)) : PS X (.While c body [] pos) (rdS C Φ W (.whl fu e xb)) := PS.imp (ps_while hp hc hb) fun D σ H => by
  rintro ⟨ι, o, s, R, h⟩
  unfold evS at h
  refine ⟨fun m σ H => ∃ ι o s, Rel C ι o H s σ ∧ PostS C W ι o H (whileL (evE Φ e) (evSs Φ xb) m s) D, ⟨fu, ι, o, s, R, h⟩, ?_⟩
  rintro m σ H ⟨ι, o, s, R, h⟩
  cases m with
  | zero => exact h.elim
  | succ m =>
    unfold whileL at h
    refine rs_of R h fun x s1 v H1 ι1 o1 _ f1 R1 E1 F1 h1 _ => ?_
    obtain ⟨b, ev, h2⟩ := onS_is E1 h1
    refine ⟨b, ev, ?_⟩
    cases b with
    | false => exact PostS.go R1 h2
    | true =>
      refine ⟨fun σ' H' => ∃ ι o s, Rel C ι o H' s σ' ∧ PostS C W ι o H' (whileL (evE Φ e) (evSs Φ xb) m s) D, fun σ' H' w => ⟨m, Nat.lt_succ_self m, w⟩, ι1, o1, s1, R1, ?_⟩
      rw [if_pos rfl] at h2
      cases q : evSs Φ xb s1 with
      | nx s2 => rw [q] at h2; exact fun σ' H' ι' o' f R' => ⟨ι', o', s2, R', PostS.shift f h2⟩
      | cnt s2 => rw [q] at h2; exact fun σ' H' ι' o' f R' => ⟨ι', o', s2, R', PostS.shift f h2⟩
      | brk s2 => rw [q] at h2; exact h2
      | ret sl S => rw [q] at h2; exact h2
      | exc y s2 => rw [q] at h2; exact h2
      | stuck => rw [q] at h2; exact h2
end
end Sr

/-! Sr, part 11: what is walked; for; comprehensions. -/
namespace Sr
open PySem PySem.Spec PyProof.Rows L2

structure ItAt (C : Ctx) (ι : List Addr) (o : Own) (H : Hp) (J : It) (ds : List D) : Prop where
  go : ∀ i, i < ds.length → J.go i H
  yld : ∀ i x H', i < ds.length → J.yld i H x H' → ∃ d, ds[i]? = some d ∧ Hold ι o H ι o H' ∧ (∀ a, o a ≠ none → H' a ≠ none) ∧ IsF C ι o H' d x
  stop : ∀ i, ds.length ≤ i → J.stop i H
def ItOk (C : Ctx) (ι : List Addr) (o : Own) (H : Hp) (J : It) (ds : List D) : Prop := ∀ ι' o' H', FrmT ι o H ι' o' H' → (∀ a, o' a ≠ none → H' a ≠ none) → ItAt C ι' o' H' J ds
def ItOkE (C : Ctx) (ι : List Addr) (o : Own) (H : Hp) (J : It) (ds : List D) : Prop := ∀ ι' o' H', Frm ι o H ι' o' H' → (∀ a, o' a ≠ none → H' a ≠ none) → ItAt C ι' o' H' J ds
section
variable {C : Ctx} {ι ι' : List Addr} {o o' : Own} {H H' : Hp} {J : It} {ds : List D}
theorem ItOk.shift (h : ItOk C ι o H J ds) (f : FrmT ι o H ι' o' H') : ItOk C ι' o' H' J ds := fun ι2 o2 H2 g => h ι2 o2 H2 (f.trans g)
theorem ItOkE.shift (h : ItOkE C ι o H J ds) (f : Frm ι o H ι' o' H') : ItOkE C ι' o' H' J ds := fun ι2 o2 H2 g => h ι2 o2 H2 (f.trans g)
theorem ItOk.e (h : ItOk C ι o H J ds) : ItOkE C ι o H J ds := fun ι2 o2 H2 g => h ι2 o2 H2 g.toT
theorem at_list {p : Addr} {vs : List V} (r : SqL C.K H p vs) (t : IsFs C ι o H ds vs) (ow : ∀ a, o a ≠ none → H a ≠ none) : ItAt C ι o H (Itl C.K p) ds where
  go := fun i hi => ⟨vs, vs[i]'(by rw [← t.length]; exact hi), r, List.getElem?_eq_getElem _⟩
  yld := fun i x H' hi y => by
    obtain ⟨e, y⟩ := y
    subst e
    have hx := y vs r
    obtain ⟨v, h1, h2⟩ := t.get (List.getElem?_eq_getElem hi)
    rw [hx] at h1
    cases h1
    exact ⟨_, List.getElem?_eq_getElem hi, Hold.refl, ow, h2⟩
  stop := fun i hi => ⟨vs, r, by rw [← t.length]; exact hi⟩
theorem at_tup {p : Addr} {vs : List V} (r : SqT C.K H p vs) (t : IsFs C ι o H ds vs) (ow : ∀ a, o a ≠ none → H a ≠ none) : ItAt C ι o H (Itt C.K p) ds where
  go := fun i hi => ⟨vs, vs[i]'(by rw [← t.length]; exact hi), r, List.getElem?_eq_getElem _⟩
  yld := fun i x H' hi y => by
    obtain ⟨e, y⟩ := y
    subst e
    have hx := y vs r
    obtain ⟨v, h1, h2⟩ := t.get (List.getElem?_eq_getElem hi)
    rw [hx] at h1
    cases h1
    exact ⟨_, List.getElem?_eq_getElem hi, Hold.refl, ow, h2⟩
  stop := fun i hi => ⟨vs, r, by rw [← t.length]; exact hi⟩
theorem at_str {z : Str} (ow : ∀ a, o a ≠ none → H a ≠ none) : ItAt C ι o H (Its z) (z.cps.toList.map fun c => .str ⟨#[c]⟩) where
  go := fun i hi => by
    rw [List.length_map, Array.length_toList] at hi
    exact hi
  yld := fun i x H' hi y => by
    obtain ⟨e, c, hc, ex⟩ := y
    subst e ex
    refine ⟨.str ⟨#[c]⟩, ?_, Hold.refl, ow, .str _⟩
    rw [List.getElem?_map, Array.getElem?_toList, hc]
    rfl
  stop := fun i hi => by
    rw [List.length_map, Array.length_toList] at hi
    exact hi
theorem intsUp_len (lo : Int) (n : Nat) (c : Int) : (intsUp lo n c).length = n := by
  unfold intsUp
  rw [List.length_map, List.length_range]
theorem intsUp_get {lo : Int} {n : Nat} {c : Int} {i : Nat} (hi : i < n) : (intsUp lo n c)[i]? = some (.int (lo + (i : Nat) * c)) := by
  unfold intsUp
  rw [List.getElem?_map, List.getElem?_range hi]
  rfl
theorem at_rng {lo : Int} {n : Nat} (ow : ∀ a, o a ≠ none → H a ≠ none) : ItAt C ι o H (L2.Itr lo n) (intsUp lo n 1) where
  go := fun i hi => by rw [intsUp_len] at hi; exact hi
  yld := fun i x H' hi y => by
    rw [intsUp_len] at hi
    obtain ⟨e, ex⟩ := y
    subst e ex
    refine ⟨.int (lo + i), ?_, Hold.refl, ow, .int _⟩
    rw [intsUp_get hi, Int.mul_one]
  stop := fun i hi => by rw [intsUp_len] at hi; exact hi
theorem enumD_len : ∀ (k : Nat) (ds : List D), (enumD k ds).length = ds.length
  | _, [] => rfl
  | k, d :: ds => congrArg (· + 1) (enumD_len (k + 1) ds)
theorem enumD_get : ∀ (k : Nat) (ds : List D) (i : Nat) (d : D), ds[i]? = some d → (enumD k ds)[i]? = some (.tup [.int ((k + i : Nat) : Nat), d])
  | k, e :: ds, 0, d, h => by cases h; rfl
  | k, e :: ds, i + 1, d, h => by
    have := enumD_get (k + 1) ds i d (by simpa using h)
    rw [show k + (i + 1) = k + 1 + i by omega]
    simpa [enumD] using this
theorem at_enum {p : Addr} {vs : List V} (r : SqL C.K H p vs) (t : IsFs C ι o H ds vs) (ow : ∀ a, o a ≠ none → H a ≠ none) : ItAt C ι o H (Ite C.K p) (enumD 0 ds) where
  go := fun i hi => by
    rw [enumD_len] at hi
    exact ⟨vs, vs[i]'(by rw [← t.length]; exact hi), r, List.getElem?_eq_getElem _⟩
  yld := fun i x H' hi y => by
    rw [enumD_len] at hi
    obtain ⟨T, w, e1, e2, e3, y⟩ := y
    subst e1 e3
    have hx := y vs r
    obtain ⟨v, h1, h2⟩ := t.get (List.getElem?_eq_getElem hi)
    rw [hx] at h1
    cases h1
    refine ⟨_, enumD_get 0 ds i _ (List.getElem?_eq_getElem hi), Hold.newN ow e2, own_newN ow, .tup (own_none ow e2) upd_same ?_⟩
    rw [Nat.zero_add]
    exact .cons (.int _) (.cons (h2.mono (Hold.newN ow e2).kept) .nil)
  stop := fun i hi => by
    rw [enumD_len] at hi
    exact ⟨vs, r, by rw [← t.length]; exact hi⟩
theorem at_rev {p : Addr} {vs : List V} (r : SqL C.K H p vs) (t : IsFs C ι o H ds vs) (ow : ∀ a, o a ≠ none → H a ≠ none) : ItAt C ι o H (Itv C.K p vs.length) ds.reverse where
  go := fun i hi => by
    rw [List.length_reverse, t.length] at hi
    exact ⟨hi, vs, vs[vs.length - 1 - i]'(by omega), r, List.getElem?_eq_getElem _⟩
  yld := fun i x H' hi y => by
    rw [List.length_reverse] at hi
    have hl := t.length
    obtain ⟨e, y⟩ := y
    subst e
    have hx := y vs r
    obtain ⟨v, h1, h2⟩ := t.get (List.getElem?_eq_getElem (show ds.length - 1 - i < ds.length by omega))
    rw [hl, hx] at h1
    cases h1
    refine ⟨_, ?_, Hold.refl, ow, h2⟩
    rw [List.getElem?_reverse hi, List.getElem?_eq_getElem]
  stop := fun i hi => by
    rw [List.length_reverse, t.length] at hi
    exact hi
end

/-! ### what is walked, in the code -/
def PostI (C : Ctx) (W : WX) (σ : L2.St) (ι : List Addr) (o : Own) (H : Hp) (r : Out Sl) (R : It → Hp → Prop) : Prop :=
  match r with
  | .ok (m, .lst ds) s => ∀ J H' ι' o', Frm ι o H ι' o' H' → Rel C ι' o' H' s σ → (m = .val → ItOk C ι' o' H' J ds) → ItOkE C ι' o' H' J ds → R J H'
  | .ok _ _ => False
  | .exc x s => ∀ H' ι' o' cls d, Frm ι o H ι' o' H' → Rel C ι' o' H' s σ → ExOk C ι' o' H' x cls d → W cls d σ H'
  | .stuck => False
def rdI (C : Ctx) (Φ : Nat → List Sl → List Cell → COut) (W : WX) (it : Itr) : TI := fun σ H R => ∃ ι o s, Rel C ι o H s σ ∧ PostI C W σ ι o H (itE Φ it s) R
theorem PI.imp {X : Cx} {tg e : Expr} {t t' : TI} (h : PI X tg e t) (w : ∀ σ H R, t' σ H R → t σ H R) : PI X tg e t' := ⟨fun pins s σ H R I q => h.run pins s σ H R I (w _ _ _ q)⟩
theorem PI.or {X : Cx} {tg e : Expr} {t t' : TI} (h : PI X tg e t) (h' : PI X tg e t') : PI X tg e (fun σ H R => t σ H R ∨ t' σ H R) := ⟨fun pins s σ H R I q => by
  rcases q with q | q
  · exact h.run pins s σ H R I q
  · exact h'.run pins s σ H R I q⟩
section
variable {X : Cx} {C : Ctx} {Φ : Nat → List Sl → List Cell → COut} {W : WX} {k : Nat} {σ : L2.St} {ι ι' : List Addr} {o o' : Own} {H H' : Hp} {s : Stt} {D : Ends} {e e1 e2 e3 : Ex} {a b c tg : Expr} {pos : Pos} {R : It → Hp → Prop}
theorem PostI.shift {r : Out Sl} (f : Frm ι o H ι' o' H') (h : PostI C W σ ι o H r R) : PostI C W σ ι' o' H' r R := by
  cases r with
  | ok sl s =>
    obtain ⟨m, d⟩ := sl
    cases d with
    | lst ds => exact fun J H2 ι2 o2 g R => h J H2 ι2 o2 (f.trans g) R
    | _ => exact h.elim
  | exc x s => exact fun H2 ι2 o2 cls d g R E => h H2 ι2 o2 cls d (f.trans g) R E
  | stuck => exact h
theorem ri_of {f : Sl → Stt → Out Sl} (RR : Rel C ι o H s σ) (h : PostI C W σ ι o H ((evE Φ e s).bind f) R) {Q1 : VK}
    (k : ∀ sl s1 v H' ι' o', Frm ι o H ι' o' H' → Rel C ι' o' H' s1 σ → ResOk C ι' o' H' sl v → PostI C W σ ι' o' H' (f sl s1) R → Q1 v H') : rdE C Φ W e σ H Q1 := by
  refine ⟨ι, o, s, RR, ?_⟩
  cases q : evE Φ e s with
  | ok sl s1 => rw [q] at h; exact fun v H2 ι2 o2 g R E F => k sl s1 v H2 ι2 o2 g R E (PostI.shift g h)
  | exc x s1 => rw [q] at h; exact h
  | stuck => rw [q] at h; exact h
theorem srcO_some {x : Sl} {r : Option (List Sr.D)} (h : PostI C W σ ι o H (srcO s x r) R) : ∃ m ds, srcM x = some m ∧ r = some ds ∧ PostI C W σ ι o H (.ok (m, .lst ds) s) R := by
  unfold srcO at h
  split at h
  · rename_i m ds e1
    exact ⟨m, ds, e1, rfl, h⟩
  · exact h.elim
/-- a walked list's value stands: through a body, or through an expression -/
theorem src_list {x : Sl} {v : V} {m : Md} {ds : List Sr.D} (R : Rel C ι o H s σ) (E : ResOk C ι o H x v) (hm : srcM x = some m) (hd : lsqOf s.sto x = some ds) : ∃ p vs, v = .ref p ∧ SqL C.K H p vs ∧ IsFs C ι o H ds vs ∧
    (∀ ι' o' H', Frm ι o H ι' o' H' → SqL C.K H' p vs ∧ IsFs C ι' o' H' ds vs) ∧ (m = .val → ∀ ι' o' H', FrmT ι o H ι' o' H' → SqL C.K H' p vs ∧ IsFs C ι' o' H' ds vs) := by
  have keepT : ∀ {p : Addr} {vs : List V}, Stab (o p) → H p = some (.lst vs) → ∀ ι' o' H', FrmT ι o H ι' o' H' → SqL C.K H' p vs := fun hs hh ι' o' H' f => .inl (.inl (f.hp _ _ hh hs).1)
  obtain ⟨md, d⟩ := x
  cases d with
  | lst es =>
    have ee : es = ds := by cases md <;> exact Option.some.inj hd
    subst ee
    cases md with
    | val =>
      obtain ⟨p, vs, ev, n, r, t⟩ := IsF.lst_rd E
      exact ⟨p, vs, ev, .inl (.inl r), t, fun ι' o' H' f => ⟨keepT (.inl n) r _ _ _ f.toT, t.mono f.kept⟩, fun _ ι' o' H' f => ⟨keepT (.inl n) r _ _ _ f, t.mono f.kept⟩⟩
    | own =>
      obtain ⟨p, ev, n, vs, r, t⟩ := E
      exact ⟨p, vs, ev, .inl (.inl r), t, fun ι' o' H' f => ⟨keepT (.inr (.inr n)) r _ _ _ f.toT, t.mono f.kept⟩, fun _ ι' o' H' f => ⟨keepT (.inr (.inr n)) r _ _ _ f, t.mono f.kept⟩⟩
    | lent =>
      obtain ⟨p, ev, n, vs, r, t⟩ := E
      exact ⟨p, vs, ev, .inl (.inl r), t, fun ι' o' H' f => ⟨keepT n.stab r _ _ _ f.toT, t.mono f.kept⟩, fun _ ι' o' H' f => ⟨keepT n.stab r _ _ _ f, t.mono f.kept⟩⟩
    | pk =>
      obtain ⟨p, ev, n, vs, r, t⟩ := E
      have nc : ∀ m, o p ≠ some (.cell m) := fun m z => by
        rcases n with n | ⟨i, n⟩
        · exact n.stab.ncell m z
        · rw [n] at z; cases z
      refine ⟨p, vs, ev, .inl (.inl r), t, fun ι' o' H' f => ⟨.inl (.inl (f.hp p _ r nc)), t.mono f.kept⟩, fun z => ?_⟩
      rw [z] at hm
      cases hm
  | scr es =>
    cases md with
    | val =>
      have ee : es = ds := Option.some.inj hd
      subst ee
      cases E with
      | @scr p vs _ n r t =>
        have kr : ∀ ι' o' H', FrmT ι o H ι' o' H' → SqL C.K H' p vs := fun ι' o' H' f => by
          rcases r with r | ⟨q, r⟩
          · exact .inl (.inl (f.hp _ _ r (.inl n)).1)
          · exact .inl (.inr ⟨q, (f.hp _ _ r (.inl n)).1⟩)
        exact ⟨_, _, rfl, .inl r, t, fun ι' o' H' f => ⟨kr _ _ _ f.toT, t.mono f.kept⟩, fun _ ι' o' H' f => ⟨kr _ _ _ f, t.mono f.kept⟩⟩
      | scrK r t => exact ⟨_, _, rfl, .inr r, t, fun ι' o' H' f => ⟨.inr r, t.mono f.kept⟩, fun _ ι' o' H' f => ⟨.inr r, t.mono f.kept⟩⟩
    | _ => exact E.elim
  | ref n => cases md <;> first | exact E.elim | cases hm
  | _ => cases md <;> cases hd
theorem sI_enum {p pos : Pos} {elts : List Expr} {kk : Nat} {tpos : Pos} (K : Okx X C W k) (hg : Gl X "enumerate") (hm : X.mg "enumerate" = none) (ha : PE X a (rdE C Φ W e)) (hs : starEach [a] X.env = (false, eval a X.env) :: starEach [] X.env := by rfl) (hs' : starEach [a] X.env = [(false, eval a X.env)] := by rfl) :
    PI X (.Tuple elts kk tpos) (.Call (.Name "enumerate" p) [a] [] pos) (rdI C Φ W (.enum e)) := PI.imp (pi_enum hg hm (pa_cons ha pa_nil hs) hs') fun σ H R => by
  rintro ⟨ι, o, s, RR, h⟩
  unfold itE at h
  refine ri_of RR h fun x s1 v H1 ι1 o1 f1 R1 E1 h1 => ?_
  obtain ⟨m, ds, e1, e2, h2⟩ := srcO_some h1
  obtain ⟨es, e3, e4⟩ := Option.map_eq_some_iff.mp e2
  subst e4
  obtain ⟨q, vs, ev, r, t, kE, kT⟩ := src_list R1 E1 e1 e3
  rw [K.kk]
  exact ⟨q, vs, by rw [ev], r, h2 _ H1 ι1 o1 Frm.refl R1 (fun z ι' o' H' f ow => at_enum (kT z _ _ _ f).1 (kT z _ _ _ f).2 ow) fun ι' o' H' f ow => at_enum (kE _ _ _ f).1 (kE _ _ _ f).2 ow⟩
theorem sI_rev {p pos : Pos} (K : Okx X C W k) (hg : Gl X "reversed") (hm : X.mg "reversed" = none) (ha : PE X a (rdE C Φ W e)) (hs : starEach [a] X.env = (false, eval a X.env) :: starEach [] X.env := by rfl) (hs' : starEach [a] X.env = [(false, eval a X.env)] := by rfl) :
    PI X tg (.Call (.Name "reversed" p) [a] [] pos) (rdI C Φ W (.revd e)) := PI.imp (pi_reversed hg hm (pa_cons ha pa_nil hs) hs') fun σ H R => by
  rintro ⟨ι, o, s, RR, h⟩
  unfold itE at h
  refine ri_of RR h fun x s1 v H1 ι1 o1 f1 R1 E1 h1 => ?_
  obtain ⟨m, ds, e1, e2, h2⟩ := srcO_some h1
  obtain ⟨es, e3, e4⟩ := Option.map_eq_some_iff.mp e2
  subst e4
  obtain ⟨q, vs, ev, r, t, kE, kT⟩ := src_list R1 E1 e1 e3
  rw [K.kk]
  exact ⟨q, vs, by rw [ev], r, h2 _ H1 ι1 o1 Frm.refl R1 (fun z ι' o' H' f ow => at_rev (kT z _ _ _ f).1 (kT z _ _ _ f).2 ow) fun ι' o' H' f ow => at_rev (kE _ _ _ f).1 (kE _ _ _ f).2 ow⟩
theorem sI_rng1 {p pos : Pos} (hg : Gl X "range") (hm : X.mg "range" = none) (ha : PE X a (rdE C Φ W e)) (hs : starEach [a] X.env = (false, eval a X.env) :: starEach [] X.env := by rfl) (hs' : starEach [a] X.env = [(false, eval a X.env)] := by rfl) :
    PI X tg (.Call (.Name "range" p) [a] [] pos) (rdI C Φ W (.rng1 e)) := PI.imp (pi_range1 hg hm (pa_cons ha pa_nil hs) hs') fun σ H R => by
  rintro ⟨ι, o, s, RR, h⟩
  unfold itE at h
  refine ri_of RR h fun x s1 v H1 ι1 o1 f1 R1 E1 h1 => ?_
  split at h1
  · rename_i n
    split at h1
    · rename_i hb
      exact ⟨n, by rw [res_int E1 rfl], hb.2, hb.1, h1 _ H1 ι1 o1 Frm.refl R1 (fun _ ι' o' H' f ow => at_rng ow) fun ι' o' H' f ow => at_rng ow⟩
    · exact h1.elim
  · exact h1.elim
theorem sI_rng2 {p pos : Pos} (hg : Gl X "range") (hm : X.mg "range" = none) (ha : PE X a (rdE C Φ W e1)) (hb : PE X b (rdE C Φ W e2)) (hs : starEach [a, b] X.env = (false, eval a X.env) :: starEach [b] X.env := by rfl) (hs1 : starEach [b] X.env = (false, eval b X.env) :: starEach [] X.env := by rfl) (hs2 : starEach [a, b] X.env = [(false, eval a X.env), (false, eval b X.env)] := by rfl) (hs3 : starEach [b] X.env = [(false, eval b X.env)] := by rfl) :
    PI X tg (.Call (.Name "range" p) [a, b] [] pos) (rdI C Φ W (.rng2 e1 e2)) := PI.imp (pi_range2 hg hm (pa_cons ha (pa_cons hb pa_nil hs1) hs) hs2 hs3) fun σ H R => by
  rintro ⟨ι, o, s, RR, h⟩
  unfold itE at h
  refine ri_of RR h fun x s1 v H1 ι1 o1 f1 R1 E1 h1 => ?_
  refine ri_of R1 h1 fun y s2 u H2 ι2 o2 f2 R2 E2 h2 => ?_
  split at h2
  · rename_i q eq
    obtain ⟨q1, q2⟩ := int2D_some eq
    split at h2
    · rename_i hb
      exact ⟨q.1, q.2, by rw [res_int E1 q1, res_int E2 q2], ⟨hb.1.2, hb.1.1, hb.2.2, hb.2.1⟩, h2 _ H2 ι2 o2 Frm.refl R2 (fun _ ι' o' H' f ow => at_rng ow) fun ι' o' H' f ow => at_rng ow⟩
    · exact h2.elim
  · exact h2.elim
theorem at_rngC {lo c : Int} {n : Nat} (ow : ∀ a, o a ≠ none → H a ≠ none) : ItAt C ι o H (L2.Itc lo c n) (intsUp lo n c) where
  go := fun i hi => by rw [intsUp_len] at hi; exact hi
  yld := fun i x H' hi y => by
    rw [intsUp_len] at hi
    obtain ⟨e, ex⟩ := y
    subst e ex
    exact ⟨.int (lo + (i : Nat) * c), intsUp_get hi, Hold.refl, ow, .int _⟩
  stop := fun i hi => by rw [intsUp_len] at hi; exact hi
theorem sI_rng3 {p p3 pos : Pos} {cc : Int} {j} (hg : Gl X "range") (hm : X.mg "range" = none) (ha : PE X a (rdE C Φ W e1)) (hb : PE X b (rdE C Φ W e2))
    (h1 : starEach [a, b, .Constant (.int cc) j p3] X.env = (false, eval a X.env) :: starEach [b, .Constant (.int cc) j p3] X.env := by rfl) (h2 : starEach [b, .Constant (.int cc) j p3] X.env = (false, eval b X.env) :: starEach [.Constant (.int cc) j p3] X.env := by rfl) (h3 : starEach [.Constant (.int cc) j p3] X.env = (false, eval (.Constant (.int cc) j p3) X.env) :: starEach [] X.env := by rfl) (hpl : (backTo pos (starEach [b, .Constant (.int cc) j p3] X.env)).any (·.1) = false := by rfl) :
    PI X tg (.Call (.Name "range" p) [a, b, .Constant (.int cc) j p3] [] pos) (rdI C Φ W (.rng3 e1 e2 cc)) := PI.imp (pi_range3 hg hm (pa_cons ha (pa_cons hb (pa_cons pe_int pa_nil h3) h2) h1) h1 hpl) fun σ H R => by
  rintro ⟨ι, o, s, RR, h⟩
  unfold itE at h
  refine ri_of RR h fun x s1 v H1 ι1 o1 f1 R1 E1 h1 => ?_
  refine ri_of R1 h1 fun y s2 u H2 ι2 o2 f2 R2 E2 h2 => ?_
  split at h2
  · rename_i q eq
    obtain ⟨q1, q2⟩ := int2D_some eq
    split at h2
    · rename_i hb
      exact ⟨q.1, q.2, cc, _, by rw [res_int E1 q1, res_int E2 q2], hb, h2 _ H2 ι2 o2 Frm.refl R2 (fun _ ι' o' H' f ow => at_rngC ow) fun ι' o' H' f ow => at_rngC ow⟩
    · exact h2.elim
  · exact h2.elim
/-- .. a tuple, too -/
theorem src_tup {x : Sl} {v : V} {ds : List Sr.D} (E : ResOk C ι o H x v) (hd : x.2 = .tup ds) : ∃ p vs, v = .ref p ∧ SqT C.K H p vs ∧ IsFs C ι o H ds vs ∧ (∀ ι' o' H', FrmT ι o H ι' o' H' → SqT C.K H' p vs ∧ IsFs C ι' o' H' ds vs) := by
  obtain ⟨md, d⟩ := x
  have hd : d = .tup ds := hd
  subst hd
  cases md with
  | val =>
    cases E with
    | tup n r t =>
      refine ⟨_, _, rfl, .inl (.inl r), t, fun ι' o' H' f => ⟨.inl (.inl ?_), t.mono f.kept⟩⟩
      exact (f.kept.hp _ _ r n).1
  | own => exact E.elim
  | lent => exact E.elim
  | pk => exact E.elim
theorem sI_seq (K : Okx X C W k) (ha : PE X a (rdE C Φ W e)) : PI X tg a (rdI C Φ W (.seq e)) := by
  have go : ∀ σ H R, rdI C Φ W (.seq e) σ H R → rdE C Φ W e σ H (fun v H1 => (∃ q vs, v = .ref q ∧ SqL X.K H1 q vs ∧ R (Itl X.K q) H1) ∨ (∃ q vs, v = .ref q ∧ SqT X.K H1 q vs ∧ R (Itt X.K q) H1) ∨ (∃ z, v = .str z ∧ R (Its z) H1)) := fun σ H R => by
    rintro ⟨ι, o, s, RR, h⟩
    unfold itE at h
    refine ri_of RR h fun x s1 v H1 ι1 o1 f1 R1 E1 h1 => ?_
    obtain ⟨m, ds, e1, e2, h2⟩ := srcO_some h1
    unfold walkOf at e2
    rw [K.kk]
    split at e2
    · rename_i es e0
      cases e2
      unfold seqOf at e0
      split at e0
      · rename_i es e3
        cases e0
        obtain ⟨q, vs, ev, r, t, kE, kT⟩ := src_list R1 E1 e1 e3
        exact .inl ⟨q, vs, ev, r, h2 _ H1 ι1 o1 Frm.refl R1 (fun z ι' o' H' f ow => at_list (kT z _ _ _ f).1 (kT z _ _ _ f).2 ow) fun ι' o' H' f ow => at_list (kE _ _ _ f).1 (kE _ _ _ f).2 ow⟩
      · rename_i es e3 e4
        cases e0
        obtain ⟨q, vs, ev, r, t, kT⟩ := src_tup E1 e4
        exact .inr (.inl ⟨q, vs, ev, r, h2 _ H1 ι1 o1 Frm.refl R1 (fun z ι' o' H' f ow => at_tup (kT _ _ _ f).1 (kT _ _ _ f).2 ow) fun ι' o' H' f ow => at_tup (kT _ _ _ f.toT).1 (kT _ _ _ f.toT).2 ow⟩)
      · cases e0
    · rename_i z e0 e3
      cases e2
      exact .inr (.inr ⟨z, res_str E1 e3, h2 _ H1 ι1 o1 Frm.refl R1 (fun _ ι' o' H' f ow => at_str ow) fun ι' o' H' f ow => at_str ow⟩)
    · cases e2
  refine ⟨fun pins s σ H R I q => ?_⟩
  refine thn (ha.run pins s σ H _ I (go _ _ _ q)) fun v s1 ⟨x, H1, I1, r1, q1⟩ => ?_
  rcases q1 with ⟨q, vs, ev, hq, q1⟩ | ⟨q, vs, ev, hq, q1⟩ | ⟨z, ev, q1⟩
  · subst ev
    cases r1
    obtain ⟨its, rv, p, hz⟩ := I1.list hq
    refine wpAny_pyIter_list p.isList ?_
    refine ⟨s1.heap.objs.size, [s1.heap.objs.size], _, _, H1, rfl, I1.kept (t' := s1.toks) fun b o e => Heap.get?_push_of_some _ e, turn_list q _, ⟨_, Heap.get?_push_size _ rfl, rfl, rfl⟩, fun b hb => ?_, q1⟩
    have e : b = s1.heap.objs.size := by simpa using hb
    subst e
    exact I1.fpOk (Nat.le_refl _) (I1.hok.fresh (Nat.le_refl _))
  · subst ev
    cases r1
    obtain ⟨its, rv, p, hz⟩ := I1.tuple hq
    refine wpAny_pyIter_tuple (show s1.heap.IsTuple q its.toArray from p) ?_
    refine ⟨s1.heap.objs.size, [s1.heap.objs.size], _, _, H1, rfl, I1.kept (t' := s1.toks) fun b o e => Heap.get?_push_of_some _ e, turn_tuple q _, ⟨_, Heap.get?_push_size _ rfl, rfl, rfl⟩, fun b hb => ?_, q1⟩
    have e : b = s1.heap.objs.size := by simpa using hb
    subst e
    exact I1.fpOk (Nat.le_refl _) (I1.hok.fresh (Nat.le_refl _))
  · subst ev
    obtain ⟨t, rfl⟩ := r1
    cases ha : z.cps.all (· < 128)
    · exact wpAny_pyIter_wide ha (pi_one (tk := s1.toks) I1 _ (turn_str _ z t "str_iterator" (.inr rfl)) ⟨_, Heap.get?_push_size _ rfl, rfl, rfl⟩ q1)
    · exact wpAny_pyIter_ascii ha (pi_one (tk := s1.toks) I1 _ (turn_str _ z t "str_ascii_iterator" (.inl rfl)) ⟨_, Heap.get?_push_size _ rfl, rfl, rfl⟩ q1)
end
end Sr

/-! Sr, part 12: for; comprehensions. -/
namespace Sr
open PySem PySem.Spec PyProof.Rows L2
noncomputable section

/-- the place where a def's own code stands -/
structure Okf (X : Cx) (C : Ctx) (W : WX) (k : Nat) : Prop extends Okx X C W k where
  po : PassesOwn (model X.prog X.w) X.A X.env X.xe
  calm : X.calm = true
section
variable {X : Cx} {C : Ctx} {Φ : Nat → List Sl → List Cell → COut} {W : WX} {k : Nat} {σ : L2.St} {ι ι' : List Addr} {o o' : Own} {H H' : Hp} {s : Stt} {D : Ends} {e e1 e2 e3 : Ex} {a b c tg : Expr} {pos : Pos} {Q : VK}
theorem sS_for {p : Pat} {it : Itr} {iter : Expr} {body : List Stmt} {xb : Sms} (K : Okf X C W k) (hi : PI X tg iter (rdI C Φ W it)) (hg : PG X tg (rdG C p)) (hb : PSs X body (rdSs C Φ W xb)) (hs : ∀ x, foldedSetIterable iter X.env x = pure x := by intro _; rfl) :
    PS X (.For tg iter body [] pos) (rdS C Φ W (.forS p it xb)) := PS.imp (ps_for K.po K.calm hi hg hb hs) fun D σ H => by
  rintro ⟨ι, o, s, R, h⟩
  unfold evS at h
  refine ⟨ι, o, s, R, ?_⟩
  cases q : itE Φ it s with
  | stuck => rw [q] at h; exact h
  | exc x s1 => rw [q] at h; exact fun H2 ι2 o2 cls d g R E => h σ H2 ι2 o2 cls d g.toT R E
  | ok src s1 =>
    rw [q] at h
    obtain ⟨m, d⟩ := src
    cases d with
    | lst ds =>
      cases m with
      | val =>
        replace h : PostS C W ι o H (forL p (evSs Φ xb) ds s1) D := h
        intro J H1 ι1 o1 f1 R1 kT kE
        replace kT := kT rfl
        refine ⟨fun i m σ H => m = ds.length - i ∧ i ≤ ds.length ∧ ∃ ι o s, Rel C ι o H s σ ∧ ItOk C ι o H J ds ∧ PostS C W ι o H (forL p (evSs Φ xb) (ds.drop i) s) D, ⟨ds.length, rfl, Nat.zero_le _, ι1, o1, s1, R1, kT, PostS.shift f1.toT h⟩, ?_⟩
        rintro i m σ H ⟨rfl, hle, ι, o, s, R, kT, h⟩
        have at0 := kT ι o H FrmT.refl R.sto.own
        by_cases hi : i < ds.length
        · refine .inr ⟨at0.go i hi, fun σ' H' => ∃ ι o s, Rel C ι o H' s σ' ∧ ItOk C ι o H' J ds ∧ PostS C W ι o H' (forL p (evSs Φ xb) (ds.drop (i + 1)) s) D, fun σ' H' w => ⟨ds.length - (i + 1), by omega, rfl, hi, w⟩, ?_⟩
          intro x H' y
          obtain ⟨d, e1, hold, ow, hd⟩ := at0.yld i x H' hi y
          have ed : ds.drop i = d :: ds.drop (i + 1) := by
            rw [List.drop_eq_getElem_cons hi]
            rw [List.getElem?_eq_getElem hi] at e1
            cases e1
            rfl
          rw [ed] at h
          replace h : PostS C W ι o H (match bindP p d s.env with | none => .stuck | some env => match evSs Φ xb { s with env := env } with | .nx s1 => forL p (evSs Φ xb) (ds.drop (i + 1)) s1 | .cnt s1 => forL p (evSs Φ xb) (ds.drop (i + 1)) s1 | .brk s1 => .nx s1 | r => r) D := h
          cases qb : bindP p d s.env with
          | none => rw [qb] at h; exact h.elim
          | some env =>
            rw [qb] at h
            refine ⟨ι, o, s, d, env, R.hold hold ow rfl, hd, qb, fun σ' R2 _ => ⟨ι, o, _, R2, ?_⟩⟩
            replace h := PostS.shift hold.frm.toT h
            have kT' := kT.shift hold.frm.toT
            dsimp only at h
            cases qs : evSs Φ xb { s with env := env } with
            | nx s1 => rw [qs] at h; exact fun σ2 H2 ι2 o2 f R2 => ⟨ι2, o2, s1, R2, kT'.shift f, PostS.shift f h⟩
            | cnt s1 => rw [qs] at h; exact fun σ2 H2 ι2 o2 f R2 => ⟨ι2, o2, s1, R2, kT'.shift f, PostS.shift f h⟩
            | brk s1 => rw [qs] at h; exact fun σ2 H2 ι2 o2 f R2 => h σ2 H2 ι2 o2 f R2
            | ret sl S => rw [qs] at h; exact h
            | exc x s1 => rw [qs] at h; exact h
            | stuck => rw [qs] at h; exact h
        · refine .inl ⟨at0.stop i (by omega), ?_⟩
          rw [List.drop_eq_nil_of_le (by omega)] at h
          exact PostS.go R h
      | _ => exact h.elim
    | _ => cases m <;> exact h.elim

/-! ### a list of the store is walked -/
def PostV (C : Ctx) (W : WX) (σ : L2.St) (ι : List Addr) (o : Own) (H : Hp) (r : Out Sl) (R : Nat → Stt → Addr → Hp → Prop) : Prop :=
  match r with
  | .ok (.val, .ref n) s => ∀ p H' ι' o', Frm ι o H ι' o' H' → Rel C ι' o' H' s σ → ι'[n]? = some p → (∃ ds, s.sto[n]? = some (.lst ds)) → R n s p H'
  | .ok _ _ => False
  | .exc x s => ∀ H' ι' o' cls d, Frm ι o H ι' o' H' → Rel C ι' o' H' s σ → ExOk C ι' o' H' x cls d → W cls d σ H'
  | .stuck => False
def tyJ (K : PySem.W.Frag) (en : Bool) (p : Addr) : It := if en then Ite K p else Itl K p
def rdV (C : Ctx) (Φ : Nat → List Sl → List Cell → COut) (W : WX) (e : Ex) (en : Bool) : TI := fun σ H R => ∃ ι o s, Rel C ι o H s σ ∧ ∀ Q : VK, (∀ v H', (∃ n p sl s1 ds ι' o', evE Φ e s = .ok sl s1 ∧ sl = (.val, .ref n) ∧ v = .ref p ∧ ι'[n]? = some p ∧ s1.sto[n]? = some (.lst ds) ∧ Frm ι o H ι' o' H' ∧ Rel C ι' o' H' s1 σ ∧ (∃ vs, H' p = some (.lst vs)) ∧ R (tyJ C.K en p) H') → Q v H') → Post C W σ ι o H (evE Φ e s) Q
theorem sV_seq (K : Okx X C W k) (ha : PE X a (rdE C Φ W e)) : PI X tg a (rdV C Φ W e false) := PI.imp (pi_list ha) fun σ H R => by
  rintro ⟨ι, o, s, RR, h⟩
  exact ⟨ι, o, s, RR, h _ fun v H' ⟨n, p, sl, s1, ds, ι', o', _, _, ev, _, _, _, _, ⟨vs, hv⟩, r⟩ => ⟨p, ev, ⟨vs, .inl (.inl hv)⟩, by rw [K.kk]; exact r⟩⟩
theorem sV_enum {p pos : Pos} {elts : List Expr} {kk : Nat} {tpos : Pos} (K : Okx X C W k) (hg : Gl X "enumerate") (hm : X.mg "enumerate" = none) (ha : PE X a (rdE C Φ W e)) (hs : starEach [a] X.env = (false, eval a X.env) :: starEach [] X.env := by rfl) (hs' : starEach [a] X.env = [(false, eval a X.env)] := by rfl) :
    PI X (.Tuple elts kk tpos) (.Call (.Name "enumerate" p) [a] [] pos) (rdV C Φ W e true) := PI.imp (pi_enum hg hm (pa_cons ha pa_nil hs) hs') fun σ H R => by
  rintro ⟨ι, o, s, RR, h⟩
  exact ⟨ι, o, s, RR, h _ fun v H' ⟨n, p, sl, s1, ds, ι', o', _, _, ev, _, _, _, _, ⟨vs, hv⟩, r⟩ => ⟨p, vs, by rw [ev], .inl (.inl hv), by rw [K.kk]; exact r⟩⟩
theorem sS_forC {fu : Nat} {p : Pat} {en : Bool} {iter : Expr} {body : List Stmt} {xb : Sms} (K : Okf X C W k) (hi : PI X tg iter (rdV C Φ W e en)) (hg : PG X tg (rdG C p)) (hb : PSs X body (rdSs C Φ W xb)) (hs : ∀ x, foldedSetIterable iter X.env x = pure x := by intro _; rfl) :
    PS X (.For tg iter body [] pos) (rdS C Φ W (.forC fu p en e xb)) := PS.imp (ps_for K.po K.calm hi hg hb hs) fun D σ H => by
  rintro ⟨ι, o, s, R, h⟩
  unfold evS at h
  refine ⟨ι, o, s, R, fun Q hQ => ?_⟩
  cases q : evE Φ e s with
  | stuck => rw [q] at h; exact h
  | exc x s1 => rw [q] at h; exact fun H2 ι2 o2 cls d g R E => h σ H2 ι2 o2 cls d g.toT R E
  | ok src s1 =>
    rw [q] at h
    obtain ⟨m, d⟩ := src
    cases d with
    | ref n =>
      cases m with
      | val =>
        replace h : PostS C W ι o H (forC n en p (evSs Φ xb) fu 0 s1) D := h
        intro v H1 ι1 o1 f1 R1 E1 _
        cases E1 with
        | @ref _ pa epa =>
        have hd : ∃ ds, s1.sto[n]? = some (.lst ds) := by
          cases fu with
          | zero => exact h.elim
          | succ fu =>
          unfold forC at h
          split at h
          · rename_i ds e1; exact ⟨ds, e1⟩
          · exact h.elim
        obtain ⟨ds, hd⟩ := hd
        obtain ⟨p', hp', _, vs, hvs, _⟩ := R1.sto.cell n _ hd
        rw [hp'] at epa
        have epb : pa = p' := (Option.some.inj epa).symm
        subst epb
        refine hQ _ H1 ⟨n, pa, _, s1, ds, ι1, o1, q, rfl, rfl, hp', hd, f1, R1, ⟨vs, hvs⟩, ?_⟩
        refine ⟨fun i m σ H => ∃ ι o s, Rel C ι o H s σ ∧ ι[n]? = some pa ∧ PostS C W ι o H (forC n en p (evSs Φ xb) m i s) D, ⟨fu, ι1, o1, s1, R1, hp', PostS.shift f1.toT h⟩, ?_⟩
        rintro i m σ H ⟨ι, o, s, R, hp, h⟩
        cases m with
        | zero => exact h.elim
        | succ m =>
          unfold forC at h
          split at h
          · rename_i ds hds
            obtain ⟨p2, hp2, ho2, vs, hvs, hfs⟩ := R.sto.cell n _ hds
            rw [hp] at hp2
            have epb : pa = p2 := Option.some.inj hp2
            subst epb
            have at0 : ItAt C ι o H (tyJ C.K en pa) (if en then enumD 0 ds else ds) := by
              unfold tyJ
              cases en with
              | true => exact at_enum (.inl (.inl hvs)) hfs R.sto.own
              | false => exact at_list (.inl (.inl hvs)) hfs R.sto.own
            generalize (if en then enumD 0 ds else ds) = dsE at h at0
            by_cases hi : i < dsE.length
            · refine .inr ⟨at0.go i hi, fun σ' H' => ∃ ι o s, Rel C ι o H' s σ' ∧ ι[n]? = some pa ∧ PostS C W ι o H' (forC n en p (evSs Φ xb) m (i + 1) s) D, fun σ' H' w => ⟨m, Nat.lt_succ_self m, w⟩, ?_⟩
              intro x H' y
              obtain ⟨d, e1, hold, ow, hd⟩ := at0.yld i x H' hi y
              rw [e1] at h
              dsimp only at h
              cases qb : bindP p d s.env with
              | none => rw [qb] at h; exact h.elim
              | some env =>
                rw [qb] at h
                refine ⟨ι, o, s, d, env, R.hold hold ow rfl, hd, qb, fun σ' R2 _ => ⟨ι, o, _, R2, ?_⟩⟩
                replace h := PostS.shift hold.frm.toT h
                dsimp only at h
                cases qs : evSs Φ xb { s with env := env } with
                | nx s1 => rw [qs] at h; exact fun σ2 H2 ι2 o2 f R2 => ⟨ι2, o2, s1, R2, f.io _ _ hp, PostS.shift f h⟩
                | cnt s1 => rw [qs] at h; exact fun σ2 H2 ι2 o2 f R2 => ⟨ι2, o2, s1, R2, f.io _ _ hp, PostS.shift f h⟩
                | brk s1 => rw [qs] at h; exact fun σ2 H2 ι2 o2 f R2 => h σ2 H2 ι2 o2 f R2
                | ret sl S => rw [qs] at h; exact h
                | exc x s1 => rw [qs] at h; exact h
                | stuck => rw [qs] at h; exact h
            · refine .inl ⟨at0.stop i (by omega), ?_⟩
              rw [List.getElem?_eq_none (by omega)] at h
              exact PostS.go R h
          · exact h.elim
      | _ => exact h.elim
    | _ => cases m <;> exact h.elim
/-! ### comprehensions -/
theorem setEach_get {β : Type} (g : Nat → β) : ∀ (vs : List Nat) (env : List β) (j : Nat), (vs.foldl (fun e i => e.set i (g i)) env)[j]? = if j ∈ vs ∧ j < env.length then some (g j) else env[j]?
  | [], env, j => by rw [if_neg (fun z => nomatch z.1)]; rfl
  | v :: vs, env, j => by
    rw [List.foldl_cons, setEach_get g vs, List.length_set]
    by_cases h1 : j ∈ vs ∧ j < env.length
    · rw [if_pos h1, if_pos ⟨List.mem_cons_of_mem _ h1.1, h1.2⟩]
    · rw [if_neg h1]
      by_cases h2 : j ∈ v :: vs ∧ j < env.length
      · have e : j = v := by
          rcases List.mem_cons.mp h2.1 with z | z
          · exact z
          · exact absurd ⟨z, h2.2⟩ h1
        subst e
        rw [if_pos h2, List.getElem?_set_self h2.2]
      · rw [if_neg h2]
        by_cases e : v = j
        · subst e
          rw [List.getElem?_eq_none (by rw [List.length_set]; exact Nat.le_of_not_lt fun z => h2 ⟨List.mem_cons_self .., z⟩), List.getElem?_eq_none (Nat.le_of_not_lt fun z => h2 ⟨List.mem_cons_self .., z⟩)]
        · rw [List.getElem?_set_ne e]
theorem setEach_len {β : Type} (g : Nat → β) : ∀ (vs : List Nat) (env : List β), (vs.foldl (fun e i => e.set i (g i)) env).length = env.length
  | [], _ => rfl
  | v :: vs, env => by rw [List.foldl_cons, setEach_len g vs, List.length_set]
theorem wipe_get : ∀ (vs : List Nat) (σ : L2.St) (j : Nat), (wipe σ vs)[j]? = if j ∈ vs ∧ j < σ.length then some none else σ[j]?
  | [], σ, j => by rw [if_neg (fun z => nomatch z.1)]; rfl
  | v :: vs, σ, j => by
    unfold wipe
    by_cases e : v = j
    · subst e
      by_cases h : v < σ.length
      · rw [List.getElem?_set_self (by rw [wipe_length]; exact h), if_pos ⟨List.mem_cons_self .., h⟩]
      · rw [List.getElem?_eq_none (by rw [List.length_set, wipe_length]; exact Nat.le_of_not_lt h), if_neg (fun z => h z.2), List.getElem?_eq_none (Nat.le_of_not_lt h)]
    · rw [List.getElem?_set_ne e, wipe_get vs]
      by_cases h : j ∈ vs ∧ j < σ.length
      · rw [if_pos h, if_pos ⟨List.mem_cons_of_mem _ h.1, h.2⟩]
      · rw [if_neg h, if_neg fun z => h ⟨(List.mem_cons.mp z.1).resolve_left (fun y => e y.symm), z.2⟩]
theorem Off.wipe {vs : List Nat} {σ σ' : L2.St} {l : List Nat} (h : Off l (wipe σ vs) σ') (hl : ∀ i ∈ l, i ∈ vs) : L2.wipe σ' vs = L2.wipe σ vs := by
  refine List.ext_getElem? fun j => ?_
  have hlen : σ'.length = σ.length := h.1.trans (wipe_length σ vs)
  rw [wipe_get, wipe_get, hlen]
  by_cases q : j ∈ vs ∧ j < σ.length
  · rw [if_pos q, if_pos q]
  · rw [if_neg q, if_neg q]
    by_cases z : j ∈ l
    · have : σ.length ≤ j := Nat.le_of_not_lt fun y => q ⟨hl j z, y⟩
      rw [List.getElem?_eq_none this, List.getElem?_eq_none (by rw [hlen]; exact this)]
    · rw [h.2 j z, wipe_get, if_neg q]
theorem Rel.wipe {vs : List Nat} (R : Rel C ι o H s σ) : Rel C ι o H { s with env := wipeD s.env vs } (L2.wipe σ vs) := by
  refine ⟨fun j sl e => ?_, ?_, R.sto⟩
  · have e' : (vs.foldl (fun (e : List (Option Sl)) i => e.set i ((fun _ => none) i)) s.env)[j]? = some (some sl) := e
    rw [setEach_get] at e'
    split at e'
    · cases e'
    · rename_i hn
      obtain ⟨v, e1, q⟩ := R.env j sl e'
      exact ⟨v, by rw [wipe_get, if_neg (by rw [← R.len]; exact hn)]; exact e1, q⟩
  · rw [wipe_length]
    exact (setEach_len (fun _ => none) vs s.env).trans R.len
theorem vsOk_at {env : List (Option Sl)} {vs : List Nat} {j : Nat} {sl : Sl} (h : vsOk env vs = true) (hj : j ∈ vs) (e : env[j]? = some (some sl)) : sl.1 = .val := by
  have := List.all_eq_true.mp h j hj
  rw [e] at this
  obtain ⟨m, d⟩ := sl
  cases m <;> first | rfl | cases this
/-- behind a comprehension -/
theorem Rel.back {vs : List Nat} {s1 : Stt} (R : Rel C ι o H s σ) (hv : vsOk s.env vs = true) (kk : Kept ι o H ι' o' H') (R' : Rel C ι' o' H' s1 (L2.wipe σ vs)) : Rel C ι' o' H' { s1 with env := back s.env s1.env vs } σ := by
  have hlen : s1.env.length = σ.length := R'.len.trans (wipe_length σ vs)
  refine ⟨fun j sl e => ?_, ?_, R'.sto⟩
  · have e' : (vs.foldl (fun (e : List (Option Sl)) i => e.set i ((fun i => (s.env[i]?).getD none) i)) s1.env)[j]? = some (some sl) := e
    rw [setEach_get] at e'
    split at e'
    · rename_i hj
      have e2 : s.env[j]? = some (some sl) := by
        have := Option.some.inj e'
        cases q : s.env[j]? with
        | none => simp only [q, Option.getD_none] at this; cases this
        | some x => simp only [q, Option.getD_some] at this; rw [this]
      obtain ⟨v, e3, q⟩ := R.env j sl e2
      have hm := vsOk_at hv hj.1 e2
      obtain ⟨m, d⟩ := sl
      have hm : m = .val := hm
      subst hm
      exact ⟨v, e3, IsF.mono kk q⟩
    · rename_i hn
      obtain ⟨v, e3, q⟩ := R'.env j sl e'
      rw [wipe_get, if_neg (by rw [← hlen]; exact hn)] at e3
      exact ⟨v, e3, q⟩
  · exact (setEach_len _ vs s1.env).trans hlen
/-- a passing list grows -/
theorem Rel.mutT {p : Addr} {x : HO} (R : Rel C ι o H s σ) (ho : o p = some .tmp) : Kept ι o H ι o (upd H p x) ∧ Rel C ι o (upd H p x) s σ := by
  have ne : ∀ a, o a ≠ some .tmp → a ≠ p := fun a h z => h (by rw [z]; exact ho)
  have kk : Kept ι o H ι o (upd H p x) := ⟨fun _ _ h => h, fun a y h n => ⟨by rw [upd_ne (ne a (by rw [n]; exact fun z => nomatch z))]; exact h, n⟩⟩
  refine ⟨kk, ⟨fun j sl e => ?_, R.len, ⟨fun n c q => ?_, fun a h => ?_, R.sto.len⟩⟩⟩
  · obtain ⟨u, e1, q⟩ := R.env j sl e
    refine ⟨u, e1, q.mono kk fun p2 y hx hw => ⟨?_, rfl⟩⟩
    rw [upd_ne (ne p2 ?_)]
    · exact hx
    · rcases hw with hw | hw | hw <;> rw [hw] <;> exact fun z => nomatch z
  · exact (R.sto.cell n c q).mono kk (fun p2 y hx hw => ⟨by rw [upd_ne (ne p2 (by rw [hw]; exact fun z => nomatch z))]; exact hx, rfl⟩) R.sto.own
  · by_cases z : a = p
    · rw [z, upd_same]; exact fun z => nomatch z
    · rw [upd_ne z]; exact R.sto.own a h
theorem Frm.updNew {p : Addr} {x : HO} (f : Frm ι o H ι' o' H') (n : H p = none) : Frm ι o H ι' o' (upd H' p x) := by
  have ne : ∀ a, H a ≠ none → a ≠ p := fun a h z => h (by rw [z]; exact n)
  exact ⟨f.io, fun a y h m => by rw [upd_ne (ne a (some_ne h))]; exact f.hp a y h m, f.tg, fun a h => by rw [upd_ne (ne a h)]; exact f.ex a h⟩
/-- no test -/
def yes : Ex := .con (.bl true)
theorem evE_yes (Φ : Nat → List Sl → List Cell → COut) (s : Stt) : evE Φ yes s = .ok (.val, .bl true) s := by unfold yes evE; rfl
def W0 : WX := fun _ _ _ _ => False
theorem noX_post {r : Out Sl} {W : WX} {f : Sl → Stt → Out Sl} (h : Post C W σ ι o H ((noX r).bind f) Q) : ∃ x s1, r = .ok x s1 ∧ Post C W σ ι o H (f x s1) Q := by
  cases r with
  | ok x s1 => exact ⟨x, s1, rfl, h⟩
  | exc x s1 => exact h.elim
  | stuck => exact h.elim
theorem noX_post2 {r : Out Sl} {W : WX} {f g : Sl → Stt → Out Sl} (h : Post C W σ ι o H (((noX r).bind f).bind g) Q) : ∃ x s1, r = .ok x s1 ∧ Post C W σ ι o H ((f x s1).bind g) Q := by
  cases r with
  | ok x s1 => exact ⟨x, s1, rfl, h⟩
  | exc x s1 => exact h.elim
  | stuck => exact h.elim
theorem rd_lc {vs : List Nat} {p : Pat} {it : Itr} {e c : Ex} (hsub : ∀ i ∈ patV p, i ∈ vs) (h : rdE C Φ W (.comp vs p it c e) σ H Q) : tLc (rdI C Φ W it) (rdG C p) (rdT C Φ W0 c) (rdE C Φ W0 e) vs σ H Q := by
  obtain ⟨ι, o, s, R, h⟩ := h
  unfold evE at h
  refine ⟨ι, o, s, R, ?_⟩
  cases q : itE Φ it s with
  | stuck => rw [q] at h; exact h
  | exc x s1 => rw [q] at h; exact h
  | ok src s1 =>
    rw [q] at h
    obtain ⟨m, d⟩ := src
    replace h : Post C W σ ι o H (compO vs p (evE Φ c) (evE Φ e) (m, d) s1) Q := h
    cases d with
    | lst ds =>
      replace h : Post C W σ ι o H (if vsOk s1.env vs then (compL vs p (evE Φ c) (evE Φ e) ds [] { s1 with env := wipeD s1.env vs }).bind fun r s' => .ok r { s' with env := back s1.env s'.env vs } else .stuck) Q := h
      intro J H1 ι1 o1 f1 R1 _ kE Dd hD
      split at h
      · rename_i hv
        replace h := Post.shift f1 h
        have n0 := own_none R1.sto.own hD
        refine ⟨fun i m H' => m = ds.length - i ∧ i ≤ ds.length ∧ ∃ ι o s acc ws, Frm ι1 o1 H1 ι o H' ∧ Rel C ι o H' s (wipe σ vs) ∧ H' Dd = some (.lst ws) ∧ o Dd = some .tmp ∧ IsFs C ι o H' acc ws ∧ Post C W σ ι1 o1 H1 ((compL vs p (evE Φ c) (evE Φ e) (ds.drop i) acc s).bind fun r s' => .ok r { s' with env := back s1.env s'.env vs }) Q,
          ⟨ds.length, rfl, Nat.zero_le _, ι1, tag o1 Dd (some .tmp), _, [], [], (Hold.new hD).frm, (R1.wipe (vs := vs)).new hD, upd_same, tag_same, .nil, h⟩, ?_⟩
        rintro i m H' ⟨rfl, hle, ι, o, s, acc, ws, fB, R2, hw, ho, ha, h⟩
        have at0 := kE ι o H' fB R2.sto.own
        by_cases hi : i < ds.length
        · refine .inr ⟨at0.go i hi, fun H' => ∃ ι o s acc ws, Frm ι1 o1 H1 ι o H' ∧ Rel C ι o H' s (wipe σ vs) ∧ H' Dd = some (.lst ws) ∧ o Dd = some .tmp ∧ IsFs C ι o H' acc ws ∧ Post C W σ ι1 o1 H1 ((compL vs p (evE Φ c) (evE Φ e) (ds.drop (i + 1)) acc s).bind fun r s' => .ok r { s' with env := back s1.env s'.env vs }) Q, fun H' w => ⟨ds.length - (i + 1), by omega, rfl, hi, w⟩, ?_⟩
          intro x H2 y
          obtain ⟨d, e1, hold, ow, hd⟩ := at0.yld i x H2 hi y
          have ed : ds.drop i = d :: ds.drop (i + 1) := by
            rw [List.drop_eq_getElem_cons hi]
            rw [List.getElem?_eq_getElem hi] at e1
            cases e1
            rfl
          rw [ed] at h
          unfold compL at h
          cases qb : bindP p d s.env with
          | none => simp only [qb] at h; exact h.elim
          | some env =>
            simp only [qb] at h
            refine ⟨ι, o, s, d, env, R2.hold hold ow rfl, hd, qb, fun σ' R3 off => ?_⟩
            have ew := off.wipe hsub
            refine ⟨ew, ι, o, _, R3, ?_⟩
            obtain ⟨bv, s2, ec, h⟩ := noX_post2 h
            rw [ec]
            intro v H3 ι3 o3 f3 R4 E3 _
            have fB3 := (fB.trans hold.frm).trans f3
            have w3 : H3 Dd = some (.lst ws) := f3.hp Dd _ ((hold.hp Dd _ hw).1) (by rw [ho]; exact fun n z => nomatch z)
            have o3D : o3 Dd = some .tmp := by
              rcases f3.tg Dd (some_ne (hold.hp Dd _ hw).1) with z | ⟨⟨n, z⟩, _⟩
              · rw [z, ho]
              · rw [ho] at z; cases z
            have ha3 : IsFs C ι3 o3 H3 acc ws := (ha.mono hold.kept).mono f3.kept
            obtain ⟨bm, bd⟩ := bv
            cases bm with
            | val =>
              cases bd with
              | bl bb =>
                cases E3
                refine ⟨bb, rfl, ?_⟩
                cases bb with
                | false =>
                  rw [if_neg (by decide)]
                  exact ⟨ι3, o3, _, acc, ws, fB3, by rw [← ew]; exact R4.wipe, w3, o3D, ha3, h⟩
                | true =>
                  rw [if_pos rfl]
                  refine ⟨ι3, o3, s2, R4, ?_⟩
                  obtain ⟨yv, s3, ee, h⟩ := noX_post2 h
                  unfold valO at ee
                  cases qe : evE Φ e s2 with
                  | stuck => rw [qe] at ee; cases ee
                  | exc x s3 => rw [qe] at ee; cases ee
                  | ok yl s4 =>
                    rw [qe] at ee
                    dsimp only [Out.bind] at ee
                    cases qt : toVal yl with
                    | none => rw [qt] at ee; cases ee
                    | some yd =>
                      rw [qt] at ee
                      cases ee
                      intro u H4 ι4 o4 f4 R5 E4 F4
                      obtain ⟨o5, f5, R6, hy, k5⟩ := conv f4 R5 E4 F4 qt
                      have w4 : H4 Dd = some (.lst ws) := f5.hp Dd _ w3 (by rw [o3D]; exact fun n z => nomatch z)
                      have o5D : o5 Dd = some .tmp := by
                        rcases f5.tg Dd (some_ne w3) with z | ⟨⟨n, z⟩, _⟩
                        · rw [z, o3D]
                        · rw [o3D] at z; cases z
                      dsimp only at h
                      split at h
                      · rename_i hl
                        have ha5 : IsFs C ι4 o5 H4 (acc ++ [yd]) (ws ++ [u]) := (ha3.mono f5.kept).append (.cons hy .nil)
                        refine ⟨ws, w4, by rw [← ha.length]; exact lim_lt hl, ?_⟩
                        obtain ⟨kk, R7⟩ := (R6.wipe (vs := vs)).mutT (x := .lst (ws ++ [u])) o5D
                        refine ⟨ι4, o5, _, acc ++ [yd], ws ++ [u], (fB3.trans f5).updNew hD, ?_, upd_same, o5D, ha5.mono kk, h⟩
                        rw [← ew]
                        exact R7
                      · exact h.elim
              | _ => exact h.elim
            | _ => exact h.elim
        · refine .inl ⟨at0.stop i (by omega), ?_⟩
          rw [List.drop_eq_nil_of_le (by omega)] at h
          exact h (.ref Dd) H' ι o fB (R1.back hv fB.kept R2) ⟨Dd, rfl, ho, ws, hw, ha⟩ (fun _ q e => by cases e; exact hD)
      · exact h.elim
    | _ => exact h.elim
theorem Okx.blk (K : Okx X C W k) {s : Shared} {H : Hp} {scope : Scope} {cenv : Env} {fp : List Addr} : Okx (X.blk s H scope cenv fp) C W0 k := ⟨K.kk, K.room, takes0, K.nd⟩
theorem sTs_nil : PTs X [] (rdT C Φ W yes) := ⟨fun pins s σ H Q I h => pts_nil.run pins s σ H Q I (by
  obtain ⟨ι, o, st, R, h⟩ := h
  unfold yes evE at h
  obtain ⟨b, e, q⟩ := Post.val R h (.bl true)
  cases e
  exact q)⟩
theorem sE_comp {elt iter : Expr} {ifs : List Expr} {scope : Scope} {own : List (Str × Nat)} {p : Pat} {it : Itr} {e c : Ex} {vs : List Nat} (hc : X.calm = true) (hN : X.N.Nodup) (hi : PI X tg iter (rdI C Φ W it)) (ok : BlkOk X.N X.env.scope scope own)
    (hg : ∀ (s : Shared) (H : Hp) (C' : Addr) (cl : List (Str × Addr)) (fp : List Addr), PG (X.blk s H scope (compEnvC scope cl C' X.env) fp) tg (rdG C p)) (ht : ∀ (s : Shared) (H : Hp) (C' : Addr) (cl : List (Str × Addr)) (fp : List Addr), PTs (X.blk s H scope (compEnvC scope cl C' X.env) fp) ifs (rdT C Φ W0 c))
    (he : ∀ (s : Shared) (H : Hp) (C' : Addr) (cl : List (Str × Addr)) (fp : List Addr), PE (X.blk s H scope (compEnvC scope cl C' X.env) fp) elt (rdE C Φ W0 e)) (hsub : ∀ i ∈ patV p, i ∈ own.map (·.2) := by decide) (hv : vs = own.map (·.2) := by rfl) (hs : ∀ x, foldedSetIterable iter X.env x = pure x := by intro _; rfl) :
    PE X (.ListComp elt [⟨tg, iter, ifs, 0⟩] scope pos) (rdE C Φ W (.comp vs p it c e)) := by
  subst hv
  exact PE.imp (pe_lc hc hN hi ok hg ht he hs) fun σ H Q h => rd_lc hsub h
theorem sS_setLc {i : Nat} {y : Str} {py : Pos} {elt iter : Expr} {ifs : List Expr} {scope : Scope} {own : List (Str × Nat)} {pos spos : Pos} {p : Pat} {it : Itr} {e c : Ex} {vs : List Nat} (hc : X.calm = true) (hN : X.N.Nodup) (hy : X.N[i]? = some y) (hyl : X.env.scope.names.lookup y = some .local)
    (hsw : swapsWith (.ListComp elt [⟨tg, iter, ifs, 0⟩] scope pos) (some (.Name y py)) spos.line X.env = pure true) (hi : PI X tg iter (rdI C Φ W it)) (ok : BlkOk X.N X.env.scope scope own)
    (hg : ∀ (s : Shared) (H : Hp) (C' : Addr) (cl : List (Str × Addr)) (fp : List Addr), PG (X.blk s H scope (compEnvC scope cl C' X.env) fp) tg (rdG C p)) (ht : ∀ (s : Shared) (H : Hp) (C' : Addr) (cl : List (Str × Addr)) (fp : List Addr), PTs (X.blk s H scope (compEnvC scope cl C' X.env) fp) ifs (rdT C Φ W0 c))
    (he : ∀ (s : Shared) (H : Hp) (C' : Addr) (cl : List (Str × Addr)) (fp : List Addr), PE (X.blk s H scope (compEnvC scope cl C' X.env) fp) elt (rdE C Φ W0 e)) (hsub : ∀ i ∈ patV p, i ∈ own.map (·.2) := by decide) (hv : vs = own.map (·.2) := by rfl) (hs : ∀ x, foldedSetIterable iter X.env x = pure x := by intro _; rfl) :
    PS X (.Assign [.Name y py] (.ListComp elt [⟨tg, iter, ifs, 0⟩] scope pos) spos) (rdS C Φ W (.asg (.nm i) (.comp vs p it c e))) := by
  subst hv
  refine PS.imp (ps_setLc hc hN hy hyl hsw hi ok hg ht he hs) fun D σ H => ?_
  rintro ⟨ι, o, s, R, h⟩
  unfold evS at h
  exact rd_lc hsub (rs_of R h fun x s1 v H1 ι1 o1 _ f1 R1 E1 F1 _ h0 => put_ok f1 R1 E1 F1 h0)
/-! ### name op= e; a list comes to the store -/
theorem sS_aug {i : Nat} {x : Str} {pos' : Pos} {op : Operator} {bo : BOp} {f : Int → Int → Int} (hN : X.N.Nodup) (hi : X.N[i]? = some x) (hx : Loc X.env.scope x) (ha : PE X a (rdE C Φ W e)) (ho : PIp X op (ipI f)) (hb : ∀ d d' r, augD bo d d' = some r → ∃ i j, d = .int i ∧ d' = .int j ∧ r = f i j)
    (hf : X.fn x = true ∨ X.env.scope.names.lookup x = some .local := by first | exact .inl rfl | exact .inr rfl | assumption) : PS X (.AugAssign (.Name x pos') op a pos) (rdS C Φ W (.aug i bo e)) := PS.imp (ps_aug hN hi hx ha ho hf) fun D σ H => by
  rintro ⟨ι, o, s, R, h⟩
  unfold evS at h
  split at h
  · rename_i d q
    obtain ⟨v, e1, hv⟩ := R.env i _ q
    refine ⟨v, e1, ?_⟩
    refine rs_of R h fun y s1 u H1 ι1 o1 _ f1 R1 E1 F1 h1 _ => ?_
    split at h1
    · rename_i r er
      obtain ⟨n, n', ed, ey, rfl⟩ := hb _ _ _ er
      subst ed
      refine ⟨n, n', by cases hv; rfl, res_int E1 ey, ?_⟩
      exact put_ok (sl := (.val, .int (f n n'))) Frm.refl R1 (IsF.int (f n n')) (fun z => nomatch z) h1
    · exact h1.elim
  · exact h.elim
theorem aug_add : ∀ d d' r, augD .add d d' = some r → ∃ i j, d = .int i ∧ d' = .int j ∧ r = (fun i j => i + j) i j := fun d d' r h => by
  cases d <;> first | (cases d' <;> first | exact ⟨_, _, rfl, rfl, (Option.some.inj h).symm⟩ | cases h) | cases h
theorem aug_sub : ∀ d d' r, augD .sub d d' = some r → ∃ i j, d = .int i ∧ d' = .int j ∧ r = (fun i j => i - j) i j := fun d d' r h => by
  cases d <;> first | (cases d' <;> first | exact ⟨_, _, rfl, rfl, (Option.some.inj h).symm⟩ | cases h) | cases h
theorem rd_glob (h : rdE C Φ W (.glob e) σ H Q) : rdE C Φ W e σ H Q := by
  obtain ⟨ι, o, s, R, h⟩ := h
  unfold evE at h
  refine rd_of R h fun x s1 v H1 ι1 o1 _ f1 R1 E1 F1 _ h0 => ?_
  obtain ⟨m, d⟩ := x
  have go : ∀ (c : Cell) (p : Addr), v = .ref p → o1 p = some .tmp → H p = none → (∀ ι', Kept ι1 o1 H1 ι' (tag o1 p (some (.cell s1.sto.length))) H1 → ι'[s1.sto.length]? = some p → CellOk C ι' (tag o1 p (some (.cell s1.sto.length))) H1 s1.sto.length c) → Post C W σ ι o H (.ok (.val, .ref s1.sto.length) { s1 with sto := s1.sto ++ [c] }) Q → Q v H1 := fun c p ev ht hp hc h0 => by
    obtain ⟨kk, R2⟩ := R1.retag (w := .cell s1.sto.length) ht
    have io : ∀ (n : Nat) (a : Addr), ι1[n]? = some a → (ι1 ++ [p])[n]? = some a := fun n a e => by
      rw [List.getElem?_append_left (List.getElem?_eq_some_iff.mp e).1]; exact e
    have hl : s1.sto.length = ι1.length := R1.sto.len
    have last : (ι1 ++ [p])[s1.sto.length]? = some p := by rw [hl, List.getElem?_append_right (Nat.le_refl _), Nat.sub_self]; rfl
    have k2 : Kept ι1 (tag o1 p (some (.cell s1.sto.length))) H1 (ι1 ++ [p]) (tag o1 p (some (.cell s1.sto.length))) H1 := ⟨io, fun a x h n => ⟨h, n⟩⟩
    refine h0 v H1 (ι1 ++ [p]) (tag o1 p (some (.cell s1.sto.length))) ⟨fun n a e => io n a (f1.io n a e), f1.hp, fun a ha => ?_, f1.ex⟩ ⟨fun j sl e => ?_, R2.len, ⟨fun n c' q => ?_, R2.sto.own, by rw [List.length_append, List.length_append, hl]; rfl⟩⟩ (by rw [ev]; exact .ref last) (fun z => nomatch z)
    · rw [tag_ne (fun z => ha (by rw [z]; exact hp))]
      exact f1.tg a ha
    · obtain ⟨u, e1, q⟩ := R2.env j sl e
      exact ⟨u, e1, q.mono k2 fun _ _ hx _ => ⟨hx, rfl⟩⟩
    · by_cases hn : n < s1.sto.length
      · rw [List.getElem?_append_left hn] at q
        exact (R2.sto.cell n c' q).mono k2 (fun _ _ hx _ => ⟨hx, rfl⟩) R2.sto.own
      · have en : n = s1.sto.length := by
          have := (List.getElem?_eq_some_iff.mp q).1
          rw [List.length_append] at this
          simp only [List.length_cons, List.length_nil] at this
          omega
        subst en
        rw [List.getElem?_append_right (Nat.le_refl _), Nat.sub_self] at q
        cases q
        exact hc _ ⟨fun n a e => io n a e, fun a x h n => kk.hp a x h n⟩ last
  cases m with
  | own =>
    cases d with
    | lst ds =>
      obtain ⟨p, ev, ht, l⟩ := E1
      exact go (.lst ds) p ev ht (F1 rfl p ev) (fun ι' k3 e3 => ⟨p, e3, tag_same, l.mono k3 fun _ z => z⟩) h0
    | dic ds =>
      obtain ⟨p, ev, ht, l⟩ := E1
      exact go (.dic ds) p ev ht (F1 rfl p ev) (fun ι' k3 e3 => ⟨p, e3, tag_same, l.mono k3 fun _ z => z⟩) h0
    | _ => exact h0.elim
  | _ => exact h0.elim
theorem sE_glob (ha : PE X a (rdE C Φ W e)) : PE X a (rdE C Φ W (.glob e)) := PE.imp ha fun _ _ _ => rd_glob
end
end
end Sr

/-! Sr, part 13: calls; a def as a whole. -/
namespace Sr
open PySem PySem.Spec PyProof.Rows L2
noncomputable section

/-- an argument, as the caller has it -/
def ArgOk (C : Ctx) (ι : List Addr) (o : Own) (H : Hp) : Sl → V → Prop
  | (.val, d), v => IsF C ι o H d v
  | (.lent, d), v => ResOk C ι o H (.pk, d) v
  | _, _ => False
section
variable {X : Cx} {C : Ctx} {Φ : Nat → List Sl → List Cell → COut} {W : WX} {k : Nat} {σ : L2.St} {ι ι' : List Addr} {o o' : Own} {H H' : Hp} {s : Stt} {D : Ends} {e e1 e2 e3 : Ex} {a b c tg : Expr} {pos : Pos} {Q : VK}
theorem ArgOk.mono {sl : Sl} {v : V} (f : Frm ι o H ι' o' H') (h : ArgOk C ι o H sl v) : ArgOk C ι' o' H' sl v := by
  obtain ⟨m, d⟩ := sl
  cases m with
  | val => exact IsF.mono f.kept h
  | lent => exact ResOk.mono f h
  | own => exact h.elim
  | pk => exact h.elim
def PostA (C : Ctx) (W : WX) (σ : L2.St) (ι : List Addr) (o : Own) (H : Hp) (r : OutL) (Q : List V → Hp → Prop) : Prop :=
  match r with
  | .ok as s => ∀ vs H' ι' o', Frm ι o H ι' o' H' → Rel C ι' o' H' s σ → Paired (ArgOk C ι' o' H') as vs → Q vs H'
  | .exc x s => ∀ H' ι' o' cls d, Frm ι o H ι' o' H' → Rel C ι' o' H' s σ → ExOk C ι' o' H' x cls d → W cls d σ H'
  | .stuck => False
def rdA (C : Ctx) (Φ : Nat → List Sl → List Cell → COut) (W : WX) (es : Exs) : TA := fun σ H Q => ∃ ι o s, Rel C ι o H s σ ∧ PostA C W σ ι o H (evA Φ es s) Q
theorem sA_nil : PA X [] (rdA C Φ W .nil) := PA.imp pa_nil fun σ H Q => by
  rintro ⟨ι, o, s, R, h⟩
  unfold evA at h
  exact h [] H ι o Frm.refl R .nil
theorem arg_of {sl : Sl} {s1 : Stt} {v : V} (f : Frm ι o H ι' o' H') (R : Rel C ι' o' H' s1 σ) (E : ResOk C ι' o' H' sl v) (F : Fr0 H sl v) : ∃ o2 x, argO (.ok sl s1) = .ok x s1 ∧ Frm ι o H ι' o2 H' ∧ Rel C ι' o2 H' s1 σ ∧ ArgOk C ι' o2 H' x v := by
  obtain ⟨m, d⟩ := sl
  cases m with
  | val => exact ⟨o', _, rfl, f, R, E⟩
  | pk => exact ⟨o', _, rfl, f, R, E⟩
  | lent =>
    refine ⟨o', _, rfl, f, R, ?_⟩
    cases d with
    | lst ds =>
      obtain ⟨p, ev, n, l⟩ := E
      exact ⟨p, ev, .inl n, l⟩
    | dic ds =>
      obtain ⟨p, ev, n, l⟩ := E
      exact ⟨p, ev, .inl n, l⟩
    | _ => exact E.elim
  | own =>
    obtain ⟨o2, f2, R2, hd, _⟩ := conv f R E F (d := d) rfl
    exact ⟨o2, _, rfl, f2, R2, hd⟩
theorem sA_cons {es : List Expr} {xs : Exs} (ha : PE X a (rdE C Φ W e)) (hr : PA X es (rdA C Φ W xs)) (hs : starEach (a :: es) X.env = (false, eval a X.env) :: starEach es X.env := by rfl) : PA X (a :: es) (rdA C Φ W (.cons e xs)) := PA.imp (pa_cons ha hr hs) fun σ H Q => by
  rintro ⟨ι, o, s, R, h⟩
  unfold evA at h
  refine ⟨ι, o, s, R, ?_⟩
  cases q : evE Φ e s with
  | stuck => unfold argO at h; rw [q] at h; exact h
  | exc x s1 => unfold argO at h; rw [q] at h; exact h
  | ok sl s1 =>
    rw [q] at h
    intro v H1 ι1 o1 f1 R1 E1 F1
    obtain ⟨o2, x, ex, f2, R2, A2⟩ := arg_of f1 R1 E1 F1
    rw [ex] at h
    refine ⟨ι1, o2, s1, R2, ?_⟩
    replace h : PostA C W σ ι o H (match evA Φ xs s1 with | .ok as s2 => .ok (x :: as) s2 | .exc x s2 => .exc x s2 | .stuck => .stuck) Q := h
    cases q2 : evA Φ xs s1 with
    | stuck => rw [q2] at h; exact h
    | exc x s2 => rw [q2] at h; exact fun H2 ι2 o3 cls d' g R3 E3 => h H2 ι2 o3 cls d' (f2.trans g) R3 E3
    | ok as s2 =>
      rw [q2] at h
      exact fun vs H2 ι2 o3 g R3 hf => h (v :: vs) H2 ι2 o3 (f2.trans g) R3 (.cons (A2.mono g) hf)
end
/-! ### a def, as its callers see it -/
def CPost (C : Ctx) (ι : List Addr) (o : Own) (H : Hp) (r : COut) (Q : VK) (E : XK) : Prop :=
  match r with
  | .ok r S => ∀ v H' ι' o', FrmT ι o H ι' o' H' → SOk C ι' o' H' S → ResOk C ι' o' H' r v → Fr0 H r v → (r.1 = .val ∨ r.1 = .own) → Q v H'
  | .exc x S => ∀ H' ι' o' cls d, FrmT ι o H ι' o' H' → SOk C ι' o' H' S → ExOk C ι' o' H' x cls d → E cls d H'
  | .stuck => False
def InOk (C : Ctx) (ι : List Addr) (o : Own) (H : Hp) (sl : Sl) (v : V) : Prop := (sl.1 = .val ∨ sl.1 = .lent) ∧ ∀ i, SlotOk C ι o H i sl v
def spF (C : Ctx) (Φ : Nat → List Sl → List Cell → COut) (f : Nat) : Sp := fun vs H Q E => ∃ ι o as S, Paired (InOk C ι o H) as vs ∧ (∀ (a : Addr) (i : Nat), o a ≠ some (.slot i)) ∧ SOk C ι o H S ∧ CPost C ι o H (Φ f as S) Q E
/-- a def's own syntax: parameters, slots, body -/
structure Fd where
  np : Nat
  nv : Nat
  body : Sms
def endF : SOut → COut
  | .nx s => .ok (.val, .non) s.sto
  | .ret sl S => .ok sl S
  | .exc x s => .exc x s.sto
  | _ => .stuck
def callF (T : Nat → Fd) : Nat → Nat → List Sl → List Cell → COut
  | 0, _, _, _ => .stuck
  | k + 1, f, as, S => if as.length = (T f).np then endF (evSs (callF T k) (T f).body ⟨as.map some ++ List.replicate ((T f).nv - as.length) none, S⟩) else .stuck
theorem pair_len {α β : Type} {F : α → β → Prop} : ∀ {as : List α} {bs : List β}, Paired F as bs → as.length = bs.length
  | _, _, .nil => rfl
  | _, _, .cons _ t => congrArg (· + 1) (pair_len t)
theorem pair_get {α β : Type} {F : α → β → Prop} : ∀ {as : List α} {bs : List β} {i : Nat} {a : α}, Paired F as bs → as[i]? = some a → ∃ b, bs[i]? = some b ∧ F a b
  | _, _, 0, _, .cons h _, e => by cases e; exact ⟨_, rfl, h⟩
  | _, _, i + 1, _, .cons _ t, e => pair_get (i := i) t e
theorem pair_map {α β : Type} {F G : α → β → Prop} (h : ∀ a b, F a b → G a b) : ∀ {as : List α} {bs : List β}, Paired F as bs → Paired G as bs
  | _, _, .nil => .nil
  | _, _, .cons q t => .cons (h _ _ q) (pair_map h t)
section
variable {P : Program} {w : World} {K : PySem.W.Frag} {mg : Str → Option Value} {base : Heap} {C : Ctx} {T : Nat → Fd} {g : Nat}
theorem fn_ok {x qual : Str} {st : Stmt} {f : Addr} {fd : FuncData} {N ps : List Str} {k : Nat} (hK : C.K = K) (F : Fun K x qual st f fd) (S : FnScope N ps (defScope st)) (hnp : (T g).np = ps.length) (hnv : (T g).nv = N.length)
    (hbody : ∀ (cdv : Value) (A : Around) (outer : List Env) (s : Shared) (H : Hp) (E : XK), Okf (cxOf (L2.CX P w) P w K mg base N qual (defScope st) f cdv A outer s H E) C (fun cls d _ H => E cls d H) (2 * k + 1) →
      PSs (cxOf (L2.CX P w) P w K mg base N qual (defScope st) f cdv A outer s H E) (defBody st) (rdSs C (callF T k) (fun cls d _ H => E cls d H) (T g).body)) :
    FnOk P w K mg base (L2.CX P w) (2 * (k + 1)) f fd ps (spF C (callF T (k + 1)) g) := by
  have len : ∀ vs H Q E, spF C (callF T (k + 1)) g vs H Q E → vs.length = ps.length := fun vs H Q E h => by
    obtain ⟨ι, o, as, St, ha, _, _, h⟩ := h
    unfold callF at h
    split at h
    · rename_i e
      rw [← (pair_len ha), e, hnp]
    · exact h.elim
  refine Fun.okX F S len fun cdv A outer s H vs Q E hr hsp => ⟨_, hbody cdv A outer s H E ⟨⟨hK.symm, hr, takes_of rfl rfl rfl rfl, S.nd⟩, passes_of rfl, rfl⟩, ?_⟩
  have hl := len vs H Q E hsp
  obtain ⟨ι, o, as, St, ha, ns, hS, h⟩ := hsp
  have hl2 := (pair_len ha)
  unfold callF at h
  rw [if_pos (by rw [hl2, hl, hnp])] at h
  have hpN : ps.length ≤ N.length := by
    have := congrArg List.length S.pre
    rw [List.length_take] at this
    omega
  refine ⟨ι, o, ⟨as.map some ++ List.replicate ((T g).nv - as.length) none, St⟩, ⟨fun i sl e => ?_, ?_, hS⟩, ?_⟩
  · dsimp only at e
    by_cases hi : i < as.length
    · rw [List.getElem?_append_left (by rw [List.length_map]; exact hi), List.getElem?_map] at e
      cases q : as[i]? with
      | none => rw [q] at e; cases e
      | some sl' =>
        rw [q] at e
        have e' : sl' = sl := Option.some.inj (Option.some.inj e)
        subst e'
        obtain ⟨v, ev, hv⟩ := pair_get ha q
        refine ⟨v, ?_, hv.2 i⟩
        unfold L2.start
        rw [List.getElem?_append_left (by rw [List.length_map, ← hl2]; exact hi), List.getElem?_map, ev]
        rfl
    · rw [List.getElem?_append_right (by rw [List.length_map]; omega), List.length_map] at e
      have := (List.getElem?_eq_some_iff.mp e)
      obtain ⟨h1, h2⟩ := this
      rw [List.getElem_replicate] at h2
      cases h2
  · show (as.map some ++ List.replicate ((T g).nv - as.length) none).length = (L2.start N vs).length
    unfold L2.start
    simp only [List.length_append, List.length_map, List.length_replicate]
    omega
  · cases q : evSs (callF T k) (T g).body ⟨as.map some ++ List.replicate ((T g).nv - as.length) none, St⟩ with
    | nx s1 => rw [q] at h; exact fun σ' H' ι' o' f R => h .non H' ι' o' f R.sto .non (fun z => nomatch z) (.inl rfl)
    | ret sl S' =>
      rw [q] at h
      exact fun v H' ι' o' f K' E1 F1 m => h v H' ι' o' f K' E1 (fun z p e => (F1 z p e).resolve_right fun ⟨i, y⟩ => ns p i y) m
    | exc x s1 => rw [q] at h; exact fun σ' H' ι' o' cls d f R E1 => h H' ι' o' cls d f R.sto E1
    | brk s1 => rw [q] at h; exact h.elim
    | cnt s1 => rw [q] at h; exact h.elim
    | stuck => rw [q] at h; exact h.elim
/-- at no depth -/
theorem fn_ok0 {k : Nat} {f : Addr} {fd : FuncData} {ps : List Str} : FnOk P w K mg base (L2.CX P w) k f fd ps (spF C (callF T 0) g) :=
  ⟨fun vs H Q E h => by obtain ⟨ι, o, as, St, _, _, _, h⟩ := h; exact h.elim, fun A outer s H args us vs Q E _ _ _ _ h => by obtain ⟨ι, o, as, St, _, _, _, h⟩ := h; exact h.elim⟩
end
/-! ### a call -/
/-- what the callee may not touch of the caller's -/
def outO (o : Own) : Own := fun a => match o a with
  | some (.slot _) => some .out
  | w => w
def bothO (o o' : Own) : Own := fun a => match o a with
  | some (.slot i) => some (.slot i)
  | _ => o' a
theorem outO_slot {o : Own} {a : Addr} {i : Nat} (h : o a = some (.slot i)) : outO o a = some .out := by unfold outO; rw [h]
theorem outO_else {o : Own} {a : Addr} (h : ∀ i, o a ≠ some (.slot i)) : outO o a = o a := by
  unfold outO
  split
  · rename_i i e; exact absurd e (h i)
  · rfl
theorem bothO_slot {o o' : Own} {a : Addr} {i : Nat} (h : o a = some (.slot i)) : bothO o o' a = some (.slot i) := by unfold bothO; rw [h]
theorem bothO_else {o o' : Own} {a : Addr} (h : ∀ i, o a ≠ some (.slot i)) : bothO o o' a = o' a := by
  unfold bothO
  split
  · rename_i i e; exact absurd e (h i)
  · rfl
theorem isSlot (w : Option Ow) : (∃ i, w = some (.slot i)) ∨ ∀ i, w ≠ some (.slot i) := by
  cases w with
  | none => exact .inr fun _ z => nomatch z
  | some x =>
    cases x with
    | slot i => exact .inl ⟨i, rfl⟩
    | _ => exact .inr fun _ z => nomatch z
section
variable {X : Cx} {C : Ctx} {Φ : Nat → List Sl → List Cell → COut} {W : WX} {k : Nat} {σ : L2.St} {ι ι' : List Addr} {o o' : Own} {H H' : Hp} {s : Stt} {D : Ends} {e e1 e2 e3 : Ex} {a b c tg : Expr} {pos : Pos} {Q : VK} {S : List Cell}
theorem outO_kept : Kept ι o H ι (outO o) H := ⟨fun _ _ h => h, fun a x h n => ⟨h, by rw [outO_else (by rw [n]; exact fun _ z => nomatch z)]; exact n⟩⟩
theorem outO_own (ow : ∀ a, o a ≠ none → H a ≠ none) : ∀ a, outO o a ≠ none → H a ≠ none := fun a h => by
  rcases isSlot (o a) with ⟨i, z⟩ | z
  · exact ow a (by rw [z]; exact fun z => nomatch z)
  · rw [outO_else z] at h; exact ow a h
theorem outO_sok (h : SOk C ι o H S) : SOk C ι (outO o) H S :=
  ⟨fun n c q => (h.cell n c q).mono outO_kept (fun p x hx hw => ⟨hx, outO_else (by rw [hw]; exact fun _ z => nomatch z)⟩) h.own, outO_own h.own, h.len⟩
theorem outO_in {sl : Sl} {v : V} (h : ArgOk C ι o H sl v) : InOk C ι (outO o) H sl v := by
  obtain ⟨m, d⟩ := sl
  have st : ∀ p, (Sta (o p) ∨ ∃ i, o p = some (.slot i)) → Sta (outO o p) := fun p h => by
    rcases h with h | ⟨i, h⟩
    · rw [outO_else (h.stab.nslot)]; exact h
    · rw [outO_slot h]; exact .inr rfl
  cases m with
  | val => exact ⟨.inl rfl, fun i => IsF.mono outO_kept h⟩
  | lent =>
    refine ⟨.inr rfl, fun i => ?_⟩
    cases d with
    | lst ds =>
      obtain ⟨p, ev, n, l⟩ := h
      exact ⟨p, ev, st p n, l.mono outO_kept fun _ z => z⟩
    | dic ds =>
      obtain ⟨p, ev, n, l⟩ := h
      exact ⟨p, ev, st p n, l.mono outO_kept fun _ z => z⟩
    | _ => exact h.elim
  | own => exact h.elim
  | pk => exact h.elim
/-- behind the callee, the caller's own view -/
theorem back_kept (ow : ∀ a, o a ≠ none → H a ≠ none) (f : FrmT ι (outO o) H ι' o' H') : Kept ι' o' H' ι' (bothO o o') H' := ⟨fun _ _ h => h, fun a x h n => ⟨h, by
  rcases isSlot (o a) with ⟨i, z⟩ | z
  · cases q : H a with
    | none => exact absurd q (ow a (by rw [z]; exact fun z => nomatch z))
    | some y =>
      have := (f.hp a y q (by rw [outO_slot z]; exact .inr (.inl rfl))).2
      rw [n, outO_slot z] at this
      cases this
  · rw [bothO_else z]; exact n⟩⟩
theorem back_frm (f : FrmT ι (outO o) H ι' o' H') : Frm ι o H ι' (bothO o o') H' where
  io := f.io
  hp := fun a x h n => by
    refine (f.hp a x h ?_).1
    rcases isSlot (o a) with ⟨i, z⟩ | z
    · rw [outO_slot z]; exact .inr (.inl rfl)
    · rw [outO_else z]
      cases q : o a with
      | none => exact .inl rfl
      | some y =>
        cases y with
        | slot i => exact absurd q (z i)
        | cell m => exact absurd q (n m)
        | out => exact .inr (.inl rfl)
        | tmp => exact .inr (.inr rfl)
  tg := fun a h => by
    rcases isSlot (o a) with ⟨i, z⟩ | z
    · exact .inl (by rw [bothO_slot z, z])
    · rw [bothO_else z]
      cases q : H a with
      | none => exact absurd q h
      | some x =>
        cases w : o a with
        | none => exact .inl (by rw [(f.hp a x q (by rw [outO_else z, w]; exact .inl rfl)).2, outO_else z, w])
        | some y =>
          cases y with
          | slot i => exact absurd w (z i)
          | cell m => exact .inl (f.tg a m h (by rw [outO_else z, w]))
          | out => exact .inl (by rw [(f.hp a x q (by rw [outO_else z, w]; exact .inr (.inl rfl))).2, outO_else z, w])
          | tmp => exact .inl (by rw [(f.hp a x q (by rw [outO_else z, w]; exact .inr (.inr rfl))).2, outO_else z, w])
  ex := f.ex
theorem back_ne (ow : ∀ a, o a ≠ none → H a ≠ none) (f : FrmT ι (outO o) H ι' o' H') {p : Addr} {w : Ow} (h : o' p = some w) (hw : w ≠ .out) : bothO o o' p = some w := by
  rcases isSlot (o p) with ⟨i, z⟩ | z
  · cases q : H p with
    | none => exact absurd q (ow p (by rw [z]; exact fun z => nomatch z))
    | some y =>
      have := (f.hp p y q (by rw [outO_slot z]; exact .inr (.inl rfl))).2
      rw [h, outO_slot z] at this
      exact absurd (Option.some.inj this) hw
  · rw [bothO_else z]; exact h
theorem back_own (ow : ∀ a, o a ≠ none → H a ≠ none) (f : FrmT ι (outO o) H ι' o' H') (ow' : ∀ a, o' a ≠ none → H' a ≠ none) : ∀ a, bothO o o' a ≠ none → H' a ≠ none := fun a h => by
  rcases isSlot (o a) with ⟨i, z⟩ | z
  · exact f.ex a (ow a (by rw [z]; exact fun z => nomatch z))
  · rw [bothO_else z] at h; exact ow' a h
theorem back_sok (ow : ∀ a, o a ≠ none → H a ≠ none) (f : FrmT ι (outO o) H ι' o' H') (h : SOk C ι' o' H' S) : SOk C ι' (bothO o o') H' S :=
  ⟨fun n c q => (h.cell n c q).mono (back_kept ow f) (fun p x hx hw => ⟨hx, (back_ne ow f hw (fun z => nomatch z)).trans hw.symm⟩) h.own, back_own ow f h.own, h.len⟩
theorem back_rel (R : Rel C ι o H s σ) (f : FrmT ι (outO o) H ι' o' H') (h : SOk C ι' o' H' S) : Rel C ι' (bothO o o') H' { s with sto := S } σ := by
  have g := back_frm f
  refine ⟨fun j sl e => ?_, R.len, back_sok R.sto.own f h⟩
  obtain ⟨v, e1, q⟩ := R.env j sl e
  refine ⟨v, e1, q.mono g.kept fun p x hx hw => ?_⟩
  rcases hw with hw | hw
  · exact ⟨g.hp p x hx (by rw [hw]; exact fun n z => nomatch z), by rw [bothO_slot hw, hw]⟩
  · exact g.toT.hp p x hx hw.stab
theorem sE_call {j : Nat} {x : Str} {p pos : Pos} {f : Addr} {fd : FuncData} {ps : List Str} {g : Nat} {e : Expr} {es : List Expr} {xs : Exs} (K : Okx X C W k) (F : FnOk X.prog X.w X.K X.mg X.base (L2.CX X.prog X.w) j f fd ps (spF C Φ g)) (hg : Gl X x) (hm : X.mg x = some (.ref f)) (hk : PySem.W.keepIn X.K (.ref f) = true) (hb : Binds X.K fd ps [])
    (ha : PA X (e :: es) (rdA C Φ W xs)) (hdb : (x == ("__debug__" : Str)) = false := by decide) (he : starEach (e :: es) X.env = (false, eval e X.env) :: starEach es X.env := by rfl) (hpl : (backTo pos (starEach es X.env)).any (·.1) = false := by rfl) (hj : j ≤ k := by omega) :
    PE X (.Call (.Name x p) (e :: es) [] pos) (rdE C Φ W (.call g xs)) := PE.imp (pe_callS F (K.room.mono hj) hg hm hk hb (fun σ => passAt K.tk σ) ha hdb he hpl) fun σ H Q => by
  rintro ⟨ι, o, s, R, h⟩
  unfold evE at h
  refine ⟨ι, o, s, R, ?_⟩
  cases q : evA Φ xs s with
  | stuck => rw [q] at h; exact h
  | exc x s1 => rw [q] at h; exact h
  | ok as s1 =>
    rw [q] at h
    intro vs H1 ι1 o1 f1 R1 hA
    replace h : Post C W σ ι o H (back1 s1 (Φ g as s1.sto)) Q := h
    refine ⟨ι1, outO o1, as, s1.sto, pair_map (fun _ _ => outO_in) hA, fun a i => ?_, outO_sok R1.sto, ?_⟩
    · rcases isSlot (o1 a) with ⟨j, z⟩ | z
      · rw [outO_slot z]; exact fun z => nomatch z
      · rw [outO_else z]; exact z i
    cases q2 : Φ g as s1.sto with
    | stuck => rw [q2] at h; exact h
    | exc x S' =>
      rw [q2] at h
      intro H2 ι2 o2 cls d f2 K2 E2
      refine h H2 ι2 (bothO o1 o2) cls d (f1.trans (back_frm f2)) (back_rel R1 f2 K2) ?_
      obtain ⟨B, dx, us, h1, h2, h3, h4, h5, h6⟩ := E2
      exact ⟨B, dx, us, h1, h2, h3, h4, ((back_kept R1.sto.own f2).hp dx _ h4 h5).2, h6.mono (back_kept R1.sto.own f2)⟩
    | ok r S' =>
      rw [q2] at h
      intro v H2 ι2 o2 f2 K2 E2 F2 m2
      refine h v H2 ι2 (bothO o1 o2) (f1.trans (back_frm f2)) (back_rel R1 f2 K2) ?_ (F2.back f1.ex)
      obtain ⟨m, d⟩ := r
      rcases m2 with m2 | m2
      · have m2 : m = .val := m2
        subst m2
        exact IsF.mono (back_kept R1.sto.own f2) E2
      · have m2 : m = .own := m2
        subst m2
        cases d with
        | lst ds =>
          obtain ⟨p, ev, ht, l⟩ := E2
          exact ⟨p, ev, back_ne R1.sto.own f2 ht (fun z => nomatch z), l.mono (back_kept R1.sto.own f2) fun _ z => z⟩
        | dic ds =>
          obtain ⟨p, ev, ht, l⟩ := E2
          exact ⟨p, ev, back_ne R1.sto.own f2 ht (fun z => nomatch z), l.mono (back_kept R1.sto.own f2) fun _ z => z⟩
        | _ => exact E2.elim
end
end
end Sr

/-! Sr, part 14: built-in calls in the code. -/
namespace Sr
open PySem PySem.Spec PyProof.Rows L2
section
variable {X : Cx} {C : Ctx} {Φ : Nat → List Sl → List Cell → COut} {W : WX} {k : Nat} {σ : L2.St} {ι ι' : List Addr} {o o' : Own} {H H' : Hp} {s : Stt} {e e1 e2 e3 : Ex} {a b c tg : Expr} {pos : Pos} {Q : VK}
theorem sE_biB {x : Str} {p pos : Pos} {e : Expr} {es : List Expr} {id : String} {bb : Blt} {xs : Exs} (hc : CallR X (.builtin id) (rBi C W bb)) (hg : Gl X x) (hm : X.mg x = none) (hv : bootBuiltins x = some (.builtin id)) (ha : PA X (e :: es) (rdP C Φ W xs)) (hn : x ≠ "__name__" := by decide) (hdb : (x == ("__debug__" : Str)) = false := by decide)
    (he : starEach (e :: es) X.env = (false, eval e X.env) :: starEach es X.env := by rfl) (hpl : (backTo pos (starEach es X.env)).any (·.1) = false := by rfl) : PE X (.Call (.Name x p) (e :: es) [] pos) (rdE C Φ W (.bi bb xs)) := PE.imp (pe_callB hc hg hm hv ha hn hdb he hpl) fun _ _ _ => rd_bi
theorem sE_biT {x : Str} {p pos : Pos} {e : Expr} {es : List Expr} {id : String} {bb : Blt} {xs : Exs} (hc : CallR X (.type id) (rBi C W bb)) (hg : Gl X x) (hm : X.mg x = none) (hv : bootBuiltins x = some (.type id)) (ha : PA X (e :: es) (rdP C Φ W xs)) (hn : x ≠ "__name__" := by decide) (hdb : (x == ("__debug__" : Str)) = false := by decide)
    (he : starEach (e :: es) X.env = (false, eval e X.env) :: starEach es X.env := by rfl) (hpl : (backTo pos (starEach es X.env)).any (·.1) = false := by rfl) : PE X (.Call (.Name x p) (e :: es) [] pos) (rdE C Φ W (.bi bb xs)) := PE.imp (pe_callTy hc hg hm hv ha hn hdb he hpl) fun _ _ _ => rd_bi
theorem kit_one (K : PySem.W.Frag) : ∀ t ∈ ["NoneType", "bool", "int", "str", "tuple", "list", "dict"], ∀ u ∈ ["bool", "int", "str", "tuple", "list", "dict"], PySem.W.kitOne K (.type t) (.type u) = some (isaT t u) := by
  intro t ht u hu
  simp only [List.mem_cons, List.not_mem_nil, or_false] at ht hu
  rcases ht with rfl | rfl | rfl | rfl | rfl | rfl | rfl <;> rcases hu with rfl | rfl | rfl | rfl | rfl | rfl <;> rfl
theorem tyD_mem {S : List Cell} {sl : Sl} {t : String} (h : tyD S sl = some t) : t ∈ ["NoneType", "bool", "int", "str", "tuple", "list", "dict"] := by
  unfold tyD at h
  split at h
  · split at h <;> cases h <;> decide
  all_goals (cases h <;> decide)
theorem sE_isi {p p2 pos : Pos} {T : String} {y : Str} (K : Okx X C W k) (hg : Gl X "isinstance") (hm : X.mg "isinstance" = none) (ha : PE X a (rdE C Φ W e)) (hy : PE X (.Name y p2) (tC (.ty T))) (hT : T ∈ ["bool", "int", "str", "tuple", "list", "dict"] := by decide)
    (h1 : starEach [a, .Name y p2] X.env = (false, eval a X.env) :: starEach [.Name y p2] X.env := by rfl) (h2 : starEach [.Name y p2] X.env = (false, eval (.Name y p2) X.env) :: starEach [] X.env := by rfl) (hpl : (backTo pos (starEach [.Name y p2] X.env)).any (·.1) = false := by rfl) :
    PE X (.Call (.Name "isinstance" p) [a, .Name y p2] [] pos) (rdE C Φ W (.bi (.isinst [T]) (.cons e .nil))) := PE.imp (pe_callB call_isi hg hm boot_isinstance (pa_cons ha (pa_cons hy pa_nil h2) h1) (he := h1) (hpl := hpl)) fun σ H Q => by
  rintro ⟨ι, o, s, R, h⟩
  unfold evE evP at h
  refine ⟨ι, o, s, R, ?_⟩
  cases q : evE Φ e s with
  | stuck => rw [q] at h; exact h
  | exc x s1 => rw [q] at h; exact h
  | ok sl s1 =>
    rw [q] at h
    intro v H1 ι1 o1 f1 R1 E1 F1
    unfold evP at h
    replace h : Post C W σ ι o H (lift s1 (biV s1.sto (.isinst [T]) [sl])) Q := h
    obtain ⟨r, er, h⟩ := post_lift h
    replace er : (tyD s1.sto sl).map (fun t => vB ([T].any (isaT t))) = some r := er
    obtain ⟨t, et, e2⟩ := Option.map_eq_some_iff.mp er
    subst e2
    refine ⟨v, .ty T, .type t, .type T, isaT t T, rfl, .ty T, by rw [K.kk]; exact ty_is R1.sto E1 et, kit_one _ _ (tyD_mem et) _ hT, ?_⟩
    have e3 : vB ([T].any (isaT t)) = (.val, .bl (isaT t T)) := by
      simp only [vB, List.any_cons, List.any_nil, Bool.or_false]
    rw [e3] at h
    exact Post.val R1 (Post.shift f1 h) (.bl _)
/-- list(range(a, b)) -/
theorem sE_listRg2 {p p2 p3 : Pos} (hc : X.calm = true) (hg : Gl X "list") (hm : X.mg "list" = none) (hg2 : Gl X "range") (hm2 : X.mg "range" = none) (ha : PE X a (rdE C Φ W e1)) (hb : PE X b (rdE C Φ W e2))
    (na : starEach [a, b] X.env = (false, eval a X.env) :: starEach [b] X.env := by rfl) (nb : starEach [b] X.env = (false, eval b X.env) :: starEach [] X.env := by rfl) (hp : (backTo p3 (starEach [b] X.env)).any (·.1) = false := by rfl) (nc : starEach [.Call (.Name "range" p2) [a, b] [] p3] X.env = (false, eval (.Call (.Name "range" p2) [a, b] [] p3) X.env) :: starEach [] X.env := by rfl) :
    PE X (.Call (.Name "list" p) [.Call (.Name "range" p2) [a, b] [] p3] [] pos) (rdE C Φ W (.bi .rangeL (.cons e1 (.cons e2 .nil)))) := PE.imp (pe_listRg hc hg hm (prg_2 hg2 hm2 ha hb na nb (hp := hp)) nc) fun σ H Q => by
  rintro ⟨ι, o, s, R, h⟩
  unfold evE evP at h
  refine ⟨ι, o, s, R, ?_⟩
  cases q : evE Φ e1 s with
  | stuck => rw [q] at h; exact h
  | exc x s1 => rw [q] at h; exact h
  | ok sl s1 =>
    rw [q] at h
    intro v H1 ι1 o1 f1 R1 E1 F1
    unfold evP at h
    refine ⟨ι1, o1, s1, R1, ?_⟩
    replace h := Post.shift f1 h
    cases q2 : evE Φ e2 s1 with
    | stuck => simp only [q2] at h; exact h
    | exc x s1 => simp only [q2] at h; exact h
    | ok sl2 s2 =>
      simp only [q2] at h
      intro u H2 ι2 o2 f2 R2 E2 F2
      unfold evP at h
      replace h : Post C W σ ι1 o1 H1 (lift s2 (biV s2.sto .rangeL [sl, sl2])) Q := h
      obtain ⟨r, er, h⟩ := post_lift h
      replace er : rngL sl sl2 = some r := er
      unfold rngL at er
      split at er
      · rename_i pq eq
        obtain ⟨q1, q2'⟩ := int2D_some eq
        split at er
        · rename_i hb
          cases er
          refine ⟨pq.1, pq.2, res_int E1 q1, res_int E2 q2', ⟨hb.1.2, hb.1.1, hb.2.1.2, hb.2.1.1, hb.2.2⟩, fun q n => Post.newL R2 (Post.shift f2 h) n ?_⟩
          have : ∀ (n : Nat) (lo : Int), IsFs C ι2 o2 H2 ((List.range n).map fun (k : Nat) => Sr.D.int (lo + (k : Nat) * 1)) ((List.range n).map fun (i : Nat) => V.int (lo + (i : Nat))) := fun n lo => by
            generalize List.range n = l
            induction l with
            | nil => exact .nil
            | cons x l ih =>
              rw [List.map_cons, List.map_cons]
              refine .cons ?_ ih
              rw [Int.mul_one]
              exact .int _
          exact this _ _
        · cases er
      · cases er
end
end Sr

/-! Sr, part 15: short forms for the printed terms; the law's end. -/
namespace Sr
open PySem PySem.Spec PyProof.Rows L2
section
variable {X : Cx} {C : Ctx} {Φ : Nat → List Sl → List Cell → COut} {W : WX} {k : Nat} {σ : L2.St} {ι ι' : List Addr} {o o' : Own} {H H' : Hp} {s : Stt} {e e1 e2 e3 : Ex} {a b c tg : Expr} {pos : Pos} {Q : VK}
theorem tyN {y : Str} {T : String} {p2 : Pos} (hm : X.mg y = none) (hv : bootBuiltins y = some (.type T)) (hg : Gl X y := by rfl) (hn : y ≠ "__name__" := by decide) (hdb : (y == ("__debug__" : Str)) = false := by decide) : PE X (.Name y p2) (tC (.ty T)) :=
  ⟨fun pins s σ H Q I h => ld_blt I hg hm hv ⟨.ty T, H, I, rfl, h⟩ hn hdb⟩
theorem vV (i : Nat) {x : Str} {pos : Pos} (h : PE X (.Name x pos) (tVar i)) : PE X (.Name x pos) (rdE C Φ W (.var i)) := sE_var i h
theorem gN (K : Okx X C W k) (i : Nat) {x : Str} (hi : X.N[i]? = some x := by rfl) (hx : Loc X.env.scope x := by first | exact Or.inl rfl | exact Or.inr rfl) (hf : X.fn x = true ∨ X.env.scope.names.lookup x = some .local := by first | exact .inl rfl | exact .inr rfl) : PG X (.Name x pos) (rdG C (.nm i)) := sG_name (pg_name K.nd hi hx hf)
theorem setN (K : Okx X C W k) (i : Nat) {x : Str} {pos' : Pos} (ha : PE X a (rdE C Φ W e)) (hi : X.N[i]? = some x := by rfl) (hx : Loc X.env.scope x := by first | exact Or.inl rfl | exact Or.inr rfl) (hs : swapsWith a (some (.Name x pos')) pos.line X.env = pure false := by rfl) (hf : X.fn x = true ∨ X.env.scope.names.lookup x = some .local := by first | exact .inl rfl | exact .inr rfl) :
    PS X (.Assign [.Name x pos'] a pos) (rdS C Φ W (.asg (.nm i) e)) := sS_set K.nd hi hx ha hs hf
theorem retV (i : Nat) (h : PE X a (tVar i)) : PS X (.Return (some a) pos) (rdS C Φ W (.ret (.var i))) := sS_ret (sE_var i h) fun j e => by cases e; exact h
theorem retE (ha : PE X a (rdE C Φ W e)) (hv : ∀ i, e ≠ .var i := by intro _ z; cases z) : PS X (.Return (some a) pos) (rdS C Φ W (.ret e)) := sS_ret ha fun j z => absurd z (hv j)
theorem augN (K : Okx X C W k) (i : Nat) {x : Str} {pos' : Pos} {op : Operator} {bo : BOp} {f : Int → Int → Int} (ha : PE X a (rdE C Φ W e)) (ho : PIp X op (ipI f)) (hb : ∀ d d' r, augD bo d d' = some r → ∃ i j, d = .int i ∧ d' = .int j ∧ r = f i j) (hi : X.N[i]? = some x := by rfl) (hx : Loc X.env.scope x := by first | exact Or.inl rfl | exact Or.inr rfl)
    (hf : X.fn x = true ∨ X.env.scope.names.lookup x = some .local := by first | exact .inl rfl | exact .inr rfl) : PS X (.AugAssign (.Name x pos') op a pos) (rdS C Φ W (.aug i bo e)) := sS_aug K.nd hi hx ha ho hb hf
end
/-! ### the end -/
section
variable {K : PySem.W.Frag} {C : Ctx} {T : Nat → Fd} {n g : Nat}
theorem sp_law (hK : C.K = K) {H : Hp} {a : Addr} {ns : List Int} (hO : Only H) (hS : SqL K H a (ns.map V.int)) (h : ∃ S, callF T n g [(.val, .scr (ns.map D.int))] [] = .ok (.val, .bl true) S) : spF C (callF T n) g [.ref a] H (fun v _ => v = .bl true) fun _ _ _ => False := by
  obtain ⟨S, h⟩ := h
  have hints : ∀ (o : Own) (l : List Int), IsFs C [] o H (l.map Sr.D.int) (l.map V.int) := fun o l => by
    induction l with
    | nil => exact .nil
    | cons x l ih => exact .cons (.int x) ih
  refine ⟨[], fun _ => none, [(.val, .scr (ns.map Sr.D.int))], [], .cons ⟨.inl rfl, fun i => ?_⟩ .nil, ?_, ⟨fun n c e => by simp at e, fun a z => absurd rfl z, rfl⟩, ?_⟩
  · rcases hS with hS | hS
    · exact IsF.scr rfl hS (hints _ ns)
    · exact IsF.scrK (by rw [hK]; exact hS) (hints _ ns)
  · intro a i z; cases z
  · rw [h]
    intro v H' ι' o' f K' E _ _
    cases E
    rfl
end
theorem cx0 {P : Program} {w : World} {H : Hp} {s : Shared} {e : Value} {s' : Shared} (h : L2.CX P w [] H s (fun _ _ _ => False) e s') : False := by
  obtain ⟨_, _, _, _, _, _, _, _, _, _, _, _, z⟩ := h
  exact z
end Sr

/-! Sr, part 16: the interpreter's plain side: equality of data, loops by an invariant, lists of a comprehension. -/
namespace Sr
open PySem PySem.Spec PyProof.Rows L2
/-! ### == of equal data -/
def Pl (n : Nat) (d : D) : Prop := ∃ p, toPy d = some p ∧ p.canLay0 = true ∧ p.depth ≤ n
theorem Pl.non {n : Nat} : Pl n .non := ⟨_, rfl, rfl, Nat.zero_le _⟩
theorem Pl.int {n : Nat} (i : Int) : Pl n (.int i) := ⟨_, rfl, rfl, Nat.zero_le _⟩
theorem Pl.bl {n : Nat} (i : Bool) : Pl n (.bl i) := ⟨_, rfl, rfl, Nat.zero_le _⟩
theorem Pl.str {n : Nat} {s : Str} (h : (PyData.str s).canLay0 = true) : Pl n (.str s) := ⟨_, rfl, h, Nat.zero_le _⟩
theorem Pl.all {n : Nat} : ∀ {ds : List D}, (∀ d ∈ ds, Pl n d) → ∃ ps, toPys ds = some ps ∧ PyData.canLayAll0 ps = true ∧ PyData.depthAll ps ≤ n
  | [], _ => ⟨[], rfl, rfl, Nat.zero_le _⟩
  | d :: ds, h => by
    obtain ⟨p, h1, h2, h3⟩ := h d (List.mem_cons_self ..)
    obtain ⟨ps, g1, g2, g3⟩ := Pl.all fun x hx => h x (List.mem_cons_of_mem _ hx)
    refine ⟨p :: ps, by unfold toPys; rw [h1, g1], by unfold PyData.canLayAll0; rw [h2, g2]; rfl, ?_⟩
    unfold PyData.depthAll
    omega
theorem Pl.lst {n : Nat} {ds : List D} (h : ∀ d ∈ ds, Pl n d) : Pl (n + 1) (.lst ds) := by
  obtain ⟨ps, g1, g2, g3⟩ := Pl.all h
  exact ⟨.list ps, by unfold toPy; rw [g1]; rfl, by unfold PyData.canLay0; exact g2, by unfold PyData.depth; omega⟩
theorem Pl.tup {n : Nat} {ds : List D} (h : ∀ d ∈ ds, Pl n d) : Pl (n + 1) (.tup ds) := by
  obtain ⟨ps, g1, g2, g3⟩ := Pl.all h
  exact ⟨.tuple ps, by unfold toPy; rw [g1]; rfl, by unfold PyData.canLay0; exact g2, by unfold PyData.depth; omega⟩
theorem Pl.mono {n m : Nat} {d : D} (h : Pl n d) (l : n ≤ m) : Pl m d := by
  obtain ⟨p, h1, h2, h3⟩ := h
  exact ⟨p, h1, h2, Nat.le_trans h3 l⟩
mutual
theorem eqv_self : ∀ (p : PyData), p.canLay0 = true → PyData.eqv p p = true
  | .none, _ => rfl
  | .bool a, _ => by unfold PyData.eqv; exact beq_self_eq_true a
  | .int a, _ => by unfold PyData.eqv; exact beq_self_eq_true a
  | .str a, _ => by unfold PyData.eqv; exact beq_self_eq_true a
  | .list xs, h => by unfold PyData.eqv; exact eqvAll_self xs (by unfold PyData.canLay0 at h; exact h)
  | .tuple xs, h => by unfold PyData.eqv; exact eqvAll_self xs (by unfold PyData.canLay0 at h; exact h)
  | .dict _, h => by unfold PyData.canLay0 at h; cases h
theorem eqvAll_self : ∀ (ps : List PyData), PyData.canLayAll0 ps = true → PyData.eqvAll ps ps = true
  | [], _ => by unfold PyData.eqvAll; rfl
  | x :: xs, h => by
    unfold PyData.canLayAll0 at h
    have h' := Bool.and_eq_true_iff.mp h
    unfold PyData.eqvAll
    rw [eqv_self x h'.1, eqvAll_self xs h'.2]
    rfl
end
theorem Pl.shaped {d : D} {p : PyData} (h : Pl 64 d) (e : toPy d = some p) : SeqAt.shaped p = true ∧ p.canLay0 = true := by
  obtain ⟨q, h1, h2, h3⟩ := h
  rw [e] at h1
  cases h1
  unfold SeqAt.shaped
  exact ⟨by rw [h2, decide_eq_true h3]; rfl, h2⟩
theorem eqD_of {S : List Cell} {a b : Sl} {d : D} (ha : drf S a = d) (hb : drf S b = d) (h : Pl 64 d) : eqD S a b = some true := by
  obtain ⟨p, e, _⟩ := id h
  obtain ⟨s1, s2⟩ := h.shaped e
  unfold eqD
  rw [ha, hb, e]
  dsimp only
  rw [if_pos ⟨s1, s1⟩, eqv_self p s2]
theorem drf_lst (S : List Cell) (m : Md) (ds : List D) : drf S (m, .lst ds) = .lst ds := by cases m <;> rfl
theorem drf_tup (S : List Cell) (m : Md) (ds : List D) : drf S (m, .tup ds) = .tup ds := by cases m <;> rfl
theorem drf_int (S : List Cell) (m : Md) (i : Int) : drf S (m, .int i) = .int i := by cases m <;> rfl
theorem eqD_int (S : List Cell) (m m' : Md) (i j : Int) : eqD S (m, .int i) (m', .int j) = some (i == j) := by
  unfold eqD
  rw [drf_int, drf_int]
  rfl
theorem eqD_lst {S : List Cell} {m m' : Md} {ds es : List D} (e : ds = es) (h : ∀ d ∈ ds, Pl 63 d) : eqD S (m, .lst ds) (m', .lst es) = some true := by
  subst e
  exact eqD_of (drf_lst S m ds) (drf_lst S m' ds) (Pl.lst h)
theorem eqD_tup {S : List Cell} {m m' : Md} {ds es : List D} (e : ds = es) (h : ∀ d ∈ ds, Pl 63 d) : eqD S (m, .tup ds) (m', .tup es) = some true := by
  subst e
  exact eqD_of (drf_tup S m ds) (drf_tup S m' ds) (Pl.tup h)
theorem pl_ints {n : Nat} {l : List Int} : ∀ d ∈ l.map D.int, Pl n d := fun d hd => by
  obtain ⟨i, _, rfl⟩ := List.mem_map.mp hd
  exact .int i
/-! ### loops -/
/-- a for that runs through -/
theorem forL_inv {p : Pat} {b : Stt → SOut} (I : Nat → Stt → Prop) : ∀ (ds : List D) (i : Nat) (s : Stt), I i s →
    (∀ k s d, i ≤ k → I k s → ds[k - i]? = some d → ∃ env s1, bindP p d s.env = some env ∧ (b { s with env := env } = .nx s1 ∨ b { s with env := env } = .cnt s1) ∧ I (k + 1) s1) →
    ∃ s', forL p b ds s = .nx s' ∧ I (i + ds.length) s'
  | [], i, s, h, _ => ⟨s, rfl, h⟩
  | d :: ds, i, s, h, st => by
    obtain ⟨env, s1, h1, h2, h3⟩ := st i s d (Nat.le_refl _) h (by rw [Nat.sub_self]; rfl)
    obtain ⟨s', g1, g2⟩ := forL_inv I ds (i + 1) s1 h3 fun k s d' hk hI hd => st k s d' (by omega) hI (by
      rw [show k - i = (k - (i + 1)) + 1 by omega]
      simpa using hd)
    refine ⟨s', ?_, by rw [List.length_cons, show i + (ds.length + 1) = i + 1 + ds.length by omega]; exact g2⟩
    unfold forL
    rw [h1]
    dsimp only
    rcases h2 with h2 | h2 <;> rw [h2] <;> exact g1
/-- a walk over a list of the store that runs through -/
theorem forC_inv {n : Nat} {en : Bool} {p : Pat} {b : Stt → SOut} {ds : List D} (I : Nat → Stt → Prop) (hS : ∀ k s, I k s → s.sto[n]? = some (.lst ds))
    (st : ∀ k s d, I k s → (if en then enumD 0 ds else ds)[k]? = some d → ∃ env s1, bindP p d s.env = some env ∧ (b { s with env := env } = .nx s1 ∨ b { s with env := env } = .cnt s1) ∧ I (k + 1) s1) :
    ∀ (f k : Nat) (s : Stt), I k s → ds.length < f + k → k ≤ ds.length → ∃ s', forC n en p b f k s = .nx s' ∧ I ds.length s'
  | 0, k, s, _, h, h2 => absurd h (by omega)
  | f + 1, k, s, hI, h, h2 => by
    have hl : (if en then enumD 0 ds else ds).length = ds.length := by
      cases en
      · rfl
      · exact enumD_len 0 ds
    unfold forC
    rw [hS k s hI]
    dsimp only
    by_cases hk : k < ds.length
    · cases q : (if en then enumD 0 ds else ds)[k]? with
      | none => rw [List.getElem?_eq_none_iff, hl] at q; omega
      | some d =>
        obtain ⟨env, s1, h1, h3, h4⟩ := st k s d hI q
        obtain ⟨s', g1, g2⟩ := forC_inv I hS st f (k + 1) s1 h4 (by omega) (by omega)
        refine ⟨s', ?_, g2⟩
        dsimp only
        rw [h1]
        dsimp only
        rcases h3 with h3 | h3 <;> rw [h3] <;> exact g1
    · have e : k = ds.length := by omega
      subst e
      rw [List.getElem?_eq_none (by rw [hl]; exact Nat.le_refl _)]
      exact ⟨s, rfl, hI⟩
/-- a comprehension that makes a value of each item and changes nothing -/
theorem compL_pure {vs : List Nat} {p : Pat} {c e : Stt → Out Sl} {S : List Cell} {env0 : List (Option Sl)} (f : D → D) : ∀ (ds acc : List D),
    (∀ d ∈ ds, ∃ env1 env2 r, bindP p d env0 = some env1 ∧ c ⟨env1, S⟩ = .ok (.val, .bl true) ⟨env1, S⟩ ∧ e ⟨env1, S⟩ = .ok r ⟨env2, S⟩ ∧ toVal r = some (f d) ∧ wipeD env2 vs = env0) →
    acc.length + ds.length ≤ lim → compL vs p c e ds acc ⟨env0, S⟩ = .ok (.own, .lst (acc ++ ds.map f)) ⟨env0, S⟩
  | [], acc, _, _ => by unfold compL; rw [List.map_nil, List.append_nil]
  | d :: ds, acc, h, hl => by
    obtain ⟨env1, env2, r, h1, h2, h3, h4, h5⟩ := h d (List.mem_cons_self ..)
    unfold compL
    dsimp only
    rw [h1]
    dsimp only
    rw [h2]
    dsimp only [noX, Out.bind]
    unfold valO
    rw [h3]
    dsimp only [Out.bind]
    rw [h4]
    dsimp only
    rw [if_pos (by rw [List.length_cons] at hl; omega), h5, compL_pure f ds (acc ++ [f d]) (fun x hx => h x (List.mem_cons_of_mem _ hx)) (by rw [List.length_append]; rw [List.length_cons] at hl; simp only [List.length_cons, List.length_nil]; omega), List.map_cons, List.append_assoc]
    rfl
/-- .. of those items that pass -/
theorem compL_filter {vs : List Nat} {p : Pat} {c e : Stt → Out Sl} {S : List Cell} {env0 : List (Option Sl)} (t : D → Bool) (f : D → D) : ∀ (ds acc : List D),
    (∀ d ∈ ds, ∃ env1 env2 env3 r, bindP p d env0 = some env1 ∧ c ⟨env1, S⟩ = .ok (.val, .bl (t d)) ⟨env2, S⟩ ∧ wipeD env2 vs = env0 ∧ (t d = true → e ⟨env2, S⟩ = .ok r ⟨env3, S⟩ ∧ toVal r = some (f d) ∧ wipeD env3 vs = env0)) →
    acc.length + ds.length ≤ lim → compL vs p c e ds acc ⟨env0, S⟩ = .ok (.own, .lst (acc ++ (ds.filter t).map f)) ⟨env0, S⟩
  | [], acc, _, _ => by unfold compL; rw [List.filter_nil, List.map_nil, List.append_nil]
  | d :: ds, acc, h, hl => by
    obtain ⟨env1, env2, env3, r, h1, h2, h5, h3⟩ := h d (List.mem_cons_self ..)
    have hl' : acc.length + ds.length + 1 ≤ lim := by rw [List.length_cons] at hl; omega
    unfold compL
    dsimp only
    rw [h1]
    dsimp only
    rw [h2]
    dsimp only [noX, Out.bind]
    cases q : t d with
    | false =>
      dsimp only
      rw [h5, compL_filter t f ds acc (fun x hx => h x (List.mem_cons_of_mem _ hx)) (by omega), List.filter_cons_of_neg (by rw [q]; exact Bool.false_ne_true)]
    | true =>
      obtain ⟨h6, h7, h8⟩ := h3 q
      dsimp only
      unfold valO
      rw [h6]
      dsimp only [noX, Out.bind]
      rw [h7]
      dsimp only
      rw [if_pos (by omega), h8, compL_filter t f ds (acc ++ [f d]) (fun x hx => h x (List.mem_cons_of_mem _ hx)) (by rw [List.length_append]; simp only [List.length_cons, List.length_nil]; omega), List.filter_cons_of_pos q, List.map_cons, List.append_assoc]
      rfl
theorem callF_succ (T : Nat → Fd) (k f : Nat) (as : List Sl) (S : List Cell) : callF T (k + 1) f as S = if as.length = (T f).np then endF (evSs (callF T k) (T f).body ⟨as.map some ++ List.replicate ((T f).nv - as.length) none, S⟩) else .stuck := rfl
/-! ### small facts that a walk asks for -/
theorem atI_0 {α : Type} (x : α) (xs : List α) : atI (x :: xs) 0 = some x := by
  unfold atI ixN
  rw [if_pos (by decide), if_pos (by rw [List.length_cons]; omega)]
  rfl
theorem atI_1 {α : Type} (x y : α) (xs : List α) : atI (x :: y :: xs) 1 = some y := by
  unfold atI ixN
  rw [if_pos (by decide), if_pos (by rw [List.length_cons, List.length_cons]; omega)]
  rfl
theorem atI_2 {α : Type} (x y z : α) (xs : List α) : atI (x :: y :: z :: xs) 2 = some z := by
  unfold atI ixN
  rw [if_pos (by decide), if_pos (by rw [List.length_cons, List.length_cons, List.length_cons]; omega)]
  rfl
theorem atI_3 {α : Type} (x y z u : α) (xs : List α) : atI (x :: y :: z :: u :: xs) 3 = some u := by
  unfold atI ixN
  rw [if_pos (by decide), if_pos (by rw [List.length_cons, List.length_cons, List.length_cons, List.length_cons]; omega)]
  rfl
theorem ixN_at {n : Nat} {i : Int} (h0 : 0 ≤ i) (h : i < n) : ixN n i = some i.toNat := by
  unfold ixN
  rw [if_pos h0, if_pos h]
theorem atI_at {α : Type} {xs : List α} {i : Int} {v : α} (h0 : 0 ≤ i) (h : xs[i.toNat]? = some v) : atI xs i = some v := by
  have hl := (List.getElem?_eq_some_iff.mp h).1
  unfold atI
  rw [ixN_at h0 (by omega)]
  exact h
theorem ixN_30 : ixN 3 0 = some 0 := rfl
theorem ixN_31 : ixN 3 1 = some 1 := rfl
theorem ixN_32 : ixN 3 2 = some 2 := rfl
theorem mulOk_r {j : Int} (h1 : -(2 ^ 64) < j) (h2 : j < 2 ^ 64) (i : Int) : Sr.MulOk i j := .inl (.inr ⟨h1, h2⟩)
theorem mulOk_l {i : Int} (h1 : -(2 ^ 64) < i) (h2 : i < 2 ^ 64) (j : Int) : Sr.MulOk i j := .inl (.inl ⟨h1, h2⟩)
theorem mulOk_mod (m : Int) (h : 0 < m) (h2 : m < 2 ^ 64 - 1000) (x y c : Int) (hc : 0 ≤ c) (hc2 : c < 1000) : Sr.MulOk x (y % m + c) := by
  have := Int.emod_nonneg y (show m ≠ 0 by omega)
  have := Int.emod_lt_of_pos y h
  exact mulOk_r (by omega) (by omega) x
theorem divOk {j : Int} (h : 0 < j) (h2 : j < 2 ^ 64) : DivOk j := ⟨h, by
  have : j.natAbs < 2 ^ 64 := by omega
  have h3 : j.natAbs ≠ 0 := by omega
  have := (Nat.log2_lt h3).mpr this
  omega⟩
theorem sIx_in {n d : Nat} {i : Int} (h0 : 0 ≤ i) (h : i ≤ n) : HT.sIx n d (some i) = i.toNat := by
  unfold HT.sIx
  dsimp only
  rw [if_neg (by omega)]
  omega
theorem lim0 : 0 ≤ lim := by decide
theorem lim1 : 1 ≤ lim := by decide
theorem lim2 : 2 ≤ lim := by decide
theorem lim3 : 3 ≤ lim := by decide
theorem lim4 : 4 ≤ lim := by decide
theorem lim5 : 5 ≤ lim := by decide
theorem lim6 : 6 ≤ lim := by decide
theorem lim7 : 7 ≤ lim := by decide
theorem lim8 : 8 ≤ lim := by decide
theorem lim9 : 9 ≤ lim := by decide
theorem lim10 : 10 ≤ lim := by decide
theorem lim11 : 11 ≤ lim := by decide
theorem lim12 : 12 ≤ lim := by decide
theorem isa_NoneType_bool : ["bool"].any (isaT "NoneType") = false := by decide
theorem isa_NoneType_int : ["int"].any (isaT "NoneType") = false := by decide
theorem isa_NoneType_str : ["str"].any (isaT "NoneType") = false := by decide
theorem isa_NoneType_tuple : ["tuple"].any (isaT "NoneType") = false := by decide
theorem isa_NoneType_list : ["list"].any (isaT "NoneType") = false := by decide
theorem isa_NoneType_dict : ["dict"].any (isaT "NoneType") = false := by decide
theorem isa_bool_bool : ["bool"].any (isaT "bool") = true := by decide
theorem isa_bool_int : ["int"].any (isaT "bool") = true := by decide
theorem isa_bool_str : ["str"].any (isaT "bool") = false := by decide
theorem isa_bool_tuple : ["tuple"].any (isaT "bool") = false := by decide
theorem isa_bool_list : ["list"].any (isaT "bool") = false := by decide
theorem isa_bool_dict : ["dict"].any (isaT "bool") = false := by decide
theorem isa_int_bool : ["bool"].any (isaT "int") = false := by decide
theorem isa_int_int : ["int"].any (isaT "int") = true := by decide
theorem isa_int_str : ["str"].any (isaT "int") = false := by decide
theorem isa_int_tuple : ["tuple"].any (isaT "int") = false := by decide
theorem isa_int_list : ["list"].any (isaT "int") = false := by decide
theorem isa_int_dict : ["dict"].any (isaT "int") = false := by decide
theorem isa_str_bool : ["bool"].any (isaT "str") = false := by decide
theorem isa_str_int : ["int"].any (isaT "str") = false := by decide
theorem isa_str_str : ["str"].any (isaT "str") = true := by decide
theorem isa_str_tuple : ["tuple"].any (isaT "str") = false := by decide
theorem isa_str_list : ["list"].any (isaT "str") = false := by decide
theorem isa_str_dict : ["dict"].any (isaT "str") = false := by decide
theorem isa_tuple_bool : ["bool"].any (isaT "tuple") = false := by decide
theorem isa_tuple_int : ["int"].any (isaT "tuple") = false := by decide
theorem isa_tuple_str : ["str"].any (isaT "tuple") = false := by decide
theorem isa_tuple_tuple : ["tuple"].any (isaT "tuple") = true := by decide
theorem isa_tuple_list : ["list"].any (isaT "tuple") = false := by decide
theorem isa_tuple_dict : ["dict"].any (isaT "tuple") = false := by decide
theorem isa_list_bool : ["bool"].any (isaT "list") = false := by decide
theorem isa_list_int : ["int"].any (isaT "list") = false := by decide
theorem isa_list_str : ["str"].any (isaT "list") = false := by decide
theorem isa_list_tuple : ["tuple"].any (isaT "list") = false := by decide
theorem isa_list_list : ["list"].any (isaT "list") = true := by decide
theorem isa_list_dict : ["dict"].any (isaT "list") = false := by decide
theorem isa_dict_bool : ["bool"].any (isaT "dict") = false := by decide
theorem isa_dict_int : ["int"].any (isaT "dict") = false := by decide
theorem isa_dict_str : ["str"].any (isaT "dict") = false := by decide
theorem isa_dict_tuple : ["tuple"].any (isaT "dict") = false := by decide
theorem isa_dict_list : ["list"].any (isaT "dict") = false := by decide
theorem isa_dict_dict : ["dict"].any (isaT "dict") = true := by decide
theorem set_last {α : Type} (l : List α) (c d : α) : (l ++ [c]).set l.length d = l ++ [d] := by
  rw [List.set_append_right _ _ (Nat.le_refl _), Nat.sub_self]
  rfl
theorem get_last {α : Type} (l : List α) (c : α) : (l ++ [c])[l.length]? = some c := by
  rw [List.getElem?_append_right (Nat.le_refl _), Nat.sub_self]
  rfl
theorem eqD_pair (S : List Cell) (m m' : Md) (x y : Int) : eqD S (m, .tup [.int x, .int y]) (m', .tup [.int x, .int y]) = some true :=
  eqD_tup rfl fun d hd => by
    rcases List.mem_cons.mp hd with rfl | hd
    · exact .int _
    · rcases List.mem_cons.mp hd with rfl | hd
      · exact .int _
      · cases hd
theorem forC_nil {n : Nat} {en : Bool} {p : Pat} {b : Stt → SOut} {s : Stt} (h : s.sto[n]? = some (.lst [])) : forC n en p b fuel 0 s = .nx s := by
  have hf := fuel_ge
  obtain ⟨f, e⟩ : ∃ f, fuel = f + 1 := ⟨fuel - 1, by omega⟩
  rw [e]
  unfold forC
  rw [h]
  cases en <;> rfl
theorem whileL_succ (c : Stt → Out Sl) (b : Stt → SOut) (n : Nat) (s : Stt) : whileL c b (n + 1) s = (c s).then fun x s1 => onS x (match b s1 with
    | .nx s2 => whileL c b n s2
    | .cnt s2 => whileL c b n s2
    | .brk s2 => .nx s2
    | r => r) (.nx s1) := rfl
/-- a comprehension that may change the store -/
theorem compL_inv {vs : List Nat} {p : Pat} {c e : Stt → Out Sl} (I : Nat → List D → Stt → Prop) : ∀ (ds acc : List D) (i : Nat) (s : Stt), I i acc s →
    (∀ k acc s d, i ≤ k → I k acc s → ds[k - i]? = some d → ∃ env1 s1 s2 r v, bindP p d s.env = some env1 ∧ c { s with env := env1 } = .ok (.val, .bl true) s1 ∧ e s1 = .ok r s2 ∧ toVal r = some v ∧ acc.length < lim ∧ I (k + 1) (acc ++ [v]) { s2 with env := wipeD s2.env vs }) →
    ∃ acc' s', compL vs p c e ds acc s = .ok (.own, .lst acc') s' ∧ I (i + ds.length) acc' s'
  | [], acc, i, s, h, _ => ⟨acc, s, by unfold compL; rfl, h⟩
  | d :: ds, acc, i, s, h, st => by
    obtain ⟨env1, s1, s2, r, v, h1, h2, h3, h4, h5, h6⟩ := st i acc s d (Nat.le_refl _) h (by rw [Nat.sub_self]; rfl)
    obtain ⟨acc', s', g1, g2⟩ := compL_inv I ds (acc ++ [v]) (i + 1) _ h6 fun k acc s d' hk hI hd => st k acc s d' (by omega) hI (by
      rw [show k - i = (k - (i + 1)) + 1 by omega]
      simpa using hd)
    refine ⟨acc', s', ?_, by rw [List.length_cons, show i + (ds.length + 1) = i + 1 + ds.length by omega]; exact g2⟩
    unfold compL
    rw [h1]
    dsimp only
    rw [h2]
    dsimp only [noX, Out.bind]
    unfold valO
    rw [h3]
    dsimp only [Out.bind]
    rw [h4]
    dsimp only
    rw [if_pos h5]
    exact g1
theorem powOk {i j : Int} (h1 : 0 ≤ j) (h2 : j ≤ 1000000) (h3 : i.natAbs < 2 ^ 64) : PowOk i j := ⟨h1, h2, h3⟩
theorem toNat_is {v : Int} (h : 0 ≤ v) : ∃ n : Nat, v = (n : Int) := ⟨v.toNat, by omega⟩
theorem rngB {n : Int} (h : n ≤ 1000000) (h2 : -1000000 ≤ n) : RngB n := ⟨by omega, by omega⟩
/-! ### one turn -/
theorem for_go {p : Pat} {b : Stt → SOut} {d : D} {ds : List D} {s s1 : Stt} {env : List (Option Sl)} (h : bindP p d s.env = some env) (e : b ⟨env, s.sto⟩ = .nx s1) : forL p b (d :: ds) s = forL p b ds s1 := by
  have e' : b { s with env := env } = .nx s1 := e
  conv => lhs; unfold forL
  rw [h]
  dsimp only
  rw [e']
theorem for_end {p : Pat} {b : Stt → SOut} {s : Stt} : forL p b [] s = .nx s := by unfold forL; rfl
theorem whl_go {c : Stt → Out Sl} {b : Stt → SOut} {n : Nat} {s s1 s2 : Stt} (h : c s = .ok (.val, .bl true) s1) (e : b s1 = .nx s2) : whileL c b (n + 1) s = whileL c b n s2 := by
  rw [whileL_succ, h]
  show (match b s1 with | .nx s2 => whileL _ _ n s2 | .cnt s2 => whileL _ _ n s2 | .brk s2 => .nx s2 | r => r) = _
  rw [e]
theorem whl_end {c : Stt → Out Sl} {b : Stt → SOut} {n : Nat} {s s1 : Stt} (h : c s = .ok (.val, .bl false) s1) : whileL c b (n + 1) s = .nx s1 := by
  rw [whileL_succ, h]
  rfl
end Sr

/-! Sr, part 17: dicts' displays, what is never reached. -/
namespace Sr
open PySem PySem.Spec PyProof.Rows L2
section
variable {X : Cx} {C : Ctx} {Φ : Nat → List Sl → List Cell → COut} {W : WX} {k : Nat} {σ : L2.St} {ι ι' : List Addr} {o o' : Own} {H H' : Hp} {s : Stt} {e e1 e2 e3 : Ex} {a b c tg : Expr} {pos : Pos} {Q : VK}
theorem sE_dnew : PE X (.Dict [] [] pos) (rdE C Φ W .dnew) := PE.imp pe_dnewK fun σ H Q => by
  rintro ⟨ι, o, s, R, h⟩
  unfold evE at h
  intro p n
  exact h _ _ ι (tag o p (some .tmp)) (Hold.new n).frm (R.new n) ⟨p, rfl, tag_same, [], upd_same, .nil⟩ (fun _ q e => by cases e; exact n)
theorem key_is {x : Sl} {v : V} {key : Key} (E : ResOk C ι o H x v) (h : keyD x.2 = some key) : v = kV key := by
  unfold keyD at h
  split at h
  · rename_i i e
    cases h
    exact res_int E e
  · rename_i i e
    cases h
    exact res_str E e
  · cases h
theorem sE_dsp (ha : PE X a (rdE C Φ W e1)) (hb : PE X b (rdE C Φ W e2)) : PE X (.Dict [some a] [b] pos) (rdE C Φ W (.dsp e1 e2)) := PE.imp (pe_disp (pps_cons ha hb pps_nil) rfl rfl (fun z => nomatch z) (by show 1 ≤ 15; decide)) fun σ H Q => by
  rintro ⟨ι, o, s, R, h⟩
  unfold evE at h
  intro p n
  have f0 : Frm ι o H ι (tag o p (some .tmp)) (upd H p (.dK [])) := (Hold.new n).frm
  refine ⟨ι, tag o p (some .tmp), s, R.new n, ?_⟩
  cases q1 : evE Φ e1 s with
  | stuck => rw [q1] at h; exact h
  | exc x s1 => rw [q1] at h; exact fun H1 ι1 o1 cls d f1 R1 E1 => h H1 ι1 o1 cls d (f0.trans f1) R1 E1
  | ok x s1 =>
    rw [q1] at h
    intro v H1 ι1 o1 f1 R1 E1 F1
    replace h : Post C W σ ι o H ((valO (evE Φ e2 s1)).bind fun y s => match keyD x.2 with | some k => .ok (.own, .dic [(k, y.2)]) s | none => .stuck) Q := h
    have w1 : H1 p = some (.dK []) := f1.hp p _ upd_same (by rw [tag_same]; exact fun n z => nomatch z)
    have t1 : o1 p = some .tmp := by
      rcases f1.tg p (some_ne upd_same) with z | ⟨⟨i, z⟩, _⟩
      · rw [z, tag_same]
      · rw [tag_same] at z; cases z
    refine ⟨ι1, o1, s1, R1, ?_⟩
    cases q : evE Φ e2 s1 with
    | stuck => unfold valO at h; rw [q] at h; exact h
    | exc y s2 => unfold valO at h; rw [q] at h; exact fun H2 ι2 o2 cls d f2 R2 E2 => h H2 ι2 o2 cls d ((f0.trans f1).trans f2) R2 E2
    | ok sl s2 =>
      unfold valO at h
      rw [q] at h
      dsimp only [Out.bind] at h
      intro u H2 ι2 o2 f2 R2 E2 F2
      cases t : toVal sl with
      | none => rw [t] at h; exact h.elim
      | some d =>
        rw [t] at h
        obtain ⟨o3, f3, R3, hd, _⟩ := conv f2 R2 E2 F2 t
        dsimp only at h
        cases qk : keyD x.2 with
        | none => rw [qk] at h; exact h.elim
        | some key =>
          rw [qk] at h
          have w2 : H2 p = some (.dK []) := f3.hp p _ w1 (by rw [t1]; exact fun n z => nomatch z)
          have t2 : o3 p = some .tmp := by
            rcases f3.tg p (some_ne w1) with z | ⟨⟨i, z⟩, _⟩
            · rw [z, t1]
            · rw [t1] at z; cases z
          refine ⟨w2, [(key, u)], by rw [key_is E1 qk]; rfl, by show 1 ≤ 15; decide, ?_⟩
          obtain ⟨kk, R4⟩ := R3.mutT (x := .dK (mergeK [] [(key, u)])) t2
          exact h _ _ ι2 o3 (((f0.trans f1).trans f3).updNew n) R4 ⟨p, rfl, t2, [(key, u)], upd_same, .cons (hd.mono kk) .nil⟩ (fun _ q e => by cases e; exact n)
/-- what is never reached: any statement -/
theorem sS_wall {st : Stmt} : PS X st (rdS C Φ W .wall) := ⟨fun pins s σ H D I q => by
  obtain ⟨ι, o, st, R, h⟩ := q
  unfold evS at h
  exact h.elim⟩
end
theorem forL_cons {p : Pat} {b : Stt → SOut} {d : D} {ds : List D} {s s1 : Stt} {env : List (Option Sl)} (h : bindP p d s.env = some env) (hb : b { s with env := env } = .nx s1 ∨ b { s with env := env } = .cnt s1) : forL p b (d :: ds) s = forL p b ds s1 := by
  rcases hb with hb | hb
  · show (match bindP p d s.env with | none => SOut.stuck | some env => match b { s with env := env } with | .nx s1 => forL p b ds s1 | .cnt s1 => forL p b ds s1 | .brk s1 => .nx s1 | r => r) = _
    rw [h]
    dsimp only
    rw [hb]
  · show (match bindP p d s.env with | none => SOut.stuck | some env => match b { s with env := env } with | .nx s1 => forL p b ds s1 | .cnt s1 => forL p b ds s1 | .brk s1 => .nx s1 | r => r) = _
    rw [h]
    dsimp only
    rw [hb]
end Sr

/-! Sr, part 18: texts put together. -/
namespace Sr
open PySem PySem.Spec PyProof.Rows L2
section
variable {X : Cx} {C : Ctx} {Φ : Nat → List Sl → List Cell → COut} {W : WX} {k : Nat} {σ : L2.St} {ι ι' : List Addr} {o o' : Own} {H H' : Hp} {s : Stt} {e e1 e2 e3 : Ex} {a b c tg : Expr} {pos : Pos} {Q : VK}
theorem sE_fmt (ha : PE X a (rdE C Φ W e)) : PE X (.FormattedValue a (-1) none pos) (rdE C Φ W (.fmt e)) := PE.imp (pe_fmt ha) fun σ H Q => by
  rintro ⟨ι, o, s, R, h⟩
  unfold evE at h
  refine rd_of R h fun x s1 v H1 ι1 o1 _ f1 R1 E1 F1 h1 _ => ?_
  unfold fmtD at h1
  split at h1
  · rename_i y e1
    split at e1
    · rename_i z e2
      split at e1
      · rename_i hl
        cases e1
        exact .inl ⟨_, res_str E1 e2, Nat.le_trans hl lim_le, Post.val R1 h1 (.str _)⟩
      · cases e1
    · rename_i i e2
      split at e1
      · rename_i hl
        cases e1
        exact .inr ⟨i, res_int E1 e2, hl, Post.val R1 h1 (.str _)⟩
      · cases e1
    · cases e1
  · exact h1.elim
def exsL : Exs → List Ex
  | .nil => []
  | .cons e es => e :: exsL es
theorem rd_js : ∀ (es : Exs) (acc : Str) (σ : L2.St) (H : Hp) (Q : VK) (ι : List Addr) (o : Own) (s : Stt), Rel C ι o H s σ → Post C W σ ι o H (evJ Φ es acc s) Q → tJs ((exsL es).map (rdE C Φ W)) acc σ H fun out H1 => Q (.str out) H1
  | .nil, acc, σ, H, Q, ι, o, s, R, h => by
    unfold evJ at h
    exact Post.val R h (.str _)
  | .cons e es, acc, σ, H, Q, ι, o, s, R, h => by
    unfold evJ at h
    show rdE C Φ W e σ H _
    refine rd_of R h fun x s1 v H1 ι1 o1 _ f1 R1 E1 F1 h1 _ => ?_
    split at h1
    · rename_i y ey
      split at h1
      · rename_i hl
        exact ⟨y, res_str E1 ey, Nat.le_trans hl lim_le, rd_js es (acc ++ y) σ H1 Q ι1 o1 s1 R1 h1⟩
      · exact h1.elim
    · exact h1.elim
inductive PJs (X : Cx) (C : Ctx) (Φ : Nat → List Sl → List Cell → COut) (W : WX) : List Expr → Exs → Prop where
  | nil : PJs X C Φ W [] .nil
  | cons {a : Expr} {e : Ex} {as : List Expr} {es : Exs} (h : PE X a (rdE C Φ W e)) (r : PJs X C Φ W as es) : PJs X C Φ W (a :: as) (.cons e es)
theorem PJs.pj {as : List Expr} {es : Exs} (h : PJs X C Φ W as es) : PJ X as ((exsL es).map (rdE C Φ W)) := by
  induction h with
  | nil => exact .nil
  | cons h r ih => exact .cons h ih
theorem sE_fstr {rest : List Expr} {es : Exs} (h : PJs X C Φ W (a :: b :: rest) es) : PE X (.JoinedStr (a :: b :: rest) pos) (rdE C Φ W (.fstr es)) := PE.imp (pe_joined h.pj) fun σ H Q => by
  rintro ⟨ι, o, s, R, h⟩
  unfold evE at h
  exact rd_js es _ σ H Q ι o s R h
theorem cb_str : CallR X (.type "str") (rBi C W .str) := by
  intro pins s σ H xs us Q I r h
  obtain ⟨σ', ι, o, st, a, v, rr, ev, R, E, e, h⟩ := bi_one (fun _ _ => rfl) h
  split at e
  · rename_i i q
    split at e
    · rename_i hi
      cases e
      exact call_str_int pins s σ H xs us Q I r ⟨i, by rw [ev, res_int E q], hi, Post.val R h (.str _)⟩
    · cases e
  · cases e
theorem strsOf_is : ∀ {ds : List Sr.D} {ns : List Str} {vs : List V}, strsOf ds = some ns → IsFs C ι o H ds vs → vs = ns.map V.str
  | [], ns, _, e, .nil => by cases e; rfl
  | d :: ds, ns, _, e, .cons h t => by
    cases d with
    | str i =>
      obtain ⟨ms, e1, e2⟩ := Option.map_eq_some_iff.mp (show (strsOf ds).map (i :: ·) = some ns from e)
      subst e2
      cases h
      rw [strsOf_is e1 t]
      rfl
    | _ => cases e
theorem sE_join {apos : Pos} (K : Okx X C W k) (ha : PE X a (rdE C Φ W e1)) (hb : PE X b (rdE C Φ W e2)) (hs : starEach [b] X.env = [(false, eval b X.env)] := by rfl) (hbase : attributeBase a "join" X.env (eval a X.env) = eval a X.env := by rfl) (hline : (apos.endLine == pos.line) = true := by rfl) :
    PE X (.Call (.Attribute a "join" apos) [b] [] pos) (rdE C Φ W (.join e1 e2)) := PE.imp (pe_join ha hb hs hbase hline) fun σ H Q => by
  rintro ⟨ι, o, s, R, h⟩
  unfold evE at h
  refine rd_of R h fun x s1 v H1 ι1 o1 _ f1 R1 E1 F1 h1 _ => ?_
  split at h1
  · rename_i z e1
    refine ⟨⟨z, res_str E1 e1⟩, ?_⟩
    refine rd_of R1 h1 fun y s2 u H2 ι2 o2 _ f2 R2 E2 F2 h2 _ => ?_
    split at h2
    · rename_i ys e2
      split at h2
      · rename_i hj
        obtain ⟨ds, e3, e4⟩ := Option.bind_eq_some_iff.mp e2
        obtain ⟨p, vs, ev, r, t⟩ := lsq_sq R2.sto E2 e3
        have et := strsOf_is e4 t
        subst et
        have hj' : (ys.map (·.length)).sum + ys.length * z.length ≤ 1000000 := hj
        exact ⟨z, p, ys, res_str E1 e1, by rw [ev], .inl (by rw [K.kk]; exact r), by omega, Post.val R2 h2 (.str _)⟩
      · exact h2.elim
    · exact h2.elim
  · exact h1.elim
end
/-- a comprehension over what is told of a list's items -/
theorem compL_map {α : Type} {vs : List Nat} {p : Pat} {c e : Stt → Out Sl} {S : List Cell} {env0 : List (Option Sl)} (g f : α → D) : ∀ (rs : List α) (acc : List D),
    (∀ r ∈ rs, ∃ env1 env2 x, bindP p (g r) env0 = some env1 ∧ c ⟨env1, S⟩ = .ok (.val, .bl true) ⟨env1, S⟩ ∧ e ⟨env1, S⟩ = .ok x ⟨env2, S⟩ ∧ toVal x = some (f r) ∧ wipeD env2 vs = env0) →
    acc.length + rs.length ≤ lim → compL vs p c e (rs.map g) acc ⟨env0, S⟩ = .ok (.own, .lst (acc ++ rs.map f)) ⟨env0, S⟩
  | [], acc, _, _ => by rw [List.map_nil, List.map_nil, List.append_nil]; unfold compL; rfl
  | r :: rs, acc, h, hl => by
    obtain ⟨env1, env2, x, h1, h2, h3, h4, h5⟩ := h r (List.mem_cons_self ..)
    rw [List.map_cons]
    unfold compL
    dsimp only
    rw [h1]
    dsimp only
    rw [h2]
    dsimp only [noX, Out.bind]
    unfold valO
    rw [h3]
    dsimp only [Out.bind]
    rw [h4]
    dsimp only
    rw [if_pos (by rw [List.length_cons] at hl; omega), h5, compL_map g f rs (acc ++ [f r]) (fun x hx => h x (List.mem_cons_of_mem _ hx)) (by rw [List.length_append]; rw [List.length_cons] at hl; simp only [List.length_cons, List.length_nil]; omega), List.map_cons, List.append_assoc]
    rfl
end Sr

/-! Sr, part 19: instances: attributes, methods, making. -/
namespace Sr
open PySem PySem.Spec PyProof.Rows L2
noncomputable section
/-- each of these classes has no attribute of the name -/
def FldOk (C : Ctx) (K : PySem.W.Frag) (f : Str) (cs : List Nat) : Prop := ∀ c ∈ cs, ∃ B, C.ob c = .ref B ∧ Cls K B ∧ NoAttr K B f
section
variable {X : Cx} {C : Ctx} {Φ : Nat → List Sl → List Cell → COut} {W : WX} {k : Nat} {σ : L2.St} {ι ι' : List Addr} {o o' : Own} {H H' : Hp} {s : Stt} {D : Ends} {e e1 e2 e3 : Ex} {a b c tg : Expr} {pos : Pos} {Q : VK} {S : List Cell}
theorem IsFr.get : ∀ {ds : List (Str × Sr.D)} {vs : List (Str × V)} {f : Str} {d : Sr.D}, IsFr C ι o H ds vs → ds.lookup f = some d → ∃ v, vs.lookup f = some v ∧ IsF C ι o H d v
  | _, _, f, d, .nil, e => by cases e
  | _, _, f, d, .cons (f := g) h t, e => by
    rw [List.lookup_cons] at e
    by_cases z : (f == g) = true
    · rw [z] at e
      cases e
      exact ⟨_, by rw [List.lookup_cons, z], h⟩
    · have z' : (f == g) = false := by simpa using z
      rw [z'] at e
      obtain ⟨v, h1, h2⟩ := IsFr.get t e
      exact ⟨v, by rw [List.lookup_cons, z']; exact h1, h2⟩
theorem IsFr.none_ : ∀ {ds : List (Str × Sr.D)} {vs : List (Str × V)} {f : Str}, IsFr C ι o H ds vs → ds.lookup f = none → vs.lookup f = none
  | _, _, f, .nil, e => rfl
  | _, _, f, .cons (f := g) h t, e => by
    rw [List.lookup_cons] at e
    by_cases z : (f == g) = true
    · rw [z] at e; cases e
    · have z' : (f == g) = false := by simpa using z
      rw [z'] at e
      rw [List.lookup_cons, z']
      exact IsFr.none_ t e
theorem IsFr.len : ∀ {ds : List (Str × Sr.D)} {vs : List (Str × V)}, IsFr C ι o H ds vs → ds.length = vs.length
  | _, _, .nil => rfl
  | _, _, .cons _ t => congrArg (· + 1) (IsFr.len t)
theorem IsFr.put {f : Str} {d : Sr.D} {v : V} (r : IsF C ι o H d v) : ∀ {ds : List (Str × Sr.D)} {vs : List (Str × V)}, IsFr C ι o H ds vs → IsFr C ι o H (putD f d ds) (putF f v vs)
  | _, _, .nil => .cons r .nil
  | _, _, .cons (f := g) h t => by
    unfold putD putF
    by_cases z : g = f
    · rw [if_pos z, if_pos z]; exact .cons r t
    · rw [if_neg z, if_neg z]; exact .cons h (IsFr.put r t)
theorem sE_fld {f : Str} {cs : List Nat} (K : Okx X C W k) (ha : PE X a (rdE C Φ W e)) (hc : FldOk C X.K f cs) (hb : attributeBase a f X.env (eval a X.env) = eval a X.env := by rfl) : PE X (.Attribute a f pos) (rdE C Φ W (.fld e f cs)) := PE.imp (pe_fld ha hb) fun σ H Q => by
  rintro ⟨ι, o, s, R, h⟩
  unfold evE at h
  refine rd_of R h fun x s1 v H1 ι1 o1 _ f1 R1 E1 F1 h1 _ => ?_
  split at h1
  · rename_i n _ _
    split at h1
    · rename_i c fs q
      split at h1
      · rename_i hcs
        obtain ⟨r, er, h1⟩ := post_lift h1
        obtain ⟨d, ed, e2⟩ := Option.map_eq_some_iff.mp er
        subst e2
        obtain ⟨B, hB, cl, na⟩ := hc c hcs
        obtain ⟨p, dx, B', vs, hp, ho, ho2, hh, hob, fr⟩ := R1.sto.cell n _ q
        rw [hB] at hob
        cases hob
        obtain ⟨v', l1, l2⟩ := fr.get ed
        cases E1 with
        | ref ep =>
          rw [hp] at ep
          cases ep
          exact ⟨p, B, dx, vs, v', rfl, hh, cl, na, l1, Post.val R1 h1 l2⟩
      · exact h1.elim
    · exact h1.elim
  · exact h1.elim
theorem Rel.mutI {n : Nat} {p dx B : Addr} {c : Nat} {fs gs : List (Str × Sr.D)} {ws : List (Str × V)} (R : Rel C ι o H s σ) (h : s.sto[n]? = some (.inst c fs)) (hp : ι[n]? = some p) (ho : o p = some (.cell n)) (hd : o dx = some (.cell n)) (hB : C.ob c = .ref B) (new : IsFr C ι o H gs ws) :
    Rel C ι o (upd H p (.ins B dx ws)) { s with sto := s.sto.set n (.inst c gs) } σ := by
  have kk := (chg (ι := ι) (H := H) (x := .ins B dx ws) ho (.inr ⟨n, rfl⟩)).1
  have ne : ∀ a, o a ≠ some (.cell n) → a ≠ p := fun a h z => h (by rw [z]; exact ho)
  refine ⟨fun j sl e => ?_, R.len, ⟨fun m c' q => ?_, fun a h => ?_, by rw [List.length_set]; exact R.sto.len⟩⟩
  · obtain ⟨u, e1, q⟩ := R.env j sl e
    refine ⟨u, e1, q.mono kk fun p2 x hx hw => ⟨?_, rfl⟩⟩
    rw [upd_ne (ne p2 ?_)]
    · exact hx
    · rcases hw with hw | hw | hw <;> rw [hw] <;> exact fun z => nomatch z
  · by_cases hm : m = n
    · subst hm
      have hi : m < s.sto.length := (List.getElem?_eq_some_iff.mp h).1
      rw [List.getElem?_set_self hi] at q
      cases q
      exact ⟨p, dx, B, ws, hp, ho, hd, upd_same, hB, new.mono kk⟩
    · rw [List.getElem?_set_ne (Ne.symm hm)] at q
      exact (R.sto.cell m c' q).mono kk (fun p2 x hx hw => ⟨by rw [upd_ne (ne p2 (by rw [hw]; exact fun z => hm (Ow.cell.inj (Option.some.inj z))))]; exact hx, rfl⟩) R.sto.own
  · by_cases z : a = p
    · rw [z, upd_same]; exact fun z => nomatch z
    · rw [upd_ne z]; exact R.sto.own a h
theorem sS_setf {f : Str} {cs : List Nat} {pos' : Pos} (K : Okx X C W k) (ha : PE X a (rdE C Φ W e1)) (hv : PE X b (rdE C Φ W e2)) (hc : FldOk C X.K f cs) (hs : swapsWith b (some (.Attribute a f pos')) pos.line X.env = pure false := by rfl) :
    PS X (.Assign [.Attribute a f pos'] b pos) (rdS C Φ W (.setf e1 f cs e2)) := PS.imp (ps_fld ha hv hs) fun D σ H => by
  rintro ⟨ι, o, s, R, h⟩
  unfold evS at h
  refine rsv_of R h fun d s1 v H1 ι1 o1 f1 R1 E1 h1 => ?_
  refine rs_of R1 h1 fun x s2 u H2 ι2 o2 _ f2 R2 E2 F2 h2 _ => ?_
  split at h2
  · rename_i n _ _
    split at h2
    · rename_i c fs q
      split at h2
      · rename_i hcs
        obtain ⟨B, hB, cl, na⟩ := hc c hcs.1
        obtain ⟨p, dx, B', vs, hp, ho, ho2, hh, hob, fr⟩ := R2.sto.cell n _ q
        rw [hB] at hob
        cases hob
        cases E2 with
        | ref ep =>
          rw [hp] at ep
          cases ep
          exact ⟨p, B, dx, vs, rfl, hh, cl, na, by rw [← fr.len]; exact hcs.2, h2 σ _ ι2 o2 (chg ho (.inr ⟨n, rfl⟩)).2 (R2.mutI q hp ho ho2 hB (fr.put (E1.mono f2.kept)))⟩
      · exact h2.elim
    · exact h2.elim
  · exact h2.elim
/-! ### methods -/
/-- the callee's own end, seen by the caller -/
theorem back_call {g : Nat} {as : List Sl} {s1 : Stt} {vs : List V} {E : XK} (R1 : Rel C ι o H s1 σ) (hA : Paired (ArgOk C ι o H) as vs) (hq : Post C W σ ι o H (back1 s1 (Φ g as s1.sto)) Q) (hW : ∀ cls d H', W cls d σ H' → E cls d H') : spF C Φ g vs H Q E := by
  refine ⟨ι, outO o, as, s1.sto, pair_map (fun _ _ => outO_in) hA, fun a i => ?_, outO_sok R1.sto, ?_⟩
  · rcases isSlot (o a) with ⟨j, z⟩ | z
    · rw [outO_slot z]; exact fun z => nomatch z
    · rw [outO_else z]; exact z i
  cases q2 : Φ g as s1.sto with
  | stuck => rw [q2] at hq; exact hq
  | exc x S' =>
    rw [q2] at hq
    intro H2 ι2 o2 cls d f2 K2 E2
    refine hW _ _ _ (hq H2 ι2 (bothO o o2) cls d (back_frm f2) (back_rel R1 f2 K2) ?_)
    obtain ⟨B, dx, us, h1, h2, h3, h4, h5, h6⟩ := E2
    exact ⟨B, dx, us, h1, h2, h3, h4, ((back_kept R1.sto.own f2).hp dx _ h4 h5).2, h6.mono (back_kept R1.sto.own f2)⟩
  | ok r S' =>
    rw [q2] at hq
    intro v H2 ι2 o2 f2 K2 E2 F2 m2
    refine hq v H2 ι2 (bothO o o2) (back_frm f2) (back_rel R1 f2 K2) ?_ F2
    obtain ⟨m, d⟩ := r
    rcases m2 with m2 | m2
    · have m2 : m = .val := m2
      subst m2
      exact IsF.mono (back_kept R1.sto.own f2) E2
    · have m2 : m = .own := m2
      subst m2
      cases d with
      | lst ds =>
        obtain ⟨p, ev, ht, l⟩ := E2
        exact ⟨p, ev, back_ne R1.sto.own f2 ht (fun z => nomatch z), l.mono (back_kept R1.sto.own f2) fun _ z => z⟩
      | dic ds =>
        obtain ⟨p, ev, ht, l⟩ := E2
        exact ⟨p, ev, back_ne R1.sto.own f2 ht (fun z => nomatch z), l.mono (back_kept R1.sto.own f2) fun _ z => z⟩
      | _ => exact E2.elim
/-- W does not hang on the slots -/
def Wc (W : WX) : Prop := ∀ cls d σ σ' H, W cls d σ H → W cls d σ' H
/-- a method, for receivers of the class c -/
def rdM (C : Ctx) (Φ : Nat → List Sl → List Cell → COut) (W : WX) (e : Ex) (m : Str) (xs : Exs) (c g : Nat) : TE := fun σ H Q => ∃ ι o s, Rel C ι o H s σ ∧
  (∀ x s1, evE Φ e s = .ok x s1 → ∃ n fs, x = (.val, .ref n) ∧ s1.sto[n]? = some (.inst c fs) ∧ fs.lookup m = none) ∧
  Post C W σ ι o H ((evE Φ e s).bind fun x s => (evA Φ xs s).bind fun as s => back1 s (Φ g (x :: as) s.sto)) Q
theorem rd_meth {m : Str} {xs : Exs} {c0 g B : Nat} (hB : C.ob c0 = .ref B) (hW : Wc W) (h : rdM C Φ W e m xs c0 g σ H Q) : tMeth B m (spF C Φ g) [] (fun cls d H => ∀ σ, W cls d σ H) (rdE C Φ W e) (rdA C Φ W xs) σ H Q := by
  obtain ⟨ι, o, s, R, hx, h⟩ := h
  refine rd_of R h fun x s1 v H1 ι1 o1 qx f1 R1 E1 F1 h1 _ => ?_
  obtain ⟨n, fs, rfl, q, lk⟩ := hx x s1 qx
  obtain ⟨p, dx, B', vs, hp, ho, ho2, hh, hob, fr⟩ := R1.sto.cell n _ q
  rw [hB] at hob
  cases hob
  cases E1 with
  | ref ep =>
    rw [hp] at ep
    cases ep
    refine ⟨p, dx, vs, rfl, hh, fr.none_ lk, ι1, o1, s1, R1, ?_⟩
    cases qa : evA Φ xs s1 with
    | stuck => rw [qa] at h1; exact h1
    | exc y s2 => rw [qa] at h1; exact h1
    | ok as s2 =>
      rw [qa] at h1
      intro us H2 ι2 o2 f2 R2 hA
      rw [List.append_nil]
      exact back_call R2 (.cons (show ArgOk C ι2 o2 H2 (.val, .ref n) (.ref p) from IsF.ref (f2.io _ _ hp)) hA) (Post.shift f2 h1) fun cls d H' w σ' => hW cls d σ σ' H' w
theorem rd_meth0 {m : Str} {c0 g B : Nat} (hB : C.ob c0 = .ref B) (hW : Wc W) (h : rdM C Φ W e m .nil c0 g σ H Q) : tMeth B m (spF C Φ g) [] (fun cls d H => ∀ σ, W cls d σ H) (rdE C Φ W e) tNil σ H Q := by
  obtain ⟨ι, o, s, R, hx, h⟩ := h
  refine rd_of R h fun x s1 v H1 ι1 o1 qx f1 R1 E1 F1 h1 _ => ?_
  obtain ⟨n, fs, rfl, q, lk⟩ := hx x s1 qx
  obtain ⟨p, dx, B', vs, hp, ho, ho2, hh, hob, fr⟩ := R1.sto.cell n _ q
  rw [hB] at hob
  cases hob
  cases E1 with
  | ref ep =>
    rw [hp] at ep
    cases ep
    refine ⟨p, dx, vs, rfl, hh, fr.none_ lk, ?_⟩
    unfold evA at h1
    exact back_call R1 (.cons (show ArgOk C ι1 o1 H1 (.val, .ref n) (.ref p) from IsF.ref hp) .nil) h1 fun cls d H' w σ' => hW cls d σ σ' H' w
theorem passC (K : Okx X C W k) : Passes (L2.CX X.prog X.w) X (fun cls d H => ∀ σ, W cls d σ H) := passes_call K.tk fun cls d σ H h => h σ
end
end
end Sr

/-! Sr, part 20: method calls, making, in the code. -/
namespace Sr
open PySem PySem.Spec PyProof.Rows L2
section
variable {X : Cx} {C : Ctx} {Φ : Nat → List Sl → List Cell → COut} {W : WX} {k : Nat} {σ : L2.St} {ι ι' : List Addr} {o o' : Own} {H H' : Hp} {s : Stt} {D : Ends} {e e1 e2 e3 : Ex} {a b c tg : Expr} {pos : Pos} {Q : VK} {S : List Cell}
/-- one class' method -/
structure MethF (X : Cx) (C : Ctx) (Φ : Nat → List Sl → List Cell → COut) (k : Nat) (m : Str) (c g : Nat) : Prop where
  ex : ∃ (B f : Addr) (fd : FuncData) (ps : List Str) (j : Nat), C.ob c = .ref B ∧ Cls X.K B ∧ Meth X.K B m f ∧ FnOk X.prog X.w X.K X.mg X.base (L2.CX X.prog X.w) j f fd ps (spF C Φ g) ∧ Binds X.K fd ps [] ∧ j ≤ k
theorem sM_one {m : Str} {xs : Exs} {c g : Nat} {es : List Expr} {apos : Pos} {pl : Sem Bool} (K : Okx X C W k) (hW : Wc W) (M : MethF X C Φ k m c g) (ha : PE X a (rdE C Φ W e)) (hA : PA X (b :: es) (rdA C Φ W xs))
    (hst : starEach (b :: es) X.env = (false, eval b X.env) :: starEach es X.env := by rfl) (hpl : (backTo pos (starEach es X.env)).any (·.1) = false := by rfl)
    (ht : eval (.Call (.Attribute a m apos) (b :: es) [] pos) X.env = (do
      let ov ← eval a X.env
      standAt apos.atName
      let (f, first) ← holding [ov] (getMethod ov m pl)
      callWith pos f first (backTo pos (starEach (b :: es) X.env)) (backToKw pos (keywordEach [] X.env))) := by rfl) :
    PE X (.Call (.Attribute a m apos) (b :: es) [] pos) (rdM C Φ W e m xs c g) := by
  obtain ⟨B, f, fd, ps, j, hB, cl, hm, F, hb, hj⟩ := M.ex
  exact PE.imp (pe_meth (pl := pl) ha cl hm F (K.room.mono hj) hb .nil (passC K) hA hst hpl ht) fun σ H Q h => rd_meth hB hW h
theorem sM_one0 {m : Str} {c g : Nat} {apos : Pos} {pl : Sem Bool} (K : Okx X C W k) (hW : Wc W) (M : MethF X C Φ k m c g) (ha : PE X a (rdE C Φ W e))
    (ht : eval (.Call (.Attribute a m apos) [] [] pos) X.env = (do
      let ov ← eval a X.env
      standAt apos.atName
      let (f, first) ← holding [ov] (getMethod ov m pl)
      callWith pos f first [] []) := by rfl) :
    PE X (.Call (.Attribute a m apos) [] [] pos) (rdM C Φ W e m .nil c g) := by
  obtain ⟨B, f, fd, ps, j, hB, cl, hm, F, hb, hj⟩ := M.ex
  exact PE.imp (pe_meth0 (pl := pl) ha cl hm F (K.room.mono hj) hb .nil (passC K) ht) fun σ H Q h => rd_meth0 hB hW h
/-- every class of the table -/
def MA (X : Cx) (C : Ctx) (Φ : Nat → List Sl → List Cell → COut) (W : WX) (call : Expr) (e : Ex) (m : Str) (xs : Exs) (tbl : List (Nat × Nat)) : Prop := ∀ p ∈ tbl, PE X call (rdM C Φ W e m xs p.1 p.2)
theorem MA.nil {call : Expr} {m : Str} {xs : Exs} : MA X C Φ W call e m xs [] := fun _ z => nomatch z
theorem MA.cons {call : Expr} {m : Str} {xs : Exs} {c g : Nat} {tbl : List (Nat × Nat)} (h : PE X call (rdM C Φ W e m xs c g)) (r : MA X C Φ W call e m xs tbl) : MA X C Φ W call e m xs ((c, g) :: tbl) := fun p hp => by
  rcases List.mem_cons.mp hp with rfl | hp
  · exact h
  · exact r p hp
theorem lookup_mem : ∀ {tbl : List (Nat × Nat)} {c g : Nat}, tbl.lookup c = some g → (c, g) ∈ tbl
  | [], c, g, h => by cases h
  | (a, b) :: r, c, g, h => by
    rw [List.lookup_cons] at h
    by_cases z : (c == a) = true
    · rw [z] at h
      cases h
      rw [eq_of_beq z]
      exact List.mem_cons_self ..
    · have z' : (c == a) = false := by simpa using z
      rw [z'] at h
      exact List.mem_cons_of_mem _ (lookup_mem h)
theorem sE_meth {call : Expr} {m : Str} {xs : Exs} {p : Nat × Nat} {tbl : List (Nat × Nat)} (h : MA X C Φ W call e m xs (p :: tbl)) : PE X call (rdE C Φ W (.meth e m (p :: tbl) xs)) := by
  have g : ∀ σ H Q, rdE C Φ W (.meth e m (p :: tbl) xs) σ H Q → ∃ q ∈ p :: tbl, rdM C Φ W e m xs q.1 q.2 σ H Q := fun σ H Q => by
    rintro ⟨ι, o, s, R, hq⟩
    unfold evE at hq
    cases q : evE Φ e s with
    | stuck => rw [q] at hq; exact hq.elim
    | exc x s1 =>
      rw [q] at hq
      refine ⟨p, List.mem_cons_self .., ι, o, s, R, ?_, by rw [q]; exact hq⟩
      intro x s1 z
      rw [q] at z
      cases z
    | ok x s1 =>
      rw [q] at hq
      dsimp only [Out.bind] at hq
      split at hq
      · rename_i n
        split at hq
        · rename_i c fs hc
          split at hq
          · rename_i g hl ht
            refine ⟨(c, g), lookup_mem ht, ι, o, s, R, ?_, by rw [q]; exact hq⟩
            intro x s1 z
            rw [q] at z
            cases z
            exact ⟨n, fs, rfl, hc, hl⟩
          · exact hq.elim
        · exact hq.elim
      · exact hq.elim
  refine ⟨fun pins s σ H Q I hq => ?_⟩
  obtain ⟨q, hm, hq⟩ := g σ H Q hq
  exact (h q hm).run pins s σ H Q I hq
/-! ### a new instance -/
def makeO (n : Nat) (s : Stt) : COut → Out Sl
  | .ok (.val, .non) S => .ok (.val, .ref n) { s with sto := S }
  | .exc x S => .exc x { s with sto := S }
  | _ => .stuck
theorem make_core {c g B : Nat} {as : List Sl} {vs : List V} (hB : C.ob c = .ref B) (hW : Wc W) (R : Rel C ι o H s σ) (hA : Paired (ArgOk C ι o H) as vs)
    (h : Post C W σ ι o H (makeO s.sto.length s (Φ g ((.val, .ref s.sto.length) :: as) (s.sto ++ [.inst c []]))) Q) (x dx : Addr) (nx : H x = none) (nd : H dx = none) (ne : dx ≠ x) :
    spF C Φ g (.ref x :: vs) (upd (upd H dx (.own x)) x (.ins B dx [])) (fun v H2 => v = .non ∧ Q (.ref x) H2) (fun cls d H => ∀ σ, W cls d σ H) := by
  have hl : s.sto.length = ι.length := R.sto.len
  have gx : ∀ a y, H a = some y → a ≠ x := fun a y e z => by rw [z, nx] at e; cases e
  have gd : ∀ a y, H a = some y → a ≠ dx := fun a y e z => by rw [z, nd] at e; cases e
  have io : ∀ (n : Nat) (a : Addr), ι[n]? = some a → (ι ++ [x])[n]? = some a := fun n a e => by
    rw [List.getElem?_append_left (List.getElem?_eq_some_iff.mp e).1]; exact e
  have last : (ι ++ [x])[s.sto.length]? = some x := by rw [hl, List.getElem?_append_right (Nat.le_refl _), Nat.sub_self]; rfl
  let o2 : Own := tag (tag (outO o) dx (some (.cell s.sto.length))) x (some (.cell s.sto.length))
  let H2 : Hp := upd (upd H dx (.own x)) x (.ins B dx [])
  have hold : Hold ι (outO o) H (ι ++ [x]) o2 H2 := ⟨io, fun a y e => by
    have n1 := gx a y e
    have n2 := gd a y e
    exact ⟨by show upd (upd H dx (.own x)) x _ a = _; rw [upd_ne n1, upd_ne n2]; exact e, by show tag (tag (outO o) dx _) x _ a = _; rw [tag_ne n1, tag_ne n2]⟩⟩
  have ow2 : ∀ a, o2 a ≠ none → H2 a ≠ none := fun a h => by
    by_cases z1 : a = x
    · show upd (upd H dx (.own x)) x _ a ≠ none
      rw [z1, upd_same]; exact fun z => nomatch z
    · show upd (upd H dx (.own x)) x _ a ≠ none
      rw [upd_ne z1]
      by_cases z2 : a = dx
      · rw [z2, upd_same]; exact fun z => nomatch z
      · rw [upd_ne z2]
        have h' : tag (tag (outO o) dx (some (.cell s.sto.length))) x (some (.cell s.sto.length)) a ≠ none := h
        rw [tag_ne z1, tag_ne z2] at h'
        exact outO_own R.sto.own a h'
  have sok2 : SOk C (ι ++ [x]) o2 H2 (s.sto ++ [.inst c []]) := by
    refine ⟨fun n c' q => ?_, ow2, by rw [List.length_append, List.length_append, hl]; rfl⟩
    by_cases hn : n < s.sto.length
    · rw [List.getElem?_append_left hn] at q
      exact ((outO_sok R.sto).cell n c' q).mono hold.kept (fun p y e _ => hold.hp p y e) (outO_own R.sto.own)
    · have en : n = s.sto.length := by
        have := (List.getElem?_eq_some_iff.mp q).1
        rw [List.length_append] at this
        simp only [List.length_cons, List.length_nil] at this
        omega
      subst en
      rw [List.getElem?_append_right (Nat.le_refl _), Nat.sub_self] at q
      cases q
      exact ⟨x, dx, B, [], last, tag_same, by show tag (tag (outO o) dx _) x _ dx = _; rw [tag_ne ne, tag_same], upd_same, hB, .nil⟩
  have ins : ∀ sl v, ArgOk C ι o H sl v → InOk C (ι ++ [x]) o2 H2 sl v := fun sl v h => by
    have := outO_in h
    refine ⟨this.1, fun i => (this.2 i).mono hold.kept fun p y e _ => hold.hp p y e⟩
  refine ⟨ι ++ [x], o2, (.val, .ref s.sto.length) :: as, s.sto ++ [.inst c []], .cons ⟨.inl rfl, fun i => IsF.ref last⟩ (pair_map ins hA), fun a i z => ?_, sok2, ?_⟩
  · have z' : tag (tag (outO o) dx (some (.cell s.sto.length))) x (some (.cell s.sto.length)) a = some (.slot i) := z
    by_cases z1 : a = x
    · rw [z1, tag_same] at z'; cases z'
    · rw [tag_ne z1] at z'
      by_cases z2 : a = dx
      · rw [z2, tag_same] at z'; cases z'
      · rw [tag_ne z2] at z'
        rcases isSlot (o a) with ⟨j, y⟩ | y
        · rw [outO_slot y] at z'; cases z'
        · rw [outO_else y] at z'; exact y i z'
  · cases q2 : Φ g ((.val, .ref s.sto.length) :: as) (s.sto ++ [.inst c []]) with
    | stuck => rw [q2] at h; exact h.elim
    | exc y S' =>
      rw [q2] at h
      intro H3 ι3 o3 cls d f2 K2 E2 σ'
      have f3 := hold.frm.toT.trans f2
      refine hW _ _ _ _ _ (h H3 ι3 (bothO o o3) cls d (back_frm f3) (back_rel R f3 K2) ?_)
      obtain ⟨B', dx', us, h1, h2, h3, h4, h5, h6⟩ := E2
      exact ⟨B', dx', us, h1, h2, h3, h4, ((back_kept R.sto.own f3).hp dx' _ h4 h5).2, h6.mono (back_kept R.sto.own f3)⟩
    | ok r S' =>
      rw [q2] at h
      intro v H3 ι3 o3 f2 K2 E2 F2 m2
      have f3 := hold.frm.toT.trans f2
      obtain ⟨m, d⟩ := r
      cases m with
      | val =>
        cases d with
        | non =>
          cases E2
          exact ⟨rfl, h (.ref x) H3 ι3 (bothO o o3) (back_frm f3) (back_rel R f3 K2) (IsF.ref (f2.io _ _ last)) (fun z => nomatch z)⟩
        | _ => exact h.elim
      | _ => exact h.elim
theorem makeO_is {c g : Nat} {as : List Sl} : (match Φ g ((.val, .ref s.sto.length) :: as) (s.sto ++ [.inst c []]) with
    | .ok (.val, .non) S => Out.ok (.val, .ref s.sto.length) { s with sto := S }
    | .exc x S => .exc x { s with sto := S }
    | _ => .stuck) = makeO s.sto.length s (Φ g ((.val, .ref s.sto.length) :: as) (s.sto ++ [.inst c []])) := by
  unfold makeO
  rfl
theorem sE_make {x : Str} {p : Pos} {c g B j : Nat} {f : Addr} {fd : FuncData} {ps : List Str} {es : List Expr} {xs : Exs} (K : Okx X C W k) (hW : Wc W) (hB : C.ob c = .ref B) (M : Mk X.K B f) (F : FnOk X.prog X.w X.K X.mg X.base (L2.CX X.prog X.w) j f fd ps (spF C Φ g)) (hg : Gl X x) (hm : X.mg x = some (.ref B)) (hb : Binds X.K fd ps [])
    (hA : PA X (a :: es) (rdA C Φ W xs)) (hdb : (x == ("__debug__" : Str)) = false := by decide) (he : starEach (a :: es) X.env = (false, eval a X.env) :: starEach es X.env := by rfl) (hpl : (backTo pos (starEach es X.env)).any (·.1) = false := by rfl) (hj : j + 1 ≤ k := by omega) :
    PE X (.Call (.Name x p) (a :: es) [] pos) (rdE C Φ W (.make c g xs)) := PE.imp (pe_make M F (K.room.mono hj) hg hm hb .nil (passC K) hA hdb he hpl) fun σ H Q => by
  rintro ⟨ι, o, s, R, h⟩
  unfold evE at h
  refine ⟨ι, o, s, R, ?_⟩
  cases q : evA Φ xs s with
  | stuck => rw [q] at h; exact h
  | exc y s1 => rw [q] at h; exact h
  | ok as s1 =>
    rw [q] at h
    intro vs H1 ι1 o1 f1 R1 hA y dx n1 n2 n3
    rw [List.append_nil]
    replace h : Post C W σ ι o H (makeO s1.sto.length s1 (Φ g ((.val, .ref s1.sto.length) :: as) (s1.sto ++ [.inst c []]))) Q := by
      rw [← makeO_is]
      exact h
    exact make_core hB hW R1 hA (Post.shift f1 h) y dx n1 n2 n3
theorem sE_make0 {x : Str} {p : Pos} {c g B j : Nat} {f : Addr} {fd : FuncData} {ps : List Str} (K : Okx X C W k) (hW : Wc W) (hB : C.ob c = .ref B) (M : Mk X.K B f) (F : FnOk X.prog X.w X.K X.mg X.base (L2.CX X.prog X.w) j f fd ps (spF C Φ g)) (hg : Gl X x) (hm : X.mg x = some (.ref B)) (hb : Binds X.K fd ps [])
    (hdb : (x == ("__debug__" : Str)) = false := by decide) (hj : j + 1 ≤ k := by omega) :
    PE X (.Call (.Name x p) [] [] pos) (rdE C Φ W (.make c g .nil)) := PE.imp (pe_make0 M F (K.room.mono hj) hg hm hb .nil (passC K) hdb) fun σ H Q => by
  rintro ⟨ι, o, s, R, h⟩
  unfold evE evA at h
  intro y dx n1 n2 n3
  replace h : Post C W σ ι o H (makeO s.sto.length s (Φ g ((.val, .ref s.sto.length) :: []) (s.sto ++ [.inst c []]))) Q := by
    rw [← makeO_is]
    exact h
  exact make_core hB hW R .nil h y dx n1 n2 n3
end
end Sr

/-! Sr, part 21: dicts by keys that are numbers and texts. -/
namespace Sr
open PySem PySem.Spec PyProof.Rows L2
section
variable {X : Cx} {C : Ctx} {Φ : Nat → List Sl → List Cell → COut} {W : WX} {k : Nat} {σ : L2.St} {ι ι' : List Addr} {o o' : Own} {H H' : Hp} {s : Stt} {D : Ends} {e e1 e2 e3 : Ex} {a b c tg : Expr} {pos : Pos} {Q : VK} {S : List Cell}
theorem IsFk.val {key : Key} : ∀ {ds : List (Key × Sr.D)} {vs : List (Key × V)}, IsFk C ι o H ds vs → (∃ d v, valD ds key = some d ∧ valV vs key = some v ∧ IsF C ι o H d v) ∨ (valD ds key = none ∧ valV vs key = none)
  | _, _, .nil => .inr ⟨rfl, rfl⟩
  | _, _, .cons (k := k0) (d := d) (v := v) (ds := ds) (vs := vs) h t => by
    by_cases z : k0 = key
    · refine .inl ⟨d, v, ?_, valV_pos z, h⟩
      unfold valD
      rw [List.find?_cons, decide_eq_true (show ((k0, d) : Key × Sr.D).1 = key from z)]
      rfl
    · have e1 : valD ((k0, d) :: ds) key = valD ds key := by
        unfold valD
        rw [List.find?_cons, decide_eq_false (show ¬ ((k0, d) : Key × Sr.D).1 = key from z)]
      have e2 : valV ((k0, v) :: vs) key = valV vs key := valV_neg z
      rw [e1, e2]
      exact IsFk.val t
theorem IsFk.len : ∀ {ds : List (Key × Sr.D)} {vs : List (Key × V)}, IsFk C ι o H ds vs → ds.length = vs.length
  | _, _, .nil => rfl
  | _, _, .cons _ t => congrArg (· + 1) (IsFk.len t)
theorem IsFk.any {key : Key} : ∀ {ds : List (Key × Sr.D)} {vs : List (Key × V)}, IsFk C ι o H ds vs → (ds.any fun kv => decide (kv.1 = key)) = vs.any fun kv => decide (kv.1 = key)
  | _, _, .nil => rfl
  | _, _, .cons _ t => by rw [List.any_cons, List.any_cons, IsFk.any t]
theorem IsFk.snoc {key : Key} {d : Sr.D} {v : V} (r : IsF C ι o H d v) : ∀ {ds : List (Key × Sr.D)} {vs : List (Key × V)}, IsFk C ι o H ds vs → IsFk C ι o H (ds ++ [(key, d)]) (vs ++ [(key, v)])
  | _, _, .nil => .cons r .nil
  | _, _, .cons h t => .cons h (IsFk.snoc r t)
theorem IsFk.repl {key : Key} {d : Sr.D} {v : V} (r : IsF C ι o H d v) : ∀ {ds : List (Key × Sr.D)} {vs : List (Key × V)}, IsFk C ι o H ds vs → IsFk C ι o H (ds.map fun kv => if kv.1 = key then (kv.1, d) else kv) (vs.map fun kv => if kv.1 = key then (kv.1, v) else kv)
  | _, _, .nil => .nil
  | _, _, .cons (k := k0) h t => by
    rw [List.map_cons, List.map_cons]
    by_cases z : k0 = key
    · rw [if_pos z, if_pos z]; exact .cons r (IsFk.repl r t)
    · rw [if_neg z, if_neg z]; exact .cons h (IsFk.repl r t)
theorem IsFk.put {key : Key} {d : Sr.D} {v : V} (r : IsF C ι o H d v) {ds : List (Key × Sr.D)} {vs : List (Key × V)} (h : IsFk C ι o H ds vs) : IsFk C ι o H (putKD ds key d) (putK vs key v) := by
  unfold putKD putK
  rw [h.any]
  split
  · exact h.repl r
  · exact h.snoc r
theorem dic_rd {sl : Sl} {v : V} {ds : List (Key × Sr.D)} (K : SOk C ι o H S) (E : ResOk C ι o H sl v) (e : dicOf S sl = some ds) : ∃ a vs, v = .ref a ∧ H a = some (.dK vs) ∧ IsFk C ι o H ds vs := by
  obtain ⟨m, d⟩ := sl
  cases d with
  | dic es =>
    have ee : es = ds := by cases m <;> exact Option.some.inj e
    subst ee
    cases m with
    | val =>
      cases E with
      | dic n r t => exact ⟨_, _, rfl, r, t⟩
    | own => obtain ⟨p, ev, _, vs, r, t⟩ := E; exact ⟨p, vs, ev, r, t⟩
    | lent => obtain ⟨p, ev, _, vs, r, t⟩ := E; exact ⟨p, vs, ev, r, t⟩
    | pk => obtain ⟨p, ev, _, vs, r, t⟩ := E; exact ⟨p, vs, ev, r, t⟩
  | ref n =>
    cases m with
    | val =>
      unfold dicOf at e
      dsimp only at e
      split at e
      · rename_i es q
        cases e
        obtain ⟨p, hp, ho, vs, r, t⟩ := K.cell n _ q
        cases E with
        | ref ha =>
          rw [hp] at ha
          cases ha
          exact ⟨p, vs, rfl, r, t⟩
      · cases e
    | _ => cases e
  | _ => cases m <;> cases e
theorem sE_dget (K : Okx X C W k) (ha : PE X a (rdE C Φ W e1)) (hb : PE X b (rdE C Φ W e2)) (hs : NoSl b) : PE X (.Subscript a b pos) (rdE C Φ W (.dget e1 e2)) := PE.imp (pe_dget (by have := K.room.un; omega) ha hb hs) fun σ H Q => by
  rintro ⟨ι, o, s, R, h⟩
  unfold evE at h
  refine rd_of R h fun x s1 v H1 ι1 o1 _ f1 R1 E1 F1 h1 _ => ?_
  refine rd_of R1 h1 fun y s2 u H2 ι2 o2 _ f2 R2 E2 F2 h2 _ => ?_
  split at h2
  · rename_i kvs key q1 q2
    obtain ⟨r, er, h3⟩ := post_lift h2
    obtain ⟨d, ed, e3⟩ := Option.map_eq_some_iff.mp er
    subst e3
    obtain ⟨p, vs, ev, hh, t⟩ := dic_rd R2.sto (E1.mono f2) q1
    rcases t.val (key := key) with ⟨d', w, g1, g2, g3⟩ | ⟨g1, _⟩
    · rw [ed] at g1
      cases g1
      refine ⟨p, w, ev, ?_, Post.val R2 h3 g3⟩
      rw [key_is E2 q2, ← g2]
      exact DGet.k hh
    · rw [ed] at g1; cases g1
  · exact h2.elim
theorem rd_din {neg : Bool} {σ : L2.St} {H : Hp} {Q : VK} (h : rdE C Φ W (.din e2 e1 neg) σ H Q) : rdE C Φ W e2 σ H fun y H1 => rdE C Φ W e1 σ H1 fun x H2 => ∃ a o, x = .ref a ∧ DGet H2 a y o ∧ Q (.bl (if neg then !o.isSome else o.isSome)) H2 := by
  obtain ⟨ι, o, s, R, h⟩ := h
  unfold evE at h
  refine rd_of R h fun y s1 v H1 ι1 o1 _ f1 R1 E1 F1 h1 _ => ?_
  refine rd_of R1 h1 fun x s2 u H2 ι2 o2 _ f2 R2 E2 F2 h2 _ => ?_
  split at h2
  · rename_i kvs key q1 q2
    obtain ⟨p, vs, ev, hh, t⟩ := dic_rd R2.sto E2 q1
    refine ⟨p, valV vs key, ev, by rw [key_is (E1.mono f2) q2]; exact DGet.k hh, ?_⟩
    have e : (valV vs key).isSome = (valD kvs key).isSome := by
      rcases t.val (key := key) with ⟨d', w, g1, g2, g3⟩ | ⟨g1, g2⟩
      · rw [g1, g2]; rfl
      · rw [g1, g2]; rfl
    rw [e]
    exact Post.val R2 h2 (.bl _)
  · exact h2.elim
theorem ps_own {i : Nat} {ds : List (Key × Sr.D)} (h : ownK s i = some ds) : s.env[i]? = some (some (.own, .dic ds)) := by
  unfold ownK at h
  split at h
  · rename_i ds' e
    cases h
    exact e
  · cases h
theorem ownK_at {i : Nat} {ds : List (Key × Sr.D)} (R : Rel C ι o H s σ) (h : ownK s i = some ds) : ∃ p vs, σ[i]? = some (some (.ref p)) ∧ o p = some (.slot i) ∧ H p = some (.dK vs) ∧ IsFk C ι o H ds vs := by
  obtain ⟨v, e, p, ev, ho, vs, h1, h2⟩ := R.env i _ (ps_own h)
  exact ⟨p, vs, by rw [e, ev], ho, h1, h2⟩
/-- what stands at an owned address is changed -/
theorem Rel.mutK {i : Nat} {p : Addr} {es : List (Key × Sr.D)} {ws : List (Key × V)} (R : Rel C ι o H s σ) (hi : i < s.env.length) (hv : σ[i]? = some (some (.ref p))) (ho : o p = some (.slot i)) (new : IsFk C ι o H es ws) :
    Rel C ι o (upd H p (.dK ws)) { s with env := s.env.set i (some (.own, .dic es)) } σ := by
  have kk := (chg (ι := ι) (H := H) (x := .dK ws) ho (.inl ⟨i, rfl⟩)).1
  have ne : ∀ a, o a ≠ some (.slot i) → a ≠ p := fun a h z => h (by rw [z]; exact ho)
  refine ⟨fun j sl e => ?_, by rw [List.length_set]; exact R.len, ⟨fun n c q => ?_, fun a h => ?_, R.sto.len⟩⟩
  · by_cases hj : j = i
    · subst hj
      rw [List.getElem?_set_self hi] at e
      cases e
      exact ⟨_, hv, p, rfl, ho, ws, upd_same, new.mono kk⟩
    · rw [List.getElem?_set_ne (Ne.symm hj)] at e
      obtain ⟨u, e1, q⟩ := R.env j sl e
      refine ⟨u, e1, q.mono kk fun p2 x hx hw => ⟨?_, rfl⟩⟩
      rw [upd_ne (ne p2 ?_)]
      · exact hx
      · rcases hw with hw | hw | hw
        · rw [hw]; exact fun z => hj (Ow.slot.inj (Option.some.inj z))
        · rw [hw]; exact fun z => nomatch z
        · rw [hw]; exact fun z => nomatch z
  · exact (R.sto.cell n c q).mono kk (fun p2 x hx hw => ⟨by rw [upd_ne (ne p2 (by rw [hw]; exact fun z => nomatch z))]; exact hx, rfl⟩) R.sto.own
  · by_cases z : a = p
    · rw [z, upd_same]; exact fun z => nomatch z
    · rw [upd_ne z]; exact R.sto.own a h
theorem sS_setk {i : Nat} {pos' : Pos} (K : Okx X C W k) (hv : PE X a (tVar i)) (hb : PE X b (rdE C Φ W e1)) (hc : PE X c (rdE C Φ W e)) (hs : swapsWith c (some (.Subscript a b pos')) pos.line X.env = pure false := by rfl) :
    PS X (.Assign [.Subscript a b pos'] c pos) (rdS C Φ W (.setk (.slot i) e1 e)) := PS.imp (ps_dput (by have := K.room.un; omega) hv hb hc hs) fun D σ H => by
  rintro ⟨ι, o, s, R, h⟩
  unfold evS at h
  refine rsv_of R h fun d s1 v H1 ι1 o1 f1 R1 E1 h1 => ?_
  obtain ⟨ds0, q0, h1⟩ := orS_some h1
  obtain ⟨p, vs0, w1, _⟩ := ownK_at R1 q0
  refine ⟨_, w1, ?_⟩
  refine rs_of R1 h1 fun j s2 u H2 ι2 o2 _ f2 R2 E2 F2 h2 _ => ?_
  obtain ⟨ds, q, h2⟩ := orS_some h2
  obtain ⟨key, qk, h2⟩ := orS_some h2
  obtain ⟨p1, vs, c1, c2, c3, c4⟩ := ownK_at R2 q
  rw [w1] at c1
  cases c1
  split at h2
  · rename_i hl
    refine ⟨p, _, rfl, by rw [key_is E2 qk]; exact DPut.k c3 (by rw [← c4.len]; exact lim_lt hl), ?_⟩
    have hi : i < s2.env.length := (List.getElem?_eq_some_iff.mp (ps_own q)).1
    exact h2 σ _ ι2 o2 (chg c2 (.inl ⟨i, rfl⟩)).2 (R2.mutK hi w1 c2 (c4.put (E1.mono f2.kept)))
  · exact h2.elim
end
end Sr

/-! Sr, part 22: sorted by a row's number, pop at a place. -/
namespace Sr
open PySem PySem.Spec PyProof.Rows L2
section
variable {X : Cx} {C : Ctx} {Φ : Nat → List Sl → List Cell → COut} {W : WX} {k : Nat} {σ : L2.St} {ι ι' : List Addr} {o o' : Own} {H H' : Hp} {s : Stt} {e e1 e2 e3 : Ex} {a b c tg : Expr} {pos : Pos} {Q : VK} {S : List Cell}
/-! ### xs.pop(i) -/
theorem frm_cell {n : Nat} {p : Addr} {x : HO} (ho : o p = some (.cell n)) : Frm ι o H ι o (upd H p x) where
  io := fun _ _ h => h
  hp := fun a y h hn => by
    have ne : a ≠ p := fun z => hn n (by rw [z]; exact ho)
    rw [upd_ne ne]
    exact h
  tg := fun a _ => .inl rfl
  ex := fun a h => by
    by_cases z : a = p
    · rw [z, upd_same]; exact fun z => nomatch z
    · rw [upd_ne z]; exact h
theorem sE_popAt {apos cpos : Pos} (ha : PE X a (rdE C Φ W e1)) (hb : PE X b (rdE C Φ W e2)) (hbase : attributeBase a "pop" X.env (eval a X.env) = eval a X.env := by rfl)
    (hfew : ((backTo cpos (starEach [b] X.env)).all (fun x => !x.1) && (backToKw cpos (keywordEach [] X.env)).all (fun x => x.1.isSome) && decide ([b].length + ([] : List Keyword).length + (if ([] : List Keyword).isEmpty then 0 else 1) < 30)) = true := by rfl)
    (hline : (apos.endLine == cpos.line) = true := by rfl) (hst : starEach [b] X.env = (false, eval b X.env) :: starEach [] X.env := by rfl) (hplain : (backTo cpos (starEach [] X.env)).any (·.1) = false := by rfl) :
    PE X (.Call (.Attribute a "pop" apos) [b] [] cpos) (rdE C Φ W (.popAt e1 e2)) :=
  PE.imp (pe_bm PySem.F.plainAttrs_list PySem.F.slot_list_pop PySem.F.type_list_pop mt_popAt ha (pa_cons hb pa_nil hst) hbase hfew hline hst hplain) fun σ H Q => by
    rintro ⟨ι, o, s, R, h⟩
    unfold evE at h
    refine rd_of R h fun x s1 v H1 ι1 o1 _ f1 R1 E1 F1 h1 _ => ?_
    split at h1
    · rename_i q0 qq
      obtain ⟨n0, ds0⟩ := q0
      obtain ⟨p, vs0, e1, e2, e3, e4, e5, e6⟩ := cel_at R1 E1 qq
      refine ⟨by rw [e1]; exact ty_list e5, ?_⟩
      refine rd_of R1 h1 fun y s2 u H2 ι2 o2 _ f2 R2 E2 F2 h2 _ => ?_
      split at h2
      · rename_i n ds kk q1 q2
        obtain ⟨p1, vs, c1, c2, c3, c4, c5, c6⟩ := cel_at R2 (E1.mono f2) q1
        rw [e1] at c1
        cases c1
        split at h2
        · rename_i hk
          split at h2
          · rename_i j qj
            split at h2
            · rename_i d qd
              obtain ⟨z, hz, hd⟩ := c6.get qd
              refine ⟨p, vs, kk, j, z, e1, by rw [res_int E2 q2], c5, hk.1, hk.2, by rw [← c6.length]; exact qj, hz, ?_⟩
              have kk' := (chg (ι := ι2) (H := H2) (x := .lst (vs.eraseIdx j)) c4 (.inr ⟨n, rfl⟩))
              exact h2 _ _ ι2 o2 (frm_cell c4) (R2.mutC c2 c3 c4 (c6.eraseIdx j)) (hd.mono kk'.1) (fun z => nomatch z)
            · exact h2.elim
          · exact h2.elim
        · exact h2.elim
      · exact h2.elim
    · exact h1.elim
/-! ### sorted(xs, key=f), f a def that gives its argument's number at a place -/
theorem call_key {P : Program} {w : World} {A : Around} {K : PySem.W.Frag} {x qual pn : Str} {st : Stmt} {f t : Addr} {fd : FuncData} {i j : Nat} {p1 p2 p3 p4 : Pos} {s : Shared} {its : List Value} {z : Int} {tk : Tok}
    (F : L2.Fun K x qual st f fd) (Sc : FnScope [pn] [pn] (defScope st)) (hb : defBody st = [.Return (some (.Subscript (.Name pn p1) (.Constant (.int (i : Nat)) j p2) p3)) p4]) (hl : (defScope st).names.lookup pn = some .local)
    (Bd : Binds K fd [pn] []) (hpd : (pn == ("__debug__" : Str)) = false) (KX : K.In s.heap) (lim : s.heap.NoLimit) (hd : A.depth < recursionLimit) (ht : IsTup s.heap t its.toArray) (hsz : its.length ≤ sizeLine) (hz : its[i]? = some (.int z tk)) :
    wpAny (model P w) A (call (.ref f) [.ref t]) (PySem.W.KeyPure (.int z) s) (fun _ _ => False) s := by
  obtain ⟨oc, od, kV, doc, pm, an, cdv, ct, osl, rfl, lk, hcd⟩ := F.ex
  refine wpAny_call ?_
  refine codeAny_call_function hd (KX _ _ lk) rfl Sc.co Sc.gen rfl (PySem.W.codeRec_of KX hcd) (Bd s [.ref t] KX rfl _ _ _ _ ?_)
  have hkind : ∀ y ∈ [pn].zip ([Value.ref t] ++ []), (defScope st).names.lookup y.1 = some .local ∨ ((defScope st).names.lookup y.1 = some .cell ∧ ((cellsFrom (s.heap.objs.size + 1) (defScope st).names []).lookup y.1).isSome = true) := fun y hy => by
    have : y = (pn, Value.ref t) := by simpa using hy
    subst this
    exact .inl hl
  refine wpAny_newFunctionEnv_cells Sc.kind hkind fun env he s1 xx => ?_
  subst he
  refine ⟨lim.keeps xx.toInCall.keep, codeAny_func ?_⟩
  obtain ⟨h1, tk1, rfl, hk⟩ := xx.done
  show wpAny _ _ (execs (defBody st) _) _ _ _
  rw [hb]
  refine wpAny_execs_cons (wpAny_Return_some ?_)
  refine PyProof.Rows.Subscript_ (wpAny_Name (wpAny_loadName_local (v := Value.ref t) Sc.kind hl xx.toInCall.ns (bindL_get (i := 0) (by simp) rfl rfl hl) ?_) hpd)
  refine wpAny_Constant_int ?_
  have hlt : i < its.length := (List.getElem?_eq_some_iff.mp hz).1
  have h63 := line63
  have pl : IsTup h1 t its.toArray := ht.keeps hk
  refine subscriptTail_builtinR (x := .int z tk) pl.typeIs slot_tuple_getitem.lookup (getItem_tuple (j := i) (Q := fun r s' => r = .int z tk ∧ PySem.W.KeyPure (.int z) s r s') pl (by omega) (by omega) ?_ (by simpa using hz) ⟨rfl, ?_⟩)
  · rw [seqIndex_of (by omega) (by rw [List.size_toArray]; omega)]
    rfl
  · exact ⟨h1, _, rfl, hk, .int z tk⟩
def rSortIx (C : Ctx) (i : Nat) (f : Addr) : List V → List V → Hp → VK → Prop := fun vs zs H Q => ∃ a xs ds ι o, vs = [.ref a] ∧ zs = [.ref f] ∧ SqL C.K H a xs ∧ IsFs C ι o H ds xs ∧ (∀ d ∈ ds, (keyI i d).isSome = true) ∧
  ∀ p ys, H p = none → IsFs C ι o H (sortK i ds) ys → Q (.ref p) (upd H p (.lst ys))
theorem each_of {R : Value → V × Sr.D → Prop} : ∀ {its : List Value} {xs : List V} {ds : List Sr.D}, Vals xs its → IsFs C ι o H ds xs → (∀ v x d, RelV x v → IsF C ι o H d x → R v (x, d)) → PySem.W.EachIs R its (xs.zip ds)
  | _, _, _, .nil, .nil, _ => .nil
  | _, _, _, .cons r t, .cons h u, k => .cons (k _ _ _ r h) (each_of t u k)
theorem each_out : ∀ {out : List Value} {bs : List (V × Sr.D)}, PySem.W.EachIs (fun v b => RelV b.1 v ∧ IsF C ι o H b.2 b.1) out bs → Vals (bs.map (·.1)) out ∧ IsFs C ι o H (bs.map (·.2)) (bs.map (·.1))
  | _, _, .nil => ⟨.nil, .nil⟩
  | _, _, .cons r t => ⟨.cons r.1 (each_out t).1, .cons r.2 (each_out t).2⟩
theorem cr_sortIx {x qual pn : Str} {st : Stmt} {f : Addr} {fd : FuncData} {i j : Nat} {p1 p2 p3 p4 : Pos} (K : Okx X C W k) (F : L2.Fun X.K x qual st f fd) (Sc : FnScope [pn] [pn] (defScope st))
    (hb : defBody st = [.Return (some (.Subscript (.Name pn p1) (.Constant (.int (i : Nat)) j p2) p3)) p4]) (hl : (defScope st).names.lookup pn = some .local)
    (Bd : Binds X.K fd [pn] []) (hpd : (pn == ("__debug__" : Str)) = false) : CallRK X (.builtin "sorted") [Str.ofString "key"] (rSortIx C i f) := by
  intro pins s σ H vs zs us ws Q I r rz h
  obtain ⟨a, xs, ds, ι, o, rfl, rfl, hs, hf, hk, q⟩ := h
  obtain rfl := Vals.ref1 r
  obtain rfl := Vals.ref1 rz
  rw [← K.kk] at hs
  obtain ⟨its, rv, hpl, hz⟩ := I.list hs
  have hlz : (xs.zip ds).length = xs.length := by rw [List.length_zip, hf.length]; exact Nat.min_self _
  refine PySem.W.sorted_key_data (b := false) (β := V × Sr.D) (R := fun v b => RelV b.1 v ∧ IsF C ι o H b.2 b.1) (fun b => .int ((keyI i b.2).getD 0)) hpl.isList (each_of rv hf fun v x d h1 h2 => ⟨h1, h2⟩)
    (PySem.W.AllAlike.of fun _ _ => by simp [PySem.W.alike]) (PySem.W.Sortable.others fun b => ⟨fun z => PyData.noConfusion z, fun xs z => PyData.noConfusion z⟩) (by rw [hlz]; exact hz)
    (fun b _ => ?_) (PyProof.Rows.ksk_s1 _ _) (fun _ => PyProof.Rows.ksk_l1 _ _) (fun _ => PyProof.Rows.ksk_t1 _ _) (fun v b hR hm h1 tk kp => ?_) fun out c h1 tk kp fresh hD hlen eo => ?_
  · have := K.room.un
    have e : (PyData.int ((keyI i b.2).getD 0)).depth = 0 := by simp [PyData.depth]
    omega
  · obtain ⟨x0, d⟩ := b
    have hd : d ∈ ds := (List.of_mem_zip hm).2
    obtain ⟨z, ez⟩ := Option.isSome_iff_exists.mp (hk d hd)
    show wpAny _ _ _ (PySem.W.KeyPure (.int ((keyI i d).getD 0)) _) _ _
    rw [ez]
    unfold keyI at ez
    split at ez
    · rename_i ts
      split at ez
      · rename_i z' qz
        cases ez
        obtain ⟨t, ws, et, ht, hws⟩ := IsF.tup_sq hR.2
        subst et
        rw [← K.kk] at ht
        cases (show v = Value.ref t from hR.1)
        obtain ⟨its2, rv2, pl2, hz2⟩ := I.tuple ht
        obtain ⟨u, hu, hfu⟩ := hws.get qz
        cases hfu
        obtain ⟨w, hw, rw'⟩ := rv2.get hu
        obtain ⟨tk', rfl⟩ := rw'
        exact call_key F Sc hb hl Bd hpd (I.kIn.keeps kp) (I.nolimit.keeps kp) (by have := K.room.dp; show X.A.depth < _; omega) (pl2.keeps kp) (by rw [← rv2.length]; exact hz2) hw
      · cases ez
    · cases ez
  · obtain ⟨k1, k2⟩ := each_out eo
    have e2 : ((xs.zip ds).mergeSort (PySem.W.dataLe false fun b => .int ((keyI i b.2).getD 0))).map (·.2) = sortK i ds := by
      rw [PySem.W.dataLe_int]
      unfold sortK
      rw [List.map_mergeSort (s := fun a b => decide ((keyI i a).getD 0 ≤ (keyI i b).getD 0)) (fun _ _ _ _ => rfl), List.map_snd_zip (Nat.le_of_eq hf.length)]
    rw [e2] at k2
    have hlen2 := k1.length
    exact ⟨.ref _, upd H (s.heap.objs.size + 1) (.lst _), I.laid (t' := tk) kp (Nat.le_succ _) ⟨by rw [hlen2, hlen, hlz]; exact hz, _, c, k1, hD⟩, rfl, q _ _ (I.hok.fresh (Nat.le_succ _)) k2⟩
theorem sE_sortI {p gp kp : Pos} {x qual pn : Str} {st : Stmt} {f : Addr} {fd : FuncData} {i j : Nat} {p1 p2 p3 p4 : Pos} (K : Okx X C W k) (hg : Gl X "sorted") (hm : X.mg "sorted" = none)
    (hg2 : Gl X x) (hm2 : X.mg x = some (.ref f)) (F : L2.Fun X.K x qual st f fd) (Sc : FnScope [pn] [pn] (defScope st))
    (hb : defBody st = [.Return (some (.Subscript (.Name pn p1) (.Constant (.int (i : Nat)) j p2) p3)) p4]) (hl : (defScope st).names.lookup pn = some .local)
    (Bd : Binds X.K fd [pn] []) (ha : PE X a (rdE C Φ W e1)) (hpd : (pn == ("__debug__" : Str)) = false := by decide) (hxd : (x == ("__debug__" : Str)) = false := by decide)
    (hst : starEach [a] X.env = (false, eval a X.env) :: starEach [] X.env := by rfl)
    (he : backTo pos (starEach [a] X.env) = (false, eval a X.env) :: backTo pos (starEach [] X.env) := by rfl) (hpl : (backTo pos (starEach [a] X.env)).any (·.1) = false := by rfl)
    (hall : (backToKw pos (keywordEach [⟨some "key", .Name x gp, kp⟩] X.env)).all (·.1.isSome) = true := by rfl) (hnone : (backToKw pos (keywordEach [⟨some "key", .Name x gp, kp⟩] X.env)).any (·.1.isNone) = false := by rfl) (hks : (backToKw pos (keywordEach [⟨some "key", .Name x gp, kp⟩] X.env)).filterMap (·.1) = [Str.ofString "key"] := by rfl) :
    PE X (.Call (.Name "sorted" p) [a] [⟨some "key", .Name x gp, kp⟩] pos) (rdE C Φ W (.sortI e1 i)) :=
  PE.imp (pe_callBK (cr_sortIx K F Sc hb hl Bd hpd) hg hm (by decide +kernel) (pa_cons ha pa_nil hst) (pk_cons (pe_glob (v := .ref f) hg2 hm2 rfl hxd) pk_nil) (he := he) (hpl := hpl) (hall := hall) (hnone := hnone) (hks := hks)) fun σ H Q => by
    rintro ⟨ι, o, s, R, h⟩
    unfold evE at h
    refine rd_of R h fun y s1 v H1 ι1 o1 _ f1 R1 E1 F1 h1 _ => ?_
    split at h1
    · rename_i ds qd
      split at h1
      · rename_i hk
        obtain ⟨p, vs, ev, sq, t⟩ := lsq_sq R1.sto E1 qd
        exact ⟨p, vs, ds, ι1, o1, by rw [ev], rfl, sq, t, fun d hd => List.all_eq_true.mp hk d hd, fun q ys n hy => Post.newL R1 h1 n hy⟩
      · exact h1.elim
    · exact h1.elim
end
end Sr

/-! Sr, part 23: dicts by tuples, sorted lists of data, the greatest with a default. -/
namespace Sr
open PySem PySem.Spec PyProof.Rows L2
section
variable {X : Cx} {C : Ctx} {Φ : Nat → List Sl → List Cell → COut} {W : WX} {k : Nat} {σ : L2.St} {ι ι' : List Addr} {o o' : Own} {H H' : Hp} {s : Stt} {D : Ends} {e e1 e2 e3 : Ex} {a b c tg : Expr} {pos : Pos} {Q : VK} {S : List Cell}
/-! ### dicts by tuples -/
theorem IsFt.val {key : List Key} : ∀ {ds : List (List Key × Sr.D)} {vs : List (List Key × V)}, IsFt C ι o H ds vs → (valT ds key).isSome = (valV vs key).isSome
  | _, _, .nil => rfl
  | _, _, .cons (k := k0) (d := d) (v := v) (ds := ds) (vs := vs) h t => by
    by_cases z : k0 = key
    · rw [valV_pos z]
      unfold valT
      rw [List.find?_cons, decide_eq_true (show ((k0, d) : List Key × Sr.D).1 = key from z)]
      rfl
    · have e1 : valT ((k0, d) :: ds) key = valT ds key := by
        unfold valT
        rw [List.find?_cons, decide_eq_false (show ¬ ((k0, d) : List Key × Sr.D).1 = key from z)]
      have e2 : valV ((k0, v) :: vs) key = valV vs key := valV_neg z
      rw [e1, e2]
      exact IsFt.val t
theorem IsFt.len : ∀ {ds : List (List Key × Sr.D)} {vs : List (List Key × V)}, IsFt C ι o H ds vs → ds.length = vs.length
  | _, _, .nil => rfl
  | _, _, .cons _ t => congrArg (· + 1) (IsFt.len t)
theorem IsFt.any {key : List Key} : ∀ {ds : List (List Key × Sr.D)} {vs : List (List Key × V)}, IsFt C ι o H ds vs → (ds.any fun kv => decide (kv.1 = key)) = vs.any fun kv => decide (kv.1 = key)
  | _, _, .nil => rfl
  | _, _, .cons _ t => by rw [List.any_cons, List.any_cons, IsFt.any t]
theorem IsFt.snoc {key : List Key} {d : Sr.D} {v : V} (r : IsF C ι o H d v) : ∀ {ds : List (List Key × Sr.D)} {vs : List (List Key × V)}, IsFt C ι o H ds vs → IsFt C ι o H (ds ++ [(key, d)]) (vs ++ [(key, v)])
  | _, _, .nil => .cons r .nil
  | _, _, .cons h t => .cons h (IsFt.snoc r t)
theorem IsFt.repl {key : List Key} {d : Sr.D} {v : V} (r : IsF C ι o H d v) : ∀ {ds : List (List Key × Sr.D)} {vs : List (List Key × V)}, IsFt C ι o H ds vs → IsFt C ι o H (ds.map fun kv => if kv.1 = key then (kv.1, d) else kv) (vs.map fun kv => if kv.1 = key then (kv.1, v) else kv)
  | _, _, .nil => .nil
  | _, _, .cons (k := k0) h t => by
    rw [List.map_cons, List.map_cons]
    by_cases z : k0 = key
    · rw [if_pos z, if_pos z]; exact .cons r (IsFt.repl r t)
    · rw [if_neg z, if_neg z]; exact .cons h (IsFt.repl r t)
theorem IsFt.put {key : List Key} {d : Sr.D} {v : V} (r : IsF C ι o H d v) {ds : List (List Key × Sr.D)} {vs : List (List Key × V)} (h : IsFt C ι o H ds vs) : IsFt C ι o H (putT ds key d) (putK vs key v) := by
  unfold putT putK
  rw [h.any]
  split
  · exact h.repl r
  · exact h.snoc r
theorem dtp_at {sl : Sl} {v : V} {p : Nat × List (List Key × Sr.D)} (K : SOk C ι o H S) (E : ResOk C ι o H sl v) (e : dtpOf S sl = some p) : ∃ a vs, v = .ref a ∧ S[p.1]? = some (.dtp p.2) ∧ ι[p.1]? = some a ∧ o a = some (.cell p.1) ∧ H a = some (.dT vs) ∧ IsFt C ι o H p.2 vs := by
  unfold dtpOf at e
  split at e
  · rename_i n
    split at e
    · rename_i ds q
      cases e
      obtain ⟨a, vs, hp, ho, hh, t⟩ := K.cell n _ q
      cases E with
      | ref ha =>
        rw [hp] at ha
        cases ha
        exact ⟨a, vs, rfl, q, hp, ho, hh, t⟩
    · cases e
  · cases e
theorem keys_is : ∀ {ds : List Sr.D} {vs : List V} {ks : List Key}, IsFs C ι o H ds vs → keysOf ds = some ks → vs = ks.map kV
  | _, _, ks, .nil, e => by cases e; rfl
  | d :: ds, _, ks, .cons h t, e => by
    unfold keysOf at e
    split at e
    · rename_i q qs e1 e2
      cases e
      rw [List.map_cons, ← keys_is t e2, ← key_is (x := (.val, d)) h e1]
    · cases e
theorem tup_key {sl : Sl} {v : V} {ks : List Key} (E : ResOk C ι o H sl v) (e : keysD sl.2 = some ks) : ∃ b, v = .ref b ∧ H b = some (.tup (ks.map kV)) := by
  obtain ⟨m, d⟩ := sl
  cases d with
  | tup ds =>
    cases m with
    | val =>
      cases E with
      | tup n r t => exact ⟨_, rfl, by rw [← keys_is t e]; exact r⟩
    | _ => exact E.elim
  | _ => cases e
/-- a new cell -/
theorem Rel.newC {p : Addr} {x : HO} {cl : Cell} (R : Rel C ι o H s σ) (n : H p = none) (hc : ∀ ι' o' H', Kept ι o H ι' o' H' → ι'[s.sto.length]? = some p → o' p = some (.cell s.sto.length) → H' p = some x → CellOk C ι' o' H' s.sto.length cl) :
    Frm ι o H (ι ++ [p]) (tag o p (some (.cell s.sto.length))) (upd H p x) ∧ Rel C (ι ++ [p]) (tag o p (some (.cell s.sto.length))) (upd H p x) { s with sto := s.sto ++ [cl] } σ ∧ (ι ++ [p])[s.sto.length]? = some p := by
  have hl : s.sto.length = ι.length := R.sto.len
  have io : ∀ (n : Nat) (a : Addr), ι[n]? = some a → (ι ++ [p])[n]? = some a := fun n a e => by
    rw [List.getElem?_append_left (List.getElem?_eq_some_iff.mp e).1]; exact e
  have last : (ι ++ [p])[s.sto.length]? = some p := by rw [hl, List.getElem?_append_right (Nat.le_refl _), Nat.sub_self]; rfl
  have hold : Hold ι o H (ι ++ [p]) (tag o p (some (.cell s.sto.length))) (upd H p x) := ⟨io, fun a y e => by
    have ne : a ≠ p := fun z => by rw [z, n] at e; cases e
    exact ⟨by rw [upd_ne ne]; exact e, tag_ne ne⟩⟩
  have ow := own_new (x := x) (w := some (.cell s.sto.length)) (p := p) R.sto.own
  refine ⟨hold.frm, ⟨fun i sl e => ?_, R.len, ⟨fun m c' q => ?_, ow, by rw [List.length_append, List.length_append, hl]; rfl⟩⟩, last⟩
  · obtain ⟨v, e1, q⟩ := R.env i sl e
    exact ⟨v, e1, q.mono hold.kept fun p2 y hy _ => hold.hp p2 y hy⟩
  · by_cases hn : m < s.sto.length
    · rw [List.getElem?_append_left hn] at q
      exact (R.sto.cell m c' q).mono hold.kept (fun p2 y hy _ => hold.hp p2 y hy) R.sto.own
    · have en : m = s.sto.length := by
        have := (List.getElem?_eq_some_iff.mp q).1
        rw [List.length_append] at this
        simp only [List.length_cons, List.length_nil] at this
        omega
      subst en
      rw [List.getElem?_append_right (Nat.le_refl _), Nat.sub_self] at q
      cases q
      exact hc _ _ _ hold.kept last tag_same upd_same
theorem sE_dtnew : PE X (.Dict [] [] pos) (rdE C Φ W .dtnew) := PE.imp pe_dnewT fun σ H Q => by
  rintro ⟨ι, o, s, R, h⟩ p n
  unfold evE at h
  obtain ⟨f, R2, l⟩ := R.newC (x := .dT []) (cl := .dtp []) n fun ι' o' H' k e1 e2 e3 => ⟨p, [], e1, e2, e3, .nil⟩
  exact h _ _ _ _ f R2 (.ref l) (fun z => nomatch z)
theorem rd_dinT {neg : Bool} {σ : L2.St} {H : Hp} {Q : VK} (h : rdE C Φ W (.dinT e2 e1 neg) σ H Q) : rdE C Φ W e2 σ H fun y H1 => rdE C Φ W e1 σ H1 fun x H2 => ∃ a o, x = .ref a ∧ DGet H2 a y o ∧ Q (.bl (if neg then !o.isSome else o.isSome)) H2 := by
  obtain ⟨ι, o, s, R, h⟩ := h
  unfold evE at h
  refine rd_of R h fun y s1 v H1 ι1 o1 _ f1 R1 E1 F1 h1 _ => ?_
  refine rd_of R1 h1 fun x s2 u H2 ι2 o2 _ f2 R2 E2 F2 h2 _ => ?_
  split at h2
  · rename_i p key q1 q2
    obtain ⟨pa, vs, ev, _, _, _, hh, t⟩ := dtp_at R2.sto E2 q1
    obtain ⟨b, eb, hb⟩ := tup_key (E1.mono f2) q2
    refine ⟨pa, valV vs key, ev, by rw [eb]; exact DGet.t hh hb, ?_⟩
    rw [← t.val (key := key)]
    exact Post.val R2 h2 (.bl _)
  · exact h2.elim
theorem sE_dinT (K : Okx X C W k) (ha : PE X a (rdE C Φ W e2)) (hb : PE X b (rdE C Φ W e1)) (hm : behindInMarks .In b = false := by rfl) : PE X (.Compare a [.In] [b] pos) (rdE C Φ W (.dinT e2 e1 false)) :=
  PE.imp (pe_cmp (pc_din (by have := K.room.un; omega) ha hb) hm) fun σ H Q h => rd_dinT h
/-- a dict by tuples is changed where it stands -/
theorem Rel.mutD {n : Nat} {p : Addr} {ds es : List (List Key × Sr.D)} {ws : List (List Key × V)} (R : Rel C ι o H s σ) (h : s.sto[n]? = some (.dtp ds)) (hp : ι[n]? = some p) (ho : o p = some (.cell n)) (new : IsFt C ι o H es ws) :
    Rel C ι o (upd H p (.dT ws)) { s with sto := s.sto.set n (.dtp es) } σ := by
  have kk := (chg (ι := ι) (H := H) (x := .dT ws) ho (.inr ⟨n, rfl⟩)).1
  have ne : ∀ a, o a ≠ some (.cell n) → a ≠ p := fun a h z => h (by rw [z]; exact ho)
  refine ⟨fun j sl e => ?_, R.len, ⟨fun m c' q => ?_, fun a h => ?_, by rw [List.length_set]; exact R.sto.len⟩⟩
  · obtain ⟨u, e1, q⟩ := R.env j sl e
    refine ⟨u, e1, q.mono kk fun p2 x hx hw => ⟨?_, rfl⟩⟩
    rw [upd_ne (ne p2 ?_)]
    · exact hx
    · rcases hw with hw | hw | hw <;> rw [hw] <;> exact fun z => nomatch z
  · by_cases hm : m = n
    · subst hm
      have hi : m < s.sto.length := (List.getElem?_eq_some_iff.mp h).1
      rw [List.getElem?_set_self hi] at q
      cases q
      exact ⟨p, ws, hp, ho, upd_same, new.mono kk⟩
    · rw [List.getElem?_set_ne (Ne.symm hm)] at q
      exact (R.sto.cell m c' q).mono kk (fun p2 x hx hw => ⟨by rw [upd_ne (ne p2 (by rw [hw]; exact fun z => hm (Ow.cell.inj (Option.some.inj z))))]; exact hx, rfl⟩) R.sto.own
  · by_cases z : a = p
    · rw [z, upd_same]; exact fun z => nomatch z
    · rw [upd_ne z]; exact R.sto.own a h
theorem sS_setT {pos' : Pos} (K : Okx X C W k) (ha : PE X a (rdE C Φ W e1)) (hb : PE X b (rdE C Φ W e2)) (hc : PE X c (rdE C Φ W e)) (hs : swapsWith c (some (.Subscript a b pos')) pos.line X.env = pure false := by rfl) :
    PS X (.Assign [.Subscript a b pos'] c pos) (rdS C Φ W (.setT e1 e2 e)) := PS.imp (ps_dput (by have := K.room.un; omega) ha hb hc hs) fun D σ H => by
  rintro ⟨ι, o, s, R, h⟩
  unfold evS at h
  refine rsv_of R h fun d s1 v H1 ι1 o1 f1 R1 E1 h1 => ?_
  refine rs_of R1 h1 fun x s2 w H2 ι2 o2 _ f2 R2 E2 F2 h2 _ => ?_
  refine rs_of R2 h2 fun j s3 u H3 ι3 o3 _ f3 R3 E3 F3 h3 _ => ?_
  obtain ⟨p, q, h3⟩ := orS_some h3
  obtain ⟨key, qk, h3⟩ := orS_some h3
  obtain ⟨pa, vs, ev, c1, c2, c3, c4, t⟩ := dtp_at R3.sto (E2.mono f3) q
  obtain ⟨bb, eb, hb⟩ := tup_key E3 qk
  dsimp only at h3
  split at h3
  · rename_i hl
    refine ⟨pa, _, ev, by rw [eb]; exact DPut.t c4 hb (by rw [← t.len]; exact lim_lt hl), ?_⟩
    exact h3 σ _ ι3 o3 (chg c3 (.inr ⟨_, rfl⟩)).2 (R3.mutD c1 c2 c3 (t.put ((E1.mono f2.kept).mono f3.kept)))
  · exact h3.elim
/-! ### sorted(xs) -/
theorem toPys_map : ∀ {ds : List Sr.D} {ps : List PyData}, toPys ds = some ps → ps = ds.map keyP
  | [], _, e => by cases e; rfl
  | d :: ds, ps, e => by
    unfold toPys at e
    cases q1 : toPy d with
    | none => rw [q1] at e; cases e
    | some x =>
      cases q2 : toPys ds with
      | none => rw [q1, q2] at e; cases e
      | some xs =>
        rw [q1, q2] at e
        cases e
        rw [List.map_cons, ← toPys_map q2]
        unfold keyP
        rw [q1]
        rfl
theorem toPys_mem : ∀ {ds : List Sr.D} {ps : List PyData} {d : Sr.D}, toPys ds = some ps → d ∈ ds → toPy d = some (keyP d)
  | [], _, _, _, h => nomatch h
  | e :: ds, ps, d, q, h => by
    unfold toPys at q
    cases q1 : toPy e with
    | none => rw [q1] at q; cases q
    | some x =>
      cases q2 : toPys ds with
      | none => rw [q1, q2] at q; cases q
      | some xs =>
        rcases List.mem_cons.mp h with rfl | h
        · unfold keyP; rw [q1]; rfl
        · exact toPys_mem q2 h
theorem each_in {R : Value → V × Sr.D → Prop} : ∀ {its : List Value} {xs : List V} {ds : List Sr.D}, Vals xs its → IsFs C ι o H ds xs → (∀ v x d, d ∈ ds → RelV x v → IsF C ι o H d x → R v (x, d)) → PySem.W.EachIs R its (xs.zip ds)
  | _, _, _, .nil, .nil, _ => .nil
  | _, _, _, .cons r t, .cons h u, k => .cons (k _ _ _ (List.mem_cons_self ..) r h) (each_in t u fun v x d hd => k v x d (List.mem_cons_of_mem _ hd))
theorem cb_sorted (K : Okx X C W k) (hc : X.calm = true) : CallR X (.builtin "sorted") (rBi C W .sorted) := by
  intro pins s σ H xs us Q I r h
  obtain ⟨σ', ι, o, st, a, v, rr, ev, R, E, e, h9⟩ := bi_one (fun _ _ => rfl) h
  obtain ⟨ds, en, e2⟩ := Option.bind_eq_some_iff.mp e
  split at e2
  · rename_i hs
    cases e2
    obtain ⟨ps, k1, k2, k3, k4⟩ := hs
    obtain ⟨p, vs, e1, r1, t⟩ := lsq_sq R.sto E en
    subst ev e1
    obtain rfl := Vals.ref1 r
    rw [← K.kk] at r1
    obtain ⟨its, rv, hpl, hz⟩ := I.list r1
    have hlz : (vs.zip ds).length = vs.length := by rw [List.length_zip, t.length]; exact Nat.min_self _
    have em : (vs.zip ds).map (fun b => keyP b.2) = ps := by
      rw [toPys_map k1, show (fun b : V × Sr.D => keyP b.2) = keyP ∘ Prod.snd from rfl, ← List.map_map, List.map_snd_zip (Nat.le_of_eq t.length)]
    refine PySem.W.sorted_data (β := V × Sr.D) (enc := fun b => keyP b.2) (R := fun v b => RelV b.1 v ∧ IsF C ι o H b.2 b.1) hpl.isList (each_of rv t fun v x d h1 h2 => ⟨h1, h2⟩)
      (each_in rv t fun v x d hd h1 h2 => Dp.reads I _ _ _ (by rw [K.kk]; exact h2.dp (toPys_mem k1 hd)) h1) (by rw [em]; exact k2) (by rw [em]; exact k3) (by rw [hlz]; exact hz)
      (fun b hb => ?_) fun out hlen eo => ?_
    · have := K.room.un
      have := k4 (keyP b.2) (by rw [← em]; exact List.mem_map.mpr ⟨b, hb, rfl⟩)
      omega
    · obtain ⟨q1, q2⟩ := each_out eo
      have e2 : ((vs.zip ds).mergeSort (PySem.W.dataLe false fun b => keyP b.2)).map (·.2) = sortT ds := by
        unfold sortT
        refine (List.map_mergeSort (r := PySem.W.dataLe false fun b : V × Sr.D => keyP b.2) (s := PySem.W.dataLe false keyP) (f := fun b : V × Sr.D => b.2) (l := vs.zip ds) (fun _ _ _ _ => rfl)).trans ?_
        rw [show (fun b : V × Sr.D => b.2) = Prod.snd from rfl, List.map_snd_zip (Nat.le_of_eq t.length)]
      rw [e2] at q2
      have hlen2 := q1.length
      obtain ⟨c, hc2⟩ := sortedAll_at s.heap its out.toArray
      exact ⟨.ref _, upd H (s.heap.objs.size + 1) (.lst _), I.laid (t' := s.toks) (fun _ _ => sortedAll_old) (Nat.le_succ _) ⟨by rw [hlen2, hlen, hlz]; exact hz, _, c, q1, hc2⟩, rfl, Post.newL R h9 (I.hok.fresh (Nat.le_succ _)) q2⟩
  · cases e2
/-! ### max(xs, default=d) -/
theorem reads_ints {h : Heap} : ∀ {its : List Value} {ns : List Int}, Vals (ns.map V.int) its → PySem.W.HoldAll h its ns := fun {its ns} => by
  induction ns generalizing its with
  | nil => intro r; cases r; exact ⟨[], .nil⟩
  | cons n ns ih =>
    intro r
    rw [List.map_cons] at r
    cases r with
    | cons r t =>
      obtain ⟨tk, rfl⟩ := r
      obtain ⟨as, h1⟩ := ih t
      exact ⟨[] ++ as, .cons (.int n tk) h1⟩
def rMaxD (C : Ctx) : List V → List V → Hp → VK → Prop := fun vs zs H Q => ∃ a ns d, vs = [.ref a] ∧ zs = [.int d] ∧ SqL C.K H a (ns.map V.int) ∧ Q (.int (maxL d ns)) H
theorem cr_maxD (K : Okx X C W k) (hc : X.calm = true) : CallRK X (.builtin "max") [Str.ofString "default"] (rMaxD C) := by
  intro pins s σ H vs zs us ws Q I r rz h
  obtain ⟨a, ns, d, rfl, rfl, hs, q⟩ := h
  obtain rfl := Vals.ref1 r
  rw [← K.kk] at hs
  obtain ⟨its, rv, hpl, hz⟩ := I.list hs
  cases rz with
  | cons r1 r2 =>
    cases r2
    obtain ⟨tk, rfl⟩ := r1
    have dp : PySem.W.Datum.depth Int = 0 := rfl
    refine PySem.W.max_list_datum_default (α := Int) (xs := ns) (vs := its.toArray) (I.ok.hd hc) hpl.isList (reads_ints rv) (by have := K.room.un; rw [dp]; omega) (fun e h' tk' kp => ?_) fun y ys i v h' tk' e hi hv kp => ?_
    · subst e
      exact ⟨.int d, H, I.kept (t' := tk') kp, ⟨tk, rfl⟩, q⟩
    · subst e
      obtain ⟨as, hv⟩ := hv
      have hv' : Reads h' v (.int (PySem.W.maxOf y ys)) as := hv
      cases hv' with
      | int _ t =>
        refine ⟨.int (maxL d (y :: ys)), H, I.kept (t' := tk') kp, ⟨t, ?_⟩, q⟩
        have e3 : ∀ (l : List Int) (z : Int), l.foldl (fun a y => if PySem.W.DatumOrd.lt a y = true then y else a) z = l.foldl (fun a y => if a < y then y else a) z := fun l => by
          induction l with
          | nil => intro z; rfl
          | cons x l ih =>
            intro z
            rw [List.foldl_cons, List.foldl_cons, ih]
            have : (PySem.W.DatumOrd.lt z x = true) = (z < x) := by
              show (decide (z < x) = true) = (z < x)
              exact decide_eq_true_eq
            simp only [this]
        show Value.int (PySem.W.maxOf y ys) t = .int (maxL d (y :: ys)) t
        unfold PySem.W.maxOf maxL
        rw [e3]
theorem sE_maxD {p kp p0 : Pos} {d : Int} {j} (K : Okx X C W k) (hc : X.calm = true) (hg : Gl X "max") (hm : X.mg "max" = none) (ha : PE X a (rdE C Φ W e1))
    (hst : starEach [a] X.env = (false, eval a X.env) :: starEach [] X.env := by rfl)
    (he : backTo pos (starEach [a] X.env) = (false, eval a X.env) :: backTo pos (starEach [] X.env) := by rfl) (hpl : (backTo pos (starEach [a] X.env)).any (·.1) = false := by rfl)
    (hall : (backToKw pos (keywordEach [⟨some "default", .Constant (.int d) j p0, kp⟩] X.env)).all (·.1.isSome) = true := by rfl) (hnone : (backToKw pos (keywordEach [⟨some "default", .Constant (.int d) j p0, kp⟩] X.env)).any (·.1.isNone) = false := by rfl) (hks : (backToKw pos (keywordEach [⟨some "default", .Constant (.int d) j p0, kp⟩] X.env)).filterMap (·.1) = [Str.ofString "default"] := by rfl) :
    PE X (.Call (.Name "max" p) [a] [⟨some "default", .Constant (.int d) j p0, kp⟩] pos) (rdE C Φ W (.bi (.max1 (some d)) (.cons e1 .nil))) :=
  PE.imp (pe_callBK (cr_maxD K hc) hg hm (by decide +kernel) (pa_cons ha pa_nil hst) (pk_cons pe_int pk_nil) (he := he) (hpl := hpl) (hall := hall) (hnone := hnone) (hks := hks)) fun σ H Q => by
    rintro ⟨ι, o, s, R, h⟩
    unfold evE evP at h
    refine ⟨ι, o, s, R, ?_⟩
    cases q : evE Φ e1 s with
    | stuck => rw [q] at h; exact h
    | exc x s1 => rw [q] at h; exact h
    | ok sl s1 =>
      rw [q] at h
      intro v H1 ι1 o1 f1 R1 E1 F1
      unfold evP at h
      replace h : Post C W σ ι o H (lift s1 (biV s1.sto (.max1 (some d)) [sl])) Q := h
      obtain ⟨r, er, h⟩ := post_lift h
      replace er : ((lsqOf s1.sto sl).bind intsOf).map (fun ns => vI (maxL d ns)) = some r := er
      obtain ⟨ns, en, e2⟩ := Option.map_eq_some_iff.mp er
      subst e2
      obtain ⟨ds, en1, en2⟩ := Option.bind_eq_some_iff.mp en
      obtain ⟨p, vs, ev, r1, t⟩ := lsq_sq R1.sto E1 en1
      have et := intsOf_is en2 t
      subst et
      exact ⟨p, ns, d, by rw [ev], rfl, r1, Post.val R1 (Post.shift f1 h) (.int _)⟩
/-! ### xs.extend(ys) -/
theorem sS_ext {i : Nat} {apos cpos : Pos} (hv : PE X a (tVar i)) (ha : PE X b (rdE C Φ W e)) (hbase : attributeBase a "extend" X.env (eval a X.env) = eval a X.env := by rfl)
    (hfew : ((backTo cpos (starEach [b] X.env)).all (fun x => !x.1) && (backToKw cpos (keywordEach [] X.env)).all (fun x => x.1.isSome) && decide ([b].length + ([] : List Keyword).length + (if ([] : List Keyword).isEmpty then 0 else 1) < 30)) = true := by rfl)
    (hline : (apos.endLine == cpos.line) = true := by rfl) (hst : starEach [b] X.env = (false, eval b X.env) :: starEach [] X.env := by rfl) (hplain : (backTo cpos (starEach [] X.env)).any (·.1) = false := by rfl)
    (hs : swapsWith (.Call (.Attribute a "extend" apos) [b] [] cpos) none pos.line X.env = pure false := by rfl) :
    PS X (.Expr (.Call (.Attribute a "extend" apos) [b] [] cpos) pos) (rdS C Φ W (.ext (.slot i) e)) :=
  PS.imp (ps_expr (pe_bm PySem.F.plainAttrs_list PySem.F.slot_list_extend PySem.F.type_list_extend mt_extend hv (pa_cons ha pa_nil hst) hbase hfew hline hst hplain) hs) fun D σ H => by
    rintro ⟨ι, o, s, R, h⟩
    unfold evS at h
    obtain ⟨ds, q, h⟩ := orS_some h
    obtain ⟨p, vs, e1, e2, e3, e4⟩ := own_at R q
    refine ⟨_, e1, ty_list e3, ?_⟩
    refine rs_of R h fun y s1 v H1 ι1 o1 _ f1 R1 E1 F1 h1 _ => ?_
    obtain ⟨ds1, q1, h1⟩ := orS_some h1
    obtain ⟨es, q2, h1⟩ := orS_some h1
    obtain ⟨p1, vs1, c1, c2, c3, c4⟩ := own_at R1 q1
    rw [e1] at c1
    cases c1
    obtain ⟨b2, ws, d1, d2, d3⟩ := lst_rd R1.sto E1 q2
    split at h1
    · rename_i hl
      exact ⟨p, b2, vs1, ws, rfl, by rw [d1], c3, d2, by rw [← c4.length, ← d3.length]; exact Nat.le_trans hl lim_le, putO_ok R1 q1 e1 c2 (c4.append d3) h1⟩
    · exact h1.elim
end
end Sr

/-! Sr, part 24: a stretch of a list is put otherwise. -/
namespace Sr
open PySem PySem.Spec PyProof.Rows L2
section
variable {X : Cx} {C : Ctx} {Φ : Nat → List Sl → List Cell → COut} {W : WX} {k : Nat} {σ : L2.St} {ι ι' : List Addr} {o o' : Own} {H H' : Hp} {s : Stt} {D : Ends} {e e1 e2 e3 : Ex} {a b c tg : Expr} {pos : Pos} {Q : VK} {S : List Cell}
def gSls (to tl th : TE) : TG := fun v σ H Q => to σ H fun x H1 => tl σ H1 fun y H2 => th σ H2 fun z H3 => ∃ l b xs ys a c, x = .ref l ∧ v = .ref b ∧ y = .int a ∧ z = .int c ∧ H3 l = some (.lst xs) ∧ H3 b = some (.lst ys) ∧ l ≠ b ∧ 0 ≤ a ∧ a ≤ c ∧ c ≤ xs.length ∧ xs.length + ys.length ≤ sizeLine ∧ Q σ (upd H3 l (.lst (xs.take a.toNat ++ ys ++ xs.drop c.toNat)))
theorem pg_slc {ob lo hi : Expr} {to tl th : TE} {p2 : Pos} (ho : PE X ob to) (hl : PE X lo tl) (hh : PE X hi th) : PG X (.Subscript ob (.Slice (some lo) (some hi) none p2) pos) (gSls to tl th) := by
  refine ⟨fun pins s σ H v u Q I r h => ?_⟩
  rw [PySem.assign_Subscript]
  refine wpAny_bind (wpAny_holding (thn (ho.run pins s σ H _ I h) fun ov s1 ⟨x, H1, I1, r1, q1⟩ => ?_))
  refine wpAny_bind (wpAny_holding (wpAny_Slice ?_))
  rw [evalPart_some, evalPart_some]
  refine thn (hl.run pins s1 σ H1 _ I1 q1) fun vl s2 ⟨y, H2, I2, r2, q2⟩ => thn (hh.run pins s2 σ H2 _ I2 q2) fun vu s3 ⟨z, H3, I3, r3, q3⟩ => ?_
  rw [evalPart_none]
  refine wpAny_pure ?_
  have I4 : Inv X pins σ H3 { s3 with heap := s3.heap.push { cls := .type "slice", data := .fields #[vl, vu, .none] } } := I3.kept (t' := s3.toks) fun b ob q => Heap.get?_push_of_some _ q
  obtain ⟨l, b, xs, ys, a, c, rfl, rfl, rfl, rfl, e1, e2, ne, g1, g2, g3, g4, q⟩ := q3
  cases r1
  cases r
  refine wpAny_bind (wpAny_standAt (wpAny_bind (wpAny_holding (set_slice I4 e1 e2 ne (Heap.IsSliceOf.new ..) r2 r3 g1 g2 g3 g4 fun s5 I5 => ?_))))
  exact wpAny_release ⟨σ, _, I5, q⟩
theorem lstD_rd {sl : Sl} {v : V} {ds : List Sr.D} (E : ResOk C ι o H sl v) (e : lstD sl = some ds) : ∃ a vs, v = .ref a ∧ H a = some (.lst vs) ∧ IsFs C ι o H ds vs ∧ ∀ n, o a ≠ some (.cell n) := by
  obtain ⟨m, d⟩ := sl
  cases d with
  | lst es =>
    cases e
    cases m with
    | val =>
      obtain ⟨a, vs, ev, n, r, t⟩ := IsF.lst_rd E
      exact ⟨a, vs, ev, r, t, fun m z => by rw [n] at z; cases z⟩
    | own => obtain ⟨p, ev, q, vs, r, t⟩ := E; exact ⟨p, vs, ev, r, t, fun m z => by rw [q] at z; cases z⟩
    | lent =>
      obtain ⟨p, ev, q, vs, r, t⟩ := E
      exact ⟨p, vs, ev, r, t, fun m z => by rw [z] at q; rcases q with q | q | q <;> exact nomatch q⟩
    | pk =>
      obtain ⟨p, ev, q, vs, r, t⟩ := E
      exact ⟨p, vs, ev, r, t, fun m z => by rw [z] at q; rcases q with (q | q | q) | ⟨i, q⟩ <;> exact nomatch q⟩
  | _ => cases e
theorem sS_sls {tp p2 : Pos} {lo hi : Expr} (hv : PE X a (rdE C Φ W e2)) (hl : PE X lo (rdE C Φ W e1)) (hh : PE X hi (rdE C Φ W e3)) (hc : PE X c (rdE C Φ W e))
    (hs : swapsWithSole [.Subscript a (.Slice (some lo) (some hi) none p2) tp] c pos.line X.env = pure false := by rfl) (hw : swappedStores [.Subscript a (.Slice (some lo) (some hi) none p2) tp] c X.env = pure none := by rfl) (h1 : (assignEach [.Subscript a (.Slice (some lo) (some hi) none p2) tp] X.env).map (·.2) = [assign (.Subscript a (.Slice (some lo) (some hi) none p2) tp) X.env] := by rfl) :
    PS X (.Assign [.Subscript a (.Slice (some lo) (some hi) none p2) tp] c pos) (rdS C Φ W (.sls e2 e1 e3 e)) := PS.imp (ps_asg hc (pg_slc hv hl hh) hs hw h1) fun D σ H => by
  rintro ⟨ι, o, s, R, h⟩
  unfold evS at h
  refine rs_of R h fun y s1 v H1 ι1 o1 _ f1 R1 E1 F1 h1 _ => ?_
  refine rs_of R1 h1 fun x s2 w H2 ι2 o2 _ f2 R2 E2 F2 h2 _ => ?_
  refine rs_of R2 h2 fun j s3 u H3 ι3 o3 _ f3 R3 E3 F3 h3 _ => ?_
  refine rs_of R3 h3 fun z s4 t H4 ι4 o4 _ f4 R4 E4 F4 h4 _ => ?_
  obtain ⟨⟨nn, ds⟩, q, h4⟩ := orS_some h4
  obtain ⟨ys, qy, h4⟩ := orS_some h4
  obtain ⟨lw, ql, h4⟩ := orS_some h4
  obtain ⟨hw2, qh, h4⟩ := orS_some h4
  obtain ⟨p, vs, c1, c2, c3, c4, c5, c6⟩ := cel_at R4 ((E2.mono f3).mono f4) q
  obtain ⟨b, ws, d1, d2, d3, d4⟩ := lstD_rd (((E1.mono f2).mono f3).mono f4) qy
  dsimp only at h4
  split at h4
  · rename_i hok
    obtain ⟨g1, g2, g3, g4⟩ := hok
    refine ⟨p, b, vs, ws, lw, hw2, c1, d1, intV_is (E3.mono f4) ql, intV_is E4 qh, c5, d2, fun z => d4 _ (by rw [← z]; exact c4), g1, g2, by rw [← c6.length]; exact g3, by rw [← c6.length, ← d3.length]; exact Nat.le_trans g4 lim_le, ?_⟩
    exact putC_ok R4 c2 c3 c4 (((c6.take _).append d3).append (c6.drop _)) h4
  · exact h4.elim
/-! ### max(xs) -/
theorem maxGo_mem : ∀ (l : List Int) (z : Int), (l.foldl (fun a y => if a < y then y else a) z = z ∨ l.foldl (fun a y => if a < y then y else a) z ∈ l) ∧ z ≤ l.foldl (fun a y => if a < y then y else a) z ∧ ∀ y ∈ l, y ≤ l.foldl (fun a y => if a < y then y else a) z
  | [], z => ⟨.inl rfl, Int.le_refl _, fun _ h => nomatch h⟩
  | x :: l, z => by
    obtain ⟨h1, h2, h3⟩ := maxGo_mem l (if z < x then x else z)
    rw [List.foldl_cons]
    by_cases q : z < x
    · rw [if_pos q] at h1 h2 h3 ⊢
      refine ⟨.inr ?_, by omega, fun y hy => ?_⟩
      · rcases h1 with h1 | h1
        · rw [h1]; exact List.mem_cons_self ..
        · exact List.mem_cons_of_mem _ h1
      · rcases List.mem_cons.mp hy with rfl | hy
        · exact h2
        · exact h3 y hy
    · rw [if_neg q] at h1 h2 h3 ⊢
      refine ⟨?_, h2, fun y hy => ?_⟩
      · rcases h1 with h1 | h1
        · exact .inl h1
        · exact .inr (List.mem_cons_of_mem _ h1)
      · rcases List.mem_cons.mp hy with rfl | hy
        · omega
        · exact h3 y hy
theorem maxL_mem {ns : List Int} (h : ns ≠ []) : maxL 0 ns ∈ ns ∧ ∀ y ∈ ns, y ≤ maxL 0 ns := by
  cases ns with
  | nil => exact absurd rfl h
  | cons n r =>
    obtain ⟨h1, h2, h3⟩ := maxGo_mem r n
    refine ⟨?_, fun y hy => ?_⟩
    · show r.foldl _ n ∈ _
      rcases h1 with h1 | h1
      · rw [h1]; exact List.mem_cons_self ..
      · exact List.mem_cons_of_mem _ h1
    · rcases List.mem_cons.mp hy with rfl | hy
      · exact h2
      · exact h3 y hy
theorem cb_max1 (K : Okx X C W k) (hc : X.calm = true) : CallR X (.builtin "max") (rBi C W (.max1 none)) := by
  intro pins s σ H xs us Q I r h
  obtain ⟨σ', ι, o, st, a, v, rr, ev, R, E, e, h⟩ := bi_one (fun _ _ => rfl) h
  obtain ⟨ns, en, e2⟩ := Option.bind_eq_some_iff.mp e
  split at e2
  · cases e2
  · rename_i hne
    cases e2
    obtain ⟨ds, en1, en2⟩ := Option.bind_eq_some_iff.mp en
    obtain ⟨p, vs, e1, r1, t⟩ := lsq_sq R.sto E en1
    have et := intsOf_is en2 t
    subst et
    refine cr_max hc pins s σ H xs us Q I r ⟨p, ns, by rw [ev, e1], by rw [K.kk]; exact r1, List.length_pos_iff.mpr hne, fun m hm hy => ?_⟩
    obtain ⟨g1, g2⟩ := maxL_mem hne
    have em : m = maxL 0 ns := Int.le_antisymm (g2 m hm) (hy _ g1)
    rw [em]
    exact Post.val R h (.int _)
/-! ### a comprehension over a list of the store -/
theorem compKL_at {n : Nat} {ds0 ds acc : List Sr.D} {vs : List Nat} {p : Pat} {c e : Stt → Out Sl} {s : Stt} {f : Sl → Stt → Out Sl} (h : Post C W σ ι o H ((compKL n ds0 vs p c e ds acc s).bind f) Q) : StoAt s n ds0 := by
  refine Classical.byContradiction fun z => ?_
  cases ds <;> (unfold compKL at h; rw [if_neg z] at h; exact h.elim)
theorem rd_lcK {vs : List Nat} {p : Pat} {a e c : Ex} (hsub : ∀ i ∈ patV p, i ∈ vs) (h : rdE C Φ W (.compK vs p a c e) σ H Q) : tLc (rdV C Φ W a false) (rdG C p) (rdT C Φ W0 c) (rdE C Φ W0 e) vs σ H Q := by
  obtain ⟨ι, o, s, R, h⟩ := h
  unfold evE at h
  refine ⟨ι, o, s, R, fun Q' hQ => ?_⟩
  cases q : evE Φ a s with
  | stuck => rw [q] at h; exact h
  | exc x s1 => rw [q] at h; exact h
  | ok src s1 =>
    rw [q] at h
    obtain ⟨m, d⟩ := src
    cases d with
    | ref n =>
      cases m with
      | val =>
        replace h : Post C W σ ι o H (compKO n vs p (evE Φ c) (evE Φ e) s1) Q := h
        intro v H1 ι1 o1 f1 R1 E1 _
        cases E1 with
        | @ref _ pa epa =>
        unfold compKO at h
        split at h
        · rename_i ds hd
          obtain ⟨p', hp', _, ws0, hvs, _⟩ := R1.sto.cell n _ hd
          rw [hp'] at epa
          have epb : pa = p' := (Option.some.inj epa).symm
          subst epb
          refine hQ _ H1 ⟨n, pa, _, s1, ds, ι1, o1, q, rfl, rfl, hp', hd, f1, R1, ⟨ws0, hvs⟩, ?_⟩
          have eJ : tyJ C.K false pa = Itl C.K pa := rfl
          rw [eJ]
          intro Dd hD
          split at h
          · rename_i hv
            replace h := Post.shift f1 h
            have n0 := own_none R1.sto.own hD
            refine ⟨fun i m H' => m = ds.length - i ∧ i ≤ ds.length ∧ ∃ ι o s acc ws, Frm ι1 o1 H1 ι o H' ∧ ι[n]? = some pa ∧ Rel C ι o H' s (wipe σ vs) ∧ H' Dd = some (.lst ws) ∧ o Dd = some .tmp ∧ IsFs C ι o H' acc ws ∧ Post C W σ ι1 o1 H1 ((compKL n ds vs p (evE Φ c) (evE Φ e) (ds.drop i) acc s).bind fun r s' => .ok r { s' with env := back s1.env s'.env vs }) Q,
              ⟨ds.length, rfl, Nat.zero_le _, ι1, tag o1 Dd (some .tmp), _, [], [], (Hold.new hD).frm, hp', (R1.wipe (vs := vs)).new hD, upd_same, tag_same, .nil, h⟩, ?_⟩
            rintro i m H' ⟨rfl, hle, ι, o, s, acc, ws, fB, hpi, R2, hw, ho, ha, h⟩
            have hst := compKL_at h
            have hcell : s.sto[n]? = some (.lst ds) := hst
            obtain ⟨p2, hp2, _, vs2, hvs2, hfs⟩ := R2.sto.cell n _ hcell
            rw [hpi] at hp2
            have epc : pa = p2 := Option.some.inj hp2
            subst epc
            have at0 : ItAt C ι o H' (Itl C.K pa) ds := at_list (.inl (.inl hvs2)) hfs R2.sto.own
            by_cases hi : i < ds.length
            · refine .inr ⟨at0.go i hi, fun H' => ∃ ι o s acc ws, Frm ι1 o1 H1 ι o H' ∧ ι[n]? = some pa ∧ Rel C ι o H' s (wipe σ vs) ∧ H' Dd = some (.lst ws) ∧ o Dd = some .tmp ∧ IsFs C ι o H' acc ws ∧ Post C W σ ι1 o1 H1 ((compKL n ds vs p (evE Φ c) (evE Φ e) (ds.drop (i + 1)) acc s).bind fun r s' => .ok r { s' with env := back s1.env s'.env vs }) Q, fun H' w => ⟨ds.length - (i + 1), by omega, rfl, hi, w⟩, ?_⟩
              intro x H2 y
              obtain ⟨d, e1, hold, ow, hd2⟩ := at0.yld i x H2 hi y
              have ed : ds.drop i = d :: ds.drop (i + 1) := by
                rw [List.drop_eq_getElem_cons hi]
                rw [List.getElem?_eq_getElem hi] at e1
                cases e1
                rfl
              rw [ed] at h
              unfold compKL at h
              rw [if_pos hst] at h
              cases qb : bindP p d s.env with
              | none => simp only [qb] at h; exact h.elim
              | some env =>
                simp only [qb] at h
                refine ⟨ι, o, s, d, env, R2.hold hold ow rfl, hd2, qb, fun σ' R3 off => ?_⟩
                have ew := off.wipe hsub
                refine ⟨ew, ι, o, _, R3, ?_⟩
                obtain ⟨bv, s2, ec, h⟩ := noX_post2 h
                rw [ec]
                intro v H3 ι3 o3 f3 R4 E3 _
                have fB3 := (fB.trans hold.frm).trans f3
                have hp3 : ι3[n]? = some pa := f3.io _ _ hpi
                have w3 : H3 Dd = some (.lst ws) := f3.hp Dd _ ((hold.hp Dd _ hw).1) (by rw [ho]; exact fun n z => nomatch z)
                have o3D : o3 Dd = some .tmp := by
                  rcases f3.tg Dd (some_ne (hold.hp Dd _ hw).1) with z | ⟨⟨n, z⟩, _⟩
                  · rw [z, ho]
                  · rw [ho] at z; cases z
                have ha3 : IsFs C ι3 o3 H3 acc ws := (ha.mono hold.kept).mono f3.kept
                obtain ⟨bm, bd⟩ := bv
                cases bm with
                | val =>
                  cases bd with
                  | bl bb =>
                    cases E3
                    refine ⟨bb, rfl, ?_⟩
                    cases bb with
                    | false =>
                      rw [if_neg (by decide)]
                      exact ⟨ι3, o3, _, acc, ws, fB3, hp3, by rw [← ew]; exact R4.wipe, w3, o3D, ha3, h⟩
                    | true =>
                      rw [if_pos rfl]
                      refine ⟨ι3, o3, s2, R4, ?_⟩
                      obtain ⟨yv, s3, ee, h⟩ := noX_post2 h
                      unfold valO at ee
                      cases qe : evE Φ e s2 with
                      | stuck => rw [qe] at ee; cases ee
                      | exc x s3 => rw [qe] at ee; cases ee
                      | ok yl s4 =>
                        rw [qe] at ee
                        dsimp only [Out.bind] at ee
                        cases qt : toVal yl with
                        | none => rw [qt] at ee; cases ee
                        | some yd =>
                          rw [qt] at ee
                          cases ee
                          intro u H4 ι4 o4 f4 R5 E4 F4
                          obtain ⟨o5, f5, R6, hy, k5⟩ := conv f4 R5 E4 F4 qt
                          have w4 : H4 Dd = some (.lst ws) := f5.hp Dd _ w3 (by rw [o3D]; exact fun n z => nomatch z)
                          have o5D : o5 Dd = some .tmp := by
                            rcases f5.tg Dd (some_ne w3) with z | ⟨⟨n, z⟩, _⟩
                            · rw [z, o3D]
                            · rw [o3D] at z; cases z
                          dsimp only at h
                          split at h
                          · rename_i hl
                            have ha5 : IsFs C ι4 o5 H4 (acc ++ [yd]) (ws ++ [u]) := (ha3.mono f5.kept).append (.cons hy .nil)
                            refine ⟨ws, w4, by rw [← ha.length]; exact lim_lt hl, ?_⟩
                            obtain ⟨kk, R7⟩ := (R6.wipe (vs := vs)).mutT (x := .lst (ws ++ [u])) o5D
                            refine ⟨ι4, o5, _, acc ++ [yd], ws ++ [u], (fB3.trans f5).updNew hD, f5.io _ _ hp3, ?_, upd_same, o5D, ha5.mono kk, h⟩
                            rw [← ew]
                            exact R7
                          · exact h.elim
                  | _ => exact h.elim
                | _ => exact h.elim
            · refine .inl ⟨at0.stop i (by omega), ?_⟩
              rw [List.drop_eq_nil_of_le (by omega)] at h
              unfold compKL at h
              rw [if_pos hst] at h
              exact h (.ref Dd) H' ι o fB (R1.back hv fB.kept R2) ⟨Dd, rfl, ho, ws, hw, ha⟩ (fun _ q e => by cases e; exact hD)
          · exact h.elim
        · exact h.elim
      | _ => exact h.elim
    | _ => cases m <;> exact h.elim
theorem sE_compK {elt iter : Expr} {ifs : List Expr} {scope : Scope} {own : List (Str × Nat)} {p : Pat} {a e c : Ex} {vs : List Nat} (hc : X.calm = true) (hN : X.N.Nodup) (hi : PI X tg iter (rdV C Φ W a false)) (ok : BlkOk X.N X.env.scope scope own)
    (hg : ∀ (s : Shared) (H : Hp) (C' : Addr) (cl : List (Str × Addr)) (fp : List Addr), PG (X.blk s H scope (compEnvC scope cl C' X.env) fp) tg (rdG C p)) (ht : ∀ (s : Shared) (H : Hp) (C' : Addr) (cl : List (Str × Addr)) (fp : List Addr), PTs (X.blk s H scope (compEnvC scope cl C' X.env) fp) ifs (rdT C Φ W0 c))
    (he : ∀ (s : Shared) (H : Hp) (C' : Addr) (cl : List (Str × Addr)) (fp : List Addr), PE (X.blk s H scope (compEnvC scope cl C' X.env) fp) elt (rdE C Φ W0 e)) (hsub : ∀ i ∈ patV p, i ∈ own.map (·.2) := by decide) (hv : vs = own.map (·.2) := by rfl) (hs : ∀ x, foldedSetIterable iter X.env x = pure x := by intro _; rfl) :
    PE X (.ListComp elt [⟨tg, iter, ifs, 0⟩] scope pos) (rdE C Φ W (.compK vs p a c e)) := by
  subst hv
  exact PE.imp (pe_lc hc hN hi ok hg ht he hs) fun σ H Q h => rd_lcK hsub h
theorem sS_setLcK {i : Nat} {y : Str} {py : Pos} {elt iter : Expr} {ifs : List Expr} {scope : Scope} {own : List (Str × Nat)} {pos spos : Pos} {p : Pat} {a e c : Ex} {vs : List Nat} (hc : X.calm = true) (hN : X.N.Nodup) (hy : X.N[i]? = some y) (hyl : X.env.scope.names.lookup y = some .local)
    (hsw : swapsWith (.ListComp elt [⟨tg, iter, ifs, 0⟩] scope pos) (some (.Name y py)) spos.line X.env = pure true) (hi : PI X tg iter (rdV C Φ W a false)) (ok : BlkOk X.N X.env.scope scope own)
    (hg : ∀ (s : Shared) (H : Hp) (C' : Addr) (cl : List (Str × Addr)) (fp : List Addr), PG (X.blk s H scope (compEnvC scope cl C' X.env) fp) tg (rdG C p)) (ht : ∀ (s : Shared) (H : Hp) (C' : Addr) (cl : List (Str × Addr)) (fp : List Addr), PTs (X.blk s H scope (compEnvC scope cl C' X.env) fp) ifs (rdT C Φ W0 c))
    (he : ∀ (s : Shared) (H : Hp) (C' : Addr) (cl : List (Str × Addr)) (fp : List Addr), PE (X.blk s H scope (compEnvC scope cl C' X.env) fp) elt (rdE C Φ W0 e)) (hsub : ∀ i ∈ patV p, i ∈ own.map (·.2) := by decide) (hv : vs = own.map (·.2) := by rfl) (hs : ∀ x, foldedSetIterable iter X.env x = pure x := by intro _; rfl) :
    PS X (.Assign [.Name y py] (.ListComp elt [⟨tg, iter, ifs, 0⟩] scope pos) spos) (rdS C Φ W (.asg (.nm i) (.compK vs p a c e))) := by
  subst hv
  refine PS.imp (ps_setLc hc hN hy hyl hsw hi ok hg ht he hs) fun D σ H => ?_
  rintro ⟨ι, o, s, R, h⟩
  unfold evS at h
  exact rd_lcK hsub (rs_of R h fun x s1 v H1 ι1 o1 _ f1 R1 E1 F1 h1 h0 => put_ok f1 R1 E1 F1 h0)
end
/-- .. that makes a value of each item and changes nothing -/
theorem compKL_map {α : Type} {n : Nat} {ds0 : List Sr.D} {vs : List Nat} {p : Pat} {c e : Stt → Out Sl} {S : List Cell} {env0 : List (Option Sl)} (hS : S[n]? = some (.lst ds0)) (d : α → Sr.D) (t : α → Bool) (f : α → Sr.D) : ∀ (xs : List α) (acc : List Sr.D),
    (∀ x ∈ xs, ∃ env1, bindP p (d x) env0 = some env1 ∧ c ⟨env1, S⟩ = .ok (.val, .bl (t x)) ⟨env1, S⟩ ∧ wipeD env1 vs = env0 ∧ (t x = true → ∃ env2 r, e ⟨env1, S⟩ = .ok r ⟨env2, S⟩ ∧ toVal r = some (f x) ∧ wipeD env2 vs = env0)) →
    acc.length + xs.length ≤ lim → compKL n ds0 vs p c e (xs.map d) acc ⟨env0, S⟩ = .ok (.own, .lst (acc ++ (xs.filter t).map f)) ⟨env0, S⟩
  | [], acc, _, _ => by
    rw [List.map_nil]
    unfold compKL
    rw [if_pos (show StoAt ⟨env0, S⟩ n ds0 from hS), List.filter_nil, List.map_nil, List.append_nil]
  | x :: xs, acc, h, hl => by
    obtain ⟨env1, h1, h2, h3, h4⟩ := h x (List.mem_cons_self ..)
    rw [List.length_cons] at hl
    rw [List.map_cons]
    unfold compKL
    rw [if_pos (show StoAt ⟨env0, S⟩ n ds0 from hS)]
    simp only [h1, h2]
    cases q : t x with
    | false =>
      rw [List.filter_cons_of_neg (by rw [q]; decide)]
      have ih := compKL_map hS d t f xs acc (fun y hy => h y (List.mem_cons_of_mem _ hy)) (by omega)
      simp only [noX, Out.bind, h3]
      exact ih
    | true =>
      obtain ⟨env2, r, g1, g2, g3⟩ := h4 q
      rw [List.filter_cons_of_pos q, List.map_cons]
      have ih := compKL_map hS d t f xs (acc ++ [f x]) (fun y hy => h y (List.mem_cons_of_mem _ hy)) (by rw [List.length_append]; simp only [List.length_cons, List.length_nil]; omega)
      have lz : acc.length < lim := by omega
      rw [List.append_assoc, List.singleton_append] at ih
      simp only [noX, Out.bind, g1, valO, g2, lz, g3, if_true]
      exact ih
end Sr

namespace Kx
open PySem PySem.Spec PyProof.Rows L2 Sr
def topS (i : Nat) : Stmt := PySem.Challenge.pw_slideroom_k22_the_book_kept.main.body.getD i (.Pass ⟨0, 0, 0, 0⟩)
/-! is_whole -/
abbrev s0 : Stmt := topS 7
theorem sc0 : FnScope ["thing"] ["thing"] (defScope s0) := ⟨rfl, rfl, rfl, by decide +kernel, rfl, by decide +kernel, by decide +kernel⟩
noncomputable def b0 : Sms :=
  (.cons (.ret (.and (.bi (.isinst ["int"]) (.cons (.pk 0) .nil)) (.not (.bi (.isinst ["bool"]) (.cons (.pk 0) .nil)))))
  .nil)
/-! is_within -/
abbrev s1 : Stmt := topS 8
theorem sc1 : FnScope ["thing", "low", "high"] ["thing", "low", "high"] (defScope s1) := ⟨rfl, rfl, rfl, by decide +kernel, rfl, by decide +kernel, by decide +kernel⟩
noncomputable def b1 : Sms :=
  (.cons (.ret (.and (.call 0 (.cons (.pk 0) .nil)) (.chn .le .le (.pk 1) (.pk 0) (.pk 2))))
  .nil)
/-! need_many -/
abbrev s2 : Stmt := topS 12
theorem sc2 : FnScope ["thing"] ["thing"] (defScope s2) := ⟨rfl, rfl, rfl, by decide +kernel, rfl, by decide +kernel, by decide +kernel⟩
noncomputable def b2 : Sms :=
  (.cons (.ite (.not (.call 1 (.cons (.pk 0) (.cons (.con (.int 16)) (.cons (.con (.int 240)) .nil))))) (.cons .wall
  .nil) .nil)
  (.cons (.ret (.var 0))
  .nil))
/-! is_stretch -/
abbrev s3 : Stmt := topS 14
theorem sc3 : FnScope ["thing"] ["thing"] (defScope s3) := ⟨rfl, rfl, rfl, by decide +kernel, rfl, by decide +kernel, by decide +kernel⟩
noncomputable def b3 : Sms :=
  (.cons (.ite (.or (.not (.bi (.isinst ["tuple"]) (.cons (.pk 0) .nil))) (.cmp .ne (.bi .len (.cons (.pk 0) .nil)) (.con (.int 2)))) (.cons (.ret (.con (.bl false)))
  .nil) .nil)
  (.cons (.ret (.and (.call 0 (.cons (.ix (.pk 0) (.con (.int 0))) .nil)) (.and (.call 0 (.cons (.ix (.pk 0) (.con (.int 1))) .nil)) (.and (.cmp .ge (.ix (.pk 0) (.con (.int 0))) (.con (.int 0))) (.cmp .ge (.ix (.pk 0) (.con (.int 1))) (.con (.int 1)))))))
  .nil))
/-! Holes.__init__ -/
abbrev s4 : Stmt := inClass (topS 15) 0
theorem sc4 : FnScope ["self", "many"] ["self", "many"] (defScope s4) := ⟨rfl, rfl, rfl, by decide +kernel, rfl, by decide +kernel, by decide +kernel⟩
noncomputable def b4 : Sms :=
  (.cons (.setf (.var 0) "width" [0] (.call 2 (.cons (.var 1) .nil)))
  (.cons (.setf (.var 0) "rows" [0] (.glob (.lst (.cons (.tup (.cons (.con (.int 0)) (.cons (.fld (.var 0) "width" [0]) .nil))) .nil))))
  .nil))
/-! Holes.told -/
abbrev s5 : Stmt := inClass (topS 15) 1
theorem sc5 : FnScope ["self"] ["self"] (defScope s5) := ⟨rfl, rfl, rfl, by decide +kernel, rfl, by decide +kernel, by decide +kernel⟩
noncomputable def b5 : Sms :=
  (.cons (.ret (.bi .list (.cons (.fld (.var 0) "rows" [0]) .nil)))
  .nil)
/-! Holes.largest_hole -/
abbrev s6 : Stmt := inClass (topS 15) 2
theorem sc6 : FnScope ["self", "start", "size"] ["self"] (defScope s6) := ⟨rfl, rfl, rfl, by decide +kernel, rfl, by decide +kernel, by decide +kernel⟩
noncomputable def x6_0 : Ex :=
  (.var 2)
noncomputable def e6_1 : Ex :=
  (.compK [1, 2] (.tup [(.nm 1), (.nm 2)]) (.fld (.var 0) "rows" [0]) yes x6_0)
noncomputable def b6 : Sms :=
  (.cons (.ret (.bi (.max1 (some 0)) (.cons e6_1 .nil)))
  .nil)
/-! Holes.free_cells -/
abbrev s7 : Stmt := inClass (topS 15) 3
theorem sc7 : FnScope ["self", "start", "size"] ["self"] (defScope s7) := ⟨rfl, rfl, rfl, by decide +kernel, rfl, by decide +kernel, by decide +kernel⟩
noncomputable def x7_0 : Ex :=
  (.var 2)
noncomputable def e7_1 : Ex :=
  (.compK [1, 2] (.tup [(.nm 1), (.nm 2)]) (.fld (.var 0) "rows" [0]) yes x7_0)
noncomputable def b7 : Sms :=
  (.cons (.ret (.bi .sum (.cons e7_1 .nil)))
  .nil)
/-! Holes.number_of -/
abbrev s8 : Stmt := inClass (topS 15) 4
theorem sc8 : FnScope ["self", "cell", "k", "start", "size"] ["self", "cell"] (defScope s8) := ⟨rfl, rfl, rfl, by decide +kernel, rfl, by decide +kernel, by decide +kernel⟩
noncomputable def l8_0 : Sms :=
  (.cons (.ite (.cmp .lt (.pk 1) (.bin .add (.pk 3) (.pk 4))) (.cons (.ret (.var 2))
  .nil) .nil)
  .nil)
noncomputable def b8 : Sms :=
  (.cons (.forC fuel (.tup [(.nm 2), (.tup [(.nm 3), (.nm 4)])]) true (.fld (.var 0) "rows" [0]) l8_0)
  (.cons (.ret (.bi .len (.cons (.fld (.var 0) "rows" [0]) .nil)))
  .nil))
/-! Holes.has -/
abbrev s9 : Stmt := inClass (topS 15) 5
theorem sc9 : FnScope ["self", "start", "size", "k", "first", "wide"] ["self", "start", "size"] (defScope s9) := ⟨rfl, rfl, rfl, by decide +kernel, rfl, by decide +kernel, by decide +kernel⟩
noncomputable def b9 : Sms :=
  (.cons (.ite (.not (.call 3 (.cons (.tup (.cons (.var 1) (.cons (.var 2) .nil))) .nil))) (.cons (.ret (.con (.bl false)))
  .nil) .nil)
  (.cons (.asg (.nm 3) (.meth (.var 0) "number_of" [(0, 8)] (.cons (.pk 1) .nil)))
  (.cons (.ite (.cmp .eq (.pk 3) (.bi .len (.cons (.fld (.var 0) "rows" [0]) .nil))) (.cons (.ret (.con (.bl false)))
  .nil) .nil)
  (.cons (.asg (.tup [(.nm 4), (.nm 5)]) (.ix (.fld (.var 0) "rows" [0]) (.pk 3)))
  (.cons (.ret (.and (.cmp .le (.pk 4) (.pk 1)) (.cmp .le (.bin .add (.pk 1) (.pk 2)) (.bin .add (.pk 4) (.pk 5)))))
  .nil)))))
/-! Holes.hole_at -/
abbrev s10 : Stmt := inClass (topS 15) 6
theorem sc10 : FnScope ["self", "cell"] ["self", "cell"] (defScope s10) := ⟨rfl, rfl, rfl, by decide +kernel, rfl, by decide +kernel, by decide +kernel⟩
noncomputable def b10 : Sms :=
  (.cons (.ite (.not (.call 1 (.cons (.pk 1) (.cons (.con (.int 0)) (.cons (.bin .sub (.fld (.var 0) "width" [0]) (.con (.int 1))) .nil))))) (.cons .wall
  .nil) .nil)
  (.cons (.ite (.meth (.var 0) "has" [(0, 9)] (.cons (.pk 1) (.cons (.con (.int 1)) .nil))) (.cons (.ret (.ix (.fld (.var 0) "rows" [0]) (.meth (.var 0) "number_of" [(0, 8)] (.cons (.pk 1) .nil))))
  .nil) .nil)
  (.cons (.ret (.con .non))
  .nil)))
/-! Holes.take -/
abbrev s11 : Stmt := inClass (topS 15) 7
theorem sc11 : FnScope ["self", "start", "size", "k", "first", "wide", "left"] ["self", "start", "size"] (defScope s11) := ⟨rfl, rfl, rfl, by decide +kernel, rfl, by decide +kernel, by decide +kernel⟩
noncomputable def b11 : Sms :=
  (.cons (.ite (.not (.meth (.var 0) "has" [(0, 9)] (.cons (.pk 1) (.cons (.pk 2) .nil)))) (.cons .wall
  .nil) .nil)
  (.cons (.asg (.nm 3) (.meth (.var 0) "number_of" [(0, 8)] (.cons (.pk 1) .nil)))
  (.cons (.asg (.tup [(.nm 4), (.nm 5)]) (.ix (.fld (.var 0) "rows" [0]) (.pk 3)))
  (.cons (.asg (.nm 6) (.lst .nil))
  (.cons (.ite (.cmp .gt (.pk 1) (.pk 4)) (.cons (.app (.slot 6) (.tup (.cons (.var 4) (.cons (.bin .sub (.pk 1) (.pk 4)) .nil))))
  .nil) .nil)
  (.cons (.ite (.cmp .gt (.bin .add (.pk 4) (.pk 5)) (.bin .add (.pk 1) (.pk 2))) (.cons (.app (.slot 6) (.tup (.cons (.bin .add (.pk 1) (.pk 2)) (.cons (.bin .sub (.bin .sub (.bin .add (.pk 4) (.pk 5)) (.pk 1)) (.pk 2)) .nil))))
  .nil) .nil)
  (.cons (.sls (.fld (.var 0) "rows" [0]) (.pk 3) (.bin .add (.pk 3) (.con (.int 1))) (.pk 6))
  .nil)))))))
/-! Holes.is_taken -/
abbrev s12 : Stmt := inClass (topS 15) 8
theorem sc12 : FnScope ["self", "start", "size", "k"] ["self", "start", "size"] (defScope s12) := ⟨rfl, rfl, rfl, by decide +kernel, rfl, by decide +kernel, by decide +kernel⟩
noncomputable def b12 : Sms :=
  (.cons (.ite (.or (.not (.call 3 (.cons (.tup (.cons (.var 1) (.cons (.var 2) .nil))) .nil))) (.cmp .gt (.bin .add (.pk 1) (.pk 2)) (.fld (.var 0) "width" [0]))) (.cons (.ret (.con (.bl false)))
  .nil) .nil)
  (.cons (.asg (.nm 3) (.meth (.var 0) "number_of" [(0, 8)] (.cons (.pk 1) .nil)))
  (.cons (.ret (.or (.cmp .eq (.pk 3) (.bi .len (.cons (.fld (.var 0) "rows" [0]) .nil))) (.cmp .le (.bin .add (.pk 1) (.pk 2)) (.ix (.ix (.fld (.var 0) "rows" [0]) (.pk 3)) (.con (.int 0))))))
  .nil)))
/-! Holes.give -/
abbrev s13 : Stmt := inClass (topS 15) 9
theorem sc13 : FnScope ["self", "start", "size", "end", "k", "first", "behind"] ["self", "start", "size"] (defScope s13) := ⟨rfl, rfl, rfl, by decide +kernel, rfl, by decide +kernel, by decide +kernel⟩
noncomputable def b13 : Sms :=
  (.cons (.ite (.not (.meth (.var 0) "is_taken" [(0, 12)] (.cons (.pk 1) (.cons (.pk 2) .nil)))) (.cons .wall
  .nil) .nil)
  (.cons (.asg (.nm 3) (.bin .add (.pk 1) (.pk 2)))
  (.cons (.asg (.nm 4) (.meth (.var 0) "number_of" [(0, 8)] (.cons (.pk 1) .nil)))
  (.cons (.asg (.nm 5) (.var 4))
  (.cons (.asg (.nm 6) (.var 4))
  (.cons (.ite (.and (.cmp .gt (.pk 4) (.con (.int 0))) (.cmp .eq (.bin .add (.ix (.ix (.fld (.var 0) "rows" [0]) (.bin .sub (.pk 4) (.con (.int 1)))) (.con (.int 0))) (.ix (.ix (.fld (.var 0) "rows" [0]) (.bin .sub (.pk 4) (.con (.int 1)))) (.con (.int 1)))) (.pk 1))) (.cons (.asg (.nm 5) (.bin .sub (.pk 4) (.con (.int 1))))
  (.cons (.asg (.nm 1) (.ix (.ix (.fld (.var 0) "rows" [0]) (.pk 5)) (.con (.int 0))))
  .nil)) .nil)
  (.cons (.ite (.and (.cmp .lt (.pk 4) (.bi .len (.cons (.fld (.var 0) "rows" [0]) .nil))) (.cmp .eq (.ix (.ix (.fld (.var 0) "rows" [0]) (.pk 4)) (.con (.int 0))) (.pk 3))) (.cons (.asg (.nm 6) (.bin .add (.pk 4) (.con (.int 1))))
  (.cons (.asg (.nm 3) (.bin .add (.pk 3) (.ix (.ix (.fld (.var 0) "rows" [0]) (.pk 4)) (.con (.int 1)))))
  .nil)) .nil)
  (.cons (.sls (.fld (.var 0) "rows" [0]) (.pk 5) (.pk 6) (.lst (.cons (.tup (.cons (.var 1) (.cons (.bin .sub (.pk 3) (.pk 1)) .nil))) .nil)))
  .nil))))))))
/-! _law_cell_at -/
abbrev s14 : Stmt := topS 17
theorem sc14 : FnScope ["_law_script", "_law_k"] ["_law_script", "_law_k"] (defScope s14) := ⟨rfl, rfl, rfl, by decide +kernel, rfl, by decide +kernel, by decide +kernel⟩
noncomputable def b14 : Sms :=
  (.cons (.ite (.cmp .lt (.pk 1) (.bi .len (.cons (.pk 0) .nil))) (.cons (.ret (.ix (.pk 0) (.pk 1)))
  .nil) .nil)
  (.cons (.ret (.bin .add (.bin .mul (.con (.int 7919)) (.pk 1)) (.con (.int 13))))
  .nil))
/-! _law_box -/
abbrev s15 : Stmt := topS 18
theorem sc15 : FnScope ["_law_cell"] ["_law_cell"] (defScope s15) := ⟨rfl, rfl, rfl, by decide +kernel, rfl, by decide +kernel, by decide +kernel⟩
noncomputable def b15 : Sms :=
  (.cons (.ite (.cmp .ge (.pk 0) (.bin .pow (.con (.int 10)) (.con (.int 18)))) (.cons (.ret (.lst (.cons (.var 0) (.cons (.bin .mod (.pk 0) (.con (.int 2147483629))) (.cons (.con (.int 0)) .nil)))))
  .nil) .nil)
  (.cons (.ret (.lst (.cons (.con (.int 0)) (.cons (.bin .mod (.pk 0) (.con (.int 2147483629))) (.cons (.con (.int 0)) .nil)))))
  .nil))
/-! _law_take -/
abbrev s16 : Stmt := topS 19
theorem sc16 : FnScope ["_law_box_here", "_law_many", "_law_number"] ["_law_box_here", "_law_many"] (defScope s16) := ⟨rfl, rfl, rfl, by decide +kernel, rfl, by decide +kernel, by decide +kernel⟩
noncomputable def b16 : Sms :=
  (.cons (.ite (.cmp .gt (.ix (.pk 0) (.con (.int 0))) (.con (.int 0))) (.cons (.asg (.nm 2) (.bin .mod (.ix (.pk 0) (.con (.int 0))) (.pk 1)))
  (.cons (.seti (.at_ (.var 0)) (.con (.int 0)) (.bin .fdiv (.ix (.pk 0) (.con (.int 0))) (.pk 1)))
  (.cons (.ret (.var 2))
  .nil))) .nil)
  (.cons (.seti (.at_ (.var 0)) (.con (.int 2)) (.bin .add (.ix (.pk 0) (.con (.int 2))) (.con (.int 1))))
  (.cons (.asg (.nm 2) (.bin .mod (.bin .add (.bin .add (.bin .mul (.ix (.pk 0) (.con (.int 1))) (.con (.int 48271))) (.bin .mul (.con (.int 7919)) (.ix (.pk 0) (.con (.int 2))))) (.con (.int 101))) (.con (.int 2147483647))))
  (.cons (.asg (.nm 2) (.bin .mod (.bin .add (.bin .add (.bin .mul (.pk 2) (.pk 2)) (.bin .mul (.con (.int 104729)) (.ix (.pk 0) (.con (.int 2))))) (.con (.int 7))) (.con (.int 2147483629))))
  (.cons (.ret (.bin .mod (.bin .mod (.bin .mul (.pk 2) (.pk 2)) (.con (.int 2147483587))) (.pk 1)))
  .nil)))))
/-! _law_holes -/
abbrev s17 : Stmt := topS 20
theorem sc17 : FnScope ["_law_free", "_law_found", "_law_cell"] ["_law_free"] (defScope s17) := ⟨rfl, rfl, rfl, by decide +kernel, rfl, by decide +kernel, by decide +kernel⟩
noncomputable def l17_0 : Sms :=
  (.cons (.ite (.and (.ix (.pk 0) (.pk 2)) (.or (.cmp .eq (.pk 2) (.con (.int 0))) (.not (.ix (.pk 0) (.bin .sub (.pk 2) (.con (.int 1))))))) (.cons (.app (.slot 1) (.tup (.cons (.var 2) (.cons (.con (.int 1)) .nil))))
  .nil) (.cons (.ite (.ix (.pk 0) (.pk 2)) (.cons (.seti (.slot 1) (.neg (.con (.int 1))) (.tup (.cons (.ix (.ix (.pk 1) (.neg (.con (.int 1)))) (.con (.int 0))) (.cons (.bin .add (.ix (.ix (.pk 1) (.neg (.con (.int 1)))) (.con (.int 1))) (.con (.int 1))) .nil))))
  .nil) .nil)
  .nil))
  .nil)
noncomputable def b17 : Sms :=
  (.cons (.asg (.nm 1) (.lst .nil))
  (.cons (.forS (.nm 2) (.rng1 (.bi .len (.cons (.pk 0) .nil))) l17_0)
  (.cons (.ret (.var 1))
  .nil)))
/-! _law_runs -/
abbrev s18 : Stmt := topS 21
theorem sc18 : FnScope ["_law_free", "_law_one"] ["_law_free"] (defScope s18) := ⟨rfl, rfl, rfl, by decide +kernel, rfl, by decide +kernel, by decide +kernel⟩
noncomputable def x18_0 : Ex :=
  (.not (.pk 1))
noncomputable def e18_1 : Ex :=
  (.compK [1] (.nm 1) (.var 0) yes x18_0)
noncomputable def b18 : Sms :=
  (.cons (.ret (.call 17 (.cons e18_1 .nil)))
  .nil)
/-! _law_part -/
abbrev s19 : Stmt := topS 22
theorem sc19 : FnScope ["_law_box_here", "_law_run", "_law_start", "_law_size", "_law_way", "_law_some", "_law_at"] ["_law_box_here", "_law_run"] (defScope s19) := ⟨rfl, rfl, rfl, by decide +kernel, rfl, by decide +kernel, by decide +kernel⟩
noncomputable def b19 : Sms :=
  (.cons (.asg (.tup [(.nm 2), (.nm 3)]) (.var 1))
  (.cons (.asg (.nm 4) (.call 16 (.cons (.pk 0) (.cons (.con (.int 4)) .nil))))
  (.cons (.asg (.nm 5) (.bin .add (.con (.int 1)) (.call 16 (.cons (.pk 0) (.cons (.pk 3) .nil)))))
  (.cons (.ite (.cmp .eq (.pk 4) (.con (.int 0))) (.cons (.ret (.tup (.cons (.var 2) (.cons (.var 5) .nil))))
  .nil) .nil)
  (.cons (.ite (.cmp .eq (.pk 4) (.con (.int 1))) (.cons (.ret (.tup (.cons (.bin .sub (.bin .add (.pk 2) (.pk 3)) (.pk 5)) (.cons (.var 5) .nil))))
  .nil) .nil)
  (.cons (.ite (.cmp .eq (.pk 4) (.con (.int 2))) (.cons (.ret (.var 1))
  .nil) .nil)
  (.cons (.asg (.nm 6) (.call 16 (.cons (.pk 0) (.cons (.pk 3) .nil))))
  (.cons (.ret (.tup (.cons (.bin .add (.pk 2) (.pk 6)) (.cons (.bin .add (.con (.int 1)) (.call 16 (.cons (.pk 0) (.cons (.bin .sub (.pk 3) (.pk 6)) .nil)))) .nil))))
  .nil))))))))
/-! _law_whole -/
abbrev s20 : Stmt := topS 23
theorem sc20 : FnScope ["_law_found", "_law_due"] ["_law_found", "_law_due"] (defScope s20) := ⟨rfl, rfl, rfl, by decide +kernel, rfl, by decide +kernel, by decide +kernel⟩
noncomputable def b20 : Sms :=
  (.cons (.ret (.and (.bi (.isinst ["int"]) (.cons (.pk 0) .nil)) (.and (.not (.bi (.isinst ["bool"]) (.cons (.pk 0) .nil))) (.cmp .eq (.pk 0) (.pk 1)))))
  .nil)
/-! _law_hole_of -/
abbrev s21 : Stmt := topS 24
theorem sc21 : FnScope ["_law_holes_here", "_law_cell", "_law_start", "_law_size"] ["_law_holes_here", "_law_cell"] (defScope s21) := ⟨rfl, rfl, rfl, by decide +kernel, rfl, by decide +kernel, by decide +kernel⟩
noncomputable def l21_0 : Sms :=
  (.cons (.ite (.chn .le .lt (.pk 2) (.pk 1) (.bin .add (.pk 2) (.pk 3))) (.cons (.ret (.tup (.cons (.var 2) (.cons (.var 3) .nil))))
  .nil) .nil)
  .nil)
noncomputable def b21 : Sms :=
  (.cons (.forS (.tup [(.nm 2), (.nm 3)]) (.seq (.var 0)) l21_0)
  (.cons (.ret (.con .non))
  .nil))
/-! _law_right -/
abbrev s22 : Stmt := topS 25
theorem sc22 : FnScope ["_law_box_here", "_law_book", "_law_free", "_law_due", "_law_told", "_law_start", "_law_size", "_law_one", "_law_cell", "_law_inside", "_law_found"] ["_law_box_here", "_law_book", "_law_free"] (defScope s22) := ⟨rfl, rfl, rfl, by decide +kernel, rfl, by decide +kernel, by decide +kernel⟩
noncomputable def c22_0 : Ex :=
  (.pk 7)
noncomputable def x22_1 : Ex :=
  (.var 7)
noncomputable def e22_2 : Ex :=
  (.compK [7] (.nm 7) (.var 2) c22_0 x22_1)
noncomputable def x22_3 : Ex :=
  (.var 6)
noncomputable def e22_4 : Ex :=
  (.comp [5, 6] (.tup [(.nm 5), (.nm 6)]) (.seq (.pk 3)) yes x22_3)
noncomputable def b22 : Sms :=
  (.cons (.asg (.nm 3) (.call 17 (.cons (.pk 2) .nil)))
  (.cons (.asg (.nm 4) (.meth (.var 1) "told" [(0, 5)] .nil))
  (.cons (.ite (.or (.not (.bi (.isinst ["list"]) (.cons (.pk 4) .nil))) (.cmp .ne (.pk 4) (.pk 3))) (.cons (.ret (.con (.bl false)))
  .nil) .nil)
  (.cons (.app (.slot 4) (.tup (.cons (.con (.int 0)) (.cons (.con (.int 1)) .nil))))
  (.cons (.ite (.not (.call 20 (.cons (.meth (.var 1) "largest_hole" [(0, 6)] .nil) (.cons (.bi (.max1 none) (.cons (.bin .add (.lst (.cons (.con (.int 0)) .nil)) e22_4) .nil)) .nil)))) (.cons (.ret (.con (.bl false)))
  .nil) .nil)
  (.cons (.ite (.not (.call 20 (.cons (.meth (.var 1) "free_cells" [(0, 7)] .nil) (.cons (.bi .len (.cons e22_2 .nil)) .nil)))) (.cons (.ret (.con (.bl false)))
  .nil) .nil)
  (.cons (.asg (.nm 8) (.call 16 (.cons (.pk 0) (.cons (.bi .len (.cons (.pk 2) .nil)) .nil))))
  (.cons (.ite (.cmp .ne (.meth (.var 1) "hole_at" [(0, 10)] (.cons (.pk 8) .nil)) (.call 21 (.cons (.pk 3) (.cons (.pk 8) .nil)))) (.cons (.ret (.con (.bl false)))
  .nil) .nil)
  (.cons (.asg (.nm 6) (.bin .add (.con (.int 1)) (.call 16 (.cons (.pk 0) (.cons (.bi .len (.cons (.pk 2) .nil)) .nil)))))
  (.cons (.asg (.nm 9) (.and (.cmp .le (.bin .add (.pk 8) (.pk 6)) (.bi .len (.cons (.pk 2) .nil))) (.not (.cmp .isin (.con (.bl false)) (.sl (.pk 2) (.pk 8) (.bin .add (.pk 8) (.pk 6)))))))
  (.cons (.asg (.nm 10) (.meth (.var 1) "has" [(0, 9)] (.cons (.pk 8) (.cons (.pk 6) .nil))))
  (.cons (.ret (.and (.bi (.isinst ["bool"]) (.cons (.pk 10) .nil)) (.and (.cmp .eq (.pk 10) (.pk 9)) (.cmp .eq (.meth (.var 1) "told" [(0, 5)] .nil) (.pk 3)))))
  .nil))))))))))))
/-! law -/
abbrev s23 : Stmt := topS 26
theorem sc23 : FnScope ["_law_script", "_law_first", "_law_sizes", "_law_books", "_law_many", "_law_frees", "_law_cell", "_law_k", "_law_box_here", "_law_which", "_law_free", "_law_holes_here", "_law_runs_here", "_law_start", "_law_size", "_law_at"] ["_law_script"] (defScope s23) := ⟨rfl, rfl, rfl, by decide +kernel, rfl, by decide +kernel, by decide +kernel⟩
noncomputable def l23_0 : Sms :=
  (.cons (.ite (.not (.call 22 (.cons (.pk 8) (.cons (.ix (.pk 3) (.pk 15)) (.cons (.ix (.pk 5) (.pk 15)) .nil))))) (.cons (.ret (.con (.bl false)))
  .nil) .nil)
  .nil)
noncomputable def l23_1 : Sms :=
  (.cons (.asg (.nm 8) (.glob (.call 15 (.cons (.call 14 (.cons (.pk 0) (.cons (.pk 7) .nil))) .nil))))
  (.cons (.asg (.nm 9) (.bi .int (.cons (.cmp .eq (.call 16 (.cons (.pk 8) (.cons (.con (.int 4)) .nil))) (.con (.int 0))) .nil)))
  (.cons (.asg (.nm 10) (.ix (.pk 5) (.pk 9)))
  (.cons (.asg (.nm 11) (.call 17 (.cons (.pk 10) .nil)))
  (.cons (.asg (.nm 12) (.call 18 (.cons (.pk 10) .nil)))
  (.cons (.ite (.and (.cmp .ne (.pk 11) (.lst .nil)) (.or (.cmp .eq (.pk 12) (.lst .nil)) (.cmp .lt (.call 16 (.cons (.pk 8) (.cons (.con (.int 5)) .nil))) (.con (.int 3))))) (.cons (.asg (.tup [(.nm 13), (.nm 14)]) (.call 19 (.cons (.pk 8) (.cons (.ix (.pk 11) (.call 16 (.cons (.pk 8) (.cons (.bi .len (.cons (.pk 11) .nil)) .nil)))) .nil))))
  (.cons (.drop (.meth (.ix (.pk 3) (.pk 9)) "take" [(0, 11)] (.cons (.pk 13) (.cons (.pk 14) .nil))))
  (.cons (.sls (.var 10) (.pk 13) (.bin .add (.pk 13) (.pk 14)) (.bin .mul (.lst (.cons (.con (.bl false)) .nil)) (.pk 14)))
  .nil))) (.cons (.asg (.tup [(.nm 13), (.nm 14)]) (.call 19 (.cons (.pk 8) (.cons (.ix (.pk 12) (.call 16 (.cons (.pk 8) (.cons (.bi .len (.cons (.pk 12) .nil)) .nil)))) .nil))))
  (.cons (.drop (.meth (.ix (.pk 3) (.pk 9)) "give" [(0, 13)] (.cons (.var 13) (.cons (.pk 14) .nil))))
  (.cons (.sls (.var 10) (.pk 13) (.bin .add (.pk 13) (.pk 14)) (.bin .mul (.lst (.cons (.con (.bl true)) .nil)) (.pk 14)))
  .nil))))
  (.cons (.forS (.nm 15) (.seq (.lst (.cons (.var 9) (.cons (.bin .sub (.con (.int 1)) (.pk 9)) .nil)))) l23_0)
  .nil)))))))
noncomputable def l23_2 : Sms :=
  (.cons (.drop (.meth (.ix (.pk 3) (.con (.int 0))) "take" [(0, 11)] (.cons (.pk 6) (.cons (.con (.int 1)) .nil))))
  (.cons (.seti (.at_ (.ix (.pk 5) (.con (.int 0)))) (.pk 6) (.con (.bl false)))
  .nil))
noncomputable def x23_3 : Ex :=
  (.glob (.bin .mul (.lst (.cons (.con (.bl true)) .nil)) (.pk 4)))
noncomputable def e23_4 : Ex :=
  (.comp [4] (.nm 4) (.seq (.pk 2)) yes x23_3)
noncomputable def x23_5 : Ex :=
  (.make 0 4 (.cons (.var 4) .nil))
noncomputable def e23_6 : Ex :=
  (.comp [4] (.nm 4) (.seq (.pk 2)) yes x23_5)
noncomputable def b23 : Sms :=
  (.cons (.asg (.nm 1) (.glob (.call 15 (.cons (.call 14 (.cons (.pk 0) (.cons (.con (.int 0)) .nil))) .nil))))
  (.cons (.asg (.nm 2) (.lst (.cons (.ix (.lst (.cons (.con (.int 16)) (.cons (.con (.int 240)) (.cons (.bin .add (.con (.int 16)) (.call 16 (.cons (.pk 1) (.cons (.con (.int 225)) .nil)))) .nil)))) (.call 16 (.cons (.pk 1) (.cons (.con (.int 3)) .nil)))) (.cons (.bin .add (.con (.int 16)) (.call 16 (.cons (.pk 1) (.cons (.con (.int 45)) .nil)))) .nil))))
  (.cons (.asg (.nm 3) e23_6)
  (.cons (.asg (.nm 5) e23_4)
  (.cons (.ite (.cmp .eq (.call 16 (.cons (.pk 1) (.cons (.con (.int 8)) .nil))) (.con (.int 0))) (.cons (.forS (.nm 6) (.rng3 (.con (.int 0)) (.ix (.pk 2) (.con (.int 0))) 2) l23_2)
  .nil) .nil)
  (.cons (.forS (.nm 7) (.rng2 (.con (.int 1)) (.bi .max2 (.cons (.con (.int 4)) (.cons (.bi .min2 (.cons (.bi .len (.cons (.pk 0) .nil)) (.cons (.con (.int 63)) .nil))) .nil)))) l23_1)
  (.cons (.ret (.con (.bl true)))
  .nil)))))))
noncomputable def T : Nat → Fd
  | 0 => ⟨1, 1, b0⟩
  | 1 => ⟨3, 3, b1⟩
  | 2 => ⟨1, 1, b2⟩
  | 3 => ⟨1, 1, b3⟩
  | 4 => ⟨2, 2, b4⟩
  | 5 => ⟨1, 1, b5⟩
  | 6 => ⟨1, 3, b6⟩
  | 7 => ⟨1, 3, b7⟩
  | 8 => ⟨2, 5, b8⟩
  | 9 => ⟨3, 6, b9⟩
  | 10 => ⟨2, 2, b10⟩
  | 11 => ⟨3, 7, b11⟩
  | 12 => ⟨3, 4, b12⟩
  | 13 => ⟨3, 7, b13⟩
  | 14 => ⟨2, 2, b14⟩
  | 15 => ⟨1, 1, b15⟩
  | 16 => ⟨2, 3, b16⟩
  | 17 => ⟨1, 3, b17⟩
  | 18 => ⟨1, 2, b18⟩
  | 19 => ⟨2, 7, b19⟩
  | 20 => ⟨2, 2, b20⟩
  | 21 => ⟨2, 4, b21⟩
  | 22 => ⟨3, 11, b22⟩
  | 23 => ⟨1, 16, b23⟩
  | _ => ⟨0, 0, .nil⟩
end Kx
namespace Kx
open PySem PySem.Spec PyProof.Rows L2 Sr
structure Mg (K : PySem.W.Frag) (mg : Str → Option Value) (a0 a1 a2 a3 a4 a5 a6 a7 a8 a9 a10 a11 a12 a13 a14 a15 a16 a17 a18 a19 a20 a21 a22 a23 B0 : Addr) (f0 f1 f2 f3 f4 f5 f6 f7 f8 f9 f10 f11 f12 f13 f14 f15 f16 f17 f18 f19 f20 f21 f22 f23 : FuncData) (u_LEAST_CELLS u_MOST_CELLS : Value) : Prop where
  g_LEAST_CELLS : mg "LEAST_CELLS" = some u_LEAST_CELLS
  r_LEAST_CELLS : RelV (V.int 16) u_LEAST_CELLS
  g_MOST_CELLS : mg "MOST_CELLS" = some u_MOST_CELLS
  r_MOST_CELLS : RelV (V.int 240) u_MOST_CELLS
  F0 : Fun K "is_whole" "is_whole" s0 a0 f0
  m0 : mg "is_whole" = some (.ref a0)
  k0 : PySem.W.keepIn K (.ref a0) = true
  b0 : Binds K f0 ["thing"] []
  F1 : Fun K "is_within" "is_within" s1 a1 f1
  m1 : mg "is_within" = some (.ref a1)
  k1 : PySem.W.keepIn K (.ref a1) = true
  b1 : Binds K f1 ["thing", "low", "high"] []
  F2 : Fun K "need_many" "need_many" s2 a2 f2
  m2 : mg "need_many" = some (.ref a2)
  k2 : PySem.W.keepIn K (.ref a2) = true
  b2 : Binds K f2 ["thing"] []
  F3 : Fun K "is_stretch" "is_stretch" s3 a3 f3
  m3 : mg "is_stretch" = some (.ref a3)
  k3 : PySem.W.keepIn K (.ref a3) = true
  b3 : Binds K f3 ["thing"] []
  F4 : Fun K "__init__" "Holes.__init__" s4 a4 f4
  k4 : PySem.W.keepIn K (.ref a4) = true
  b4 : Binds K f4 ["self", "many"] []
  F5 : Fun K "told" "Holes.told" s5 a5 f5
  k5 : PySem.W.keepIn K (.ref a5) = true
  b5 : Binds K f5 ["self"] []
  F6 : Fun K "largest_hole" "Holes.largest_hole" s6 a6 f6
  k6 : PySem.W.keepIn K (.ref a6) = true
  b6 : Binds K f6 ["self"] []
  F7 : Fun K "free_cells" "Holes.free_cells" s7 a7 f7
  k7 : PySem.W.keepIn K (.ref a7) = true
  b7 : Binds K f7 ["self"] []
  F8 : Fun K "number_of" "Holes.number_of" s8 a8 f8
  k8 : PySem.W.keepIn K (.ref a8) = true
  b8 : Binds K f8 ["self", "cell"] []
  F9 : Fun K "has" "Holes.has" s9 a9 f9
  k9 : PySem.W.keepIn K (.ref a9) = true
  b9 : Binds K f9 ["self", "start", "size"] []
  F10 : Fun K "hole_at" "Holes.hole_at" s10 a10 f10
  k10 : PySem.W.keepIn K (.ref a10) = true
  b10 : Binds K f10 ["self", "cell"] []
  F11 : Fun K "take" "Holes.take" s11 a11 f11
  k11 : PySem.W.keepIn K (.ref a11) = true
  b11 : Binds K f11 ["self", "start", "size"] []
  F12 : Fun K "is_taken" "Holes.is_taken" s12 a12 f12
  k12 : PySem.W.keepIn K (.ref a12) = true
  b12 : Binds K f12 ["self", "start", "size"] []
  F13 : Fun K "give" "Holes.give" s13 a13 f13
  k13 : PySem.W.keepIn K (.ref a13) = true
  b13 : Binds K f13 ["self", "start", "size"] []
  F14 : Fun K "_law_cell_at" "_law_cell_at" s14 a14 f14
  m14 : mg "_law_cell_at" = some (.ref a14)
  k14 : PySem.W.keepIn K (.ref a14) = true
  b14 : Binds K f14 ["_law_script", "_law_k"] []
  F15 : Fun K "_law_box" "_law_box" s15 a15 f15
  m15 : mg "_law_box" = some (.ref a15)
  k15 : PySem.W.keepIn K (.ref a15) = true
  b15 : Binds K f15 ["_law_cell"] []
  F16 : Fun K "_law_take" "_law_take" s16 a16 f16
  m16 : mg "_law_take" = some (.ref a16)
  k16 : PySem.W.keepIn K (.ref a16) = true
  b16 : Binds K f16 ["_law_box_here", "_law_many"] []
  F17 : Fun K "_law_holes" "_law_holes" s17 a17 f17
  m17 : mg "_law_holes" = some (.ref a17)
  k17 : PySem.W.keepIn K (.ref a17) = true
  b17 : Binds K f17 ["_law_free"] []
  F18 : Fun K "_law_runs" "_law_runs" s18 a18 f18
  m18 : mg "_law_runs" = some (.ref a18)
  k18 : PySem.W.keepIn K (.ref a18) = true
  b18 : Binds K f18 ["_law_free"] []
  F19 : Fun K "_law_part" "_law_part" s19 a19 f19
  m19 : mg "_law_part" = some (.ref a19)
  k19 : PySem.W.keepIn K (.ref a19) = true
  b19 : Binds K f19 ["_law_box_here", "_law_run"] []
  F20 : Fun K "_law_whole" "_law_whole" s20 a20 f20
  m20 : mg "_law_whole" = some (.ref a20)
  k20 : PySem.W.keepIn K (.ref a20) = true
  b20 : Binds K f20 ["_law_found", "_law_due"] []
  F21 : Fun K "_law_hole_of" "_law_hole_of" s21 a21 f21
  m21 : mg "_law_hole_of" = some (.ref a21)
  k21 : PySem.W.keepIn K (.ref a21) = true
  b21 : Binds K f21 ["_law_holes_here", "_law_cell"] []
  F22 : Fun K "_law_right" "_law_right" s22 a22 f22
  m22 : mg "_law_right" = some (.ref a22)
  k22 : PySem.W.keepIn K (.ref a22) = true
  b22 : Binds K f22 ["_law_box_here", "_law_book", "_law_free"] []
  F23 : Fun K "law" "law" s23 a23 f23
  m23 : mg "law" = some (.ref a23)
  k23 : PySem.W.keepIn K (.ref a23) = true
  b23 : Binds K f23 ["_law_script"] []
  z_bool : mg "bool" = none
  z_enumerate : mg "enumerate" = none
  z_int : mg "int" = none
  z_isinstance : mg "isinstance" = none
  z_len : mg "len" = none
  z_list : mg "list" = none
  z_max : mg "max" = none
  z_min : mg "min" = none
  z_range : mg "range" = none
  z_sum : mg "sum" = none
  z_tuple : mg "tuple" = none
  cm0 : mg "Holes" = some (.ref B0)
  cl0 : Cls K B0
  mk0 : Mk K B0 a4
  na0_width : NoAttr K B0 "width"
  na0_rows : NoAttr K B0 "rows"
  me0_5 : Meth K B0 "told" a5
  me0_6 : Meth K B0 "largest_hole" a6
  me0_7 : Meth K B0 "free_cells" a7
  me0_8 : Meth K B0 "number_of" a8
  me0_9 : Meth K B0 "has" a9
  me0_10 : Meth K B0 "hole_at" a10
  me0_11 : Meth K B0 "take" a11
  me0_12 : Meth K B0 "is_taken" a12
  me0_13 : Meth K B0 "give" a13
def obs (B0 : Addr) : Nat → V
  | 0 => .ref B0
  | _ => .non
theorem fo_width {K : PySem.W.Frag} {mg : Str → Option Value} {C : Sr.Ctx} {a0 a1 a2 a3 a4 a5 a6 a7 a8 a9 a10 a11 a12 a13 a14 a15 a16 a17 a18 a19 a20 a21 a22 a23 B0 : Addr} {f0 f1 f2 f3 f4 f5 f6 f7 f8 f9 f10 f11 f12 f13 f14 f15 f16 f17 f18 f19 f20 f21 f22 f23 : FuncData} {u_LEAST_CELLS u_MOST_CELLS : Value} (hO : C.ob = obs B0) (G : Mg K mg a0 a1 a2 a3 a4 a5 a6 a7 a8 a9 a10 a11 a12 a13 a14 a15 a16 a17 a18 a19 a20 a21 a22 a23 B0 f0 f1 f2 f3 f4 f5 f6 f7 f8 f9 f10 f11 f12 f13 f14 f15 f16 f17 f18 f19 f20 f21 f22 f23 u_LEAST_CELLS u_MOST_CELLS) : FldOk C K "width" [0] := fun c hc => by
  simp only [List.mem_cons, List.not_mem_nil, or_false] at hc
  rcases hc with rfl
  · exact ⟨B0, by rw [hO]; rfl, G.cl0, G.na0_width⟩
theorem fo_rows {K : PySem.W.Frag} {mg : Str → Option Value} {C : Sr.Ctx} {a0 a1 a2 a3 a4 a5 a6 a7 a8 a9 a10 a11 a12 a13 a14 a15 a16 a17 a18 a19 a20 a21 a22 a23 B0 : Addr} {f0 f1 f2 f3 f4 f5 f6 f7 f8 f9 f10 f11 f12 f13 f14 f15 f16 f17 f18 f19 f20 f21 f22 f23 : FuncData} {u_LEAST_CELLS u_MOST_CELLS : Value} (hO : C.ob = obs B0) (G : Mg K mg a0 a1 a2 a3 a4 a5 a6 a7 a8 a9 a10 a11 a12 a13 a14 a15 a16 a17 a18 a19 a20 a21 a22 a23 B0 f0 f1 f2 f3 f4 f5 f6 f7 f8 f9 f10 f11 f12 f13 f14 f15 f16 f17 f18 f19 f20 f21 f22 f23 u_LEAST_CELLS u_MOST_CELLS) : FldOk C K "rows" [0] := fun c hc => by
  simp only [List.mem_cons, List.not_mem_nil, or_false] at hc
  rcases hc with rfl
  · exact ⟨B0, by rw [hO]; rfl, G.cl0, G.na0_rows⟩
section
variable {P : Program} {w : World} {K : PySem.W.Frag} {mg : Str → Option Value} {base : Heap} {C : Sr.Ctx} {k : Nat} {a0 a1 a2 a3 a4 a5 a6 a7 a8 a9 a10 a11 a12 a13 a14 a15 a16 a17 a18 a19 a20 a21 a22 a23 B0 : Addr} {f0 f1 f2 f3 f4 f5 f6 f7 f8 f9 f10 f11 f12 f13 f14 f15 f16 f17 f18 f19 f20 f21 f22 f23 : FuncData} {u_LEAST_CELLS u_MOST_CELLS : Value}
theorem ok0 (hK : C.K = K) (hO : C.ob = obs B0) (G : Mg K mg a0 a1 a2 a3 a4 a5 a6 a7 a8 a9 a10 a11 a12 a13 a14 a15 a16 a17 a18 a19 a20 a21 a22 a23 B0 f0 f1 f2 f3 f4 f5 f6 f7 f8 f9 f10 f11 f12 f13 f14 f15 f16 f17 f18 f19 f20 f21 f22 f23 u_LEAST_CELLS u_MOST_CELLS)  : FnOk P w K mg base (L2.CX P w) (2 * (k + 1)) a0 f0 ["thing"] (spF C (callF T (k + 1)) 0) :=
  fn_ok hK G.F0 sc0 rfl rfl fun cdv A outer s H E KX =>
  (sS_cons (retE (sE_and (sE_isi KX.toOkx (by rfl) G.z_isinstance (sE_pk 0 (pv 0)) (tyN G.z_int boot_int)) (sE_one (sE_not (sE_isi KX.toOkx (by rfl) G.z_isinstance (sE_pk 0 (pv 0)) (tyN G.z_bool boot_bool))))))
  sS_nil)
theorem ok1 (hK : C.K = K) (hO : C.ob = obs B0) (G : Mg K mg a0 a1 a2 a3 a4 a5 a6 a7 a8 a9 a10 a11 a12 a13 a14 a15 a16 a17 a18 a19 a20 a21 a22 a23 B0 f0 f1 f2 f3 f4 f5 f6 f7 f8 f9 f10 f11 f12 f13 f14 f15 f16 f17 f18 f19 f20 f21 f22 f23 u_LEAST_CELLS u_MOST_CELLS) (H0 : FnOk P w K mg base (L2.CX P w) (2 * k) a0 f0 ["thing"] (spF C (callF T k) 0)) : FnOk P w K mg base (L2.CX P w) (2 * (k + 1)) a1 f1 ["thing", "low", "high"] (spF C (callF T (k + 1)) 1) :=
  fn_ok hK G.F1 sc1 rfl rfl fun cdv A outer s H E KX =>
  (sS_cons (retE (sE_and (sE_call KX.toOkx H0 (by rfl) G.m0 G.k0 G.b0 (sA_cons (sE_pk 0 (pv 0)) sA_nil)) (sE_one (sE_chn .le .le KX.toOkx (sE_pk 1 (pv 1)) (sE_pk 0 (pv 0)) (sE_pk 2 (pv 2))))))
  sS_nil)
theorem ok2 (hK : C.K = K) (hO : C.ob = obs B0) (G : Mg K mg a0 a1 a2 a3 a4 a5 a6 a7 a8 a9 a10 a11 a12 a13 a14 a15 a16 a17 a18 a19 a20 a21 a22 a23 B0 f0 f1 f2 f3 f4 f5 f6 f7 f8 f9 f10 f11 f12 f13 f14 f15 f16 f17 f18 f19 f20 f21 f22 f23 u_LEAST_CELLS u_MOST_CELLS) (H1 : FnOk P w K mg base (L2.CX P w) (2 * k) a1 f1 ["thing", "low", "high"] (spF C (callF T k) 1)) : FnOk P w K mg base (L2.CX P w) (2 * (k + 1)) a2 f2 ["thing"] (spF C (callF T (k + 1)) 2) :=
  fn_ok hK G.F2 sc2 rfl rfl fun cdv A outer s H E KX =>
  (sS_cons (sS_if (sT_not (sT_val (sE_call KX.toOkx H1 (by rfl) G.m1 G.k1 G.b1 (sA_cons (sE_pk 0 (pv 0)) (sA_cons (sE_con (.int 16) (pe_glob (by rfl) G.g_LEAST_CELLS G.r_LEAST_CELLS)) (sA_cons (sE_con (.int 240) (pe_glob (by rfl) G.g_MOST_CELLS G.r_MOST_CELLS)) sA_nil)))))) (sS_cons sS_wall
  sS_nil) sS_nil)
  (sS_cons (retV 0 (pv 0))
  sS_nil))
theorem ok3 (hK : C.K = K) (hO : C.ob = obs B0) (G : Mg K mg a0 a1 a2 a3 a4 a5 a6 a7 a8 a9 a10 a11 a12 a13 a14 a15 a16 a17 a18 a19 a20 a21 a22 a23 B0 f0 f1 f2 f3 f4 f5 f6 f7 f8 f9 f10 f11 f12 f13 f14 f15 f16 f17 f18 f19 f20 f21 f22 f23 u_LEAST_CELLS u_MOST_CELLS) (H0 : FnOk P w K mg base (L2.CX P w) (2 * k) a0 f0 ["thing"] (spF C (callF T k) 0)) : FnOk P w K mg base (L2.CX P w) (2 * (k + 1)) a3 f3 ["thing"] (spF C (callF T (k + 1)) 3) :=
  fn_ok hK G.F3 sc3 rfl rfl fun cdv A outer s H E KX =>
  (sS_cons (sS_if (sT_bool (sW_or (sT_not (sT_val (sE_isi KX.toOkx (by rfl) G.z_isinstance (sE_pk 0 (pv 0)) (tyN G.z_tuple boot_tuple)))) (sW_or1 (sT_cmp .ne KX.toOkx (sE_biB (cb_len KX.toOkx) (by rfl) G.z_len boot_len (sP_cons (sE_pk 0 (pv 0)) sP_nil)) sE_int)))) (sS_cons (retE sE_bl)
  sS_nil) sS_nil)
  (sS_cons (retE (sE_and (sE_call KX.toOkx H0 (by rfl) G.m0 G.k0 G.b0 (sA_cons (sE_ix KX.toOkx (sE_pk 0 (pv 0)) sE_int) sA_nil)) (sE_and (sE_call KX.toOkx H0 (by rfl) G.m0 G.k0 G.b0 (sA_cons (sE_ix KX.toOkx (sE_pk 0 (pv 0)) sE_int) sA_nil)) (sE_and (sE_cmp .ge KX.toOkx (sE_ix KX.toOkx (sE_pk 0 (pv 0)) sE_int) sE_int) (sE_one (sE_cmp .ge KX.toOkx (sE_ix KX.toOkx (sE_pk 0 (pv 0)) sE_int) sE_int))))))
  sS_nil))
theorem ok4 (hK : C.K = K) (hO : C.ob = obs B0) (G : Mg K mg a0 a1 a2 a3 a4 a5 a6 a7 a8 a9 a10 a11 a12 a13 a14 a15 a16 a17 a18 a19 a20 a21 a22 a23 B0 f0 f1 f2 f3 f4 f5 f6 f7 f8 f9 f10 f11 f12 f13 f14 f15 f16 f17 f18 f19 f20 f21 f22 f23 u_LEAST_CELLS u_MOST_CELLS) (H2 : FnOk P w K mg base (L2.CX P w) (2 * k) a2 f2 ["thing"] (spF C (callF T k) 2)) : FnOk P w K mg base (L2.CX P w) (2 * (k + 1)) a4 f4 ["self", "many"] (spF C (callF T (k + 1)) 4) :=
  fn_ok hK G.F4 sc4 rfl rfl fun cdv A outer s H E KX =>
  (sS_cons (sS_setf KX.toOkx (sE_var 0 (pv 0)) (sE_call KX.toOkx H2 (by rfl) G.m2 G.k2 G.b2 (sA_cons (sE_var 1 (pv 1)) sA_nil)) (fo_width hO G))
  (sS_cons (sS_setf KX.toOkx (sE_var 0 (pv 0)) (sE_glob (sE_lst (sL_cons (sE_tup (sL_cons sE_int (sL_cons (sE_fld KX.toOkx (sE_var 0 (pv 0)) (fo_width hO G)) sL_nil))) sL_nil))) (fo_rows hO G))
  sS_nil))
theorem ok5 (hK : C.K = K) (hO : C.ob = obs B0) (G : Mg K mg a0 a1 a2 a3 a4 a5 a6 a7 a8 a9 a10 a11 a12 a13 a14 a15 a16 a17 a18 a19 a20 a21 a22 a23 B0 f0 f1 f2 f3 f4 f5 f6 f7 f8 f9 f10 f11 f12 f13 f14 f15 f16 f17 f18 f19 f20 f21 f22 f23 u_LEAST_CELLS u_MOST_CELLS)  : FnOk P w K mg base (L2.CX P w) (2 * (k + 1)) a5 f5 ["self"] (spF C (callF T (k + 1)) 5) :=
  fn_ok hK G.F5 sc5 rfl rfl fun cdv A outer s H E KX =>
  (sS_cons (retE (sE_biT (cb_list KX.toOkx) (by rfl) G.z_list boot_list (sP_cons (sE_fld KX.toOkx (sE_var 0 (pv 0)) (fo_rows hO G)) sP_nil)))
  sS_nil)
theorem ok6 (hK : C.K = K) (hO : C.ob = obs B0) (G : Mg K mg a0 a1 a2 a3 a4 a5 a6 a7 a8 a9 a10 a11 a12 a13 a14 a15 a16 a17 a18 a19 a20 a21 a22 a23 B0 f0 f1 f2 f3 f4 f5 f6 f7 f8 f9 f10 f11 f12 f13 f14 f15 f16 f17 f18 f19 f20 f21 f22 f23 u_LEAST_CELLS u_MOST_CELLS)  : FnOk P w K mg base (L2.CX P w) (2 * (k + 1)) a6 f6 ["self"] (spF C (callF T (k + 1)) 6) :=
  fn_ok hK G.F6 sc6 rfl rfl fun cdv A outer s H E KX =>
  (sS_cons (retE (sE_maxD KX.toOkx KX.calm (by rfl) G.z_max (sE_compK KX.calm KX.toOkx.nd (sV_seq KX.toOkx (sE_fld KX.toOkx (sE_var 0 (pv 0)) (fo_rows hO G))) (blkOk_by (N := ["self", "start", "size"]) (sc := defScope s6) (own := [("start", 1), ("size", 2)]) (by decide +kernel)) (fun s H C' cl fp => (sG_tup (KX.toOkx.blk).kk KX.calm (sGs_cons (gN (KX.toOkx.blk) 1) (sGs_cons (gN (KX.toOkx.blk) 2) sGs_nil)))) (fun s H C' cl fp => sTs_nil) (fun s H C' cl fp => (sE_var 2 (pv 2))))))
  sS_nil)
theorem ok7 (hK : C.K = K) (hO : C.ob = obs B0) (G : Mg K mg a0 a1 a2 a3 a4 a5 a6 a7 a8 a9 a10 a11 a12 a13 a14 a15 a16 a17 a18 a19 a20 a21 a22 a23 B0 f0 f1 f2 f3 f4 f5 f6 f7 f8 f9 f10 f11 f12 f13 f14 f15 f16 f17 f18 f19 f20 f21 f22 f23 u_LEAST_CELLS u_MOST_CELLS)  : FnOk P w K mg base (L2.CX P w) (2 * (k + 1)) a7 f7 ["self"] (spF C (callF T (k + 1)) 7) :=
  fn_ok hK G.F7 sc7 rfl rfl fun cdv A outer s H E KX =>
  (sS_cons (retE (sE_biB (cb_sum KX.toOkx KX.calm) (by rfl) G.z_sum boot_sum (sP_cons (sE_compK KX.calm KX.toOkx.nd (sV_seq KX.toOkx (sE_fld KX.toOkx (sE_var 0 (pv 0)) (fo_rows hO G))) (blkOk_by (N := ["self", "start", "size"]) (sc := defScope s7) (own := [("start", 1), ("size", 2)]) (by decide +kernel)) (fun s H C' cl fp => (sG_tup (KX.toOkx.blk).kk KX.calm (sGs_cons (gN (KX.toOkx.blk) 1) (sGs_cons (gN (KX.toOkx.blk) 2) sGs_nil)))) (fun s H C' cl fp => sTs_nil) (fun s H C' cl fp => (sE_var 2 (pv 2)))) sP_nil)))
  sS_nil)
theorem ok8 (hK : C.K = K) (hO : C.ob = obs B0) (G : Mg K mg a0 a1 a2 a3 a4 a5 a6 a7 a8 a9 a10 a11 a12 a13 a14 a15 a16 a17 a18 a19 a20 a21 a22 a23 B0 f0 f1 f2 f3 f4 f5 f6 f7 f8 f9 f10 f11 f12 f13 f14 f15 f16 f17 f18 f19 f20 f21 f22 f23 u_LEAST_CELLS u_MOST_CELLS)  : FnOk P w K mg base (L2.CX P w) (2 * (k + 1)) a8 f8 ["self", "cell"] (spF C (callF T (k + 1)) 8) :=
  fn_ok hK G.F8 sc8 rfl rfl fun cdv A outer s H E KX =>
  (sS_cons (sS_forC KX (sV_enum KX.toOkx (by rfl) G.z_enumerate (sE_fld KX.toOkx (sE_var 0 (pv 0)) (fo_rows hO G))) (sG_tup KX.toOkx.kk KX.calm (sGs_cons (gN KX.toOkx 2) (sGs_cons (sG_tup KX.toOkx.kk KX.calm (sGs_cons (gN KX.toOkx 3) (sGs_cons (gN KX.toOkx 4) sGs_nil))) sGs_nil))) (sS_cons (sS_if (sT_cmp .lt KX.toOkx (sE_pk 1 (pv 1)) (sE_bin .add (sE_pk 3 (pv 3)) (sE_pk 4 (pv 4)))) (sS_cons (retV 2 (pv 2))
  sS_nil) sS_nil)
  sS_nil))
  (sS_cons (retE (sE_biB (cb_len KX.toOkx) (by rfl) G.z_len boot_len (sP_cons (sE_fld KX.toOkx (sE_var 0 (pv 0)) (fo_rows hO G)) sP_nil)))
  sS_nil))
theorem ok9 (hK : C.K = K) (hO : C.ob = obs B0) (G : Mg K mg a0 a1 a2 a3 a4 a5 a6 a7 a8 a9 a10 a11 a12 a13 a14 a15 a16 a17 a18 a19 a20 a21 a22 a23 B0 f0 f1 f2 f3 f4 f5 f6 f7 f8 f9 f10 f11 f12 f13 f14 f15 f16 f17 f18 f19 f20 f21 f22 f23 u_LEAST_CELLS u_MOST_CELLS) (H3 : FnOk P w K mg base (L2.CX P w) (2 * k) a3 f3 ["thing"] (spF C (callF T k) 3)) (H8 : FnOk P w K mg base (L2.CX P w) (2 * k) a8 f8 ["self", "cell"] (spF C (callF T k) 8)) : FnOk P w K mg base (L2.CX P w) (2 * (k + 1)) a9 f9 ["self", "start", "size"] (spF C (callF T (k + 1)) 9) :=
  fn_ok hK G.F9 sc9 rfl rfl fun cdv A outer s H E KX =>
  (sS_cons (sS_if (sT_not (sT_val (sE_call KX.toOkx H3 (by rfl) G.m3 G.k3 G.b3 (sA_cons (sE_tup (sL_cons (sE_var 1 (pv 1)) (sL_cons (sE_var 2 (pv 2)) sL_nil))) sA_nil)))) (sS_cons (retE sE_bl)
  sS_nil) sS_nil)
  (sS_cons (setN KX.toOkx 3 (sE_meth (MA.cons (sM_one KX.toOkx (fun _ _ _ _ _ h => h) ⟨⟨_, _, _, _, _, hO ▸ rfl, G.cl0, G.me0_8, H8, G.b8, by omega⟩⟩ (sE_var 0 (pv 0)) (sA_cons (sE_pk 1 (pv 1)) sA_nil)) MA.nil)))
  (sS_cons (sS_if (sT_cmp .eq KX.toOkx (sE_pk 3 (pv 3)) (sE_biB (cb_len KX.toOkx) (by rfl) G.z_len boot_len (sP_cons (sE_fld KX.toOkx (sE_var 0 (pv 0)) (fo_rows hO G)) sP_nil))) (sS_cons (retE sE_bl)
  sS_nil) sS_nil)
  (sS_cons (sS_asgT (sE_ix KX.toOkx (sE_fld KX.toOkx (sE_var 0 (pv 0)) (fo_rows hO G)) (sE_pk 3 (pv 3))) (sG_tup KX.toOkx.kk KX.calm (sGs_cons (gN KX.toOkx 4) (sGs_cons (gN KX.toOkx 5) sGs_nil))))
  (sS_cons (retE (sE_and (sE_cmp .le KX.toOkx (sE_pk 4 (pv 4)) (sE_pk 1 (pv 1))) (sE_one (sE_cmp .le KX.toOkx (sE_bin .add (sE_pk 1 (pv 1)) (sE_pk 2 (pv 2))) (sE_bin .add (sE_pk 4 (pv 4)) (sE_pk 5 (pv 5)))))))
  sS_nil)))))
theorem ok10 (hK : C.K = K) (hO : C.ob = obs B0) (G : Mg K mg a0 a1 a2 a3 a4 a5 a6 a7 a8 a9 a10 a11 a12 a13 a14 a15 a16 a17 a18 a19 a20 a21 a22 a23 B0 f0 f1 f2 f3 f4 f5 f6 f7 f8 f9 f10 f11 f12 f13 f14 f15 f16 f17 f18 f19 f20 f21 f22 f23 u_LEAST_CELLS u_MOST_CELLS) (H1 : FnOk P w K mg base (L2.CX P w) (2 * k) a1 f1 ["thing", "low", "high"] (spF C (callF T k) 1)) (H8 : FnOk P w K mg base (L2.CX P w) (2 * k) a8 f8 ["self", "cell"] (spF C (callF T k) 8)) (H9 : FnOk P w K mg base (L2.CX P w) (2 * k) a9 f9 ["self", "start", "size"] (spF C (callF T k) 9)) : FnOk P w K mg base (L2.CX P w) (2 * (k + 1)) a10 f10 ["self", "cell"] (spF C (callF T (k + 1)) 10) :=
  fn_ok hK G.F10 sc10 rfl rfl fun cdv A outer s H E KX =>
  (sS_cons (sS_if (sT_not (sT_val (sE_call KX.toOkx H1 (by rfl) G.m1 G.k1 G.b1 (sA_cons (sE_pk 1 (pv 1)) (sA_cons sE_int (sA_cons (sE_bin .sub (sE_fld KX.toOkx (sE_var 0 (pv 0)) (fo_width hO G)) sE_int) sA_nil)))))) (sS_cons sS_wall
  sS_nil) sS_nil)
  (sS_cons (sS_if (sT_val (sE_meth (MA.cons (sM_one KX.toOkx (fun _ _ _ _ _ h => h) ⟨⟨_, _, _, _, _, hO ▸ rfl, G.cl0, G.me0_9, H9, G.b9, by omega⟩⟩ (sE_var 0 (pv 0)) (sA_cons (sE_pk 1 (pv 1)) (sA_cons sE_int sA_nil))) MA.nil))) (sS_cons (retE (sE_ix KX.toOkx (sE_fld KX.toOkx (sE_var 0 (pv 0)) (fo_rows hO G)) (sE_meth (MA.cons (sM_one KX.toOkx (fun _ _ _ _ _ h => h) ⟨⟨_, _, _, _, _, hO ▸ rfl, G.cl0, G.me0_8, H8, G.b8, by omega⟩⟩ (sE_var 0 (pv 0)) (sA_cons (sE_pk 1 (pv 1)) sA_nil)) MA.nil))))
  sS_nil) sS_nil)
  (sS_cons (retE sE_non)
  sS_nil)))
theorem ok11 (hK : C.K = K) (hO : C.ob = obs B0) (G : Mg K mg a0 a1 a2 a3 a4 a5 a6 a7 a8 a9 a10 a11 a12 a13 a14 a15 a16 a17 a18 a19 a20 a21 a22 a23 B0 f0 f1 f2 f3 f4 f5 f6 f7 f8 f9 f10 f11 f12 f13 f14 f15 f16 f17 f18 f19 f20 f21 f22 f23 u_LEAST_CELLS u_MOST_CELLS) (H8 : FnOk P w K mg base (L2.CX P w) (2 * k) a8 f8 ["self", "cell"] (spF C (callF T k) 8)) (H9 : FnOk P w K mg base (L2.CX P w) (2 * k) a9 f9 ["self", "start", "size"] (spF C (callF T k) 9)) : FnOk P w K mg base (L2.CX P w) (2 * (k + 1)) a11 f11 ["self", "start", "size"] (spF C (callF T (k + 1)) 11) :=
  fn_ok hK G.F11 sc11 rfl rfl fun cdv A outer s H E KX =>
  (sS_cons (sS_if (sT_not (sT_val (sE_meth (MA.cons (sM_one KX.toOkx (fun _ _ _ _ _ h => h) ⟨⟨_, _, _, _, _, hO ▸ rfl, G.cl0, G.me0_9, H9, G.b9, by omega⟩⟩ (sE_var 0 (pv 0)) (sA_cons (sE_pk 1 (pv 1)) (sA_cons (sE_pk 2 (pv 2)) sA_nil))) MA.nil)))) (sS_cons sS_wall
  sS_nil) sS_nil)
  (sS_cons (setN KX.toOkx 3 (sE_meth (MA.cons (sM_one KX.toOkx (fun _ _ _ _ _ h => h) ⟨⟨_, _, _, _, _, hO ▸ rfl, G.cl0, G.me0_8, H8, G.b8, by omega⟩⟩ (sE_var 0 (pv 0)) (sA_cons (sE_pk 1 (pv 1)) sA_nil)) MA.nil)))
  (sS_cons (sS_asgT (sE_ix KX.toOkx (sE_fld KX.toOkx (sE_var 0 (pv 0)) (fo_rows hO G)) (sE_pk 3 (pv 3))) (sG_tup KX.toOkx.kk KX.calm (sGs_cons (gN KX.toOkx 4) (sGs_cons (gN KX.toOkx 5) sGs_nil))))
  (sS_cons (setN KX.toOkx 6 (sE_lst sL_nil))
  (sS_cons (sS_if (sT_cmp .gt KX.toOkx (sE_pk 1 (pv 1)) (sE_pk 4 (pv 4))) (sS_cons (sS_app (pv 6) (sE_tup (sL_cons (sE_var 4 (pv 4)) (sL_cons (sE_bin .sub (sE_pk 1 (pv 1)) (sE_pk 4 (pv 4))) sL_nil))))
  sS_nil) sS_nil)
  (sS_cons (sS_if (sT_cmp .gt KX.toOkx (sE_bin .add (sE_pk 4 (pv 4)) (sE_pk 5 (pv 5))) (sE_bin .add (sE_pk 1 (pv 1)) (sE_pk 2 (pv 2)))) (sS_cons (sS_app (pv 6) (sE_tup (sL_cons (sE_bin .add (sE_pk 1 (pv 1)) (sE_pk 2 (pv 2))) (sL_cons (sE_bin .sub (sE_bin .sub (sE_bin .add (sE_pk 4 (pv 4)) (sE_pk 5 (pv 5))) (sE_pk 1 (pv 1))) (sE_pk 2 (pv 2))) sL_nil))))
  sS_nil) sS_nil)
  (sS_cons (sS_sls (sE_fld KX.toOkx (sE_var 0 (pv 0)) (fo_rows hO G)) (sE_pk 3 (pv 3)) (sE_bin .add (sE_pk 3 (pv 3)) sE_int) (sE_pk 6 (pv 6)))
  sS_nil)))))))
theorem ok12 (hK : C.K = K) (hO : C.ob = obs B0) (G : Mg K mg a0 a1 a2 a3 a4 a5 a6 a7 a8 a9 a10 a11 a12 a13 a14 a15 a16 a17 a18 a19 a20 a21 a22 a23 B0 f0 f1 f2 f3 f4 f5 f6 f7 f8 f9 f10 f11 f12 f13 f14 f15 f16 f17 f18 f19 f20 f21 f22 f23 u_LEAST_CELLS u_MOST_CELLS) (H3 : FnOk P w K mg base (L2.CX P w) (2 * k) a3 f3 ["thing"] (spF C (callF T k) 3)) (H8 : FnOk P w K mg base (L2.CX P w) (2 * k) a8 f8 ["self", "cell"] (spF C (callF T k) 8)) : FnOk P w K mg base (L2.CX P w) (2 * (k + 1)) a12 f12 ["self", "start", "size"] (spF C (callF T (k + 1)) 12) :=
  fn_ok hK G.F12 sc12 rfl rfl fun cdv A outer s H E KX =>
  (sS_cons (sS_if (sT_bool (sW_or (sT_not (sT_val (sE_call KX.toOkx H3 (by rfl) G.m3 G.k3 G.b3 (sA_cons (sE_tup (sL_cons (sE_var 1 (pv 1)) (sL_cons (sE_var 2 (pv 2)) sL_nil))) sA_nil)))) (sW_or1 (sT_cmp .gt KX.toOkx (sE_bin .add (sE_pk 1 (pv 1)) (sE_pk 2 (pv 2))) (sE_fld KX.toOkx (sE_var 0 (pv 0)) (fo_width hO G)))))) (sS_cons (retE sE_bl)
  sS_nil) sS_nil)
  (sS_cons (setN KX.toOkx 3 (sE_meth (MA.cons (sM_one KX.toOkx (fun _ _ _ _ _ h => h) ⟨⟨_, _, _, _, _, hO ▸ rfl, G.cl0, G.me0_8, H8, G.b8, by omega⟩⟩ (sE_var 0 (pv 0)) (sA_cons (sE_pk 1 (pv 1)) sA_nil)) MA.nil)))
  (sS_cons (retE (sE_or (sE_cmp .eq KX.toOkx (sE_pk 3 (pv 3)) (sE_biB (cb_len KX.toOkx) (by rfl) G.z_len boot_len (sP_cons (sE_fld KX.toOkx (sE_var 0 (pv 0)) (fo_rows hO G)) sP_nil))) (sE_one (sE_cmp .le KX.toOkx (sE_bin .add (sE_pk 1 (pv 1)) (sE_pk 2 (pv 2))) (sE_ix KX.toOkx (sE_ix KX.toOkx (sE_fld KX.toOkx (sE_var 0 (pv 0)) (fo_rows hO G)) (sE_pk 3 (pv 3))) sE_int)))))
  sS_nil)))
theorem ok13 (hK : C.K = K) (hO : C.ob = obs B0) (G : Mg K mg a0 a1 a2 a3 a4 a5 a6 a7 a8 a9 a10 a11 a12 a13 a14 a15 a16 a17 a18 a19 a20 a21 a22 a23 B0 f0 f1 f2 f3 f4 f5 f6 f7 f8 f9 f10 f11 f12 f13 f14 f15 f16 f17 f18 f19 f20 f21 f22 f23 u_LEAST_CELLS u_MOST_CELLS) (H8 : FnOk P w K mg base (L2.CX P w) (2 * k) a8 f8 ["self", "cell"] (spF C (callF T k) 8)) (H12 : FnOk P w K mg base (L2.CX P w) (2 * k) a12 f12 ["self", "start", "size"] (spF C (callF T k) 12)) : FnOk P w K mg base (L2.CX P w) (2 * (k + 1)) a13 f13 ["self", "start", "size"] (spF C (callF T (k + 1)) 13) :=
  fn_ok hK G.F13 sc13 rfl rfl fun cdv A outer s H E KX =>
  (sS_cons (sS_if (sT_not (sT_val (sE_meth (MA.cons (sM_one KX.toOkx (fun _ _ _ _ _ h => h) ⟨⟨_, _, _, _, _, hO ▸ rfl, G.cl0, G.me0_12, H12, G.b12, by omega⟩⟩ (sE_var 0 (pv 0)) (sA_cons (sE_pk 1 (pv 1)) (sA_cons (sE_pk 2 (pv 2)) sA_nil))) MA.nil)))) (sS_cons sS_wall
  sS_nil) sS_nil)
  (sS_cons (setN KX.toOkx 3 (sE_bin .add (sE_pk 1 (pv 1)) (sE_pk 2 (pv 2))))
  (sS_cons (setN KX.toOkx 4 (sE_meth (MA.cons (sM_one KX.toOkx (fun _ _ _ _ _ h => h) ⟨⟨_, _, _, _, _, hO ▸ rfl, G.cl0, G.me0_8, H8, G.b8, by omega⟩⟩ (sE_var 0 (pv 0)) (sA_cons (sE_pk 1 (pv 1)) sA_nil)) MA.nil)))
  (sS_cons (setN KX.toOkx 5 (sE_var 4 (pv 4)))
  (sS_cons (setN KX.toOkx 6 (sE_var 4 (pv 4)))
  (sS_cons (sS_if (sT_bool (sW_and (sT_cmp .gt KX.toOkx (sE_pk 4 (pv 4)) sE_int) (sW_and1 (sT_cmp .eq KX.toOkx (sE_bin .add (sE_ix KX.toOkx (sE_ix KX.toOkx (sE_fld KX.toOkx (sE_var 0 (pv 0)) (fo_rows hO G)) (sE_bin .sub (sE_pk 4 (pv 4)) sE_int)) sE_int) (sE_ix KX.toOkx (sE_ix KX.toOkx (sE_fld KX.toOkx (sE_var 0 (pv 0)) (fo_rows hO G)) (sE_bin .sub (sE_pk 4 (pv 4)) sE_int)) sE_int)) (sE_pk 1 (pv 1)))))) (sS_cons (setN KX.toOkx 5 (sE_bin .sub (sE_pk 4 (pv 4)) sE_int))
  (sS_cons (setN KX.toOkx 1 (sE_ix KX.toOkx (sE_ix KX.toOkx (sE_fld KX.toOkx (sE_var 0 (pv 0)) (fo_rows hO G)) (sE_pk 5 (pv 5))) sE_int))
  sS_nil)) sS_nil)
  (sS_cons (sS_if (sT_bool (sW_and (sT_cmp .lt KX.toOkx (sE_pk 4 (pv 4)) (sE_biB (cb_len KX.toOkx) (by rfl) G.z_len boot_len (sP_cons (sE_fld KX.toOkx (sE_var 0 (pv 0)) (fo_rows hO G)) sP_nil))) (sW_and1 (sT_cmp .eq KX.toOkx (sE_ix KX.toOkx (sE_ix KX.toOkx (sE_fld KX.toOkx (sE_var 0 (pv 0)) (fo_rows hO G)) (sE_pk 4 (pv 4))) sE_int) (sE_pk 3 (pv 3)))))) (sS_cons (setN KX.toOkx 6 (sE_bin .add (sE_pk 4 (pv 4)) sE_int))
  (sS_cons (setN KX.toOkx 3 (sE_bin .add (sE_pk 3 (pv 3)) (sE_ix KX.toOkx (sE_ix KX.toOkx (sE_fld KX.toOkx (sE_var 0 (pv 0)) (fo_rows hO G)) (sE_pk 4 (pv 4))) sE_int)))
  sS_nil)) sS_nil)
  (sS_cons (sS_sls (sE_fld KX.toOkx (sE_var 0 (pv 0)) (fo_rows hO G)) (sE_pk 5 (pv 5)) (sE_pk 6 (pv 6)) (sE_lst (sL_cons (sE_tup (sL_cons (sE_var 1 (pv 1)) (sL_cons (sE_bin .sub (sE_pk 3 (pv 3)) (sE_pk 1 (pv 1))) sL_nil))) sL_nil)))
  sS_nil))))))))
theorem ok14 (hK : C.K = K) (hO : C.ob = obs B0) (G : Mg K mg a0 a1 a2 a3 a4 a5 a6 a7 a8 a9 a10 a11 a12 a13 a14 a15 a16 a17 a18 a19 a20 a21 a22 a23 B0 f0 f1 f2 f3 f4 f5 f6 f7 f8 f9 f10 f11 f12 f13 f14 f15 f16 f17 f18 f19 f20 f21 f22 f23 u_LEAST_CELLS u_MOST_CELLS)  : FnOk P w K mg base (L2.CX P w) (2 * (k + 1)) a14 f14 ["_law_script", "_law_k"] (spF C (callF T (k + 1)) 14) :=
  fn_ok hK G.F14 sc14 rfl rfl fun cdv A outer s H E KX =>
  (sS_cons (sS_if (sT_cmp .lt KX.toOkx (sE_pk 1 (pv 1)) (sE_biB (cb_len KX.toOkx) (by rfl) G.z_len boot_len (sP_cons (sE_pk 0 (pv 0)) sP_nil))) (sS_cons (retE (sE_ix KX.toOkx (sE_pk 0 (pv 0)) (sE_pk 1 (pv 1))))
  sS_nil) sS_nil)
  (sS_cons (retE (sE_bin .add (sE_bin .mul sE_int (sE_pk 1 (pv 1))) sE_int))
  sS_nil))
theorem ok15 (hK : C.K = K) (hO : C.ob = obs B0) (G : Mg K mg a0 a1 a2 a3 a4 a5 a6 a7 a8 a9 a10 a11 a12 a13 a14 a15 a16 a17 a18 a19 a20 a21 a22 a23 B0 f0 f1 f2 f3 f4 f5 f6 f7 f8 f9 f10 f11 f12 f13 f14 f15 f16 f17 f18 f19 f20 f21 f22 f23 u_LEAST_CELLS u_MOST_CELLS)  : FnOk P w K mg base (L2.CX P w) (2 * (k + 1)) a15 f15 ["_law_cell"] (spF C (callF T (k + 1)) 15) :=
  fn_ok hK G.F15 sc15 rfl rfl fun cdv A outer s H E KX =>
  (sS_cons (sS_if (sT_cmp .ge KX.toOkx (sE_pk 0 (pv 0)) (sE_bin .pow sE_int sE_int)) (sS_cons (retE (sE_lst (sL_cons (sE_var 0 (pv 0)) (sL_cons (sE_bin .mod (sE_pk 0 (pv 0)) sE_int) (sL_cons sE_int sL_nil)))))
  sS_nil) sS_nil)
  (sS_cons (retE (sE_lst (sL_cons sE_int (sL_cons (sE_bin .mod (sE_pk 0 (pv 0)) sE_int) (sL_cons sE_int sL_nil)))))
  sS_nil))
theorem ok16 (hK : C.K = K) (hO : C.ob = obs B0) (G : Mg K mg a0 a1 a2 a3 a4 a5 a6 a7 a8 a9 a10 a11 a12 a13 a14 a15 a16 a17 a18 a19 a20 a21 a22 a23 B0 f0 f1 f2 f3 f4 f5 f6 f7 f8 f9 f10 f11 f12 f13 f14 f15 f16 f17 f18 f19 f20 f21 f22 f23 u_LEAST_CELLS u_MOST_CELLS)  : FnOk P w K mg base (L2.CX P w) (2 * (k + 1)) a16 f16 ["_law_box_here", "_law_many"] (spF C (callF T (k + 1)) 16) :=
  fn_ok hK G.F16 sc16 rfl rfl fun cdv A outer s H E KX =>
  (sS_cons (sS_if (sT_cmp .gt KX.toOkx (sE_ix KX.toOkx (sE_pk 0 (pv 0)) sE_int) sE_int) (sS_cons (setN KX.toOkx 2 (sE_bin .mod (sE_ix KX.toOkx (sE_pk 0 (pv 0)) sE_int) (sE_pk 1 (pv 1))))
  (sS_cons (sS_setiC (sE_var 0 (pv 0)) sE_int (sE_bin .fdiv (sE_ix KX.toOkx (sE_pk 0 (pv 0)) sE_int) (sE_pk 1 (pv 1))))
  (sS_cons (retV 2 (pv 2))
  sS_nil))) sS_nil)
  (sS_cons (sS_setiC (sE_var 0 (pv 0)) sE_int (sE_bin .add (sE_ix KX.toOkx (sE_pk 0 (pv 0)) sE_int) sE_int))
  (sS_cons (setN KX.toOkx 2 (sE_bin .mod (sE_bin .add (sE_bin .add (sE_bin .mul (sE_ix KX.toOkx (sE_pk 0 (pv 0)) sE_int) sE_int) (sE_bin .mul sE_int (sE_ix KX.toOkx (sE_pk 0 (pv 0)) sE_int))) sE_int) sE_int))
  (sS_cons (setN KX.toOkx 2 (sE_bin .mod (sE_bin .add (sE_bin .add (sE_bin .mul (sE_pk 2 (pv 2)) (sE_pk 2 (pv 2))) (sE_bin .mul sE_int (sE_ix KX.toOkx (sE_pk 0 (pv 0)) sE_int))) sE_int) sE_int))
  (sS_cons (retE (sE_bin .mod (sE_bin .mod (sE_bin .mul (sE_pk 2 (pv 2)) (sE_pk 2 (pv 2))) sE_int) (sE_pk 1 (pv 1))))
  sS_nil)))))
theorem ok17 (hK : C.K = K) (hO : C.ob = obs B0) (G : Mg K mg a0 a1 a2 a3 a4 a5 a6 a7 a8 a9 a10 a11 a12 a13 a14 a15 a16 a17 a18 a19 a20 a21 a22 a23 B0 f0 f1 f2 f3 f4 f5 f6 f7 f8 f9 f10 f11 f12 f13 f14 f15 f16 f17 f18 f19 f20 f21 f22 f23 u_LEAST_CELLS u_MOST_CELLS)  : FnOk P w K mg base (L2.CX P w) (2 * (k + 1)) a17 f17 ["_law_free"] (spF C (callF T (k + 1)) 17) :=
  fn_ok hK G.F17 sc17 rfl rfl fun cdv A outer s H E KX =>
  (sS_cons (setN KX.toOkx 1 (sE_lst sL_nil))
  (sS_cons (sS_for KX (sI_rng1 (by rfl) G.z_range (sE_biB (cb_len KX.toOkx) (by rfl) G.z_len boot_len (sP_cons (sE_pk 0 (pv 0)) sP_nil))) (gN KX.toOkx 2) (sS_cons (sS_if (sT_bool (sW_and (sT_val (sE_ix KX.toOkx (sE_pk 0 (pv 0)) (sE_pk 2 (pv 2)))) (sW_and1 (sT_bool (sW_or (sT_cmp .eq KX.toOkx (sE_pk 2 (pv 2)) sE_int) (sW_or1 (sT_not (sT_val (sE_ix KX.toOkx (sE_pk 0 (pv 0)) (sE_bin .sub (sE_pk 2 (pv 2)) sE_int)))))))))) (sS_cons (sS_app (pv 1) (sE_tup (sL_cons (sE_var 2 (pv 2)) (sL_cons sE_int sL_nil))))
  sS_nil) (sS_cons (sS_if (sT_val (sE_ix KX.toOkx (sE_pk 0 (pv 0)) (sE_pk 2 (pv 2)))) (sS_cons (sS_seti (pv 1) (sE_neg sE_int) (sE_tup (sL_cons (sE_ix KX.toOkx (sE_ix KX.toOkx (sE_pk 1 (pv 1)) (sE_neg sE_int)) sE_int) (sL_cons (sE_bin .add (sE_ix KX.toOkx (sE_ix KX.toOkx (sE_pk 1 (pv 1)) (sE_neg sE_int)) sE_int) sE_int) sL_nil))))
  sS_nil) sS_nil)
  sS_nil))
  sS_nil))
  (sS_cons (retV 1 (pv 1))
  sS_nil)))
theorem ok18 (hK : C.K = K) (hO : C.ob = obs B0) (G : Mg K mg a0 a1 a2 a3 a4 a5 a6 a7 a8 a9 a10 a11 a12 a13 a14 a15 a16 a17 a18 a19 a20 a21 a22 a23 B0 f0 f1 f2 f3 f4 f5 f6 f7 f8 f9 f10 f11 f12 f13 f14 f15 f16 f17 f18 f19 f20 f21 f22 f23 u_LEAST_CELLS u_MOST_CELLS) (H17 : FnOk P w K mg base (L2.CX P w) (2 * k) a17 f17 ["_law_free"] (spF C (callF T k) 17)) : FnOk P w K mg base (L2.CX P w) (2 * (k + 1)) a18 f18 ["_law_free"] (spF C (callF T (k + 1)) 18) :=
  fn_ok hK G.F18 sc18 rfl rfl fun cdv A outer s H E KX =>
  (sS_cons (retE (sE_call KX.toOkx H17 (by rfl) G.m17 G.k17 G.b17 (sA_cons (sE_compK KX.calm KX.toOkx.nd (sV_seq KX.toOkx (sE_var 0 (pv 0))) (blkOk_by (N := ["_law_free", "_law_one"]) (sc := defScope s18) (own := [("_law_one", 1)]) (by decide +kernel)) (fun s H C' cl fp => (gN (KX.toOkx.blk) 1)) (fun s H C' cl fp => sTs_nil) (fun s H C' cl fp => (sE_not (sE_pk 1 (pv 1))))) sA_nil)))
  sS_nil)
theorem ok19 (hK : C.K = K) (hO : C.ob = obs B0) (G : Mg K mg a0 a1 a2 a3 a4 a5 a6 a7 a8 a9 a10 a11 a12 a13 a14 a15 a16 a17 a18 a19 a20 a21 a22 a23 B0 f0 f1 f2 f3 f4 f5 f6 f7 f8 f9 f10 f11 f12 f13 f14 f15 f16 f17 f18 f19 f20 f21 f22 f23 u_LEAST_CELLS u_MOST_CELLS) (H16 : FnOk P w K mg base (L2.CX P w) (2 * k) a16 f16 ["_law_box_here", "_law_many"] (spF C (callF T k) 16)) : FnOk P w K mg base (L2.CX P w) (2 * (k + 1)) a19 f19 ["_law_box_here", "_law_run"] (spF C (callF T (k + 1)) 19) :=
  fn_ok hK G.F19 sc19 rfl rfl fun cdv A outer s H E KX =>
  (sS_cons (sS_asgT (sE_var 1 (pv 1)) (sG_tup KX.toOkx.kk KX.calm (sGs_cons (gN KX.toOkx 2) (sGs_cons (gN KX.toOkx 3) sGs_nil))))
  (sS_cons (setN KX.toOkx 4 (sE_call KX.toOkx H16 (by rfl) G.m16 G.k16 G.b16 (sA_cons (sE_pk 0 (pv 0)) (sA_cons sE_int sA_nil))))
  (sS_cons (setN KX.toOkx 5 (sE_bin .add sE_int (sE_call KX.toOkx H16 (by rfl) G.m16 G.k16 G.b16 (sA_cons (sE_pk 0 (pv 0)) (sA_cons (sE_pk 3 (pv 3)) sA_nil)))))
  (sS_cons (sS_if (sT_cmp .eq KX.toOkx (sE_pk 4 (pv 4)) sE_int) (sS_cons (retE (sE_tup (sL_cons (sE_var 2 (pv 2)) (sL_cons (sE_var 5 (pv 5)) sL_nil))))
  sS_nil) sS_nil)
  (sS_cons (sS_if (sT_cmp .eq KX.toOkx (sE_pk 4 (pv 4)) sE_int) (sS_cons (retE (sE_tup (sL_cons (sE_bin .sub (sE_bin .add (sE_pk 2 (pv 2)) (sE_pk 3 (pv 3))) (sE_pk 5 (pv 5))) (sL_cons (sE_var 5 (pv 5)) sL_nil))))
  sS_nil) sS_nil)
  (sS_cons (sS_if (sT_cmp .eq KX.toOkx (sE_pk 4 (pv 4)) sE_int) (sS_cons (retV 1 (pv 1))
  sS_nil) sS_nil)
  (sS_cons (setN KX.toOkx 6 (sE_call KX.toOkx H16 (by rfl) G.m16 G.k16 G.b16 (sA_cons (sE_pk 0 (pv 0)) (sA_cons (sE_pk 3 (pv 3)) sA_nil))))
  (sS_cons (retE (sE_tup (sL_cons (sE_bin .add (sE_pk 2 (pv 2)) (sE_pk 6 (pv 6))) (sL_cons (sE_bin .add sE_int (sE_call KX.toOkx H16 (by rfl) G.m16 G.k16 G.b16 (sA_cons (sE_pk 0 (pv 0)) (sA_cons (sE_bin .sub (sE_pk 3 (pv 3)) (sE_pk 6 (pv 6))) sA_nil)))) sL_nil))))
  sS_nil))))))))
theorem ok20 (hK : C.K = K) (hO : C.ob = obs B0) (G : Mg K mg a0 a1 a2 a3 a4 a5 a6 a7 a8 a9 a10 a11 a12 a13 a14 a15 a16 a17 a18 a19 a20 a21 a22 a23 B0 f0 f1 f2 f3 f4 f5 f6 f7 f8 f9 f10 f11 f12 f13 f14 f15 f16 f17 f18 f19 f20 f21 f22 f23 u_LEAST_CELLS u_MOST_CELLS)  : FnOk P w K mg base (L2.CX P w) (2 * (k + 1)) a20 f20 ["_law_found", "_law_due"] (spF C (callF T (k + 1)) 20) :=
  fn_ok hK G.F20 sc20 rfl rfl fun cdv A outer s H E KX =>
  (sS_cons (retE (sE_and (sE_isi KX.toOkx (by rfl) G.z_isinstance (sE_pk 0 (pv 0)) (tyN G.z_int boot_int)) (sE_and (sE_not (sE_isi KX.toOkx (by rfl) G.z_isinstance (sE_pk 0 (pv 0)) (tyN G.z_bool boot_bool))) (sE_one (sE_cmp .eq KX.toOkx (sE_pk 0 (pv 0)) (sE_pk 1 (pv 1)))))))
  sS_nil)
theorem ok21 (hK : C.K = K) (hO : C.ob = obs B0) (G : Mg K mg a0 a1 a2 a3 a4 a5 a6 a7 a8 a9 a10 a11 a12 a13 a14 a15 a16 a17 a18 a19 a20 a21 a22 a23 B0 f0 f1 f2 f3 f4 f5 f6 f7 f8 f9 f10 f11 f12 f13 f14 f15 f16 f17 f18 f19 f20 f21 f22 f23 u_LEAST_CELLS u_MOST_CELLS)  : FnOk P w K mg base (L2.CX P w) (2 * (k + 1)) a21 f21 ["_law_holes_here", "_law_cell"] (spF C (callF T (k + 1)) 21) :=
  fn_ok hK G.F21 sc21 rfl rfl fun cdv A outer s H E KX =>
  (sS_cons (sS_for KX (sI_seq KX.toOkx (sE_var 0 (pv 0))) (sG_tup KX.toOkx.kk KX.calm (sGs_cons (gN KX.toOkx 2) (sGs_cons (gN KX.toOkx 3) sGs_nil))) (sS_cons (sS_if (sT_chn .le .lt KX.toOkx (sE_pk 2 (pv 2)) (sE_pk 1 (pv 1)) (sE_bin .add (sE_pk 2 (pv 2)) (sE_pk 3 (pv 3)))) (sS_cons (retE (sE_tup (sL_cons (sE_var 2 (pv 2)) (sL_cons (sE_var 3 (pv 3)) sL_nil))))
  sS_nil) sS_nil)
  sS_nil))
  (sS_cons (retE sE_non)
  sS_nil))
theorem ok22 (hK : C.K = K) (hO : C.ob = obs B0) (G : Mg K mg a0 a1 a2 a3 a4 a5 a6 a7 a8 a9 a10 a11 a12 a13 a14 a15 a16 a17 a18 a19 a20 a21 a22 a23 B0 f0 f1 f2 f3 f4 f5 f6 f7 f8 f9 f10 f11 f12 f13 f14 f15 f16 f17 f18 f19 f20 f21 f22 f23 u_LEAST_CELLS u_MOST_CELLS) (H5 : FnOk P w K mg base (L2.CX P w) (2 * k) a5 f5 ["self"] (spF C (callF T k) 5)) (H6 : FnOk P w K mg base (L2.CX P w) (2 * k) a6 f6 ["self"] (spF C (callF T k) 6)) (H7 : FnOk P w K mg base (L2.CX P w) (2 * k) a7 f7 ["self"] (spF C (callF T k) 7)) (H9 : FnOk P w K mg base (L2.CX P w) (2 * k) a9 f9 ["self", "start", "size"] (spF C (callF T k) 9)) (H10 : FnOk P w K mg base (L2.CX P w) (2 * k) a10 f10 ["self", "cell"] (spF C (callF T k) 10)) (H16 : FnOk P w K mg base (L2.CX P w) (2 * k) a16 f16 ["_law_box_here", "_law_many"] (spF C (callF T k) 16)) (H17 : FnOk P w K mg base (L2.CX P w) (2 * k) a17 f17 ["_law_free"] (spF C (callF T k) 17)) (H20 : FnOk P w K mg base (L2.CX P w) (2 * k) a20 f20 ["_law_found", "_law_due"] (spF C (callF T k) 20)) (H21 : FnOk P w K mg base (L2.CX P w) (2 * k) a21 f21 ["_law_holes_here", "_law_cell"] (spF C (callF T k) 21)) : FnOk P w K mg base (L2.CX P w) (2 * (k + 1)) a22 f22 ["_law_box_here", "_law_book", "_law_free"] (spF C (callF T (k + 1)) 22) :=
  fn_ok hK G.F22 sc22 rfl rfl fun cdv A outer s H E KX =>
  (sS_cons (setN KX.toOkx 3 (sE_call KX.toOkx H17 (by rfl) G.m17 G.k17 G.b17 (sA_cons (sE_pk 2 (pv 2)) sA_nil)))
  (sS_cons (setN KX.toOkx 4 (sE_meth (MA.cons (sM_one0 KX.toOkx (fun _ _ _ _ _ h => h) ⟨⟨_, _, _, _, _, hO ▸ rfl, G.cl0, G.me0_5, H5, G.b5, by omega⟩⟩ (sE_var 1 (pv 1))) MA.nil)))
  (sS_cons (sS_if (sT_bool (sW_or (sT_not (sT_val (sE_isi KX.toOkx (by rfl) G.z_isinstance (sE_pk 4 (pv 4)) (tyN G.z_list boot_list)))) (sW_or1 (sT_cmp .ne KX.toOkx (sE_pk 4 (pv 4)) (sE_pk 3 (pv 3)))))) (sS_cons (retE sE_bl)
  sS_nil) sS_nil)
  (sS_cons (sS_app (pv 4) (sE_tup (sL_cons sE_int (sL_cons sE_int sL_nil))))
  (sS_cons (sS_if (sT_not (sT_val (sE_call KX.toOkx H20 (by rfl) G.m20 G.k20 G.b20 (sA_cons (sE_meth (MA.cons (sM_one0 KX.toOkx (fun _ _ _ _ _ h => h) ⟨⟨_, _, _, _, _, hO ▸ rfl, G.cl0, G.me0_6, H6, G.b6, by omega⟩⟩ (sE_var 1 (pv 1))) MA.nil)) (sA_cons (sE_biB (cb_max1 KX.toOkx KX.calm) (by rfl) G.z_max boot_max (sP_cons (sE_bin .add (sE_lst (sL_cons sE_int sL_nil)) (sE_comp KX.calm KX.toOkx.nd (sI_seq KX.toOkx (sE_pk 3 (pv 3))) (blkOk_by (N := ["_law_box_here", "_law_book", "_law_free", "_law_due", "_law_told", "_law_start", "_law_size", "_law_one", "_law_cell", "_law_inside", "_law_found"]) (sc := defScope s22) (own := [("_law_start", 5), ("_law_size", 6)]) (by decide +kernel)) (fun s H C' cl fp => (sG_tup (KX.toOkx.blk).kk KX.calm (sGs_cons (gN (KX.toOkx.blk) 5) (sGs_cons (gN (KX.toOkx.blk) 6) sGs_nil)))) (fun s H C' cl fp => sTs_nil) (fun s H C' cl fp => (sE_var 6 (pv 6))))) sP_nil)) sA_nil))))) (sS_cons (retE sE_bl)
  sS_nil) sS_nil)
  (sS_cons (sS_if (sT_not (sT_val (sE_call KX.toOkx H20 (by rfl) G.m20 G.k20 G.b20 (sA_cons (sE_meth (MA.cons (sM_one0 KX.toOkx (fun _ _ _ _ _ h => h) ⟨⟨_, _, _, _, _, hO ▸ rfl, G.cl0, G.me0_7, H7, G.b7, by omega⟩⟩ (sE_var 1 (pv 1))) MA.nil)) (sA_cons (sE_biB (cb_len KX.toOkx) (by rfl) G.z_len boot_len (sP_cons (sE_compK KX.calm KX.toOkx.nd (sV_seq KX.toOkx (sE_var 2 (pv 2))) (blkOk_by (N := ["_law_box_here", "_law_book", "_law_free", "_law_due", "_law_told", "_law_start", "_law_size", "_law_one", "_law_cell", "_law_inside", "_law_found"]) (sc := defScope s22) (own := [("_law_one", 7)]) (by decide +kernel)) (fun s H C' cl fp => (gN (KX.toOkx.blk) 7)) (fun s H C' cl fp => (pts_one (sT_val (sE_pk 7 (pv 7))))) (fun s H C' cl fp => (sE_var 7 (pv 7)))) sP_nil)) sA_nil))))) (sS_cons (retE sE_bl)
  sS_nil) sS_nil)
  (sS_cons (setN KX.toOkx 8 (sE_call KX.toOkx H16 (by rfl) G.m16 G.k16 G.b16 (sA_cons (sE_pk 0 (pv 0)) (sA_cons (sE_biB (cb_len KX.toOkx) (by rfl) G.z_len boot_len (sP_cons (sE_pk 2 (pv 2)) sP_nil)) sA_nil))))
  (sS_cons (sS_if (sT_cmp .ne KX.toOkx (sE_meth (MA.cons (sM_one KX.toOkx (fun _ _ _ _ _ h => h) ⟨⟨_, _, _, _, _, hO ▸ rfl, G.cl0, G.me0_10, H10, G.b10, by omega⟩⟩ (sE_var 1 (pv 1)) (sA_cons (sE_pk 8 (pv 8)) sA_nil)) MA.nil)) (sE_call KX.toOkx H21 (by rfl) G.m21 G.k21 G.b21 (sA_cons (sE_pk 3 (pv 3)) (sA_cons (sE_pk 8 (pv 8)) sA_nil)))) (sS_cons (retE sE_bl)
  sS_nil) sS_nil)
  (sS_cons (setN KX.toOkx 6 (sE_bin .add sE_int (sE_call KX.toOkx H16 (by rfl) G.m16 G.k16 G.b16 (sA_cons (sE_pk 0 (pv 0)) (sA_cons (sE_biB (cb_len KX.toOkx) (by rfl) G.z_len boot_len (sP_cons (sE_pk 2 (pv 2)) sP_nil)) sA_nil)))))
  (sS_cons (setN KX.toOkx 9 (sE_and (sE_cmp .le KX.toOkx (sE_bin .add (sE_pk 8 (pv 8)) (sE_pk 6 (pv 6))) (sE_biB (cb_len KX.toOkx) (by rfl) G.z_len boot_len (sP_cons (sE_pk 2 (pv 2)) sP_nil))) (sE_one (sE_not (sE_in KX.toOkx sE_bl (sE_sl KX.toOkx (sE_pk 2 (pv 2)) (sO_some (sE_pk 8 (pv 8))) (sO_some (sE_bin .add (sE_pk 8 (pv 8)) (sE_pk 6 (pv 6))))))))))
  (sS_cons (setN KX.toOkx 10 (sE_meth (MA.cons (sM_one KX.toOkx (fun _ _ _ _ _ h => h) ⟨⟨_, _, _, _, _, hO ▸ rfl, G.cl0, G.me0_9, H9, G.b9, by omega⟩⟩ (sE_var 1 (pv 1)) (sA_cons (sE_pk 8 (pv 8)) (sA_cons (sE_pk 6 (pv 6)) sA_nil))) MA.nil)))
  (sS_cons (retE (sE_and (sE_isi KX.toOkx (by rfl) G.z_isinstance (sE_pk 10 (pv 10)) (tyN G.z_bool boot_bool)) (sE_and (sE_cmp .eq KX.toOkx (sE_pk 10 (pv 10)) (sE_pk 9 (pv 9))) (sE_one (sE_cmp .eq KX.toOkx (sE_meth (MA.cons (sM_one0 KX.toOkx (fun _ _ _ _ _ h => h) ⟨⟨_, _, _, _, _, hO ▸ rfl, G.cl0, G.me0_5, H5, G.b5, by omega⟩⟩ (sE_var 1 (pv 1))) MA.nil)) (sE_pk 3 (pv 3)))))))
  sS_nil))))))))))))
theorem ok23 (hK : C.K = K) (hO : C.ob = obs B0) (G : Mg K mg a0 a1 a2 a3 a4 a5 a6 a7 a8 a9 a10 a11 a12 a13 a14 a15 a16 a17 a18 a19 a20 a21 a22 a23 B0 f0 f1 f2 f3 f4 f5 f6 f7 f8 f9 f10 f11 f12 f13 f14 f15 f16 f17 f18 f19 f20 f21 f22 f23 u_LEAST_CELLS u_MOST_CELLS) (H4 : FnOk P w K mg base (L2.CX P w) (2 * k) a4 f4 ["self", "many"] (spF C (callF T k) 4)) (H11 : FnOk P w K mg base (L2.CX P w) (2 * k) a11 f11 ["self", "start", "size"] (spF C (callF T k) 11)) (H13 : FnOk P w K mg base (L2.CX P w) (2 * k) a13 f13 ["self", "start", "size"] (spF C (callF T k) 13)) (H14 : FnOk P w K mg base (L2.CX P w) (2 * k) a14 f14 ["_law_script", "_law_k"] (spF C (callF T k) 14)) (H15 : FnOk P w K mg base (L2.CX P w) (2 * k) a15 f15 ["_law_cell"] (spF C (callF T k) 15)) (H16 : FnOk P w K mg base (L2.CX P w) (2 * k) a16 f16 ["_law_box_here", "_law_many"] (spF C (callF T k) 16)) (H17 : FnOk P w K mg base (L2.CX P w) (2 * k) a17 f17 ["_law_free"] (spF C (callF T k) 17)) (H18 : FnOk P w K mg base (L2.CX P w) (2 * k) a18 f18 ["_law_free"] (spF C (callF T k) 18)) (H19 : FnOk P w K mg base (L2.CX P w) (2 * k) a19 f19 ["_law_box_here", "_law_run"] (spF C (callF T k) 19)) (H22 : FnOk P w K mg base (L2.CX P w) (2 * k) a22 f22 ["_law_box_here", "_law_book", "_law_free"] (spF C (callF T k) 22)) : FnOk P w K mg base (L2.CX P w) (2 * (k + 1)) a23 f23 ["_law_script"] (spF C (callF T (k + 1)) 23) :=
  fn_ok hK G.F23 sc23 rfl rfl fun cdv A outer s H E KX =>
  (sS_cons (setN KX.toOkx 1 (sE_glob (sE_call KX.toOkx H15 (by rfl) G.m15 G.k15 G.b15 (sA_cons (sE_call KX.toOkx H14 (by rfl) G.m14 G.k14 G.b14 (sA_cons (sE_pk 0 (pv 0)) (sA_cons sE_int sA_nil))) sA_nil))))
  (sS_cons (setN KX.toOkx 2 (sE_lst (sL_cons (sE_ix KX.toOkx (sE_lst (sL_cons sE_int (sL_cons sE_int (sL_cons (sE_bin .add sE_int (sE_call KX.toOkx H16 (by rfl) G.m16 G.k16 G.b16 (sA_cons (sE_pk 1 (pv 1)) (sA_cons sE_int sA_nil)))) sL_nil)))) (sE_call KX.toOkx H16 (by rfl) G.m16 G.k16 G.b16 (sA_cons (sE_pk 1 (pv 1)) (sA_cons sE_int sA_nil)))) (sL_cons (sE_bin .add sE_int (sE_call KX.toOkx H16 (by rfl) G.m16 G.k16 G.b16 (sA_cons (sE_pk 1 (pv 1)) (sA_cons sE_int sA_nil)))) sL_nil))))
  (sS_cons (sS_setLc KX.calm KX.toOkx.nd (by rfl) (by rfl) (by rfl) (sI_seq KX.toOkx (sE_pk 2 (pv 2))) (blkOk_by (N := ["_law_script", "_law_first", "_law_sizes", "_law_books", "_law_many", "_law_frees", "_law_cell", "_law_k", "_law_box_here", "_law_which", "_law_free", "_law_holes_here", "_law_runs_here", "_law_start", "_law_size", "_law_at"]) (sc := defScope s23) (own := [("_law_many", 4)]) (by decide +kernel)) (fun s H C' cl fp => (gN (KX.toOkx.blk) 4)) (fun s H C' cl fp => sTs_nil) (fun s H C' cl fp => (sE_make (KX.toOkx.blk) (fun _ _ _ _ _ h => h) (hO ▸ rfl) G.mk0 H4 (by rfl) G.cm0 G.b4 (sA_cons (sE_var 4 (pv 4)) sA_nil))))
  (sS_cons (sS_setLc KX.calm KX.toOkx.nd (by rfl) (by rfl) (by rfl) (sI_seq KX.toOkx (sE_pk 2 (pv 2))) (blkOk_by (N := ["_law_script", "_law_first", "_law_sizes", "_law_books", "_law_many", "_law_frees", "_law_cell", "_law_k", "_law_box_here", "_law_which", "_law_free", "_law_holes_here", "_law_runs_here", "_law_start", "_law_size", "_law_at"]) (sc := defScope s23) (own := [("_law_many", 4)]) (by decide +kernel)) (fun s H C' cl fp => (gN (KX.toOkx.blk) 4)) (fun s H C' cl fp => sTs_nil) (fun s H C' cl fp => (sE_glob (sE_bin .mul (sE_lst (sL_cons sE_bl sL_nil)) (sE_pk 4 (pv 4))))))
  (sS_cons (sS_if (sT_cmp .eq KX.toOkx (sE_call KX.toOkx H16 (by rfl) G.m16 G.k16 G.b16 (sA_cons (sE_pk 1 (pv 1)) (sA_cons sE_int sA_nil))) sE_int) (sS_cons (sS_for KX (sI_rng3 (by rfl) G.z_range sE_int (sE_ix KX.toOkx (sE_pk 2 (pv 2)) sE_int)) (gN KX.toOkx 6) (sS_cons (sS_drop (sE_meth (MA.cons (sM_one KX.toOkx (fun _ _ _ _ _ h => h) ⟨⟨_, _, _, _, _, hO ▸ rfl, G.cl0, G.me0_11, H11, G.b11, by omega⟩⟩ (sE_ix KX.toOkx (sE_pk 3 (pv 3)) sE_int) (sA_cons (sE_pk 6 (pv 6)) (sA_cons sE_int sA_nil))) MA.nil)))
  (sS_cons (sS_setiC (sE_ix KX.toOkx (sE_pk 5 (pv 5)) sE_int) (sE_pk 6 (pv 6)) sE_bl)
  sS_nil)))
  sS_nil) sS_nil)
  (sS_cons (sS_for KX (sI_rng2 (by rfl) G.z_range sE_int (sE_biB (cb_max2 KX.calm) (by rfl) G.z_max boot_max (sP_cons sE_int (sP_cons (sE_biB (cb_min2 KX.calm) (by rfl) G.z_min boot_min (sP_cons (sE_biB (cb_len KX.toOkx) (by rfl) G.z_len boot_len (sP_cons (sE_pk 0 (pv 0)) sP_nil)) (sP_cons sE_int sP_nil))) sP_nil)))) (gN KX.toOkx 7) (sS_cons (setN KX.toOkx 8 (sE_glob (sE_call KX.toOkx H15 (by rfl) G.m15 G.k15 G.b15 (sA_cons (sE_call KX.toOkx H14 (by rfl) G.m14 G.k14 G.b14 (sA_cons (sE_pk 0 (pv 0)) (sA_cons (sE_pk 7 (pv 7)) sA_nil))) sA_nil))))
  (sS_cons (setN KX.toOkx 9 (sE_biT (cb_int) (by rfl) G.z_int boot_int (sP_cons (sE_cmp .eq KX.toOkx (sE_call KX.toOkx H16 (by rfl) G.m16 G.k16 G.b16 (sA_cons (sE_pk 8 (pv 8)) (sA_cons sE_int sA_nil))) sE_int) sP_nil)))
  (sS_cons (setN KX.toOkx 10 (sE_ix KX.toOkx (sE_pk 5 (pv 5)) (sE_pk 9 (pv 9))))
  (sS_cons (setN KX.toOkx 11 (sE_call KX.toOkx H17 (by rfl) G.m17 G.k17 G.b17 (sA_cons (sE_pk 10 (pv 10)) sA_nil)))
  (sS_cons (setN KX.toOkx 12 (sE_call KX.toOkx H18 (by rfl) G.m18 G.k18 G.b18 (sA_cons (sE_pk 10 (pv 10)) sA_nil)))
  (sS_cons (sS_if (sT_bool (sW_and (sT_cmp .ne KX.toOkx (sE_pk 11 (pv 11)) (sE_lst sL_nil)) (sW_and1 (sT_bool (sW_or (sT_cmp .eq KX.toOkx (sE_pk 12 (pv 12)) (sE_lst sL_nil)) (sW_or1 (sT_cmp .lt KX.toOkx (sE_call KX.toOkx H16 (by rfl) G.m16 G.k16 G.b16 (sA_cons (sE_pk 8 (pv 8)) (sA_cons sE_int sA_nil))) sE_int))))))) (sS_cons (sS_asgT (sE_call KX.toOkx H19 (by rfl) G.m19 G.k19 G.b19 (sA_cons (sE_pk 8 (pv 8)) (sA_cons (sE_ix KX.toOkx (sE_pk 11 (pv 11)) (sE_call KX.toOkx H16 (by rfl) G.m16 G.k16 G.b16 (sA_cons (sE_pk 8 (pv 8)) (sA_cons (sE_biB (cb_len KX.toOkx) (by rfl) G.z_len boot_len (sP_cons (sE_pk 11 (pv 11)) sP_nil)) sA_nil)))) sA_nil))) (sG_tup KX.toOkx.kk KX.calm (sGs_cons (gN KX.toOkx 13) (sGs_cons (gN KX.toOkx 14) sGs_nil))))
  (sS_cons (sS_drop (sE_meth (MA.cons (sM_one KX.toOkx (fun _ _ _ _ _ h => h) ⟨⟨_, _, _, _, _, hO ▸ rfl, G.cl0, G.me0_11, H11, G.b11, by omega⟩⟩ (sE_ix KX.toOkx (sE_pk 3 (pv 3)) (sE_pk 9 (pv 9))) (sA_cons (sE_pk 13 (pv 13)) (sA_cons (sE_pk 14 (pv 14)) sA_nil))) MA.nil)))
  (sS_cons (sS_sls (sE_var 10 (pv 10)) (sE_pk 13 (pv 13)) (sE_bin .add (sE_pk 13 (pv 13)) (sE_pk 14 (pv 14))) (sE_bin .mul (sE_lst (sL_cons sE_bl sL_nil)) (sE_pk 14 (pv 14))))
  sS_nil))) (sS_cons (sS_asgT (sE_call KX.toOkx H19 (by rfl) G.m19 G.k19 G.b19 (sA_cons (sE_pk 8 (pv 8)) (sA_cons (sE_ix KX.toOkx (sE_pk 12 (pv 12)) (sE_call KX.toOkx H16 (by rfl) G.m16 G.k16 G.b16 (sA_cons (sE_pk 8 (pv 8)) (sA_cons (sE_biB (cb_len KX.toOkx) (by rfl) G.z_len boot_len (sP_cons (sE_pk 12 (pv 12)) sP_nil)) sA_nil)))) sA_nil))) (sG_tup KX.toOkx.kk KX.calm (sGs_cons (gN KX.toOkx 13) (sGs_cons (gN KX.toOkx 14) sGs_nil))))
  (sS_cons (sS_drop (sE_meth (MA.cons (sM_one KX.toOkx (fun _ _ _ _ _ h => h) ⟨⟨_, _, _, _, _, hO ▸ rfl, G.cl0, G.me0_13, H13, G.b13, by omega⟩⟩ (sE_ix KX.toOkx (sE_pk 3 (pv 3)) (sE_pk 9 (pv 9))) (sA_cons (sE_var 13 (pv 13)) (sA_cons (sE_pk 14 (pv 14)) sA_nil))) MA.nil)))
  (sS_cons (sS_sls (sE_var 10 (pv 10)) (sE_pk 13 (pv 13)) (sE_bin .add (sE_pk 13 (pv 13)) (sE_pk 14 (pv 14))) (sE_bin .mul (sE_lst (sL_cons sE_bl sL_nil)) (sE_pk 14 (pv 14))))
  sS_nil))))
  (sS_cons (sS_for KX (sI_seq KX.toOkx (sE_lst (sL_cons (sE_var 9 (pv 9)) (sL_cons (sE_bin .sub sE_int (sE_pk 9 (pv 9))) sL_nil)))) (gN KX.toOkx 15) (sS_cons (sS_if (sT_not (sT_val (sE_call KX.toOkx H22 (by rfl) G.m22 G.k22 G.b22 (sA_cons (sE_pk 8 (pv 8)) (sA_cons (sE_ix KX.toOkx (sE_pk 3 (pv 3)) (sE_pk 15 (pv 15))) (sA_cons (sE_ix KX.toOkx (sE_pk 5 (pv 5)) (sE_pk 15 (pv 15))) sA_nil)))))) (sS_cons (retE sE_bl)
  sS_nil) sS_nil)
  sS_nil))
  sS_nil))))))))
  (sS_cons (retE sE_bl)
  sS_nil)))))))
theorem all_ok (hK : C.K = K) (hO : C.ob = obs B0) (G : Mg K mg a0 a1 a2 a3 a4 a5 a6 a7 a8 a9 a10 a11 a12 a13 a14 a15 a16 a17 a18 a19 a20 a21 a22 a23 B0 f0 f1 f2 f3 f4 f5 f6 f7 f8 f9 f10 f11 f12 f13 f14 f15 f16 f17 f18 f19 f20 f21 f22 f23 u_LEAST_CELLS u_MOST_CELLS) : ∀ n : Nat, FnOk P w K mg base (L2.CX P w) (2 * n) a0 f0 ["thing"] (spF C (callF T n) 0) ∧ FnOk P w K mg base (L2.CX P w) (2 * n) a1 f1 ["thing", "low", "high"] (spF C (callF T n) 1) ∧ FnOk P w K mg base (L2.CX P w) (2 * n) a2 f2 ["thing"] (spF C (callF T n) 2) ∧ FnOk P w K mg base (L2.CX P w) (2 * n) a3 f3 ["thing"] (spF C (callF T n) 3) ∧ FnOk P w K mg base (L2.CX P w) (2 * n) a4 f4 ["self", "many"] (spF C (callF T n) 4) ∧ FnOk P w K mg base (L2.CX P w) (2 * n) a5 f5 ["self"] (spF C (callF T n) 5) ∧ FnOk P w K mg base (L2.CX P w) (2 * n) a6 f6 ["self"] (spF C (callF T n) 6) ∧ FnOk P w K mg base (L2.CX P w) (2 * n) a7 f7 ["self"] (spF C (callF T n) 7) ∧ FnOk P w K mg base (L2.CX P w) (2 * n) a8 f8 ["self", "cell"] (spF C (callF T n) 8) ∧ FnOk P w K mg base (L2.CX P w) (2 * n) a9 f9 ["self", "start", "size"] (spF C (callF T n) 9) ∧ FnOk P w K mg base (L2.CX P w) (2 * n) a10 f10 ["self", "cell"] (spF C (callF T n) 10) ∧ FnOk P w K mg base (L2.CX P w) (2 * n) a11 f11 ["self", "start", "size"] (spF C (callF T n) 11) ∧ FnOk P w K mg base (L2.CX P w) (2 * n) a12 f12 ["self", "start", "size"] (spF C (callF T n) 12) ∧ FnOk P w K mg base (L2.CX P w) (2 * n) a13 f13 ["self", "start", "size"] (spF C (callF T n) 13) ∧ FnOk P w K mg base (L2.CX P w) (2 * n) a14 f14 ["_law_script", "_law_k"] (spF C (callF T n) 14) ∧ FnOk P w K mg base (L2.CX P w) (2 * n) a15 f15 ["_law_cell"] (spF C (callF T n) 15) ∧ FnOk P w K mg base (L2.CX P w) (2 * n) a16 f16 ["_law_box_here", "_law_many"] (spF C (callF T n) 16) ∧ FnOk P w K mg base (L2.CX P w) (2 * n) a17 f17 ["_law_free"] (spF C (callF T n) 17) ∧ FnOk P w K mg base (L2.CX P w) (2 * n) a18 f18 ["_law_free"] (spF C (callF T n) 18) ∧ FnOk P w K mg base (L2.CX P w) (2 * n) a19 f19 ["_law_box_here", "_law_run"] (spF C (callF T n) 19) ∧ FnOk P w K mg base (L2.CX P w) (2 * n) a20 f20 ["_law_found", "_law_due"] (spF C (callF T n) 20) ∧ FnOk P w K mg base (L2.CX P w) (2 * n) a21 f21 ["_law_holes_here", "_law_cell"] (spF C (callF T n) 21) ∧ FnOk P w K mg base (L2.CX P w) (2 * n) a22 f22 ["_law_box_here", "_law_book", "_law_free"] (spF C (callF T n) 22) ∧ FnOk P w K mg base (L2.CX P w) (2 * n) a23 f23 ["_law_script"] (spF C (callF T n) 23)
  | 0 => ⟨fn_ok0, fn_ok0, fn_ok0, fn_ok0, fn_ok0, fn_ok0, fn_ok0, fn_ok0, fn_ok0, fn_ok0, fn_ok0, fn_ok0, fn_ok0, fn_ok0, fn_ok0, fn_ok0, fn_ok0, fn_ok0, fn_ok0, fn_ok0, fn_ok0, fn_ok0, fn_ok0, fn_ok0⟩
  | k + 1 => by
    obtain ⟨H0, H1, H2, H3, H4, H5, H6, H7, H8, H9, H10, H11, H12, H13, H14, H15, H16, H17, H18, H19, H20, H21, H22, H23⟩ := all_ok hK hO G k
    exact ⟨ok0 hK hO G , ok1 hK hO G H0, ok2 hK hO G H1, ok3 hK hO G H0, ok4 hK hO G H2, ok5 hK hO G , ok6 hK hO G , ok7 hK hO G , ok8 hK hO G , ok9 hK hO G H3 H8, ok10 hK hO G H1 H8 H9, ok11 hK hO G H8 H9, ok12 hK hO G H3 H8, ok13 hK hO G H8 H12, ok14 hK hO G , ok15 hK hO G , ok16 hK hO G , ok17 hK hO G , ok18 hK hO G H17, ok19 hK hO G H16, ok20 hK hO G , ok21 hK hO G , ok22 hK hO G H5 H6 H7 H9 H10 H16 H17 H20 H21, ok23 hK hO G H4 H11 H13 H14 H15 H16 H17 H18 H19 H22⟩
end
set_option maxHeartbeats 0 in
theorem all_mk {u_LEAST_CELLS u_MOST_CELLS : Value} {l : PySem.W.OpenLaw} {w : World} {K : PySem.W.Frag} {h : Heap} {mg : Str → Option Value} {fa a0 a1 a2 a3 a4 a5 a6 a7 a8 a9 a10 a11 a12 a13 a14 a15 a16 a17 a18 a19 a20 a21 a22 a23 B0 : Addr} (X : K.In h) (G : h.Ns mainGlobals mg) (hfa : mg "law" = some (.ref fa))
    {od0 an0 : Option Addr} {sl0 : Array (Option Value)} {oc0 kV0 dc0 pm0 cd0 ct0 : Value}
    {od1 an1 : Option Addr} {sl1 : Array (Option Value)} {oc1 kV1 dc1 pm1 cd1 ct1 : Value}
    {od2 an2 : Option Addr} {sl2 : Array (Option Value)} {oc2 kV2 dc2 pm2 cd2 ct2 : Value}
    {od3 an3 : Option Addr} {sl3 : Array (Option Value)} {oc3 kV3 dc3 pm3 cd3 ct3 : Value}
    {od4 an4 : Option Addr} {sl4 : Array (Option Value)} {oc4 kV4 dc4 pm4 cd4 ct4 : Value}
    {od5 an5 : Option Addr} {sl5 : Array (Option Value)} {oc5 kV5 dc5 pm5 cd5 ct5 : Value}
    {od6 an6 : Option Addr} {sl6 : Array (Option Value)} {oc6 kV6 dc6 pm6 cd6 ct6 : Value}
    {od7 an7 : Option Addr} {sl7 : Array (Option Value)} {oc7 kV7 dc7 pm7 cd7 ct7 : Value}
    {od8 an8 : Option Addr} {sl8 : Array (Option Value)} {oc8 kV8 dc8 pm8 cd8 ct8 : Value}
    {od9 an9 : Option Addr} {sl9 : Array (Option Value)} {oc9 kV9 dc9 pm9 cd9 ct9 : Value}
    {od10 an10 : Option Addr} {sl10 : Array (Option Value)} {oc10 kV10 dc10 pm10 cd10 ct10 : Value}
    {od11 an11 : Option Addr} {sl11 : Array (Option Value)} {oc11 kV11 dc11 pm11 cd11 ct11 : Value}
    {od12 an12 : Option Addr} {sl12 : Array (Option Value)} {oc12 kV12 dc12 pm12 cd12 ct12 : Value}
    {od13 an13 : Option Addr} {sl13 : Array (Option Value)} {oc13 kV13 dc13 pm13 cd13 ct13 : Value}
    {od14 an14 : Option Addr} {sl14 : Array (Option Value)} {oc14 kV14 dc14 pm14 cd14 ct14 : Value}
    {od15 an15 : Option Addr} {sl15 : Array (Option Value)} {oc15 kV15 dc15 pm15 cd15 ct15 : Value}
    {od16 an16 : Option Addr} {sl16 : Array (Option Value)} {oc16 kV16 dc16 pm16 cd16 ct16 : Value}
    {od17 an17 : Option Addr} {sl17 : Array (Option Value)} {oc17 kV17 dc17 pm17 cd17 ct17 : Value}
    {od18 an18 : Option Addr} {sl18 : Array (Option Value)} {oc18 kV18 dc18 pm18 cd18 ct18 : Value}
    {od19 an19 : Option Addr} {sl19 : Array (Option Value)} {oc19 kV19 dc19 pm19 cd19 ct19 : Value}
    {od20 an20 : Option Addr} {sl20 : Array (Option Value)} {oc20 kV20 dc20 pm20 cd20 ct20 : Value}
    {od21 an21 : Option Addr} {sl21 : Array (Option Value)} {oc21 kV21 dc21 pm21 cd21 ct21 : Value}
    {od22 an22 : Option Addr} {sl22 : Array (Option Value)} {oc22 kV22 dc22 pm22 cd22 ct22 : Value}
    {od23 an23 : Option Addr} {sl23 : Array (Option Value)} {oc23 kV23 dc23 pm23 cd23 ct23 : Value}
    (n0 : PySem.W.nsIn K mainGlobals "is_whole" = some (some (.ref a0))) (l0 : K.lookup a0 = some ⟨oc0, od0, .func (PySem.W.fnOf "is_whole" "is_whole" (defArgs s0) (defBody s0) (defScope s0) .none kV0 dc0 pm0 an0 cd0 ct0), sl0⟩) (c0 : PySem.W.codeIn K cd0 "is_whole" = true) (k0 : PySem.W.keepIn K (.ref a0) = true)
    (n1 : PySem.W.nsIn K mainGlobals "is_within" = some (some (.ref a1))) (l1 : K.lookup a1 = some ⟨oc1, od1, .func (PySem.W.fnOf "is_within" "is_within" (defArgs s1) (defBody s1) (defScope s1) .none kV1 dc1 pm1 an1 cd1 ct1), sl1⟩) (c1 : PySem.W.codeIn K cd1 "is_within" = true) (k1 : PySem.W.keepIn K (.ref a1) = true)
    (n2 : PySem.W.nsIn K mainGlobals "need_many" = some (some (.ref a2))) (l2 : K.lookup a2 = some ⟨oc2, od2, .func (PySem.W.fnOf "need_many" "need_many" (defArgs s2) (defBody s2) (defScope s2) .none kV2 dc2 pm2 an2 cd2 ct2), sl2⟩) (c2 : PySem.W.codeIn K cd2 "need_many" = true) (k2 : PySem.W.keepIn K (.ref a2) = true)
    (n3 : PySem.W.nsIn K mainGlobals "is_stretch" = some (some (.ref a3))) (l3 : K.lookup a3 = some ⟨oc3, od3, .func (PySem.W.fnOf "is_stretch" "is_stretch" (defArgs s3) (defBody s3) (defScope s3) .none kV3 dc3 pm3 an3 cd3 ct3), sl3⟩) (c3 : PySem.W.codeIn K cd3 "is_stretch" = true) (k3 : PySem.W.keepIn K (.ref a3) = true)
    (n4 : PySem.W.findIn K (.ref B0) "__init__" = some (some (.ref a4))) (i4 : PySem.W.isFn K (.ref a4) = true) (l4 : K.lookup a4 = some ⟨oc4, od4, .func (PySem.W.fnOf "__init__" "Holes.__init__" (defArgs s4) (defBody s4) (defScope s4) .none kV4 dc4 pm4 an4 cd4 ct4), sl4⟩) (c4 : PySem.W.codeIn K cd4 "Holes.__init__" = true) (k4 : PySem.W.keepIn K (.ref a4) = true)
    (n5 : PySem.W.findIn K (.ref B0) "told" = some (some (.ref a5))) (i5 : PySem.W.isFn K (.ref a5) = true) (l5 : K.lookup a5 = some ⟨oc5, od5, .func (PySem.W.fnOf "told" "Holes.told" (defArgs s5) (defBody s5) (defScope s5) .none kV5 dc5 pm5 an5 cd5 ct5), sl5⟩) (c5 : PySem.W.codeIn K cd5 "Holes.told" = true) (k5 : PySem.W.keepIn K (.ref a5) = true)
    (n6 : PySem.W.findIn K (.ref B0) "largest_hole" = some (some (.ref a6))) (i6 : PySem.W.isFn K (.ref a6) = true) (l6 : K.lookup a6 = some ⟨oc6, od6, .func (PySem.W.fnOf "largest_hole" "Holes.largest_hole" (defArgs s6) (defBody s6) (defScope s6) .none kV6 dc6 pm6 an6 cd6 ct6), sl6⟩) (c6 : PySem.W.codeIn K cd6 "Holes.largest_hole" = true) (k6 : PySem.W.keepIn K (.ref a6) = true)
    (n7 : PySem.W.findIn K (.ref B0) "free_cells" = some (some (.ref a7))) (i7 : PySem.W.isFn K (.ref a7) = true) (l7 : K.lookup a7 = some ⟨oc7, od7, .func (PySem.W.fnOf "free_cells" "Holes.free_cells" (defArgs s7) (defBody s7) (defScope s7) .none kV7 dc7 pm7 an7 cd7 ct7), sl7⟩) (c7 : PySem.W.codeIn K cd7 "Holes.free_cells" = true) (k7 : PySem.W.keepIn K (.ref a7) = true)
    (n8 : PySem.W.findIn K (.ref B0) "number_of" = some (some (.ref a8))) (i8 : PySem.W.isFn K (.ref a8) = true) (l8 : K.lookup a8 = some ⟨oc8, od8, .func (PySem.W.fnOf "number_of" "Holes.number_of" (defArgs s8) (defBody s8) (defScope s8) .none kV8 dc8 pm8 an8 cd8 ct8), sl8⟩) (c8 : PySem.W.codeIn K cd8 "Holes.number_of" = true) (k8 : PySem.W.keepIn K (.ref a8) = true)
    (n9 : PySem.W.findIn K (.ref B0) "has" = some (some (.ref a9))) (i9 : PySem.W.isFn K (.ref a9) = true) (l9 : K.lookup a9 = some ⟨oc9, od9, .func (PySem.W.fnOf "has" "Holes.has" (defArgs s9) (defBody s9) (defScope s9) .none kV9 dc9 pm9 an9 cd9 ct9), sl9⟩) (c9 : PySem.W.codeIn K cd9 "Holes.has" = true) (k9 : PySem.W.keepIn K (.ref a9) = true)
    (n10 : PySem.W.findIn K (.ref B0) "hole_at" = some (some (.ref a10))) (i10 : PySem.W.isFn K (.ref a10) = true) (l10 : K.lookup a10 = some ⟨oc10, od10, .func (PySem.W.fnOf "hole_at" "Holes.hole_at" (defArgs s10) (defBody s10) (defScope s10) .none kV10 dc10 pm10 an10 cd10 ct10), sl10⟩) (c10 : PySem.W.codeIn K cd10 "Holes.hole_at" = true) (k10 : PySem.W.keepIn K (.ref a10) = true)
    (n11 : PySem.W.findIn K (.ref B0) "take" = some (some (.ref a11))) (i11 : PySem.W.isFn K (.ref a11) = true) (l11 : K.lookup a11 = some ⟨oc11, od11, .func (PySem.W.fnOf "take" "Holes.take" (defArgs s11) (defBody s11) (defScope s11) .none kV11 dc11 pm11 an11 cd11 ct11), sl11⟩) (c11 : PySem.W.codeIn K cd11 "Holes.take" = true) (k11 : PySem.W.keepIn K (.ref a11) = true)
    (n12 : PySem.W.findIn K (.ref B0) "is_taken" = some (some (.ref a12))) (i12 : PySem.W.isFn K (.ref a12) = true) (l12 : K.lookup a12 = some ⟨oc12, od12, .func (PySem.W.fnOf "is_taken" "Holes.is_taken" (defArgs s12) (defBody s12) (defScope s12) .none kV12 dc12 pm12 an12 cd12 ct12), sl12⟩) (c12 : PySem.W.codeIn K cd12 "Holes.is_taken" = true) (k12 : PySem.W.keepIn K (.ref a12) = true)
    (n13 : PySem.W.findIn K (.ref B0) "give" = some (some (.ref a13))) (i13 : PySem.W.isFn K (.ref a13) = true) (l13 : K.lookup a13 = some ⟨oc13, od13, .func (PySem.W.fnOf "give" "Holes.give" (defArgs s13) (defBody s13) (defScope s13) .none kV13 dc13 pm13 an13 cd13 ct13), sl13⟩) (c13 : PySem.W.codeIn K cd13 "Holes.give" = true) (k13 : PySem.W.keepIn K (.ref a13) = true)
    (n14 : PySem.W.nsIn K mainGlobals "_law_cell_at" = some (some (.ref a14))) (l14 : K.lookup a14 = some ⟨oc14, od14, .func (PySem.W.fnOf "_law_cell_at" "_law_cell_at" (defArgs s14) (defBody s14) (defScope s14) .none kV14 dc14 pm14 an14 cd14 ct14), sl14⟩) (c14 : PySem.W.codeIn K cd14 "_law_cell_at" = true) (k14 : PySem.W.keepIn K (.ref a14) = true)
    (n15 : PySem.W.nsIn K mainGlobals "_law_box" = some (some (.ref a15))) (l15 : K.lookup a15 = some ⟨oc15, od15, .func (PySem.W.fnOf "_law_box" "_law_box" (defArgs s15) (defBody s15) (defScope s15) .none kV15 dc15 pm15 an15 cd15 ct15), sl15⟩) (c15 : PySem.W.codeIn K cd15 "_law_box" = true) (k15 : PySem.W.keepIn K (.ref a15) = true)
    (n16 : PySem.W.nsIn K mainGlobals "_law_take" = some (some (.ref a16))) (l16 : K.lookup a16 = some ⟨oc16, od16, .func (PySem.W.fnOf "_law_take" "_law_take" (defArgs s16) (defBody s16) (defScope s16) .none kV16 dc16 pm16 an16 cd16 ct16), sl16⟩) (c16 : PySem.W.codeIn K cd16 "_law_take" = true) (k16 : PySem.W.keepIn K (.ref a16) = true)
    (n17 : PySem.W.nsIn K mainGlobals "_law_holes" = some (some (.ref a17))) (l17 : K.lookup a17 = some ⟨oc17, od17, .func (PySem.W.fnOf "_law_holes" "_law_holes" (defArgs s17) (defBody s17) (defScope s17) .none kV17 dc17 pm17 an17 cd17 ct17), sl17⟩) (c17 : PySem.W.codeIn K cd17 "_law_holes" = true) (k17 : PySem.W.keepIn K (.ref a17) = true)
    (n18 : PySem.W.nsIn K mainGlobals "_law_runs" = some (some (.ref a18))) (l18 : K.lookup a18 = some ⟨oc18, od18, .func (PySem.W.fnOf "_law_runs" "_law_runs" (defArgs s18) (defBody s18) (defScope s18) .none kV18 dc18 pm18 an18 cd18 ct18), sl18⟩) (c18 : PySem.W.codeIn K cd18 "_law_runs" = true) (k18 : PySem.W.keepIn K (.ref a18) = true)
    (n19 : PySem.W.nsIn K mainGlobals "_law_part" = some (some (.ref a19))) (l19 : K.lookup a19 = some ⟨oc19, od19, .func (PySem.W.fnOf "_law_part" "_law_part" (defArgs s19) (defBody s19) (defScope s19) .none kV19 dc19 pm19 an19 cd19 ct19), sl19⟩) (c19 : PySem.W.codeIn K cd19 "_law_part" = true) (k19 : PySem.W.keepIn K (.ref a19) = true)
    (n20 : PySem.W.nsIn K mainGlobals "_law_whole" = some (some (.ref a20))) (l20 : K.lookup a20 = some ⟨oc20, od20, .func (PySem.W.fnOf "_law_whole" "_law_whole" (defArgs s20) (defBody s20) (defScope s20) .none kV20 dc20 pm20 an20 cd20 ct20), sl20⟩) (c20 : PySem.W.codeIn K cd20 "_law_whole" = true) (k20 : PySem.W.keepIn K (.ref a20) = true)
    (n21 : PySem.W.nsIn K mainGlobals "_law_hole_of" = some (some (.ref a21))) (l21 : K.lookup a21 = some ⟨oc21, od21, .func (PySem.W.fnOf "_law_hole_of" "_law_hole_of" (defArgs s21) (defBody s21) (defScope s21) .none kV21 dc21 pm21 an21 cd21 ct21), sl21⟩) (c21 : PySem.W.codeIn K cd21 "_law_hole_of" = true) (k21 : PySem.W.keepIn K (.ref a21) = true)
    (n22 : PySem.W.nsIn K mainGlobals "_law_right" = some (some (.ref a22))) (l22 : K.lookup a22 = some ⟨oc22, od22, .func (PySem.W.fnOf "_law_right" "_law_right" (defArgs s22) (defBody s22) (defScope s22) .none kV22 dc22 pm22 an22 cd22 ct22), sl22⟩) (c22 : PySem.W.codeIn K cd22 "_law_right" = true) (k22 : PySem.W.keepIn K (.ref a22) = true)
    (n23 : PySem.W.nsIn K mainGlobals "law" = some (some (.ref a23))) (l23 : K.lookup a23 = some ⟨oc23, od23, .func (PySem.W.fnOf "law" "law" (defArgs s23) (defBody s23) (defScope s23) .none kV23 dc23 pm23 an23 cd23 ct23), sl23⟩) (c23 : PySem.W.codeIn K cd23 "law" = true) (k23 : PySem.W.keepIn K (.ref a23) = true)
    (z_bool : PySem.W.nsIn K mainGlobals "bool" = some none)
    (z_enumerate : PySem.W.nsIn K mainGlobals "enumerate" = some none)
    (z_int : PySem.W.nsIn K mainGlobals "int" = some none)
    (z_isinstance : PySem.W.nsIn K mainGlobals "isinstance" = some none)
    (z_len : PySem.W.nsIn K mainGlobals "len" = some none)
    (z_list : PySem.W.nsIn K mainGlobals "list" = some none)
    (z_max : PySem.W.nsIn K mainGlobals "max" = some none)
    (z_min : PySem.W.nsIn K mainGlobals "min" = some none)
    (z_range : PySem.W.nsIn K mainGlobals "range" = some none)
    (z_sum : PySem.W.nsIn K mainGlobals "sum" = some none)
    (z_tuple : PySem.W.nsIn K mainGlobals "tuple" = some none)
    (nB0 : PySem.W.nsIn K mainGlobals "Holes" = some (some (.ref B0))) (pg0 : PySem.W.plainGet K B0 Str.empty = true) (hd0 : PySem.W.hasDictIn K B0 = true) (po0 : PySem.W.plainOver K B0 = true) (sa0 : PySem.W.findIn K (.ref B0) "__setattr__" = some (some (.builtin "object.__setattr__"))) (mk0 : PySem.W.makesIn K B0 = true) (kB0 : PySem.W.keepIn K (.ref B0) = true)
    (na0_width : PySem.W.findIn K (.ref B0) "width" = some none)
    (na0_rows : PySem.W.findIn K (.ref B0) "rows" = some none)
    (g_LEAST_CELLS : PySem.W.nsIn K mainGlobals "LEAST_CELLS" = some (some u_LEAST_CELLS)) (r_LEAST_CELLS : RelV (V.int 16) u_LEAST_CELLS)
    (g_MOST_CELLS : PySem.W.nsIn K mainGlobals "MOST_CELLS" = some (some u_MOST_CELLS)) (r_MOST_CELLS : RelV (V.int 240) u_MOST_CELLS)
    : ∃ fd : FuncData, (∀ (s : Shared) (v : Value), BindsTo s fd ⟨[v], []⟩ [("_law_script", v)]) ∧ ∀ base : Heap, K.In base → base.Ns mainGlobals mg → FnOk l.prog w K mg base (L2.CX l.prog w) (2 * 20) fa fd ["_law_script"] (fun vs H Q E => ∀ B0 : Addr, spF ⟨K, obs B0⟩ (callF T 20) 23 vs H Q E) := by
  have e := hfa.symm.trans (PySem.W.mg_of X G n23)
  cases e
  have F0 := fun_mk (st := s0) l0 c0 k0
  have b0 := F0.binds (ps := ["thing"]) fun _ _ _ _ _ _ us hl => match us, hl with | [_], _ => rfl
  have F1 := fun_mk (st := s1) l1 c1 k1
  have b1 := F1.binds (ps := ["thing", "low", "high"]) fun _ _ _ _ _ _ us hl => match us, hl with | [_, _, _], _ => rfl
  have F2 := fun_mk (st := s2) l2 c2 k2
  have b2 := F2.binds (ps := ["thing"]) fun _ _ _ _ _ _ us hl => match us, hl with | [_], _ => rfl
  have F3 := fun_mk (st := s3) l3 c3 k3
  have b3 := F3.binds (ps := ["thing"]) fun _ _ _ _ _ _ us hl => match us, hl with | [_], _ => rfl
  have F4 := fun_mk (st := s4) l4 c4 k4
  have b4 := F4.binds (ps := ["self", "many"]) fun _ _ _ _ _ _ us hl => match us, hl with | [_, _], _ => rfl
  have F5 := fun_mk (st := s5) l5 c5 k5
  have b5 := F5.binds (ps := ["self"]) fun _ _ _ _ _ _ us hl => match us, hl with | [_], _ => rfl
  have F6 := fun_mk (st := s6) l6 c6 k6
  have b6 := F6.binds (ps := ["self"]) fun _ _ _ _ _ _ us hl => match us, hl with | [_], _ => rfl
  have F7 := fun_mk (st := s7) l7 c7 k7
  have b7 := F7.binds (ps := ["self"]) fun _ _ _ _ _ _ us hl => match us, hl with | [_], _ => rfl
  have F8 := fun_mk (st := s8) l8 c8 k8
  have b8 := F8.binds (ps := ["self", "cell"]) fun _ _ _ _ _ _ us hl => match us, hl with | [_, _], _ => rfl
  have F9 := fun_mk (st := s9) l9 c9 k9
  have b9 := F9.binds (ps := ["self", "start", "size"]) fun _ _ _ _ _ _ us hl => match us, hl with | [_, _, _], _ => rfl
  have F10 := fun_mk (st := s10) l10 c10 k10
  have b10 := F10.binds (ps := ["self", "cell"]) fun _ _ _ _ _ _ us hl => match us, hl with | [_, _], _ => rfl
  have F11 := fun_mk (st := s11) l11 c11 k11
  have b11 := F11.binds (ps := ["self", "start", "size"]) fun _ _ _ _ _ _ us hl => match us, hl with | [_, _, _], _ => rfl
  have F12 := fun_mk (st := s12) l12 c12 k12
  have b12 := F12.binds (ps := ["self", "start", "size"]) fun _ _ _ _ _ _ us hl => match us, hl with | [_, _, _], _ => rfl
  have F13 := fun_mk (st := s13) l13 c13 k13
  have b13 := F13.binds (ps := ["self", "start", "size"]) fun _ _ _ _ _ _ us hl => match us, hl with | [_, _, _], _ => rfl
  have F14 := fun_mk (st := s14) l14 c14 k14
  have b14 := F14.binds (ps := ["_law_script", "_law_k"]) fun _ _ _ _ _ _ us hl => match us, hl with | [_, _], _ => rfl
  have F15 := fun_mk (st := s15) l15 c15 k15
  have b15 := F15.binds (ps := ["_law_cell"]) fun _ _ _ _ _ _ us hl => match us, hl with | [_], _ => rfl
  have F16 := fun_mk (st := s16) l16 c16 k16
  have b16 := F16.binds (ps := ["_law_box_here", "_law_many"]) fun _ _ _ _ _ _ us hl => match us, hl with | [_, _], _ => rfl
  have F17 := fun_mk (st := s17) l17 c17 k17
  have b17 := F17.binds (ps := ["_law_free"]) fun _ _ _ _ _ _ us hl => match us, hl with | [_], _ => rfl
  have F18 := fun_mk (st := s18) l18 c18 k18
  have b18 := F18.binds (ps := ["_law_free"]) fun _ _ _ _ _ _ us hl => match us, hl with | [_], _ => rfl
  have F19 := fun_mk (st := s19) l19 c19 k19
  have b19 := F19.binds (ps := ["_law_box_here", "_law_run"]) fun _ _ _ _ _ _ us hl => match us, hl with | [_, _], _ => rfl
  have F20 := fun_mk (st := s20) l20 c20 k20
  have b20 := F20.binds (ps := ["_law_found", "_law_due"]) fun _ _ _ _ _ _ us hl => match us, hl with | [_, _], _ => rfl
  have F21 := fun_mk (st := s21) l21 c21 k21
  have b21 := F21.binds (ps := ["_law_holes_here", "_law_cell"]) fun _ _ _ _ _ _ us hl => match us, hl with | [_, _], _ => rfl
  have F22 := fun_mk (st := s22) l22 c22 k22
  have b22 := F22.binds (ps := ["_law_box_here", "_law_book", "_law_free"]) fun _ _ _ _ _ _ us hl => match us, hl with | [_, _, _], _ => rfl
  have F23 := fun_mk (st := s23) l23 c23 k23
  have b23 := F23.binds (ps := ["_law_script"]) fun _ _ _ _ _ _ us hl => match us, hl with | [_], _ => rfl
  exact ⟨_, fun s v => .of_eq rfl, fun base _ _ => ((all_ok (C := ⟨K, (obs B0)⟩) rfl rfl ⟨PySem.W.mg_of X G g_LEAST_CELLS, r_LEAST_CELLS, PySem.W.mg_of X G g_MOST_CELLS, r_MOST_CELLS, F0, PySem.W.mg_of X G n0, k0, b0, F1, PySem.W.mg_of X G n1, k1, b1, F2, PySem.W.mg_of X G n2, k2, b2, F3, PySem.W.mg_of X G n3, k3, b3, F4, k4, b4, F5, k5, b5, F6, k6, b6, F7, k7, b7, F8, k8, b8, F9, k9, b9, F10, k10, b10, F11, k11, b11, F12, k12, b12, F13, k13, b13, F14, PySem.W.mg_of X G n14, k14, b14, F15, PySem.W.mg_of X G n15, k15, b15, F16, PySem.W.mg_of X G n16, k16, b16, F17, PySem.W.mg_of X G n17, k17, b17, F18, PySem.W.mg_of X G n18, k18, b18, F19, PySem.W.mg_of X G n19, k19, b19, F20, PySem.W.mg_of X G n20, k20, b20, F21, PySem.W.mg_of X G n21, k21, b21, F22, PySem.W.mg_of X G n22, k22, b22, F23, PySem.W.mg_of X G n23, k23, b23, PySem.W.mg_none_of X G z_bool, PySem.W.mg_none_of X G z_enumerate, PySem.W.mg_none_of X G z_int, PySem.W.mg_none_of X G z_isinstance, PySem.W.mg_none_of X G z_len, PySem.W.mg_none_of X G z_list, PySem.W.mg_none_of X G z_max, PySem.W.mg_none_of X G z_min, PySem.W.mg_none_of X G z_range, PySem.W.mg_none_of X G z_sum, PySem.W.mg_none_of X G z_tuple, PySem.W.mg_of X G nB0, ⟨pg0, hd0, po0, sa0⟩, ⟨mk0, n4, i4, kB0⟩, na0_width, na0_rows, ⟨n5, i5, k5⟩, ⟨n6, i6, k6⟩, ⟨n7, i7, k7⟩, ⟨n8, i8, k8⟩, ⟨n9, i9, k9⟩, ⟨n10, i10, k10⟩, ⟨n11, i11, k11⟩, ⟨n12, i12, k12⟩, ⟨n13, i13, k13⟩⟩ 20).2.2.2.2.2.2.2.2.2.2.2.2.2.2.2.2.2.2.2.2.2.2.2).imp fun _ _ _ _ h => h B0⟩
end Kx
namespace Kx
open PySem PySem.Spec PyProof.Rows L2 Sr
theorem cell_at (k : Nat) (ns : List Int) (i : Nat) (S : List Cell) : ∃ v, callF T (k + 1) 14 [(.val, .scr (ns.map D.int)), (.val, .int i)] S = .ok (.val, .int v) S := by
  by_cases h : (i : Int) < (ns.length : Nat)
  · have hi : i < ns.length := by omega
    have e : atI (ns.map D.int) (i : Int) = some (.int ns[i]) := atI_nat (by rw [List.getElem?_map, List.getElem?_eq_getElem hi]; rfl)
    refine ⟨ns[i], ?_⟩
    rw [callF_succ]; simp (implicitDefEqProofs := false) only [Int.cast_ofNat_Int, T, List.length_cons, List.length_nil, List.map_cons, List.map_nil, List.replicate, List.cons_append, List.nil_append, evSs, evS, evE, evL, evA, evP, itE, Out.bind, Out.then, OutL.bind, asgP, putS, onB, onS, lift, binR, addR, mulR, binD, cmpD, lstOf, lsqOf, seqOf, lenD, biV, on1, on2, Sr.intD, int2D, vI, vB, ixD, valO, argO, toVal, back1, orS, intV, celL, putC, putO, ownL, endF, tyD, srcM, srcO, walkOf, keyD, augD, Sr.part, pOk, bindP, bindPs, Option.map, List.getElem?_cons_zero, List.getElem?_cons_succ, List.set, List.length_set, ite_true, ite_false, reduceIte, Nat.reduceAdd, Nat.reduceSub, Nat.reduceLT, Nat.reduceEqDiff, Bool.false_eq_true, Bool.not_true, Bool.not_false, decide_true, decide_false, eqD_int, beq_iff_eq, beq_self_eq_true, Bool.not_eq_true', beq_eq_false_iff_ne, ne_eq, not_true_eq_false, not_false_eq_true, compO, compKO, vsOk, wipeD, back, List.all_cons, List.all_nil, List.foldl_cons, List.foldl_nil, Bool.and_true, Bool.true_and, Bool.and_self, Option.getD_some, Option.getD_none, decide_eq_true_eq, List.length_map, atI_0, atI_1, atI_2, lim0, lim1, lim2, lim3, lim4, lim5, lim6, lim7, lim8, lim9, lim10, lim11, lim12, set_last, get_last, eqD_pair, slV, rngL, and_self, true_and, and_true, isa_NoneType_bool, isa_NoneType_int, isa_NoneType_str, isa_NoneType_tuple, isa_NoneType_list, isa_NoneType_dict, isa_bool_bool, isa_bool_int, isa_bool_str, isa_bool_tuple, isa_bool_list, isa_bool_dict, isa_int_bool, isa_int_int, isa_int_str, isa_int_tuple, isa_int_list, isa_int_dict, isa_str_bool, isa_str_int, isa_str_str, isa_str_tuple, isa_str_list, isa_str_dict, isa_tuple_bool, isa_tuple_int, isa_tuple_str, isa_tuple_tuple, isa_tuple_list, isa_tuple_dict, isa_list_bool, isa_list_int, isa_list_str, isa_list_tuple, isa_list_list, isa_list_dict, isa_dict_bool, isa_dict_int, isa_dict_str, isa_dict_tuple, isa_dict_list, isa_dict_dict, ixN_30, ixN_31, ixN_32, b14, h, e]
  · refine ⟨7919 * i + 13, ?_⟩
    rw [callF_succ]; simp (implicitDefEqProofs := false) only [Int.cast_ofNat_Int, T, List.length_cons, List.length_nil, List.map_cons, List.map_nil, List.replicate, List.cons_append, List.nil_append, evSs, evS, evE, evL, evA, evP, itE, Out.bind, Out.then, OutL.bind, asgP, putS, onB, onS, lift, binR, addR, mulR, binD, cmpD, lstOf, lsqOf, seqOf, lenD, biV, on1, on2, Sr.intD, int2D, vI, vB, ixD, valO, argO, toVal, back1, orS, intV, celL, putC, putO, ownL, endF, tyD, srcM, srcO, walkOf, keyD, augD, Sr.part, pOk, bindP, bindPs, Option.map, List.getElem?_cons_zero, List.getElem?_cons_succ, List.set, List.length_set, ite_true, ite_false, reduceIte, Nat.reduceAdd, Nat.reduceSub, Nat.reduceLT, Nat.reduceEqDiff, Bool.false_eq_true, Bool.not_true, Bool.not_false, decide_true, decide_false, eqD_int, beq_iff_eq, beq_self_eq_true, Bool.not_eq_true', beq_eq_false_iff_ne, ne_eq, not_true_eq_false, not_false_eq_true, compO, compKO, vsOk, wipeD, back, List.all_cons, List.all_nil, List.foldl_cons, List.foldl_nil, Bool.and_true, Bool.true_and, Bool.and_self, Option.getD_some, Option.getD_none, decide_eq_true_eq, List.length_map, atI_0, atI_1, atI_2, lim0, lim1, lim2, lim3, lim4, lim5, lim6, lim7, lim8, lim9, lim10, lim11, lim12, set_last, get_last, eqD_pair, slV, rngL, and_self, true_and, and_true, isa_NoneType_bool, isa_NoneType_int, isa_NoneType_str, isa_NoneType_tuple, isa_NoneType_list, isa_NoneType_dict, isa_bool_bool, isa_bool_int, isa_bool_str, isa_bool_tuple, isa_bool_list, isa_bool_dict, isa_int_bool, isa_int_int, isa_int_str, isa_int_tuple, isa_int_list, isa_int_dict, isa_str_bool, isa_str_int, isa_str_str, isa_str_tuple, isa_str_list, isa_str_dict, isa_tuple_bool, isa_tuple_int, isa_tuple_str, isa_tuple_tuple, isa_tuple_list, isa_tuple_dict, isa_list_bool, isa_list_int, isa_list_str, isa_list_tuple, isa_list_list, isa_list_dict, isa_dict_bool, isa_dict_int, isa_dict_str, isa_dict_tuple, isa_dict_list, isa_dict_dict, ixN_30, ixN_31, ixN_32, b14, h, mulOk_l (i := 7919) (by decide) (by decide)]
theorem p18 : (10 : Int) ^ (18 : Int).toNat = 1000000000000000000 := by decide
/-- a box: three numbers -/
abbrev Qx := Int × Int × Int
def bx (q : Qx) : Cell := .lst [.int q.1, .int q.2.1, .int q.2.2]
def bxD (q : Qx) : List D := [.int q.1, .int q.2.1, .int q.2.2]
/-- the store S with the box at b as it stands -/
def st (S : List Cell) (b : Nat) (q : Qx) : List Cell := S.set b (bx q)
theorem st_len (S : List Cell) (b : Nat) (q : Qx) : (st S b q).length = S.length := List.length_set
theorem st_get {S : List Cell} {b : Nat} (hb : b < S.length) (q : Qx) : (st S b q)[b]? = some (.lst [.int q.1, .int q.2.1, .int q.2.2]) := List.getElem?_set_self hb
theorem st_ne {S : List Cell} {b n : Nat} (h : n ≠ b) (q : Qx) : (st S b q)[n]? = S[n]? := List.getElem?_set_ne (Ne.symm h)
theorem st_set {S : List Cell} {b : Nat} (q : Qx) (x y z : Int) : (st S b q).set b (.lst [.int x, .int y, .int z]) = st S b (x, y, z) := List.set_set ..
theorem st_app {S R : List Cell} {b : Nat} (hb : b < S.length) (q : Qx) : st S b q ++ R = st (S ++ R) b q := by
  unfold st
  rw [List.set_append_left _ _ hb]
theorem st_last (S : List Cell) (q : Qx) : S ++ [.lst [.int q.1, .int q.2.1, .int q.2.2]] = st (S ++ [bx q]) S.length q := by
  unfold st
  rw [set_last]
  rfl
theorem box (k : Nat) (c : Int) (S : List Cell) : ∃ q : Qx, callF T (k + 1) 15 [(.val, .int c)] S = .ok (.own, .lst [.int q.1, .int q.2.1, .int q.2.2]) S := by
  have hp : PowOk 10 18 := powOk (by decide) (by decide) (by decide)
  have hm : (0 : Int) < 2147483629 := by decide
  by_cases hc : (1000000000000000000 : Int) ≤ c
  · refine ⟨(c, c % 2147483629, 0), ?_⟩
    rw [callF_succ]; simp (implicitDefEqProofs := false) only [Int.cast_ofNat_Int, T, List.length_cons, List.length_nil, List.map_cons, List.map_nil, List.replicate, List.cons_append, List.nil_append, evSs, evS, evE, evL, evA, evP, itE, Out.bind, Out.then, OutL.bind, asgP, putS, onB, onS, lift, binR, addR, mulR, binD, cmpD, lstOf, lsqOf, seqOf, lenD, biV, on1, on2, Sr.intD, int2D, vI, vB, ixD, valO, argO, toVal, back1, orS, intV, celL, putC, putO, ownL, endF, tyD, srcM, srcO, walkOf, keyD, augD, Sr.part, pOk, bindP, bindPs, Option.map, List.getElem?_cons_zero, List.getElem?_cons_succ, List.set, List.length_set, ite_true, ite_false, reduceIte, Nat.reduceAdd, Nat.reduceSub, Nat.reduceLT, Nat.reduceEqDiff, Bool.false_eq_true, Bool.not_true, Bool.not_false, decide_true, decide_false, eqD_int, beq_iff_eq, beq_self_eq_true, Bool.not_eq_true', beq_eq_false_iff_ne, ne_eq, not_true_eq_false, not_false_eq_true, compO, compKO, vsOk, wipeD, back, List.all_cons, List.all_nil, List.foldl_cons, List.foldl_nil, Bool.and_true, Bool.true_and, Bool.and_self, Option.getD_some, Option.getD_none, decide_eq_true_eq, List.length_map, atI_0, atI_1, atI_2, lim0, lim1, lim2, lim3, lim4, lim5, lim6, lim7, lim8, lim9, lim10, lim11, lim12, set_last, get_last, eqD_pair, slV, rngL, and_self, true_and, and_true, isa_NoneType_bool, isa_NoneType_int, isa_NoneType_str, isa_NoneType_tuple, isa_NoneType_list, isa_NoneType_dict, isa_bool_bool, isa_bool_int, isa_bool_str, isa_bool_tuple, isa_bool_list, isa_bool_dict, isa_int_bool, isa_int_int, isa_int_str, isa_int_tuple, isa_int_list, isa_int_dict, isa_str_bool, isa_str_int, isa_str_str, isa_str_tuple, isa_str_list, isa_str_dict, isa_tuple_bool, isa_tuple_int, isa_tuple_str, isa_tuple_tuple, isa_tuple_list, isa_tuple_dict, isa_list_bool, isa_list_int, isa_list_str, isa_list_tuple, isa_list_list, isa_list_dict, isa_dict_bool, isa_dict_int, isa_dict_str, isa_dict_tuple, isa_dict_list, isa_dict_dict, ixN_30, ixN_31, ixN_32, b15, hp, p18, hc, hm]
  · refine ⟨(0, c % 2147483629, 0), ?_⟩
    rw [callF_succ]; simp (implicitDefEqProofs := false) only [Int.cast_ofNat_Int, T, List.length_cons, List.length_nil, List.map_cons, List.map_nil, List.replicate, List.cons_append, List.nil_append, evSs, evS, evE, evL, evA, evP, itE, Out.bind, Out.then, OutL.bind, asgP, putS, onB, onS, lift, binR, addR, mulR, binD, cmpD, lstOf, lsqOf, seqOf, lenD, biV, on1, on2, Sr.intD, int2D, vI, vB, ixD, valO, argO, toVal, back1, orS, intV, celL, putC, putO, ownL, endF, tyD, srcM, srcO, walkOf, keyD, augD, Sr.part, pOk, bindP, bindPs, Option.map, List.getElem?_cons_zero, List.getElem?_cons_succ, List.set, List.length_set, ite_true, ite_false, reduceIte, Nat.reduceAdd, Nat.reduceSub, Nat.reduceLT, Nat.reduceEqDiff, Bool.false_eq_true, Bool.not_true, Bool.not_false, decide_true, decide_false, eqD_int, beq_iff_eq, beq_self_eq_true, Bool.not_eq_true', beq_eq_false_iff_ne, ne_eq, not_true_eq_false, not_false_eq_true, compO, compKO, vsOk, wipeD, back, List.all_cons, List.all_nil, List.foldl_cons, List.foldl_nil, Bool.and_true, Bool.true_and, Bool.and_self, Option.getD_some, Option.getD_none, decide_eq_true_eq, List.length_map, atI_0, atI_1, atI_2, lim0, lim1, lim2, lim3, lim4, lim5, lim6, lim7, lim8, lim9, lim10, lim11, lim12, set_last, get_last, eqD_pair, slV, rngL, and_self, true_and, and_true, isa_NoneType_bool, isa_NoneType_int, isa_NoneType_str, isa_NoneType_tuple, isa_NoneType_list, isa_NoneType_dict, isa_bool_bool, isa_bool_int, isa_bool_str, isa_bool_tuple, isa_bool_list, isa_bool_dict, isa_int_bool, isa_int_int, isa_int_str, isa_int_tuple, isa_int_list, isa_int_dict, isa_str_bool, isa_str_int, isa_str_str, isa_str_tuple, isa_str_list, isa_str_dict, isa_tuple_bool, isa_tuple_int, isa_tuple_str, isa_tuple_tuple, isa_tuple_list, isa_tuple_dict, isa_list_bool, isa_list_int, isa_list_str, isa_list_tuple, isa_list_list, isa_list_dict, isa_dict_bool, isa_dict_int, isa_dict_str, isa_dict_tuple, isa_dict_list, isa_dict_dict, ixN_30, ixN_31, ixN_32, b15, hp, p18, hc, hm]
theorem takeI (k b : Nat) (many : Int) (S : List Cell) (hb : b < S.length) (q : Qx) (hm : 0 < many) (hm2 : many < 2 ^ 64) :
    ∃ r q', callF T (k + 1) 16 [(.val, .ref b), (.val, .int many)] (st S b q) = .ok (.val, .int r) (st S b q') ∧ 0 ≤ r ∧ r < many := by
  obtain ⟨x, y, z⟩ := q
  have hd : DivOk many := divOk hm hm2
  have g1 : ∀ q : Qx, (st S b q)[b]? = some (.lst [.int q.1, .int q.2.1, .int q.2.2]) := st_get hb
  have g2 : ∀ (q : Qx) (x y z : Int), (st S b q).set b (.lst [.int x, .int y, .int z]) = st S b (x, y, z) := fun q => st_set q
  by_cases h : 0 < x
  · refine ⟨x % many, (x / many, y, z), ?_, Int.emod_nonneg _ (by omega), Int.emod_lt_of_pos _ hm⟩
    rw [callF_succ]; simp (implicitDefEqProofs := false) only [Int.cast_ofNat_Int, T, List.length_cons, List.length_nil, List.map_cons, List.map_nil, List.replicate, List.cons_append, List.nil_append, evSs, evS, evE, evL, evA, evP, itE, Out.bind, Out.then, OutL.bind, asgP, putS, onB, onS, lift, binR, addR, mulR, binD, cmpD, lstOf, lsqOf, seqOf, lenD, biV, on1, on2, Sr.intD, int2D, vI, vB, ixD, valO, argO, toVal, back1, orS, intV, celL, putC, putO, ownL, endF, tyD, srcM, srcO, walkOf, keyD, augD, Sr.part, pOk, bindP, bindPs, Option.map, List.getElem?_cons_zero, List.getElem?_cons_succ, List.set, List.length_set, ite_true, ite_false, reduceIte, Nat.reduceAdd, Nat.reduceSub, Nat.reduceLT, Nat.reduceEqDiff, Bool.false_eq_true, Bool.not_true, Bool.not_false, decide_true, decide_false, eqD_int, beq_iff_eq, beq_self_eq_true, Bool.not_eq_true', beq_eq_false_iff_ne, ne_eq, not_true_eq_false, not_false_eq_true, compO, compKO, vsOk, wipeD, back, List.all_cons, List.all_nil, List.foldl_cons, List.foldl_nil, Bool.and_true, Bool.true_and, Bool.and_self, Option.getD_some, Option.getD_none, decide_eq_true_eq, List.length_map, atI_0, atI_1, atI_2, lim0, lim1, lim2, lim3, lim4, lim5, lim6, lim7, lim8, lim9, lim10, lim11, lim12, set_last, get_last, eqD_pair, slV, rngL, and_self, true_and, and_true, isa_NoneType_bool, isa_NoneType_int, isa_NoneType_str, isa_NoneType_tuple, isa_NoneType_list, isa_NoneType_dict, isa_bool_bool, isa_bool_int, isa_bool_str, isa_bool_tuple, isa_bool_list, isa_bool_dict, isa_int_bool, isa_int_int, isa_int_str, isa_int_tuple, isa_int_list, isa_int_dict, isa_str_bool, isa_str_int, isa_str_str, isa_str_tuple, isa_str_list, isa_str_dict, isa_tuple_bool, isa_tuple_int, isa_tuple_str, isa_tuple_tuple, isa_tuple_list, isa_tuple_dict, isa_list_bool, isa_list_int, isa_list_str, isa_list_tuple, isa_list_list, isa_list_dict, isa_dict_bool, isa_dict_int, isa_dict_str, isa_dict_tuple, isa_dict_list, isa_dict_dict, ixN_30, ixN_31, ixN_32, b16, g1, g2, h, hm, hd]
  · have f1 : ∀ x : Int, Sr.MulOk 7919 x := mulOk_l (by decide) (by decide)
    have f5 : ∀ x : Int, Sr.MulOk 104729 x := mulOk_l (by decide) (by decide)
    have f2 : ∀ x : Int, Sr.MulOk x 48271 := mulOk_r (by decide) (by decide)
    have f3 : ∀ x y : Int, Sr.MulOk x (y % 2147483647) := fun x y => by
      have := mulOk_mod 2147483647 (by decide) (by decide) x y 0 (by decide) (by decide)
      rwa [Int.add_zero] at this
    have f4 : ∀ x y : Int, Sr.MulOk x (y % 2147483629) := fun x y => by
      have := mulOk_mod 2147483629 (by decide) (by decide) x y 0 (by decide) (by decide)
      rwa [Int.add_zero] at this
    have g : ∃ w : Int, callF T (k + 1) 16 [(.val, .ref b), (.val, .int many)] (st S b (x, y, z)) = .ok (.val, .int (w % many)) (st S b (x, y, z + 1)) := by
      apply Exists.intro
      rw [callF_succ]; simp (implicitDefEqProofs := false) only [Int.cast_ofNat_Int, T, List.length_cons, List.length_nil, List.map_cons, List.map_nil, List.replicate, List.cons_append, List.nil_append, evSs, evS, evE, evL, evA, evP, itE, Out.bind, Out.then, OutL.bind, asgP, putS, onB, onS, lift, binR, addR, mulR, binD, cmpD, lstOf, lsqOf, seqOf, lenD, biV, on1, on2, Sr.intD, int2D, vI, vB, ixD, valO, argO, toVal, back1, orS, intV, celL, putC, putO, ownL, endF, tyD, srcM, srcO, walkOf, keyD, augD, Sr.part, pOk, bindP, bindPs, Option.map, List.getElem?_cons_zero, List.getElem?_cons_succ, List.set, List.length_set, ite_true, ite_false, reduceIte, Nat.reduceAdd, Nat.reduceSub, Nat.reduceLT, Nat.reduceEqDiff, Bool.false_eq_true, Bool.not_true, Bool.not_false, decide_true, decide_false, eqD_int, beq_iff_eq, beq_self_eq_true, Bool.not_eq_true', beq_eq_false_iff_ne, ne_eq, not_true_eq_false, not_false_eq_true, compO, compKO, vsOk, wipeD, back, List.all_cons, List.all_nil, List.foldl_cons, List.foldl_nil, Bool.and_true, Bool.true_and, Bool.and_self, Option.getD_some, Option.getD_none, decide_eq_true_eq, List.length_map, atI_0, atI_1, atI_2, lim0, lim1, lim2, lim3, lim4, lim5, lim6, lim7, lim8, lim9, lim10, lim11, lim12, set_last, get_last, eqD_pair, slV, rngL, and_self, true_and, and_true, isa_NoneType_bool, isa_NoneType_int, isa_NoneType_str, isa_NoneType_tuple, isa_NoneType_list, isa_NoneType_dict, isa_bool_bool, isa_bool_int, isa_bool_str, isa_bool_tuple, isa_bool_list, isa_bool_dict, isa_int_bool, isa_int_int, isa_int_str, isa_int_tuple, isa_int_list, isa_int_dict, isa_str_bool, isa_str_int, isa_str_str, isa_str_tuple, isa_str_list, isa_str_dict, isa_tuple_bool, isa_tuple_int, isa_tuple_str, isa_tuple_tuple, isa_tuple_list, isa_tuple_dict, isa_list_bool, isa_list_int, isa_list_str, isa_list_tuple, isa_list_list, isa_list_dict, isa_dict_bool, isa_dict_int, isa_dict_str, isa_dict_tuple, isa_dict_list, isa_dict_dict, ixN_30, ixN_31, ixN_32, b16, g1, g2, h, hm, f1, f2, f3, f4, f5, show (0 : Int) < 2147483647 by decide, show (0 : Int) < 2147483629 by decide, show (0 : Int) < 2147483587 by decide]
      rfl
    obtain ⟨w, g⟩ := g
    exact ⟨w % many, _, g, Int.emod_nonneg _ (by omega), Int.emod_lt_of_pos _ hm⟩
theorem takeN (k b : Nat) (many : Int) (S : List Cell) (hb : b < S.length) (q : Qx) (hm : 0 < many) (hm2 : many < 2 ^ 64) :
    ∃ (r : Nat) (q' : Qx), callF T (k + 1) 16 [(.val, .ref b), (.val, .int many)] (st S b q) = .ok (.val, .int (r : Int)) (st S b q') ∧ (r : Int) < many := by
  obtain ⟨r, q', e, h1, h2⟩ := takeI k b many S hb q hm hm2
  obtain ⟨m, rfl⟩ := toNat_is h1
  exact ⟨m, q', e, h2⟩
end Kx

namespace Kx
open PySem PySem.Spec PyProof.Rows L2 Sr
/-! ### holes; the words, where no layout is -/
abbrev Hl := Nat × Nat
def hD (h : Hl) : D := .tup [.int (h.1 : Int), .int (h.2 : Int)]
theorem is_whole_i (k : Nat) (i : Int) (S : List Cell) : callF T (k + 1) 0 [(.val, .int i)] S = .ok (.val, .bl true) S := by
  rw [callF_succ]; simp (implicitDefEqProofs := false) only [Int.cast_ofNat_Int, T, List.length_cons, List.length_nil, List.map_cons, List.map_nil, List.replicate, List.cons_append, List.nil_append, evSs, evS, evE, evL, evA, evP, itE, Out.bind, Out.then, OutL.bind, asgP, putS, onB, onS, lift, binR, addR, mulR, binD, cmpD, lstOf, lsqOf, seqOf, lenD, biV, on1, on2, Sr.intD, int2D, vI, vB, ixD, valO, argO, toVal, back1, orS, intV, celL, putC, putO, ownL, endF, tyD, srcM, srcO, walkOf, keyD, augD, Sr.part, pOk, bindP, bindPs, Option.map, List.getElem?_cons_zero, List.getElem?_cons_succ, List.set, List.length_set, ite_true, ite_false, reduceIte, Nat.reduceAdd, Nat.reduceSub, Nat.reduceLT, Nat.reduceEqDiff, Bool.false_eq_true, Bool.not_true, Bool.not_false, decide_true, decide_false, eqD_int, beq_iff_eq, beq_self_eq_true, Bool.not_eq_true', beq_eq_false_iff_ne, ne_eq, not_true_eq_false, not_false_eq_true, compO, compKO, vsOk, wipeD, back, List.all_cons, List.all_nil, List.foldl_cons, List.foldl_nil, Bool.and_true, Bool.true_and, Bool.and_self, Option.getD_some, Option.getD_none, decide_eq_true_eq, List.length_map, atI_0, atI_1, atI_2, lim0, lim1, lim2, lim3, lim4, lim5, lim6, lim7, lim8, lim9, lim10, lim11, lim12, set_last, get_last, eqD_pair, slV, rngL, and_self, true_and, and_true, isa_NoneType_bool, isa_NoneType_int, isa_NoneType_str, isa_NoneType_tuple, isa_NoneType_list, isa_NoneType_dict, isa_bool_bool, isa_bool_int, isa_bool_str, isa_bool_tuple, isa_bool_list, isa_bool_dict, isa_int_bool, isa_int_int, isa_int_str, isa_int_tuple, isa_int_list, isa_int_dict, isa_str_bool, isa_str_int, isa_str_str, isa_str_tuple, isa_str_list, isa_str_dict, isa_tuple_bool, isa_tuple_int, isa_tuple_str, isa_tuple_tuple, isa_tuple_list, isa_tuple_dict, isa_list_bool, isa_list_int, isa_list_str, isa_list_tuple, isa_list_list, isa_list_dict, isa_dict_bool, isa_dict_int, isa_dict_str, isa_dict_tuple, isa_dict_list, isa_dict_dict, ixN_30, ixN_31, ixN_32, b0]
theorem is_within_i (k : Nat) (i a b : Int) (h1 : a ≤ i) (h2 : i ≤ b) (S : List Cell) : callF T (k + 2) 1 [(.val, .int i), (.val, .int a), (.val, .int b)] S = .ok (.val, .bl true) S := by
  rw [callF_succ]; simp (implicitDefEqProofs := false) only [Int.cast_ofNat_Int, T, List.length_cons, List.length_nil, List.map_cons, List.map_nil, List.replicate, List.cons_append, List.nil_append, evSs, evS, evE, evL, evA, evP, itE, Out.bind, Out.then, OutL.bind, asgP, putS, onB, onS, lift, binR, addR, mulR, binD, cmpD, lstOf, lsqOf, seqOf, lenD, biV, on1, on2, Sr.intD, int2D, vI, vB, ixD, valO, argO, toVal, back1, orS, intV, celL, putC, putO, ownL, endF, tyD, srcM, srcO, walkOf, keyD, augD, Sr.part, pOk, bindP, bindPs, Option.map, List.getElem?_cons_zero, List.getElem?_cons_succ, List.set, List.length_set, ite_true, ite_false, reduceIte, Nat.reduceAdd, Nat.reduceSub, Nat.reduceLT, Nat.reduceEqDiff, Bool.false_eq_true, Bool.not_true, Bool.not_false, decide_true, decide_false, eqD_int, beq_iff_eq, beq_self_eq_true, Bool.not_eq_true', beq_eq_false_iff_ne, ne_eq, not_true_eq_false, not_false_eq_true, compO, compKO, vsOk, wipeD, back, List.all_cons, List.all_nil, List.foldl_cons, List.foldl_nil, Bool.and_true, Bool.true_and, Bool.and_self, Option.getD_some, Option.getD_none, decide_eq_true_eq, List.length_map, atI_0, atI_1, atI_2, lim0, lim1, lim2, lim3, lim4, lim5, lim6, lim7, lim8, lim9, lim10, lim11, lim12, set_last, get_last, eqD_pair, slV, rngL, and_self, true_and, and_true, isa_NoneType_bool, isa_NoneType_int, isa_NoneType_str, isa_NoneType_tuple, isa_NoneType_list, isa_NoneType_dict, isa_bool_bool, isa_bool_int, isa_bool_str, isa_bool_tuple, isa_bool_list, isa_bool_dict, isa_int_bool, isa_int_int, isa_int_str, isa_int_tuple, isa_int_list, isa_int_dict, isa_str_bool, isa_str_int, isa_str_str, isa_str_tuple, isa_str_list, isa_str_dict, isa_tuple_bool, isa_tuple_int, isa_tuple_str, isa_tuple_tuple, isa_tuple_list, isa_tuple_dict, isa_list_bool, isa_list_int, isa_list_str, isa_list_tuple, isa_list_list, isa_list_dict, isa_dict_bool, isa_dict_int, isa_dict_str, isa_dict_tuple, isa_dict_list, isa_dict_dict, ixN_30, ixN_31, ixN_32, b1, is_whole_i, h1, h2]
theorem need_many_i (k : Nat) (i : Int) (h1 : 16 ≤ i) (h2 : i ≤ 240) (S : List Cell) : callF T (k + 3) 2 [(.val, .int i)] S = .ok (.val, .int i) S := by
  rw [callF_succ]; simp (implicitDefEqProofs := false) only [Int.cast_ofNat_Int, T, List.length_cons, List.length_nil, List.map_cons, List.map_nil, List.replicate, List.cons_append, List.nil_append, evSs, evS, evE, evL, evA, evP, itE, Out.bind, Out.then, OutL.bind, asgP, putS, onB, onS, lift, binR, addR, mulR, binD, cmpD, lstOf, lsqOf, seqOf, lenD, biV, on1, on2, Sr.intD, int2D, vI, vB, ixD, valO, argO, toVal, back1, orS, intV, celL, putC, putO, ownL, endF, tyD, srcM, srcO, walkOf, keyD, augD, Sr.part, pOk, bindP, bindPs, Option.map, List.getElem?_cons_zero, List.getElem?_cons_succ, List.set, List.length_set, ite_true, ite_false, reduceIte, Nat.reduceAdd, Nat.reduceSub, Nat.reduceLT, Nat.reduceEqDiff, Bool.false_eq_true, Bool.not_true, Bool.not_false, decide_true, decide_false, eqD_int, beq_iff_eq, beq_self_eq_true, Bool.not_eq_true', beq_eq_false_iff_ne, ne_eq, not_true_eq_false, not_false_eq_true, compO, compKO, vsOk, wipeD, back, List.all_cons, List.all_nil, List.foldl_cons, List.foldl_nil, Bool.and_true, Bool.true_and, Bool.and_self, Option.getD_some, Option.getD_none, decide_eq_true_eq, List.length_map, atI_0, atI_1, atI_2, lim0, lim1, lim2, lim3, lim4, lim5, lim6, lim7, lim8, lim9, lim10, lim11, lim12, set_last, get_last, eqD_pair, slV, rngL, and_self, true_and, and_true, isa_NoneType_bool, isa_NoneType_int, isa_NoneType_str, isa_NoneType_tuple, isa_NoneType_list, isa_NoneType_dict, isa_bool_bool, isa_bool_int, isa_bool_str, isa_bool_tuple, isa_bool_list, isa_bool_dict, isa_int_bool, isa_int_int, isa_int_str, isa_int_tuple, isa_int_list, isa_int_dict, isa_str_bool, isa_str_int, isa_str_str, isa_str_tuple, isa_str_list, isa_str_dict, isa_tuple_bool, isa_tuple_int, isa_tuple_str, isa_tuple_tuple, isa_tuple_list, isa_tuple_dict, isa_list_bool, isa_list_int, isa_list_str, isa_list_tuple, isa_list_list, isa_list_dict, isa_dict_bool, isa_dict_int, isa_dict_str, isa_dict_tuple, isa_dict_list, isa_dict_dict, ixN_30, ixN_31, ixN_32, b2, is_within_i, h1, h2]
end Kx

namespace Kx
open PySem PySem.Spec PyProof.Rows L2 Sr
/-! ### holes, in plain terms -/
def SepA : Nat → List Hl → Nat → Prop
  | _, [], _ => True
  | a, h :: t, m => a ≤ h.1 ∧ 1 ≤ h.2 ∧ h.1 + h.2 ≤ m ∧ SepA (h.1 + h.2 + 1) t m
def InH (R : List Hl) (c : Nat) : Prop := ∃ h ∈ R, h.1 ≤ c ∧ c < h.1 + h.2
structure Bk (R : List Hl) (m : Nat) (F : Nat → Prop) : Prop where
  sep : SepA 0 R m
  isIn : ∀ c, InH R c ↔ F c
theorem inH_nil (c : Nat) : ¬ InH [] c := fun ⟨_, h, _⟩ => nomatch h
theorem inH_cons {h : Hl} {t : List Hl} {c : Nat} : InH (h :: t) c ↔ (h.1 ≤ c ∧ c < h.1 + h.2) ∨ InH t c := by
  unfold InH
  constructor
  · rintro ⟨x, hx, q⟩
    rcases List.mem_cons.mp hx with rfl | hx
    · exact .inl q
    · exact .inr ⟨x, hx, q⟩
  · rintro (q | ⟨x, hx, q⟩)
    · exact ⟨h, List.mem_cons_self .., q⟩
    · exact ⟨x, List.mem_cons_of_mem _ hx, q⟩
theorem inH_app {A B : List Hl} {c : Nat} : InH (A ++ B) c ↔ InH A c ∨ InH B c := by
  unfold InH
  constructor
  · rintro ⟨x, hx, q⟩
    rcases List.mem_append.mp hx with hx | hx
    · exact .inl ⟨x, hx, q⟩
    · exact .inr ⟨x, hx, q⟩
  · rintro (⟨x, hx, q⟩ | ⟨x, hx, q⟩)
    · exact ⟨x, List.mem_append_left _ hx, q⟩
    · exact ⟨x, List.mem_append_right _ hx, q⟩
theorem SepA.low {m : Nat} : ∀ {R : List Hl} {a : Nat}, SepA a R m → ∀ h ∈ R, a ≤ h.1 ∧ 1 ≤ h.2 ∧ h.1 + h.2 ≤ m
  | [], _, _ => fun _ z => nomatch z
  | x :: t, a, ⟨h1, h2, h3, h4⟩ => fun h z => by
    rcases List.mem_cons.mp z with rfl | z
    · exact ⟨h1, h2, h3⟩
    · have := SepA.low h4 h z; omega
theorem SepA.inlow {m a : Nat} {R : List Hl} (h : SepA a R m) {c : Nat} (q : InH R c) : a ≤ c ∧ c < m := by
  obtain ⟨x, hx, g1, g2⟩ := q
  have := h.low x hx
  omega
theorem SepA.mono {m a b : Nat} (hab : b ≤ a) : ∀ {R : List Hl}, SepA a R m → SepA b R m
  | [], _ => trivial
  | _ :: _, ⟨h1, h2, h3, h4⟩ => ⟨by omega, h2, h3, h4⟩
theorem SepA.len {m : Nat} : ∀ {R : List Hl} {a : Nat}, SepA a R m → R = [] ∨ R.length + a ≤ m
  | [], _, _ => .inl rfl
  | x :: t, a, ⟨h1, h2, h3, h4⟩ => by
    refine .inr ?_
    rcases SepA.len h4 with rfl | h
    · simp only [List.length_cons, List.length_nil]; omega
    · rw [List.length_cons]; omega
theorem SepA.le {m a : Nat} {R : List Hl} (h : SepA a R m) : R.length ≤ m := by
  rcases h.len with rfl | h
  · exact Nat.zero_le _
  · omega
def nxt : Nat → List Hl → Nat
  | a, [] => a
  | _, h :: t => nxt (h.1 + h.2 + 1) t
theorem sepA_app {m : Nat} {B : List Hl} : ∀ {A : List Hl} {a : Nat}, SepA a (A ++ B) m ↔ SepA a A m ∧ SepA (nxt a A) B m
  | [], a => ⟨fun h => ⟨trivial, h⟩, fun h => h.2⟩
  | x :: t, a => by
    show (a ≤ x.1 ∧ 1 ≤ x.2 ∧ x.1 + x.2 ≤ m ∧ SepA (x.1 + x.2 + 1) (t ++ B) m) ↔ (a ≤ x.1 ∧ 1 ≤ x.2 ∧ x.1 + x.2 ≤ m ∧ SepA (x.1 + x.2 + 1) t m) ∧ SepA (nxt (x.1 + x.2 + 1) t) B m
    rw [sepA_app (A := t)]
    constructor
    · rintro ⟨h1, h2, h3, h4, h5⟩; exact ⟨⟨h1, h2, h3, h4⟩, h5⟩
    · rintro ⟨⟨h1, h2, h3, h4⟩, h5⟩; exact ⟨h1, h2, h3, h4, h5⟩
theorem nxt_snoc : ∀ (A : List Hl) (a : Nat) (l : Hl), nxt a (A ++ [l]) = l.1 + l.2 + 1
  | [], _, _ => rfl
  | x :: t, _, l => nxt_snoc t _ l
theorem uniq {m : Nat} : ∀ {R R' : List Hl} {a b : Nat}, SepA a R m → SepA b R' m → (∀ c, InH R c ↔ InH R' c) → R = R'
  | [], [], _, _, _, _, _ => rfl
  | [], h :: t, _, b, _, ⟨_, h2, _, _⟩, q => absurd ((q h.1).mpr (inH_cons.mpr (.inl ⟨Nat.le_refl _, by omega⟩))) (inH_nil _)
  | h :: t, [], _, _, ⟨_, h2, _, _⟩, _, q => absurd ((q h.1).mp (inH_cons.mpr (.inl ⟨Nat.le_refl _, by omega⟩))) (inH_nil _)
  | h :: t, h' :: t', a, b, ⟨h1, h2, h3, h4⟩, ⟨g1, g2, g3, g4⟩, q => by
    have e1 : h'.1 ≤ h.1 := by
      rcases inH_cons.mp ((q h.1).mp (inH_cons.mpr (.inl ⟨Nat.le_refl _, by omega⟩))) with z | z
      · exact z.1
      · have := g4.inlow z; omega
    have e2 : h.1 ≤ h'.1 := by
      rcases inH_cons.mp ((q h'.1).mpr (inH_cons.mpr (.inl ⟨Nat.le_refl _, by omega⟩))) with z | z
      · exact z.1
      · have := h4.inlow z; omega
    have e : h.1 = h'.1 := Nat.le_antisymm e2 e1
    have f1 : h'.1 + h'.2 ≤ h.1 + h.2 := by
      refine Nat.le_of_not_lt fun z => ?_
      rcases inH_cons.mp ((q (h.1 + h.2)).mpr (inH_cons.mpr (.inl ⟨by omega, by omega⟩))) with y | y
      · omega
      · have := h4.inlow y; omega
    have f2 : h.1 + h.2 ≤ h'.1 + h'.2 := by
      refine Nat.le_of_not_lt fun z => ?_
      rcases inH_cons.mp ((q (h'.1 + h'.2)).mp (inH_cons.mpr (.inl ⟨by omega, by omega⟩))) with y | y
      · omega
      · have := g4.inlow y; omega
    have eh : h = h' := Prod.ext e (by omega)
    subst eh
    congr 1
    refine uniq h4 g4 fun c => ⟨fun z => ?_, fun z => ?_⟩
    · have lo := h4.inlow z
      rcases inH_cons.mp ((q c).mp (inH_cons.mpr (.inr z))) with y | y
      · omega
      · exact y
    · have lo := g4.inlow z
      rcases inH_cons.mp ((q c).mpr (inH_cons.mpr (.inr z))) with y | y
      · omega
      · exact y
theorem Bk.uniq {R R' : List Hl} {m : Nat} {F F' : Nat → Prop} (h : Bk R m F) (h' : Bk R' m F') (e : ∀ c, F c ↔ F' c) : R = R' :=
  Kx.uniq h.sep h'.sep fun c => (h.isIn c).trans ((e c).trans (h'.isIn c).symm)
/-! ### the number of a place -/
def num : List Hl → Nat → Nat
  | [], _ => 0
  | h :: t, c => if c < h.1 + h.2 then 0 else num t c + 1
theorem num_split (c : Nat) : ∀ R : List Hl, ∃ A B, R = A ++ B ∧ A.length = num R c ∧ (∀ x ∈ A, x.1 + x.2 ≤ c) ∧ (B = [] ∨ ∃ h t, B = h :: t ∧ c < h.1 + h.2)
  | [] => ⟨[], [], rfl, rfl, fun _ z => (nomatch z), .inl rfl⟩
  | h :: t => by
    by_cases z : c < h.1 + h.2
    · exact ⟨[], h :: t, rfl, by unfold num; rw [if_pos z]; rfl, fun _ z => (nomatch z), .inr ⟨h, t, rfl, z⟩⟩
    · obtain ⟨A, B, e1, e2, e3, e4⟩ := num_split c t
      refine ⟨h :: A, B, by rw [e1]; rfl, by unfold num; rw [if_neg z, List.length_cons, e2], fun x hx => ?_, e4⟩
      rcases List.mem_cons.mp hx with rfl | hx
      · omega
      · exact e3 x hx
theorem InH.upto {A : List Hl} {c d : Nat} (h : ∀ x ∈ A, x.1 + x.2 ≤ c) (q : InH A d) : d < c := by
  obtain ⟨x, hx, g⟩ := q
  have := h x hx
  omega
/-! ### a stretch is taken -/
def lft (h : Hl) (s z : Nat) : List Hl := (if h.1 < s then [(h.1, s - h.1)] else []) ++ (if s + z < h.1 + h.2 then [(s + z, h.1 + h.2 - (s + z))] else [])
theorem Bk.whole {m s z a : Nat} {B : List Hl} (hB : SepA a B m) (hz : 1 ≤ z) (q : ∀ c, s ≤ c → c < s + z → InH B c) : (∃ h t, B = h :: t ∧ s < h.1 + h.2) → ∃ h t, B = h :: t ∧ h.1 ≤ s ∧ s + z ≤ h.1 + h.2 := by
  rintro ⟨h, t, rfl, hs⟩
  obtain ⟨h1, h2, h3, h4⟩ := hB
  refine ⟨h, t, rfl, ?_, ?_⟩
  · rcases inH_cons.mp (q s (Nat.le_refl _) (by omega)) with y | y
    · exact y.1
    · have := h4.inlow y; omega
  · refine Nat.le_of_not_lt fun y => ?_
    rcases inH_cons.mp (q (h.1 + h.2) (by omega) y) with w | w
    · omega
    · have := h4.inlow w; omega
theorem inH_lft {h : Hl} {s z c : Nat} (h1 : h.1 ≤ s) (h2 : s + z ≤ h.1 + h.2) : InH (lft h s z) c ↔ ((h.1 ≤ c ∧ c < h.1 + h.2) ∧ ¬ (s ≤ c ∧ c < s + z)) := by
  unfold lft
  rw [inH_app]
  by_cases z1 : h.1 < s
  · rw [if_pos z1]
    by_cases z2 : s + z < h.1 + h.2
    · rw [if_pos z2, inH_cons, inH_cons]
      have n1 := inH_nil c
      constructor
      · rintro ((y | y) | (y | y))
        · dsimp only at y; omega
        · exact absurd y n1
        · dsimp only at y; omega
        · exact absurd y n1
      · intro y
        by_cases w : c < s
        · exact .inl (.inl ⟨by dsimp only; omega, by dsimp only; omega⟩)
        · exact .inr (.inl ⟨by dsimp only; omega, by dsimp only; omega⟩)
    · rw [if_neg z2, inH_cons]
      have n1 := inH_nil c
      constructor
      · rintro ((y | y) | y)
        · dsimp only at y; omega
        · exact absurd y n1
        · exact absurd y n1
      · intro y
        exact .inl (.inl ⟨by dsimp only; omega, by dsimp only; omega⟩)
  · rw [if_neg z1]
    by_cases z2 : s + z < h.1 + h.2
    · rw [if_pos z2, inH_cons]
      have n1 := inH_nil c
      constructor
      · rintro (y | (y | y))
        · exact absurd y n1
        · dsimp only at y; omega
        · exact absurd y n1
      · intro y
        exact .inr (.inl ⟨by dsimp only; omega, by dsimp only; omega⟩)
    · rw [if_neg z2]
      have n1 := inH_nil c
      constructor
      · rintro (y | y) <;> exact absurd y n1
      · intro y; omega
theorem sep_lft {h : Hl} {s z a m : Nat} {B : List Hl} (hB : SepA a (h :: B) m) (h1 : h.1 ≤ s) (h2 : s + z ≤ h.1 + h.2) (hz : 1 ≤ z) : SepA a (lft h s z ++ B) m := by
  obtain ⟨g1, g2, g3, g4⟩ := hB
  unfold lft
  by_cases z1 : h.1 < s
  · rw [if_pos z1]
    by_cases z2 : s + z < h.1 + h.2
    · rw [if_pos z2]
      refine ⟨g1, by dsimp only; omega, by dsimp only; omega, by dsimp only; omega, by dsimp only; omega, by dsimp only; omega, ?_⟩
      dsimp only
      rw [show s + z + (h.1 + h.2 - (s + z)) + 1 = h.1 + h.2 + 1 by omega]
      exact g4
    · rw [if_neg z2]
      refine ⟨g1, by dsimp only; omega, by dsimp only; omega, g4.mono (by dsimp only; omega)⟩
  · rw [if_neg z1]
    by_cases z2 : s + z < h.1 + h.2
    · rw [if_pos z2]
      refine ⟨by dsimp only; omega, by dsimp only; omega, by dsimp only; omega, ?_⟩
      dsimp only
      rw [show s + z + (h.1 + h.2 - (s + z)) + 1 = h.1 + h.2 + 1 by omega]
      exact g4
    · rw [if_neg z2]
      exact g4.mono (by omega)
theorem Bk.take {A B : List Hl} {h : Hl} {m s z : Nat} {F : Nat → Prop} (k : Bk (A ++ h :: B) m F) (h1 : h.1 ≤ s) (h2 : s + z ≤ h.1 + h.2) (hz : 1 ≤ z) (hA : ∀ x ∈ A, x.1 + x.2 ≤ s) : Bk (A ++ lft h s z ++ B) m fun c => F c ∧ ¬ (s ≤ c ∧ c < s + z) := by
  obtain ⟨p1, p2⟩ := sepA_app.mp k.sep
  refine ⟨?_, fun c => ?_⟩
  · rw [List.append_assoc]
    exact sepA_app.mpr ⟨p1, sep_lft p2 h1 h2 hz⟩
  · rw [← k.isIn c, inH_app, inH_app, inH_app, inH_cons, inH_lft h1 h2]
    constructor
    · rintro ((y | y) | y)
      · have := y.upto hA
        exact ⟨.inl y, by omega⟩
      · exact ⟨.inr (.inl y.1), y.2⟩
      · have := p2.2.2.2.inlow y
        exact ⟨.inr (.inr y), by omega⟩
    · rintro ⟨y | y | y, w⟩
      · exact .inl (.inl y)
      · exact .inl (.inr ⟨y, w⟩)
      · exact .inr y
/-! ### a stretch is given -/
/-- what comes of the holes ahead, the stretch and the holes behind -/
def mrgA (A : List Hl) (s : Nat) : List Hl × Nat := match A.getLast? with
  | some l => if l.1 + l.2 = s then (A.dropLast, l.1) else (A, s)
  | none => (A, s)
def mrgB (B : List Hl) (e : Nat) : List Hl × Nat := match B with
  | [] => ([], e)
  | b :: t => if b.1 = e then (t, e + b.2) else (b :: t, e)
def gv (A B : List Hl) (s z : Nat) : List Hl := (mrgA A s).1 ++ ((mrgA A s).2, (mrgB B (s + z)).2 - (mrgA A s).2) :: (mrgB B (s + z)).1
theorem mrgB_is {B : List Hl} {e a m : Nat} (hB : SepA a B m) (he : ∀ b ∈ B, e ≤ b.1) (hm : e ≤ m) : SepA ((mrgB B e).2 + 1) (mrgB B e).1 m ∧ e ≤ (mrgB B e).2 ∧ (mrgB B e).2 ≤ m ∧ ∀ c, ((e ≤ c ∧ c < (mrgB B e).2) ∨ InH (mrgB B e).1 c) ↔ InH B c := by
  cases B with
  | nil => exact ⟨trivial, Nat.le_refl _, hm, fun c => ⟨fun y => y.elim (fun y => by have : c < e := y.2; omega) (fun y => y), fun y => .inr y⟩⟩
  | cons b t =>
    obtain ⟨g1, g2, g3, g4⟩ := hB
    have hb := he b (List.mem_cons_self ..)
    unfold mrgB
    dsimp only
    by_cases z : b.1 = e
    · rw [if_pos z]
      dsimp only
      refine ⟨by rw [← z]; exact g4, by omega, by omega, fun c => ?_⟩
      rw [inH_cons, z]
    · rw [if_neg z]
      dsimp only
      refine ⟨⟨by omega, g2, g3, g4⟩, Nat.le_refl _, hm, fun c => ?_⟩
      exact ⟨fun y => y.elim (fun y => by omega) (fun y => y), fun y => .inr y⟩
theorem mrgA_is {A : List Hl} {s m : Nat} (hA : SepA 0 A m) (hs : ∀ x ∈ A, x.1 + x.2 ≤ s) : SepA 0 (mrgA A s).1 m ∧ nxt 0 (mrgA A s).1 ≤ (mrgA A s).2 ∧ (mrgA A s).2 ≤ s ∧ ∀ c, (((mrgA A s).2 ≤ c ∧ c < s) ∨ InH (mrgA A s).1 c) ↔ InH A c := by
  rcases List.eq_nil_or_concat A with rfl | ⟨A', l, rfl⟩
  · exact ⟨trivial, Nat.zero_le _, Nat.le_refl _, fun c => ⟨fun y => y.elim (fun y => by have : s ≤ c := y.1; omega) (fun y => y), fun y => .inr y⟩⟩
  · rw [List.concat_eq_append] at hA hs ⊢
    obtain ⟨p1, p2, p3, p4, _⟩ := sepA_app.mp hA
    have hl := hs l (List.mem_append_right _ (List.mem_cons_self ..))
    unfold mrgA
    rw [List.getLast?_concat, List.dropLast_concat]
    dsimp only
    by_cases z : l.1 + l.2 = s
    · rw [if_pos z]
      dsimp only
      refine ⟨p1, p2, by omega, fun c => ?_⟩
      rw [inH_app, inH_cons]
      have := inH_nil c
      constructor
      · rintro (y | y)
        · exact .inr (.inl ⟨y.1, by omega⟩)
        · exact .inl y
      · rintro (y | y | y)
        · exact .inr y
        · exact .inl ⟨y.1, by omega⟩
        · exact absurd y this
    · rw [if_neg z]
      dsimp only
      refine ⟨hA, by rw [nxt_snoc]; omega, Nat.le_refl _, fun c => ?_⟩
      exact ⟨fun y => y.elim (fun y => by omega) (fun y => y), fun y => .inr y⟩
theorem Bk.give {A B : List Hl} {m s z : Nat} {F : Nat → Prop} (k : Bk (A ++ B) m F) (hz : 1 ≤ z) (hm : s + z ≤ m) (hA : ∀ x ∈ A, x.1 + x.2 ≤ s) (hB : ∀ b ∈ B, s + z ≤ b.1) : Bk (gv A B s z) m fun c => F c ∨ (s ≤ c ∧ c < s + z) := by
  obtain ⟨p1, p2⟩ := sepA_app.mp k.sep
  obtain ⟨a1, a2, a3, a4⟩ := mrgA_is p1 hA
  obtain ⟨b1, b2, b3, b4⟩ := mrgB_is p2 hB hm
  unfold gv
  refine ⟨sepA_app.mpr ⟨a1, a2, by dsimp only; omega, by dsimp only; omega, ?_⟩, fun c => ?_⟩
  · dsimp only
    rw [show (mrgA A s).2 + ((mrgB B (s + z)).2 - (mrgA A s).2) + 1 = (mrgB B (s + z)).2 + 1 by omega]
    exact b1
  · rw [← k.isIn c, inH_app, inH_app, inH_cons, ← a4 c, ← b4 c]
    dsimp only
    constructor
    · rintro (y | y | y)
      · exact .inl (.inl (.inr y))
      · by_cases w1 : c < s
        · exact .inl (.inl (.inl ⟨y.1, w1⟩))
        · by_cases w2 : c < s + z
          · exact .inr ⟨by omega, w2⟩
          · exact .inl (.inr (.inl ⟨by omega, by omega⟩))
      · exact .inl (.inr (.inr y))
    · rintro ((y | y) | y)
      · rcases y with y | y
        · exact .inr (.inl ⟨by omega, by omega⟩)
        · exact .inl y
      · rcases y with y | y
        · exact .inr (.inl ⟨by omega, by omega⟩)
        · exact .inr (.inr y)
      · exact .inr (.inl ⟨by omega, by omega⟩)
/-! ### how many cells -/
def sumH : List Hl → Nat
  | [] => 0
  | h :: t => h.2 + sumH t
theorem sumH_app : ∀ A B : List Hl, sumH (A ++ B) = sumH A + sumH B
  | [], B => (Nat.zero_add _).symm
  | a :: A, B => by
    show a.2 + sumH (A ++ B) = a.2 + sumH A + sumH B
    rw [sumH_app A B, Nat.add_assoc]
end Kx

namespace Kx
open PySem PySem.Spec PyProof.Rows L2 Sr
/-! ### the book, walked -/
theorem ss_go {Φ : Nat → List Sl → List Cell → COut} {a : Sm} {as : Sms} {s s1 : Stt} (h : evS Φ a s = .nx s1) : evSs Φ (.cons a as) s = evSs Φ as s1 := by
  rw [evSs, h]
def bk (w r : Nat) : Cell := .inst 0 [("width", .int (w : Int)), ("rows", .ref r)]
def rwS (R : List Hl) : Cell := .lst (R.map hD)
theorem num_at {A B : List Hl} {h : Hl} {c : Nat} (h1 : ∀ x ∈ A, x.1 + x.2 ≤ c) (h2 : c < h.1 + h.2) : num (A ++ h :: B) c = A.length := by
  induction A with
  | nil => show (if c < h.1 + h.2 then 0 else num B c + 1) = 0; rw [if_pos h2]
  | cons a A ih =>
    have ha := h1 a (List.mem_cons_self ..)
    show (if c < a.1 + a.2 then 0 else num (A ++ h :: B) c + 1) = A.length + 1
    rw [if_neg (by omega), ih fun x hx => h1 x (List.mem_cons_of_mem _ hx)]
theorem num_end {A : List Hl} {c : Nat} (h1 : ∀ x ∈ A, x.1 + x.2 ≤ c) : num A c = A.length := by
  induction A with
  | nil => rfl
  | cons a A ih =>
    have ha := h1 a (List.mem_cons_self ..)
    show (if c < a.1 + a.2 then 0 else num A c + 1) = A.length + 1
    rw [if_neg (by omega), ih fun x hx => h1 x (List.mem_cons_of_mem _ hx)]
theorem num_le : ∀ (R : List Hl) (c : Nat), num R c ≤ R.length
  | [], _ => Nat.le_refl _
  | h :: t, c => by
    have := num_le t c
    unfold num
    split
    · exact Nat.zero_le _
    · rw [List.length_cons]; omega
theorem get_mid {A B : List Hl} {h : Hl} : ((A ++ h :: B).map hD)[A.length]? = some (hD h) := by
  rw [List.map_append, List.getElem?_append_right (by rw [List.length_map]; exact Nat.le_refl _), List.length_map, Nat.sub_self]
  rfl
theorem numGo (Φ : Nat → List Sl → List Cell → COut) (n c r : Nat) (S : List Cell) : ∀ (B A : List Hl) (f : Nat) (x2 x3 x4 : Option Sl), S[r]? = some (rwS (A ++ B)) → B.length < f →
    (num B c < B.length → forC r true (.tup [.nm 2, .tup [.nm 3, .nm 4]]) (evSs Φ l8_0) f A.length ⟨[some (.val, .ref n), some (.val, .int (c : Int)), x2, x3, x4], S⟩ = .ret (.val, .int ((A.length + num B c : Nat) : Int)) S) ∧
    (num B c = B.length → ∃ y2 y3 y4, forC r true (.tup [.nm 2, .tup [.nm 3, .nm 4]]) (evSs Φ l8_0) f A.length ⟨[some (.val, .ref n), some (.val, .int (c : Int)), x2, x3, x4], S⟩ = .nx ⟨[some (.val, .ref n), some (.val, .int (c : Int)), y2, y3, y4], S⟩)
  | [], A, f + 1, x2, x3, x4, hS, _ => by
    refine ⟨fun h => (Nat.lt_irrefl 0 h).elim, fun _ => ⟨x2, x3, x4, ?_⟩⟩
    unfold forC
    unfold rwS at hS
    dsimp only
    rw [hS]
    dsimp only
    rw [if_pos rfl, List.getElem?_eq_none (by rw [enumD_len, List.length_map, List.append_nil]; exact Nat.le_refl _)]
  | h :: B, A, f + 1, x2, x3, x4, hS, hf => by
    have e1 : (if true = true then enumD 0 ((A ++ h :: B).map hD) else (A ++ h :: B).map hD)[A.length]? = some (.tup [.int ((A.length : Nat) : Int), hD h]) := by
      rw [if_pos rfl, enumD_get 0 _ _ _ get_mid, Nat.zero_add]
    have hS' := hS
    unfold rwS at hS'
    have bd : bindP (.tup [.nm 2, .tup [.nm 3, .nm 4]]) (.tup [.int ((A.length : Nat) : Int), hD h]) [some (.val, .ref n), some (.val, .int (c : Int)), x2, x3, x4] = some [some (.val, .ref n), some (.val, .int (c : Int)), some (.val, .int ((A.length : Nat) : Int)), some (.val, .int (h.1 : Int)), some (.val, .int (h.2 : Int))] := by
      unfold hD
      simp (implicitDefEqProofs := false) only [Int.cast_ofNat_Int, T, List.length_cons, List.length_nil, List.map_cons, List.map_nil, List.replicate, List.cons_append, List.nil_append, evSs, evS, evE, evL, evA, evP, itE, Out.bind, Out.then, OutL.bind, asgP, putS, onB, onS, lift, binR, addR, mulR, binD, cmpD, lstOf, lsqOf, seqOf, lenD, biV, on1, on2, Sr.intD, int2D, vI, vB, ixD, valO, argO, toVal, back1, orS, intV, celL, putC, putO, ownL, endF, tyD, srcM, srcO, walkOf, keyD, augD, Sr.part, pOk, bindP, bindPs, Option.map, List.getElem?_cons_zero, List.getElem?_cons_succ, List.set, List.length_set, ite_true, ite_false, reduceIte, Nat.reduceAdd, Nat.reduceSub, Nat.reduceLT, Nat.reduceEqDiff, Bool.false_eq_true, Bool.not_true, Bool.not_false, decide_true, decide_false, eqD_int, beq_iff_eq, beq_self_eq_true, Bool.not_eq_true', beq_eq_false_iff_ne, ne_eq, not_true_eq_false, not_false_eq_true, compO, compKO, vsOk, wipeD, back, List.all_cons, List.all_nil, List.foldl_cons, List.foldl_nil, Bool.and_true, Bool.true_and, Bool.and_self, Option.getD_some, Option.getD_none, decide_eq_true_eq, List.length_map, atI_0, atI_1, atI_2, lim0, lim1, lim2, lim3, lim4, lim5, lim6, lim7, lim8, lim9, lim10, lim11, lim12, set_last, get_last, eqD_pair, slV, rngL, and_self, true_and, and_true, isa_NoneType_bool, isa_NoneType_int, isa_NoneType_str, isa_NoneType_tuple, isa_NoneType_list, isa_NoneType_dict, isa_bool_bool, isa_bool_int, isa_bool_str, isa_bool_tuple, isa_bool_list, isa_bool_dict, isa_int_bool, isa_int_int, isa_int_str, isa_int_tuple, isa_int_list, isa_int_dict, isa_str_bool, isa_str_int, isa_str_str, isa_str_tuple, isa_str_list, isa_str_dict, isa_tuple_bool, isa_tuple_int, isa_tuple_str, isa_tuple_tuple, isa_tuple_list, isa_tuple_dict, isa_list_bool, isa_list_int, isa_list_str, isa_list_tuple, isa_list_list, isa_list_dict, isa_dict_bool, isa_dict_int, isa_dict_str, isa_dict_tuple, isa_dict_list, isa_dict_dict, ixN_30, ixN_31, ixN_32]
    by_cases z : c < h.1 + h.2
    · have zI : (c : Int) < (h.1 : Int) + (h.2 : Int) := by omega
      have en : num (h :: B) c = 0 := by unfold num; rw [if_pos z]
      rw [en]
      refine ⟨fun _ => ?_, fun y => by rw [List.length_cons] at y; omega⟩
      unfold forC
      dsimp only
      rw [hS']
      dsimp only
      rw [e1]
      dsimp only
      rw [bd]
      dsimp only
      have eb : evSs Φ l8_0 ⟨[some (.val, .ref n), some (.val, .int (c : Int)), some (.val, .int ((A.length : Nat) : Int)), some (.val, .int (h.1 : Int)), some (.val, .int (h.2 : Int))], S⟩ = .ret (.val, .int ((A.length : Nat) : Int)) S := by
        simp (implicitDefEqProofs := false) only [Int.cast_ofNat_Int, T, List.length_cons, List.length_nil, List.map_cons, List.map_nil, List.replicate, List.cons_append, List.nil_append, evSs, evS, evE, evL, evA, evP, itE, Out.bind, Out.then, OutL.bind, asgP, putS, onB, onS, lift, binR, addR, mulR, binD, cmpD, lstOf, lsqOf, seqOf, lenD, biV, on1, on2, Sr.intD, int2D, vI, vB, ixD, valO, argO, toVal, back1, orS, intV, celL, putC, putO, ownL, endF, tyD, srcM, srcO, walkOf, keyD, augD, Sr.part, pOk, bindP, bindPs, Option.map, List.getElem?_cons_zero, List.getElem?_cons_succ, List.set, List.length_set, ite_true, ite_false, reduceIte, Nat.reduceAdd, Nat.reduceSub, Nat.reduceLT, Nat.reduceEqDiff, Bool.false_eq_true, Bool.not_true, Bool.not_false, decide_true, decide_false, eqD_int, beq_iff_eq, beq_self_eq_true, Bool.not_eq_true', beq_eq_false_iff_ne, ne_eq, not_true_eq_false, not_false_eq_true, compO, compKO, vsOk, wipeD, back, List.all_cons, List.all_nil, List.foldl_cons, List.foldl_nil, Bool.and_true, Bool.true_and, Bool.and_self, Option.getD_some, Option.getD_none, decide_eq_true_eq, List.length_map, atI_0, atI_1, atI_2, lim0, lim1, lim2, lim3, lim4, lim5, lim6, lim7, lim8, lim9, lim10, lim11, lim12, set_last, get_last, eqD_pair, slV, rngL, and_self, true_and, and_true, isa_NoneType_bool, isa_NoneType_int, isa_NoneType_str, isa_NoneType_tuple, isa_NoneType_list, isa_NoneType_dict, isa_bool_bool, isa_bool_int, isa_bool_str, isa_bool_tuple, isa_bool_list, isa_bool_dict, isa_int_bool, isa_int_int, isa_int_str, isa_int_tuple, isa_int_list, isa_int_dict, isa_str_bool, isa_str_int, isa_str_str, isa_str_tuple, isa_str_list, isa_str_dict, isa_tuple_bool, isa_tuple_int, isa_tuple_str, isa_tuple_tuple, isa_tuple_list, isa_tuple_dict, isa_list_bool, isa_list_int, isa_list_str, isa_list_tuple, isa_list_list, isa_list_dict, isa_dict_bool, isa_dict_int, isa_dict_str, isa_dict_tuple, isa_dict_list, isa_dict_dict, ixN_30, ixN_31, ixN_32, l8_0, zI]
      rw [eb]
      rfl
    · have zI : ¬ (c : Int) < (h.1 : Int) + (h.2 : Int) := by omega
      have en : num (h :: B) c = num B c + 1 := by
        show (if c < h.1 + h.2 then 0 else num B c + 1) = _
        rw [if_neg z]
      have eb : evSs Φ l8_0 ⟨[some (.val, .ref n), some (.val, .int (c : Int)), some (.val, .int ((A.length : Nat) : Int)), some (.val, .int (h.1 : Int)), some (.val, .int (h.2 : Int))], S⟩ = .nx ⟨[some (.val, .ref n), some (.val, .int (c : Int)), some (.val, .int ((A.length : Nat) : Int)), some (.val, .int (h.1 : Int)), some (.val, .int (h.2 : Int))], S⟩ := by
        simp (implicitDefEqProofs := false) only [Int.cast_ofNat_Int, T, List.length_cons, List.length_nil, List.map_cons, List.map_nil, List.replicate, List.cons_append, List.nil_append, evSs, evS, evE, evL, evA, evP, itE, Out.bind, Out.then, OutL.bind, asgP, putS, onB, onS, lift, binR, addR, mulR, binD, cmpD, lstOf, lsqOf, seqOf, lenD, biV, on1, on2, Sr.intD, int2D, vI, vB, ixD, valO, argO, toVal, back1, orS, intV, celL, putC, putO, ownL, endF, tyD, srcM, srcO, walkOf, keyD, augD, Sr.part, pOk, bindP, bindPs, Option.map, List.getElem?_cons_zero, List.getElem?_cons_succ, List.set, List.length_set, ite_true, ite_false, reduceIte, Nat.reduceAdd, Nat.reduceSub, Nat.reduceLT, Nat.reduceEqDiff, Bool.false_eq_true, Bool.not_true, Bool.not_false, decide_true, decide_false, eqD_int, beq_iff_eq, beq_self_eq_true, Bool.not_eq_true', beq_eq_false_iff_ne, ne_eq, not_true_eq_false, not_false_eq_true, compO, compKO, vsOk, wipeD, back, List.all_cons, List.all_nil, List.foldl_cons, List.foldl_nil, Bool.and_true, Bool.true_and, Bool.and_self, Option.getD_some, Option.getD_none, decide_eq_true_eq, List.length_map, atI_0, atI_1, atI_2, lim0, lim1, lim2, lim3, lim4, lim5, lim6, lim7, lim8, lim9, lim10, lim11, lim12, set_last, get_last, eqD_pair, slV, rngL, and_self, true_and, and_true, isa_NoneType_bool, isa_NoneType_int, isa_NoneType_str, isa_NoneType_tuple, isa_NoneType_list, isa_NoneType_dict, isa_bool_bool, isa_bool_int, isa_bool_str, isa_bool_tuple, isa_bool_list, isa_bool_dict, isa_int_bool, isa_int_int, isa_int_str, isa_int_tuple, isa_int_list, isa_int_dict, isa_str_bool, isa_str_int, isa_str_str, isa_str_tuple, isa_str_list, isa_str_dict, isa_tuple_bool, isa_tuple_int, isa_tuple_str, isa_tuple_tuple, isa_tuple_list, isa_tuple_dict, isa_list_bool, isa_list_int, isa_list_str, isa_list_tuple, isa_list_list, isa_list_dict, isa_dict_bool, isa_dict_int, isa_dict_str, isa_dict_tuple, isa_dict_list, isa_dict_dict, ixN_30, ixN_31, ixN_32, l8_0, zI]
      have st : forC r true (.tup [.nm 2, .tup [.nm 3, .nm 4]]) (evSs Φ l8_0) (f + 1) A.length ⟨[some (.val, .ref n), some (.val, .int (c : Int)), x2, x3, x4], S⟩ = forC r true (.tup [.nm 2, .tup [.nm 3, .nm 4]]) (evSs Φ l8_0) f (A ++ [h]).length ⟨[some (.val, .ref n), some (.val, .int (c : Int)), some (.val, .int ((A.length : Nat) : Int)), some (.val, .int (h.1 : Int)), some (.val, .int (h.2 : Int))], S⟩ := by
        conv => lhs; unfold forC
        dsimp only
        rw [hS']
        dsimp only
        rw [e1]
        dsimp only
        rw [bd]
        dsimp only
        rw [eb, List.length_append]
        rfl
      rw [st, en, List.length_cons]
      obtain ⟨i1, i2⟩ := numGo Φ n c r S B (A ++ [h]) f (some (.val, .int ((A.length : Nat) : Int))) (some (.val, .int (h.1 : Int))) (some (.val, .int (h.2 : Int))) (by rw [List.append_assoc]; exact hS) (by rw [List.length_cons] at hf; omega)
      refine ⟨fun y => ?_, fun y => i2 (by omega)⟩
      rw [i1 (by omega), List.length_append, List.length_cons, List.length_nil, show A.length + (0 + 1) + num B c = A.length + (num B c + 1) by omega]
section
variable (k n r w : Nat) {S : List Cell} (hn : S[n]? = some (bk w r))
include hn
theorem number_of (R : List Hl) (hr : S[r]? = some (rwS R)) (hl : R.length ≤ 1000) (c : Nat) : callF T (k + 1) 8 [(.val, .ref n), (.val, .int (c : Int))] S = .ok (.val, .int ((num R c : Nat) : Int)) S := by
  have hf := fuel_ge
  obtain ⟨i1, i2⟩ := numGo (callF T k) n c r S R [] fuel none none none hr (by omega)
  have m0 : (0 : Nat) ∈ [0] := List.mem_cons_self ..
  have lk : List.lookup ("rows" : Str) [(("width" : Str), D.int (w : Int)), ("rows", .ref r)] = some (.ref r) := rfl
  unfold bk at hn
  have hr' := hr
  unfold rwS at hr'
  rcases Nat.lt_or_ge (num R c) R.length with z | z
  · have e := i1 z
    rw [List.length_nil, Nat.zero_add] at e
    rw [callF_succ]; simp (implicitDefEqProofs := false) only [Int.cast_ofNat_Int, T, List.length_cons, List.length_nil, List.map_cons, List.map_nil, List.replicate, List.cons_append, List.nil_append, evSs, evS, evE, evL, evA, evP, itE, Out.bind, Out.then, OutL.bind, asgP, putS, onB, onS, lift, binR, addR, mulR, binD, cmpD, lstOf, lsqOf, seqOf, lenD, biV, on1, on2, Sr.intD, int2D, vI, vB, ixD, valO, argO, toVal, back1, orS, intV, celL, putC, putO, ownL, endF, tyD, srcM, srcO, walkOf, keyD, augD, Sr.part, pOk, bindP, bindPs, Option.map, List.getElem?_cons_zero, List.getElem?_cons_succ, List.set, List.length_set, ite_true, ite_false, reduceIte, Nat.reduceAdd, Nat.reduceSub, Nat.reduceLT, Nat.reduceEqDiff, Bool.false_eq_true, Bool.not_true, Bool.not_false, decide_true, decide_false, eqD_int, beq_iff_eq, beq_self_eq_true, Bool.not_eq_true', beq_eq_false_iff_ne, ne_eq, not_true_eq_false, not_false_eq_true, compO, compKO, vsOk, wipeD, back, List.all_cons, List.all_nil, List.foldl_cons, List.foldl_nil, Bool.and_true, Bool.true_and, Bool.and_self, Option.getD_some, Option.getD_none, decide_eq_true_eq, List.length_map, atI_0, atI_1, atI_2, lim0, lim1, lim2, lim3, lim4, lim5, lim6, lim7, lim8, lim9, lim10, lim11, lim12, set_last, get_last, eqD_pair, slV, rngL, and_self, true_and, and_true, isa_NoneType_bool, isa_NoneType_int, isa_NoneType_str, isa_NoneType_tuple, isa_NoneType_list, isa_NoneType_dict, isa_bool_bool, isa_bool_int, isa_bool_str, isa_bool_tuple, isa_bool_list, isa_bool_dict, isa_int_bool, isa_int_int, isa_int_str, isa_int_tuple, isa_int_list, isa_int_dict, isa_str_bool, isa_str_int, isa_str_str, isa_str_tuple, isa_str_list, isa_str_dict, isa_tuple_bool, isa_tuple_int, isa_tuple_str, isa_tuple_tuple, isa_tuple_list, isa_tuple_dict, isa_list_bool, isa_list_int, isa_list_str, isa_list_tuple, isa_list_list, isa_list_dict, isa_dict_bool, isa_dict_int, isa_dict_str, isa_dict_tuple, isa_dict_list, isa_dict_dict, ixN_30, ixN_31, ixN_32, b8, hn, m0, lk, e]
  · have z : num R c = R.length := Nat.le_antisymm (num_le R c) z
    obtain ⟨y2, y3, y4, e⟩ := i2 z
    rw [List.length_nil] at e
    rw [z]
    rw [callF_succ]; simp (implicitDefEqProofs := false) only [Int.cast_ofNat_Int, T, List.length_cons, List.length_nil, List.map_cons, List.map_nil, List.replicate, List.cons_append, List.nil_append, evSs, evS, evE, evL, evA, evP, itE, Out.bind, Out.then, OutL.bind, asgP, putS, onB, onS, lift, binR, addR, mulR, binD, cmpD, lstOf, lsqOf, seqOf, lenD, biV, on1, on2, Sr.intD, int2D, vI, vB, ixD, valO, argO, toVal, back1, orS, intV, celL, putC, putO, ownL, endF, tyD, srcM, srcO, walkOf, keyD, augD, Sr.part, pOk, bindP, bindPs, Option.map, List.getElem?_cons_zero, List.getElem?_cons_succ, List.set, List.length_set, ite_true, ite_false, reduceIte, Nat.reduceAdd, Nat.reduceSub, Nat.reduceLT, Nat.reduceEqDiff, Bool.false_eq_true, Bool.not_true, Bool.not_false, decide_true, decide_false, eqD_int, beq_iff_eq, beq_self_eq_true, Bool.not_eq_true', beq_eq_false_iff_ne, ne_eq, not_true_eq_false, not_false_eq_true, compO, compKO, vsOk, wipeD, back, List.all_cons, List.all_nil, List.foldl_cons, List.foldl_nil, Bool.and_true, Bool.true_and, Bool.and_self, Option.getD_some, Option.getD_none, decide_eq_true_eq, List.length_map, atI_0, atI_1, atI_2, lim0, lim1, lim2, lim3, lim4, lim5, lim6, lim7, lim8, lim9, lim10, lim11, lim12, set_last, get_last, eqD_pair, slV, rngL, and_self, true_and, and_true, isa_NoneType_bool, isa_NoneType_int, isa_NoneType_str, isa_NoneType_tuple, isa_NoneType_list, isa_NoneType_dict, isa_bool_bool, isa_bool_int, isa_bool_str, isa_bool_tuple, isa_bool_list, isa_bool_dict, isa_int_bool, isa_int_int, isa_int_str, isa_int_tuple, isa_int_list, isa_int_dict, isa_str_bool, isa_str_int, isa_str_str, isa_str_tuple, isa_str_list, isa_str_dict, isa_tuple_bool, isa_tuple_int, isa_tuple_str, isa_tuple_tuple, isa_tuple_list, isa_tuple_dict, isa_list_bool, isa_list_int, isa_list_str, isa_list_tuple, isa_list_list, isa_list_dict, isa_dict_bool, isa_dict_int, isa_dict_str, isa_dict_tuple, isa_dict_list, isa_dict_dict, ixN_30, ixN_31, ixN_32, b8, hn, m0, lk, e, hr']
end
theorem is_stretch (k : Nat) (s z : Int) (h1 : 0 ≤ s) (h2 : 1 ≤ z) (S : List Cell) : callF T (k + 2) 3 [(.val, .tup [.int s, .int z])] S = .ok (.val, .bl true) S := by
  rw [callF_succ]; simp (implicitDefEqProofs := false) only [Int.cast_ofNat_Int, T, List.length_cons, List.length_nil, List.map_cons, List.map_nil, List.replicate, List.cons_append, List.nil_append, evSs, evS, evE, evL, evA, evP, itE, Out.bind, Out.then, OutL.bind, asgP, putS, onB, onS, lift, binR, addR, mulR, binD, cmpD, lstOf, lsqOf, seqOf, lenD, biV, on1, on2, Sr.intD, int2D, vI, vB, ixD, valO, argO, toVal, back1, orS, intV, celL, putC, putO, ownL, endF, tyD, srcM, srcO, walkOf, keyD, augD, Sr.part, pOk, bindP, bindPs, Option.map, List.getElem?_cons_zero, List.getElem?_cons_succ, List.set, List.length_set, ite_true, ite_false, reduceIte, Nat.reduceAdd, Nat.reduceSub, Nat.reduceLT, Nat.reduceEqDiff, Bool.false_eq_true, Bool.not_true, Bool.not_false, decide_true, decide_false, eqD_int, beq_iff_eq, beq_self_eq_true, Bool.not_eq_true', beq_eq_false_iff_ne, ne_eq, not_true_eq_false, not_false_eq_true, compO, compKO, vsOk, wipeD, back, List.all_cons, List.all_nil, List.foldl_cons, List.foldl_nil, Bool.and_true, Bool.true_and, Bool.and_self, Option.getD_some, Option.getD_none, decide_eq_true_eq, List.length_map, atI_0, atI_1, atI_2, lim0, lim1, lim2, lim3, lim4, lim5, lim6, lim7, lim8, lim9, lim10, lim11, lim12, set_last, get_last, eqD_pair, slV, rngL, and_self, true_and, and_true, isa_NoneType_bool, isa_NoneType_int, isa_NoneType_str, isa_NoneType_tuple, isa_NoneType_list, isa_NoneType_dict, isa_bool_bool, isa_bool_int, isa_bool_str, isa_bool_tuple, isa_bool_list, isa_bool_dict, isa_int_bool, isa_int_int, isa_int_str, isa_int_tuple, isa_int_list, isa_int_dict, isa_str_bool, isa_str_int, isa_str_str, isa_str_tuple, isa_str_list, isa_str_dict, isa_tuple_bool, isa_tuple_int, isa_tuple_str, isa_tuple_tuple, isa_tuple_list, isa_tuple_dict, isa_list_bool, isa_list_int, isa_list_str, isa_list_tuple, isa_list_list, isa_list_dict, isa_dict_bool, isa_dict_int, isa_dict_str, isa_dict_tuple, isa_dict_list, isa_dict_dict, ixN_30, ixN_31, ixN_32, b3, is_whole_i, h1, h2]
def hasH : List Hl → Nat → Nat → Bool
  | [], _, _ => false
  | h :: _, s, z => decide (h.1 ≤ s ∧ s + z ≤ h.1 + h.2)
def hasB (R : List Hl) (s z : Nat) : Bool := hasH (R.drop (num R s)) s z
section
variable (k n r w : Nat) {S : List Cell} (hn : S[n]? = some (bk w r))
include hn
theorem has_ (R : List Hl) (hr : S[r]? = some (rwS R)) (hl : R.length ≤ 1000) (s z : Nat) (hz : 1 ≤ z) : callF T (k + 3) 9 [(.val, .ref n), (.val, .int (s : Int)), (.val, .int (z : Int))] S = .ok (.val, .bl (hasB R s z)) S := by
  have e1 := is_stretch k (s : Int) (z : Int) (by omega) (by omega) S
  have e2 := number_of (k + 1) n r w hn R hr hl s
  have m0 : (0 : Nat) ∈ [0] := List.mem_cons_self ..
  have lk : List.lookup ("rows" : Str) [(("width" : Str), D.int (w : Int)), ("rows", .ref r)] = some (.ref r) := rfl
  have lk1 : List.lookup ("number_of" : Str) [(("width" : Str), D.int (w : Int)), ("rows", .ref r)] = none := rfl
  have lk2 : List.lookup 0 [((0 : Nat), 8)] = some 8 := rfl
  unfold bk at hn
  have hr' := hr
  unfold rwS at hr'
  obtain ⟨A, B, rfl, e3, hA, hB⟩ := num_split s R
  rw [← e3] at e2
  have ed : (A ++ B).drop (num (A ++ B) s) = B := by rw [← e3, List.drop_left]
  have eh : hasB (A ++ B) s z = hasH B s z := by unfold hasB; rw [ed]
  rw [eh]
  rcases hB with rfl | ⟨h, t, rfl, hs⟩
  · have n1 : ((A.length : Nat) : Int) = (((A ++ []).length : Nat) : Int) := by rw [List.append_nil]
    unfold hasH
    rw [callF_succ]; simp (implicitDefEqProofs := false) only [Int.cast_ofNat_Int, T, List.length_cons, List.length_nil, List.map_cons, List.map_nil, List.replicate, List.cons_append, List.nil_append, evSs, evS, evE, evL, evA, evP, itE, Out.bind, Out.then, OutL.bind, asgP, putS, onB, onS, lift, binR, addR, mulR, binD, cmpD, lstOf, lsqOf, seqOf, lenD, biV, on1, on2, Sr.intD, int2D, vI, vB, ixD, valO, argO, toVal, back1, orS, intV, celL, putC, putO, ownL, endF, tyD, srcM, srcO, walkOf, keyD, augD, Sr.part, pOk, bindP, bindPs, Option.map, List.getElem?_cons_zero, List.getElem?_cons_succ, List.set, List.length_set, ite_true, ite_false, reduceIte, Nat.reduceAdd, Nat.reduceSub, Nat.reduceLT, Nat.reduceEqDiff, Bool.false_eq_true, Bool.not_true, Bool.not_false, decide_true, decide_false, eqD_int, beq_iff_eq, beq_self_eq_true, Bool.not_eq_true', beq_eq_false_iff_ne, ne_eq, not_true_eq_false, not_false_eq_true, compO, compKO, vsOk, wipeD, back, List.all_cons, List.all_nil, List.foldl_cons, List.foldl_nil, Bool.and_true, Bool.true_and, Bool.and_self, Option.getD_some, Option.getD_none, decide_eq_true_eq, List.length_map, atI_0, atI_1, atI_2, lim0, lim1, lim2, lim3, lim4, lim5, lim6, lim7, lim8, lim9, lim10, lim11, lim12, set_last, get_last, eqD_pair, slV, rngL, and_self, true_and, and_true, isa_NoneType_bool, isa_NoneType_int, isa_NoneType_str, isa_NoneType_tuple, isa_NoneType_list, isa_NoneType_dict, isa_bool_bool, isa_bool_int, isa_bool_str, isa_bool_tuple, isa_bool_list, isa_bool_dict, isa_int_bool, isa_int_int, isa_int_str, isa_int_tuple, isa_int_list, isa_int_dict, isa_str_bool, isa_str_int, isa_str_str, isa_str_tuple, isa_str_list, isa_str_dict, isa_tuple_bool, isa_tuple_int, isa_tuple_str, isa_tuple_tuple, isa_tuple_list, isa_tuple_dict, isa_list_bool, isa_list_int, isa_list_str, isa_list_tuple, isa_list_list, isa_list_dict, isa_dict_bool, isa_dict_int, isa_dict_str, isa_dict_tuple, isa_dict_list, isa_dict_dict, ixN_30, ixN_31, ixN_32, b9, e1, hn, hr', m0, lk, lk1, lk2, e2, n1]
  · have n1 : ¬ ((A.length : Nat) : Int) = (((A ++ h :: t).length : Nat) : Int) := by rw [List.length_append, List.length_cons]; omega
    have a1 : atI ((A ++ h :: t).map hD) ((A.length : Nat) : Int) = some (.tup [.int (h.1 : Int), .int (h.2 : Int)]) := atI_nat get_mid
    show _ = COut.ok (.val, .bl (decide (h.1 ≤ s ∧ s + z ≤ h.1 + h.2))) S
    by_cases c1 : h.1 ≤ s
    · have c1I : (h.1 : Int) ≤ (s : Int) := by omega
      by_cases c2 : s + z ≤ h.1 + h.2
      · have c2I : (s : Int) + (z : Int) ≤ (h.1 : Int) + (h.2 : Int) := by omega
        rw [decide_eq_true ⟨c1, c2⟩]
        rw [callF_succ]; simp (implicitDefEqProofs := false) only [Int.cast_ofNat_Int, T, List.length_cons, List.length_nil, List.map_cons, List.map_nil, List.replicate, List.cons_append, List.nil_append, evSs, evS, evE, evL, evA, evP, itE, Out.bind, Out.then, OutL.bind, asgP, putS, onB, onS, lift, binR, addR, mulR, binD, cmpD, lstOf, lsqOf, seqOf, lenD, biV, on1, on2, Sr.intD, int2D, vI, vB, ixD, valO, argO, toVal, back1, orS, intV, celL, putC, putO, ownL, endF, tyD, srcM, srcO, walkOf, keyD, augD, Sr.part, pOk, bindP, bindPs, Option.map, List.getElem?_cons_zero, List.getElem?_cons_succ, List.set, List.length_set, ite_true, ite_false, reduceIte, Nat.reduceAdd, Nat.reduceSub, Nat.reduceLT, Nat.reduceEqDiff, Bool.false_eq_true, Bool.not_true, Bool.not_false, decide_true, decide_false, eqD_int, beq_iff_eq, beq_self_eq_true, Bool.not_eq_true', beq_eq_false_iff_ne, ne_eq, not_true_eq_false, not_false_eq_true, compO, compKO, vsOk, wipeD, back, List.all_cons, List.all_nil, List.foldl_cons, List.foldl_nil, Bool.and_true, Bool.true_and, Bool.and_self, Option.getD_some, Option.getD_none, decide_eq_true_eq, List.length_map, atI_0, atI_1, atI_2, lim0, lim1, lim2, lim3, lim4, lim5, lim6, lim7, lim8, lim9, lim10, lim11, lim12, set_last, get_last, eqD_pair, slV, rngL, and_self, true_and, and_true, isa_NoneType_bool, isa_NoneType_int, isa_NoneType_str, isa_NoneType_tuple, isa_NoneType_list, isa_NoneType_dict, isa_bool_bool, isa_bool_int, isa_bool_str, isa_bool_tuple, isa_bool_list, isa_bool_dict, isa_int_bool, isa_int_int, isa_int_str, isa_int_tuple, isa_int_list, isa_int_dict, isa_str_bool, isa_str_int, isa_str_str, isa_str_tuple, isa_str_list, isa_str_dict, isa_tuple_bool, isa_tuple_int, isa_tuple_str, isa_tuple_tuple, isa_tuple_list, isa_tuple_dict, isa_list_bool, isa_list_int, isa_list_str, isa_list_tuple, isa_list_list, isa_list_dict, isa_dict_bool, isa_dict_int, isa_dict_str, isa_dict_tuple, isa_dict_list, isa_dict_dict, ixN_30, ixN_31, ixN_32, b9, e1, hn, hr', m0, lk, lk1, lk2, e2, n1, a1, c1I, c2I]
      · have c2I : ¬ (s : Int) + (z : Int) ≤ (h.1 : Int) + (h.2 : Int) := by omega
        rw [decide_eq_false fun y => c2 y.2]
        rw [callF_succ]; simp (implicitDefEqProofs := false) only [Int.cast_ofNat_Int, T, List.length_cons, List.length_nil, List.map_cons, List.map_nil, List.replicate, List.cons_append, List.nil_append, evSs, evS, evE, evL, evA, evP, itE, Out.bind, Out.then, OutL.bind, asgP, putS, onB, onS, lift, binR, addR, mulR, binD, cmpD, lstOf, lsqOf, seqOf, lenD, biV, on1, on2, Sr.intD, int2D, vI, vB, ixD, valO, argO, toVal, back1, orS, intV, celL, putC, putO, ownL, endF, tyD, srcM, srcO, walkOf, keyD, augD, Sr.part, pOk, bindP, bindPs, Option.map, List.getElem?_cons_zero, List.getElem?_cons_succ, List.set, List.length_set, ite_true, ite_false, reduceIte, Nat.reduceAdd, Nat.reduceSub, Nat.reduceLT, Nat.reduceEqDiff, Bool.false_eq_true, Bool.not_true, Bool.not_false, decide_true, decide_false, eqD_int, beq_iff_eq, beq_self_eq_true, Bool.not_eq_true', beq_eq_false_iff_ne, ne_eq, not_true_eq_false, not_false_eq_true, compO, compKO, vsOk, wipeD, back, List.all_cons, List.all_nil, List.foldl_cons, List.foldl_nil, Bool.and_true, Bool.true_and, Bool.and_self, Option.getD_some, Option.getD_none, decide_eq_true_eq, List.length_map, atI_0, atI_1, atI_2, lim0, lim1, lim2, lim3, lim4, lim5, lim6, lim7, lim8, lim9, lim10, lim11, lim12, set_last, get_last, eqD_pair, slV, rngL, and_self, true_and, and_true, isa_NoneType_bool, isa_NoneType_int, isa_NoneType_str, isa_NoneType_tuple, isa_NoneType_list, isa_NoneType_dict, isa_bool_bool, isa_bool_int, isa_bool_str, isa_bool_tuple, isa_bool_list, isa_bool_dict, isa_int_bool, isa_int_int, isa_int_str, isa_int_tuple, isa_int_list, isa_int_dict, isa_str_bool, isa_str_int, isa_str_str, isa_str_tuple, isa_str_list, isa_str_dict, isa_tuple_bool, isa_tuple_int, isa_tuple_str, isa_tuple_tuple, isa_tuple_list, isa_tuple_dict, isa_list_bool, isa_list_int, isa_list_str, isa_list_tuple, isa_list_list, isa_list_dict, isa_dict_bool, isa_dict_int, isa_dict_str, isa_dict_tuple, isa_dict_list, isa_dict_dict, ixN_30, ixN_31, ixN_32, b9, e1, hn, hr', m0, lk, lk1, lk2, e2, n1, a1, c1I, c2I]
    · have c1I : ¬ (h.1 : Int) ≤ (s : Int) := by omega
      rw [decide_eq_false fun y => c1 y.1]
      rw [callF_succ]; simp (implicitDefEqProofs := false) only [Int.cast_ofNat_Int, T, List.length_cons, List.length_nil, List.map_cons, List.map_nil, List.replicate, List.cons_append, List.nil_append, evSs, evS, evE, evL, evA, evP, itE, Out.bind, Out.then, OutL.bind, asgP, putS, onB, onS, lift, binR, addR, mulR, binD, cmpD, lstOf, lsqOf, seqOf, lenD, biV, on1, on2, Sr.intD, int2D, vI, vB, ixD, valO, argO, toVal, back1, orS, intV, celL, putC, putO, ownL, endF, tyD, srcM, srcO, walkOf, keyD, augD, Sr.part, pOk, bindP, bindPs, Option.map, List.getElem?_cons_zero, List.getElem?_cons_succ, List.set, List.length_set, ite_true, ite_false, reduceIte, Nat.reduceAdd, Nat.reduceSub, Nat.reduceLT, Nat.reduceEqDiff, Bool.false_eq_true, Bool.not_true, Bool.not_false, decide_true, decide_false, eqD_int, beq_iff_eq, beq_self_eq_true, Bool.not_eq_true', beq_eq_false_iff_ne, ne_eq, not_true_eq_false, not_false_eq_true, compO, compKO, vsOk, wipeD, back, List.all_cons, List.all_nil, List.foldl_cons, List.foldl_nil, Bool.and_true, Bool.true_and, Bool.and_self, Option.getD_some, Option.getD_none, decide_eq_true_eq, List.length_map, atI_0, atI_1, atI_2, lim0, lim1, lim2, lim3, lim4, lim5, lim6, lim7, lim8, lim9, lim10, lim11, lim12, set_last, get_last, eqD_pair, slV, rngL, and_self, true_and, and_true, isa_NoneType_bool, isa_NoneType_int, isa_NoneType_str, isa_NoneType_tuple, isa_NoneType_list, isa_NoneType_dict, isa_bool_bool, isa_bool_int, isa_bool_str, isa_bool_tuple, isa_bool_list, isa_bool_dict, isa_int_bool, isa_int_int, isa_int_str, isa_int_tuple, isa_int_list, isa_int_dict, isa_str_bool, isa_str_int, isa_str_str, isa_str_tuple, isa_str_list, isa_str_dict, isa_tuple_bool, isa_tuple_int, isa_tuple_str, isa_tuple_tuple, isa_tuple_list, isa_tuple_dict, isa_list_bool, isa_list_int, isa_list_str, isa_list_tuple, isa_list_list, isa_list_dict, isa_dict_bool, isa_dict_int, isa_dict_str, isa_dict_tuple, isa_dict_list, isa_dict_dict, ixN_30, ixN_31, ixN_32, b9, e1, hn, hr', m0, lk, lk1, lk2, e2, n1, a1, c1I]
end
end Kx

namespace Kx
open PySem PySem.Spec PyProof.Rows L2 Sr
theorem hasB_at {A B : List Hl} {h : Hl} {s z : Nat} (hA : ∀ x ∈ A, x.1 + x.2 ≤ s) (h1 : h.1 ≤ s) (h2 : s + z ≤ h.1 + h.2) (hz : 1 ≤ z) : hasB (A ++ h :: B) s z = true := by
  unfold hasB
  rw [num_at hA (by omega), List.drop_left]
  exact decide_eq_true ⟨h1, h2⟩
theorem hol {h : Hl} {a b : Int} (e1 : (h.1 : Int) = a) (e2 : (h.2 : Int) = b) : hD h = .tup [.int a, .int b] := by
  rw [← e1, ← e2]; rfl
theorem lp0 : 0 < lim := by decide
theorem lp1 : 1 < lim := by decide
section
variable (k n r w : Nat) {S : List Cell} (hn : S[n]? = some (bk w r))
include hn
theorem take_ (A B : List Hl) (h : Hl) (hr : S[r]? = some (rwS (A ++ h :: B))) (hl : (A ++ h :: B).length ≤ 1000) (s z : Nat) (hz : 1 ≤ z) (hA : ∀ x ∈ A, x.1 + x.2 ≤ s) (h1 : h.1 ≤ s) (h2 : s + z ≤ h.1 + h.2) :
    callF T (k + 4) 11 [(.val, .ref n), (.val, .int (s : Int)), (.val, .int (z : Int))] S = .ok (.val, .non) (S.set r (rwS (A ++ lft h s z ++ B))) := by
  have e1 := has_ k n r w hn _ hr hl s z hz
  rw [hasB_at hA h1 h2 hz] at e1
  have e2 := number_of (k + 2) n r w hn _ hr hl s
  rw [num_at hA (by omega)] at e2
  have m0 : (0 : Nat) ∈ [0] := List.mem_cons_self ..
  have lk : List.lookup ("rows" : Str) [(("width" : Str), D.int (w : Int)), ("rows", .ref r)] = some (.ref r) := rfl
  have lk1 : List.lookup ("number_of" : Str) [(("width" : Str), D.int (w : Int)), ("rows", .ref r)] = none := rfl
  have lk2 : List.lookup 0 [((0 : Nat), 8)] = some 8 := rfl
  have lk3 : List.lookup ("has" : Str) [(("width" : Str), D.int (w : Int)), ("rows", .ref r)] = none := rfl
  have lk4 : List.lookup 0 [((0 : Nat), 9)] = some 9 := rfl
  unfold bk at hn
  have hr' := hr
  unfold rwS at hr'
  have a1 : atI ((A ++ h :: B).map hD) ((A.length : Nat) : Int) = some (.tup [.int (h.1 : Int), .int (h.2 : Int)]) := atI_nat get_mid
  have t1 : ((A ++ h :: B).map hD).take ((A.length : Nat) : Int).toNat = A.map hD := by
    rw [Int.toNat_natCast, List.map_append, ← List.length_map (as := A) hD, List.take_left]
  have t2 : ((A ++ h :: B).map hD).drop (((A.length : Nat) : Int) + 1).toNat = B.map hD := by
    rw [show (((A.length : Nat) : Int) + 1).toNat = A.length + 1 by omega, List.map_append, List.map_cons, ← List.length_map (as := A) hD, ← List.drop_drop, List.drop_left]
    rfl
  have lz : (A ++ h :: B).length = ((A ++ h :: B).map hD).length := (List.length_map ..).symm
  have sl : ∀ j, j ≤ 2 → SlsOk ((A.length : Nat) : Int) (((A.length : Nat) : Int) + 1) (A ++ h :: B).length j := fun j hj => by
    rw [List.length_append, List.length_cons] at hl ⊢
    exact ⟨by omega, by omega, by omega, by show A.length + (B.length + 1) + j ≤ 1000000; omega⟩
  have s0 := sl 0 (by omega)
  have s1 := sl 1 (by omega)
  have s2 := sl 2 (by omega)
  unfold rwS
  rw [List.map_append, List.map_append]
  rw [lz] at s0 s1 s2
  generalize (A ++ h :: B).map hD = ds at *
  unfold lft
  by_cases c1 : h.1 < s
  · have c1I : (h.1 : Int) < (s : Int) := by omega
    have p1 : hD (h.1, s - h.1) = .tup [.int (h.1 : Int), .int ((s : Int) - (h.1 : Int))] := hol rfl (by dsimp only; omega)
    by_cases c2 : s + z < h.1 + h.2
    · have c2I : (s : Int) + (z : Int) < (h.1 : Int) + (h.2 : Int) := by omega
      have p2 : hD (s + z, h.1 + h.2 - (s + z)) = .tup [.int ((s : Int) + (z : Int)), .int ((h.1 : Int) + (h.2 : Int) - (s : Int) - (z : Int))] := hol (by dsimp only; omega) (by dsimp only; omega)
      rw [if_pos c1, if_pos c2, List.singleton_append, List.map_cons, List.map_cons, List.map_nil, p1, p2]
      rw [callF_succ]; simp (implicitDefEqProofs := false) only [Int.cast_ofNat_Int, T, List.length_cons, List.length_nil, List.map_cons, List.map_nil, List.replicate, List.cons_append, List.nil_append, evSs, evS, evE, evL, evA, evP, itE, Out.bind, Out.then, OutL.bind, asgP, putS, onB, onS, lift, binR, addR, mulR, binD, cmpD, lstOf, lsqOf, seqOf, lenD, biV, on1, on2, Sr.intD, int2D, vI, vB, ixD, valO, argO, toVal, back1, orS, intV, celL, putC, putO, ownL, endF, tyD, srcM, srcO, walkOf, keyD, augD, Sr.part, pOk, bindP, bindPs, Option.map, List.getElem?_cons_zero, List.getElem?_cons_succ, List.set, List.length_set, ite_true, ite_false, reduceIte, Nat.reduceAdd, Nat.reduceSub, Nat.reduceLT, Nat.reduceEqDiff, Bool.false_eq_true, Bool.not_true, Bool.not_false, decide_true, decide_false, eqD_int, beq_iff_eq, beq_self_eq_true, Bool.not_eq_true', beq_eq_false_iff_ne, ne_eq, not_true_eq_false, not_false_eq_true, compO, compKO, vsOk, wipeD, back, List.all_cons, List.all_nil, List.foldl_cons, List.foldl_nil, Bool.and_true, Bool.true_and, Bool.and_self, Option.getD_some, Option.getD_none, decide_eq_true_eq, List.length_map, atI_0, atI_1, atI_2, lim0, lim1, lim2, lim3, lim4, lim5, lim6, lim7, lim8, lim9, lim10, lim11, lim12, set_last, get_last, eqD_pair, slV, rngL, and_self, true_and, and_true, isa_NoneType_bool, isa_NoneType_int, isa_NoneType_str, isa_NoneType_tuple, isa_NoneType_list, isa_NoneType_dict, isa_bool_bool, isa_bool_int, isa_bool_str, isa_bool_tuple, isa_bool_list, isa_bool_dict, isa_int_bool, isa_int_int, isa_int_str, isa_int_tuple, isa_int_list, isa_int_dict, isa_str_bool, isa_str_int, isa_str_str, isa_str_tuple, isa_str_list, isa_str_dict, isa_tuple_bool, isa_tuple_int, isa_tuple_str, isa_tuple_tuple, isa_tuple_list, isa_tuple_dict, isa_list_bool, isa_list_int, isa_list_str, isa_list_tuple, isa_list_list, isa_list_dict, isa_dict_bool, isa_dict_int, isa_dict_str, isa_dict_tuple, isa_dict_list, isa_dict_dict, ixN_30, ixN_31, ixN_32, b11, e1, hn, hr', m0, lk, lk1, lk2, lk3, lk4, e2, a1, c1I, c2I, lp0, lp1, lstD, s2, t1, t2]
    · have c2I : ¬ (s : Int) + (z : Int) < (h.1 : Int) + (h.2 : Int) := by omega
      rw [if_pos c1, if_neg c2, List.append_nil, List.map_cons, List.map_nil, p1]
      rw [callF_succ]; simp (implicitDefEqProofs := false) only [Int.cast_ofNat_Int, T, List.length_cons, List.length_nil, List.map_cons, List.map_nil, List.replicate, List.cons_append, List.nil_append, evSs, evS, evE, evL, evA, evP, itE, Out.bind, Out.then, OutL.bind, asgP, putS, onB, onS, lift, binR, addR, mulR, binD, cmpD, lstOf, lsqOf, seqOf, lenD, biV, on1, on2, Sr.intD, int2D, vI, vB, ixD, valO, argO, toVal, back1, orS, intV, celL, putC, putO, ownL, endF, tyD, srcM, srcO, walkOf, keyD, augD, Sr.part, pOk, bindP, bindPs, Option.map, List.getElem?_cons_zero, List.getElem?_cons_succ, List.set, List.length_set, ite_true, ite_false, reduceIte, Nat.reduceAdd, Nat.reduceSub, Nat.reduceLT, Nat.reduceEqDiff, Bool.false_eq_true, Bool.not_true, Bool.not_false, decide_true, decide_false, eqD_int, beq_iff_eq, beq_self_eq_true, Bool.not_eq_true', beq_eq_false_iff_ne, ne_eq, not_true_eq_false, not_false_eq_true, compO, compKO, vsOk, wipeD, back, List.all_cons, List.all_nil, List.foldl_cons, List.foldl_nil, Bool.and_true, Bool.true_and, Bool.and_self, Option.getD_some, Option.getD_none, decide_eq_true_eq, List.length_map, atI_0, atI_1, atI_2, lim0, lim1, lim2, lim3, lim4, lim5, lim6, lim7, lim8, lim9, lim10, lim11, lim12, set_last, get_last, eqD_pair, slV, rngL, and_self, true_and, and_true, isa_NoneType_bool, isa_NoneType_int, isa_NoneType_str, isa_NoneType_tuple, isa_NoneType_list, isa_NoneType_dict, isa_bool_bool, isa_bool_int, isa_bool_str, isa_bool_tuple, isa_bool_list, isa_bool_dict, isa_int_bool, isa_int_int, isa_int_str, isa_int_tuple, isa_int_list, isa_int_dict, isa_str_bool, isa_str_int, isa_str_str, isa_str_tuple, isa_str_list, isa_str_dict, isa_tuple_bool, isa_tuple_int, isa_tuple_str, isa_tuple_tuple, isa_tuple_list, isa_tuple_dict, isa_list_bool, isa_list_int, isa_list_str, isa_list_tuple, isa_list_list, isa_list_dict, isa_dict_bool, isa_dict_int, isa_dict_str, isa_dict_tuple, isa_dict_list, isa_dict_dict, ixN_30, ixN_31, ixN_32, b11, e1, hn, hr', m0, lk, lk1, lk2, lk3, lk4, e2, a1, c1I, c2I, lp0, lp1, lstD, s1, t1, t2]
  · have c1I : ¬ (h.1 : Int) < (s : Int) := by omega
    by_cases c2 : s + z < h.1 + h.2
    · have c2I : (s : Int) + (z : Int) < (h.1 : Int) + (h.2 : Int) := by omega
      have p2 : hD (s + z, h.1 + h.2 - (s + z)) = .tup [.int ((s : Int) + (z : Int)), .int ((h.1 : Int) + (h.2 : Int) - (s : Int) - (z : Int))] := hol (by dsimp only; omega) (by dsimp only; omega)
      rw [if_neg c1, if_pos c2, List.nil_append, List.map_cons, List.map_nil, p2]
      rw [callF_succ]; simp (implicitDefEqProofs := false) only [Int.cast_ofNat_Int, T, List.length_cons, List.length_nil, List.map_cons, List.map_nil, List.replicate, List.cons_append, List.nil_append, evSs, evS, evE, evL, evA, evP, itE, Out.bind, Out.then, OutL.bind, asgP, putS, onB, onS, lift, binR, addR, mulR, binD, cmpD, lstOf, lsqOf, seqOf, lenD, biV, on1, on2, Sr.intD, int2D, vI, vB, ixD, valO, argO, toVal, back1, orS, intV, celL, putC, putO, ownL, endF, tyD, srcM, srcO, walkOf, keyD, augD, Sr.part, pOk, bindP, bindPs, Option.map, List.getElem?_cons_zero, List.getElem?_cons_succ, List.set, List.length_set, ite_true, ite_false, reduceIte, Nat.reduceAdd, Nat.reduceSub, Nat.reduceLT, Nat.reduceEqDiff, Bool.false_eq_true, Bool.not_true, Bool.not_false, decide_true, decide_false, eqD_int, beq_iff_eq, beq_self_eq_true, Bool.not_eq_true', beq_eq_false_iff_ne, ne_eq, not_true_eq_false, not_false_eq_true, compO, compKO, vsOk, wipeD, back, List.all_cons, List.all_nil, List.foldl_cons, List.foldl_nil, Bool.and_true, Bool.true_and, Bool.and_self, Option.getD_some, Option.getD_none, decide_eq_true_eq, List.length_map, atI_0, atI_1, atI_2, lim0, lim1, lim2, lim3, lim4, lim5, lim6, lim7, lim8, lim9, lim10, lim11, lim12, set_last, get_last, eqD_pair, slV, rngL, and_self, true_and, and_true, isa_NoneType_bool, isa_NoneType_int, isa_NoneType_str, isa_NoneType_tuple, isa_NoneType_list, isa_NoneType_dict, isa_bool_bool, isa_bool_int, isa_bool_str, isa_bool_tuple, isa_bool_list, isa_bool_dict, isa_int_bool, isa_int_int, isa_int_str, isa_int_tuple, isa_int_list, isa_int_dict, isa_str_bool, isa_str_int, isa_str_str, isa_str_tuple, isa_str_list, isa_str_dict, isa_tuple_bool, isa_tuple_int, isa_tuple_str, isa_tuple_tuple, isa_tuple_list, isa_tuple_dict, isa_list_bool, isa_list_int, isa_list_str, isa_list_tuple, isa_list_list, isa_list_dict, isa_dict_bool, isa_dict_int, isa_dict_str, isa_dict_tuple, isa_dict_list, isa_dict_dict, ixN_30, ixN_31, ixN_32, b11, e1, hn, hr', m0, lk, lk1, lk2, lk3, lk4, e2, a1, c1I, c2I, lp0, lp1, lstD, s1, t1, t2]
    · have c2I : ¬ (s : Int) + (z : Int) < (h.1 : Int) + (h.2 : Int) := by omega
      rw [if_neg c1, if_neg c2, List.append_nil, List.map_nil]
      rw [callF_succ]; simp (implicitDefEqProofs := false) only [Int.cast_ofNat_Int, T, List.length_cons, List.length_nil, List.map_cons, List.map_nil, List.replicate, List.cons_append, List.nil_append, evSs, evS, evE, evL, evA, evP, itE, Out.bind, Out.then, OutL.bind, asgP, putS, onB, onS, lift, binR, addR, mulR, binD, cmpD, lstOf, lsqOf, seqOf, lenD, biV, on1, on2, Sr.intD, int2D, vI, vB, ixD, valO, argO, toVal, back1, orS, intV, celL, putC, putO, ownL, endF, tyD, srcM, srcO, walkOf, keyD, augD, Sr.part, pOk, bindP, bindPs, Option.map, List.getElem?_cons_zero, List.getElem?_cons_succ, List.set, List.length_set, ite_true, ite_false, reduceIte, Nat.reduceAdd, Nat.reduceSub, Nat.reduceLT, Nat.reduceEqDiff, Bool.false_eq_true, Bool.not_true, Bool.not_false, decide_true, decide_false, eqD_int, beq_iff_eq, beq_self_eq_true, Bool.not_eq_true', beq_eq_false_iff_ne, ne_eq, not_true_eq_false, not_false_eq_true, compO, compKO, vsOk, wipeD, back, List.all_cons, List.all_nil, List.foldl_cons, List.foldl_nil, Bool.and_true, Bool.true_and, Bool.and_self, Option.getD_some, Option.getD_none, decide_eq_true_eq, List.length_map, atI_0, atI_1, atI_2, lim0, lim1, lim2, lim3, lim4, lim5, lim6, lim7, lim8, lim9, lim10, lim11, lim12, set_last, get_last, eqD_pair, slV, rngL, and_self, true_and, and_true, isa_NoneType_bool, isa_NoneType_int, isa_NoneType_str, isa_NoneType_tuple, isa_NoneType_list, isa_NoneType_dict, isa_bool_bool, isa_bool_int, isa_bool_str, isa_bool_tuple, isa_bool_list, isa_bool_dict, isa_int_bool, isa_int_int, isa_int_str, isa_int_tuple, isa_int_list, isa_int_dict, isa_str_bool, isa_str_int, isa_str_str, isa_str_tuple, isa_str_list, isa_str_dict, isa_tuple_bool, isa_tuple_int, isa_tuple_str, isa_tuple_tuple, isa_tuple_list, isa_tuple_dict, isa_list_bool, isa_list_int, isa_list_str, isa_list_tuple, isa_list_list, isa_list_dict, isa_dict_bool, isa_dict_int, isa_dict_str, isa_dict_tuple, isa_dict_list, isa_dict_dict, ixN_30, ixN_31, ixN_32, b11, e1, hn, hr', m0, lk, lk1, lk2, lk3, lk4, e2, a1, c1I, c2I, lp0, lp1, lstD, s0, t1, t2]
theorem told (R : List Hl) (hr : S[r]? = some (rwS R)) : callF T (k + 1) 5 [(.val, .ref n)] S = .ok (.own, .lst (R.map hD)) S := by
  have m0 : (0 : Nat) ∈ [0] := List.mem_cons_self ..
  have lk : List.lookup ("rows" : Str) [(("width" : Str), D.int (w : Int)), ("rows", .ref r)] = some (.ref r) := rfl
  unfold bk at hn
  unfold rwS at hr
  rw [callF_succ]; simp (implicitDefEqProofs := false) only [Int.cast_ofNat_Int, T, List.length_cons, List.length_nil, List.map_cons, List.map_nil, List.replicate, List.cons_append, List.nil_append, evSs, evS, evE, evL, evA, evP, itE, Out.bind, Out.then, OutL.bind, asgP, putS, onB, onS, lift, binR, addR, mulR, binD, cmpD, lstOf, lsqOf, seqOf, lenD, biV, on1, on2, Sr.intD, int2D, vI, vB, ixD, valO, argO, toVal, back1, orS, intV, celL, putC, putO, ownL, endF, tyD, srcM, srcO, walkOf, keyD, augD, Sr.part, pOk, bindP, bindPs, Option.map, List.getElem?_cons_zero, List.getElem?_cons_succ, List.set, List.length_set, ite_true, ite_false, reduceIte, Nat.reduceAdd, Nat.reduceSub, Nat.reduceLT, Nat.reduceEqDiff, Bool.false_eq_true, Bool.not_true, Bool.not_false, decide_true, decide_false, eqD_int, beq_iff_eq, beq_self_eq_true, Bool.not_eq_true', beq_eq_false_iff_ne, ne_eq, not_true_eq_false, not_false_eq_true, compO, compKO, vsOk, wipeD, back, List.all_cons, List.all_nil, List.foldl_cons, List.foldl_nil, Bool.and_true, Bool.true_and, Bool.and_self, Option.getD_some, Option.getD_none, decide_eq_true_eq, List.length_map, atI_0, atI_1, atI_2, lim0, lim1, lim2, lim3, lim4, lim5, lim6, lim7, lim8, lim9, lim10, lim11, lim12, set_last, get_last, eqD_pair, slV, rngL, and_self, true_and, and_true, isa_NoneType_bool, isa_NoneType_int, isa_NoneType_str, isa_NoneType_tuple, isa_NoneType_list, isa_NoneType_dict, isa_bool_bool, isa_bool_int, isa_bool_str, isa_bool_tuple, isa_bool_list, isa_bool_dict, isa_int_bool, isa_int_int, isa_int_str, isa_int_tuple, isa_int_list, isa_int_dict, isa_str_bool, isa_str_int, isa_str_str, isa_str_tuple, isa_str_list, isa_str_dict, isa_tuple_bool, isa_tuple_int, isa_tuple_str, isa_tuple_tuple, isa_tuple_list, isa_tuple_dict, isa_list_bool, isa_list_int, isa_list_str, isa_list_tuple, isa_list_list, isa_list_dict, isa_dict_bool, isa_dict_int, isa_dict_str, isa_dict_tuple, isa_dict_list, isa_dict_dict, ixN_30, ixN_31, ixN_32, b5, hn, m0, lk, hr]
theorem is_taken (A B : List Hl) (hr : S[r]? = some (rwS (A ++ B))) (hl : (A ++ B).length ≤ 1000) (s z : Nat) (hz : 1 ≤ z) (hw : s + z ≤ w) (hA : ∀ x ∈ A, x.1 + x.2 ≤ s) (hB : ∀ b ∈ B, s + z ≤ b.1 ∧ 1 ≤ b.2) :
    callF T (k + 3) 12 [(.val, .ref n), (.val, .int (s : Int)), (.val, .int (z : Int))] S = .ok (.val, .bl true) S := by
  have e1 := is_stretch k (s : Int) (z : Int) (by omega) (by omega) S
  have e2 := number_of (k + 1) n r w hn _ hr hl s
  have m0 : (0 : Nat) ∈ [0] := List.mem_cons_self ..
  have lk : List.lookup ("rows" : Str) [(("width" : Str), D.int (w : Int)), ("rows", .ref r)] = some (.ref r) := rfl
  have lk0 : List.lookup ("width" : Str) [(("width" : Str), D.int (w : Int)), ("rows", .ref r)] = some (.int (w : Int)) := rfl
  have lk1 : List.lookup ("number_of" : Str) [(("width" : Str), D.int (w : Int)), ("rows", .ref r)] = none := rfl
  have lk2 : List.lookup 0 [((0 : Nat), 8)] = some 8 := rfl
  unfold bk at hn
  have hr' := hr
  unfold rwS at hr'
  have wI : ¬ (w : Int) < (s : Int) + (z : Int) := by omega
  cases B with
  | nil =>
    rw [List.append_nil] at e2 hr'
    rw [num_end hA] at e2
    rw [callF_succ]; simp (implicitDefEqProofs := false) only [Int.cast_ofNat_Int, T, List.length_cons, List.length_nil, List.map_cons, List.map_nil, List.replicate, List.cons_append, List.nil_append, evSs, evS, evE, evL, evA, evP, itE, Out.bind, Out.then, OutL.bind, asgP, putS, onB, onS, lift, binR, addR, mulR, binD, cmpD, lstOf, lsqOf, seqOf, lenD, biV, on1, on2, Sr.intD, int2D, vI, vB, ixD, valO, argO, toVal, back1, orS, intV, celL, putC, putO, ownL, endF, tyD, srcM, srcO, walkOf, keyD, augD, Sr.part, pOk, bindP, bindPs, Option.map, List.getElem?_cons_zero, List.getElem?_cons_succ, List.set, List.length_set, ite_true, ite_false, reduceIte, Nat.reduceAdd, Nat.reduceSub, Nat.reduceLT, Nat.reduceEqDiff, Bool.false_eq_true, Bool.not_true, Bool.not_false, decide_true, decide_false, eqD_int, beq_iff_eq, beq_self_eq_true, Bool.not_eq_true', beq_eq_false_iff_ne, ne_eq, not_true_eq_false, not_false_eq_true, compO, compKO, vsOk, wipeD, back, List.all_cons, List.all_nil, List.foldl_cons, List.foldl_nil, Bool.and_true, Bool.true_and, Bool.and_self, Option.getD_some, Option.getD_none, decide_eq_true_eq, List.length_map, atI_0, atI_1, atI_2, lim0, lim1, lim2, lim3, lim4, lim5, lim6, lim7, lim8, lim9, lim10, lim11, lim12, set_last, get_last, eqD_pair, slV, rngL, and_self, true_and, and_true, isa_NoneType_bool, isa_NoneType_int, isa_NoneType_str, isa_NoneType_tuple, isa_NoneType_list, isa_NoneType_dict, isa_bool_bool, isa_bool_int, isa_bool_str, isa_bool_tuple, isa_bool_list, isa_bool_dict, isa_int_bool, isa_int_int, isa_int_str, isa_int_tuple, isa_int_list, isa_int_dict, isa_str_bool, isa_str_int, isa_str_str, isa_str_tuple, isa_str_list, isa_str_dict, isa_tuple_bool, isa_tuple_int, isa_tuple_str, isa_tuple_tuple, isa_tuple_list, isa_tuple_dict, isa_list_bool, isa_list_int, isa_list_str, isa_list_tuple, isa_list_list, isa_list_dict, isa_dict_bool, isa_dict_int, isa_dict_str, isa_dict_tuple, isa_dict_list, isa_dict_dict, ixN_30, ixN_31, ixN_32, b12, e1, hn, hr', m0, lk, lk0, lk1, lk2, e2, wI]
  | cons b t =>
    have hb := hB b (List.mem_cons_self ..)
    rw [num_at hA (by omega)] at e2
    have n1 : ¬ ((A.length : Nat) : Int) = (((A ++ b :: t).length : Nat) : Int) := by rw [List.length_append, List.length_cons]; omega
    have a1 : atI ((A ++ b :: t).map hD) ((A.length : Nat) : Int) = some (.tup [.int (b.1 : Int), .int (b.2 : Int)]) := atI_nat get_mid
    have c1 : (s : Int) + (z : Int) ≤ (b.1 : Int) := by omega
    rw [callF_succ]; simp (implicitDefEqProofs := false) only [Int.cast_ofNat_Int, T, List.length_cons, List.length_nil, List.map_cons, List.map_nil, List.replicate, List.cons_append, List.nil_append, evSs, evS, evE, evL, evA, evP, itE, Out.bind, Out.then, OutL.bind, asgP, putS, onB, onS, lift, binR, addR, mulR, binD, cmpD, lstOf, lsqOf, seqOf, lenD, biV, on1, on2, Sr.intD, int2D, vI, vB, ixD, valO, argO, toVal, back1, orS, intV, celL, putC, putO, ownL, endF, tyD, srcM, srcO, walkOf, keyD, augD, Sr.part, pOk, bindP, bindPs, Option.map, List.getElem?_cons_zero, List.getElem?_cons_succ, List.set, List.length_set, ite_true, ite_false, reduceIte, Nat.reduceAdd, Nat.reduceSub, Nat.reduceLT, Nat.reduceEqDiff, Bool.false_eq_true, Bool.not_true, Bool.not_false, decide_true, decide_false, eqD_int, beq_iff_eq, beq_self_eq_true, Bool.not_eq_true', beq_eq_false_iff_ne, ne_eq, not_true_eq_false, not_false_eq_true, compO, compKO, vsOk, wipeD, back, List.all_cons, List.all_nil, List.foldl_cons, List.foldl_nil, Bool.and_true, Bool.true_and, Bool.and_self, Option.getD_some, Option.getD_none, decide_eq_true_eq, List.length_map, atI_0, atI_1, atI_2, lim0, lim1, lim2, lim3, lim4, lim5, lim6, lim7, lim8, lim9, lim10, lim11, lim12, set_last, get_last, eqD_pair, slV, rngL, and_self, true_and, and_true, isa_NoneType_bool, isa_NoneType_int, isa_NoneType_str, isa_NoneType_tuple, isa_NoneType_list, isa_NoneType_dict, isa_bool_bool, isa_bool_int, isa_bool_str, isa_bool_tuple, isa_bool_list, isa_bool_dict, isa_int_bool, isa_int_int, isa_int_str, isa_int_tuple, isa_int_list, isa_int_dict, isa_str_bool, isa_str_int, isa_str_str, isa_str_tuple, isa_str_list, isa_str_dict, isa_tuple_bool, isa_tuple_int, isa_tuple_str, isa_tuple_tuple, isa_tuple_list, isa_tuple_dict, isa_list_bool, isa_list_int, isa_list_str, isa_list_tuple, isa_list_list, isa_list_dict, isa_dict_bool, isa_dict_int, isa_dict_str, isa_dict_tuple, isa_dict_list, isa_dict_dict, ixN_30, ixN_31, ixN_32, b12, e1, hn, hr', m0, lk, lk0, lk1, lk2, e2, wI, n1, a1, c1]
end
end Kx

namespace Kx
open PySem PySem.Spec PyProof.Rows L2 Sr
noncomputable def gvIf1 : Sm := (.ite (.and (.cmp .gt (.pk 4) (.con (.int 0))) (.cmp .eq (.bin .add (.ix (.ix (.fld (.var 0) "rows" [0]) (.bin .sub (.pk 4) (.con (.int 1)))) (.con (.int 0))) (.ix (.ix (.fld (.var 0) "rows" [0]) (.bin .sub (.pk 4) (.con (.int 1)))) (.con (.int 1)))) (.pk 1))) (.cons (.asg (.nm 5) (.bin .sub (.pk 4) (.con (.int 1)))) (.cons (.asg (.nm 1) (.ix (.ix (.fld (.var 0) "rows" [0]) (.pk 5)) (.con (.int 0)))) .nil)) .nil)
noncomputable def gvIf2 : Sm := (.ite (.and (.cmp .lt (.pk 4) (.bi .len (.cons (.fld (.var 0) "rows" [0]) .nil))) (.cmp .eq (.ix (.ix (.fld (.var 0) "rows" [0]) (.pk 4)) (.con (.int 0))) (.pk 3))) (.cons (.asg (.nm 6) (.bin .add (.pk 4) (.con (.int 1)))) (.cons (.asg (.nm 3) (.bin .add (.pk 3) (.ix (.ix (.fld (.var 0) "rows" [0]) (.pk 4)) (.con (.int 1))))) .nil)) .nil)
def bhd (A B : List Hl) (e : Nat) : Nat := A.length + (B.length - (mrgB B e).1.length)
section
variable (Φ : Nat → List Sl → List Cell → COut) (n r w : Nat) {S : List Cell} (hn : S[n]? = some (bk w r))
include hn
theorem give_if1 (A B : List Hl) (hr : S[r]? = some (rwS (A ++ B))) (s z e : Nat) :
    evS Φ gvIf1 ⟨[some (.val, .ref n), some (.val, .int (s : Int)), some (.val, .int (z : Int)), some (.val, .int (e : Int)), some (.val, .int ((A.length : Nat) : Int)), some (.val, .int ((A.length : Nat) : Int)), some (.val, .int ((A.length : Nat) : Int))], S⟩ = .nx ⟨[some (.val, .ref n), some (.val, .int (((mrgA A s).2 : Nat) : Int)), some (.val, .int (z : Int)), some (.val, .int (e : Int)), some (.val, .int ((A.length : Nat) : Int)), some (.val, .int (((mrgA A s).1.length : Nat) : Int)), some (.val, .int ((A.length : Nat) : Int))], S⟩ := by
  have m0 : (0 : Nat) ∈ [0] := List.mem_cons_self ..
  have lk : List.lookup ("rows" : Str) [(("width" : Str), D.int (w : Int)), ("rows", .ref r)] = some (.ref r) := rfl
  unfold bk at hn
  unfold rwS at hr
  rcases List.eq_nil_or_concat A with hA | ⟨A', l, hA⟩
  · have em : mrgA A s = (A, s) := by rw [hA]; rfl
    have cK : ¬ (0 : Int) < ((A.length : Nat) : Int) := by rw [hA]; decide
    rw [em]
    simp (implicitDefEqProofs := false) only [Int.cast_ofNat_Int, T, List.length_cons, List.length_nil, List.map_cons, List.map_nil, List.replicate, List.cons_append, List.nil_append, evSs, evS, evE, evL, evA, evP, itE, Out.bind, Out.then, OutL.bind, asgP, putS, onB, onS, lift, binR, addR, mulR, binD, cmpD, lstOf, lsqOf, seqOf, lenD, biV, on1, on2, Sr.intD, int2D, vI, vB, ixD, valO, argO, toVal, back1, orS, intV, celL, putC, putO, ownL, endF, tyD, srcM, srcO, walkOf, keyD, augD, Sr.part, pOk, bindP, bindPs, Option.map, List.getElem?_cons_zero, List.getElem?_cons_succ, List.set, List.length_set, ite_true, ite_false, reduceIte, Nat.reduceAdd, Nat.reduceSub, Nat.reduceLT, Nat.reduceEqDiff, Bool.false_eq_true, Bool.not_true, Bool.not_false, decide_true, decide_false, eqD_int, beq_iff_eq, beq_self_eq_true, Bool.not_eq_true', beq_eq_false_iff_ne, ne_eq, not_true_eq_false, not_false_eq_true, compO, compKO, vsOk, wipeD, back, List.all_cons, List.all_nil, List.foldl_cons, List.foldl_nil, Bool.and_true, Bool.true_and, Bool.and_self, Option.getD_some, Option.getD_none, decide_eq_true_eq, List.length_map, atI_0, atI_1, atI_2, lim0, lim1, lim2, lim3, lim4, lim5, lim6, lim7, lim8, lim9, lim10, lim11, lim12, set_last, get_last, eqD_pair, slV, rngL, and_self, true_and, and_true, isa_NoneType_bool, isa_NoneType_int, isa_NoneType_str, isa_NoneType_tuple, isa_NoneType_list, isa_NoneType_dict, isa_bool_bool, isa_bool_int, isa_bool_str, isa_bool_tuple, isa_bool_list, isa_bool_dict, isa_int_bool, isa_int_int, isa_int_str, isa_int_tuple, isa_int_list, isa_int_dict, isa_str_bool, isa_str_int, isa_str_str, isa_str_tuple, isa_str_list, isa_str_dict, isa_tuple_bool, isa_tuple_int, isa_tuple_str, isa_tuple_tuple, isa_tuple_list, isa_tuple_dict, isa_list_bool, isa_list_int, isa_list_str, isa_list_tuple, isa_list_list, isa_list_dict, isa_dict_bool, isa_dict_int, isa_dict_str, isa_dict_tuple, isa_dict_list, isa_dict_dict, ixN_30, ixN_31, ixN_32, gvIf1, cK]
  · rw [List.concat_eq_append] at hA
    have em : mrgA A s = if l.1 + l.2 = s then (A', l.1) else (A, s) := by
      unfold mrgA
      rw [hA, List.getLast?_concat, List.dropLast_concat]
    have la : A.length = A'.length + 1 := by rw [hA, List.length_append]; rfl
    have cK : (0 : Int) < ((A.length : Nat) : Int) := by omega
    have eK : ((A.length : Nat) : Int) - 1 = ((A'.length : Nat) : Int) := by omega
    have a1 : atI ((A ++ B).map hD) ((A'.length : Nat) : Int) = some (.tup [.int (l.1 : Int), .int (l.2 : Int)]) := by
      rw [hA, List.append_assoc]
      exact atI_nat get_mid
    generalize (A ++ B).map hD = ds at *
    rw [em]
    by_cases c : l.1 + l.2 = s
    · have cI : (l.1 : Int) + (l.2 : Int) = (s : Int) := by omega
      rw [if_pos c]
      simp (implicitDefEqProofs := false) only [Int.cast_ofNat_Int, T, List.length_cons, List.length_nil, List.map_cons, List.map_nil, List.replicate, List.cons_append, List.nil_append, evSs, evS, evE, evL, evA, evP, itE, Out.bind, Out.then, OutL.bind, asgP, putS, onB, onS, lift, binR, addR, mulR, binD, cmpD, lstOf, lsqOf, seqOf, lenD, biV, on1, on2, Sr.intD, int2D, vI, vB, ixD, valO, argO, toVal, back1, orS, intV, celL, putC, putO, ownL, endF, tyD, srcM, srcO, walkOf, keyD, augD, Sr.part, pOk, bindP, bindPs, Option.map, List.getElem?_cons_zero, List.getElem?_cons_succ, List.set, List.length_set, ite_true, ite_false, reduceIte, Nat.reduceAdd, Nat.reduceSub, Nat.reduceLT, Nat.reduceEqDiff, Bool.false_eq_true, Bool.not_true, Bool.not_false, decide_true, decide_false, eqD_int, beq_iff_eq, beq_self_eq_true, Bool.not_eq_true', beq_eq_false_iff_ne, ne_eq, not_true_eq_false, not_false_eq_true, compO, compKO, vsOk, wipeD, back, List.all_cons, List.all_nil, List.foldl_cons, List.foldl_nil, Bool.and_true, Bool.true_and, Bool.and_self, Option.getD_some, Option.getD_none, decide_eq_true_eq, List.length_map, atI_0, atI_1, atI_2, lim0, lim1, lim2, lim3, lim4, lim5, lim6, lim7, lim8, lim9, lim10, lim11, lim12, set_last, get_last, eqD_pair, slV, rngL, and_self, true_and, and_true, isa_NoneType_bool, isa_NoneType_int, isa_NoneType_str, isa_NoneType_tuple, isa_NoneType_list, isa_NoneType_dict, isa_bool_bool, isa_bool_int, isa_bool_str, isa_bool_tuple, isa_bool_list, isa_bool_dict, isa_int_bool, isa_int_int, isa_int_str, isa_int_tuple, isa_int_list, isa_int_dict, isa_str_bool, isa_str_int, isa_str_str, isa_str_tuple, isa_str_list, isa_str_dict, isa_tuple_bool, isa_tuple_int, isa_tuple_str, isa_tuple_tuple, isa_tuple_list, isa_tuple_dict, isa_list_bool, isa_list_int, isa_list_str, isa_list_tuple, isa_list_list, isa_list_dict, isa_dict_bool, isa_dict_int, isa_dict_str, isa_dict_tuple, isa_dict_list, isa_dict_dict, ixN_30, ixN_31, ixN_32, gvIf1, cK, eK, hn, m0, lk, hr, a1, cI]
    · have cI : ¬ (l.1 : Int) + (l.2 : Int) = (s : Int) := by omega
      rw [if_neg c]
      simp (implicitDefEqProofs := false) only [Int.cast_ofNat_Int, T, List.length_cons, List.length_nil, List.map_cons, List.map_nil, List.replicate, List.cons_append, List.nil_append, evSs, evS, evE, evL, evA, evP, itE, Out.bind, Out.then, OutL.bind, asgP, putS, onB, onS, lift, binR, addR, mulR, binD, cmpD, lstOf, lsqOf, seqOf, lenD, biV, on1, on2, Sr.intD, int2D, vI, vB, ixD, valO, argO, toVal, back1, orS, intV, celL, putC, putO, ownL, endF, tyD, srcM, srcO, walkOf, keyD, augD, Sr.part, pOk, bindP, bindPs, Option.map, List.getElem?_cons_zero, List.getElem?_cons_succ, List.set, List.length_set, ite_true, ite_false, reduceIte, Nat.reduceAdd, Nat.reduceSub, Nat.reduceLT, Nat.reduceEqDiff, Bool.false_eq_true, Bool.not_true, Bool.not_false, decide_true, decide_false, eqD_int, beq_iff_eq, beq_self_eq_true, Bool.not_eq_true', beq_eq_false_iff_ne, ne_eq, not_true_eq_false, not_false_eq_true, compO, compKO, vsOk, wipeD, back, List.all_cons, List.all_nil, List.foldl_cons, List.foldl_nil, Bool.and_true, Bool.true_and, Bool.and_self, Option.getD_some, Option.getD_none, decide_eq_true_eq, List.length_map, atI_0, atI_1, atI_2, lim0, lim1, lim2, lim3, lim4, lim5, lim6, lim7, lim8, lim9, lim10, lim11, lim12, set_last, get_last, eqD_pair, slV, rngL, and_self, true_and, and_true, isa_NoneType_bool, isa_NoneType_int, isa_NoneType_str, isa_NoneType_tuple, isa_NoneType_list, isa_NoneType_dict, isa_bool_bool, isa_bool_int, isa_bool_str, isa_bool_tuple, isa_bool_list, isa_bool_dict, isa_int_bool, isa_int_int, isa_int_str, isa_int_tuple, isa_int_list, isa_int_dict, isa_str_bool, isa_str_int, isa_str_str, isa_str_tuple, isa_str_list, isa_str_dict, isa_tuple_bool, isa_tuple_int, isa_tuple_str, isa_tuple_tuple, isa_tuple_list, isa_tuple_dict, isa_list_bool, isa_list_int, isa_list_str, isa_list_tuple, isa_list_list, isa_list_dict, isa_dict_bool, isa_dict_int, isa_dict_str, isa_dict_tuple, isa_dict_list, isa_dict_dict, ixN_30, ixN_31, ixN_32, gvIf1, cK, eK, hn, m0, lk, hr, a1, cI]
theorem give_if2 (A B : List Hl) (hr : S[r]? = some (rwS (A ++ B))) (x1 x5 : Option Sl) (z e : Nat) :
    evS Φ gvIf2 ⟨[some (.val, .ref n), x1, some (.val, .int (z : Int)), some (.val, .int (e : Int)), some (.val, .int ((A.length : Nat) : Int)), x5, some (.val, .int ((A.length : Nat) : Int))], S⟩ = .nx ⟨[some (.val, .ref n), x1, some (.val, .int (z : Int)), some (.val, .int (((mrgB B e).2 : Nat) : Int)), some (.val, .int ((A.length : Nat) : Int)), x5, some (.val, .int ((bhd A B e : Nat) : Int))], S⟩ := by
  have m0 : (0 : Nat) ∈ [0] := List.mem_cons_self ..
  have lk : List.lookup ("rows" : Str) [(("width" : Str), D.int (w : Int)), ("rows", .ref r)] = some (.ref r) := rfl
  unfold bk at hn
  unfold rwS at hr
  cases B with
  | nil =>
    have cK : ¬ ((A.length : Nat) : Int) < (((A ++ []).map hD).length : Nat) := by rw [List.append_nil, List.length_map]; omega
    have eb : bhd A [] e = A.length := rfl
    have em : mrgB [] e = ([], e) := rfl
    rw [em, eb]
    generalize (A ++ []).map hD = ds at *
    simp (implicitDefEqProofs := false) only [Int.cast_ofNat_Int, T, List.length_cons, List.length_nil, List.map_cons, List.map_nil, List.replicate, List.cons_append, List.nil_append, evSs, evS, evE, evL, evA, evP, itE, Out.bind, Out.then, OutL.bind, asgP, putS, onB, onS, lift, binR, addR, mulR, binD, cmpD, lstOf, lsqOf, seqOf, lenD, biV, on1, on2, Sr.intD, int2D, vI, vB, ixD, valO, argO, toVal, back1, orS, intV, celL, putC, putO, ownL, endF, tyD, srcM, srcO, walkOf, keyD, augD, Sr.part, pOk, bindP, bindPs, Option.map, List.getElem?_cons_zero, List.getElem?_cons_succ, List.set, List.length_set, ite_true, ite_false, reduceIte, Nat.reduceAdd, Nat.reduceSub, Nat.reduceLT, Nat.reduceEqDiff, Bool.false_eq_true, Bool.not_true, Bool.not_false, decide_true, decide_false, eqD_int, beq_iff_eq, beq_self_eq_true, Bool.not_eq_true', beq_eq_false_iff_ne, ne_eq, not_true_eq_false, not_false_eq_true, compO, compKO, vsOk, wipeD, back, List.all_cons, List.all_nil, List.foldl_cons, List.foldl_nil, Bool.and_true, Bool.true_and, Bool.and_self, Option.getD_some, Option.getD_none, decide_eq_true_eq, List.length_map, atI_0, atI_1, atI_2, lim0, lim1, lim2, lim3, lim4, lim5, lim6, lim7, lim8, lim9, lim10, lim11, lim12, set_last, get_last, eqD_pair, slV, rngL, and_self, true_and, and_true, isa_NoneType_bool, isa_NoneType_int, isa_NoneType_str, isa_NoneType_tuple, isa_NoneType_list, isa_NoneType_dict, isa_bool_bool, isa_bool_int, isa_bool_str, isa_bool_tuple, isa_bool_list, isa_bool_dict, isa_int_bool, isa_int_int, isa_int_str, isa_int_tuple, isa_int_list, isa_int_dict, isa_str_bool, isa_str_int, isa_str_str, isa_str_tuple, isa_str_list, isa_str_dict, isa_tuple_bool, isa_tuple_int, isa_tuple_str, isa_tuple_tuple, isa_tuple_list, isa_tuple_dict, isa_list_bool, isa_list_int, isa_list_str, isa_list_tuple, isa_list_list, isa_list_dict, isa_dict_bool, isa_dict_int, isa_dict_str, isa_dict_tuple, isa_dict_list, isa_dict_dict, ixN_30, ixN_31, ixN_32, gvIf2, hn, m0, lk, hr, cK]
  | cons b t =>
    have cK : ((A.length : Nat) : Int) < (((A ++ b :: t).map hD).length : Nat) := by rw [List.length_map, List.length_append, List.length_cons]; omega
    have a1 : atI ((A ++ b :: t).map hD) ((A.length : Nat) : Int) = some (.tup [.int (b.1 : Int), .int (b.2 : Int)]) := atI_nat get_mid
    have em : mrgB (b :: t) e = if b.1 = e then (t, e + b.2) else (b :: t, e) := rfl
    generalize (A ++ b :: t).map hD = ds at *
    unfold bhd
    rw [em]
    by_cases c : b.1 = e
    · have cI : (b.1 : Int) = (e : Int) := by omega
      rw [if_pos c]
      dsimp only
      rw [show A.length + ((b :: t).length - t.length) = A.length + 1 by rw [List.length_cons]; omega, Int.natCast_add, Int.natCast_add]
      simp (implicitDefEqProofs := false) only [Int.cast_ofNat_Int, T, List.length_cons, List.length_nil, List.map_cons, List.map_nil, List.replicate, List.cons_append, List.nil_append, evSs, evS, evE, evL, evA, evP, itE, Out.bind, Out.then, OutL.bind, asgP, putS, onB, onS, lift, binR, addR, mulR, binD, cmpD, lstOf, lsqOf, seqOf, lenD, biV, on1, on2, Sr.intD, int2D, vI, vB, ixD, valO, argO, toVal, back1, orS, intV, celL, putC, putO, ownL, endF, tyD, srcM, srcO, walkOf, keyD, augD, Sr.part, pOk, bindP, bindPs, Option.map, List.getElem?_cons_zero, List.getElem?_cons_succ, List.set, List.length_set, ite_true, ite_false, reduceIte, Nat.reduceAdd, Nat.reduceSub, Nat.reduceLT, Nat.reduceEqDiff, Bool.false_eq_true, Bool.not_true, Bool.not_false, decide_true, decide_false, eqD_int, beq_iff_eq, beq_self_eq_true, Bool.not_eq_true', beq_eq_false_iff_ne, ne_eq, not_true_eq_false, not_false_eq_true, compO, compKO, vsOk, wipeD, back, List.all_cons, List.all_nil, List.foldl_cons, List.foldl_nil, Bool.and_true, Bool.true_and, Bool.and_self, Option.getD_some, Option.getD_none, decide_eq_true_eq, List.length_map, atI_0, atI_1, atI_2, lim0, lim1, lim2, lim3, lim4, lim5, lim6, lim7, lim8, lim9, lim10, lim11, lim12, set_last, get_last, eqD_pair, slV, rngL, and_self, true_and, and_true, isa_NoneType_bool, isa_NoneType_int, isa_NoneType_str, isa_NoneType_tuple, isa_NoneType_list, isa_NoneType_dict, isa_bool_bool, isa_bool_int, isa_bool_str, isa_bool_tuple, isa_bool_list, isa_bool_dict, isa_int_bool, isa_int_int, isa_int_str, isa_int_tuple, isa_int_list, isa_int_dict, isa_str_bool, isa_str_int, isa_str_str, isa_str_tuple, isa_str_list, isa_str_dict, isa_tuple_bool, isa_tuple_int, isa_tuple_str, isa_tuple_tuple, isa_tuple_list, isa_tuple_dict, isa_list_bool, isa_list_int, isa_list_str, isa_list_tuple, isa_list_list, isa_list_dict, isa_dict_bool, isa_dict_int, isa_dict_str, isa_dict_tuple, isa_dict_list, isa_dict_dict, ixN_30, ixN_31, ixN_32, gvIf2, hn, m0, lk, hr, cK, a1, cI]
    · have cI : ¬ (b.1 : Int) = (e : Int) := by omega
      rw [if_neg c]
      dsimp only
      rw [show A.length + ((b :: t).length - (b :: t).length) = A.length by omega]
      simp (implicitDefEqProofs := false) only [Int.cast_ofNat_Int, T, List.length_cons, List.length_nil, List.map_cons, List.map_nil, List.replicate, List.cons_append, List.nil_append, evSs, evS, evE, evL, evA, evP, itE, Out.bind, Out.then, OutL.bind, asgP, putS, onB, onS, lift, binR, addR, mulR, binD, cmpD, lstOf, lsqOf, seqOf, lenD, biV, on1, on2, Sr.intD, int2D, vI, vB, ixD, valO, argO, toVal, back1, orS, intV, celL, putC, putO, ownL, endF, tyD, srcM, srcO, walkOf, keyD, augD, Sr.part, pOk, bindP, bindPs, Option.map, List.getElem?_cons_zero, List.getElem?_cons_succ, List.set, List.length_set, ite_true, ite_false, reduceIte, Nat.reduceAdd, Nat.reduceSub, Nat.reduceLT, Nat.reduceEqDiff, Bool.false_eq_true, Bool.not_true, Bool.not_false, decide_true, decide_false, eqD_int, beq_iff_eq, beq_self_eq_true, Bool.not_eq_true', beq_eq_false_iff_ne, ne_eq, not_true_eq_false, not_false_eq_true, compO, compKO, vsOk, wipeD, back, List.all_cons, List.all_nil, List.foldl_cons, List.foldl_nil, Bool.and_true, Bool.true_and, Bool.and_self, Option.getD_some, Option.getD_none, decide_eq_true_eq, List.length_map, atI_0, atI_1, atI_2, lim0, lim1, lim2, lim3, lim4, lim5, lim6, lim7, lim8, lim9, lim10, lim11, lim12, set_last, get_last, eqD_pair, slV, rngL, and_self, true_and, and_true, isa_NoneType_bool, isa_NoneType_int, isa_NoneType_str, isa_NoneType_tuple, isa_NoneType_list, isa_NoneType_dict, isa_bool_bool, isa_bool_int, isa_bool_str, isa_bool_tuple, isa_bool_list, isa_bool_dict, isa_int_bool, isa_int_int, isa_int_str, isa_int_tuple, isa_int_list, isa_int_dict, isa_str_bool, isa_str_int, isa_str_str, isa_str_tuple, isa_str_list, isa_str_dict, isa_tuple_bool, isa_tuple_int, isa_tuple_str, isa_tuple_tuple, isa_tuple_list, isa_tuple_dict, isa_list_bool, isa_list_int, isa_list_str, isa_list_tuple, isa_list_list, isa_list_dict, isa_dict_bool, isa_dict_int, isa_dict_str, isa_dict_tuple, isa_dict_list, isa_dict_dict, ixN_30, ixN_31, ixN_32, gvIf2, hn, m0, lk, hr, cK, a1, cI]
end
theorem mrgA_len {A : List Hl} {s : Nat} : (mrgA A s).1 = A.take (mrgA A s).1.length ∧ (mrgA A s).1.length ≤ A.length := by
  rcases List.eq_nil_or_concat A with rfl | ⟨A', l, rfl⟩
  · exact ⟨rfl, Nat.le_refl _⟩
  · rw [List.concat_eq_append]
    have em : mrgA (A' ++ [l]) s = if l.1 + l.2 = s then (A', l.1) else (A' ++ [l], s) := by
      unfold mrgA
      rw [List.getLast?_concat, List.dropLast_concat]
    rw [em]
    split
    · exact ⟨by rw [List.take_left], by rw [List.length_append]; dsimp only; omega⟩
    · exact ⟨by rw [List.take_length], Nat.le_refl _⟩
theorem mrgB_len {A B : List Hl} {e : Nat} : (mrgB B e).1 = (A ++ B).drop (bhd A B e) ∧ A.length ≤ bhd A B e ∧ bhd A B e ≤ (A ++ B).length := by
  unfold bhd
  cases B with
  | nil => exact ⟨by show [] = _; rw [List.append_nil, List.drop_of_length_le (Nat.le_add_right _ _)], Nat.le_add_right _ _, by rw [List.append_nil]; exact Nat.le_refl _⟩
  | cons b t =>
    have em : mrgB (b :: t) e = if b.1 = e then (t, e + b.2) else (b :: t, e) := rfl
    rw [em]
    split
    · refine ⟨?_, Nat.le_add_right _ _, by rw [List.length_append]; omega⟩
      dsimp only
      rw [show (b :: t).length - t.length = 1 by rw [List.length_cons]; omega, ← List.drop_drop, List.drop_left]
      rfl
    · refine ⟨?_, Nat.le_add_right _ _, by rw [List.length_append]; omega⟩
      dsimp only
      rw [Nat.sub_self, Nat.add_zero, List.drop_left]
section
variable (k n r w : Nat) {S : List Cell} (hn : S[n]? = some (bk w r))
include hn
theorem give_ (A B : List Hl) (hr : S[r]? = some (rwS (A ++ B))) (hl : (A ++ B).length ≤ 1000) (s z : Nat) (hz : 1 ≤ z) (hw : s + z ≤ w) (hA : ∀ x ∈ A, x.1 + x.2 ≤ s) (hB : ∀ b ∈ B, s + z ≤ b.1 ∧ 1 ≤ b.2) :
    callF T (k + 4) 13 [(.val, .ref n), (.val, .int (s : Int)), (.val, .int (z : Int))] S = .ok (.val, .non) (S.set r (rwS (gv A B s z))) := by
  have e1 := is_taken k n r w hn A B hr hl s z hz hw hA hB
  have e2 := number_of (k + 2) n r w hn _ hr hl s
  have eK : num (A ++ B) s = A.length := by
    cases B with
    | nil => rw [List.append_nil]; exact num_end hA
    | cons b t => have := hB b (List.mem_cons_self ..); exact num_at hA (by omega)
  rw [eK] at e2
  have f1 := give_if1 (callF T (k + 3)) n r w hn A B hr s z (s + z)
  have f2 := give_if2 (callF T (k + 3)) n r w hn A B hr (some (.val, .int (((mrgA A s).2 : Nat) : Int))) (some (.val, .int (((mrgA A s).1.length : Nat) : Int))) z (s + z)
  obtain ⟨t1, t2⟩ := mrgA_len (A := A) (s := s)
  obtain ⟨t3, t4, t5⟩ := mrgB_len (A := A) (B := B) (e := s + z)
  have m0 : (0 : Nat) ∈ [0] := List.mem_cons_self ..
  have lk : List.lookup ("rows" : Str) [(("width" : Str), D.int (w : Int)), ("rows", .ref r)] = some (.ref r) := rfl
  have lk1 : List.lookup ("number_of" : Str) [(("width" : Str), D.int (w : Int)), ("rows", .ref r)] = none := rfl
  have lk2 : List.lookup 0 [((0 : Nat), 8)] = some 8 := rfl
  have lk3 : List.lookup ("is_taken" : Str) [(("width" : Str), D.int (w : Int)), ("rows", .ref r)] = none := rfl
  have lk4 : List.lookup 0 [((0 : Nat), 12)] = some 12 := rfl
  have le1 : (mrgA A s).2 ≤ s := by
    unfold mrgA
    split
    · rename_i l _
      split
      · dsimp only; omega
      · exact Nat.le_refl _
    · exact Nat.le_refl _
  have le2 : s + z ≤ (mrgB B (s + z)).2 := by
    unfold mrgB
    split
    · exact Nat.le_refl _
    · split
      · dsimp only; omega
      · exact Nat.le_refl _
  have eg : (gv A B s z).map hD = ((A ++ B).map hD).take (mrgA A s).1.length ++ [.tup [.int (((mrgA A s).2 : Nat) : Int), .int ((((mrgB B (s + z)).2 : Nat) : Int) - (((mrgA A s).2 : Nat) : Int))]] ++ ((A ++ B).map hD).drop (bhd A B (s + z)) := by
    unfold gv
    rw [List.map_append, List.map_cons, ← List.map_take, ← List.map_drop, ← t3, List.take_append_of_le_length t2, ← t1, List.append_assoc]
    congr 2
    exact hol rfl (by dsimp only; omega)
  have sl : SlsOk (((mrgA A s).1.length : Nat) : Int) ((bhd A B (s + z) : Nat) : Int) ((A ++ B).map hD).length 1 := by
    rw [List.length_map]
    exact ⟨by omega, by omega, by omega, by show _ ≤ 1000000; omega⟩
  unfold bk at hn
  have hr' := hr
  unfold rwS at hr'
  unfold rwS
  rw [eg]
  generalize (A ++ B).map hD = ds at *
  rw [Int.natCast_add] at f1 f2
  have z0 : ∀ i : Nat, ((i : Nat) : Int).toNat = i := Int.toNat_natCast
  rw [callF_succ]
  show endF (evSs (callF T (k + 3)) b13 ⟨[some (.val, .ref n), some (.val, .int (s : Int)), some (.val, .int (z : Int)), none, none, none, none], S⟩) = _
  unfold b13
  refine Eq.trans (congrArg endF (ss_go (s1 := ⟨[some (.val, .ref n), some (.val, .int (s : Int)), some (.val, .int (z : Int)), none, none, none, none], S⟩) ?_)) ?_
  · simp (implicitDefEqProofs := false) only [Int.cast_ofNat_Int, T, List.length_cons, List.length_nil, List.map_cons, List.map_nil, List.replicate, List.cons_append, List.nil_append, evSs, evS, evE, evL, evA, evP, itE, Out.bind, Out.then, OutL.bind, asgP, putS, onB, onS, lift, binR, addR, mulR, binD, cmpD, lstOf, lsqOf, seqOf, lenD, biV, on1, on2, Sr.intD, int2D, vI, vB, ixD, valO, argO, toVal, back1, orS, intV, celL, putC, putO, ownL, endF, tyD, srcM, srcO, walkOf, keyD, augD, Sr.part, pOk, bindP, bindPs, Option.map, List.getElem?_cons_zero, List.getElem?_cons_succ, List.set, List.length_set, ite_true, ite_false, reduceIte, Nat.reduceAdd, Nat.reduceSub, Nat.reduceLT, Nat.reduceEqDiff, Bool.false_eq_true, Bool.not_true, Bool.not_false, decide_true, decide_false, eqD_int, beq_iff_eq, beq_self_eq_true, Bool.not_eq_true', beq_eq_false_iff_ne, ne_eq, not_true_eq_false, not_false_eq_true, compO, compKO, vsOk, wipeD, back, List.all_cons, List.all_nil, List.foldl_cons, List.foldl_nil, Bool.and_true, Bool.true_and, Bool.and_self, Option.getD_some, Option.getD_none, decide_eq_true_eq, List.length_map, atI_0, atI_1, atI_2, lim0, lim1, lim2, lim3, lim4, lim5, lim6, lim7, lim8, lim9, lim10, lim11, lim12, set_last, get_last, eqD_pair, slV, rngL, and_self, true_and, and_true, isa_NoneType_bool, isa_NoneType_int, isa_NoneType_str, isa_NoneType_tuple, isa_NoneType_list, isa_NoneType_dict, isa_bool_bool, isa_bool_int, isa_bool_str, isa_bool_tuple, isa_bool_list, isa_bool_dict, isa_int_bool, isa_int_int, isa_int_str, isa_int_tuple, isa_int_list, isa_int_dict, isa_str_bool, isa_str_int, isa_str_str, isa_str_tuple, isa_str_list, isa_str_dict, isa_tuple_bool, isa_tuple_int, isa_tuple_str, isa_tuple_tuple, isa_tuple_list, isa_tuple_dict, isa_list_bool, isa_list_int, isa_list_str, isa_list_tuple, isa_list_list, isa_list_dict, isa_dict_bool, isa_dict_int, isa_dict_str, isa_dict_tuple, isa_dict_list, isa_dict_dict, ixN_30, ixN_31, ixN_32, hn, lk3, lk4, e1]
  refine Eq.trans (congrArg endF (ss_go (s1 := ⟨[some (.val, .ref n), some (.val, .int (s : Int)), some (.val, .int (z : Int)), some (.val, .int ((s : Int) + (z : Int))), none, none, none], S⟩) ?_)) ?_
  · simp (implicitDefEqProofs := false) only [Int.cast_ofNat_Int, T, List.length_cons, List.length_nil, List.map_cons, List.map_nil, List.replicate, List.cons_append, List.nil_append, evSs, evS, evE, evL, evA, evP, itE, Out.bind, Out.then, OutL.bind, asgP, putS, onB, onS, lift, binR, addR, mulR, binD, cmpD, lstOf, lsqOf, seqOf, lenD, biV, on1, on2, Sr.intD, int2D, vI, vB, ixD, valO, argO, toVal, back1, orS, intV, celL, putC, putO, ownL, endF, tyD, srcM, srcO, walkOf, keyD, augD, Sr.part, pOk, bindP, bindPs, Option.map, List.getElem?_cons_zero, List.getElem?_cons_succ, List.set, List.length_set, ite_true, ite_false, reduceIte, Nat.reduceAdd, Nat.reduceSub, Nat.reduceLT, Nat.reduceEqDiff, Bool.false_eq_true, Bool.not_true, Bool.not_false, decide_true, decide_false, eqD_int, beq_iff_eq, beq_self_eq_true, Bool.not_eq_true', beq_eq_false_iff_ne, ne_eq, not_true_eq_false, not_false_eq_true, compO, compKO, vsOk, wipeD, back, List.all_cons, List.all_nil, List.foldl_cons, List.foldl_nil, Bool.and_true, Bool.true_and, Bool.and_self, Option.getD_some, Option.getD_none, decide_eq_true_eq, List.length_map, atI_0, atI_1, atI_2, lim0, lim1, lim2, lim3, lim4, lim5, lim6, lim7, lim8, lim9, lim10, lim11, lim12, set_last, get_last, eqD_pair, slV, rngL, and_self, true_and, and_true, isa_NoneType_bool, isa_NoneType_int, isa_NoneType_str, isa_NoneType_tuple, isa_NoneType_list, isa_NoneType_dict, isa_bool_bool, isa_bool_int, isa_bool_str, isa_bool_tuple, isa_bool_list, isa_bool_dict, isa_int_bool, isa_int_int, isa_int_str, isa_int_tuple, isa_int_list, isa_int_dict, isa_str_bool, isa_str_int, isa_str_str, isa_str_tuple, isa_str_list, isa_str_dict, isa_tuple_bool, isa_tuple_int, isa_tuple_str, isa_tuple_tuple, isa_tuple_list, isa_tuple_dict, isa_list_bool, isa_list_int, isa_list_str, isa_list_tuple, isa_list_list, isa_list_dict, isa_dict_bool, isa_dict_int, isa_dict_str, isa_dict_tuple, isa_dict_list, isa_dict_dict, ixN_30, ixN_31, ixN_32]
  refine Eq.trans (congrArg endF (ss_go (s1 := ⟨[some (.val, .ref n), some (.val, .int (s : Int)), some (.val, .int (z : Int)), some (.val, .int ((s : Int) + (z : Int))), some (.val, .int ((A.length : Nat) : Int)), none, none], S⟩) ?_)) ?_
  · simp (implicitDefEqProofs := false) only [Int.cast_ofNat_Int, T, List.length_cons, List.length_nil, List.map_cons, List.map_nil, List.replicate, List.cons_append, List.nil_append, evSs, evS, evE, evL, evA, evP, itE, Out.bind, Out.then, OutL.bind, asgP, putS, onB, onS, lift, binR, addR, mulR, binD, cmpD, lstOf, lsqOf, seqOf, lenD, biV, on1, on2, Sr.intD, int2D, vI, vB, ixD, valO, argO, toVal, back1, orS, intV, celL, putC, putO, ownL, endF, tyD, srcM, srcO, walkOf, keyD, augD, Sr.part, pOk, bindP, bindPs, Option.map, List.getElem?_cons_zero, List.getElem?_cons_succ, List.set, List.length_set, ite_true, ite_false, reduceIte, Nat.reduceAdd, Nat.reduceSub, Nat.reduceLT, Nat.reduceEqDiff, Bool.false_eq_true, Bool.not_true, Bool.not_false, decide_true, decide_false, eqD_int, beq_iff_eq, beq_self_eq_true, Bool.not_eq_true', beq_eq_false_iff_ne, ne_eq, not_true_eq_false, not_false_eq_true, compO, compKO, vsOk, wipeD, back, List.all_cons, List.all_nil, List.foldl_cons, List.foldl_nil, Bool.and_true, Bool.true_and, Bool.and_self, Option.getD_some, Option.getD_none, decide_eq_true_eq, List.length_map, atI_0, atI_1, atI_2, lim0, lim1, lim2, lim3, lim4, lim5, lim6, lim7, lim8, lim9, lim10, lim11, lim12, set_last, get_last, eqD_pair, slV, rngL, and_self, true_and, and_true, isa_NoneType_bool, isa_NoneType_int, isa_NoneType_str, isa_NoneType_tuple, isa_NoneType_list, isa_NoneType_dict, isa_bool_bool, isa_bool_int, isa_bool_str, isa_bool_tuple, isa_bool_list, isa_bool_dict, isa_int_bool, isa_int_int, isa_int_str, isa_int_tuple, isa_int_list, isa_int_dict, isa_str_bool, isa_str_int, isa_str_str, isa_str_tuple, isa_str_list, isa_str_dict, isa_tuple_bool, isa_tuple_int, isa_tuple_str, isa_tuple_tuple, isa_tuple_list, isa_tuple_dict, isa_list_bool, isa_list_int, isa_list_str, isa_list_tuple, isa_list_list, isa_list_dict, isa_dict_bool, isa_dict_int, isa_dict_str, isa_dict_tuple, isa_dict_list, isa_dict_dict, ixN_30, ixN_31, ixN_32, hn, lk1, lk2, e2]
  refine Eq.trans (congrArg endF (ss_go (s1 := ⟨[some (.val, .ref n), some (.val, .int (s : Int)), some (.val, .int (z : Int)), some (.val, .int ((s : Int) + (z : Int))), some (.val, .int ((A.length : Nat) : Int)), some (.val, .int ((A.length : Nat) : Int)), none], S⟩) ?_)) ?_
  · simp (implicitDefEqProofs := false) only [Int.cast_ofNat_Int, T, List.length_cons, List.length_nil, List.map_cons, List.map_nil, List.replicate, List.cons_append, List.nil_append, evSs, evS, evE, evL, evA, evP, itE, Out.bind, Out.then, OutL.bind, asgP, putS, onB, onS, lift, binR, addR, mulR, binD, cmpD, lstOf, lsqOf, seqOf, lenD, biV, on1, on2, Sr.intD, int2D, vI, vB, ixD, valO, argO, toVal, back1, orS, intV, celL, putC, putO, ownL, endF, tyD, srcM, srcO, walkOf, keyD, augD, Sr.part, pOk, bindP, bindPs, Option.map, List.getElem?_cons_zero, List.getElem?_cons_succ, List.set, List.length_set, ite_true, ite_false, reduceIte, Nat.reduceAdd, Nat.reduceSub, Nat.reduceLT, Nat.reduceEqDiff, Bool.false_eq_true, Bool.not_true, Bool.not_false, decide_true, decide_false, eqD_int, beq_iff_eq, beq_self_eq_true, Bool.not_eq_true', beq_eq_false_iff_ne, ne_eq, not_true_eq_false, not_false_eq_true, compO, compKO, vsOk, wipeD, back, List.all_cons, List.all_nil, List.foldl_cons, List.foldl_nil, Bool.and_true, Bool.true_and, Bool.and_self, Option.getD_some, Option.getD_none, decide_eq_true_eq, List.length_map, atI_0, atI_1, atI_2, lim0, lim1, lim2, lim3, lim4, lim5, lim6, lim7, lim8, lim9, lim10, lim11, lim12, set_last, get_last, eqD_pair, slV, rngL, and_self, true_and, and_true, isa_NoneType_bool, isa_NoneType_int, isa_NoneType_str, isa_NoneType_tuple, isa_NoneType_list, isa_NoneType_dict, isa_bool_bool, isa_bool_int, isa_bool_str, isa_bool_tuple, isa_bool_list, isa_bool_dict, isa_int_bool, isa_int_int, isa_int_str, isa_int_tuple, isa_int_list, isa_int_dict, isa_str_bool, isa_str_int, isa_str_str, isa_str_tuple, isa_str_list, isa_str_dict, isa_tuple_bool, isa_tuple_int, isa_tuple_str, isa_tuple_tuple, isa_tuple_list, isa_tuple_dict, isa_list_bool, isa_list_int, isa_list_str, isa_list_tuple, isa_list_list, isa_list_dict, isa_dict_bool, isa_dict_int, isa_dict_str, isa_dict_tuple, isa_dict_list, isa_dict_dict, ixN_30, ixN_31, ixN_32]
  refine Eq.trans (congrArg endF (ss_go (s1 := ⟨[some (.val, .ref n), some (.val, .int (s : Int)), some (.val, .int (z : Int)), some (.val, .int ((s : Int) + (z : Int))), some (.val, .int ((A.length : Nat) : Int)), some (.val, .int ((A.length : Nat) : Int)), some (.val, .int ((A.length : Nat) : Int))], S⟩) ?_)) ?_
  · simp (implicitDefEqProofs := false) only [Int.cast_ofNat_Int, T, List.length_cons, List.length_nil, List.map_cons, List.map_nil, List.replicate, List.cons_append, List.nil_append, evSs, evS, evE, evL, evA, evP, itE, Out.bind, Out.then, OutL.bind, asgP, putS, onB, onS, lift, binR, addR, mulR, binD, cmpD, lstOf, lsqOf, seqOf, lenD, biV, on1, on2, Sr.intD, int2D, vI, vB, ixD, valO, argO, toVal, back1, orS, intV, celL, putC, putO, ownL, endF, tyD, srcM, srcO, walkOf, keyD, augD, Sr.part, pOk, bindP, bindPs, Option.map, List.getElem?_cons_zero, List.getElem?_cons_succ, List.set, List.length_set, ite_true, ite_false, reduceIte, Nat.reduceAdd, Nat.reduceSub, Nat.reduceLT, Nat.reduceEqDiff, Bool.false_eq_true, Bool.not_true, Bool.not_false, decide_true, decide_false, eqD_int, beq_iff_eq, beq_self_eq_true, Bool.not_eq_true', beq_eq_false_iff_ne, ne_eq, not_true_eq_false, not_false_eq_true, compO, compKO, vsOk, wipeD, back, List.all_cons, List.all_nil, List.foldl_cons, List.foldl_nil, Bool.and_true, Bool.true_and, Bool.and_self, Option.getD_some, Option.getD_none, decide_eq_true_eq, List.length_map, atI_0, atI_1, atI_2, lim0, lim1, lim2, lim3, lim4, lim5, lim6, lim7, lim8, lim9, lim10, lim11, lim12, set_last, get_last, eqD_pair, slV, rngL, and_self, true_and, and_true, isa_NoneType_bool, isa_NoneType_int, isa_NoneType_str, isa_NoneType_tuple, isa_NoneType_list, isa_NoneType_dict, isa_bool_bool, isa_bool_int, isa_bool_str, isa_bool_tuple, isa_bool_list, isa_bool_dict, isa_int_bool, isa_int_int, isa_int_str, isa_int_tuple, isa_int_list, isa_int_dict, isa_str_bool, isa_str_int, isa_str_str, isa_str_tuple, isa_str_list, isa_str_dict, isa_tuple_bool, isa_tuple_int, isa_tuple_str, isa_tuple_tuple, isa_tuple_list, isa_tuple_dict, isa_list_bool, isa_list_int, isa_list_str, isa_list_tuple, isa_list_list, isa_list_dict, isa_dict_bool, isa_dict_int, isa_dict_str, isa_dict_tuple, isa_dict_list, isa_dict_dict, ixN_30, ixN_31, ixN_32]
  refine Eq.trans (congrArg endF (ss_go f1)) ?_
  refine Eq.trans (congrArg endF (ss_go f2)) ?_
  simp (implicitDefEqProofs := false) only [Int.cast_ofNat_Int, T, List.length_cons, List.length_nil, List.map_cons, List.map_nil, List.replicate, List.cons_append, List.nil_append, evSs, evS, evE, evL, evA, evP, itE, Out.bind, Out.then, OutL.bind, asgP, putS, onB, onS, lift, binR, addR, mulR, binD, cmpD, lstOf, lsqOf, seqOf, lenD, biV, on1, on2, Sr.intD, int2D, vI, vB, ixD, valO, argO, toVal, back1, orS, intV, celL, putC, putO, ownL, endF, tyD, srcM, srcO, walkOf, keyD, augD, Sr.part, pOk, bindP, bindPs, Option.map, List.getElem?_cons_zero, List.getElem?_cons_succ, List.set, List.length_set, ite_true, ite_false, reduceIte, Nat.reduceAdd, Nat.reduceSub, Nat.reduceLT, Nat.reduceEqDiff, Bool.false_eq_true, Bool.not_true, Bool.not_false, decide_true, decide_false, eqD_int, beq_iff_eq, beq_self_eq_true, Bool.not_eq_true', beq_eq_false_iff_ne, ne_eq, not_true_eq_false, not_false_eq_true, compO, compKO, vsOk, wipeD, back, List.all_cons, List.all_nil, List.foldl_cons, List.foldl_nil, Bool.and_true, Bool.true_and, Bool.and_self, Option.getD_some, Option.getD_none, decide_eq_true_eq, List.length_map, atI_0, atI_1, atI_2, lim0, lim1, lim2, lim3, lim4, lim5, lim6, lim7, lim8, lim9, lim10, lim11, lim12, set_last, get_last, eqD_pair, slV, rngL, and_self, true_and, and_true, isa_NoneType_bool, isa_NoneType_int, isa_NoneType_str, isa_NoneType_tuple, isa_NoneType_list, isa_NoneType_dict, isa_bool_bool, isa_bool_int, isa_bool_str, isa_bool_tuple, isa_bool_list, isa_bool_dict, isa_int_bool, isa_int_int, isa_int_str, isa_int_tuple, isa_int_list, isa_int_dict, isa_str_bool, isa_str_int, isa_str_str, isa_str_tuple, isa_str_list, isa_str_dict, isa_tuple_bool, isa_tuple_int, isa_tuple_str, isa_tuple_tuple, isa_tuple_list, isa_tuple_dict, isa_list_bool, isa_list_int, isa_list_str, isa_list_tuple, isa_list_list, isa_list_dict, isa_dict_bool, isa_dict_int, isa_dict_str, isa_dict_tuple, isa_dict_list, isa_dict_dict, ixN_30, ixN_31, ixN_32, hn, m0, lk, hr', lstD, sl, z0]
end
end Kx

namespace Kx
open PySem PySem.Spec PyProof.Rows L2 Sr
def sizesD (R : List Hl) : List D := R.map fun h => D.int (h.2 : Int)
theorem ints_sizes : ∀ R : List Hl, intsOf (sizesD R) = some (R.map fun h => (h.2 : Int))
  | [] => rfl
  | h :: t => by
    show (intsOf (sizesD t)).map _ = _
    rw [ints_sizes t]
    rfl
theorem sum_sizes : ∀ (R : List Hl), (R.map fun h => (h.2 : Int)).sum = ((sumH R : Nat) : Int)
  | [] => rfl
  | h :: t => by
    rw [List.map_cons, List.sum_cons, sum_sizes t]
    show (h.2 : Int) + _ = ((h.2 + sumH t : Nat) : Int)
    rw [Int.natCast_add]
section
variable (k n r w : Nat) {S : List Cell} (hn : S[n]? = some (bk w r))
include hn
theorem sizes_fc (Φ : Nat → List Sl → List Cell → COut) (R : List Hl) (hl : R.length ≤ 1000) (hr : S[r]? = some (rwS R)) : evE Φ e7_1 ⟨[some (.val, .ref n), none, none], S⟩ = .ok (.own, .lst (sizesD R)) ⟨[some (.val, .ref n), none, none], S⟩ := by
  have key := compKL_map (n := r) (ds0 := R.map hD) (vs := [1, 2]) (p := .tup [.nm 1, .nm 2]) (c := evE Φ yes) (e := evE Φ x7_0) (S := S) (env0 := [some (.val, .ref n), none, none]) hr hD (fun _ => true) (fun h => .int (h.2 : Int)) R [] (fun h _ => by
    refine ⟨[some (.val, .ref n), some (.val, .int (h.1 : Int)), some (.val, .int (h.2 : Int))], ?_, evE_yes _ _, rfl, fun _ => ⟨[some (.val, .ref n), some (.val, .int (h.1 : Int)), some (.val, .int (h.2 : Int))], (.val, .int (h.2 : Int)), ?_, rfl, rfl⟩⟩
    · unfold hD
      simp (implicitDefEqProofs := false) only [Int.cast_ofNat_Int, T, List.length_cons, List.length_nil, List.map_cons, List.map_nil, List.replicate, List.cons_append, List.nil_append, evSs, evS, evE, evL, evA, evP, itE, Out.bind, Out.then, OutL.bind, asgP, putS, onB, onS, lift, binR, addR, mulR, binD, cmpD, lstOf, lsqOf, seqOf, lenD, biV, on1, on2, Sr.intD, int2D, vI, vB, ixD, valO, argO, toVal, back1, orS, intV, celL, putC, putO, ownL, endF, tyD, srcM, srcO, walkOf, keyD, augD, Sr.part, pOk, bindP, bindPs, Option.map, List.getElem?_cons_zero, List.getElem?_cons_succ, List.set, List.length_set, ite_true, ite_false, reduceIte, Nat.reduceAdd, Nat.reduceSub, Nat.reduceLT, Nat.reduceEqDiff, Bool.false_eq_true, Bool.not_true, Bool.not_false, decide_true, decide_false, eqD_int, beq_iff_eq, beq_self_eq_true, Bool.not_eq_true', beq_eq_false_iff_ne, ne_eq, not_true_eq_false, not_false_eq_true, compO, compKO, vsOk, wipeD, back, List.all_cons, List.all_nil, List.foldl_cons, List.foldl_nil, Bool.and_true, Bool.true_and, Bool.and_self, Option.getD_some, Option.getD_none, decide_eq_true_eq, List.length_map, atI_0, atI_1, atI_2, lim0, lim1, lim2, lim3, lim4, lim5, lim6, lim7, lim8, lim9, lim10, lim11, lim12, set_last, get_last, eqD_pair, slV, rngL, and_self, true_and, and_true, isa_NoneType_bool, isa_NoneType_int, isa_NoneType_str, isa_NoneType_tuple, isa_NoneType_list, isa_NoneType_dict, isa_bool_bool, isa_bool_int, isa_bool_str, isa_bool_tuple, isa_bool_list, isa_bool_dict, isa_int_bool, isa_int_int, isa_int_str, isa_int_tuple, isa_int_list, isa_int_dict, isa_str_bool, isa_str_int, isa_str_str, isa_str_tuple, isa_str_list, isa_str_dict, isa_tuple_bool, isa_tuple_int, isa_tuple_str, isa_tuple_tuple, isa_tuple_list, isa_tuple_dict, isa_list_bool, isa_list_int, isa_list_str, isa_list_tuple, isa_list_list, isa_list_dict, isa_dict_bool, isa_dict_int, isa_dict_str, isa_dict_tuple, isa_dict_list, isa_dict_dict, ixN_30, ixN_31, ixN_32]
    · simp (implicitDefEqProofs := false) only [Int.cast_ofNat_Int, T, List.length_cons, List.length_nil, List.map_cons, List.map_nil, List.replicate, List.cons_append, List.nil_append, evSs, evS, evE, evL, evA, evP, itE, Out.bind, Out.then, OutL.bind, asgP, putS, onB, onS, lift, binR, addR, mulR, binD, cmpD, lstOf, lsqOf, seqOf, lenD, biV, on1, on2, Sr.intD, int2D, vI, vB, ixD, valO, argO, toVal, back1, orS, intV, celL, putC, putO, ownL, endF, tyD, srcM, srcO, walkOf, keyD, augD, Sr.part, pOk, bindP, bindPs, Option.map, List.getElem?_cons_zero, List.getElem?_cons_succ, List.set, List.length_set, ite_true, ite_false, reduceIte, Nat.reduceAdd, Nat.reduceSub, Nat.reduceLT, Nat.reduceEqDiff, Bool.false_eq_true, Bool.not_true, Bool.not_false, decide_true, decide_false, eqD_int, beq_iff_eq, beq_self_eq_true, Bool.not_eq_true', beq_eq_false_iff_ne, ne_eq, not_true_eq_false, not_false_eq_true, compO, compKO, vsOk, wipeD, back, List.all_cons, List.all_nil, List.foldl_cons, List.foldl_nil, Bool.and_true, Bool.true_and, Bool.and_self, Option.getD_some, Option.getD_none, decide_eq_true_eq, List.length_map, atI_0, atI_1, atI_2, lim0, lim1, lim2, lim3, lim4, lim5, lim6, lim7, lim8, lim9, lim10, lim11, lim12, set_last, get_last, eqD_pair, slV, rngL, and_self, true_and, and_true, isa_NoneType_bool, isa_NoneType_int, isa_NoneType_str, isa_NoneType_tuple, isa_NoneType_list, isa_NoneType_dict, isa_bool_bool, isa_bool_int, isa_bool_str, isa_bool_tuple, isa_bool_list, isa_bool_dict, isa_int_bool, isa_int_int, isa_int_str, isa_int_tuple, isa_int_list, isa_int_dict, isa_str_bool, isa_str_int, isa_str_str, isa_str_tuple, isa_str_list, isa_str_dict, isa_tuple_bool, isa_tuple_int, isa_tuple_str, isa_tuple_tuple, isa_tuple_list, isa_tuple_dict, isa_list_bool, isa_list_int, isa_list_str, isa_list_tuple, isa_list_list, isa_list_dict, isa_dict_bool, isa_dict_int, isa_dict_str, isa_dict_tuple, isa_dict_list, isa_dict_dict, ixN_30, ixN_31, ixN_32, x7_0]) (by show 0 + R.length ≤ 1000000; omega)
  have m0 : (0 : Nat) ∈ [0] := List.mem_cons_self ..
  have lk : List.lookup ("rows" : Str) [(("width" : Str), D.int (w : Int)), ("rows", .ref r)] = some (.ref r) := rfl
  rw [List.nil_append, List.filter_eq_self.mpr fun _ _ => rfl] at key
  unfold bk at hn
  unfold rwS at hr
  simp (implicitDefEqProofs := false) only [Int.cast_ofNat_Int, T, List.length_cons, List.length_nil, List.map_cons, List.map_nil, List.replicate, List.cons_append, List.nil_append, evSs, evS, evE, evL, evA, evP, itE, Out.bind, Out.then, OutL.bind, asgP, putS, onB, onS, lift, binR, addR, mulR, binD, cmpD, lstOf, lsqOf, seqOf, lenD, biV, on1, on2, Sr.intD, int2D, vI, vB, ixD, valO, argO, toVal, back1, orS, intV, celL, putC, putO, ownL, endF, tyD, srcM, srcO, walkOf, keyD, augD, Sr.part, pOk, bindP, bindPs, Option.map, List.getElem?_cons_zero, List.getElem?_cons_succ, List.set, List.length_set, ite_true, ite_false, reduceIte, Nat.reduceAdd, Nat.reduceSub, Nat.reduceLT, Nat.reduceEqDiff, Bool.false_eq_true, Bool.not_true, Bool.not_false, decide_true, decide_false, eqD_int, beq_iff_eq, beq_self_eq_true, Bool.not_eq_true', beq_eq_false_iff_ne, ne_eq, not_true_eq_false, not_false_eq_true, compO, compKO, vsOk, wipeD, back, List.all_cons, List.all_nil, List.foldl_cons, List.foldl_nil, Bool.and_true, Bool.true_and, Bool.and_self, Option.getD_some, Option.getD_none, decide_eq_true_eq, List.length_map, atI_0, atI_1, atI_2, lim0, lim1, lim2, lim3, lim4, lim5, lim6, lim7, lim8, lim9, lim10, lim11, lim12, set_last, get_last, eqD_pair, slV, rngL, and_self, true_and, and_true, isa_NoneType_bool, isa_NoneType_int, isa_NoneType_str, isa_NoneType_tuple, isa_NoneType_list, isa_NoneType_dict, isa_bool_bool, isa_bool_int, isa_bool_str, isa_bool_tuple, isa_bool_list, isa_bool_dict, isa_int_bool, isa_int_int, isa_int_str, isa_int_tuple, isa_int_list, isa_int_dict, isa_str_bool, isa_str_int, isa_str_str, isa_str_tuple, isa_str_list, isa_str_dict, isa_tuple_bool, isa_tuple_int, isa_tuple_str, isa_tuple_tuple, isa_tuple_list, isa_tuple_dict, isa_list_bool, isa_list_int, isa_list_str, isa_list_tuple, isa_list_list, isa_list_dict, isa_dict_bool, isa_dict_int, isa_dict_str, isa_dict_tuple, isa_dict_list, isa_dict_dict, ixN_30, ixN_31, ixN_32, e7_1, hn, m0, lk, hr, key]
  rfl
theorem free_ (R : List Hl) (hl : R.length ≤ 1000) (hr : S[r]? = some (rwS R)) : callF T (k + 1) 7 [(.val, .ref n)] S = .ok (.val, .int ((sumH R : Nat) : Int)) S := by
  have e := sizes_fc n r w hn (callF T k) R hl hr
  have q := sum_sizes R
  rw [callF_succ]; simp (implicitDefEqProofs := false) only [Int.cast_ofNat_Int, T, List.length_cons, List.length_nil, List.map_cons, List.map_nil, List.replicate, List.cons_append, List.nil_append, evSs, evS, evE, evL, evA, evP, itE, Out.bind, Out.then, OutL.bind, asgP, putS, onB, onS, lift, binR, addR, mulR, binD, cmpD, lstOf, lsqOf, seqOf, lenD, biV, on1, on2, Sr.intD, int2D, vI, vB, ixD, valO, argO, toVal, back1, orS, intV, celL, putC, putO, ownL, endF, tyD, srcM, srcO, walkOf, keyD, augD, Sr.part, pOk, bindP, bindPs, Option.map, List.getElem?_cons_zero, List.getElem?_cons_succ, List.set, List.length_set, ite_true, ite_false, reduceIte, Nat.reduceAdd, Nat.reduceSub, Nat.reduceLT, Nat.reduceEqDiff, Bool.false_eq_true, Bool.not_true, Bool.not_false, decide_true, decide_false, eqD_int, beq_iff_eq, beq_self_eq_true, Bool.not_eq_true', beq_eq_false_iff_ne, ne_eq, not_true_eq_false, not_false_eq_true, compO, compKO, vsOk, wipeD, back, List.all_cons, List.all_nil, List.foldl_cons, List.foldl_nil, Bool.and_true, Bool.true_and, Bool.and_self, Option.getD_some, Option.getD_none, decide_eq_true_eq, List.length_map, atI_0, atI_1, atI_2, lim0, lim1, lim2, lim3, lim4, lim5, lim6, lim7, lim8, lim9, lim10, lim11, lim12, set_last, get_last, eqD_pair, slV, rngL, and_self, true_and, and_true, isa_NoneType_bool, isa_NoneType_int, isa_NoneType_str, isa_NoneType_tuple, isa_NoneType_list, isa_NoneType_dict, isa_bool_bool, isa_bool_int, isa_bool_str, isa_bool_tuple, isa_bool_list, isa_bool_dict, isa_int_bool, isa_int_int, isa_int_str, isa_int_tuple, isa_int_list, isa_int_dict, isa_str_bool, isa_str_int, isa_str_str, isa_str_tuple, isa_str_list, isa_str_dict, isa_tuple_bool, isa_tuple_int, isa_tuple_str, isa_tuple_tuple, isa_tuple_list, isa_tuple_dict, isa_list_bool, isa_list_int, isa_list_str, isa_list_tuple, isa_list_list, isa_list_dict, isa_dict_bool, isa_dict_int, isa_dict_str, isa_dict_tuple, isa_dict_list, isa_dict_dict, ixN_30, ixN_31, ixN_32, b7, e, ints_sizes, Option.bind_some, q]
theorem sizes_lh (Φ : Nat → List Sl → List Cell → COut) (R : List Hl) (hl : R.length ≤ 1000) (hr : S[r]? = some (rwS R)) : evE Φ e6_1 ⟨[some (.val, .ref n), none, none], S⟩ = .ok (.own, .lst (sizesD R)) ⟨[some (.val, .ref n), none, none], S⟩ := by
  have key := compKL_map (n := r) (ds0 := R.map hD) (vs := [1, 2]) (p := .tup [.nm 1, .nm 2]) (c := evE Φ yes) (e := evE Φ x6_0) (S := S) (env0 := [some (.val, .ref n), none, none]) hr hD (fun _ => true) (fun h => .int (h.2 : Int)) R [] (fun h _ => by
    refine ⟨[some (.val, .ref n), some (.val, .int (h.1 : Int)), some (.val, .int (h.2 : Int))], ?_, evE_yes _ _, rfl, fun _ => ⟨[some (.val, .ref n), some (.val, .int (h.1 : Int)), some (.val, .int (h.2 : Int))], (.val, .int (h.2 : Int)), ?_, rfl, rfl⟩⟩
    · unfold hD
      simp (implicitDefEqProofs := false) only [Int.cast_ofNat_Int, T, List.length_cons, List.length_nil, List.map_cons, List.map_nil, List.replicate, List.cons_append, List.nil_append, evSs, evS, evE, evL, evA, evP, itE, Out.bind, Out.then, OutL.bind, asgP, putS, onB, onS, lift, binR, addR, mulR, binD, cmpD, lstOf, lsqOf, seqOf, lenD, biV, on1, on2, Sr.intD, int2D, vI, vB, ixD, valO, argO, toVal, back1, orS, intV, celL, putC, putO, ownL, endF, tyD, srcM, srcO, walkOf, keyD, augD, Sr.part, pOk, bindP, bindPs, Option.map, List.getElem?_cons_zero, List.getElem?_cons_succ, List.set, List.length_set, ite_true, ite_false, reduceIte, Nat.reduceAdd, Nat.reduceSub, Nat.reduceLT, Nat.reduceEqDiff, Bool.false_eq_true, Bool.not_true, Bool.not_false, decide_true, decide_false, eqD_int, beq_iff_eq, beq_self_eq_true, Bool.not_eq_true', beq_eq_false_iff_ne, ne_eq, not_true_eq_false, not_false_eq_true, compO, compKO, vsOk, wipeD, back, List.all_cons, List.all_nil, List.foldl_cons, List.foldl_nil, Bool.and_true, Bool.true_and, Bool.and_self, Option.getD_some, Option.getD_none, decide_eq_true_eq, List.length_map, atI_0, atI_1, atI_2, lim0, lim1, lim2, lim3, lim4, lim5, lim6, lim7, lim8, lim9, lim10, lim11, lim12, set_last, get_last, eqD_pair, slV, rngL, and_self, true_and, and_true, isa_NoneType_bool, isa_NoneType_int, isa_NoneType_str, isa_NoneType_tuple, isa_NoneType_list, isa_NoneType_dict, isa_bool_bool, isa_bool_int, isa_bool_str, isa_bool_tuple, isa_bool_list, isa_bool_dict, isa_int_bool, isa_int_int, isa_int_str, isa_int_tuple, isa_int_list, isa_int_dict, isa_str_bool, isa_str_int, isa_str_str, isa_str_tuple, isa_str_list, isa_str_dict, isa_tuple_bool, isa_tuple_int, isa_tuple_str, isa_tuple_tuple, isa_tuple_list, isa_tuple_dict, isa_list_bool, isa_list_int, isa_list_str, isa_list_tuple, isa_list_list, isa_list_dict, isa_dict_bool, isa_dict_int, isa_dict_str, isa_dict_tuple, isa_dict_list, isa_dict_dict, ixN_30, ixN_31, ixN_32]
    · simp (implicitDefEqProofs := false) only [Int.cast_ofNat_Int, T, List.length_cons, List.length_nil, List.map_cons, List.map_nil, List.replicate, List.cons_append, List.nil_append, evSs, evS, evE, evL, evA, evP, itE, Out.bind, Out.then, OutL.bind, asgP, putS, onB, onS, lift, binR, addR, mulR, binD, cmpD, lstOf, lsqOf, seqOf, lenD, biV, on1, on2, Sr.intD, int2D, vI, vB, ixD, valO, argO, toVal, back1, orS, intV, celL, putC, putO, ownL, endF, tyD, srcM, srcO, walkOf, keyD, augD, Sr.part, pOk, bindP, bindPs, Option.map, List.getElem?_cons_zero, List.getElem?_cons_succ, List.set, List.length_set, ite_true, ite_false, reduceIte, Nat.reduceAdd, Nat.reduceSub, Nat.reduceLT, Nat.reduceEqDiff, Bool.false_eq_true, Bool.not_true, Bool.not_false, decide_true, decide_false, eqD_int, beq_iff_eq, beq_self_eq_true, Bool.not_eq_true', beq_eq_false_iff_ne, ne_eq, not_true_eq_false, not_false_eq_true, compO, compKO, vsOk, wipeD, back, List.all_cons, List.all_nil, List.foldl_cons, List.foldl_nil, Bool.and_true, Bool.true_and, Bool.and_self, Option.getD_some, Option.getD_none, decide_eq_true_eq, List.length_map, atI_0, atI_1, atI_2, lim0, lim1, lim2, lim3, lim4, lim5, lim6, lim7, lim8, lim9, lim10, lim11, lim12, set_last, get_last, eqD_pair, slV, rngL, and_self, true_and, and_true, isa_NoneType_bool, isa_NoneType_int, isa_NoneType_str, isa_NoneType_tuple, isa_NoneType_list, isa_NoneType_dict, isa_bool_bool, isa_bool_int, isa_bool_str, isa_bool_tuple, isa_bool_list, isa_bool_dict, isa_int_bool, isa_int_int, isa_int_str, isa_int_tuple, isa_int_list, isa_int_dict, isa_str_bool, isa_str_int, isa_str_str, isa_str_tuple, isa_str_list, isa_str_dict, isa_tuple_bool, isa_tuple_int, isa_tuple_str, isa_tuple_tuple, isa_tuple_list, isa_tuple_dict, isa_list_bool, isa_list_int, isa_list_str, isa_list_tuple, isa_list_list, isa_list_dict, isa_dict_bool, isa_dict_int, isa_dict_str, isa_dict_tuple, isa_dict_list, isa_dict_dict, ixN_30, ixN_31, ixN_32, x6_0]) (by show 0 + R.length ≤ 1000000; omega)
  have m0 : (0 : Nat) ∈ [0] := List.mem_cons_self ..
  have lk : List.lookup ("rows" : Str) [(("width" : Str), D.int (w : Int)), ("rows", .ref r)] = some (.ref r) := rfl
  rw [List.nil_append, List.filter_eq_self.mpr fun _ _ => rfl] at key
  unfold bk at hn
  unfold rwS at hr
  simp (implicitDefEqProofs := false) only [Int.cast_ofNat_Int, T, List.length_cons, List.length_nil, List.map_cons, List.map_nil, List.replicate, List.cons_append, List.nil_append, evSs, evS, evE, evL, evA, evP, itE, Out.bind, Out.then, OutL.bind, asgP, putS, onB, onS, lift, binR, addR, mulR, binD, cmpD, lstOf, lsqOf, seqOf, lenD, biV, on1, on2, Sr.intD, int2D, vI, vB, ixD, valO, argO, toVal, back1, orS, intV, celL, putC, putO, ownL, endF, tyD, srcM, srcO, walkOf, keyD, augD, Sr.part, pOk, bindP, bindPs, Option.map, List.getElem?_cons_zero, List.getElem?_cons_succ, List.set, List.length_set, ite_true, ite_false, reduceIte, Nat.reduceAdd, Nat.reduceSub, Nat.reduceLT, Nat.reduceEqDiff, Bool.false_eq_true, Bool.not_true, Bool.not_false, decide_true, decide_false, eqD_int, beq_iff_eq, beq_self_eq_true, Bool.not_eq_true', beq_eq_false_iff_ne, ne_eq, not_true_eq_false, not_false_eq_true, compO, compKO, vsOk, wipeD, back, List.all_cons, List.all_nil, List.foldl_cons, List.foldl_nil, Bool.and_true, Bool.true_and, Bool.and_self, Option.getD_some, Option.getD_none, decide_eq_true_eq, List.length_map, atI_0, atI_1, atI_2, lim0, lim1, lim2, lim3, lim4, lim5, lim6, lim7, lim8, lim9, lim10, lim11, lim12, set_last, get_last, eqD_pair, slV, rngL, and_self, true_and, and_true, isa_NoneType_bool, isa_NoneType_int, isa_NoneType_str, isa_NoneType_tuple, isa_NoneType_list, isa_NoneType_dict, isa_bool_bool, isa_bool_int, isa_bool_str, isa_bool_tuple, isa_bool_list, isa_bool_dict, isa_int_bool, isa_int_int, isa_int_str, isa_int_tuple, isa_int_list, isa_int_dict, isa_str_bool, isa_str_int, isa_str_str, isa_str_tuple, isa_str_list, isa_str_dict, isa_tuple_bool, isa_tuple_int, isa_tuple_str, isa_tuple_tuple, isa_tuple_list, isa_tuple_dict, isa_list_bool, isa_list_int, isa_list_str, isa_list_tuple, isa_list_list, isa_list_dict, isa_dict_bool, isa_dict_int, isa_dict_str, isa_dict_tuple, isa_dict_list, isa_dict_dict, ixN_30, ixN_31, ixN_32, e6_1, hn, m0, lk, hr, key]
  rfl
theorem largest_ (R : List Hl) (hl : R.length ≤ 1000) (hr : S[r]? = some (rwS R)) : callF T (k + 1) 6 [(.val, .ref n)] S = .ok (.val, .int (maxL 0 (R.map fun h => (h.2 : Int)))) S := by
  have e := sizes_lh n r w hn (callF T k) R hl hr
  rw [callF_succ]; simp (implicitDefEqProofs := false) only [Int.cast_ofNat_Int, T, List.length_cons, List.length_nil, List.map_cons, List.map_nil, List.replicate, List.cons_append, List.nil_append, evSs, evS, evE, evL, evA, evP, itE, Out.bind, Out.then, OutL.bind, asgP, putS, onB, onS, lift, binR, addR, mulR, binD, cmpD, lstOf, lsqOf, seqOf, lenD, biV, on1, on2, Sr.intD, int2D, vI, vB, ixD, valO, argO, toVal, back1, orS, intV, celL, putC, putO, ownL, endF, tyD, srcM, srcO, walkOf, keyD, augD, Sr.part, pOk, bindP, bindPs, Option.map, List.getElem?_cons_zero, List.getElem?_cons_succ, List.set, List.length_set, ite_true, ite_false, reduceIte, Nat.reduceAdd, Nat.reduceSub, Nat.reduceLT, Nat.reduceEqDiff, Bool.false_eq_true, Bool.not_true, Bool.not_false, decide_true, decide_false, eqD_int, beq_iff_eq, beq_self_eq_true, Bool.not_eq_true', beq_eq_false_iff_ne, ne_eq, not_true_eq_false, not_false_eq_true, compO, compKO, vsOk, wipeD, back, List.all_cons, List.all_nil, List.foldl_cons, List.foldl_nil, Bool.and_true, Bool.true_and, Bool.and_self, Option.getD_some, Option.getD_none, decide_eq_true_eq, List.length_map, atI_0, atI_1, atI_2, lim0, lim1, lim2, lim3, lim4, lim5, lim6, lim7, lim8, lim9, lim10, lim11, lim12, set_last, get_last, eqD_pair, slV, rngL, and_self, true_and, and_true, isa_NoneType_bool, isa_NoneType_int, isa_NoneType_str, isa_NoneType_tuple, isa_NoneType_list, isa_NoneType_dict, isa_bool_bool, isa_bool_int, isa_bool_str, isa_bool_tuple, isa_bool_list, isa_bool_dict, isa_int_bool, isa_int_int, isa_int_str, isa_int_tuple, isa_int_list, isa_int_dict, isa_str_bool, isa_str_int, isa_str_str, isa_str_tuple, isa_str_list, isa_str_dict, isa_tuple_bool, isa_tuple_int, isa_tuple_str, isa_tuple_tuple, isa_tuple_list, isa_tuple_dict, isa_list_bool, isa_list_int, isa_list_str, isa_list_tuple, isa_list_list, isa_list_dict, isa_dict_bool, isa_dict_int, isa_dict_str, isa_dict_tuple, isa_dict_list, isa_dict_dict, ixN_30, ixN_31, ixN_32, b6, e, ints_sizes, Option.bind_some]
end
theorem initH (k m : Nat) (h1 : 16 ≤ m) (h2 : m ≤ 240) (S : List Cell) : callF T (k + 4) 4 [(.val, .ref S.length), (.val, .int (m : Int))] (S ++ [.inst 0 []]) = .ok (.val, .non) (S ++ [bk m (S.length + 1), rwS [(0, m)]]) := by
  have n1 := need_many_i k (m : Int) (by omega) (by omega) (S ++ [.inst 0 []])
  have m0 : (0 : Nat) ∈ [0] := List.mem_cons_self ..
  have hz : (0 : Nat) < 1000 := by decide
  have hz1 : (1 : Nat) < 1000 := by decide
  have lk : List.lookup ("width" : Str) [(("width" : Str), D.int (m : Int))] = some (.int (m : Int)) := rfl
  have p1 : putD "width" (.int (m : Int)) [] = [(("width" : Str), D.int (m : Int))] := rfl
  have p2 : putD "rows" (.ref (S.length + 1)) [(("width" : Str), D.int (m : Int))] = [(("width" : Str), D.int (m : Int)), (("rows" : Str), .ref (S.length + 1))] := rfl
  have g1 : (S ++ [Cell.inst 0 [("width", .int (m : Int))]])[S.length]? = some (.inst 0 [("width", .int (m : Int))]) := get_last ..
  have g2 : ∀ c : Cell, (S ++ [Cell.inst 0 [("width", .int (m : Int))], c])[S.length]? = some (.inst 0 [("width", .int (m : Int))]) := fun c => by
    rw [List.getElem?_append_right (Nat.le_refl _), Nat.sub_self]; rfl
  have g3 : ∀ c d e : Cell, (S ++ [c, d]).set S.length e = S ++ [e, d] := fun c d e => by
    rw [List.set_append_right _ _ (Nat.le_refl _), Nat.sub_self]; rfl
  have g4 : ∀ c d : Cell, (S ++ [c]) ++ [d] = S ++ [c, d] := fun c d => by rw [List.append_assoc]; rfl
  have g5 : ∀ c : Cell, (S ++ [c]).length = S.length + 1 := fun c => by rw [List.length_append]; rfl
  unfold bk rwS
  show _ = COut.ok (.val, .non) (S ++ [.inst 0 [("width", .int (m : Int)), ("rows", .ref (S.length + 1))], .lst [.tup [.int 0, .int (m : Int)]]])
  rw [callF_succ]; simp (implicitDefEqProofs := false) only [Int.cast_ofNat_Int, T, List.length_cons, List.length_nil, List.map_cons, List.map_nil, List.replicate, List.cons_append, List.nil_append, evSs, evS, evE, evL, evA, evP, itE, Out.bind, Out.then, OutL.bind, asgP, putS, onB, onS, lift, binR, addR, mulR, binD, cmpD, lstOf, lsqOf, seqOf, lenD, biV, on1, on2, Sr.intD, int2D, vI, vB, ixD, valO, argO, toVal, back1, orS, intV, celL, putC, putO, ownL, endF, tyD, srcM, srcO, walkOf, keyD, augD, Sr.part, pOk, bindP, bindPs, Option.map, List.getElem?_cons_zero, List.getElem?_cons_succ, List.set, List.length_set, ite_true, ite_false, reduceIte, Nat.reduceAdd, Nat.reduceSub, Nat.reduceLT, Nat.reduceEqDiff, Bool.false_eq_true, Bool.not_true, Bool.not_false, decide_true, decide_false, eqD_int, beq_iff_eq, beq_self_eq_true, Bool.not_eq_true', beq_eq_false_iff_ne, ne_eq, not_true_eq_false, not_false_eq_true, compO, compKO, vsOk, wipeD, back, List.all_cons, List.all_nil, List.foldl_cons, List.foldl_nil, Bool.and_true, Bool.true_and, Bool.and_self, Option.getD_some, Option.getD_none, decide_eq_true_eq, List.length_map, atI_0, atI_1, atI_2, lim0, lim1, lim2, lim3, lim4, lim5, lim6, lim7, lim8, lim9, lim10, lim11, lim12, set_last, get_last, eqD_pair, slV, rngL, and_self, true_and, and_true, isa_NoneType_bool, isa_NoneType_int, isa_NoneType_str, isa_NoneType_tuple, isa_NoneType_list, isa_NoneType_dict, isa_bool_bool, isa_bool_int, isa_bool_str, isa_bool_tuple, isa_bool_list, isa_bool_dict, isa_int_bool, isa_int_int, isa_int_str, isa_int_tuple, isa_int_list, isa_int_dict, isa_str_bool, isa_str_int, isa_str_str, isa_str_tuple, isa_str_list, isa_str_dict, isa_tuple_bool, isa_tuple_int, isa_tuple_str, isa_tuple_tuple, isa_tuple_list, isa_tuple_dict, isa_list_bool, isa_list_int, isa_list_str, isa_list_tuple, isa_list_list, isa_list_dict, isa_dict_bool, isa_dict_int, isa_dict_str, isa_dict_tuple, isa_dict_list, isa_dict_dict, ixN_30, ixN_31, ixN_32, b4, n1, m0, lk, hz, hz1, p1, p2, g1, g2, g3, g4, g5]
theorem bk_init (m : Nat) (h : 1 ≤ m) : Bk [(0, m)] m fun c => c < m := by
  refine ⟨⟨Nat.le_refl _, h, by dsimp only; omega, trivial⟩, fun c => ?_⟩
  rw [inH_cons]
  have := inH_nil c
  exact ⟨fun y => y.elim (fun y => by dsimp only at y; omega) fun y => absurd y this, fun y => .inl ⟨Nat.zero_le _, by dsimp only; omega⟩⟩
section
variable (k n r m : Nat) {S : List Cell} (hn : S[n]? = some (bk m r))
include hn
theorem bookTake (hm : m ≤ 240) {R : List Hl} {F : Nat → Prop} (hr : S[r]? = some (rwS R)) (K : Bk R m F) (s z : Nat) (hz : 1 ≤ z) (free : ∀ c, s ≤ c → c < s + z → F c) :
    ∃ R', callF T (k + 4) 11 [(.val, .ref n), (.val, .int (s : Int)), (.val, .int (z : Int))] S = .ok (.val, .non) (S.set r (rwS R')) ∧ Bk R' m fun c => F c ∧ ¬ (s ≤ c ∧ c < s + z) := by
  obtain ⟨A, B, rfl, _, hA, hB⟩ := num_split s R
  have hl := K.sep.le
  have inB : ∀ c, s ≤ c → c < s + z → InH B c := fun c g1 g2 => by
    rcases inH_app.mp ((K.isIn c).mpr (free c g1 g2)) with y | y
    · have := y.upto hA; omega
    · exact y
  obtain ⟨p1, p2⟩ := sepA_app.mp K.sep
  have hB' : ∃ h t, B = h :: t ∧ s < h.1 + h.2 := by
    rcases hB with rfl | hB
    · exact absurd (inB s (Nat.le_refl _) (by omega)) (inH_nil _)
    · exact hB
  obtain ⟨h, t, rfl, q1, q2⟩ := Bk.whole p2 hz inB hB'
  exact ⟨_, take_ k n r m hn A t h hr (by omega) s z hz hA q1 q2, K.take q1 q2 hz hA⟩
theorem bookGive (hm : m ≤ 240) {R : List Hl} {F : Nat → Prop} (hr : S[r]? = some (rwS R)) (K : Bk R m F) (s z : Nat) (hz : 1 ≤ z) (hsz : s + z ≤ m) (tk : ∀ c, s ≤ c → c < s + z → ¬ F c) :
    ∃ R', callF T (k + 4) 13 [(.val, .ref n), (.val, .int (s : Int)), (.val, .int (z : Int))] S = .ok (.val, .non) (S.set r (rwS R')) ∧ Bk R' m fun c => F c ∨ (s ≤ c ∧ c < s + z) := by
  obtain ⟨A, B, rfl, _, hA, hB⟩ := num_split s R
  have hl := K.sep.le
  obtain ⟨p1, p2⟩ := sepA_app.mp K.sep
  have hB' : ∀ b ∈ B, s + z ≤ b.1 ∧ 1 ≤ b.2 := by
    intro b hb
    have lo := p2.low b hb
    have sb : s < b.1 + b.2 := by
      rcases hB with rfl | ⟨h, t, rfl, q⟩
      · cases hb
      · rcases List.mem_cons.mp hb with rfl | hb
        · exact q
        · have := p2.2.2.2.low b hb; omega
    refine ⟨Nat.le_of_not_lt fun y => ?_, lo.2.1⟩
    by_cases w : b.1 ≤ s
    · exact tk s (Nat.le_refl _) (by omega) ((K.isIn s).mp (inH_app.mpr (.inr ⟨b, hb, w, sb⟩)))
    · exact tk b.1 (by omega) y ((K.isIn b.1).mp (inH_app.mpr (.inr ⟨b, hb, Nat.le_refl _, by omega⟩)))
  exact ⟨_, give_ k n r m hn A B hr (by omega) s z hz hsz hA hB', K.give hz hsz hA fun b hb => (hB' b hb).1⟩
end
end Kx

namespace Kx
open PySem PySem.Spec PyProof.Rows L2 Sr
/-! ### the holes cell by cell -/
def bump (l : List Hl) : List Hl := match l.getLast? with
  | some h => l.dropLast ++ [(h.1, h.2 + 1)]
  | none => l
def sc (f : Nat → Bool) : Nat → List Hl
  | 0 => []
  | c + 1 => if f c = true then (if c = 0 ∨ f (c - 1) = false then sc f c ++ [(c, 1)] else bump (sc f c)) else sc f c
theorem bump_snoc (l : List Hl) (h : Hl) : bump (l ++ [h]) = l ++ [(h.1, h.2 + 1)] := by
  unfold bump
  rw [List.getLast?_concat, List.dropLast_concat]
theorem sc_snoc (f : Nat → Bool) : ∀ c, f c = true → ∃ l h, sc f (c + 1) = l ++ [h]
  | 0, h => ⟨[], (0, 1), by unfold sc; rw [if_pos h, if_pos (.inl rfl)]; rfl⟩
  | c + 1, h => by
    unfold sc
    rw [if_pos h]
    by_cases z : c + 1 = 0 ∨ f (c + 1 - 1) = false
    · rw [if_pos z]; exact ⟨_, _, rfl⟩
    · rw [if_neg z]
      have hf : f c = true := by
        cases q : f c with
        | true => rfl
        | false => exact absurd (.inr q) z
      obtain ⟨l, x, e⟩ := sc_snoc f c hf
      rw [e, bump_snoc]
      exact ⟨_, _, rfl⟩
theorem sc_len (f : Nat → Bool) : ∀ c, (sc f c).length ≤ c
  | 0 => Nat.le_refl _
  | c + 1 => by
    have ih := sc_len f c
    unfold sc
    split
    · split
      · rw [List.length_append]; simp only [List.length_cons, List.length_nil]; omega
      · unfold bump
        split
        · rw [List.length_append, List.length_dropLast]; simp only [List.length_cons, List.length_nil]
          have : (sc f c) ≠ [] := fun z => by rename_i h; rw [z] at h; simp at h
          have := List.length_pos_iff.mpr this
          omega
        · omega
    · omega
/-- a stretch of taken cells changes nothing -/
theorem sc_off (f : Nat → Bool) (a : Nat) : ∀ s, (∀ c, a ≤ c → c < a + s → f c = false) → sc f (a + s) = sc f a
  | 0, _ => rfl
  | s + 1, h => by
    show sc f (a + s + 1) = _
    rw [sc, if_neg (by rw [h (a + s) (by omega) (by omega)]; decide)]
    exact sc_off f a s fun c h1 h2 => h c h1 (by omega)
/-- a stretch of free cells is one hole -/
theorem sc_on (f : Nat → Bool) (a : Nat) (h0 : a = 0 ∨ f (a - 1) = false) : ∀ g, (∀ c, a ≤ c → c < a + (g + 1) → f c = true) → sc f (a + (g + 1)) = sc f a ++ [(a, g + 1)]
  | 0, h => by
    show sc f (a + 1) = _
    rw [sc, if_pos (h a (Nat.le_refl _) (by omega)), if_pos h0]
  | g + 1, h => by
    show sc f (a + (g + 1) + 1) = _
    rw [sc, if_pos (h (a + (g + 1)) (by omega) (by omega)), if_neg, sc_on f a h0 g fun c h1 h2 => h c h1 (by omega), bump_snoc]
    rintro (z | z)
    · omega
    · rw [show a + (g + 1) - 1 = a + g by omega, h (a + g) (by omega) (by omega)] at z
      cases z
theorem sc_bk (f : Nat → Bool) (m : Nat) : ∀ (R : List Hl) (a : Nat), SepA a R m → (a = 0 ∨ f (a - 1) = false) → a ≤ m → (∀ c, a ≤ c → c < m → (f c = true ↔ InH R c)) → sc f m = sc f a ++ R
  | [], a, _, h0, ha, hf => by
    obtain ⟨g, rfl⟩ : ∃ g, m = a + g := ⟨m - a, by omega⟩
    rw [List.append_nil]
    refine sc_off f a g fun c h1 h2 => ?_
    cases q : f c with
    | false => rfl
    | true => exact absurd ((hf c h1 h2).mp q) (inH_nil c)
  | h :: t, a, ⟨h1, h2, h3, h4⟩, h0, ha, hf => by
    have off : ∀ c, a ≤ c → c < a + (h.1 - a) → f c = false := fun c g1 g2 => by
      cases q : f c with
      | false => rfl
      | true =>
        rcases inH_cons.mp ((hf c g1 (by omega)).mp q) with y | y
        · omega
        · have := h4.inlow y; omega
    have e1 : sc f h.1 = sc f a := by
      have := sc_off f a (h.1 - a) off
      rw [show a + (h.1 - a) = h.1 by omega] at this
      exact this
    have h0' : h.1 = 0 ∨ f (h.1 - 1) = false := by
      by_cases z : h.1 = a
      · rw [z]; exact h0
      · exact .inr (off _ (by omega) (by omega))
    obtain ⟨g, hg⟩ : ∃ g, h.2 = g + 1 := ⟨h.2 - 1, by omega⟩
    have e2 := sc_on f h.1 h0' g fun c g1 g2 => (hf c (by omega) (by omega)).mpr (inH_cons.mpr (.inl ⟨g1, by omega⟩))
    rw [← hg, e1] at e2
    have e3 : sc f a ++ [(h.1, h.2)] = sc f a ++ [h] := rfl
    rw [e3] at e2
    by_cases z : h.1 + h.2 = m
    · have ht : t = [] := by
        cases t with
        | nil => rfl
        | cons x t => have := h4.1; have := h4.2.1; have := h4.2.2.1; omega
      subst ht
      rw [← z]
      exact e2
    · have fe : f (h.1 + h.2) = false := by
        cases q : f (h.1 + h.2) with
        | false => rfl
        | true =>
          rcases inH_cons.mp ((hf _ (by omega) (by omega)).mp q) with y | y
          · omega
          · have := h4.inlow y; omega
      have e4 : sc f (h.1 + h.2 + 1) = sc f (h.1 + h.2) := by rw [sc, if_neg (by rw [fe]; decide)]
      rw [sc_bk f m t (h.1 + h.2 + 1) h4 (.inr fe) (by omega) fun c g1 g2 => (hf c (by omega) g2).trans (inH_cons.trans ⟨fun y => y.elim (fun y => by omega) id, .inr⟩), e4, e2, List.append_assoc]
      rfl
theorem sc_is {f : Nat → Bool} {m : Nat} {R : List Hl} (K : Bk R m fun c => c < m ∧ f c = true) : sc f m = R := by
  have := sc_bk f m R 0 K.sep (.inl rfl) (Nat.zero_le _) fun c _ h => ⟨fun q => (K.isIn c).mpr ⟨h, q⟩, fun q => ((K.isIn c).mp q).2⟩
  rw [this]
  rfl
/-- the last one ends where the scan is -/
theorem last_end (f : Nat → Bool) : ∀ (i : Nat), f i = true → ∀ (l : List Hl) (x : Hl), sc f (i + 1) = l ++ [x] → x.1 + x.2 = i + 1
  | 0, h, l, x, e => by
    unfold sc at e
    rw [if_pos h, if_pos (.inl rfl)] at e
    have : [((0 : Nat), 1)] = l ++ [x] := e
    have e2 := congrArg List.getLast? this
    rw [List.getLast?_concat] at e2
    have : (0, 1) = x := Option.some.inj e2
    rw [← this]
  | i + 1, h, l, x, e => by
    unfold sc at e
    rw [if_pos h] at e
    by_cases w : i + 1 = 0 ∨ f (i + 1 - 1) = false
    · rw [if_pos w] at e
      have e2 := congrArg List.getLast? e
      rw [List.getLast?_concat, List.getLast?_concat] at e2
      have : (i + 1, 1) = x := Option.some.inj e2
      rw [← this]
    · rw [if_neg w] at e
      have hf : f i = true := by
        cases y : f i with
        | true => rfl
        | false => exact absurd (.inr y) w
      obtain ⟨l2, x2, e3⟩ := sc_snoc f i hf
      have ih := last_end f i hf l2 x2 e3
      rw [e3, bump_snoc] at e
      have e2 := congrArg List.getLast? e
      rw [List.getLast?_concat, List.getLast?_concat] at e2
      have : (x2.1, x2.2 + 1) = x := Option.some.inj e2
      rw [← this]
      dsimp only
      omega
/-- what is told of a stretch of free cells -/
theorem sc_in (f : Nat → Bool) : ∀ (m : Nat) (h : Hl), h ∈ sc f m → 1 ≤ h.2 ∧ h.1 + h.2 ≤ m ∧ ∀ c, h.1 ≤ c → c < h.1 + h.2 → f c = true
  | 0, h, z => nomatch z
  | m + 1, h, z => by
    unfold sc at z
    by_cases q : f m = true
    · rw [if_pos q] at z
      by_cases w : m = 0 ∨ f (m - 1) = false
      · rw [if_pos w] at z
        rcases List.mem_append.mp z with z | z
        · obtain ⟨a, b, c⟩ := sc_in f m h z
          exact ⟨a, by omega, c⟩
        · rw [List.mem_singleton.mp z]
          exact ⟨Nat.le_refl _, Nat.le_refl _, fun c g1 g2 => by dsimp only at g1 g2; rw [show c = m by omega]; exact q⟩
      · rw [if_neg w] at z
        have hf : f (m - 1) = true := by
          cases y : f (m - 1) with
          | true => rfl
          | false => exact absurd (.inr y) w
        obtain ⟨i, rfl⟩ : ∃ i, m = i + 1 := ⟨m - 1, by omega⟩
        obtain ⟨l, x, e⟩ := sc_snoc f i hf
        rw [e, bump_snoc] at z
        have ee := last_end f i hf l x e
        rcases List.mem_append.mp z with z | z
        · obtain ⟨a, b, c⟩ := sc_in f (i + 1) h (by rw [e]; exact List.mem_append_left _ z)
          exact ⟨a, by omega, c⟩
        · rw [List.mem_singleton.mp z]
          obtain ⟨a, b, c⟩ := sc_in f (i + 1) x (by rw [e]; exact List.mem_append_right _ (List.mem_cons_self ..))
          refine ⟨by dsimp only; omega, by dsimp only; omega, fun c' g1 g2 => ?_⟩
          dsimp only at g1 g2
          by_cases y : c' < x.1 + x.2
          · exact c c' g1 y
          · rw [show c' = i + 1 by omega]; exact q
    · rw [if_neg q] at z
      obtain ⟨a, b, c⟩ := sc_in f m h z
      exact ⟨a, by omega, c⟩
def cnt (f : Nat → Bool) (m : Nat) : Nat := ((List.range m).filter f).length
theorem cnt_succ (f : Nat → Bool) (m : Nat) : cnt f (m + 1) = cnt f m + if f m = true then 1 else 0 := by
  unfold cnt
  rw [List.range_succ, List.filter_append, List.length_append]
  cases q : f m with
  | true => rw [List.filter_cons_of_pos q, if_pos rfl]; rfl
  | false => rw [List.filter_cons_of_neg (by rw [q]; decide), if_neg (by decide)]; rfl
theorem sum_sc (f : Nat → Bool) : ∀ m, sumH (sc f m) = cnt f m
  | 0 => rfl
  | m + 1 => by
    have ih := sum_sc f m
    rw [cnt_succ, ← ih]
    show sumH (if f m = true then (if m = 0 ∨ f (m - 1) = false then sc f m ++ [(m, 1)] else bump (sc f m)) else sc f m) = _
    by_cases q : f m = true
    · rw [if_pos q, if_pos q]
      by_cases w : m = 0 ∨ f (m - 1) = false
      · rw [if_pos w, sumH_app]; rfl
      · rw [if_neg w]
        have hf : f (m - 1) = true := by
          cases y : f (m - 1) with
          | true => rfl
          | false => exact absurd (.inr y) w
        obtain ⟨i, rfl⟩ : ∃ i, m = i + 1 := ⟨m - 1, by omega⟩
        obtain ⟨l, x, e⟩ := sc_snoc f i hf
        rw [e, bump_snoc, sumH_app, sumH_app]
        show sumH l + (x.2 + 1 + 0) = sumH l + (x.2 + 0) + 1
        omega
    · rw [if_neg q, if_neg q, Nat.add_zero]
end Kx

namespace Kx
open PySem PySem.Spec PyProof.Rows L2 Sr
def frD (f : Nat → Bool) (n : Nat) : List D := (List.range n).map fun c => .bl (f c)
theorem frD_len (f : Nat → Bool) (n : Nat) : (frD f n).length = n := by unfold frD; rw [List.length_map, List.length_range]
theorem frD_at (f : Nat → Bool) {n c : Nat} (h : c < n) : atI (frD f n) (c : Int) = some (.bl (f c)) := by
  refine atI_nat ?_
  unfold frD
  rw [List.getElem?_map, List.getElem?_range h]
  rfl
theorem frD_set (f : Nat → Bool) {n c : Nat} (h : c < n) : (frD f n).set c (.bl false) = frD (fun x => f x && !decide (x = c)) n := by
  unfold frD
  refine List.ext_getElem? fun i => ?_
  rw [List.getElem?_set, List.length_map, List.length_range]
  by_cases hi : c = i
  · subst hi
    rw [if_pos rfl, if_pos h, List.getElem?_map, List.getElem?_range h]
    show some (D.bl false) = some (D.bl (f c && !decide (c = c)))
    rw [decide_eq_true (rfl : c = c), Bool.not_true, Bool.and_false]
  · rw [if_neg hi, List.getElem?_map, List.getElem?_map]
    by_cases hn : i < n
    · rw [List.getElem?_range hn]
      have hd : decide (i = c) = false := decide_eq_false fun z => hi z.symm
      show some (D.bl (f i)) = some (D.bl (f i && !decide (i = c)))
      rw [hd, Bool.not_false, Bool.and_true]
    · rw [List.getElem?_eq_none (by rw [List.length_range]; omega)]
      rfl
theorem at_m1 (l : List D) (x : D) : atI (l ++ [x]) (-1) = some x := by
  unfold atI
  have e : ixN (l ++ [x]).length (-1) = some l.length := by
    unfold ixN
    rw [if_neg (by decide), List.length_append]
    simp only [List.length_cons, List.length_nil]
    rw [if_pos (by omega)]
    congr 1
    omega
  rw [e]
  exact get_last l x
theorem ix_m1 (n : Nat) : ixN (n + 1) (-1) = some n := by
  unfold ixN
  rw [if_neg (by decide), if_pos (by omega)]
  congr 1
  omega
theorem scanV (k : Nat) (f : Nat → Bool) (n : Nat) (hn : n ≤ 1000) (S : List Cell) : callF T (k + 1) 17 [(.val, .lst (frD f n))] S = .ok (.own, .lst ((sc f n).map hD)) S := by
  obtain ⟨s', e, x2, h⟩ := forL_inv (p := .nm 2) (b := evSs (callF T k) l17_0) (fun j σ => ∃ x2, σ = ⟨[some (.val, .lst (frD f n)), some (.own, .lst ((sc f j).map hD)), x2], S⟩)
    (intsUp 0 n 1) 0 ⟨[some (.val, .lst (frD f n)), some (.own, .lst []), none], S⟩ ⟨none, rfl⟩ (fun j σ d _ hI hd => by
      obtain ⟨x2, rfl⟩ := hI
      have hj : j < n := by
        have := (List.getElem?_eq_some_iff.mp hd).1
        rw [intsUp_len] at this
        omega
      rw [Nat.sub_zero, intsUp_get hj] at hd
      cases hd
      refine ⟨[some (.val, .lst (frD f n)), some (.own, .lst ((sc f j).map hD)), some (.val, .int (j : Int))], ⟨[some (.val, .lst (frD f n)), some (.own, .lst ((sc f (j + 1)).map hD)), some (.val, .int (j : Int))], S⟩, ?_, .inl ?_, some (.val, .int (j : Int)), rfl⟩
      · rw [Int.mul_one, Int.zero_add]
        simp (implicitDefEqProofs := false) only [Int.cast_ofNat_Int, T, List.length_cons, List.length_nil, List.map_cons, List.map_nil, List.replicate, List.cons_append, List.nil_append, evSs, evS, evE, evL, evA, evP, itE, Out.bind, Out.then, OutL.bind, asgP, putS, onB, onS, lift, binR, addR, mulR, binD, cmpD, lstOf, lsqOf, seqOf, lenD, biV, on1, on2, Sr.intD, int2D, vI, vB, ixD, valO, argO, toVal, back1, orS, intV, celL, putC, putO, ownL, endF, tyD, srcM, srcO, walkOf, keyD, augD, Sr.part, pOk, bindP, bindPs, Option.map, List.getElem?_cons_zero, List.getElem?_cons_succ, List.set, List.length_set, ite_true, ite_false, reduceIte, Nat.reduceAdd, Nat.reduceSub, Nat.reduceLT, Nat.reduceEqDiff, Bool.false_eq_true, Bool.not_true, Bool.not_false, decide_true, decide_false, eqD_int, beq_iff_eq, beq_self_eq_true, Bool.not_eq_true', beq_eq_false_iff_ne, ne_eq, not_true_eq_false, not_false_eq_true, compO, compKO, vsOk, wipeD, back, List.all_cons, List.all_nil, List.foldl_cons, List.foldl_nil, Bool.and_true, Bool.true_and, Bool.and_self, Option.getD_some, Option.getD_none, decide_eq_true_eq, List.length_map, atI_0, atI_1, atI_2, lim0, lim1, lim2, lim3, lim4, lim5, lim6, lim7, lim8, lim9, lim10, lim11, lim12, set_last, get_last, eqD_pair, slV, rngL, and_self, true_and, and_true, isa_NoneType_bool, isa_NoneType_int, isa_NoneType_str, isa_NoneType_tuple, isa_NoneType_list, isa_NoneType_dict, isa_bool_bool, isa_bool_int, isa_bool_str, isa_bool_tuple, isa_bool_list, isa_bool_dict, isa_int_bool, isa_int_int, isa_int_str, isa_int_tuple, isa_int_list, isa_int_dict, isa_str_bool, isa_str_int, isa_str_str, isa_str_tuple, isa_str_list, isa_str_dict, isa_tuple_bool, isa_tuple_int, isa_tuple_str, isa_tuple_tuple, isa_tuple_list, isa_tuple_dict, isa_list_bool, isa_list_int, isa_list_str, isa_list_tuple, isa_list_list, isa_list_dict, isa_dict_bool, isa_dict_int, isa_dict_str, isa_dict_tuple, isa_dict_list, isa_dict_dict, ixN_30, ixN_31, ixN_32]
      · have a1 := frD_at f hj
        have lz : (sc f j).length < lim := by have := sc_len f j; show _ < 1000000; omega
        cases q : f j with
        | false =>
          rw [q] at a1
          have e1 : sc f (j + 1) = sc f j := by rw [sc, if_neg (by rw [q]; decide)]
          rw [e1]
          simp (implicitDefEqProofs := false) only [Int.cast_ofNat_Int, T, List.length_cons, List.length_nil, List.map_cons, List.map_nil, List.replicate, List.cons_append, List.nil_append, evSs, evS, evE, evL, evA, evP, itE, Out.bind, Out.then, OutL.bind, asgP, putS, onB, onS, lift, binR, addR, mulR, binD, cmpD, lstOf, lsqOf, seqOf, lenD, biV, on1, on2, Sr.intD, int2D, vI, vB, ixD, valO, argO, toVal, back1, orS, intV, celL, putC, putO, ownL, endF, tyD, srcM, srcO, walkOf, keyD, augD, Sr.part, pOk, bindP, bindPs, Option.map, List.getElem?_cons_zero, List.getElem?_cons_succ, List.set, List.length_set, ite_true, ite_false, reduceIte, Nat.reduceAdd, Nat.reduceSub, Nat.reduceLT, Nat.reduceEqDiff, Bool.false_eq_true, Bool.not_true, Bool.not_false, decide_true, decide_false, eqD_int, beq_iff_eq, beq_self_eq_true, Bool.not_eq_true', beq_eq_false_iff_ne, ne_eq, not_true_eq_false, not_false_eq_true, compO, compKO, vsOk, wipeD, back, List.all_cons, List.all_nil, List.foldl_cons, List.foldl_nil, Bool.and_true, Bool.true_and, Bool.and_self, Option.getD_some, Option.getD_none, decide_eq_true_eq, List.length_map, atI_0, atI_1, atI_2, lim0, lim1, lim2, lim3, lim4, lim5, lim6, lim7, lim8, lim9, lim10, lim11, lim12, set_last, get_last, eqD_pair, slV, rngL, and_self, true_and, and_true, isa_NoneType_bool, isa_NoneType_int, isa_NoneType_str, isa_NoneType_tuple, isa_NoneType_list, isa_NoneType_dict, isa_bool_bool, isa_bool_int, isa_bool_str, isa_bool_tuple, isa_bool_list, isa_bool_dict, isa_int_bool, isa_int_int, isa_int_str, isa_int_tuple, isa_int_list, isa_int_dict, isa_str_bool, isa_str_int, isa_str_str, isa_str_tuple, isa_str_list, isa_str_dict, isa_tuple_bool, isa_tuple_int, isa_tuple_str, isa_tuple_tuple, isa_tuple_list, isa_tuple_dict, isa_list_bool, isa_list_int, isa_list_str, isa_list_tuple, isa_list_list, isa_list_dict, isa_dict_bool, isa_dict_int, isa_dict_str, isa_dict_tuple, isa_dict_list, isa_dict_dict, ixN_30, ixN_31, ixN_32, l17_0, a1]
        | true =>
          rw [q] at a1
          by_cases z : j = 0 ∨ f (j - 1) = false
          · have e1 : (sc f (j + 1)).map hD = (sc f j).map hD ++ [D.tup [.int (j : Int), .int 1]] := by
              rw [sc, if_pos q, if_pos z, List.map_append]
              rfl
            rw [e1]
            by_cases z0 : j = 0
            · subst z0
              have a0 : atI (frD f n) 0 = some (.bl true) := a1
              have zz : ((0 : Nat) : Int) = 0 := rfl
              simp (implicitDefEqProofs := false) only [Int.cast_ofNat_Int, T, List.length_cons, List.length_nil, List.map_cons, List.map_nil, List.replicate, List.cons_append, List.nil_append, evSs, evS, evE, evL, evA, evP, itE, Out.bind, Out.then, OutL.bind, asgP, putS, onB, onS, lift, binR, addR, mulR, binD, cmpD, lstOf, lsqOf, seqOf, lenD, biV, on1, on2, Sr.intD, int2D, vI, vB, ixD, valO, argO, toVal, back1, orS, intV, celL, putC, putO, ownL, endF, tyD, srcM, srcO, walkOf, keyD, augD, Sr.part, pOk, bindP, bindPs, Option.map, List.getElem?_cons_zero, List.getElem?_cons_succ, List.set, List.length_set, ite_true, ite_false, reduceIte, Nat.reduceAdd, Nat.reduceSub, Nat.reduceLT, Nat.reduceEqDiff, Bool.false_eq_true, Bool.not_true, Bool.not_false, decide_true, decide_false, eqD_int, beq_iff_eq, beq_self_eq_true, Bool.not_eq_true', beq_eq_false_iff_ne, ne_eq, not_true_eq_false, not_false_eq_true, compO, compKO, vsOk, wipeD, back, List.all_cons, List.all_nil, List.foldl_cons, List.foldl_nil, Bool.and_true, Bool.true_and, Bool.and_self, Option.getD_some, Option.getD_none, decide_eq_true_eq, List.length_map, atI_0, atI_1, atI_2, lim0, lim1, lim2, lim3, lim4, lim5, lim6, lim7, lim8, lim9, lim10, lim11, lim12, set_last, get_last, eqD_pair, slV, rngL, and_self, true_and, and_true, isa_NoneType_bool, isa_NoneType_int, isa_NoneType_str, isa_NoneType_tuple, isa_NoneType_list, isa_NoneType_dict, isa_bool_bool, isa_bool_int, isa_bool_str, isa_bool_tuple, isa_bool_list, isa_bool_dict, isa_int_bool, isa_int_int, isa_int_str, isa_int_tuple, isa_int_list, isa_int_dict, isa_str_bool, isa_str_int, isa_str_str, isa_str_tuple, isa_str_list, isa_str_dict, isa_tuple_bool, isa_tuple_int, isa_tuple_str, isa_tuple_tuple, isa_tuple_list, isa_tuple_dict, isa_list_bool, isa_list_int, isa_list_str, isa_list_tuple, isa_list_list, isa_list_dict, isa_dict_bool, isa_dict_int, isa_dict_str, isa_dict_tuple, isa_dict_list, isa_dict_dict, ixN_30, ixN_31, ixN_32, l17_0, zz, a0, lz]
            · have z1 : ¬ ((j : Int) = 0) := by omega
              have a2 := frD_at f (n := n) (c := j - 1) (by omega)
              rw [z.resolve_left z0, show ((j - 1 : Nat) : Int) = (j : Int) - 1 by omega] at a2
              simp (implicitDefEqProofs := false) only [Int.cast_ofNat_Int, T, List.length_cons, List.length_nil, List.map_cons, List.map_nil, List.replicate, List.cons_append, List.nil_append, evSs, evS, evE, evL, evA, evP, itE, Out.bind, Out.then, OutL.bind, asgP, putS, onB, onS, lift, binR, addR, mulR, binD, cmpD, lstOf, lsqOf, seqOf, lenD, biV, on1, on2, Sr.intD, int2D, vI, vB, ixD, valO, argO, toVal, back1, orS, intV, celL, putC, putO, ownL, endF, tyD, srcM, srcO, walkOf, keyD, augD, Sr.part, pOk, bindP, bindPs, Option.map, List.getElem?_cons_zero, List.getElem?_cons_succ, List.set, List.length_set, ite_true, ite_false, reduceIte, Nat.reduceAdd, Nat.reduceSub, Nat.reduceLT, Nat.reduceEqDiff, Bool.false_eq_true, Bool.not_true, Bool.not_false, decide_true, decide_false, eqD_int, beq_iff_eq, beq_self_eq_true, Bool.not_eq_true', beq_eq_false_iff_ne, ne_eq, not_true_eq_false, not_false_eq_true, compO, compKO, vsOk, wipeD, back, List.all_cons, List.all_nil, List.foldl_cons, List.foldl_nil, Bool.and_true, Bool.true_and, Bool.and_self, Option.getD_some, Option.getD_none, decide_eq_true_eq, List.length_map, atI_0, atI_1, atI_2, lim0, lim1, lim2, lim3, lim4, lim5, lim6, lim7, lim8, lim9, lim10, lim11, lim12, set_last, get_last, eqD_pair, slV, rngL, and_self, true_and, and_true, isa_NoneType_bool, isa_NoneType_int, isa_NoneType_str, isa_NoneType_tuple, isa_NoneType_list, isa_NoneType_dict, isa_bool_bool, isa_bool_int, isa_bool_str, isa_bool_tuple, isa_bool_list, isa_bool_dict, isa_int_bool, isa_int_int, isa_int_str, isa_int_tuple, isa_int_list, isa_int_dict, isa_str_bool, isa_str_int, isa_str_str, isa_str_tuple, isa_str_list, isa_str_dict, isa_tuple_bool, isa_tuple_int, isa_tuple_str, isa_tuple_tuple, isa_tuple_list, isa_tuple_dict, isa_list_bool, isa_list_int, isa_list_str, isa_list_tuple, isa_list_list, isa_list_dict, isa_dict_bool, isa_dict_int, isa_dict_str, isa_dict_tuple, isa_dict_list, isa_dict_dict, ixN_30, ixN_31, ixN_32, l17_0, a1, z1, a2, lz]
          · have z1 : ¬ ((j : Int) = 0) := fun y => z (.inl (by omega))
            have q2 : f (j - 1) = true := by
              cases y : f (j - 1) with
              | true => rfl
              | false => exact absurd (.inr y) z
            have a2 := frD_at f (n := n) (c := j - 1) (by omega)
            rw [q2, show ((j - 1 : Nat) : Int) = (j : Int) - 1 by omega] at a2
            obtain ⟨i, rfl⟩ : ∃ i, j = i + 1 := ⟨j - 1, by omega⟩
            obtain ⟨l, hx, el⟩ := sc_snoc f i q2
            have e1 : (sc f (i + 1 + 1)).map hD = l.map hD ++ [D.tup [.int (hx.1 : Int), .int ((hx.2 : Int) + 1)]] := by
              rw [sc, if_pos q, if_neg z, el, bump_snoc, List.map_append]
              rfl
            have e0 : (sc f (i + 1)).map hD = l.map hD ++ [D.tup [.int (hx.1 : Int), .int (hx.2 : Int)]] := by
              rw [el, List.map_append]
              rfl
            rw [e1, e0]
            have b1 := at_m1 (l.map hD) (D.tup [.int (hx.1 : Int), .int (hx.2 : Int)])
            have b2 : (l.map hD ++ [D.tup [.int (hx.1 : Int), .int (hx.2 : Int)]]).length = l.length + 1 := by rw [List.length_append, List.length_map]; rfl
            have b3 : (l.map hD ++ [D.tup [.int (hx.1 : Int), .int (hx.2 : Int)]]).set l.length (D.tup [.int (hx.1 : Int), .int ((hx.2 : Int) + 1)]) = l.map hD ++ [D.tup [.int (hx.1 : Int), .int ((hx.2 : Int) + 1)]] := by
              have := set_last (l.map hD) (D.tup [.int (hx.1 : Int), .int (hx.2 : Int)]) (D.tup [.int (hx.1 : Int), .int ((hx.2 : Int) + 1)])
              rw [List.length_map] at this
              exact this
            simp (implicitDefEqProofs := false) only [Int.cast_ofNat_Int, T, List.length_cons, List.length_nil, List.map_cons, List.map_nil, List.replicate, List.cons_append, List.nil_append, evSs, evS, evE, evL, evA, evP, itE, Out.bind, Out.then, OutL.bind, asgP, putS, onB, onS, lift, binR, addR, mulR, binD, cmpD, lstOf, lsqOf, seqOf, lenD, biV, on1, on2, Sr.intD, int2D, vI, vB, ixD, valO, argO, toVal, back1, orS, intV, celL, putC, putO, ownL, endF, tyD, srcM, srcO, walkOf, keyD, augD, Sr.part, pOk, bindP, bindPs, Option.map, List.getElem?_cons_zero, List.getElem?_cons_succ, List.set, List.length_set, ite_true, ite_false, reduceIte, Nat.reduceAdd, Nat.reduceSub, Nat.reduceLT, Nat.reduceEqDiff, Bool.false_eq_true, Bool.not_true, Bool.not_false, decide_true, decide_false, eqD_int, beq_iff_eq, beq_self_eq_true, Bool.not_eq_true', beq_eq_false_iff_ne, ne_eq, not_true_eq_false, not_false_eq_true, compO, compKO, vsOk, wipeD, back, List.all_cons, List.all_nil, List.foldl_cons, List.foldl_nil, Bool.and_true, Bool.true_and, Bool.and_self, Option.getD_some, Option.getD_none, decide_eq_true_eq, List.length_map, atI_0, atI_1, atI_2, lim0, lim1, lim2, lim3, lim4, lim5, lim6, lim7, lim8, lim9, lim10, lim11, lim12, set_last, get_last, eqD_pair, slV, rngL, and_self, true_and, and_true, isa_NoneType_bool, isa_NoneType_int, isa_NoneType_str, isa_NoneType_tuple, isa_NoneType_list, isa_NoneType_dict, isa_bool_bool, isa_bool_int, isa_bool_str, isa_bool_tuple, isa_bool_list, isa_bool_dict, isa_int_bool, isa_int_int, isa_int_str, isa_int_tuple, isa_int_list, isa_int_dict, isa_str_bool, isa_str_int, isa_str_str, isa_str_tuple, isa_str_list, isa_str_dict, isa_tuple_bool, isa_tuple_int, isa_tuple_str, isa_tuple_tuple, isa_tuple_list, isa_tuple_dict, isa_list_bool, isa_list_int, isa_list_str, isa_list_tuple, isa_list_list, isa_list_dict, isa_dict_bool, isa_dict_int, isa_dict_str, isa_dict_tuple, isa_dict_list, isa_dict_dict, ixN_30, ixN_31, ixN_32, l17_0, a1, z1, a2, b1, b2, ix_m1, b3])
  subst h
  rw [intsUp_len, Nat.zero_add] at e
  have lz : (n : Int).toNat = n := Int.toNat_natCast n
  rw [callF_succ]; simp (implicitDefEqProofs := false) only [Int.cast_ofNat_Int, T, List.length_cons, List.length_nil, List.map_cons, List.map_nil, List.replicate, List.cons_append, List.nil_append, evSs, evS, evE, evL, evA, evP, itE, Out.bind, Out.then, OutL.bind, asgP, putS, onB, onS, lift, binR, addR, mulR, binD, cmpD, lstOf, lsqOf, seqOf, lenD, biV, on1, on2, Sr.intD, int2D, vI, vB, ixD, valO, argO, toVal, back1, orS, intV, celL, putC, putO, ownL, endF, tyD, srcM, srcO, walkOf, keyD, augD, Sr.part, pOk, bindP, bindPs, Option.map, List.getElem?_cons_zero, List.getElem?_cons_succ, List.set, List.length_set, ite_true, ite_false, reduceIte, Nat.reduceAdd, Nat.reduceSub, Nat.reduceLT, Nat.reduceEqDiff, Bool.false_eq_true, Bool.not_true, Bool.not_false, decide_true, decide_false, eqD_int, beq_iff_eq, beq_self_eq_true, Bool.not_eq_true', beq_eq_false_iff_ne, ne_eq, not_true_eq_false, not_false_eq_true, compO, compKO, vsOk, wipeD, back, List.all_cons, List.all_nil, List.foldl_cons, List.foldl_nil, Bool.and_true, Bool.true_and, Bool.and_self, Option.getD_some, Option.getD_none, decide_eq_true_eq, List.length_map, atI_0, atI_1, atI_2, lim0, lim1, lim2, lim3, lim4, lim5, lim6, lim7, lim8, lim9, lim10, lim11, lim12, set_last, get_last, eqD_pair, slV, rngL, and_self, true_and, and_true, isa_NoneType_bool, isa_NoneType_int, isa_NoneType_str, isa_NoneType_tuple, isa_NoneType_list, isa_NoneType_dict, isa_bool_bool, isa_bool_int, isa_bool_str, isa_bool_tuple, isa_bool_list, isa_bool_dict, isa_int_bool, isa_int_int, isa_int_str, isa_int_tuple, isa_int_list, isa_int_dict, isa_str_bool, isa_str_int, isa_str_str, isa_str_tuple, isa_str_list, isa_str_dict, isa_tuple_bool, isa_tuple_int, isa_tuple_str, isa_tuple_tuple, isa_tuple_list, isa_tuple_dict, isa_list_bool, isa_list_int, isa_list_str, isa_list_tuple, isa_list_list, isa_list_dict, isa_dict_bool, isa_dict_int, isa_dict_str, isa_dict_tuple, isa_dict_list, isa_dict_dict, ixN_30, ixN_31, ixN_32, b17, frD_len, (rngB (by omega) (by omega) : RngB (n : Int)), lz, e]
theorem scanR (k : Nat) (r : Nat) (f : Nat → Bool) (n : Nat) (hn : n ≤ 1000) (S : List Cell) (hS : S[r]? = some (.lst (frD f n))) : callF T (k + 1) 17 [(.val, .ref r)] S = .ok (.own, .lst ((sc f n).map hD)) S := by
  obtain ⟨s', e, x2, h⟩ := forL_inv (p := .nm 2) (b := evSs (callF T k) l17_0) (fun j σ => ∃ x2, σ = ⟨[some (.val, .ref r), some (.own, .lst ((sc f j).map hD)), x2], S⟩)
    (intsUp 0 n 1) 0 ⟨[some (.val, .ref r), some (.own, .lst []), none], S⟩ ⟨none, rfl⟩ (fun j σ d _ hI hd => by
      obtain ⟨x2, rfl⟩ := hI
      have hj : j < n := by
        have := (List.getElem?_eq_some_iff.mp hd).1
        rw [intsUp_len] at this
        omega
      rw [Nat.sub_zero, intsUp_get hj] at hd
      cases hd
      refine ⟨[some (.val, .ref r), some (.own, .lst ((sc f j).map hD)), some (.val, .int (j : Int))], ⟨[some (.val, .ref r), some (.own, .lst ((sc f (j + 1)).map hD)), some (.val, .int (j : Int))], S⟩, ?_, .inl ?_, some (.val, .int (j : Int)), rfl⟩
      · rw [Int.mul_one, Int.zero_add]
        simp (implicitDefEqProofs := false) only [Int.cast_ofNat_Int, T, List.length_cons, List.length_nil, List.map_cons, List.map_nil, List.replicate, List.cons_append, List.nil_append, evSs, evS, evE, evL, evA, evP, itE, Out.bind, Out.then, OutL.bind, asgP, putS, onB, onS, lift, binR, addR, mulR, binD, cmpD, lstOf, lsqOf, seqOf, lenD, biV, on1, on2, Sr.intD, int2D, vI, vB, ixD, valO, argO, toVal, back1, orS, intV, celL, putC, putO, ownL, endF, tyD, srcM, srcO, walkOf, keyD, augD, Sr.part, pOk, bindP, bindPs, Option.map, List.getElem?_cons_zero, List.getElem?_cons_succ, List.set, List.length_set, ite_true, ite_false, reduceIte, Nat.reduceAdd, Nat.reduceSub, Nat.reduceLT, Nat.reduceEqDiff, Bool.false_eq_true, Bool.not_true, Bool.not_false, decide_true, decide_false, eqD_int, beq_iff_eq, beq_self_eq_true, Bool.not_eq_true', beq_eq_false_iff_ne, ne_eq, not_true_eq_false, not_false_eq_true, compO, compKO, vsOk, wipeD, back, List.all_cons, List.all_nil, List.foldl_cons, List.foldl_nil, Bool.and_true, Bool.true_and, Bool.and_self, Option.getD_some, Option.getD_none, decide_eq_true_eq, List.length_map, atI_0, atI_1, atI_2, lim0, lim1, lim2, lim3, lim4, lim5, lim6, lim7, lim8, lim9, lim10, lim11, lim12, set_last, get_last, eqD_pair, slV, rngL, and_self, true_and, and_true, isa_NoneType_bool, isa_NoneType_int, isa_NoneType_str, isa_NoneType_tuple, isa_NoneType_list, isa_NoneType_dict, isa_bool_bool, isa_bool_int, isa_bool_str, isa_bool_tuple, isa_bool_list, isa_bool_dict, isa_int_bool, isa_int_int, isa_int_str, isa_int_tuple, isa_int_list, isa_int_dict, isa_str_bool, isa_str_int, isa_str_str, isa_str_tuple, isa_str_list, isa_str_dict, isa_tuple_bool, isa_tuple_int, isa_tuple_str, isa_tuple_tuple, isa_tuple_list, isa_tuple_dict, isa_list_bool, isa_list_int, isa_list_str, isa_list_tuple, isa_list_list, isa_list_dict, isa_dict_bool, isa_dict_int, isa_dict_str, isa_dict_tuple, isa_dict_list, isa_dict_dict, ixN_30, ixN_31, ixN_32]
      · have a1 := frD_at f hj
        have lz : (sc f j).length < lim := by have := sc_len f j; show _ < 1000000; omega
        cases q : f j with
        | false =>
          rw [q] at a1
          have e1 : sc f (j + 1) = sc f j := by rw [sc, if_neg (by rw [q]; decide)]
          rw [e1]
          simp (implicitDefEqProofs := false) only [Int.cast_ofNat_Int, T, List.length_cons, List.length_nil, List.map_cons, List.map_nil, List.replicate, List.cons_append, List.nil_append, evSs, evS, evE, evL, evA, evP, itE, Out.bind, Out.then, OutL.bind, asgP, putS, onB, onS, lift, binR, addR, mulR, binD, cmpD, lstOf, lsqOf, seqOf, lenD, biV, on1, on2, Sr.intD, int2D, vI, vB, ixD, valO, argO, toVal, back1, orS, intV, celL, putC, putO, ownL, endF, tyD, srcM, srcO, walkOf, keyD, augD, Sr.part, pOk, bindP, bindPs, Option.map, List.getElem?_cons_zero, List.getElem?_cons_succ, List.set, List.length_set, ite_true, ite_false, reduceIte, Nat.reduceAdd, Nat.reduceSub, Nat.reduceLT, Nat.reduceEqDiff, Bool.false_eq_true, Bool.not_true, Bool.not_false, decide_true, decide_false, eqD_int, beq_iff_eq, beq_self_eq_true, Bool.not_eq_true', beq_eq_false_iff_ne, ne_eq, not_true_eq_false, not_false_eq_true, compO, compKO, vsOk, wipeD, back, List.all_cons, List.all_nil, List.foldl_cons, List.foldl_nil, Bool.and_true, Bool.true_and, Bool.and_self, Option.getD_some, Option.getD_none, decide_eq_true_eq, List.length_map, atI_0, atI_1, atI_2, lim0, lim1, lim2, lim3, lim4, lim5, lim6, lim7, lim8, lim9, lim10, lim11, lim12, set_last, get_last, eqD_pair, slV, rngL, and_self, true_and, and_true, isa_NoneType_bool, isa_NoneType_int, isa_NoneType_str, isa_NoneType_tuple, isa_NoneType_list, isa_NoneType_dict, isa_bool_bool, isa_bool_int, isa_bool_str, isa_bool_tuple, isa_bool_list, isa_bool_dict, isa_int_bool, isa_int_int, isa_int_str, isa_int_tuple, isa_int_list, isa_int_dict, isa_str_bool, isa_str_int, isa_str_str, isa_str_tuple, isa_str_list, isa_str_dict, isa_tuple_bool, isa_tuple_int, isa_tuple_str, isa_tuple_tuple, isa_tuple_list, isa_tuple_dict, isa_list_bool, isa_list_int, isa_list_str, isa_list_tuple, isa_list_list, isa_list_dict, isa_dict_bool, isa_dict_int, isa_dict_str, isa_dict_tuple, isa_dict_list, isa_dict_dict, ixN_30, ixN_31, ixN_32, l17_0, hS, a1]
        | true =>
          rw [q] at a1
          by_cases z : j = 0 ∨ f (j - 1) = false
          · have e1 : (sc f (j + 1)).map hD = (sc f j).map hD ++ [D.tup [.int (j : Int), .int 1]] := by
              rw [sc, if_pos q, if_pos z, List.map_append]
              rfl
            rw [e1]
            by_cases z0 : j = 0
            · subst z0
              have a0 : atI (frD f n) 0 = some (.bl true) := a1
              have zz : ((0 : Nat) : Int) = 0 := rfl
              simp (implicitDefEqProofs := false) only [Int.cast_ofNat_Int, T, List.length_cons, List.length_nil, List.map_cons, List.map_nil, List.replicate, List.cons_append, List.nil_append, evSs, evS, evE, evL, evA, evP, itE, Out.bind, Out.then, OutL.bind, asgP, putS, onB, onS, lift, binR, addR, mulR, binD, cmpD, lstOf, lsqOf, seqOf, lenD, biV, on1, on2, Sr.intD, int2D, vI, vB, ixD, valO, argO, toVal, back1, orS, intV, celL, putC, putO, ownL, endF, tyD, srcM, srcO, walkOf, keyD, augD, Sr.part, pOk, bindP, bindPs, Option.map, List.getElem?_cons_zero, List.getElem?_cons_succ, List.set, List.length_set, ite_true, ite_false, reduceIte, Nat.reduceAdd, Nat.reduceSub, Nat.reduceLT, Nat.reduceEqDiff, Bool.false_eq_true, Bool.not_true, Bool.not_false, decide_true, decide_false, eqD_int, beq_iff_eq, beq_self_eq_true, Bool.not_eq_true', beq_eq_false_iff_ne, ne_eq, not_true_eq_false, not_false_eq_true, compO, compKO, vsOk, wipeD, back, List.all_cons, List.all_nil, List.foldl_cons, List.foldl_nil, Bool.and_true, Bool.true_and, Bool.and_self, Option.getD_some, Option.getD_none, decide_eq_true_eq, List.length_map, atI_0, atI_1, atI_2, lim0, lim1, lim2, lim3, lim4, lim5, lim6, lim7, lim8, lim9, lim10, lim11, lim12, set_last, get_last, eqD_pair, slV, rngL, and_self, true_and, and_true, isa_NoneType_bool, isa_NoneType_int, isa_NoneType_str, isa_NoneType_tuple, isa_NoneType_list, isa_NoneType_dict, isa_bool_bool, isa_bool_int, isa_bool_str, isa_bool_tuple, isa_bool_list, isa_bool_dict, isa_int_bool, isa_int_int, isa_int_str, isa_int_tuple, isa_int_list, isa_int_dict, isa_str_bool, isa_str_int, isa_str_str, isa_str_tuple, isa_str_list, isa_str_dict, isa_tuple_bool, isa_tuple_int, isa_tuple_str, isa_tuple_tuple, isa_tuple_list, isa_tuple_dict, isa_list_bool, isa_list_int, isa_list_str, isa_list_tuple, isa_list_list, isa_list_dict, isa_dict_bool, isa_dict_int, isa_dict_str, isa_dict_tuple, isa_dict_list, isa_dict_dict, ixN_30, ixN_31, ixN_32, l17_0, hS, zz, a0, lz]
            · have z1 : ¬ ((j : Int) = 0) := by omega
              have a2 := frD_at f (n := n) (c := j - 1) (by omega)
              rw [z.resolve_left z0, show ((j - 1 : Nat) : Int) = (j : Int) - 1 by omega] at a2
              simp (implicitDefEqProofs := false) only [Int.cast_ofNat_Int, T, List.length_cons, List.length_nil, List.map_cons, List.map_nil, List.replicate, List.cons_append, List.nil_append, evSs, evS, evE, evL, evA, evP, itE, Out.bind, Out.then, OutL.bind, asgP, putS, onB, onS, lift, binR, addR, mulR, binD, cmpD, lstOf, lsqOf, seqOf, lenD, biV, on1, on2, Sr.intD, int2D, vI, vB, ixD, valO, argO, toVal, back1, orS, intV, celL, putC, putO, ownL, endF, tyD, srcM, srcO, walkOf, keyD, augD, Sr.part, pOk, bindP, bindPs, Option.map, List.getElem?_cons_zero, List.getElem?_cons_succ, List.set, List.length_set, ite_true, ite_false, reduceIte, Nat.reduceAdd, Nat.reduceSub, Nat.reduceLT, Nat.reduceEqDiff, Bool.false_eq_true, Bool.not_true, Bool.not_false, decide_true, decide_false, eqD_int, beq_iff_eq, beq_self_eq_true, Bool.not_eq_true', beq_eq_false_iff_ne, ne_eq, not_true_eq_false, not_false_eq_true, compO, compKO, vsOk, wipeD, back, List.all_cons, List.all_nil, List.foldl_cons, List.foldl_nil, Bool.and_true, Bool.true_and, Bool.and_self, Option.getD_some, Option.getD_none, decide_eq_true_eq, List.length_map, atI_0, atI_1, atI_2, lim0, lim1, lim2, lim3, lim4, lim5, lim6, lim7, lim8, lim9, lim10, lim11, lim12, set_last, get_last, eqD_pair, slV, rngL, and_self, true_and, and_true, isa_NoneType_bool, isa_NoneType_int, isa_NoneType_str, isa_NoneType_tuple, isa_NoneType_list, isa_NoneType_dict, isa_bool_bool, isa_bool_int, isa_bool_str, isa_bool_tuple, isa_bool_list, isa_bool_dict, isa_int_bool, isa_int_int, isa_int_str, isa_int_tuple, isa_int_list, isa_int_dict, isa_str_bool, isa_str_int, isa_str_str, isa_str_tuple, isa_str_list, isa_str_dict, isa_tuple_bool, isa_tuple_int, isa_tuple_str, isa_tuple_tuple, isa_tuple_list, isa_tuple_dict, isa_list_bool, isa_list_int, isa_list_str, isa_list_tuple, isa_list_list, isa_list_dict, isa_dict_bool, isa_dict_int, isa_dict_str, isa_dict_tuple, isa_dict_list, isa_dict_dict, ixN_30, ixN_31, ixN_32, l17_0, hS, a1, z1, a2, lz]
          · have z1 : ¬ ((j : Int) = 0) := fun y => z (.inl (by omega))
            have q2 : f (j - 1) = true := by
              cases y : f (j - 1) with
              | true => rfl
              | false => exact absurd (.inr y) z
            have a2 := frD_at f (n := n) (c := j - 1) (by omega)
            rw [q2, show ((j - 1 : Nat) : Int) = (j : Int) - 1 by omega] at a2
            obtain ⟨i, rfl⟩ : ∃ i, j = i + 1 := ⟨j - 1, by omega⟩
            obtain ⟨l, hx, el⟩ := sc_snoc f i q2
            have e1 : (sc f (i + 1 + 1)).map hD = l.map hD ++ [D.tup [.int (hx.1 : Int), .int ((hx.2 : Int) + 1)]] := by
              rw [sc, if_pos q, if_neg z, el, bump_snoc, List.map_append]
              rfl
            have e0 : (sc f (i + 1)).map hD = l.map hD ++ [D.tup [.int (hx.1 : Int), .int (hx.2 : Int)]] := by
              rw [el, List.map_append]
              rfl
            rw [e1, e0]
            have b1 := at_m1 (l.map hD) (D.tup [.int (hx.1 : Int), .int (hx.2 : Int)])
            have b2 : (l.map hD ++ [D.tup [.int (hx.1 : Int), .int (hx.2 : Int)]]).length = l.length + 1 := by rw [List.length_append, List.length_map]; rfl
            have b3 : (l.map hD ++ [D.tup [.int (hx.1 : Int), .int (hx.2 : Int)]]).set l.length (D.tup [.int (hx.1 : Int), .int ((hx.2 : Int) + 1)]) = l.map hD ++ [D.tup [.int (hx.1 : Int), .int ((hx.2 : Int) + 1)]] := by
              have := set_last (l.map hD) (D.tup [.int (hx.1 : Int), .int (hx.2 : Int)]) (D.tup [.int (hx.1 : Int), .int ((hx.2 : Int) + 1)])
              rw [List.length_map] at this
              exact this
            simp (implicitDefEqProofs := false) only [Int.cast_ofNat_Int, T, List.length_cons, List.length_nil, List.map_cons, List.map_nil, List.replicate, List.cons_append, List.nil_append, evSs, evS, evE, evL, evA, evP, itE, Out.bind, Out.then, OutL.bind, asgP, putS, onB, onS, lift, binR, addR, mulR, binD, cmpD, lstOf, lsqOf, seqOf, lenD, biV, on1, on2, Sr.intD, int2D, vI, vB, ixD, valO, argO, toVal, back1, orS, intV, celL, putC, putO, ownL, endF, tyD, srcM, srcO, walkOf, keyD, augD, Sr.part, pOk, bindP, bindPs, Option.map, List.getElem?_cons_zero, List.getElem?_cons_succ, List.set, List.length_set, ite_true, ite_false, reduceIte, Nat.reduceAdd, Nat.reduceSub, Nat.reduceLT, Nat.reduceEqDiff, Bool.false_eq_true, Bool.not_true, Bool.not_false, decide_true, decide_false, eqD_int, beq_iff_eq, beq_self_eq_true, Bool.not_eq_true', beq_eq_false_iff_ne, ne_eq, not_true_eq_false, not_false_eq_true, compO, compKO, vsOk, wipeD, back, List.all_cons, List.all_nil, List.foldl_cons, List.foldl_nil, Bool.and_true, Bool.true_and, Bool.and_self, Option.getD_some, Option.getD_none, decide_eq_true_eq, List.length_map, atI_0, atI_1, atI_2, lim0, lim1, lim2, lim3, lim4, lim5, lim6, lim7, lim8, lim9, lim10, lim11, lim12, set_last, get_last, eqD_pair, slV, rngL, and_self, true_and, and_true, isa_NoneType_bool, isa_NoneType_int, isa_NoneType_str, isa_NoneType_tuple, isa_NoneType_list, isa_NoneType_dict, isa_bool_bool, isa_bool_int, isa_bool_str, isa_bool_tuple, isa_bool_list, isa_bool_dict, isa_int_bool, isa_int_int, isa_int_str, isa_int_tuple, isa_int_list, isa_int_dict, isa_str_bool, isa_str_int, isa_str_str, isa_str_tuple, isa_str_list, isa_str_dict, isa_tuple_bool, isa_tuple_int, isa_tuple_str, isa_tuple_tuple, isa_tuple_list, isa_tuple_dict, isa_list_bool, isa_list_int, isa_list_str, isa_list_tuple, isa_list_list, isa_list_dict, isa_dict_bool, isa_dict_int, isa_dict_str, isa_dict_tuple, isa_dict_list, isa_dict_dict, ixN_30, ixN_31, ixN_32, l17_0, hS, a1, z1, a2, b1, b2, ix_m1, b3])
  subst h
  rw [intsUp_len, Nat.zero_add] at e
  have lz : (n : Int).toNat = n := Int.toNat_natCast n
  rw [callF_succ]; simp (implicitDefEqProofs := false) only [Int.cast_ofNat_Int, T, List.length_cons, List.length_nil, List.map_cons, List.map_nil, List.replicate, List.cons_append, List.nil_append, evSs, evS, evE, evL, evA, evP, itE, Out.bind, Out.then, OutL.bind, asgP, putS, onB, onS, lift, binR, addR, mulR, binD, cmpD, lstOf, lsqOf, seqOf, lenD, biV, on1, on2, Sr.intD, int2D, vI, vB, ixD, valO, argO, toVal, back1, orS, intV, celL, putC, putO, ownL, endF, tyD, srcM, srcO, walkOf, keyD, augD, Sr.part, pOk, bindP, bindPs, Option.map, List.getElem?_cons_zero, List.getElem?_cons_succ, List.set, List.length_set, ite_true, ite_false, reduceIte, Nat.reduceAdd, Nat.reduceSub, Nat.reduceLT, Nat.reduceEqDiff, Bool.false_eq_true, Bool.not_true, Bool.not_false, decide_true, decide_false, eqD_int, beq_iff_eq, beq_self_eq_true, Bool.not_eq_true', beq_eq_false_iff_ne, ne_eq, not_true_eq_false, not_false_eq_true, compO, compKO, vsOk, wipeD, back, List.all_cons, List.all_nil, List.foldl_cons, List.foldl_nil, Bool.and_true, Bool.true_and, Bool.and_self, Option.getD_some, Option.getD_none, decide_eq_true_eq, List.length_map, atI_0, atI_1, atI_2, lim0, lim1, lim2, lim3, lim4, lim5, lim6, lim7, lim8, lim9, lim10, lim11, lim12, set_last, get_last, eqD_pair, slV, rngL, and_self, true_and, and_true, isa_NoneType_bool, isa_NoneType_int, isa_NoneType_str, isa_NoneType_tuple, isa_NoneType_list, isa_NoneType_dict, isa_bool_bool, isa_bool_int, isa_bool_str, isa_bool_tuple, isa_bool_list, isa_bool_dict, isa_int_bool, isa_int_int, isa_int_str, isa_int_tuple, isa_int_list, isa_int_dict, isa_str_bool, isa_str_int, isa_str_str, isa_str_tuple, isa_str_list, isa_str_dict, isa_tuple_bool, isa_tuple_int, isa_tuple_str, isa_tuple_tuple, isa_tuple_list, isa_tuple_dict, isa_list_bool, isa_list_int, isa_list_str, isa_list_tuple, isa_list_list, isa_list_dict, isa_dict_bool, isa_dict_int, isa_dict_str, isa_dict_tuple, isa_dict_list, isa_dict_dict, ixN_30, ixN_31, ixN_32, b17, hS, frD_len, (rngB (by omega) (by omega) : RngB (n : Int)), lz, e]
end Kx

namespace Kx
open PySem PySem.Spec PyProof.Rows L2 Sr
theorem pl_h (h : Hl) : Pl 63 (hD h) := (Pl.tup (n := 0) fun d hd => by
  simp only [List.mem_cons, List.not_mem_nil, or_false] at hd
  rcases hd with rfl | rfl <;> exact Pl.int _).mono (by omega)
theorem pl_hs (R : List Hl) : ∀ d ∈ R.map hD, Pl 63 d := fun d hd => by
  obtain ⟨h, _, rfl⟩ := List.mem_map.mp hd
  exact pl_h h
theorem pl_fr (f : Nat → Bool) (m : Nat) : ∀ d ∈ frD f m, Pl 63 d := fun d hd => by
  unfold frD at hd
  obtain ⟨c, _, rfl⟩ := List.mem_map.mp hd
  exact Pl.bl _
theorem ite_t {Φ : Nat → List Sl → List Cell → COut} {c : Ex} {t f : Sms} {s s1 : Stt} (h : evE Φ c s = .ok (.val, .bl true) s1) : evS Φ (.ite c t f) s = evSs Φ t s1 := by
  rw [evS, h]; rfl
theorem ite_f {Φ : Nat → List Sl → List Cell → COut} {c : Ex} {t f : Sms} {s s1 : Stt} (h : evE Φ c s = .ok (.val, .bl false) s1) : evS Φ (.ite c t f) s = evSs Φ f s1 := by
  rw [evS, h]; rfl
theorem part (k b : Nat) (S : List Cell) (hb : b < S.length) (q : Qx) (s z : Nat) (hz : 1 ≤ z) (hz2 : z ≤ 1000) :
    ∃ (s' z' : Nat) (q' : Qx), callF T (k + 2) 19 [(.val, .ref b), (.val, .tup [.int (s : Int), .int (z : Int)])] (st S b q) = .ok (.val, .tup [.int (s' : Int), .int (z' : Int)]) (st S b q') ∧ s ≤ s' ∧ 1 ≤ z' ∧ s' + z' ≤ s + z := by
  obtain ⟨w, q1, e1, h1⟩ := takeN k b 4 S hb q (by decide) (by decide)
  obtain ⟨r, q2, e2, h2⟩ := takeN k b (z : Int) S hb q1 (by omega) (by omega)
  obtain ⟨r3, q3, e3, h3⟩ := takeN k b (z : Int) S hb q2 (by omega) (by omega)
  obtain ⟨r4, q4, e4, h4⟩ := takeN k b ((z : Int) - (r3 : Int)) S hb q3 (by omega) (by omega)
  by_cases w0 : (w : Int) = 0
  · refine ⟨s, 1 + r, q2, ?_, Nat.le_refl _, by omega, by omega⟩
    rw [Int.natCast_add]
    rw [callF_succ]; simp (implicitDefEqProofs := false) only [Int.cast_ofNat_Int, T, List.length_cons, List.length_nil, List.map_cons, List.map_nil, List.replicate, List.cons_append, List.nil_append, evSs, evS, evE, evL, evA, evP, itE, Out.bind, Out.then, OutL.bind, asgP, putS, onB, onS, lift, binR, addR, mulR, binD, cmpD, lstOf, lsqOf, seqOf, lenD, biV, on1, on2, Sr.intD, int2D, vI, vB, ixD, valO, argO, toVal, back1, orS, intV, celL, putC, putO, ownL, endF, tyD, srcM, srcO, walkOf, keyD, augD, Sr.part, pOk, bindP, bindPs, Option.map, List.getElem?_cons_zero, List.getElem?_cons_succ, List.set, List.length_set, ite_true, ite_false, reduceIte, Nat.reduceAdd, Nat.reduceSub, Nat.reduceLT, Nat.reduceEqDiff, Bool.false_eq_true, Bool.not_true, Bool.not_false, decide_true, decide_false, eqD_int, beq_iff_eq, beq_self_eq_true, Bool.not_eq_true', beq_eq_false_iff_ne, ne_eq, not_true_eq_false, not_false_eq_true, compO, compKO, vsOk, wipeD, back, List.all_cons, List.all_nil, List.foldl_cons, List.foldl_nil, Bool.and_true, Bool.true_and, Bool.and_self, Option.getD_some, Option.getD_none, decide_eq_true_eq, List.length_map, atI_0, atI_1, atI_2, lim0, lim1, lim2, lim3, lim4, lim5, lim6, lim7, lim8, lim9, lim10, lim11, lim12, set_last, get_last, eqD_pair, slV, rngL, and_self, true_and, and_true, isa_NoneType_bool, isa_NoneType_int, isa_NoneType_str, isa_NoneType_tuple, isa_NoneType_list, isa_NoneType_dict, isa_bool_bool, isa_bool_int, isa_bool_str, isa_bool_tuple, isa_bool_list, isa_bool_dict, isa_int_bool, isa_int_int, isa_int_str, isa_int_tuple, isa_int_list, isa_int_dict, isa_str_bool, isa_str_int, isa_str_str, isa_str_tuple, isa_str_list, isa_str_dict, isa_tuple_bool, isa_tuple_int, isa_tuple_str, isa_tuple_tuple, isa_tuple_list, isa_tuple_dict, isa_list_bool, isa_list_int, isa_list_str, isa_list_tuple, isa_list_list, isa_list_dict, isa_dict_bool, isa_dict_int, isa_dict_str, isa_dict_tuple, isa_dict_list, isa_dict_dict, ixN_30, ixN_31, ixN_32, b19, e1, e2, w0]
  · by_cases w1 : (w : Int) = 1
    · refine ⟨s + z - (1 + r), 1 + r, q2, ?_, by omega, by omega, by omega⟩
      rw [show ((s + z - (1 + r) : Nat) : Int) = (s : Int) + (z : Int) - (1 + (r : Int)) by omega, show ((1 + r : Nat) : Int) = 1 + (r : Int) by omega]
      have n10 : ¬ (1 : Int) = 0 := by decide
      rw [callF_succ]; simp (implicitDefEqProofs := false) only [Int.cast_ofNat_Int, T, List.length_cons, List.length_nil, List.map_cons, List.map_nil, List.replicate, List.cons_append, List.nil_append, evSs, evS, evE, evL, evA, evP, itE, Out.bind, Out.then, OutL.bind, asgP, putS, onB, onS, lift, binR, addR, mulR, binD, cmpD, lstOf, lsqOf, seqOf, lenD, biV, on1, on2, Sr.intD, int2D, vI, vB, ixD, valO, argO, toVal, back1, orS, intV, celL, putC, putO, ownL, endF, tyD, srcM, srcO, walkOf, keyD, augD, Sr.part, pOk, bindP, bindPs, Option.map, List.getElem?_cons_zero, List.getElem?_cons_succ, List.set, List.length_set, ite_true, ite_false, reduceIte, Nat.reduceAdd, Nat.reduceSub, Nat.reduceLT, Nat.reduceEqDiff, Bool.false_eq_true, Bool.not_true, Bool.not_false, decide_true, decide_false, eqD_int, beq_iff_eq, beq_self_eq_true, Bool.not_eq_true', beq_eq_false_iff_ne, ne_eq, not_true_eq_false, not_false_eq_true, compO, compKO, vsOk, wipeD, back, List.all_cons, List.all_nil, List.foldl_cons, List.foldl_nil, Bool.and_true, Bool.true_and, Bool.and_self, Option.getD_some, Option.getD_none, decide_eq_true_eq, List.length_map, atI_0, atI_1, atI_2, lim0, lim1, lim2, lim3, lim4, lim5, lim6, lim7, lim8, lim9, lim10, lim11, lim12, set_last, get_last, eqD_pair, slV, rngL, and_self, true_and, and_true, isa_NoneType_bool, isa_NoneType_int, isa_NoneType_str, isa_NoneType_tuple, isa_NoneType_list, isa_NoneType_dict, isa_bool_bool, isa_bool_int, isa_bool_str, isa_bool_tuple, isa_bool_list, isa_bool_dict, isa_int_bool, isa_int_int, isa_int_str, isa_int_tuple, isa_int_list, isa_int_dict, isa_str_bool, isa_str_int, isa_str_str, isa_str_tuple, isa_str_list, isa_str_dict, isa_tuple_bool, isa_tuple_int, isa_tuple_str, isa_tuple_tuple, isa_tuple_list, isa_tuple_dict, isa_list_bool, isa_list_int, isa_list_str, isa_list_tuple, isa_list_list, isa_list_dict, isa_dict_bool, isa_dict_int, isa_dict_str, isa_dict_tuple, isa_dict_list, isa_dict_dict, ixN_30, ixN_31, ixN_32, b19, e1, e2, w1, n10]
    · by_cases w2 : (w : Int) = 2
      · refine ⟨s, z, q2, ?_, Nat.le_refl _, hz, Nat.le_refl _⟩
        have n20 : ¬ (2 : Int) = 0 := by decide
        have n21 : ¬ (2 : Int) = 1 := by decide
        rw [callF_succ]; simp (implicitDefEqProofs := false) only [Int.cast_ofNat_Int, T, List.length_cons, List.length_nil, List.map_cons, List.map_nil, List.replicate, List.cons_append, List.nil_append, evSs, evS, evE, evL, evA, evP, itE, Out.bind, Out.then, OutL.bind, asgP, putS, onB, onS, lift, binR, addR, mulR, binD, cmpD, lstOf, lsqOf, seqOf, lenD, biV, on1, on2, Sr.intD, int2D, vI, vB, ixD, valO, argO, toVal, back1, orS, intV, celL, putC, putO, ownL, endF, tyD, srcM, srcO, walkOf, keyD, augD, Sr.part, pOk, bindP, bindPs, Option.map, List.getElem?_cons_zero, List.getElem?_cons_succ, List.set, List.length_set, ite_true, ite_false, reduceIte, Nat.reduceAdd, Nat.reduceSub, Nat.reduceLT, Nat.reduceEqDiff, Bool.false_eq_true, Bool.not_true, Bool.not_false, decide_true, decide_false, eqD_int, beq_iff_eq, beq_self_eq_true, Bool.not_eq_true', beq_eq_false_iff_ne, ne_eq, not_true_eq_false, not_false_eq_true, compO, compKO, vsOk, wipeD, back, List.all_cons, List.all_nil, List.foldl_cons, List.foldl_nil, Bool.and_true, Bool.true_and, Bool.and_self, Option.getD_some, Option.getD_none, decide_eq_true_eq, List.length_map, atI_0, atI_1, atI_2, lim0, lim1, lim2, lim3, lim4, lim5, lim6, lim7, lim8, lim9, lim10, lim11, lim12, set_last, get_last, eqD_pair, slV, rngL, and_self, true_and, and_true, isa_NoneType_bool, isa_NoneType_int, isa_NoneType_str, isa_NoneType_tuple, isa_NoneType_list, isa_NoneType_dict, isa_bool_bool, isa_bool_int, isa_bool_str, isa_bool_tuple, isa_bool_list, isa_bool_dict, isa_int_bool, isa_int_int, isa_int_str, isa_int_tuple, isa_int_list, isa_int_dict, isa_str_bool, isa_str_int, isa_str_str, isa_str_tuple, isa_str_list, isa_str_dict, isa_tuple_bool, isa_tuple_int, isa_tuple_str, isa_tuple_tuple, isa_tuple_list, isa_tuple_dict, isa_list_bool, isa_list_int, isa_list_str, isa_list_tuple, isa_list_list, isa_list_dict, isa_dict_bool, isa_dict_int, isa_dict_str, isa_dict_tuple, isa_dict_list, isa_dict_dict, ixN_30, ixN_31, ixN_32, b19, e1, e2, w2, n20, n21]
      · refine ⟨s + r3, 1 + r4, q4, ?_, by omega, by omega, by omega⟩
        rw [show ((s + r3 : Nat) : Int) = (s : Int) + (r3 : Int) by omega, show ((1 + r4 : Nat) : Int) = 1 + (r4 : Int) by omega]
        rw [callF_succ]; simp (implicitDefEqProofs := false) only [Int.cast_ofNat_Int, T, List.length_cons, List.length_nil, List.map_cons, List.map_nil, List.replicate, List.cons_append, List.nil_append, evSs, evS, evE, evL, evA, evP, itE, Out.bind, Out.then, OutL.bind, asgP, putS, onB, onS, lift, binR, addR, mulR, binD, cmpD, lstOf, lsqOf, seqOf, lenD, biV, on1, on2, Sr.intD, int2D, vI, vB, ixD, valO, argO, toVal, back1, orS, intV, celL, putC, putO, ownL, endF, tyD, srcM, srcO, walkOf, keyD, augD, Sr.part, pOk, bindP, bindPs, Option.map, List.getElem?_cons_zero, List.getElem?_cons_succ, List.set, List.length_set, ite_true, ite_false, reduceIte, Nat.reduceAdd, Nat.reduceSub, Nat.reduceLT, Nat.reduceEqDiff, Bool.false_eq_true, Bool.not_true, Bool.not_false, decide_true, decide_false, eqD_int, beq_iff_eq, beq_self_eq_true, Bool.not_eq_true', beq_eq_false_iff_ne, ne_eq, not_true_eq_false, not_false_eq_true, compO, compKO, vsOk, wipeD, back, List.all_cons, List.all_nil, List.foldl_cons, List.foldl_nil, Bool.and_true, Bool.true_and, Bool.and_self, Option.getD_some, Option.getD_none, decide_eq_true_eq, List.length_map, atI_0, atI_1, atI_2, lim0, lim1, lim2, lim3, lim4, lim5, lim6, lim7, lim8, lim9, lim10, lim11, lim12, set_last, get_last, eqD_pair, slV, rngL, and_self, true_and, and_true, isa_NoneType_bool, isa_NoneType_int, isa_NoneType_str, isa_NoneType_tuple, isa_NoneType_list, isa_NoneType_dict, isa_bool_bool, isa_bool_int, isa_bool_str, isa_bool_tuple, isa_bool_list, isa_bool_dict, isa_int_bool, isa_int_int, isa_int_str, isa_int_tuple, isa_int_list, isa_int_dict, isa_str_bool, isa_str_int, isa_str_str, isa_str_tuple, isa_str_list, isa_str_dict, isa_tuple_bool, isa_tuple_int, isa_tuple_str, isa_tuple_tuple, isa_tuple_list, isa_tuple_dict, isa_list_bool, isa_list_int, isa_list_str, isa_list_tuple, isa_list_list, isa_list_dict, isa_dict_bool, isa_dict_int, isa_dict_str, isa_dict_tuple, isa_dict_list, isa_dict_dict, ixN_30, ixN_31, ixN_32, b19, e1, e2, w0, w1, w2, e3, e4]
theorem whole_i (k : Nat) (a b : Int) (h : a = b) (S : List Cell) : callF T (k + 1) 20 [(.val, .int a), (.val, .int b)] S = .ok (.val, .bl true) S := by
  subst h
  rw [callF_succ]; simp (implicitDefEqProofs := false) only [Int.cast_ofNat_Int, T, List.length_cons, List.length_nil, List.map_cons, List.map_nil, List.replicate, List.cons_append, List.nil_append, evSs, evS, evE, evL, evA, evP, itE, Out.bind, Out.then, OutL.bind, asgP, putS, onB, onS, lift, binR, addR, mulR, binD, cmpD, lstOf, lsqOf, seqOf, lenD, biV, on1, on2, Sr.intD, int2D, vI, vB, ixD, valO, argO, toVal, back1, orS, intV, celL, putC, putO, ownL, endF, tyD, srcM, srcO, walkOf, keyD, augD, Sr.part, pOk, bindP, bindPs, Option.map, List.getElem?_cons_zero, List.getElem?_cons_succ, List.set, List.length_set, ite_true, ite_false, reduceIte, Nat.reduceAdd, Nat.reduceSub, Nat.reduceLT, Nat.reduceEqDiff, Bool.false_eq_true, Bool.not_true, Bool.not_false, decide_true, decide_false, eqD_int, beq_iff_eq, beq_self_eq_true, Bool.not_eq_true', beq_eq_false_iff_ne, ne_eq, not_true_eq_false, not_false_eq_true, compO, compKO, vsOk, wipeD, back, List.all_cons, List.all_nil, List.foldl_cons, List.foldl_nil, Bool.and_true, Bool.true_and, Bool.and_self, Option.getD_some, Option.getD_none, decide_eq_true_eq, List.length_map, atI_0, atI_1, atI_2, lim0, lim1, lim2, lim3, lim4, lim5, lim6, lim7, lim8, lim9, lim10, lim11, lim12, set_last, get_last, eqD_pair, slV, rngL, and_self, true_and, and_true, isa_NoneType_bool, isa_NoneType_int, isa_NoneType_str, isa_NoneType_tuple, isa_NoneType_list, isa_NoneType_dict, isa_bool_bool, isa_bool_int, isa_bool_str, isa_bool_tuple, isa_bool_list, isa_bool_dict, isa_int_bool, isa_int_int, isa_int_str, isa_int_tuple, isa_int_list, isa_int_dict, isa_str_bool, isa_str_int, isa_str_str, isa_str_tuple, isa_str_list, isa_str_dict, isa_tuple_bool, isa_tuple_int, isa_tuple_str, isa_tuple_tuple, isa_tuple_list, isa_tuple_dict, isa_list_bool, isa_list_int, isa_list_str, isa_list_tuple, isa_list_list, isa_list_dict, isa_dict_bool, isa_dict_int, isa_dict_str, isa_dict_tuple, isa_dict_list, isa_dict_dict, ixN_30, ixN_31, ixN_32, b20]
/-! ### the hole of a cell -/
def holeOf : List Hl → Nat → D
  | [], _ => .non
  | h :: t, c => if h.1 ≤ c ∧ c < h.1 + h.2 then hD h else holeOf t c
theorem holeLoop (Φ : Nat → List Sl → List Cell → COut) (c : Nat) (S : List Cell) (x0 : Option Sl) : ∀ (R : List Hl) (x2 x3 : Option Sl),
    (∃ y2 y3, holeOf R c = .non ∧ forL (.tup [.nm 2, .nm 3]) (evSs Φ l21_0) (R.map hD) ⟨[x0, some (.val, .int (c : Int)), x2, x3], S⟩ = .nx ⟨[x0, some (.val, .int (c : Int)), y2, y3], S⟩) ∨
    (forL (.tup [.nm 2, .nm 3]) (evSs Φ l21_0) (R.map hD) ⟨[x0, some (.val, .int (c : Int)), x2, x3], S⟩ = .ret (.val, holeOf R c) S)
  | [], x2, x3 => .inl ⟨x2, x3, rfl, rfl⟩
  | h :: t, x2, x3 => by
    have bd : bindP (.tup [.nm 2, .nm 3]) (hD h) [x0, some (.val, .int (c : Int)), x2, x3] = some [x0, some (.val, .int (c : Int)), some (.val, .int (h.1 : Int)), some (.val, .int (h.2 : Int))] := by
      unfold hD
      simp (implicitDefEqProofs := false) only [Int.cast_ofNat_Int, T, List.length_cons, List.length_nil, List.map_cons, List.map_nil, List.replicate, List.cons_append, List.nil_append, evSs, evS, evE, evL, evA, evP, itE, Out.bind, Out.then, OutL.bind, asgP, putS, onB, onS, lift, binR, addR, mulR, binD, cmpD, lstOf, lsqOf, seqOf, lenD, biV, on1, on2, Sr.intD, int2D, vI, vB, ixD, valO, argO, toVal, back1, orS, intV, celL, putC, putO, ownL, endF, tyD, srcM, srcO, walkOf, keyD, augD, Sr.part, pOk, bindP, bindPs, Option.map, List.getElem?_cons_zero, List.getElem?_cons_succ, List.set, List.length_set, ite_true, ite_false, reduceIte, Nat.reduceAdd, Nat.reduceSub, Nat.reduceLT, Nat.reduceEqDiff, Bool.false_eq_true, Bool.not_true, Bool.not_false, decide_true, decide_false, eqD_int, beq_iff_eq, beq_self_eq_true, Bool.not_eq_true', beq_eq_false_iff_ne, ne_eq, not_true_eq_false, not_false_eq_true, compO, compKO, vsOk, wipeD, back, List.all_cons, List.all_nil, List.foldl_cons, List.foldl_nil, Bool.and_true, Bool.true_and, Bool.and_self, Option.getD_some, Option.getD_none, decide_eq_true_eq, List.length_map, atI_0, atI_1, atI_2, lim0, lim1, lim2, lim3, lim4, lim5, lim6, lim7, lim8, lim9, lim10, lim11, lim12, set_last, get_last, eqD_pair, slV, rngL, and_self, true_and, and_true, isa_NoneType_bool, isa_NoneType_int, isa_NoneType_str, isa_NoneType_tuple, isa_NoneType_list, isa_NoneType_dict, isa_bool_bool, isa_bool_int, isa_bool_str, isa_bool_tuple, isa_bool_list, isa_bool_dict, isa_int_bool, isa_int_int, isa_int_str, isa_int_tuple, isa_int_list, isa_int_dict, isa_str_bool, isa_str_int, isa_str_str, isa_str_tuple, isa_str_list, isa_str_dict, isa_tuple_bool, isa_tuple_int, isa_tuple_str, isa_tuple_tuple, isa_tuple_list, isa_tuple_dict, isa_list_bool, isa_list_int, isa_list_str, isa_list_tuple, isa_list_list, isa_list_dict, isa_dict_bool, isa_dict_int, isa_dict_str, isa_dict_tuple, isa_dict_list, isa_dict_dict, ixN_30, ixN_31, ixN_32]
    by_cases z : h.1 ≤ c ∧ c < h.1 + h.2
    · refine .inr ?_
      have z1 : (h.1 : Int) ≤ (c : Int) := by omega
      have z2 : (c : Int) < (h.1 : Int) + (h.2 : Int) := by omega
      have eb : evSs Φ l21_0 ⟨[x0, some (.val, .int (c : Int)), some (.val, .int (h.1 : Int)), some (.val, .int (h.2 : Int))], S⟩ = .ret (.val, hD h) S := by
        unfold hD
        simp (implicitDefEqProofs := false) only [Int.cast_ofNat_Int, T, List.length_cons, List.length_nil, List.map_cons, List.map_nil, List.replicate, List.cons_append, List.nil_append, evSs, evS, evE, evL, evA, evP, itE, Out.bind, Out.then, OutL.bind, asgP, putS, onB, onS, lift, binR, addR, mulR, binD, cmpD, lstOf, lsqOf, seqOf, lenD, biV, on1, on2, Sr.intD, int2D, vI, vB, ixD, valO, argO, toVal, back1, orS, intV, celL, putC, putO, ownL, endF, tyD, srcM, srcO, walkOf, keyD, augD, Sr.part, pOk, bindP, bindPs, Option.map, List.getElem?_cons_zero, List.getElem?_cons_succ, List.set, List.length_set, ite_true, ite_false, reduceIte, Nat.reduceAdd, Nat.reduceSub, Nat.reduceLT, Nat.reduceEqDiff, Bool.false_eq_true, Bool.not_true, Bool.not_false, decide_true, decide_false, eqD_int, beq_iff_eq, beq_self_eq_true, Bool.not_eq_true', beq_eq_false_iff_ne, ne_eq, not_true_eq_false, not_false_eq_true, compO, compKO, vsOk, wipeD, back, List.all_cons, List.all_nil, List.foldl_cons, List.foldl_nil, Bool.and_true, Bool.true_and, Bool.and_self, Option.getD_some, Option.getD_none, decide_eq_true_eq, List.length_map, atI_0, atI_1, atI_2, lim0, lim1, lim2, lim3, lim4, lim5, lim6, lim7, lim8, lim9, lim10, lim11, lim12, set_last, get_last, eqD_pair, slV, rngL, and_self, true_and, and_true, isa_NoneType_bool, isa_NoneType_int, isa_NoneType_str, isa_NoneType_tuple, isa_NoneType_list, isa_NoneType_dict, isa_bool_bool, isa_bool_int, isa_bool_str, isa_bool_tuple, isa_bool_list, isa_bool_dict, isa_int_bool, isa_int_int, isa_int_str, isa_int_tuple, isa_int_list, isa_int_dict, isa_str_bool, isa_str_int, isa_str_str, isa_str_tuple, isa_str_list, isa_str_dict, isa_tuple_bool, isa_tuple_int, isa_tuple_str, isa_tuple_tuple, isa_tuple_list, isa_tuple_dict, isa_list_bool, isa_list_int, isa_list_str, isa_list_tuple, isa_list_list, isa_list_dict, isa_dict_bool, isa_dict_int, isa_dict_str, isa_dict_tuple, isa_dict_list, isa_dict_dict, ixN_30, ixN_31, ixN_32, l21_0, z1, z2]
      have eo : holeOf (h :: t) c = hD h := if_pos z
      rw [eo, List.map_cons]
      unfold forL
      dsimp only
      rw [bd]
      dsimp only
      rw [eb]
    · have eb : evSs Φ l21_0 ⟨[x0, some (.val, .int (c : Int)), some (.val, .int (h.1 : Int)), some (.val, .int (h.2 : Int))], S⟩ = .nx ⟨[x0, some (.val, .int (c : Int)), some (.val, .int (h.1 : Int)), some (.val, .int (h.2 : Int))], S⟩ := by
        by_cases z1 : (h.1 : Int) ≤ (c : Int)
        · have z2 : ¬ (c : Int) < (h.1 : Int) + (h.2 : Int) := by omega
          simp (implicitDefEqProofs := false) only [Int.cast_ofNat_Int, T, List.length_cons, List.length_nil, List.map_cons, List.map_nil, List.replicate, List.cons_append, List.nil_append, evSs, evS, evE, evL, evA, evP, itE, Out.bind, Out.then, OutL.bind, asgP, putS, onB, onS, lift, binR, addR, mulR, binD, cmpD, lstOf, lsqOf, seqOf, lenD, biV, on1, on2, Sr.intD, int2D, vI, vB, ixD, valO, argO, toVal, back1, orS, intV, celL, putC, putO, ownL, endF, tyD, srcM, srcO, walkOf, keyD, augD, Sr.part, pOk, bindP, bindPs, Option.map, List.getElem?_cons_zero, List.getElem?_cons_succ, List.set, List.length_set, ite_true, ite_false, reduceIte, Nat.reduceAdd, Nat.reduceSub, Nat.reduceLT, Nat.reduceEqDiff, Bool.false_eq_true, Bool.not_true, Bool.not_false, decide_true, decide_false, eqD_int, beq_iff_eq, beq_self_eq_true, Bool.not_eq_true', beq_eq_false_iff_ne, ne_eq, not_true_eq_false, not_false_eq_true, compO, compKO, vsOk, wipeD, back, List.all_cons, List.all_nil, List.foldl_cons, List.foldl_nil, Bool.and_true, Bool.true_and, Bool.and_self, Option.getD_some, Option.getD_none, decide_eq_true_eq, List.length_map, atI_0, atI_1, atI_2, lim0, lim1, lim2, lim3, lim4, lim5, lim6, lim7, lim8, lim9, lim10, lim11, lim12, set_last, get_last, eqD_pair, slV, rngL, and_self, true_and, and_true, isa_NoneType_bool, isa_NoneType_int, isa_NoneType_str, isa_NoneType_tuple, isa_NoneType_list, isa_NoneType_dict, isa_bool_bool, isa_bool_int, isa_bool_str, isa_bool_tuple, isa_bool_list, isa_bool_dict, isa_int_bool, isa_int_int, isa_int_str, isa_int_tuple, isa_int_list, isa_int_dict, isa_str_bool, isa_str_int, isa_str_str, isa_str_tuple, isa_str_list, isa_str_dict, isa_tuple_bool, isa_tuple_int, isa_tuple_str, isa_tuple_tuple, isa_tuple_list, isa_tuple_dict, isa_list_bool, isa_list_int, isa_list_str, isa_list_tuple, isa_list_list, isa_list_dict, isa_dict_bool, isa_dict_int, isa_dict_str, isa_dict_tuple, isa_dict_list, isa_dict_dict, ixN_30, ixN_31, ixN_32, l21_0, z1, z2]
        · simp (implicitDefEqProofs := false) only [Int.cast_ofNat_Int, T, List.length_cons, List.length_nil, List.map_cons, List.map_nil, List.replicate, List.cons_append, List.nil_append, evSs, evS, evE, evL, evA, evP, itE, Out.bind, Out.then, OutL.bind, asgP, putS, onB, onS, lift, binR, addR, mulR, binD, cmpD, lstOf, lsqOf, seqOf, lenD, biV, on1, on2, Sr.intD, int2D, vI, vB, ixD, valO, argO, toVal, back1, orS, intV, celL, putC, putO, ownL, endF, tyD, srcM, srcO, walkOf, keyD, augD, Sr.part, pOk, bindP, bindPs, Option.map, List.getElem?_cons_zero, List.getElem?_cons_succ, List.set, List.length_set, ite_true, ite_false, reduceIte, Nat.reduceAdd, Nat.reduceSub, Nat.reduceLT, Nat.reduceEqDiff, Bool.false_eq_true, Bool.not_true, Bool.not_false, decide_true, decide_false, eqD_int, beq_iff_eq, beq_self_eq_true, Bool.not_eq_true', beq_eq_false_iff_ne, ne_eq, not_true_eq_false, not_false_eq_true, compO, compKO, vsOk, wipeD, back, List.all_cons, List.all_nil, List.foldl_cons, List.foldl_nil, Bool.and_true, Bool.true_and, Bool.and_self, Option.getD_some, Option.getD_none, decide_eq_true_eq, List.length_map, atI_0, atI_1, atI_2, lim0, lim1, lim2, lim3, lim4, lim5, lim6, lim7, lim8, lim9, lim10, lim11, lim12, set_last, get_last, eqD_pair, slV, rngL, and_self, true_and, and_true, isa_NoneType_bool, isa_NoneType_int, isa_NoneType_str, isa_NoneType_tuple, isa_NoneType_list, isa_NoneType_dict, isa_bool_bool, isa_bool_int, isa_bool_str, isa_bool_tuple, isa_bool_list, isa_bool_dict, isa_int_bool, isa_int_int, isa_int_str, isa_int_tuple, isa_int_list, isa_int_dict, isa_str_bool, isa_str_int, isa_str_str, isa_str_tuple, isa_str_list, isa_str_dict, isa_tuple_bool, isa_tuple_int, isa_tuple_str, isa_tuple_tuple, isa_tuple_list, isa_tuple_dict, isa_list_bool, isa_list_int, isa_list_str, isa_list_tuple, isa_list_list, isa_list_dict, isa_dict_bool, isa_dict_int, isa_dict_str, isa_dict_tuple, isa_dict_list, isa_dict_dict, ixN_30, ixN_31, ixN_32, l21_0, z1]
      have eo : holeOf (h :: t) c = holeOf t c := if_neg z
      rw [eo, List.map_cons, for_go bd eb]
      exact holeLoop Φ c S x0 t _ _
theorem hole_of (k : Nat) (R : List Hl) (c : Nat) (S : List Cell) : callF T (k + 1) 21 [(.lent, .lst (R.map hD)), (.val, .int (c : Int))] S = .ok (.val, holeOf R c) S := by
  rcases holeLoop (callF T k) c S (some (.lent, .lst (R.map hD))) R none none with ⟨y2, y3, e1, e2⟩ | e2
  · rw [e1]
    rw [callF_succ]; simp (implicitDefEqProofs := false) only [Int.cast_ofNat_Int, T, List.length_cons, List.length_nil, List.map_cons, List.map_nil, List.replicate, List.cons_append, List.nil_append, evSs, evS, evE, evL, evA, evP, itE, Out.bind, Out.then, OutL.bind, asgP, putS, onB, onS, lift, binR, addR, mulR, binD, cmpD, lstOf, lsqOf, seqOf, lenD, biV, on1, on2, Sr.intD, int2D, vI, vB, ixD, valO, argO, toVal, back1, orS, intV, celL, putC, putO, ownL, endF, tyD, srcM, srcO, walkOf, keyD, augD, Sr.part, pOk, bindP, bindPs, Option.map, List.getElem?_cons_zero, List.getElem?_cons_succ, List.set, List.length_set, ite_true, ite_false, reduceIte, Nat.reduceAdd, Nat.reduceSub, Nat.reduceLT, Nat.reduceEqDiff, Bool.false_eq_true, Bool.not_true, Bool.not_false, decide_true, decide_false, eqD_int, beq_iff_eq, beq_self_eq_true, Bool.not_eq_true', beq_eq_false_iff_ne, ne_eq, not_true_eq_false, not_false_eq_true, compO, compKO, vsOk, wipeD, back, List.all_cons, List.all_nil, List.foldl_cons, List.foldl_nil, Bool.and_true, Bool.true_and, Bool.and_self, Option.getD_some, Option.getD_none, decide_eq_true_eq, List.length_map, atI_0, atI_1, atI_2, lim0, lim1, lim2, lim3, lim4, lim5, lim6, lim7, lim8, lim9, lim10, lim11, lim12, set_last, get_last, eqD_pair, slV, rngL, and_self, true_and, and_true, isa_NoneType_bool, isa_NoneType_int, isa_NoneType_str, isa_NoneType_tuple, isa_NoneType_list, isa_NoneType_dict, isa_bool_bool, isa_bool_int, isa_bool_str, isa_bool_tuple, isa_bool_list, isa_bool_dict, isa_int_bool, isa_int_int, isa_int_str, isa_int_tuple, isa_int_list, isa_int_dict, isa_str_bool, isa_str_int, isa_str_str, isa_str_tuple, isa_str_list, isa_str_dict, isa_tuple_bool, isa_tuple_int, isa_tuple_str, isa_tuple_tuple, isa_tuple_list, isa_tuple_dict, isa_list_bool, isa_list_int, isa_list_str, isa_list_tuple, isa_list_list, isa_list_dict, isa_dict_bool, isa_dict_int, isa_dict_str, isa_dict_tuple, isa_dict_list, isa_dict_dict, ixN_30, ixN_31, ixN_32, b21, e2]
  · rw [callF_succ]; simp (implicitDefEqProofs := false) only [Int.cast_ofNat_Int, T, List.length_cons, List.length_nil, List.map_cons, List.map_nil, List.replicate, List.cons_append, List.nil_append, evSs, evS, evE, evL, evA, evP, itE, Out.bind, Out.then, OutL.bind, asgP, putS, onB, onS, lift, binR, addR, mulR, binD, cmpD, lstOf, lsqOf, seqOf, lenD, biV, on1, on2, Sr.intD, int2D, vI, vB, ixD, valO, argO, toVal, back1, orS, intV, celL, putC, putO, ownL, endF, tyD, srcM, srcO, walkOf, keyD, augD, Sr.part, pOk, bindP, bindPs, Option.map, List.getElem?_cons_zero, List.getElem?_cons_succ, List.set, List.length_set, ite_true, ite_false, reduceIte, Nat.reduceAdd, Nat.reduceSub, Nat.reduceLT, Nat.reduceEqDiff, Bool.false_eq_true, Bool.not_true, Bool.not_false, decide_true, decide_false, eqD_int, beq_iff_eq, beq_self_eq_true, Bool.not_eq_true', beq_eq_false_iff_ne, ne_eq, not_true_eq_false, not_false_eq_true, compO, compKO, vsOk, wipeD, back, List.all_cons, List.all_nil, List.foldl_cons, List.foldl_nil, Bool.and_true, Bool.true_and, Bool.and_self, Option.getD_some, Option.getD_none, decide_eq_true_eq, List.length_map, atI_0, atI_1, atI_2, lim0, lim1, lim2, lim3, lim4, lim5, lim6, lim7, lim8, lim9, lim10, lim11, lim12, set_last, get_last, eqD_pair, slV, rngL, and_self, true_and, and_true, isa_NoneType_bool, isa_NoneType_int, isa_NoneType_str, isa_NoneType_tuple, isa_NoneType_list, isa_NoneType_dict, isa_bool_bool, isa_bool_int, isa_bool_str, isa_bool_tuple, isa_bool_list, isa_bool_dict, isa_int_bool, isa_int_int, isa_int_str, isa_int_tuple, isa_int_list, isa_int_dict, isa_str_bool, isa_str_int, isa_str_str, isa_str_tuple, isa_str_list, isa_str_dict, isa_tuple_bool, isa_tuple_int, isa_tuple_str, isa_tuple_tuple, isa_tuple_list, isa_tuple_dict, isa_list_bool, isa_list_int, isa_list_str, isa_list_tuple, isa_list_list, isa_list_dict, isa_dict_bool, isa_dict_int, isa_dict_str, isa_dict_tuple, isa_dict_list, isa_dict_dict, ixN_30, ixN_31, ixN_32, b21, e2]
theorem holeOf_at {A B : List Hl} {h : Hl} {c : Nat} (hA : ∀ x ∈ A, x.1 + x.2 ≤ c) (h1 : h.1 ≤ c) (h2 : c < h.1 + h.2) : holeOf (A ++ h :: B) c = hD h := by
  induction A with
  | nil => exact if_pos ⟨h1, h2⟩
  | cons a A ih =>
    have := hA a (List.mem_cons_self ..)
    show (if a.1 ≤ c ∧ c < a.1 + a.2 then hD a else holeOf (A ++ h :: B) c) = _
    rw [if_neg (by omega), ih fun x hx => hA x (List.mem_cons_of_mem _ hx)]
theorem holeOf_no {R : List Hl} {c : Nat} (h : ¬ InH R c) : holeOf R c = .non := by
  induction R with
  | nil => rfl
  | cons a A ih =>
    show (if a.1 ≤ c ∧ c < a.1 + a.2 then hD a else holeOf A c) = _
    rw [if_neg fun z => h (inH_cons.mpr (.inl z)), ih fun z => h (inH_cons.mpr (.inr z))]
/-- has, said by the cells -/
theorem hasB_iff {R : List Hl} {m : Nat} {F : Nat → Prop} (K : Bk R m F) (s z : Nat) (hz : 1 ≤ z) : hasB R s z = true ↔ ∀ c, s ≤ c → c < s + z → F c := by
  obtain ⟨A, B, rfl, e3, hA, hB⟩ := num_split s R
  obtain ⟨p1, p2⟩ := sepA_app.mp K.sep
  unfold hasB
  rw [← e3, List.drop_left]
  constructor
  · intro q c g1 g2
    cases B with
    | nil => cases q
    | cons h t =>
      have q := of_decide_eq_true q
      exact (K.isIn c).mp (inH_app.mpr (.inr (inH_cons.mpr (.inl ⟨by omega, by omega⟩))))
  · intro q
    have inB : ∀ c, s ≤ c → c < s + z → InH B c := fun c g1 g2 => by
      rcases inH_app.mp ((K.isIn c).mpr (q c g1 g2)) with y | y
      · have := y.upto hA; omega
      · exact y
    have hB' : ∃ h t, B = h :: t ∧ s < h.1 + h.2 := by
      rcases hB with rfl | hB
      · exact absurd (inB s (Nat.le_refl _) (by omega)) (inH_nil _)
      · exact hB
    obtain ⟨h, t, rfl, q1, q2⟩ := Bk.whole p2 hz inB hB'
    exact decide_eq_true ⟨q1, q2⟩
section
variable (k n r w : Nat) {S : List Cell} (hn : S[n]? = some (bk w r))
include hn
theorem hole_at {R : List Hl} {F : Nat → Prop} (K : Bk R w F) (hw : w ≤ 240) (hr : S[r]? = some (rwS R)) (c : Nat) (hc : c < w) : callF T (k + 4) 10 [(.val, .ref n), (.val, .int (c : Int))] S = .ok (.val, holeOf R c) S := by
  have hl : R.length ≤ 1000 := Nat.le_trans K.sep.le (by omega)
  have e1 := is_within_i (k + 1) (c : Int) 0 ((w : Int) - 1) (by omega) (by omega) S
  have e2 := has_ k n r w hn R hr hl c 1 (Nat.le_refl _)
  have e3 := number_of (k + 2) n r w hn R hr hl c
  have m0 : (0 : Nat) ∈ [0] := List.mem_cons_self ..
  have lk : List.lookup ("rows" : Str) [(("width" : Str), D.int (w : Int)), ("rows", .ref r)] = some (.ref r) := rfl
  have lk0 : List.lookup ("width" : Str) [(("width" : Str), D.int (w : Int)), ("rows", .ref r)] = some (.int (w : Int)) := rfl
  have lk1 : List.lookup ("number_of" : Str) [(("width" : Str), D.int (w : Int)), ("rows", .ref r)] = none := rfl
  have lk2 : List.lookup 0 [((0 : Nat), 8)] = some 8 := rfl
  have lk3 : List.lookup ("has" : Str) [(("width" : Str), D.int (w : Int)), ("rows", .ref r)] = none := rfl
  have lk4 : List.lookup 0 [((0 : Nat), 9)] = some 9 := rfl
  have hif := hasB_iff K c 1 (Nat.le_refl _)
  have o1 : ((1 : Nat) : Int) = 1 := rfl
  rw [o1] at e2
  unfold bk at hn
  have hr' := hr
  unfold rwS at hr'
  cases q : hasB R c 1 with
  | true =>
    rw [q] at e2
    have fc := hif.mp q c (Nat.le_refl _) (by omega)
    obtain ⟨A, B, rfl, e4, hA, hB⟩ := num_split c R
    rw [← e4] at e3
    obtain ⟨h, t, rfl, g1, g2⟩ : ∃ h t, B = h :: t ∧ h.1 ≤ c ∧ c < h.1 + h.2 := by
      rcases hB with rfl | ⟨h, t, rfl, y⟩
      · rw [List.append_nil] at K
        have := ((K.isIn c).mpr fc).upto hA
        omega
      · refine ⟨h, t, rfl, ?_, y⟩
        have p2 := (sepA_app.mp K.sep).2
        rcases inH_app.mp ((K.isIn c).mpr fc) with v | v
        · have := v.upto hA; omega
        · rcases inH_cons.mp v with v | v
          · exact v.1
          · have := p2.2.2.2.inlow v; omega
    rw [holeOf_at hA g1 g2]
    have a1 : atI ((A ++ h :: t).map hD) ((A.length : Nat) : Int) = some (hD h) := atI_nat get_mid
    generalize (A ++ h :: t).map hD = ds at *
    rw [callF_succ]; simp (implicitDefEqProofs := false) only [Int.cast_ofNat_Int, T, List.length_cons, List.length_nil, List.map_cons, List.map_nil, List.replicate, List.cons_append, List.nil_append, evSs, evS, evE, evL, evA, evP, itE, Out.bind, Out.then, OutL.bind, asgP, putS, onB, onS, lift, binR, addR, mulR, binD, cmpD, lstOf, lsqOf, seqOf, lenD, biV, on1, on2, Sr.intD, int2D, vI, vB, ixD, valO, argO, toVal, back1, orS, intV, celL, putC, putO, ownL, endF, tyD, srcM, srcO, walkOf, keyD, augD, Sr.part, pOk, bindP, bindPs, Option.map, List.getElem?_cons_zero, List.getElem?_cons_succ, List.set, List.length_set, ite_true, ite_false, reduceIte, Nat.reduceAdd, Nat.reduceSub, Nat.reduceLT, Nat.reduceEqDiff, Bool.false_eq_true, Bool.not_true, Bool.not_false, decide_true, decide_false, eqD_int, beq_iff_eq, beq_self_eq_true, Bool.not_eq_true', beq_eq_false_iff_ne, ne_eq, not_true_eq_false, not_false_eq_true, compO, compKO, vsOk, wipeD, back, List.all_cons, List.all_nil, List.foldl_cons, List.foldl_nil, Bool.and_true, Bool.true_and, Bool.and_self, Option.getD_some, Option.getD_none, decide_eq_true_eq, List.length_map, atI_0, atI_1, atI_2, lim0, lim1, lim2, lim3, lim4, lim5, lim6, lim7, lim8, lim9, lim10, lim11, lim12, set_last, get_last, eqD_pair, slV, rngL, and_self, true_and, and_true, isa_NoneType_bool, isa_NoneType_int, isa_NoneType_str, isa_NoneType_tuple, isa_NoneType_list, isa_NoneType_dict, isa_bool_bool, isa_bool_int, isa_bool_str, isa_bool_tuple, isa_bool_list, isa_bool_dict, isa_int_bool, isa_int_int, isa_int_str, isa_int_tuple, isa_int_list, isa_int_dict, isa_str_bool, isa_str_int, isa_str_str, isa_str_tuple, isa_str_list, isa_str_dict, isa_tuple_bool, isa_tuple_int, isa_tuple_str, isa_tuple_tuple, isa_tuple_list, isa_tuple_dict, isa_list_bool, isa_list_int, isa_list_str, isa_list_tuple, isa_list_list, isa_list_dict, isa_dict_bool, isa_dict_int, isa_dict_str, isa_dict_tuple, isa_dict_list, isa_dict_dict, ixN_30, ixN_31, ixN_32, b10, hn, m0, lk, lk0, e1, lk3, lk4, e2, hr', lk1, lk2, e3, a1]
  | false =>
    rw [q] at e2
    have nf : ¬ InH R c := fun y => by
      have := hif.mpr fun c' g1 g2 => (K.isIn c').mp (by rw [show c' = c by omega]; exact y)
      rw [q] at this
      cases this
    rw [holeOf_no nf]
    rw [callF_succ]; simp (implicitDefEqProofs := false) only [Int.cast_ofNat_Int, T, List.length_cons, List.length_nil, List.map_cons, List.map_nil, List.replicate, List.cons_append, List.nil_append, evSs, evS, evE, evL, evA, evP, itE, Out.bind, Out.then, OutL.bind, asgP, putS, onB, onS, lift, binR, addR, mulR, binD, cmpD, lstOf, lsqOf, seqOf, lenD, biV, on1, on2, Sr.intD, int2D, vI, vB, ixD, valO, argO, toVal, back1, orS, intV, celL, putC, putO, ownL, endF, tyD, srcM, srcO, walkOf, keyD, augD, Sr.part, pOk, bindP, bindPs, Option.map, List.getElem?_cons_zero, List.getElem?_cons_succ, List.set, List.length_set, ite_true, ite_false, reduceIte, Nat.reduceAdd, Nat.reduceSub, Nat.reduceLT, Nat.reduceEqDiff, Bool.false_eq_true, Bool.not_true, Bool.not_false, decide_true, decide_false, eqD_int, beq_iff_eq, beq_self_eq_true, Bool.not_eq_true', beq_eq_false_iff_ne, ne_eq, not_true_eq_false, not_false_eq_true, compO, compKO, vsOk, wipeD, back, List.all_cons, List.all_nil, List.foldl_cons, List.foldl_nil, Bool.and_true, Bool.true_and, Bool.and_self, Option.getD_some, Option.getD_none, decide_eq_true_eq, List.length_map, atI_0, atI_1, atI_2, lim0, lim1, lim2, lim3, lim4, lim5, lim6, lim7, lim8, lim9, lim10, lim11, lim12, set_last, get_last, eqD_pair, slV, rngL, and_self, true_and, and_true, isa_NoneType_bool, isa_NoneType_int, isa_NoneType_str, isa_NoneType_tuple, isa_NoneType_list, isa_NoneType_dict, isa_bool_bool, isa_bool_int, isa_bool_str, isa_bool_tuple, isa_bool_list, isa_bool_dict, isa_int_bool, isa_int_int, isa_int_str, isa_int_tuple, isa_int_list, isa_int_dict, isa_str_bool, isa_str_int, isa_str_str, isa_str_tuple, isa_str_list, isa_str_dict, isa_tuple_bool, isa_tuple_int, isa_tuple_str, isa_tuple_tuple, isa_tuple_list, isa_tuple_dict, isa_list_bool, isa_list_int, isa_list_str, isa_list_tuple, isa_list_list, isa_list_dict, isa_dict_bool, isa_dict_int, isa_dict_str, isa_dict_tuple, isa_dict_list, isa_dict_dict, ixN_30, ixN_31, ixN_32, b10, hn, m0, lk, lk0, e1, lk3, lk4, e2]
end
end Kx

namespace Kx
open PySem PySem.Spec PyProof.Rows L2 Sr
theorem holeOf_or (R : List Hl) (c : Nat) : holeOf R c = .non ∨ ∃ h, holeOf R c = hD h := by
  induction R with
  | nil => exact .inl rfl
  | cons a A ih =>
    by_cases z : a.1 ≤ c ∧ c < a.1 + a.2
    · exact .inr ⟨a, if_pos z⟩
    · rcases ih with h | ⟨h, e⟩
      · exact .inl ((if_neg z).trans h)
      · exact .inr ⟨h, (if_neg z).trans e⟩
theorem eq_hole (S : List Cell) (R : List Hl) (c : Nat) : eqD S (.val, holeOf R c) (.val, holeOf R c) = some true := by
  rcases holeOf_or R c with e | ⟨h, e⟩
  · rw [e]; exact eqD_of (d := .non) rfl rfl Pl.non
  · rw [e]; exact eqD_of (d := hD h) rfl rfl ((pl_h h).mono (by omega))
theorem eqD_bl (S : List Cell) (a b : Bool) : eqD S (.val, .bl a) (.val, .bl b) = some (a == b) := by
  cases a <;> cases b <;> rfl
def allB (f : Nat → Bool) (c z : Nat) : Bool := (List.range z).all fun i => f (c + i)
theorem allB_iff {f : Nat → Bool} {c z : Nat} : allB f c z = true ↔ ∀ x, c ≤ x → x < c + z → f x = true := by
  unfold allB
  rw [List.all_eq_true]
  constructor
  · intro h x h1 h2
    have := h (x - c) (List.mem_range.mpr (by omega))
    rwa [show c + (x - c) = x by omega] at this
  · intro h i hi
    exact h _ (by omega) (by have := List.mem_range.mp hi; omega)
def frC (f : Nat → Bool) (c z : Nat) : List D := (List.range z).map fun i => .bl (f (c + i))
theorem fr_drop (f : Nat → Bool) (m c z : Nat) (h : c + z ≤ m) : ((frD f m).drop c).take z = frC f c z := by
  unfold frD frC
  refine List.ext_getElem? fun i => ?_
  rw [List.getElem?_take]
  by_cases hi : i < z
  · rw [if_pos hi, List.getElem?_drop, List.getElem?_map, List.getElem?_map, List.getElem?_range (by omega), List.getElem?_range hi]; rfl
  · rw [if_neg hi, List.getElem?_eq_none (by rw [List.length_map, List.length_range]; omega)]
theorem cut_fr (f : Nat → Bool) (m c z : Nat) (h : c + z ≤ m) : Sr.cutD (frD f m) (some (c : Int)) (some ((c : Int) + (z : Int))) = frC f c z := by
  unfold Sr.cutD
  rw [frD_len, sIx_in (by omega) (by omega), sIx_in (by omega) (by omega), Int.toNat_natCast, show ((c : Int) + (z : Int)).toNat - c = z by omega, fr_drop f m c z h]
theorem toPys_bl (l : List Bool) : toPys (l.map D.bl) = some (l.map PyData.bool) := by
  induction l with
  | nil => rfl
  | cons a l ih =>
    show (match toPy (D.bl a), toPys (l.map D.bl) with | some x, some xs => some (x :: xs) | _, _ => none) = _
    rw [ih]
    rfl
theorem in_fr (S : List Cell) (f : Nat → Bool) (c z : Nat) : inD S (.val, .bl false) (.own, .lst (frC f c z)) = some (!allB f c z) := by
  have el : frC f c z = ((List.range z).map fun i => f (c + i)).map D.bl := by unfold frC; rw [List.map_map]; rfl
  have t1 : toPy (.bl false) = some (.bool false) := rfl
  have t2 : toPy (.lst (frC f c z)) = some (.list (((List.range z).map fun i => f (c + i)).map PyData.bool)) := by
    show (toPys (frC f c z)).map PyData.list = _
    rw [el, toPys_bl]
    rfl
  have p1 : Pl 64 (.bl false) := Pl.bl _
  have p2 : Pl 64 (.lst (frC f c z)) := Pl.lst fun d hd => by
    unfold frC at hd
    obtain ⟨x, _, rfl⟩ := List.mem_map.mp hd
    exact Pl.bl _
  have d1 : drf S (.val, .bl false) = .bl false := rfl
  unfold inD
  dsimp only
  rw [drf_lst, d1, t1, t2]
  dsimp only
  rw [if_pos ⟨(p1.shaped t1).1, (p2.shaped t2).1⟩]
  congr 1
  unfold allB
  rw [List.map_map, List.any_map]
  induction List.range z with
  | nil => rfl
  | cons a l ih =>
    rw [List.any_cons, List.all_cons, ih, Bool.not_and]
    congr 1
    show PyData.eqv (.bool (f (c + a))) (.bool false) = _
    cases f (c + a) <;> rfl
theorem maxL_0 {R : List Hl} (h : ∀ x ∈ R, 1 ≤ x.2) : maxL 0 (0 :: R.map fun h => (h.2 : Int)) = maxL 0 (R.map fun h => (h.2 : Int)) := by
  cases R with
  | nil => rfl
  | cons a t =>
    have := h a (List.mem_cons_self ..)
    show (t.map fun h => (h.2 : Int)).foldl _ (if (0 : Int) < (a.2 : Int) then (a.2 : Int) else 0) = (t.map fun h => (h.2 : Int)).foldl _ (a.2 : Int)
    rw [if_pos (by omega)]
theorem sizes_due (Φ : Nat → List Sl → List Cell → COut) (R : List Hl) (hl : R.length ≤ 1000) (x0 x1 x2 x4 : Option Sl) (S : List Cell) : evE Φ e22_4 ⟨[x0, x1, x2, some (.own, .lst (R.map hD)), x4, none, none, none, none, none, none], S⟩ = .ok (.own, .lst (sizesD R)) ⟨[x0, x1, x2, some (.own, .lst (R.map hD)), x4, none, none, none, none, none, none], S⟩ := by
  have key := compL_map (vs := [5, 6]) (p := .tup [.nm 5, .nm 6]) (c := evE Φ yes) (e := evE Φ x22_3) (S := S) (env0 := [x0, x1, x2, some (.own, .lst (R.map hD)), x4, none, none, none, none, none, none]) hD (fun h => .int (h.2 : Int)) R [] (fun h _ => by
    refine ⟨[x0, x1, x2, some (.own, .lst (R.map hD)), x4, some (.val, .int (h.1 : Int)), some (.val, .int (h.2 : Int)), none, none, none, none], [x0, x1, x2, some (.own, .lst (R.map hD)), x4, some (.val, .int (h.1 : Int)), some (.val, .int (h.2 : Int)), none, none, none, none], (.val, .int (h.2 : Int)), ?_, evE_yes _ _, ?_, rfl, rfl⟩
    · unfold hD
      simp (implicitDefEqProofs := false) only [Int.cast_ofNat_Int, T, List.length_cons, List.length_nil, List.map_cons, List.map_nil, List.replicate, List.cons_append, List.nil_append, evSs, evS, evE, evL, evA, evP, itE, Out.bind, Out.then, OutL.bind, asgP, putS, onB, onS, lift, binR, addR, mulR, binD, cmpD, lstOf, lsqOf, seqOf, lenD, biV, on1, on2, Sr.intD, int2D, vI, vB, ixD, valO, argO, toVal, back1, orS, intV, celL, putC, putO, ownL, endF, tyD, srcM, srcO, walkOf, keyD, augD, Sr.part, pOk, bindP, bindPs, Option.map, List.getElem?_cons_zero, List.getElem?_cons_succ, List.set, List.length_set, ite_true, ite_false, reduceIte, Nat.reduceAdd, Nat.reduceSub, Nat.reduceLT, Nat.reduceEqDiff, Bool.false_eq_true, Bool.not_true, Bool.not_false, decide_true, decide_false, eqD_int, beq_iff_eq, beq_self_eq_true, Bool.not_eq_true', beq_eq_false_iff_ne, ne_eq, not_true_eq_false, not_false_eq_true, compO, compKO, vsOk, wipeD, back, List.all_cons, List.all_nil, List.foldl_cons, List.foldl_nil, Bool.and_true, Bool.true_and, Bool.and_self, Option.getD_some, Option.getD_none, decide_eq_true_eq, List.length_map, atI_0, atI_1, atI_2, lim0, lim1, lim2, lim3, lim4, lim5, lim6, lim7, lim8, lim9, lim10, lim11, lim12, set_last, get_last, eqD_pair, slV, rngL, and_self, true_and, and_true, isa_NoneType_bool, isa_NoneType_int, isa_NoneType_str, isa_NoneType_tuple, isa_NoneType_list, isa_NoneType_dict, isa_bool_bool, isa_bool_int, isa_bool_str, isa_bool_tuple, isa_bool_list, isa_bool_dict, isa_int_bool, isa_int_int, isa_int_str, isa_int_tuple, isa_int_list, isa_int_dict, isa_str_bool, isa_str_int, isa_str_str, isa_str_tuple, isa_str_list, isa_str_dict, isa_tuple_bool, isa_tuple_int, isa_tuple_str, isa_tuple_tuple, isa_tuple_list, isa_tuple_dict, isa_list_bool, isa_list_int, isa_list_str, isa_list_tuple, isa_list_list, isa_list_dict, isa_dict_bool, isa_dict_int, isa_dict_str, isa_dict_tuple, isa_dict_list, isa_dict_dict, ixN_30, ixN_31, ixN_32]
    · simp (implicitDefEqProofs := false) only [Int.cast_ofNat_Int, T, List.length_cons, List.length_nil, List.map_cons, List.map_nil, List.replicate, List.cons_append, List.nil_append, evSs, evS, evE, evL, evA, evP, itE, Out.bind, Out.then, OutL.bind, asgP, putS, onB, onS, lift, binR, addR, mulR, binD, cmpD, lstOf, lsqOf, seqOf, lenD, biV, on1, on2, Sr.intD, int2D, vI, vB, ixD, valO, argO, toVal, back1, orS, intV, celL, putC, putO, ownL, endF, tyD, srcM, srcO, walkOf, keyD, augD, Sr.part, pOk, bindP, bindPs, Option.map, List.getElem?_cons_zero, List.getElem?_cons_succ, List.set, List.length_set, ite_true, ite_false, reduceIte, Nat.reduceAdd, Nat.reduceSub, Nat.reduceLT, Nat.reduceEqDiff, Bool.false_eq_true, Bool.not_true, Bool.not_false, decide_true, decide_false, eqD_int, beq_iff_eq, beq_self_eq_true, Bool.not_eq_true', beq_eq_false_iff_ne, ne_eq, not_true_eq_false, not_false_eq_true, compO, compKO, vsOk, wipeD, back, List.all_cons, List.all_nil, List.foldl_cons, List.foldl_nil, Bool.and_true, Bool.true_and, Bool.and_self, Option.getD_some, Option.getD_none, decide_eq_true_eq, List.length_map, atI_0, atI_1, atI_2, lim0, lim1, lim2, lim3, lim4, lim5, lim6, lim7, lim8, lim9, lim10, lim11, lim12, set_last, get_last, eqD_pair, slV, rngL, and_self, true_and, and_true, isa_NoneType_bool, isa_NoneType_int, isa_NoneType_str, isa_NoneType_tuple, isa_NoneType_list, isa_NoneType_dict, isa_bool_bool, isa_bool_int, isa_bool_str, isa_bool_tuple, isa_bool_list, isa_bool_dict, isa_int_bool, isa_int_int, isa_int_str, isa_int_tuple, isa_int_list, isa_int_dict, isa_str_bool, isa_str_int, isa_str_str, isa_str_tuple, isa_str_list, isa_str_dict, isa_tuple_bool, isa_tuple_int, isa_tuple_str, isa_tuple_tuple, isa_tuple_list, isa_tuple_dict, isa_list_bool, isa_list_int, isa_list_str, isa_list_tuple, isa_list_list, isa_list_dict, isa_dict_bool, isa_dict_int, isa_dict_str, isa_dict_tuple, isa_dict_list, isa_dict_dict, ixN_30, ixN_31, ixN_32, x22_3]) (by show 0 + R.length ≤ 1000000; omega)
  rw [List.nil_append] at key
  simp (implicitDefEqProofs := false) only [Int.cast_ofNat_Int, T, List.length_cons, List.length_nil, List.map_cons, List.map_nil, List.replicate, List.cons_append, List.nil_append, evSs, evS, evE, evL, evA, evP, itE, Out.bind, Out.then, OutL.bind, asgP, putS, onB, onS, lift, binR, addR, mulR, binD, cmpD, lstOf, lsqOf, seqOf, lenD, biV, on1, on2, Sr.intD, int2D, vI, vB, ixD, valO, argO, toVal, back1, orS, intV, celL, putC, putO, ownL, endF, tyD, srcM, srcO, walkOf, keyD, augD, Sr.part, pOk, bindP, bindPs, Option.map, List.getElem?_cons_zero, List.getElem?_cons_succ, List.set, List.length_set, ite_true, ite_false, reduceIte, Nat.reduceAdd, Nat.reduceSub, Nat.reduceLT, Nat.reduceEqDiff, Bool.false_eq_true, Bool.not_true, Bool.not_false, decide_true, decide_false, eqD_int, beq_iff_eq, beq_self_eq_true, Bool.not_eq_true', beq_eq_false_iff_ne, ne_eq, not_true_eq_false, not_false_eq_true, compO, compKO, vsOk, wipeD, back, List.all_cons, List.all_nil, List.foldl_cons, List.foldl_nil, Bool.and_true, Bool.true_and, Bool.and_self, Option.getD_some, Option.getD_none, decide_eq_true_eq, List.length_map, atI_0, atI_1, atI_2, lim0, lim1, lim2, lim3, lim4, lim5, lim6, lim7, lim8, lim9, lim10, lim11, lim12, set_last, get_last, eqD_pair, slV, rngL, and_self, true_and, and_true, isa_NoneType_bool, isa_NoneType_int, isa_NoneType_str, isa_NoneType_tuple, isa_NoneType_list, isa_NoneType_dict, isa_bool_bool, isa_bool_int, isa_bool_str, isa_bool_tuple, isa_bool_list, isa_bool_dict, isa_int_bool, isa_int_int, isa_int_str, isa_int_tuple, isa_int_list, isa_int_dict, isa_str_bool, isa_str_int, isa_str_str, isa_str_tuple, isa_str_list, isa_str_dict, isa_tuple_bool, isa_tuple_int, isa_tuple_str, isa_tuple_tuple, isa_tuple_list, isa_tuple_dict, isa_list_bool, isa_list_int, isa_list_str, isa_list_tuple, isa_list_list, isa_list_dict, isa_dict_bool, isa_dict_int, isa_dict_str, isa_dict_tuple, isa_dict_list, isa_dict_dict, ixN_30, ixN_31, ixN_32, e22_4, key]
  rfl
theorem ones_fr (Φ : Nat → List Sl → List Cell → COut) (f : Nat → Bool) (m fr : Nat) (hm : m ≤ 240) (x0 x1 x3 x4 : Option Sl) (S : List Cell) (hf : S[fr]? = some (.lst (frD f m))) : ∃ ds, evE Φ e22_2 ⟨[x0, x1, some (.val, .ref fr), x3, x4, none, none, none, none, none, none], S⟩ = .ok (.own, .lst ds) ⟨[x0, x1, some (.val, .ref fr), x3, x4, none, none, none, none, none, none], S⟩ ∧ ds.length = cnt f m := by
  have key := compKL_map (n := fr) (ds0 := frD f m) (vs := [7]) (p := .nm 7) (c := evE Φ c22_0) (e := evE Φ x22_1) (S := S) (env0 := [x0, x1, some (.val, .ref fr), x3, x4, none, none, none, none, none, none]) hf (fun c => D.bl (f c)) f (fun c => D.bl (f c)) (List.range m) [] (fun c _ => by
    refine ⟨[x0, x1, some (.val, .ref fr), x3, x4, none, none, some (.val, .bl (f c)), none, none, none], ?_, ?_, rfl, fun _ => ⟨[x0, x1, some (.val, .ref fr), x3, x4, none, none, some (.val, .bl (f c)), none, none, none], (.val, .bl (f c)), ?_, rfl, rfl⟩⟩
    · simp (implicitDefEqProofs := false) only [Int.cast_ofNat_Int, T, List.length_cons, List.length_nil, List.map_cons, List.map_nil, List.replicate, List.cons_append, List.nil_append, evSs, evS, evE, evL, evA, evP, itE, Out.bind, Out.then, OutL.bind, asgP, putS, onB, onS, lift, binR, addR, mulR, binD, cmpD, lstOf, lsqOf, seqOf, lenD, biV, on1, on2, Sr.intD, int2D, vI, vB, ixD, valO, argO, toVal, back1, orS, intV, celL, putC, putO, ownL, endF, tyD, srcM, srcO, walkOf, keyD, augD, Sr.part, pOk, bindP, bindPs, Option.map, List.getElem?_cons_zero, List.getElem?_cons_succ, List.set, List.length_set, ite_true, ite_false, reduceIte, Nat.reduceAdd, Nat.reduceSub, Nat.reduceLT, Nat.reduceEqDiff, Bool.false_eq_true, Bool.not_true, Bool.not_false, decide_true, decide_false, eqD_int, beq_iff_eq, beq_self_eq_true, Bool.not_eq_true', beq_eq_false_iff_ne, ne_eq, not_true_eq_false, not_false_eq_true, compO, compKO, vsOk, wipeD, back, List.all_cons, List.all_nil, List.foldl_cons, List.foldl_nil, Bool.and_true, Bool.true_and, Bool.and_self, Option.getD_some, Option.getD_none, decide_eq_true_eq, List.length_map, atI_0, atI_1, atI_2, lim0, lim1, lim2, lim3, lim4, lim5, lim6, lim7, lim8, lim9, lim10, lim11, lim12, set_last, get_last, eqD_pair, slV, rngL, and_self, true_and, and_true, isa_NoneType_bool, isa_NoneType_int, isa_NoneType_str, isa_NoneType_tuple, isa_NoneType_list, isa_NoneType_dict, isa_bool_bool, isa_bool_int, isa_bool_str, isa_bool_tuple, isa_bool_list, isa_bool_dict, isa_int_bool, isa_int_int, isa_int_str, isa_int_tuple, isa_int_list, isa_int_dict, isa_str_bool, isa_str_int, isa_str_str, isa_str_tuple, isa_str_list, isa_str_dict, isa_tuple_bool, isa_tuple_int, isa_tuple_str, isa_tuple_tuple, isa_tuple_list, isa_tuple_dict, isa_list_bool, isa_list_int, isa_list_str, isa_list_tuple, isa_list_list, isa_list_dict, isa_dict_bool, isa_dict_int, isa_dict_str, isa_dict_tuple, isa_dict_list, isa_dict_dict, ixN_30, ixN_31, ixN_32]
    · simp (implicitDefEqProofs := false) only [Int.cast_ofNat_Int, T, List.length_cons, List.length_nil, List.map_cons, List.map_nil, List.replicate, List.cons_append, List.nil_append, evSs, evS, evE, evL, evA, evP, itE, Out.bind, Out.then, OutL.bind, asgP, putS, onB, onS, lift, binR, addR, mulR, binD, cmpD, lstOf, lsqOf, seqOf, lenD, biV, on1, on2, Sr.intD, int2D, vI, vB, ixD, valO, argO, toVal, back1, orS, intV, celL, putC, putO, ownL, endF, tyD, srcM, srcO, walkOf, keyD, augD, Sr.part, pOk, bindP, bindPs, Option.map, List.getElem?_cons_zero, List.getElem?_cons_succ, List.set, List.length_set, ite_true, ite_false, reduceIte, Nat.reduceAdd, Nat.reduceSub, Nat.reduceLT, Nat.reduceEqDiff, Bool.false_eq_true, Bool.not_true, Bool.not_false, decide_true, decide_false, eqD_int, beq_iff_eq, beq_self_eq_true, Bool.not_eq_true', beq_eq_false_iff_ne, ne_eq, not_true_eq_false, not_false_eq_true, compO, compKO, vsOk, wipeD, back, List.all_cons, List.all_nil, List.foldl_cons, List.foldl_nil, Bool.and_true, Bool.true_and, Bool.and_self, Option.getD_some, Option.getD_none, decide_eq_true_eq, List.length_map, atI_0, atI_1, atI_2, lim0, lim1, lim2, lim3, lim4, lim5, lim6, lim7, lim8, lim9, lim10, lim11, lim12, set_last, get_last, eqD_pair, slV, rngL, and_self, true_and, and_true, isa_NoneType_bool, isa_NoneType_int, isa_NoneType_str, isa_NoneType_tuple, isa_NoneType_list, isa_NoneType_dict, isa_bool_bool, isa_bool_int, isa_bool_str, isa_bool_tuple, isa_bool_list, isa_bool_dict, isa_int_bool, isa_int_int, isa_int_str, isa_int_tuple, isa_int_list, isa_int_dict, isa_str_bool, isa_str_int, isa_str_str, isa_str_tuple, isa_str_list, isa_str_dict, isa_tuple_bool, isa_tuple_int, isa_tuple_str, isa_tuple_tuple, isa_tuple_list, isa_tuple_dict, isa_list_bool, isa_list_int, isa_list_str, isa_list_tuple, isa_list_list, isa_list_dict, isa_dict_bool, isa_dict_int, isa_dict_str, isa_dict_tuple, isa_dict_list, isa_dict_dict, ixN_30, ixN_31, ixN_32, c22_0]
    · simp (implicitDefEqProofs := false) only [Int.cast_ofNat_Int, T, List.length_cons, List.length_nil, List.map_cons, List.map_nil, List.replicate, List.cons_append, List.nil_append, evSs, evS, evE, evL, evA, evP, itE, Out.bind, Out.then, OutL.bind, asgP, putS, onB, onS, lift, binR, addR, mulR, binD, cmpD, lstOf, lsqOf, seqOf, lenD, biV, on1, on2, Sr.intD, int2D, vI, vB, ixD, valO, argO, toVal, back1, orS, intV, celL, putC, putO, ownL, endF, tyD, srcM, srcO, walkOf, keyD, augD, Sr.part, pOk, bindP, bindPs, Option.map, List.getElem?_cons_zero, List.getElem?_cons_succ, List.set, List.length_set, ite_true, ite_false, reduceIte, Nat.reduceAdd, Nat.reduceSub, Nat.reduceLT, Nat.reduceEqDiff, Bool.false_eq_true, Bool.not_true, Bool.not_false, decide_true, decide_false, eqD_int, beq_iff_eq, beq_self_eq_true, Bool.not_eq_true', beq_eq_false_iff_ne, ne_eq, not_true_eq_false, not_false_eq_true, compO, compKO, vsOk, wipeD, back, List.all_cons, List.all_nil, List.foldl_cons, List.foldl_nil, Bool.and_true, Bool.true_and, Bool.and_self, Option.getD_some, Option.getD_none, decide_eq_true_eq, List.length_map, atI_0, atI_1, atI_2, lim0, lim1, lim2, lim3, lim4, lim5, lim6, lim7, lim8, lim9, lim10, lim11, lim12, set_last, get_last, eqD_pair, slV, rngL, and_self, true_and, and_true, isa_NoneType_bool, isa_NoneType_int, isa_NoneType_str, isa_NoneType_tuple, isa_NoneType_list, isa_NoneType_dict, isa_bool_bool, isa_bool_int, isa_bool_str, isa_bool_tuple, isa_bool_list, isa_bool_dict, isa_int_bool, isa_int_int, isa_int_str, isa_int_tuple, isa_int_list, isa_int_dict, isa_str_bool, isa_str_int, isa_str_str, isa_str_tuple, isa_str_list, isa_str_dict, isa_tuple_bool, isa_tuple_int, isa_tuple_str, isa_tuple_tuple, isa_tuple_list, isa_tuple_dict, isa_list_bool, isa_list_int, isa_list_str, isa_list_tuple, isa_list_list, isa_list_dict, isa_dict_bool, isa_dict_int, isa_dict_str, isa_dict_tuple, isa_dict_list, isa_dict_dict, ixN_30, ixN_31, ixN_32, x22_1]) (by rw [List.length_range]; show 0 + m ≤ 1000000; omega)
  rw [List.nil_append] at key
  have key' : compKL fr (frD f m) [7] (.nm 7) (evE Φ c22_0) (evE Φ x22_1) (frD f m) [] ⟨[x0, x1, some (.val, .ref fr), x3, x4, none, none, none, none, none, none], S⟩ = _ := key
  refine ⟨((List.range m).filter f).map fun c => D.bl (f c), ?_, by rw [List.length_map]; rfl⟩
  simp (implicitDefEqProofs := false) only [Int.cast_ofNat_Int, T, List.length_cons, List.length_nil, List.map_cons, List.map_nil, List.replicate, List.cons_append, List.nil_append, evSs, evS, evE, evL, evA, evP, itE, Out.bind, Out.then, OutL.bind, asgP, putS, onB, onS, lift, binR, addR, mulR, binD, cmpD, lstOf, lsqOf, seqOf, lenD, biV, on1, on2, Sr.intD, int2D, vI, vB, ixD, valO, argO, toVal, back1, orS, intV, celL, putC, putO, ownL, endF, tyD, srcM, srcO, walkOf, keyD, augD, Sr.part, pOk, bindP, bindPs, Option.map, List.getElem?_cons_zero, List.getElem?_cons_succ, List.set, List.length_set, ite_true, ite_false, reduceIte, Nat.reduceAdd, Nat.reduceSub, Nat.reduceLT, Nat.reduceEqDiff, Bool.false_eq_true, Bool.not_true, Bool.not_false, decide_true, decide_false, eqD_int, beq_iff_eq, beq_self_eq_true, Bool.not_eq_true', beq_eq_false_iff_ne, ne_eq, not_true_eq_false, not_false_eq_true, compO, compKO, vsOk, wipeD, back, List.all_cons, List.all_nil, List.foldl_cons, List.foldl_nil, Bool.and_true, Bool.true_and, Bool.and_self, Option.getD_some, Option.getD_none, decide_eq_true_eq, List.length_map, atI_0, atI_1, atI_2, lim0, lim1, lim2, lim3, lim4, lim5, lim6, lim7, lim8, lim9, lim10, lim11, lim12, set_last, get_last, eqD_pair, slV, rngL, and_self, true_and, and_true, isa_NoneType_bool, isa_NoneType_int, isa_NoneType_str, isa_NoneType_tuple, isa_NoneType_list, isa_NoneType_dict, isa_bool_bool, isa_bool_int, isa_bool_str, isa_bool_tuple, isa_bool_list, isa_bool_dict, isa_int_bool, isa_int_int, isa_int_str, isa_int_tuple, isa_int_list, isa_int_dict, isa_str_bool, isa_str_int, isa_str_str, isa_str_tuple, isa_str_list, isa_str_dict, isa_tuple_bool, isa_tuple_int, isa_tuple_str, isa_tuple_tuple, isa_tuple_list, isa_tuple_dict, isa_list_bool, isa_list_int, isa_list_str, isa_list_tuple, isa_list_list, isa_list_dict, isa_dict_bool, isa_dict_int, isa_dict_str, isa_dict_tuple, isa_dict_list, isa_dict_dict, ixN_30, ixN_31, ixN_32, e22_2, hf, key']
end Kx

namespace Kx
open PySem PySem.Spec PyProof.Rows L2 Sr
theorem ints_0 (R : List Hl) : intsOf (D.int 0 :: sizesD R) = some (0 :: R.map fun h => (h.2 : Int)) := by
  show (intsOf (sizesD R)).map _ = _
  rw [ints_sizes R]
  rfl
theorem ret_go {Φ : Nat → List Sl → List Cell → COut} {a : Sm} {as : Sms} {s : Stt} {x : Sl} {S : List Cell} (h : evS Φ a s = .ret x S) : evSs Φ (.cons a as) s = .ret x S := by
  rw [evSs, h]
section
variable (k : Nat) (S : List Cell) (b n r fr m : Nat) (hb : b < S.length) (hbn : n ≠ b) (hbr : r ≠ b) (hbf : fr ≠ b) (R : List Hl) (f : Nat → Bool) (hn : S[n]? = some (bk m r)) (hr : S[r]? = some (rwS R)) (hf : S[fr]? = some (.lst (frD f m))) (K : Bk R m fun c => c < m ∧ f c = true) (h16 : 16 ≤ m) (hm : m ≤ 240)
include hb hbn hbr hbf hn hr hf K h16 hm
theorem right (q : Qx) : ∃ q', callF T (k + 6) 22 [(.val, .ref b), (.val, .ref n), (.val, .ref fr)] (st S b q) = .ok (.val, .bl true) (st S b q') := by
  have gn : ∀ q, (st S b q)[n]? = some (bk m r) := fun q => (st_ne hbn q).trans hn
  have gr : ∀ q, (st S b q)[r]? = some (rwS R) := fun q => (st_ne hbr q).trans hr
  have gf : ∀ q, (st S b q)[fr]? = some (.lst (frD f m)) := fun q => (st_ne hbf q).trans hf
  have hl : R.length ≤ 1000 := Nat.le_trans K.sep.le (by omega)
  have hsz : ∀ x ∈ R, 1 ≤ x.2 := fun x hx => (K.sep.low x hx).2.1
  have e1 := scanR (k + 4) fr f m (by omega) (st S b q) (gf q)
  rw [sc_is K] at e1
  have e2 := told (k + 4) n r m (gn q) R (gr q)
  have e3 : eqD (st S b q) (.pk, .lst (R.map hD)) (.pk, .lst (R.map hD)) = some true := eqD_lst rfl (pl_hs R)
  have e4 := largest_ (k + 4) n r m (gn q) R hl (gr q)
  have e5 := sizes_due (callF T (k + 5)) R hl (some (.val, .ref b)) (some (.val, .ref n)) (some (.val, .ref fr)) (some (.own, .lst (R.map hD ++ [.tup [.int 0, .int 1]]))) (st S b q)
  have e6 := whole_i (k + 4) (maxL 0 (R.map fun h => (h.2 : Int))) (maxL 0 (0 :: R.map fun h => (h.2 : Int))) (maxL_0 hsz).symm (st S b q)
  have e7 := free_ (k + 4) n r m (gn q) R hl (gr q)
  obtain ⟨ds, e8, e8l⟩ := ones_fr (callF T (k + 5)) f m fr hm (some (.val, .ref b)) (some (.val, .ref n)) (some (.own, .lst (R.map hD))) (some (.own, .lst (R.map hD ++ [.tup [.int 0, .int 1]]))) (st S b q) (gf q)
  have e9 := whole_i (k + 4) ((sumH R : Nat) : Int) ((ds.length : Nat) : Int) (by rw [e8l, ← sum_sc, sc_is K]) (st S b q)
  obtain ⟨c, q1, e10, hc⟩ := takeN (k + 4) b (m : Int) S hb q (by omega) (by omega)
  have e11 := hole_at (k + 1) n r m (gn q1) K hm (gr q1) c (by omega)
  have e12 := hole_of (k + 4) R c (st S b q1)
  have e13 := eq_hole (st S b q1) R c
  obtain ⟨z1, q2, e14, hz⟩ := takeN (k + 4) b (m : Int) S hb q1 (by omega) (by omega)
  have e15 := has_ (k + 2) n r m (gn q2) R (gr q2) hl c (1 + z1) (by omega)
  have e16 := told (k + 4) n r m (gn q2) R (gr q2)
  have e17 : eqD (st S b q2) (.own, .lst (R.map hD)) (.pk, .lst (R.map hD)) = some true := eqD_lst rfl (pl_hs R)
  have ez : ((1 + z1 : Nat) : Int) = 1 + (z1 : Int) := by omega
  rw [ez] at e15
  have hif := hasB_iff K c (1 + z1) (by omega)
  have lz : R.length < lim := by show R.length < 1000000; omega
  have lz2 : (1 : Nat) + R.length ≤ lim := by show _ ≤ 1000000; omega
  have ln : (sizesD R).length = R.length := by unfold sizesD; rw [List.length_map]
  have lk1 : List.lookup ("told" : Str) [(("width" : Str), D.int (m : Int)), ("rows", .ref r)] = none := rfl
  have lk2 : List.lookup 0 [((0 : Nat), 5)] = some 5 := rfl
  have lk3 : List.lookup ("free_cells" : Str) [(("width" : Str), D.int (m : Int)), ("rows", .ref r)] = none := rfl
  have lk4 : List.lookup 0 [((0 : Nat), 7)] = some 7 := rfl
  have lk5 : List.lookup ("largest_hole" : Str) [(("width" : Str), D.int (m : Int)), ("rows", .ref r)] = none := rfl
  have lk6 : List.lookup 0 [((0 : Nat), 6)] = some 6 := rfl
  have lk7 : List.lookup ("hole_at" : Str) [(("width" : Str), D.int (m : Int)), ("rows", .ref r)] = none := rfl
  have lk8 : List.lookup 0 [((0 : Nat), 10)] = some 10 := rfl
  have lk9 : List.lookup ("has" : Str) [(("width" : Str), D.int (m : Int)), ("rows", .ref r)] = none := rfl
  have lk10 : List.lookup 0 [((0 : Nat), 9)] = some 9 := rfl
  have bn := gn q
  have bn1 := gn q1
  have bn2 := gn q2
  unfold bk at bn bn1 bn2
  have gf0 := gf q
  have gf1 := gf q1
  have gf2 := gf q2
  have fl := frD_len f m
  refine ⟨q2, ?_⟩
  rw [callF_succ]
  show endF (evSs (callF T (k + 5)) b22 ⟨[some (.val, .ref b), some (.val, .ref n), some (.val, .ref fr), none, none, none, none, none, none, none, none], st S b q⟩) = _
  unfold b22
  refine Eq.trans (congrArg endF (ss_go (s1 := ⟨[some (.val, .ref b), some (.val, .ref n), some (.val, .ref fr), some (.own, .lst (R.map hD)), none, none, none, none, none, none, none], st S b q⟩) ?_)) ?_
  · simp (implicitDefEqProofs := false) only [Int.cast_ofNat_Int, T, List.length_cons, List.length_nil, List.map_cons, List.map_nil, List.replicate, List.cons_append, List.nil_append, evSs, evS, evE, evL, evA, evP, itE, Out.bind, Out.then, OutL.bind, asgP, putS, onB, onS, lift, binR, addR, mulR, binD, cmpD, lstOf, lsqOf, seqOf, lenD, biV, on1, on2, Sr.intD, int2D, vI, vB, ixD, valO, argO, toVal, back1, orS, intV, celL, putC, putO, ownL, endF, tyD, srcM, srcO, walkOf, keyD, augD, Sr.part, pOk, bindP, bindPs, Option.map, List.getElem?_cons_zero, List.getElem?_cons_succ, List.set, List.length_set, ite_true, ite_false, reduceIte, Nat.reduceAdd, Nat.reduceSub, Nat.reduceLT, Nat.reduceEqDiff, Bool.false_eq_true, Bool.not_true, Bool.not_false, decide_true, decide_false, eqD_int, beq_iff_eq, beq_self_eq_true, Bool.not_eq_true', beq_eq_false_iff_ne, ne_eq, not_true_eq_false, not_false_eq_true, compO, compKO, vsOk, wipeD, back, List.all_cons, List.all_nil, List.foldl_cons, List.foldl_nil, Bool.and_true, Bool.true_and, Bool.and_self, Option.getD_some, Option.getD_none, decide_eq_true_eq, List.length_map, atI_0, atI_1, atI_2, lim0, lim1, lim2, lim3, lim4, lim5, lim6, lim7, lim8, lim9, lim10, lim11, lim12, set_last, get_last, eqD_pair, slV, rngL, and_self, true_and, and_true, isa_NoneType_bool, isa_NoneType_int, isa_NoneType_str, isa_NoneType_tuple, isa_NoneType_list, isa_NoneType_dict, isa_bool_bool, isa_bool_int, isa_bool_str, isa_bool_tuple, isa_bool_list, isa_bool_dict, isa_int_bool, isa_int_int, isa_int_str, isa_int_tuple, isa_int_list, isa_int_dict, isa_str_bool, isa_str_int, isa_str_str, isa_str_tuple, isa_str_list, isa_str_dict, isa_tuple_bool, isa_tuple_int, isa_tuple_str, isa_tuple_tuple, isa_tuple_list, isa_tuple_dict, isa_list_bool, isa_list_int, isa_list_str, isa_list_tuple, isa_list_list, isa_list_dict, isa_dict_bool, isa_dict_int, isa_dict_str, isa_dict_tuple, isa_dict_list, isa_dict_dict, ixN_30, ixN_31, ixN_32, e1]
  refine Eq.trans (congrArg endF (ss_go (s1 := ⟨[some (.val, .ref b), some (.val, .ref n), some (.val, .ref fr), some (.own, .lst (R.map hD)), some (.own, .lst (R.map hD)), none, none, none, none, none, none], st S b q⟩) ?_)) ?_
  · simp (implicitDefEqProofs := false) only [Int.cast_ofNat_Int, T, List.length_cons, List.length_nil, List.map_cons, List.map_nil, List.replicate, List.cons_append, List.nil_append, evSs, evS, evE, evL, evA, evP, itE, Out.bind, Out.then, OutL.bind, asgP, putS, onB, onS, lift, binR, addR, mulR, binD, cmpD, lstOf, lsqOf, seqOf, lenD, biV, on1, on2, Sr.intD, int2D, vI, vB, ixD, valO, argO, toVal, back1, orS, intV, celL, putC, putO, ownL, endF, tyD, srcM, srcO, walkOf, keyD, augD, Sr.part, pOk, bindP, bindPs, Option.map, List.getElem?_cons_zero, List.getElem?_cons_succ, List.set, List.length_set, ite_true, ite_false, reduceIte, Nat.reduceAdd, Nat.reduceSub, Nat.reduceLT, Nat.reduceEqDiff, Bool.false_eq_true, Bool.not_true, Bool.not_false, decide_true, decide_false, eqD_int, beq_iff_eq, beq_self_eq_true, Bool.not_eq_true', beq_eq_false_iff_ne, ne_eq, not_true_eq_false, not_false_eq_true, compO, compKO, vsOk, wipeD, back, List.all_cons, List.all_nil, List.foldl_cons, List.foldl_nil, Bool.and_true, Bool.true_and, Bool.and_self, Option.getD_some, Option.getD_none, decide_eq_true_eq, List.length_map, atI_0, atI_1, atI_2, lim0, lim1, lim2, lim3, lim4, lim5, lim6, lim7, lim8, lim9, lim10, lim11, lim12, set_last, get_last, eqD_pair, slV, rngL, and_self, true_and, and_true, isa_NoneType_bool, isa_NoneType_int, isa_NoneType_str, isa_NoneType_tuple, isa_NoneType_list, isa_NoneType_dict, isa_bool_bool, isa_bool_int, isa_bool_str, isa_bool_tuple, isa_bool_list, isa_bool_dict, isa_int_bool, isa_int_int, isa_int_str, isa_int_tuple, isa_int_list, isa_int_dict, isa_str_bool, isa_str_int, isa_str_str, isa_str_tuple, isa_str_list, isa_str_dict, isa_tuple_bool, isa_tuple_int, isa_tuple_str, isa_tuple_tuple, isa_tuple_list, isa_tuple_dict, isa_list_bool, isa_list_int, isa_list_str, isa_list_tuple, isa_list_list, isa_list_dict, isa_dict_bool, isa_dict_int, isa_dict_str, isa_dict_tuple, isa_dict_list, isa_dict_dict, ixN_30, ixN_31, ixN_32, bn, lk1, lk2, e2]
  refine Eq.trans (congrArg endF (ss_go (s1 := ⟨[some (.val, .ref b), some (.val, .ref n), some (.val, .ref fr), some (.own, .lst (R.map hD)), some (.own, .lst (R.map hD)), none, none, none, none, none, none], st S b q⟩) ?_)) ?_
  · refine (ite_f (s1 := ⟨[some (.val, .ref b), some (.val, .ref n), some (.val, .ref fr), some (.own, .lst (R.map hD)), some (.own, .lst (R.map hD)), none, none, none, none, none, none], st S b q⟩) ?_).trans ?_
    · simp (implicitDefEqProofs := false) only [Int.cast_ofNat_Int, T, List.length_cons, List.length_nil, List.map_cons, List.map_nil, List.replicate, List.cons_append, List.nil_append, evSs, evS, evE, evL, evA, evP, itE, Out.bind, Out.then, OutL.bind, asgP, putS, onB, onS, lift, binR, addR, mulR, binD, cmpD, lstOf, lsqOf, seqOf, lenD, biV, on1, on2, Sr.intD, int2D, vI, vB, ixD, valO, argO, toVal, back1, orS, intV, celL, putC, putO, ownL, endF, tyD, srcM, srcO, walkOf, keyD, augD, Sr.part, pOk, bindP, bindPs, Option.map, List.getElem?_cons_zero, List.getElem?_cons_succ, List.set, List.length_set, ite_true, ite_false, reduceIte, Nat.reduceAdd, Nat.reduceSub, Nat.reduceLT, Nat.reduceEqDiff, Bool.false_eq_true, Bool.not_true, Bool.not_false, decide_true, decide_false, eqD_int, beq_iff_eq, beq_self_eq_true, Bool.not_eq_true', beq_eq_false_iff_ne, ne_eq, not_true_eq_false, not_false_eq_true, compO, compKO, vsOk, wipeD, back, List.all_cons, List.all_nil, List.foldl_cons, List.foldl_nil, Bool.and_true, Bool.true_and, Bool.and_self, Option.getD_some, Option.getD_none, decide_eq_true_eq, List.length_map, atI_0, atI_1, atI_2, lim0, lim1, lim2, lim3, lim4, lim5, lim6, lim7, lim8, lim9, lim10, lim11, lim12, set_last, get_last, eqD_pair, slV, rngL, and_self, true_and, and_true, isa_NoneType_bool, isa_NoneType_int, isa_NoneType_str, isa_NoneType_tuple, isa_NoneType_list, isa_NoneType_dict, isa_bool_bool, isa_bool_int, isa_bool_str, isa_bool_tuple, isa_bool_list, isa_bool_dict, isa_int_bool, isa_int_int, isa_int_str, isa_int_tuple, isa_int_list, isa_int_dict, isa_str_bool, isa_str_int, isa_str_str, isa_str_tuple, isa_str_list, isa_str_dict, isa_tuple_bool, isa_tuple_int, isa_tuple_str, isa_tuple_tuple, isa_tuple_list, isa_tuple_dict, isa_list_bool, isa_list_int, isa_list_str, isa_list_tuple, isa_list_list, isa_list_dict, isa_dict_bool, isa_dict_int, isa_dict_str, isa_dict_tuple, isa_dict_list, isa_dict_dict, ixN_30, ixN_31, ixN_32, e3]
    · simp (implicitDefEqProofs := false) only [Int.cast_ofNat_Int, T, List.length_cons, List.length_nil, List.map_cons, List.map_nil, List.replicate, List.cons_append, List.nil_append, evSs, evS, evE, evL, evA, evP, itE, Out.bind, Out.then, OutL.bind, asgP, putS, onB, onS, lift, binR, addR, mulR, binD, cmpD, lstOf, lsqOf, seqOf, lenD, biV, on1, on2, Sr.intD, int2D, vI, vB, ixD, valO, argO, toVal, back1, orS, intV, celL, putC, putO, ownL, endF, tyD, srcM, srcO, walkOf, keyD, augD, Sr.part, pOk, bindP, bindPs, Option.map, List.getElem?_cons_zero, List.getElem?_cons_succ, List.set, List.length_set, ite_true, ite_false, reduceIte, Nat.reduceAdd, Nat.reduceSub, Nat.reduceLT, Nat.reduceEqDiff, Bool.false_eq_true, Bool.not_true, Bool.not_false, decide_true, decide_false, eqD_int, beq_iff_eq, beq_self_eq_true, Bool.not_eq_true', beq_eq_false_iff_ne, ne_eq, not_true_eq_false, not_false_eq_true, compO, compKO, vsOk, wipeD, back, List.all_cons, List.all_nil, List.foldl_cons, List.foldl_nil, Bool.and_true, Bool.true_and, Bool.and_self, Option.getD_some, Option.getD_none, decide_eq_true_eq, List.length_map, atI_0, atI_1, atI_2, lim0, lim1, lim2, lim3, lim4, lim5, lim6, lim7, lim8, lim9, lim10, lim11, lim12, set_last, get_last, eqD_pair, slV, rngL, and_self, true_and, and_true, isa_NoneType_bool, isa_NoneType_int, isa_NoneType_str, isa_NoneType_tuple, isa_NoneType_list, isa_NoneType_dict, isa_bool_bool, isa_bool_int, isa_bool_str, isa_bool_tuple, isa_bool_list, isa_bool_dict, isa_int_bool, isa_int_int, isa_int_str, isa_int_tuple, isa_int_list, isa_int_dict, isa_str_bool, isa_str_int, isa_str_str, isa_str_tuple, isa_str_list, isa_str_dict, isa_tuple_bool, isa_tuple_int, isa_tuple_str, isa_tuple_tuple, isa_tuple_list, isa_tuple_dict, isa_list_bool, isa_list_int, isa_list_str, isa_list_tuple, isa_list_list, isa_list_dict, isa_dict_bool, isa_dict_int, isa_dict_str, isa_dict_tuple, isa_dict_list, isa_dict_dict, ixN_30, ixN_31, ixN_32]
  refine Eq.trans (congrArg endF (ss_go (s1 := ⟨[some (.val, .ref b), some (.val, .ref n), some (.val, .ref fr), some (.own, .lst (R.map hD)), some (.own, .lst (R.map hD ++ [.tup [.int 0, .int 1]])), none, none, none, none, none, none], st S b q⟩) ?_)) ?_
  · simp (implicitDefEqProofs := false) only [Int.cast_ofNat_Int, T, List.length_cons, List.length_nil, List.map_cons, List.map_nil, List.replicate, List.cons_append, List.nil_append, evSs, evS, evE, evL, evA, evP, itE, Out.bind, Out.then, OutL.bind, asgP, putS, onB, onS, lift, binR, addR, mulR, binD, cmpD, lstOf, lsqOf, seqOf, lenD, biV, on1, on2, Sr.intD, int2D, vI, vB, ixD, valO, argO, toVal, back1, orS, intV, celL, putC, putO, ownL, endF, tyD, srcM, srcO, walkOf, keyD, augD, Sr.part, pOk, bindP, bindPs, Option.map, List.getElem?_cons_zero, List.getElem?_cons_succ, List.set, List.length_set, ite_true, ite_false, reduceIte, Nat.reduceAdd, Nat.reduceSub, Nat.reduceLT, Nat.reduceEqDiff, Bool.false_eq_true, Bool.not_true, Bool.not_false, decide_true, decide_false, eqD_int, beq_iff_eq, beq_self_eq_true, Bool.not_eq_true', beq_eq_false_iff_ne, ne_eq, not_true_eq_false, not_false_eq_true, compO, compKO, vsOk, wipeD, back, List.all_cons, List.all_nil, List.foldl_cons, List.foldl_nil, Bool.and_true, Bool.true_and, Bool.and_self, Option.getD_some, Option.getD_none, decide_eq_true_eq, List.length_map, atI_0, atI_1, atI_2, lim0, lim1, lim2, lim3, lim4, lim5, lim6, lim7, lim8, lim9, lim10, lim11, lim12, set_last, get_last, eqD_pair, slV, rngL, and_self, true_and, and_true, isa_NoneType_bool, isa_NoneType_int, isa_NoneType_str, isa_NoneType_tuple, isa_NoneType_list, isa_NoneType_dict, isa_bool_bool, isa_bool_int, isa_bool_str, isa_bool_tuple, isa_bool_list, isa_bool_dict, isa_int_bool, isa_int_int, isa_int_str, isa_int_tuple, isa_int_list, isa_int_dict, isa_str_bool, isa_str_int, isa_str_str, isa_str_tuple, isa_str_list, isa_str_dict, isa_tuple_bool, isa_tuple_int, isa_tuple_str, isa_tuple_tuple, isa_tuple_list, isa_tuple_dict, isa_list_bool, isa_list_int, isa_list_str, isa_list_tuple, isa_list_list, isa_list_dict, isa_dict_bool, isa_dict_int, isa_dict_str, isa_dict_tuple, isa_dict_list, isa_dict_dict, ixN_30, ixN_31, ixN_32, lz]
  refine Eq.trans (congrArg endF (ss_go (s1 := ⟨[some (.val, .ref b), some (.val, .ref n), some (.val, .ref fr), some (.own, .lst (R.map hD)), some (.own, .lst (R.map hD ++ [.tup [.int 0, .int 1]])), none, none, none, none, none, none], st S b q⟩) ?_)) ?_
  · refine (ite_f (s1 := ⟨[some (.val, .ref b), some (.val, .ref n), some (.val, .ref fr), some (.own, .lst (R.map hD)), some (.own, .lst (R.map hD ++ [.tup [.int 0, .int 1]])), none, none, none, none, none, none], st S b q⟩) ?_).trans ?_
    · simp (implicitDefEqProofs := false) only [Int.cast_ofNat_Int, T, List.length_cons, List.length_nil, List.map_cons, List.map_nil, List.replicate, List.cons_append, List.nil_append, evSs, evS, evE, evL, evA, evP, itE, Out.bind, Out.then, OutL.bind, asgP, putS, onB, onS, lift, binR, addR, mulR, binD, cmpD, lstOf, lsqOf, seqOf, lenD, biV, on1, on2, Sr.intD, int2D, vI, vB, ixD, valO, argO, toVal, back1, orS, intV, celL, putC, putO, ownL, endF, tyD, srcM, srcO, walkOf, keyD, augD, Sr.part, pOk, bindP, bindPs, Option.map, List.getElem?_cons_zero, List.getElem?_cons_succ, List.set, List.length_set, ite_true, ite_false, reduceIte, Nat.reduceAdd, Nat.reduceSub, Nat.reduceLT, Nat.reduceEqDiff, Bool.false_eq_true, Bool.not_true, Bool.not_false, decide_true, decide_false, eqD_int, beq_iff_eq, beq_self_eq_true, Bool.not_eq_true', beq_eq_false_iff_ne, ne_eq, not_true_eq_false, not_false_eq_true, compO, compKO, vsOk, wipeD, back, List.all_cons, List.all_nil, List.foldl_cons, List.foldl_nil, Bool.and_true, Bool.true_and, Bool.and_self, Option.getD_some, Option.getD_none, decide_eq_true_eq, List.length_map, atI_0, atI_1, atI_2, lim0, lim1, lim2, lim3, lim4, lim5, lim6, lim7, lim8, lim9, lim10, lim11, lim12, set_last, get_last, eqD_pair, slV, rngL, and_self, true_and, and_true, isa_NoneType_bool, isa_NoneType_int, isa_NoneType_str, isa_NoneType_tuple, isa_NoneType_list, isa_NoneType_dict, isa_bool_bool, isa_bool_int, isa_bool_str, isa_bool_tuple, isa_bool_list, isa_bool_dict, isa_int_bool, isa_int_int, isa_int_str, isa_int_tuple, isa_int_list, isa_int_dict, isa_str_bool, isa_str_int, isa_str_str, isa_str_tuple, isa_str_list, isa_str_dict, isa_tuple_bool, isa_tuple_int, isa_tuple_str, isa_tuple_tuple, isa_tuple_list, isa_tuple_dict, isa_list_bool, isa_list_int, isa_list_str, isa_list_tuple, isa_list_list, isa_list_dict, isa_dict_bool, isa_dict_int, isa_dict_str, isa_dict_tuple, isa_dict_list, isa_dict_dict, ixN_30, ixN_31, ixN_32, bn, lk5, lk6, e4, e5, ln, lz2, ints_0, Option.bind_some, e6, reduceCtorEq]
    · simp (implicitDefEqProofs := false) only [Int.cast_ofNat_Int, T, List.length_cons, List.length_nil, List.map_cons, List.map_nil, List.replicate, List.cons_append, List.nil_append, evSs, evS, evE, evL, evA, evP, itE, Out.bind, Out.then, OutL.bind, asgP, putS, onB, onS, lift, binR, addR, mulR, binD, cmpD, lstOf, lsqOf, seqOf, lenD, biV, on1, on2, Sr.intD, int2D, vI, vB, ixD, valO, argO, toVal, back1, orS, intV, celL, putC, putO, ownL, endF, tyD, srcM, srcO, walkOf, keyD, augD, Sr.part, pOk, bindP, bindPs, Option.map, List.getElem?_cons_zero, List.getElem?_cons_succ, List.set, List.length_set, ite_true, ite_false, reduceIte, Nat.reduceAdd, Nat.reduceSub, Nat.reduceLT, Nat.reduceEqDiff, Bool.false_eq_true, Bool.not_true, Bool.not_false, decide_true, decide_false, eqD_int, beq_iff_eq, beq_self_eq_true, Bool.not_eq_true', beq_eq_false_iff_ne, ne_eq, not_true_eq_false, not_false_eq_true, compO, compKO, vsOk, wipeD, back, List.all_cons, List.all_nil, List.foldl_cons, List.foldl_nil, Bool.and_true, Bool.true_and, Bool.and_self, Option.getD_some, Option.getD_none, decide_eq_true_eq, List.length_map, atI_0, atI_1, atI_2, lim0, lim1, lim2, lim3, lim4, lim5, lim6, lim7, lim8, lim9, lim10, lim11, lim12, set_last, get_last, eqD_pair, slV, rngL, and_self, true_and, and_true, isa_NoneType_bool, isa_NoneType_int, isa_NoneType_str, isa_NoneType_tuple, isa_NoneType_list, isa_NoneType_dict, isa_bool_bool, isa_bool_int, isa_bool_str, isa_bool_tuple, isa_bool_list, isa_bool_dict, isa_int_bool, isa_int_int, isa_int_str, isa_int_tuple, isa_int_list, isa_int_dict, isa_str_bool, isa_str_int, isa_str_str, isa_str_tuple, isa_str_list, isa_str_dict, isa_tuple_bool, isa_tuple_int, isa_tuple_str, isa_tuple_tuple, isa_tuple_list, isa_tuple_dict, isa_list_bool, isa_list_int, isa_list_str, isa_list_tuple, isa_list_list, isa_list_dict, isa_dict_bool, isa_dict_int, isa_dict_str, isa_dict_tuple, isa_dict_list, isa_dict_dict, ixN_30, ixN_31, ixN_32]
  refine Eq.trans (congrArg endF (ss_go (s1 := ⟨[some (.val, .ref b), some (.val, .ref n), some (.val, .ref fr), some (.own, .lst (R.map hD)), some (.own, .lst (R.map hD ++ [.tup [.int 0, .int 1]])), none, none, none, none, none, none], st S b q⟩) ?_)) ?_
  · refine (ite_f (s1 := ⟨[some (.val, .ref b), some (.val, .ref n), some (.val, .ref fr), some (.own, .lst (R.map hD)), some (.own, .lst (R.map hD ++ [.tup [.int 0, .int 1]])), none, none, none, none, none, none], st S b q⟩) ?_).trans ?_
    · simp (implicitDefEqProofs := false) only [Int.cast_ofNat_Int, T, List.length_cons, List.length_nil, List.map_cons, List.map_nil, List.replicate, List.cons_append, List.nil_append, evSs, evS, evE, evL, evA, evP, itE, Out.bind, Out.then, OutL.bind, asgP, putS, onB, onS, lift, binR, addR, mulR, binD, cmpD, lstOf, lsqOf, seqOf, lenD, biV, on1, on2, Sr.intD, int2D, vI, vB, ixD, valO, argO, toVal, back1, orS, intV, celL, putC, putO, ownL, endF, tyD, srcM, srcO, walkOf, keyD, augD, Sr.part, pOk, bindP, bindPs, Option.map, List.getElem?_cons_zero, List.getElem?_cons_succ, List.set, List.length_set, ite_true, ite_false, reduceIte, Nat.reduceAdd, Nat.reduceSub, Nat.reduceLT, Nat.reduceEqDiff, Bool.false_eq_true, Bool.not_true, Bool.not_false, decide_true, decide_false, eqD_int, beq_iff_eq, beq_self_eq_true, Bool.not_eq_true', beq_eq_false_iff_ne, ne_eq, not_true_eq_false, not_false_eq_true, compO, compKO, vsOk, wipeD, back, List.all_cons, List.all_nil, List.foldl_cons, List.foldl_nil, Bool.and_true, Bool.true_and, Bool.and_self, Option.getD_some, Option.getD_none, decide_eq_true_eq, List.length_map, atI_0, atI_1, atI_2, lim0, lim1, lim2, lim3, lim4, lim5, lim6, lim7, lim8, lim9, lim10, lim11, lim12, set_last, get_last, eqD_pair, slV, rngL, and_self, true_and, and_true, isa_NoneType_bool, isa_NoneType_int, isa_NoneType_str, isa_NoneType_tuple, isa_NoneType_list, isa_NoneType_dict, isa_bool_bool, isa_bool_int, isa_bool_str, isa_bool_tuple, isa_bool_list, isa_bool_dict, isa_int_bool, isa_int_int, isa_int_str, isa_int_tuple, isa_int_list, isa_int_dict, isa_str_bool, isa_str_int, isa_str_str, isa_str_tuple, isa_str_list, isa_str_dict, isa_tuple_bool, isa_tuple_int, isa_tuple_str, isa_tuple_tuple, isa_tuple_list, isa_tuple_dict, isa_list_bool, isa_list_int, isa_list_str, isa_list_tuple, isa_list_list, isa_list_dict, isa_dict_bool, isa_dict_int, isa_dict_str, isa_dict_tuple, isa_dict_list, isa_dict_dict, ixN_30, ixN_31, ixN_32, bn, lk3, lk4, e7, e8, e9]
    · simp (implicitDefEqProofs := false) only [Int.cast_ofNat_Int, T, List.length_cons, List.length_nil, List.map_cons, List.map_nil, List.replicate, List.cons_append, List.nil_append, evSs, evS, evE, evL, evA, evP, itE, Out.bind, Out.then, OutL.bind, asgP, putS, onB, onS, lift, binR, addR, mulR, binD, cmpD, lstOf, lsqOf, seqOf, lenD, biV, on1, on2, Sr.intD, int2D, vI, vB, ixD, valO, argO, toVal, back1, orS, intV, celL, putC, putO, ownL, endF, tyD, srcM, srcO, walkOf, keyD, augD, Sr.part, pOk, bindP, bindPs, Option.map, List.getElem?_cons_zero, List.getElem?_cons_succ, List.set, List.length_set, ite_true, ite_false, reduceIte, Nat.reduceAdd, Nat.reduceSub, Nat.reduceLT, Nat.reduceEqDiff, Bool.false_eq_true, Bool.not_true, Bool.not_false, decide_true, decide_false, eqD_int, beq_iff_eq, beq_self_eq_true, Bool.not_eq_true', beq_eq_false_iff_ne, ne_eq, not_true_eq_false, not_false_eq_true, compO, compKO, vsOk, wipeD, back, List.all_cons, List.all_nil, List.foldl_cons, List.foldl_nil, Bool.and_true, Bool.true_and, Bool.and_self, Option.getD_some, Option.getD_none, decide_eq_true_eq, List.length_map, atI_0, atI_1, atI_2, lim0, lim1, lim2, lim3, lim4, lim5, lim6, lim7, lim8, lim9, lim10, lim11, lim12, set_last, get_last, eqD_pair, slV, rngL, and_self, true_and, and_true, isa_NoneType_bool, isa_NoneType_int, isa_NoneType_str, isa_NoneType_tuple, isa_NoneType_list, isa_NoneType_dict, isa_bool_bool, isa_bool_int, isa_bool_str, isa_bool_tuple, isa_bool_list, isa_bool_dict, isa_int_bool, isa_int_int, isa_int_str, isa_int_tuple, isa_int_list, isa_int_dict, isa_str_bool, isa_str_int, isa_str_str, isa_str_tuple, isa_str_list, isa_str_dict, isa_tuple_bool, isa_tuple_int, isa_tuple_str, isa_tuple_tuple, isa_tuple_list, isa_tuple_dict, isa_list_bool, isa_list_int, isa_list_str, isa_list_tuple, isa_list_list, isa_list_dict, isa_dict_bool, isa_dict_int, isa_dict_str, isa_dict_tuple, isa_dict_list, isa_dict_dict, ixN_30, ixN_31, ixN_32]
  refine Eq.trans (congrArg endF (ss_go (s1 := ⟨[some (.val, .ref b), some (.val, .ref n), some (.val, .ref fr), some (.own, .lst (R.map hD)), some (.own, .lst (R.map hD ++ [.tup [.int 0, .int 1]])), none, none, none, some (.val, .int (c : Int)), none, none], st S b q1⟩) ?_)) ?_
  · simp (implicitDefEqProofs := false) only [Int.cast_ofNat_Int, T, List.length_cons, List.length_nil, List.map_cons, List.map_nil, List.replicate, List.cons_append, List.nil_append, evSs, evS, evE, evL, evA, evP, itE, Out.bind, Out.then, OutL.bind, asgP, putS, onB, onS, lift, binR, addR, mulR, binD, cmpD, lstOf, lsqOf, seqOf, lenD, biV, on1, on2, Sr.intD, int2D, vI, vB, ixD, valO, argO, toVal, back1, orS, intV, celL, putC, putO, ownL, endF, tyD, srcM, srcO, walkOf, keyD, augD, Sr.part, pOk, bindP, bindPs, Option.map, List.getElem?_cons_zero, List.getElem?_cons_succ, List.set, List.length_set, ite_true, ite_false, reduceIte, Nat.reduceAdd, Nat.reduceSub, Nat.reduceLT, Nat.reduceEqDiff, Bool.false_eq_true, Bool.not_true, Bool.not_false, decide_true, decide_false, eqD_int, beq_iff_eq, beq_self_eq_true, Bool.not_eq_true', beq_eq_false_iff_ne, ne_eq, not_true_eq_false, not_false_eq_true, compO, compKO, vsOk, wipeD, back, List.all_cons, List.all_nil, List.foldl_cons, List.foldl_nil, Bool.and_true, Bool.true_and, Bool.and_self, Option.getD_some, Option.getD_none, decide_eq_true_eq, List.length_map, atI_0, atI_1, atI_2, lim0, lim1, lim2, lim3, lim4, lim5, lim6, lim7, lim8, lim9, lim10, lim11, lim12, set_last, get_last, eqD_pair, slV, rngL, and_self, true_and, and_true, isa_NoneType_bool, isa_NoneType_int, isa_NoneType_str, isa_NoneType_tuple, isa_NoneType_list, isa_NoneType_dict, isa_bool_bool, isa_bool_int, isa_bool_str, isa_bool_tuple, isa_bool_list, isa_bool_dict, isa_int_bool, isa_int_int, isa_int_str, isa_int_tuple, isa_int_list, isa_int_dict, isa_str_bool, isa_str_int, isa_str_str, isa_str_tuple, isa_str_list, isa_str_dict, isa_tuple_bool, isa_tuple_int, isa_tuple_str, isa_tuple_tuple, isa_tuple_list, isa_tuple_dict, isa_list_bool, isa_list_int, isa_list_str, isa_list_tuple, isa_list_list, isa_list_dict, isa_dict_bool, isa_dict_int, isa_dict_str, isa_dict_tuple, isa_dict_list, isa_dict_dict, ixN_30, ixN_31, ixN_32, gf0, fl, e10]
  refine Eq.trans (congrArg endF (ss_go (s1 := ⟨[some (.val, .ref b), some (.val, .ref n), some (.val, .ref fr), some (.own, .lst (R.map hD)), some (.own, .lst (R.map hD ++ [.tup [.int 0, .int 1]])), none, none, none, some (.val, .int (c : Int)), none, none], st S b q1⟩) ?_)) ?_
  · refine (ite_f (s1 := ⟨[some (.val, .ref b), some (.val, .ref n), some (.val, .ref fr), some (.own, .lst (R.map hD)), some (.own, .lst (R.map hD ++ [.tup [.int 0, .int 1]])), none, none, none, some (.val, .int (c : Int)), none, none], st S b q1⟩) ?_).trans ?_
    · simp (implicitDefEqProofs := false) only [Int.cast_ofNat_Int, T, List.length_cons, List.length_nil, List.map_cons, List.map_nil, List.replicate, List.cons_append, List.nil_append, evSs, evS, evE, evL, evA, evP, itE, Out.bind, Out.then, OutL.bind, asgP, putS, onB, onS, lift, binR, addR, mulR, binD, cmpD, lstOf, lsqOf, seqOf, lenD, biV, on1, on2, Sr.intD, int2D, vI, vB, ixD, valO, argO, toVal, back1, orS, intV, celL, putC, putO, ownL, endF, tyD, srcM, srcO, walkOf, keyD, augD, Sr.part, pOk, bindP, bindPs, Option.map, List.getElem?_cons_zero, List.getElem?_cons_succ, List.set, List.length_set, ite_true, ite_false, reduceIte, Nat.reduceAdd, Nat.reduceSub, Nat.reduceLT, Nat.reduceEqDiff, Bool.false_eq_true, Bool.not_true, Bool.not_false, decide_true, decide_false, eqD_int, beq_iff_eq, beq_self_eq_true, Bool.not_eq_true', beq_eq_false_iff_ne, ne_eq, not_true_eq_false, not_false_eq_true, compO, compKO, vsOk, wipeD, back, List.all_cons, List.all_nil, List.foldl_cons, List.foldl_nil, Bool.and_true, Bool.true_and, Bool.and_self, Option.getD_some, Option.getD_none, decide_eq_true_eq, List.length_map, atI_0, atI_1, atI_2, lim0, lim1, lim2, lim3, lim4, lim5, lim6, lim7, lim8, lim9, lim10, lim11, lim12, set_last, get_last, eqD_pair, slV, rngL, and_self, true_and, and_true, isa_NoneType_bool, isa_NoneType_int, isa_NoneType_str, isa_NoneType_tuple, isa_NoneType_list, isa_NoneType_dict, isa_bool_bool, isa_bool_int, isa_bool_str, isa_bool_tuple, isa_bool_list, isa_bool_dict, isa_int_bool, isa_int_int, isa_int_str, isa_int_tuple, isa_int_list, isa_int_dict, isa_str_bool, isa_str_int, isa_str_str, isa_str_tuple, isa_str_list, isa_str_dict, isa_tuple_bool, isa_tuple_int, isa_tuple_str, isa_tuple_tuple, isa_tuple_list, isa_tuple_dict, isa_list_bool, isa_list_int, isa_list_str, isa_list_tuple, isa_list_list, isa_list_dict, isa_dict_bool, isa_dict_int, isa_dict_str, isa_dict_tuple, isa_dict_list, isa_dict_dict, ixN_30, ixN_31, ixN_32, bn1, lk7, lk8, e11, e12, e13]
    · simp (implicitDefEqProofs := false) only [Int.cast_ofNat_Int, T, List.length_cons, List.length_nil, List.map_cons, List.map_nil, List.replicate, List.cons_append, List.nil_append, evSs, evS, evE, evL, evA, evP, itE, Out.bind, Out.then, OutL.bind, asgP, putS, onB, onS, lift, binR, addR, mulR, binD, cmpD, lstOf, lsqOf, seqOf, lenD, biV, on1, on2, Sr.intD, int2D, vI, vB, ixD, valO, argO, toVal, back1, orS, intV, celL, putC, putO, ownL, endF, tyD, srcM, srcO, walkOf, keyD, augD, Sr.part, pOk, bindP, bindPs, Option.map, List.getElem?_cons_zero, List.getElem?_cons_succ, List.set, List.length_set, ite_true, ite_false, reduceIte, Nat.reduceAdd, Nat.reduceSub, Nat.reduceLT, Nat.reduceEqDiff, Bool.false_eq_true, Bool.not_true, Bool.not_false, decide_true, decide_false, eqD_int, beq_iff_eq, beq_self_eq_true, Bool.not_eq_true', beq_eq_false_iff_ne, ne_eq, not_true_eq_false, not_false_eq_true, compO, compKO, vsOk, wipeD, back, List.all_cons, List.all_nil, List.foldl_cons, List.foldl_nil, Bool.and_true, Bool.true_and, Bool.and_self, Option.getD_some, Option.getD_none, decide_eq_true_eq, List.length_map, atI_0, atI_1, atI_2, lim0, lim1, lim2, lim3, lim4, lim5, lim6, lim7, lim8, lim9, lim10, lim11, lim12, set_last, get_last, eqD_pair, slV, rngL, and_self, true_and, and_true, isa_NoneType_bool, isa_NoneType_int, isa_NoneType_str, isa_NoneType_tuple, isa_NoneType_list, isa_NoneType_dict, isa_bool_bool, isa_bool_int, isa_bool_str, isa_bool_tuple, isa_bool_list, isa_bool_dict, isa_int_bool, isa_int_int, isa_int_str, isa_int_tuple, isa_int_list, isa_int_dict, isa_str_bool, isa_str_int, isa_str_str, isa_str_tuple, isa_str_list, isa_str_dict, isa_tuple_bool, isa_tuple_int, isa_tuple_str, isa_tuple_tuple, isa_tuple_list, isa_tuple_dict, isa_list_bool, isa_list_int, isa_list_str, isa_list_tuple, isa_list_list, isa_list_dict, isa_dict_bool, isa_dict_int, isa_dict_str, isa_dict_tuple, isa_dict_list, isa_dict_dict, ixN_30, ixN_31, ixN_32]
  refine Eq.trans (congrArg endF (ss_go (s1 := ⟨[some (.val, .ref b), some (.val, .ref n), some (.val, .ref fr), some (.own, .lst (R.map hD)), some (.own, .lst (R.map hD ++ [.tup [.int 0, .int 1]])), none, some (.val, .int (1 + (z1 : Int))), none, some (.val, .int (c : Int)), none, none], st S b q2⟩) ?_)) ?_
  · simp (implicitDefEqProofs := false) only [Int.cast_ofNat_Int, T, List.length_cons, List.length_nil, List.map_cons, List.map_nil, List.replicate, List.cons_append, List.nil_append, evSs, evS, evE, evL, evA, evP, itE, Out.bind, Out.then, OutL.bind, asgP, putS, onB, onS, lift, binR, addR, mulR, binD, cmpD, lstOf, lsqOf, seqOf, lenD, biV, on1, on2, Sr.intD, int2D, vI, vB, ixD, valO, argO, toVal, back1, orS, intV, celL, putC, putO, ownL, endF, tyD, srcM, srcO, walkOf, keyD, augD, Sr.part, pOk, bindP, bindPs, Option.map, List.getElem?_cons_zero, List.getElem?_cons_succ, List.set, List.length_set, ite_true, ite_false, reduceIte, Nat.reduceAdd, Nat.reduceSub, Nat.reduceLT, Nat.reduceEqDiff, Bool.false_eq_true, Bool.not_true, Bool.not_false, decide_true, decide_false, eqD_int, beq_iff_eq, beq_self_eq_true, Bool.not_eq_true', beq_eq_false_iff_ne, ne_eq, not_true_eq_false, not_false_eq_true, compO, compKO, vsOk, wipeD, back, List.all_cons, List.all_nil, List.foldl_cons, List.foldl_nil, Bool.and_true, Bool.true_and, Bool.and_self, Option.getD_some, Option.getD_none, decide_eq_true_eq, List.length_map, atI_0, atI_1, atI_2, lim0, lim1, lim2, lim3, lim4, lim5, lim6, lim7, lim8, lim9, lim10, lim11, lim12, set_last, get_last, eqD_pair, slV, rngL, and_self, true_and, and_true, isa_NoneType_bool, isa_NoneType_int, isa_NoneType_str, isa_NoneType_tuple, isa_NoneType_list, isa_NoneType_dict, isa_bool_bool, isa_bool_int, isa_bool_str, isa_bool_tuple, isa_bool_list, isa_bool_dict, isa_int_bool, isa_int_int, isa_int_str, isa_int_tuple, isa_int_list, isa_int_dict, isa_str_bool, isa_str_int, isa_str_str, isa_str_tuple, isa_str_list, isa_str_dict, isa_tuple_bool, isa_tuple_int, isa_tuple_str, isa_tuple_tuple, isa_tuple_list, isa_tuple_dict, isa_list_bool, isa_list_int, isa_list_str, isa_list_tuple, isa_list_list, isa_list_dict, isa_dict_bool, isa_dict_int, isa_dict_str, isa_dict_tuple, isa_dict_list, isa_dict_dict, ixN_30, ixN_31, ixN_32, gf1, fl, e14]
  refine Eq.trans (congrArg endF (ss_go (s1 := ⟨[some (.val, .ref b), some (.val, .ref n), some (.val, .ref fr), some (.own, .lst (R.map hD)), some (.own, .lst (R.map hD ++ [.tup [.int 0, .int 1]])), none, some (.val, .int (1 + (z1 : Int))), none, some (.val, .int (c : Int)), some (.val, .bl (hasB R c (1 + z1))), none], st S b q2⟩) ?_)) ?_
  · by_cases w : c + (1 + z1) ≤ m
    · have wI : (c : Int) + (1 + (z1 : Int)) ≤ (m : Int) := by omega
      have ecut := cut_fr f m c (1 + z1) w
      rw [ez] at ecut
      have ein := in_fr (st S b q2) f c (1 + z1)
      have eh : hasB R c (1 + z1) = allB f c (1 + z1) := by
        have h2 : (hasB R c (1 + z1) = true) ↔ (allB f c (1 + z1) = true) := hif.trans ⟨fun y => allB_iff.mpr fun x g1 g2 => (y x g1 g2).2, fun y x g1 g2 => ⟨by omega, allB_iff.mp y x g1 g2⟩⟩
        exact Bool.eq_iff_iff.mpr h2
      rw [eh]
      cases qa : allB f c (1 + z1) with
      | true =>
        rw [qa] at ein
        simp (implicitDefEqProofs := false) only [Int.cast_ofNat_Int, T, List.length_cons, List.length_nil, List.map_cons, List.map_nil, List.replicate, List.cons_append, List.nil_append, evSs, evS, evE, evL, evA, evP, itE, Out.bind, Out.then, OutL.bind, asgP, putS, onB, onS, lift, binR, addR, mulR, binD, cmpD, lstOf, lsqOf, seqOf, lenD, biV, on1, on2, Sr.intD, int2D, vI, vB, ixD, valO, argO, toVal, back1, orS, intV, celL, putC, putO, ownL, endF, tyD, srcM, srcO, walkOf, keyD, augD, Sr.part, pOk, bindP, bindPs, Option.map, List.getElem?_cons_zero, List.getElem?_cons_succ, List.set, List.length_set, ite_true, ite_false, reduceIte, Nat.reduceAdd, Nat.reduceSub, Nat.reduceLT, Nat.reduceEqDiff, Bool.false_eq_true, Bool.not_true, Bool.not_false, decide_true, decide_false, eqD_int, beq_iff_eq, beq_self_eq_true, Bool.not_eq_true', beq_eq_false_iff_ne, ne_eq, not_true_eq_false, not_false_eq_true, compO, compKO, vsOk, wipeD, back, List.all_cons, List.all_nil, List.foldl_cons, List.foldl_nil, Bool.and_true, Bool.true_and, Bool.and_self, Option.getD_some, Option.getD_none, decide_eq_true_eq, List.length_map, atI_0, atI_1, atI_2, lim0, lim1, lim2, lim3, lim4, lim5, lim6, lim7, lim8, lim9, lim10, lim11, lim12, set_last, get_last, eqD_pair, slV, rngL, and_self, true_and, and_true, isa_NoneType_bool, isa_NoneType_int, isa_NoneType_str, isa_NoneType_tuple, isa_NoneType_list, isa_NoneType_dict, isa_bool_bool, isa_bool_int, isa_bool_str, isa_bool_tuple, isa_bool_list, isa_bool_dict, isa_int_bool, isa_int_int, isa_int_str, isa_int_tuple, isa_int_list, isa_int_dict, isa_str_bool, isa_str_int, isa_str_str, isa_str_tuple, isa_str_list, isa_str_dict, isa_tuple_bool, isa_tuple_int, isa_tuple_str, isa_tuple_tuple, isa_tuple_list, isa_tuple_dict, isa_list_bool, isa_list_int, isa_list_str, isa_list_tuple, isa_list_list, isa_list_dict, isa_dict_bool, isa_dict_int, isa_dict_str, isa_dict_tuple, isa_dict_list, isa_dict_dict, ixN_30, ixN_31, ixN_32, gf2, fl, wI, ecut, ein]
      | false =>
        rw [qa] at ein
        simp (implicitDefEqProofs := false) only [Int.cast_ofNat_Int, T, List.length_cons, List.length_nil, List.map_cons, List.map_nil, List.replicate, List.cons_append, List.nil_append, evSs, evS, evE, evL, evA, evP, itE, Out.bind, Out.then, OutL.bind, asgP, putS, onB, onS, lift, binR, addR, mulR, binD, cmpD, lstOf, lsqOf, seqOf, lenD, biV, on1, on2, Sr.intD, int2D, vI, vB, ixD, valO, argO, toVal, back1, orS, intV, celL, putC, putO, ownL, endF, tyD, srcM, srcO, walkOf, keyD, augD, Sr.part, pOk, bindP, bindPs, Option.map, List.getElem?_cons_zero, List.getElem?_cons_succ, List.set, List.length_set, ite_true, ite_false, reduceIte, Nat.reduceAdd, Nat.reduceSub, Nat.reduceLT, Nat.reduceEqDiff, Bool.false_eq_true, Bool.not_true, Bool.not_false, decide_true, decide_false, eqD_int, beq_iff_eq, beq_self_eq_true, Bool.not_eq_true', beq_eq_false_iff_ne, ne_eq, not_true_eq_false, not_false_eq_true, compO, compKO, vsOk, wipeD, back, List.all_cons, List.all_nil, List.foldl_cons, List.foldl_nil, Bool.and_true, Bool.true_and, Bool.and_self, Option.getD_some, Option.getD_none, decide_eq_true_eq, List.length_map, atI_0, atI_1, atI_2, lim0, lim1, lim2, lim3, lim4, lim5, lim6, lim7, lim8, lim9, lim10, lim11, lim12, set_last, get_last, eqD_pair, slV, rngL, and_self, true_and, and_true, isa_NoneType_bool, isa_NoneType_int, isa_NoneType_str, isa_NoneType_tuple, isa_NoneType_list, isa_NoneType_dict, isa_bool_bool, isa_bool_int, isa_bool_str, isa_bool_tuple, isa_bool_list, isa_bool_dict, isa_int_bool, isa_int_int, isa_int_str, isa_int_tuple, isa_int_list, isa_int_dict, isa_str_bool, isa_str_int, isa_str_str, isa_str_tuple, isa_str_list, isa_str_dict, isa_tuple_bool, isa_tuple_int, isa_tuple_str, isa_tuple_tuple, isa_tuple_list, isa_tuple_dict, isa_list_bool, isa_list_int, isa_list_str, isa_list_tuple, isa_list_list, isa_list_dict, isa_dict_bool, isa_dict_int, isa_dict_str, isa_dict_tuple, isa_dict_list, isa_dict_dict, ixN_30, ixN_31, ixN_32, gf2, fl, wI, ecut, ein]
    · have wI : ¬ (c : Int) + (1 + (z1 : Int)) ≤ (m : Int) := by omega
      have eh : hasB R c (1 + z1) = false := by
        cases y : hasB R c (1 + z1) with
        | false => rfl
        | true => have := (hif.mp y (c + z1) (by omega) (by omega)).1; omega
      rw [eh]
      simp (implicitDefEqProofs := false) only [Int.cast_ofNat_Int, T, List.length_cons, List.length_nil, List.map_cons, List.map_nil, List.replicate, List.cons_append, List.nil_append, evSs, evS, evE, evL, evA, evP, itE, Out.bind, Out.then, OutL.bind, asgP, putS, onB, onS, lift, binR, addR, mulR, binD, cmpD, lstOf, lsqOf, seqOf, lenD, biV, on1, on2, Sr.intD, int2D, vI, vB, ixD, valO, argO, toVal, back1, orS, intV, celL, putC, putO, ownL, endF, tyD, srcM, srcO, walkOf, keyD, augD, Sr.part, pOk, bindP, bindPs, Option.map, List.getElem?_cons_zero, List.getElem?_cons_succ, List.set, List.length_set, ite_true, ite_false, reduceIte, Nat.reduceAdd, Nat.reduceSub, Nat.reduceLT, Nat.reduceEqDiff, Bool.false_eq_true, Bool.not_true, Bool.not_false, decide_true, decide_false, eqD_int, beq_iff_eq, beq_self_eq_true, Bool.not_eq_true', beq_eq_false_iff_ne, ne_eq, not_true_eq_false, not_false_eq_true, compO, compKO, vsOk, wipeD, back, List.all_cons, List.all_nil, List.foldl_cons, List.foldl_nil, Bool.and_true, Bool.true_and, Bool.and_self, Option.getD_some, Option.getD_none, decide_eq_true_eq, List.length_map, atI_0, atI_1, atI_2, lim0, lim1, lim2, lim3, lim4, lim5, lim6, lim7, lim8, lim9, lim10, lim11, lim12, set_last, get_last, eqD_pair, slV, rngL, and_self, true_and, and_true, isa_NoneType_bool, isa_NoneType_int, isa_NoneType_str, isa_NoneType_tuple, isa_NoneType_list, isa_NoneType_dict, isa_bool_bool, isa_bool_int, isa_bool_str, isa_bool_tuple, isa_bool_list, isa_bool_dict, isa_int_bool, isa_int_int, isa_int_str, isa_int_tuple, isa_int_list, isa_int_dict, isa_str_bool, isa_str_int, isa_str_str, isa_str_tuple, isa_str_list, isa_str_dict, isa_tuple_bool, isa_tuple_int, isa_tuple_str, isa_tuple_tuple, isa_tuple_list, isa_tuple_dict, isa_list_bool, isa_list_int, isa_list_str, isa_list_tuple, isa_list_list, isa_list_dict, isa_dict_bool, isa_dict_int, isa_dict_str, isa_dict_tuple, isa_dict_list, isa_dict_dict, ixN_30, ixN_31, ixN_32, gf2, fl, wI]
  refine Eq.trans (congrArg endF (ss_go (s1 := ⟨[some (.val, .ref b), some (.val, .ref n), some (.val, .ref fr), some (.own, .lst (R.map hD)), some (.own, .lst (R.map hD ++ [.tup [.int 0, .int 1]])), none, some (.val, .int (1 + (z1 : Int))), none, some (.val, .int (c : Int)), some (.val, .bl (hasB R c (1 + z1))), some (.val, .bl (hasB R c (1 + z1)))], st S b q2⟩) ?_)) ?_
  · simp (implicitDefEqProofs := false) only [Int.cast_ofNat_Int, T, List.length_cons, List.length_nil, List.map_cons, List.map_nil, List.replicate, List.cons_append, List.nil_append, evSs, evS, evE, evL, evA, evP, itE, Out.bind, Out.then, OutL.bind, asgP, putS, onB, onS, lift, binR, addR, mulR, binD, cmpD, lstOf, lsqOf, seqOf, lenD, biV, on1, on2, Sr.intD, int2D, vI, vB, ixD, valO, argO, toVal, back1, orS, intV, celL, putC, putO, ownL, endF, tyD, srcM, srcO, walkOf, keyD, augD, Sr.part, pOk, bindP, bindPs, Option.map, List.getElem?_cons_zero, List.getElem?_cons_succ, List.set, List.length_set, ite_true, ite_false, reduceIte, Nat.reduceAdd, Nat.reduceSub, Nat.reduceLT, Nat.reduceEqDiff, Bool.false_eq_true, Bool.not_true, Bool.not_false, decide_true, decide_false, eqD_int, beq_iff_eq, beq_self_eq_true, Bool.not_eq_true', beq_eq_false_iff_ne, ne_eq, not_true_eq_false, not_false_eq_true, compO, compKO, vsOk, wipeD, back, List.all_cons, List.all_nil, List.foldl_cons, List.foldl_nil, Bool.and_true, Bool.true_and, Bool.and_self, Option.getD_some, Option.getD_none, decide_eq_true_eq, List.length_map, atI_0, atI_1, atI_2, lim0, lim1, lim2, lim3, lim4, lim5, lim6, lim7, lim8, lim9, lim10, lim11, lim12, set_last, get_last, eqD_pair, slV, rngL, and_self, true_and, and_true, isa_NoneType_bool, isa_NoneType_int, isa_NoneType_str, isa_NoneType_tuple, isa_NoneType_list, isa_NoneType_dict, isa_bool_bool, isa_bool_int, isa_bool_str, isa_bool_tuple, isa_bool_list, isa_bool_dict, isa_int_bool, isa_int_int, isa_int_str, isa_int_tuple, isa_int_list, isa_int_dict, isa_str_bool, isa_str_int, isa_str_str, isa_str_tuple, isa_str_list, isa_str_dict, isa_tuple_bool, isa_tuple_int, isa_tuple_str, isa_tuple_tuple, isa_tuple_list, isa_tuple_dict, isa_list_bool, isa_list_int, isa_list_str, isa_list_tuple, isa_list_list, isa_list_dict, isa_dict_bool, isa_dict_int, isa_dict_str, isa_dict_tuple, isa_dict_list, isa_dict_dict, ixN_30, ixN_31, ixN_32, bn2, lk9, lk10, e15]
  refine Eq.trans (congrArg endF (ret_go (x := (.val, .bl true)) (S := st S b q2) ?_)) ?_
  · simp (implicitDefEqProofs := false) only [Int.cast_ofNat_Int, T, List.length_cons, List.length_nil, List.map_cons, List.map_nil, List.replicate, List.cons_append, List.nil_append, evSs, evS, evE, evL, evA, evP, itE, Out.bind, Out.then, OutL.bind, asgP, putS, onB, onS, lift, binR, addR, mulR, binD, cmpD, lstOf, lsqOf, seqOf, lenD, biV, on1, on2, Sr.intD, int2D, vI, vB, ixD, valO, argO, toVal, back1, orS, intV, celL, putC, putO, ownL, endF, tyD, srcM, srcO, walkOf, keyD, augD, Sr.part, pOk, bindP, bindPs, Option.map, List.getElem?_cons_zero, List.getElem?_cons_succ, List.set, List.length_set, ite_true, ite_false, reduceIte, Nat.reduceAdd, Nat.reduceSub, Nat.reduceLT, Nat.reduceEqDiff, Bool.false_eq_true, Bool.not_true, Bool.not_false, decide_true, decide_false, eqD_int, beq_iff_eq, beq_self_eq_true, Bool.not_eq_true', beq_eq_false_iff_ne, ne_eq, not_true_eq_false, not_false_eq_true, compO, compKO, vsOk, wipeD, back, List.all_cons, List.all_nil, List.foldl_cons, List.foldl_nil, Bool.and_true, Bool.true_and, Bool.and_self, Option.getD_some, Option.getD_none, decide_eq_true_eq, List.length_map, atI_0, atI_1, atI_2, lim0, lim1, lim2, lim3, lim4, lim5, lim6, lim7, lim8, lim9, lim10, lim11, lim12, set_last, get_last, eqD_pair, slV, rngL, and_self, true_and, and_true, isa_NoneType_bool, isa_NoneType_int, isa_NoneType_str, isa_NoneType_tuple, isa_NoneType_list, isa_NoneType_dict, isa_bool_bool, isa_bool_int, isa_bool_str, isa_bool_tuple, isa_bool_list, isa_bool_dict, isa_int_bool, isa_int_int, isa_int_str, isa_int_tuple, isa_int_list, isa_int_dict, isa_str_bool, isa_str_int, isa_str_str, isa_str_tuple, isa_str_list, isa_str_dict, isa_tuple_bool, isa_tuple_int, isa_tuple_str, isa_tuple_tuple, isa_tuple_list, isa_tuple_dict, isa_list_bool, isa_list_int, isa_list_str, isa_list_tuple, isa_list_list, isa_list_dict, isa_dict_bool, isa_dict_int, isa_dict_str, isa_dict_tuple, isa_dict_list, isa_dict_dict, ixN_30, ixN_31, ixN_32, eqD_bl, bn2, lk1, lk2, e16, e17]
  · rfl
end
end Kx

namespace Kx
open PySem PySem.Spec PyProof.Rows L2 Sr
noncomputable def aC : Ex := (.and (.cmp .ne (.pk 11) (.lst .nil)) (.or (.cmp .eq (.pk 12) (.lst .nil)) (.cmp .lt (.call 16 (.cons (.pk 8) (.cons (.con (.int 5)) .nil))) (.con (.int 3)))))
noncomputable def aT : Sms := (.cons (.asg (.tup [(.nm 13), (.nm 14)]) (.call 19 (.cons (.pk 8) (.cons (.ix (.pk 11) (.call 16 (.cons (.pk 8) (.cons (.bi .len (.cons (.pk 11) .nil)) .nil)))) .nil))))
  (.cons (.drop (.meth (.ix (.pk 3) (.pk 9)) "take" [(0, 11)] (.cons (.pk 13) (.cons (.pk 14) .nil))))
  (.cons (.sls (.var 10) (.pk 13) (.bin .add (.pk 13) (.pk 14)) (.bin .mul (.lst (.cons (.con (.bl false)) .nil)) (.pk 14)))
  .nil)))
noncomputable def aF : Sms := (.cons (.asg (.tup [(.nm 13), (.nm 14)]) (.call 19 (.cons (.pk 8) (.cons (.ix (.pk 12) (.call 16 (.cons (.pk 8) (.cons (.bi .len (.cons (.pk 12) .nil)) .nil)))) .nil))))
  (.cons (.drop (.meth (.ix (.pk 3) (.pk 9)) "give" [(0, 13)] (.cons (.var 13) (.cons (.pk 14) .nil))))
  (.cons (.sls (.var 10) (.pk 13) (.bin .add (.pk 13) (.pk 14)) (.bin .mul (.lst (.cons (.con (.bl true)) .nil)) (.pk 14)))
  .nil)))
theorem eq_nil {S : List Cell} {m m' : Md} {ds : List D} (h : ∀ d ∈ ds, Pl 63 d) : eqD S (m, .lst ds) (m', .lst []) = some ds.isEmpty := by
  cases ds with
  | nil => exact eqD_lst rfl h
  | cons d ds =>
    obtain ⟨p, e, _⟩ := id (Pl.lst h)
    obtain ⟨s1, s2⟩ := (Pl.lst h).shaped e
    have e0 : toPy (.lst []) = some (.list []) := rfl
    unfold eqD
    rw [drf_lst, drf_lst, e, e0]
    dsimp only
    rw [if_pos ⟨s1, by decide⟩]
    obtain ⟨ps, h1, h2⟩ := toPy_lst e
    subst h2
    unfold toPys at h1
    split at h1
    · cases h1
      unfold PyData.eqv PyData.eqvAll
      rfl
    · cases h1
theorem ne_nil {S : List Cell} {m m' : Md} (R : List Hl) : eqD S (m, .lst (R.map hD)) (m', .lst []) = some R.isEmpty := by
  rw [eq_nil (pl_hs R)]
  cases R <;> rfl
theorem at_h {R : List Hl} {r : Nat} (h : r < R.length) : atI (R.map hD) (r : Int) = some (.tup [.int (R[r].1 : Int), .int (R[r].2 : Int)]) := atI_nat (by rw [List.getElem?_map, List.getElem?_eq_getElem h]; rfl)
theorem flat_v (v : Bool) : ∀ n : Nat, (List.replicate n [D.bl v]).flatten = List.replicate n (D.bl v)
  | 0 => rfl
  | n + 1 => by rw [List.replicate_succ, List.flatten_cons, flat_v v n]; rfl
def spl (f : Nat → Bool) (s z : Nat) (v : Bool) : Nat → Bool := fun c => if s ≤ c ∧ c < s + z then v else f c
theorem fr_splice (f : Nat → Bool) (m s z : Nat) (v : Bool) (h : s + z ≤ m) : (frD f m).take s ++ List.replicate z (D.bl v) ++ (frD f m).drop (s + z) = frD (spl f s z v) m := by
  unfold frD
  refine List.ext_getElem? fun i => ?_
  have l1 : (((List.range m).map fun c => D.bl (f c)).take s).length = s := by rw [List.length_take, List.length_map, List.length_range]; omega
  by_cases hi : i < m
  · rw [List.getElem?_map, List.getElem?_range hi]
    show _ = some (D.bl (spl f s z v i))
    unfold spl
    by_cases c1 : i < s
    · rw [if_neg (by omega), List.append_assoc, List.getElem?_append_left (by rw [l1]; exact c1), List.getElem?_take, if_pos c1, List.getElem?_map, List.getElem?_range hi]; rfl
    · by_cases c2 : i < s + z
      · rw [if_pos ⟨by omega, c2⟩, List.append_assoc, List.getElem?_append_right (by rw [l1]; omega), l1, List.getElem?_append_left (by rw [List.length_replicate]; omega), List.getElem?_replicate, if_pos (by omega)]
      · rw [if_neg (by omega), List.getElem?_append_right (by rw [List.length_append, l1, List.length_replicate]; omega), List.length_append, l1, List.length_replicate, List.getElem?_drop, show s + z + (i - (s + z)) = i by omega, List.getElem?_map, List.getElem?_range hi]; rfl
  · rw [List.getElem?_eq_none, List.getElem?_eq_none]
    · rw [List.length_map, List.length_range]; omega
    · rw [List.length_append, List.length_append, l1, List.length_replicate, List.length_drop, List.length_map, List.length_range]; omega
theorem spl_F (f : Nat → Bool) (m s z : Nat) (c : Nat) : (c < m ∧ spl f s z false c = true) ↔ ((c < m ∧ f c = true) ∧ ¬ (s ≤ c ∧ c < s + z)) := by
  unfold spl
  by_cases h : s ≤ c ∧ c < s + z
  · rw [if_pos h]
    exact ⟨fun y => Bool.noConfusion y.2, fun y => absurd h y.2⟩
  · rw [if_neg h]
    exact ⟨fun y => ⟨y, h⟩, fun y => y.1⟩
theorem spl_T (f : Nat → Bool) (m s z : Nat) (hm : s + z ≤ m) (c : Nat) : (c < m ∧ spl f s z true c = true) ↔ ((c < m ∧ f c = true) ∨ (s ≤ c ∧ c < s + z)) := by
  unfold spl
  by_cases h : s ≤ c ∧ c < s + z
  · rw [if_pos h]
    exact ⟨fun y => .inr h, fun y => ⟨by omega, rfl⟩⟩
  · rw [if_neg h]
    exact ⟨fun y => .inl y, fun y => y.elim id fun y => absurd y h⟩
def aE (x0 x1 x2 : Option Sl) (bs : List D) (x4 x5 x6 x7 : Option Sl) (b w fr : Nat) (H U : List Hl) (x13 x14 x15 : Option Sl) : List (Option Sl) :=
  [x0, x1, x2, some (.own, .lst bs), x4, x5, x6, x7, some (.val, .ref b), some (.val, .int (w : Int)), some (.val, .ref fr), some (.own, .lst (H.map hD)), some (.own, .lst (U.map hD)), x13, x14, x15]
section
variable (k : Nat) (S : List Cell) (b n r fr m : Nat) (hb : b < S.length) (hbn : n ≠ b) (hbr : r ≠ b) (hbf : fr ≠ b) (hrf : fr ≠ r) (R : List Hl) (f : Nat → Bool) (hn : S[n]? = some (bk m r)) (hr : S[r]? = some (rwS R)) (hf : S[fr]? = some (.lst (frD f m))) (K : Bk R m fun c => c < m ∧ f c = true) (h16 : 16 ≤ m) (hm : m ≤ 240)
  (x0 x1 x2 : Option Sl) (bs : List D) (x4 x5 x6 x7 : Option Sl) (w : Nat) (hbs : atI bs (w : Int) = some (.ref n)) (x15 : Option Sl)
include hb K hm in
theorem condE (x13 x14 : Option Sl) (q : Qx) : ∃ (bb : Bool) (q' : Qx), evE (callF T (k + 5)) aC ⟨aE x0 x1 x2 bs x4 x5 x6 x7 b w fr R (sc (fun c => !f c) m) x13 x14 x15, st S b q⟩ = .ok (.val, .bl bb) ⟨aE x0 x1 x2 bs x4 x5 x6 x7 b w fr R (sc (fun c => !f c) m) x13 x14 x15, st S b q'⟩ ∧ (bb = true → R ≠ []) ∧ (bb = false → R ≠ [] → sc (fun c => !f c) m ≠ []) := by
  generalize hU : sc (fun c => !f c) m = U
  have n1 := ne_nil (S := st S b q) (m := .pk) (m' := .own) R
  have n2 := ne_nil (S := st S b q) (m := .pk) (m' := .own) U
  unfold aE
  cases R with
  | nil =>
    have n1' : eqD (st S b q) (.pk, .lst []) (.own, .lst []) = some true := n1
    refine ⟨false, q, ?_, fun z => Bool.noConfusion z, fun _ z => absurd rfl z⟩
    simp (implicitDefEqProofs := false) only [Int.cast_ofNat_Int, T, List.length_cons, List.length_nil, List.map_cons, List.map_nil, List.replicate, List.cons_append, List.nil_append, evSs, evS, evE, evL, evA, evP, itE, Out.bind, Out.then, OutL.bind, asgP, putS, onB, onS, lift, binR, addR, mulR, binD, cmpD, lstOf, lsqOf, seqOf, lenD, biV, on1, on2, Sr.intD, int2D, vI, vB, ixD, valO, argO, toVal, back1, orS, intV, celL, putC, putO, ownL, endF, tyD, srcM, srcO, walkOf, keyD, augD, Sr.part, pOk, bindP, bindPs, Option.map, List.getElem?_cons_zero, List.getElem?_cons_succ, List.set, List.length_set, ite_true, ite_false, reduceIte, Nat.reduceAdd, Nat.reduceSub, Nat.reduceLT, Nat.reduceEqDiff, Bool.false_eq_true, Bool.not_true, Bool.not_false, decide_true, decide_false, eqD_int, beq_iff_eq, beq_self_eq_true, Bool.not_eq_true', beq_eq_false_iff_ne, ne_eq, not_true_eq_false, not_false_eq_true, compO, compKO, vsOk, wipeD, back, List.all_cons, List.all_nil, List.foldl_cons, List.foldl_nil, Bool.and_true, Bool.true_and, Bool.and_self, Option.getD_some, Option.getD_none, decide_eq_true_eq, List.length_map, atI_0, atI_1, atI_2, lim0, lim1, lim2, lim3, lim4, lim5, lim6, lim7, lim8, lim9, lim10, lim11, lim12, set_last, get_last, eqD_pair, slV, rngL, and_self, true_and, and_true, isa_NoneType_bool, isa_NoneType_int, isa_NoneType_str, isa_NoneType_tuple, isa_NoneType_list, isa_NoneType_dict, isa_bool_bool, isa_bool_int, isa_bool_str, isa_bool_tuple, isa_bool_list, isa_bool_dict, isa_int_bool, isa_int_int, isa_int_str, isa_int_tuple, isa_int_list, isa_int_dict, isa_str_bool, isa_str_int, isa_str_str, isa_str_tuple, isa_str_list, isa_str_dict, isa_tuple_bool, isa_tuple_int, isa_tuple_str, isa_tuple_tuple, isa_tuple_list, isa_tuple_dict, isa_list_bool, isa_list_int, isa_list_str, isa_list_tuple, isa_list_list, isa_list_dict, isa_dict_bool, isa_dict_int, isa_dict_str, isa_dict_tuple, isa_dict_list, isa_dict_dict, ixN_30, ixN_31, ixN_32, aC, n1']
  | cons h t =>
    have n1' : eqD (st S b q) (.pk, .lst ((h :: t).map hD)) (.own, .lst []) = some false := n1
    generalize hds : (h :: t).map hD = ds at *
    cases U with
    | nil =>
      have n2' : eqD (st S b q) (.pk, .lst []) (.own, .lst []) = some true := n2
      refine ⟨true, q, ?_, fun _ z => (nomatch z), fun z => Bool.noConfusion z⟩
      simp (implicitDefEqProofs := false) only [Int.cast_ofNat_Int, T, List.length_cons, List.length_nil, List.map_cons, List.map_nil, List.replicate, List.cons_append, List.nil_append, evSs, evS, evE, evL, evA, evP, itE, Out.bind, Out.then, OutL.bind, asgP, putS, onB, onS, lift, binR, addR, mulR, binD, cmpD, lstOf, lsqOf, seqOf, lenD, biV, on1, on2, Sr.intD, int2D, vI, vB, ixD, valO, argO, toVal, back1, orS, intV, celL, putC, putO, ownL, endF, tyD, srcM, srcO, walkOf, keyD, augD, Sr.part, pOk, bindP, bindPs, Option.map, List.getElem?_cons_zero, List.getElem?_cons_succ, List.set, List.length_set, ite_true, ite_false, reduceIte, Nat.reduceAdd, Nat.reduceSub, Nat.reduceLT, Nat.reduceEqDiff, Bool.false_eq_true, Bool.not_true, Bool.not_false, decide_true, decide_false, eqD_int, beq_iff_eq, beq_self_eq_true, Bool.not_eq_true', beq_eq_false_iff_ne, ne_eq, not_true_eq_false, not_false_eq_true, compO, compKO, vsOk, wipeD, back, List.all_cons, List.all_nil, List.foldl_cons, List.foldl_nil, Bool.and_true, Bool.true_and, Bool.and_self, Option.getD_some, Option.getD_none, decide_eq_true_eq, List.length_map, atI_0, atI_1, atI_2, lim0, lim1, lim2, lim3, lim4, lim5, lim6, lim7, lim8, lim9, lim10, lim11, lim12, set_last, get_last, eqD_pair, slV, rngL, and_self, true_and, and_true, isa_NoneType_bool, isa_NoneType_int, isa_NoneType_str, isa_NoneType_tuple, isa_NoneType_list, isa_NoneType_dict, isa_bool_bool, isa_bool_int, isa_bool_str, isa_bool_tuple, isa_bool_list, isa_bool_dict, isa_int_bool, isa_int_int, isa_int_str, isa_int_tuple, isa_int_list, isa_int_dict, isa_str_bool, isa_str_int, isa_str_str, isa_str_tuple, isa_str_list, isa_str_dict, isa_tuple_bool, isa_tuple_int, isa_tuple_str, isa_tuple_tuple, isa_tuple_list, isa_tuple_dict, isa_list_bool, isa_list_int, isa_list_str, isa_list_tuple, isa_list_list, isa_list_dict, isa_dict_bool, isa_dict_int, isa_dict_str, isa_dict_tuple, isa_dict_list, isa_dict_dict, ixN_30, ixN_31, ixN_32, aC, n1', n2']
    | cons u v =>
      have n2' : eqD (st S b q) (.pk, .lst ((u :: v).map hD)) (.own, .lst []) = some false := n2
      generalize hes : (u :: v).map hD = es at *
      obtain ⟨i, q1, e1, h1⟩ := takeN (k + 4) b 5 S hb q (by decide) (by decide)
      by_cases c : (i : Int) < 3
      · refine ⟨true, q1, ?_, fun _ z => (nomatch z), fun z => Bool.noConfusion z⟩
        simp (implicitDefEqProofs := false) only [Int.cast_ofNat_Int, T, List.length_cons, List.length_nil, List.map_cons, List.map_nil, List.replicate, List.cons_append, List.nil_append, evSs, evS, evE, evL, evA, evP, itE, Out.bind, Out.then, OutL.bind, asgP, putS, onB, onS, lift, binR, addR, mulR, binD, cmpD, lstOf, lsqOf, seqOf, lenD, biV, on1, on2, Sr.intD, int2D, vI, vB, ixD, valO, argO, toVal, back1, orS, intV, celL, putC, putO, ownL, endF, tyD, srcM, srcO, walkOf, keyD, augD, Sr.part, pOk, bindP, bindPs, Option.map, List.getElem?_cons_zero, List.getElem?_cons_succ, List.set, List.length_set, ite_true, ite_false, reduceIte, Nat.reduceAdd, Nat.reduceSub, Nat.reduceLT, Nat.reduceEqDiff, Bool.false_eq_true, Bool.not_true, Bool.not_false, decide_true, decide_false, eqD_int, beq_iff_eq, beq_self_eq_true, Bool.not_eq_true', beq_eq_false_iff_ne, ne_eq, not_true_eq_false, not_false_eq_true, compO, compKO, vsOk, wipeD, back, List.all_cons, List.all_nil, List.foldl_cons, List.foldl_nil, Bool.and_true, Bool.true_and, Bool.and_self, Option.getD_some, Option.getD_none, decide_eq_true_eq, List.length_map, atI_0, atI_1, atI_2, lim0, lim1, lim2, lim3, lim4, lim5, lim6, lim7, lim8, lim9, lim10, lim11, lim12, set_last, get_last, eqD_pair, slV, rngL, and_self, true_and, and_true, isa_NoneType_bool, isa_NoneType_int, isa_NoneType_str, isa_NoneType_tuple, isa_NoneType_list, isa_NoneType_dict, isa_bool_bool, isa_bool_int, isa_bool_str, isa_bool_tuple, isa_bool_list, isa_bool_dict, isa_int_bool, isa_int_int, isa_int_str, isa_int_tuple, isa_int_list, isa_int_dict, isa_str_bool, isa_str_int, isa_str_str, isa_str_tuple, isa_str_list, isa_str_dict, isa_tuple_bool, isa_tuple_int, isa_tuple_str, isa_tuple_tuple, isa_tuple_list, isa_tuple_dict, isa_list_bool, isa_list_int, isa_list_str, isa_list_tuple, isa_list_list, isa_list_dict, isa_dict_bool, isa_dict_int, isa_dict_str, isa_dict_tuple, isa_dict_list, isa_dict_dict, ixN_30, ixN_31, ixN_32, aC, n1', n2', e1, c]
      · refine ⟨false, q1, ?_, fun z => Bool.noConfusion z, fun _ _ z => nomatch z⟩
        simp (implicitDefEqProofs := false) only [Int.cast_ofNat_Int, T, List.length_cons, List.length_nil, List.map_cons, List.map_nil, List.replicate, List.cons_append, List.nil_append, evSs, evS, evE, evL, evA, evP, itE, Out.bind, Out.then, OutL.bind, asgP, putS, onB, onS, lift, binR, addR, mulR, binD, cmpD, lstOf, lsqOf, seqOf, lenD, biV, on1, on2, Sr.intD, int2D, vI, vB, ixD, valO, argO, toVal, back1, orS, intV, celL, putC, putO, ownL, endF, tyD, srcM, srcO, walkOf, keyD, augD, Sr.part, pOk, bindP, bindPs, Option.map, List.getElem?_cons_zero, List.getElem?_cons_succ, List.set, List.length_set, ite_true, ite_false, reduceIte, Nat.reduceAdd, Nat.reduceSub, Nat.reduceLT, Nat.reduceEqDiff, Bool.false_eq_true, Bool.not_true, Bool.not_false, decide_true, decide_false, eqD_int, beq_iff_eq, beq_self_eq_true, Bool.not_eq_true', beq_eq_false_iff_ne, ne_eq, not_true_eq_false, not_false_eq_true, compO, compKO, vsOk, wipeD, back, List.all_cons, List.all_nil, List.foldl_cons, List.foldl_nil, Bool.and_true, Bool.true_and, Bool.and_self, Option.getD_some, Option.getD_none, decide_eq_true_eq, List.length_map, atI_0, atI_1, atI_2, lim0, lim1, lim2, lim3, lim4, lim5, lim6, lim7, lim8, lim9, lim10, lim11, lim12, set_last, get_last, eqD_pair, slV, rngL, and_self, true_and, and_true, isa_NoneType_bool, isa_NoneType_int, isa_NoneType_str, isa_NoneType_tuple, isa_NoneType_list, isa_NoneType_dict, isa_bool_bool, isa_bool_int, isa_bool_str, isa_bool_tuple, isa_bool_list, isa_bool_dict, isa_int_bool, isa_int_int, isa_int_str, isa_int_tuple, isa_int_list, isa_int_dict, isa_str_bool, isa_str_int, isa_str_str, isa_str_tuple, isa_str_list, isa_str_dict, isa_tuple_bool, isa_tuple_int, isa_tuple_str, isa_tuple_tuple, isa_tuple_list, isa_tuple_dict, isa_list_bool, isa_list_int, isa_list_str, isa_list_tuple, isa_list_list, isa_list_dict, isa_dict_bool, isa_dict_int, isa_dict_str, isa_dict_tuple, isa_dict_list, isa_dict_dict, ixN_30, ixN_31, ixN_32, aC, n1', n2', e1, c]
theorem sto_comm {S : List Cell} {b r fr : Nat} (hbr : r ≠ b) (hbf : fr ≠ b) (q : Qx) (x y : Cell) : ((st S b q).set r x).set fr y = st ((S.set r x).set fr y) b q := by
  unfold st
  rw [List.set_comm _ _ hbr.symm, List.set_comm _ _ hbf.symm]
include hb hbn hbr hbf hrf hn hr hf K hm hbs in
theorem actT (hR : R ≠ []) (q : Qx) (U : List Hl) (x13 x14 : Option Sl) : ∃ (q' : Qx) (R' : List Hl) (f' : Nat → Bool) (y13 y14 : Option Sl), evSs (callF T (k + 5)) aT ⟨aE x0 x1 x2 bs x4 x5 x6 x7 b w fr R U x13 x14 x15, st S b q⟩ = .nx ⟨aE x0 x1 x2 bs x4 x5 x6 x7 b w fr R U y13 y14 x15, st ((S.set r (rwS R')).set fr (.lst (frD f' m))) b q'⟩ ∧ Bk R' m fun c => c < m ∧ f' c = true := by
  have hl : R.length ≤ 240 := Nat.le_trans K.sep.le hm
  have hp : 0 < R.length := List.length_pos_iff.mpr hR
  obtain ⟨i, q1, e1, h1⟩ := takeN (k + 4) b ((R.length : Nat) : Int) S hb q (by omega) (by omega)
  have hi : i < R.length := by omega
  have a1 := at_h hi
  generalize hx : R[i] = x at a1
  have xm : x ∈ R := by rw [← hx]; exact List.getElem_mem hi
  have xl := K.sep.low x xm
  obtain ⟨s, z, q2, e2, g1, g2, g3⟩ := part (k + 3) b S hb q1 x.1 x.2 xl.2.1 (by omega)
  have free : ∀ c, s ≤ c → c < s + z → c < m ∧ f c = true := fun c y1 y2 => (K.isIn c).mp ⟨x, xm, by omega, by omega⟩
  have gn := (st_ne hbn q2).trans hn
  obtain ⟨R', e3, K1⟩ := bookTake (k + 1) n r m gn hm ((st_ne hbr q2).trans hr) K s z g2 free
  have b1 := gn
  unfold bk at b1
  have lk1 : List.lookup ("take" : Str) [(("width" : Str), D.int (m : Int)), ("rows", .ref r)] = none := rfl
  have lk2 : List.lookup 0 [((0 : Nat), 11)] = some 11 := rfl
  have gf : ((st S b q2).set r (rwS R'))[fr]? = some (.lst (frD f m)) := by rw [List.getElem?_set_ne hrf.symm]; exact (st_ne hbf q2).trans hf
  have rp : RepOk 1 (z : Int) := ⟨by rw [Int.toNat_natCast]; show 1 * z ≤ 1000000; omega, by omega, by omega⟩
  have sl : SlsOk (s : Int) ((s : Int) + (z : Int)) m z := ⟨by omega, by omega, by omega, by show m + z ≤ 1000000; omega⟩
  have t1 : ((s : Int) + (z : Int)).toNat = s + z := by omega
  have fs := fr_splice f m s z false (by omega)
  have fl := frD_len f m
  refine ⟨q2, R', spl f s z false, some (.val, .int (s : Int)), some (.val, .int (z : Int)), ?_, ⟨K1.sep, fun c => (K1.isIn c).trans (spl_F f m s z c).symm⟩⟩
  rw [← sto_comm hbr hbf]
  unfold aE
  have hlen : R.length = (R.map hD).length := (List.length_map ..).symm
  rw [hlen] at e1
  generalize R.map hD = ds at *
  simp (implicitDefEqProofs := false) only [Int.cast_ofNat_Int, T, List.length_cons, List.length_nil, List.map_cons, List.map_nil, List.replicate, List.cons_append, List.nil_append, evSs, evS, evE, evL, evA, evP, itE, Out.bind, Out.then, OutL.bind, asgP, putS, onB, onS, lift, binR, addR, mulR, binD, cmpD, lstOf, lsqOf, seqOf, lenD, biV, on1, on2, Sr.intD, int2D, vI, vB, ixD, valO, argO, toVal, back1, orS, intV, celL, putC, putO, ownL, endF, tyD, srcM, srcO, walkOf, keyD, augD, Sr.part, pOk, bindP, bindPs, Option.map, List.getElem?_cons_zero, List.getElem?_cons_succ, List.set, List.length_set, ite_true, ite_false, reduceIte, Nat.reduceAdd, Nat.reduceSub, Nat.reduceLT, Nat.reduceEqDiff, Bool.false_eq_true, Bool.not_true, Bool.not_false, decide_true, decide_false, eqD_int, beq_iff_eq, beq_self_eq_true, Bool.not_eq_true', beq_eq_false_iff_ne, ne_eq, not_true_eq_false, not_false_eq_true, compO, compKO, vsOk, wipeD, back, List.all_cons, List.all_nil, List.foldl_cons, List.foldl_nil, Bool.and_true, Bool.true_and, Bool.and_self, Option.getD_some, Option.getD_none, decide_eq_true_eq, List.length_map, atI_0, atI_1, atI_2, lim0, lim1, lim2, lim3, lim4, lim5, lim6, lim7, lim8, lim9, lim10, lim11, lim12, set_last, get_last, eqD_pair, slV, rngL, and_self, true_and, and_true, isa_NoneType_bool, isa_NoneType_int, isa_NoneType_str, isa_NoneType_tuple, isa_NoneType_list, isa_NoneType_dict, isa_bool_bool, isa_bool_int, isa_bool_str, isa_bool_tuple, isa_bool_list, isa_bool_dict, isa_int_bool, isa_int_int, isa_int_str, isa_int_tuple, isa_int_list, isa_int_dict, isa_str_bool, isa_str_int, isa_str_str, isa_str_tuple, isa_str_list, isa_str_dict, isa_tuple_bool, isa_tuple_int, isa_tuple_str, isa_tuple_tuple, isa_tuple_list, isa_tuple_dict, isa_list_bool, isa_list_int, isa_list_str, isa_list_tuple, isa_list_list, isa_list_dict, isa_dict_bool, isa_dict_int, isa_dict_str, isa_dict_tuple, isa_dict_list, isa_dict_dict, ixN_30, ixN_31, ixN_32, aT, e1, a1, e2, hbs, b1, lk1, lk2, e3, gf, rp, Int.toNat_natCast, flat_v, lstD, fl, List.length_replicate, sl, t1, fs]
include hb hbn hbr hbf hrf hn hr hf K hm hbs in
theorem actF (hU : sc (fun c => !f c) m ≠ []) (q : Qx) (H : List Hl) (x13 x14 : Option Sl) : ∃ (q' : Qx) (R' : List Hl) (f' : Nat → Bool) (y13 y14 : Option Sl), evSs (callF T (k + 5)) aF ⟨aE x0 x1 x2 bs x4 x5 x6 x7 b w fr H (sc (fun c => !f c) m) x13 x14 x15, st S b q⟩ = .nx ⟨aE x0 x1 x2 bs x4 x5 x6 x7 b w fr H (sc (fun c => !f c) m) y13 y14 x15, st ((S.set r (rwS R')).set fr (.lst (frD f' m))) b q'⟩ ∧ Bk R' m fun c => c < m ∧ f' c = true := by
  have hsc := sc_in (fun c => !f c) m
  have hl := sc_len (fun c => !f c) m
  generalize sc (fun c => !f c) m = U at *
  have hp : 0 < U.length := List.length_pos_iff.mpr hU
  obtain ⟨i, q1, e1, h1⟩ := takeN (k + 4) b ((U.length : Nat) : Int) S hb q (by omega) (by omega)
  have hi : i < U.length := by omega
  have a1 := at_h hi
  generalize hx : U[i] = x at a1
  have xm : x ∈ U := by rw [← hx]; exact List.getElem_mem hi
  have xl := hsc x xm
  obtain ⟨s, z, q2, e2, g1, g2, g3⟩ := part (k + 3) b S hb q1 x.1 x.2 xl.1 (by omega)
  have tk : ∀ c, s ≤ c → c < s + z → ¬ (c < m ∧ f c = true) := fun c y1 y2 y => by
    have := xl.2.2 c (by omega) (by omega)
    rw [y.2] at this
    cases this
  have gn := (st_ne hbn q2).trans hn
  obtain ⟨R', e3, K1⟩ := bookGive (k + 1) n r m gn hm ((st_ne hbr q2).trans hr) K s z g2 (by omega) tk
  have b1 := gn
  unfold bk at b1
  have lk1 : List.lookup ("give" : Str) [(("width" : Str), D.int (m : Int)), ("rows", .ref r)] = none := rfl
  have lk2 : List.lookup 0 [((0 : Nat), 13)] = some 13 := rfl
  have gf : ((st S b q2).set r (rwS R'))[fr]? = some (.lst (frD f m)) := by rw [List.getElem?_set_ne hrf.symm]; exact (st_ne hbf q2).trans hf
  have rp : RepOk 1 (z : Int) := ⟨by rw [Int.toNat_natCast]; show 1 * z ≤ 1000000; omega, by omega, by omega⟩
  have sl : SlsOk (s : Int) ((s : Int) + (z : Int)) m z := ⟨by omega, by omega, by omega, by show m + z ≤ 1000000; omega⟩
  have t1 : ((s : Int) + (z : Int)).toNat = s + z := by omega
  have fs := fr_splice f m s z true (by omega)
  have fl := frD_len f m
  refine ⟨q2, R', spl f s z true, some (.val, .int (s : Int)), some (.val, .int (z : Int)), ?_, ⟨K1.sep, fun c => (K1.isIn c).trans (spl_T f m s z (by omega) c).symm⟩⟩
  rw [← sto_comm hbr hbf]
  unfold aE
  have hlen : U.length = (U.map hD).length := (List.length_map ..).symm
  rw [hlen] at e1
  generalize U.map hD = ds at *
  simp (implicitDefEqProofs := false) only [Int.cast_ofNat_Int, T, List.length_cons, List.length_nil, List.map_cons, List.map_nil, List.replicate, List.cons_append, List.nil_append, evSs, evS, evE, evL, evA, evP, itE, Out.bind, Out.then, OutL.bind, asgP, putS, onB, onS, lift, binR, addR, mulR, binD, cmpD, lstOf, lsqOf, seqOf, lenD, biV, on1, on2, Sr.intD, int2D, vI, vB, ixD, valO, argO, toVal, back1, orS, intV, celL, putC, putO, ownL, endF, tyD, srcM, srcO, walkOf, keyD, augD, Sr.part, pOk, bindP, bindPs, Option.map, List.getElem?_cons_zero, List.getElem?_cons_succ, List.set, List.length_set, ite_true, ite_false, reduceIte, Nat.reduceAdd, Nat.reduceSub, Nat.reduceLT, Nat.reduceEqDiff, Bool.false_eq_true, Bool.not_true, Bool.not_false, decide_true, decide_false, eqD_int, beq_iff_eq, beq_self_eq_true, Bool.not_eq_true', beq_eq_false_iff_ne, ne_eq, not_true_eq_false, not_false_eq_true, compO, compKO, vsOk, wipeD, back, List.all_cons, List.all_nil, List.foldl_cons, List.foldl_nil, Bool.and_true, Bool.true_and, Bool.and_self, Option.getD_some, Option.getD_none, decide_eq_true_eq, List.length_map, atI_0, atI_1, atI_2, lim0, lim1, lim2, lim3, lim4, lim5, lim6, lim7, lim8, lim9, lim10, lim11, lim12, set_last, get_last, eqD_pair, slV, rngL, and_self, true_and, and_true, isa_NoneType_bool, isa_NoneType_int, isa_NoneType_str, isa_NoneType_tuple, isa_NoneType_list, isa_NoneType_dict, isa_bool_bool, isa_bool_int, isa_bool_str, isa_bool_tuple, isa_bool_list, isa_bool_dict, isa_int_bool, isa_int_int, isa_int_str, isa_int_tuple, isa_int_list, isa_int_dict, isa_str_bool, isa_str_int, isa_str_str, isa_str_tuple, isa_str_list, isa_str_dict, isa_tuple_bool, isa_tuple_int, isa_tuple_str, isa_tuple_tuple, isa_tuple_list, isa_tuple_dict, isa_list_bool, isa_list_int, isa_list_str, isa_list_tuple, isa_list_list, isa_list_dict, isa_dict_bool, isa_dict_int, isa_dict_str, isa_dict_tuple, isa_dict_list, isa_dict_dict, ixN_30, ixN_31, ixN_32, aF, e1, a1, e2, hbs, b1, lk1, lk2, e3, gf, rp, Int.toNat_natCast, flat_v, lstD, fl, List.length_replicate, sl, t1, fs]
theorem runs_ne (f : Nat → Bool) (m : Nat) (hm : 1 ≤ m) (h : sc f m = []) : sc (fun c => !f c) m ≠ [] := by
  have e := sum_sc f m
  rw [h] at e
  have e0 : cnt f m = 0 := e.symm
  intro z
  have e2 := sum_sc (fun c => !f c) m
  rw [z] at e2
  have e3 : cnt (fun c => !f c) m = 0 := e2.symm
  unfold cnt at e0 e3
  have a1 := List.length_eq_zero_iff.mp e0
  have a2 := List.length_eq_zero_iff.mp e3
  have i1 := List.filter_eq_nil_iff.mp a1 0 (List.mem_range.mpr hm)
  have i2 := List.filter_eq_nil_iff.mp a2 0 (List.mem_range.mpr hm)
  cases q : f 0 <;> rw [q] at i1 i2 <;> simp at i1 i2
include hb hbn hbr hbf hrf hn hr hf K h16 hm hbs in
theorem act (q : Qx) (x13 x14 : Option Sl) : ∃ (q' : Qx) (R' : List Hl) (f' : Nat → Bool) (y13 y14 : Option Sl), evS (callF T (k + 5)) (.ite aC aT aF) ⟨aE x0 x1 x2 bs x4 x5 x6 x7 b w fr R (sc (fun c => !f c) m) x13 x14 x15, st S b q⟩ = .nx ⟨aE x0 x1 x2 bs x4 x5 x6 x7 b w fr R (sc (fun c => !f c) m) y13 y14 x15, st ((S.set r (rwS R')).set fr (.lst (frD f' m))) b q'⟩ ∧ Bk R' m fun c => c < m ∧ f' c = true := by
  obtain ⟨bb, q1, e1, h1, h2⟩ := condE k S b fr m hb R f K hm x0 x1 x2 bs x4 x5 x6 x7 w x15 x13 x14 q
  cases bb with
  | true =>
    obtain ⟨q', R', f', y13, y14, e2, K2⟩ := actT k S b n r fr m hb hbn hbr hbf hrf R f hn hr hf K hm x0 x1 x2 bs x4 x5 x6 x7 w hbs x15 (h1 rfl) q1 (sc (fun c => !f c) m) x13 x14
    exact ⟨q', R', f', y13, y14, (ite_t e1).trans e2, K2⟩
  | false =>
    have hU : sc (fun c => !f c) m ≠ [] := by
      by_cases hR : R = []
      · exact runs_ne f m (by omega) ((sc_is K).trans hR)
      · exact h2 rfl hR
    obtain ⟨q', R', f', y13, y14, e2, K2⟩ := actF k S b n r fr m hb hbn hbr hbf hrf R f hn hr hf K hm x0 x1 x2 bs x4 x5 x6 x7 w hbs x15 hU q1 R x13 x14
    exact ⟨q', R', f', y13, y14, (ite_f e1).trans e2, K2⟩
end
end Kx

namespace Kx
open PySem PySem.Spec PyProof.Rows L2 Sr
theorem runs (k r : Nat) (f : Nat → Bool) (m : Nat) (hm : m ≤ 240) (S : List Cell) (hS : S[r]? = some (.lst (frD f m))) : callF T (k + 2) 18 [(.val, .ref r)] S = .ok (.own, .lst ((sc (fun c => !f c) m).map hD)) S := by
  have key := compKL_map (n := r) (ds0 := frD f m) (vs := [1]) (p := .nm 1) (c := evE (callF T (k + 1)) yes) (e := evE (callF T (k + 1)) x18_0) (S := S) (env0 := [some (.val, .ref r), none]) hS (fun c => D.bl (f c)) (fun _ => true) (fun c => D.bl (!f c)) (List.range m) [] (fun c _ => by
    refine ⟨[some (.val, .ref r), some (.val, .bl (f c))], ?_, evE_yes _ _, rfl, fun _ => ⟨[some (.val, .ref r), some (.val, .bl (f c))], (.val, .bl (!f c)), ?_, rfl, rfl⟩⟩
    · simp (implicitDefEqProofs := false) only [Int.cast_ofNat_Int, T, List.length_cons, List.length_nil, List.map_cons, List.map_nil, List.replicate, List.cons_append, List.nil_append, evSs, evS, evE, evL, evA, evP, itE, Out.bind, Out.then, OutL.bind, asgP, putS, onB, onS, lift, binR, addR, mulR, binD, cmpD, lstOf, lsqOf, seqOf, lenD, biV, on1, on2, Sr.intD, int2D, vI, vB, ixD, valO, argO, toVal, back1, orS, intV, celL, putC, putO, ownL, endF, tyD, srcM, srcO, walkOf, keyD, augD, Sr.part, pOk, bindP, bindPs, Option.map, List.getElem?_cons_zero, List.getElem?_cons_succ, List.set, List.length_set, ite_true, ite_false, reduceIte, Nat.reduceAdd, Nat.reduceSub, Nat.reduceLT, Nat.reduceEqDiff, Bool.false_eq_true, Bool.not_true, Bool.not_false, decide_true, decide_false, eqD_int, beq_iff_eq, beq_self_eq_true, Bool.not_eq_true', beq_eq_false_iff_ne, ne_eq, not_true_eq_false, not_false_eq_true, compO, compKO, vsOk, wipeD, back, List.all_cons, List.all_nil, List.foldl_cons, List.foldl_nil, Bool.and_true, Bool.true_and, Bool.and_self, Option.getD_some, Option.getD_none, decide_eq_true_eq, List.length_map, atI_0, atI_1, atI_2, lim0, lim1, lim2, lim3, lim4, lim5, lim6, lim7, lim8, lim9, lim10, lim11, lim12, set_last, get_last, eqD_pair, slV, rngL, and_self, true_and, and_true, isa_NoneType_bool, isa_NoneType_int, isa_NoneType_str, isa_NoneType_tuple, isa_NoneType_list, isa_NoneType_dict, isa_bool_bool, isa_bool_int, isa_bool_str, isa_bool_tuple, isa_bool_list, isa_bool_dict, isa_int_bool, isa_int_int, isa_int_str, isa_int_tuple, isa_int_list, isa_int_dict, isa_str_bool, isa_str_int, isa_str_str, isa_str_tuple, isa_str_list, isa_str_dict, isa_tuple_bool, isa_tuple_int, isa_tuple_str, isa_tuple_tuple, isa_tuple_list, isa_tuple_dict, isa_list_bool, isa_list_int, isa_list_str, isa_list_tuple, isa_list_list, isa_list_dict, isa_dict_bool, isa_dict_int, isa_dict_str, isa_dict_tuple, isa_dict_list, isa_dict_dict, ixN_30, ixN_31, ixN_32]
    · cases q : f c <;> simp (implicitDefEqProofs := false) only [Int.cast_ofNat_Int, T, List.length_cons, List.length_nil, List.map_cons, List.map_nil, List.replicate, List.cons_append, List.nil_append, evSs, evS, evE, evL, evA, evP, itE, Out.bind, Out.then, OutL.bind, asgP, putS, onB, onS, lift, binR, addR, mulR, binD, cmpD, lstOf, lsqOf, seqOf, lenD, biV, on1, on2, Sr.intD, int2D, vI, vB, ixD, valO, argO, toVal, back1, orS, intV, celL, putC, putO, ownL, endF, tyD, srcM, srcO, walkOf, keyD, augD, Sr.part, pOk, bindP, bindPs, Option.map, List.getElem?_cons_zero, List.getElem?_cons_succ, List.set, List.length_set, ite_true, ite_false, reduceIte, Nat.reduceAdd, Nat.reduceSub, Nat.reduceLT, Nat.reduceEqDiff, Bool.false_eq_true, Bool.not_true, Bool.not_false, decide_true, decide_false, eqD_int, beq_iff_eq, beq_self_eq_true, Bool.not_eq_true', beq_eq_false_iff_ne, ne_eq, not_true_eq_false, not_false_eq_true, compO, compKO, vsOk, wipeD, back, List.all_cons, List.all_nil, List.foldl_cons, List.foldl_nil, Bool.and_true, Bool.true_and, Bool.and_self, Option.getD_some, Option.getD_none, decide_eq_true_eq, List.length_map, atI_0, atI_1, atI_2, lim0, lim1, lim2, lim3, lim4, lim5, lim6, lim7, lim8, lim9, lim10, lim11, lim12, set_last, get_last, eqD_pair, slV, rngL, and_self, true_and, and_true, isa_NoneType_bool, isa_NoneType_int, isa_NoneType_str, isa_NoneType_tuple, isa_NoneType_list, isa_NoneType_dict, isa_bool_bool, isa_bool_int, isa_bool_str, isa_bool_tuple, isa_bool_list, isa_bool_dict, isa_int_bool, isa_int_int, isa_int_str, isa_int_tuple, isa_int_list, isa_int_dict, isa_str_bool, isa_str_int, isa_str_str, isa_str_tuple, isa_str_list, isa_str_dict, isa_tuple_bool, isa_tuple_int, isa_tuple_str, isa_tuple_tuple, isa_tuple_list, isa_tuple_dict, isa_list_bool, isa_list_int, isa_list_str, isa_list_tuple, isa_list_list, isa_list_dict, isa_dict_bool, isa_dict_int, isa_dict_str, isa_dict_tuple, isa_dict_list, isa_dict_dict, ixN_30, ixN_31, ixN_32, x18_0]) (by rw [List.length_range]; show 0 + m ≤ 1000000; omega)
  rw [List.nil_append, List.filter_eq_self.mpr fun _ _ => rfl] at key
  have key' : compKL r (frD f m) [1] (.nm 1) (evE (callF T (k + 1)) yes) (evE (callF T (k + 1)) x18_0) (frD f m) [] ⟨[some (.val, .ref r), none], S⟩ = .ok (.own, .lst (frD (fun c => !f c) m)) ⟨[some (.val, .ref r), none], S⟩ := key
  have e := scanV k (fun c => !f c) m (by omega) S
  rw [callF_succ]; simp (implicitDefEqProofs := false) only [Int.cast_ofNat_Int, T, List.length_cons, List.length_nil, List.map_cons, List.map_nil, List.replicate, List.cons_append, List.nil_append, evSs, evS, evE, evL, evA, evP, itE, Out.bind, Out.then, OutL.bind, asgP, putS, onB, onS, lift, binR, addR, mulR, binD, cmpD, lstOf, lsqOf, seqOf, lenD, biV, on1, on2, Sr.intD, int2D, vI, vB, ixD, valO, argO, toVal, back1, orS, intV, celL, putC, putO, ownL, endF, tyD, srcM, srcO, walkOf, keyD, augD, Sr.part, pOk, bindP, bindPs, Option.map, List.getElem?_cons_zero, List.getElem?_cons_succ, List.set, List.length_set, ite_true, ite_false, reduceIte, Nat.reduceAdd, Nat.reduceSub, Nat.reduceLT, Nat.reduceEqDiff, Bool.false_eq_true, Bool.not_true, Bool.not_false, decide_true, decide_false, eqD_int, beq_iff_eq, beq_self_eq_true, Bool.not_eq_true', beq_eq_false_iff_ne, ne_eq, not_true_eq_false, not_false_eq_true, compO, compKO, vsOk, wipeD, back, List.all_cons, List.all_nil, List.foldl_cons, List.foldl_nil, Bool.and_true, Bool.true_and, Bool.and_self, Option.getD_some, Option.getD_none, decide_eq_true_eq, List.length_map, atI_0, atI_1, atI_2, lim0, lim1, lim2, lim3, lim4, lim5, lim6, lim7, lim8, lim9, lim10, lim11, lim12, set_last, get_last, eqD_pair, slV, rngL, and_self, true_and, and_true, isa_NoneType_bool, isa_NoneType_int, isa_NoneType_str, isa_NoneType_tuple, isa_NoneType_list, isa_NoneType_dict, isa_bool_bool, isa_bool_int, isa_bool_str, isa_bool_tuple, isa_bool_list, isa_bool_dict, isa_int_bool, isa_int_int, isa_int_str, isa_int_tuple, isa_int_list, isa_int_dict, isa_str_bool, isa_str_int, isa_str_str, isa_str_tuple, isa_str_list, isa_str_dict, isa_tuple_bool, isa_tuple_int, isa_tuple_str, isa_tuple_tuple, isa_tuple_list, isa_tuple_dict, isa_list_bool, isa_list_int, isa_list_str, isa_list_tuple, isa_list_list, isa_list_dict, isa_dict_bool, isa_dict_int, isa_dict_str, isa_dict_tuple, isa_dict_list, isa_dict_dict, ixN_30, ixN_31, ixN_32, b18, e18_1, hS, key', e]
theorem get_app {S : List Cell} {n : Nat} {c d : Cell} (h : S[n]? = some c) : (S ++ [d])[n]? = some c := by
  rw [List.getElem?_append_left (List.getElem?_eq_some_iff.mp h).1]; exact h
theorem lt_of_get {S : List Cell} {n : Nat} {c : Cell} (h : S[n]? = some c) : n < S.length := (List.getElem?_eq_some_iff.mp h).1
theorem st_end (S : List Cell) (r fr : Nat) (hr : r < S.length) (hf : fr < S.length) (x y : Cell) (q q' : Qx) : st (((S ++ [bx q]).set r x).set fr y) S.length q' = (S.set r x).set fr y ++ [bx q'] := by
  unfold st
  rw [List.set_append_left _ _ hr, List.set_append_left _ _ (by rw [List.length_set]; exact hf), List.set_append_right _ _ (by rw [List.length_set, List.length_set]; exact Nat.le_refl _)]
  rw [List.length_set, List.length_set, Nat.sub_self]
  rfl
section
variable (k : Nat) (ns : List Int) (t : Nat) (S : List Cell) (w n r fr m : Nat) (R : List Hl) (f : Nat → Bool) (hn : S[n]? = some (bk m r)) (hr : S[r]? = some (rwS R)) (hf : S[fr]? = some (.lst (frD f m))) (K : Bk R m fun c => c < m ∧ f c = true) (h16 : 16 ≤ m) (hm : m ≤ 240) (hnr : n ≠ r) (hnf : n ≠ fr) (hrf : fr ≠ r)
  (n' r' fr' m' : Nat) (R' : List Hl) (f' : Nat → Bool) (hn' : S[n']? = some (bk m' r')) (hr' : S[r']? = some (rwS R')) (hf' : S[fr']? = some (.lst (frD f' m'))) (K' : Bk R' m' fun c => c < m' ∧ f' c = true) (h16' : 16 ≤ m') (hm' : m' ≤ 240)
  (d1 : n' ≠ r) (d2 : n' ≠ fr) (d3 : r' ≠ r) (d4 : r' ≠ fr) (d5 : fr' ≠ r) (d6 : fr' ≠ fr)
  (bs fs : List D) (hbs : atI bs (w : Int) = some (.ref n)) (hbs' : atI bs ((1 : Int) - (w : Int)) = some (.ref n')) (hfs : atI fs (w : Int) = some (.ref fr)) (hfs' : atI fs ((1 : Int) - (w : Int)) = some (.ref fr'))
include hn hr hf K h16 hm hnr hnf hrf hn' hr' hf' K' h16' hm' d1 d2 d3 d4 d5 d6 hbs hbs' hfs hfs'
theorem turnW (hw : w = 0 ∨ w = 1) (q0 q1 : Qx) (b : Nat) (hb : b = S.length) (x0 x1 x2 x4 x6 x7 x10 x11 x12 x13 x14 x15 : Option Sl) :
    ∃ (q' : Qx) (R1 : List Hl) (f1 : Nat → Bool) (y13 y14 y15 : Option Sl),
      evSs (callF T (k + 6)) (.cons (.asg (.nm 10) (.ix (.pk 5) (.pk 9))) (.cons (.asg (.nm 11) (.call 17 (.cons (.pk 10) .nil))) (.cons (.asg (.nm 12) (.call 18 (.cons (.pk 10) .nil))) (.cons (.ite aC aT aF) (.cons (.forS (.nm 15) (.seq (.lst (.cons (.var 9) (.cons (.bin .sub (.con (.int 1)) (.pk 9)) .nil)))) l23_0) .nil)))))
        ⟨[x0, x1, x2, some (.own, .lst bs), x4, some (.own, .lst fs), x6, x7, some (.val, .ref b), some (.val, .int (w : Int)), x10, x11, x12, x13, x14, x15], S ++ [bx q1]⟩
      = .nx ⟨[x0, x1, x2, some (.own, .lst bs), x4, some (.own, .lst fs), x6, x7, some (.val, .ref b), some (.val, .int (w : Int)), some (.val, .ref fr), some (.own, .lst (R.map hD)), some (.own, .lst ((sc (fun c => !f c) m).map hD)), y13, y14, y15], (S.set r (rwS R1)).set fr (.lst (frD f1 m)) ++ [bx q']⟩ ∧ Bk R1 m fun c => c < m ∧ f1 c = true := by
  subst hb
  have ln := lt_of_get hn
  have lr := lt_of_get hr
  have lf := lt_of_get hf
  have ln' := lt_of_get hn'
  have lr' := lt_of_get hr'
  have lf' := lt_of_get hf'
  have hbx : S.length < (S ++ [bx q1]).length := by rw [List.length_append]; simp
  have es : st (S ++ [bx q1]) S.length q1 = S ++ [bx q1] := by unfold st; rw [set_last]
  have e1 := scanR (k + 5) fr f m (by omega) (S ++ [bx q1]) (get_app hf)
  rw [sc_is K] at e1
  have e2 := runs (k + 4) fr f m hm (S ++ [bx q1]) (get_app hf)
  obtain ⟨q2, R1, f1, y13, y14, e3, K1⟩ := act (k + 1) (S ++ [bx q1]) S.length n r fr m hbx (by omega) (by omega) (by omega) hrf R f (get_app hn) (get_app hr) (get_app hf) K h16 hm x0 x1 x2 bs x4 (some (.own, .lst fs)) x6 x7 w hbs x15 q1 x13 x14
  rw [es] at e3
  generalize hS2 : ((S ++ [bx q1]).set r (rwS R1)).set fr (.lst (frD f1 m)) = S2 at e3
  have l2 : S2.length = S.length + 1 := by rw [← hS2, List.length_set, List.length_set, List.length_append]; rfl
  have g1 : S2[n]? = some (bk m r) := by rw [← hS2, List.getElem?_set_ne hnf.symm, List.getElem?_set_ne hnr.symm]; exact get_app hn
  have g2 : S2[r]? = some (rwS R1) := by rw [← hS2, List.getElem?_set_ne hrf, List.getElem?_set_self (by rw [List.length_append]; omega)]
  have g3 : S2[fr]? = some (.lst (frD f1 m)) := by rw [← hS2, List.getElem?_set_self (by rw [List.length_set, List.length_append]; omega)]
  have g1' : S2[n']? = some (bk m' r') := by rw [← hS2, List.getElem?_set_ne d2.symm, List.getElem?_set_ne d1.symm]; exact get_app hn'
  have g2' : S2[r']? = some (rwS R') := by rw [← hS2, List.getElem?_set_ne d4.symm, List.getElem?_set_ne d3.symm]; exact get_app hr'
  have g3' : S2[fr']? = some (.lst (frD f' m')) := by rw [← hS2, List.getElem?_set_ne d6.symm, List.getElem?_set_ne d5.symm]; exact get_app hf'
  obtain ⟨q3, e4⟩ := right k S2 S.length n r fr m (by omega) (by omega) (by omega) (by omega) R1 f1 g1 g2 g3 K1 h16 hm q2
  obtain ⟨q4, e5⟩ := right k S2 S.length n' r' fr' m' (by omega) (by omega) (by omega) (by omega) R' f' g1' g2' g3' K' h16' hm' q3
  have eend : st S2 S.length q4 = (S.set r (rwS R1)).set fr (.lst (frD f1 m)) ++ [bx q4] := by rw [← hS2]; exact st_end S r fr lr lf _ _ q1 q4
  refine ⟨q4, R1, f1, y13, y14, some (.val, .int ((1 : Int) - (w : Int))), ?_, K1⟩
  rw [← eend]
  unfold aE at e3
  refine Eq.trans (ss_go (s1 := ⟨[x0, x1, x2, some (.own, .lst bs), x4, some (.own, .lst fs), x6, x7, some (.val, .ref S.length), some (.val, .int (w : Int)), some (.val, .ref fr), x11, x12, x13, x14, x15], S ++ [bx q1]⟩) ?_) ?_
  · simp (implicitDefEqProofs := false) only [Int.cast_ofNat_Int, T, List.length_cons, List.length_nil, List.map_cons, List.map_nil, List.replicate, List.cons_append, List.nil_append, evSs, evS, evE, evL, evA, evP, itE, Out.bind, Out.then, OutL.bind, asgP, putS, onB, onS, lift, binR, addR, mulR, binD, cmpD, lstOf, lsqOf, seqOf, lenD, biV, on1, on2, Sr.intD, int2D, vI, vB, ixD, valO, argO, toVal, back1, orS, intV, celL, putC, putO, ownL, endF, tyD, srcM, srcO, walkOf, keyD, augD, Sr.part, pOk, bindP, bindPs, Option.map, List.getElem?_cons_zero, List.getElem?_cons_succ, List.set, List.length_set, ite_true, ite_false, reduceIte, Nat.reduceAdd, Nat.reduceSub, Nat.reduceLT, Nat.reduceEqDiff, Bool.false_eq_true, Bool.not_true, Bool.not_false, decide_true, decide_false, eqD_int, beq_iff_eq, beq_self_eq_true, Bool.not_eq_true', beq_eq_false_iff_ne, ne_eq, not_true_eq_false, not_false_eq_true, compO, compKO, vsOk, wipeD, back, List.all_cons, List.all_nil, List.foldl_cons, List.foldl_nil, Bool.and_true, Bool.true_and, Bool.and_self, Option.getD_some, Option.getD_none, decide_eq_true_eq, List.length_map, atI_0, atI_1, atI_2, lim0, lim1, lim2, lim3, lim4, lim5, lim6, lim7, lim8, lim9, lim10, lim11, lim12, set_last, get_last, eqD_pair, slV, rngL, and_self, true_and, and_true, isa_NoneType_bool, isa_NoneType_int, isa_NoneType_str, isa_NoneType_tuple, isa_NoneType_list, isa_NoneType_dict, isa_bool_bool, isa_bool_int, isa_bool_str, isa_bool_tuple, isa_bool_list, isa_bool_dict, isa_int_bool, isa_int_int, isa_int_str, isa_int_tuple, isa_int_list, isa_int_dict, isa_str_bool, isa_str_int, isa_str_str, isa_str_tuple, isa_str_list, isa_str_dict, isa_tuple_bool, isa_tuple_int, isa_tuple_str, isa_tuple_tuple, isa_tuple_list, isa_tuple_dict, isa_list_bool, isa_list_int, isa_list_str, isa_list_tuple, isa_list_list, isa_list_dict, isa_dict_bool, isa_dict_int, isa_dict_str, isa_dict_tuple, isa_dict_list, isa_dict_dict, ixN_30, ixN_31, ixN_32, hfs]
  refine Eq.trans (ss_go (s1 := ⟨[x0, x1, x2, some (.own, .lst bs), x4, some (.own, .lst fs), x6, x7, some (.val, .ref S.length), some (.val, .int (w : Int)), some (.val, .ref fr), some (.own, .lst (R.map hD)), x12, x13, x14, x15], S ++ [bx q1]⟩) ?_) ?_
  · simp (implicitDefEqProofs := false) only [Int.cast_ofNat_Int, T, List.length_cons, List.length_nil, List.map_cons, List.map_nil, List.replicate, List.cons_append, List.nil_append, evSs, evS, evE, evL, evA, evP, itE, Out.bind, Out.then, OutL.bind, asgP, putS, onB, onS, lift, binR, addR, mulR, binD, cmpD, lstOf, lsqOf, seqOf, lenD, biV, on1, on2, Sr.intD, int2D, vI, vB, ixD, valO, argO, toVal, back1, orS, intV, celL, putC, putO, ownL, endF, tyD, srcM, srcO, walkOf, keyD, augD, Sr.part, pOk, bindP, bindPs, Option.map, List.getElem?_cons_zero, List.getElem?_cons_succ, List.set, List.length_set, ite_true, ite_false, reduceIte, Nat.reduceAdd, Nat.reduceSub, Nat.reduceLT, Nat.reduceEqDiff, Bool.false_eq_true, Bool.not_true, Bool.not_false, decide_true, decide_false, eqD_int, beq_iff_eq, beq_self_eq_true, Bool.not_eq_true', beq_eq_false_iff_ne, ne_eq, not_true_eq_false, not_false_eq_true, compO, compKO, vsOk, wipeD, back, List.all_cons, List.all_nil, List.foldl_cons, List.foldl_nil, Bool.and_true, Bool.true_and, Bool.and_self, Option.getD_some, Option.getD_none, decide_eq_true_eq, List.length_map, atI_0, atI_1, atI_2, lim0, lim1, lim2, lim3, lim4, lim5, lim6, lim7, lim8, lim9, lim10, lim11, lim12, set_last, get_last, eqD_pair, slV, rngL, and_self, true_and, and_true, isa_NoneType_bool, isa_NoneType_int, isa_NoneType_str, isa_NoneType_tuple, isa_NoneType_list, isa_NoneType_dict, isa_bool_bool, isa_bool_int, isa_bool_str, isa_bool_tuple, isa_bool_list, isa_bool_dict, isa_int_bool, isa_int_int, isa_int_str, isa_int_tuple, isa_int_list, isa_int_dict, isa_str_bool, isa_str_int, isa_str_str, isa_str_tuple, isa_str_list, isa_str_dict, isa_tuple_bool, isa_tuple_int, isa_tuple_str, isa_tuple_tuple, isa_tuple_list, isa_tuple_dict, isa_list_bool, isa_list_int, isa_list_str, isa_list_tuple, isa_list_list, isa_list_dict, isa_dict_bool, isa_dict_int, isa_dict_str, isa_dict_tuple, isa_dict_list, isa_dict_dict, ixN_30, ixN_31, ixN_32, e1]
  refine Eq.trans (ss_go (s1 := ⟨[x0, x1, x2, some (.own, .lst bs), x4, some (.own, .lst fs), x6, x7, some (.val, .ref S.length), some (.val, .int (w : Int)), some (.val, .ref fr), some (.own, .lst (R.map hD)), some (.own, .lst ((sc (fun c => !f c) m).map hD)), x13, x14, x15], S ++ [bx q1]⟩) ?_) ?_
  · simp (implicitDefEqProofs := false) only [Int.cast_ofNat_Int, T, List.length_cons, List.length_nil, List.map_cons, List.map_nil, List.replicate, List.cons_append, List.nil_append, evSs, evS, evE, evL, evA, evP, itE, Out.bind, Out.then, OutL.bind, asgP, putS, onB, onS, lift, binR, addR, mulR, binD, cmpD, lstOf, lsqOf, seqOf, lenD, biV, on1, on2, Sr.intD, int2D, vI, vB, ixD, valO, argO, toVal, back1, orS, intV, celL, putC, putO, ownL, endF, tyD, srcM, srcO, walkOf, keyD, augD, Sr.part, pOk, bindP, bindPs, Option.map, List.getElem?_cons_zero, List.getElem?_cons_succ, List.set, List.length_set, ite_true, ite_false, reduceIte, Nat.reduceAdd, Nat.reduceSub, Nat.reduceLT, Nat.reduceEqDiff, Bool.false_eq_true, Bool.not_true, Bool.not_false, decide_true, decide_false, eqD_int, beq_iff_eq, beq_self_eq_true, Bool.not_eq_true', beq_eq_false_iff_ne, ne_eq, not_true_eq_false, not_false_eq_true, compO, compKO, vsOk, wipeD, back, List.all_cons, List.all_nil, List.foldl_cons, List.foldl_nil, Bool.and_true, Bool.true_and, Bool.and_self, Option.getD_some, Option.getD_none, decide_eq_true_eq, List.length_map, atI_0, atI_1, atI_2, lim0, lim1, lim2, lim3, lim4, lim5, lim6, lim7, lim8, lim9, lim10, lim11, lim12, set_last, get_last, eqD_pair, slV, rngL, and_self, true_and, and_true, isa_NoneType_bool, isa_NoneType_int, isa_NoneType_str, isa_NoneType_tuple, isa_NoneType_list, isa_NoneType_dict, isa_bool_bool, isa_bool_int, isa_bool_str, isa_bool_tuple, isa_bool_list, isa_bool_dict, isa_int_bool, isa_int_int, isa_int_str, isa_int_tuple, isa_int_list, isa_int_dict, isa_str_bool, isa_str_int, isa_str_str, isa_str_tuple, isa_str_list, isa_str_dict, isa_tuple_bool, isa_tuple_int, isa_tuple_str, isa_tuple_tuple, isa_tuple_list, isa_tuple_dict, isa_list_bool, isa_list_int, isa_list_str, isa_list_tuple, isa_list_list, isa_list_dict, isa_dict_bool, isa_dict_int, isa_dict_str, isa_dict_tuple, isa_dict_list, isa_dict_dict, ixN_30, ixN_31, ixN_32, e2]
  refine Eq.trans (ss_go e3) ?_
  have step : ∀ (qa qb : Qx) (i : Int) (nn ff : Nat) (y15 : Option Sl), atI bs i = some (.ref nn) → atI fs i = some (.ref ff) → callF T (k + 6) 22 [(.val, .ref S.length), (.val, .ref nn), (.val, .ref ff)] (st S2 S.length qa) = .ok (.val, .bl true) (st S2 S.length qb) →
      evSs (callF T (k + 6)) l23_0 ⟨[x0, x1, x2, some (.own, .lst bs), x4, some (.own, .lst fs), x6, x7, some (.val, .ref S.length), some (.val, .int (w : Int)), some (.val, .ref fr), some (.own, .lst (R.map hD)), some (.own, .lst ((sc (fun c => !f c) m).map hD)), y13, y14, some (.val, .int i)], st S2 S.length qa⟩ = .nx ⟨[x0, x1, x2, some (.own, .lst bs), x4, some (.own, .lst fs), x6, x7, some (.val, .ref S.length), some (.val, .int (w : Int)), some (.val, .ref fr), some (.own, .lst (R.map hD)), some (.own, .lst ((sc (fun c => !f c) m).map hD)), y13, y14, some (.val, .int i)], st S2 S.length qb⟩ := fun qa qb i nn ff y15 a1 a2 a3 => by
    simp (implicitDefEqProofs := false) only [Int.cast_ofNat_Int, T, List.length_cons, List.length_nil, List.map_cons, List.map_nil, List.replicate, List.cons_append, List.nil_append, evSs, evS, evE, evL, evA, evP, itE, Out.bind, Out.then, OutL.bind, asgP, putS, onB, onS, lift, binR, addR, mulR, binD, cmpD, lstOf, lsqOf, seqOf, lenD, biV, on1, on2, Sr.intD, int2D, vI, vB, ixD, valO, argO, toVal, back1, orS, intV, celL, putC, putO, ownL, endF, tyD, srcM, srcO, walkOf, keyD, augD, Sr.part, pOk, bindP, bindPs, Option.map, List.getElem?_cons_zero, List.getElem?_cons_succ, List.set, List.length_set, ite_true, ite_false, reduceIte, Nat.reduceAdd, Nat.reduceSub, Nat.reduceLT, Nat.reduceEqDiff, Bool.false_eq_true, Bool.not_true, Bool.not_false, decide_true, decide_false, eqD_int, beq_iff_eq, beq_self_eq_true, Bool.not_eq_true', beq_eq_false_iff_ne, ne_eq, not_true_eq_false, not_false_eq_true, compO, compKO, vsOk, wipeD, back, List.all_cons, List.all_nil, List.foldl_cons, List.foldl_nil, Bool.and_true, Bool.true_and, Bool.and_self, Option.getD_some, Option.getD_none, decide_eq_true_eq, List.length_map, atI_0, atI_1, atI_2, lim0, lim1, lim2, lim3, lim4, lim5, lim6, lim7, lim8, lim9, lim10, lim11, lim12, set_last, get_last, eqD_pair, slV, rngL, and_self, true_and, and_true, isa_NoneType_bool, isa_NoneType_int, isa_NoneType_str, isa_NoneType_tuple, isa_NoneType_list, isa_NoneType_dict, isa_bool_bool, isa_bool_int, isa_bool_str, isa_bool_tuple, isa_bool_list, isa_bool_dict, isa_int_bool, isa_int_int, isa_int_str, isa_int_tuple, isa_int_list, isa_int_dict, isa_str_bool, isa_str_int, isa_str_str, isa_str_tuple, isa_str_list, isa_str_dict, isa_tuple_bool, isa_tuple_int, isa_tuple_str, isa_tuple_tuple, isa_tuple_list, isa_tuple_dict, isa_list_bool, isa_list_int, isa_list_str, isa_list_tuple, isa_list_list, isa_list_dict, isa_dict_bool, isa_dict_int, isa_dict_str, isa_dict_tuple, isa_dict_list, isa_dict_dict, ixN_30, ixN_31, ixN_32, l23_0, a1, a2, a3]
  have lp : forL (.nm 15) (evSs (callF T (k + 6)) l23_0) [.int (w : Int), .int ((1 : Int) - (w : Int))] ⟨[x0, x1, x2, some (.own, .lst bs), x4, some (.own, .lst fs), x6, x7, some (.val, .ref S.length), some (.val, .int (w : Int)), some (.val, .ref fr), some (.own, .lst (R.map hD)), some (.own, .lst ((sc (fun c => !f c) m).map hD)), y13, y14, x15], st S2 S.length q2⟩ = .nx ⟨[x0, x1, x2, some (.own, .lst bs), x4, some (.own, .lst fs), x6, x7, some (.val, .ref S.length), some (.val, .int (w : Int)), some (.val, .ref fr), some (.own, .lst (R.map hD)), some (.own, .lst ((sc (fun c => !f c) m).map hD)), y13, y14, some (.val, .int ((1 : Int) - (w : Int)))], st S2 S.length q4⟩ := by
    refine (for_go ?_ (step q2 q3 (w : Int) n fr x15 hbs hfs e4)).trans ?_
    · simp (implicitDefEqProofs := false) only [Int.cast_ofNat_Int, T, List.length_cons, List.length_nil, List.map_cons, List.map_nil, List.replicate, List.cons_append, List.nil_append, evSs, evS, evE, evL, evA, evP, itE, Out.bind, Out.then, OutL.bind, asgP, putS, onB, onS, lift, binR, addR, mulR, binD, cmpD, lstOf, lsqOf, seqOf, lenD, biV, on1, on2, Sr.intD, int2D, vI, vB, ixD, valO, argO, toVal, back1, orS, intV, celL, putC, putO, ownL, endF, tyD, srcM, srcO, walkOf, keyD, augD, Sr.part, pOk, bindP, bindPs, Option.map, List.getElem?_cons_zero, List.getElem?_cons_succ, List.set, List.length_set, ite_true, ite_false, reduceIte, Nat.reduceAdd, Nat.reduceSub, Nat.reduceLT, Nat.reduceEqDiff, Bool.false_eq_true, Bool.not_true, Bool.not_false, decide_true, decide_false, eqD_int, beq_iff_eq, beq_self_eq_true, Bool.not_eq_true', beq_eq_false_iff_ne, ne_eq, not_true_eq_false, not_false_eq_true, compO, compKO, vsOk, wipeD, back, List.all_cons, List.all_nil, List.foldl_cons, List.foldl_nil, Bool.and_true, Bool.true_and, Bool.and_self, Option.getD_some, Option.getD_none, decide_eq_true_eq, List.length_map, atI_0, atI_1, atI_2, lim0, lim1, lim2, lim3, lim4, lim5, lim6, lim7, lim8, lim9, lim10, lim11, lim12, set_last, get_last, eqD_pair, slV, rngL, and_self, true_and, and_true, isa_NoneType_bool, isa_NoneType_int, isa_NoneType_str, isa_NoneType_tuple, isa_NoneType_list, isa_NoneType_dict, isa_bool_bool, isa_bool_int, isa_bool_str, isa_bool_tuple, isa_bool_list, isa_bool_dict, isa_int_bool, isa_int_int, isa_int_str, isa_int_tuple, isa_int_list, isa_int_dict, isa_str_bool, isa_str_int, isa_str_str, isa_str_tuple, isa_str_list, isa_str_dict, isa_tuple_bool, isa_tuple_int, isa_tuple_str, isa_tuple_tuple, isa_tuple_list, isa_tuple_dict, isa_list_bool, isa_list_int, isa_list_str, isa_list_tuple, isa_list_list, isa_list_dict, isa_dict_bool, isa_dict_int, isa_dict_str, isa_dict_tuple, isa_dict_list, isa_dict_dict, ixN_30, ixN_31, ixN_32]
    refine (for_go ?_ (step q3 q4 ((1 : Int) - (w : Int)) n' fr' x15 hbs' hfs' e5)).trans ?_
    · simp (implicitDefEqProofs := false) only [Int.cast_ofNat_Int, T, List.length_cons, List.length_nil, List.map_cons, List.map_nil, List.replicate, List.cons_append, List.nil_append, evSs, evS, evE, evL, evA, evP, itE, Out.bind, Out.then, OutL.bind, asgP, putS, onB, onS, lift, binR, addR, mulR, binD, cmpD, lstOf, lsqOf, seqOf, lenD, biV, on1, on2, Sr.intD, int2D, vI, vB, ixD, valO, argO, toVal, back1, orS, intV, celL, putC, putO, ownL, endF, tyD, srcM, srcO, walkOf, keyD, augD, Sr.part, pOk, bindP, bindPs, Option.map, List.getElem?_cons_zero, List.getElem?_cons_succ, List.set, List.length_set, ite_true, ite_false, reduceIte, Nat.reduceAdd, Nat.reduceSub, Nat.reduceLT, Nat.reduceEqDiff, Bool.false_eq_true, Bool.not_true, Bool.not_false, decide_true, decide_false, eqD_int, beq_iff_eq, beq_self_eq_true, Bool.not_eq_true', beq_eq_false_iff_ne, ne_eq, not_true_eq_false, not_false_eq_true, compO, compKO, vsOk, wipeD, back, List.all_cons, List.all_nil, List.foldl_cons, List.foldl_nil, Bool.and_true, Bool.true_and, Bool.and_self, Option.getD_some, Option.getD_none, decide_eq_true_eq, List.length_map, atI_0, atI_1, atI_2, lim0, lim1, lim2, lim3, lim4, lim5, lim6, lim7, lim8, lim9, lim10, lim11, lim12, set_last, get_last, eqD_pair, slV, rngL, and_self, true_and, and_true, isa_NoneType_bool, isa_NoneType_int, isa_NoneType_str, isa_NoneType_tuple, isa_NoneType_list, isa_NoneType_dict, isa_bool_bool, isa_bool_int, isa_bool_str, isa_bool_tuple, isa_bool_list, isa_bool_dict, isa_int_bool, isa_int_int, isa_int_str, isa_int_tuple, isa_int_list, isa_int_dict, isa_str_bool, isa_str_int, isa_str_str, isa_str_tuple, isa_str_list, isa_str_dict, isa_tuple_bool, isa_tuple_int, isa_tuple_str, isa_tuple_tuple, isa_tuple_list, isa_tuple_dict, isa_list_bool, isa_list_int, isa_list_str, isa_list_tuple, isa_list_list, isa_list_dict, isa_dict_bool, isa_dict_int, isa_dict_str, isa_dict_tuple, isa_dict_list, isa_dict_dict, ixN_30, ixN_31, ixN_32]
    exact for_end
  simp (implicitDefEqProofs := false) only [Int.cast_ofNat_Int, T, List.length_cons, List.length_nil, List.map_cons, List.map_nil, List.replicate, List.cons_append, List.nil_append, evSs, evS, evE, evL, evA, evP, itE, Out.bind, Out.then, OutL.bind, asgP, putS, onB, onS, lift, binR, addR, mulR, binD, cmpD, lstOf, lsqOf, seqOf, lenD, biV, on1, on2, Sr.intD, int2D, vI, vB, ixD, valO, argO, toVal, back1, orS, intV, celL, putC, putO, ownL, endF, tyD, srcM, srcO, walkOf, keyD, augD, Sr.part, pOk, bindP, bindPs, Option.map, List.getElem?_cons_zero, List.getElem?_cons_succ, List.set, List.length_set, ite_true, ite_false, reduceIte, Nat.reduceAdd, Nat.reduceSub, Nat.reduceLT, Nat.reduceEqDiff, Bool.false_eq_true, Bool.not_true, Bool.not_false, decide_true, decide_false, eqD_int, beq_iff_eq, beq_self_eq_true, Bool.not_eq_true', beq_eq_false_iff_ne, ne_eq, not_true_eq_false, not_false_eq_true, compO, compKO, vsOk, wipeD, back, List.all_cons, List.all_nil, List.foldl_cons, List.foldl_nil, Bool.and_true, Bool.true_and, Bool.and_self, Option.getD_some, Option.getD_none, decide_eq_true_eq, List.length_map, atI_0, atI_1, atI_2, lim0, lim1, lim2, lim3, lim4, lim5, lim6, lim7, lim8, lim9, lim10, lim11, lim12, set_last, get_last, eqD_pair, slV, rngL, and_self, true_and, and_true, isa_NoneType_bool, isa_NoneType_int, isa_NoneType_str, isa_NoneType_tuple, isa_NoneType_list, isa_NoneType_dict, isa_bool_bool, isa_bool_int, isa_bool_str, isa_bool_tuple, isa_bool_list, isa_bool_dict, isa_int_bool, isa_int_int, isa_int_str, isa_int_tuple, isa_int_list, isa_int_dict, isa_str_bool, isa_str_int, isa_str_str, isa_str_tuple, isa_str_list, isa_str_dict, isa_tuple_bool, isa_tuple_int, isa_tuple_str, isa_tuple_tuple, isa_tuple_list, isa_tuple_dict, isa_list_bool, isa_list_int, isa_list_str, isa_list_tuple, isa_list_list, isa_list_dict, isa_dict_bool, isa_dict_int, isa_dict_str, isa_dict_tuple, isa_dict_list, isa_dict_dict, ixN_30, ixN_31, ixN_32, lp]
end
end Kx

namespace Kx
open PySem PySem.Spec PyProof.Rows L2 Sr
theorem rngF : ∀ m : Fin 241, Builtin.Range.small 0 ((m.val : Nat) : Int) 2 = true ∧ Builtin.Range.rangeSize 0 ((m.val : Nat) : Int) 2 = (((m.val + 1) / 2 : Nat) : Int) := by decide +kernel
theorem rngE (m : Nat) (h : m ≤ 240) : RngC 0 (m : Int) 2 ∧ (Builtin.Range.rangeSize 0 (m : Int) 2).toNat = (m + 1) / 2 := by
  obtain ⟨h1, h2⟩ := rngF ⟨m, by omega⟩
  dsimp only at h1 h2
  exact ⟨⟨by decide, by decide, h1, by rw [h2]; rfl⟩, by rw [h2]; rfl⟩
structure J (S : List Cell) (m0 m1 : Nat) (R0 R1 : List Hl) (f0 f1 : Nat → Bool) : Prop where
  len : 7 ≤ S.length
  a1 : S[1]? = some (bk m0 2)
  a2 : S[2]? = some (rwS R0)
  a3 : S[3]? = some (bk m1 4)
  a4 : S[4]? = some (rwS R1)
  a5 : S[5]? = some (.lst (frD f0 m0))
  a6 : S[6]? = some (.lst (frD f1 m1))
  k0 : Bk R0 m0 fun c => c < m0 ∧ f0 c = true
  k1 : Bk R1 m1 fun c => c < m1 ∧ f1 c = true
theorem J.set0 {S : List Cell} {m0 m1 : Nat} {R0 R1 R : List Hl} {f0 f1 f : Nat → Bool} (j : J S m0 m1 R0 R1 f0 f1) (K : Bk R m0 fun c => c < m0 ∧ f c = true) : J ((S.set 2 (rwS R)).set 5 (.lst (frD f m0))) m0 m1 R R1 f f1 := by
  have := j.len
  refine ⟨by rw [List.length_set, List.length_set]; exact j.len, ?_, ?_, ?_, ?_, ?_, ?_, K, j.k1⟩
  · rw [List.getElem?_set_ne (by decide), List.getElem?_set_ne (by decide)]; exact j.a1
  · rw [List.getElem?_set_ne (by decide), List.getElem?_set_self (by omega)]
  · rw [List.getElem?_set_ne (by decide), List.getElem?_set_ne (by decide)]; exact j.a3
  · rw [List.getElem?_set_ne (by decide), List.getElem?_set_ne (by decide)]; exact j.a4
  · rw [List.getElem?_set_self (by rw [List.length_set]; omega)]
  · rw [List.getElem?_set_ne (by decide), List.getElem?_set_ne (by decide)]; exact j.a6
theorem J.set1 {S : List Cell} {m0 m1 : Nat} {R0 R1 R : List Hl} {f0 f1 f : Nat → Bool} (j : J S m0 m1 R0 R1 f0 f1) (K : Bk R m1 fun c => c < m1 ∧ f c = true) : J ((S.set 4 (rwS R)).set 6 (.lst (frD f m1))) m0 m1 R0 R f0 f := by
  have := j.len
  refine ⟨by rw [List.length_set, List.length_set]; exact j.len, ?_, ?_, ?_, ?_, ?_, ?_, j.k0, K⟩
  · rw [List.getElem?_set_ne (by decide), List.getElem?_set_ne (by decide)]; exact j.a1
  · rw [List.getElem?_set_ne (by decide), List.getElem?_set_ne (by decide)]; exact j.a2
  · rw [List.getElem?_set_ne (by decide), List.getElem?_set_ne (by decide)]; exact j.a3
  · rw [List.getElem?_set_ne (by decide), List.getElem?_set_self (by omega)]
  · rw [List.getElem?_set_ne (by decide), List.getElem?_set_ne (by decide)]; exact j.a5
  · rw [List.getElem?_set_self (by rw [List.length_set]; omega)]
theorem J.app {S : List Cell} {m0 m1 : Nat} {R0 R1 : List Hl} {f0 f1 : Nat → Bool} (j : J S m0 m1 R0 R1 f0 f1) (c : Cell) : J (S ++ [c]) m0 m1 R0 R1 f0 f1 :=
  ⟨by rw [List.length_append]; have := j.len; omega, get_app j.a1, get_app j.a2, get_app j.a3, get_app j.a4, get_app j.a5, get_app j.a6, j.k0, j.k1⟩
def JJ (S : List Cell) (m0 m1 : Nat) : Prop := ∃ R0 R1 f0 f1, J S m0 m1 R0 R1 f0 f1
section
variable (k : Nat) (ns : List Int) (m0 m1 : Nat) (h0 : 16 ≤ m0 ∧ m0 ≤ 240) (h1 : 16 ≤ m1 ∧ m1 ≤ 240)
include h0 h1
theorem turn (t : Nat) (S : List Cell) (hJ : JJ S m0 m1) (x1 x2 x4 x6 x8 x9 x10 x11 x12 x13 x14 x15 : Option Sl) :
    ∃ (S' : List Cell) (y8 y9 y10 y11 y12 y13 y14 y15 : Option Sl), evSs (callF T (k + 6)) l23_1 ⟨[some (.val, .scr (ns.map D.int)), x1, x2, some (.own, .lst [.ref 1, .ref 3]), x4, some (.own, .lst [.ref 5, .ref 6]), x6, some (.val, .int (t : Int)), x8, x9, x10, x11, x12, x13, x14, x15], S⟩ = .nx ⟨[some (.val, .scr (ns.map D.int)), x1, x2, some (.own, .lst [.ref 1, .ref 3]), x4, some (.own, .lst [.ref 5, .ref 6]), x6, some (.val, .int (t : Int)), y8, y9, y10, y11, y12, y13, y14, y15], S'⟩ ∧ JJ S' m0 m1 := by
  obtain ⟨R0, R1, f0, f1, j⟩ := hJ
  obtain ⟨v, e0⟩ := cell_at (k + 5) ns t S
  obtain ⟨q, e1⟩ := box (k + 5) v S
  have hb : S.length < (S ++ [bx q]).length := by rw [List.length_append]; simp
  obtain ⟨r, q1, e2, hr⟩ := takeN (k + 5) S.length 4 (S ++ [bx q]) hb q (by decide) (by decide)
  have es : ∀ q', st (S ++ [bx q]) S.length q' = S ++ [bx q'] := fun q' => by unfold st; rw [set_last]
  rw [es, es] at e2
  have hbx : S ++ [Cell.lst [.int q.1, .int q.2.1, .int q.2.2]] = S ++ [bx q] := rfl
  have e0' : callF T (k + 6) 14 [(.val, .scr (ns.map D.int)), (.val, .int (t : Int))] S = .ok (.val, .int v) S := e0
  have e1' : callF T (k + 6) 15 [(.val, .int v)] S = .ok (.own, .lst [.int q.1, .int q.2.1, .int q.2.2]) S := e1
  have one : ((1 : Nat) : Int) = 1 := rfl
  have zer : ((0 : Nat) : Int) = 0 := rfl
  by_cases c : (r : Int) = 0
  · obtain ⟨q', R', f', y13, y14, y15, e3, K⟩ := turnW k S 1 3 4 6 m1 R1 f1 j.a3 j.a4 j.a6 j.k1 h1.1 h1.2 (by decide) (by decide) (by decide) 1 2 5 m0 R0 f0 j.a1 j.a2 j.a5 j.k0 h0.1 h0.2 (by decide) (by decide) (by decide) (by decide) (by decide) (by decide) [.ref 1, .ref 3] [.ref 5, .ref 6] (atI_1 ..) (atI_0 ..) (atI_1 ..) (atI_0 ..) (.inr rfl) q q1 S.length rfl (some (.val, .scr (ns.map D.int))) x1 x2 x4 x6 (some (.val, .int (t : Int))) x10 x11 x12 x13 x14 x15
    refine ⟨(S.set 4 (rwS R')).set 6 (.lst (frD f' m1)) ++ [bx q'], some (.val, .ref S.length), some (.val, .int ((1 : Nat) : Int)), some (.val, .ref 6), some (.own, .lst (R1.map hD)), some (.own, .lst ((sc (fun c => !f1 c) m1).map hD)), y13, y14, y15, ?_, R0, R', f0, f', (j.set1 K).app _⟩
    unfold l23_1
    refine Eq.trans (ss_go (s1 := ⟨[some (.val, .scr (ns.map D.int)), x1, x2, some (.own, .lst [.ref 1, .ref 3]), x4, some (.own, .lst [.ref 5, .ref 6]), x6, some (.val, .int (t : Int)), some (.val, .ref S.length), x9, x10, x11, x12, x13, x14, x15], S ++ [bx q]⟩) ?_) ?_
    · simp (implicitDefEqProofs := false) only [Int.cast_ofNat_Int, T, List.length_cons, List.length_nil, List.map_cons, List.map_nil, List.replicate, List.cons_append, List.nil_append, evSs, evS, evE, evL, evA, evP, itE, Out.bind, Out.then, OutL.bind, asgP, putS, onB, onS, lift, binR, addR, mulR, binD, cmpD, lstOf, lsqOf, seqOf, lenD, biV, on1, on2, Sr.intD, int2D, vI, vB, ixD, valO, argO, toVal, back1, orS, intV, celL, putC, putO, ownL, endF, tyD, srcM, srcO, walkOf, keyD, augD, Sr.part, pOk, bindP, bindPs, Option.map, List.getElem?_cons_zero, List.getElem?_cons_succ, List.set, List.length_set, ite_true, ite_false, reduceIte, Nat.reduceAdd, Nat.reduceSub, Nat.reduceLT, Nat.reduceEqDiff, Bool.false_eq_true, Bool.not_true, Bool.not_false, decide_true, decide_false, eqD_int, beq_iff_eq, beq_self_eq_true, Bool.not_eq_true', beq_eq_false_iff_ne, ne_eq, not_true_eq_false, not_false_eq_true, compO, compKO, vsOk, wipeD, back, List.all_cons, List.all_nil, List.foldl_cons, List.foldl_nil, Bool.and_true, Bool.true_and, Bool.and_self, Option.getD_some, Option.getD_none, decide_eq_true_eq, List.length_map, atI_0, atI_1, atI_2, lim0, lim1, lim2, lim3, lim4, lim5, lim6, lim7, lim8, lim9, lim10, lim11, lim12, set_last, get_last, eqD_pair, slV, rngL, and_self, true_and, and_true, isa_NoneType_bool, isa_NoneType_int, isa_NoneType_str, isa_NoneType_tuple, isa_NoneType_list, isa_NoneType_dict, isa_bool_bool, isa_bool_int, isa_bool_str, isa_bool_tuple, isa_bool_list, isa_bool_dict, isa_int_bool, isa_int_int, isa_int_str, isa_int_tuple, isa_int_list, isa_int_dict, isa_str_bool, isa_str_int, isa_str_str, isa_str_tuple, isa_str_list, isa_str_dict, isa_tuple_bool, isa_tuple_int, isa_tuple_str, isa_tuple_tuple, isa_tuple_list, isa_tuple_dict, isa_list_bool, isa_list_int, isa_list_str, isa_list_tuple, isa_list_list, isa_list_dict, isa_dict_bool, isa_dict_int, isa_dict_str, isa_dict_tuple, isa_dict_list, isa_dict_dict, ixN_30, ixN_31, ixN_32, e0', e1', hbx]
    refine Eq.trans (ss_go (s1 := ⟨[some (.val, .scr (ns.map D.int)), x1, x2, some (.own, .lst [.ref 1, .ref 3]), x4, some (.own, .lst [.ref 5, .ref 6]), x6, some (.val, .int (t : Int)), some (.val, .ref S.length), some (.val, .int ((1 : Nat) : Int)), x10, x11, x12, x13, x14, x15], S ++ [bx q1]⟩) ?_) ?_
    · rw [one]
      simp (implicitDefEqProofs := false) only [Int.cast_ofNat_Int, T, List.length_cons, List.length_nil, List.map_cons, List.map_nil, List.replicate, List.cons_append, List.nil_append, evSs, evS, evE, evL, evA, evP, itE, Out.bind, Out.then, OutL.bind, asgP, putS, onB, onS, lift, binR, addR, mulR, binD, cmpD, lstOf, lsqOf, seqOf, lenD, biV, on1, on2, Sr.intD, int2D, vI, vB, ixD, valO, argO, toVal, back1, orS, intV, celL, putC, putO, ownL, endF, tyD, srcM, srcO, walkOf, keyD, augD, Sr.part, pOk, bindP, bindPs, Option.map, List.getElem?_cons_zero, List.getElem?_cons_succ, List.set, List.length_set, ite_true, ite_false, reduceIte, Nat.reduceAdd, Nat.reduceSub, Nat.reduceLT, Nat.reduceEqDiff, Bool.false_eq_true, Bool.not_true, Bool.not_false, decide_true, decide_false, eqD_int, beq_iff_eq, beq_self_eq_true, Bool.not_eq_true', beq_eq_false_iff_ne, ne_eq, not_true_eq_false, not_false_eq_true, compO, compKO, vsOk, wipeD, back, List.all_cons, List.all_nil, List.foldl_cons, List.foldl_nil, Bool.and_true, Bool.true_and, Bool.and_self, Option.getD_some, Option.getD_none, decide_eq_true_eq, List.length_map, atI_0, atI_1, atI_2, lim0, lim1, lim2, lim3, lim4, lim5, lim6, lim7, lim8, lim9, lim10, lim11, lim12, set_last, get_last, eqD_pair, slV, rngL, and_self, true_and, and_true, isa_NoneType_bool, isa_NoneType_int, isa_NoneType_str, isa_NoneType_tuple, isa_NoneType_list, isa_NoneType_dict, isa_bool_bool, isa_bool_int, isa_bool_str, isa_bool_tuple, isa_bool_list, isa_bool_dict, isa_int_bool, isa_int_int, isa_int_str, isa_int_tuple, isa_int_list, isa_int_dict, isa_str_bool, isa_str_int, isa_str_str, isa_str_tuple, isa_str_list, isa_str_dict, isa_tuple_bool, isa_tuple_int, isa_tuple_str, isa_tuple_tuple, isa_tuple_list, isa_tuple_dict, isa_list_bool, isa_list_int, isa_list_str, isa_list_tuple, isa_list_list, isa_list_dict, isa_dict_bool, isa_dict_int, isa_dict_str, isa_dict_tuple, isa_dict_list, isa_dict_dict, ixN_30, ixN_31, ixN_32, e2, c]
    exact e3
  · obtain ⟨q', R', f', y13, y14, y15, e3, K⟩ := turnW k S 0 1 2 5 m0 R0 f0 j.a1 j.a2 j.a5 j.k0 h0.1 h0.2 (by decide) (by decide) (by decide) 3 4 6 m1 R1 f1 j.a3 j.a4 j.a6 j.k1 h1.1 h1.2 (by decide) (by decide) (by decide) (by decide) (by decide) (by decide) [.ref 1, .ref 3] [.ref 5, .ref 6] (atI_0 ..) (atI_1 ..) (atI_0 ..) (atI_1 ..) (.inl rfl) q q1 S.length rfl (some (.val, .scr (ns.map D.int))) x1 x2 x4 x6 (some (.val, .int (t : Int))) x10 x11 x12 x13 x14 x15
    refine ⟨(S.set 2 (rwS R')).set 5 (.lst (frD f' m0)) ++ [bx q'], some (.val, .ref S.length), some (.val, .int ((0 : Nat) : Int)), some (.val, .ref 5), some (.own, .lst (R0.map hD)), some (.own, .lst ((sc (fun c => !f0 c) m0).map hD)), y13, y14, y15, ?_, R', R1, f', f1, (j.set0 K).app _⟩
    unfold l23_1
    refine Eq.trans (ss_go (s1 := ⟨[some (.val, .scr (ns.map D.int)), x1, x2, some (.own, .lst [.ref 1, .ref 3]), x4, some (.own, .lst [.ref 5, .ref 6]), x6, some (.val, .int (t : Int)), some (.val, .ref S.length), x9, x10, x11, x12, x13, x14, x15], S ++ [bx q]⟩) ?_) ?_
    · simp (implicitDefEqProofs := false) only [Int.cast_ofNat_Int, T, List.length_cons, List.length_nil, List.map_cons, List.map_nil, List.replicate, List.cons_append, List.nil_append, evSs, evS, evE, evL, evA, evP, itE, Out.bind, Out.then, OutL.bind, asgP, putS, onB, onS, lift, binR, addR, mulR, binD, cmpD, lstOf, lsqOf, seqOf, lenD, biV, on1, on2, Sr.intD, int2D, vI, vB, ixD, valO, argO, toVal, back1, orS, intV, celL, putC, putO, ownL, endF, tyD, srcM, srcO, walkOf, keyD, augD, Sr.part, pOk, bindP, bindPs, Option.map, List.getElem?_cons_zero, List.getElem?_cons_succ, List.set, List.length_set, ite_true, ite_false, reduceIte, Nat.reduceAdd, Nat.reduceSub, Nat.reduceLT, Nat.reduceEqDiff, Bool.false_eq_true, Bool.not_true, Bool.not_false, decide_true, decide_false, eqD_int, beq_iff_eq, beq_self_eq_true, Bool.not_eq_true', beq_eq_false_iff_ne, ne_eq, not_true_eq_false, not_false_eq_true, compO, compKO, vsOk, wipeD, back, List.all_cons, List.all_nil, List.foldl_cons, List.foldl_nil, Bool.and_true, Bool.true_and, Bool.and_self, Option.getD_some, Option.getD_none, decide_eq_true_eq, List.length_map, atI_0, atI_1, atI_2, lim0, lim1, lim2, lim3, lim4, lim5, lim6, lim7, lim8, lim9, lim10, lim11, lim12, set_last, get_last, eqD_pair, slV, rngL, and_self, true_and, and_true, isa_NoneType_bool, isa_NoneType_int, isa_NoneType_str, isa_NoneType_tuple, isa_NoneType_list, isa_NoneType_dict, isa_bool_bool, isa_bool_int, isa_bool_str, isa_bool_tuple, isa_bool_list, isa_bool_dict, isa_int_bool, isa_int_int, isa_int_str, isa_int_tuple, isa_int_list, isa_int_dict, isa_str_bool, isa_str_int, isa_str_str, isa_str_tuple, isa_str_list, isa_str_dict, isa_tuple_bool, isa_tuple_int, isa_tuple_str, isa_tuple_tuple, isa_tuple_list, isa_tuple_dict, isa_list_bool, isa_list_int, isa_list_str, isa_list_tuple, isa_list_list, isa_list_dict, isa_dict_bool, isa_dict_int, isa_dict_str, isa_dict_tuple, isa_dict_list, isa_dict_dict, ixN_30, ixN_31, ixN_32, e0', e1', hbx]
    refine Eq.trans (ss_go (s1 := ⟨[some (.val, .scr (ns.map D.int)), x1, x2, some (.own, .lst [.ref 1, .ref 3]), x4, some (.own, .lst [.ref 5, .ref 6]), x6, some (.val, .int (t : Int)), some (.val, .ref S.length), some (.val, .int ((0 : Nat) : Int)), x10, x11, x12, x13, x14, x15], S ++ [bx q1]⟩) ?_) ?_
    · rw [zer]
      simp (implicitDefEqProofs := false) only [Int.cast_ofNat_Int, T, List.length_cons, List.length_nil, List.map_cons, List.map_nil, List.replicate, List.cons_append, List.nil_append, evSs, evS, evE, evL, evA, evP, itE, Out.bind, Out.then, OutL.bind, asgP, putS, onB, onS, lift, binR, addR, mulR, binD, cmpD, lstOf, lsqOf, seqOf, lenD, biV, on1, on2, Sr.intD, int2D, vI, vB, ixD, valO, argO, toVal, back1, orS, intV, celL, putC, putO, ownL, endF, tyD, srcM, srcO, walkOf, keyD, augD, Sr.part, pOk, bindP, bindPs, Option.map, List.getElem?_cons_zero, List.getElem?_cons_succ, List.set, List.length_set, ite_true, ite_false, reduceIte, Nat.reduceAdd, Nat.reduceSub, Nat.reduceLT, Nat.reduceEqDiff, Bool.false_eq_true, Bool.not_true, Bool.not_false, decide_true, decide_false, eqD_int, beq_iff_eq, beq_self_eq_true, Bool.not_eq_true', beq_eq_false_iff_ne, ne_eq, not_true_eq_false, not_false_eq_true, compO, compKO, vsOk, wipeD, back, List.all_cons, List.all_nil, List.foldl_cons, List.foldl_nil, Bool.and_true, Bool.true_and, Bool.and_self, Option.getD_some, Option.getD_none, decide_eq_true_eq, List.length_map, atI_0, atI_1, atI_2, lim0, lim1, lim2, lim3, lim4, lim5, lim6, lim7, lim8, lim9, lim10, lim11, lim12, set_last, get_last, eqD_pair, slV, rngL, and_self, true_and, and_true, isa_NoneType_bool, isa_NoneType_int, isa_NoneType_str, isa_NoneType_tuple, isa_NoneType_list, isa_NoneType_dict, isa_bool_bool, isa_bool_int, isa_bool_str, isa_bool_tuple, isa_bool_list, isa_bool_dict, isa_int_bool, isa_int_int, isa_int_str, isa_int_tuple, isa_int_list, isa_int_dict, isa_str_bool, isa_str_int, isa_str_str, isa_str_tuple, isa_str_list, isa_str_dict, isa_tuple_bool, isa_tuple_int, isa_tuple_str, isa_tuple_tuple, isa_tuple_list, isa_tuple_dict, isa_list_bool, isa_list_int, isa_list_str, isa_list_tuple, isa_list_list, isa_list_dict, isa_dict_bool, isa_dict_int, isa_dict_str, isa_dict_tuple, isa_dict_list, isa_dict_dict, ixN_30, ixN_31, ixN_32, e2, c]
    exact e3
theorem loop (n : Nat) (S : List Cell) (hJ : JJ S m0 m1) (x1 x2 x4 x6 x7 x8 x9 x10 x11 x12 x13 x14 x15 : Option Sl) : ∃ y7 y8 y9 y10 y11 y12 y13 y14 y15 S', forL (.nm 7) (evSs (callF T (k + 6)) l23_1) (intsUp 1 n 1) ⟨[some (.val, .scr (ns.map D.int)), x1, x2, some (.own, .lst [.ref 1, .ref 3]), x4, some (.own, .lst [.ref 5, .ref 6]), x6, x7, x8, x9, x10, x11, x12, x13, x14, x15], S⟩ = .nx ⟨[some (.val, .scr (ns.map D.int)), x1, x2, some (.own, .lst [.ref 1, .ref 3]), x4, some (.own, .lst [.ref 5, .ref 6]), x6, y7, y8, y9, y10, y11, y12, y13, y14, y15], S'⟩ := by
  obtain ⟨s', e, y7, y8, y9, y10, y11, y12, y13, y14, y15, S', h, _⟩ := forL_inv (p := .nm 7) (b := evSs (callF T (k + 6)) l23_1) (fun _ σ => ∃ y7 y8 y9 y10 y11 y12 y13 y14 y15 S, σ = ⟨[some (.val, .scr (ns.map D.int)), x1, x2, some (.own, .lst [.ref 1, .ref 3]), x4, some (.own, .lst [.ref 5, .ref 6]), x6, y7, y8, y9, y10, y11, y12, y13, y14, y15], S⟩ ∧ JJ S m0 m1)
    (intsUp 1 n 1) 0 ⟨[some (.val, .scr (ns.map D.int)), x1, x2, some (.own, .lst [.ref 1, .ref 3]), x4, some (.own, .lst [.ref 5, .ref 6]), x6, x7, x8, x9, x10, x11, x12, x13, x14, x15], S⟩ ⟨_, _, _, _, _, _, _, _, _, S, rfl, hJ⟩ (fun j σ d _ hI hd => by
      obtain ⟨y7, y8, y9, y10, y11, y12, y13, y14, y15, S, rfl, hJ⟩ := hI
      have hj : j < n := by
        have := (List.getElem?_eq_some_iff.mp hd).1
        rw [intsUp_len] at this
        omega
      rw [Nat.sub_zero, intsUp_get hj] at hd
      cases hd
      obtain ⟨S', z8, z9, z10, z11, z12, z13, z14, z15, e, hJ'⟩ := turn k ns m0 m1 h0 h1 (1 + j) S hJ x1 x2 x4 x6 y8 y9 y10 y11 y12 y13 y14 y15
      refine ⟨[some (.val, .scr (ns.map D.int)), x1, x2, some (.own, .lst [.ref 1, .ref 3]), x4, some (.own, .lst [.ref 5, .ref 6]), x6, some (.val, .int ((1 + j : Nat) : Int)), y8, y9, y10, y11, y12, y13, y14, y15], _, ?_, .inl e, _, _, _, _, _, _, _, _, _, S', rfl, hJ'⟩
      rw [Int.mul_one, show (1 : Int) + (j : Int) = ((1 + j : Nat) : Int) by omega]
      simp (implicitDefEqProofs := false) only [Int.cast_ofNat_Int, T, List.length_cons, List.length_nil, List.map_cons, List.map_nil, List.replicate, List.cons_append, List.nil_append, evSs, evS, evE, evL, evA, evP, itE, Out.bind, Out.then, OutL.bind, asgP, putS, onB, onS, lift, binR, addR, mulR, binD, cmpD, lstOf, lsqOf, seqOf, lenD, biV, on1, on2, Sr.intD, int2D, vI, vB, ixD, valO, argO, toVal, back1, orS, intV, celL, putC, putO, ownL, endF, tyD, srcM, srcO, walkOf, keyD, augD, Sr.part, pOk, bindP, bindPs, Option.map, List.getElem?_cons_zero, List.getElem?_cons_succ, List.set, List.length_set, ite_true, ite_false, reduceIte, Nat.reduceAdd, Nat.reduceSub, Nat.reduceLT, Nat.reduceEqDiff, Bool.false_eq_true, Bool.not_true, Bool.not_false, decide_true, decide_false, eqD_int, beq_iff_eq, beq_self_eq_true, Bool.not_eq_true', beq_eq_false_iff_ne, ne_eq, not_true_eq_false, not_false_eq_true, compO, compKO, vsOk, wipeD, back, List.all_cons, List.all_nil, List.foldl_cons, List.foldl_nil, Bool.and_true, Bool.true_and, Bool.and_self, Option.getD_some, Option.getD_none, decide_eq_true_eq, List.length_map, atI_0, atI_1, atI_2, lim0, lim1, lim2, lim3, lim4, lim5, lim6, lim7, lim8, lim9, lim10, lim11, lim12, set_last, get_last, eqD_pair, slV, rngL, and_self, true_and, and_true, isa_NoneType_bool, isa_NoneType_int, isa_NoneType_str, isa_NoneType_tuple, isa_NoneType_list, isa_NoneType_dict, isa_bool_bool, isa_bool_int, isa_bool_str, isa_bool_tuple, isa_bool_list, isa_bool_dict, isa_int_bool, isa_int_int, isa_int_str, isa_int_tuple, isa_int_list, isa_int_dict, isa_str_bool, isa_str_int, isa_str_str, isa_str_tuple, isa_str_list, isa_str_dict, isa_tuple_bool, isa_tuple_int, isa_tuple_str, isa_tuple_tuple, isa_tuple_list, isa_tuple_dict, isa_list_bool, isa_list_int, isa_list_str, isa_list_tuple, isa_list_list, isa_list_dict, isa_dict_bool, isa_dict_int, isa_dict_str, isa_dict_tuple, isa_dict_list, isa_dict_dict, ixN_30, ixN_31, ixN_32])
  subst h
  exact ⟨y7, y8, y9, y10, y11, y12, y13, y14, y15, S', e⟩
/-- every second cell -/
theorem evens (S : List Cell) (R0 R1 : List Hl) (f0 f1 : Nat → Bool) (j : J S m0 m1 R0 R1 f0 f1) (hf : ∀ c, f0 c = true) (x0 x1 x2 x4 x6 x7 x8 x9 x10 x11 x12 x13 x14 x15 : Option Sl) : ∃ y6 S', forL (.nm 6) (evSs (callF T (k + 6)) l23_2) (intsUp 0 ((m0 + 1) / 2) 2) ⟨[x0, x1, x2, some (.own, .lst [.ref 1, .ref 3]), x4, some (.own, .lst [.ref 5, .ref 6]), x6, x7, x8, x9, x10, x11, x12, x13, x14, x15], S⟩ = .nx ⟨[x0, x1, x2, some (.own, .lst [.ref 1, .ref 3]), x4, some (.own, .lst [.ref 5, .ref 6]), y6, x7, x8, x9, x10, x11, x12, x13, x14, x15], S'⟩ ∧ JJ S' m0 m1 := by
  obtain ⟨s', e, y6, S', R, f, h, j', _⟩ := forL_inv (p := .nm 6) (b := evSs (callF T (k + 6)) l23_2) (fun i σ => ∃ y6 S R f, σ = ⟨[x0, x1, x2, some (.own, .lst [.ref 1, .ref 3]), x4, some (.own, .lst [.ref 5, .ref 6]), y6, x7, x8, x9, x10, x11, x12, x13, x14, x15], S⟩ ∧ J S m0 m1 R R1 f f1 ∧ ∀ c, 2 * i ≤ c → f c = true)
    (intsUp 0 ((m0 + 1) / 2) 2) 0 ⟨[x0, x1, x2, some (.own, .lst [.ref 1, .ref 3]), x4, some (.own, .lst [.ref 5, .ref 6]), x6, x7, x8, x9, x10, x11, x12, x13, x14, x15], S⟩ ⟨x6, S, R0, f0, rfl, j, fun c _ => hf c⟩ (fun i σ d _ hI hd => by
      obtain ⟨y6, S, R, f, rfl, j, hf⟩ := hI
      have hi : i < (m0 + 1) / 2 := by
        have := (List.getElem?_eq_some_iff.mp hd).1
        rw [intsUp_len] at this
        omega
      rw [Nat.sub_zero, intsUp_get hi] at hd
      cases hd
      have hc : 2 * i < m0 := by omega
      obtain ⟨R', e1, K⟩ := bookTake (k + 2) 1 2 m0 j.a1 h0.2 j.a2 j.k0 (2 * i) 1 (Nat.le_refl _) fun c g1 g2 => ⟨by omega, hf c g1⟩
      have K' : Bk R' m0 fun c => c < m0 ∧ (f c && !decide (c = 2 * i)) = true := ⟨K.sep, fun c => (K.isIn c).trans (by
        rw [Bool.and_eq_true, Bool.not_eq_true', decide_eq_false_iff_not]
        constructor
        · rintro ⟨⟨y1, y2⟩, y3⟩; exact ⟨y1, y2, by omega⟩
        · rintro ⟨y1, y2, y3⟩; exact ⟨⟨y1, y2⟩, by omega⟩)⟩
      have b1 := j.a1
      unfold bk at b1
      have lk1 : List.lookup ("take" : Str) [(("width" : Str), D.int (m0 : Int)), ("rows", .ref 2)] = none := rfl
      have lk2 : List.lookup 0 [((0 : Nat), 11)] = some 11 := rfl
      have gf : (S.set 2 (rwS R'))[5]? = some (.lst (frD f m0)) := by rw [List.getElem?_set_ne (by decide)]; exact j.a5
      have ei : ((0 : Int) + (i : Int) * 2) = ((2 * i : Nat) : Int) := by omega
      have fs := frD_set f hc
      have fx : ixN m0 ((2 * i : Nat) : Int) = some (2 * i) := by rw [ixN_at (by omega) (by omega)]; rfl
      have o1 : ((1 : Nat) : Int) = 1 := rfl
      rw [o1] at e1
      have fl := frD_len f m0
      refine ⟨[x0, x1, x2, some (.own, .lst [.ref 1, .ref 3]), x4, some (.own, .lst [.ref 5, .ref 6]), some (.val, .int ((2 * i : Nat) : Int)), x7, x8, x9, x10, x11, x12, x13, x14, x15], ⟨[x0, x1, x2, some (.own, .lst [.ref 1, .ref 3]), x4, some (.own, .lst [.ref 5, .ref 6]), some (.val, .int ((2 * i : Nat) : Int)), x7, x8, x9, x10, x11, x12, x13, x14, x15], (S.set 2 (rwS R')).set 5 (.lst (frD (fun c => f c && !decide (c = 2 * i)) m0))⟩, ?_, .inl ?_, _, _, R', _, rfl, j.set0 K', fun c hcc => ?_⟩
      · rw [ei]
        simp (implicitDefEqProofs := false) only [Int.cast_ofNat_Int, T, List.length_cons, List.length_nil, List.map_cons, List.map_nil, List.replicate, List.cons_append, List.nil_append, evSs, evS, evE, evL, evA, evP, itE, Out.bind, Out.then, OutL.bind, asgP, putS, onB, onS, lift, binR, addR, mulR, binD, cmpD, lstOf, lsqOf, seqOf, lenD, biV, on1, on2, Sr.intD, int2D, vI, vB, ixD, valO, argO, toVal, back1, orS, intV, celL, putC, putO, ownL, endF, tyD, srcM, srcO, walkOf, keyD, augD, Sr.part, pOk, bindP, bindPs, Option.map, List.getElem?_cons_zero, List.getElem?_cons_succ, List.set, List.length_set, ite_true, ite_false, reduceIte, Nat.reduceAdd, Nat.reduceSub, Nat.reduceLT, Nat.reduceEqDiff, Bool.false_eq_true, Bool.not_true, Bool.not_false, decide_true, decide_false, eqD_int, beq_iff_eq, beq_self_eq_true, Bool.not_eq_true', beq_eq_false_iff_ne, ne_eq, not_true_eq_false, not_false_eq_true, compO, compKO, vsOk, wipeD, back, List.all_cons, List.all_nil, List.foldl_cons, List.foldl_nil, Bool.and_true, Bool.true_and, Bool.and_self, Option.getD_some, Option.getD_none, decide_eq_true_eq, List.length_map, atI_0, atI_1, atI_2, lim0, lim1, lim2, lim3, lim4, lim5, lim6, lim7, lim8, lim9, lim10, lim11, lim12, set_last, get_last, eqD_pair, slV, rngL, and_self, true_and, and_true, isa_NoneType_bool, isa_NoneType_int, isa_NoneType_str, isa_NoneType_tuple, isa_NoneType_list, isa_NoneType_dict, isa_bool_bool, isa_bool_int, isa_bool_str, isa_bool_tuple, isa_bool_list, isa_bool_dict, isa_int_bool, isa_int_int, isa_int_str, isa_int_tuple, isa_int_list, isa_int_dict, isa_str_bool, isa_str_int, isa_str_str, isa_str_tuple, isa_str_list, isa_str_dict, isa_tuple_bool, isa_tuple_int, isa_tuple_str, isa_tuple_tuple, isa_tuple_list, isa_tuple_dict, isa_list_bool, isa_list_int, isa_list_str, isa_list_tuple, isa_list_list, isa_list_dict, isa_dict_bool, isa_dict_int, isa_dict_str, isa_dict_tuple, isa_dict_list, isa_dict_dict, ixN_30, ixN_31, ixN_32]
      · generalize hcl : ((2 * i : Nat) : Int) = ci at *
        simp (implicitDefEqProofs := false) only [Int.cast_ofNat_Int, T, List.length_cons, List.length_nil, List.map_cons, List.map_nil, List.replicate, List.cons_append, List.nil_append, evSs, evS, evE, evL, evA, evP, itE, Out.bind, Out.then, OutL.bind, asgP, putS, onB, onS, lift, binR, addR, mulR, binD, cmpD, lstOf, lsqOf, seqOf, lenD, biV, on1, on2, Sr.intD, int2D, vI, vB, ixD, valO, argO, toVal, back1, orS, intV, celL, putC, putO, ownL, endF, tyD, srcM, srcO, walkOf, keyD, augD, Sr.part, pOk, bindP, bindPs, Option.map, List.getElem?_cons_zero, List.getElem?_cons_succ, List.set, List.length_set, ite_true, ite_false, reduceIte, Nat.reduceAdd, Nat.reduceSub, Nat.reduceLT, Nat.reduceEqDiff, Bool.false_eq_true, Bool.not_true, Bool.not_false, decide_true, decide_false, eqD_int, beq_iff_eq, beq_self_eq_true, Bool.not_eq_true', beq_eq_false_iff_ne, ne_eq, not_true_eq_false, not_false_eq_true, compO, compKO, vsOk, wipeD, back, List.all_cons, List.all_nil, List.foldl_cons, List.foldl_nil, Bool.and_true, Bool.true_and, Bool.and_self, Option.getD_some, Option.getD_none, decide_eq_true_eq, List.length_map, atI_0, atI_1, atI_2, lim0, lim1, lim2, lim3, lim4, lim5, lim6, lim7, lim8, lim9, lim10, lim11, lim12, set_last, get_last, eqD_pair, slV, rngL, and_self, true_and, and_true, isa_NoneType_bool, isa_NoneType_int, isa_NoneType_str, isa_NoneType_tuple, isa_NoneType_list, isa_NoneType_dict, isa_bool_bool, isa_bool_int, isa_bool_str, isa_bool_tuple, isa_bool_list, isa_bool_dict, isa_int_bool, isa_int_int, isa_int_str, isa_int_tuple, isa_int_list, isa_int_dict, isa_str_bool, isa_str_int, isa_str_str, isa_str_tuple, isa_str_list, isa_str_dict, isa_tuple_bool, isa_tuple_int, isa_tuple_str, isa_tuple_tuple, isa_tuple_list, isa_tuple_dict, isa_list_bool, isa_list_int, isa_list_str, isa_list_tuple, isa_list_list, isa_list_dict, isa_dict_bool, isa_dict_int, isa_dict_str, isa_dict_tuple, isa_dict_list, isa_dict_dict, ixN_30, ixN_31, ixN_32, l23_2, b1, lk1, lk2, e1, gf, fl, fx, fs]
      · have := hf c (by omega)
        rw [this, decide_eq_false (by omega)]
        rfl)
  subst h
  exact ⟨y6, S', e, R, R1, f, f1, j'⟩
end
end Kx

namespace Kx
open PySem PySem.Spec PyProof.Rows L2 Sr
def E0 (ns : List Int) (x1 x2 x3 x4 x5 x6 x7 : Option Sl) : List (Option Sl) := [some (.val, .scr (ns.map D.int)), x1, x2, x3, x4, x5, x6, x7, none, none, none, none, none, none, none, none]
theorem rep_fr (m : Nat) : List.replicate m (D.bl true) = frD (fun _ => true) m := by
  unfold frD
  refine List.ext_getElem? fun i => ?_
  rw [List.getElem?_replicate, List.getElem?_map]
  by_cases hi : i < m
  · rw [if_pos hi, List.getElem?_range hi]; rfl
  · rw [if_neg hi, List.getElem?_eq_none (by rw [List.length_range]; omega)]; rfl
section
variable (k : Nat) (ns : List Int) (m0 m1 : Nat) (h0 : 16 ≤ m0 ∧ m0 ≤ 240) (h1 : 16 ≤ m1 ∧ m1 ≤ 240) (q : Qx)
include h0 h1
theorem mkBooks (x1 : Option Sl) : evE (callF T (k + 6)) e23_6 ⟨E0 ns x1 (some (.own, .lst [.int (m0 : Int), .int (m1 : Int)])) none none none none none, [bx q]⟩ = .ok (.own, .lst [.ref 1, .ref 3]) ⟨E0 ns x1 (some (.own, .lst [.int (m0 : Int), .int (m1 : Int)])) none none none none none, [bx q, bk m0 2, rwS [(0, m0)], bk m1 4, rwS [(0, m1)]]⟩ := by
  have i1 : callF T (k + 6) 4 [(.val, .ref 1), (.val, .int (m0 : Int))] [bx q, .inst 0 []] = .ok (.val, .non) [bx q, bk m0 2, rwS [(0, m0)]] := initH (k + 2) m0 h0.1 h0.2 [bx q]
  have i2 : callF T (k + 6) 4 [(.val, .ref 3), (.val, .int (m1 : Int))] [bx q, bk m0 2, rwS [(0, m0)], .inst 0 []] = .ok (.val, .non) [bx q, bk m0 2, rwS [(0, m0)], bk m1 4, rwS [(0, m1)]] := initH (k + 2) m1 h1.1 h1.2 [bx q, bk m0 2, rwS [(0, m0)]]
  unfold E0
  simp (implicitDefEqProofs := false) only [Int.cast_ofNat_Int, T, List.length_cons, List.length_nil, List.map_cons, List.map_nil, List.replicate, List.cons_append, List.nil_append, evSs, evS, evE, evL, evA, evP, itE, Out.bind, Out.then, OutL.bind, asgP, putS, onB, onS, lift, binR, addR, mulR, binD, cmpD, lstOf, lsqOf, seqOf, lenD, biV, on1, on2, Sr.intD, int2D, vI, vB, ixD, valO, argO, toVal, back1, orS, intV, celL, putC, putO, ownL, endF, tyD, srcM, srcO, walkOf, keyD, augD, Sr.part, pOk, bindP, bindPs, Option.map, List.getElem?_cons_zero, List.getElem?_cons_succ, List.set, List.length_set, ite_true, ite_false, reduceIte, Nat.reduceAdd, Nat.reduceSub, Nat.reduceLT, Nat.reduceEqDiff, Bool.false_eq_true, Bool.not_true, Bool.not_false, decide_true, decide_false, eqD_int, beq_iff_eq, beq_self_eq_true, Bool.not_eq_true', beq_eq_false_iff_ne, ne_eq, not_true_eq_false, not_false_eq_true, compO, compKO, vsOk, wipeD, back, List.all_cons, List.all_nil, List.foldl_cons, List.foldl_nil, Bool.and_true, Bool.true_and, Bool.and_self, Option.getD_some, Option.getD_none, decide_eq_true_eq, List.length_map, atI_0, atI_1, atI_2, lim0, lim1, lim2, lim3, lim4, lim5, lim6, lim7, lim8, lim9, lim10, lim11, lim12, set_last, get_last, eqD_pair, slV, rngL, and_self, true_and, and_true, isa_NoneType_bool, isa_NoneType_int, isa_NoneType_str, isa_NoneType_tuple, isa_NoneType_list, isa_NoneType_dict, isa_bool_bool, isa_bool_int, isa_bool_str, isa_bool_tuple, isa_bool_list, isa_bool_dict, isa_int_bool, isa_int_int, isa_int_str, isa_int_tuple, isa_int_list, isa_int_dict, isa_str_bool, isa_str_int, isa_str_str, isa_str_tuple, isa_str_list, isa_str_dict, isa_tuple_bool, isa_tuple_int, isa_tuple_str, isa_tuple_tuple, isa_tuple_list, isa_tuple_dict, isa_list_bool, isa_list_int, isa_list_str, isa_list_tuple, isa_list_list, isa_list_dict, isa_dict_bool, isa_dict_int, isa_dict_str, isa_dict_tuple, isa_dict_list, isa_dict_dict, ixN_30, ixN_31, ixN_32, e23_6, compL, noX, evE_yes, x23_5, i1, i2, lp0, lp1]
theorem mkFrees (x1 : Option Sl) (S : List Cell) (hS : S.length = 5) : evE (callF T (k + 6)) e23_4 ⟨E0 ns x1 (some (.own, .lst [.int (m0 : Int), .int (m1 : Int)])) (some (.own, .lst [.ref 1, .ref 3])) none none none none, S⟩ = .ok (.own, .lst [.ref 5, .ref 6]) ⟨E0 ns x1 (some (.own, .lst [.int (m0 : Int), .int (m1 : Int)])) (some (.own, .lst [.ref 1, .ref 3])) none none none none, S ++ [.lst (frD (fun _ => true) m0), .lst (frD (fun _ => true) m1)]⟩ := by
  have r0 : RepOk 1 (m0 : Int) := ⟨by rw [Int.toNat_natCast]; show 1 * m0 ≤ 1000000; omega, by omega, by omega⟩
  have r1 : RepOk 1 (m1 : Int) := ⟨by rw [Int.toNat_natCast]; show 1 * m1 ≤ 1000000; omega, by omega, by omega⟩
  have l1 : ∀ c : Cell, (S ++ [c]).length = 6 := fun c => by rw [List.length_append, hS]; rfl
  have a1 : ∀ c d : Cell, S ++ [c] ++ [d] = S ++ [c, d] := fun c d => by rw [List.append_assoc]; rfl
  unfold E0
  simp (implicitDefEqProofs := false) only [Int.cast_ofNat_Int, T, List.length_cons, List.length_nil, List.map_cons, List.map_nil, List.replicate, List.cons_append, List.nil_append, evSs, evS, evE, evL, evA, evP, itE, Out.bind, Out.then, OutL.bind, asgP, putS, onB, onS, lift, binR, addR, mulR, binD, cmpD, lstOf, lsqOf, seqOf, lenD, biV, on1, on2, Sr.intD, int2D, vI, vB, ixD, valO, argO, toVal, back1, orS, intV, celL, putC, putO, ownL, endF, tyD, srcM, srcO, walkOf, keyD, augD, Sr.part, pOk, bindP, bindPs, Option.map, List.getElem?_cons_zero, List.getElem?_cons_succ, List.set, List.length_set, ite_true, ite_false, reduceIte, Nat.reduceAdd, Nat.reduceSub, Nat.reduceLT, Nat.reduceEqDiff, Bool.false_eq_true, Bool.not_true, Bool.not_false, decide_true, decide_false, eqD_int, beq_iff_eq, beq_self_eq_true, Bool.not_eq_true', beq_eq_false_iff_ne, ne_eq, not_true_eq_false, not_false_eq_true, compO, compKO, vsOk, wipeD, back, List.all_cons, List.all_nil, List.foldl_cons, List.foldl_nil, Bool.and_true, Bool.true_and, Bool.and_self, Option.getD_some, Option.getD_none, decide_eq_true_eq, List.length_map, atI_0, atI_1, atI_2, lim0, lim1, lim2, lim3, lim4, lim5, lim6, lim7, lim8, lim9, lim10, lim11, lim12, set_last, get_last, eqD_pair, slV, rngL, and_self, true_and, and_true, isa_NoneType_bool, isa_NoneType_int, isa_NoneType_str, isa_NoneType_tuple, isa_NoneType_list, isa_NoneType_dict, isa_bool_bool, isa_bool_int, isa_bool_str, isa_bool_tuple, isa_bool_list, isa_bool_dict, isa_int_bool, isa_int_int, isa_int_str, isa_int_tuple, isa_int_list, isa_int_dict, isa_str_bool, isa_str_int, isa_str_str, isa_str_tuple, isa_str_list, isa_str_dict, isa_tuple_bool, isa_tuple_int, isa_tuple_str, isa_tuple_tuple, isa_tuple_list, isa_tuple_dict, isa_list_bool, isa_list_int, isa_list_str, isa_list_tuple, isa_list_list, isa_list_dict, isa_dict_bool, isa_dict_int, isa_dict_str, isa_dict_tuple, isa_dict_list, isa_dict_dict, ixN_30, ixN_31, ixN_32, e23_4, compL, noX, evE_yes, x23_3, lp0, lp1, r0, r1, Int.toNat_natCast, flat_v, rep_fr, hS, l1, a1]
end
theorem pickM (k : Nat) (q : Qx) : ∃ (m0 : Nat) (r1 r2 : Nat) (q1 q2 : Qx), callF T (k + 1) 16 [(.val, .ref 0), (.val, .int 225)] [bx q] = .ok (.val, .int (r1 : Int)) [bx q1] ∧ callF T (k + 1) 16 [(.val, .ref 0), (.val, .int 3)] [bx q1] = .ok (.val, .int (r2 : Int)) [bx q2] ∧ atI [D.int 16, D.int 240, D.int (16 + (r1 : Int))] (r2 : Int) = some (.int (m0 : Int)) ∧ 16 ≤ m0 ∧ m0 ≤ 240 := by
  obtain ⟨r1, q1, e1, h1⟩ := takeN k 0 225 [bx q] (Nat.zero_lt_succ _) q (by decide) (by decide)
  obtain ⟨r2, q2, e2, h2⟩ := takeN k 0 3 [bx q1] (Nat.zero_lt_succ _) q1 (by decide) (by decide)
  rcases (show r2 = 0 ∨ r2 = 1 ∨ r2 = 2 by omega) with rfl | rfl | rfl
  · exact ⟨16, r1, 0, q1, q2, e1, e2, atI_0 .., by omega, by omega⟩
  · exact ⟨240, r1, 1, q1, q2, e1, e2, atI_1 .., by omega, by omega⟩
  · refine ⟨16 + r1, r1, 2, q1, q2, e1, e2, (atI_2 ..).trans ?_, by omega, by omega⟩
    rw [Int.natCast_add]
    rfl
theorem good (ns : List Int) (h : ns.length ≤ 63) : ∃ S, callF T 20 23 [(.val, .scr (ns.map D.int))] [] = .ok (.val, .bl true) S := by
  obtain ⟨v, e0⟩ := cell_at 18 ns 0 []
  obtain ⟨q, e1⟩ := box 18 v []
  obtain ⟨m0, r1, r2, q1, q2, e2, e3, e4, h0⟩ := pickM 18 q
  obtain ⟨r3, q3, e5, h5⟩ := takeN 18 0 45 [bx q2] (Nat.zero_lt_succ _) q2 (by decide) (by decide)
  have h1 : 16 ≤ 16 + r3 ∧ 16 + r3 ≤ 240 := by omega
  have em1 : (((16 + r3 : Nat)) : Int) = 16 + (r3 : Int) := by omega
  generalize hm1 : 16 + r3 = m1 at h1 em1
  have e6 := mkBooks 13 ns m0 m1 h0 h1 q3 (some (.val, .ref 0))
  have e7 := mkFrees 13 ns m0 m1 h0 h1 (some (.val, .ref 0)) [bx q3, bk m0 2, rwS [(0, m0)], bk m1 4, rwS [(0, m1)]] rfl
  obtain ⟨r8, q8, e8, h8⟩ := takeN 18 0 8 ([bx q3, bk m0 2, rwS [(0, m0)], bk m1 4, rwS [(0, m1)]] ++ [.lst (frD (fun _ => true) m0), .lst (frD (fun _ => true) m1)]) (by show 0 < 7; decide) q3 (by decide) (by decide)
  have j0 : J ([bx q8, bk m0 2, rwS [(0, m0)], bk m1 4, rwS [(0, m1)]] ++ [.lst (frD (fun _ => true) m0), .lst (frD (fun _ => true) m1)]) m0 m1 [(0, m0)] [(0, m1)] (fun _ => true) (fun _ => true) := by
    have b0 := bk_init m0 (by omega)
    have b1 := bk_init m1 (by omega)
    exact ⟨Nat.le_refl _, rfl, rfl, rfl, rfl, rfl, rfl, ⟨b0.sep, fun c => (b0.isIn c).trans ⟨fun y => ⟨y, rfl⟩, fun y => y.1⟩⟩, ⟨b1.sep, fun c => (b1.isIn c).trans ⟨fun y => ⟨y, rfl⟩, fun y => y.1⟩⟩⟩
  obtain ⟨hrc, hrn⟩ := rngE m0 h0.2
  obtain ⟨n, hn⟩ : ∃ n : Nat, ((if (if (63 : Int) < ((ns.length : Nat) : Int) then (63 : Int) else ((ns.length : Nat) : Int)) > 4 then (if (63 : Int) < ((ns.length : Nat) : Int) then (63 : Int) else ((ns.length : Nat) : Int)) else (4 : Int)) - 1).toNat = n ∧ RngP 1 (if (if (63 : Int) < ((ns.length : Nat) : Int) then (63 : Int) else ((ns.length : Nat) : Int)) > 4 then (if (63 : Int) < ((ns.length : Nat) : Int) then (63 : Int) else ((ns.length : Nat) : Int)) else (4 : Int)) := by
    refine ⟨_, rfl, rngB (by decide) (by decide), rngB ?_ ?_⟩
    · repeat' split
      all_goals omega
    · repeat' split
      all_goals omega
  have z0 : ((0 : Nat) : Int) = 0 := rfl
  rw [z0] at e0
  have hbx : ([] : List Cell) ++ [Cell.lst [.int q.1, .int q.2.1, .int q.2.2]] = [bx q] := rfl
  have e0' : callF T 19 14 [(.val, .scr (ns.map D.int)), (.val, .int 0)] [] = .ok (.val, .int v) [] := e0
  have e1' : callF T 19 15 [(.val, .int v)] [] = .ok (.own, .lst [.int q.1, .int q.2.1, .int q.2.2]) [] := e1
  have e2' : callF T 19 16 [(.val, .ref 0), (.val, .int 225)] [bx q] = .ok (.val, .int (r1 : Int)) [bx q1] := e2
  have e3' : callF T 19 16 [(.val, .ref 0), (.val, .int 3)] [bx q1] = .ok (.val, .int (r2 : Int)) [bx q2] := e3
  have e5' : callF T 19 16 [(.val, .ref 0), (.val, .int 45)] [bx q2] = .ok (.val, .int (r3 : Int)) [bx q3] := e5
  have e8' : callF T 19 16 [(.val, .ref 0), (.val, .int 8)] ([bx q3, bk m0 2, rwS [(0, m0)], bk m1 4, rwS [(0, m1)]] ++ [.lst (frD (fun _ => true) m0), .lst (frD (fun _ => true) m1)]) = .ok (.val, .int (r8 : Int)) ([bx q8, bk m0 2, rwS [(0, m0)], bk m1 4, rwS [(0, m1)]] ++ [.lst (frD (fun _ => true) m0), .lst (frD (fun _ => true) m1)]) := e8
  -- every second cell, or none
  have mid : ∃ (S' : List Cell) (y6 : Option Sl), evS (callF T 19) (.ite (.cmp .eq (.call 16 (.cons (.pk 1) (.cons (.con (.int 8)) .nil))) (.con (.int 0))) (.cons (.forS (.nm 6) (.rng3 (.con (.int 0)) (.ix (.pk 2) (.con (.int 0))) 2) l23_2) .nil) .nil) ⟨E0 ns (some (.val, .ref 0)) (some (.own, .lst [.int (m0 : Int), .int (m1 : Int)])) (some (.own, .lst [.ref 1, .ref 3])) none (some (.own, .lst [.ref 5, .ref 6])) none none, [bx q3, bk m0 2, rwS [(0, m0)], bk m1 4, rwS [(0, m1)]] ++ [.lst (frD (fun _ => true) m0), .lst (frD (fun _ => true) m1)]⟩ = .nx ⟨E0 ns (some (.val, .ref 0)) (some (.own, .lst [.int (m0 : Int), .int (m1 : Int)])) (some (.own, .lst [.ref 1, .ref 3])) none (some (.own, .lst [.ref 5, .ref 6])) y6 none, S'⟩ ∧ JJ S' m0 m1 := by
    generalize [bx q3, bk m0 2, rwS [(0, m0)], bk m1 4, rwS [(0, m1)]] ++ [Cell.lst (frD (fun _ => true) m0), .lst (frD (fun _ => true) m1)] = Sa at e8'
    generalize [bx q8, bk m0 2, rwS [(0, m0)], bk m1 4, rwS [(0, m1)]] ++ [Cell.lst (frD (fun _ => true) m0), .lst (frD (fun _ => true) m1)] = Sb at e8' j0
    unfold E0
    by_cases c : (r8 : Int) = 0
    · obtain ⟨y6, S', e9, hJ⟩ := evens 13 m0 m1 h0 h1 Sb _ _ _ _ j0 (fun _ => rfl) (some (.val, .scr (ns.map D.int))) (some (.val, .ref 0)) (some (.own, .lst [.int (m0 : Int), .int (m1 : Int)])) none none none none none none none none none none none
      refine ⟨S', y6, ?_, hJ⟩
      refine (ite_t (s1 := ⟨[some (.val, .scr (ns.map D.int)), some (.val, .ref 0), some (.own, .lst [.int (m0 : Int), .int (m1 : Int)]), some (.own, .lst [.ref 1, .ref 3]), none, some (.own, .lst [.ref 5, .ref 6]), none, none, none, none, none, none, none, none, none, none], Sb⟩) ?_).trans ?_
      · simp (implicitDefEqProofs := false) only [Int.cast_ofNat_Int, T, List.length_cons, List.length_nil, List.map_cons, List.map_nil, List.replicate, List.cons_append, List.nil_append, evSs, evS, evE, evL, evA, evP, itE, Out.bind, Out.then, OutL.bind, asgP, putS, onB, onS, lift, binR, addR, mulR, binD, cmpD, lstOf, lsqOf, seqOf, lenD, biV, on1, on2, Sr.intD, int2D, vI, vB, ixD, valO, argO, toVal, back1, orS, intV, celL, putC, putO, ownL, endF, tyD, srcM, srcO, walkOf, keyD, augD, Sr.part, pOk, bindP, bindPs, Option.map, List.getElem?_cons_zero, List.getElem?_cons_succ, List.set, List.length_set, ite_true, ite_false, reduceIte, Nat.reduceAdd, Nat.reduceSub, Nat.reduceLT, Nat.reduceEqDiff, Bool.false_eq_true, Bool.not_true, Bool.not_false, decide_true, decide_false, eqD_int, beq_iff_eq, beq_self_eq_true, Bool.not_eq_true', beq_eq_false_iff_ne, ne_eq, not_true_eq_false, not_false_eq_true, compO, compKO, vsOk, wipeD, back, List.all_cons, List.all_nil, List.foldl_cons, List.foldl_nil, Bool.and_true, Bool.true_and, Bool.and_self, Option.getD_some, Option.getD_none, decide_eq_true_eq, List.length_map, atI_0, atI_1, atI_2, lim0, lim1, lim2, lim3, lim4, lim5, lim6, lim7, lim8, lim9, lim10, lim11, lim12, set_last, get_last, eqD_pair, slV, rngL, and_self, true_and, and_true, isa_NoneType_bool, isa_NoneType_int, isa_NoneType_str, isa_NoneType_tuple, isa_NoneType_list, isa_NoneType_dict, isa_bool_bool, isa_bool_int, isa_bool_str, isa_bool_tuple, isa_bool_list, isa_bool_dict, isa_int_bool, isa_int_int, isa_int_str, isa_int_tuple, isa_int_list, isa_int_dict, isa_str_bool, isa_str_int, isa_str_str, isa_str_tuple, isa_str_list, isa_str_dict, isa_tuple_bool, isa_tuple_int, isa_tuple_str, isa_tuple_tuple, isa_tuple_list, isa_tuple_dict, isa_list_bool, isa_list_int, isa_list_str, isa_list_tuple, isa_list_list, isa_list_dict, isa_dict_bool, isa_dict_int, isa_dict_str, isa_dict_tuple, isa_dict_list, isa_dict_dict, ixN_30, ixN_31, ixN_32, e8', c]
      · simp (implicitDefEqProofs := false) only [Int.cast_ofNat_Int, T, List.length_cons, List.length_nil, List.map_cons, List.map_nil, List.replicate, List.cons_append, List.nil_append, evSs, evS, evE, evL, evA, evP, itE, Out.bind, Out.then, OutL.bind, asgP, putS, onB, onS, lift, binR, addR, mulR, binD, cmpD, lstOf, lsqOf, seqOf, lenD, biV, on1, on2, Sr.intD, int2D, vI, vB, ixD, valO, argO, toVal, back1, orS, intV, celL, putC, putO, ownL, endF, tyD, srcM, srcO, walkOf, keyD, augD, Sr.part, pOk, bindP, bindPs, Option.map, List.getElem?_cons_zero, List.getElem?_cons_succ, List.set, List.length_set, ite_true, ite_false, reduceIte, Nat.reduceAdd, Nat.reduceSub, Nat.reduceLT, Nat.reduceEqDiff, Bool.false_eq_true, Bool.not_true, Bool.not_false, decide_true, decide_false, eqD_int, beq_iff_eq, beq_self_eq_true, Bool.not_eq_true', beq_eq_false_iff_ne, ne_eq, not_true_eq_false, not_false_eq_true, compO, compKO, vsOk, wipeD, back, List.all_cons, List.all_nil, List.foldl_cons, List.foldl_nil, Bool.and_true, Bool.true_and, Bool.and_self, Option.getD_some, Option.getD_none, decide_eq_true_eq, List.length_map, atI_0, atI_1, atI_2, lim0, lim1, lim2, lim3, lim4, lim5, lim6, lim7, lim8, lim9, lim10, lim11, lim12, set_last, get_last, eqD_pair, slV, rngL, and_self, true_and, and_true, isa_NoneType_bool, isa_NoneType_int, isa_NoneType_str, isa_NoneType_tuple, isa_NoneType_list, isa_NoneType_dict, isa_bool_bool, isa_bool_int, isa_bool_str, isa_bool_tuple, isa_bool_list, isa_bool_dict, isa_int_bool, isa_int_int, isa_int_str, isa_int_tuple, isa_int_list, isa_int_dict, isa_str_bool, isa_str_int, isa_str_str, isa_str_tuple, isa_str_list, isa_str_dict, isa_tuple_bool, isa_tuple_int, isa_tuple_str, isa_tuple_tuple, isa_tuple_list, isa_tuple_dict, isa_list_bool, isa_list_int, isa_list_str, isa_list_tuple, isa_list_list, isa_list_dict, isa_dict_bool, isa_dict_int, isa_dict_str, isa_dict_tuple, isa_dict_list, isa_dict_dict, ixN_30, ixN_31, ixN_32, hrc, hrn, e9]
    · refine ⟨Sb, none, ?_, _, _, _, _, j0⟩
      refine (ite_f (s1 := ⟨[some (.val, .scr (ns.map D.int)), some (.val, .ref 0), some (.own, .lst [.int (m0 : Int), .int (m1 : Int)]), some (.own, .lst [.ref 1, .ref 3]), none, some (.own, .lst [.ref 5, .ref 6]), none, none, none, none, none, none, none, none, none, none], Sb⟩) ?_).trans ?_
      · have cb : ((r8 : Int) == 0) = false := beq_eq_false_iff_ne.mpr c
        simp (implicitDefEqProofs := false) only [Int.cast_ofNat_Int, T, List.length_cons, List.length_nil, List.map_cons, List.map_nil, List.replicate, List.cons_append, List.nil_append, evSs, evS, evE, evL, evA, evP, itE, Out.bind, Out.then, OutL.bind, asgP, putS, onB, onS, lift, binR, addR, mulR, binD, cmpD, lstOf, lsqOf, seqOf, lenD, biV, on1, on2, Sr.intD, int2D, vI, vB, ixD, valO, argO, toVal, back1, orS, intV, celL, putC, putO, ownL, endF, tyD, srcM, srcO, walkOf, keyD, augD, Sr.part, pOk, bindP, bindPs, Option.map, List.getElem?_cons_zero, List.getElem?_cons_succ, List.set, List.length_set, ite_true, ite_false, reduceIte, Nat.reduceAdd, Nat.reduceSub, Nat.reduceLT, Nat.reduceEqDiff, Bool.false_eq_true, Bool.not_true, Bool.not_false, decide_true, decide_false, eqD_int, beq_iff_eq, beq_self_eq_true, Bool.not_eq_true', beq_eq_false_iff_ne, ne_eq, not_true_eq_false, not_false_eq_true, compO, compKO, vsOk, wipeD, back, List.all_cons, List.all_nil, List.foldl_cons, List.foldl_nil, Bool.and_true, Bool.true_and, Bool.and_self, Option.getD_some, Option.getD_none, decide_eq_true_eq, List.length_map, atI_0, atI_1, atI_2, lim0, lim1, lim2, lim3, lim4, lim5, lim6, lim7, lim8, lim9, lim10, lim11, lim12, set_last, get_last, eqD_pair, slV, rngL, and_self, true_and, and_true, isa_NoneType_bool, isa_NoneType_int, isa_NoneType_str, isa_NoneType_tuple, isa_NoneType_list, isa_NoneType_dict, isa_bool_bool, isa_bool_int, isa_bool_str, isa_bool_tuple, isa_bool_list, isa_bool_dict, isa_int_bool, isa_int_int, isa_int_str, isa_int_tuple, isa_int_list, isa_int_dict, isa_str_bool, isa_str_int, isa_str_str, isa_str_tuple, isa_str_list, isa_str_dict, isa_tuple_bool, isa_tuple_int, isa_tuple_str, isa_tuple_tuple, isa_tuple_list, isa_tuple_dict, isa_list_bool, isa_list_int, isa_list_str, isa_list_tuple, isa_list_list, isa_list_dict, isa_dict_bool, isa_dict_int, isa_dict_str, isa_dict_tuple, isa_dict_list, isa_dict_dict, ixN_30, ixN_31, ixN_32, e8', cb]
      · simp (implicitDefEqProofs := false) only [Int.cast_ofNat_Int, T, List.length_cons, List.length_nil, List.map_cons, List.map_nil, List.replicate, List.cons_append, List.nil_append, evSs, evS, evE, evL, evA, evP, itE, Out.bind, Out.then, OutL.bind, asgP, putS, onB, onS, lift, binR, addR, mulR, binD, cmpD, lstOf, lsqOf, seqOf, lenD, biV, on1, on2, Sr.intD, int2D, vI, vB, ixD, valO, argO, toVal, back1, orS, intV, celL, putC, putO, ownL, endF, tyD, srcM, srcO, walkOf, keyD, augD, Sr.part, pOk, bindP, bindPs, Option.map, List.getElem?_cons_zero, List.getElem?_cons_succ, List.set, List.length_set, ite_true, ite_false, reduceIte, Nat.reduceAdd, Nat.reduceSub, Nat.reduceLT, Nat.reduceEqDiff, Bool.false_eq_true, Bool.not_true, Bool.not_false, decide_true, decide_false, eqD_int, beq_iff_eq, beq_self_eq_true, Bool.not_eq_true', beq_eq_false_iff_ne, ne_eq, not_true_eq_false, not_false_eq_true, compO, compKO, vsOk, wipeD, back, List.all_cons, List.all_nil, List.foldl_cons, List.foldl_nil, Bool.and_true, Bool.true_and, Bool.and_self, Option.getD_some, Option.getD_none, decide_eq_true_eq, List.length_map, atI_0, atI_1, atI_2, lim0, lim1, lim2, lim3, lim4, lim5, lim6, lim7, lim8, lim9, lim10, lim11, lim12, set_last, get_last, eqD_pair, slV, rngL, and_self, true_and, and_true, isa_NoneType_bool, isa_NoneType_int, isa_NoneType_str, isa_NoneType_tuple, isa_NoneType_list, isa_NoneType_dict, isa_bool_bool, isa_bool_int, isa_bool_str, isa_bool_tuple, isa_bool_list, isa_bool_dict, isa_int_bool, isa_int_int, isa_int_str, isa_int_tuple, isa_int_list, isa_int_dict, isa_str_bool, isa_str_int, isa_str_str, isa_str_tuple, isa_str_list, isa_str_dict, isa_tuple_bool, isa_tuple_int, isa_tuple_str, isa_tuple_tuple, isa_tuple_list, isa_tuple_dict, isa_list_bool, isa_list_int, isa_list_str, isa_list_tuple, isa_list_list, isa_list_dict, isa_dict_bool, isa_dict_int, isa_dict_str, isa_dict_tuple, isa_dict_list, isa_dict_dict, ixN_30, ixN_31, ixN_32]
  obtain ⟨S', y6, e9, hJ⟩ := mid
  obtain ⟨y7, y8, y9, y10, y11, y12, y13, y14, y15, S2, e10⟩ := loop 13 ns m0 m1 h0 h1 n S' hJ (some (.val, .ref 0)) (some (.own, .lst [.int (m0 : Int), .int (m1 : Int)])) none y6 none none none none none none none none none
  refine ⟨S2, ?_⟩
  rw [callF_succ]
  show endF (evSs (callF T 19) b23 ⟨E0 ns none none none none none none none, []⟩) = _
  unfold b23
  refine Eq.trans (congrArg endF (ss_go (s1 := ⟨E0 ns (some (.val, .ref 0)) none none none none none none, [bx q]⟩) ?_)) ?_
  · unfold E0
    simp (implicitDefEqProofs := false) only [Int.cast_ofNat_Int, T, List.length_cons, List.length_nil, List.map_cons, List.map_nil, List.replicate, List.cons_append, List.nil_append, evSs, evS, evE, evL, evA, evP, itE, Out.bind, Out.then, OutL.bind, asgP, putS, onB, onS, lift, binR, addR, mulR, binD, cmpD, lstOf, lsqOf, seqOf, lenD, biV, on1, on2, Sr.intD, int2D, vI, vB, ixD, valO, argO, toVal, back1, orS, intV, celL, putC, putO, ownL, endF, tyD, srcM, srcO, walkOf, keyD, augD, Sr.part, pOk, bindP, bindPs, Option.map, List.getElem?_cons_zero, List.getElem?_cons_succ, List.set, List.length_set, ite_true, ite_false, reduceIte, Nat.reduceAdd, Nat.reduceSub, Nat.reduceLT, Nat.reduceEqDiff, Bool.false_eq_true, Bool.not_true, Bool.not_false, decide_true, decide_false, eqD_int, beq_iff_eq, beq_self_eq_true, Bool.not_eq_true', beq_eq_false_iff_ne, ne_eq, not_true_eq_false, not_false_eq_true, compO, compKO, vsOk, wipeD, back, List.all_cons, List.all_nil, List.foldl_cons, List.foldl_nil, Bool.and_true, Bool.true_and, Bool.and_self, Option.getD_some, Option.getD_none, decide_eq_true_eq, List.length_map, atI_0, atI_1, atI_2, lim0, lim1, lim2, lim3, lim4, lim5, lim6, lim7, lim8, lim9, lim10, lim11, lim12, set_last, get_last, eqD_pair, slV, rngL, and_self, true_and, and_true, isa_NoneType_bool, isa_NoneType_int, isa_NoneType_str, isa_NoneType_tuple, isa_NoneType_list, isa_NoneType_dict, isa_bool_bool, isa_bool_int, isa_bool_str, isa_bool_tuple, isa_bool_list, isa_bool_dict, isa_int_bool, isa_int_int, isa_int_str, isa_int_tuple, isa_int_list, isa_int_dict, isa_str_bool, isa_str_int, isa_str_str, isa_str_tuple, isa_str_list, isa_str_dict, isa_tuple_bool, isa_tuple_int, isa_tuple_str, isa_tuple_tuple, isa_tuple_list, isa_tuple_dict, isa_list_bool, isa_list_int, isa_list_str, isa_list_tuple, isa_list_list, isa_list_dict, isa_dict_bool, isa_dict_int, isa_dict_str, isa_dict_tuple, isa_dict_list, isa_dict_dict, ixN_30, ixN_31, ixN_32, e0', e1', hbx]
  refine Eq.trans (congrArg endF (ss_go (s1 := ⟨E0 ns (some (.val, .ref 0)) (some (.own, .lst [.int (m0 : Int), .int (m1 : Int)])) none none none none none, [bx q3]⟩) ?_)) ?_
  · unfold E0
    rw [em1]
    simp (implicitDefEqProofs := false) only [Int.cast_ofNat_Int, T, List.length_cons, List.length_nil, List.map_cons, List.map_nil, List.replicate, List.cons_append, List.nil_append, evSs, evS, evE, evL, evA, evP, itE, Out.bind, Out.then, OutL.bind, asgP, putS, onB, onS, lift, binR, addR, mulR, binD, cmpD, lstOf, lsqOf, seqOf, lenD, biV, on1, on2, Sr.intD, int2D, vI, vB, ixD, valO, argO, toVal, back1, orS, intV, celL, putC, putO, ownL, endF, tyD, srcM, srcO, walkOf, keyD, augD, Sr.part, pOk, bindP, bindPs, Option.map, List.getElem?_cons_zero, List.getElem?_cons_succ, List.set, List.length_set, ite_true, ite_false, reduceIte, Nat.reduceAdd, Nat.reduceSub, Nat.reduceLT, Nat.reduceEqDiff, Bool.false_eq_true, Bool.not_true, Bool.not_false, decide_true, decide_false, eqD_int, beq_iff_eq, beq_self_eq_true, Bool.not_eq_true', beq_eq_false_iff_ne, ne_eq, not_true_eq_false, not_false_eq_true, compO, compKO, vsOk, wipeD, back, List.all_cons, List.all_nil, List.foldl_cons, List.foldl_nil, Bool.and_true, Bool.true_and, Bool.and_self, Option.getD_some, Option.getD_none, decide_eq_true_eq, List.length_map, atI_0, atI_1, atI_2, lim0, lim1, lim2, lim3, lim4, lim5, lim6, lim7, lim8, lim9, lim10, lim11, lim12, set_last, get_last, eqD_pair, slV, rngL, and_self, true_and, and_true, isa_NoneType_bool, isa_NoneType_int, isa_NoneType_str, isa_NoneType_tuple, isa_NoneType_list, isa_NoneType_dict, isa_bool_bool, isa_bool_int, isa_bool_str, isa_bool_tuple, isa_bool_list, isa_bool_dict, isa_int_bool, isa_int_int, isa_int_str, isa_int_tuple, isa_int_list, isa_int_dict, isa_str_bool, isa_str_int, isa_str_str, isa_str_tuple, isa_str_list, isa_str_dict, isa_tuple_bool, isa_tuple_int, isa_tuple_str, isa_tuple_tuple, isa_tuple_list, isa_tuple_dict, isa_list_bool, isa_list_int, isa_list_str, isa_list_tuple, isa_list_list, isa_list_dict, isa_dict_bool, isa_dict_int, isa_dict_str, isa_dict_tuple, isa_dict_list, isa_dict_dict, ixN_30, ixN_31, ixN_32, e2', e3', e4, e5']
  refine Eq.trans (congrArg endF (ss_go (s1 := ⟨E0 ns (some (.val, .ref 0)) (some (.own, .lst [.int (m0 : Int), .int (m1 : Int)])) (some (.own, .lst [.ref 1, .ref 3])) none none none none, [bx q3, bk m0 2, rwS [(0, m0)], bk m1 4, rwS [(0, m1)]]⟩) ?_)) ?_
  · unfold E0
    unfold E0 at e6
    simp (implicitDefEqProofs := false) only [Int.cast_ofNat_Int, T, List.length_cons, List.length_nil, List.map_cons, List.map_nil, List.replicate, List.cons_append, List.nil_append, evSs, evS, evE, evL, evA, evP, itE, Out.bind, Out.then, OutL.bind, asgP, putS, onB, onS, lift, binR, addR, mulR, binD, cmpD, lstOf, lsqOf, seqOf, lenD, biV, on1, on2, Sr.intD, int2D, vI, vB, ixD, valO, argO, toVal, back1, orS, intV, celL, putC, putO, ownL, endF, tyD, srcM, srcO, walkOf, keyD, augD, Sr.part, pOk, bindP, bindPs, Option.map, List.getElem?_cons_zero, List.getElem?_cons_succ, List.set, List.length_set, ite_true, ite_false, reduceIte, Nat.reduceAdd, Nat.reduceSub, Nat.reduceLT, Nat.reduceEqDiff, Bool.false_eq_true, Bool.not_true, Bool.not_false, decide_true, decide_false, eqD_int, beq_iff_eq, beq_self_eq_true, Bool.not_eq_true', beq_eq_false_iff_ne, ne_eq, not_true_eq_false, not_false_eq_true, compO, compKO, vsOk, wipeD, back, List.all_cons, List.all_nil, List.foldl_cons, List.foldl_nil, Bool.and_true, Bool.true_and, Bool.and_self, Option.getD_some, Option.getD_none, decide_eq_true_eq, List.length_map, atI_0, atI_1, atI_2, lim0, lim1, lim2, lim3, lim4, lim5, lim6, lim7, lim8, lim9, lim10, lim11, lim12, set_last, get_last, eqD_pair, slV, rngL, and_self, true_and, and_true, isa_NoneType_bool, isa_NoneType_int, isa_NoneType_str, isa_NoneType_tuple, isa_NoneType_list, isa_NoneType_dict, isa_bool_bool, isa_bool_int, isa_bool_str, isa_bool_tuple, isa_bool_list, isa_bool_dict, isa_int_bool, isa_int_int, isa_int_str, isa_int_tuple, isa_int_list, isa_int_dict, isa_str_bool, isa_str_int, isa_str_str, isa_str_tuple, isa_str_list, isa_str_dict, isa_tuple_bool, isa_tuple_int, isa_tuple_str, isa_tuple_tuple, isa_tuple_list, isa_tuple_dict, isa_list_bool, isa_list_int, isa_list_str, isa_list_tuple, isa_list_list, isa_list_dict, isa_dict_bool, isa_dict_int, isa_dict_str, isa_dict_tuple, isa_dict_list, isa_dict_dict, ixN_30, ixN_31, ixN_32, e6]
  refine Eq.trans (congrArg endF (ss_go (s1 := ⟨E0 ns (some (.val, .ref 0)) (some (.own, .lst [.int (m0 : Int), .int (m1 : Int)])) (some (.own, .lst [.ref 1, .ref 3])) none (some (.own, .lst [.ref 5, .ref 6])) none none, [bx q3, bk m0 2, rwS [(0, m0)], bk m1 4, rwS [(0, m1)]] ++ [.lst (frD (fun _ => true) m0), .lst (frD (fun _ => true) m1)]⟩) ?_)) ?_
  · unfold E0
    unfold E0 at e7
    generalize [bx q3, bk m0 2, rwS [(0, m0)], bk m1 4, rwS [(0, m1)]] = Sc at e7
    simp (implicitDefEqProofs := false) only [Int.cast_ofNat_Int, T, List.length_cons, List.length_nil, List.map_cons, List.map_nil, List.replicate, List.cons_append, List.nil_append, evSs, evS, evE, evL, evA, evP, itE, Out.bind, Out.then, OutL.bind, asgP, putS, onB, onS, lift, binR, addR, mulR, binD, cmpD, lstOf, lsqOf, seqOf, lenD, biV, on1, on2, Sr.intD, int2D, vI, vB, ixD, valO, argO, toVal, back1, orS, intV, celL, putC, putO, ownL, endF, tyD, srcM, srcO, walkOf, keyD, augD, Sr.part, pOk, bindP, bindPs, Option.map, List.getElem?_cons_zero, List.getElem?_cons_succ, List.set, List.length_set, ite_true, ite_false, reduceIte, Nat.reduceAdd, Nat.reduceSub, Nat.reduceLT, Nat.reduceEqDiff, Bool.false_eq_true, Bool.not_true, Bool.not_false, decide_true, decide_false, eqD_int, beq_iff_eq, beq_self_eq_true, Bool.not_eq_true', beq_eq_false_iff_ne, ne_eq, not_true_eq_false, not_false_eq_true, compO, compKO, vsOk, wipeD, back, List.all_cons, List.all_nil, List.foldl_cons, List.foldl_nil, Bool.and_true, Bool.true_and, Bool.and_self, Option.getD_some, Option.getD_none, decide_eq_true_eq, List.length_map, atI_0, atI_1, atI_2, lim0, lim1, lim2, lim3, lim4, lim5, lim6, lim7, lim8, lim9, lim10, lim11, lim12, set_last, get_last, eqD_pair, slV, rngL, and_self, true_and, and_true, isa_NoneType_bool, isa_NoneType_int, isa_NoneType_str, isa_NoneType_tuple, isa_NoneType_list, isa_NoneType_dict, isa_bool_bool, isa_bool_int, isa_bool_str, isa_bool_tuple, isa_bool_list, isa_bool_dict, isa_int_bool, isa_int_int, isa_int_str, isa_int_tuple, isa_int_list, isa_int_dict, isa_str_bool, isa_str_int, isa_str_str, isa_str_tuple, isa_str_list, isa_str_dict, isa_tuple_bool, isa_tuple_int, isa_tuple_str, isa_tuple_tuple, isa_tuple_list, isa_tuple_dict, isa_list_bool, isa_list_int, isa_list_str, isa_list_tuple, isa_list_list, isa_list_dict, isa_dict_bool, isa_dict_int, isa_dict_str, isa_dict_tuple, isa_dict_list, isa_dict_dict, ixN_30, ixN_31, ixN_32, e7]
  refine Eq.trans (congrArg endF (ss_go e9)) ?_
  unfold E0
  simp (implicitDefEqProofs := false) only [Int.cast_ofNat_Int, T, List.length_cons, List.length_nil, List.map_cons, List.map_nil, List.replicate, List.cons_append, List.nil_append, evSs, evS, evE, evL, evA, evP, itE, Out.bind, Out.then, OutL.bind, asgP, putS, onB, onS, lift, binR, addR, mulR, binD, cmpD, lstOf, lsqOf, seqOf, lenD, biV, on1, on2, Sr.intD, int2D, vI, vB, ixD, valO, argO, toVal, back1, orS, intV, celL, putC, putO, ownL, endF, tyD, srcM, srcO, walkOf, keyD, augD, Sr.part, pOk, bindP, bindPs, Option.map, List.getElem?_cons_zero, List.getElem?_cons_succ, List.set, List.length_set, ite_true, ite_false, reduceIte, Nat.reduceAdd, Nat.reduceSub, Nat.reduceLT, Nat.reduceEqDiff, Bool.false_eq_true, Bool.not_true, Bool.not_false, decide_true, decide_false, eqD_int, beq_iff_eq, beq_self_eq_true, Bool.not_eq_true', beq_eq_false_iff_ne, ne_eq, not_true_eq_false, not_false_eq_true, compO, compKO, vsOk, wipeD, back, List.all_cons, List.all_nil, List.foldl_cons, List.foldl_nil, Bool.and_true, Bool.true_and, Bool.and_self, Option.getD_some, Option.getD_none, decide_eq_true_eq, List.length_map, atI_0, atI_1, atI_2, lim0, lim1, lim2, lim3, lim4, lim5, lim6, lim7, lim8, lim9, lim10, lim11, lim12, set_last, get_last, eqD_pair, slV, rngL, and_self, true_and, and_true, isa_NoneType_bool, isa_NoneType_int, isa_NoneType_str, isa_NoneType_tuple, isa_NoneType_list, isa_NoneType_dict, isa_bool_bool, isa_bool_int, isa_bool_str, isa_bool_tuple, isa_bool_list, isa_bool_dict, isa_int_bool, isa_int_int, isa_int_str, isa_int_tuple, isa_int_list, isa_int_dict, isa_str_bool, isa_str_int, isa_str_str, isa_str_tuple, isa_str_list, isa_str_dict, isa_tuple_bool, isa_tuple_int, isa_tuple_str, isa_tuple_tuple, isa_tuple_list, isa_tuple_dict, isa_list_bool, isa_list_int, isa_list_str, isa_list_tuple, isa_list_list, isa_list_dict, isa_dict_bool, isa_dict_int, isa_dict_str, isa_dict_tuple, isa_dict_list, isa_dict_dict, ixN_30, ixN_31, ixN_32, hn.1, hn.2, e10]
end Kx

open PySem PySem.W PyProof.Rows
set_option maxHeartbeats 0 in
theorem PySem.Challenge.cw_slideroom_k22_the_book_kept_holds : PySem.Challenge.rw_slideroom_k22_the_book_kept.Holds := by
  w_on; o_law; k_head; (case hw => w_witness2)
  k_fill
  refine L2.walk_of (l := PySem.Challenge.rw_slideroom_k22_the_book_kept) (n := 63) (k := 2 * 20) (x := "_law_script") (CX := fun w => L2.CX PySem.Challenge.pw_slideroom_k22_the_book_kept w) (sp := fun w => fun vs H Q E => ∀ B0 : Addr, Sr.spF ⟨_, Kx.obs B0⟩ (Sr.callF Kx.T 20) 23 vs H Q E) rfl (by decide) rfl ⟨rfl, by decide, by decide⟩ (fun w h Y => PySem.W.kIn_of Y) ?F (fun _ _ a ns hl hO hS _ => Sr.sp_law rfl hO hS (Kx.good ns hl)) (fun _ _ _ _ _ h => Sr.cx0 h)
  case F =>
    intro w mg fa h KX G hmg
    refine' Kx.all_mk KX G hmg ?n0 ?l0 ?c0 ?k0 ?n1 ?l1 ?c1 ?k1 ?n2 ?l2 ?c2 ?k2 ?n3 ?l3 ?c3 ?k3 ?n4 ?i4 ?l4 ?c4 ?k4 ?n5 ?i5 ?l5 ?c5 ?k5 ?n6 ?i6 ?l6 ?c6 ?k6 ?n7 ?i7 ?l7 ?c7 ?k7 ?n8 ?i8 ?l8 ?c8 ?k8 ?n9 ?i9 ?l9 ?c9 ?k9 ?n10 ?i10 ?l10 ?c10 ?k10 ?n11 ?i11 ?l11 ?c11 ?k11 ?n12 ?i12 ?l12 ?c12 ?k12 ?n13 ?i13 ?l13 ?c13 ?k13 ?n14 ?l14 ?c14 ?k14 ?n15 ?l15 ?c15 ?k15 ?n16 ?l16 ?c16 ?k16 ?n17 ?l17 ?c17 ?k17 ?n18 ?l18 ?c18 ?k18 ?n19 ?l19 ?c19 ?k19 ?n20 ?l20 ?c20 ?k20 ?n21 ?l21 ?c21 ?k21 ?n22 ?l22 ?c22 ?k22 ?n23 ?l23 ?c23 ?k23 ?z_bool ?z_enumerate ?z_int ?z_isinstance ?z_len ?z_list ?z_max ?z_min ?z_range ?z_sum ?z_tuple ?nB0 ?pg0 ?hd0 ?po0 ?sa0 ?mk0 ?kB0 ?na0_width ?na0_rows ?g_LEAST_CELLS ?r_LEAST_CELLS ?g_MOST_CELLS ?r_MOST_CELLS
    (case nB0 => k_is); (case n0 => k_is); (case l0 => k_is); (case c0 => k_is); (case k0 => k_is); (case n1 => k_is); (case l1 => k_is); (case c1 => k_is); (case k1 => k_is); (case n2 => k_is); (case l2 => k_is); (case c2 => k_is); (case k2 => k_is); (case n3 => k_is); (case l3 => k_is); (case c3 => k_is); (case k3 => k_is); (case n4 => k_is); (case i4 => k_is); (case l4 => k_is); (case c4 => k_is); (case k4 => k_is); (case n5 => k_is); (case i5 => k_is); (case l5 => k_is); (case c5 => k_is); (case k5 => k_is); (case n6 => k_is); (case i6 => k_is); (case l6 => k_is); (case c6 => k_is); (case k6 => k_is); (case n7 => k_is); (case i7 => k_is); (case l7 => k_is); (case c7 => k_is); (case k7 => k_is); (case n8 => k_is); (case i8 => k_is); (case l8 => k_is); (case c8 => k_is); (case k8 => k_is); (case n9 => k_is); (case i9 => k_is); (case l9 => k_is); (case c9 => k_is); (case k9 => k_is); (case n10 => k_is); (case i10 => k_is); (case l10 => k_is); (case c10 => k_is); (case k10 => k_is); (case n11 => k_is); (case i11 => k_is); (case l11 => k_is); (case c11 => k_is); (case k11 => k_is); (case n12 => k_is); (case i12 => k_is); (case l12 => k_is); (case c12 => k_is); (case k12 => k_is); (case n13 => k_is); (case i13 => k_is); (case l13 => k_is); (case c13 => k_is); (case k13 => k_is); (case n14 => k_is); (case l14 => k_is); (case c14 => k_is); (case k14 => k_is); (case n15 => k_is); (case l15 => k_is); (case c15 => k_is); (case k15 => k_is); (case n16 => k_is); (case l16 => k_is); (case c16 => k_is); (case k16 => k_is); (case n17 => k_is); (case l17 => k_is); (case c17 => k_is); (case k17 => k_is); (case n18 => k_is); (case l18 => k_is); (case c18 => k_is); (case k18 => k_is); (case n19 => k_is); (case l19 => k_is); (case c19 => k_is); (case k19 => k_is); (case n20 => k_is); (case l20 => k_is); (case c20 => k_is); (case k20 => k_is); (case n21 => k_is); (case l21 => k_is); (case c21 => k_is); (case k21 => k_is); (case n22 => k_is); (case l22 => k_is); (case c22 => k_is); (case k22 => k_is); (case n23 => k_is); (case l23 => k_is); (case c23 => k_is); (case k23 => k_is); (case z_bool => k_is); (case z_enumerate => k_is); (case z_int => k_is); (case z_isinstance => k_is); (case z_len => k_is); (case z_list => k_is); (case z_max => k_is); (case z_min => k_is); (case z_range => k_is); (case z_sum => k_is); (case z_tuple => k_is); (case pg0 => k_is); (case hd0 => k_is); (case po0 => k_is); (case sa0 => k_is); (case mk0 => k_is); (case kB0 => k_is); (case na0_width => k_is); (case na0_rows => k_is); (case g_LEAST_CELLS => k_is); (case g_MOST_CELLS => k_is); (case r_LEAST_CELLS => exact ⟨_, rfl⟩); (case r_MOST_CELLS => exact ⟨_, rfl⟩)
