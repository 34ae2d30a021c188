import PyProof.Rows.All
import Wide.All
import OpenK.AllK
import Wide.FinOn
import KE.KStateDown
import HandS.ForMost
import HandS.ForExc
import HandS.Defaults
import HandS.Conv
import HandS.Wide
import HandS.More
import HandS.Flow
import HandS.Lambda
import HandS.IsInst
import HandS.HeadHook1
import HandS.TupAny
import PyProof.NeKinds
import PyProof.NeData
import PyProof.ReprReads
import PyProof.ReprRoads
import PyProof.CallFns
import HandS.TryOnly
import HandS.Walk
import HandS.Small
import HandS.Zip
import HandS.Codes
import HandS.Style
import HandS.Property
import HandS.Text
import KE.GoesEnum
import HandS.Strs
import HandS.Star
import HandS.ListItems
import HandS.DictComp
import KE.GoesZip
import KE.GoesMore
import KE.KDictZip
import HandS.GenList
import HandS.List
import PyProof.ListStr
import HandS.TupLe
import HandS.Head0
import HandS.Head1
import HandS.Head2
import HandS.HeadEnd
import HandS.HeadHook2
import HandS.HeadNt
import HandS.ExcInit
import HandS.ExcSuper
import KE.KExcSuper
import KE.KSuper
import HandS.Exc
import HandS.ExcField
import KE.KExcIs
import HandS.ExcIs
import KE.KExcInit
import HandS.NestedK
import HandS.EndBits
import PyProof.TupleOfStr
import Wide.Once
import PySem.Challenge.RW_signsunread_k00_errors_keep_their_values
set_option Elab.async false
set_option linter.all false
/-! DxT0: the tables of code objects that a law's own lambdas write: the table, the code object's name. -/
namespace Dx
open PySem
class Tbs where
  tb : List (Addr × Str)
abbrev TB [Tbs] : List (Addr × Str) := Tbs.tb
end Dx

set_option Elab.async false
set_option linter.all false
set_option maxRecDepth 100000
set_option maxHeartbeats 1000000
/-! Dx: values as plain data; the readings of the hand layer over plain data. -/
namespace Dx
open PySem PySem.Spec PyProof.Rows L2
variable [Tbs]

/-- plain data -/
inductive D where
  | non | bl (b : Bool) | int (i : Int) | str (x : Str)
  | tup (l : List D) | lst (l : List D) | dic (l : List (Str × D))
  | ins (c : Str) (fs : List (Str × D)) | exn (c : Str) (d : D)

/-- a slot: unset; shared data; a container of this def's own; a borrowed one; one that the caller lent to be changed -/
inductive Sl where
  | un | sh (d : D) | ow (d : D) | br (d : D) | mt (d : D)

/-- what comes of a piece of code -/
inductive R (α : Type) where
  | ok (a : α) | exc (c : Str) (d : D) | bad

def R.bind {α β : Type} (r : R α) (k : α → R β) : R β := match r with
  | .ok a => k a
  | .exc c d => .exc c d
  | .bad => .bad
instance : Monad R where
  pure := R.ok
  bind := R.bind
@[simp] theorem R.bind_ok {α β : Type} (a : α) (k : α → R β) : (R.ok a).bind k = k a := rfl
@[simp] theorem R.bind_exc {α β : Type} (c : Str) (d : D) (k : α → R β) : (R.exc c d : R α).bind k = .exc c d := rfl
@[simp] theorem R.bind_bad {α β : Type} (k : α → R β) : (R.bad : R α).bind k = .bad := rfl
theorem R.bind_assoc {α β γ : Type} (r : R α) (k : α → R β) (l : β → R γ) : (r.bind k).bind l = r.bind fun a => (k a).bind l := by cases r <;> rfl

abbrev Frag := PySem.W.Frag
def keyP (p : Str × V) : Key × V := (Sum.inr p.1, p.2)
/-- a list that no one writes any more -/
def SqF (_K : Frag) (H : Hp) (a : Addr) (xs : List V) : Prop := ∃ o, H a = some (.frz o (.lst xs))
theorem SqF.l {K : Frag} {H : Hp} {a : Addr} {xs : List V} (h : SqF K H a xs) : SqL K H a xs := .inl (.inr h)
theorem SqF.rd {K : Frag} {H : Hp} {a : Addr} {xs : List V} (h : SqF K H a xs) : Rd H a (.lst xs) := .inr h
/-- a tuple as it is read -/
def SqU (K : Frag) (H : Hp) (a : Addr) (xs : List V) : Prop :=
  H a = some (.tup xs) ∨
    ∃ (o : Obj) (its : Array Value) (n : Nat), K.lookup a = some o ∧ o.cls = .type "tuple" ∧ o.data = .seq its n ∧ its.size ≤ sizeLine ∧ Vals xs its.toList
theorem SqU.t {K : Frag} {H : Hp} {a : Addr} {xs : List V} (h : SqU K H a xs) : SqT K H a xs := by
  rcases h with h | h
  · exact .inl (.inl h)
  · exact .inr h

/-- an exception object of the class at C whose own dict is at dx -/
def XOb (C : Value) (dx : Addr) (a : Addr) : HO := .ext fun h => ∃ (oe : Obj) (vs : Array Value), h.get? a = some oe ∧ oe.cls = C ∧ oe.dict = some dx ∧ oe.data = .fields vs

mutual
/-- the value stands for the data. Fz: the instances that are whole -/
inductive Den (K : Frag) (Fz : Addr → Prop) (H : Hp) : V → D → Prop where
  | non : Den K Fz H .non .non
  | bl (b : Bool) : Den K Fz H (.bl b) (.bl b)
  | int (i : Int) : Den K Fz H (.int i) (.int i)
  | str (x : Str) : Den K Fz H (.str x) (.str x)
  | tup {a : Addr} {vs : List V} {ds : List D} : SqU K H a vs → DenL K Fz H vs ds → Den K Fz H (.ref a) (.tup ds)
  | lst {a : Addr} {vs : List V} {ds : List D} : SqF K H a vs → DenL K Fz H vs ds → Den K Fz H (.ref a) (.lst ds)
  | dic {a : Addr} {o : Obj} {kvs : List (Str × V)} {ds : List (Str × D)} : H a = some (.frz o (.dK (kvs.map keyP))) → DenF K Fz H kvs ds → Den K Fz H (.ref a) (.dic ds)
  | ins {a dx : Addr} {c : Str} {fs : List (Str × V)} {ds : List (Str × D)} : Fz a → H a = some (.ins (He.ga K c) dx fs) → DenF K Fz H fs ds → Den K Fz H (.ref a) (.ins c ds)
  | exn {a dx : Addr} {c : Str} {v : V} {d : D} : H a = some (XOb (.ref (He.ga K c)) dx a) → H dx = some (.xd [("value", v)]) → Den K Fz H v d → Den K Fz H (.ref a) (.exn c d)
inductive DenL (K : Frag) (Fz : Addr → Prop) (H : Hp) : List V → List D → Prop where
  | nil : DenL K Fz H [] []
  | cons {v : V} {d : D} {vs : List V} {ds : List D} : Den K Fz H v d → DenL K Fz H vs ds → DenL K Fz H (v :: vs) (d :: ds)
inductive DenF (K : Frag) (Fz : Addr → Prop) (H : Hp) : List (Str × V) → List (Str × D) → Prop where
  | nil : DenF K Fz H [] []
  | cons {k : Str} {v : V} {d : D} {vs : List (Str × V)} {ds : List (Str × D)} : Den K Fz H v d → DenF K Fz H vs ds → DenF K Fz H ((k, v) :: vs) ((k, d) :: ds)
end

/-- what is never written -/
def Imm : HO → Prop
  | .tup _ => True
  | .frz _ _ => True
  | .xd _ => True
  | .ext _ => True
  | .tbl _ => True
  | _ => False

/-- .. the tables of code objects but: these grow -/
def Imx : HO → Prop
  | .tup _ => True
  | .frz _ _ => True
  | .xd _ => True
  | .ext _ => True
  | _ => False
theorem Imx.imm {o : HO} (h : Imx o) : Imm o := by cases o <;> first | exact trivial | exact h.elim
/-- no table -/
def NT : HO → Prop
  | .tbl _ => False
  | _ => True
theorem Imx.nt {o : HO} (h : Imx o) : NT o := by cases o <;> first | exact trivial | exact h.elim
/-- a table that is written bears what it shall -/
def TabZ (H : Hp) (P : Addr) (q : Str) : Prop := (P, q) ∈ TB → LamX.TabS H P q
theorem tab_new {H : Hp} {p P : Addr} {o : HO} {q : Str} (h : H p = none) (t : TabZ H P q) : TabZ (upd H p o) P q := fun m => (t m).ext fun b u e => by
  have : b ≠ p := fun z => by rw [z, h] at e; cases e
  rw [upd_ne this]; exact e
theorem tab_put {H : Hp} {p P : Addr} {o u : HO} {q : Str} (h : H p = some u) (ni : ¬ Imm u) (t : TabZ H P q) : TabZ (upd H p o) P q := fun m => by
  obtain ⟨ps, e, ok, hc⟩ := t m
  have h1 : P ≠ p := fun z => by rw [z, h] at e; cases e; exact ni trivial
  refine ⟨ps, by rw [upd_ne h1]; exact e, ok, fun pos cv hz => ?_⟩
  obtain ⟨c, e1, e2⟩ := hc pos cv hz
  have h2 : c ≠ p := fun z => by rw [z, h] at e2; cases e2; exact ni trivial
  exact ⟨c, e1, by rw [upd_ne h2]; exact e2⟩
theorem tab_un {H : Hp} {p P : Addr} {o : HO} {q : Str} (ni : ¬ Imm o) (t : TabZ (upd H p o) P q) : TabZ H P q := fun m => by
  obtain ⟨ps, e, ok, hc⟩ := t m
  have h1 : P ≠ p := fun z => by rw [z, upd_same] at e; cases e; exact ni trivial
  rw [upd_ne h1] at e
  refine ⟨ps, e, ok, fun pos cv hz => ?_⟩
  obtain ⟨c, e1, e2⟩ := hc pos cv hz
  have h2 : c ≠ p := fun z => by rw [z, upd_same] at e2; cases e2; exact ni trivial
  rw [upd_ne h2] at e2
  exact ⟨c, e1, e2⟩
/-- from (Fz, H) to (Fz', H'): data stays -/
structure Ge (Fz : Addr → Prop) (H : Hp) (Fz' : Addr → Prop) (H' : Hp) : Prop where
  imm : ∀ a o, Imx o → H a = some o → H' a = some o
  fz : ∀ a, Fz a → Fz' a
  fzk : ∀ a, Fz a → H' a = H a
  tab : ∀ P q, TabZ H P q → TabZ H' P q
theorem Ge.refl {Fz : Addr → Prop} {H : Hp} : Ge Fz H Fz H := ⟨fun _ _ _ h => h, fun _ h => h, fun _ _ => rfl, fun _ _ h => h⟩
theorem Ge.trans {F1 F2 F3 : Addr → Prop} {H1 H2 H3 : Hp} (a : Ge F1 H1 F2 H2) (b : Ge F2 H2 F3 H3) : Ge F1 H1 F3 H3 :=
  ⟨fun x o i h => b.imm x o i (a.imm x o i h), fun x h => b.fz x (a.fz x h), fun x h => (b.fzk x (a.fz x h)).trans (a.fzk x h), fun P q h => b.tab P q (a.tab P q h)⟩

section
variable {K : Frag} {Fz Fz' : Addr → Prop} {H H' : Hp}
theorem SqU.mono (g : Ge Fz H Fz' H') {a : Addr} {xs : List V} (h : SqU K H a xs) : SqU K H' a xs := by
  rcases h with h | h
  · exact .inl (g.imm a _ (by exact trivial) h)
  · exact .inr h
theorem SqF.mono (g : Ge Fz H Fz' H') {a : Addr} {xs : List V} (h : SqF K H a xs) : SqF K H' a xs :=
  let ⟨o, h⟩ := h; ⟨o, g.imm a _ (by exact trivial) h⟩
mutual
theorem Den.mono (g : Ge Fz H Fz' H') : ∀ {v : V} {d : D}, Den K Fz H v d → Den K Fz' H' v d
  | _, _, .non => .non
  | _, _, .bl b => .bl b
  | _, _, .int i => .int i
  | _, _, .str x => .str x
  | _, _, .tup h l => .tup (h.mono g) (l.mono g)
  | _, _, .lst h l => .lst (h.mono g) (l.mono g)
  | _, _, .dic h l => .dic (g.imm _ _ (by exact trivial) h) (l.mono g)
  | _, _, .ins z h l => .ins (g.fz _ z) ((g.fzk _ z).trans h) (l.mono g)
  | _, _, .exn h h2 l => .exn (g.imm _ _ (by exact trivial) h) (g.imm _ _ (by exact trivial) h2) (l.mono g)
theorem DenL.mono (g : Ge Fz H Fz' H') : ∀ {v : List V} {d : List D}, DenL K Fz H v d → DenL K Fz' H' v d
  | _, _, .nil => .nil
  | _, _, .cons h l => .cons (h.mono g) (l.mono g)
theorem DenF.mono (g : Ge Fz H Fz' H') : ∀ {v : List (Str × V)} {d : List (Str × D)}, DenF K Fz H v d → DenF K Fz' H' v d
  | _, _, .nil => .nil
  | _, _, .cons h l => .cons (h.mono g) (l.mono g)
end
theorem DenL.length : ∀ {v : List V} {d : List D}, DenL K Fz H v d → v.length = d.length
  | _, _, .nil => rfl
  | _, _, .cons _ l => congrArg Nat.succ l.length
theorem DenF.length : ∀ {v : List (Str × V)} {d : List (Str × D)}, DenF K Fz H v d → v.length = d.length
  | _, _, .nil => rfl
  | _, _, .cons _ l => congrArg Nat.succ l.length
theorem DenL.get : ∀ {v : List V} {d : List D} {i : Nat} {x : D}, DenL K Fz H v d → d[i]? = some x → ∃ u, v[i]? = some u ∧ Den K Fz H u x
  | _, _, _, _, .nil, e => by simp at e
  | _, _, 0, _, .cons h _, e => by simp at e; subst e; exact ⟨_, rfl, h⟩
  | _, _, i + 1, x, .cons _ l, e => by
    obtain ⟨u, h1, h2⟩ := DenL.get (i := i) (x := x) l (by simpa using e)
    exact ⟨u, by simpa using h1, h2⟩
theorem DenL.append : ∀ {v v2 : List V} {d d2 : List D}, DenL K Fz H v d → DenL K Fz H v2 d2 → DenL K Fz H (v ++ v2) (d ++ d2)
  | _, _, _, _, .nil, h => h
  | _, _, _, _, .cons a l, h => .cons a (l.append h)
theorem DenL.take : ∀ {v : List V} {d : List D} (n : Nat), DenL K Fz H v d → DenL K Fz H (v.take n) (d.take n)
  | _, _, 0, _ => .nil
  | _, _, _ + 1, .nil => .nil
  | _, _, n + 1, .cons a l => .cons a (l.take n)
theorem DenL.drop : ∀ {v : List V} {d : List D} (n : Nat), DenL K Fz H v d → DenL K Fz H (v.drop n) (d.drop n)
  | _, _, 0, h => h
  | _, _, _ + 1, .nil => .nil
  | _, _, n + 1, .cons _ l => l.drop n
theorem DenL.set {x : V} {y : D} (h : Den K Fz H x y) : ∀ {v : List V} {d : List D} (n : Nat), DenL K Fz H v d → DenL K Fz H (v.set n x) (d.set n y)
  | _, _, _, .nil => .nil
  | _, _, 0, .cons _ l => .cons h l
  | _, _, n + 1, .cons a l => .cons a (DenL.set h n l)
theorem DenL.eraseIdx : ∀ {v : List V} {d : List D} (n : Nat), DenL K Fz H v d → DenL K Fz H (v.eraseIdx n) (d.eraseIdx n)
  | _, _, _, .nil => .nil
  | _, _, 0, .cons _ l => l
  | _, _, n + 1, .cons a l => .cons a (DenL.eraseIdx n l)
theorem DenL.reverse {v : List V} {d : List D} (h : DenL K Fz H v d) : DenL K Fz H v.reverse d.reverse := by
  have gen : ∀ {v : List V} {d : List D}, DenL K Fz H v d → ∀ {v2 : List V} {d2 : List D}, DenL K Fz H v2 d2 → DenL K Fz H (v.reverseAux v2) (d.reverseAux d2) := by
    intro v d h
    induction v generalizing d with
    | nil => cases h; intro v2 d2 h2; exact h2
    | cons x r ih =>
      cases h with
      | cons a l => intro v2 d2 h2; exact ih l (.cons a h2)
  exact gen h .nil
theorem DenF.lookup : ∀ {v : List (Str × V)} {d : List (Str × D)} {k : Str} {x : D}, DenF K Fz H v d → d.lookup k = some x → ∃ u, v.lookup k = some u ∧ Den K Fz H u x
  | _, _, _, _, .nil, e => by cases e
  | _, _, k, x, .cons (k := k0) h l, e => by
    rw [List.lookup_cons] at e ⊢
    cases q : (k == k0) with
    | true => rw [q] at e; cases e; exact ⟨_, rfl, h⟩
    | false => rw [q] at e; exact DenF.lookup l e
theorem DenF.keys : ∀ {v : List (Str × V)} {d : List (Str × D)}, DenF K Fz H v d → v.map (·.1) = d.map (·.1)
  | _, _, .nil => rfl
  | _, _, .cons _ l => congrArg (_ :: ·) l.keys
end

/-- what one activation of a def starts from: ex: the addresses of what it may change for its caller; mts: their slots -/
structure Bs where
  K : Frag
  ex : Addr → Prop
  Fz0 : Addr → Prop
  H0 : Hp
  mts : Nat → Addr → Prop
  bd : Addr → Prop

/-- from (Fz, H) to (Fz', H'): all stays but what is at ex -/
structure Ext (ex : Addr → Prop) (Fz : Addr → Prop) (H : Hp) (Fz' : Addr → Prop) (H' : Hp) : Prop where
  ge : Ge Fz H Fz' H'
  keep : ∀ a o, H a = some o → ¬ ex a → (nt : NT o := by exact trivial) → H' a = some o
  nofz : ∀ a, Fz' a → Fz a ∨ H a = none ∨ ex a
  there : ∀ a o, H a = some o → ∃ o', H' a = some o'
theorem Ext.refl {ex Fz : Addr → Prop} {H : Hp} : Ext ex Fz H Fz H := ⟨.refl, fun _ _ h _ _ => h, fun _ h => .inl h, fun _ o h => ⟨o, h⟩⟩
theorem Ext.trans {e0 e1 F0 F1 F2 : Addr → Prop} {H0 H1 H2 : Hp} (a : Ext e0 F0 H0 F1 H1) (b : Ext e1 F1 H1 F2 H2) (h : ∀ x, e1 x → H0 x = none ∨ e0 x) : Ext e0 F0 H0 F2 H2 where
  ge := a.ge.trans b.ge
  keep := fun x o q n nt => b.keep x o (a.keep x o q n nt) (fun z => by
    rcases h x z with z | z
    · rw [q] at z; cases z
    · exact n z) nt
  nofz := fun x z => by
    rcases b.nofz x z with z | z | z
    · exact a.nofz x z
    · by_cases q : e0 x
      · exact .inr (.inr q)
      · cases w : H0 x with
        | none => exact .inr (.inl rfl)
        | some o =>
          obtain ⟨o', this⟩ := a.there x o w
          rw [z] at this; cases this
    · rcases h x z with z | z
      · exact .inr (.inl z)
      · exact .inr (.inr z)
  there := fun x o q => let ⟨o', q'⟩ := a.there x o q; b.there x o' q'
/-- whole instances stand -/
def FzOk (Fz : Addr → Prop) (H : Hp) : Prop := ∀ a, Fz a → ∃ C dx fs, H a = some (.ins C dx fs)

/-- a container of one's own: its members are shared data -/
def Own (K : Frag) (Fz : Addr → Prop) (H : Hp) (a : Addr) : D → Prop
  | .lst ds => ∃ vs, H a = some (.lst vs) ∧ DenL K Fz H vs ds
  | .dic ds => ∃ kvs, H a = some (.dK (kvs.map keyP)) ∧ DenF K Fz H kvs ds
  | .ins c ds => ∃ dx fs, H a = some (.ins (He.ga K c) dx fs) ∧ ¬ Fz a ∧ DenF K Fz H fs ds
  | _ => False
/-- a container that is read -/
def Brw (K : Frag) (Fz : Addr → Prop) (H : Hp) (a : Addr) : D → Prop
  | .lst ds => ∃ vs, Rd H a (.lst vs) ∧ DenL K Fz H vs ds
  | .dic ds => ∃ kvs, Rd H a (.dK (kvs.map keyP)) ∧ DenF K Fz H kvs ds
  | _ => False
section
variable {K : Frag} {Fz Fz' : Addr → Prop} {H H' : Hp}
theorem Own.there {a : Addr} {d : D} (h : Own K Fz H a d) : ∃ o, H a = some o ∧ ¬ Imm o ∧ Mut (some o) := by
  cases d with
  | lst ds => obtain ⟨vs, e, _⟩ := h; exact ⟨_, e, fun z => z, trivial⟩
  | dic ds => obtain ⟨vs, e, _⟩ := h; exact ⟨_, e, fun z => z, trivial⟩
  | ins c ds => obtain ⟨dx, fs, e, _⟩ := h; exact ⟨_, e, fun z => z, trivial⟩
  | _ => exact h.elim
theorem Own.nofz (f : FzOk Fz H) {a : Addr} {d : D} (h : Own K Fz H a d) : ¬ Fz a := by
  intro z
  obtain ⟨C, dx, fs, e⟩ := f a z
  cases d with
  | lst ds => obtain ⟨vs, e2, _⟩ := h; rw [e] at e2; cases e2
  | dic ds => obtain ⟨vs, e2, _⟩ := h; rw [e] at e2; cases e2
  | ins c ds => obtain ⟨dx, fs, e2, n, _⟩ := h; exact n z
  | _ => exact h.elim
/-- kept by a step that leaves a -/
theorem Own.keep {ex : Addr → Prop} (g : Ext ex Fz H Fz' H') {a : Addr} {d : D} (h : Own K Fz H a d) (n : ¬ ex a) : Own K Fz' H' a d := by
  cases d with
  | lst ds => obtain ⟨vs, e, l⟩ := h; exact ⟨vs, g.keep a _ e n, l.mono g.ge⟩
  | dic ds => obtain ⟨vs, e, l⟩ := h; exact ⟨vs, g.keep a _ e n, l.mono g.ge⟩
  | ins c ds =>
    obtain ⟨dx, fs, e, z, l⟩ := h
    refine ⟨dx, fs, g.keep a _ e n, fun q => ?_, l.mono g.ge⟩
    rcases g.nofz a q with q | q | q
    · exact z q
    · rw [e] at q; cases q
    · exact n q
  | _ => exact h.elim
theorem Rd.keep {ex : Addr → Prop} (g : Ext ex Fz H Fz' H') {a : Addr} {u : HO} (h : Rd H a u) (n : ¬ ex a) (nt : NT u := by exact trivial) : Rd H' a u := by
  rcases h with h | ⟨o, h⟩
  · exact .inl (g.keep a _ h n nt)
  · exact .inr ⟨o, g.ge.imm a _ (by exact trivial) h⟩
theorem Brw.keep {ex : Addr → Prop} (g : Ext ex Fz H Fz' H') {a : Addr} {d : D} (h : Brw K Fz H a d) (n : ¬ ex a) : Brw K Fz' H' a d := by
  cases d with
  | lst ds => obtain ⟨vs, e, l⟩ := h; exact ⟨vs, Rd.keep g e n, l.mono g.ge⟩
  | dic ds => obtain ⟨vs, e, l⟩ := h; exact ⟨vs, Rd.keep g e n, l.mono g.ge⟩
  | _ => exact h.elim
theorem Brw.there {a : Addr} {d : D} (h : Brw K Fz H a d) : ∃ o, H a = some o := by
  cases d with
  | lst ds => obtain ⟨vs, e | ⟨o, e⟩, _⟩ := h <;> exact ⟨_, e⟩
  | dic ds => obtain ⟨vs, e | ⟨o, e⟩, _⟩ := h <;> exact ⟨_, e⟩
  | _ => exact h.elim
theorem Own.brw {a : Addr} {d : D} (h : Own K Fz H a d) (hd : ∀ c fs, d ≠ .ins c fs) : Brw K Fz H a d := by
  cases d with
  | lst ds => obtain ⟨vs, e, l⟩ := h; exact ⟨vs, .inl e, l⟩
  | dic ds => obtain ⟨vs, e, l⟩ := h; exact ⟨vs, .inl e, l⟩
  | ins c ds => exact (hd c ds rfl).elim
  | _ => exact h.elim
theorem Den.brw {a : Addr} {v : V} {d : D} (h : Den K Fz H v d) (hd : (∃ l, d = .lst l) ∨ ∃ l, d = .dic l) : ∃ a, v = .ref a ∧ Brw K Fz H a d := by
  cases h with
  | lst h l => exact ⟨_, rfl, _, h.rd, l⟩
  | dic h l => exact ⟨_, rfl, _, .inr ⟨_, h⟩, l⟩
  | _ => rcases hd with ⟨l, e⟩ | ⟨l, e⟩ <;> cases e
end

/-- what stands in a slot -/
def SlOk (B : Bs) (Fz : Addr → Prop) (H : Hp) (i : Nat) (v : Option V) : Sl → Prop
  | .un => True
  | .sh d => ∃ u, v = some u ∧ Den B.K Fz H u d
  | .ow d => ∃ a, v = some (.ref a) ∧ Own B.K Fz H a d ∧ B.H0 a = none
  | .br d => ∃ a, v = some (.ref a) ∧ Brw B.K Fz H a d ∧ B.bd a
  | .mt d => ∃ a, v = some (.ref a) ∧ Own B.K Fz H a d ∧ B.ex a ∧ B.mts i a
def Sl.owned : Sl → Bool
  | .ow _ => true
  | .mt _ => true
  | _ => false
def Sl.held : Sl → Bool
  | .ow _ => true
  | .mt _ => true
  | .br _ => true
  | _ => false
theorem Sl.held_of {s : Sl} (h : s.owned = true) : s.held = true := by cases s <;> first | rfl | cases h
/-- slot i holds the address a of a container that is not shared -/
def HeldAt (σ : L2.St) (ρ : List Sl) (i : Nat) (a : Addr) : Prop := ∃ s, ρ[i]? = some s ∧ s.held = true ∧ σ[i]? = some (some (.ref a))
def OwnAt (σ : L2.St) (ρ : List Sl) (i : Nat) (a : Addr) : Prop := ∃ s, ρ[i]? = some s ∧ s.owned = true ∧ σ[i]? = some (some (.ref a))
theorem OwnAt.held {σ : L2.St} {ρ : List Sl} {i : Nat} {a : Addr} (h : OwnAt σ ρ i a) : HeldAt σ ρ i a := let ⟨s, e, o, q⟩ := h; ⟨s, e, s.held_of o, q⟩

structure Iv (B : Bs) (Fz : Addr → Prop) (H : Hp) (σ : L2.St) (ρ : List Sl) : Prop where
  len : ρ.length = σ.length
  ext : Ext B.ex B.Fz0 B.H0 Fz H
  fzs : FzOk Fz H
  ok : ∀ i s, ρ[i]? = some s → SlOk B Fz H i (σ[i]?.join) s
  apart : ∀ i j a b, i ≠ j → OwnAt σ ρ i a → HeldAt σ ρ j b → a ≠ b
  lent : ∀ a, B.bd a → ∃ o, B.H0 a = some o

section
variable {B : Bs} {Fz Fz' : Addr → Prop} {H H' : Hp} {σ : L2.St} {ρ : List Sl}
theorem join_some {σ : L2.St} {i : Nat} {v : V} : σ[i]?.join = some v ↔ σ[i]? = some (some v) := by
  cases h : σ[i]? with
  | none => simp
  | some o => simp
theorem SlOk.keep {ex : Addr → Prop} (g : Ext ex Fz H Fz' H') {i : Nat} {v : Option V} {s : Sl} (h : SlOk B Fz H i v s) (n : ∀ a, s.held = true → v = some (.ref a) → ¬ ex a) : SlOk B Fz' H' i v s := by
  cases s with
  | un => trivial
  | sh d => obtain ⟨u, e, q⟩ := h; exact ⟨u, e, q.mono g.ge⟩
  | ow d => obtain ⟨a, e, q, z⟩ := h; exact ⟨a, e, q.keep g (n a rfl e), z⟩
  | br d => obtain ⟨a, e, q, z⟩ := h; exact ⟨a, e, q.keep g (n a rfl e), z⟩
  | mt d => obtain ⟨a, e, q, z⟩ := h; exact ⟨a, e, q.keep g (n a rfl e), z⟩
/-- an owned container stands at an address that this activation may write -/
theorem Iv.may (I : Iv B Fz H σ ρ) {i : Nat} {a : Addr} (h : OwnAt σ ρ i a) : B.H0 a = none ∨ B.ex a := by
  obtain ⟨s, e, o, q⟩ := h
  have z := I.ok i s e
  rw [join_some.mpr q] at z
  cases s with
  | ow d => obtain ⟨b, e2, _, n⟩ := z; cases e2; exact .inl n
  | mt d => obtain ⟨b, e2, _, n, _⟩ := z; cases e2; exact .inr n
  | _ => cases o
theorem Iv.held (I : Iv B Fz H σ ρ) {i : Nat} {a : Addr} (h : HeldAt σ ρ i a) : ∃ o, H a = some o := by
  obtain ⟨s, e, o, q⟩ := h
  have z := I.ok i s e
  rw [join_some.mpr q] at z
  cases s with
  | ow d => obtain ⟨b, e2, w, n⟩ := z; cases e2; obtain ⟨o, w, _⟩ := w.there; exact ⟨o, w⟩
  | mt d => obtain ⟨b, e2, w, n, _⟩ := z; cases e2; obtain ⟨o, w, _⟩ := w.there; exact ⟨o, w⟩
  | br d => obtain ⟨b, e2, w, _⟩ := z; cases e2; exact w.there
  | _ => cases o
/-- a step that leaves all held containers -/
theorem Iv.step {ex : Addr → Prop} (I : Iv B Fz H σ ρ) (g : Ext ex Fz H Fz' H') (f : FzOk Fz' H') (m : ∀ a, ex a → B.H0 a = none ∨ B.ex a) (n : ∀ i a, HeldAt σ ρ i a → ¬ ex a) : Iv B Fz' H' σ ρ where
  len := I.len
  ext := I.ext.trans g m
  fzs := f
  ok := fun i s e => (I.ok i s e).keep g fun a hs q => n i a ⟨s, e, hs, join_some.mp q⟩
  apart := I.apart
  lent := I.lent
/-- .. and gives slot i's container new members -/
theorem Iv.turn {ex : Addr → Prop} (I : Iv B Fz H σ ρ) (g : Ext ex Fz H Fz' H') (f : FzOk Fz' H') {i : Nat} {a : Addr} {s s' : Sl} (e : ρ[i]? = some s) (o : s.owned = true) (q : σ[i]? = some (some (.ref a)))
    (hx : ∀ b, ex b → b = a) (z : SlOk B Fz' H' i (some (.ref a)) s') : Iv B Fz' H' σ (ρ.set i s') where
  len := by rw [List.length_set]; exact I.len
  ext := I.ext.trans g fun b hb => by cases hx b hb; exact I.may ⟨s, e, o, q⟩
  fzs := f
  ok := fun j t ej => by
    by_cases hj : j = i
    · subst hj
      have hlt := (List.getElem?_eq_some_iff.mp e).1
      rw [List.getElem?_set_self hlt] at ej
      cases ej
      rw [join_some.mpr q]
      exact z
    · rw [List.getElem?_set_ne (Ne.symm hj)] at ej
      refine (I.ok j t ej).keep g fun b hs qb hb => ?_
      cases hx b hb
      exact I.apart i j a a (Ne.symm hj) ⟨s, e, o, q⟩ ⟨t, ej, hs, join_some.mp qb⟩ rfl
  apart := fun j k b c hjk hj hk => by
    have back : ∀ {l : Nat} {x : Addr}, (HeldAt σ (ρ.set i s') l x → HeldAt σ ρ l x) ∧ (OwnAt σ (ρ.set i s') l x → OwnAt σ ρ l x) := by
      intro l x
      by_cases hl : l = i
      · subst hl
        exact ⟨fun ⟨_, _, _, q2⟩ => ⟨s, e, s.held_of o, q2⟩, fun ⟨_, _, _, q2⟩ => ⟨s, e, o, q2⟩⟩
      · constructor
        · rintro ⟨t, e2, h2, q2⟩
          rw [List.getElem?_set_ne (Ne.symm hl)] at e2
          exact ⟨t, e2, h2, q2⟩
        · rintro ⟨t, e2, h2, q2⟩
          rw [List.getElem?_set_ne (Ne.symm hl)] at e2
          exact ⟨t, e2, h2, q2⟩
    exact I.apart j k b c hjk (back.2 hj) (back.1 hk)
  lent := I.lent
end
end Dx

set_option Elab.async false
set_option linter.all false
set_option maxRecDepth 100000
set_option maxHeartbeats 1000000
namespace Dx
open PySem PySem.Spec PyProof.Rows L2
variable [Tbs]

/-- what a result must be of a value -/
abbrev Rel (α β : Type) := Bs → (Addr → Prop) → Hp → L2.St → List Sl → β → α → Prop
def FinG {α β : Type} (Rl : Rel α β) (B : Bs) (E : XK) (σ : L2.St) (Q : β → Hp → Prop) (Fz : Addr → Prop) (H : Hp) : R (α × List Sl) → Prop
  | .ok p => ∀ v H' Fz', Iv B Fz' H' σ p.2 → Ge Fz H Fz' H' → Rl B Fz' H' σ p.2 v p.1 → Q v H'
  | .exc c d => ∀ dx v H' Fz', Ext B.ex B.Fz0 B.H0 Fz' H' → FzOk Fz' H' → H' dx = some (.xd [("value", v)]) → Den B.K Fz' H' v d → E (.ref (He.ga B.K c)) (some dx) H'
  | .bad => False
/-- the reading of a piece of code that does f to the slots -/
def tG {α β : Type} (Rl : Rel α β) (B : Bs) (E : XK) (f : List Sl → R (α × List Sl)) : L2.St → Hp → (β → Hp → Prop) → Prop :=
  fun σ H Q => ∃ Fz ρ, Iv B Fz H σ ρ ∧ FinG Rl B E σ Q Fz H (f ρ)
abbrev rD : Rel D V := fun B Fz H _ _ v d => Den B.K Fz H v d
abbrev rB : Rel Bool Bool := fun _ _ _ _ _ v d => v = d
abbrev rL : Rel (List D) (List V) := fun B Fz H _ _ v d => DenL B.K Fz H v d
/-- a new container of one's own -/
abbrev rO : Rel D V := fun B Fz H σ ρ v d => ∃ a, v = .ref a ∧ Own B.K Fz H a d ∧ B.H0 a = none ∧ ∀ i b, HeldAt σ ρ i b → b ≠ a
abbrev tE (B : Bs) (E : XK) (f : List Sl → R (D × List Sl)) : TE := tG rD B E f
abbrev tT (B : Bs) (E : XK) (f : List Sl → R (Bool × List Sl)) : TT := tG rB B E f
abbrev tA (B : Bs) (E : XK) (f : List Sl → R (List D × List Sl)) : TA := tG rL B E f
abbrev tO (B : Bs) (E : XK) (f : List Sl → R (D × List Sl)) : TE := tG rO B E f

section
variable {α β γ δ : Type} {Rl : Rel α β} {Rm : Rel γ δ} {B : Bs} {E : XK} {σ : L2.St} {H H' : Hp} {Fz Fz' : Addr → Prop} {ρ : List Sl}
theorem FinG.ge {Q : β → Hp → Prop} {r : R (α × List Sl)} (g : Ge Fz H Fz' H') (h : FinG Rl B E σ Q Fz H r) : FinG Rl B E σ Q Fz' H' r := by
  cases r with
  | ok p => exact fun v H2 F2 I g2 d => h v H2 F2 I (g.trans g2) d
  | exc c d => exact h
  | bad => exact h
theorem FinG.mono {Q Q' : β → Hp → Prop} {r : R (α × List Sl)} (w : ∀ v H', Q v H' → Q' v H') (h : FinG Rl B E σ Q Fz H r) : FinG Rl B E σ Q' Fz H r := by
  cases r with
  | ok p => exact fun v H2 F2 I g2 d => w _ _ (h v H2 F2 I g2 d)
  | exc c d => exact h
  | bad => exact h
/-- one piece, then the rest -/
theorem tG_bind {Q : δ → Hp → Prop} {f : List Sl → R (α × List Sl)} {k : α × List Sl → R (γ × List Sl)} (I : Iv B Fz H σ ρ) (h : FinG Rm B E σ Q Fz H ((f ρ).bind k)) :
    tG Rl B E f σ H (fun v H1 => ∃ Fz1 ρ1 d, Iv B Fz1 H1 σ ρ1 ∧ Rl B Fz1 H1 σ ρ1 v d ∧ Ge Fz H Fz1 H1 ∧ f ρ = .ok (d, ρ1) ∧ FinG Rm B E σ Q Fz1 H1 (k (d, ρ1))) := by
  refine ⟨Fz, ρ, I, ?_⟩
  cases e : f ρ with
  | ok p =>
    rw [e] at h
    exact fun v H1 F1 I1 g1 d1 => ⟨F1, p.2, p.1, I1, d1, g1, rfl, FinG.ge g1 h⟩
  | exc c d => rw [e] at h; exact h
  | bad => rw [e] at h; exact h
end

section
variable {X : Cx}
theorem weakE {e : Expr} {t t' : TE} (h : PE X e t) (w : ∀ σ H Q, t' σ H Q → t σ H Q) : PE X e t' := ⟨fun pins s σ H Q I q => h.run pins s σ H Q I (w σ H Q q)⟩
theorem weakT {e : Expr} {t t' : TT} (h : PT X e t) (w : ∀ σ H Q, t' σ H Q → t σ H Q) : PT X e t' := ⟨fun pins s σ H Q I q => h.run pins s σ H Q I (w σ H Q q)⟩
theorem weakW {e : Expr} {t t' : TT} (h : PW X e t) (w : ∀ σ H Q, t' σ H Q → t σ H Q) : PW X e t' := ⟨fun wh pins s σ H Q I q => h.run wh pins s σ H Q I (w σ H Q q)⟩
theorem weakA {es : List Expr} {t t' : TA} (h : PA X es t) (w : ∀ σ H Q, t' σ H Q → t σ H Q) : PA X es t' := ⟨fun pos pins s σ H Q I q => h.run pos pins s σ H Q I (w σ H Q q)⟩
theorem weakS {st : Stmt} {t t' : TS} (h : PS X st t) (w : ∀ D σ H, t' D σ H → t D σ H) : PS X st t' := ⟨fun pins s σ H D I q => h.run pins s σ H D I (w D σ H q)⟩
theorem weakSs {st : List Stmt} {t t' : TS} (h : PSs X st t) (w : ∀ D σ H, t' D σ H → t D σ H) : PSs X st t' := ⟨fun pins s σ H D I q => h.run pins s σ H D I (w D σ H q)⟩

/-- freezing: what was just made is locked -/
theorem pe_frz {e : Expr} {t : TE} (h : PE X e t) : PE X e (fun σ H Q => t σ H fun v H1 => ∃ a u, v = .ref a ∧ H1 a = some u ∧ Mut (some u) ∧ ∀ od, Q v (upd H1 a (.frz od u))) := by
  refine ⟨fun pins s σ H Q I q => thn (h.run pins s σ H _ I q) fun u s1 ⟨v, H1, I1, r1, a, o, ev, ha, mu, q1⟩ => ?_⟩
  obtain ⟨od, I2⟩ := I1.lock ha mu
  exact ⟨v, _, I2, r1, q1 od⟩
end

/-- a new object at a fresh address -/
theorem ext_new {Fz : Addr → Prop} {H : Hp} {p : Addr} {o : HO} (f : FzOk Fz H) (h : H p = none) : Ext (fun _ => False) Fz H Fz (upd H p o) where
  ge := ⟨fun a u _ e => by rw [upd_ne (ne_of_none e h)]; exact e, fun _ z => z, fun a z => by
    obtain ⟨C, dx, fs, e⟩ := f a z
    rw [upd_ne (ne_of_none e h)], fun _ _ t => tab_new h t⟩
  keep := fun a u e _ _ => by rw [upd_ne (ne_of_none e h)]; exact e
  nofz := fun a z => .inl z
  there := fun a u e => ⟨u, by rw [upd_ne (ne_of_none e h)]; exact e⟩
theorem fzs_new {Fz : Addr → Prop} {H : Hp} {p : Addr} {o : HO} (f : FzOk Fz H) (h : H p = none) : FzOk Fz (upd H p o) := fun a z => by
  obtain ⟨C, dx, fs, e⟩ := f a z
  exact ⟨C, dx, fs, by rw [upd_ne (ne_of_none e h)]; exact e⟩
/-- a container is written -/
theorem ext_put {Fz : Addr → Prop} {H : Hp} {p : Addr} {o u : HO} (h : H p = some u) (ni : ¬ Imm u) (nz : ¬ Fz p) : Ext (fun a => a = p) Fz H Fz (upd H p o) where
  ge := ⟨fun a w i e => by
    by_cases q : a = p
    · subst q; rw [h] at e; cases e; exact (ni i.imm).elim
    · rw [upd_ne q]; exact e, fun _ z => z, fun a z => by
    have : a ≠ p := fun q => nz (q ▸ z)
    rw [upd_ne this], fun _ _ t => tab_put h ni t⟩
  keep := fun a w e n _ => by rw [upd_ne n]; exact e
  nofz := fun a z => .inl z
  there := fun a w e => by
    by_cases q : a = p
    · exact ⟨o, by rw [q, upd_same]⟩
    · exact ⟨w, by rw [upd_ne q]; exact e⟩
theorem fzs_put {Fz : Addr → Prop} {H : Hp} {p : Addr} {o : HO} (f : FzOk Fz H) (nz : ¬ Fz p) : FzOk Fz (upd H p o) := fun a z => by
  obtain ⟨C, dx, fs, e⟩ := f a z
  exact ⟨C, dx, fs, by
    have n : a ≠ p := fun q => by rw [q] at z; exact nz z
    rw [upd_ne n]; exact e⟩
/-- the unfrozen container of a temporary, frozen -/
theorem tO_frz {B : Bs} {E : XK} {f : List Sl → R (D × List Sl)} {σ : L2.St} {H : Hp} {Q : VK} (nd : ∀ ρ d ρ', f ρ = .ok (d, ρ') → ∀ c fs, d ≠ .ins c fs) (h : tE B E f σ H Q) :
    tO B E f σ H fun v H1 => ∃ a u, v = .ref a ∧ H1 a = some u ∧ Mut (some u) ∧ ∀ od, Q v (upd H1 a (.frz od u)) := by
  obtain ⟨Fz, ρ, I, q⟩ := h
  refine ⟨Fz, ρ, I, ?_⟩
  cases e : f ρ with
  | exc c d => rw [e] at q; exact q
  | bad => rw [e] at q; exact q
  | ok p =>
    rw [e] at q
    intro v H1 F1 I1 g1 ⟨a, ev, ow, hn, ap⟩
    subst ev
    have nd' := nd ρ p.1 p.2 (by rw [e])
    obtain ⟨u, hu, ni, mu⟩ := ow.there
    have nz : ¬ F1 a := ow.nofz I1.fzs
    refine ⟨a, u, rfl, hu, mu, fun od => ?_⟩
    have x := ext_put (o := .frz od u) hu ni nz
    have f2 : FzOk F1 (upd H1 a (.frz od u)) := fzs_put I1.fzs nz
    have I2 : Iv B F1 (upd H1 a (.frz od u)) σ p.2 := I1.step x f2 (fun b hb => by cases hb; exact .inl hn) fun i b hb z => ap i b hb z
    refine q (.ref a) _ F1 I2 (g1.trans x.ge) ?_
    cases hd : p.1 with
    | lst ds =>
      rw [hd] at ow
      obtain ⟨vs, e2, l⟩ := ow
      rw [hu] at e2; cases e2
      exact .lst ⟨od, upd_same⟩ (l.mono x.ge)
    | dic ds =>
      rw [hd] at ow
      obtain ⟨vs, e2, l⟩ := ow
      rw [hu] at e2; cases e2
      exact .dic (o := od) upd_same (l.mono x.ge)
    | ins c fs => exact (nd' c fs hd).elim
    | _ => rw [hd] at ow; exact ow.elim
/-- an expression that makes a container, as shared data -/
theorem pe_own {X : Cx} {e : Expr} {B : Bs} {E : XK} {f : List Sl → R (D × List Sl)} (h : PE X e (tO B E f)) (nd : ∀ ρ d ρ', f ρ = .ok (d, ρ') → ∀ c fs, d ≠ .ins c fs) : PE X e (tE B E f) :=
  weakE (pe_frz h) fun _ _ _ q => tO_frz nd q

/-! ### expressions -/
section
variable {X : Cx} {B : Bs} {E : XK} {a b c : Expr} {f g : List Sl → R (D × List Sl)} {pos : Pos}
/-- a constant that is no object -/
def Flat : D → Prop
  | .non => True
  | .bl _ => True
  | .int _ => True
  | .str _ => True
  | _ => False
def evLit (d : D) (ρ : List Sl) : R (D × List Sl) := .ok (d, ρ)
theorem de_const {e : Expr} {v : V} {d : D} (h : PE X e (tC v)) (hd : ∀ Fz H, Den B.K Fz H v d) : PE X e (tE B E (evLit d)) :=
  weakE h fun σ H Q ⟨Fz, ρ, I, q⟩ => q v H Fz I .refl (hd _ _)
def litV : D → V
  | .non => .non
  | .bl b => .bl b
  | .int i => .int i
  | .str x => .str x
  | _ => .non
theorem litV_ok {K : Frag} {Fz : Addr → Prop} {H : Hp} {d : D} (h : Flat d) : Den K Fz H (litV d) d := by
  cases d with
  | non => exact .non
  | bl b => exact .bl b
  | int i => exact .int i
  | str x => exact .str x
  | _ => exact h.elim
/-- an option as a result -/
def ofO {α : Type} : Option α → R α
  | some a => .ok a
  | none => .bad
theorem monoG {α β : Type} {Rl : Rel α β} {B : Bs} {E : XK} {f : List Sl → R (α × List Sl)} {σ : L2.St} {H : Hp} {Q Q' : β → Hp → Prop} (h : tG Rl B E f σ H Q) (w : ∀ v H', Q v H' → Q' v H') : tG Rl B E f σ H Q' :=
  let ⟨Fz, ρ, I, q⟩ := h; ⟨Fz, ρ, I, q.mono w⟩
/-- what is to be shown behind an operation that gives z -/
abbrev Back (B : Bs) (Fz : Addr → Prop) (H : Hp) (σ : L2.St) (ρ : List Sl) (z : D) (Q : VK) : Prop := ∀ v H' Fz', Iv B Fz' H' σ ρ → Ge Fz H Fz' H' → Den B.K Fz' H' v z → Q v H'
theorem back_of {B : Bs} {E : XK} {Fz : Addr → Prop} {H : Hp} {σ : L2.St} {ρ : List Sl} {Q : VK} {o : Option D} (q : FinG rD B E σ Q Fz H ((ofO o).bind fun z => .ok (z, ρ))) : ∃ z, o = some z ∧ Back B Fz H σ ρ z Q := by
  cases o with
  | none => exact q.elim
  | some z => exact ⟨z, rfl, q⟩
def R2D (K : Frag) (r : R2) (F : D → D → Option D) : Prop :=
  ∀ (B : Bs) (Fz : Addr → Prop) (H : Hp) (σ : L2.St) (ρ : List Sl) (x y : V) (dx dy z : D) (Q : VK), B.K = K → Iv B Fz H σ ρ → Den B.K Fz H x dx → Den B.K Fz H y dy → F dx dy = some z → Back B Fz H σ ρ z Q → r x y H Q
def ev2 (F : D → D → Option D) (f g : List Sl → R (D × List Sl)) (ρ : List Sl) : R (D × List Sl) := (f ρ).bind fun p => (g p.2).bind fun q => (ofO (F p.1 q.1)).bind fun z => .ok (z, q.2)
theorem t_op {K : Frag} {r : R2} {F : D → D → Option D} (hr : R2D K r F) (hK : B.K = K) {σ : L2.St} {H : Hp} {Q : VK} (h : tE B E (ev2 F f g) σ H Q) : tOp r (tE B E f) (tE B E g) σ H Q := by
  obtain ⟨Fz, ρ, I, q⟩ := h
  refine monoG (tG_bind I q) fun x H1 ⟨F1, ρ1, dx, I1, d1, g1, e1, q1⟩ => monoG (tG_bind I1 q1) fun y H2 ⟨F2, ρ2, dy, I2, d2, g2, e2, q2⟩ => ?_
  obtain ⟨z, ez, b⟩ := back_of q2
  exact hr B F2 H2 σ ρ2 x y dx dy z Q hK I2 (d1.mono g2) d2 ez b
theorem de_bin {op : Operator} {r : R2} {F : D → D → Option D} (ho : OpR X (binaryOp op) r) (hr : R2D X.K r F) (hK : B.K = X.K) (ha : PE X a (tE B E f)) (hb : PE X b (tE B E g)) : PE X (.BinOp a op b pos) (tE B E (ev2 F f g)) :=
  weakE (pe_op ho ha hb) fun _ _ _ h => t_op hr hK h
theorem de_cmp {op : CmpOp} {r : R2} {F : D → D → Option D} (ho : OpR X (compareOp op) r) (hr : R2D X.K r F) (hK : B.K = X.K) (hm : behindInMarks op b = false) (ha : PE X a (tE B E f)) (hb : PE X b (tE B E g)) : PE X (.Compare a [op] [b] pos) (tE B E (ev2 F f g)) :=
  weakE (pe_cmpR ho ha hb hm) fun _ _ _ h => t_op hr hK h
/-- data as a test: a bool -/
def evB (f : List Sl → R (D × List Sl)) (ρ : List Sl) : R (Bool × List Sl) := (f ρ).bind fun p => match p.1 with
  | .bl k => .ok (k, p.2)
  | _ => .bad
theorem t_bl {f : List Sl → R (D × List Sl)} {σ : L2.St} {H : Hp} {Q : Bool → Hp → Prop} (h : tT B E (evB f) σ H Q) : tE B E f σ H fun x H1 => ∃ k, x = .bl k ∧ Q k H1 := by
  obtain ⟨Fz, ρ, I, q⟩ := h
  refine monoG (tG_bind I q) fun x H1 ⟨F1, ρ1, dx, I1, d1, g1, e1, q1⟩ => ?_
  cases dx with
  | bl k =>
    cases d1
    exact ⟨k, rfl, q1 k H1 F1 I1 .refl rfl⟩
  | _ => exact q1.elim
theorem dt_cmp {op : CmpOp} {r : R2} {F : D → D → Option D} (ho : OpR X (compareOp op) r) (hr : R2D X.K r F) (hK : B.K = X.K) (hm : behindInMarks op b = false) (ha : PE X a (tE B E f)) (hb : PE X b (tE B E g)) : PT X (.Compare a [op] [b] pos) (tT B E (evB (ev2 F f g))) :=
  weakT (pt_cmpR ho ha hb hm) fun _ _ _ h => monoT_aux (t_bl h) fun h2 => t_op hr hK h2
where
  monoT_aux {t t' : TE} {σ : L2.St} {H : Hp} {Q : Bool → Hp → Prop} (h : t σ H fun x H1 => ∃ k, x = .bl k ∧ Q k H1) (w : t σ H (fun x H1 => ∃ k, x = .bl k ∧ Q k H1) → t' σ H (fun x H1 => ∃ k, x = .bl k ∧ Q k H1)) : t' σ H fun x H1 => ∃ k, x = .bl k ∧ Q k H1 := w h
/-- truth of data -/
def truD : D → Option Bool
  | .non => some false
  | .bl b => some b
  | .int i => some (i != 0)
  | .str y => if y.length ≤ sizeLine then some ((y.length : Int) != 0) else none
  | .tup l => some (!l.isEmpty)
  | .lst l => some (!l.isEmpty)
  | _ => none
def evT (f : List Sl → R (D × List Sl)) (ρ : List Sl) : R (Bool × List Sl) := (f ρ).bind fun p => (ofO (truD p.1)).bind fun k => .ok (k, p.2)
theorem isEmpty_den {K : Frag} {Fz : Addr → Prop} {H : Hp} {vs : List V} {ds : List D} (h : DenL K Fz H vs ds) : vs.isEmpty = ds.isEmpty := by
  cases h <;> rfl
theorem dt_truth (hK : B.K = X.K) (ha : PE X a (tE B E f)) (he : ∀ whole, isTrue a X.env whole = (do let v ← whole; standAt a.pos; holding [v] (truthy v))) : PT X a (tT B E (evT f)) :=
  weakT (pt_truth ha he) fun σ H Q ⟨Fz, ρ, I, q⟩ => by
    refine monoG (tG_bind I q) fun x H1 ⟨F1, ρ1, dx, I1, d1, g1, e1, q1⟩ => ?_
    cases ek : truD dx with
    | none => rw [show (ofO (truD (dx, ρ1).1)) = .bad by show ofO (truD dx) = _; rw [ek]; rfl] at q1; exact q1.elim
    | some k =>
      rw [show (ofO (truD (dx, ρ1).1)) = .ok k by show ofO (truD dx) = _; rw [ek]; rfl] at q1
      refine ⟨k, ?_, q1 k H1 F1 I1 .refl rfl⟩
      cases d1 with
      | non => cases ek; rfl
      | bl b => cases ek; rfl
      | int i => cases ek; rfl
      | str y =>
        have ek' : (if y.length ≤ sizeLine then some ((y.length : Int) != 0) else none) = some k := ek
        by_cases z : y.length ≤ sizeLine
        · rw [if_pos z] at ek'; cases ek'; exact ⟨z, rfl⟩
        · rw [if_neg z] at ek'; cases ek'
      | tup h l => cases ek; exact .inr (.inl ⟨_, hK ▸ h.t, by rw [isEmpty_den l]⟩)
      | lst h l => cases ek; exact .inl ⟨_, hK ▸ h.l, by rw [isEmpty_den l]⟩
      | _ => cases ek
/-! and, or, not, if-expressions -/
def evAnd (f g : List Sl → R (Bool × List Sl)) (ρ : List Sl) : R (Bool × List Sl) := (f ρ).bind fun p => match p.1 with
  | true => g p.2
  | false => .ok (false, p.2)
def evOr (f g : List Sl → R (Bool × List Sl)) (ρ : List Sl) : R (Bool × List Sl) := (f ρ).bind fun p => match p.1 with
  | true => .ok (true, p.2)
  | false => g p.2
def evNot (f : List Sl → R (Bool × List Sl)) (ρ : List Sl) : R (Bool × List Sl) := (f ρ).bind fun p => .ok (!p.1, p.2)
def evIf {α : Type} (f : List Sl → R (Bool × List Sl)) (g h : List Sl → R (α × List Sl)) (ρ : List Sl) : R (α × List Sl) := (f ρ).bind fun p => match p.1 with
  | true => g p.2
  | false => h p.2
variable {u v : List Sl → R (Bool × List Sl)} {rest : List Expr}
theorem dw_or (ha : PT X a (tT B E u)) (hb : PW X (.BoolOp .Or (b :: rest) pos) (tT B E v)) : PW X (.BoolOp .Or (a :: b :: rest) pos) (tT B E (evOr u v)) :=
  weakW (pw_or ha hb) fun σ H Q ⟨Fz, ρ, I, q⟩ => by
    refine monoG (tG_bind I q) fun x H1 ⟨F1, ρ1, dx, I1, d1, g1, e1, q1⟩ => ?_
    have d1' : x = dx := d1
    subst d1'
    cases x with
    | false => exact ⟨F1, ρ1, I1, q1⟩
    | true => exact q1 true H1 F1 I1 .refl rfl
theorem dt_not (ha : PT X a (tT B E u)) : PT X (.UnaryOp .Not a pos) (tT B E (evNot u)) :=
  weakT (pt_not ha) fun σ H Q ⟨Fz, ρ, I, q⟩ => by
    refine monoG (tG_bind I q) fun x H1 ⟨F1, ρ1, dx, I1, d1, g1, e1, q1⟩ => ?_
    have d1' : x = dx := d1
    subst d1'
    exact q1 (!x) H1 F1 I1 .refl rfl
theorem de_if (hc : PT X c (tT B E u)) (ha : PE X a (tE B E f)) (hb : PE X b (tE B E g)) : PE X (.IfExp c a b pos) (tE B E (evIf u f g)) :=
  weakE (pe_ifExp hc ha hb) fun σ H Q ⟨Fz, ρ, I, q⟩ => by
    refine monoG (tG_bind I q) fun x H1 ⟨F1, ρ1, dx, I1, d1, g1, e1, q1⟩ => ?_
    have d1' : x = dx := d1
    subst d1'
    cases x with
    | true => exact ⟨F1, ρ1, I1, q1⟩
    | false => exact ⟨F1, ρ1, I1, q1⟩
/-! the same as values: all but the last are bools -/
def evAndV (f g : List Sl → R (D × List Sl)) (ρ : List Sl) : R (D × List Sl) := (f ρ).bind fun p => match p.1 with
  | .bl true => g p.2
  | .bl false => .ok (.bl false, p.2)
  | _ => .bad
def evOrV (f g : List Sl → R (D × List Sl)) (ρ : List Sl) : R (D × List Sl) := (f ρ).bind fun p => match p.1 with
  | .bl true => .ok (.bl true, p.2)
  | .bl false => g p.2
  | _ => .bad
def evNotV (f : List Sl → R (D × List Sl)) (ρ : List Sl) : R (D × List Sl) := (f ρ).bind fun p => match p.1 with
  | .bl k => .ok (.bl (!k), p.2)
  | _ => .bad
theorem de_and (ha : PE X a (tE B E f)) (hb : PE X (.BoolOp .And (b :: rest) pos) (tE B E g)) : PE X (.BoolOp .And (a :: b :: rest) pos) (tE B E (evAndV f g)) :=
  weakE (pe_and ha hb) fun σ H Q ⟨Fz, ρ, I, q⟩ => by
    refine monoG (tG_bind I q) fun x H1 ⟨F1, ρ1, dx, I1, d1, g1, e1, q1⟩ => ?_
    cases dx with
    | bl k =>
      cases d1
      cases k with
      | true => exact ⟨true, rfl, F1, ρ1, I1, q1⟩
      | false => exact ⟨false, rfl, q1 _ H1 F1 I1 .refl (.bl _)⟩
    | _ => exact q1.elim
theorem de_not (ha : PE X a (tE B E f)) : PE X (.UnaryOp .Not a pos) (tE B E (evNotV f)) :=
  weakE (pe_not ha) fun σ H Q ⟨Fz, ρ, I, q⟩ => by
    refine monoG (tG_bind I q) fun x H1 ⟨F1, ρ1, dx, I1, d1, g1, e1, q1⟩ => ?_
    cases dx with
    | bl k =>
      cases d1
      exact ⟨k, rfl, q1 _ H1 F1 I1 .refl (.bl _)⟩
    | _ => exact q1.elim
/-! chains -/
def evChn (F G : D → D → Option D) (f g h : List Sl → R (D × List Sl)) (ρ : List Sl) : R (D × List Sl) :=
  (f ρ).bind fun p => (g p.2).bind fun q => match F p.1 q.1 with
    | some (.bl true) => (h q.2).bind fun r => (ofO (G q.1 r.1)).bind fun z => .ok (z, r.2)
    | some (.bl false) => .ok (.bl false, q.2)
    | _ => .bad
end
end Dx

set_option Elab.async false
set_option linter.all false
set_option maxRecDepth 100000
set_option maxHeartbeats 1000000
namespace Dx
open PySem PySem.Spec PyProof.Rows L2
variable [Tbs]

/-- a new object laid at p -/
theorem Iv.laid {B : Bs} {Fz : Addr → Prop} {H : Hp} {σ : L2.St} {ρ : List Sl} (I : Iv B Fz H σ ρ) {p : Addr} (h : H p = none) (o : HO) :
    Iv B Fz (upd H p o) σ ρ ∧ Ge Fz H Fz (upd H p o) ∧ (∀ i b, HeldAt σ ρ i b → b ≠ p) ∧ B.H0 p = none ∧ ¬ Fz p := by
  have x := ext_new (o := o) I.fzs h
  refine ⟨I.step x (fzs_new I.fzs h) (fun _ z => z.elim) (fun _ _ _ z => z), x.ge, fun i b hb e => ?_, ?_, fun z => ?_⟩
  · obtain ⟨u, q⟩ := I.held hb
    rw [e, h] at q; cases q
  · cases q : B.H0 p with
    | none => rfl
    | some u =>
      obtain ⟨o', w⟩ := I.ext.there p u q
      rw [h] at w; cases w
  · obtain ⟨C, dx, fs, q⟩ := I.fzs p z
    rw [h] at q; cases q
/-! ### lists of arguments -/
def nsE : Expr → Bool
  | .Starred _ _ => false
  | _ => true
theorem star_cons {e : Expr} {es : List Expr} {env : Env} (h : nsE e = true) : starEach (e :: es) env = (false, eval e env) :: starEach es env := by
  cases e <;> first | rfl | cases h
theorem noStar_any {env : Env} {pos : Pos} : ∀ {es : List Expr}, es.all nsE = true → (backTo pos (starEach es env)).any (·.1) = false
  | [], _ => rfl
  | e :: es, h => by
    rw [List.all_cons, Bool.and_eq_true] at h
    have ih := noStar_any (env := env) (pos := pos) h.2
    rw [star_cons h.1]
    show (backTo pos ((false, eval e env) :: starEach es env)).any (·.1) = false
    unfold backTo at ih ⊢
    rw [List.map_cons, List.any_cons, ih] <;> rfl
def evNil (ρ : List Sl) : R (List D × List Sl) := .ok ([], ρ)
def evCons (f : List Sl → R (D × List Sl)) (g : List Sl → R (List D × List Sl)) (ρ : List Sl) : R (List D × List Sl) := (f ρ).bind fun p => (g p.2).bind fun q => .ok (p.1 :: q.1, q.2)
section
variable {X : Cx} {B : Bs} {E : XK} {a b c e : Expr} {es : List Expr} {f g : List Sl → R (D × List Sl)} {l : List Sl → R (List D × List Sl)} {pos : Pos}
theorem da_nil : PA X [] (tA B E evNil) := weakA pa_nil fun σ H Q ⟨Fz, ρ, I, q⟩ => q [] H Fz I .refl .nil
theorem da_cons (hs : nsE e = true) (ha : PE X e (tE B E f)) (hr : PA X es (tA B E l)) : PA X (e :: es) (tA B E (evCons f l)) :=
  weakA (pa_cons ha hr (star_cons hs)) fun σ H Q ⟨Fz, ρ, I, q⟩ =>
    monoG (tG_bind I q) fun x H1 ⟨F1, ρ1, dx, I1, d1, g1, e1, q1⟩ => monoG (tG_bind I1 q1) fun y H2 ⟨F2, ρ2, dy, I2, d2, g2, e2, q2⟩ =>
      q2 (x :: y) H2 F2 I2 .refl (.cons (d1.mono g2) d2)
/-! ### displays -/
def okLen (n : Nat) : Bool := decide (n ≤ sizeLine)
def evTup (l : List Sl → R (List D × List Sl)) (ρ : List Sl) : R (D × List Sl) := (l ρ).bind fun p => if okLen p.1.length then .ok (.tup p.1, p.2) else .bad
def evLst (l : List Sl → R (List D × List Sl)) (ρ : List Sl) : R (D × List Sl) := (l ρ).bind fun p => if okLen p.1.length then .ok (.lst p.1, p.2) else .bad
theorem fin_if {α β : Type} {Rl : Rel α β} {σ : L2.St} {H : Hp} {Q : β → Hp → Prop} {Fz : Addr → Prop} {c : Bool} {r : R (α × List Sl)} (h : FinG Rl B E σ Q Fz H (if c = true then r else .bad)) : c = true ∧ FinG Rl B E σ Q Fz H r := by
  cases c with
  | true => exact ⟨rfl, h⟩
  | false => exact h.elim
theorem de_tup {k : Nat} (h : PA X es (tA B E l)) : PE X (.Tuple es k pos) (tE B E (evTup l)) :=
  weakE (pe_tup h) fun σ H Q ⟨Fz, ρ, I, q⟩ =>
    monoG (tG_bind I q) fun xs H1 ⟨F1, ρ1, ds, I1, d1, g1, e1, q1⟩ => by
      obtain ⟨hc, q1⟩ := fin_if q1
      refine ⟨by rw [d1.length]; exact of_decide_eq_true hc, fun p hp => ?_⟩
      obtain ⟨I2, g2, _⟩ := I1.laid hp (.tup xs)
      exact q1 _ _ F1 I2 g2 (.tup (.inl upd_same) (d1.mono g2))
theorem do_lst (h : PA X es (tA B E l)) : PE X (.List es pos) (tO B E (evLst l)) :=
  weakE (pe_lst h) fun σ H Q ⟨Fz, ρ, I, q⟩ =>
    monoG (tG_bind I q) fun xs H1 ⟨F1, ρ1, ds, I1, d1, g1, e1, q1⟩ => by
      obtain ⟨hc, q1⟩ := fin_if q1
      refine ⟨by rw [d1.length]; exact of_decide_eq_true hc, fun p hp => ?_⟩
      obtain ⟨I2, g2, ap, h0, nz⟩ := I1.laid hp (.lst xs)
      exact q1 _ _ F1 I2 g2 ⟨p, rfl, ⟨xs, upd_same, d1.mono g2⟩, h0, ap⟩
/-! ### results that are new containers -/
abbrev BackO (B : Bs) (Fz : Addr → Prop) (H : Hp) (σ : L2.St) (ρ : List Sl) (z : D) (Q : VK) : Prop := ∀ v H' Fz', Iv B Fz' H' σ ρ → Ge Fz H Fz' H' → rO B Fz' H' σ ρ v z → Q v H'
theorem BackO.lst {Fz : Addr → Prop} {H : Hp} {σ : L2.St} {ρ : List Sl} {ds : List D} {xs : List V} {Q : VK} (I : Iv B Fz H σ ρ) (d : DenL B.K Fz H xs ds) (b : BackO B Fz H σ ρ (.lst ds) Q) : ∀ p, H p = none → Q (.ref p) (upd H p (.lst xs)) := fun p hp => by
  obtain ⟨I2, g2, ap, h0, nz⟩ := I.laid hp (.lst xs)
  exact b _ _ Fz I2 g2 ⟨p, rfl, ⟨xs, upd_same, d.mono g2⟩, h0, ap⟩
theorem Back.tup {Fz : Addr → Prop} {H : Hp} {σ : L2.St} {ρ : List Sl} {ds : List D} {xs : List V} {Q : VK} (I : Iv B Fz H σ ρ) (d : DenL B.K Fz H xs ds) (b : Back B Fz H σ ρ (.tup ds) Q) : ∀ p, H p = none → Q (.ref p) (upd H p (.tup xs)) := fun p hp => by
  obtain ⟨I2, g2, _⟩ := I.laid hp (.tup xs)
  exact b _ _ Fz I2 g2 (.tup (.inl upd_same) (d.mono g2))
def R2O (K : Frag) (r : R2) (F : D → D → Option D) : Prop :=
  ∀ (B : Bs) (Fz : Addr → Prop) (H : Hp) (σ : L2.St) (ρ : List Sl) (x y : V) (dx dy z : D) (Q : VK), B.K = K → Iv B Fz H σ ρ → Den B.K Fz H x dx → Den B.K Fz H y dy → F dx dy = some z → BackO B Fz H σ ρ z Q → r x y H Q
/-! ### calls of built-ins -/
def RLD (K : Frag) (r : List V → Hp → VK → Prop) (F : List D → Option D) : Prop :=
  ∀ (B : Bs) (Fz : Addr → Prop) (H : Hp) (σ : L2.St) (ρ : List Sl) (vs : List V) (ds : List D) (z : D) (Q : VK), B.K = K → Iv B Fz H σ ρ → DenL B.K Fz H vs ds → F ds = some z → Back B Fz H σ ρ z Q → r vs H Q
def evL (F : List D → Option D) (l : List Sl → R (List D × List Sl)) (ρ : List Sl) : R (D × List Sl) := (l ρ).bind fun p => (ofO (F p.1)).bind fun z => .ok (z, p.2)
theorem fin_ofO {α β : Type} {Rl : Rel D β} {σ : L2.St} {H : Hp} {Q : β → Hp → Prop} {Fz : Addr → Prop} {ρ : List Sl} {o : Option D} (q : FinG Rl B E σ Q Fz H ((ofO o).bind fun z => .ok (z, ρ))) :
    ∃ z, o = some z ∧ FinG Rl B E σ Q Fz H (.ok (z, ρ)) := by
  cases o with
  | none => exact q.elim
  | some z => exact ⟨z, rfl, q⟩
theorem t_cb {K : Frag} {r : List V → Hp → VK → Prop} {F : List D → Option D} (hr : RLD K r F) (hK : B.K = K) {σ : L2.St} {H : Hp} {Q : VK} (h : tE B E (evL F l) σ H Q) : tCB r (tA B E l) σ H Q := by
  obtain ⟨Fz, ρ, I, q⟩ := h
  refine monoG (tG_bind I q) fun x H1 ⟨F1, ρ1, dx, I1, d1, g1, e1, q1⟩ => ?_
  obtain ⟨z, ez, b⟩ := fin_ofO (α := D) q1
  exact hr B F1 H1 σ ρ1 x dx z Q hK I1 d1 ez b
theorem nn_of {x : Str} (h : (x == ("__name__" : Str)) = false) : x ≠ "__name__" := fun z => by rw [z] at h; simp at h
variable {x : Str} {p : Pos} {id T : String} {r : List V → Hp → VK → Prop} {F : List D → Option D}
theorem de_callB (hc : CallR X (.builtin id) r) (hr : RLD X.K r F) (hK : B.K = X.K) (hg : Gl X x) (hm : X.mg x = none) (hv : bootBuiltins x = some (.builtin id)) (hn : (x == ("__name__" : Str)) = false) (hdb : (x == ("__debug__" : Str)) = false)
    (hs : nsE e = true) (hss : es.all nsE = true) (ha : PA X (e :: es) (tA B E l)) : PE X (.Call (.Name x p) (e :: es) [] pos) (tE B E (evL F l)) :=
  weakE (pe_callB hc hg hm hv ha (nn_of hn) hdb (star_cons hs) (noStar_any hss)) fun _ _ _ h => t_cb hr hK h
theorem de_callTy (hc : CallR X (.type T) r) (hr : RLD X.K r F) (hK : B.K = X.K) (hg : Gl X x) (hm : X.mg x = none) (hv : bootBuiltins x = some (.type T)) (hn : (x == ("__name__" : Str)) = false) (hdb : (x == ("__debug__" : Str)) = false)
    (hs : nsE e = true) (hss : es.all nsE = true) (ha : PA X (e :: es) (tA B E l)) : PE X (.Call (.Name x p) (e :: es) [] pos) (tE B E (evL F l)) :=
  weakE (pe_callTy hc hg hm hv ha (nn_of hn) hdb (star_cons hs) (noStar_any hss)) fun _ _ _ h => t_cb hr hK h
end
end Dx

set_option Elab.async false
set_option linter.all false
set_option maxRecDepth 100000
set_option maxHeartbeats 1000000
namespace Dx
open PySem PySem.Spec PyProof.Rows L2
variable [Tbs]

/-! ### == of data: None, bools, ints, texts, lists, tuples -/
mutual
def flatD : D → Bool
  | .non => true
  | .bl _ => true
  | .int _ => true
  | .str _ => true
  | .tup l => flatL l
  | .lst l => flatL l
  | _ => false
def flatL : List D → Bool
  | [] => true
  | d :: l => flatD d && flatL l
end
mutual
def depD : D → Nat
  | .tup l => depL l + 1
  | .lst l => depL l + 1
  | _ => 0
def depL : List D → Nat
  | [] => 0
  | d :: l => max (depD d) (depL l)
end
mutual
def eqD : D → D → Bool
  | .non, .non => true
  | .bl a, .bl b => a == b
  | .bl a, .int b => (if a then 1 else 0) == b
  | .int a, .bl b => a == (if b then 1 else 0)
  | .int a, .int b => a == b
  | .str a, .str b => a == b
  | .tup l, .tup m => eqL l m
  | .lst l, .lst m => eqL l m
  | _, _ => false
def eqL : List D → List D → Bool
  | [], [] => true
  | a :: l, b :: m => eqD a b && eqL l m
  | _, _ => false
end
mutual
theorem eqD_refl : ∀ d : D, flatD d = true → eqD d d = true
  | .non, _ => rfl
  | .bl b, _ => by simp [eqD]
  | .int b, _ => by simp [eqD]
  | .str b, _ => by simp [eqD]
  | .tup l, h => by rw [eqD]; exact eqL_refl l (by simpa [flatD] using h)
  | .lst l, h => by rw [eqD]; exact eqL_refl l (by simpa [flatD] using h)
  | .dic l, h => by simp [flatD] at h
  | .ins _ l, h => by simp [flatD] at h
  | .exn _ l, h => by simp [flatD] at h
theorem eqL_refl : ∀ l : List D, flatL l = true → eqL l l = true
  | [], _ => by rw [eqL]
  | d :: l, h => by
    rw [flatL, Bool.and_eq_true] at h
    rw [eqL, eqD_refl d h.1, eqL_refl l h.2] <;> rfl
end
section
variable {X : Cx} {pins : List (Addr × Obj)} {σ : L2.St} {H : Hp} {s : Shared} {Fz : Addr → Prop}
mutual
theorem den_fun (I : Inv X pins σ H s) : ∀ {v : V} {d d' : D}, flatD d = true → flatD d' = true → Den X.K Fz H v d → Den X.K Fz H v d' → d = d'
  | _, _, _, _, _, .non, h => by cases h; rfl
  | _, _, _, _, _, .bl b, h => by cases h; rfl
  | _, _, _, _, _, .int b, h => by cases h; rfl
  | _, _, _, _, _, .str b, h => by cases h; rfl
  | _, _, _, f, f', .tup h l, h' => by
    cases h' with
    | tup h2 l2 =>
      have e := I.tuple_inj h.t h2.t
      subst e
      rw [denL_fun I (by simpa [flatD] using f) (by simpa [flatD] using f') l l2]
    | lst h2 l2 =>
      obtain ⟨its, r, ⟨o, e, c, n, d⟩, _⟩ := I.tuple h.t
      obtain ⟨its', r', ⟨o', n', e', c', _, d'⟩, _⟩ := I.list h2.l
      have ho : o = o' := Option.some.inj (e.symm.trans e')
      rw [ho, c'] at c
      injection c with c
      exact absurd c (by decide)
    | dic h2 l2 => simp [flatD] at f'
    | ins a b c => simp [flatD] at f'
    | exn a b c => simp [flatD] at f'
  | _, _, _, f, f', .lst h l, h' => by
    cases h' with
    | lst h2 l2 =>
      have e := I.list_inj h.l h2.l
      subst e
      rw [denL_fun I (by simpa [flatD] using f) (by simpa [flatD] using f') l l2]
    | tup h2 l2 =>
      obtain ⟨its, r, ⟨o, e, c, n, d⟩, _⟩ := I.tuple h2.t
      obtain ⟨its', r', ⟨o', n', e', c', _, d'⟩, _⟩ := I.list h.l
      have ho : o = o' := Option.some.inj (e.symm.trans e')
      rw [ho, c'] at c
      injection c with c
      exact absurd c (by decide)
    | dic h2 l2 => simp [flatD] at f'
    | ins a b c => simp [flatD] at f'
    | exn a b c => simp [flatD] at f'
  | _, _, _, f, _, .dic h l, _ => by simp [flatD] at f
  | _, _, _, f, _, .ins a b c, _ => by simp [flatD] at f
  | _, _, _, f, _, .exn a b c, _ => by simp [flatD] at f
theorem denL_fun (I : Inv X pins σ H s) : ∀ {v : List V} {d d' : List D}, flatL d = true → flatL d' = true → DenL X.K Fz H v d → DenL X.K Fz H v d' → d = d'
  | _, _, _, _, _, .nil, h => by cases h; rfl
  | _, _, _, f, f', .cons a l, .cons a2 l2 => by
    rw [flatL, Bool.and_eq_true] at f f'
    rw [den_fun I f.1 f'.1 a a2, denL_fun I f.2 f'.2 l l2]
end
theorem DenL.tup_at (I : Inv X pins σ H s) {a : Addr} {vs : List V} (h : SqU X.K H a vs) : ∃ its : List Value, Vals vs its ∧ s.heap.IsTuple a its.toArray := by
  obtain ⟨its, r, p, _⟩ := I.tuple h.t
  exact ⟨its, r, p⟩
theorem DenL.lst_at (I : Inv X pins σ H s) {a : Addr} {vs : List V} (h : SqF X.K H a vs) : ∃ its : List Value, Vals vs its ∧ s.heap.IsList a its.toArray := by
  obtain ⟨its, r, ⟨o, n, e, c, _, d⟩, _⟩ := I.list h.l
  exact ⟨its, r, ⟨o, e, c, n, d⟩⟩
open PySem.SeqAt in
/-- the pairs of two lists, as eqL asks them -/
def pairEqL (l m : List D) (j : Nat) : Bool := match l[j]?, m[j]? with
  | some a, some b => eqD a b
  | _, _ => false
theorem all_pairs : ∀ (l m : List D), l.length = m.length → (List.range l.length).all (pairEqL l m) = eqL l m
  | [], [], _ => by simp [eqL]
  | a :: l, b :: m, h => by
    have ih := all_pairs l m (by simpa using h)
    rw [eqL, List.length_cons, List.range_succ_eq_map, List.all_cons, List.all_map]
    have e : (pairEqL (a :: l) (b :: m) ∘ Nat.succ) = pairEqL l m := by funext j; rfl
    rw [e, ih] <;> rfl
  | [], _ :: _, h => by simp at h
  | _ :: _, [], h => by simp at h
theorem eqL_len : ∀ (l m : List D), l.length ≠ m.length → eqL l m = false
  | [], [], h => absurd rfl h
  | a :: l, b :: m, h => by rw [eqL, eqL_len l m (by simpa using h), Bool.and_false]
  | [], _ :: _, _ => by rw [eqL] <;> simp
  | _ :: _, [], _ => by rw [eqL] <;> simp
open PySem.SeqAt in
mutual
theorem eq_at (I : Inv X pins σ H s) : ∀ (d d' : D) (A : Around) (v u : V) (x y : Value), A.units + depD d < cLine → flatD d = true → flatD d' = true → Den X.K Fz H v d → Den X.K Fz H u d' → RelV v x → RelV u y → EqAt A s x y (eqD d d')
  | .non, d', A, v, u, x, y, hu, f, f', h, h', rx, ry => by
    cases h; cases rx
    cases h' with
    | non => cases ry; exact EqAt.same _
    | bl b => cases ry; exact EqAt.none_bool b
    | int i => obtain ⟨t, rfl⟩ := ry; exact EqAt.none_int i t
    | str i => obtain ⟨t, rfl⟩ := ry; exact EqAt.none_str i t
    | tup q l => cases ry; obtain ⟨its, r, p⟩ := DenL.tup_at I q; exact EqAt.none_tuple p (by omega)
    | lst q l => cases ry; obtain ⟨its, r, p⟩ := DenL.lst_at I q; exact EqAt.none_list p (by omega)
    | dic a b => simp [flatD] at f'
    | ins a b c => simp [flatD] at f'
    | exn a b c => simp [flatD] at f'
  | .bl k, d', A, v, u, x, y, hu, f, f', h, h', rx, ry => by
    cases h; cases rx
    cases h' with
    | non => cases ry; exact EqAt.bool_none k
    | bl b => cases ry; exact EqAt.bool_bool k b
    | int i => obtain ⟨t, rfl⟩ := ry; exact EqAt.bool_int k i t
    | str i => obtain ⟨t, rfl⟩ := ry; exact EqAt.bool_str k i t
    | tup q l => cases ry; obtain ⟨its, r, p⟩ := DenL.tup_at I q; exact EqAt.bool_tuple k p (by omega)
    | lst q l => cases ry; obtain ⟨its, r, p⟩ := DenL.lst_at I q; exact EqAt.bool_list k p (by omega)
    | dic a b => simp [flatD] at f'
    | ins a b c => simp [flatD] at f'
    | exn a b c => simp [flatD] at f'
  | .int k, d', A, v, u, x, y, hu, f, f', h, h', rx, ry => by
    cases h; obtain ⟨tk, rfl⟩ := rx
    cases h' with
    | non => cases ry; exact EqAt.int_none k tk
    | bl b => cases ry; exact EqAt.int_bool k tk b
    | int i => obtain ⟨t, rfl⟩ := ry; exact EqAt.int_int k tk i t
    | str i => obtain ⟨t, rfl⟩ := ry; exact EqAt.int_str k tk i t
    | tup q l => cases ry; obtain ⟨its, r, p⟩ := DenL.tup_at I q; exact EqAt.int_tuple k tk p (by omega)
    | lst q l => cases ry; obtain ⟨its, r, p⟩ := DenL.lst_at I q; exact EqAt.int_list k tk p (by omega)
    | dic a b => simp [flatD] at f'
    | ins a b c => simp [flatD] at f'
    | exn a b c => simp [flatD] at f'
  | .str k, d', A, v, u, x, y, hu, f, f', h, h', rx, ry => by
    cases h; obtain ⟨tk, rfl⟩ := rx
    cases h' with
    | non => cases ry; exact EqAt.str_none k tk
    | bl b => cases ry; exact EqAt.str_bool k tk b
    | int i => obtain ⟨t, rfl⟩ := ry; exact EqAt.str_int k tk i t
    | str i => obtain ⟨t, rfl⟩ := ry; exact EqAt.str_str k tk i t
    | tup q l => cases ry; obtain ⟨its, r, p⟩ := DenL.tup_at I q; exact EqAt.str_tuple k tk p (by omega)
    | lst q l => cases ry; obtain ⟨its, r, p⟩ := DenL.lst_at I q; exact EqAt.str_list k tk p (by omega)
    | dic a b => simp [flatD] at f'
    | ins a b c => simp [flatD] at f'
    | exn a b c => simp [flatD] at f'
  | .tup l, d', A, v, u, x, y, hu, f, f', h, h', rx, ry => by
    cases h with
    | tup q l1 =>
      cases rx
      obtain ⟨its, r, p⟩ := DenL.tup_at I q
      have hu' : A.units < cLine := by omega
      cases h' with
      | non => cases ry; exact EqAt.tuple_none p hu'
      | bl b => cases ry; exact EqAt.tuple_bool b p hu'
      | int i => obtain ⟨t, rfl⟩ := ry; exact EqAt.tuple_int i t p hu'
      | str i => obtain ⟨t, rfl⟩ := ry; exact EqAt.tuple_str i t p hu'
      | lst q2 l2 => cases ry; obtain ⟨its2, r2, p2⟩ := DenL.lst_at I q2; exact EqAt.tuple_list p p2 hu'
      | tup q2 l2 =>
        cases ry
        rename_i a vs b vs2 ds2
        obtain ⟨its2, r2, p2⟩ := DenL.tup_at I q2
        rw [eqD]
        by_cases hab : a = b
        · subst hab
          have := den_fun I f f' (.tup q l1) (.tup q2 l2)
          cases this
          rw [eqL_refl l (by simpa [flatD] using f)]
          exact EqAt.same _
        · refine EqAt.of_refs hab ?_
          have hl : its.length = l.length := by rw [← r.length, l1.length]
          have hl2 : its2.length = ds2.length := by rw [← r2.length, l2.length]
          have key := RcAt.tuples (A := A) (e := pairEqL l ds2) p p2 hu' fun j h1 h2 => by
            have e1 : j < its.length := by simpa using h1
            have e2 : j < its2.length := by simpa using h2
            have := eq_atL I l ds2 A.in1 _ _ _ _ (by show A.units + 1 + depL l < cLine; simp only [depD] at hu; omega) (by simpa [flatD] using f) (by simpa [flatD] using f') l1 l2 r r2 j e1 e2
            simpa using this
          have ek : ((List.range (min its.toArray.size its2.toArray.size)).all (pairEqL l ds2) && its.toArray.size == its2.toArray.size) = eqL l ds2 := by
            simp only [List.size_toArray, hl, hl2]
            by_cases hz : l.length = ds2.length
            · rw [← hz, Nat.min_self, all_pairs l ds2 hz]; simp
            · rw [eqL_len l ds2 hz]
              have : (l.length == ds2.length) = false := by simpa using hz
              rw [this, Bool.and_false]
          rw [ek] at key
          exact key
      | dic a b => simp [flatD] at f'
      | ins a b c => simp [flatD] at f'
      | exn a b c => simp [flatD] at f'
  | .lst l, d', A, v, u, x, y, hu, f, f', h, h', rx, ry => by
    cases h with
    | lst q l1 =>
      cases rx
      obtain ⟨its, r, p⟩ := DenL.lst_at I q
      have hu' : A.units < cLine := by omega
      cases h' with
      | non => cases ry; exact EqAt.list_none p hu'
      | bl b => cases ry; exact EqAt.list_bool b p hu'
      | int i => obtain ⟨t, rfl⟩ := ry; exact EqAt.list_int i t p hu'
      | str i => obtain ⟨t, rfl⟩ := ry; exact EqAt.list_str i t p hu'
      | tup q2 l2 => cases ry; obtain ⟨its2, r2, p2⟩ := DenL.tup_at I q2; exact EqAt.list_tuple p p2 hu'
      | lst q2 l2 =>
        cases ry
        rename_i a vs b vs2 ds2
        obtain ⟨its2, r2, p2⟩ := DenL.lst_at I q2
        rw [eqD]
        by_cases hab : a = b
        · subst hab
          have := den_fun I f f' (.lst q l1) (.lst q2 l2)
          cases this
          rw [eqL_refl l (by simpa [flatD] using f)]
          exact EqAt.same _
        · refine EqAt.of_refs hab ?_
          have hl : its.length = l.length := by rw [← r.length, l1.length]
          have hl2 : its2.length = ds2.length := by rw [← r2.length, l2.length]
          by_cases hz : l.length = ds2.length
          · have key := RcAt.lists (A := A) (e := pairEqL l ds2) p p2 (by simp [hl, hl2, hz]) hu' fun j h1 h2 => by
              have e1 : j < its.length := by simpa using h1
              have e2 : j < its2.length := by simpa using h2
              have := eq_atL I l ds2 A.in1 _ _ _ _ (by show A.units + 1 + depL l < cLine; simp only [depD] at hu; omega) (by simpa [flatD] using f) (by simpa [flatD] using f') l1 l2 r r2 j e1 e2
              simpa using this
            have ek : (List.range its.toArray.size).all (pairEqL l ds2) = eqL l ds2 := by
              simp only [List.size_toArray, hl]
              exact all_pairs l ds2 hz
            rw [ek] at key
            exact key
          · rw [eqL_len l ds2 hz]
            exact RcAt.lists_lengths p p2 (by simpa [hl, hl2] using hz) hu'
      | dic a b => simp [flatD] at f'
      | ins a b c => simp [flatD] at f'
      | exn a b c => simp [flatD] at f'
  | .dic l, d', A, v, u, x, y, hu, f, f', h, h', rx, ry => by simp [flatD] at f
  | .ins _ l, d', A, v, u, x, y, hu, f, f', h, h', rx, ry => by simp [flatD] at f
  | .exn _ l, d', A, v, u, x, y, hu, f, f', h, h', rx, ry => by simp [flatD] at f
theorem eq_atL (I : Inv X pins σ H s) : ∀ (l m : List D) (A : Around) (vs us : List V) (xs ys : List Value), A.units + depL l < cLine → flatL l = true → flatL m = true → DenL X.K Fz H vs l → DenL X.K Fz H us m → Vals vs xs → Vals us ys →
    ∀ j (h1 : j < xs.length) (h2 : j < ys.length), EqAt A s xs[j] ys[j] (pairEqL l m j)
  | [], m, A, vs, us, xs, ys, hu, f, f', h, h', rx, ry, j, h1, h2 => by
    cases h; cases rx; exact absurd h1 (Nat.not_lt_zero _)
  | d :: l, [], A, vs, us, xs, ys, hu, f, f', h, h', rx, ry, j, h1, h2 => by
    cases h'; cases ry; exact absurd h2 (Nat.not_lt_zero _)
  | d :: l, e :: m, A, vs, us, xs, ys, hu, f, f', h, h', rx, ry, j, h1, h2 => by
    cases h with
    | cons a b =>
      cases h' with
      | cons a2 b2 =>
        cases rx with
        | cons q1 q2 =>
          cases ry with
          | cons p1 p2 =>
            rw [flatL, Bool.and_eq_true] at f f'
            rw [depL] at hu
            have m1 : depD d ≤ max (depD d) (depL l) := Nat.le_max_left _ _
            have m2 : depL l ≤ max (depD d) (depL l) := Nat.le_max_right _ _
            cases j with
            | zero => exact eq_at I d e A _ _ _ _ (by omega) f.1 f'.1 a a2 q1 p1
            | succ j => exact eq_atL I l m A _ _ _ _ (by omega) f.2 f'.2 b b2 q2 p2 j (by simpa using h1) (by simpa using h2)
end
end
end Dx

set_option Elab.async false
set_option linter.all false
set_option maxRecDepth 100000
set_option maxHeartbeats 1000000
namespace Dx
open PySem PySem.Spec PyProof.Rows L2
variable [Tbs]
section
variable {X : Cx} {pins : List (Addr × Obj)} {σ : L2.St} {H : Hp} {s : Shared} {Fz : Addr → Prop}
open PySem.SeqAt in
theorem rc_at (I : Inv X pins σ H s) : ∀ (d d' : D) (A : Around) (v u : V) (x y : Value), A.units + depD d < cLine → flatD d = true → flatD d' = true → Den X.K Fz H v d → Den X.K Fz H u d' → RelV v x → RelV u y → RcAt A s x y (eqD d d')
  | .non, d', A, v, u, x, y, hu, f, f', h, h', rx, ry => by
    cases h; cases rx
    cases h' with
    | non => cases ry; exact RcAt.none_none
    | bl b => cases ry; exact RcAt.none_bool b
    | int i => obtain ⟨t, rfl⟩ := ry; exact RcAt.none_int i t
    | str i => obtain ⟨t, rfl⟩ := ry; exact RcAt.none_str i t
    | tup q l => cases ry; obtain ⟨its, r, p⟩ := DenL.tup_at I q; exact RcAt.none_tuple p (by omega)
    | lst q l => cases ry; obtain ⟨its, r, p⟩ := DenL.lst_at I q; exact RcAt.none_list p (by omega)
    | dic a b => simp [flatD] at f'
    | ins a b c => simp [flatD] at f'
    | exn a b c => simp [flatD] at f'
  | .bl k, d', A, v, u, x, y, hu, f, f', h, h', rx, ry => by
    cases h; cases rx
    cases h' with
    | non => cases ry; exact RcAt.bool_none k
    | bl b => cases ry; exact RcAt.bool_bool k b
    | int i => obtain ⟨t, rfl⟩ := ry; exact RcAt.bool_int k i t
    | str i => obtain ⟨t, rfl⟩ := ry; exact RcAt.bool_str k i t
    | tup q l => cases ry; obtain ⟨its, r, p⟩ := DenL.tup_at I q; exact RcAt.bool_tuple k p (by omega)
    | lst q l => cases ry; obtain ⟨its, r, p⟩ := DenL.lst_at I q; exact RcAt.bool_list k p (by omega)
    | dic a b => simp [flatD] at f'
    | ins a b c => simp [flatD] at f'
    | exn a b c => simp [flatD] at f'
  | .int k, d', A, v, u, x, y, hu, f, f', h, h', rx, ry => by
    cases h; obtain ⟨tk, rfl⟩ := rx
    cases h' with
    | non => cases ry; exact RcAt.int_none k tk
    | bl b => cases ry; exact RcAt.int_bool k tk b
    | int i => obtain ⟨t, rfl⟩ := ry; exact RcAt.int_int k tk i t
    | str i => obtain ⟨t, rfl⟩ := ry; exact RcAt.int_str k tk i t
    | tup q l => cases ry; obtain ⟨its, r, p⟩ := DenL.tup_at I q; exact RcAt.int_tuple k tk p (by omega)
    | lst q l => cases ry; obtain ⟨its, r, p⟩ := DenL.lst_at I q; exact RcAt.int_list k tk p (by omega)
    | dic a b => simp [flatD] at f'
    | ins a b c => simp [flatD] at f'
    | exn a b c => simp [flatD] at f'
  | .str k, d', A, v, u, x, y, hu, f, f', h, h', rx, ry => by
    cases h; obtain ⟨tk, rfl⟩ := rx
    cases h' with
    | non => cases ry; exact RcAt.str_none k tk
    | bl b => cases ry; exact RcAt.str_bool k tk b
    | int i => obtain ⟨t, rfl⟩ := ry; exact RcAt.str_int k tk i t
    | str i => obtain ⟨t, rfl⟩ := ry; exact RcAt.str_str k tk i t
    | tup q l => cases ry; obtain ⟨its, r, p⟩ := DenL.tup_at I q; exact RcAt.str_tuple k tk p (by omega)
    | lst q l => cases ry; obtain ⟨its, r, p⟩ := DenL.lst_at I q; exact RcAt.str_list k tk p (by omega)
    | dic a b => simp [flatD] at f'
    | ins a b c => simp [flatD] at f'
    | exn a b c => simp [flatD] at f'
  | .tup l, d', A, v, u, x, y, hu, f, f', h, h', rx, ry => by
    cases h with
    | tup q l1 =>
      cases rx
      obtain ⟨its, r, p⟩ := DenL.tup_at I q
      have hu' : A.units < cLine := by omega
      cases h' with
      | non => cases ry; exact RcAt.tuple_none p hu'
      | bl b => cases ry; exact RcAt.tuple_bool b p hu'
      | int i => obtain ⟨t, rfl⟩ := ry; exact RcAt.tuple_int i t p hu'
      | str i => obtain ⟨t, rfl⟩ := ry; exact RcAt.tuple_str i t p hu'
      | lst q2 l2 => cases ry; obtain ⟨jts, r2, p2⟩ := DenL.lst_at I q2; exact RcAt.tuple_list p p2 hu'
      | tup q2 l2 =>
        cases ry
        rename_i a vs b vs2 ds2
        obtain ⟨jts, r2, p2⟩ := DenL.tup_at I q2
        rw [eqD]
        have hl : its.length = l.length := by rw [← r.length, l1.length]
        have hl2 : jts.length = ds2.length := by rw [← r2.length, l2.length]
        have key := RcAt.tuples (A := A) (e := pairEqL l ds2) p p2 hu' fun j h1 h2 => by
          have e1 : j < its.length := by simpa using h1
          have e2 : j < jts.length := by simpa using h2
          have := eq_atL I l ds2 A.in1 _ _ _ _ (by show A.units + 1 + depL l < cLine; simp only [depD] at hu; omega) (by simpa [flatD] using f) (by simpa [flatD] using f') l1 l2 r r2 j e1 e2
          simpa using this
        have ek : ((List.range (min its.toArray.size jts.toArray.size)).all (pairEqL l ds2) && its.toArray.size == jts.toArray.size) = eqL l ds2 := by
          simp only [List.size_toArray, hl, hl2]
          by_cases gz : l.length = ds2.length
          · rw [← gz, Nat.min_self, all_pairs l ds2 gz]; simp
          · rw [eqL_len l ds2 gz]
            have : (l.length == ds2.length) = false := by simpa using gz
            rw [this, Bool.and_false]
        rw [ek] at key
        exact key
      | dic a b => simp [flatD] at f'
      | ins a b c => simp [flatD] at f'
      | exn a b c => simp [flatD] at f'
  | .lst l, d', A, v, u, x, y, hu, f, f', h, h', rx, ry => by
    cases h with
    | lst q l1 =>
      cases rx
      obtain ⟨its, r, p⟩ := DenL.lst_at I q
      have hu' : A.units < cLine := by omega
      cases h' with
      | non => cases ry; exact RcAt.list_none p hu'
      | bl b => cases ry; exact RcAt.list_bool b p hu'
      | int i => obtain ⟨t, rfl⟩ := ry; exact RcAt.list_int i t p hu'
      | str i => obtain ⟨t, rfl⟩ := ry; exact RcAt.list_str i t p hu'
      | tup q2 l2 => cases ry; obtain ⟨jts, r2, p2⟩ := DenL.tup_at I q2; exact RcAt.list_tuple p p2 hu'
      | lst q2 l2 =>
        cases ry
        rename_i a vs b vs2 ds2
        obtain ⟨jts, r2, p2⟩ := DenL.lst_at I q2
        rw [eqD]
        have hl : its.length = l.length := by rw [← r.length, l1.length]
        have hl2 : jts.length = ds2.length := by rw [← r2.length, l2.length]
        by_cases gz : l.length = ds2.length
        · have key := RcAt.lists (A := A) (e := pairEqL l ds2) p p2 (by simp [hl, hl2, gz]) hu' fun j h1 h2 => by
            have e1 : j < its.length := by simpa using h1
            have e2 : j < jts.length := by simpa using h2
            have := eq_atL I l ds2 A.in1 _ _ _ _ (by show A.units + 1 + depL l < cLine; simp only [depD] at hu; omega) (by simpa [flatD] using f) (by simpa [flatD] using f') l1 l2 r r2 j e1 e2
            simpa using this
          have ek : (List.range its.toArray.size).all (pairEqL l ds2) = eqL l ds2 := by
            simp only [List.size_toArray, hl]
            exact all_pairs l ds2 gz
          rw [ek] at key
          exact key
        · rw [eqL_len l ds2 gz]
          exact RcAt.lists_lengths p p2 (by simpa [hl, hl2] using gz) hu'
      | dic a b => simp [flatD] at f'
      | ins a b c => simp [flatD] at f'
      | exn a b c => simp [flatD] at f'
  | .dic l, d', A, v, u, x, y, hu, f, f', h, h', rx, ry => by simp [flatD] at f
  | .ins _ l, d', A, v, u, x, y, hu, f, f', h, h', rx, ry => by simp [flatD] at f
  | .exn _ l, d', A, v, u, x, y, hu, f, f', h, h', rx, ry => by simp [flatD] at f
open PySem.SeqAt in
theorem rn_at (I : Inv X pins σ H s) : ∀ (d d' : D) (A : Around) (v u : V) (x y : Value), A.units + depD d < cLine → flatD d = true → flatD d' = true → Den X.K Fz H v d → Den X.K Fz H u d' → RelV v x → RelV u y → RcNeAt A s x y (!eqD d d')
  | .non, d', A, v, u, x, y, hu, f, f', h, h', rx, ry => by
    cases h; cases rx
    cases h' with
    | non => cases ry; exact RcNeAt.none_none
    | bl b => cases ry; exact RcNeAt.none_bool b
    | int i => obtain ⟨t, rfl⟩ := ry; exact RcNeAt.none_int i t
    | str i => obtain ⟨t, rfl⟩ := ry; exact RcNeAt.none_str i t
    | tup q l => cases ry; obtain ⟨its, r, p⟩ := DenL.tup_at I q; exact RcNeAt.none_tuple p (by omega)
    | lst q l => cases ry; obtain ⟨its, r, p⟩ := DenL.lst_at I q; exact RcNeAt.none_list p (by omega)
    | dic a b => simp [flatD] at f'
    | ins a b c => simp [flatD] at f'
    | exn a b c => simp [flatD] at f'
  | .bl k, d', A, v, u, x, y, hu, f, f', h, h', rx, ry => by
    cases h; cases rx
    cases h' with
    | non => cases ry; exact RcNeAt.bool_none k
    | bl b => cases ry; exact RcNeAt.bool_bool k b
    | int i => obtain ⟨t, rfl⟩ := ry; exact RcNeAt.bool_int k i t
    | str i => obtain ⟨t, rfl⟩ := ry; exact RcNeAt.bool_str k i t
    | tup q l => cases ry; obtain ⟨its, r, p⟩ := DenL.tup_at I q; exact RcNeAt.bool_tuple k p (by omega)
    | lst q l => cases ry; obtain ⟨its, r, p⟩ := DenL.lst_at I q; exact RcNeAt.bool_list k p (by omega)
    | dic a b => simp [flatD] at f'
    | ins a b c => simp [flatD] at f'
    | exn a b c => simp [flatD] at f'
  | .int k, d', A, v, u, x, y, hu, f, f', h, h', rx, ry => by
    cases h; obtain ⟨tk, rfl⟩ := rx
    cases h' with
    | non => cases ry; exact RcNeAt.int_none k tk
    | bl b => cases ry; exact RcNeAt.int_bool k tk b
    | int i => obtain ⟨t, rfl⟩ := ry; exact RcNeAt.int_int k tk i t
    | str i => obtain ⟨t, rfl⟩ := ry; exact RcNeAt.int_str k tk i t
    | tup q l => cases ry; obtain ⟨its, r, p⟩ := DenL.tup_at I q; exact RcNeAt.int_tuple k tk p (by omega)
    | lst q l => cases ry; obtain ⟨its, r, p⟩ := DenL.lst_at I q; exact RcNeAt.int_list k tk p (by omega)
    | dic a b => simp [flatD] at f'
    | ins a b c => simp [flatD] at f'
    | exn a b c => simp [flatD] at f'
  | .str k, d', A, v, u, x, y, hu, f, f', h, h', rx, ry => by
    cases h; obtain ⟨tk, rfl⟩ := rx
    cases h' with
    | non => cases ry; exact RcNeAt.str_none k tk
    | bl b => cases ry; exact RcNeAt.str_bool k tk b
    | int i => obtain ⟨t, rfl⟩ := ry; exact RcNeAt.str_int k tk i t
    | str i => obtain ⟨t, rfl⟩ := ry; exact RcNeAt.str_str k tk i t
    | tup q l => cases ry; obtain ⟨its, r, p⟩ := DenL.tup_at I q; exact RcNeAt.str_tuple k tk p (by omega)
    | lst q l => cases ry; obtain ⟨its, r, p⟩ := DenL.lst_at I q; exact RcNeAt.str_list k tk p (by omega)
    | dic a b => simp [flatD] at f'
    | ins a b c => simp [flatD] at f'
    | exn a b c => simp [flatD] at f'
  | .tup l, d', A, v, u, x, y, hu, f, f', h, h', rx, ry => by
    cases h with
    | tup q l1 =>
      cases rx
      obtain ⟨its, r, p⟩ := DenL.tup_at I q
      have hu' : A.units < cLine := by omega
      cases h' with
      | non => cases ry; exact RcNeAt.tuple_none p hu'
      | bl b => cases ry; exact RcNeAt.tuple_bool b p hu'
      | int i => obtain ⟨t, rfl⟩ := ry; exact RcNeAt.tuple_int i t p hu'
      | str i => obtain ⟨t, rfl⟩ := ry; exact RcNeAt.tuple_str i t p hu'
      | lst q2 l2 => cases ry; obtain ⟨jts, r2, p2⟩ := DenL.lst_at I q2; exact RcNeAt.tuple_list p p2 hu'
      | tup q2 l2 =>
        cases ry
        rename_i a vs b vs2 ds2
        obtain ⟨jts, r2, p2⟩ := DenL.tup_at I q2
        rw [eqD]
        have hl : its.length = l.length := by rw [← r.length, l1.length]
        have hl2 : jts.length = ds2.length := by rw [← r2.length, l2.length]
        have key := RcNeAt.tuples (A := A) (e := pairEqL l ds2) p p2 hu' fun j h1 h2 => by
          have e1 : j < its.length := by simpa using h1
          have e2 : j < jts.length := by simpa using h2
          have := eq_atL I l ds2 A.in1 _ _ _ _ (by show A.units + 1 + depL l < cLine; simp only [depD] at hu; omega) (by simpa [flatD] using f) (by simpa [flatD] using f') l1 l2 r r2 j e1 e2
          simpa using this
        have ek : ((List.range (min its.toArray.size jts.toArray.size)).all (pairEqL l ds2) && its.toArray.size == jts.toArray.size) = eqL l ds2 := by
          simp only [List.size_toArray, hl, hl2]
          by_cases gz : l.length = ds2.length
          · rw [← gz, Nat.min_self, all_pairs l ds2 gz]; simp
          · rw [eqL_len l ds2 gz]
            have : (l.length == ds2.length) = false := by simpa using gz
            rw [this, Bool.and_false]
        rw [ek] at key
        exact key
      | dic a b => simp [flatD] at f'
      | ins a b c => simp [flatD] at f'
      | exn a b c => simp [flatD] at f'
  | .lst l, d', A, v, u, x, y, hu, f, f', h, h', rx, ry => by
    cases h with
    | lst q l1 =>
      cases rx
      obtain ⟨its, r, p⟩ := DenL.lst_at I q
      have hu' : A.units < cLine := by omega
      cases h' with
      | non => cases ry; exact RcNeAt.list_none p hu'
      | bl b => cases ry; exact RcNeAt.list_bool b p hu'
      | int i => obtain ⟨t, rfl⟩ := ry; exact RcNeAt.list_int i t p hu'
      | str i => obtain ⟨t, rfl⟩ := ry; exact RcNeAt.list_str i t p hu'
      | tup q2 l2 => cases ry; obtain ⟨jts, r2, p2⟩ := DenL.tup_at I q2; exact RcNeAt.list_tuple p p2 hu'
      | lst q2 l2 =>
        cases ry
        rename_i a vs b vs2 ds2
        obtain ⟨jts, r2, p2⟩ := DenL.lst_at I q2
        rw [eqD]
        have hl : its.length = l.length := by rw [← r.length, l1.length]
        have hl2 : jts.length = ds2.length := by rw [← r2.length, l2.length]
        by_cases gz : l.length = ds2.length
        · have key := RcNeAt.lists (A := A) (e := pairEqL l ds2) p p2 (by simp [hl, hl2, gz]) hu' fun j h1 h2 => by
            have e1 : j < its.length := by simpa using h1
            have e2 : j < jts.length := by simpa using h2
            have := eq_atL I l ds2 A.in1 _ _ _ _ (by show A.units + 1 + depL l < cLine; simp only [depD] at hu; omega) (by simpa [flatD] using f) (by simpa [flatD] using f') l1 l2 r r2 j e1 e2
            simpa using this
          have ek : (List.range its.toArray.size).all (pairEqL l ds2) = eqL l ds2 := by
            simp only [List.size_toArray, hl]
            exact all_pairs l ds2 gz
          rw [ek] at key
          exact key
        · rw [eqL_len l ds2 gz]
          exact RcNeAt.lists_lengths p p2 (by simpa [hl, hl2] using gz) hu'
      | dic a b => simp [flatD] at f'
      | ins a b c => simp [flatD] at f'
      | exn a b c => simp [flatD] at f'
  | .dic l, d', A, v, u, x, y, hu, f, f', h, h', rx, ry => by simp [flatD] at f
  | .ins _ l, d', A, v, u, x, y, hu, f, f', h, h', rx, ry => by simp [flatD] at f
  | .exn _ l, d', A, v, u, x, y, hu, f, f', h, h', rx, ry => by simp [flatD] at f

/-- two values of one object stand for the same -/
theorem relV_inj {v u : V} {x : Value} (h : RelV v x) (h' : RelV u x) : v = u := RelV.inj h h'
def inD (x : D) (l : List D) : Bool := l.any fun y => eqD y x
/-- the answer of an item, read off its value -/
noncomputable def ansOf (x : D) (its : List Value) (l : List D) (y : Value) : Bool := open Classical in
  if h : ∃ j : Nat, its[j]? = some y then (match l[h.choose]? with | some d => eqD d x | none => false) else false
open PySem.SeqAt in

open PySem.SeqAt in
end

/-! ### operations -/
def maxDep : Nat := 60
def eqO (x y : D) : Option D := if flatD x && flatD y && decide (depD x ≤ maxDep) then some (.bl (eqD x y)) else none
def neO (x y : D) : Option D := if flatD x && flatD y && decide (depD x ≤ maxDep) then some (.bl (!eqD x y)) else none
def bothFlat (x y : D) : Bool := flatD x && flatD y && decide (depD x ≤ maxDep)
theorem bothFlat_of {x y : D} (h : bothFlat x y = true) : flatD x = true ∧ flatD y = true ∧ depD x ≤ maxDep := by
  unfold bothFlat at h
  rw [Bool.and_eq_true, Bool.and_eq_true] at h
  exact ⟨h.1.1, h.1.2, of_decide_eq_true h.2⟩
section
variable {X : Cx} {K : Frag}
/-- data, an answer that leans on the data alone -/
def rAns (K : Frag) (F : D → D → Option D) : R2 := fun x y H Q => ∃ Fz dx dy z v, Den K Fz H x dx ∧ Den K Fz H y dy ∧ F dx dy = some z ∧ (∀ Fz H, Den K Fz H v z) ∧ Q v H
theorem rAns_D {F : D → D → Option D} (lit : ∀ x y z, F x y = some z → Flat z) : R2D K (rAns K F) F := fun B Fz H σ ρ x y dx dy z Q hK I hx hy e b => by
  subst hK
  exact ⟨Fz, dx, dy, z, litV z, hx, hy, e, fun _ _ => litV_ok (lit _ _ _ e), b _ H Fz I .refl (litV_ok (lit _ _ _ e))⟩
theorem op_eqF (hu : X.A.units + 100 < cLine) : OpR X (compareOp .Eq) (rAns X.K eqO) := by
  intro pins s σ H x y v u Q I rx ry ⟨Fz, dx, dy, z, r, hx, hy, e, gz, q⟩
  unfold eqO at e
  split at e
  · rename_i h
    cases e
    obtain ⟨f1, f2, p⟩ := bothFlat_of h
    have hr := gz Fz H
    cases hr
    exact rc_at I dx dy X.A x y v u (by unfold maxDep at p; omega) f1 f2 hx hy rx ry _ _ _ _ ⟨.bl _, H, I, rfl, q⟩
  · cases e
theorem op_neF (hu : X.A.units + 100 < cLine) : OpR X (compareOp .NotEq) (rAns X.K neO) := by
  intro pins s σ H x y v u Q I rx ry ⟨Fz, dx, dy, z, r, hx, hy, e, gz, q⟩
  unfold neO at e
  split at e
  · rename_i h
    cases e
    obtain ⟨f1, f2, p⟩ := bothFlat_of h
    have hr := gz Fz H
    cases hr
    exact rn_at I dx dy X.A x y v u (by unfold maxDep at p; omega) f1 f2 hx hy rx ry _ _ _ _ ⟨.bl _, H, I, rfl, q⟩
  · cases e
theorem eqO_lit (x y z : D) (h : eqO x y = some z) : Flat z := by unfold eqO at h; split at h <;> cases h; trivial
theorem neO_lit (x y z : D) (h : neO x y = some z) : Flat z := by unfold neO at h; split at h <;> cases h; trivial
/-- x in y: a list, a tuple, a text -/
def inO (x y : D) : Option D := match x, y with
  | x, .lst l => if flatD x && flatL l && decide (depL l ≤ maxDep) then some (.bl (inD x l)) else none
  | x, .tup l => if flatD x && flatL l && decide (depL l ≤ maxDep) then some (.bl (inD x l)) else none
  | .str i, .str j => some (.bl (!(Builtin.Str.occurrences j i 0 j.length 1).isEmpty))
  | _, _ => none
def notD (o : Option D) : Option D := o.bind fun d => match d with
  | .bl b => some (.bl (!b))
  | _ => none
/-! ints -/
def intO (F : Int → Int → Option D) (x y : D) : Option D := match x, y with
  | .int i, .int j => F i j
  | _, _ => none
theorem den_int {Fz : Addr → Prop} {H : Hp} {v : V} {i : Int} (h : Den K Fz H v (.int i)) : v = .int i := by cases h; rfl
theorem r_int {r : R2} {C : Int → Int → Bool} {g : Int → Int → Int} (hr : ∀ i j H Q, C i j = true → Q (.int (g i j)) H → r (.int i) (.int j) H Q) : R2D K r (intO fun i j => if C i j then some (.int (g i j)) else none) :=
  fun B Fz H σ ρ x y dx dy z Q hK I hx hy e b => by
    unfold intO at e
    split at e
    · rename_i i j
      cases den_int hx; cases den_int hy
      dsimp only at e
      split at e
      · rename_i hc
        cases e
        exact hr i j H Q hc (b _ H Fz I .refl (.int _))
      · cases e
    · cases e
theorem r_intB {r : R2} {g : Int → Int → Bool} (hr : ∀ i j H Q, Q (.bl (g i j)) H → r (.int i) (.int j) H Q) : R2D K r (intO fun i j => some (.bl (g i j))) :=
  fun B Fz H σ ρ x y dx dy z Q hK I hx hy e b => by
    unfold intO at e
    split at e
    · rename_i i j
      cases den_int hx; cases den_int hy
      cases e
      exact hr i j H Q (b _ H Fz I .refl (.bl _))
    · cases e
def subO := intO fun i j => if true then some (.int (i - j)) else none
def bitsOf (i : Int) : Nat := i.natAbs.log2
def mulO := intO fun i j => if decide (bitsOf i + bitsOf j < 1000000) then some (.int (i * j)) else none
theorem r_mul : R2D K (rI CMulW fun i j => .int (i * j)) mulO := r_int (C := fun i j => decide (bitsOf i + bitsOf j < 1000000)) fun i j H Q c q => have h : bitsOf i + bitsOf j < 1000000 := of_decide_eq_true c
  ⟨i, j, rfl, rfl, h, q⟩
def divO := intO fun i j => if decide (0 < j ∧ bitsOf j < 9000) then some (.int (i / j)) else none
theorem r_div : R2D K (rI CDivW fun i j => .int (i / j)) divO := r_int (C := fun i j => decide (0 < j ∧ bitsOf j < 9000)) fun i j H Q c q => have h : 0 < j ∧ bitsOf j < 9000 := of_decide_eq_true c
  ⟨i, j, rfl, rfl, h, q⟩
def modO := intO fun i j => if decide (0 < j) then some (.int (i % j)) else none
theorem r_mod : R2D K (rI (fun _ j => 0 < j) fun i j => .int (i % j)) modO := r_int (C := fun i j => decide (0 < j)) fun i j H Q c q => have h : 0 < j := of_decide_eq_true c
  ⟨i, j, rfl, rfl, h, q⟩
/-- ** of any base, the result below 2 ^ 27 bits -/
def CPowX (i j : Int) : Prop := 0 ≤ j ∧ (Builtin.Int.intBits i : Int) * j ≤ 2 ^ 27
instance (i j : Int) : Decidable (CPowX i j) := by unfold CPowX; infer_instance
theorem op_powX : OpR X (binaryOp .Pow) (rI CPowX fun i j => .int (i ^ j.toNat)) := opI fun i j t u s Q E c h => pow_int c.1 c.2 h
def powO := intO fun i j => if decide (CPowX i j) then some (.int (i ^ j.toNat)) else none
theorem r_pow : R2D K (rI CPowX fun i j => .int (i ^ j.toNat)) powO := r_int (C := fun i j => decide (CPowX i j)) fun i j H Q c q => have h : CPowX i j := of_decide_eq_true c
  ⟨i, j, rfl, rfl, h, q⟩
def ltO := intO fun i j => some (.bl (decide (i < j)))
theorem r_lt : R2D K (rI0 fun i j => .bl (decide (i < j))) ltO := r_intB fun i j H Q q => ⟨i, j, rfl, rfl, q⟩
def leO := intO fun i j => some (.bl (decide (i ≤ j)))
def gtO := intO fun i j => some (.bl (decide (j < i)))
theorem r_gt : R2D K (rI0 fun i j => .bl (decide (j < i))) gtO := r_intB fun i j H Q q => ⟨i, j, rfl, rfl, q⟩
def geO := intO fun i j => some (.bl (decide (j ≤ i)))
theorem r_ge : R2D K (rI0 fun i j => .bl (decide (j ≤ i))) geO := r_intB fun i j H Q q => ⟨i, j, rfl, rfl, q⟩
def isNon : D → Bool
  | .non => true
  | _ => false
def isNO (x y : D) : Option D := match y with
  | .non => some (.bl (isNon x))
  | _ => none
def notNO (x y : D) : Option D := match y with
  | .non => some (.bl (!isNon x))
  | _ => none
/-! + -/
def addO (x y : D) : Option D := match x, y with
  | .int i, .int j => some (.int (i + j))
  | .str i, .str j => if okLen (i.length + j.length) then some (.str (i ++ j)) else none
  | .tup l, .tup m => if okLen (l.length + m.length) then some (.tup (l ++ m)) else none
  | _, _ => none
def rAdd (K : Frag) : R2 := fun x y H Q => ((rI0 fun i j => .int (i + j)) x y H Q) ∨ (∃ i j, x = .str i ∧ y = .str j ∧ i.length + j.length ≤ sizeLine ∧ Q (.str (i ++ j)) H) ∨ rCatA K x y H Q
theorem op_addA : OpR X (binaryOp .Add) (rAdd X.K) := op_add.or (op_add_str.or op_catA)
theorem r_add : R2D K (rAdd K) addO := fun B Fz H σ ρ x y dx dy z Q hK I hx hy e b => by
  subst hK
  unfold addO at e
  split at e
  · cases e; cases hx; cases hy
    exact .inl ⟨_, _, rfl, rfl, b _ H Fz I .refl (.int _)⟩
  · split at e
    · rename_i h
      cases e; cases hx; cases hy
      exact .inr (.inl ⟨_, _, rfl, rfl, of_decide_eq_true h, b _ H Fz I .refl (.str _)⟩)
    · cases e
  · split at e
    · rename_i h
      cases e
      cases hx with
      | tup q1 l1 =>
        cases hy with
        | tup q2 l2 =>
          refine .inr (.inr ⟨_, _, _, _, rfl, rfl, q1.t, q2.t, by rw [l1.length, l2.length]; exact of_decide_eq_true h, fun h0 => ?_, fun h0 h1 => ?_, fun h0 h1 => ?_⟩)
          · subst h0; cases l1; exact b _ H Fz I .refl (.tup q2 l2)
          · subst h1; cases l2; rw [List.append_nil] at b; exact b _ H Fz I .refl (.tup q1 l1)
          · exact Back.tup I (l1.append l2) b
    · cases e
  · cases e
/-- list + list: a new list -/
theorem Inv.rdl {pins : List (Addr × Obj)} {σ : L2.St} {H : Hp} {s : Shared} {l : Addr} {xs : List V} (I : Inv X pins σ H s) (gH : Rd H l (.lst xs)) : xs.length ≤ sizeLine ∧ ∃ (its : List Value) (n : Nat), Vals xs its ∧ xs.length = its.length ∧ s.heap.get? l = some { cls := .type "list", data := .seq its.toArray n } := by
  obtain ⟨z, its, n, r, e⟩ := gH.ok I.hok
  exact ⟨z, its, n, r, r.length, e⟩
def rCatR : R2 := fun x y H Q => ∃ l b xs zs, x = .ref l ∧ y = .ref b ∧ Rd H l (.lst xs) ∧ Rd H b (.lst zs) ∧ xs.length + zs.length ≤ sizeLine ∧ ∀ p, H p = none → Q (.ref p) (upd H p (.lst (xs ++ zs)))
theorem op_catR : OpR X (binaryOp .Add) rCatR := by
  intro pins s σ H x y v u Q I rx ry h
  obtain ⟨l, b, xs, zs, rfl, rfl, gH, gB, gz, q⟩ := h
  cases rx
  cases ry
  obtain ⟨z, its, n, r, hl, e⟩ := Inv.rdl I gH
  obtain ⟨z2, jts, n2, r2, hl2, e2⟩ := Inv.rdl I gB
  refine PySem.P.add_list e e2 ?_ (by rw [List.size_toArray, List.size_toArray]; omega)
  have ek : its.toArray ++ jts.toArray = (its ++ jts).toArray := by simp
  rw [ek]
  exact ⟨.ref _, _, I.lnew (t' := s.toks) (r.append r2) (by rw [List.length_append]; omega), rfl, q _ I.fresh⟩
def catO (x y : D) : Option D := match x, y with
  | .lst l, .lst m => if okLen (l.length + m.length) then some (.lst (l ++ m)) else none
  | _, _ => none
theorem r_cat : R2O K rCatR catO := fun B Fz H σ ρ x y dx dy z Q hK I hx hy e b => by
  unfold catO at e
  split at e
  · split at e
    · rename_i h
      cases e
      cases hx with
      | lst q1 l1 =>
        cases hy with
        | lst q2 l2 => exact ⟨_, _, _, _, rfl, rfl, q1.rd, q2.rd, by rw [l1.length, l2.length]; exact of_decide_eq_true h, BackO.lst I (l1.append l2) b⟩
    · cases e
  · cases e
end
end Dx

set_option Elab.async false
set_option linter.all false
set_option maxRecDepth 100000
set_option maxHeartbeats 1000000
namespace Dx
open PySem PySem.Spec PyProof.Rows L2
variable [Tbs]

/-! ### subscripts -/
def nslE : Expr → Bool
  | .Slice _ _ _ _ => false
  | _ => true
theorem plainIx_of {b : Expr} (h : nslE b = true) : PlainIx b := by
  cases b <;> first | (intro _ _; rfl) | cases h
def dicGet (l : List (Str × D)) (k : Str) : Option D := l.lookup k
def ixO (x y : D) : Option D := match x, y with
  | .lst l, .int i => atI l i
  | .tup l, .int i => atI l i
  | .str z, .int i => if okLen z.length then (atI z.cps.toList i).map fun c => .str ⟨#[c]⟩ else none
  | .dic l, .str k => dicGet l k
  | _, _ => none
theorem atI_den {K : Frag} {Fz : Addr → Prop} {H : Hp} {vs : List V} {ds : List D} {i : Int} {z : D} (h : DenL K Fz H vs ds) (e : atI ds i = some z) : ∃ v, atI vs i = some v ∧ Den K Fz H v z := by
  unfold atI at e ⊢
  rw [h.length]
  cases q : ixN ds.length i with
  | none => rw [q] at e; cases e
  | some j =>
    rw [q] at e
    exact h.get e
theorem valV_map {kvs : List (Str × V)} {k : Str} : valV (kvs.map keyP) (Sum.inr k) = kvs.lookup k := by
  induction kvs with
  | nil => rfl
  | cons p r ih =>
    obtain ⟨a, v⟩ := p
    rw [List.map_cons, List.lookup_cons]
    by_cases h : a = k
    · subst h
      have e := valV_pos (p := keyP (a, v)) (r := r.map keyP) (k := Sum.inr a) rfl
      rw [e]
      simp [keyP]
    · have e := valV_neg (p := keyP (a, v)) (r := r.map keyP) (k := Sum.inr k) (fun z => h (Sum.inr.inj z))
      rw [e, ih]
      have : (k == a) = false := by simpa using fun z => h z.symm
      rw [this]
theorem ix_dic {X : Cx} (hu : X.A.units + 1 < cLine) : IxR X (fun x y H Q => ∃ a v, x = .ref a ∧ DGet H a y (some v) ∧ Q v H) := by
  intro value slice pins s σ H x y v u Q I rx ry ⟨a, z, ex, g, q⟩ hs
  subst ex
  obtain rfl : v = Value.ref a := rx
  exact tail_any (dict_typeIs I g) PySem.F.slot_dict_getitem.lookup (d_getItem hu I g ry fun w' s3 I3 rw' => ⟨z, H, I3, rw', q⟩) hs
section
variable {X : Cx} {B : Bs} {E : XK} {a b c e : Expr} {es : List Expr} {f g : List Sl → R (D × List Sl)} {l : List Sl → R (List D × List Sl)} {pos : Pos} {K : Frag}
def rIxF (K : Frag) : R2 := fun x y H Q => rIx K x y H Q ∨ ∃ a v, x = .ref a ∧ DGet H a y (some v) ∧ Q v H
theorem r_ix : R2D K (rIxF K) ixO := fun B Fz H σ ρ x y dx dy z Q hK I hx hy e b => by
  subst hK
  unfold ixO at e
  split at e
  · cases den_int hy
    cases hx with
    | lst q l => obtain ⟨v, e2, d⟩ := atI_den l e; exact .inl (.inl ⟨_, _, _, v, rfl, rfl, q.l, e2, b v H Fz I .refl d⟩)
  · cases den_int hy
    cases hx with
    | tup q l => obtain ⟨v, e2, d⟩ := atI_den l e; exact .inl (.inr (.inl ⟨_, _, _, v, rfl, rfl, q.t, e2, b v H Fz I .refl d⟩))
  · cases den_int hy
    cases hx
    split at e
    · rename_i h
      obtain ⟨c, e2, rfl⟩ := Option.map_eq_some_iff.mp e
      exact .inl (.inr (.inr ⟨_, _, c, rfl, rfl, of_decide_eq_true h, e2, b _ H Fz I .refl (.str _)⟩))
    · cases e
  · cases hy
    cases hx with
    | dic q l =>
      obtain ⟨v, e2, d⟩ := l.lookup e
      rename_i ds k aa oo kvs
      refine .inr ⟨_, v, rfl, .inl ⟨_, Sum.inr k, .inr ⟨_, q⟩, rfl, ?_⟩, b v H Fz I .refl d⟩
      rw [valV_map, e2]
  · cases e
theorem de_ix (hu : X.A.units + 100 < cLine) (hK : B.K = X.K) (hn : nslE b = true) (ha : PE X a (tE B E f)) (hb : PE X b (tE B E g)) : PE X (.Subscript a b pos) (tE B E (ev2 ixO f g)) :=
  weakE (pe_ix (ix_seq.or (ix_dic (by omega))) ha hb (plainIx_of hn)) fun _ _ _ h => t_op (r := rIxF X.K) r_ix hK h
/-! slices -/
def cutL {α : Type} (xs : List α) (lo hi : Option Int) : List α := (xs.drop (HT.sIx xs.length 0 lo)).take (HT.sIx xs.length xs.length hi - HT.sIx xs.length 0 lo)
def evPart : Option (List Sl → R (D × List Sl)) → List Sl → R (Option Int × List Sl)
  | none, ρ => .ok (none, ρ)
  | some f, ρ => (f ρ).bind fun p => match p.1 with
    | .int i => .ok (some i, p.2)
    | _ => .bad
abbrev rP : Rel (Option Int) (Option Int) := fun _ _ _ _ _ v d => v = d
/-- a part of a slice -/
inductive PartOk (X : Cx) (B : Bs) (E : XK) : Option Expr → Option (List Sl → R (D × List Sl)) → Prop where
  | none : PartOk X B E none none
  | some {e : Expr} {f : List Sl → R (D × List Sl)} (h : PE X e (tE B E f)) : PartOk X B E (some e) (some f)
def slTO (lo hi : Option Int) : D → Option D
  | .tup l => some (.tup (cutL l lo hi))
  | .str z => if okLen z.length then some (.str (cutS z lo hi)) else none
  | _ => none
def slLO (lo hi : Option Int) : D → Option D
  | .lst l => some (.lst (cutL l lo hi))
  | _ => none
def evSl (F : Option Int → Option Int → D → Option D) (f : List Sl → R (D × List Sl)) (p q : Option (List Sl → R (D × List Sl))) (ρ : List Sl) : R (D × List Sl) :=
  (f ρ).bind fun x => (evPart p x.2).bind fun y => (evPart q y.2).bind fun z => (ofO (F y.1 z.1 x.1)).bind fun w => .ok (w, z.2)
/-! ### built-ins -/
def lenO : List D → Option D
  | [.lst l] => some (.int l.length)
  | [.tup l] => some (.int l.length)
  | [.str z] => if okLen z.length then some (.int z.length) else none
  | [.dic l] => some (.int l.length)
  | _ => none
theorem call_lenD {X : Cx} : CallR X (.builtin "len") (fun xs H Q => ∃ a kvs, xs = [.ref a] ∧ Rd H a (.dK kvs) ∧ Q (.int kvs.length) H) := by
  intro pins s σ H xs us Q I r ⟨a, kvs, e, h, q⟩
  subst e
  obtain ⟨u, rfl, ru⟩ := r.one
  obtain rfl : u = Value.ref a := ru
  exact d_len I h fun t s' I' => ⟨.int kvs.length, H, I', ⟨t, rfl⟩, q⟩
def rLenF (K : Frag) : List V → Hp → VK → Prop := fun xs H Q => (∃ p ys, xs = [.ref p] ∧ (SqL K H p ys ∨ SqT K H p ys) ∧ Q (.int ys.length) H) ∨ (∃ z, xs = [.str z] ∧ z.length ≤ sizeLine ∧ Q (.int z.length) H) ∨ ∃ a kvs, xs = [.ref a] ∧ Rd H a (.dK kvs) ∧ Q (.int kvs.length) H
theorem call_lenF : CallR X (.builtin "len") (rLenF X.K) := call_len_seq.or (call_len_str.or call_lenD)
theorem denL1 {Fz : Addr → Prop} {H : Hp} {vs : List V} {d : D} (h : DenL K Fz H vs [d]) : ∃ v, vs = [v] ∧ Den K Fz H v d := by
  cases h with
  | cons a l => cases l; exact ⟨_, rfl, a⟩
theorem denL2 {Fz : Addr → Prop} {H : Hp} {vs : List V} {d d2 : D} (h : DenL K Fz H vs [d, d2]) : ∃ v u, vs = [v, u] ∧ Den K Fz H v d ∧ Den K Fz H u d2 := by
  cases h with
  | cons a l => obtain ⟨u, rfl, h2⟩ := denL1 l; exact ⟨_, u, rfl, a, h2⟩
theorem r_len : RLD K (rLenF K) lenO := fun B Fz H σ ρ vs ds z Q hK I hd e b => by
  subst hK
  unfold lenO at e
  split at e
  · cases e
    obtain ⟨v, rfl, h⟩ := denL1 hd
    cases h with
    | lst q l => refine .inl ⟨_, _, rfl, .inl q.l, ?_⟩; rw [l.length]; exact b _ H Fz I .refl (.int _)
  · cases e
    obtain ⟨v, rfl, h⟩ := denL1 hd
    cases h with
    | tup q l => refine .inl ⟨_, _, rfl, .inr q.t, ?_⟩; rw [l.length]; exact b _ H Fz I .refl (.int _)
  · split at e
    · rename_i hz
      cases e
      obtain ⟨v, rfl, h⟩ := denL1 hd
      cases h
      exact .inr (.inl ⟨_, rfl, of_decide_eq_true hz, b _ H Fz I .refl (.int _)⟩)
    · cases e
  · cases e
    obtain ⟨v, rfl, h⟩ := denL1 hd
    cases h with
    | dic q l =>
      refine .inr (.inr ⟨_, _, rfl, .inr ⟨_, q⟩, ?_⟩)
      rw [List.length_map, l.length]
      exact b _ H Fz I .refl (.int _)
  · cases e
def absO : List D → Option D
  | [.int i] => some (.int (if i < 0 then -i else i))
  | _ => none
theorem r_abs : RLD K (fun xs H Q => ∃ i, xs = [.int i] ∧ Q (.int (if i < 0 then -i else i)) H) absO := fun B Fz H σ ρ vs ds z Q hK I hd e b => by
  unfold absO at e
  split at e
  · cases e
    obtain ⟨v, rfl, h⟩ := denL1 hd
    cases h
    exact ⟨_, rfl, b _ H Fz I .refl (.int _)⟩
  · cases e
def maxO : List D → Option D
  | [.int i, .int j] => some (.int (if j > i then j else i))
  | _ => none
def minO : List D → Option D
  | [.int i, .int j] => some (.int (if j < i then j else i))
  | _ => none
theorem r_max : RLD K (fun xs H Q => ∃ i j, xs = [.int i, .int j] ∧ Q (.int (if j > i then j else i)) H) maxO := fun B Fz H σ ρ vs ds z Q hK I hd e b => by
  unfold maxO at e
  split at e
  · cases e
    obtain ⟨v, u, rfl, h, h2⟩ := denL2 hd
    cases h; cases h2
    exact ⟨_, _, rfl, b _ H Fz I .refl (.int _)⟩
  · cases e
theorem r_min : RLD K (fun xs H Q => ∃ i j, xs = [.int i, .int j] ∧ Q (.int (if j < i then j else i)) H) minO := fun B Fz H σ ρ vs ds z Q hK I hd e b => by
  unfold minO at e
  split at e
  · cases e
    obtain ⟨v, u, rfl, h, h2⟩ := denL2 hd
    cases h; cases h2
    exact ⟨_, _, rfl, b _ H Fz I .refl (.int _)⟩
  · cases e
def intF : List D → Option D
  | [.int i] => some (.int i)
  | [.bl k] => some (.int (if k then 1 else 0))
  | _ => none
theorem r_intF : RLD K (fun xs H Q => (∃ i, xs = [.int i] ∧ Q (.int i) H) ∨ ∃ k, xs = [.bl k] ∧ Q (.int (if k then 1 else 0)) H) intF := fun B Fz H σ ρ vs ds z Q hK I hd e b => by
  unfold intF at e
  split at e
  · cases e
    obtain ⟨v, rfl, h⟩ := denL1 hd
    cases h
    exact .inl ⟨_, rfl, b _ H Fz I .refl (.int _)⟩
  · cases e
    obtain ⟨v, rfl, h⟩ := denL1 hd
    cases h
    exact .inr ⟨_, rfl, b _ H Fz I .refl (.int _)⟩
  · cases e
/-- list(x) -/
def listO : List D → Option D
  | [.lst l] => some (.lst l)
  | [.tup l] => some (.lst l)
  | _ => none
/-- tuple(x) -/
def tupO : List D → Option D
  | [.lst l] => some (.tup l)
  | [.tup l] => some (.tup l)
  | _ => none
end
end Dx

set_option Elab.async false
set_option linter.all false
set_option maxRecDepth 100000
set_option maxHeartbeats 1000000
namespace Dx
open PySem PySem.Spec PyProof.Rows L2
variable [Tbs]

/-! ### repr -/
mutual
def toP : D → Option PyData
  | .non => some .none
  | .bl b => some (.bool b)
  | .int i => some (.int i)
  | .str x => some (.str x)
  | .tup l => (toPL l).map .tuple
  | .lst l => (toPL l).map .list
  | .dic l => (toPF l).map .dict
  | .ins _ _ => none
  | .exn _ _ => none
def toPL : List D → Option (List PyData)
  | [] => some []
  | d :: l => (toP d).bind fun p => (toPL l).map (p :: ·)
def toPF : List (Str × D) → Option (List (PyData × PyData))
  | [] => some []
  | (k, d) :: l => (toP d).bind fun p => (toPF l).map ((.str k, p) :: ·)
end
section
variable {X : Cx} {pins : List (Addr × Obj)} {σ : L2.St} {H : Hp} {s : Shared} {Fz : Addr → Prop}
theorem pairs_vals {P : Program} {w : World} : ∀ {es : List DictEntry} {vs : List (Key × Value)}, Pairs (mixKind P w) es vs → ∀ {kvs : List (Str × V)}, KV (kvs.map keyP) vs →
    ∃ ts : List Tok, es.map (·.key) = (kvs.zip ts).map (fun p => Value.str p.1.1 p.2) ∧ ts.length = kvs.length ∧ Vals (kvs.map (·.2)) (es.map (·.val))
  | _, _, .nil, kvs, r => by
    cases kvs with
    | nil => exact ⟨[], rfl, rfl, .nil⟩
    | cons p q => cases r
  | _, _, .cons (e := e) (kv := kv) (es := es) (kvs := vs) h1 h2 l, kvs, r => by
    cases kvs with
    | nil => cases r
    | cons p q =>
      cases r with
      | cons a b =>
        obtain ⟨ts, e1, e2, e3⟩ := pairs_vals l (kvs := q) b
        obtain ⟨a1, a2⟩ := a
        rw [← a1] at h1
        have h1' : keyIs (Sum.inr p.1) e.key = true := h1
        rcases keyIs_shape h1' with ⟨i, t, z, _⟩ | ⟨x, t, z, z2⟩
        · cases z
        · cases z
          refine ⟨t :: ts, ?_, congrArg Nat.succ e2, .cons ?_ e3⟩
          · rw [List.map_cons, List.zip_cons_cons, List.map_cons, e1, z2]
          · show RelV p.2 e.val
            rw [h2]; exact a2
theorem reads_keys {h : Heap} : ∀ (kvs : List (Str × V)) (ts : List Tok) (ps : List (PyData × PyData)), ts.length = kvs.length → ps.map (·.1) = kvs.map (fun p => PyData.str p.1) →
    ReadsAll h ((kvs.zip ts).map fun p => Value.str p.1.1 p.2) (ps.map (·.1)) []
  | [], ts, ps, _, e => by rw [e]; exact .nil
  | p :: kvs, [], ps, e, _ => by simp at e
  | p :: kvs, t :: ts, [], _, e => by simp at e
  | p :: kvs, t :: ts, q :: ps, e, e2 => by
    rw [List.map_cons, List.map_cons] at e2
    injection e2 with e3 e4
    rw [List.zip_cons_cons, List.map_cons, List.map_cons, e3]
    exact .cons (as := []) (bs := []) (.str _ _) (reads_keys kvs ts ps (by simpa using e) e4)
mutual
theorem reads_of (I : Inv X pins σ H s) : ∀ (d : D) {v : V} {u : Value} {p : PyData}, toP d = some p → Den X.K Fz H v d → RelV v u → ∃ as, Reads s.heap u p as ∧ ∀ a ∈ as, ∃ o, H a = some o
  | .non, _, _, _, e, h, r => by cases e; cases h; cases r; exact ⟨_, .none, fun a z => by cases z⟩
  | .bl b, _, _, _, e, h, r => by cases e; cases h; cases r; exact ⟨_, .bool b, fun a z => by cases z⟩
  | .int i, _, _, _, e, h, r => by cases e; cases h; obtain ⟨t, rfl⟩ := r; exact ⟨_, .int i t, fun a z => by cases z⟩
  | .str i, _, _, _, e, h, r => by cases e; cases h; obtain ⟨t, rfl⟩ := r; exact ⟨_, .str i t, fun a z => by cases z⟩
  | .tup l, _, _, _, e, h, r => by
    cases h with
    | tup q m =>
      cases r
      rw [toP] at e
      obtain ⟨ps, e1, rfl⟩ := Option.map_eq_some_iff.mp e
      obtain ⟨jts, rv, ⟨o, h1, h2, n, h3⟩, _⟩ := I.tuple q.t
      obtain ⟨as, h4, h5⟩ := reads_ofL I l e1 m rv
      exact ⟨as, .tuple h1 h2 h3 (by simpa using h4), h5⟩
  | .lst l, _, _, _, e, h, r => by
    cases h with
    | lst q m =>
      cases r
      rw [toP] at e
      obtain ⟨ps, e1, rfl⟩ := Option.map_eq_some_iff.mp e
      obtain ⟨jts, rv, ⟨o, n, h1, h2, _, h3⟩, _⟩ := I.list q.l
      obtain ⟨as, h4, h5⟩ := reads_ofL I l e1 m rv
      refine ⟨_ :: as, .list h1 h2 h3 (by simpa using h4), fun a z => ?_⟩
      rcases List.mem_cons.mp z with z | z
      · obtain ⟨o, q⟩ := q; exact ⟨_, by rw [z]; exact q⟩
      · exact h5 a z
  | .dic l, _, _, _, e, h, r => by
    cases h with
    | dic q m =>
      cases r
      rw [toP] at e
      obtain ⟨ps, e1, rfl⟩ := Option.map_eq_some_iff.mp e
      obtain ⟨k1, k2, k3, es, ep, vs, k4, k5, k6, o', es', k7, k8, k9, k10, k11, k12⟩ := Inv.frzK I q
      obtain ⟨ts, t1, t2, t3⟩ := pairs_vals k11 k6
      rw [k2] at k7; cases k7
      rw [k4] at k9; cases k9
      obtain ⟨ps1, as, h4, h5⟩ := reads_ofF I l e1 m t3
      have h6 := reads_keys (h := s.heap) _ ts ps t2 ps1
      rw [← t1] at h6
      refine ⟨_ :: [] ++ as, .dict k2 k3.1 k4 h6 h4, fun a z => ?_⟩
      rcases List.mem_cons.mp z with z | z
      · exact ⟨_, by rw [z]; exact q⟩
      · exact h5 a z
  | .ins _ _, _, _, _, e, _, _ => by simp [toP] at e
  | .exn _ _, _, _, _, e, _, _ => by simp [toP] at e
theorem reads_ofL (I : Inv X pins σ H s) : ∀ (l : List D) {vs : List V} {us : List Value} {ps : List PyData}, toPL l = some ps → DenL X.K Fz H vs l → Vals vs us → ∃ as, ReadsAll s.heap us ps as ∧ ∀ a ∈ as, ∃ o, H a = some o
  | [], _, _, _, e, h, r => by cases e; cases h; cases r; exact ⟨_, .nil, fun a z => by cases z⟩
  | d :: l, _, _, _, e, h, r => by
    rw [toPL] at e
    obtain ⟨p, e1, e2⟩ := Option.bind_eq_some_iff.mp e
    obtain ⟨ps, e3, rfl⟩ := Option.map_eq_some_iff.mp e2
    cases h with
    | cons a b =>
      cases r with
      | cons r1 r2 =>
        obtain ⟨as, h1, h2⟩ := reads_of I d e1 a r1
        obtain ⟨bs, h3, h4⟩ := reads_ofL I l e3 b r2
        exact ⟨as ++ bs, .cons h1 h3, fun a z => (List.mem_append.mp z).elim (h2 a) (h4 a)⟩
theorem reads_ofF (I : Inv X pins σ H s) : ∀ (l : List (Str × D)) {vs : List (Str × V)} {us : List Value} {ps : List (PyData × PyData)}, toPF l = some ps → DenF X.K Fz H vs l → Vals (vs.map (·.2)) us →
    ps.map (·.1) = vs.map (fun p => PyData.str p.1) ∧ ∃ as, ReadsAll s.heap us (ps.map (·.2)) as ∧ ∀ a ∈ as, ∃ o, H a = some o
  | [], _, _, _, e, h, r => by cases e; cases h; cases r; exact ⟨rfl, _, .nil, fun a z => by cases z⟩
  | (k, d) :: l, _, _, _, e, h, r => by
    rw [toPF] at e
    obtain ⟨p, e1, e2⟩ := Option.bind_eq_some_iff.mp e
    obtain ⟨ps, e3, rfl⟩ := Option.map_eq_some_iff.mp e2
    cases h with
    | cons a b =>
      cases r with
      | cons r1 r2 =>
        obtain ⟨as, h1, h2⟩ := reads_of I d e1 a r1
        obtain ⟨z, bs, h3, h4⟩ := reads_ofF I l e3 b r2
        exact ⟨congrArg (_ :: ·) z, as ++ bs, .cons h1 h3, fun a z => (List.mem_append.mp z).elim (h2 a) (h4 a)⟩
end
end
section
variable {X : Cx} {K : Frag}
def reprD (d : D) : Option Str := (toP d).bind fun p => if p.showable && okLen p.shown.length && decide (p.depth ≤ maxDep) then some p.shown else none
def reprO : List D → Option D
  | [d] => (reprD d).map .str
  | _ => none
theorem reprD_of {d : D} {x : Str} (h : reprD d = some x) : ∃ p, toP d = some p ∧ p.showable = true ∧ p.shown.length ≤ sizeLine ∧ p.depth ≤ maxDep ∧ x = p.shown := by
  obtain ⟨p, e, h⟩ := Option.bind_eq_some_iff.mp h
  split at h
  · rename_i c
    cases h
    rw [Bool.and_eq_true, Bool.and_eq_true] at c
    exact ⟨p, e, c.1.1, of_decide_eq_true c.1.2, of_decide_eq_true c.2, rfl⟩
  · cases h
def rRepr (K : Frag) : List V → Hp → VK → Prop := fun xs H Q => ∃ Fz d x v, xs = [v] ∧ Den K Fz H v d ∧ reprD d = some x ∧ Q (.str x) H
theorem r_repr : RLD K (rRepr K) reprO := fun B Fz H σ ρ vs ds z Q hK I hd e b => by
  subst hK
  unfold reprO at e
  split at e
  · obtain ⟨x, e1, rfl⟩ := Option.map_eq_some_iff.mp e
    obtain ⟨v, rfl, h⟩ := denL1 hd
    exact ⟨Fz, _, x, v, rfl, h, e1, b _ H Fz I .refl (.str _)⟩
  · cases e
theorem sys_none {pins : List (Addr × Obj)} {σ : L2.St} {H : Hp} {s : Shared} (I : Inv X pins σ H s) (h : ∃ o, X.K.lookup sysModules = some o) : H sysModules = none := by
  obtain ⟨o, e⟩ := h
  exact (I.bs _ _ (I.ok.mod.kin _ _ e)).2
theorem call_reprF (hg : X.A.guards = some []) (hu : X.A.units + 100 < cLine) (hsys : ∃ o, X.K.lookup sysModules = some o) : CallR X (.builtin "repr") (rRepr X.K) := by
  intro pins s σ H xs us Q I r ⟨Fz, d, x, v, e, hd, hr, q⟩
  subst e
  obtain ⟨u, rfl, ru⟩ := r.one
  obtain ⟨p, hp, h1, h2, h3, rfl⟩ := reprD_of hr
  have fin : ∀ t tk (h' : Heap), (∀ b o, s.heap.get? b = some o → h'.get? b = some o) → EP X pins σ Q (.str p.shown t) { s with heap := h', toks := tk } := fun t tk h' hk => ⟨.str p.shown, H, I.kept hk, ⟨t, rfl⟩, q⟩
  have seq : ∀ a, u = .ref a → wpAny (model X.prog X.w) X.A (call (.builtin "repr") [u]) (EP X pins σ Q) X.xe s := fun a eu => by
    subst eu
    obtain ⟨as, h4, h5⟩ := reads_of I d hp hd ru
    refine repr_of_reads' h4 h1 (fun _ z => ?_) hg (by unfold maxDep at h3; omega) (fun _ _ e => e) (fun h' t tk hk => fin t tk h' hk) h2
    obtain ⟨o, z⟩ := h5 _ z
    rw [sys_none I hsys] at z; cases z
  cases hd with
  | non => cases hp; cases ru; exact PySem.P.repr_of_none (fin _ _ _ fun _ _ e => e)
  | bl b =>
    cases hp; cases ru
    refine PySem.P.repr_of_bool ?_
    have := fin s.toks (s.toks + 1) s.heap fun _ _ e => e
    rw [PyData.shown] at this
    exact this
  | int i =>
    cases hp; obtain ⟨t, rfl⟩ := ru
    refine PySem.P.repr_of_int (by rw [PyData.showable] at h1; exact of_decide_eq_true h1) ?_
    have := fin s.toks (s.toks + 1) s.heap fun _ _ e => e
    rw [PyData.shown] at this
    exact this
  | str i =>
    cases hp; obtain ⟨t, rfl⟩ := ru
    refine PySem.P.repr_of_str ?_ (by rw [PyData.shown] at h2; exact h2)
    have := fin s.toks (s.toks + 1) s.heap fun _ _ e => e
    rw [PyData.shown] at this
    exact this
  | tup a b => exact seq _ ru
  | lst a b => exact seq _ ru
  | dic a b => exact seq _ ru
  | ins a b c => simp [toP] at hp
  | exn a b c => simp [toP] at hp
/-! ### all, any of a list of bools -/
def boolsD : List D → Option (List Bool)
  | [] => some []
  | .bl b :: l => (boolsD l).map (b :: ·)
  | _ => none
theorem boolsD_of {Fz : Addr → Prop} {H : Hp} : ∀ {l : List D} {bs : List Bool} {vs : List V}, boolsD l = some bs → DenL K Fz H vs l → vs = bs.map V.bl
  | [], _, _, e, h => by cases e; cases h; rfl
  | .bl b :: l, bs, vs, e, h => by
    rw [boolsD] at e
    obtain ⟨cs, e1, rfl⟩ := Option.map_eq_some_iff.mp e
    cases h with
    | cons a m => cases a; rw [boolsD_of e1 m]; rfl
  | .non :: l, bs, vs, e, h => by simp [boolsD] at e
  | .int _ :: l, bs, vs, e, h => by simp [boolsD] at e
  | .str _ :: l, bs, vs, e, h => by simp [boolsD] at e
  | .tup _ :: l, bs, vs, e, h => by simp [boolsD] at e
  | .lst _ :: l, bs, vs, e, h => by simp [boolsD] at e
  | .dic _ :: l, bs, vs, e, h => by simp [boolsD] at e
  | .ins _ _ :: l, bs, vs, e, h => by simp [boolsD] at e
  | .exn _ _ :: l, bs, vs, e, h => by simp [boolsD] at e
def allO : List D → Option D
  | [.lst l] => (boolsD l).map fun bs => .bl (bs.all id)
  | _ => none
def anyO : List D → Option D
  | [.lst l] => (boolsD l).map fun bs => .bl (bs.any id)
  | _ => none
theorem r_all : RLD K (rAll K) allO := fun B Fz H σ ρ vs ds z Q hK I hd e b => by
  subst hK
  unfold allO at e
  split at e
  · obtain ⟨bs, e1, rfl⟩ := Option.map_eq_some_iff.mp e
    obtain ⟨v, rfl, h⟩ := denL1 hd
    cases h with
    | lst q l => exact ⟨_, bs, rfl, boolsD_of e1 l ▸ q.l, b _ H Fz I .refl (.bl _)⟩
  · cases e
theorem r_any : RLD K (rAny K) anyO := fun B Fz H σ ρ vs ds z Q hK I hd e b => by
  subst hK
  unfold anyO at e
  split at e
  · obtain ⟨bs, e1, rfl⟩ := Option.map_eq_some_iff.mp e
    obtain ⟨v, rfl, h⟩ := denL1 hd
    cases h with
    | lst q l => exact ⟨_, bs, rfl, boolsD_of e1 l ▸ q.l, b _ H Fz I .refl (.bl _)⟩
  · cases e
end
end Dx

set_option Elab.async false
set_option linter.all false
set_option maxRecDepth 100000
set_option maxHeartbeats 1000000
namespace Dx
open PySem PySem.Spec PyProof.Rows L2
variable [Tbs]

/-- what comes of a statement -/
inductive RS where
  | nx (ρ : List Sl) | rt (o : Bool) (d : D) (ρ : List Sl) | bk (ρ : List Sl) | ct (ρ : List Sl) | exc (c : Str) (d : D) | bad
def RS.bind (r : RS) (k : List Sl → RS) : RS := match r with
  | .nx ρ => k ρ
  | r => r
@[simp] theorem RS.bind_nx (ρ : List Sl) (k : List Sl → RS) : (RS.nx ρ).bind k = k ρ := rfl
@[simp] theorem RS.bind_rt (o : Bool) (d : D) (ρ : List Sl) (k : List Sl → RS) : (RS.rt o d ρ).bind k = .rt o d ρ := rfl
@[simp] theorem RS.bind_bk (ρ : List Sl) (k : List Sl → RS) : (RS.bk ρ).bind k = .bk ρ := rfl
@[simp] theorem RS.bind_ct (ρ : List Sl) (k : List Sl → RS) : (RS.ct ρ).bind k = .ct ρ := rfl
@[simp] theorem RS.bind_exc (c : Str) (d : D) (k : List Sl → RS) : (RS.exc c d).bind k = .exc c d := rfl
@[simp] theorem RS.bind_bad (k : List Sl → RS) : RS.bad.bind k = .bad := rfl
def R.st {α : Type} (r : R α) (k : α → RS) : RS := match r with
  | .ok a => k a
  | .exc c d => .exc c d
  | .bad => .bad
@[simp] theorem R.st_ok {α : Type} (a : α) (k : α → RS) : (R.ok a).st k = k a := rfl
@[simp] theorem R.st_exc {α : Type} (c : Str) (d : D) (k : α → RS) : (R.exc c d : R α).st k = .exc c d := rfl
@[simp] theorem R.st_bad {α : Type} (k : α → RS) : (R.bad : R α).st k = .bad := rfl

/-- a returned value: shared data, or a new container of one's own -/
def ResOk (B : Bs) (Fz : Addr → Prop) (H : Hp) (o : Bool) (v : V) (d : D) : Prop := match o with
  | true => ∃ a, v = .ref a ∧ Own B.K Fz H a d ∧ B.H0 a = none
  | false => Den B.K Fz H v d
def FinS (B : Bs) (E : XK) (Dn : Ends) (Fz : Addr → Prop) (H : Hp) : RS → Prop
  | .nx ρ => ∀ σ' H' Fz', Iv B Fz' H' σ' ρ → Ge Fz H Fz' H' → Dn.nx σ' H'
  | .bk ρ => ∀ σ' H' Fz', Iv B Fz' H' σ' ρ → Ge Fz H Fz' H' → Dn.bk σ' H'
  | .ct ρ => ∀ σ' H' Fz', Iv B Fz' H' σ' ρ → Ge Fz H Fz' H' → Dn.ct σ' H'
  | .rt o d ρ => ∀ v σ' H' Fz', Iv B Fz' H' σ' ρ → Ge Fz H Fz' H' → ResOk B Fz' H' o v d → Dn.rt v H'
  | .exc c d => ∀ dx v H' Fz', Ext B.ex B.Fz0 B.H0 Fz' H' → FzOk Fz' H' → H' dx = some (.xd [("value", v)]) → Den B.K Fz' H' v d → E (.ref (He.ga B.K c)) (some dx) H'
  | .bad => False
def tS (B : Bs) (E : XK) (g : List Sl → RS) : TS := fun Dn σ H => ∃ Fz ρ, Iv B Fz H σ ρ ∧ FinS B E Dn Fz H (g ρ)

section
variable {X : Cx} {B : Bs} {E : XK} {st : Stmt} {sts : List Stmt} {g k : List Sl → RS} {f : List Sl → R (D × List Sl)} {u : List Sl → R (Bool × List Sl)} {e c : Expr} {pos : Pos}
theorem FinS.mono {Dn Dn' : Ends} {Fz : Addr → Prop} {H : Hp} {r : RS} (h : FinS B E Dn Fz H r) (n : ∀ σ H, Dn.nx σ H → Dn'.nx σ H) (rt : ∀ v H, Dn.rt v H → Dn'.rt v H) (b : ∀ σ H, Dn.bk σ H → Dn'.bk σ H) (ct : ∀ σ H, Dn.ct σ H → Dn'.ct σ H) : FinS B E Dn' Fz H r := by
  cases r with
  | nx ρ => exact fun σ H Fz I g => n σ H (h σ H Fz I g)
  | bk ρ => exact fun σ H Fz I g => b σ H (h σ H Fz I g)
  | ct ρ => exact fun σ H Fz I g => ct σ H (h σ H Fz I g)
  | rt o d ρ => exact fun v σ H Fz I g q => rt v H (h v σ H Fz I g q)
  | exc c d => exact h
  | bad => exact h
theorem FinS.ge {Dn : Ends} {Fz Fz' : Addr → Prop} {H H' : Hp} {r : RS} (g : Ge Fz H Fz' H') (h : FinS B E Dn Fz H r) : FinS B E Dn Fz' H' r := by
  cases r with
  | nx ρ => exact fun σ H Fz I g' => h σ H Fz I (g.trans g')
  | bk ρ => exact fun σ H Fz I g' => h σ H Fz I (g.trans g')
  | ct ρ => exact fun σ H Fz I g' => h σ H Fz I (g.trans g')
  | rt o d ρ => exact fun v σ H Fz I g' q => h v σ H Fz I (g.trans g') q
  | exc c d => exact h
  | bad => exact h
theorem dss_nil : PSs X [] (tS B E .nx) := weakSs pss_nil fun Dn σ H ⟨Fz, ρ, I, q⟩ => q σ H Fz I .refl
theorem dss_cons (h1 : PS X st (tS B E g)) (h2 : PSs X sts (tS B E k)) : PSs X (st :: sts) (tS B E fun ρ => (g ρ).bind k) :=
  weakSs (pss_cons h1 h2) fun Dn σ H ⟨Fz, ρ, I, q⟩ => by
    refine ⟨Fz, ρ, I, ?_⟩
    have q : FinS B E Dn Fz H ((g ρ).bind k) := q
    cases e : g ρ with
    | nx ρ' => rw [e] at q; exact fun σ' H' Fz' I' g' => ⟨Fz', ρ', I', FinS.ge g' q⟩
    | bk ρ' => rw [e] at q; exact q
    | ct ρ' => rw [e] at q; exact q
    | rt o d ρ' => rw [e] at q; exact q
    | exc c d => rw [e] at q; exact q
    | bad => rw [e] at q; exact q
/-- an expression ahead of the rest of a statement -/
theorem tG_st {α β : Type} {Rl : Rel α β} {Dn : Ends} {f : List Sl → R (α × List Sl)} {k : α × List Sl → RS} {σ : L2.St} {H : Hp} {Fz : Addr → Prop} {ρ : List Sl} (I : Iv B Fz H σ ρ) (h : FinS B E Dn Fz H ((f ρ).st k)) :
    tG Rl B E f σ H (fun v H1 => ∃ Fz1 ρ1 d, Iv B Fz1 H1 σ ρ1 ∧ Rl B Fz1 H1 σ ρ1 v d ∧ Ge Fz H Fz1 H1 ∧ FinS B E Dn Fz1 H1 (k (d, ρ1))) := by
  refine ⟨Fz, ρ, I, ?_⟩
  cases e : f ρ with
  | ok p =>
    rw [e] at h
    exact fun v H1 F1 I1 g1 d1 => ⟨F1, p.2, p.1, I1, d1, g1, FinS.ge g1 h⟩
  | exc c d => rw [e] at h; exact h
  | bad => rw [e] at h; exact h
def stRet (f : List Sl → R (D × List Sl)) (ρ : List Sl) : RS := (f ρ).st fun p => .rt false p.1 p.2
theorem ds_ret (he : PE X e (tE B E f)) : PS X (.Return (some e) pos) (tS B E (stRet f)) :=
  weakS (ps_ret he) fun Dn σ H ⟨Fz, ρ, I, q⟩ => monoG (tG_st I q) fun v H1 ⟨F1, ρ1, d, I1, d1, g1, q1⟩ => q1 v σ H1 F1 I1 .refl d1
def stRetO (f : List Sl → R (D × List Sl)) (ρ : List Sl) : RS := (f ρ).st fun p => .rt true p.1 p.2
theorem ds_retO (he : PE X e (tO B E f)) : PS X (.Return (some e) pos) (tS B E (stRetO f)) :=
  weakS (ps_ret he) fun Dn σ H ⟨Fz, ρ, I, q⟩ => monoG (tG_st I q) fun v H1 ⟨F1, ρ1, d, I1, ⟨a, e1, ow, h0, _⟩, g1, q1⟩ => q1 v σ H1 F1 I1 .refl ⟨a, e1, ow, h0⟩
/-- return x, a container of one's own -/
def stRetV (i : Nat) (ρ : List Sl) : RS := match ρ[i]? with
  | some (.ow d) => .rt true d ρ
  | _ => .bad
def stRetN (ρ : List Sl) : RS := .rt false .non ρ
def stExp (f : List Sl → R (D × List Sl)) (ρ : List Sl) : RS := (f ρ).st fun p => .nx p.2
theorem ds_exp (he : PE X e (tE B E f)) (hs : swapsWith e none pos.line X.env = pure false) : PS X (.Expr e pos) (tS B E (stExp f)) :=
  weakS (ps_expr he hs) fun Dn σ H ⟨Fz, ρ, I, q⟩ => monoG (tG_st I q) fun v H1 ⟨F1, ρ1, d, I1, d1, g1, q1⟩ => q1 σ H1 F1 I1 .refl
def stIf (u : List Sl → R (Bool × List Sl)) (g k : List Sl → RS) (ρ : List Sl) : RS := (u ρ).st fun p => match p.1 with
  | true => g p.2
  | false => k p.2
theorem ds_if {a b : List Stmt} (hc : PT X c (tT B E u)) (ha : PSs X a (tS B E g)) (hb : PSs X b (tS B E k)) : PS X (.If c a b pos) (tS B E (stIf u g k)) :=
  weakS (ps_if hc ha hb) fun Dn σ H ⟨Fz, ρ, I, q⟩ => monoG (tG_st I q) fun v H1 ⟨F1, ρ1, d, I1, d1, g1, q1⟩ => by
    have d1' : v = d := d1
    subst d1'
    cases v with
    | true => exact ⟨F1, ρ1, I1, q1⟩
    | false => exact ⟨F1, ρ1, I1, q1⟩

/-! ### storing -/
/-- a slot may take a new value -/
def Sl.free : Sl → Bool
  | .mt _ => false
  | .br _ => false
  | _ => true
def putSl (ρ : List Sl) (i : Nat) (s : Sl) : Option (List Sl) := match ρ[i]? with
  | some t => if t.free then some (ρ.set i s) else none
  | none => none
theorem putSl_of {ρ ρ' : List Sl} {i : Nat} {s : Sl} (h : putSl ρ i s = some ρ') : i < ρ.length ∧ ρ' = ρ.set i s ∧ ∃ t, ρ[i]? = some t ∧ t.free = true := by
  unfold putSl at h
  cases e : ρ[i]? with
  | none => rw [e] at h; cases h
  | some t =>
    rw [e] at h
    have h2 : (if t.free = true then some (ρ.set i s) else none) = some ρ' := h
    split at h2
    · rename_i c; cases h2; exact ⟨(List.getElem?_eq_some_iff.mp e).1, rfl, t, rfl, c⟩
    · cases h2
theorem Iv.put {Fz : Addr → Prop} {H : Hp} {σ : L2.St} {ρ ρ' : List Sl} {i : Nat} {v : V} {s : Sl} (I : Iv B Fz H σ ρ) (h : putSl ρ i s = some ρ') (z : SlOk B Fz H i (some v) s) (ap : s.held = true → ∀ j b, j ≠ i → HeldAt σ ρ j b → v ≠ .ref b) : Iv B Fz H (σ.set i (some v)) ρ' := by
  obtain ⟨hi, rfl, t, et, ft⟩ := putSl_of h
  have hi' : i < σ.length := by rw [← I.len]; exact hi
  refine ⟨by rw [List.length_set, List.length_set]; exact I.len, I.ext, I.fzs, fun j w ej => ?_, fun j k b c hjk hj hk => ?_, I.lent⟩
  · by_cases hj : j = i
    · subst hj
      rw [List.getElem?_set_self hi] at ej
      cases ej
      rw [List.getElem?_set_self hi']
      exact z
    · rw [List.getElem?_set_ne (Ne.symm hj)] at ej ⊢
      exact I.ok j w ej
  · have old : ∀ {l x}, l ≠ i → HeldAt (σ.set i (some v)) (ρ.set i s) l x → HeldAt σ ρ l x := fun {l x} n ⟨w, e1, e2, e3⟩ => by
      rw [List.getElem?_set_ne (Ne.symm n)] at e1 e3
      exact ⟨w, e1, e2, e3⟩
    have oldO : ∀ {l x}, l ≠ i → OwnAt (σ.set i (some v)) (ρ.set i s) l x → OwnAt σ ρ l x := fun {l x} n ⟨w, e1, e2, e3⟩ => by
      rw [List.getElem?_set_ne (Ne.symm n)] at e1 e3
      exact ⟨w, e1, e2, e3⟩
    have new : ∀ {x}, HeldAt (σ.set i (some v)) (ρ.set i s) i x → s.held = true ∧ v = .ref x := fun {x} ⟨w, e1, e2, e3⟩ => by
      rw [List.getElem?_set_self hi] at e1
      rw [List.getElem?_set_self hi'] at e3
      cases e1; cases e3
      exact ⟨e2, rfl⟩
    by_cases h1 : j = i
    · subst h1
      obtain ⟨hh, ev⟩ := new hj.held
      have := ap hh k c (Ne.symm hjk) (old (Ne.symm hjk) hk)
      intro q
      rw [ev, q] at this
      exact this rfl
    · by_cases h2 : k = i
      · subst h2
        obtain ⟨hh, ev⟩ := new hk
        have := ap hh j b hjk (oldO h1 hj).held
        intro q
        rw [ev, q] at this
        exact this rfl
      · exact I.apart j k b c hjk (oldO h1 hj) (old h2 hk)
/-- a target of an assignment -/
def tGD (B : Bs) (K : Frag) (t : D → List Sl → Option (List Sl)) : TG := fun v σ H Q => ∃ Fz ρ d ρ', Iv B Fz H σ ρ ∧ Den B.K Fz H v d ∧ t d ρ = some ρ' ∧ ∀ σ', Iv B Fz H σ' ρ' → Q σ' H
theorem weakG {e : Expr} {t t' : TG} (h : PG X e t) (w : ∀ v σ H Q, t' v σ H Q → t v σ H Q) : PG X e t' := ⟨fun pins s σ H v u Q I r q => h.run pins s σ H v u Q I r (w v σ H Q q)⟩
def tgN (i : Nat) (d : D) (ρ : List Sl) : Option (List Sl) := putSl ρ i (.sh d)
end
end Dx

set_option Elab.async false
set_option linter.all false
set_option maxRecDepth 100000
set_option maxHeartbeats 1000000
namespace Dx
open PySem PySem.Spec PyProof.Rows L2
variable [Tbs]

section
variable {X : Cx} {B : Bs} {E : XK} {st : Stmt} {sts : List Stmt} {g k : List Sl → RS} {f h : List Sl → R (D × List Sl)} {u : List Sl → R (Bool × List Sl)} {e c : Expr} {pos : Pos}

/-! ### a name as data: a container of one's own is locked -/
theorem pe_frz2 {e : Expr} {t : TE} (h : PE X e t) : PE X e (fun σ H Q => t σ H fun v H1 => Q v H1 ∨ ∃ a u, v = .ref a ∧ H1 a = some u ∧ Mut (some u) ∧ ∀ od, Q v (upd H1 a (.frz od u))) := by
  refine ⟨fun pins s σ H Q I q => thn (h.run pins s σ H _ I q) fun u s1 ⟨v, H1, I1, r1, q1⟩ => ?_⟩
  rcases q1 with q1 | ⟨a, o, ev, ha, mu, q1⟩
  · exact ⟨v, H1, I1, r1, q1⟩
  · obtain ⟨od, I2⟩ := I1.lock ha mu
    exact ⟨v, _, I2, r1, q1 od⟩
def frzD : D → Bool
  | .lst _ => true
  | .dic _ => true
  | _ => false
/-- the container of slot i is locked -/
theorem Iv.frz {Fz : Addr → Prop} {H : Hp} {σ : L2.St} {ρ : List Sl} {i : Nat} {a : Addr} {d : D} (I : Iv B Fz H σ ρ) (e : ρ[i]? = some (.ow d)) (hf : frzD d = true) (q : σ[i]? = some (some (.ref a))) (ow : Own B.K Fz H a d) :
    ∃ u, H a = some u ∧ Mut (some u) ∧ ∀ od, Iv B Fz (upd H a (.frz od u)) σ (ρ.set i (.sh d)) ∧ Ge Fz H Fz (upd H a (.frz od u)) ∧ Den B.K Fz (upd H a (.frz od u)) (.ref a) d := by
  obtain ⟨u, hu, ni, mu⟩ := ow.there
  have nz : ¬ Fz a := ow.nofz I.fzs
  refine ⟨u, hu, mu, fun od => ?_⟩
  have x := ext_put (o := .frz od u) hu ni nz
  have f2 : FzOk Fz (upd H a (.frz od u)) := fzs_put I.fzs nz
  have dn : Den B.K Fz (upd H a (.frz od u)) (.ref a) d := by
    cases d with
    | lst ds =>
      obtain ⟨vs, e2, l⟩ := ow
      rw [hu] at e2; cases e2
      exact .lst ⟨od, upd_same⟩ (l.mono x.ge)
    | dic ds =>
      obtain ⟨vs, e2, l⟩ := ow
      rw [hu] at e2; cases e2
      exact .dic (o := od) upd_same (l.mono x.ge)
    | _ => cases hf
  exact ⟨I.turn x f2 e rfl q (fun b z => z) ⟨_, rfl, dn⟩, x.ge, dn⟩
def evV (i : Nat) (ρ : List Sl) : R (D × List Sl) := match ρ[i]? with
  | some (.sh d) => .ok (d, ρ)
  | some (.ow d) => if frzD d then .ok (d, ρ.set i (.sh d)) else .bad
  | _ => .bad
theorem de_v {i : Nat} {x : Str} (hN : X.N[i]? = some x) (hv : Vis X.env.scope x) (hd : (x == ("__debug__" : Str)) = false) (hcd : (x == ("__classdict__" : Str)) = false) : PE X (.Name x pos) (tE B E (evV i)) :=
  weakE (pe_frz2 (pe_var hN hv hd hcd)) fun σ H Q ⟨Fz, ρ, I, q⟩ => by
    unfold evV at q
    cases e : ρ[i]? with
    | none => rw [e] at q; exact q.elim
    | some s =>
      rw [e] at q
      cases s with
      | sh d =>
        obtain ⟨u, hu, hd⟩ := I.ok i _ e
        exact ⟨u, join_some.mp hu, .inl (q u H Fz I .refl hd)⟩
      | ow d =>
        obtain ⟨hf, q⟩ := fin_if (α := D) q
        obtain ⟨a, ha, ow, h0⟩ := I.ok i _ e
        have hs := join_some.mp ha
        obtain ⟨u, hu, mu, fin⟩ := I.frz e hf hs ow
        refine ⟨.ref a, hs, .inr ⟨a, u, rfl, hu, mu, fun od => ?_⟩⟩
        obtain ⟨I2, g2, d2⟩ := fin od
        exact q _ _ Fz I2 g2 d2
      | _ => exact q.elim

/-! ### targets -/
/-- the slots but vs stay -/
def Same (vs : List Nat) (σ σ' : L2.St) : Prop := σ'.length = σ.length ∧ ∀ j, j ∉ vs → σ'[j]? = σ[j]?
theorem Same.refl {vs : List Nat} {σ : L2.St} : Same vs σ σ := ⟨rfl, fun _ _ => rfl⟩
theorem Same.trans {vs : List Nat} {σ σ1 σ2 : L2.St} (a : Same vs σ σ1) (b : Same vs σ1 σ2) : Same vs σ σ2 := ⟨b.1.trans a.1, fun j hj => (b.2 j hj).trans (a.2 j hj)⟩
theorem Same.mono {vs ws : List Nat} {σ σ' : L2.St} (a : Same vs σ σ') (h : ∀ j ∈ vs, j ∈ ws) : Same ws σ σ' := ⟨a.1, fun j hj => a.2 j fun z => hj (h j z)⟩
theorem Same.set {σ : L2.St} {i : Nat} {v : Option V} : Same [i] σ (σ.set i v) := ⟨List.length_set, fun j hj => List.getElem?_set_ne (fun z => hj (by rw [z]; exact List.mem_singleton.mpr rfl))⟩
/-- a target that takes data -/
def tG1 (B : Bs) (vs : List Nat) (t : D → List Sl → Option (List Sl)) : TG := fun v σ H Q => ∃ Fz ρ d ρ', Iv B Fz H σ ρ ∧ Den B.K Fz H v d ∧ t d ρ = some ρ' ∧ ∀ σ', Same vs σ σ' → Iv B Fz H σ' ρ' → Q σ' H
def tG2 (B : Bs) (vs : List Nat) (t : List D → List Sl → Option (List Sl)) : TGs := fun v σ H Q => ∃ Fz ρ d ρ', Iv B Fz H σ ρ ∧ DenL B.K Fz H v d ∧ t d ρ = some ρ' ∧ ∀ σ', Same vs σ σ' → Iv B Fz H σ' ρ' → Q σ' H
theorem weakGs {es : List Expr} {t t' : TGs} (h : PGs X es t) (w : ∀ v σ H Q, t' v σ H Q → t v σ H Q) : PGs X es t' := ⟨fun pins s σ H v u Q I r q => h.run pins s σ H v u Q I r (w v σ H Q q)⟩
theorem pg_or {e : Expr} {t t' : TG} (h : PG X e t) (h' : PG X e t') : PG X e (fun v σ H Q => t v σ H Q ∨ t' v σ H Q) := ⟨fun pins s σ H v u Q I r q => q.elim (h.run pins s σ H v u Q I r) (h'.run pins s σ H v u Q I r)⟩
theorem dg_n {i : Nat} {x : Str} {p : Pos} (hN : X.N.Nodup) (hi : X.N[i]? = some x) (hx : Loc X.env.scope x) (hf : X.fn x = true ∨ X.env.scope.names.lookup x = some .local) : PG X (.Name x p) (tG1 B [i] (tgN i)) :=
  weakG (pg_name hN hi hx hf) fun v σ H Q ⟨Fz, ρ, d, ρ', I, h, e, q⟩ => q _ .set (I.put e ⟨v, rfl, h⟩ fun z => by cases z)
def tgNil (ds : List D) (ρ : List Sl) : Option (List Sl) := match ds with
  | [] => some ρ
  | _ => none
def tgCons (t : D → List Sl → Option (List Sl)) (u : List D → List Sl → Option (List Sl)) (ds : List D) (ρ : List Sl) : Option (List Sl) := match ds with
  | d :: r => (t d ρ).bind (u r)
  | [] => none
theorem dgs_nil : PGs X [] (tG2 B [] tgNil) := weakGs pgs_nil fun v σ H Q ⟨Fz, ρ, d, ρ', I, h, e, q⟩ => by
  cases h with
  | nil => cases e; exact ⟨rfl, q σ .refl I⟩
  | cons _ _ => cases e
theorem dgs_cons {e : Expr} {es : List Expr} {vs ws : List Nat} {t : D → List Sl → Option (List Sl)} {u : List D → List Sl → Option (List Sl)} (h1 : PG X e (tG1 B vs t)) (h2 : PGs X es (tG2 B ws u))
    (hs : (assignEach (e :: es) X.env).map (·.2) = assign e X.env :: (assignEach es X.env).map (·.2)) : PGs X (e :: es) (tG2 B (vs ++ ws) (tgCons t u)) :=
  weakGs (pgs_cons h1 h2 hs) fun v σ H Q ⟨Fz, ρ, d, ρ', I, h, e, q⟩ => by
    cases h with
    | nil => cases e
    | @cons v0 d0 vr dr hd tl =>
      have e' : (t d0 ρ).bind (u dr) = some ρ' := e
      cases e1 : t d0 ρ with
      | none => rw [e1] at e'; cases e'
      | some ρ1 =>
        rw [e1] at e'
        exact ⟨v0, vr, rfl, Fz, ρ, d0, ρ1, I, hd, e1, fun σ1 s1 I1 => ⟨Fz, ρ1, dr, ρ', I1, tl, e', fun σ2 s2 I2 => q σ2 ((s1.mono fun j hj => List.mem_append_left _ hj).trans (s2.mono fun j hj => List.mem_append_right _ hj)) I2⟩⟩
def tgT (n : Nat) (u : List D → List Sl → Option (List Sl)) (d : D) (ρ : List Sl) : Option (List Sl) := match d with
  | .tup l => if l.length = n then u l ρ else none
  | .lst l => if l.length = n then u l ρ else none
  | _ => none
theorem dg_t {es : List Expr} {k : Nat} {p : Pos} {vs : List Nat} {u : List D → List Sl → Option (List Sl)} (hK : B.K = X.K) (hc : X.calm = true) (h : PGs X es (tG2 B vs u)) (hn : (assignEach es X.env).length = es.length) (hst : (assignEach es X.env).findIdx? (·.1) = none) :
    PG X (.Tuple es k p) (tG1 B vs (tgT es.length u)) :=
  weakG (pg_or (pg_tup hc h hn hst) (pg_lst hc h hn hst)) fun v σ H Q ⟨Fz, ρ, d, ρ', I, hd, e, q⟩ => by
    cases hd with
    | @tup a vs ds sq l =>
      have e' : (if ds.length = es.length then u ds ρ else none) = some ρ' := e
      split at e'
      · rename_i z
        exact .inl ⟨a, vs, rfl, hK ▸ sq.t, l.length.trans z, Fz, ρ, ds, ρ', I, l, e', q⟩
      · cases e'
    | @lst a vs ds sq l =>
      have e' : (if ds.length = es.length then u ds ρ else none) = some ρ' := e
      split at e'
      · rename_i z
        exact .inr ⟨a, vs, rfl, hK ▸ sq.l, l.length.trans z, Fz, ρ, ds, ρ', I, l, e', q⟩
      · cases e'
    | _ => cases e

/-! ### assignments -/
def ofT {α : Type} (o : Option α) (k : α → RS) : RS := match o with
  | some a => k a
  | none => .bad
@[simp] theorem ofT_some {α : Type} (a : α) (k : α → RS) : ofT (some a) k = k a := rfl
@[simp] theorem ofT_none {α : Type} (k : α → RS) : ofT none k = .bad := rfl
theorem fin_ofT {α : Type} {Dn : Ends} {Fz : Addr → Prop} {H : Hp} {o : Option α} {k : α → RS} (h : FinS B E Dn Fz H (ofT o k)) : ∃ a, o = some a ∧ FinS B E Dn Fz H (k a) := by
  cases o with
  | none => exact h.elim
  | some a => exact ⟨a, rfl, h⟩
def stAsg (t : D → List Sl → Option (List Sl)) (f : List Sl → R (D × List Sl)) (ρ : List Sl) : RS := (f ρ).st fun p => ofT (t p.1 p.2) .nx
/-- x = a new container -/
def stOwn (i : Nat) (f : List Sl → R (D × List Sl)) (ρ : List Sl) : RS := (f ρ).st fun p => ofT (putSl p.2 i (.ow p.1)) .nx
theorem ds_own {i : Nat} {x : Str} {p : Pos} (hN : X.N.Nodup) (hi : X.N[i]? = some x) (hx : Loc X.env.scope x) (hf : X.fn x = true ∨ X.env.scope.names.lookup x = some .local) (he : PE X e (tO B E f)) (hs : swapsWith e (some (.Name x p)) pos.line X.env = pure false) :
    PS X (.Assign [.Name x p] e pos) (tS B E (stOwn i f)) :=
  weakS (ps_set hN hi hx he hs hf) fun Dn σ H ⟨Fz, ρ, I, q⟩ => monoG (tG_st I q) fun v H1 ⟨F1, ρ1, d, I1, ⟨a, ev, ow, h0, ap⟩, g1, q1⟩ => by
    obtain ⟨ρ2, e2, q2⟩ := fin_ofT q1
    subst ev
    exact q2 _ H1 F1 (I1.put e2 ⟨a, rfl, ow, h0⟩ fun _ j b hj hb z => ap j b hb (V.ref.inj z).symm) .refl
/-- x = data, x a plain name -/
def stSet (i : Nat) (f : List Sl → R (D × List Sl)) (ρ : List Sl) : RS := (f ρ).st fun p => ofT (putSl p.2 i (.sh p.1)) .nx
theorem ds_set {i : Nat} {x : Str} {p : Pos} (hN : X.N.Nodup) (hi : X.N[i]? = some x) (hx : Loc X.env.scope x) (hf : X.fn x = true ∨ X.env.scope.names.lookup x = some .local) (he : PE X e (tE B E f)) (hs : swapsWith e (some (.Name x p)) pos.line X.env = pure false) :
    PS X (.Assign [.Name x p] e pos) (tS B E (stSet i f)) :=
  weakS (ps_set hN hi hx he hs hf) fun Dn σ H ⟨Fz, ρ, I, q⟩ => monoG (tG_st I q) fun v H1 ⟨F1, ρ1, d, I1, d1, g1, q1⟩ => by
    obtain ⟨ρ2, e2, q2⟩ := fin_ofT q1
    exact q2 _ H1 F1 (I1.put e2 ⟨v, rfl, d1⟩ fun z => by cases z) .refl
end
end Dx

set_option Elab.async false
set_option linter.all false
set_option maxRecDepth 100000
set_option maxHeartbeats 1000000
namespace Dx
open PySem PySem.Spec PyProof.Rows L2
variable [Tbs]

/-! ### containers in slots, changed -/
def ownD (ρ : List Sl) (i : Nat) : Option D := match ρ[i]? with
  | some (.ow d) => some d
  | some (.mt d) => some d
  | _ => none
def putO (ρ : List Sl) (i : Nat) (d : D) : List Sl := match ρ[i]? with
  | some (.ow _) => ρ.set i (.ow d)
  | some (.mt _) => ρ.set i (.mt d)
  | _ => ρ
section
variable {B : Bs} {Fz : Addr → Prop} {H : Hp} {σ : L2.St} {ρ : List Sl} {i : Nat} {d : D}
theorem ownD_of (I : Iv B Fz H σ ρ) (h : ownD ρ i = some d) : ∃ a, σ[i]? = some (some (.ref a)) ∧ Own B.K Fz H a d := by
  unfold ownD at h
  cases e : ρ[i]? with
  | none => rw [e] at h; cases h
  | some s =>
    rw [e] at h
    have z := I.ok i s e
    cases s with
    | ow d' => cases h; obtain ⟨a, e1, o, _⟩ := z; exact ⟨a, join_some.mp e1, o⟩
    | mt d' => cases h; obtain ⟨a, e1, o, _⟩ := z; exact ⟨a, join_some.mp e1, o⟩
    | _ => cases h
theorem ownD_put {a : Addr} {o' : HO} {d' : D} (I : Iv B Fz H σ ρ) (h : ownD ρ i = some d) (hs : σ[i]? = some (some (.ref a))) (ho : ∀ g : Ge Fz H Fz (upd H a o'), Own B.K Fz (upd H a o') a d') :
    Iv B Fz (upd H a o') σ (putO ρ i d') ∧ Ge Fz H Fz (upd H a o') := by
  obtain ⟨a', hs', ow⟩ := ownD_of I h
  rw [hs] at hs'; cases hs'
  obtain ⟨u, hu, ni, mu⟩ := ow.there
  have nz : ¬ Fz a := ow.nofz I.fzs
  have x := ext_put (o := o') hu ni nz
  have f2 : FzOk Fz (upd H a o') := fzs_put I.fzs nz
  have ow' := ho x.ge
  refine ⟨?_, x.ge⟩
  unfold ownD at h
  unfold putO
  cases e : ρ[i]? with
  | none => rw [e] at h; cases h
  | some s =>
    rw [e] at h
    have z := I.ok i s e
    cases s with
    | ow d0 =>
      obtain ⟨a0, e1, _, h0⟩ := z
      have e2 := join_some.mp e1
      rw [hs] at e2; cases e2
      exact I.turn x f2 e rfl hs (fun b z => z) ⟨a, rfl, ow', h0⟩
    | mt d0 =>
      obtain ⟨a0, e1, _, h1, h2⟩ := z
      have e2 := join_some.mp e1
      rw [hs] at e2; cases e2
      exact I.turn x f2 e rfl hs (fun b z => z) ⟨a, rfl, ow', h1, h2⟩
    | _ => cases h
end
/-! ### methods that change the container -/
/-- a method: the container's data, the arguments; what it gives and what the container becomes -/
def MtO (K : Frag) (r : V → List V → Hp → VK → Prop) (F : D → List D → Option (D × D)) : Prop :=
  ∀ (Fz : Addr → Prop) (H : Hp) (a : Addr) (d : D) (vs : List V) (ds : List D) (z d' : D) (Q : VK), FzOk Fz H → Own K Fz H a d → DenL K Fz H vs ds → F d ds = some (z, d') →
    (∀ o' v, (∀ g : Ge Fz H Fz (upd H a o'), Own K Fz (upd H a o') a d' ∧ Den K Fz (upd H a o') v z) → Q v (upd H a o')) → r (.ref a) vs H Q
def isLst : D → Bool
  | .lst _ => true
  | _ => false
def evMt (F : D → List D → Option (D × D)) (i : Nat) (l : List Sl → R (List D × List Sl)) (ρ : List Sl) : R (D × List Sl) :=
  (ofO (ownD ρ i)).bind fun d0 => if isLst d0 then (l ρ).bind fun p => (ofO (ownD p.2 i)).bind fun d => (ofO (F d p.1)).bind fun z => .ok (z.1, putO p.2 i z.2) else .bad
theorem fin_o {α β γ : Type} {Rl : Rel α β} {B : Bs} {E : XK} {σ : L2.St} {H : Hp} {Q : β → Hp → Prop} {Fz : Addr → Prop} {o : Option γ} {k : γ → R (α × List Sl)} (q : FinG Rl B E σ Q Fz H ((ofO o).bind k)) :
    ∃ z, o = some z ∧ FinG Rl B E σ Q Fz H (k z) := by
  cases o with
  | none => exact q.elim
  | some z => exact ⟨z, rfl, q⟩
section
variable {X : Cx} {B : Bs} {E : XK} {e c : Expr} {es : List Expr} {f g : List Sl → R (D × List Sl)} {l : List Sl → R (List D × List Sl)} {pos cpos apos np : Pos} {i : Nat} {x name : Str} {id : String} {r : V → List V → Hp → VK → Prop} {F : D → List D → Option (D × D)}
theorem isLst_of {d : D} (h : isLst d = true) : ∃ ds, d = .lst ds := by
  cases d with
  | lst ds => exact ⟨ds, rfl⟩
  | _ => cases h
theorem de_mt (hK : B.K = X.K) (slot : Slot "list" name id) (hty : typeOf (.builtin id) = pure (.type "method_descriptor")) (hm : MtR X id r) (hr : MtO X.K r F) (hN : X.N[i]? = some x) (hv : Vis X.env.scope x) (hd : (x == ("__debug__" : Str)) = false) (hcd : (x == ("__classdict__" : Str)) = false)
    (ha : PA X (e :: es) (tA B E l)) (hbase : attributeBase (.Name x np) name X.env (eval (.Name x np) X.env) = eval (.Name x np) X.env)
    (hfew : ((backTo cpos (starEach (e :: es) X.env)).all (fun x => !x.1) && (backToKw cpos (keywordEach [] X.env)).all (fun x => x.1.isSome)
      && decide ((e :: es).length + ([] : List Keyword).length + (if ([] : List Keyword).isEmpty then 0 else 1) < 30)) = true)
    (hline : (apos.endLine == cpos.line) = true) (hs : nsE e = true) (hss : es.all nsE = true) :
    PE X (.Call (.Attribute (.Name x np) name apos) (e :: es) [] cpos) (tE B E (evMt F i l)) :=
  weakE (pe_bm PySem.F.plainAttrs_list slot hty hm (pe_var hN hv hd hcd) ha hbase hfew hline (star_cons hs) (noStar_any hss)) fun σ H Q ⟨Fz, ρ, I, q⟩ => by
    obtain ⟨d0, e0, q⟩ := fin_o q
    obtain ⟨il, q⟩ := fin_if q
    obtain ⟨ds0, rfl⟩ := isLst_of il
    obtain ⟨a, hs, ow⟩ := ownD_of I e0
    have ow0 := ow
    obtain ⟨vs0, ha0, _⟩ := ow0
    refine ⟨.ref a, hs, .inl ⟨rfl, vs0, .inl (.inl ha0)⟩, ?_⟩
    refine monoG (tG_bind I q) fun vs H1 ⟨F1, ρ1, ds, I1, d1, g1, e1, q1⟩ => ?_
    obtain ⟨d, e2, q2⟩ := fin_o q1
    obtain ⟨⟨z, d'⟩, e3, q3⟩ := fin_o q2
    obtain ⟨a', hs', ow1⟩ := ownD_of I1 e2
    rw [hs] at hs'; cases hs'
    refine hr F1 H1 a d vs ds z d' Q I1.fzs (hK ▸ ow1) (hK ▸ d1) e3 fun o' v h => ?_
    obtain ⟨I2, g2⟩ := ownD_put I1 e2 hs fun g => hK ▸ (h g).1
    exact q3 v _ F1 I2 g2 (show Den B.K F1 (upd H1 a o') v z from hK ▸ (h g2).2)
end
section
variable {K : Frag}
def appF (d : D) (ds : List D) : Option (D × D) := match d, ds with
  | .lst l, [y] => if decide (l.length < sizeLine) then some (.non, .lst (l ++ [y])) else none
  | _, _ => none
theorem if_some {α : Type} {c : Bool} {a b : α} (h : (if c = true then some a else none) = some b) : c = true ∧ a = b := by
  cases c with
  | true => exact ⟨rfl, Option.some.inj h⟩
  | false => cases h
def popF (d : D) (ds : List D) : Option (D × D) := match d, ds with
  | .lst l, [.int i] => if decide (-(2 ^ 63) ≤ i ∧ i < 2 ^ 63) then (seqIndex? i l.length).bind fun k => l[k]?.map fun y => (y, .lst (l.eraseIdx k)) else none
  | _, _ => none
theorem bind_some {α β : Type} {o : Option α} {k : α → Option β} {b : β} (h : o.bind k = some b) : ∃ a, o = some a ∧ k a = some b := by
  cases o with
  | none => cases h
  | some a => exact ⟨a, rfl, h⟩
theorem map_some {α β : Type} {o : Option α} {k : α → β} {b : β} (h : o.map k = some b) : ∃ a, o = some a ∧ k a = b := by
  cases o with
  | none => cases h
  | some a => exact ⟨a, rfl, Option.some.inj h⟩
/-! extend: by any list -/
def rExtF : V → List V → Hp → VK → Prop := fun x vs H Q => ∃ l b xs zs, x = .ref l ∧ vs = [.ref b] ∧ H l = some (.lst xs) ∧ Rd H b (.lst zs) ∧ xs.length + zs.length ≤ sizeLine ∧ Q .non (upd H l (.lst (xs ++ zs)))
theorem mt_extF {X : Cx} : MtR X "list.extend" rExtF := by
  intro pins s σ H x vs v us Q I rx rv h
  obtain ⟨l, b, xs, zs, rfl, rfl, gH, hB, gz, q⟩ := h
  cases rx
  obtain ⟨u, rfl, ru⟩ := rv.one
  cases ru
  obtain ⟨z, jts, n, r, hl, e⟩ := I.lstM gH
  obtain ⟨z2, its2, n2, r2, e2⟩ := hB.ok I.hok
  have hl2 := r2.length
  have sum : jts.toArray.size + its2.toArray.size ≤ sizeLine := by simp only [List.size_toArray]; omega
  have few : ¬ (!jts.toArray.isEmpty && Builtin.List.listTooLong (jts.toArray.size + its2.toArray.size)) = true := by
    rw [notLongL sum]
    simp
  have new := I.lset (t' := s.toks) (f := (· ++ its2.toArray)) (its' := jts ++ its2) gH e (by simp) (r.append r2) (by rw [List.length_append]; omega)
  exact call_meets PySem.F.slot_list_extend ⟨_, e, rfl⟩ PySem.F.entry_list_extend (PySem.F.args_list_extend_2 _ _) (AutoSeq1.list_extend_list_list_0 l jts.toArray n b its2.toArray n2 few (by simp only [List.size_toArray]; omega) (by omega)) ⟨e, e2, .non, _, new, rfl, q⟩
def extF (d : D) (ds : List D) : Option (D × D) := match d, ds with
  | .lst l, [.lst r] => if decide (l.length + r.length ≤ sizeLine) then some (.non, .lst (l ++ r)) else none
  | _, _ => none
theorem m_ext : MtO K rExtF extF := fun Fz H a d vs ds z d' Q f ow dl e q => by
  cases d with
  | lst l =>
    cases ds with
    | nil => cases e
    | cons y r =>
      cases y with
      | lst w =>
        cases r with
        | cons _ _ => cases e
        | nil =>
          obtain ⟨c, e⟩ := if_some (show (if decide (l.length + w.length ≤ sizeLine) = true then some (D.non, D.lst (l ++ w)) else none) = some (z, d') from e)
          cases e
          obtain ⟨xs, hx, dx⟩ := ow
          obtain ⟨v, rfl, dv⟩ := denL1 dl
          cases dv with
          | @lst b zs _ sq dz =>
            exact ⟨a, b, xs, zs, rfl, rfl, hx, sq.rd, by rw [dx.length, dz.length]; exact of_decide_eq_true c, q _ _ fun g => ⟨⟨_, upd_same, (dx.mono g).append (dz.mono g)⟩, .non⟩⟩
      | _ => cases e
  | _ => cases e
end
/-! ### x[k] = v -/
def putD (l : List (Str × D)) (k : Str) (v : D) : List (Str × D) := if (l.any fun kv => decide (kv.1 = k)) = true then l.map (fun kv => if kv.1 = k then (kv.1, v) else kv) else l ++ [(k, v)]
def putS (l : List (Str × V)) (k : Str) (v : V) : List (Str × V) := if (l.any fun kv => decide (kv.1 = k)) = true then l.map (fun kv => if kv.1 = k then (kv.1, v) else kv) else l ++ [(k, v)]
theorem putK_keyP (l : List (Str × V)) (k : Str) (v : V) : putK (l.map keyP) (Sum.inr k) v = (putS l k v).map keyP := by
  have e1 : ∀ l : List (Str × V), ((l.map keyP).any fun kv => decide (kv.1 = (Sum.inr k : L2.Key))) = l.any fun kv => decide (kv.1 = k) := by
    intro l
    induction l with
    | nil => rfl
    | cons p r ih =>
      rw [List.map_cons, List.any_cons, List.any_cons, ih]
      congr 1
      show decide ((Sum.inr p.1 : L2.Key) = Sum.inr k) = _
      simp
  unfold putK putS
  rw [e1]
  split
  · rw [List.map_map, List.map_map]
    refine List.map_congr_left fun p _ => ?_
    show (if (keyP p).1 = (Sum.inr k : L2.Key) then _ else _) = keyP (if p.1 = k then _ else _)
    by_cases c : p.1 = k
    · rw [if_pos c, if_pos (by show (Sum.inr p.1 : L2.Key) = _; rw [c])]; rfl
    · rw [if_neg c, if_neg (by show ¬ (Sum.inr p.1 : L2.Key) = _; simpa using c)]
  · rw [List.map_append]; rfl
section
variable {K : Frag} {Fz : Addr → Prop} {H : Hp}
theorem DenF.append : ∀ {v v2 : List (Str × V)} {d d2 : List (Str × D)}, DenF K Fz H v d → DenF K Fz H v2 d2 → DenF K Fz H (v ++ v2) (d ++ d2)
  | _, _, _, _, .nil, h => h
  | _, _, _, _, .cons a l, h => .cons a (l.append h)
theorem DenF.any {p : Str → Bool} : ∀ {v : List (Str × V)} {d : List (Str × D)}, DenF K Fz H v d → (v.any fun kv => p kv.1) = d.any fun kv => p kv.1
  | _, _, .nil => rfl
  | _, _, .cons (k := k) _ l => by rw [List.any_cons, List.any_cons, l.any]
theorem DenF.repl {k : Str} {x : V} {y : D} (h : Den K Fz H x y) : ∀ {v : List (Str × V)} {d : List (Str × D)}, DenF K Fz H v d → DenF K Fz H (v.map fun kv => if kv.1 = k then (kv.1, x) else kv) (d.map fun kv => if kv.1 = k then (kv.1, y) else kv)
  | _, _, .nil => .nil
  | _, _, .cons (k := k0) (v := v0) (d := d0) a l => by
    rw [List.map_cons, List.map_cons]
    by_cases c : k0 = k
    · rw [if_pos c, if_pos c]; exact .cons h (DenF.repl h l)
    · rw [if_neg c, if_neg c]; exact .cons a (DenF.repl h l)
theorem DenF.put {k : Str} {x : V} {y : D} (h : Den K Fz H x y) {v : List (Str × V)} {d : List (Str × D)} (l : DenF K Fz H v d) : DenF K Fz H (putS v k x) (putD d k y) := by
  unfold putS putD
  have e : (v.any fun kv => decide (kv.1 = k)) = d.any fun kv => decide (kv.1 = k) := l.any (p := fun s => decide (s = k))
  rw [e]
  split
  · exact DenF.repl h l
  · exact l.append (.cons h .nil)
end
section
variable {X : Cx} {B : Bs} {E : XK} {e c : Expr} {f g : List Sl → R (D × List Sl)} {pos np tpos : Pos} {i : Nat} {x : Str}
def setF (d k v : D) : Option D := match d, k with
  | .lst l, .int j => (ixN l.length j).map fun n => .lst (l.set n v)
  | .dic l, .str s => if decide (l.length < sizeLine) then some (.dic (putD l s v)) else none
  | _, _ => none
def stPut (i : Nat) (f g : List Sl → R (D × List Sl)) (ρ : List Sl) : RS := (f ρ).st fun p => ofT (ownD p.2 i) fun _ => (g p.2).st fun q => ofT (ownD q.2 i) fun d => ofT (setF d q.1 p.1) fun d' => .nx (putO q.2 i d')
theorem pset_or {t t' : TSet} (h : PSet X t) (h' : PSet X t') : PSet X (fun o i v H Q => t o i v H Q ∨ t' o i v H Q) := fun pins s σ H o i v ov iv u Q I ro ri rv q => q.elim (h pins s σ H o i v ov iv u Q I ro ri rv) (h' pins s σ H o i v ov iv u Q I ro ri rv)
theorem set_at {Fz : Addr → Prop} {H : Hp} {σ : L2.St} {ρ : List Sl} {d k v d' : D} {a : Addr} {kv vv : V} {Q : Hp → Prop} (I : Iv B Fz H σ ρ) (e : ownD ρ i = some d) (hs : σ[i]? = some (some (.ref a))) (dk : Den B.K Fz H kv k) (dv : Den B.K Fz H vv v) (hf : setF d k v = some d')
    (q : ∀ o', Iv B Fz (upd H a o') σ (putO ρ i d') ∧ Ge Fz H Fz (upd H a o') → Q (upd H a o')) : rSetL (.ref a) kv vv H Q ∨ rSetD (.ref a) kv vv H Q := by
  obtain ⟨a', hs', ow⟩ := ownD_of I e
  rw [hs] at hs'; cases hs'
  cases d with
  | lst l =>
    cases k with
    | int j =>
      obtain ⟨n, en, e2⟩ := map_some (show (ixN l.length j).map (fun n => D.lst (l.set n v)) = some d' from hf)
      subst e2
      cases dk
      obtain ⟨xs, hx, dx⟩ := id' ow
      refine .inl ⟨a, xs, j, n, rfl, rfl, hx, by rw [dx.length]; exact en, q _ (ownD_put (d' := .lst (l.set n v)) I e hs fun g => ⟨_, upd_same, DenL.set (dv.mono g) n (dx.mono g)⟩)⟩
    | _ => cases hf
  | dic l =>
    cases k with
    | str s =>
      obtain ⟨hc, e2⟩ := if_some (show (if decide (l.length < sizeLine) = true then some (D.dic (putD l s v)) else none) = some d' from hf)
      subst e2
      cases dk
      obtain ⟨xs, hx, dx⟩ := id' ow
      refine .inr ⟨a, _, rfl, DPut.k (k := Sum.inr s) hx (by rw [List.length_map, dx.length]; exact of_decide_eq_true hc), ?_⟩
      rw [putK_keyP]
      exact q _ (ownD_put (d' := .dic (putD l s v)) I e hs fun g => ⟨_, upd_same, DenF.put (dv.mono g) (dx.mono g)⟩)
    | _ => cases hf
  | _ => cases hf
where id' {p : Prop} (h : p) : p := h
theorem ds_put (hu : X.A.units + 100 < cLine) (hN : X.N[i]? = some x) (hv : Vis X.env.scope x) (hd : (x == ("__debug__" : Str)) = false) (hcd : (x == ("__classdict__" : Str)) = false) (he : PE X e (tE B E f)) (hk : PE X c (tE B E g))
    (hs : swapsWithSole [.Subscript (.Name x np) c tpos] e pos.line X.env = pure false) (hw : swappedStores [.Subscript (.Name x np) c tpos] e X.env = pure none)
    (h1 : (assignEach [.Subscript (.Name x np) c tpos] X.env).map (·.2) = [assign (.Subscript (.Name x np) c tpos) X.env])
    (ha : ∀ v, assign (.Subscript (.Name x np) c tpos) X.env v = (do
      let ov ← holding [v] (eval (.Name x np) X.env)
      let iv ← holding [v, ov] (eval c X.env)
      standAt tpos
      holding [v, ov, iv] (setItem ov iv v)
      release [v, ov, iv] [])) : PS X (.Assign [.Subscript (.Name x np) c tpos] e pos) (tS B E (stPut i f g)) :=
  weakS (ps_asg he (pg_sub (pe_var hN hv hd hcd) hk (pset_or set_list (set_dict (by omega))) ha) hs hw h1) fun Dn σ H ⟨Fz, ρ, I, q⟩ =>
    monoG (tG_st I q) fun v H1 ⟨F1, ρ1, dv, I1, d1, g1, q1⟩ => by
      obtain ⟨d0, e0, q1⟩ := fin_ofT q1
      obtain ⟨a, hs, _⟩ := ownD_of I1 e0
      refine ⟨.ref a, hs, monoG (tG_st I1 q1) fun k H2 ⟨F2, ρ2, dk, I2, d2, g2, q2⟩ => ?_⟩
      obtain ⟨d, e1, q3⟩ := fin_ofT q2
      obtain ⟨d', e2, q4⟩ := fin_ofT q3
      exact set_at I2 e1 hs d2 (d1.mono g2) e2 fun o' I3 => q4 σ _ F2 I3.1 I3.2
end
end Dx

set_option Elab.async false
set_option linter.all false
set_option maxRecDepth 100000
set_option maxHeartbeats 1000000
namespace Dx
open PySem PySem.Spec PyProof.Rows L2
variable [Tbs]

/-! ### containers that are looked at -/
def viewD (ρ : List Sl) (i : Nat) : Option D := match ρ[i]? with
  | some (.sh d) => some d
  | some (.ow d) => if frzD d then some d else none
  | some (.mt d) => if frzD d then some d else none
  | some (.br d) => some d
  | _ => none
def Vw (K : Frag) (Fz : Addr → Prop) (H : Hp) (v : V) (d : D) : Prop := Den K Fz H v d ∨ ∃ a, v = .ref a ∧ Brw K Fz H a d
section
variable {B : Bs} {Fz : Addr → Prop} {H : Hp} {σ : L2.St} {ρ : List Sl} {i : Nat} {d : D}
theorem frz_ins {d : D} (h : frzD d = true) : ∀ c fs, d ≠ .ins c fs := fun c fs e => by rw [e] at h; cases h
theorem view_of (I : Iv B Fz H σ ρ) (h : viewD ρ i = some d) : ∃ v, σ[i]? = some (some v) ∧ Vw B.K Fz H v d := by
  unfold viewD at h
  cases e : ρ[i]? with
  | none => rw [e] at h; cases h
  | some s =>
    rw [e] at h
    have z := I.ok i s e
    cases s with
    | un => cases h
    | sh d' => cases h; obtain ⟨u, e1, o⟩ := z; exact ⟨u, join_some.mp e1, .inl o⟩
    | ow d' => obtain ⟨c, h⟩ := if_some h; subst h; obtain ⟨a, e1, o, _⟩ := z; exact ⟨_, join_some.mp e1, .inr ⟨a, rfl, o.brw (frz_ins c)⟩⟩
    | mt d' => obtain ⟨c, h⟩ := if_some h; subst h; obtain ⟨a, e1, o, _⟩ := z; exact ⟨_, join_some.mp e1, .inr ⟨a, rfl, o.brw (frz_ins c)⟩⟩
    | br d' => cases h; obtain ⟨a, e1, o, _⟩ := z; exact ⟨_, join_some.mp e1, .inr ⟨a, rfl, o⟩⟩
end
section
variable {X : Cx} {B : Bs} {E : XK} {e c : Expr} {f g : List Sl → R (D × List Sl)} {pos np : Pos} {i : Nat} {x : Str}
def evIxV (i : Nat) (g : List Sl → R (D × List Sl)) (ρ : List Sl) : R (D × List Sl) := (ofO (viewD ρ i)).bind fun _ => (g ρ).bind fun p => (ofO (viewD p.2 i)).bind fun d => (ofO (ixO d p.1)).bind fun z => .ok (z, p.2)
theorem de_ixv (hu : X.A.units + 100 < cLine) (hK : B.K = X.K) (hN : X.N[i]? = some x) (hv : Vis X.env.scope x) (hd : (x == ("__debug__" : Str)) = false) (hcd : (x == ("__classdict__" : Str)) = false) (hn : nslE c = true) (hb : PE X c (tE B E g)) :
    PE X (.Subscript (.Name x np) c pos) (tE B E (evIxV i g)) :=
  weakE (pe_ix (r := rIxF X.K) (ix_seq.or (ix_dic (by omega))) (pe_var hN hv hd hcd) hb (plainIx_of hn)) fun σ H Q ⟨Fz, ρ, I, q⟩ => by
    obtain ⟨d0, e0, q⟩ := fin_o q
    obtain ⟨v, hs, _⟩ := view_of I e0
    refine ⟨v, hs, monoG (tG_bind I q) fun k H1 ⟨F1, ρ1, dk, I1, d1, g1, e1, q1⟩ => ?_⟩
    obtain ⟨d, e2, q2⟩ := fin_o q1
    obtain ⟨z, e3, q3⟩ := fin_o q2
    obtain ⟨v', hs', vw⟩ := view_of I1 e2
    rw [hs] at hs'; cases hs'
    rcases vw with vw | ⟨a, rfl, bw⟩
    · exact r_ix B F1 H1 σ ρ1 v k d dk z Q hK I1 vw d1 e3 q3
    · have e3' : ixO d dk = some z := e3
      unfold ixO at e3'
      split at e3'
      · cases d1
        obtain ⟨vs, rd, l⟩ := bw
        obtain ⟨w, e4, dw⟩ := atI_den l e3'
        exact .inl (.inl ⟨a, vs, _, w, rfl, rfl, .inl rd, e4, q3 w H1 F1 I1 .refl dw⟩)
      · exact bw.elim
      · exact bw.elim
      · cases d1
        obtain ⟨vs, rd, l⟩ := bw
        obtain ⟨w, e4, dw⟩ := l.lookup e3'
        refine .inr ⟨a, w, rfl, .inl ⟨_, Sum.inr _, rd, rfl, ?_⟩, q3 w H1 F1 I1 .refl dw⟩
        rw [valV_map, e4]
      · cases e3'
/-! ### x in y, y a list, a tuple, a text, a dict -/
def inO2 (x y : D) : Option D := match y with
  | .dic l => (match x with
    | .str k => some (.bl (l.lookup k).isSome)
    | _ => none)
  | y => inO x y
def ninO2 (x y : D) : Option D := notD (inO2 x y)
/-- as it is, or while something is locked -/
def rLk (r : R2) : R2 := fun x y H Q => r x y H Q ∨ ∃ d u, H d = some u ∧ Mut (some u) ∧ ∀ od, r x y (upd H d (.frz od u)) fun v H' => H' d = some (.frz od u) ∧ Q v (upd H' d u)
theorem den_lock {K : Frag} {Fz : Addr → Prop} {H : Hp} {a : Addr} {d : D} {u : HO} {od : Obj} (hf : FzOk Fz H) (h : Brw K Fz H a d) (hu : H a = some u) (mu : ¬ Imm u) (nz : ¬ Fz a) : Ge Fz H Fz (upd H a (.frz od u)) ∧ Den K Fz (upd H a (.frz od u)) (.ref a) d := by
  have x := ext_put (o := .frz od u) hu mu nz
  refine ⟨x.ge, ?_⟩
  cases d with
  | lst ds =>
    obtain ⟨vs, e | ⟨o, e⟩, l⟩ := h
    · rw [hu] at e; cases e; exact .lst ⟨od, upd_same⟩ (l.mono x.ge)
    · rw [hu] at e; cases e; exact (mu trivial).elim
  | dic ds =>
    obtain ⟨vs, e | ⟨o, e⟩, l⟩ := h
    · rw [hu] at e; cases e; exact .dic (o := od) upd_same (l.mono x.ge)
    · rw [hu] at e; cases e; exact (mu trivial).elim
  | _ => exact h.elim
/-- a borrowed container: locked already, or it can be -/
theorem brw_cases {K : Frag} {Fz : Addr → Prop} {H : Hp} {a : Addr} {d : D} (hf : FzOk Fz H) (h : Brw K Fz H a d) : Den K Fz H (.ref a) d ∨ ∃ u, H a = some u ∧ Mut (some u) ∧ ¬ Imm u ∧ ¬ Fz a := by
  have nz : ∀ u, H a = some u → (∀ C dx fs, u ≠ .ins C dx fs) → ¬ Fz a := fun u e n z => by
    obtain ⟨C, dx, fs, e2⟩ := hf a z
    rw [e] at e2; cases e2
    exact n _ _ _ rfl
  cases d with
  | lst ds =>
    obtain ⟨vs, e | ⟨o, e⟩, l⟩ := h
    · exact .inr ⟨_, e, trivial, fun z => z, nz _ e fun _ _ _ z => by cases z⟩
    · exact .inl (.lst ⟨o, e⟩ l)
  | dic ds =>
    obtain ⟨vs, e | ⟨o, e⟩, l⟩ := h
    · exact .inr ⟨_, e, trivial, fun z => z, nz _ e fun _ _ _ z => by cases z⟩
    · exact .inl (.dic (o := o) e l)
  | _ => exact h.elim
/-! .. the container a variable that need not be shared -/
def evInV (F : D → D → Option D) (i : Nat) (f : List Sl → R (D × List Sl)) (ρ : List Sl) : R (D × List Sl) := (f ρ).bind fun p => (ofO (viewD p.2 i)).bind fun d => (ofO (F p.1 d)).bind fun z => .ok (z, p.2)
/-! len of a variable -/
def evLenV (i : Nat) (ρ : List Sl) : R (D × List Sl) := (ofO (viewD ρ i)).bind fun d => (ofO (lenO [d])).bind fun z => .ok (z, ρ)
theorem de_lenv {p cpos : Pos} (hK : B.K = X.K) (hg : Gl X "len") (hm : X.mg "len" = none) (hN : X.N[i]? = some x) (hv : Vis X.env.scope x) (hd : (x == ("__debug__" : Str)) = false) (hcd : (x == ("__classdict__" : Str)) = false) :
    PE X (.Call (.Name "len" p) [.Name x np] [] cpos) (tE B E (evLenV i)) :=
  weakE (pe_callB call_lenF hg hm (by rfl) (pa_cons (pe_var hN hv hd hcd) pa_nil) (by decide) (by decide) rfl rfl) fun σ H Q ⟨Fz, ρ, I, q⟩ => by
    obtain ⟨d, e2, q2⟩ := fin_o q
    obtain ⟨z, e3, q3⟩ := fin_o q2
    obtain ⟨c, hs, vw⟩ := view_of I e2
    refine ⟨c, hs, ?_⟩
    rcases vw with vw | ⟨a, rfl, bw⟩
    · exact r_len B Fz H σ ρ [c] [d] z Q hK I (.cons vw .nil) e3 q3
    · cases d with
      | lst ds =>
        cases e3
        obtain ⟨vs, rd, l⟩ := bw
        refine .inl ⟨a, vs, rfl, .inl (.inl rd), ?_⟩
        rw [l.length]
        exact q3 _ H Fz I .refl (.int _)
      | dic ds =>
        cases e3
        obtain ⟨vs, rd, l⟩ := bw
        refine .inr (.inr ⟨a, _, rfl, rd, ?_⟩)
        rw [List.length_map, l.length]
        exact q3 _ H Fz I .refl (.int _)
      | _ => exact bw.elim
end
end Dx

set_option Elab.async false
set_option linter.all false
set_option maxRecDepth 100000
set_option maxHeartbeats 1000000
namespace Dx
open PySem PySem.Spec PyProof.Rows L2
variable [Tbs]

/-! ### loops -/
/-- what a walk gives: the data one behind another, while what is shared stays -/
def ItOk (K : Frag) (J : It) (ds : List D) (Fz : Addr → Prop) (H : Hp) : Prop := ∃ (G : Hp → Prop) (Y : Nat → Hp → V → Hp → Prop), Walk J ds.length G Y ∧ (∀ Fz' H', Ge Fz H Fz' H' → G H') ∧
  ∀ i Fz' H' x H2 d, Ge Fz H Fz' H' → FzOk Fz' H' → ds[i]? = some d → Y i H' x H2 → (H2 = H' ∨ ∃ p o, H' p = none ∧ H2 = upd H' p o) ∧ Den K Fz' H2 x d
abbrev rI : Rel (List D) It := fun B Fz H _ _ J ds => ItOk B.K J ds Fz H
abbrev tI (B : Bs) (E : XK) (s : List Sl → R (List D × List Sl)) : TI := tG rI B E s
def RS.lp (r : RS) (k : List Sl → RS) : RS := match r with
  | .nx ρ => k ρ
  | .ct ρ => k ρ
  | .bk ρ => .nx ρ
  | r => r
def forL (t : D → List Sl → Option (List Sl)) (g : List Sl → RS) : List D → List Sl → RS
  | [], ρ => .nx ρ
  | d :: ds, ρ => ofT (t d ρ) fun ρ1 => (g ρ1).lp (forL t g ds)
def stFor (s : List Sl → R (List D × List Sl)) (t : D → List Sl → Option (List Sl)) (g : List Sl → RS) (ρ : List Sl) : RS := (s ρ).st fun p => forL t g p.1 p.2
section
variable {X : Cx} {B : Bs} {E : XK} {e c iter tg elt : Expr} {body : List Stmt} {f : List Sl → R (D × List Sl)} {s : List Sl → R (List D × List Sl)} {t : D → List Sl → Option (List Sl)} {g : List Sl → RS} {u : List Sl → R (Bool × List Sl)} {pos np : Pos} {i : Nat} {x : Str} {vs : List Nat}
theorem fin_lp {Dn : Ends} {Fz : Addr → Prop} {H : Hp} {r : RS} {k : List Sl → RS} (h : FinS B E Dn Fz H (r.lp k)) {N : L2.St → Hp → Prop} (hN : ∀ σ' H' Fz' ρ', Iv B Fz' H' σ' ρ' → Ge Fz H Fz' H' → FinS B E Dn Fz' H' (k ρ') → N σ' H') :
    FinS B E { Dn with nx := N, ct := N, bk := Dn.nx } Fz H r := by
  cases r with
  | nx ρ => exact fun σ' H' Fz' I g => hN σ' H' Fz' ρ I g (FinS.ge g h)
  | ct ρ => exact fun σ' H' Fz' I g => hN σ' H' Fz' ρ I g (FinS.ge g h)
  | bk ρ => exact h
  | rt o d ρ => exact h
  | exc c d => exact h
  | bad => exact h
theorem Iv.more {Fz : Addr → Prop} {H H2 : Hp} {σ : L2.St} {ρ : List Sl} (I : Iv B Fz H σ ρ) (h : H2 = H ∨ ∃ p o, H p = none ∧ H2 = upd H p o) : Iv B Fz H2 σ ρ ∧ Ge Fz H Fz H2 := by
  rcases h with rfl | ⟨p, o, hp, rfl⟩
  · exact ⟨I, .refl⟩
  · obtain ⟨I2, g2, _⟩ := I.laid hp o
    exact ⟨I2, g2⟩
theorem drop_get {α : Type} {l : List α} {i : Nat} (h : i < l.length) : ∃ d, l[i]? = some d ∧ l.drop i = d :: l.drop (i + 1) := ⟨l[i], List.getElem?_eq_getElem h, List.drop_eq_getElem_cons h⟩
theorem ds_for (hp : PassesOwn (model X.prog X.w) X.A X.env X.xe) (hc : X.calm = true) (hi : PI X tg iter (tI B E s)) (hg : PG X tg (tG1 B vs t)) (hb : PSs X body (tS B E g)) (hs : ∀ x, foldedSetIterable iter X.env x = pure x) :
    PS X (.For tg iter body [] pos) (tS B E (stFor s t g)) :=
  weakS (ps_for hp hc hi hg hb hs) fun Dn σ H ⟨Fz, ρ, I, q⟩ =>
    monoG (tG_st I q) fun J H1 ⟨F1, ρ1, ds, I1, ⟨G, Y, w, hG, hY⟩, g1, q1⟩ => by
      refine for_it w (fun i σ' H' => ∃ Fz' ρ', Iv B Fz' H' σ' ρ' ∧ Ge F1 H1 Fz' H' ∧ FinS B E Dn Fz' H' (forL t g (ds.drop i) ρ')) ⟨F1, ρ1, I1, .refl, q1⟩ (fun i σ' H' _ ⟨F', ρ', _, g', _⟩ => hG F' H' g') (fun i x σ' H' H2 hlt ⟨F', ρ', I', g', q'⟩ y => ?_)
        fun σ' H' ⟨F', ρ', I', g', q'⟩ => by rw [List.drop_length] at q'; exact q' σ' H' F' I' .refl
      obtain ⟨d, ed, er⟩ := drop_get hlt
      obtain ⟨h2, dn⟩ := hY i F' H' x H2 d g' I'.fzs ed y
      obtain ⟨I2, g2⟩ := I'.more h2
      rw [er] at q'
      obtain ⟨ρ2, e2, q2⟩ := fin_ofT (FinS.ge g2 q')
      exact ⟨F', ρ', d, ρ2, I2, dn, e2, fun σ3 _ I3 => ⟨F', ρ2, I3, fin_lp q2 fun σ4 H4 F4 ρ4 I4 g4 q4 => ⟨F4, ρ4, I4, (g'.trans g2).trans g4, q4⟩⟩⟩
/-! while: by fuel -/
def whF (u : List Sl → R (Bool × List Sl)) (g : List Sl → RS) : Nat → List Sl → RS
  | 0, _ => .bad
  | n + 1, ρ => (u ρ).st fun p => match p.1 with
    | true => (g p.2).lp (whF u g n)
    | false => .nx p.2
def fuel0 : Nat := 1000000
def stWhile (u : List Sl → R (Bool × List Sl)) (g : List Sl → RS) (ρ : List Sl) : RS := whF u g fuel0 ρ
end
end Dx

set_option Elab.async false
set_option linter.all false
set_option maxRecDepth 100000
set_option maxHeartbeats 1000000
namespace Dx
open PySem PySem.Spec PyProof.Rows L2
variable [Tbs]

theorem weakPI {X : Cx} {tg iter : Expr} {t t' : TI} (h : PI X tg iter t) (w : ∀ σ H R, t' σ H R → t σ H R) : PI X tg iter t' := ⟨fun pins s σ H R I q => h.run pins s σ H R I (w σ H R q)⟩
def chrD (z : Str) : List D := z.cps.toList.map fun c => .str ⟨#[c]⟩
def itD : D → Option (List D)
  | .lst l => some l
  | .tup l => some l
  | .str z => some (chrD z)
  | .dic l => some (l.map fun p => .str p.1)
  | _ => none
section
variable {X : Cx} {B : Bs} {E : XK} {e e2 tg : Expr} {f h : List Sl → R (D × List Sl)} {l : List Sl → R (List D × List Sl)} {pos p apos cpos tpos : Pos} {elts : List Expr} {kk : Nat}
/-- any of four kinds of things to walk -/
def iAny (K : Frag) (tl : TE) : TI := fun σ H R => tl σ H fun x H1 => (∃ a xs, x = .ref a ∧ SqL K H1 a xs ∧ R (Itl K a) H1) ∨ (∃ a xs, x = .ref a ∧ SqT K H1 a xs ∧ R (Itt K a) H1) ∨ (∃ z, x = .str z ∧ R (Its z) H1) ∨ ∃ d o kvs, x = .ref d ∧ H1 d = some (.frz o (.dK kvs)) ∧ R (Itk d o kvs) H1
theorem pi_any {te : TE} (he : PE X e te) : PI X tg e (iAny X.K te) := by
  refine ⟨fun pins s σ H R I0 h0 => thn (he.run pins s σ H _ I0 h0) fun v s1 ⟨x, H1, I, rx, q⟩ => ?_⟩
  rcases q with ⟨a, xs, rfl, hq, q⟩ | ⟨a, xs, rfl, hq, q⟩ | ⟨z, rfl, q⟩ | ⟨d, o, kvs, rfl, hd, q⟩
  · cases rx
    obtain ⟨its, _, pl, _⟩ := I.list hq
    exact wpAny_pyIter_list pl.isList (pi_one (tk := s1.toks) I _ (turn_list a _) ⟨_, Heap.get?_push_size _ rfl, rfl, rfl⟩ q)
  · cases rx
    obtain ⟨its, _, pl, _⟩ := I.tuple hq
    exact wpAny_pyIter_tuple (show s1.heap.IsTuple a its.toArray from pl) (pi_one (tk := s1.toks) I _ (turn_tuple a _) ⟨_, Heap.get?_push_size _ rfl, rfl, rfl⟩ q)
  · obtain ⟨t, rfl⟩ := rx
    rcases Bool.eq_false_or_eq_true (z.cps.all (· < 128)) with ha | ha
    · exact wpAny_pyIter_ascii ha (pi_one (tk := s1.toks) I _ (turn_str _ z t "str_ascii_iterator" (.inl rfl)) ⟨_, Heap.get?_push_size _ rfl, rfl, rfl⟩ q)
    · exact wpAny_pyIter_wide ha (pi_one (tk := s1.toks) I _ (turn_str _ z t "str_iterator" (.inr rfl)) ⟨_, Heap.get?_push_size _ rfl, rfl, rfl⟩ q)
  · cases (show v = Value.ref d from rx)
    obtain ⟨hs, hgd, hx, es, ep, vs, hdt, hsz, kv, hm⟩ := I.frzK hd
    exact iter_keys hs hgd hx hdt (pi_one (tk := s1.toks) I _ (turn_keys _ hdt) ⟨_, Heap.get?_push_size _ rfl, rfl, by rw [hsz] <;> rfl⟩ q)
theorem itOk_list {K : Frag} {Fz : Addr → Prop} {H : Hp} {a : Addr} {vs : List V} {ds : List D} (q : SqF K H a vs) (d : DenL K Fz H vs ds) : ItOk K (Itl K a) ds Fz H :=
  ⟨_, _, (show Walk (Itl K a) ds.length _ _ by rw [← d.length]; exact walk_list (xs := vs)), fun F' H' g => (q.mono g).l, fun i F' H' x H2 z g fz ez y => by
    obtain ⟨rfl, ev⟩ := y
    obtain ⟨u, e2, du⟩ := (d.mono g).get ez
    rw [ev] at e2; cases e2
    exact ⟨.inl rfl, du⟩⟩
theorem itOk_tup {K : Frag} {Fz : Addr → Prop} {H : Hp} {a : Addr} {vs : List V} {ds : List D} (q : SqU K H a vs) (d : DenL K Fz H vs ds) : ItOk K (Itt K a) ds Fz H :=
  ⟨_, _, (show Walk (Itt K a) ds.length _ _ by rw [← d.length]; exact walk_tup (xs := vs)), fun F' H' g => (q.mono g).t, fun i F' H' x H2 z g fz ez y => by
    obtain ⟨rfl, ev⟩ := y
    obtain ⟨u, e2, du⟩ := (d.mono g).get ez
    rw [ev] at e2; cases e2
    exact ⟨.inl rfl, du⟩⟩
theorem itOk_str {K : Frag} {Fz : Addr → Prop} {H : Hp} {z : Str} : ItOk K (Its z) (chrD z) Fz H :=
  ⟨_, _, (show Walk (Its z) (chrD z).length _ _ by unfold chrD; rw [List.length_map, Array.length_toList]; exact walk_str), fun _ _ _ => trivial, fun i F' H' x H2 w g fz ew y => by
    obtain ⟨rfl, c, ec, rfl⟩ := y
    refine ⟨.inl rfl, ?_⟩
    unfold chrD at ew
    rw [List.getElem?_map, Array.getElem?_toList, ec] at ew
    cases ew
    exact .str _⟩
theorem DenF.get {K : Frag} {Fz : Addr → Prop} {H : Hp} : ∀ {v : List (Str × V)} {d : List (Str × D)} {i : Nat} {x : Str × D}, DenF K Fz H v d → d[i]? = some x → ∃ u, v[i]? = some (x.1, u) ∧ Den K Fz H u x.2
  | _, _, _, _, .nil, e => by simp at e
  | _, _, 0, _, .cons h _, e => by simp at e; subst e; exact ⟨_, rfl, h⟩
  | _, _, i + 1, x, .cons _ l, e => by
    obtain ⟨u, h1, h2⟩ := DenF.get (i := i) (x := x) l (by simpa using e)
    exact ⟨u, by simpa using h1, h2⟩
theorem itOk_keys {K : Frag} {Fz : Addr → Prop} {H : Hp} {a : Addr} {o : Obj} {kvs : List (Str × V)} {ds : List (Str × D)} (q : H a = some (.frz o (.dK (kvs.map keyP)))) (d : DenF K Fz H kvs ds) : ItOk K (Itk a o (kvs.map keyP)) (ds.map fun p => .str p.1) Fz H :=
  ⟨_, _, (show Walk _ (ds.map fun p => D.str p.1).length _ _ by rw [List.length_map, ← d.length, ← List.length_map (f := keyP)]; exact walk_keys), fun F' H' g => g.imm a _ (by exact trivial) q, fun i F' H' x H2 w g fz ew y => by
    obtain ⟨rfl, k, v, ek, rfl⟩ := y
    refine ⟨.inl rfl, ?_⟩
    rw [List.getElem?_map] at ew ek
    obtain ⟨p, ep, rfl⟩ := map_some ew
    obtain ⟨u, e2, _⟩ := d.get ep
    rw [e2] at ek
    cases ek
    exact .str _⟩
def srcD (f : List Sl → R (D × List Sl)) (ρ : List Sl) : R (List D × List Sl) := (f ρ).bind fun p => (ofO (itD p.1)).bind fun l => .ok (l, p.2)
theorem di_any (hK : B.K = X.K) (he : PE X e (tE B E f)) : PI X tg e (tI B E (srcD f)) :=
  weakPI (pi_any he) fun σ H R ⟨Fz, ρ, I, q⟩ => by
    refine monoG (tG_bind I q) fun x H1 ⟨F1, ρ1, dx, I1, d1, g1, e1, q1⟩ => ?_
    obtain ⟨z, ez, q2⟩ := fin_o q1
    have fin : ∀ J, ItOk B.K J z F1 H1 → R J H1 := fun J h => q2 J H1 F1 I1 .refl h
    rw [hK] at fin
    have d1 : Den X.K F1 H1 x dx := hK ▸ d1
    cases d1 with
    | lst hq l => cases ez; exact .inl ⟨_, _, rfl, hq.l, fin _ (itOk_list hq l)⟩
    | tup hq l => cases ez; exact .inr (.inl ⟨_, _, rfl, hq.t, fin _ (itOk_tup hq l)⟩)
    | str w => cases ez; exact .inr (.inr (.inl ⟨w, rfl, fin _ itOk_str⟩))
    | dic hd l => cases ez; exact .inr (.inr (.inr ⟨_, _, _, rfl, hd, fin _ (itOk_keys hd l)⟩))
    | _ => cases ez
/-! range -/
def rngD (lo : Int) (n : Nat) : List D := (List.range n).map fun (i : Nat) => .int (lo + i)
theorem itOk_rng {K : Frag} {Fz : Addr → Prop} {H : Hp} {lo : Int} {n : Nat} : ItOk K (Itr lo n) (rngD lo n) Fz H :=
  ⟨_, _, (show Walk _ (rngD lo n).length _ _ by unfold rngD; rw [List.length_map, List.length_range]; exact walk_range), fun _ _ _ => trivial, fun i F' H' x H2 w g fz ew y => by
    obtain ⟨rfl, rfl⟩ := y
    refine ⟨.inl rfl, ?_⟩
    unfold rngD at ew
    rw [List.getElem?_map] at ew
    obtain ⟨j, ej, rfl⟩ := map_some ew
    rw [List.getElem?_eq_some_iff] at ej
    obtain ⟨hj, ej⟩ := ej
    rw [List.getElem_range] at ej
    subst ej
    exact .int _⟩
def smI (i : Int) : Bool := decide (-(2 ^ 62) ≤ i ∧ i < 2 ^ 62)
def rng1O : List D → Option (List D)
  | [.int j] => if smI j then some (rngD 0 j.toNat) else none
  | _ => none
def rng2O : List D → Option (List D)
  | [.int i, .int j] => if smI i && smI j then some (rngD i (j - i).toNat) else none
  | _ => none
def srcL (F : List D → Option (List D)) (l : List Sl → R (List D × List Sl)) (ρ : List Sl) : R (List D × List Sl) := (l ρ).bind fun p => (ofO (F p.1)).bind fun l => .ok (l, p.2)
theorem di_rng1 (hg : Gl X "range") (hm : X.mg "range" = none) (hs : nsE e = true) (ha : PA X [e] (tA B E l)) : PI X tg (.Call (.Name "range" p) [e] [] pos) (tI B E (srcL rng1O l)) :=
  weakPI (pi_range1 hg hm ha (star_cons hs)) fun σ H R ⟨Fz, ρ, I, q⟩ => by
    refine monoG (tG_bind I q) fun x H1 ⟨F1, ρ1, dx, I1, d1, g1, e1, q1⟩ => ?_
    obtain ⟨z, ez, q2⟩ := fin_o q1
    have ez' : rng1O dx = some z := ez
    unfold rng1O at ez'
    split at ez'
    · obtain ⟨c, rfl⟩ := if_some ez'
      obtain ⟨v, rfl, dv⟩ := denL1 d1
      cases dv
      have c := of_decide_eq_true c
      exact ⟨_, rfl, c.1, c.2, q2 _ H1 F1 I1 .refl itOk_rng⟩
    · cases ez'
/-! pairs: zip, enumerate, items -/
def zipD : List D → List D → List D
  | x :: xs, y :: ys => .tup [x, y] :: zipD xs ys
  | _, _ => []
theorem pair_den {K : Frag} {Fz : Addr → Prop} {H' H2 : Hp} {T : Addr} {x y : V} {dx dy : D} (f : FzOk Fz H') (hT : H' T = none) (h2 : H2 = upd H' T (.tup [x, y])) (d1 : Den K Fz H' x dx) (d2 : Den K Fz H' y dy) :
    (H2 = H' ∨ ∃ p o, H' p = none ∧ H2 = upd H' p o) ∧ Den K Fz H2 (.ref T) (.tup [dx, dy]) := by
  subst h2
  have g := (ext_new (o := .tup [x, y]) f hT).ge
  exact ⟨.inr ⟨T, _, hT, rfl⟩, .tup (.inl upd_same) (.cons (d1.mono g) (.cons (d2.mono g) .nil))⟩
def zipO : List D → Option (List D)
  | [.lst l, .lst r] => some (zipD l r)
  | [.tup l, .tup r] => some (zipD l r)
  | _ => none
def enuD : Int → List D → List D
  | _, [] => []
  | n, d :: ds => .tup [.int n, d] :: enuD (n + 1) ds
theorem enuD_length : ∀ (n : Int) (l : List D), (enuD n l).length = l.length
  | _, [] => rfl
  | n, d :: ds => congrArg Nat.succ (enuD_length (n + 1) ds)
theorem enuD_get : ∀ {n : Int} {l : List D} {i : Nat} {z : D}, (enuD n l)[i]? = some z → ∃ x, l[i]? = some x ∧ z = .tup [.int (n + i), x]
  | n, [], i, z, h => by simp [enuD] at h
  | n, d :: ds, 0, z, h => by simp [enuD] at h; exact ⟨d, rfl, by rw [← h]; simp⟩
  | n, d :: ds, i + 1, z, h => by
    obtain ⟨x, h1, h2⟩ := enuD_get (n := n + 1) (l := ds) (i := i) (z := z) (by simpa [enuD] using h)
    exact ⟨x, by simpa using h1, by rw [h2, show n + 1 + (i : Int) = n + ((i + 1 : Nat) : Int) by omega]⟩
theorem itOk_enum {K : Frag} {Fz : Addr → Prop} {H : Hp} {a : Addr} {vs : List V} {ds : List D} (q : SqF K H a vs) (d : DenL K Fz H vs ds) : ItOk K (Ite K a) (enuD 0 ds) Fz H :=
  have w : Walk (Ite K a) (enuD 0 ds).length _ _ := by rw [enuD_length, ← d.length]; exact walk_enum (xs := vs)
  ⟨_, _, w, fun F' H' g => (q.mono g).l, fun i F' H' v H2 w g fz ew y => by
    obtain ⟨T, x, z, rfl, hT, h2, ex, ez⟩ := y
    obtain ⟨dz, e2, rfl⟩ := enuD_get ew
    obtain ⟨u2, f2, den2⟩ := (d.mono g).get e2
    rw [show vs[i]? = some z from ez] at f2; cases f2
    cases ex
    rw [Int.zero_add]
    exact pair_den fz hT h2 (.int _) den2⟩
def enuO : List D → Option (List D)
  | [.lst l] => some (enuD 0 l)
  | _ => none
theorem di_enum (hK : B.K = X.K) (hg : Gl X "enumerate") (hm : X.mg "enumerate" = none) (hs : nsE e = true) (ha : PA X [e] (tA B E l)) : PI X (.Tuple elts kk tpos) (.Call (.Name "enumerate" p) [e] [] pos) (tI B E (srcL enuO l)) :=
  weakPI (pi_enum hg hm ha (star_cons hs)) fun σ H R ⟨Fz, ρ, I, q⟩ => by
    refine monoG (tG_bind I q) fun x H1 ⟨F1, ρ1, dx, I1, d1, g1, e1, q1⟩ => ?_
    obtain ⟨z, ez, q2⟩ := fin_o q1
    have fin : ∀ J, ItOk B.K J z F1 H1 → R J H1 := fun J h => q2 J H1 F1 I1 .refl h
    rw [hK] at fin
    have d1 : DenL X.K F1 H1 x dx := hK ▸ d1
    have ez' : enuO dx = some z := ez
    unfold enuO at ez'
    split at ez'
    · cases ez'
      obtain ⟨v, rfl, dv⟩ := denL1 d1
      cases dv with
      | lst q1 l1 => exact ⟨_, _, rfl, q1.l, fin _ (itOk_enum q1 l1)⟩
    · cases ez'
/-! d.items() of a dict -/
def itemD (l : List (Str × D)) : List D := l.map fun p => .tup [.str p.1, p.2]
def itmO : D → Option (List D)
  | .dic l => some (itemD l)
  | _ => none
def srcI (F : D → Option (List D)) (f : List Sl → R (D × List Sl)) (ρ : List Sl) : R (List D × List Sl) := (f ρ).bind fun p => (ofO (F p.1)).bind fun l => .ok (l, p.2)
def valO : D → Option (List D)
  | .dic l => some (l.map (·.2))
  | _ => none
end
end Dx

set_option Elab.async false
set_option linter.all false
set_option maxRecDepth 100000
set_option maxHeartbeats 1000000
namespace Dx
open PySem PySem.Spec PyProof.Rows L2
variable [Tbs]

abbrev E0 : XK := fun _ _ _ => False
def R.nox {α : Type} (r : R α) : R α := match r with
  | .ok a => .ok a
  | _ => .bad
@[simp] theorem R.nox_ok {α : Type} (a : α) : (R.ok a).nox = .ok a := rfl
/-- a base with one more object that must stay -/
def Bs.at (B : Bs) (D : Addr) (o : HO) : Bs := { B with ex := fun a => B.ex a ∧ a ≠ D, H0 := upd B.H0 D o }
/-- a base that tells more -/
structure BLe (B B' : Bs) : Prop where
  K : B'.K = B.K
  imm : ∀ a o, Imx o → B.H0 a = some o → B'.H0 a = some o
  tab : ∀ P q, TabZ B.H0 P q → TabZ B'.H0 P q
theorem BLe.at {B : Bs} {D : Addr} {o : HO} (h : B.H0 D = none) : BLe B (B.at D o) := ⟨rfl, fun a u _ e => by
  have q : a ≠ D := fun q => by rw [q, h] at e; cases e
  show upd B.H0 D o a = some u
  rw [upd_ne q]; exact e, fun _ _ t => tab_new h t⟩
def wipeR (ρ : List Sl) (vs : List Nat) : List Sl := match vs with
  | [] => ρ
  | v :: vs => (wipeR ρ vs).set v .un
theorem wipeR_length (ρ : List Sl) : ∀ vs : List Nat, (wipeR ρ vs).length = ρ.length
  | [] => rfl
  | v :: vs => by unfold wipeR; rw [List.length_set]; exact wipeR_length ρ vs
theorem wipeR_out {ρ : List Sl} {i : Nat} : ∀ {vs : List Nat}, i ∉ vs → (wipeR ρ vs)[i]? = ρ[i]?
  | [], _ => rfl
  | v :: vs, h => by
    unfold wipeR
    rw [List.getElem?_set_ne (fun e => h (by rw [e]; exact List.mem_cons_self))]
    exact wipeR_out fun z => h (List.mem_cons_of_mem _ z)
theorem wipeR_in {ρ : List Sl} {i : Nat} {s : Sl} : ∀ {vs : List Nat}, i ∈ vs → (wipeR ρ vs)[i]? = some s → s = .un
  | v :: vs, h, e => by
    unfold wipeR at e
    by_cases q : v = i
    · subst q
      by_cases hl : v < (wipeR ρ vs).length
      · rw [List.getElem?_set_self hl] at e; cases e; rfl
      · rw [List.getElem?_eq_none (by rw [List.length_set]; omega)] at e; cases e
    · rw [List.getElem?_set_ne q] at e
      rcases List.mem_cons.mp h with h | h
      · exact (q h.symm).elim
      · exact wipeR_in h e
theorem wipe_out' {σ : L2.St} {i : Nat} : ∀ {vs : List Nat}, i ∉ vs → (wipe σ vs)[i]? = σ[i]?
  | [], _ => rfl
  | v :: vs, h => by
    unfold wipe
    rw [List.getElem?_set_ne (fun e => h (by rw [e]; exact List.mem_cons_self))]
    exact wipe_out' fun z => h (List.mem_cons_of_mem _ z)
section
variable {B : Bs} {Fz : Addr → Prop} {H : Hp} {σ σ' : L2.St} {ρ : List Sl} {vs : List Nat}
/-- other slots, the same but at vs, where nothing is told -/
theorem Iv.slots {ρ' : List Sl} (I : Iv B Fz H σ ρ) (hl : σ'.length = σ.length) (hl2 : ρ'.length = ρ.length) (h : ∀ (j : Nat) (s : Sl), ρ'[j]? = some s → s ≠ Sl.un → ρ[j]? = some s ∧ σ'[j]? = σ[j]?) : Iv B Fz H σ' ρ' where
  len := by rw [hl, hl2]; exact I.len
  ext := I.ext
  fzs := I.fzs
  ok := fun j s e => by
    by_cases q : s = .un
    · subst q; trivial
    · obtain ⟨h1, h2⟩ := h j s e q
      rw [h2]
      exact I.ok j s h1
  apart := fun i j a b n ⟨s, e1, o1, q1⟩ ⟨t, e2, o2, q2⟩ => by
    obtain ⟨x1, y1⟩ := h i s e1 (fun z => by rw [z] at o1; cases o1)
    obtain ⟨x2, y2⟩ := h j t e2 (fun z => by rw [z] at o2; cases o2)
    exact I.apart i j a b n ⟨s, x1, o1, y1 ▸ q1⟩ ⟨t, x2, o2, y2 ▸ q2⟩
  lent := I.lent
theorem Iv.wipe (I : Iv B Fz H σ ρ) : Iv B Fz H (L2.wipe σ vs) (wipeR ρ vs) :=
  I.slots (wipe_length σ vs) (wipeR_length ρ vs) fun j s e n => by
    by_cases q : j ∈ vs
    · exact (n (wipeR_in q e)).elim
    · rw [wipeR_out q] at e; exact ⟨e, wipe_out' q⟩
theorem Iv.unwipe (I : Iv B Fz H (L2.wipe σ vs) (wipeR ρ vs)) : Iv B Fz H σ (wipeR ρ vs) :=
  I.slots (wipe_length σ vs).symm rfl fun j s e n => by
    by_cases q : j ∈ vs
    · exact (n (wipeR_in q e)).elim
    · exact ⟨e, (wipe_out' q).symm⟩
theorem wipe_same {ws : List Nat} (h : Same ws (L2.wipe σ vs) σ') (hw : ∀ j ∈ ws, j ∈ vs) : L2.wipe σ' vs = L2.wipe σ vs := by
  have len : σ'.length = σ.length := by rw [h.1, wipe_length]
  apply List.ext_getElem?
  intro j
  have gen : ∀ (τ : L2.St), j ∈ vs → (L2.wipe τ vs)[j]? = if j < τ.length then some none else none := by
    intro τ hj
    clear h hw len
    induction vs with
    | nil => cases hj
    | cons v vs ih =>
      unfold L2.wipe
      by_cases q : v = j
      · subst q
        by_cases hl : v < τ.length
        · rw [List.getElem?_set_self (by rw [wipe_length]; exact hl), if_pos hl]
        · rw [List.getElem?_eq_none (by rw [List.length_set, wipe_length]; omega), if_neg hl]
      · rw [List.getElem?_set_ne q]
        rcases List.mem_cons.mp hj with z | z
        · exact (q z.symm).elim
        · exact ih z
  by_cases q : j ∈ vs
  · rw [gen σ' q, gen σ q, len]
  · rw [wipe_out' q, wipe_out' q, h.2 j (fun z => q (hw j z)), wipe_out' q]
/-- one more object in the base -/
theorem Iv.atBase {p : Addr} {o : HO} (I : Iv B Fz H σ ρ) (hp : H p = none) (ni : ¬ Imm o) : Iv (B.at p o) Fz (upd H p o) σ ρ := by
  obtain ⟨I2, g2, ap, h0, nz⟩ := I.laid hp o
  have nz0 : ¬ B.Fz0 p := fun z => nz (I.ext.ge.fz p z)
  refine ⟨I2.len, ⟨⟨fun a u i e => ?_, I2.ext.ge.fz, fun a z => ?_, fun P q t => I2.ext.ge.tab P q (tab_un ni t)⟩, fun a u e n nt => ?_, fun a z => ?_, fun a u e => ?_⟩, I2.fzs, fun i s e => ?_, I2.apart, fun a z => ?_⟩
  · by_cases q : a = p
    · subst q; rw [show (B.at a o).H0 a = some o from upd_same] at e; cases e; exact (ni i.imm).elim
    · rw [show (B.at p o).H0 a = B.H0 a from upd_ne q] at e; exact I2.ext.ge.imm a u i e
  · have q : a ≠ p := fun q => nz0 (q ▸ z)
    rw [show (B.at p o).H0 a = B.H0 a from upd_ne q]; exact I2.ext.ge.fzk a z
  · by_cases q : a = p
    · subst q; rw [show (B.at a o).H0 a = some o from upd_same] at e; cases e; exact upd_same
    · rw [show (B.at p o).H0 a = B.H0 a from upd_ne q] at e; exact I2.ext.keep a u e (fun z => n ⟨z, q⟩) nt
  · have q : a ≠ p := fun q => nz (q ▸ z)
    rcases I2.ext.nofz a z with h | h | h
    · exact .inl h
    · exact .inr (.inl (by rw [show (B.at p o).H0 a = B.H0 a from upd_ne q]; exact h))
    · exact .inr (.inr ⟨h, q⟩)
  · by_cases q : a = p
    · subst q; exact ⟨o, upd_same⟩
    · rw [show (B.at p o).H0 a = B.H0 a from upd_ne q] at e; exact I2.ext.there a u e
  · have z := I2.ok i s e
    have ne : ∀ a, s.held = true → σ[i]?.join = some (.ref a) → a ≠ p := fun a hh hs => ap i a ⟨s, e, hh, join_some.mp hs⟩
    cases s with
    | un => trivial
    | sh d => exact z
    | ow d => obtain ⟨a, e1, ow, h0⟩ := z; exact ⟨a, e1, ow, by rw [show (B.at p o).H0 a = B.H0 a from upd_ne (ne a rfl e1)]; exact h0⟩
    | br d => exact z
    | mt d => obtain ⟨a, e1, ow, h1, h2⟩ := z; exact ⟨a, e1, ow, ⟨h1, ne a rfl e1⟩, h2⟩
  · obtain ⟨u, e⟩ := I.lent a z
    have q : a ≠ p := fun q => by rw [q, h0] at e; cases e
    exact ⟨u, by rw [show (B.at p o).H0 a = B.H0 a from upd_ne q]; exact e⟩
/-- an object that stands there, into the base -/
theorem Iv.toBase {p : Addr} {o : HO} (I : Iv B Fz H σ ρ) (hp : H p = some o) (h0 : B.H0 p = none) (ap : ∀ i b, HeldAt σ ρ i b → b ≠ p) (ni : ¬ Imm o) (nz : ¬ Fz p) : Iv (B.at p o) Fz H σ ρ := by
  have nz0 : ¬ B.Fz0 p := fun z => nz (I.ext.ge.fz p z)
  refine ⟨I.len, ⟨⟨fun a u i e => ?_, I.ext.ge.fz, fun a z => ?_, fun P q t => I.ext.ge.tab P q (tab_un ni t)⟩, fun a u e n nt => ?_, fun a z => ?_, fun a u e => ?_⟩, I.fzs, fun i s e => ?_, I.apart, fun a z => ?_⟩
  · by_cases q : a = p
    · subst q; rw [show (B.at a o).H0 a = some o from upd_same] at e; cases e; exact (ni i.imm).elim
    · rw [show (B.at p o).H0 a = B.H0 a from upd_ne q] at e; exact I.ext.ge.imm a u i e
  · have q : a ≠ p := fun q => nz0 (q ▸ z)
    rw [show (B.at p o).H0 a = B.H0 a from upd_ne q]; exact I.ext.ge.fzk a z
  · by_cases q : a = p
    · subst q; rw [show (B.at a o).H0 a = some o from upd_same] at e; cases e; exact hp
    · rw [show (B.at p o).H0 a = B.H0 a from upd_ne q] at e; exact I.ext.keep a u e (fun z => n ⟨z, q⟩) nt
  · have q : a ≠ p := fun q => nz (q ▸ z)
    rcases I.ext.nofz a z with h | h | h
    · exact .inl h
    · exact .inr (.inl (by rw [show (B.at p o).H0 a = B.H0 a from upd_ne q]; exact h))
    · exact .inr (.inr ⟨h, q⟩)
  · by_cases q : a = p
    · subst q; exact ⟨o, hp⟩
    · rw [show (B.at p o).H0 a = B.H0 a from upd_ne q] at e; exact I.ext.there a u e
  · have z := I.ok i s e
    have ne : ∀ a, s.held = true → σ[i]?.join = some (.ref a) → a ≠ p := fun a hh hs => ap i a ⟨s, e, hh, join_some.mp hs⟩
    cases s with
    | un => trivial
    | sh d => exact z
    | ow d => obtain ⟨a, e1, ow, h0⟩ := z; exact ⟨a, e1, ow, by rw [show (B.at p o).H0 a = B.H0 a from upd_ne (ne a rfl e1)]; exact h0⟩
    | br d => exact z
    | mt d => obtain ⟨a, e1, ow, h1, h2⟩ := z; exact ⟨a, e1, ow, ⟨h1, ne a rfl e1⟩, h2⟩
  · obtain ⟨u, e⟩ := I.lent a z
    have q : a ≠ p := fun q => by rw [q, h0] at e; cases e
    exact ⟨u, by rw [show (B.at p o).H0 a = B.H0 a from upd_ne q]; exact e⟩
theorem Iv.atNe {p : Addr} {o : HO} (I : Iv (B.at p o) Fz H σ ρ) (h0 : B.H0 p = none) (lent : ∀ a, B.bd a → ∃ o, B.H0 a = some o) : ∀ i b, HeldAt σ ρ i b → b ≠ p := fun i b ⟨s, e, hh, hs⟩ q => by
  have z := I.ok i s e
  rw [join_some.mpr hs] at z
  subst q
  cases s with
  | ow d => obtain ⟨a, e1, ow, h1⟩ := z; cases e1; rw [show (B.at b o).H0 b = some o from upd_same] at h1; cases h1
  | mt d => obtain ⟨a, e1, ow, h1, h2⟩ := z; cases e1; exact h1.2 rfl
  | br d => obtain ⟨a, e1, bw, h1⟩ := z; cases e1; obtain ⟨u, e2⟩ := lent b h1; rw [h0] at e2; cases e2
  | _ => cases hh
/-- out of it again -/
theorem Iv.outBase {p : Addr} {o : HO} (I : Iv (B.at p o) Fz H σ ρ) (h0 : B.H0 p = none) (nz : ¬ Fz p) (lent : ∀ a, B.bd a → ∃ o, B.H0 a = some o) : Iv B Fz H σ ρ := by
  have nz0 : ¬ B.Fz0 p := fun z => nz (I.ext.ge.fz p z)
  refine ⟨I.len, ⟨⟨fun a u i e => ?_, I.ext.ge.fz, fun a z => ?_, fun P q t => I.ext.ge.tab P q (tab_new h0 t)⟩, fun a u e n nt => ?_, fun a z => ?_, fun a u e => ?_⟩, I.fzs, fun i s e => ?_, I.apart, lent⟩
  · have q : a ≠ p := fun q => by rw [q, h0] at e; cases e
    exact I.ext.ge.imm a u i (by rw [show (B.at p o).H0 a = B.H0 a from upd_ne q]; exact e)
  · have q : a ≠ p := fun q => nz0 (q ▸ z)
    have := I.ext.ge.fzk a z
    rw [show (B.at p o).H0 a = B.H0 a from upd_ne q] at this
    exact this
  · have q : a ≠ p := fun q => by rw [q, h0] at e; cases e
    exact I.ext.keep a u (by rw [show (B.at p o).H0 a = B.H0 a from upd_ne q]; exact e) (fun z => n z.1) nt
  · have q : a ≠ p := fun q => nz (q ▸ z)
    rcases I.ext.nofz a z with h | h | h
    · exact .inl h
    · exact .inr (.inl (by rw [show (B.at p o).H0 a = B.H0 a from upd_ne q] at h; exact h))
    · exact .inr (.inr h.1)
  · have q : a ≠ p := fun q => by rw [q, h0] at e; cases e
    exact I.ext.there a u (by rw [show (B.at p o).H0 a = B.H0 a from upd_ne q]; exact e)
  · have z := I.ok i s e
    cases s with
    | un => trivial
    | sh d => exact z
    | ow d =>
      obtain ⟨a, e1, ow, hn⟩ := z
      refine ⟨a, e1, ow, ?_⟩
      by_cases q : a = p
      · rw [q]; exact h0
      · rw [show (B.at p o).H0 a = B.H0 a from upd_ne q] at hn; exact hn
    | br d => exact z
    | mt d => obtain ⟨a, e1, ow, h1, h2⟩ := z; exact ⟨a, e1, ow, h1.1, h2⟩
end
end Dx

set_option Elab.async false
set_option linter.all false
set_option maxRecDepth 100000
set_option maxHeartbeats 1000000
namespace Dx
open PySem PySem.Spec PyProof.Rows L2
variable [Tbs]

/-! ### list comprehensions -/
def lcL (vs : List Nat) (t : D → List Sl → Option (List Sl)) (u : List Sl → R (Bool × List Sl)) (f : List Sl → R (D × List Sl)) : List D → List D → List Sl → R (List D × List Sl)
  | acc, [], ρ => .ok (acc, ρ)
  | acc, d :: ds, ρ => (ofO (t d ρ)).bind fun ρ1 => (u ρ1).nox.bind fun p => match p.1 with
    | true => (f p.2).nox.bind fun q => if decide (acc.length < sizeLine) = true then lcL vs t u f (acc ++ [q.1]) ds (wipeR q.2 vs) else .bad
    | false => lcL vs t u f acc ds (wipeR p.2 vs)
def evLc (vs : List Nat) (s : List Sl → R (List D × List Sl)) (t : D → List Sl → Option (List Sl)) (u : List Sl → R (Bool × List Sl)) (f : List Sl → R (D × List Sl)) (ρ : List Sl) : R (D × List Sl) :=
  (s ρ).bind fun p => (lcL vs t u f [] p.1 (wipeR p.2 vs)).bind fun q => .ok (.lst q.1, q.2)
def evYes (ρ : List Sl) : R (Bool × List Sl) := .ok (true, ρ)
theorem dts_nil {X : Cx} {B : Bs} {E : XK} : PTs X [] (tT B E evYes) := ⟨fun pins s σ H Q I ⟨Fz, ρ, I2, q⟩ => pts_nil.run pins s σ H Q I (q true H Fz I2 .refl rfl)⟩
/-- one piece inside a block: no exception leaves it -/
theorem tG_nox {α β γ δ : Type} {Rl : Rel α β} {Rm : Rel γ δ} {B B1 : Bs} {E : XK} {f : List Sl → R (α × List Sl)} {k : α × List Sl → R (γ × List Sl)} {σ σ1 : L2.St} {H : Hp} {Fz : Addr → Prop} {ρ : List Sl} {Q : δ → Hp → Prop} (I : Iv B1 Fz H σ1 ρ) (h : FinG Rm B E σ Q Fz H ((f ρ).nox.bind k)) :
    tG Rl B1 E0 f σ1 H (fun v H1 => ∃ Fz1 ρ1 d, Iv B1 Fz1 H1 σ1 ρ1 ∧ Rl B1 Fz1 H1 σ1 ρ1 v d ∧ Ge Fz H Fz1 H1 ∧ FinG Rm B E σ Q Fz1 H1 (k (d, ρ1))) := by
  refine ⟨Fz, ρ, I, ?_⟩
  cases e : f ρ with
  | ok p =>
    rw [e] at h
    exact fun v H1 F1 I1 g1 d1 => ⟨F1, p.2, p.1, I1, d1, g1, FinG.ge g1 h⟩
  | exc c d => rw [e] at h; exact h.elim
  | bad => rw [e] at h; exact h.elim
section
variable {X : Cx} {B : Bs} {E : XK} {e c iter tg elt : Expr} {ifs : List Expr} {f : List Sl → R (D × List Sl)} {s : List Sl → R (List D × List Sl)} {t : D → List Sl → Option (List Sl)} {u : List Sl → R (Bool × List Sl)} {pos : Pos} {i : Nat} {x : Str} {ws : List Nat} {scope : Scope} {own : List (Str × Nat)}
abbrev anyB (B : Bs) {α : Type} (t : Bs → L2.St → Hp → α → Prop) : L2.St → Hp → α → Prop := fun σ H Q => ∃ B' : Bs, BLe B B' ∧ t B' σ H Q
theorem pe_anyB {Y : Cx} (h : ∀ B' : Bs, BLe B B' → PE Y e (tE B' E f)) : PE Y e (fun σ H Q => ∃ B' : Bs, BLe B B' ∧ tE B' E f σ H Q) := ⟨fun pins s σ H Q I ⟨B', hB, q⟩ => (h B' hB).run pins s σ H Q I q⟩
theorem pts_anyB {Y : Cx} (h : ∀ B' : Bs, BLe B B' → PTs Y ifs (tT B' E u)) : PTs Y ifs (fun σ H Q => ∃ B' : Bs, BLe B B' ∧ tT B' E u σ H Q) := ⟨fun pins s σ H Q I ⟨B', hB, q⟩ => (h B' hB).run pins s σ H Q I q⟩
theorem pg_anyB {Y : Cx} (h : ∀ B' : Bs, BLe B B' → PG Y tg (tG1 B' ws t)) : PG Y tg (fun v σ H Q => ∃ B' : Bs, BLe B B' ∧ tG1 B' ws t v σ H Q) := ⟨fun pins s σ H v u Q I r ⟨B', hB, q⟩ => (h B' hB).run pins s σ H v u Q I r q⟩
theorem t_lc {vs : List Nat} (hw : ∀ j ∈ ws, j ∈ vs) {σ : L2.St} {H : Hp} {Q : VK} (h : tO B E (evLc vs s t u f) σ H Q) :
    tLc (tI B E s) (fun v σ H Q => ∃ B' : Bs, BLe B B' ∧ tG1 B' ws t v σ H Q) (fun σ H Q => ∃ B' : Bs, BLe B B' ∧ tT B' E0 u σ H Q) (fun σ H Q => ∃ B' : Bs, BLe B B' ∧ tE B' E0 f σ H Q) vs σ H Q := by
    obtain ⟨Fz, ρ, I, q⟩ := h
    refine monoG (tG_bind I q) fun J H1 ⟨F1, ρ1, ds, I1, ⟨G, Y, w, hG, hY⟩, g1, e1, q1⟩ => ?_
    intro p hp
    have h0 : B.H0 p = none := (I1.laid hp (.lst [])).2.2.2.1
    have pre : ∀ {F' : Addr → Prop} {H' : Hp} {vacc : List V}, FzOk F' H' → H' p = some (.lst vacc) → ¬ F' p := fun f e z => by
      obtain ⟨C, dx, fs, e2⟩ := f p z
      rw [e] at e2; cases e2
    have ge0 : Ge F1 H1 F1 (upd H1 p (.lst [])) := (I1.laid hp (.lst [])).2.1
    refine lc_it (g := fun v σ H Q => ∃ B' : Bs, BLe B B' ∧ tG1 B' ws t v σ H Q) (tt := fun σ H Q => ∃ B' : Bs, BLe B B' ∧ tT B' E0 u σ H Q) (te := fun σ H Q => ∃ B' : Bs, BLe B B' ∧ tE B' E0 f σ H Q) (vs := vs) (σ := σ) (Qd := fun H => Q (.ref p) H) w (fun i H' => ∃ F' ρ0 acc vacc, H' p = some (.lst vacc) ∧ DenL B.K F' H' vacc acc ∧ Iv (B.at p (.lst vacc)) F' H' (wipe σ vs) (wipeR ρ0 vs) ∧ Ge F1 H1 F' H' ∧
        FinG rO B E σ Q F' H' ((lcL vs t u f acc (ds.drop i) (wipeR ρ0 vs)).bind fun q => .ok (.lst q.1, q.2)))
      ⟨F1, ρ1, [], [], upd_same, .nil, (I1.atBase (o := .lst []) hp (fun z => z)).wipe, ge0, FinG.ge ge0 q1⟩ (fun i H' _ ⟨F', _, _, _, _, _, _, g', _⟩ => hG F' H' g')
      (fun i x H' H2 hlt ⟨F', ρ0, acc, vacc, hD, dacc, I', g', q'⟩ y => ?_) fun H' ⟨F', ρ0, acc, vacc, hD, dacc, I', g', q'⟩ => ?_
    · obtain ⟨d, ed, er⟩ := drop_get hlt
      obtain ⟨h2, dn⟩ := hY i F' H' x H2 d g' I'.fzs ed y
      obtain ⟨I2, g2⟩ := I'.more h2
      have hD2 : H2 p = some (.lst vacc) := I2.ext.keep p _ upd_same fun z => z.2 rfl
      rw [er] at q'
      have q' := FinG.ge g2 q'
      have q' : FinG rO B E σ Q F' H2 (((ofO (t d (wipeR ρ0 vs))).bind fun ρ1 => (u ρ1).nox.bind fun p => match p.1 with
        | true => (f p.2).nox.bind fun q => if decide (acc.length < sizeLine) = true then lcL vs t u f (acc ++ [q.1]) (ds.drop (i + 1)) (wipeR q.2 vs) else .bad
        | false => lcL vs t u f acc (ds.drop (i + 1)) (wipeR p.2 vs)).bind fun q => .ok (.lst q.1, q.2)) := q'
      rw [R.bind_assoc] at q'
      obtain ⟨ρ2, e2, q2⟩ := fin_o q'
      refine ⟨B.at p (.lst vacc), .at h0, F', _, d, ρ2, I2, dn, e2, fun σ3 s3 I3 => ⟨wipe_same s3 hw, ?_⟩⟩
      rw [R.bind_assoc] at q2
      refine ⟨B.at p (.lst vacc), .at h0, monoG (tG_nox I3 q2) fun b H3 ⟨F3, ρ3, db, I4, eb, g3, q3⟩ => ?_⟩
      have eb : b = db := eb
      subst eb
      have ws3 : wipe σ3 vs = wipe σ vs := wipe_same s3 hw
      cases b with
      | false =>
        rw [if_neg (by decide)]
        have hD3 : H3 p = some (.lst vacc) := I4.ext.keep p _ upd_same fun z => z.2 rfl
        refine ⟨F3, ρ3, acc, vacc, hD3, (dacc.mono g2).mono g3, ?_, (g'.trans g2).trans g3, q3⟩
        have I5 := I4.wipe (vs := vs)
        rw [ws3] at I5
        exact I5
      | true =>
        rw [if_pos rfl]
        have q3 : FinG rO B E σ Q F3 H3 (((f ρ3).nox.bind fun q => if decide (acc.length < sizeLine) = true then lcL vs t u f (acc ++ [q.1]) (ds.drop (i + 1)) (wipeR q.2 vs) else .bad).bind fun q => .ok (.lst q.1, q.2)) := q3
        rw [R.bind_assoc] at q3
        refine ⟨B.at p (.lst vacc), .at h0, monoG (tG_nox I4 q3) fun z H4 ⟨F4, ρ4, dz, I5, zd, g4, q4⟩ => ?_⟩
        have zd : Den B.K F4 H4 z dz := zd
        have hD4 : H4 p = some (.lst vacc) := I5.ext.keep p _ upd_same fun z => z.2 rfl
        have len : vacc.length = acc.length := dacc.length
        have q4 : FinG rO B E σ Q F4 H4 ((if decide (acc.length < sizeLine) = true then lcL vs t u f (acc ++ [dz]) (ds.drop (i + 1)) (wipeR ρ4 vs) else .bad).bind fun q => .ok (.lst q.1, q.2)) := q4
        by_cases hz : acc.length < sizeLine
        · rw [if_pos (decide_eq_true hz)] at q4
          have nz4 : ¬ F4 p := pre I5.fzs hD4
          have x := ext_put (o := .lst (vacc ++ [z])) hD4 (fun z => z) nz4
          refine ⟨vacc, hD4, by rw [len]; exact hz, F4, ρ4, acc ++ [dz], vacc ++ [z], upd_same, ((((dacc.mono g2).mono g3).mono g4).append (.cons zd .nil)).mono x.ge, ?_, ((g'.trans g2).trans g3).trans (g4.trans x.ge), FinG.ge x.ge q4⟩
          have lent : ∀ a, B.bd a → ∃ o, B.H0 a = some o := I.lent
          have I6 : Iv B F4 H4 σ3 ρ4 := I5.outBase h0 nz4 lent
          have ne := I5.atNe h0 lent
          have I7 : Iv B F4 (upd H4 p (.lst (vacc ++ [z]))) σ3 ρ4 := I6.step x (fzs_put I6.fzs nz4) (fun b hb => by rw [hb]; exact .inl h0) fun j b hb z => ne j b hb z
          have I8 : Iv (B.at p (.lst (vacc ++ [z]))) F4 (upd H4 p (.lst (vacc ++ [z]))) σ3 ρ4 := I7.toBase upd_same h0 ne (fun z => z) nz4
          have I9 := I8.wipe (vs := vs)
          rw [ws3] at I9
          exact I9
        · rw [if_neg (by rw [decide_eq_true_iff]; exact hz)] at q4
          exact q4.elim
    · rw [List.drop_length] at q'
      have nz : ¬ F' p := pre I'.fzs hD
      have lent : ∀ a, B.bd a → ∃ o, B.H0 a = some o := I.lent
      have I2 : Iv B F' H' σ (wipeR ρ0 vs) := (I'.outBase h0 nz lent).unwipe
      exact q' (.ref p) H' F' I2 .refl ⟨p, rfl, ⟨vacc, hD, dacc⟩, h0, fun j b hb => by
        have hb' : HeldAt (wipe σ vs) (wipeR ρ0 vs) j b := by
          obtain ⟨s, e, hh, hs⟩ := hb
          refine ⟨s, e, hh, ?_⟩
          by_cases q : j ∈ vs
          · rw [wipeR_in q e] at hh; cases hh
          · rw [wipe_out' q]; exact hs
        exact I'.atNe h0 lent j b hb'⟩
theorem do_lc (hc : X.calm = true) (hN : X.N.Nodup) (hi : PI X tg iter (tI B E s)) (ok : BlkOk X.N X.env.scope scope own) (hw : ∀ j ∈ ws, j ∈ own.map (·.2))
    (hg : ∀ (B' : Bs), BLe B B' → ∀ (s : Shared) (H : Hp) (C : Addr) (cl : List (Str × Addr)) (fp : List Addr), PG (X.blk s H scope (compEnvC scope cl C X.env) fp) tg (tG1 B' ws t))
    (ht : ∀ (B' : Bs), BLe B B' → ∀ (s : Shared) (H : Hp) (C : Addr) (cl : List (Str × Addr)) (fp : List Addr), PTs (X.blk s H scope (compEnvC scope cl C X.env) fp) ifs (tT B' E0 u))
    (he : ∀ (B' : Bs), BLe B B' → ∀ (s : Shared) (H : Hp) (C : Addr) (cl : List (Str × Addr)) (fp : List Addr), PE (X.blk s H scope (compEnvC scope cl C X.env) fp) elt (tE B' E0 f))
    (hs : ∀ x, foldedSetIterable iter X.env x = pure x) : PE X (.ListComp elt [⟨tg, iter, ifs, 0⟩] scope pos) (tO B E (evLc (own.map (·.2)) s t u f)) :=
  weakE (pe_lc hc hN hi ok (fun a b c d e => pg_anyB fun B' h => hg B' h a b c d e) (fun a b c d e => pts_anyB fun B' h => ht B' h a b c d e) (fun a b c d e => pe_anyB fun B' h => he B' h a b c d e) hs) fun σ H Q h => t_lc hw h
/-- x = [..] on one line -/
theorem ds_ownLc {i : Nat} {y : Str} {py spos : Pos} (hc : X.calm = true) (hN : X.N.Nodup) (hy : X.N[i]? = some y) (hyl : X.env.scope.names.lookup y = some .local) (hsw : swapsWith (.ListComp elt [⟨tg, iter, ifs, 0⟩] scope pos) (some (.Name y py)) spos.line X.env = pure true)
    (hi : PI X tg iter (tI B E s)) (ok : BlkOk X.N X.env.scope scope own) (hw : ∀ j ∈ ws, j ∈ own.map (·.2))
    (hg : ∀ (B' : Bs), BLe B B' → ∀ (s : Shared) (H : Hp) (C : Addr) (cl : List (Str × Addr)) (fp : List Addr), PG (X.blk s H scope (compEnvC scope cl C X.env) fp) tg (tG1 B' ws t))
    (ht : ∀ (B' : Bs), BLe B B' → ∀ (s : Shared) (H : Hp) (C : Addr) (cl : List (Str × Addr)) (fp : List Addr), PTs (X.blk s H scope (compEnvC scope cl C X.env) fp) ifs (tT B' E0 u))
    (he : ∀ (B' : Bs), BLe B B' → ∀ (s : Shared) (H : Hp) (C : Addr) (cl : List (Str × Addr)) (fp : List Addr), PE (X.blk s H scope (compEnvC scope cl C X.env) fp) elt (tE B' E0 f))
    (hs : ∀ x, foldedSetIterable iter X.env x = pure x) : PS X (.Assign [.Name y py] (.ListComp elt [⟨tg, iter, ifs, 0⟩] scope pos) spos) (tS B E (stOwn i (evLc (own.map (·.2)) s t u f))) :=
  weakS (ps_setLc hc hN hy hyl hsw hi ok (fun a b c d e => pg_anyB fun B' h => hg B' h a b c d e) (fun a b c d e => pts_anyB fun B' h => ht B' h a b c d e) (fun a b c d e => pe_anyB fun B' h => he B' h a b c d e) hs) fun Dn σ H ⟨Fz, ρ, I, q⟩ =>
    t_lc hw (monoG (tG_st I q) fun v H1 ⟨F1, ρ1, d, I1, ⟨a, ev, ow, h0, ap⟩, g1, q1⟩ => by
      obtain ⟨ρ2, e2, q2⟩ := fin_ofT q1
      subst ev
      exact q2 _ H1 F1 (I1.put e2 ⟨a, rfl, ow, h0⟩ fun _ j b hj hb z => ap j b hb (V.ref.inj z).symm) .refl)
end
end Dx

set_option Elab.async false
set_option linter.all false
set_option maxRecDepth 100000
set_option maxHeartbeats 1000000
namespace Dx
open PySem PySem.Spec PyProof.Rows L2
variable [Tbs]

/-! ### a def as a function on data -/
/-- how a parameter is taken: shared data; a container that is read; one that is changed -/
inductive Md where
  | sh | br | mt
deriving DecidableEq
structure Fd where
  md : List Md
  own : Bool
  sem : List D → R (D × List D)
def ArgOk (K : Frag) (Fz : Addr → Prop) (H : Hp) : Md → V → D → Prop
  | .sh, v, d => Den K Fz H v d
  | .br, v, d => ∃ a, v = .ref a ∧ Brw K Fz H a d
  | .mt, v, d => ∃ a, v = .ref a ∧ Own K Fz H a d
inductive ArgsOk (K : Frag) (Fz : Addr → Prop) (H : Hp) : List Md → List V → List D → Prop where
  | nil : ArgsOk K Fz H [] [] []
  | cons {m : Md} {v : V} {d : D} {ms : List Md} {vs : List V} {ds : List D} : ArgOk K Fz H m v d → ArgsOk K Fz H ms vs ds → ArgsOk K Fz H (m :: ms) (v :: vs) (d :: ds)
def exA (ms : List Md) (vs : List V) (a : Addr) : Prop := ∃ i : Nat, ms[i]? = some .mt ∧ vs[i]? = some (.ref a)
def ApA (ms : List Md) (vs : List V) : Prop := ∀ (i j : Nat) (a b : Addr), i ≠ j → ms[i]? = some .mt → vs[i]? = some (.ref a) → ms[j]? ≠ some .sh → vs[j]? = some (.ref b) → a ≠ b
/-- what the changed ones become -/
inductive OutsOk (K : Frag) (Fz : Addr → Prop) (H : Hp) : List Md → List V → List D → Prop where
  | nil : OutsOk K Fz H [] [] []
  | skip {m : Md} {v : V} {ms : List Md} {vs : List V} {ds : List D} : m ≠ .mt → OutsOk K Fz H ms vs ds → OutsOk K Fz H (m :: ms) (v :: vs) ds
  | out {a : Addr} {d : D} {ms : List Md} {vs : List V} {ds : List D} : Own K Fz H a d → OutsOk K Fz H ms vs ds → OutsOk K Fz H (.mt :: ms) (.ref a :: vs) (d :: ds)
def ResF (K : Frag) (H : Hp) (own : Bool) (Fz' : Addr → Prop) (H' : Hp) (v : V) (z : D) : Prop := match own with
  | true => ∃ a, v = .ref a ∧ Own K Fz' H' a z ∧ H a = none
  | false => Den K Fz' H' v z
def FinF (K : Frag) (own : Bool) (ms : List Md) (vs : List V) (Q : VK) (E : XK) (Fz : Addr → Prop) (H : Hp) : R (D × List D) → Prop
  | .ok p => ∀ v H' Fz', Ext (exA ms vs) Fz H Fz' H' → FzOk Fz' H' → OutsOk K Fz' H' ms vs p.2 → ResF K H own Fz' H' v p.1 → Q v H'
  | .exc c d => ∀ dx v H' Fz', Ext (exA ms vs) Fz H Fz' H' → FzOk Fz' H' → H' dx = some (.xd [("value", v)]) → Den K Fz' H' v d → E (.ref (He.ga K c)) (some dx) H'
  | .bad => False
def spF (K : Frag) (gs : Hp → Prop) (F : Fd) : Sp := fun vs H Q E => gs H ∧ ∃ Fz ds, FzOk Fz H ∧ ArgsOk K Fz H F.md vs ds ∧ ApA F.md vs ∧ FinF K F.own F.md vs Q E Fz H (F.sem ds)
theorem ArgsOk.len {K : Frag} {Fz : Addr → Prop} {H : Hp} {ms : List Md} {vs : List V} {ds : List D} (h : ArgsOk K Fz H ms vs ds) : vs.length = ms.length ∧ ds.length = ms.length := by
  induction h with
  | nil => exact ⟨rfl, rfl⟩
  | cons _ _ ih => exact ⟨congrArg Nat.succ ih.1, congrArg Nat.succ ih.2⟩
theorem ArgsOk.get {K : Frag} {Fz : Addr → Prop} {H : Hp} {ms : List Md} {vs : List V} {ds : List D} (h : ArgsOk K Fz H ms vs ds) {i : Nat} {m : Md} (e : ms[i]? = some m) : ∃ v d, vs[i]? = some v ∧ ds[i]? = some d ∧ ArgOk K Fz H m v d := by
  induction h generalizing i with
  | nil => simp at e
  | cons a _ ih =>
    cases i with
    | zero => simp at e; subst e; exact ⟨_, _, rfl, rfl, a⟩
    | succ i => obtain ⟨v, d, e1, e2, e3⟩ := ih (i := i) (by simpa using e); exact ⟨v, d, by simpa using e1, by simpa using e2, e3⟩

/-! the slots at the start, and what the changed ones are at the end -/
def mdS : Md → D → Sl
  | .sh, d => .sh d
  | .br, d => .br d
  | .mt, d => .mt d
def iniS (ms : List Md) (ds : List D) (n : Nat) : List Sl := (ms.zipWith mdS ds) ++ List.replicate (n - ms.length) .un
def outsR : List Md → Nat → List Sl → Option (List D)
  | [], _, _ => some []
  | .mt :: ms, i, ρ => (match ρ[i]? with
    | some (.mt d) => (outsR ms (i + 1) ρ).map fun l => d :: l
    | _ => none)
  | _ :: ms, i, ρ => outsR ms (i + 1) ρ
def semOf (n : Nat) (ms : List Md) (own : Bool) (g : List Sl → RS) (ds : List D) : R (D × List D) := if ds.length = ms.length then (match g (iniS ms ds n) with
  | .nx ρ => if own then .bad else (ofO (outsR ms 0 ρ)).bind fun o => .ok (.non, o)
  | .rt o z ρ => if o = own then (ofO (outsR ms 0 ρ)).bind fun l => .ok (z, l) else .bad
  | .exc c d => .exc c d
  | _ => .bad) else .bad
section
variable {K : Frag} {Fz : Addr → Prop} {H : Hp} {ms : List Md} {vs : List V} {ds : List D} {N : List Str}
def baseF (K : Frag) (ms : List Md) (vs : List V) (Fz : Addr → Prop) (H : Hp) : Bs :=
  { K := K, ex := exA ms vs, Fz0 := Fz, H0 := H, mts := fun i a => ms[i]? = some .mt ∧ vs[i]? = some (.ref a), bd := fun a => ∃ i : Nat, ms[i]? = some .br ∧ vs[i]? = some (.ref a) }
theorem ini_get (hl : ds.length = ms.length) {n i : Nat} {s : Sl} (e : (iniS ms ds n)[i]? = some s) : s = .un ∨ ∃ m d, ms[i]? = some m ∧ ds[i]? = some d ∧ s = mdS m d := by
  unfold iniS at e
  by_cases h : i < (ms.zipWith mdS ds).length
  · rw [List.getElem?_append_left h] at e
    rw [List.getElem?_zipWith] at e
    rw [List.length_zipWith] at h
    have h1 : i < ms.length := by omega
    have h2 : i < ds.length := by omega
    rw [List.getElem?_eq_getElem h1, List.getElem?_eq_getElem h2] at e
    cases e
    exact .inr ⟨_, _, List.getElem?_eq_getElem h1, List.getElem?_eq_getElem h2, rfl⟩
  · rw [List.getElem?_append_right (by omega)] at e
    rw [List.getElem?_replicate] at e
    split at e
    · cases e; exact .inl rfl
    · cases e
theorem start_get {i : Nat} {v : V} (h : vs[i]? = some v) : (L2.start N vs)[i]? = some (some v) := by
  unfold L2.start
  have hi := (List.getElem?_eq_some_iff.mp h).1
  rw [List.getElem?_append_left (by rw [List.length_map]; exact hi), List.getElem?_map, h]
  rfl
theorem ini_iv (f : FzOk Fz H) (a : ArgsOk K Fz H ms vs ds) (ap : ApA ms vs) (hn : ms.length ≤ N.length) : Iv (baseF K ms vs Fz H) Fz H (L2.start N vs) (iniS ms ds N.length) where
  len := by
    unfold iniS L2.start
    rw [List.length_append, List.length_append, List.length_zipWith, List.length_replicate, List.length_map, List.length_replicate]
    have := a.len
    omega
  ext := .refl
  fzs := f
  ok := fun i s e => by
    rcases ini_get a.len.2 e with rfl | ⟨m, d, e1, e2, rfl⟩
    · trivial
    · obtain ⟨v, d', e3, e4, ok⟩ := a.get e1
      rw [e2] at e4; cases e4
      rw [show (L2.start N vs)[i]?.join = some v from join_some.mpr (start_get e3)]
      cases m with
      | sh => exact ⟨v, rfl, ok⟩
      | br => obtain ⟨x, rfl, b⟩ := ok; exact ⟨x, rfl, b, i, e1, e3⟩
      | mt => obtain ⟨x, rfl, b⟩ := ok; exact ⟨x, rfl, b, ⟨i, e1, e3⟩, e1, e3⟩
  apart := fun i j x y n ⟨s, e, o, q⟩ ⟨t, e', o', q'⟩ => by
    rcases ini_get a.len.2 e with rfl | ⟨m, d, e1, e2, rfl⟩
    · cases o
    · rcases ini_get a.len.2 e' with rfl | ⟨m', d', e1', e2', rfl⟩
      · cases o'
      · obtain ⟨v, _, e3, _, _⟩ := a.get e1
        obtain ⟨v', _, e3', _, _⟩ := a.get e1'
        rw [start_get e3] at q; cases q
        rw [start_get e3'] at q'; cases q'
        cases m with
        | sh => cases o
        | br => cases o
        | mt =>
          refine ap i j x y n e1 e3 ?_ e3'
          rw [e1']
          cases m' with
          | sh => cases o'
          | br => exact fun z => by cases z
          | mt => exact fun z => by cases z
  lent := fun x ⟨i, e1, e2⟩ => by
    obtain ⟨v, d, e3, _, b⟩ := a.get e1
    rw [e2] at e3; cases e3
    obtain ⟨y, ey, bw⟩ := b
    cases ey
    exact bw.there
theorem outs_of {B : Bs} {Fz' : Addr → Prop} {H' : Hp} {σ : L2.St} {ρ : List Sl} (I : Iv B Fz' H' σ ρ) : ∀ {ms : List Md} {vs : List V} {k : Nat} {l : List D}, ms.length = vs.length → (∀ i a, B.mts i a → k ≤ i → vs[i - k]? = some (.ref a)) → outsR ms k ρ = some l → OutsOk B.K Fz' H' ms vs l
  | [], [], _, _, _, _, e => by cases e; exact .nil
  | m :: ms, v :: vs, k, l, hl, hm, e => by
    have rest : ∀ {l : List D}, outsR ms (k + 1) ρ = some l → OutsOk B.K Fz' H' ms vs l := fun {l} e => outs_of I (by simpa using hl) (fun i a h hk => by
      have := hm i a h (by omega)
      rw [show i - k = (i - (k + 1)) + 1 by omega] at this
      simpa using this) e
    cases m with
    | sh => exact .skip (by decide) (rest e)
    | br => exact .skip (by decide) (rest e)
    | mt =>
      unfold outsR at e
      cases es : ρ[k]? with
      | none => rw [es] at e; cases e
      | some s =>
        rw [es] at e
        cases s with
        | mt d =>
          obtain ⟨l', el, e⟩ := map_some (show (outsR ms (k + 1) ρ).map (fun l => d :: l) = some l from e)
          subst e
          obtain ⟨a, e1, ow, _, h2⟩ := I.ok k _ es
          have := hm k a h2 (Nat.le_refl _)
          rw [Nat.sub_self] at this
          cases this
          exact .out ow (rest el)
        | _ => cases e
/-- THE RULE of a body -/
theorem fin_body {F : Fd} {g : List Sl → RS} {Q : VK} {E : XK} (hs : F.sem = semOf N.length F.md F.own g) (hn : F.md.length ≤ N.length) (f : FzOk Fz H) (a : ArgsOk K Fz H F.md vs ds) (ap : ApA F.md vs) (q : FinF K F.own F.md vs Q E Fz H (F.sem ds)) :
    tS (baseF K F.md vs Fz H) E g { nx := fun _ H' => Q .non H', rt := Q } (L2.start N vs) H := by
  have I := ini_iv f a ap hn
  refine ⟨Fz, _, I, ?_⟩
  rw [hs] at q
  unfold semOf at q
  rw [if_pos a.len.2] at q
  have outs : ∀ {Fz' : Addr → Prop} {H' : Hp} {σ' : L2.St} {ρ : List Sl} {l : List D}, Iv (baseF K F.md vs Fz H) Fz' H' σ' ρ → outsR F.md 0 ρ = some l → OutsOk K Fz' H' F.md vs l := fun I' e =>
    outs_of I' a.len.1.symm (fun i x h _ => h.2) e
  have take : ∀ {o : Option (List D)} {z : D}, FinF K F.own F.md vs Q E Fz H ((ofO o).bind fun l => .ok (z, l)) → ∃ l, o = some l ∧ FinF K F.own F.md vs Q E Fz H (.ok (z, l)) := fun {o z} h => by
    cases o with
    | none => exact h.elim
    | some l => exact ⟨l, rfl, h⟩
  cases e : g (iniS F.md ds N.length) with
  | nx ρ =>
    rw [e] at q
    intro σ' H' Fz' I' _
    cases ho : F.own with
    | true => rw [ho] at q; exact q.elim
    | false =>
      rw [ho] at q
      have q : FinF K F.own F.md vs Q E Fz H ((ofO (outsR F.md 0 ρ)).bind fun l => .ok (.non, l)) := by rw [ho]; exact q
      obtain ⟨l, el, q⟩ := take q
      refine q .non H' Fz' I'.ext I'.fzs (outs I' el) ?_
      rw [ho]
      exact .non
  | rt o z ρ =>
    rw [e] at q
    intro v σ' H' Fz' I' _ r
    have q : FinF K F.own F.md vs Q E Fz H (if o = F.own then (ofO (outsR F.md 0 ρ)).bind fun l => R.ok (z, l) else R.bad) := q
    by_cases c : o = F.own
    · rw [if_pos c] at q
      obtain ⟨l, el, q⟩ := take q
      refine q v H' Fz' I'.ext I'.fzs (outs I' el) ?_
      rw [← c]
      cases o with
      | true => exact r
      | false => exact r
    · rw [if_neg c] at q; exact q.elim
  | exc c d => rw [e] at q; exact q
  | bk ρ => rw [e] at q; exact q.elim
  | ct ρ => rw [e] at q; exact q.elim
  | bad => rw [e] at q; exact q.elim
end
end Dx

set_option Elab.async false
set_option linter.all false
set_option maxRecDepth 100000
set_option maxHeartbeats 1000000
namespace Dx
open PySem PySem.Spec PyProof.Rows L2
variable [Tbs]

/-! ### arguments: data, or a slot's container -/
inductive Ar where
  | d (x : D) | s (i : Nat)
def ArOk (B : Bs) (Fz : Addr → Prop) (H : Hp) (σ : L2.St) (v : V) : Ar → Prop
  | .d x => Den B.K Fz H v x
  | .s i => σ[i]? = some (some v)
inductive ArsL (B : Bs) (Fz : Addr → Prop) (H : Hp) (σ : L2.St) : List V → List Ar → Prop where
  | nil : ArsL B Fz H σ [] []
  | cons {v : V} {a : Ar} {vs : List V} {as : List Ar} : ArOk B Fz H σ v a → ArsL B Fz H σ vs as → ArsL B Fz H σ (v :: vs) (a :: as)
abbrev rAs : Rel (List Ar) (List V) := fun B Fz H σ _ v a => ArsL B Fz H σ v a
theorem ArOk.mono {B : Bs} {Fz Fz' : Addr → Prop} {H H' : Hp} {σ : L2.St} {v : V} {a : Ar} (g : Ge Fz H Fz' H') (h : ArOk B Fz H σ v a) : ArOk B Fz' H' σ v a := by
  cases a with
  | d x => exact Den.mono g h
  | s i => exact h
theorem ArsL.mono {B : Bs} {Fz Fz' : Addr → Prop} {H H' : Hp} {σ : L2.St} {v : List V} {a : List Ar} (g : Ge Fz H Fz' H') (h : ArsL B Fz H σ v a) : ArsL B Fz' H' σ v a := by
  induction h with
  | nil => exact .nil
  | cons x _ ih => exact .cons (x.mono g) ih
def asNil (ρ : List Sl) : R (List Ar × List Sl) := .ok ([], ρ)
def asD (f : List Sl → R (D × List Sl)) (g : List Sl → R (List Ar × List Sl)) (ρ : List Sl) : R (List Ar × List Sl) := (f ρ).bind fun p => (g p.2).bind fun q => .ok (.d p.1 :: q.1, q.2)
def heldB (ρ : List Sl) (i : Nat) : Bool := match ρ[i]? with
  | some s => s.held
  | none => false
def asS (i : Nat) (g : List Sl → R (List Ar × List Sl)) (ρ : List Sl) : R (List Ar × List Sl) := if heldB ρ i then (g ρ).bind fun q => .ok (.s i :: q.1, q.2) else .bad
section
variable {X : Cx} {B : Bs} {E : XK} {e : Expr} {es : List Expr} {f : List Sl → R (D × List Sl)} {g : List Sl → R (List Ar × List Sl)} {i : Nat} {x : Str} {np : Pos}
theorem held_of {Fz : Addr → Prop} {H : Hp} {σ : L2.St} {ρ : List Sl} (I : Iv B Fz H σ ρ) (h : heldB ρ i = true) : ∃ a, σ[i]? = some (some (.ref a)) ∧ HeldAt σ ρ i a := by
  unfold heldB at h
  cases e : ρ[i]? with
  | none => rw [e] at h; cases h
  | some s =>
    rw [e] at h
    have z := I.ok i s e
    have fin : ∀ a, σ[i]?.join = some (.ref a) → ∃ a, σ[i]? = some (some (.ref a)) ∧ HeldAt σ ρ i a := fun a q => ⟨a, join_some.mp q, s, e, h, join_some.mp q⟩
    cases s with
    | ow d => obtain ⟨a, e1, _⟩ := z; exact fin a e1
    | mt d => obtain ⟨a, e1, _⟩ := z; exact fin a e1
    | br d => obtain ⟨a, e1, _⟩ := z; exact fin a e1
    | _ => cases h
theorem das_nil : PA X [] (tG rAs B E asNil) := weakA pa_nil fun σ H Q ⟨Fz, ρ, I, q⟩ => q [] H Fz I .refl .nil
theorem das_d (hs : nsE e = true) (ha : PE X e (tE B E f)) (hr : PA X es (tG rAs B E g)) : PA X (e :: es) (tG rAs B E (asD f g)) :=
  weakA (pa_cons ha hr (star_cons hs)) fun σ H Q ⟨Fz, ρ, I, q⟩ =>
    monoG (tG_bind I q) fun x H1 ⟨F1, ρ1, dx, I1, d1, g1, e1, q1⟩ => monoG (tG_bind I1 q1) fun y H2 ⟨F2, ρ2, dy, I2, d2, g2, e2, q2⟩ =>
      q2 (x :: y) H2 F2 I2 .refl (.cons (d1.mono g2) d2)
theorem das_s (hN : X.N[i]? = some x) (hv : Vis X.env.scope x) (hd : (x == ("__debug__" : Str)) = false) (hcd : (x == ("__classdict__" : Str)) = false) (hr : PA X es (tG rAs B E g)) : PA X (.Name x np :: es) (tG rAs B E (asS i g)) :=
  weakA (pa_cons (pe_var hN hv hd hcd) hr (star_cons rfl)) fun σ H Q ⟨Fz, ρ, I, q⟩ => by
    obtain ⟨hh, q⟩ := fin_if q
    obtain ⟨a, hs, _⟩ := held_of I hh
    exact ⟨.ref a, hs, monoG (tG_bind I q) fun y H2 ⟨F2, ρ2, dy, I2, d2, g2, e2, q2⟩ => q2 (.ref a :: y) H2 F2 I2 .refl (.cons hs d2)⟩
end
/-! the arguments' data; the changed slots -/
def brD (ρ : List Sl) (i : Nat) : Option D := match ρ[i]? with
  | some (.br d) => some d
  | _ => (ownD ρ i).bind fun d => if frzD d then some d else none
def mkArg (m : Md) (a : Ar) (ρ : List Sl) : Option D := match m, a with
  | .sh, .d x => some x
  | .br, .d x => if frzD x then some x else none
  | .br, .s i => brD ρ i
  | .mt, .s i => ownD ρ i
  | _, _ => none
def mkArgs : List Md → List Ar → List Sl → Option (List D)
  | [], [], _ => some []
  | m :: ms, a :: as, ρ => (mkArg m a ρ).bind fun d => (mkArgs ms as ρ).map fun l => d :: l
  | _, _, _ => none
def putOuts : List Md → List Ar → List D → List Sl → List Sl
  | .mt :: ms, .s i :: as, d :: ds, ρ => putOuts ms as ds (putO ρ i d)
  | .mt :: ms, _ :: as, _ :: ds, ρ => putOuts ms as ds ρ
  | _ :: ms, _ :: as, ds, ρ => putOuts ms as ds ρ
  | _, _, _, ρ => ρ
def arIx : List Ar → List Nat
  | [] => []
  | .s i :: as => i :: arIx as
  | _ :: as => arIx as
def evCall (F : Fd) (g : List Sl → R (List Ar × List Sl)) (ρ : List Sl) : R (D × List Sl) := (g ρ).bind fun p => if decide (arIx p.1).Nodup = true then (ofO (mkArgs F.md p.1 p.2)).bind fun ds => (F.sem ds).bind fun q => .ok (q.1, putOuts F.md p.1 q.2 p.2) else .bad
section
variable {B : Bs} {Fz : Addr → Prop} {H : Hp} {σ : L2.St} {ρ : List Sl} {ms : List Md} {vs : List V} {as : List Ar} {ds : List D}
theorem frz_brw {K : Frag} {v : V} {d : D} (h : Den K Fz H v d) (f : frzD d = true) : ∃ a, v = .ref a ∧ Brw K Fz H a d := by
  cases d with
  | lst l => exact Den.brw (a := 0) h (.inl ⟨l, rfl⟩)
  | dic l => exact Den.brw (a := 0) h (.inr ⟨l, rfl⟩)
  | _ => cases f
theorem arg_ok (I : Iv B Fz H σ ρ) {m : Md} {v : V} {a : Ar} {d : D} (ha : ArOk B Fz H σ v a) (e : mkArg m a ρ = some d) : ArgOk B.K Fz H m v d := by
  cases m with
  | sh => cases a with
    | d x => cases e; exact ha
    | s i => cases e
  | br => cases a with
    | d x => obtain ⟨c, e⟩ := if_some e; subst e; exact frz_brw ha c
    | s i =>
      have hs : σ[i]? = some (some v) := ha
      have e' : brD ρ i = some d := e
      unfold brD at e'
      have own : ∀ {o : Option D}, o = ownD ρ i → (o.bind fun d => if frzD d = true then some d else none) = some d → ArgOk B.K Fz H .br v d := fun {o} eo h => by
        obtain ⟨d', ed, h⟩ := bind_some h
        obtain ⟨c, h⟩ := if_some h
        subst h
        obtain ⟨x, hx, ow⟩ := ownD_of I (eo ▸ ed)
        rw [hs] at hx; cases hx
        exact ⟨x, rfl, ow.brw (frz_ins c)⟩
      split at e'
      · rename_i d' eρ
        cases e'
        obtain ⟨x, hx, bw, _⟩ := I.ok i _ eρ
        have hx := join_some.mp hx
        rw [hs] at hx; cases hx
        exact ⟨x, rfl, bw⟩
      · exact own rfl e'
  | mt => cases a with
    | d x => cases e
    | s i =>
      obtain ⟨x, hx, ow⟩ := ownD_of I (show ownD ρ i = some d from e)
      have hs : σ[i]? = some (some v) := ha
      rw [hs] at hx; cases hx
      exact ⟨x, rfl, ow⟩
theorem args_ok (I : Iv B Fz H σ ρ) : ∀ {ms : List Md} {vs : List V} {as : List Ar} {ds : List D}, ArsL B Fz H σ vs as → mkArgs ms as ρ = some ds → ArgsOk B.K Fz H ms vs ds
  | [], _, _, _, .nil, e => by cases e; exact .nil
  | [], _, _, _, .cons _ _, e => by cases e
  | _ :: _, _, _, _, .nil, e => by cases e
  | m :: ms, _, _, _, .cons (a := a) (as := as) h r, e => by
    obtain ⟨d, ed, e⟩ := bind_some (show (mkArg m a ρ).bind (fun d => (mkArgs ms as ρ).map fun l => d :: l) = some _ from e)
    obtain ⟨l, el, e⟩ := map_some e
    subst e
    exact .cons (arg_ok I h ed) (args_ok I r el)
/-- where a slot is handed on -/
theorem ars_get : ∀ {vs : List V} {as : List Ar} {k : Nat} {v : V}, ArsL B Fz H σ vs as → vs[k]? = some v → ∃ a, as[k]? = some a ∧ ArOk B Fz H σ v a
  | _, _, _, _, .nil, e => by simp at e
  | _, _, 0, _, .cons h _, e => by simp at e; subst e; exact ⟨_, rfl, h⟩
  | _, _, k + 1, v, .cons _ r, e => by
    obtain ⟨a, e1, e2⟩ := ars_get (k := k) (v := v) r (by simpa using e)
    exact ⟨a, by simpa using e1, e2⟩
theorem mk_get : ∀ {ms : List Md} {as : List Ar} {ds : List D} {k : Nat} {m : Md} {a : Ar}, mkArgs ms as ρ = some ds → ms[k]? = some m → as[k]? = some a → ∃ d, mkArg m a ρ = some d
  | [], _, _, _, _, _, _, h, _ => by simp at h
  | _ :: _, [], _, _, _, _, e, _, _ => by cases e
  | m :: ms, a :: as, ds, k, m', a', e, h1, h2 => by
    obtain ⟨d, ed, e⟩ := bind_some (show (mkArg m a ρ).bind (fun d => (mkArgs ms as ρ).map fun l => d :: l) = some ds from e)
    obtain ⟨l, el, _⟩ := map_some e
    cases k with
    | zero => simp at h1 h2; subst h1 h2; exact ⟨d, ed⟩
    | succ k => exact mk_get (k := k) el (by simpa using h1) (by simpa using h2)
theorem arIx_mem : ∀ {as : List Ar} {k i : Nat}, as[k]? = some (.s i) → i ∈ arIx as
  | [], _, _, h => by simp at h
  | .s j :: as, 0, i, h => by simp at h; subst h; exact List.mem_cons_self
  | .s j :: as, k + 1, i, h => List.mem_cons_of_mem _ (arIx_mem (k := k) (by simpa using h))
  | .d x :: as, 0, i, h => by simp at h
  | .d x :: as, k + 1, i, h => arIx_mem (as := as) (k := k) (by simpa using h)
theorem arIx_inj : ∀ {as : List Ar} {k l i : Nat}, (arIx as).Nodup → as[k]? = some (.s i) → as[l]? = some (.s i) → k = l
  | [], _, _, _, _, h, _ => by simp at h
  | a :: as, 0, 0, _, _, _, _ => rfl
  | a :: as, 0, l + 1, i, n, h1, h2 => by
    simp at h1; subst h1
    have m := arIx_mem (as := as) (k := l) (by simpa using h2)
    exact absurd m (List.nodup_cons.mp n).1
  | a :: as, k + 1, 0, i, n, h1, h2 => by
    simp at h2; subst h2
    have m := arIx_mem (as := as) (k := k) (by simpa using h1)
    exact absurd m (List.nodup_cons.mp n).1
  | a :: as, k + 1, l + 1, i, n, h1, h2 => by
    have n' : (arIx as).Nodup := by
      cases a with
      | d x => exact n
      | s j => exact (List.nodup_cons.mp n).2
    exact congrArg Nat.succ (arIx_inj (k := k) (l := l) n' (by simpa using h1) (by simpa using h2))
/-- what is owned and handed on as changed -/
theorem mt_slot (I : Iv B Fz H σ ρ) (ha : ArsL B Fz H σ vs as) (hm : mkArgs ms as ρ = some ds) {k : Nat} {a : Addr} (h1 : ms[k]? = some .mt) (h2 : vs[k]? = some (.ref a)) : ∃ i, as[k]? = some (.s i) ∧ OwnAt σ ρ i a := by
  obtain ⟨ar, e1, ok⟩ := ars_get ha h2
  obtain ⟨d, ed⟩ := mk_get hm h1 e1
  cases ar with
  | d x => cases ed
  | s i =>
    refine ⟨i, e1, ?_⟩
    have ed : ownD ρ i = some d := ed
    unfold ownD at ed
    cases es : ρ[i]? with
    | none => rw [es] at ed; cases ed
    | some s =>
      rw [es] at ed
      cases s with
      | ow d' => exact ⟨_, es, rfl, ok⟩
      | mt d' => exact ⟨_, es, rfl, ok⟩
      | _ => cases ed
theorem br_slot (I : Iv B Fz H σ ρ) (ha : ArsL B Fz H σ vs as) (hm : mkArgs ms as ρ = some ds) {k : Nat} {a : Addr} (h1 : ms[k]? = some .br) (h2 : vs[k]? = some (.ref a)) : (∃ i, as[k]? = some (.s i) ∧ HeldAt σ ρ i a) ∨ ∃ d, frzD d = true ∧ Den B.K Fz H (.ref a) d := by
  obtain ⟨ar, e1, ok⟩ := ars_get ha h2
  obtain ⟨d, ed⟩ := mk_get hm h1 e1
  cases ar with
  | d x => obtain ⟨c, _⟩ := if_some (show (if frzD x = true then some x else none) = some d from ed); exact .inr ⟨x, c, ok⟩
  | s i =>
    refine .inl ⟨i, e1, ?_⟩
    have ed : brD ρ i = some d := ed
    unfold brD at ed
    split at ed
    · rename_i d' es
      exact ⟨_, es, rfl, ok⟩
    · obtain ⟨d', e2, _⟩ := bind_some ed
      unfold ownD at e2
      cases es : ρ[i]? with
      | none => rw [es] at e2; cases e2
      | some s =>
        rw [es] at e2
        cases s with
        | ow d' => exact ⟨_, es, rfl, ok⟩
        | mt d' => exact ⟨_, es, rfl, ok⟩
        | _ => cases e2
theorem ap_ok (I : Iv B Fz H σ ρ) (ha : ArsL B Fz H σ vs as) (hm : mkArgs ms as ρ = some ds) (nd : (arIx as).Nodup) : ApA ms vs := fun k l a b n h1 h2 h3 h4 => by
  obtain ⟨i, e1, o1⟩ := mt_slot I ha hm h1 h2
  have hl : l < ms.length := by
    have := (args_ok I ha hm).len.1
    have := (List.getElem?_eq_some_iff.mp h4).1
    omega
  have held : ∀ j, as[l]? = some (.s j) → HeldAt σ ρ j b → a ≠ b := fun j e2 o2 => I.apart i j a b (fun z => n (arIx_inj nd e1 (z ▸ e2))) o1 o2
  cases em : ms[l]? with
  | none => rw [List.getElem?_eq_none_iff] at em; omega
  | some m =>
    cases m with
    | sh => exact (h3 em).elim
    | mt => obtain ⟨j, e2, o2⟩ := mt_slot I ha hm em h4; exact held j e2 o2.held
    | br =>
      rcases br_slot I ha hm em h4 with ⟨j, e2, o2⟩ | ⟨d, fd, dn⟩
      · exact held j e2 o2
      · intro z
        obtain ⟨s, es, os, qs⟩ := o1
        have zz := I.ok i s es
        rw [join_some.mpr qs] at zz
        have contra : ∀ {d' : D}, Own B.K Fz H a d' → False := fun {d'} ow => by
          obtain ⟨u, hu, ni, mu⟩ := ow.there
          subst z
          cases dn with
          | lst q _ => obtain ⟨o, q⟩ := q; rw [hu] at q; cases q; exact ni trivial
          | dic q _ => rw [hu] at q; cases q; exact ni trivial
          | _ => cases fd
        cases s with
        | ow d' => obtain ⟨x, ex, ow, _⟩ := zz; cases ex; exact contra ow
        | mt d' => obtain ⟨x, ex, ow, _⟩ := zz; cases ex; exact contra ow
        | _ => cases os
def Sl.wD (s : Sl) (d : D) : Sl := match s with
  | .ow _ => .ow d
  | .mt _ => .mt d
  | s => s
theorem putO_get {i j : Nat} {d : D} {s' : Sl} (h : (putO ρ i d)[j]? = some s') : (j ≠ i ∧ ρ[j]? = some s') ∨ (j = i ∧ ∃ s, ρ[j]? = some s ∧ s' = s.wD d) := by
  unfold putO at h
  by_cases q : j = i
  · subst q
    refine .inr ⟨rfl, ?_⟩
    cases es : ρ[j]? with
    | none => rw [es] at h; simp at h; rw [es] at h; cases h
    | some s =>
      rw [es] at h
      have hl := (List.getElem?_eq_some_iff.mp es).1
      cases s with
      | ow d' => have h : (ρ.set j (.ow d))[j]? = some s' := h; rw [List.getElem?_set_self hl] at h; cases h; exact ⟨_, rfl, rfl⟩
      | mt d' => have h : (ρ.set j (.mt d))[j]? = some s' := h; rw [List.getElem?_set_self hl] at h; cases h; exact ⟨_, rfl, rfl⟩
      | un => have h : ρ[j]? = some s' := h; rw [es] at h; cases h; exact ⟨_, rfl, rfl⟩
      | sh d' => have h : ρ[j]? = some s' := h; rw [es] at h; cases h; exact ⟨_, rfl, rfl⟩
      | br d' => have h : ρ[j]? = some s' := h; rw [es] at h; cases h; exact ⟨_, rfl, rfl⟩
  · refine .inl ⟨q, ?_⟩
    cases es : ρ[i]? with
    | none => rw [es] at h; exact h
    | some s =>
      rw [es] at h
      cases s with
      | ow d' => rw [← List.getElem?_set_ne (Ne.symm q)]; exact h
      | mt d' => rw [← List.getElem?_set_ne (Ne.symm q)]; exact h
      | un => exact h
      | sh d' => exact h
      | br d' => exact h
theorem putO_length {i : Nat} {d : D} : (putO ρ i d).length = ρ.length := by
  unfold putO
  split <;> first | exact List.length_set | rfl
theorem putOuts_length : ∀ {ms : List Md} {as : List Ar} {ds : List D} {ρ : List Sl}, (putOuts ms as ds ρ).length = ρ.length
  | [], _, _, _ => by unfold putOuts; rfl
  | m :: ms, [], ds, ρ => by cases m <;> cases ds <;> rfl
  | .mt :: ms, .s i :: as, d :: ds, ρ => by rw [show putOuts (.mt :: ms) (.s i :: as) (d :: ds) ρ = putOuts ms as ds (putO ρ i d) from rfl, putOuts_length, putO_length]
  | .mt :: ms, .s i :: as, [], ρ => by rw [show putOuts (.mt :: ms) (.s i :: as) [] ρ = putOuts ms as [] ρ from rfl, putOuts_length]
  | .mt :: ms, .d x :: as, [], ρ => by rw [show putOuts (.mt :: ms) (.d x :: as) [] ρ = putOuts ms as [] ρ from rfl, putOuts_length]
  | .mt :: ms, .d x :: as, d :: ds, ρ => by rw [show putOuts (.mt :: ms) (.d x :: as) (d :: ds) ρ = putOuts ms as ds ρ from rfl, putOuts_length]
  | .sh :: ms, a :: as, ds, ρ => by rw [show putOuts (.sh :: ms) (a :: as) ds ρ = putOuts ms as ds ρ by cases a <;> cases ds <;> rfl, putOuts_length]
  | .br :: ms, a :: as, ds, ρ => by rw [show putOuts (.br :: ms) (a :: as) ds ρ = putOuts ms as ds ρ by cases a <;> cases ds <;> rfl, putOuts_length]
end
end Dx

set_option Elab.async false
set_option linter.all false
set_option maxRecDepth 100000
set_option maxHeartbeats 1000000
namespace Dx
open PySem PySem.Spec PyProof.Rows L2
variable [Tbs]
section
variable {B : Bs} {Fz Fz' : Addr → Prop} {H H' : Hp} {σ : L2.St} {ρ : List Sl} {ms : List Md} {vs : List V} {as : List Ar} {ds outs : List D}
theorem putOuts_get {K : Frag} (o : OutsOk K Fz' H' ms vs outs) : ∀ {as : List Ar} {ρ : List Sl} {j : Nat} {s' : Sl}, as.length = ms.length → (arIx as).Nodup → (putOuts ms as outs ρ)[j]? = some s' →
    (ρ[j]? = some s' ∧ ∀ k : Nat, ms[k]? = some .mt → as[k]? = some (.s j) → False) ∨
      ∃ (k : Nat) (d : D) (s : Sl) (a : Addr), ms[k]? = some .mt ∧ as[k]? = some (.s j) ∧ ρ[j]? = some s ∧ s' = s.wD d ∧ vs[k]? = some (.ref a) ∧ Own K Fz' H' a d := by
  induction o with
  | nil => intro as ρ j s' hl nd h; exact .inl ⟨by unfold putOuts at h; exact h, fun k z => by simp at z⟩
  | @skip m v ms vs ds hm _ ih =>
    intro as ρ j s' hl nd h
    cases as with
    | nil => cases hl
    | cons a as =>
      have e : putOuts (m :: ms) (a :: as) ds ρ = putOuts ms as ds ρ := by
        cases m with
        | mt => exact (hm rfl).elim
        | sh => cases a <;> cases ds <;> rfl
        | br => cases a <;> cases ds <;> rfl
      rw [e] at h
      have nd' : (arIx as).Nodup := by
        cases a with
        | d x => exact nd
        | s i => exact (List.nodup_cons.mp nd).2
      rcases ih (as := as) (by simpa using hl) nd' h with ⟨h1, h2⟩ | ⟨k, d, s, a', h1, h2, h3, h4, h5, h6⟩
      · refine .inl ⟨h1, fun k z1 z2 => ?_⟩
        cases k with
        | zero => simp at z1; exact hm z1
        | succ k => exact h2 k (by simpa using z1) (by simpa using z2)
      · exact .inr ⟨k + 1, d, s, a', by simpa using h1, by simpa using h2, h3, h4, by simpa using h5, h6⟩
  | @out a0 d0 ms vs ds ow _ ih =>
    intro as ρ j s' hl nd h
    cases as with
    | nil => cases hl
    | cons a as =>
      cases a with
      | d x =>
        have e : putOuts (.mt :: ms) (.d x :: as) (d0 :: ds) ρ = putOuts ms as ds ρ := rfl
        rw [e] at h
        rcases ih (as := as) (by simpa using hl) nd h with ⟨h1, h2⟩ | ⟨k, d, s, a', h1, h2, h3, h4, h5, h6⟩
        · refine .inl ⟨h1, fun k z1 z2 => ?_⟩
          cases k with
          | zero => simp at z2
          | succ k => exact h2 k (by simpa using z1) (by simpa using z2)
        · exact .inr ⟨k + 1, d, s, a', by simpa using h1, by simpa using h2, h3, h4, by simpa using h5, h6⟩
      | s i =>
        have e : putOuts (.mt :: ms) (.s i :: as) (d0 :: ds) ρ = putOuts ms as ds (putO ρ i d0) := rfl
        rw [e] at h
        have nd1 := (List.nodup_cons.mp nd).1
        have nd' := (List.nodup_cons.mp nd).2
        rcases ih (as := as) (by simpa using hl) nd' h with ⟨h1, h2⟩ | ⟨k, d, s, a', h1, h2, h3, h4, h5, h6⟩
        · rcases putO_get h1 with ⟨n, h1⟩ | ⟨rfl, s, h3, h4⟩
          · refine .inl ⟨h1, fun k z1 z2 => ?_⟩
            cases k with
            | zero => simp at z2; exact n z2.symm
            | succ k => exact h2 k (by simpa using z1) (by simpa using z2)
          · exact .inr ⟨0, d0, s, a0, rfl, rfl, h3, h4, rfl, ow⟩
        · rcases putO_get h3 with ⟨n, h3⟩ | ⟨rfl, s2, h7, h8⟩
          · exact .inr ⟨k + 1, d, s, a', by simpa using h1, by simpa using h2, h3, h4, by simpa using h5, h6⟩
          · exact absurd (arIx_mem h2) nd1
theorem ArsL.len (h : ArsL B Fz H σ vs as) : as.length = vs.length := by
  induction h with
  | nil => rfl
  | cons _ _ ih => exact congrArg Nat.succ ih
theorem wD_owned {s : Sl} {d : D} : (s.wD d).owned = s.owned := by cases s <;> rfl
theorem wD_held {s : Sl} {d : D} : (s.wD d).held = s.held := by cases s <;> rfl
theorem held_back {K : Frag} (o : OutsOk K Fz' H' ms vs outs) (hl : as.length = ms.length) (nd : (arIx as).Nodup) {l : Nat} {y : Addr} (h : HeldAt σ (putOuts ms as outs ρ) l y) : HeldAt σ ρ l y := by
  obtain ⟨s', e, hh, hs⟩ := h
  rcases putOuts_get o hl nd e with ⟨h1, _⟩ | ⟨k, d, s, a, h1, h2, h3, h4, h5, h6⟩
  · exact ⟨s', h1, hh, hs⟩
  · subst h4; rw [wD_held] at hh; exact ⟨s, h3, hh, hs⟩
/-- the invariant behind a call -/
theorem Iv.called (I : Iv B Fz H σ ρ) (ha : ArsL B Fz H σ vs as) (hm : mkArgs ms as ρ = some ds) (nd : (arIx as).Nodup) (x : Ext (exA ms vs) Fz H Fz' H') (f : FzOk Fz' H') (o : OutsOk B.K Fz' H' ms vs outs) : Iv B Fz' H' σ (putOuts ms as outs ρ) := by
  have hl : as.length = ms.length := by rw [ha.len]; exact (args_ok I ha hm).len.1
  have may : ∀ a, exA ms vs a → B.H0 a = none ∨ B.ex a := fun a ⟨k, h1, h2⟩ => by
    obtain ⟨i, _, o⟩ := mt_slot I ha hm h1 h2
    exact I.may o
  have back : ∀ {l : Nat} {y : Addr}, (HeldAt σ (putOuts ms as outs ρ) l y → HeldAt σ ρ l y) ∧ (OwnAt σ (putOuts ms as outs ρ) l y → OwnAt σ ρ l y) := by
    intro l y
    constructor
    · rintro ⟨s', e, hh, hs⟩
      rcases putOuts_get o hl nd e with ⟨h1, _⟩ | ⟨k, d, s, a, h1, h2, h3, h4, h5, h6⟩
      · exact ⟨s', h1, hh, hs⟩
      · subst h4; rw [wD_held] at hh; exact ⟨s, h3, hh, hs⟩
    · rintro ⟨s', e, hh, hs⟩
      rcases putOuts_get o hl nd e with ⟨h1, _⟩ | ⟨k, d, s, a, h1, h2, h3, h4, h5, h6⟩
      · exact ⟨s', h1, hh, hs⟩
      · subst h4; rw [wD_owned] at hh; exact ⟨s, h3, hh, hs⟩
  refine ⟨by rw [putOuts_length]; exact I.len, I.ext.trans x may, f, fun j s' e => ?_, fun i j a b n o1 o2 => I.apart i j a b n (back.2 o1) (back.1 o2), I.lent⟩
  rcases putOuts_get o hl nd e with ⟨h1, h2⟩ | ⟨k, d, s, a, h1, h2, h3, h4, h5, h6⟩
  · refine (I.ok j s' h1).keep x fun b hh hs ⟨k, e1, e2⟩ => ?_
    obtain ⟨i, e3, o3⟩ := mt_slot I ha hm e1 e2
    have : i ≠ j := fun z => h2 k e1 (z ▸ e3)
    exact I.apart i j b b this o3 ⟨s', h1, hh, join_some.mp hs⟩ rfl
  · obtain ⟨i, e3, o3⟩ := mt_slot I ha hm h1 h5
    rw [h2] at e3
    cases e3
    have z := I.ok j s h3
    have hs : σ[j]? = some (some (.ref a)) := by obtain ⟨_, _, _, q⟩ := o3; exact q
    rw [join_some.mpr hs] at z ⊢
    subst h4
    obtain ⟨s2, e4, ho, _⟩ := o3
    rw [h3] at e4; cases e4
    cases s with
    | ow d' => obtain ⟨a', ea, _, h0⟩ := z; cases ea; exact ⟨a, rfl, h6, h0⟩
    | mt d' => obtain ⟨a', ea, _, h0, h00⟩ := z; cases ea; exact ⟨a, rfl, h6, h0, h00⟩
    | _ => cases ho
/-- what is to be shown of a call -/
theorem sp_call {F : Fd} {E : XK} {Q : VK} (I : Iv B Fz H σ ρ) (ha : ArsL B Fz H σ vs as) (hm : mkArgs F.md as ρ = some ds) (nd : (arIx as).Nodup)
    (hq : ∀ z outs v H' Fz', F.sem ds = .ok (z, outs) → Iv B Fz' H' σ (putOuts F.md as outs ρ) → Ge Fz H Fz' H' → (∀ i b, HeldAt σ (putOuts F.md as outs ρ) i b → HeldAt σ ρ i b) → ResF B.K H F.own Fz' H' v z → Q v H')
    (hx : ∀ c d, F.sem ds = .exc c d → FinG rD B E σ Q Fz H (.exc c d)) (hb : F.sem ds ≠ .bad) {gs : Hp → Prop} (hgs : gs H) : spF B.K gs F vs H Q E := by
  refine ⟨hgs, Fz, ds, I.fzs, args_ok I ha hm, ap_ok I ha hm nd, ?_⟩
  have may : ∀ a, exA F.md vs a → B.H0 a = none ∨ B.ex a := fun a ⟨k, h1, h2⟩ => by
    obtain ⟨i, _, o⟩ := mt_slot I ha hm h1 h2
    exact I.may o
  cases e : F.sem ds with
  | ok p => exact fun v H' Fz' x f o r => hq p.1 p.2 v H' Fz' e (I.called ha hm nd x f o) x.ge (fun i b => held_back o (by rw [ha.len]; exact (args_ok I ha hm).len.1) nd) r
  | exc c d => exact fun dx v H' Fz' x f h1 h2 => hx c d e dx v H' Fz' (I.ext.trans x may) f h1 h2
  | bad => exact hb e
end
end Dx

set_option Elab.async false
set_option linter.all false
set_option maxRecDepth 100000
set_option maxHeartbeats 1000000
namespace Dx
open PySem PySem.Spec PyProof.Rows L2
variable [Tbs]

/-! ### the world of a proof; promises that may use that no guard is open -/
structure Wd where
  P : Program
  w : World
  K : Frag
  mg : Str → Option Value
  base : Heap
  CX : CXT
  gs : List (Addr × HO)
def Wd.gp (W : Wd) (H : Hp) : Prop := (∀ p ∈ W.gs, H p.1 = some p.2) ∧ LamX.Tabs TB H
/-- a base of an activation in the world -/
structure BOk (W : Wd) (B : Bs) : Prop where
  K : B.K = W.K
  gs : W.gp B.H0
structure FnG (W : Wd) (k : Nat) (f : Addr) (fd : FuncData) (ps : List Str) (sp : Sp) : Prop where
  len : ∀ vs H Q E, sp vs H Q E → vs.length = ps.length
  run : ∀ (A : Around) (outer : List Env) (s : Shared) (H : Hp) (args : Args) (us : List Value) (vs : List V) (Q : VK) (E : XK), Room k A → A.guards = some [] → Env0 W.P W.w W.K W.mg W.base A outer s H → BindsTo s fd args (ps.zip us) → Vals vs us →
    sp vs H Q E → codeAny (model W.P W.w) A (.call (.ref f) args) (CR W.CX outer W.P W.w H s Q E) s
theorem FnG.mono {W : Wd} {j k : Nat} {f : Addr} {fd : FuncData} {ps : List Str} {sp : Sp} (F : FnG W j f fd ps sp) (h : j ≤ k) : FnG W k f fd ps sp :=
  ⟨F.len, fun A outer s H args us vs Q E r => F.run A outer s H args us vs Q E (r.mono h)⟩
/-- a context of the world -/
structure XIs (W : Wd) (N : List Str) (sc : Scope) (k : Nat) (E : XK) (X : Cx) : Prop where
  hP : X.prog = W.P
  hw : X.w = W.w
  hK : X.K = W.K
  hmg : X.mg = W.mg
  hbase : X.base = W.base
  hN : X.N = N
  hsc : X.env.scope = sc
  room : Room k X.A
  grd : X.A.guards = some []
  calm : X.calm = true
  nd : N.Nodup
  pass : Passes W.CX X E
structure XSt (W : Wd) (N : List Str) (sc : Scope) (k : Nat) (E : XK) (X : Cx) : Prop extends XIs W N sc k E X where
  owns : PassesOwn (model X.prog X.w) X.A X.env X.xe
  fn : ∀ x, X.fn x = true
  take : Takes X (fun c d _ H => E c d H)
/-- the world's exceptions: none leaves where none is wanted; a def's body takes what its callees let out -/
structure WOk (W : Wd) : Prop where
  gimm : ∀ p ∈ W.gs, Imx p.2
  none : ∀ outer H s e s', ¬ W.CX outer H s E0 e s'
  call : ∀ N qual sc f cd A outer s H E, A.handled = Option.none → Passes W.CX (cxOf W.CX W.P W.w W.K W.mg W.base N qual sc f cd A outer s H E) E
  take : ∀ N qual sc f cd A outer s H E, A.handled = Option.none → Takes (cxOf W.CX W.P W.w W.K W.mg W.base N qual sc f cd A outer s H E) (fun c d _ H => E c d H)
theorem BOk.le {W : Wd} {B B' : Bs} (wo : WOk W) (h : BOk W B) (l : BLe B B') : BOk W B' := ⟨l.K.trans h.K, fun p hp => l.imm _ _ (wo.gimm p hp) (h.gs.1 p hp), fun p hp => l.tab _ _ (fun _ => h.gs.2 p hp) hp⟩
theorem BOk.now {W : Wd} {B : Bs} {Fz : Addr → Prop} {H : Hp} {σ : L2.St} {ρ : List Sl} (wo : WOk W) (h : BOk W B) (I : Iv B Fz H σ ρ) : W.gp H := ⟨fun p hp => I.ext.ge.imm _ _ (wo.gimm p hp) (h.gs.1 p hp), fun p hp => I.ext.ge.tab _ _ (fun _ => h.gs.2 p hp) hp⟩
structure FnAt (W : Wd) (x qual : Str) (st : Stmt) (f : Addr) : Prop where
  ex : ∃ (oc : Value) (od : Option Addr) (kV doc pm : Value) (an : Option Addr) (cdv ct : Value) (osl : Array (Option Value)),
    W.K.lookup f = some ⟨oc, od, .func (PySem.W.fnOf x qual (C8.fnArgs st) (C8.fnBody st) (C8.fnScope st) .none kV doc pm an cdv ct), osl⟩ ∧ PySem.W.codeIn W.K cdv qual = true
  kp : PySem.W.keepIn W.K (.ref f) = true
section
variable {W : Wd} {k : Nat} {f : Addr}
theorem fnG_of {x qual : Str} {st : Stmt} {N ps : List Str} {sp : Sp} (wo : WOk W) (D : FnAt W x qual st f) (S : FnScope N ps (C8.fnScope st)) (hbind : ∀ (kV doc pm : Value) (an : Option Addr) (cdv ct : Value) (us : List Value), us.length = ps.length → bindArgs (PySem.W.fnOf x qual (C8.fnArgs st) (C8.fnBody st) (C8.fnScope st) .none kV doc pm an cdv ct) ⟨us, []⟩ = pure (ps.zip us))
    (len : ∀ vs H Q E, sp vs H Q E → vs.length = ps.length)
    (hbody : ∀ (X : Cx) (H : Hp) (vs : List V) (Q : VK) (E : XK), XSt W N (C8.fnScope st) k E X → sp vs H Q E → ∃ t, PSs X (C8.fnBody st) t ∧ t { nx := fun _ H' => Q .non H', rt := Q } (L2.start N vs) H) :
    ∃ fd, FnG W (k + 1) f fd ps sp ∧ Binds W.K fd ps [] := by
  obtain ⟨oc, od, kV, doc, pm, an, cdv, ct, osl, lk, hcd⟩ := D.ex
  refine ⟨_, ⟨len, fun A outer s H args us vs Q E hr hg e0 hb r hsp => ?_⟩, .all (hbind kV doc pm an cdv ct)⟩
  have nv := len _ _ _ _ hsp
  have inK : W.K.In s.heap := e0.mod.kin.keeps fun b o e => (e0.bs b o e).1
  have noLim : s.heap.NoLimit := e0.mod.nolimit.keeps fun b o e => (e0.bs b o e).1
  have kinds : ∀ y ∈ ps.zip us, (C8.fnScope st).names.lookup y.1 = some .local ∨ ((C8.fnScope st).names.lookup y.1 = some .cell ∧ ((cellsFrom (s.heap.objs.size + 1) (C8.fnScope st).names []).lookup y.1).isSome = true) := by
    rintro ⟨n, v⟩ hy
    have np := S.par n (List.of_mem_zip hy).1
    exact np.imp id fun q => ⟨q, PySem.W.cellsFrom_some _ _ _ (.inl q)⟩
  refine codeAny_call_function hr.depth (inK _ _ lk) rfl S.co S.gen rfl (PySem.W.codeRec_of inK hcd) (hb _ _ _ _ ?_)
  refine wpAny_newFunctionEnv_cells S.kind kinds fun env he s1 x1 => ?_
  subst he
  refine ⟨noLim.keeps x1.toInCall.keep, codeAny_func ?_⟩
  let X := cxOf W.CX W.P W.w W.K W.mg W.base N qual (C8.fnScope st) f cdv A outer s H E
  have hX : XSt W N (C8.fnScope st) k E X :=
    { hP := rfl, hw := rfl, hK := rfl, hmg := rfl, hbase := rfl, hN := rfl, hsc := rfl, room := hr.deeper _, grd := hg, calm := rfl, nd := S.nd, pass := wo.call _ _ _ _ _ _ _ _ _ _ hr.hd, fn := fun _ => rfl, take := wo.take _ _ _ _ _ _ _ _ _ _ hr.hd, owns := passes_of (K := fun e s'' => W.CX outer H s E e s'') rfl }
  obtain ⟨t, ht, hq⟩ := hbody X H vs Q E hX hsp
  have I : Inv X [] (L2.start N vs) H s1 := inv_start S hr.hd e0 nv r x1
  refine wpAny_mono (ht.run [] s1 (L2.start N vs) H _ I hq) (fun fz s' hs => ?_) fun e s' hs => hs
  cases fz with
  | ret u =>
    obtain ⟨v, σ', H', J, rv, q⟩ := hs
    exact ⟨v, H', J.os, J.bare, J.base, J.hok, rv, q⟩
  | next =>
    obtain ⟨σ', H', J, q⟩ := hs
    exact ⟨V.non, H', J.os, J.bare, J.base, J.hok, rfl, q⟩
  | brk => obtain ⟨_, _, _, q⟩ := hs; exact q.elim
  | cont => obtain ⟨_, _, _, q⟩ := hs; exact q.elim
/-- a def that may be called by its name -/
structure Cal (W : Wd) (k : Nat) (x : Str) (F : Fd) : Prop where
  ex : ∃ (f : Addr) (fd : FuncData) (ps : List Str), FnG W k f fd ps (spF W.K W.gp F) ∧ W.mg x = some (.ref f) ∧ PySem.W.keepIn W.K (.ref f) = true ∧ Binds W.K fd ps []
theorem Cal.mono {j : Nat} {x : Str} {F : Fd} (c : Cal W j x F) (h : j ≤ k) : Cal W k x F :=
  let ⟨f, fd, ps, a, b⟩ := c.ex; ⟨f, fd, ps, a.mono h, b⟩
theorem spF_len {K : Frag} {gs : Hp → Prop} {F : Fd} {vs : List V} {H : Hp} {Q : VK} {E : XK} (h : spF K gs F vs H Q E) : vs.length = F.md.length := by
  obtain ⟨_, Fz, ds, _, a, _⟩ := h
  exact a.len.1
theorem fn_sem {x qual : Str} {st : Stmt} {N ps : List Str} {F : Fd} {g : List Sl → RS} (wo : WOk W) (D : FnAt W x qual st f) (S : C8.scC N ps (C8.fnScope st) = true) (hl : F.md.length = ps.length)
    (hbind : ∀ (kV doc pm : Value) (an : Option Addr) (cdv ct : Value) (us : List Value), us.length = ps.length → bindArgs (PySem.W.fnOf x qual (C8.fnArgs st) (C8.fnBody st) (C8.fnScope st) .none kV doc pm an cdv ct) ⟨us, []⟩ = pure (ps.zip us))
    (hs : F.sem = semOf N.length F.md F.own g) (hbody : ∀ (X : Cx) (E : XK), XSt W N (C8.fnScope st) k E X → ∀ B : Bs, BOk W B → PSs X (C8.fnBody st) (tS B E g)) : ∃ fd, FnG W (k + 1) f fd ps (spF W.K W.gp F) ∧ Binds W.K fd ps [] := by
  have S' := C8.fnScope_by S
  refine fnG_of wo D S' hbind (fun vs H Q E h => by rw [spF_len h, hl]) fun X H vs Q E hX ⟨hgs, Fz, ds, fz, a, ap, q⟩ => ?_
  have hn : F.md.length ≤ N.length := by
    have := congrArg List.length S'.pre
    rw [List.length_take] at this
    omega
  exact ⟨_, hbody X E hX (baseF W.K F.md vs Fz H) ⟨rfl, hgs⟩, fin_body hs hn fz a ap q⟩
theorem cal_of {x : Str} {st : Stmt} {N ps : List Str} {F : Fd} {g : List Sl → RS} (wo : WOk W) (D : ∃ f, FnAt W x x st f ∧ W.mg x = some (.ref f)) (S : C8.scC N ps (C8.fnScope st) = true) (hl : F.md.length = ps.length)
    (hbind : ∀ (kV doc pm : Value) (an : Option Addr) (cdv ct : Value) (us : List Value), us.length = ps.length → bindArgs (PySem.W.fnOf x x (C8.fnArgs st) (C8.fnBody st) (C8.fnScope st) .none kV doc pm an cdv ct) ⟨us, []⟩ = pure (ps.zip us))
    (hs : F.sem = semOf N.length F.md F.own g) (hbody : ∀ (X : Cx) (E : XK), XSt W N (C8.fnScope st) k E X → ∀ B : Bs, BOk W B → PSs X (C8.fnBody st) (tS B E g)) : Cal W (k + 1) x F := by
  obtain ⟨f, D, hm⟩ := D
  obtain ⟨fd, F1, b⟩ := fn_sem wo D S hl hbind hs hbody
  exact ⟨f, fd, ps, F1, hm, D.kp, b⟩
end
/-! ### calls -/
section
variable {W : Wd} {N : List Str} {sc : Scope} {k j : Nat} {E : XK} {X : Cx} {B : Bs} {f : Addr} {fd : FuncData} {ps : List Str} {sp : Sp} {x : Str} {p pos : Pos} {e : Expr} {es : List Expr} {F : Fd} {g : List Sl → R (List Ar × List Sl)} {t : TA}
theorem run_fnG {pins : List (Addr × Obj)} {σ : L2.St} {H : Hp} {s : Shared} {Q : VK} {us : List Value} {vs : List V} (hX : XIs W N sc k E X) (F : FnG W j f fd ps sp) (hj : j ≤ k) (hb : Binds W.K fd ps []) (I : Inv X pins σ H s) (r : Vals vs us) (h : sp vs H Q E) :
    wpAny (model X.prog X.w) X.A (call (.ref f) us) (EP X pins σ Q) X.xe s := by
  have hl : (us ++ []).length = ps.length := by rw [List.append_nil, ← r.length]; exact F.len _ _ _ _ h
  have bd := hb s us (hX.hK ▸ I.kIn) hl
  rw [List.append_nil] at bd
  have e0 : Env0 W.P W.w W.K W.mg W.base X.A X.stack s H := by
    have := I.env0
    rw [hX.hP, hX.hw, hX.hK, hX.hmg, hX.hbase] at this
    exact this
  have run := F.run X.A X.stack s H ⟨us, []⟩ us vs Q E (hX.room.mono hj) hX.grd e0 bd r h
  rw [← hX.hP, ← hX.hw] at run
  refine wpAny_call (codeAny_mono run fun res s' hq => ?_)
  cases res with
  | error er => exact hX.pass pins σ H s er s' I hq
  | ok fz =>
    cases fz with
    | ret u =>
      exact I.after hq
    | next => exact False.elim hq
    | brk => exact False.elim hq
    | cont => exact False.elim hq
abbrev tSp (sp : Sp) (E : XK) (t : TA) : TE := fun σ H Q => t σ H fun vs H1 => sp vs H1 Q E
theorem pe_callG (hX : XIs W N sc k E X) (F : FnG W j f fd ps sp) (hj : j ≤ k) (hb : Binds W.K fd ps []) (hm : W.mg x = some (.ref f)) (hk : PySem.W.keepIn W.K (.ref f) = true) (hg : sc.names.lookup x = some .globalImplicit) (hdb : (x == ("__debug__" : Str)) = false)
    (hns : nsE e = true) (hns2 : es.all nsE = true) (ha : PA X (e :: es) t) : PE X (.Call (.Name x p) (e :: es) [] pos) (tSp sp E t) := by
  have gl : Gl X x := by show X.env.scope.names.lookup x = _; rw [hX.hsc]; exact hg
  have mgx : X.mg x = some (.ref f) := by rw [hX.hmg]; exact hm
  have kp : PySem.W.keepIn X.K (.ref f) = true := by rw [hX.hK]; exact hk
  refine ⟨fun pins s σ H Q I h => wpAny_Call_Name_kw (ld_glob I gl mgx ?_ hdb)⟩
  exact PySem.W.callWith_K (h₀ := X.base) I.ok.mod.kin kp (thn (ha.run pos pins s σ H _ I h) fun us s1 ⟨vs, H1, I1, r, q⟩ => ⟨I1.kIn, run_fnG hX F hj hb I1 r q⟩) (star_cons hns) (noStar_any hns2)
/-- behind the arguments -/
theorem fin_call {Rl : Rel D V} {σ : L2.St} {H : Hp} {Fz : Addr → Prop} {ρ : List Sl} {vs : List V} {as : List Ar} {Q : VK} (wo : WOk W) (hB : BOk W B) (I : Iv B Fz H σ ρ) (ha : ArsL B Fz H σ vs as)
    (hR : ∀ {Fz' : Addr → Prop} {H' : Hp} {ρ' : List Sl} {v : V} {z : D}, Iv B Fz' H' σ ρ' → (∀ i b, HeldAt σ ρ' i b → HeldAt σ ρ i b) → ResF B.K H F.own Fz' H' v z → Rl B Fz' H' σ ρ' v z)
    (q : FinG Rl B E σ Q Fz H (if decide (arIx as).Nodup = true then (ofO (mkArgs F.md as ρ)).bind fun ds => (F.sem ds).bind fun q => .ok (q.1, putOuts F.md as q.2 ρ) else .bad)) : spF W.K W.gp F vs H Q E := by
  obtain ⟨nd, q⟩ := fin_if q
  have nd := of_decide_eq_true nd
  obtain ⟨ds, hm, q⟩ := fin_o q
  rw [← hB.K]
  have hl : as.length = F.md.length := by rw [ha.len]; exact (args_ok I ha hm).len.1
  refine sp_call I ha hm nd (fun z outs v H' Fz' e I' g bk r => ?_) (fun c d e => ?_) (fun e => ?_) (hB.now wo I)
  · rw [e] at q
    exact q v H' Fz' I' g (hR I' bk r)
  · rw [e] at q; exact q
  · rw [e] at q; exact q
theorem hR_D {F : Fd} {σ : L2.St} {H : Hp} {ρ : List Sl} (ho : F.own = false) : ∀ {Fz' : Addr → Prop} {H' : Hp} {ρ' : List Sl} {v : V} {z : D}, Iv B Fz' H' σ ρ' → (∀ i b, HeldAt σ ρ' i b → HeldAt σ ρ i b) → ResF B.K H F.own Fz' H' v z → Den B.K Fz' H' v z :=
  fun _ _ r => by rw [ho] at r; exact r
theorem hR_O {F : Fd} {σ : L2.St} {H : Hp} {Fz : Addr → Prop} {ρ : List Sl} (I : Iv B Fz H σ ρ) (ho : F.own = true) : ∀ {Fz' : Addr → Prop} {H' : Hp} {ρ' : List Sl} {v : V} {z : D}, Iv B Fz' H' σ ρ' → (∀ i b, HeldAt σ ρ' i b → HeldAt σ ρ i b) → ResF B.K H F.own Fz' H' v z → rO B Fz' H' σ ρ' v z :=
  fun I' bk r => by
    rw [ho] at r
    obtain ⟨a, rfl, ow, hn⟩ := r
    refine ⟨a, rfl, ow, ?_, fun i b hb z => ?_⟩
    · cases q : B.H0 a with
      | none => rfl
      | some u => obtain ⟨o', w⟩ := I.ext.there a u q; rw [hn] at w; cases w
    · obtain ⟨o, w⟩ := I.held (bk i b hb)
      rw [z, hn] at w; cases w
theorem de_call (wo : WOk W) (hX : XIs W N sc k E X) (hB : BOk W B) (c : Cal W j x F) (hj : j ≤ k) (ho : F.own = false) (hg : sc.names.lookup x = some .globalImplicit) (hdb : (x == ("__debug__" : Str)) = false) (hns : nsE e = true) (hns2 : es.all nsE = true) (ha : PA X (e :: es) (tG rAs B E g)) :
    PE X (.Call (.Name x p) (e :: es) [] pos) (tE B E (evCall F g)) := by
  obtain ⟨f, fd, ps, fn, hm, hk, hb⟩ := c.ex
  exact weakE (pe_callG hX fn hj hb hm hk hg hdb hns hns2 ha) fun σ H Q ⟨Fz, ρ, I, q⟩ =>
    monoG (tG_bind I q) fun vs H1 ⟨F1, ρ1, as, I1, a1, g1, e1, q1⟩ => fin_call wo hB I1 a1 (hR_D ho) q1
theorem do_call (wo : WOk W) (hX : XIs W N sc k E X) (hB : BOk W B) (c : Cal W j x F) (hj : j ≤ k) (ho : F.own = true) (hg : sc.names.lookup x = some .globalImplicit) (hdb : (x == ("__debug__" : Str)) = false) (hns : nsE e = true) (hns2 : es.all nsE = true) (ha : PA X (e :: es) (tG rAs B E g)) :
    PE X (.Call (.Name x p) (e :: es) [] pos) (tO B E (evCall F g)) := by
  obtain ⟨f, fd, ps, fn, hm, hk, hb⟩ := c.ex
  exact weakE (pe_callG hX fn hj hb hm hk hg hdb hns hns2 ha) fun σ H Q ⟨Fz, ρ, I, q⟩ =>
    monoG (tG_bind I q) fun vs H1 ⟨F1, ρ1, as, I1, a1, g1, e1, q1⟩ => fin_call wo hB I1 a1 (hR_O I1 ho) q1
end
end Dx

set_option Elab.async false
set_option linter.all false
set_option maxRecDepth 100000
set_option maxHeartbeats 1000000
namespace Dx
open PySem PySem.Spec PyProof.Rows L2
variable [Tbs]

/-! ### looks at names, decided -/
def visB (sc : Scope) (x : Str) : Bool := match sc.names.lookup x with
  | some .local => true
  | some .cell => true
  | some .free => true
  | _ => false
def locB (sc : Scope) (x : Str) : Bool := match sc.names.lookup x with
  | some .local => true
  | some .cell => true
  | _ => false
theorem vis_of {sc : Scope} {x : Str} (h : visB sc x = true) : Vis sc x := by
  unfold visB at h
  unfold Vis
  cases e : sc.names.lookup x with
  | none => rw [e] at h; cases h
  | some k =>
    rw [e] at h
    cases k <;> first | exact .inl rfl | exact .inr (.inl rfl) | exact .inr (.inr rfl) | cases h
theorem loc_of {sc : Scope} {x : Str} (h : locB sc x = true) : L2.Loc sc x := by
  unfold locB at h
  unfold L2.Loc
  cases e : sc.names.lookup x with
  | none => rw [e] at h; cases h
  | some k =>
    rw [e] at h
    cases k <;> first | exact .inl rfl | exact .inr rfl | cases h
section
variable {W : Wd} {N : List Str} {sc : Scope} {k : Nat} {E : XK} {X : Cx} {B : Bs} {x : Str} {i : Nat}
theorem XIs.kk (hX : XIs W N sc k E X) (hB : BOk W B) : B.K = X.K := hB.K.trans hX.hK.symm
theorem XIs.hu (hX : XIs W N sc k E X) : X.A.units + 100 < cLine := by have := hX.room.un; omega
theorem XIs.nm (hX : XIs W N sc k E X) (h : decide (N[i]? = some x) = true) : X.N[i]? = some x := by rw [hX.hN]; exact of_decide_eq_true h
theorem XIs.nN (hX : XIs W N sc k E X) : X.N.Nodup := by rw [hX.hN]; exact hX.nd
theorem XIs.vis (hX : XIs W N sc k E X) (h : visB sc x = true) : Vis X.env.scope x := by rw [hX.hsc]; exact vis_of h
theorem XIs.loc (hX : XIs W N sc k E X) (h : locB sc x = true) : L2.Loc X.env.scope x := by rw [hX.hsc]; exact loc_of h
theorem XIs.gl (hX : XIs W N sc k E X) (h : decide (sc.names.lookup x = some .globalImplicit) = true) : Gl X x := by show X.env.scope.names.lookup x = _; rw [hX.hsc]; exact of_decide_eq_true h
theorem XIs.noName (hX : XIs W N sc k E X) (h : W.mg x = none) : X.mg x = none := by rw [hX.hmg]; exact h
theorem XIs.blk (wo : WOk W) (hX : XIs W N sc k E X) {s : Shared} {H : Hp} {scope : Scope} {cl : List (Str × Addr)} {C : Addr} {fp : List Addr} : XIs W N (relS scope sc) k E0 (X.blk s H scope (compEnvC scope cl C X.env) fp) where
  hP := hX.hP
  hw := hX.hw
  hK := hX.hK
  hmg := hX.hmg
  hbase := hX.hbase
  hN := hX.hN
  hsc := by rw [← hX.hsc]; rfl
  room := hX.room
  grd := hX.grd
  calm := hX.calm
  nd := hX.nd
  pass := fun pins σ H s e s' _ h => wo.none _ _ _ _ _ h
theorem blk_fn {scope : Scope} {s : Shared} {H : Hp} {C : Addr} {cl : List (Str × Addr)} {fp : List Addr} (hX : XIs W N (relS scope sc) k E0 (X.blk s H scope (compEnvC scope cl C X.env) fp))
    (h : ((scope.names.lookup x == some .cell) || decide ((relS scope sc).names.lookup x = some .local)) = true) : (X.blk s H scope (compEnvC scope cl C X.env) fp).fn x = true ∨ (X.blk s H scope (compEnvC scope cl C X.env) fp).env.scope.names.lookup x = some .local := by
  rw [Bool.or_eq_true] at h
  rcases h with h | h
  · exact .inl h
  · right
    rw [hX.hsc]
    exact of_decide_eq_true h
/-- statements about the scope alone -/
theorem scP {P : Env → Prop} (hX : XIs W N sc k E X) (h : ∀ env : Env, P { env with scope := sc }) : P X.env := by
  have := h X.env
  rw [← hX.hsc] at this
  exact this
end
/-! ### x, y = e, f -/
inductive MxL (B : Bs) (Fz : Addr → Prop) (H : Hp) (σ : L2.St) (ρ : List Sl) : List V → List (Bool × D) → Prop where
  | nil : MxL B Fz H σ ρ [] []
  | sh {v : V} {d : D} {vs : List V} {ds : List (Bool × D)} : Den B.K Fz H v d → MxL B Fz H σ ρ vs ds → MxL B Fz H σ ρ (v :: vs) ((false, d) :: ds)
  | ow {a : Addr} {d : D} {vs : List V} {ds : List (Bool × D)} : Own B.K Fz H a d → B.H0 a = none → (∀ i b, HeldAt σ ρ i b → b ≠ a) → (∀ (i : Nat) (b : Addr) (d : D), vs[i]? = some (.ref b) → ds[i]? = some (true, d) → b ≠ a) → MxL B Fz H σ ρ vs ds → MxL B Fz H σ ρ (.ref a :: vs) ((true, d) :: ds)
abbrev rMx : Rel (List (Bool × D)) (List V) := fun B Fz H σ ρ v d => MxL B Fz H σ ρ v d
def mxNil (ρ : List Sl) : R (List (Bool × D) × List Sl) := .ok ([], ρ)
def mxC (b : Bool) (f : List Sl → R (D × List Sl)) (g : List Sl → R (List (Bool × D) × List Sl)) (ρ : List Sl) : R (List (Bool × D) × List Sl) := (f ρ).bind fun p => (g p.2).bind fun q => .ok ((b, p.1) :: q.1, q.2)
theorem Own.same {K : Frag} {Fz Fz' : Addr → Prop} {H H' : Hp} {a : Addr} {d : D} (h : Own K Fz H a d) (g : Ge Fz H Fz' H') (e : H' a = H a) (nz : ¬ Fz' a) : Own K Fz' H' a d := by
  cases d with
  | lst ds => obtain ⟨vs, e2, l⟩ := h; exact ⟨vs, e.trans e2, l.mono g⟩
  | dic ds => obtain ⟨vs, e2, l⟩ := h; exact ⟨vs, e.trans e2, l.mono g⟩
  | ins c ds => obtain ⟨dx, fs, e2, _, l⟩ := h; exact ⟨dx, fs, e.trans e2, nz, l.mono g⟩
  | _ => exact h.elim
theorem Ext.outBase {B : Bs} {p : Addr} {o : HO} {Fz' : Addr → Prop} {H' : Hp} (x : Ext (B.at p o).ex B.Fz0 (B.at p o).H0 Fz' H') (h0 : B.H0 p = none) (nz0 : ¬ B.Fz0 p) (nt : NT o := by exact trivial) : Ext B.ex B.Fz0 B.H0 Fz' H' ∧ ¬ Fz' p ∧ H' p = some o := by
  have hp : H' p = some o := x.keep p o upd_same (fun z => z.2 rfl) nt
  have nz : ¬ Fz' p := fun z => by
    rcases x.nofz p z with h | h | h
    · exact nz0 h
    · rw [show (B.at p o).H0 p = some o from upd_same] at h; cases h
    · exact h.2 rfl
  refine ⟨⟨⟨fun a u i e => ?_, x.ge.fz, fun a z => ?_, fun P q t => x.ge.tab P q (tab_new h0 t)⟩, fun a u e n nt => ?_, fun a z => ?_, fun a u e => ?_⟩, nz, hp⟩
  · have q : a ≠ p := fun q => by rw [q, h0] at e; cases e
    exact x.ge.imm a u i (by rw [show (B.at p o).H0 a = B.H0 a from upd_ne q]; exact e)
  · have q : a ≠ p := fun q => nz0 (q ▸ z)
    have := x.ge.fzk a z
    rw [show (B.at p o).H0 a = B.H0 a from upd_ne q] at this
    exact this
  · have q : a ≠ p := fun q => by rw [q, h0] at e; cases e
    exact x.keep a u (by rw [show (B.at p o).H0 a = B.H0 a from upd_ne q]; exact e) (fun z => n z.1) nt
  · have q : a ≠ p := fun q => nz (q ▸ z)
    rcases x.nofz a z with h | h | h
    · exact .inl h
    · exact .inr (.inl (by rw [show (B.at p o).H0 a = B.H0 a from upd_ne q] at h; exact h))
    · exact .inr (.inr h.1)
  · have q : a ≠ p := fun q => by rw [q, h0] at e; cases e
    exact x.there a u (by rw [show (B.at p o).H0 a = B.H0 a from upd_ne q]; exact e)
section
variable {X : Cx} {B : Bs} {E : XK} {e : Expr} {es : List Expr} {f : List Sl → R (D × List Sl)} {g : List Sl → R (List (Bool × D) × List Sl)}
theorem MxL.mono {Fz Fz' : Addr → Prop} {H H' : Hp} {σ : L2.St} {ρ : List Sl} {v : List V} {d : List (Bool × D)} (h : MxL B Fz H σ ρ v d) : True := trivial
theorem MxL.outB {p : Addr} {o : HO} {Fz : Addr → Prop} {H : Hp} {σ : L2.St} {ρ : List Sl} {v : List V} {d : List (Bool × D)} (h0 : B.H0 p = none) (h : MxL (B.at p o) Fz H σ ρ v d) : MxL B Fz H σ ρ v d ∧ ∀ (i : Nat) (b : Addr) (x : D), v[i]? = some (.ref b) → d[i]? = some (true, x) → b ≠ p := by
  induction h with
  | nil => exact ⟨.nil, fun i b x e => by simp at e⟩
  | sh a _ ih =>
    refine ⟨.sh a ih.1, fun i b x e1 e2 => ?_⟩
    cases i with
    | zero => simp at e2
    | succ i => exact ih.2 i b x (by simpa using e1) (by simpa using e2)
  | @ow a d vs ds a1 a2 a3 a4 _ ih =>
    have na : a ≠ p := fun q => by rw [q, show (B.at p o).H0 p = some o from upd_same] at a2; cases a2
    refine ⟨.ow a1 (by rw [show (B.at p o).H0 a = B.H0 a from upd_ne na] at a2; exact a2) a3 a4 ih.1, fun i b x e1 e2 => ?_⟩
    cases i with
    | zero => simp at e1; rw [← e1]; exact na
    | succ i => exact ih.2 i b x (by simpa using e1) (by simpa using e2)
/-! storing several -/
def slOf (p : Bool × D) : Sl := match p.1 with
  | true => .ow p.2
  | false => .sh p.2
def putMx : List Nat → List (Bool × D) → List Sl → Option (List Sl)
  | [], [], ρ => some ρ
  | i :: is, p :: ps, ρ => (putSl ρ i (slOf p)).bind (putMx is ps)
  | _, _, _ => none
def stPar (is : List Nat) (l : List Sl → R (List (Bool × D) × List Sl)) (ρ : List Sl) : RS := (l ρ).st fun p => ofT (putMx is p.1 p.2) .nx
variable {i j l : Nat} {x y z : Str} {a b c : Expr} {px py pz pt pos : Pos} {kt k2 : Nat} {pt2 : Pos}
end
end Dx

set_option Elab.async false
set_option linter.all false
set_option maxRecDepth 100000
set_option maxHeartbeats 1000000
namespace Dx
open PySem PySem.Spec PyProof.Rows L2
variable [Tbs]

/-! ### instances -/
structure FldOk (W : Wd) (c f : Str) : Prop where
  cls : Cls W.K (He.ga W.K c)
  no : NoAttr W.K (He.ga W.K c) f
def fldF (cs : List Str) (f : Str) (d : D) : Option D := match d with
  | .ins c fs => if decide (c ∈ cs) = true then fs.lookup f else none
  | _ => none
def evFld (cs : List Str) (f : Str) (g : List Sl → R (D × List Sl)) (ρ : List Sl) : R (D × List Sl) := (g ρ).bind fun p => (ofO (fldF cs f p.1)).bind fun z => .ok (z, p.2)
/-- .. of an object in a slot -/
def evFldV (cs : List Str) (f : Str) (i : Nat) (ρ : List Sl) : R (D × List Sl) := (ofO (ownD ρ i)).bind fun d => (ofO (fldF cs f d)).bind fun z => .ok (z, ρ)
def putF' (fs : List (Str × D)) (f : Str) (v : D) : List (Str × D) := match fs with
  | [] => [(f, v)]
  | p :: r => if p.1 = f then (f, v) :: r else p :: putF' r f v
def setFld (cs : List Str) (f : Str) (d v : D) : Option D := match d with
  | .ins c fs => if decide (c ∈ cs) && decide (fs.length < 1000) then some (.ins c (putF' fs f v)) else none
  | _ => none
def stFld (cs : List Str) (f : Str) (i : Nat) (g : List Sl → R (D × List Sl)) (ρ : List Sl) : RS := (g ρ).st fun p => ofT (ownD p.2 i) fun d => ofT (setFld cs f d p.1) fun d' => .nx (putO p.2 i d')
section
variable {W : Wd} {N : List Str} {sc : Scope} {k j : Nat} {E : XK} {X : Cx} {B : Bs} {o e : Expr} {es : List Expr} {f : Str} {cs : List Str} {g h : List Sl → R (D × List Sl)} {l : List Sl → R (List Ar × List Sl)} {pos apos p : Pos} {i : Nat} {x : Str} {F : Fd}
/-! properties, methods -/
structure PropG (W : Wd) (j : Nat) (c m : Str) (F : Fd) : Prop where
  cls : Cls W.K (He.ga W.K c)
  ex : ∃ (p g : Addr) (fd : FuncData) (ps : List Str), PropOf W.K (He.ga W.K c) m p g ∧ FnG W j g fd ps (spF W.K W.gp F) ∧ Binds W.K fd ps []
structure MethG (W : Wd) (j : Nat) (c m : Str) (F : Fd) : Prop where
  cls : Cls W.K (He.ga W.K c)
  ex : ∃ (g : Addr) (fd : FuncData) (ps : List Str), Meth W.K (He.ga W.K c) m g ∧ FnG W j g fd ps (spF W.K W.gp F) ∧ Binds W.K fd ps []
theorem PropG.mono {j k : Nat} {c m : Str} (p : PropG W j c m F) (h : j ≤ k) : PropG W k c m F := ⟨p.cls, let ⟨a, b, c, d, e1, e2, e3⟩ := p.ex; ⟨a, b, c, d, e1, e2.mono h, e3⟩⟩
theorem MethG.mono {j k : Nat} {c m : Str} (p : MethG W j c m F) (h : j ≤ k) : MethG W k c m F := ⟨p.cls, let ⟨a, b, c, e1, e2, e3⟩ := p.ex; ⟨a, b, c, e1, e2.mono h, e3⟩⟩
def insC : D → Option Str
  | .ins c _ => some c
  | _ => none
/-- a read of a property: by the object's class -/
def evProp (tab : List (Str × Fd)) (g : List Sl → R (D × List Sl)) (ρ : List Sl) : R (D × List Sl) := (g ρ).bind fun p => (ofO ((insC p.1).bind fun c => tab.lookup c)).bind fun F => if decide (F.md = [.sh]) && !F.own then (F.sem [p.1]).nox.bind fun q => .ok (q.1, p.2) else .bad
theorem lookup_mem {tab : List (Str × Fd)} {c : Str} {F : Fd} (h : tab.lookup c = some F) : (c, F) ∈ tab := by
  induction tab with
  | nil => cases h
  | cons p r ih =>
    obtain ⟨c', F'⟩ := p
    rw [List.lookup_cons] at h
    cases e : c == c' with
    | true => rw [e] at h; cases h; rw [beq_iff_eq.mp e]; exact List.mem_cons_self
    | false => rw [e] at h; exact List.mem_cons_of_mem _ (ih h)
theorem fin_call1 {σ : L2.St} {H : Hp} {Fz : Addr → Prop} {ρ : List Sl} {v : V} {d : D} {Q : VK} (wo : WOk W) (hB : BOk W B) (I : Iv B Fz H σ ρ) (hd : Den B.K Fz H v d) (hm : F.md = [.sh]) (ho : F.own = false)
    (q : FinG rD B E σ Q Fz H ((F.sem [d]).nox.bind fun q => .ok (q.1, ρ))) : spF W.K W.gp F [v] H Q E0 := by
  have ha : ArsL B Fz H σ [v] [.d d] := .cons hd .nil
  have hk : mkArgs F.md [.d d] ρ = some [d] := by rw [hm]; rfl
  rw [← hB.K]
  refine sp_call I ha hk (show (arIx [Ar.d d]).Nodup from List.nodup_nil) (fun z outs v H' Fz' e I' g bk r => ?_) (fun c d e => ?_) (fun e => ?_) (hB.now wo I)
  · rw [e] at q
    have e2 : putOuts F.md [Ar.d d] outs ρ = ρ := by rw [hm]; cases outs <;> rfl
    rw [e2] at I'
    rw [ho] at r
    exact q v H' Fz' I' g r
  · rw [e] at q; exact q.elim
  · rw [e] at q; exact q
/-- o.m(..) by the object's class -/
def methF (tab : List (Str × Fd)) (m : Str) (own : Bool) (d : D) : Option Fd := match d with
  | .ins c fs => (tab.lookup c).bind fun F => if F.own == own && (fs.lookup m).isNone then some F else none
  | _ => none
def evMeth (tab : List (Str × Fd)) (m : Str) (own : Bool) (g : List Sl → R (D × List Sl)) (l : List Sl → R (List Ar × List Sl)) (ρ : List Sl) : R (D × List Sl) := (g ρ).bind fun p => (ofO (methF tab m own p.1)).bind fun F => (l p.2).bind fun q =>
  if decide (arIx (.d p.1 :: q.1)).Nodup = true then (ofO (mkArgs F.md (.d p.1 :: q.1) q.2)).bind fun ds => (F.sem ds).bind fun r => .ok (r.1, putOuts F.md (.d p.1 :: q.1) r.2 q.2) else .bad
/-- the reading of a method's call -/
abbrev tMt (W : Wd) (tab : List (Str × Fd)) (m : Str) (E : XK) (ta : TE) (t : TA) : TE := fun σ H Q => ta σ H fun x H1 => ∃ a c dx fs F, x = .ref a ∧ H1 a = some (.ins (He.ga W.K c) dx fs) ∧ (c, F) ∈ tab ∧ fs.lookup m = none ∧ t σ H1 fun vs H2 => spF W.K W.gp F (x :: vs) H2 Q E
/-! making -/
structure MakG (W : Wd) (j : Nat) (x : Str) (F : Fd) : Prop where
  mg : W.mg x = some (.ref (He.ga W.K x))
  ex : ∃ (f : Addr) (fd : FuncData) (ps : List Str), Mk W.K (He.ga W.K x) f ∧ FnG W j f fd ps (spF W.K W.gp F) ∧ Binds W.K fd ps []
end
end Dx

set_option Elab.async false
set_option linter.all false
set_option maxRecDepth 100000
set_option maxHeartbeats 1000000
namespace Dx
open PySem PySem.Spec PyProof.Rows L2
variable [Tbs]

theorem Den.ge_fz {K : Frag} {Fz Fz' : Addr → Prop} {H : Hp} (h : ∀ a, Fz a → Fz' a) : Ge Fz H Fz' H := ⟨fun _ _ _ e => e, h, fun _ _ => rfl, fun _ _ t => t⟩
/-- an instance is whole from now on -/
theorem Iv.seal {B : Bs} {Fz : Addr → Prop} {H : Hp} {σ : L2.St} {ρ : List Sl} {x : Addr} {C dx : Addr} {fs : List (Str × V)} (I : Iv B Fz H σ ρ) (h0 : B.H0 x = none) (hx : H x = some (.ins C dx fs)) (ap : ∀ i b, HeldAt σ ρ i b → b ≠ x) : Iv B (fun a => Fz a ∨ a = x) H σ ρ := by
  have g : Ge Fz H (fun a => Fz a ∨ a = x) H := Den.ge_fz (K := B.K) fun _ z => .inl z
  have ow : ∀ {a : Addr} {d : D}, a ≠ x → Own B.K Fz H a d → Own B.K (fun a => Fz a ∨ a = x) H a d := fun {a d} n o => o.same g rfl fun z => by
    rcases z with z | z
    · exact o.nofz I.fzs z
    · exact n z
  refine ⟨I.len, ⟨I.ext.ge.trans g, fun a o e n nt => I.ext.keep a o e n nt, fun a z => ?_, I.ext.there⟩, fun a z => ?_, fun i s e => ?_, I.apart, I.lent⟩
  · rcases z with z | z
    · exact I.ext.nofz a z
    · exact .inr (.inl (z ▸ h0))
  · rcases z with z | z
    · exact I.fzs a z
    · exact ⟨C, dx, fs, z ▸ hx⟩
  · have z := I.ok i s e
    have ne : ∀ a, s.held = true → σ[i]?.join = some (.ref a) → a ≠ x := fun a hh hs => ap i a ⟨s, e, hh, join_some.mp hs⟩
    cases s with
    | un => trivial
    | sh d => obtain ⟨u, e1, h1⟩ := z; exact ⟨u, e1, h1.mono g⟩
    | ow d => obtain ⟨a, e1, h1, h2⟩ := z; exact ⟨a, e1, ow (ne a rfl e1) h1, h2⟩
    | br d =>
      obtain ⟨a, e1, h1, h2⟩ := z
      refine ⟨a, e1, ?_, h2⟩
      cases d with
      | lst ds => obtain ⟨vs, e2, l⟩ := h1; exact ⟨vs, e2, l.mono g⟩
      | dic ds => obtain ⟨vs, e2, l⟩ := h1; exact ⟨vs, e2, l.mono g⟩
      | _ => exact h1.elim
    | mt d => obtain ⟨a, e1, h1, h2, h3⟩ := z; exact ⟨a, e1, ow (ne a rfl e1) h1, h2, h3⟩
def allSh (ms : List Md) : Bool := ms.all fun m => decide (m = .sh)
def mkTail (F : Fd) (as : List Ar) (ρ : List Sl) : Option (List D) := match F.md with
  | .mt :: ms => if allSh ms && !F.own then mkArgs ms as ρ else none
  | _ => none
def newF (c : Str) (p : D × List D) : Option D := match p with
  | (.non, [.ins c' fs]) => if decide (c' = c) = true then some (.ins c fs) else none
  | _ => none
def evMake (c : Str) (F : Fd) (g : List Sl → R (List Ar × List Sl)) (ρ : List Sl) : R (D × List Sl) := (g ρ).bind fun p => if decide (arIx p.1 = []) = true then (ofO (mkTail F p.1 p.2)).bind fun ds => (F.sem (.ins c [] :: ds)).bind fun q => (ofO (newF c q)).bind fun z => .ok (z, p.2) else .bad
section
variable {W : Wd} {N : List Str} {sc : Scope} {k j : Nat} {E : XK} {X : Cx} {B : Bs} {e : Expr} {es : List Expr} {g : List Sl → R (List Ar × List Sl)} {pos p : Pos} {x : Str} {F : Fd}
end
end Dx

set_option Elab.async false
set_option linter.all false
set_option maxRecDepth 100000
set_option maxHeartbeats 1000000
namespace Dx
open PySem PySem.Spec PyProof.Rows L2
variable [Tbs]

/-! ### the rules that a printed proof names: all by the context of the world -/
def frzE (f : List Sl → R (D × List Sl)) (ρ : List Sl) : R (D × List Sl) := (f ρ).bind fun p => if frzD p.1 then .ok p else .bad
def vB (N : List Str) (sc : Scope) (i : Nat) (x : Str) : Bool := decide (N[i]? = some x) && visB sc x && !(x == ("__debug__" : Str)) && !(x == ("__classdict__" : Str))
def gB (sc : Scope) (x : Str) : Bool := decide (sc.names.lookup x = some .globalImplicit) && !(x == ("__debug__" : Str)) && !(x == ("__name__" : Str))
structure VOk (X : Cx) (i : Nat) (x : Str) : Prop where
  n : X.N[i]? = some x
  v : Vis X.env.scope x
  d : (x == ("__debug__" : Str)) = false
  c : (x == ("__classdict__" : Str)) = false
structure GOk (X : Cx) (sc : Scope) (x : Str) : Prop where
  g : Gl X x
  l : sc.names.lookup x = some .globalImplicit
  d : (x == ("__debug__" : Str)) = false
  n : (x == ("__name__" : Str)) = false
section
variable {W : Wd} {N : List Str} {sc : Scope} {k j : Nat} {E : XK} {X : Cx} {B : Bs} {a b c e : Expr} {es : List Expr} {f g h : List Sl → R (D × List Sl)} {u v : List Sl → R (Bool × List Sl)} {l : List Sl → R (List D × List Sl)} {pos p np cpos apos : Pos} {i : Nat} {x : Str} {kk : Nat}
theorem XIs.vo (hX : XIs W N sc k E X) (h : vB N sc i x = true) : VOk X i x := by
  unfold vB at h
  simp only [Bool.and_eq_true, Bool.not_eq_true'] at h
  exact ⟨hX.nm h.1.1.1, hX.vis h.1.1.2, h.1.2, h.2⟩
theorem XIs.go (hX : XIs W N sc k E X) (h : gB sc x = true) : GOk X sc x := by
  unfold gB at h
  simp only [Bool.and_eq_true, Bool.not_eq_true'] at h
  exact ⟨hX.gl h.1.1, of_decide_eq_true h.1.1, h.1.2, h.2⟩
theorem q_own (ho : PE X e (tO B E f)) : PE X e (tE B E (frzE f)) :=
  weakE (pe_frz ho) fun σ H Q ⟨Fz, ρ, I, q⟩ => by
    refine ⟨Fz, ρ, I, ?_⟩
    have q : FinG rD B E σ Q Fz H ((f ρ).bind fun p => if frzD p.1 then .ok p else .bad) := q
    cases ef : f ρ with
    | exc c d => rw [ef] at q; exact q
    | bad => rw [ef] at q; exact q
    | ok p =>
      rw [ef] at q
      obtain ⟨hf, q⟩ := fin_if (α := D) q
      intro v H1 F1 I1 g1 ⟨x, ev, ow, hn, ap⟩
      subst ev
      obtain ⟨w, hw, ni, mu⟩ := ow.there
      have nz : ¬ F1 x := ow.nofz I1.fzs
      refine ⟨x, w, rfl, hw, mu, fun od => ?_⟩
      have xe := ext_put (o := .frz od w) hw ni nz
      have I2 : Iv B F1 (upd H1 x (.frz od w)) σ p.2 := I1.step xe (fzs_put I1.fzs nz) (fun y hy => by cases hy; exact .inl hn) fun y z hz q => ap y z hz q
      exact q (.ref x) _ F1 I2 (g1.trans xe.ge) (den_lock I1.fzs (ow.brw (frz_ins hf)) hw ni nz).2
theorem q_v (o : VOk X i x) : PE X (.Name x pos) (tE B E (evV i)) := de_v o.n o.v o.d o.c
theorem q_int {z : Int} : PE X (.Constant (.int z) kk pos) (tE B E (evLit (.int z))) := de_const pe_int fun _ _ => .int z
theorem q_bl {z : Bool} : PE X (.Constant (.bool z) kk pos) (tE B E (evLit (.bl z))) := de_const pe_bl fun _ _ => .bl z
theorem q_non : PE X (.Constant .none kk pos) (tE B E (evLit .non)) := de_const pe_non fun _ _ => .non
theorem q_str {z : Str} : PE X (.Constant (.str z) kk pos) (tE B E (evLit (.str z))) := de_const pe_str fun _ _ => .str z
/-- a constant of the module -/
structure GC (W : Wd) (x : Str) (d : D) : Prop where
  ex : ∃ (u : Value) (v : V), W.mg x = some u ∧ RelV v u ∧ ∀ Fz H, W.gp H → Den W.K Fz H v d
/-! operators -/
section
variable (hX : XIs W N sc k E X) (hB : BOk W B)
include hX hB
theorem q_eq (ha : PE X a (tE B E f)) (hb : PE X b (tE B E g)) : PE X (.Compare a [.Eq] [b] pos) (tE B E (ev2 eqO f g)) := de_cmp (op_eqF hX.hu) (rAns_D eqO_lit) (hX.kk hB) (nobehind b (by decide) (by decide)) ha hb
theorem q_ge (ha : PE X a (tE B E f)) (hb : PE X b (tE B E g)) : PE X (.Compare a [.GtE] [b] pos) (tE B E (ev2 geO f g)) := de_cmp op_ge r_ge (hX.kk hB) (nobehind b (by decide) (by decide)) ha hb
theorem q_mul (ha : PE X a (tE B E f)) (hb : PE X b (tE B E g)) : PE X (.BinOp a .Mult b pos) (tE B E (ev2 mulO f g)) := de_bin op_mulW r_mul (hX.kk hB) ha hb
theorem q_div (ha : PE X a (tE B E f)) (hb : PE X b (tE B E g)) : PE X (.BinOp a .FloorDiv b pos) (tE B E (ev2 divO f g)) := de_bin op_fdivW r_div (hX.kk hB) ha hb
theorem q_mod (ha : PE X a (tE B E f)) (hb : PE X b (tE B E g)) : PE X (.BinOp a .Mod b pos) (tE B E (ev2 modO f g)) := de_bin op_mod r_mod (hX.kk hB) ha hb
theorem q_pow (ha : PE X a (tE B E f)) (hb : PE X b (tE B E g)) : PE X (.BinOp a .Pow b pos) (tE B E (ev2 powO f g)) := de_bin op_powX r_pow (hX.kk hB) ha hb
theorem q_ix (hn : nslE b = true) (ha : PE X a (tE B E f)) (hb : PE X b (tE B E g)) : PE X (.Subscript a b pos) (tE B E (ev2 ixO f g)) := de_ix hX.hu (hX.kk hB) hn ha hb
theorem q_ixv (o : VOk X i x) (hn : nslE b = true) (hb : PE X b (tE B E g)) : PE X (.Subscript (.Name x np) b pos) (tE B E (evIxV i g)) := de_ixv hX.hu (hX.kk hB) o.n o.v o.d o.c hn hb
end
/-! a + b as data: ints, texts, tuples, lists -/
def add2O (x y : D) : Option D := match catO x y with
  | some z => some z
  | none => addO x y
theorem q_add (hX : XIs W N sc k E X) (hB : BOk W B) (ha : PE X a (tE B E f)) (hb : PE X b (tE B E g)) : PE X (.BinOp a .Add b pos) (tE B E (ev2 add2O f g)) := by
  refine weakE (pe_frz2 (pe_op (op_addA.or op_catR) ha hb)) fun σ H Q ⟨Fz, ρ, I, q⟩ => ?_
  refine monoG (tG_bind I q) fun x H1 ⟨F1, ρ1, dx, I1, d1, g1, e1, q1⟩ => monoG (tG_bind I1 q1) fun y H2 ⟨F2, ρ2, dy, I2, d2, g2, e2, q2⟩ => ?_
  obtain ⟨z, ez, b⟩ := back_of q2
  have hK := hX.kk hB
  have ez : add2O dx dy = some z := ez
  unfold add2O at ez
  have d1 : Den B.K F2 H2 x dx := d1.mono g2
  have d2 : Den B.K F2 H2 y dy := d2
  split at ez
  · rename_i w hw
    cases ez
    refine .inr (r_cat (K := X.K) B F2 H2 σ ρ2 x y dx dy z _ hK I2 d1 d2 hw fun v H' Fz' I' g' o => ?_)
    obtain ⟨a, rfl, ow, h0, ap⟩ := o
    obtain ⟨o, ho, ni, mu⟩ := ow.there
    have nz : ¬ Fz' a := ow.nofz I'.fzs
    have isl : frzD z = true := by
      unfold catO at hw
      split at hw
      · split at hw
        · cases hw; rfl
        · cases hw
      · cases hw
    refine .inr ⟨a, o, rfl, ho, mu, fun od => ?_⟩
    have xe := ext_put (o := .frz od o) ho ni nz
    have I3 : Iv B Fz' (upd H' a (.frz od o)) σ ρ2 := I'.step xe (fzs_put I'.fzs nz) (fun y hy => by cases hy; exact .inl h0) fun y z hz q => ap y z hz q
    exact b _ _ Fz' I3 (g'.trans xe.ge) (den_lock I'.fzs (ow.brw (frz_ins isl)) ho ni nz).2
  · exact .inl (r_add (K := X.K) B F2 H2 σ ρ2 x y dx dy z _ hK I2 d1 d2 ez fun v H' Fz' I' g' o => .inl (b v H' Fz' I' g' o))
/-! calls of built-ins -/
section
variable (hX : XIs W N sc k E X) (hB : BOk W B)
include hX hB
theorem q_lenv (hm : W.mg "len" = none) (o : GOk X sc "len") (o2 : VOk X i x) : PE X (.Call (.Name "len" p) [.Name x np] [] pos) (tE B E (evLenV i)) := de_lenv (hX.kk hB) o.g (hX.noName hm) o2.n o2.v o2.d o2.c
theorem q_abs (hm : W.mg "abs" = none) (o : GOk X sc "abs") (hs : nsE e = true) (ha : PE X e (tE B E f)) : PE X (.Call (.Name "abs" p) [e] [] pos) (tE B E (evL absO (evCons f evNil))) := de_callB call_abs r_abs (hX.kk hB) o.g (hX.noName hm) rfl o.n o.d hs rfl (da_cons hs ha da_nil)
theorem q_intf (hm : W.mg "int" = none) (o : GOk X sc "int") (hs : nsE e = true) (ha : PE X e (tE B E f)) : PE X (.Call (.Name "int" p) [e] [] pos) (tE B E (evL intF (evCons f evNil))) := de_callTy call_int1 r_intF (hX.kk hB) o.g (hX.noName hm) rfl o.n o.d hs rfl (da_cons hs ha da_nil)
theorem q_max (hm : W.mg "max" = none) (o : GOk X sc "max") (hs : nsE a = true) (hs2 : nsE b = true) (ha : PE X a (tE B E f)) (hb : PE X b (tE B E g)) : PE X (.Call (.Name "max" p) [a, b] [] pos) (tE B E (evL maxO (evCons f (evCons g evNil)))) := de_callB (call_max2 hX.calm) r_max (hX.kk hB) o.g (hX.noName hm) rfl o.n o.d hs (by simp [hs2]) (da_cons hs ha (da_cons hs2 hb da_nil))
theorem q_min (hm : W.mg "min" = none) (o : GOk X sc "min") (hs : nsE a = true) (hs2 : nsE b = true) (ha : PE X a (tE B E f)) (hb : PE X b (tE B E g)) : PE X (.Call (.Name "min" p) [a, b] [] pos) (tE B E (evL minO (evCons f (evCons g evNil)))) := de_callB (call_min2 hX.calm) r_min (hX.kk hB) o.g (hX.noName hm) rfl o.n o.d hs (by simp [hs2]) (da_cons hs ha (da_cons hs2 hb da_nil))
theorem q_all (hm : W.mg "all" = none) (o : GOk X sc "all") (hs : nsE e = true) (ha : PE X e (tE B E f)) : PE X (.Call (.Name "all" p) [e] [] pos) (tE B E (evL allO (evCons f evNil))) := de_callB (cr_all hX.calm) r_all (hX.kk hB) o.g (hX.noName hm) rfl o.n o.d hs rfl (da_cons hs ha da_nil)
theorem q_any (hm : W.mg "any" = none) (o : GOk X sc "any") (hs : nsE e = true) (ha : PE X e (tE B E f)) : PE X (.Call (.Name "any" p) [e] [] pos) (tE B E (evL anyO (evCons f evNil))) := de_callB (cr_any hX.calm) r_any (hX.kk hB) o.g (hX.noName hm) rfl o.n o.d hs rfl (da_cons hs ha da_nil)
theorem q_repr (hsys : ∃ o, W.K.lookup sysModules = some o) (hm : W.mg "repr" = none) (o : GOk X sc "repr") (hs : nsE e = true) (ha : PE X e (tE B E f)) : PE X (.Call (.Name "repr" p) [e] [] pos) (tE B E (evL reprO (evCons f evNil))) := de_callB (call_reprF hX.grd hX.hu (by rw [hX.hK]; exact hsys)) r_repr (hX.kk hB) o.g (hX.noName hm) rfl o.n o.d hs rfl (da_cons hs ha da_nil)
end
end
end Dx

set_option Elab.async false
set_option linter.all false
set_option maxRecDepth 100000
set_option maxHeartbeats 1000000
namespace Dx
open PySem PySem.Spec PyProof.Rows L2
variable [Tbs]

section
variable {W : Wd} {N : List Str} {sc : Scope} {k j : Nat} {E : XK} {X : Cx} {B : Bs} {a b c e : Expr} {es : List Expr} {f g h : List Sl → R (D × List Sl)} {u v : List Sl → R (Bool × List Sl)} {l : List Sl → R (List D × List Sl)} {pos p np cpos apos : Pos} {i : Nat} {x : Str} {kk : Nat}
variable (hX : XIs W N sc k E X) (hB : BOk W B)
section
include hX hB
theorem q_tne (ha : PE X a (tE B E f)) (hb : PE X b (tE B E g)) : PT X (.Compare a [.NotEq] [b] pos) (tT B E (evB (ev2 neO f g))) := dt_cmp (op_neF hX.hu) (rAns_D neO_lit) (hX.kk hB) (nobehind b (by decide) (by decide)) ha hb
theorem q_tlt (ha : PE X a (tE B E f)) (hb : PE X b (tE B E g)) : PT X (.Compare a [.Lt] [b] pos) (tT B E (evB (ev2 ltO f g))) := dt_cmp op_lt r_lt (hX.kk hB) (nobehind b (by decide) (by decide)) ha hb
theorem q_tgt (ha : PE X a (tE B E f)) (hb : PE X b (tE B E g)) : PT X (.Compare a [.Gt] [b] pos) (tT B E (evB (ev2 gtO f g))) := dt_cmp op_gt r_gt (hX.kk hB) (nobehind b (by decide) (by decide)) ha hb
/-! chains of ints -/
end
end
end Dx

set_option Elab.async false
set_option linter.all false
set_option maxRecDepth 100000
set_option maxHeartbeats 1000000
namespace Dx
open PySem PySem.Spec PyProof.Rows L2
variable [Tbs]

section
variable {W : Wd} {N : List Str} {sc : Scope} {k j : Nat} {E : XK} {X : Cx} {B : Bs} {a b c e : Expr} {es : List Expr} {f g h : List Sl → R (D × List Sl)} {u v : List Sl → R (Bool × List Sl)} {l : List Sl → R (List D × List Sl)} {pos p np cpos apos : Pos} {i : Nat} {x : Str} {kk : Nat}
/-! -e -/
def evNeg (f : List Sl → R (D × List Sl)) (ρ : List Sl) : R (D × List Sl) := (f ρ).bind fun p => match p.1 with
  | .int z => .ok (.int (-z), p.2)
  | _ => .bad
theorem q_neg (ha : PE X a (tE B E f)) : PE X (.UnaryOp .USub a pos) (tE B E (evNeg f)) :=
  weakE (pe_un un_neg ha) fun σ H Q ⟨Fz, ρ, I, q⟩ => monoG (tG_bind I q) fun v H1 ⟨F1, ρ1, d, I1, d1, g1, e1, q1⟩ => by
    cases d with
    | int z => cases d1; exact ⟨z, rfl, q1 _ H1 F1 I1 .refl (.int _)⟩
    | _ => exact q1.elim
/-! slices as data -/
def slA (lo hi : Option Int) (d : D) : Option D := match slLO lo hi d with
  | some z => some z
  | none => slTO lo hi d
def evSl3 (f : List Sl → R (D × List Sl)) (p q : Option (List Sl → R (D × List Sl))) : List Sl → R (D × List Sl) := evSl slA f p q
/-! the slots' rules -/
theorem q_asS {gs : List Sl → R (List Ar × List Sl)} (o : VOk X i x) (hr : PA X es (tG rAs B E gs)) : PA X (.Name x np :: es) (tG rAs B E (asS i gs)) := das_s o.n o.v o.d o.c hr
section
variable (hX : XIs W N sc k E X) (hB : BOk W B)
include hX hB
theorem q_extend (o : VOk X i x) (hbase : attributeBase (.Name x np) "extend" X.env (eval (.Name x np) X.env) = eval (.Name x np) X.env)
    (hfew : ((backTo cpos (starEach (e :: es) X.env)).all (fun x => !x.1) && (backToKw cpos (keywordEach [] X.env)).all (fun x => x.1.isSome) && decide ((e :: es).length + ([] : List Keyword).length + (if ([] : List Keyword).isEmpty then 0 else 1) < 30)) = true)
    (hline : (apos.endLine == cpos.line) = true) (hs : nsE e = true) (hss : es.all nsE = true) (ha : PA X (e :: es) (tA B E l)) : PE X (.Call (.Attribute (.Name x np) "extend" apos) (e :: es) [] cpos) (tE B E (evMt extF i l)) :=
  de_mt (hX.kk hB) PySem.F.slot_list_extend PySem.F.type_list_extend mt_extF m_ext o.n o.v o.d o.c ha hbase hfew hline hs hss
end
theorem q_put {tpos : Pos} (hX : XIs W N sc k E X) (o : VOk X i x) (he : PE X e (tE B E f)) (hk : PE X c (tE B E g))
    (hs : swapsWithSole [.Subscript (.Name x np) c tpos] e pos.line X.env = pure false) (hw : swappedStores [.Subscript (.Name x np) c tpos] e X.env = pure none)
    (h1 : (assignEach [.Subscript (.Name x np) c tpos] X.env).map (·.2) = [assign (.Subscript (.Name x np) c tpos) X.env])
    (ha : ∀ v, assign (.Subscript (.Name x np) c tpos) X.env v = (do
      let ov ← holding [v] (eval (.Name x np) X.env)
      let iv ← holding [v, ov] (eval c X.env)
      standAt tpos
      holding [v, ov, iv] (setItem ov iv v)
      release [v, ov, iv] [])) : PS X (.Assign [.Subscript (.Name x np) c tpos] e pos) (tS B E (stPut i f g)) := ds_put hX.hu o.n o.v o.d o.c he hk hs hw h1 ha
/-! comprehensions: by any context of the block -/
def bfB (scope sc : Scope) (x : Str) : Bool := (scope.names.lookup x == some .cell) || decide ((relS scope sc).names.lookup x = some .local)
structure XBk (W : Wd) (N : List Str) (scope sc : Scope) (k : Nat) (Y : Cx) : Prop extends XIs W N (relS scope sc) k E0 Y where
  bf : ∀ x, bfB scope sc x = true → Y.fn x = true ∨ Y.env.scope.names.lookup x = some .local
theorem xbk (wo : WOk W) (hX : XIs W N sc k E X) {s : Shared} {H : Hp} {scope : Scope} {cl : List (Str × Addr)} {C : Addr} {fp : List Addr} : XBk W N scope sc k (X.blk s H scope (compEnvC scope cl C X.env) fp) :=
  ⟨hX.blk wo, fun x h => blk_fn (hX.blk wo) h⟩
section
variable {iter tg elt : Expr} {ifs : List Expr} {s : List Sl → R (List D × List Sl)} {t : D → List Sl → Option (List Sl)} {ws : List Nat} {scope : Scope} {own : List (Str × Nat)}
theorem q_lc (wo : WOk W) (hX : XIs W N sc k E X) (hB : BOk W B) (hi : PI X tg iter (tI B E s)) (ok : blkC N sc scope own = true) (hw : (ws.all fun j => decide (j ∈ own.map (·.2))) = true)
    (hg : ∀ B' : Bs, BOk W B' → ∀ Y : Cx, XBk W N scope sc k Y → PG Y tg (tG1 B' ws t)) (ht : ∀ B' : Bs, BOk W B' → ∀ Y : Cx, XBk W N scope sc k Y → PTs Y ifs (tT B' E0 u)) (he : ∀ B' : Bs, BOk W B' → ∀ Y : Cx, XBk W N scope sc k Y → PE Y elt (tE B' E0 f))
    (hs : ∀ x, foldedSetIterable iter X.env x = pure x) : PE X (.ListComp elt [⟨tg, iter, ifs, 0⟩] scope pos) (tO B E (evLc (own.map (·.2)) s t u f)) :=
  do_lc hX.calm hX.nN hi (by rw [hX.hN, hX.hsc]; exact blkOk_by ok) (fun j hj => of_decide_eq_true (List.all_eq_true.mp hw j hj)) (fun B' l _ _ _ _ _ => hg B' (hB.le wo l) _ (xbk wo hX)) (fun B' l _ _ _ _ _ => ht B' (hB.le wo l) _ (xbk wo hX)) (fun B' l _ _ _ _ _ => he B' (hB.le wo l) _ (xbk wo hX)) hs
end
/-! a, b = e, f by names -/
section
variable {i2 i3 : Nat} {y z : Str} {px py pz pt : Pos} {kt k2 : Nat} {pt2 : Pos} {gm : List Sl → R (List (Bool × D) × List Sl)}
end
/-! slices -/
end
end Dx

set_option Elab.async false
set_option linter.all false
set_option maxRecDepth 100000
set_option maxHeartbeats 1000000
namespace Dx
open PySem PySem.Spec PyProof.Rows L2
variable [Tbs]

/-! ### methods of texts -/
def strsD : List D → Option (List Str)
  | [] => some []
  | .str x :: l => (strsD l).map fun r => x :: r
  | _ => none
def isStr : D → Bool
  | .str _ => true
  | _ => false
def evS1 (F : D → D → Option D) (f g : List Sl → R (D × List Sl)) (ρ : List Sl) : R (D × List Sl) := (f ρ).bind fun p => if isStr p.1 then (g p.2).bind fun q => (ofO (F p.1 q.1)).bind fun z => .ok (z, q.2) else .bad
def splitO (x y : D) : Option D := match x, y with
  | .str a, .str b => if !(b.length == 0) && decide (a.length + 2 ≤ sizeLine) then some (.lst ((Txt.split a b).map .str)) else none
  | _, _ => none
def joinO (x y : D) : Option D := match x, y with
  | .str a, .lst l => (strsD l).bind fun ys => if decide ((ys.map (·.length)).sum + ys.length * a.length ≤ 16777216) then some (.str (Txt.join a ys)) else none
  | .str a, .tup l => (strsD l).bind fun ys => if decide ((ys.map (·.length)).sum + ys.length * a.length ≤ 16777216) then some (.str (Txt.join a ys)) else none
  | _, _ => none
def evSplit (f g : List Sl → R (D × List Sl)) : List Sl → R (D × List Sl) := evS1 splitO f g
def evJoin (f g : List Sl → R (D × List Sl)) : List Sl → R (D × List Sl) := evS1 joinO f g
section
variable {W : Wd} {N : List Str} {sc : Scope} {k j : Nat} {E : XK} {X : Cx} {B : Bs} {a b c e o : Expr} {es : List Expr} {f g h : List Sl → R (D × List Sl)} {u v : List Sl → R (Bool × List Sl)} {l : List Sl → R (List D × List Sl)} {pos p p2 np cpos apos : Pos} {i : Nat} {x : Str} {kk : Nat}
/-! {} -/
def evDic0 (ρ : List Sl) : R (D × List Sl) := .ok (.dic [], ρ)
theorem do_dic0 : PE X (.Dict [] [] pos) (tO B E evDic0) :=
  weakE pe_dnewK fun σ H Q ⟨Fz, ρ, I, q⟩ p hp => by
    obtain ⟨I2, g2, ap, h0, nz⟩ := I.laid hp (.dK [])
    exact q _ _ Fz I2 g2 ⟨p, rfl, ⟨[], upd_same, .nil⟩, h0, ap⟩
/-! list of a variable that need not be shared -/
def evListV (i : Nat) (ρ : List Sl) : R (D × List Sl) := (ofO (viewD ρ i)).bind fun d => (ofO (listO [d])).bind fun z => .ok (z, ρ)
/-! isinstance -/
def tyS : D → Option String
  | .non => some "NoneType"
  | .bl _ => some "bool"
  | .int _ => some "int"
  | .str _ => some "str"
  | .tup _ => some "tuple"
  | .lst _ => some "list"
  | .dic _ => some "dict"
  | _ => none
/-- the answers for a class: by the names of built-in types, by those of own classes -/
structure IsiT where
  ty : List (String × Bool)
  ins : List (Str × Bool)
def isiF (t : IsiT) (d : D) : Option D := match d with
  | .ins c _ => (t.ins.lookup c).map .bl
  | d => (tyS d).bind fun s => (t.ty.lookup s).map .bl
def evIsi (t : IsiT) (f : List Sl → R (D × List Sl)) (ρ : List Sl) : R (D × List Sl) := (f ρ).bind fun p => (ofO (isiF t p.1)).bind fun z => .ok (z, p.2)
/-- what the class must have so that its instances can be asked -/
structure InsTy (W : Wd) (c : Str) : Prop where
  cls : Cls W.K (He.ga W.K c)
  a : PySem.W.findIn W.K (.ref (He.ga W.K c)) "__class__" = some (some (.builtin "object.__class__"))
  m : PySem.W.mroIn W.K (He.ga W.K c) (.type "object") = some true
structure IsiOk (W : Wd) (t : IsiT) (u : Value) : Prop where
  ty : ∀ p ∈ t.ty, PySem.W.kitOne W.K (.type p.1) u = some p.2
  ins : ∀ p ∈ t.ins, InsTy W p.1 ∧ PySem.W.kitOne W.K (.ref (He.ga W.K p.1)) u = some p.2
  hn : PySem.W.specialIn W.K (.builtin "object.__class__") "__get__" = some (some (.builtin "getset_descriptor.__get__"))
  htk : PySem.W.takesIn W.K (.builtin "object.__class__") = some true
theorem lookup_memS {β : Type} {tab : List (String × β)} {c : String} {F : β} (h : tab.lookup c = some F) : (c, F) ∈ tab := by
  induction tab with
  | nil => cases h
  | cons p r ih =>
    obtain ⟨c', F'⟩ := p
    rw [List.lookup_cons] at h
    cases e : c == c' with
    | true => rw [e] at h; cases h; rw [beq_iff_eq.mp e]; exact List.mem_cons_self
    | false => rw [e] at h; exact List.mem_cons_of_mem _ (ih h)
theorem lookup_memB {β : Type} {tab : List (Str × β)} {c : Str} {F : β} (h : tab.lookup c = some F) : (c, F) ∈ tab := by
  induction tab with
  | nil => cases h
  | cons p r ih =>
    obtain ⟨c', F'⟩ := p
    rw [List.lookup_cons] at h
    cases e : c == c' with
    | true => rw [e] at h; cases h; rw [beq_iff_eq.mp e]; exact List.mem_cons_self
    | false => rw [e] at h; exact List.mem_cons_of_mem _ (ih h)
theorem isi_ty {Fz : Addr → Prop} {H : Hp} {v : V} {d z : D} {t : IsiT} {u : Value} (ok : IsiOk W t u) (h : Den W.K Fz H v d) (e : isiF t d = some z) : ∃ (tv : Value) (r : Bool), TyX W.K H v tv ∧ PySem.W.kitOne W.K tv u = some r ∧ z = .bl r := by
  have bt : ∀ {s : String}, tyS d = some s → (∀ c fs, d ≠ .ins c fs) → ∃ r, PySem.W.kitOne W.K (.type s) u = some r ∧ z = .bl r := fun {s} es n => by
    have e' : (tyS d).bind (fun s => (t.ty.lookup s).map .bl) = some z := by
      cases d with
      | ins c fs => exact (n c fs rfl).elim
      | _ => exact e
    rw [es] at e'
    obtain ⟨r, e1, e2⟩ := map_some (show (t.ty.lookup s).map D.bl = some z from e')
    exact ⟨r, ok.ty _ (lookup_memS e1), e2.symm⟩
  cases h with
  | non => obtain ⟨r, h1, h2⟩ := bt rfl (fun _ _ z => by cases z); exact ⟨_, r, .base .non, h1, h2⟩
  | bl b => obtain ⟨r, h1, h2⟩ := bt rfl (fun _ _ z => by cases z); exact ⟨_, r, .base (.bl b), h1, h2⟩
  | int n => obtain ⟨r, h1, h2⟩ := bt rfl (fun _ _ z => by cases z); exact ⟨_, r, .base (.int n), h1, h2⟩
  | str y => obtain ⟨r, h1, h2⟩ := bt rfl (fun _ _ z => by cases z); exact ⟨_, r, .base (.str y), h1, h2⟩
  | tup q l =>
    obtain ⟨r, h1, h2⟩ := bt rfl (fun _ _ z => by cases z)
    rcases q with q | ⟨ob, its, n, lk, hc, _⟩
    · exact ⟨_, r, .base (.tup q), h1, h2⟩
    · exact ⟨_, r, .kTuple lk hc, h1, h2⟩
  | lst q l =>
    obtain ⟨r, h1, h2⟩ := bt rfl (fun _ _ z => by cases z)
    obtain ⟨ob, q⟩ := q
    exact ⟨_, r, .base (.frz q), h1, h2⟩
  | dic q l => obtain ⟨r, h1, h2⟩ := bt rfl (fun _ _ z => by cases z); exact ⟨_, r, .fDict q, h1, h2⟩
  | @ins a dx c fs ds fz q l =>
    obtain ⟨r, e1, e2⟩ := map_some (show (t.ins.lookup c).map D.bl = some z from e)
    obtain ⟨it, h1⟩ := ok.ins _ (lookup_memB e1)
    exact ⟨_, r, .base (.ins q it.cls it.a ok.hn ok.htk it.m), h1, e2.symm⟩
  | exn _ _ _ => cases e
end
end Dx

set_option Elab.async false
set_option linter.all false
set_option maxRecDepth 100000
set_option maxHeartbeats 1000000
namespace Dx
open PySem PySem.Spec PyProof.Rows L2
variable [Tbs]

/-! ### enumerate(x, k), x a list -/
section
variable {W : Wd} {N : List Str} {sc : Scope} {k : Nat} {E : XK} {X : Cx} {B : Bs} {e e2 : Expr} {elts : List Expr} {kk : Nat} {tpos p pos : Pos} {l : List Sl → R (List D × List Sl)}
def enu2O : List D → Option (List D)
  | [.lst l, .int c] => if decide (-(2 ^ 63) ≤ c ∧ c < 2 ^ 63) then some (enuD c l) else none
  | _ => none
/-! list(range(n)) -/
def rgO : D → Option D
  | .int n => if decide (-(2 ^ 62) ≤ n ∧ n ≤ 16777216) then some (.lst (rngD 0 n.toNat)) else none
  | _ => none
def evRg (f : List Sl → R (D × List Sl)) (ρ : List Sl) : R (D × List Sl) := (f ρ).bind fun p => (ofO (rgO p.1)).bind fun z => .ok (z, p.2)
theorem den_rg {K : Frag} {Fz : Addr → Prop} {H : Hp} (n : Int) : DenL K Fz H (rgV 0 n) (rngD 0 n.toNat) := by
  have gen : ∀ l : List Nat, DenL K Fz H (l.map fun i => V.int (0 + (i : Nat))) (l.map fun (i : Nat) => D.int (0 + i)) := by
    intro l
    induction l with
    | nil => exact .nil
    | cons a r ih => exact .cons (.int _) ih
  unfold rgV rngD
  rw [Int.sub_zero]
  exact gen _
theorem q_listrg {f : List Sl → R (D × List Sl)} {p2 pos2 : Pos} (hX : XIs W N sc k E X) (hB : BOk W B) (hm : W.mg "list" = none) (o : GOk X sc "list") (hm2 : W.mg "range" = none) (o2 : GOk X sc "range") (hs : nsE e = true) (ha : PE X e (tE B E f)) :
    PE X (.Call (.Name "list" p) [.Call (.Name "range" p2) [e] [] pos2] [] pos) (tO B E (evRg f)) :=
  weakE (pe_listRg hX.calm o.g (hX.noName hm) (prg_1 o2.g (hX.noName hm2) ha (star_cons hs))) fun σ H Q ⟨Fz, ρ, I, q⟩ => by
    refine monoG (tG_bind I q) fun x H1 ⟨F1, ρ1, dx, I1, d1, g1, e1, q1⟩ => ?_
    obtain ⟨z, ez, q2⟩ := fin_o q1
    cases dx with
    | int n =>
      cases (show Den B.K F1 H1 x (.int n) from d1)
      obtain ⟨hc, ez⟩ := if_some (show (if decide (-(2 ^ 62) ≤ n ∧ n ≤ 16777216) = true then some (D.lst (rngD 0 n.toNat)) else none) = some z from ez)
      subst ez
      have hc := of_decide_eq_true hc
      exact ⟨n, rfl, ⟨by decide, by decide, hc.1, by omega, by omega⟩, BackO.lst I1 (den_rg n) q2⟩
    | _ => cases ez
end
end Dx

set_option Elab.async false
set_option linter.all false
set_option maxRecDepth 100000
set_option maxHeartbeats 4000000
/-! len(set(texts)) -/
namespace Dx
open PySem PySem.Spec PyProof.Rows L2
variable [Tbs]

/-- how many of the first i texts are unlike -/
def cntS (ys : List Str) : Nat → Nat
  | 0 => 0
  | i + 1 => if (ys.take i).any (· == ys.getD i Str.empty) then cntS ys i else cntS ys i + 1
theorem cntS_le (ys : List Str) : ∀ i, cntS ys i ≤ i
  | 0 => Nat.le_refl _
  | i + 1 => by
    have := cntS_le ys i
    unfold cntS
    split <;> omega
abbrev hasS (ys : List Str) (i : Nat) : Str → Bool := fun q => (ys.take i).any (· == q)
theorem hasS_succ {ys : List Str} {i : Nat} (h : i < ys.length) (q : Str) : (hasS ys i q || decide (q = ys.getD i Str.empty)) = hasS ys (i + 1) q := by
  unfold hasS
  rw [List.take_add_one, List.getElem?_eq_getElem h, List.any_append, List.getD_eq_getElem?_getD, List.getElem?_eq_getElem h]
  show (_ || decide (q = ys[i])) = (_ || [ys[i]].any (· == q))
  congr 1
  rw [List.any_cons, List.any_nil, Bool.or_false]
  by_cases e : q = ys[i]
  · subst e; simp
  · have n : (ys[i] == q) = false := by rw [beq_eq_false_iff_ne]; exact fun z => e z.symm
    rw [n]; exact decide_eq_false e
section
variable {prog : Program} {w : World} {A : Around} {R : Result → Shared → Prop} {I Z : Addr} {fp wr : List Addr} {G : Array GenState → Array GenState → Prop} {n : Nat} {P : Nat → Value → Prop} {St : Nat → Shared → Prop}
/-- the loop that puts the texts into the set at Z -/
theorem set_loop (W : WalksS prog w A.in1 I fp wr G n P St) (off : Z ∉ fp) (ys : List Str) (len : ys.length = n) (few : n + 1 < scanBound) (val : ∀ i v, P i v → ∃ t, v = .str (ys.getD i Str.empty) t) :
    ∀ (m i : Nat) (s : Shared), n - i = m → i ≤ n → St i s → s.heap.SetOf (strKind prog w) Z (hasS ys i) (cntS ys i) →
      (∀ s', Moved (Z :: wr) G s s' → s'.heap.SetOf (strKind prog w) Z (hasS ys n) (cntS ys n) → R (.ok (.ret .none)) s') → codeAny (model prog w) A (.builtin "set.update.loop" ⟨[.ref Z, .ref I], []⟩) R s := by
  have offW : Z ∉ wr := fun h => off (W.sub _ h)
  have inW : ∀ b ∈ wr, b ∈ Z :: wr := fun b => List.mem_cons_of_mem _
  have carry : ∀ {S : Str → Bool} {c : Nat} {h h' : Heap}, (∀ o, h.get? Z = some o → h'.get? Z = some o) → h.SetOf (strKind prog w) Z S c → h'.SetOf (strKind prog w) Z S c := fun k ⟨o, es, ep, t, ho, r⟩ => ⟨o, es, ep, t, k o ho, r⟩
  intro m
  induction m with
  | zero =>
    intro i s e le st set fin
    obtain rfl : i = n := by omega
    refine codeAny_builtin PyProof.Rows.F.entry_set_update_loop ?_
    rw [Around.under_plainId PyProof.Rows.F.plain_set_update_loop _]
    show wpAny _ A.in1 (pyNext (.ref I) >>= _) _ _ s
    exact wpAny_bind (W.done s _ _ st fun s' mv => wpAny_pure (fin s' (mv.mono inW) (carry (mv.heap Z · offW) set)))
  | succ m ih =>
    intro i s e le st set fin
    have lt : i < n := by omega
    refine codeAny_builtin PyProof.Rows.F.entry_set_update_loop ?_
    rw [Around.under_plainId PyProof.Rows.F.plain_set_update_loop _]
    show wpAny _ A.in1 (pyNext (.ref I) >>= _) _ _ s
    refine wpAny_bind (W.item i s _ _ lt st fun v s' hv st' mv => ?_)
    obtain ⟨t, rfl⟩ := val i v hv
    have set' := carry (mv.heap Z · offW) set
    show wpAny _ A.in1 (holding [Value.str (ys.getD i Str.empty) t] (setAdd Z (.str (ys.getD i Str.empty) t)) >>= _) _ _ s'
    refine wpAny_bind (wpAny_holding ?_)
    unfold setAdd
    refine wpAny_holding (wpAny_bind ((strKind prog w).pyHash (k := ys.getD i Str.empty) (strKind_is _ _ _ _) ?_))
    refine wpAny_setAddHashed_of (knd := strKind prog w) (s := { s' with toks := s'.toks + 1 }) (strKind_is _ _ _ _) rfl set' (by have := cntS_le ys i; omega) fun h' same set2 => ?_
    have set3 : h'.SetOf (strKind prog w) Z (hasS ys (i + 1)) (cntS ys (i + 1)) := SetOf_congr set2 (fun q => hasS_succ (by omega) q) rfl
    refine wpAny_pure ⟨plainId_quiet PyProof.Rows.F.plain_set_update_loop _, ih (i + 1) _ (by omega) lt (W.frame _ s' _ _ st' (Nat.le_succ _) fun b hb o eb => ?_) set3 fun s2 mv2 set4 => ?_⟩
    · exact (same.2 b fun z : b = Z => off (z ▸ hb)).trans eb
    · exact fin s2 (Moved.trans W.gtrans ((mv.mono inW).then_heap (Nat.le_succ _) fun b o nb eb => (same.2 b fun z : b = Z => nb (z ▸ List.mem_cons_self)).trans eb) mv2) set4
end
section
variable {prog : Program} {w : World} {A : Around} {E : Value → Shared → Prop} {s : Shared}
abbrev newSetO (led : Bool) : Obj := { cls := .type "set", dict := none, data := .set #[] 0 (.fresh 0 0 led) }
end
section
variable {W : Wd} {N : List Str} {sc : Scope} {k : Nat} {E : XK} {X : Cx} {B : Bs} {e : Expr} {f : List Sl → R (D × List Sl)} {p p2 pos pos2 : Pos}
def lenSetO (d : D) : Option D := match d with
  | .lst l => (strsD l).bind fun ys => if decide (ys.length ≤ 4000) then some (.int (cntS ys ys.length)) else none
  | .tup l => (strsD l).bind fun ys => if decide (ys.length ≤ 4000) then some (.int (cntS ys ys.length)) else none
  | _ => none
def evLenSet (f : List Sl → R (D × List Sl)) (ρ : List Sl) : R (D × List Sl) := (f ρ).bind fun p => (ofO (lenSetO p.1)).bind fun z => .ok (z, p.2)
end
end Dx

set_option Elab.async false
set_option linter.all false
set_option maxRecDepth 100000
set_option maxHeartbeats 1000000
namespace Dx
open PySem PySem.Spec PyProof.Rows L2
variable [Tbs]
end Dx

set_option Elab.async false
set_option linter.all false
set_option maxRecDepth 100000
set_option maxHeartbeats 1000000
/-! DxZd: starred elements, op=, a temporary handed on to be changed. -/
namespace Dx
open PySem PySem.Spec PyProof.Rows L2
variable [Tbs]
section
variable {W : Wd} {N : List Str} {sc : Scope} {k j : Nat} {E : XK} {X : Cx} {B : Bs} {a b c e o : Expr} {es : List Expr} {f g h : List Sl → R (D × List Sl)} {u v : List Sl → R (Bool × List Sl)} {l : List Sl → R (List D × List Sl)} {pos p p2 np cpos apos : Pos} {i : Nat} {x : Str} {F : Fd}
/-! ### starred elements -/
def starO : D → Option (List D)
  | .lst l => some l
  | .tup l => some l
  | _ => none
def evStar (f : List Sl → R (D × List Sl)) (l : List Sl → R (List D × List Sl)) (ρ : List Sl) : R (List D × List Sl) := (f ρ).bind fun p => (ofO (starO p.1)).bind fun xs => (l p.2).bind fun q => .ok (xs ++ q.1, q.2)
/-! ### x += e, x -= e for ints -/
def evAug (F : Int → Int → Int) (i : Nat) (f : List Sl → R (D × List Sl)) (ρ : List Sl) : R (D × List Sl) := match ρ[i]? with
  | some (.sh (.int m)) => (f ρ).bind fun p => match p.1 with
    | .int n => .ok (.int (F m n), p.2)
    | _ => .bad
  | _ => .bad
/-! ### f(g(..)): what was just made, handed on to be changed -/
def evCallT (F : Fd) (g : List Sl → R (D × List Sl)) (ρ : List Sl) : R (D × List Sl) := (g ρ).bind fun p => (F.sem [p.1]).bind fun q => .ok (q.1, p.2)
theorem de_callT (wo : WOk W) (hX : XIs W N sc k E X) (hB : BOk W B) (c : Cal W j x F) (hj : j ≤ k) (ho : F.own = false) (hm : F.md = [.mt]) (hg : sc.names.lookup x = some .globalImplicit) (hdb : (x == ("__debug__" : Str)) = false) (hns : nsE e = true) (ha : PE X e (tO B E g)) :
    PE X (.Call (.Name x p) [e] [] pos) (tE B E (evCallT F g)) := by
  obtain ⟨f, fd, ps, fn, hmg, hk, hb⟩ := c.ex
  refine weakE (pe_callG hX fn hj hb hmg hk hg hdb hns rfl (pa_cons ha pa_nil (star_cons hns))) fun σ H Q ⟨Fz, ρ, I, q⟩ =>
    monoG (tG_bind I q) fun v H1 ⟨F1, ρ1, d, I1, d1, g1, e1, q1⟩ => ?_
  obtain ⟨a, rfl, ow, h0, ap⟩ := d1
  have may : ∀ y, exA [.mt] [V.ref a] y → y = a := by
    rintro y ⟨n, h1, h2⟩
    cases n with
    | zero => cases h2; rfl
    | succ n => simp at h1
  refine ⟨hB.now wo I1, F1, [d], I1.fzs, ?_, ?_, ?_⟩
  · rw [hm, ← hB.K]; exact .cons ⟨a, rfl, ow⟩ .nil
  · rw [hm]
    intro i j' y z hij h1 h2 h3 h4
    cases i with
    | zero => cases j' with
      | zero => exact absurd rfl hij
      | succ n => simp at h4
    | succ n => simp at h1
  · rw [hm, ← hB.K, ho]
    cases es : F.sem [d] with
    | bad => rw [es] at q1; exact q1.elim
    | exc cc dd =>
      rw [es] at q1
      exact fun dx w H' Fz' xt f h1 h2 => q1 dx w H' Fz' (I1.ext.trans xt fun y hy => .inl (by rw [may y hy]; exact h0)) f h1 h2
    | ok r =>
      rw [es] at q1
      intro w H' Fz' xt f o r'
      exact q1 w H' Fz' (I1.step xt f (fun y hy => .inl (by rw [may y hy]; exact h0)) fun i b hb hy => ap i b hb (may b hy)) xt.ge r'
end
end Dx

set_option Elab.async false
set_option linter.all false
set_option maxRecDepth 100000
set_option maxHeartbeats 1000000
/-! DxZe: dict comprehensions, dict displays. -/
namespace Dx
open PySem PySem.Spec PyProof.Rows L2
variable [Tbs]
/-- a walk that fills a dict -/
theorem dc_it {J : It} {n : Nat} {G : Hp → Prop} {Y : Nat → Hp → V → Hp → Prop} (w : Walk J n G Y) {g : TG} {tt : TT} {tk tv : TE} {vs : List Nat} {σ : L2.St} {H1 : Hp} {D : Addr} {Qd : Hp → Prop} (Pv : Nat → Hp → Prop) (h0 : Pv 0 (upd H1 D (.dK []))) (hG : ∀ i H, i ≤ n → Pv i H → G H)
    (hs : ∀ i x H H', i < n → Pv i H → Y i H x H' → g x (wipe σ vs) H' fun σ2 H2 => wipe σ2 vs = wipe σ vs ∧ tt σ2 H2 fun b H3 =>
      if b = true then tk σ2 H3 fun y H4 => tv σ2 H4 fun z H5 => ∃ kvs k, y = kV k ∧ H5 D = some (.dK kvs) ∧ kvs.length < sizeLine ∧ Pv (i + 1) (upd H5 D (.dK (putK kvs k z))) else Pv (i + 1) H3) (hd : ∀ H, Pv n H → Qd H) :
    ∃ W : Nat → Nat → Hp → Prop, (∃ m, W 0 m (upd H1 D (.dK []))) ∧ ∀ i m H, W i m H →
      (J.stop i H ∧ Qd H) ∨ (J.go i H ∧ ∃ Nx : Hp → Prop, (∀ H', Nx H' → ∃ m', m' < m ∧ W (i + 1) m' H') ∧ ∀ x H', J.yld i H x H' → g x (wipe σ vs) H' fun σ2 H2 => wipe σ2 vs = wipe σ vs ∧ tt σ2 H2 fun b H3 =>
        if b = true then tk σ2 H3 fun y H4 => tv σ2 H4 fun z H5 => ∃ kvs k, y = kV k ∧ H5 D = some (.dK kvs) ∧ kvs.length < sizeLine ∧ Nx (upd H5 D (.dK (putK kvs k z))) else Nx H3) := by
  refine ⟨fun i m H => m = n - i ∧ i ≤ n ∧ Pv i H, ⟨n, by simp, Nat.zero_le _, h0⟩, fun i m H hw => ?_⟩
  obtain ⟨em, hi, p⟩ := hw
  by_cases hlt : i < n
  · exact .inr ⟨w.goes i H hlt (hG i H hi p), Pv (i + 1), fun H' p' => ⟨n - (i + 1), by omega, rfl, hlt, p'⟩, fun x H' y => hs i x H H' hlt p (w.yields i H x H' hlt (hG i H hi p) y)⟩
  · obtain rfl : i = n := by omega
    exact .inl ⟨w.stops H (hG _ H hi p), hd H p⟩
def strO : D → Option Str
  | .str x => some x
  | _ => none
def dcL (vs : List Nat) (t : D → List Sl → Option (List Sl)) (u : List Sl → R (Bool × List Sl)) (f g : List Sl → R (D × List Sl)) : List (Str × D) → List D → List Sl → R (List (Str × D) × List Sl)
  | acc, [], ρ => .ok (acc, ρ)
  | acc, d :: ds, ρ => (ofO (t d ρ)).bind fun ρ1 => (u ρ1).nox.bind fun p => match p.1 with
    | true => (f p.2).nox.bind fun q => (g q.2).nox.bind fun r => (ofO (strO q.1)).bind fun k => if decide (acc.length < sizeLine) = true then dcL vs t u f g (putD acc k r.1) ds (wipeR r.2 vs) else .bad
    | false => dcL vs t u f g acc ds (wipeR p.2 vs)
def evDc (vs : List Nat) (s : List Sl → R (List D × List Sl)) (t : D → List Sl → Option (List Sl)) (u : List Sl → R (Bool × List Sl)) (f g : List Sl → R (D × List Sl)) (ρ : List Sl) : R (D × List Sl) :=
  (s ρ).bind fun p => (dcL vs t u f g [] p.1 (wipeR p.2 vs)).bind fun q => .ok (.dic q.1, q.2)
section
variable {X : Cx} {B : Bs} {E : XK} {e c iter tg kx vx : Expr} {ifs : List Expr} {f h : List Sl → R (D × List Sl)} {s : List Sl → R (List D × List Sl)} {t : D → List Sl → Option (List Sl)} {u : List Sl → R (Bool × List Sl)} {pos : Pos} {i : Nat} {x : Str} {ws : List Nat} {scope : Scope} {own : List (Str × Nat)}
end
end Dx

set_option Elab.async false
set_option linter.all false
set_option maxRecDepth 100000
set_option maxHeartbeats 2000000
/-! DxZf: list(zip(a, b)), a and b lists, tuples, texts. -/
namespace Dx
open PySem PySem.Spec PyProof.Rows L2
variable [Tbs]
open Sem (wp)
section
variable {prog : Program} {w : World} {A : Around} {E : Value → Shared → Prop} {s : Shared} {z TI TO i1 i2 T : Addr} {fp1 fp2 : List Addr} {n1 n2 i : Nat} {P1 P2 : Nat → Value → Prop} {St1 St2 : Nat → Heap → Prop} {b : Bool} {oT : Obj}
/-- the next pair while the one ahead is still there -/
theorem zipH_item {Q : Value → Shared → Prop} (S : ZipSep2 z TI TO i1 i2 fp1 fp2) (D1 : Draws prog w A i1 fp1 n1 P1 St1) (D2 : Draws prog w A i2 fp2 n2 P2 St2)
    (zh : IsZipHeld s.heap z TI TO T b) (oh : s.heap.get? T = some oT) (ti : IsTupOf2 s.heap TI (.ref i1) (.ref i2)) (st1 : St1 i s.heap) (st2 : St2 i s.heap) (l1 : i < n1) (l2 : i < n2)
    (fin : ∀ x1 x2 h' tk, P1 i x1 → P2 i x2 → IsZipHeld h' z TI TO T true → St1 (i + 1) h' → St2 (i + 1) h' → IsTupOf2 h' s.heap.objs.size x1 x2 → h'.objs.size = s.heap.objs.size + 1 →
      (∀ c o, c ≠ z → c ≠ i1 → c ≠ i2 → s.heap.get? c = some o → h'.get? c = some o) → Q (.ref s.heap.objs.size) { s with heap := h', toks := tk }) :
    wpAny (model prog w) A (Builtin.«zip.__next__» ⟨[.ref z], []⟩) (fun e s' => ∃ v, e = .done (.ret v) ∧ Q v s') E s := by
  obtain ⟨hp, gg, dd, k0, oo⟩ := s
  show wpAny _ _ (field (.ref z) 2 >>= _) _ _ _
  refine wpAny_bind (wpAny_field zh rfl (x := .bool false) rfl ?_)
  show wpAny _ _ (field (.ref z) 3 >>= _) _ _ _
  refine wpAny_bind (wpAny_field zh rfl (x := .ref TI) rfl (wpAny_bind (wpAny_seqItems ti rfl ?_)))
  show wpAny _ _ (Builtin.SmallTypes.ownedTupleIsFree (.ref z) >>= _) _ _ _
  refine wpAny_bind (wpAny_tupleHeld_zip zh oh fun q0 za sa => ?_)
  simp only [Bool.false_eq_true, if_false]
  refine wpAny_bind ?_
  rw [← Array.forIn_toList]
  simp only [List.forIn_cons, List.forIn_nil]
  refine wpAny_bind (wpAny_bind (wpAny_holding ?_))
  show wpAny _ _ (Builtin.SmallTypes.nextOf (.ref i1) >>= _) _ _ ⟨q0, gg, dd, k0, oo⟩
  replace sa : Heap.SameBut z hp q0 := sa
  refine wpAny_bind (D1.item i _ _ _ l1 (D1.over st1 sa S.zf1) fun x1 q1 k1 y1 u1 sb => wpAny_pure (wpAny_pure ?_))
  replace sb : Heap.SameBut i1 q0 q1 := sb
  refine wpAny_bind (wpAny_bind (wpAny_holding ?_))
  show wpAny _ _ (Builtin.SmallTypes.nextOf (.ref i2) >>= _) _ _ ⟨q1, gg, dd, k1, oo⟩
  refine wpAny_bind (D2.item i _ _ _ l2 (D2.over (D2.over st2 sa S.zf2) sb S.sep1_2) fun x2 q2 k2 y2 u2 sc => wpAny_pure (wpAny_pure (wpAny_pure ?_)))
  replace sc : Heap.SameBut i2 q1 q2 := sc
  show wpAny _ _ (newTuple [x1, x2] >>= _) _ _ ⟨q2, gg, dd, k2, oo⟩
  refine wpAny_bind (wpAny_newTuple (wpAny_pure ⟨_, rfl, ?_⟩))
  have size : q2.objs.size = hp.objs.size := by rw [sc.1, sb.1, sa.1]
  have zc : IsZipHeld q2 z TI TO T true := sc.extBut _ _ S.zi2 (sb.extBut _ _ S.zi1 za)
  have keep : ∀ c o, c ≠ z → c ≠ i1 → c ≠ i2 → hp.get? c = some o → q2.get? c = some o := fun c o a1 a2 a3 e => sc.extBut _ _ a3 (sb.extBut _ _ a2 (sa.extBut _ _ a1 e))
  have up : ∀ c o, q2.get? c = some o → (q2.push { cls := .type "tuple", data := .seq #[x1, x2] }).get? c = some o := fun c o e => Heap.get?_push_of_some _ e
  have new : IsTupOf2 (q2.push { cls := .type "tuple", data := .seq #[x1, x2] }) q2.objs.size x1 x2 := Heap.get?_push_size _ rfl
  have more : (q2.push { cls := .type "tuple", data := .seq #[x1, x2] }).objs.size = q2.objs.size + 1 := Heap.size_push ..
  show Q (.ref q2.objs.size) _
  rw [size] at new more ⊢
  exact fin x1 x2 _ k2 y1 y2 (up _ _ zc) (D1.frame _ _ _ (D1.over u1 sc S.sep2_1) fun _ _ o e => up _ o e) (D2.frame _ _ _ u2 fun _ _ o e => up _ o e) new more fun c o a1 a2 a3 e => up _ o (keep c o a1 a2 a3 e)
/-- the end, in the same state -/
theorem zipH_end {Q : Fin → Shared → Prop} (S : ZipSep2 z TI TO i1 i2 fp1 fp2) (D1 : Draws prog w A i1 fp1 n1 P1 St1) (D2 : Draws prog w A i2 fp2 n2 P2 St2)
    (zh : IsZipHeld s.heap z TI TO T b) (oh : s.heap.get? T = some oT) (ti : IsTupOf2 s.heap TI (.ref i1) (.ref i2)) (st1 : St1 i s.heap) (st2 : St2 i s.heap) (l1 : i ≤ n1) (l2 : i ≤ n2) (hend : i = n1 ∨ i = n2)
    (fin : ∀ h' tk e, (∀ c o, c ≠ z → c ≠ i1 → c ≠ i2 → s.heap.get? c = some o → h'.get? c = some o) → (∃ o, h'.get? e = some o ∧ o.cls = .type "StopIteration") → E (.ref e) { s with heap := h', toks := tk }) :
    wpAny (model prog w) A (Builtin.«zip.__next__» ⟨[.ref z], []⟩) Q E s := by
  obtain ⟨hp, gg, dd, k0, oo⟩ := s
  show wpAny _ _ (field (.ref z) 2 >>= _) _ _ _
  refine wpAny_bind (wpAny_field zh rfl (x := .bool false) rfl ?_)
  show wpAny _ _ (field (.ref z) 3 >>= _) _ _ _
  refine wpAny_bind (wpAny_field zh rfl (x := .ref TI) rfl (wpAny_bind (wpAny_seqItems ti rfl ?_)))
  show wpAny _ _ (Builtin.SmallTypes.ownedTupleIsFree (.ref z) >>= _) _ _ _
  refine wpAny_bind (wpAny_tupleHeld_zip zh oh fun q0 za sa => ?_)
  simp only [Bool.false_eq_true, if_false]
  refine wpAny_bind ?_
  rw [← Array.forIn_toList]
  simp only [List.forIn_cons, List.forIn_nil]
  refine wpAny_bind (wpAny_bind (wpAny_holding ?_))
  show wpAny _ _ (Builtin.SmallTypes.nextOf (.ref i1) >>= _) _ _ ⟨q0, gg, dd, k0, oo⟩
  replace sa : Heap.SameBut z hp q0 := sa
  by_cases hl : i < n1
  · have e2 : i = n2 := by omega
    refine wpAny_bind (D1.item i _ _ _ hl (D1.over st1 sa S.zf1) fun x1 q1 k1 y1 u1 sb => wpAny_pure (wpAny_pure ?_))
    replace sb : Heap.SameBut i1 q0 q1 := sb
    refine wpAny_bind (wpAny_bind (wpAny_holding ?_))
    show wpAny _ _ (Builtin.SmallTypes.nextOf (.ref i2) >>= _) _ _ ⟨q1, gg, dd, k1, oo⟩
    refine wpAny_bind (D2.done ⟨q1, gg, dd, k1, oo⟩ _ _ (by rw [← e2]; exact D2.over (D2.over st2 sa S.zf2) sb S.sep1_2) fun q e eb he => ?_)
    exact fin q k1 e (fun c o a1 a2 a3 x => eb _ _ a3 (sb.extBut _ _ a2 (sa.extBut _ _ a1 x))) he
  · have e1 : i = n1 := by omega
    refine wpAny_bind (D1.done ⟨q0, gg, dd, k0, oo⟩ _ _ (by rw [← e1]; exact D1.over st1 sa S.zf1) fun q e eb he => ?_)
    exact fin q k0 e (fun c o a1 a2 _ x => eb _ _ a2 (sa.extBut _ _ a1 x)) he
end
/-- a zip on its way: at the start, or with a pair that is still there -/
def ZOn (h : Heap) (z TI TO i1 i2 S : Addr) (i : Nat) : Prop := (i = 0 ∧ IsZip h z TI TO .none ∧ ∃ a1 a2, IsTupOf2 h TO a1 a2) ∨ ∃ T b oT, IsZipHeld h z TI TO T b ∧ h.get? T = some oT ∧ T ≠ z ∧ T ≠ i1 ∧ T ≠ i2 ∧ T ≠ S
section
variable {prog : Program} {w : World} {A : Around} {E : Value → Shared → Prop} {s : Shared} {z TI TO i1 i2 S0 : Addr} {fp1 fp2 : List Addr} {n1 n2 i : Nat} {P1 P2 : Nat → Value → Prop} {St1 St2 : Nat → Heap → Prop}
end
end Dx

set_option Elab.async false
set_option linter.all false
set_option maxRecDepth 100000
set_option maxHeartbeats 2000000
/-! DxZg: the list of a zip's pairs. -/
namespace Dx
open PySem PySem.Spec PyProof.Rows L2
variable [Tbs]
open Sem (wp)
abbrev lsO (acc : Array Value) (c : Nat) : Obj := { cls := .type "list", dict := none, data := .seq acc c, slots := #[] }
/-- the pairs made so far -/
structure ZG (P1 P2 : Nat → Value → Prop) (lo : Addr) (h : Heap) (as : List Addr) : Prop where
  rise : as.Pairwise (· < ·)
  above : ∀ a ∈ as, lo < a
  pairs : ∀ (j : Nat) (a : Addr), as[j]? = some a → ∃ x y, P1 j x ∧ P2 j y ∧ IsTupOf2 h a x y
theorem ZG.there {P1 P2 : Nat → Value → Prop} {lo : Addr} {h : Heap} {as : List Addr} (g : ZG P1 P2 lo h as) {a : Addr} (ha : a ∈ as) : a < h.objs.size := by
  obtain ⟨j, hj⟩ := List.mem_iff_getElem?.mp ha
  obtain ⟨x, y, _, _, e⟩ := g.pairs j a hj
  exact Heap.lt_size e
theorem ZG.keep {P1 P2 : Nat → Value → Prop} {lo : Addr} {h h' : Heap} {as : List Addr} (g : ZG P1 P2 lo h as) (k : ∀ a ∈ as, ∀ o, h.get? a = some o → h'.get? a = some o) : ZG P1 P2 lo h' as :=
  ⟨g.rise, g.above, fun j a e => let ⟨x, y, p, q, t⟩ := g.pairs j a e; ⟨x, y, p, q, k a (List.mem_of_getElem? e) _ t⟩⟩
theorem ZG.add {P1 P2 : Nat → Value → Prop} {lo : Addr} {h h' : Heap} {as : List Addr} {T : Addr} {x y : Value} (g : ZG P1 P2 lo h as) (hT : h.objs.size ≤ T) (hl : lo < T) (k : ∀ a ∈ as, ∀ o, h.get? a = some o → h'.get? a = some o) (p : P1 as.length x) (q : P2 as.length y) (t : IsTupOf2 h' T x y) : ZG P1 P2 lo h' (as ++ [T]) := by
  have g' := g.keep k
  refine ⟨?_, ?_, ?_⟩
  · rw [List.pairwise_append]
    refine ⟨g.rise, List.pairwise_singleton .., fun a ha c hc => ?_⟩
    rw [List.mem_singleton.mp hc]
    exact Nat.lt_of_lt_of_le (g.there ha) hT
  · intro a ha
    rcases List.mem_append.mp ha with u | u
    · exact g.above a u
    · rw [List.mem_singleton.mp u]; exact hl
  · intro j a e
    rcases Nat.lt_trichotomy j as.length with u | u | u
    · rw [List.getElem?_append_left u] at e
      exact g'.pairs j a e
    · subst u
      rw [List.getElem?_append_right (Nat.le_refl _), Nat.sub_self] at e
      cases e
      exact ⟨x, y, p, q, t⟩
    · rw [List.getElem?_eq_none (by simp; omega)] at e
      cases e
section
variable {prog : Program} {w : World} {A : Around} {s0 : Shared} {z TI TO i1 i2 S0 lo : Addr} {fp1 fp2 : List Addr} {n1 n2 : Nat} {P1 P2 : Nat → Value → Prop} {St1 St2 : Nat → Heap → Prop}
end
end Dx

set_option Elab.async false
set_option linter.all false
set_option maxRecDepth 100000
set_option maxHeartbeats 2000000
/-! DxZh: the call of list over a zip. -/
namespace Dx
open PySem PySem.Spec PyProof.Rows L2
variable [Tbs]
open Sem (wp)
section
variable {prog : Program} {w : World} {A : Around} {E : Value → Shared → Prop} {s : Shared} {z TI TO i1 i2 : Addr} {fp1 fp2 : List Addr} {n1 n2 : Nat} {P1 P2 : Nat → Value → Prop} {St1 St2 : Nat → Heap → Prop}
end
end Dx

set_option Elab.async false
set_option linter.all false
set_option maxRecDepth 100000
set_option maxHeartbeats 2000000
/-! DxZi: list(zip(a, b)) as a rule; dict(pairs). -/
namespace Dx
open PySem PySem.Spec PyProof.Rows L2
variable [Tbs]
open Sem (wp)
/-- a thing that zip can walk: its members -/
structure ZSrc (prog : Program) (w : World) (s : Shared) (v : Value) (xs : List V) : Prop where
  ex : ∃ (o : Obj) (Hc : Heap → Prop) (fp : List Addr) (P : Nat → Value → Prop) (St : Addr → Nat → Heap → Prop), Begins v o Hc ∧ Hc s.heap ∧ (∀ a ∈ fp, a < s.heap.objs.size) ∧
    (∀ it, it ∉ fp → ∀ A : Around, A.handled = none → Draws prog w A it (it :: fp) xs.length P (St it)) ∧
    (∀ it h', h'.get? it = some o → (∀ c o, s.heap.get? c = some o → h'.get? c = some o) → St it 0 h') ∧ ∀ i u, P i u → ∃ x, xs[i]? = some x ∧ RelV x u
section
variable {X : Cx} {pins : List (Addr × Obj)} {σ : L2.St} {H : Hp} {s : Shared}
/-! pairs, laid -/
end
end Dx

set_option Elab.async false
set_option linter.all false
set_option maxRecDepth 100000
set_option maxHeartbeats 2000000
/-! DxZj: the rule of list(zip(a, b)). -/
namespace Dx
open PySem PySem.Spec PyProof.Rows L2
variable [Tbs]
open Sem (wp)
section
variable {X : Cx} {e e2 : Expr} {ta : TA} {p p2 pos pos2 : Pos}
end
/-! over data -/
def zsO : D → Option (List D)
  | .lst l => some l
  | .tup l => some l
  | .str x => some (chrD x)
  | _ => none
section
variable {W : Wd} {N : List Str} {sc : Scope} {k : Nat} {E : XK} {X : Cx} {B : Bs} {e e2 : Expr} {l : List Sl → R (List D × List Sl)} {p p2 pos pos2 : Pos}
end
end Dx

set_option Elab.async false
set_option linter.all false
set_option maxRecDepth 100000
set_option maxHeartbeats 2000000
/-! DxZk: dicts: of pairs, of a dict, displays, get, list(d.items()). -/
namespace Dx
open PySem PySem.Spec PyProof.Rows L2
variable [Tbs]
/-- a dict put together from pairs -/
def dicOf (l : List (Str × D)) : List (Str × D) := l.foldl (fun acc p => putD acc p.1 p.2) []
section
variable {K : Frag} {Fz : Addr → Prop} {H : Hp}
theorem merge_keyP : ∀ (l acc : List (Str × V)), mergeK (acc.map keyP) (l.map keyP) = (l.foldl (fun a p => putS a p.1 p.2) acc).map keyP
  | [], _ => rfl
  | p :: l, acc => by
    show mergeK (putK (acc.map keyP) (Sum.inr p.1) p.2) (l.map keyP) = _
    rw [putK_keyP, merge_keyP l (putS acc p.1 p.2)]; rfl
theorem DenF.fold : ∀ {l : List (Str × V)} {m : List (Str × D)} {acc : List (Str × V)} {bcc : List (Str × D)}, DenF K Fz H l m → DenF K Fz H acc bcc → DenF K Fz H (l.foldl (fun a p => putS a p.1 p.2) acc) (m.foldl (fun a p => putD a p.1 p.2) bcc)
  | _, _, _, _, .nil, h => h
  | _, _, _, _, .cons d t, h => have r := DenF.fold t (DenF.put d h); r
end
theorem BackO.dic {B : Bs} {Fz : Addr → Prop} {H : Hp} {σ : L2.St} {ρ : List Sl} {ds : List (Str × D)} {kvs : List (Str × V)} {Q : VK} (I : Iv B Fz H σ ρ) (d : DenF B.K Fz H kvs ds) (b : BackO B Fz H σ ρ (.dic ds) Q) : ∀ p, H p = none → Q (.ref p) (upd H p (.dK (kvs.map keyP))) := fun p hp => by
  obtain ⟨I2, g2, ap, h0, nz⟩ := I.laid hp (.dK (kvs.map keyP))
  exact b _ _ Fz I2 g2 ⟨p, rfl, ⟨kvs, upd_same, d.mono g2⟩, h0, ap⟩
section
variable {W : Wd} {N : List Str} {sc : Scope} {k : Nat} {E : XK} {X : Cx} {B : Bs} {e e2 o : Expr} {es : List Expr} {f g h : List Sl → R (D × List Sl)} {l : List Sl → R (List D × List Sl)} {p p2 pos pos2 apos cpos np : Pos} {i : Nat} {x : Str}
/-! ### d.get(k, x), d.get(k) -/
def isDic : D → Bool
  | .dic _ => true
  | _ => false
def getO (d k : D) : Option (Option D) := match d, k with
  | .dic l, .str k => some (l.lookup k)
  | _, _ => none
def evGet2 (f g h : List Sl → R (D × List Sl)) (ρ : List Sl) : R (D × List Sl) := (f ρ).bind fun p => if isDic p.1 then (g p.2).bind fun q => (h q.2).bind fun r => (ofO (getO p.1 q.1)).bind fun z => .ok (z.getD r.1, r.2) else .bad
def evGet1 (f g : List Sl → R (D × List Sl)) (ρ : List Sl) : R (D × List Sl) := (f ρ).bind fun p => if isDic p.1 then (g p.2).bind fun q => (ofO (getO p.1 q.1)).bind fun z => .ok (z.getD .non, q.2) else .bad
def evGet2V (i : Nat) (g h : List Sl → R (D × List Sl)) (ρ : List Sl) : R (D × List Sl) := (ofO (viewD ρ i)).bind fun d0 => if isDic d0 then (g ρ).bind fun q => (h q.2).bind fun r => (ofO (viewD r.2 i)).bind fun d => (ofO (getO d q.1)).bind fun z => .ok (z.getD r.1, r.2) else .bad
end
end Dx

set_option Elab.async false
set_option linter.all false
set_option maxRecDepth 100000
set_option maxHeartbeats 2000000
/-! DxZl: {k: v, ..}; list(d.items()). -/
namespace Dx
open PySem PySem.Spec PyProof.Rows L2
variable [Tbs]
abbrev EvD := List Sl → R (D × List Sl)
def evPs : List (EvD × EvD) → List Sl → R (List (D × D) × List Sl)
  | [], ρ => .ok ([], ρ)
  | fg :: r, ρ => (fg.1 ρ).nox.bind fun p => (fg.2 p.2).nox.bind fun q => (evPs r q.2).bind fun s => .ok ((p.1, q.1) :: s.1, s.2)
def strKs : List (D × D) → Option (List (Str × D))
  | [] => some []
  | (.str k, d) :: l => (strKs l).map fun r => (k, d) :: r
  | _ => none
def evDisp (r : List (EvD × EvD)) (ρ : List Sl) : R (D × List Sl) := (evPs r ρ).bind fun p => (ofO (strKs p.1)).bind fun l => if decide (l.length ≤ 15) = true then .ok (.dic (dicOf l), p.2) else .bad
def DenP (K : Frag) (Fz : Addr → Prop) (H : Hp) : List (V × V) → List (D × D) → Prop
  | [], [] => True
  | p :: ps, d :: ds => Den K Fz H p.1 d.1 ∧ Den K Fz H p.2 d.2 ∧ DenP K Fz H ps ds
  | _, _ => False
theorem DenP.mono {K : Frag} {Fz Fz' : Addr → Prop} {H H' : Hp} (g : Ge Fz H Fz' H') : ∀ {ps : List (V × V)} {ds : List (D × D)}, DenP K Fz H ps ds → DenP K Fz' H' ps ds
  | [], [], _ => trivial
  | p :: ps, d :: ds, h => ⟨h.1.mono g, h.2.1.mono g, DenP.mono (ps := ps) (ds := ds) g h.2.2⟩
  | [], _ :: _, h => h.elim
  | _ :: _, [], h => h.elim
theorem denP_keys {K : Frag} {Fz : Addr → Prop} {H : Hp} : ∀ {ps : List (V × V)} {ds : List (D × D)} {l : List (Str × D)}, DenP K Fz H ps ds → strKs ds = some l → ∃ kvs : List (Str × V), ps = kvs.map (fun kv => (V.str kv.1, kv.2)) ∧ DenF K Fz H kvs l
  | [], [], _, _, e => by cases e; exact ⟨[], rfl, .nil⟩
  | (x, y) :: ps, (a, b) :: ds, l, h, e => by
    cases a with
    | str k =>
      obtain ⟨l', el, rfl⟩ := map_some (show (strKs ds).map (fun r => (k, b) :: r) = some l from e)
      obtain ⟨kvs, rfl, df⟩ := denP_keys (ps := ps) (ds := ds) h.2.2 el
      cases (show Den K Fz H x (.str k) from h.1)
      exact ⟨(k, y) :: kvs, rfl, .cons h.2.1 df⟩
    | _ => cases e
  | [], _ :: _, _, h, _ => h.elim
  | _ :: _, [], _, h, _ => h.elim
section
variable {W : Wd} {N : List Str} {sc : Scope} {k : Nat} {E : XK} {X : Cx} {B : Bs} {e e2 o : Expr} {es : List Expr} {f g h : List Sl → R (D × List Sl)} {pos p p2 pos2 apos cpos np : Pos} {i : Nat} {x : Str}
def anyE (B : Bs) (f : EvD) : TE := fun σ H Q => ∃ B' : Bs, BLe B B' ∧ tE B' E0 f σ H Q
theorem tPairs_mono : ∀ (trs : List (TE × TE)) (σ : L2.St) (H : Hp) (Q Q' : List (V × V) → Hp → Prop), (∀ ps H, Q ps H → Q' ps H) → (∀ t ∈ trs, (∀ σ H R R', (∀ v H, R v H → R' v H) → t.1 σ H R → t.1 σ H R') ∧ ∀ σ H R R', (∀ v H, R v H → R' v H) → t.2 σ H R → t.2 σ H R') → tPairs trs σ H Q → tPairs trs σ H Q'
  | [], _, _, _, _, w, _, h => w _ _ h
  | t :: trs, _, _, _, _, w, m, h => (m t (by simp)).1 _ _ _ _ (fun v H h => (m t (by simp)).2 _ _ _ _ (fun u H h => tPairs_mono trs _ _ _ _ (fun ps H h => w _ _ h) (fun t ht => m t (List.mem_cons_of_mem _ ht)) h) h) h
theorem t_pairs {q : Addr} {σ : L2.St} {Q : VK} (h0 : B.H0 q = none) : ∀ (r : List (EvD × EvD)) {Fz : Addr → Prop} {H : Hp} {ρ : List Sl} {k : List (D × D) × List Sl → R (D × List Sl)} (I : Iv (B.at q (.dK [])) Fz H σ ρ) (hq : FinG rO B E σ Q Fz H ((evPs r ρ).bind k)),
    tPairs (r.map fun fg => (anyE B fg.1, anyE B fg.2)) σ H (fun ps H2 => ∃ F2 ρ2 ds, Iv (B.at q (.dK [])) F2 H2 σ ρ2 ∧ DenP B.K F2 H2 ps ds ∧ Ge Fz H F2 H2 ∧ FinG rO B E σ Q F2 H2 (k (ds, ρ2)))
  | [], Fz, H, ρ, k, I, hq => ⟨Fz, ρ, [], I, trivial, .refl, hq⟩
  | fg :: r, Fz, H, ρ, k, I, hq => by
    have hq : FinG rO B E σ Q Fz H ((fg.1 ρ).nox.bind fun p => ((fg.2 p.2).nox.bind fun q => (evPs r q.2).bind fun s => .ok ((p.1, q.1) :: s.1, s.2)).bind k) := by
      have : (evPs (fg :: r) ρ).bind k = (fg.1 ρ).nox.bind fun p => ((fg.2 p.2).nox.bind fun q => (evPs r q.2).bind fun s => R.ok ((p.1, q.1) :: s.1, s.2)).bind k := by
        show ((fg.1 ρ).nox.bind _).bind k = _
        rw [R.bind_assoc]
      rw [← this]; exact hq
    refine ⟨B.at q (.dK []), .at h0, monoG (tG_nox I hq) fun y H1 ⟨F1, ρ1, dy, I1, d1, g1, q1⟩ => ?_⟩
    have d1 : Den B.K F1 H1 y dy := d1
    rw [R.bind_assoc] at q1
    refine ⟨B.at q (.dK []), .at h0, monoG (tG_nox I1 q1) fun z H2 ⟨F2, ρ2, dz, I2, d2, g2, q2⟩ => ?_⟩
    have d2 : Den B.K F2 H2 z dz := d2
    rw [R.bind_assoc] at q2
    have step := t_pairs h0 r (k := fun s => k ((dy, dz) :: s.1, s.2)) I2 q2
    refine tPairs_mono _ _ _ _ _ (fun ps H3 ⟨F3, ρ3, ds, I3, dp, g3, q3⟩ => ⟨F3, ρ3, (dy, dz) :: ds, I3, ⟨(d1.mono g2).mono g3, d2.mono g3, dp⟩, (g1.trans g2).trans g3, q3⟩) (fun t ht => ?_) step
    obtain ⟨fg, _, rfl⟩ := List.mem_map.mp ht
    exact ⟨fun σ H R R' w ⟨B', l, t⟩ => ⟨B', l, monoG t w⟩, fun σ H R R' w ⟨B', l, t⟩ => ⟨B', l, monoG t w⟩⟩
/-- the pairs of a display -/
structure DPs (X : Cx) (B : Bs) (pos : Pos) (keys : List (Option Expr)) (values : List Expr) (r : List (EvD × EvD)) : Prop where
  pps : PPs X pos keys values (r.map fun fg => (anyE B fg.1, anyE B fg.2))
theorem dps_nil : DPs X B pos [] [] [] := ⟨pps_nil⟩
theorem dps_cons {ks : List (Option Expr)} {vs : List Expr} {r : List (EvD × EvD)} (hk : ∀ B' : Bs, BLe B B' → PE X e (tE B' E0 f)) (hv : ∀ B' : Bs, BLe B B' → PE X e2 (tE B' E0 g)) (hr : DPs X B pos ks vs r) : DPs X B pos (some e :: ks) (e2 :: vs) ((f, g) :: r) :=
  ⟨pps_cons (pe_anyB hk) (pe_anyB hv) hr.pps⟩
theorem do_disp {keys : List (Option Expr)} {values : List Expr} {r : List (EvD × EvD)} (h : DPs X B pos keys values r) (hall : keys.all (·.isSome) = true) (hl : keys.length = values.length) (hk0 : keys ≠ []) (h15 : keys.length ≤ 15) : PE X (.Dict keys values pos) (tO B E (evDisp r)) :=
  weakE (pe_disp h.pps hall hl hk0 h15) fun σ H Q ⟨Fz, ρ, I, q⟩ p hp => by
    obtain ⟨_, g1, ap, h0, nz⟩ := I.laid hp (.dK [])
    have I1 : Iv (B.at p (.dK [])) Fz (upd H p (.dK [])) σ ρ := I.atBase (o := .dK []) hp fun z => z
    have mm : ∀ t ∈ r.map (fun fg => (anyE B fg.1, anyE B fg.2)), (∀ σ H R R', (∀ v H, R v H → R' v H) → t.1 σ H R → t.1 σ H R') ∧ ∀ σ H R R', (∀ v H, R v H → R' v H) → t.2 σ H R → t.2 σ H R' := by
      intro t ht
      obtain ⟨fg, _, rfl⟩ := List.mem_map.mp ht
      exact ⟨fun σ H R R' w ⟨B', l, t⟩ => ⟨B', l, monoG t w⟩, fun σ H R R' w ⟨B', l, t⟩ => ⟨B', l, monoG t w⟩⟩
    refine tPairs_mono _ _ _ _ _ (fun ps H2 hps => ?_) mm (t_pairs h0 r I1 (FinG.ge g1 q))
    · obtain ⟨F2, ρ2, ds, I2, dp, g2, q2⟩ := hps
      obtain ⟨l, el, q3⟩ := fin_o q2
      obtain ⟨hc, q3⟩ := fin_if q3
      obtain ⟨kvs, ek, df⟩ := denP_keys dp el
      have hp2 : H2 p = some (.dK []) := I2.ext.keep p _ upd_same fun z => z.2 rfl
      have nz2 : ¬ F2 p := fun z => by
        obtain ⟨C, dx, fs, e⟩ := I2.fzs p z
        rw [hp2] at e; cases e
      have m := merge_keyP kvs []
      have x := ext_put (o := .dK ((kvs.foldl (fun a p => putS a p.1 p.2) []).map keyP)) hp2 (fun z => z) nz2
      have lent : ∀ a, B.bd a → ∃ o, B.H0 a = some o := I.lent
      have I3 : Iv B F2 H2 σ ρ2 := I2.outBase h0 nz2 lent
      have ne := I2.atNe h0 lent
      have I4 := I3.step x (fzs_put I3.fzs nz2) (fun b hb => by rw [hb]; exact .inl h0) fun j b hb z => ne j b hb z
      refine ⟨hp2, kvs.map keyP, by rw [ek, List.map_map]; rfl, by rw [List.length_map, df.length]; exact of_decide_eq_true hc, ?_⟩
      rw [show mergeK [] (kvs.map keyP) = _ from m]
      exact q3 _ _ F2 I4 x.ge ⟨p, rfl, ⟨_, upd_same, (DenF.fold df .nil).mono x.ge⟩, h0, ne⟩
/-! ### list(d.items()) -/
open Sem (wp)
def litO : D → Option D
  | .dic l => if decide (l.length ≤ sizeLine) then some (.lst (itemD l)) else none
  | _ => none
def evListIt (f : List Sl → R (D × List Sl)) (ρ : List Sl) : R (D × List Sl) := (f ρ).bind fun p => (ofO (litO p.1)).bind fun z => .ok (z, p.2)
end
end Dx

set_option Elab.async false
set_option linter.all false
set_option maxRecDepth 100000
set_option maxHeartbeats 2000000
/-! DxZm: the forms that the printer uses for the newer rules. -/
namespace Dx
open PySem PySem.Spec PyProof.Rows L2
variable [Tbs]
section
variable {W : Wd} {N : List Str} {sc : Scope} {k j : Nat} {E : XK} {X : Cx} {B : Bs} {x y : Str} {p pos : Pos} {e e2 kx vx iter tg : Expr} {ifs : List Expr} {f g h : List Sl → R (D × List Sl)} {ks : List (Option Expr)} {vs : List Expr} {r : List (EvD × EvD)}
theorem XIs.e0 (wo : WOk W) (hX : XIs W N sc k E X) : XIs W N sc k E0 X :=
  { hX with pass := fun pins σ H s e s' I h => (wo.none _ _ _ _ _ h).elim }
theorem q_dps (wo : WOk W) (hX : XIs W N sc k E X) (hB : BOk W B) (hk : ∀ B' : Bs, BOk W B' → XIs W N sc k E0 X → PE X e (tE B' E0 f)) (hv : ∀ B' : Bs, BOk W B' → XIs W N sc k E0 X → PE X e2 (tE B' E0 g)) (hr : DPs X B pos ks vs r) : DPs X B pos (some e :: ks) (e2 :: vs) ((f, g) :: r) :=
  dps_cons (fun B' l => hk B' (hB.le wo l) (hX.e0 wo)) (fun B' l => hv B' (hB.le wo l) (hX.e0 wo)) hr
theorem q_disp (hl : (ks.all (·.isSome) && ks.length == vs.length && ks.length != 0 && decide (ks.length ≤ 15)) = true) (h : DPs X B pos ks vs r) : PE X (.Dict ks vs pos) (tO B E (evDisp r)) := by
  simp only [Bool.and_eq_true, decide_eq_true_eq, beq_iff_eq, bne_iff_ne] at hl
  exact do_disp h hl.1.1.1 hl.1.1.2 (fun z => hl.1.2 (by rw [z]; rfl)) hl.2
/-- a def by another name -/
theorem cal_al {st : Stmt} {N ps : List Str} {F : Fd} {g : List Sl → RS} (wo : WOk W) (D : ∃ f, FnAt W x x st f ∧ W.mg y = some (.ref f)) (S : C8.scC N ps (C8.fnScope st) = true) (hl : F.md.length = ps.length)
    (hbind : ∀ (kV doc pm : Value) (an : Option Addr) (cdv ct : Value) (us : List Value), us.length = ps.length → bindArgs (PySem.W.fnOf x x (C8.fnArgs st) (C8.fnBody st) (C8.fnScope st) .none kV doc pm an cdv ct) ⟨us, []⟩ = pure (ps.zip us))
    (hs : F.sem = semOf N.length F.md F.own g) (hbody : ∀ (X : Cx) (E : XK), XSt W N (C8.fnScope st) k E X → ∀ B : Bs, BOk W B → PSs X (C8.fnBody st) (tS B E g)) : Cal W (k + 1) y F := by
  obtain ⟨f, D, hm⟩ := D
  obtain ⟨fd, F1, b⟩ := fn_sem wo D S hl hbind hs hbody
  exact ⟨f, fd, ps, F1, hm, D.kp, b⟩
end
end Dx

set_option Elab.async false
set_option linter.all false
set_option maxRecDepth 100000
set_option maxHeartbeats 2000000
/-! DxZn: {**m, k: v}. -/
namespace Dx
open PySem PySem.Spec PyProof.Rows L2
variable [Tbs]
section
variable {prog : Program} {w : World} {K : Type} [DecidableEq K] {knd : KeyKind prog w K} {A : Around} {E : Value → Shared → Prop} {s : Shared}
end
def dicL : D → Option (List (Str × D))
  | .dic l => some l
  | _ => none
def strK : D → Option Str
  | .str k => some k
  | _ => none
def evDst (f g h : EvD) (ρ : List Sl) : R (D × List Sl) := (f ρ).nox.bind fun p => (ofO (dicL p.1)).bind fun l => if decide (l.length < sizeLine) = true then (g p.2).nox.bind fun q => (h q.2).nox.bind fun r => (ofO (strK q.1)).bind fun k => .ok (.dic (putD l k r.1), r.2) else .bad
section
variable {W : Wd} {N : List Str} {sc : Scope} {k : Nat} {E : XK} {X : Cx} {B : Bs} {e e2 o : Expr} {f g h : EvD} {pos : Pos}
theorem BLe.trans {B1 B2 B3 : Bs} (l1 : BLe B1 B2) (l2 : BLe B2 B3) : BLe B1 B3 := ⟨l2.K.trans l1.K, fun a o i e => l2.imm _ _ i (l1.imm _ _ i e), fun P q t => l2.tab _ _ (l1.tab _ _ t)⟩
end
end Dx

set_option Elab.async false
set_option linter.all false
set_option maxRecDepth 100000
set_option maxHeartbeats 2000000
/-! DxZo: more forms for the printer. -/
namespace Dx
open PySem PySem.Spec PyProof.Rows L2
variable [Tbs]
section
variable {W : Wd} {N : List Str} {sc : Scope} {k j : Nat} {E : XK} {X : Cx} {B : Bs} {x y : Str} {p pos : Pos} {e e2 o : Expr} {f g h : List Sl → R (D × List Sl)}
end
end Dx

set_option Elab.async false
set_option linter.all false
set_option maxRecDepth 100000
set_option maxHeartbeats 1000000
/-! DxZp: lists of lists of one's own: what a for gives its variable may be changed. -/
namespace Dx
open PySem PySem.Spec PyProof.Rows L2
variable [Tbs]
abbrev Cells := List (Addr × List V)
def refs (l : Cells) : List V := l.map fun p => V.ref p.1
abbrev ads (l : Cells) : List Addr := l.map (·.1)
def Bs.ats (B : Bs) : Cells → Bs
  | [] => B
  | p :: l => (B.ats l).at p.1 (.lst p.2)
/-- a base that tells more, and can be left again -/
structure BOut (B' B : Bs) : Prop where
  K : B'.K = B.K
  imm : ∀ a o, Imx o → B.H0 a = some o → B'.H0 a = some o
  tab : ∀ P q, TabZ B.H0 P q → TabZ B'.H0 P q
  iv : ∀ {Fz : Addr → Prop} {H : Hp} {σ : L2.St} {ρ : List Sl}, Iv B' Fz H σ ρ → Iv B Fz H σ ρ
  ext : ∀ {Fz : Addr → Prop} {H : Hp}, Ext B'.ex B'.Fz0 B'.H0 Fz H → FzOk Fz H → Ext B.ex B.Fz0 B.H0 Fz H
  h0 : ∀ a, B'.H0 a = none → B.H0 a = none
  lent : (∀ a, B.bd a → ∃ o, B.H0 a = some o) → ∀ a, B'.bd a → ∃ o, B'.H0 a = some o
theorem BOut.le {B' B : Bs} (b : BOut B' B) : BLe B B' := ⟨b.K, b.imm, b.tab⟩
theorem BOut.refl {B : Bs} : BOut B B := ⟨rfl, fun _ _ _ h => h, fun _ _ h => h, fun h => h, fun h _ => h, fun _ h => h, fun h => h⟩
theorem BOut.trans {B2 B1 B : Bs} (a : BOut B2 B1) (b : BOut B1 B) : BOut B2 B :=
  ⟨a.K.trans b.K, fun x o i h => a.imm x o i (b.imm x o i h), fun P q t => a.tab _ _ (b.tab _ _ t), fun h => b.iv (a.iv h), fun h f => b.ext (a.ext h f) f, fun x h => b.h0 x (a.h0 x h), fun h => a.lent (b.lent h)⟩
theorem nz_lst {Fz : Addr → Prop} {H : Hp} {p : Addr} {vs : List V} (f : FzOk Fz H) (e : H p = some (.lst vs)) : ¬ Fz p := fun z => by
  obtain ⟨C, dx, fs, e2⟩ := f p z
  rw [e] at e2; cases e2
theorem at_get {B : Bs} {Fz : Addr → Prop} {H : Hp} {p : Addr} {vs : List V} (x : Ext (B.at p (.lst vs)).ex (B.at p (.lst vs)).Fz0 (B.at p (.lst vs)).H0 Fz H) : H p = some (.lst vs) := x.keep p _ upd_same fun z => z.2 rfl
theorem BOut.at {B : Bs} {p : Addr} {vs : List V} (h0 : B.H0 p = none) (lent : ∀ a, B.bd a → ∃ o, B.H0 a = some o) : BOut (B.at p (.lst vs)) B where
  K := rfl
  imm := (BLe.at h0).imm
  tab := (BLe.at h0).tab
  iv := fun I => I.outBase h0 (nz_lst I.fzs (at_get I.ext)) lent
  ext := fun {Fz H} x f => by
    have nz : ¬ Fz p := nz_lst f (at_get x)
    have nz0 : ¬ B.Fz0 p := fun z => nz (x.ge.fz p z)
    refine ⟨⟨fun a u i e => ?_, x.ge.fz, fun a z => ?_, fun P q t => x.ge.tab P q (tab_new h0 t)⟩, fun a u e n nt => ?_, fun a z => ?_, fun a u e => ?_⟩
    · have q : a ≠ p := fun q => by rw [q, h0] at e; cases e
      exact x.ge.imm a u i (by rw [show (B.at p (.lst vs)).H0 a = B.H0 a from upd_ne q]; exact e)
    · have q : a ≠ p := fun q => nz0 (q ▸ z)
      have := x.ge.fzk a z
      rw [show (B.at p (.lst vs)).H0 a = B.H0 a from upd_ne q] at this
      exact this
    · have q : a ≠ p := fun q => by rw [q, h0] at e; cases e
      exact x.keep a u (by rw [show (B.at p (.lst vs)).H0 a = B.H0 a from upd_ne q]; exact e) (fun z => n z.1) nt
    · have q : a ≠ p := fun q => nz (q ▸ z)
      rcases x.nofz a z with h | h | h
      · exact .inl h
      · exact .inr (.inl (by rw [show (B.at p (.lst vs)).H0 a = B.H0 a from upd_ne q] at h; exact h))
      · exact .inr (.inr h.1)
    · have q : a ≠ p := fun q => by rw [q, h0] at e; cases e
      exact x.there a u (by rw [show (B.at p (.lst vs)).H0 a = B.H0 a from upd_ne q]; exact e)
  h0 := fun a h => by
    by_cases q : a = p
    · rw [q]; exact h0
    · rw [show (B.at p (.lst vs)).H0 a = B.H0 a from upd_ne q] at h; exact h
  lent := fun l a z => by
    obtain ⟨u, e⟩ := l a z
    by_cases q : a = p
    · rw [q, h0] at e; cases e
    · exact ⟨u, by rw [show (B.at p (.lst vs)).H0 a = B.H0 a from upd_ne q]; exact e⟩
section
variable {B : Bs} {l : Cells}
theorem ats_h0 {x : Addr} : ∀ {l : Cells}, x ∉ ads l → (B.ats l).H0 x = B.H0 x
  | [], _ => rfl
  | p :: l, h => by
    have h1 : x ≠ p.1 := fun z => h (by rw [z]; exact List.mem_cons_self ..)
    rw [show (B.ats (p :: l)).H0 x = (B.ats l).H0 x from upd_ne h1]
    exact ats_h0 fun z => h (List.mem_cons_of_mem _ z)
theorem ats_out (lent : ∀ a, B.bd a → ∃ o, B.H0 a = some o) : ∀ {l : Cells}, (ads l).Nodup → (∀ x ∈ ads l, B.H0 x = none) → BOut (B.ats l) B
  | [], _, _ => .refl
  | p :: l, nd, h0 => by
    have nd := List.nodup_cons.mp nd
    have b := ats_out lent (l := l) nd.2 fun x hx => h0 x (List.mem_cons_of_mem _ hx)
    refine BOut.trans (.at ?_ (b.lent lent)) b
    rw [ats_h0 nd.1]
    exact h0 p.1 (List.mem_cons_self ..)
variable {Fz : Addr → Prop} {H : Hp} {σ : L2.St} {ρ : List Sl}
/-- into the base -/
theorem Iv.ats (I : Iv B Fz H σ ρ) : ∀ {l : Cells}, (ads l).Nodup → (∀ p ∈ l, H p.1 = some (.lst p.2)) → (∀ x ∈ ads l, B.H0 x = none ∧ ∀ i b, HeldAt σ ρ i b → b ≠ x) → Iv (B.ats l) Fz H σ ρ
  | [], _, _, _ => I
  | p :: l, nd, hs, h0 => by
    have nd := List.nodup_cons.mp nd
    have J := Iv.ats I (l := l) nd.2 (fun q hq => hs q (List.mem_cons_of_mem _ hq)) fun x hx => h0 x (List.mem_cons_of_mem _ hx)
    have hp := hs p (List.mem_cons_self ..)
    have hx := h0 p.1 (List.mem_cons_self ..)
    exact J.toBase hp (by rw [ats_h0 nd.1]; exact hx.1) hx.2 (fun z => z) (nz_lst J.fzs hp)
/-- what is in the base stands, and no slot holds it -/
theorem ats_at (lent : ∀ a, B.bd a → ∃ o, B.H0 a = some o) : ∀ {l : Cells}, (ads l).Nodup → (∀ x ∈ ads l, B.H0 x = none) → Iv (B.ats l) Fz H σ ρ → ∀ p ∈ l, H p.1 = some (.lst p.2) ∧ ∀ i b, HeldAt σ ρ i b → b ≠ p.1
  | p :: l, nd, h0, I, q, hq => by
    have nd := List.nodup_cons.mp nd
    have h0' : ∀ x ∈ ads l, B.H0 x = none := fun x hx => h0 x (List.mem_cons_of_mem _ hx)
    have hp : (B.ats l).H0 p.1 = none := by rw [ats_h0 nd.1]; exact h0 p.1 (List.mem_cons_self ..)
    have bo := ats_out lent nd.2 h0'
    rcases List.mem_cons.mp hq with z | z
    · subst z
      exact ⟨at_get I.ext, I.atNe hp (bo.lent lent)⟩
    · exact ats_at lent nd.2 h0' ((BOut.at hp (bo.lent lent)).iv I) q z
end
/-- lists, as data -/
inductive DenLL (K : Frag) (Fz : Addr → Prop) (H : Hp) : List (List V) → List D → Prop where
  | nil : DenLL K Fz H [] []
  | cons {vs : List V} {es : List D} {vss : List (List V)} {ds : List D} : DenL K Fz H vs es → DenLL K Fz H vss ds → DenLL K Fz H (vs :: vss) (.lst es :: ds)
section
variable {K : Frag} {Fz Fz' : Addr → Prop} {H H' : Hp}
theorem DenLL.mono (g : Ge Fz H Fz' H') {vss : List (List V)} {ds : List D} (h : DenLL K Fz H vss ds) : DenLL K Fz' H' vss ds := by
  induction h with
  | nil => exact .nil
  | cons d _ ih => exact .cons (d.mono g) ih
theorem DenLL.append {v v2 : List (List V)} {d d2 : List D} (h : DenLL K Fz H v d) (h2 : DenLL K Fz H v2 d2) : DenLL K Fz H (v ++ v2) (d ++ d2) := by
  induction h with
  | nil => exact h2
  | cons d _ ih => exact .cons d ih
theorem DenLL.length {vss : List (List V)} {ds : List D} (h : DenLL K Fz H vss ds) : vss.length = ds.length := by
  induction h with
  | nil => rfl
  | cons _ _ ih => exact congrArg Nat.succ ih
theorem DenLL.drop {vss : List (List V)} {ds : List D} (h : DenLL K Fz H vss ds) : ∀ n, DenLL K Fz H (vss.drop n) (ds.drop n) := by
  induction h with
  | nil => intro n; simp; exact .nil
  | cons d h ih => intro n; cases n with
    | zero => exact .cons d h
    | succ n => simpa using ih n
end
abbrev rOO : Rel (List D) V := fun B Fz H σ ρ v ds => ∃ a l, v = .ref a ∧ H a = some (.lst (refs l)) ∧ (∀ p ∈ l, H p.1 = some (.lst p.2)) ∧ DenLL B.K Fz H (l.map (·.2)) ds ∧ (a :: ads l).Nodup ∧ ∀ x ∈ a :: ads l, B.H0 x = none ∧ ∀ i b, HeldAt σ ρ i b → b ≠ x
abbrev tOO (B : Bs) (E : XK) (f : List Sl → R (List D × List Sl)) : TE := tG rOO B E f
section
variable {B B' : Bs} {E : XK} {Fz : Addr → Prop} {H : Hp}
theorem FinS.out {Dn : Ends} (b : BOut B' B) {r : RS} (h : FinS B E Dn Fz H r) : FinS B' E Dn Fz H r := by
  cases r with
  | nx ρ => exact fun σ' H' Fz' I g => h σ' H' Fz' (b.iv I) g
  | bk ρ => exact fun σ' H' Fz' I g => h σ' H' Fz' (b.iv I) g
  | ct ρ => exact fun σ' H' Fz' I g => h σ' H' Fz' (b.iv I) g
  | rt o d ρ =>
    refine fun v σ' H' Fz' I g r => h v σ' H' Fz' (b.iv I) g ?_
    cases o with
    | true => obtain ⟨a, e, ow, hn⟩ := r; exact ⟨a, e, b.K ▸ ow, b.h0 a hn⟩
    | false => have r : Den B'.K Fz' H' v d := r; rw [b.K] at r; exact r
  | exc c d => intro dx v H' Fz' x f e dn; rw [b.K] at dn ⊢; exact h dx v H' Fz' (b.ext x f) f e dn
  | bad => exact h
end
/-! ### the list made by a comprehension -/
def chkL (f : List Sl → R (D × List Sl)) (ρ : List Sl) : R (D × List Sl) := (f ρ).bind fun q => if isLst q.1 then .ok q else .bad
def evLcO (vs : List Nat) (s : List Sl → R (List D × List Sl)) (t : D → List Sl → Option (List Sl)) (u : List Sl → R (Bool × List Sl)) (f : List Sl → R (D × List Sl)) (ρ : List Sl) : R (List D × List Sl) :=
  (s ρ).bind fun p => lcL vs t u (chkL f) [] p.1 (wipeR p.2 vs)
section
variable {X : Cx} {B : Bs} {E : XK} {e c iter tg elt : Expr} {ifs : List Expr} {f : List Sl → R (D × List Sl)} {s : List Sl → R (List D × List Sl)} {t : D → List Sl → Option (List Sl)} {u : List Sl → R (Bool × List Sl)} {g : List Sl → RS} {pos : Pos} {i : Nat} {x : Str} {ws : List Nat} {scope : Scope} {own : List (Str × Nat)} {body : List Stmt}
/-! ### for over such a list -/
def stForO (i : Nat) (f : List Sl → R (List D × List Sl)) (g : List Sl → RS) (ρ : List Sl) : RS := (f ρ).st fun p => forL (fun d ρ => putSl ρ i (.ow d)) g p.1 p.2
end
end Dx

set_option Elab.async false
set_option linter.all false
set_option maxRecDepth 100000
set_option maxHeartbeats 1000000
/-! DxZq: defs that hand back lists of lists of one's own; comprehensions over them. -/
namespace Dx
open PySem PySem.Spec PyProof.Rows L2
variable [Tbs]
abbrev shs (n : Nat) : List Md := List.replicate n .sh
def FinF2 (K : Frag) (Q : VK) (E : XK) (Fz : Addr → Prop) (H : Hp) : R (List D) → Prop
  | .ok ds => ∀ a l H' Fz', Ext (fun _ => False) Fz H Fz' H' → FzOk Fz' H' → H' a = some (.lst (refs l)) → (∀ p ∈ l, H' p.1 = some (.lst p.2)) → DenLL K Fz' H' (l.map (·.2)) ds → (a :: ads l).Nodup → (∀ x ∈ a :: ads l, H x = none) → Q (.ref a) H'
  | .exc c d => ∀ dx v H' Fz', Ext (fun _ => False) Fz H Fz' H' → FzOk Fz' H' → H' dx = some (.xd [("value", v)]) → Den K Fz' H' v d → E (.ref (He.ga K c)) (some dx) H'
  | .bad => False
def spO2 (K : Frag) (gs : Hp → Prop) (n : Nat) (sem : List D → R (List D)) : Sp := fun vs H Q E => gs H ∧ vs.length = n ∧ ∃ Fz ds, FzOk Fz H ∧ DenL K Fz H vs ds ∧ FinF2 K Q E Fz H (sem ds)
structure CalO (W : Wd) (k : Nat) (x : Str) (n : Nat) (sem : List D → R (List D)) : Prop where
  ex : ∃ (f : Addr) (fd : FuncData) (ps : List Str), FnG W k f fd ps (spO2 W.K W.gp n sem) ∧ W.mg x = some (.ref f) ∧ PySem.W.keepIn W.K (.ref f) = true ∧ Binds W.K fd ps []
def evCallO (sem : List D → R (List D)) (l : List Sl → R (List D × List Sl)) (ρ : List Sl) : R (List D × List Sl) := (l ρ).bind fun p => (sem p.1).bind fun q => .ok (q, p.2)
section
variable {W : Wd} {N : List Str} {sc : Scope} {k j n : Nat} {E : XK} {X : Cx} {B : Bs} {x : Str} {p pos np : Pos} {e : Expr} {es : List Expr} {sem : List D → R (List D)} {l : List Sl → R (List D × List Sl)} {i : Nat}
end
/-! comprehensions whose variable holds each of them -/
section
variable {X : Cx} {B : Bs} {E : XK} {e c iter elt : Expr} {ifs : List Expr} {f : List Sl → R (D × List Sl)} {F : List Sl → R (List D × List Sl)} {u : List Sl → R (Bool × List Sl)} {pos np : Pos} {i : Nat} {x : Str} {scope : Scope} {own : List (Str × Nat)}
/-- the target: a name that takes a container -/
def tGO1 (B : Bs) (i : Nat) : TG := fun v σ H Q => ∃ Fz ρ a d ρ', v = .ref a ∧ Iv B Fz H σ ρ ∧ Own B.K Fz H a d ∧ B.H0 a = none ∧ (∀ j b, HeldAt σ ρ j b → b ≠ a) ∧ putSl ρ i (.ow d) = some ρ' ∧ ∀ σ', Same [i] σ σ' → Iv B Fz H σ' ρ' → Q σ' H
end
/-! the printer's rules -/
section
variable {W : Wd} {N : List Str} {sc : Scope} {k : Nat} {E : XK} {X : Cx} {B : Bs} {e iter elt : Expr} {ifs : List Expr} {F : List Sl → R (List D × List Sl)} {f : List Sl → R (D × List Sl)} {u : List Sl → R (Bool × List Sl)} {s : List Sl → R (List D × List Sl)} {t : D → List Sl → Option (List Sl)} {g : List Sl → RS} {pos np : Pos} {i : Nat} {x : Str} {ws : List Nat} {scope : Scope} {own : List (Str × Nat)} {body : List Stmt}
end
end Dx
namespace Dx
variable [Tbs]
end Dx

set_option Elab.async false
set_option linter.all false
set_option maxRecDepth 100000
set_option maxHeartbeats 1000000
/-! DxZr: [..] * n. -/
namespace Dx
open PySem PySem.Spec PyProof.Rows L2
variable [Tbs]
def repF (x y : D) : Option D := match x, y with
  | .lst l, .int k => if decide (-(2 ^ 63) ≤ k ∧ k < 2 ^ 63 ∧ l.length * k.toNat ≤ sizeLine) then some (.lst (List.replicate k.toNat l).flatten) else none
  | _, _ => none
def evRep (f g : List Sl → R (D × List Sl)) (ρ : List Sl) : R (D × List Sl) := (f ρ).bind fun p => if isLst p.1 then (g p.2).nox.bind fun q => (ofO (repF p.1 q.1)).bind fun z => .ok (z, q.2) else .bad
section
variable {X : Cx} {B : Bs} {E : XK} {a b : Expr} {f g : List Sl → R (D × List Sl)} {pos : Pos}
end
section
variable {W : Wd} {N : List Str} {sc : Scope} {k : Nat} {E : XK} {X : Cx} {B : Bs} {a b : Expr} {f g : List Sl → R (D × List Sl)} {pos : Pos}
end
end Dx

set_option Elab.async false
set_option linter.all false
set_option maxRecDepth 100000
set_option maxHeartbeats 1000000
/-! DxZs: list(text). -/
namespace Dx
open PySem PySem.Spec PyProof.Rows L2
variable [Tbs]
/-- list of a text -/
def listSO : List D → Option D
  | [.str x] => if x.cps.size ≤ sizeLine then some (.lst (chrD x)) else none
  | _ => none
section
variable {W : Wd} {N : List Str} {sc : Scope} {k : Nat} {E : XK} {X : Cx} {B : Bs} {e : Expr} {f : List Sl → R (D × List Sl)} {pos p : Pos}
/-- list(x) of a list, a tuple or a text -/
def list2O : List D → Option D
  | [.str x] => listSO [.str x]
  | ds => listO ds
@[simp] theorem list2_l {l : List D} : list2O [.lst l] = some (.lst l) := rfl
@[simp] theorem list2_t {l : List D} : list2O [.tup l] = some (.lst l) := rfl
end
end Dx

set_option Elab.async false
set_option linter.all false
set_option maxRecDepth 100000
set_option maxHeartbeats 1000000
/-! DxZt: == by an own __eq__, whatever it answers. -/
namespace PySem.W
open PySem PyProof.Rows
section
variable {prog : Program} {w : World} {A : Around} {E : Value → Shared → Prop} {s : Shared} {K : Frag} {x y C C2 L f : Addr} {h₀ : Heap} {m : Str → Option Value} {ox oy : Obj} {od od2 : Option Obj}
/-- the right one's class is a proper part of the left one's: it is asked first -/
theorem cmp_rev {Q : Value → Shared → Prop} (hu : A.units < cLine) (F : Fr h₀ L s.heap m) (X₀ : K.In h₀) (I : InstAt s.heap x ox C od) (J : InstAt s.heap y oy C2 od2) (ne : C2 ≠ C) (hsub : subIn K (.ref C2) (.ref C) = some true)
    (hs : findIn K (.ref C2) "__eq__" = some (some (.ref f))) (hf : isFn K (.ref f) = true)
    (h : wpAny (model prog w) A (call (.ref f) [.ref y, .ref x]) (CmpBack Q) E s) : wpAny (model prog w) A (richCompare .Eq (.ref x) (.ref y)) Q E s := by
  have X := X₀.keeps F.keep
  have one : wpAny (model prog w) A (tryCompare (.ref y) (cmpInfo .Eq).2.2 (.ref x)) (fun r s' => ∃ v, r = some v ∧ Q v s') E s := by
    unfold tryCompare
    refine wpAny_bind (ifBound_K X J hs hf (wpAny_mono h (fun v s' hv => ?_) fun _ _ e => e))
    cases v <;> first | exact hv.elim | exact wpAny_pure ⟨_, rfl, hv⟩
  unfold richCompare
  simp only [oneThing_ref]
  refine wpAny_holding (wpAny_bind (wpAny_cRoomFor hu ?_))
  refine wpAny_bind (I.type.here (wpAny_bind (J.type.here ?_)))
  split
  · refine wpAny_bind ((looks_subIn X hsub).here ?_)
    simp only [if_true]
    refine wpAny_bind (wpAny_mono one (fun r s' z => ?_) fun _ _ e => e)
    obtain ⟨v, rfl, hq⟩ := z
    dsimp only
    refine wpAny_bind (wpAny_rule ?_)
    exact wpAny_pure hq
  · rename_i q
    exact absurd (by simpa using q) (fun e : C = C2 => ne e.symm)
end
end PySem.W
namespace Dx
open PySem PySem.Spec PyProof.Rows L2
variable [Tbs]
/-- what stands on the right: no instance of a proper part of the left one's class -/
def RightOk (K : Frag) (H : Hp) (C : Addr) (y : V) : Prop := (∃ tv, TyX K H y tv ∧ PySem.W.notFirst K C tv = true) ∨ ∃ b C2 dy gs, y = .ref b ∧ H b = some (.ins C2 dy gs) ∧ PySem.W.notFirst K C (.ref C2) = true
section
variable {W : Wd} {N : List Str} {sc : Scope} {k j : Nat} {E : XK} {X : Cx} {B : Bs} {a b : Expr} {f g : List Sl → R (D × List Sl)} {pos : Pos}
def BTs : List String := ["NoneType", "bool", "int", "str", "tuple", "list", "dict"]
/-- the classes: those with an own ==, by name; proper parts; all of whose instances are met -/
structure EqT where
  tab : List (Str × Fd)
  subs : List (Str × Str)
  cs : List Str
def callEq (t : EqT) (c : Str) (x y : D) : R D := (ofO (t.tab.lookup c)).bind fun F => if decide (F.md = [.sh, .sh]) && !F.own then (F.sem [x, y]).nox.bind fun q => match q.1 with
  | .bl b => .ok (.bl b)
  | _ => .bad else .bad
def insN : D → Option Str
  | .ins c _ => some c
  | _ => none
def eqX (t : EqT) (x y : D) : R D := match insN x, insN y with
  | some c, some c2 => if t.cs.contains c2 then (if t.subs.contains (c2, c) then (if (t.tab.lookup c).isSome then callEq t c2 y x else .bad) else callEq t c x y) else .bad
  | some c, none => if (tyS y).isSome then callEq t c x y else .bad
  | none, some _ => .bad
  | none, none => ofO (eqO x y)
def evEqX (t : EqT) (f g : List Sl → R (D × List Sl)) (ρ : List Sl) : R (D × List Sl) := (f ρ).bind fun p => (g p.2).bind fun q => (eqX t p.1 q.1).bind fun z => .ok (z, q.2)
def eqNB (ns : List Str) (subs : List (Str × Str)) (cs : List Str) (K : Frag) : Bool := ns.all fun c => BTs.all (fun T => PySem.W.notFirst K (He.ga K c) (.type T)) && cs.all fun c2 => if subs.contains (c2, c) then PySem.W.subIn K (.ref (He.ga K c2)) (.ref (He.ga K c)) == some true && !(He.ga K c2 == He.ga K c) else PySem.W.notFirst K (He.ga K c) (.ref (He.ga K c2))
def eqTB (t : EqT) (K : Frag) : Bool := eqNB (t.tab.map (·.1)) t.subs t.cs K
structure EqOk (W : Wd) (j : Nat) (t : EqT) : Prop where
  m : ∀ p ∈ t.tab, MethG W j p.1 "__eq__" p.2
  b : eqTB t W.K = true
/-- the call behind the comparison -/
theorem fin_eq {t : EqT} {σ : L2.St} {H : Hp} {Fz : Addr → Prop} {ρ : List Sl} {v u : V} {x y : D} {c : Str} {Q : VK} (wo : WOk W) (hB : BOk W B) (I : Iv B Fz H σ ρ) (hx : Den B.K Fz H v x) (hy : Den B.K Fz H u y)
    (q : FinG rD B E σ Q Fz H ((callEq t c x y).bind fun z => .ok (z, ρ))) : ∃ F, t.tab.lookup c = some F ∧ spF W.K W.gp F [v, u] H (fun v H' => (∃ b, v = .bl b) ∧ Q v H') E0 := by
  unfold callEq at q
  cases el : t.tab.lookup c with
  | none => rw [el] at q; exact q.elim
  | some F =>
    refine ⟨F, rfl, ?_⟩
    rw [el] at q
    have q : FinG rD B E σ Q Fz H ((if (decide (F.md = [.sh, .sh]) && !F.own) = true then (F.sem [x, y]).nox.bind fun q => match q.1 with
      | .bl b => .ok (.bl b)
      | _ => .bad else .bad : R D).bind fun z => .ok (z, ρ)) := q
    by_cases hc : (decide (F.md = [.sh, .sh]) && !F.own) = true
    · rw [if_pos hc] at q
      rw [Bool.and_eq_true] at hc
      have hm := of_decide_eq_true hc.1
      have ho : F.own = false := by simpa using hc.2
      have ha : ArsL B Fz H σ [v, u] [.d x, .d y] := .cons hx (.cons hy .nil)
      have hk : mkArgs F.md [.d x, .d y] ρ = some [x, y] := by rw [hm]; rfl
      rw [← hB.K]
      refine sp_call I ha hk (show (arIx [Ar.d x, Ar.d y]).Nodup from List.nodup_nil) (fun z outs v' H' Fz' e I' g bk r => ?_) (fun c d e => ?_) (fun e => ?_) (hB.now wo I)
      · rw [e] at q
        have e2 : putOuts F.md [Ar.d x, Ar.d y] outs ρ = ρ := by rw [hm]; cases outs <;> rfl
        rw [e2] at I'
        rw [ho] at r
        have r : Den B.K Fz' H' v' z := r
        cases z with
        | bl b => cases r; exact ⟨⟨b, rfl⟩, q _ H' Fz' I' g (.bl b)⟩
        | _ => exact q.elim
      · rw [e] at q; exact q.elim
      · rw [e] at q; exact q
    · rw [if_neg hc] at q; exact q.elim
end
end Dx

set_option Elab.async false
set_option linter.all false
set_option maxRecDepth 100000
set_option maxHeartbeats 1000000
/-! DxZu: != by an own __eq__. -/
namespace PySem.W
open PySem PyProof.Rows
section
variable {prog : Program} {w : World} {A : Around} {E : Value → Shared → Prop} {s : Shared} {K : Frag} {x y C C2 L f : Addr} {h₀ : Heap} {m : Str → Option Value} {ox oy : Obj} {od od2 : Option Obj} {b tb : Value}
theorem entry_ne {Q : Fin → Shared → Prop} (hu : A.units < cLine) (X : K.In s.heap) (I : InstAt s.heap x ox C od) (hs : findIn K (.ref C) "__eq__" = some (some (.ref f))) (hf : isFn K (.ref f) = true)
    (h : wpAny (model prog w) A (call (.ref f) [.ref x, b]) (fun v s' => ∃ c, v = .bool c ∧ Q (.done (.ret (.bool (!c)))) s') E s) : wpAny (model prog w) A (Builtin.«object.__ne__» ⟨[.ref x, b], []⟩) Q E s := by
  unfold Builtin.«object.__ne__»
  repeat (first
    | with_reducible refine wpAny_cRoomFor hu ?_
    | (refine wpAny_bind (m := callSpecialIfBound? (.ref x) (Str.ofString "__eq__") [b])
        (ifBound_K X I hs hf (wpAny_mono h (fun r s' hr => by
          obtain ⟨b, rfl, hq⟩ := hr
          repeat (first | exact hq | exact wpAny_pure hq | exact wpAny_truthy_bool hq | (refine wpAny_bind (m := truthy (.bool _)) (wpAny_truthy_bool ?_)) | wp_step)) fun _ _ e => e)))
    | wp_step)
theorem ifBound_ne {M : Model} {args : List Value} {Q : Option Value → Shared → Prop} (X : K.In s.heap) (I : InstAt s.heap x ox C od) (hs : findIn K (.ref C) "__ne__" = some (some (.builtin "object.__ne__")))
    (h : wpAny M A (call (.builtin "object.__ne__") (.ref x :: args)) (fun v => Q (some v)) E s) : wpAny M A (callSpecialIfBound? (.ref x) "__ne__" args) Q E s := by
  simp only [callSpecialIfBound?, bindSpecialIfBound?]
  refine wpAny_holding (wpAny_bind (wpAny_bind (wpAny_bind (I.type.here ((looks_findIn X hs).here ?_)))))
  refine wpAny_bind (wpAny_askSetting (wpAny_ite ?_))
  have fin : wpAny M A (call (.builtin "object.__ne__") ([.ref x] ++ args) >>= fun v => pure (some v)) Q E s := wpAny_bind (wpAny_mono h (fun v s' h' => wpAny_pure h') fun _ _ h' => h')
  split
  · exact wpAny_bind (wpAny_of_eq (F.cmp_object.ne.bind _) (wpAny_pure (by exact fin)))
  · exact wpAny_tryCatch (wpAny_bind (wpAny_of_eq (F.cmp_object.ne.bind _) (wpAny_pure (by exact fin))))
/-- x's != asks its own == -/
theorem try_ne {Q : Option Value → Shared → Prop} (hu : A.units + 1 < cLine) (X : K.In s.heap) (I : InstAt s.heap x ox C od) (hm : mroIn K C (.type "object") = some true) (hn : findIn K (.ref C) "__ne__" = some (some (.builtin "object.__ne__")))
    (hs : findIn K (.ref C) "__eq__" = some (some (.ref f))) (hf : isFn K (.ref f) = true)
    (h : wpAny (model prog w) A.in1 (call (.ref f) [.ref x, b]) (fun v s' => ∃ c, v = .bool c ∧ Q (some (.bool (!c))) s') E s) : wpAny (model prog w) A (tryCompare (.ref x) "__ne__" b) Q E s := by
  unfold tryCompare
  refine wpAny_bind (ifBound_ne X I hn (wpAny_call (codeAny_call_builtin F.cmp_object.ne.plain F.cmpEntry_ne (check_slot F.cmpKind_ne F.cmpSplit_ne (I.type.andThen (looks_mroIn X hm)) (F.cmpArgs_ne _ _) (entry_ne (A := A.in1) hu X I hs hf (wpAny_mono h (fun v s' hv => ?_) fun _ _ e => e))))))
  obtain ⟨c, rfl, hq⟩ := hv
  first | exact ⟨c, rfl, wpAny_pure hq⟩ | exact ⟨c, rfl, wpAny_pure (wpAny_pure hq)⟩
end
end PySem.W
namespace Dx
open PySem PySem.Spec PyProof.Rows L2
variable [Tbs]
/-- what != asks of a class -/
def NeC (K : Frag) (c : Str) : Prop := PySem.W.mroIn K (He.ga K c) (.type "object") = some true ∧ PySem.W.findIn K (.ref (He.ga K c)) "__ne__" = some (some (.builtin "object.__ne__"))
section
variable {W : Wd} {N : List Str} {sc : Scope} {k j : Nat} {E : XK} {X : Cx} {B : Bs} {a b : Expr} {f g : List Sl → R (D × List Sl)} {pos : Pos}
/-- a def called one call deeper -/
theorem run_in1 (wo : WOk W) {f : Addr} {fd : FuncData} {ps : List Str} {sp : Sp} {pins : List (Addr × Obj)} {σ : L2.St} {H : Hp} {s : Shared} {Q : VK} {us : List Value} {vs : List V} (hX : XIs W N sc k E X) (Fn : FnG W j f fd ps sp) (hj : j + 1 ≤ k) (hb : Binds W.K fd ps []) (I : Inv X pins σ H s) (r : Vals vs us) (h : sp vs H Q E0) :
    wpAny (model X.prog X.w) X.A.in1 (call (.ref f) us) (EP X pins σ Q) X.xe s := by
  have nl : (us ++ []).length = ps.length := by rw [List.append_nil, ← r.length]; exact Fn.len _ _ _ _ h
  have e0 : Env0 W.P W.w W.K W.mg W.base X.A.in1 X.stack s H := by
    have := I.env0.in1
    rw [hX.hP, hX.hw, hX.hK, hX.hmg, hX.hbase] at this
    exact this
  have bd := hb s us (hX.hK ▸ I.kIn) nl
  rw [List.append_nil] at bd
  have run := Fn.run X.A.in1 X.stack s H ⟨us, []⟩ us vs Q E0 ((hX.room.mono hj).in1) hX.grd e0 bd r h
  rw [← hX.hP, ← hX.hw] at run
  refine wpAny_call (codeAny_mono run fun r s' hq => ?_)
  cases r with
  | error er => exact (wo.none _ _ _ _ _ hq).elim
  | ok fl =>
    cases fl with
    | ret u => exact I.after hq
    | next => exact False.elim hq
    | brk => exact False.elim hq
    | cont => exact False.elim hq
def notR (r : R D) : R D := r.bind fun z => match z with
  | .bl b => .ok (.bl (!b))
  | _ => .bad
def neX (t : EqT) (x y : D) : R D := match insN x, insN y with
  | some c, some c2 => if t.cs.contains c2 then (if t.subs.contains (c2, c) then (if (t.tab.lookup c).isSome then notR (callEq t c2 y x) else .bad) else notR (callEq t c x y)) else .bad
  | some c, none => if (tyS y).isSome then notR (callEq t c x y) else .bad
  | none, some _ => .bad
  | none, none => ofO (neO x y)
def evNeX (t : EqT) (f g : List Sl → R (D × List Sl)) (ρ : List Sl) : R (D × List Sl) := (f ρ).bind fun p => (g p.2).bind fun q => (neX t p.1 q.1).bind fun z => .ok (z, q.2)
end
end Dx

set_option Elab.async false
set_option linter.all false
set_option maxRecDepth 100000
set_option maxHeartbeats 1000000
/-! DxZv: x is True; a, b = e, f through a tuple. -/
namespace Dx
open PySem PySem.Spec PyProof.Rows L2
variable [Tbs]
def isBO (x y : D) : Option D := match x, y with
  | .bl a, .bl b => some (.bl (decide (a = b)))
  | _, _ => none
def notBO (x y : D) : Option D := match x, y with
  | .bl a, .bl b => some (.bl (!decide (a = b)))
  | _, _ => none
@[simp] theorem isB_b {a b : Bool} : isBO (.bl a) (.bl b) = some (.bl (decide (a = b))) := rfl
@[simp] theorem notB_b {a b : Bool} : notBO (.bl a) (.bl b) = some (.bl (!decide (a = b))) := rfl
section
variable {W : Wd} {N : List Str} {sc : Scope} {k : Nat} {E : XK} {X : Cx} {B : Bs} {a b : Expr} {f g : List Sl → R (D × List Sl)} {pos : Pos}
end
/-! names in a row as a target -/
section
variable {X : Cx} {B : Bs} {E : XK} {es tgs : List Expr} {g : List Sl → R (List (Bool × D) × List Sl)} {pos pt pt2 p : Pos} {kt k2 i : Nat} {x : Str} {is : List Nat}
theorem MxL.laid {Fz : Addr → Prop} {H : Hp} {σ : L2.St} {ρ : List Sl} {vs : List V} {ds : List (Bool × D)} {q : Addr} {o : HO} (hq : H q = none) (fz : FzOk Fz H) (h : MxL B Fz H σ ρ vs ds) : MxL B Fz (upd H q o) σ ρ vs ds := by
  have x := ext_new (o := o) fz hq
  induction h with
  | nil => exact .nil
  | sh d _ ih => exact .sh (d.mono x.ge) ih
  | ow a1 a2 a3 a4 _ ih => exact .ow (a1.keep x fun z => z) a2 a3 a4 ih
end
end Dx

set_option Elab.async false
set_option linter.all false
set_option maxRecDepth 100000
set_option maxHeartbeats 1000000
/-! DxZw: slices from the end backwards; ~x by an own __invert__. -/
namespace HT
open PySem PySem.Spec PyProof.Rows
section
variable {prog : Program} {w : World} {A : Around} {E : Value → Shared → Prop} {s : Shared}
/-- how many items a step of -1 leaves out at the front -/
def revCut : Option Int → Nat
  | none => 0
  | some k => k.toNat + 1
end
end HT
namespace HT
open PySem PySem.Spec PyProof.Rows
end HT
namespace Dx
open PySem PySem.Spec PyProof.Rows L2
variable [Tbs]
open HT (revCut)
end Dx
namespace Dx
open PySem PySem.Spec PyProof.Rows L2
variable [Tbs]
open HT (revCut)
def nnB : Option Int → Bool
  | none => true
  | some k => decide (0 ≤ k)
def revO (hi : Option Int) (d : D) : Option D := if nnB hi then match d with
  | .tup l => some (.tup (l.drop (revCut hi)).reverse)
  | .lst l => some (.lst (l.drop (revCut hi)).reverse)
  | _ => none else none
/-- a[:hi:-1] -/
def evRev (f : List Sl → R (D × List Sl)) (p : Option (List Sl → R (D × List Sl))) (ρ : List Sl) : R (D × List Sl) := (f ρ).bind fun x => (evPart p x.2).bind fun y => (ofO (revO y.1 x.1)).bind fun w => .ok (w, y.2)
section
variable {W : Wd} {N : List Str} {sc : Scope} {k j : Nat} {E : XK} {X : Cx} {B : Bs} {a o st : Expr} {f g : List Sl → R (D × List Sl)} {pos p2 : Pos}
/-- ~x by an own __invert__ -/
theorem q_invO {tab : List (Str × Fd)} (wo : WOk W) (hX : XIs W N sc k E X) (hB : BOk W B) (hp : ∀ p ∈ tab, MethG W j p.1 "__invert__" p.2) (hj : j ≤ k) (ho : PE X o (tE B E g)) : PE X (.UnaryOp .Invert o pos) (tE B E (evProp tab g)) := by
  refine ⟨fun pins s σ H Q I0 ⟨Fz, ρ, I, q⟩ => ?_⟩
  refine UnaryOp_ (thn (ho.run pins s σ H _ I0 (tG_bind I q)) fun u s1 ⟨x, H1, I1, rx, F1, ρ1, d, I2, d1, g1, e1, q1⟩ => ?_)
  obtain ⟨F, eF, q2⟩ := fin_o q1
  obtain ⟨hc, qz⟩ := fin_if q2
  rw [Bool.and_eq_true, Bool.not_eq_true'] at hc
  obtain ⟨c, ec, eF⟩ := bind_some eF
  have d1 : Den B.K F1 H1 x d := d1
  have d0 := d1
  cases d1 with
  | @ins a dx c' fs ds fz ha dn =>
    cases ec
    have mg := hp _ (lookup_mem eF)
    obtain ⟨gg, fd, ps, mt, Fn, bd⟩ := mg.ex
    cases (show u = Value.ref a from rx)
    rw [hB.K] at ha
    obtain ⟨mZ, O, _, _, _, _⟩ := ins_get I1.hok ha
    obtain ⟨od, J, _⟩ := O.look
    have e0 := hX.e0 wo
    unfold unaryOp
    refine wpAny_holding ?_
    refine wpAny_bind (PySem.W.special_fn (args := []) I1.kIn J (by rw [hX.hK]; exact mt.at_) (by rw [hX.hK]; exact beq_iff_eq.mp mt.fn) ?_)
    refine wpAny_mono (run_fnG (vs := [V.ref a]) (us := [.ref a]) e0 Fn hj bd I1 (.cons rfl .nil) (fin_call1 wo hB I2 d0 (of_decide_eq_true hc.1) hc.2 qz)) (fun r s' hq => ?_) fun _ _ z => z
    exact wpAny_pure hq
  | _ => cases ec
end
end Dx
namespace L2
open PySem PySem.Spec PyProof.Rows
section
variable {X : Cx}
/-- x = {..} on one line -/
theorem ps_setDc {i : Nat} {y : Str} {py : Pos} {kx vx tg iter : Expr} {ifs : List Expr} {scope : Scope} {own : List (Str × Nat)} {pos spos : Pos} {wi : TI} {g : TG} {tt : TT} {tk tv : TE} (hc : X.calm = true) (hN : X.N.Nodup) (hy : X.N[i]? = some y) (hyl : X.env.scope.names.lookup y = some .local)
    (hsw : swapsWith (.DictComp kx vx [⟨tg, iter, ifs, 0⟩] scope pos) (some (.Name y py)) spos.line X.env = pure true) (hi : PI X tg iter wi) (ok : BlkOk X.N X.env.scope scope own)
    (hg : ∀ (s : Shared) (H : Hp) (C : Addr) (cl : List (Str × Addr)) (fp : List Addr), PG (X.blk s H scope (compEnvC scope cl C X.env) fp) tg g) (ht : ∀ (s : Shared) (H : Hp) (C : Addr) (cl : List (Str × Addr)) (fp : List Addr), PTs (X.blk s H scope (compEnvC scope cl C X.env) fp) ifs tt)
    (hk : ∀ (s : Shared) (H : Hp) (C : Addr) (cl : List (Str × Addr)) (fp : List Addr), PE (X.blk s H scope (compEnvC scope cl C X.env) fp) kx tk)
    (he : ∀ (s : Shared) (H : Hp) (C : Addr) (cl : List (Str × Addr)) (fp : List Addr), PE (X.blk s H scope (compEnvC scope cl C X.env) fp) vx tv) (hs : ∀ x, foldedSetIterable iter X.env x = pure x) :
    PS X (.Assign [.Name y py] (.DictComp kx vx [⟨tg, iter, ifs, 0⟩] scope pos) spos) (tAsg (tDc wi g tt tk tv (own.map (·.2))) (gName i)) := by
  refine ⟨fun pins s σ H D I h => ?_⟩
  rw [exec_Assign_Name_used _ _ _ _ hsw]
  refine wpAny_bind (wpAny_standAt (wpAny_bind ?_))
  show wpAny _ X.A (do let _ ← comprehension (.DictComp kx vx [⟨tg, iter, ifs, 0⟩] scope pos) scope X.env (firstIterPos [⟨tg, iter, ifs, 0⟩] pos) newDict false (eval iter X.env) (some (assign (.Name y py) X.env))) _ _ s
  have h : tDc wi g tt tk tv (own.map (·.2)) σ H (fun x H1 => gName i x σ H1 D.nx) := h
  refine wpAny_bind (thn (dc_core (Qf := fun _ s' => SP X pins D .next s') hc hN I hi ok hg ht hk he hs h fun L C s' m H' I' q hn f => ?_) fun _ s' hq => wpAny_pure (wpAny_pure hq))
  show wpAny _ _ (assign (.Name y py) X.env (.ref L)) _ _ _
  refine wpAny_assign_Name (store_ok2 (v := V.ref L) I' hN hy (.inl hyl) rfl (fun s2 I2 ⟨a, sb, ha⟩ => ?_) (.inr hyl))
  obtain ⟨f0, f1, f2, f3, f4, f5⟩ := f
  have haC : C ≠ a := by
    rcases ha with z | z
    · rw [z]; exact f1
    · exact fun e => f4 y a z e.symm
  refine ⟨m, hn.sameBut sb haC, fun h3 sb3 => ?_⟩
  exact ⟨_, H', I2.turned (t' := s2.toks) (fun b o hb e => (sb3.2 b hb).trans e) f0 f1 f3 f4 f5, q⟩
end
end L2
namespace Dx
open PySem PySem.Spec PyProof.Rows L2
variable [Tbs]
section
variable {W : Wd} {N : List Str} {sc : Scope} {k : Nat} {E : XK} {X : Cx} {B : Bs} {iter tg kx vx : Expr} {ifs : List Expr} {f h : List Sl → R (D × List Sl)} {s : List Sl → R (List D × List Sl)} {t : D → List Sl → Option (List Sl)} {u : List Sl → R (Bool × List Sl)} {pos : Pos} {i : Nat} {ws : List Nat} {scope : Scope} {own : List (Str × Nat)}
end
end Dx

set_option Elab.async false
set_option linter.all false
set_option maxRecDepth 100000
set_option maxHeartbeats 1000000
/-! the head: facts of the state behind the top, in groups, each group seen in a run of its own -/
namespace Dx
open PySem PySem.Spec PyProof.Rows L2
variable [Tbs]

abbrev FB : Type := Frag → Bool
/-- a group: tests, defs -/
structure Grp where
  fb : List FB
  fn : List He5.DefA
  fx : List He5.DefA
/-- a def, whatever its cells -/
def fnE (K : Frag) (a : Addr) : He.FnW := match K.lookup a with
  | some ⟨_, _, .func fd, _⟩ => some (fd.name, fd.qualname, fd.params, fd.body, fd.scope, fd.globals, [], fd.builtins)
  | _ => none
abbrev GrV : Type := Bool × List He.FnW × List He.FnW
def Grp.obs (p : Grp) (K : Frag) : GrV := (p.fb.all fun f => f K, p.fn.map fun d => He5.fnA K (d.at_ K), p.fx.map fun d => fnE K (d.at_ K))
def Grp.val (p : Grp) : GrV := (true, p.fn.map He5.DefA.val, p.fx.map He5.DefA.val)
theorem says_at {gs : List Grp} {K : Frag} (h : gs.map (fun p => p.obs K) = gs.map Grp.val) {i : Nat} {p : Grp} (e : gs[i]? = some p) : p.obs K = p.val := by
  have q : (gs.map fun p => p.obs K)[i]? = (gs.map Grp.val)[i]? := by rw [h]
  rw [List.getElem?_map, List.getElem?_map, e] at q
  exact Option.some.inj q
theorem obs_fb {p : Grp} {K : Frag} (h : p.obs K = p.val) {f : FB} (i : Nat) (e : p.fb[i]? = some f) : f K = true := by
  have c : (p.fb.all fun f => f K) = true := congrArg (fun z : GrV => z.1) h
  exact List.all_eq_true.mp c f (List.mem_of_getElem? e)
theorem obs_fn {p : Grp} {K : Frag} (h : p.obs K = p.val) {d : He5.DefA} (i : Nat) (e : p.fn[i]? = some d) : He5.fnA K (d.at_ K) = d.val := by
  have c : p.fn.map (fun d => He5.fnA K (d.at_ K)) = p.fn.map He5.DefA.val := congrArg (fun z : GrV => z.2.1) h
  have q : (p.fn.map fun d => He5.fnA K (d.at_ K))[i]? = (p.fn.map He5.DefA.val)[i]? := by rw [c]
  rw [List.getElem?_map, List.getElem?_map, e] at q
  exact Option.some.inj q
theorem obs_fx {p : Grp} {K : Frag} (h : p.obs K = p.val) {d : He5.DefA} (i : Nat) (e : p.fx[i]? = some d) : fnE K (d.at_ K) = d.val := by
  have c : p.fx.map (fun d => fnE K (d.at_ K)) = p.fx.map He5.DefA.val := congrArg (fun z : GrV => z.2.2) h
  have q : (p.fx.map fun d => fnE K (d.at_ K))[i]? = (p.fx.map He5.DefA.val)[i]? := by rw [c]
  rw [List.getElem?_map, List.getElem?_map, e] at q
  exact Option.some.inj q
section
open PySem.W HandSHeadRun
def ParEq (r : OpenRow) (M : Nat) (as : List Addr) (w : World) (p : Grp) : Prop := ∀ os : OsState, (endF (stepQ (denQ tabQ) r.prog w) M r.prog w os).map (fun s => p.obs (He.frG (getT s) as)) = some p.val
end
end Dx

set_option Elab.async false
set_option linter.all false
set_option maxRecDepth 100000
set_option maxHeartbeats 1000000
/-! tests of the state behind the top, and what they show -/
namespace Dx
open PySem PySem.Spec PyProof.Rows L2
variable [Tbs]

/-! ### constants -/
mutual
def ctB (K : Frag) : Value → D → Bool
  | .none, .non => true
  | .bool b, .bl c => b == c
  | .int i _, .int j => decide (i = j)
  | .str x _, .str y => decide (x = y)
  | .ref a, .tup l => (match K.lookup a with
    | some ⟨.type c, _, .seq its _, _⟩ => decide (c = "tuple") && decide (its.size ≤ sizeLine) && ctL K its.toList l
    | _ => false)
  | _, _ => false
def ctL (K : Frag) : List Value → List D → Bool
  | [], [] => true
  | u :: us, d :: ds => ctB K u d && ctL K us ds
  | _, _ => false
end
/-- the module's name x is the constant d -/
def gcB (x : Str) (d : D) (K : Frag) : Bool := match PySem.W.nsIn K mainGlobals x with
  | some (some u) => ctB K u d
  | _ => false
/-! ### fields, kinds -/
def insB (c : Str) (K : Frag) : Bool := (He.Fa.cls c).ok K && (He.eqO (PySem.W.findIn K (.ref (He.ga K c)) "__class__") (some (some (.builtin "object.__class__"))) && decide (PySem.W.mroIn K (He.ga K c) (.type "object") = some true))
theorem insB_ok {W : Wd} {c : Str} (h : insB c W.K = true) : InsTy W c := by
  unfold insB at h
  rw [Bool.and_eq_true, Bool.and_eq_true] at h
  exact ⟨He.cls_ok h.1, He.eqO_ok h.2.1, of_decide_eq_true h.2.2⟩
def isiB (t : IsiT) (u : Frag → Value) (K : Frag) : Bool := (t.ty.all fun p => decide (PySem.W.kitOne K (.type p.1) (u K) = some p.2)) && ((t.ins.all fun p => insB p.1 K && decide (PySem.W.kitOne K (.ref (He.ga K p.1)) (u K) = some p.2)) &&
  (He.eqO (PySem.W.specialIn K (.builtin "object.__class__") "__get__") (some (some (.builtin "getset_descriptor.__get__"))) && decide (PySem.W.takesIn K (.builtin "object.__class__") = some true)))
theorem isiB_ok {W : Wd} {t : IsiT} {u : Frag → Value} (h : isiB t u W.K = true) : IsiOk W t (u W.K) := by
  unfold isiB at h
  rw [Bool.and_eq_true, Bool.and_eq_true, Bool.and_eq_true] at h
  refine ⟨fun p hp => of_decide_eq_true (List.all_eq_true.mp h.1 p hp), fun p hp => ?_, He.eqO_ok h.2.2.1, of_decide_eq_true h.2.2.2⟩
  have := List.all_eq_true.mp h.2.1 p hp
  rw [Bool.and_eq_true] at this
  exact ⟨insB_ok this.1, of_decide_eq_true this.2⟩
/-! ### free names, defs, properties -/
def freB (l : List Str) (K : Frag) : Bool := l.all fun x => (He.Fa.free x).ok K
theorem freB_ok {W : Wd} {h : Heap} {l : List Str} (X : W.K.In h) (G : h.Ns mainGlobals W.mg) (c : freB l W.K = true) : ∀ x : Str, l.contains x = true → W.mg x = none :=
  fun x hx => He.free_ok X G (List.all_eq_true.mp c x (List.contains_iff_mem.mp hx))
def sysB (K : Frag) : Bool := (K.lookup sysModules).isSome
theorem sysB_ok {K : Frag} (c : sysB K = true) : ∃ o, K.lookup sysModules = some o := Option.isSome_iff_exists.mp c
theorem memK {K : Frag} {a : Addr} {o : Obj} (h : K.lookup a = some o) : (a, o) ∈ K := by
  induction K with
  | nil => cases h
  | cons p r ih =>
    obtain ⟨b, u⟩ := p
    rw [List.lookup_cons] at h
    cases e : a == b with
    | true => rw [e] at h; cases h; rw [beq_iff_eq.mp e]; exact List.mem_cons_self
    | false => rw [e] at h; exact List.mem_cons_of_mem _ (ih h)
def nolB (K : Frag) : Bool := K.all fun p => !(decide (p.2.cls = .type "list"))
theorem nolB_ok {K : Frag} (c : nolB K = true) {a : Addr} {o : Obj} (e : K.lookup a = some o) : o.cls ≠ .type "list" := fun q => by
  have := List.all_eq_true.mp c (a, o) (memK e)
  rw [show decide (((a, o) : Addr × Obj).2.cls = .type "list") = true from decide_eq_true q] at this
  cases this
def fnD (at_ : Frag → Addr) (x qual : Str) (st : Stmt) : He5.DefA := ⟨at_, x, qual, C8.fnArgs st, C8.fnBody st, C8.fnScope st, [], []⟩
theorem fnAt_of {W : Wd} {at_ : Frag → Addr} {x qual : Str} {st : Stmt} (e : He5.fnA W.K (at_ W.K) = (fnD at_ x qual st).val) (c : (fnD at_ x qual st).ok W.K = true) : FnAt W x qual st (at_ W.K) := by
  obtain ⟨fd, D⟩ := He5.DefA.funD (d := fnD at_ x qual st) e c
  obtain ⟨oc, od, dV, kV, doc, pm, an, cdv, ct, osl, e1, e2, e3, hd, _⟩ := D.ex
  rcases hd with ⟨_, e4⟩ | ⟨e4, _⟩
  · subst e4
    subst e1
    exact ⟨⟨oc, od, kV, doc, pm, an, cdv, ct, osl, e2, e3⟩, D.kp⟩
  · exact absurd rfl e4
def pmA (c m : Str) (K : Frag) : Addr := He.ma K (He.ga K c) m
end Dx

set_option Elab.async false
set_option linter.all false
set_option maxRecDepth 100000
set_option maxHeartbeats 1000000
/-! the law's end -/
namespace Dx
open PySem PySem.Spec PyProof.Rows L2
variable [Tbs]

theorem cx_none {P : Program} {w : World} {outer : List Env} {H : Hp} {s s' : Shared} {e : Value} : ¬ L2.CX P w outer H s E0 e s' := fun ⟨_, _, _, _, _, _, _, _, _, _, _, _, z⟩ => z
theorem denInts {K : Frag} {Fz : Addr → Prop} {H : Hp} : ∀ ns : List Int, DenL K Fz H (ns.map V.int) (ns.map D.int)
  | [] => .nil
  | n :: r => .cons (.int n) (denInts r)
/-- only the script, and it is known to be frozen -/
def oneH (a : Addr) (o : HO) : Hp := fun b => if b = a then some o else none
section
variable {P : Program} {w : World} {K : Frag} {mg mb : Str → Option Value} {k : Nat} {fa a : Addr} {x : Str} {F : Fd} {s₁ : Shared} {vs : List Value} {ns : List Int}
end
end Dx

set_option Elab.async false
set_option linter.all false
set_option maxRecDepth 100000
set_option maxHeartbeats 2000000
/-! DxXa: the __init__ of the program's own errors: super().__init__(value); self.value = value. -/
namespace Dx
open PySem PySem.Spec PyProof.Rows L2
variable [Tbs]
section
variable {M : Model} {prog : Program} {w : World} {A : Around} {E : Value → Shared → Prop} {h : Heap} {g : Array GenState} {d : Drawn} {t : Nat} {os : OsState}
variable {nm q : Str} {C N : Addr} {bs bm : List Value} {hdct : Bool} {sn : List Str} {sub : List Value} {ab : Bool} {col : Option Bool} {dd : Option Addr} {k0 k1 k2 k3 k5 : Option Value}
theorem call_mw {u e t0 : Addr} {rest : List Value} {Q : Value → Shared → Prop}
    (hC : h.get? C = some (excClassObj nm q C N bs bm hdct sn sub ab col dd k0 k1 k2 k3 k5 "ValueError.__new__")) (he : h.get? e = some (HandSPX.excO C t0)) (hu : h.get? u = some (PySem.W.kxs_mw "ValueError.__init__" e)) (hrest : rest.length ≤ sizeLine)
    (hq : ∀ h' t1, (∀ b o, b ≠ e → h.get? b = some o → h'.get? b = some o) → h'.get? e = some (HandSPX.excO C t1) → Q .none ⟨h', g, d, t, os⟩) :
    wpAny (model prog w) A (call (.ref u) rest) Q E ⟨h, g, d, t, os⟩ := by
  refine wpAny_call (codeAny_of_tree ?_)
  show wpAny _ A.in1 (callAny (.ref u) ⟨rest, []⟩) _ _ _
  simp only [callAny]
  refine wpAny_bind (wpAny_load hu ?_)
  simp only [PySem.W.kxs_mw, show (Value.type "method-wrapper" == Value.type "method" || Value.type "method-wrapper" == Value.type "builtin_function_or_method" || Value.type "method-wrapper" == Value.type "method-wrapper") = true by decide, if_true]
  refine PySem.W.KFB.if_so (by decide) ?_
  refine wpAny_bind (PySem.ESX.check_bound PySem.F.excBase_ValueError hC he rfl ?_)
  refine wpAny_bind (wpAny_pure (wpAny_pure ?_))
  refine ⟨Code.quiet_builtin _ (by decide +kernel), codeAny_builtin PySem.F.excBase_ValueError.initEntry ?_⟩
  rw [Around.under_plainId PySem.F.excBase_ValueError.init.plain _]
  wp_walk
  refine hq _ h.objs.size (fun b o hb ho => ?_) ?_
  · rw [Heap.get?_update_other _ _ (Ne.symm hb)]
    exact Heap.get?_push_of_some _ ho
  · rw [Heap.get?_update_self _ (Heap.get?_push_of_some _ he) rfl]
    rfl
end
/-- the frame of an error's __init__ -/
def cxE (CX : CXT) (P : Program) (w : World) (K : Frag) (mg : Str → Option Value) (base : Heap) (N : List Str) (env : Env) (A : Around) (outer : List Env) (s : Shared) (H : Hp) (E : XK) : Cx where
  prog := P
  w := w
  K := K
  mg := mg
  base := base
  A := A.deeper env
  N := N
  s_0 := s
  H_0 := H
  env := env
  outer := outer
  stack := env :: outer
  ex := []
  calm := true
  fn := fun _ => false
  pn := []
  xe := fun e s' => wpAny (model P w) (A.deeper env) (leaving env e) (fun _ s'' => CX outer H s E e s'') (fun e' s'' => CX outer H s E e' s'') s'
theorem inv_startE {CX : CXT} {P : Program} {w : World} {K : Frag} {mg : Str → Option Value} {base : Heap} {qual : Str} {scope : Scope} {f cc D : Addr} {cd : Value} {A : Around} {outer : List Env} {s : Shared} {H : Hp} {E : XK} {x y : Str} {u1 u2 : Value} {v1 v2 : V} {h1 : Heap} {tk : Nat} {cl : Value} {cld : Option Addr} {csl : Array (Option Value)}
    (hk : scope.kind = .function) (nc : ∀ z, scope.names.lookup z ≠ some .cell) (fr : ∀ z, scope.names.lookup z = some .free → z = "__class__") (hx : scope.names.lookup x = some .local) (hy : scope.names.lookup y = some .local) (hxy : x ≠ y)
    (hd : A.handled = none) (e0 : Env0 P w K mg base A outer s H) (r1 : RelV v1 u1) (r2 : RelV v2 u2) (hc : K.lookup cc = some ⟨cl, cld, .cell (some (.ref D)), csl⟩)
    (hn : h1.Ns s.heap.objs.size (fun z => [(x, u1), (y, u2)].reverse.lookup z)) (k : ∀ b o, s.heap.get? b = some o → h1.get? b = some o) :
    Inv (cxE CX P w K mg base [x, y] (PySem.W.envX qual scope s.heap.objs.size f cd [("__class__", cc)]) A outer s H E) [] [some v1, some v2] H { s with heap := h1, toks := tk } := by
  have noA : ∀ b : Addr, b ∉ (cxE CX P w K mg base [x, y] (PySem.W.envX qual scope s.heap.objs.size f cd [("__class__", cc)]) A outer s H E).ex := fun b z => absurd (show b ∈ ([] : List Addr) from z) (by simp)
  have bcc : base.get? cc = some ⟨cl, cld, .cell (some (.ref D)), csl⟩ := e0.mod.kin _ _ hc
  have one : ∀ {z : Str} {c : Addr}, ([("__class__", cc)] : List (Str × Addr)).lookup z = some c → z = "__class__" ∧ c = cc := fun {z c} e => by
    rw [List.lookup_cons] at e
    split at e
    · rename_i q
      cases e
      exact ⟨beq_iff_eq.mp q, rfl⟩
    · cases e
  refine ⟨⟨e0.mod, hk, rfl, rfl, Nat.le_refl _, fun y z c h1 h2 => ?_, fun z hz => ?_, fun z c f _ => ?_, fun _ => hd, Around.frames_deeper e0.frames, .inr ⟨rfl, rfl⟩, fun b z => absurd z (noA b), e0.bs, e0.bsz, fun b _ _ => noA b, fun b z => absurd z (noA b), e0.funs, e0.frf⟩,
    rfl, e0.bare, Un.kept k, ⟨_, hn, fun i z v h1 h2 h3 => ?_⟩, fun z c h => ?_, e0.hok.fresh (Nat.le_refl _), fun z c h => ?_, fun p hp => absurd (show p ∈ ([] : List (Addr × Obj)) from hp) (by simp), e0.hok.kept k, rfl⟩
  · rw [(one h1).1, (one h2).1]
  · rcases hz with hz | hz
    · exact absurd hz (nc z)
    · exact ⟨cc, by rw [fr z hz]; rfl⟩
  · exact absurd (show false = true from f) (by decide)
  · match i, h1, h2 with
    | 0, h1, h2 =>
      cases h1
      cases h2
      refine ⟨u1, r1, .inl ⟨hx, ?_⟩⟩
      show ([(y, u2), (x, u1)] : List (Str × Value)).lookup x = some u1
      rw [List.lookup_cons, beq_eq_false_iff_ne.mpr hxy]
      simp
    | 1, h1, h2 =>
      cases h1
      cases h2
      refine ⟨u2, r2, .inl ⟨hy, ?_⟩⟩
      show ([(y, u2), (x, u1)] : List (Str × Value)).lookup y = some u2
      simp
    | n + 2, h1, _ => cases h1
  · obtain ⟨rfl, rfl⟩ := one h
    exact ⟨_, _, k _ _ (e0.bs _ _ bcc).1, rfl⟩
  · obtain ⟨rfl, rfl⟩ := one h
    exact (e0.bs _ _ bcc).2
/-- an error of the program's own, behind D (whose __init__ it has) -/
structure ErrC (K : Frag) (D C : Addr) : Prop where
  ox : OexC K C
  sup : ∃ cd, PySem.W.clsIn K C = some cd ∧ PySem.W.alongIn K "__init__" ((cd.mro.dropWhile (· != .ref D)).drop 1) = some (some (.builtin "ValueError.__init__"))
  sub : PySem.W.mroIn K C (.ref D) = some true
  ve : PySem.W.subIn K (.ref C) (.type "ValueError") = some true
  nov : PySem.W.findIn K (.ref C) "value" = some none
/-- what an error's __init__ does -/
def spErr (K : Frag) (D : Addr) : Sp := fun vs H Q _ => ∃ (a C : Addr) (v : V), vs = [.ref a, v] ∧ ErrC K D C ∧ H a = some (exo a C none) ∧ ∀ dx, H dx = none → dx ≠ a → Q .non (upd (upd H dx (exd dx [("value", v)])) a (exo a C (some dx)))
theorem fn_err {CX : CXT} {P : Program} {w : World} {K : Frag} {mg : Str → Option Value} {base : Heap} {k : Nat} {f cc D cda : Addr} {name qual : Str} {params : Arguments} {scope : Scope} {dV kV doc pm ct oc cl ccl : Value} {an od cld cdd : Option Addr}
    {osl csl ccs : Array (Option Value)} {x y : Str} {ar : Arg} {vs : Array Value} {file : Str} {tf : Tok} {cdD : ClassData} {p0 p1 p2 p3 p4 p5 p6 p7 p8 p9 : Pos}
    (lk : K.lookup f = some ⟨oc, od, .func (PySem.W.fnX name qual params [.Expr (.Call (.Attribute (.Call (.Name "super" p0) [] [] p1) "__init__" p2) [.Name y p3] [] p4) p5, .Assign [.Attribute (.Name x p6) "value" p7] (.Name y p8) p9] scope [("__class__", cc)] dV kV doc pm an (.ref cda) ct), osl⟩)
    (hcd : PySem.W.codeIn K (.ref cda) qual = true) (hp : (params.posonlyargs ++ params.args).head? = some ar) (hpx : ar.arg = x)
    (hcode : K.lookup cda = some ⟨ccl, cdd, .fields vs, ccs⟩) (hvs : vs[2]? = some (.str file tf)) (hfile : ((P.main.file : Str) == file) = true) (hcell : K.lookup cc = some ⟨cl, cld, .cell (some (.ref D)), csl⟩) (hD : PySem.W.clsIn K D = some cdD)
    (hst : PySem.W.nsIn K cStatics "thirdparty.any" = some none) (hsup : mg "super" = none) (htop : (P.main.scope.names.lookup ("super" : Str)).isSome = false)
    (hk : scope.kind = .function) (hco : scope.isCoroutine = false) (hgen : scope.isGenerator = false) (nc : ∀ z ∈ scope.names, z.2 ≠ .cell) (fr : ∀ z ∈ scope.names, z.2 = .free → z.1 = "__class__")
    (hks : scope.names.lookup ("super" : Str) = some .globalImplicit) (hkc : scope.names.lookup ("__class__" : Str) = some .free) (hx : scope.names.lookup x = some .local) (hy : scope.names.lookup y = some .local) (hxy : x ≠ y)
    (hxd : (x == ("__debug__" : Str)) = false) (hxc : (x == ("__classdict__" : Str)) = false) (hyd : (y == ("__debug__" : Str)) = false) (hyc : (y == ("__classdict__" : Str)) = false)
    {pl : Env → Sem Bool} (ht : ∀ env : Env, eval (.Call (.Attribute (.Call (.Name "super" p0) [] [] p1) "__init__" p2) [.Name y p3] [] p4) env = (do
      let ov ← attributeBase (.Call (.Name "super" p0) [] [] p1) "__init__" env (eval (.Call (.Name "super" p0) [] [] p1) env)
      standAt p2.atName
      let (f, first) ← holding [ov] (getMethod ov "__init__" (pl env))
      callWith p4 f first (backTo p4 (starEach [.Name y p3] env)) [])) :
    FnOk P w K mg base CX (k + 1) f (PySem.W.fnX name qual params [.Expr (.Call (.Attribute (.Call (.Name "super" p0) [] [] p1) "__init__" p2) [.Name y p3] [] p4) p5, .Assign [.Attribute (.Name x p6) "value" p7] (.Name y p8) p9] scope [("__class__", cc)] dV kV doc pm an (.ref cda) ct) [x, y] (spErr K D) := by
  refine ⟨fun vs H Q E ⟨a, C, v, e, _⟩ => by rw [e]; rfl, fun A outer s H args us vs' Q E hr e0 hb r ⟨a, C, v, ev, EC, ea, q⟩ => ?_⟩
  subst ev
  have KX : K.In s.heap := e0.mod.kin.keeps fun b o e => (e0.bs b o e).1
  have lim : s.heap.NoLimit := e0.mod.nolimit.keeps fun b o e => (e0.bs b o e).1
  cases r with
  | @cons _ u0 _ us r1 rest =>
  cases rest with
  | @cons _ u1 _ us2 r2 nl =>
  cases nl
  obtain rfl : u0 = Value.ref a := r1
  have ncl : ∀ z, scope.names.lookup z ≠ some .cell := fun z e => nc _ (PySem.mem_of_lookup e) rfl
  have frl : ∀ z, scope.names.lookup z = some .free → z = "__class__" := fun z e => fr _ (PySem.mem_of_lookup e) rfl
  refine ks_codeAny_call_defAt (binds := [(x, .ref a), (y, u1)]) hr.depth (KX _ _ lk) rfl lim (PySem.W.codeRec_of KX hcd) rfl hb nc (fun z hz => ?_) (fun h1 hn hk1 => ?_) hco hgen hk
  · rcases List.mem_cons.mp hz with rfl | hz
    · exact hx
    · rw [List.mem_singleton.mp hz]; exact hy
  have I := inv_startE (CX := CX) (P := P) (w := w) (qual := qual) (f := f) (cd := .ref cda) (E := E) (tk := s.toks + 2) hk ncl frl hx hy hxy hr.hd e0 (show RelV (.ref a) (.ref a) from rfl) r2 hcell hn hk1
  have CRt : ∀ {σ' : L2.St} {H' : Hp} {s' : Shared}, Inv (cxE CX P w K mg base [x, y] (PySem.W.envX qual scope s.heap.objs.size f (.ref cda) [("__class__", cc)]) A outer s H E) [] σ' H' s' → Q .non H' → CR CX outer P w H s Q E (.ok (.ret .none)) s' := fun {σ' H' s'} J q => ⟨.non, H', J.os, J.bare, J.base, J.hok, rfl, q⟩
  show _root_.PySem.wpAt (model P w) (A.deeper (PySem.W.envX qual scope s.heap.objs.size f (.ref cda) [("__class__", cc)])) (.func _ (PySem.W.envX qual scope s.heap.objs.size f (.ref cda) [("__class__", cc)])) (execs _ (PySem.W.envX qual scope s.heap.objs.size f (.ref cda) [("__class__", cc)])) _ _ _
  refine ks_wpAt_execs_cons (ks_wpAt_Expr_any (ks_wpAt_MethodCall ?_ (ht _)) (by unfold interactive; simp [hk]) rfl)
  have KX1 : K.In h1 := KX.keeps hk1
  have kb : ∀ b o, base.get? b = some o → h1.get? b = some o := fun b o e => hk1 b o (e0.bs b o e).1
  obtain ⟨oD, hD1, hD2⟩ : ∃ oD, h1.get? D = some oD ∧ oD.data = .cls cdD := by
    unfold PySem.W.clsIn at hD
    split at hD
    · rename_i c d cd' sl ho
      cases hD
      exact ⟨_, KX1 _ _ ho, rfl⟩
    · cases hD
  refine ks_wpAt_super_base hks hkc rfl rfl (KX1 _ _ lk) rfl hp rfl (KX1 _ _ hcode) rfl hvs hfile htop ?_
  obtain ⟨mb, hmb, hbv⟩ := e0.mod.blt
  refine PySem.W.ks_loadName_global hk hks (PySem.Calls.loadGlobal_builtin (mg := mg) (mb := mb) (e0.mod.glob.keeps kb) hsup (hmb.keeps kb) ((hbv _ (by decide +kernel)).trans PyProof.Rows.Boot.«super») ⟨rfl, ?_⟩)
  refine wpAny_loadName_free hk hkc rfl ⟨_, KX1 _ _ hcell, rfl⟩ ?_
  have hself : ([(x, Value.ref a), (y, u1)] : List (Str × Value)).reverse.lookup ar.arg = some (.ref a) := by
    rw [hpx]
    show ([(y, u1), (x, Value.ref a)] : List (Str × Value)).lookup x = _
    rw [List.lookup_cons, beq_eq_false_iff_ne.mpr hxy]
    simp
  have hval : ([(x, Value.ref a), (y, u1)] : List (Str × Value)).reverse.lookup y = some u1 := by
    show ([(y, u1), (x, Value.ref a)] : List (Str × Value)).lookup y = _
    simp
  refine wpAny_loadName_local hk (by rw [hpx]; exact hx) hn hself ?_
  refine ks_wpAny_isType_cls hD1 hD2 ⟨rfl, ?_⟩
  obtain ⟨t1, he⟩ := exo_at I.hok ea
  refine ks_wpAny_call_super hD1 hD2 he rfl (fun c e => by cases e) (PySem.W.looks_mroIn KX1 EC.sub) (fun h2 e2 k2 => ?_)
  have I2 := I.kept (t' := s.toks + 2) k2
  have KX2 : K.In h2 := KX1.keeps k2
  obtain ⟨cd, hcd1, hal⟩ := EC.sup
  have IA : PySem.W.InstAt h2 a _ C none := ⟨k2 _ _ he, rfl, rfl, trivial⟩
  refine PySem.W.kxs_getMethod PySem.W.kxs_ValueError e2 (PySem.W.looks_opaque KX2 hst) (l₀ := cd.mro) (fun A Q E s k q => wpAny_bind ((PySem.W.looks_clsIn KX2 hcd1) A _ E s k (wpAny_pure q))) rfl KX2 hal (IA.type.andThen (PySem.W.looks_subIn KX2 EC.ve)) (PySem.W.ks_ne KX2 IA hcd1) rfl ?_
  have k3 : ∀ b o, h2.get? b = some o → (h2.push (PySem.W.kxs_mw "ValueError.__init__" a)).get? b = some o := fun b o e => Heap.get?_push_of_some _ e
  have I3 := I2.kept (t' := s.toks + 2 + 1) k3
  have hu : (h2.push (PySem.W.kxs_mw "ValueError.__init__" a)).get? h2.objs.size = some (PySem.W.kxs_mw "ValueError.__init__" a) := Heap.get?_push_at rfl rfl
  have hsE : starEach [Expr.Name y p3] (PySem.W.envX qual scope s.heap.objs.size f (.ref cda) [("__class__", cc)]) = (false, eval (.Name y p3) (PySem.W.envX qual scope s.heap.objs.size f (.ref cda) [("__class__", cc)])) :: starEach [] (PySem.W.envX qual scope s.heap.objs.size f (.ref cda) [("__class__", cc)]) := by rfl
  rw [hsE]
  refine PySem.W.kxs_callWith (i := "ValueError.__init__") (x := a) (u := h2.objs.size) rfl (PySem.Calls.evalArgs_plain ?_)
  show wpAny _ _ (spliced ((false, eval (.Name y p3) (PySem.W.envX qual scope s.heap.objs.size f (.ref cda) [("__class__", cc)])) :: backTo p4 (starEach [] (PySem.W.envX qual scope s.heap.objs.size f (.ref cda) [("__class__", cc)])))) _ _ _
  refine PySem.Calls.spliced_cons (wpAny_Name (wpAny_loadName_local hk hy ((hn.keeps k2).keeps k3) hval ?_) hyd)
  refine PySem.Calls.spliced_nil ⟨hu, ?_⟩
  obtain ⟨nm, qq, NN, bs, bm, sn, sub, ab, col, dd, k0, k1, k2', k3', k5, hC, hbm⟩ := EC.ox.cls
  refine call_mw ((KX2.keeps k3) _ _ hC) (k3 _ _ (k2 _ _ he)) hu (show 1 ≤ sizeLine by decide) (fun h4 t4 k4 e4 => ?_)
  have J := I3.write (t' := s.toks + 2 + 1) (x := a) (e := a) (o := exo a C none) (by rw [ea]; exact True.intro) (.inl rfl) k4 ⟨_, e4⟩ (exo_ok e4)
  have eu : upd H a (exo a C none) = H := by
    funext b
    by_cases hb : b = a
    · rw [hb, upd_same, ea]
    · rw [upd_ne hb]
  rw [eu] at J
  refine ks_wpAt_execs_cons (wpAt_of_wpAny ?_)
  refine wpAny_mono ((ps_ost (X := cxE CX P w K mg base [x, y] (PySem.W.envX qual scope s.heap.objs.size f (.ref cda) [("__class__", cc)]) A outer s H E) (pe_var (i := 0) rfl (.inl hx) hxd hxc) (pe_var (i := 1) rfl (.inl hy) hyd hyc) rfl).run [] _ _ _ { nx := fun _ H' => Q .non H', rt := fun _ _ => False } J ?_) (fun fl s' hs => ?_) fun e s' hs => hs
  · exact ⟨v, rfl, .ref a, rfl, a, C, rfl, EC.ox, EC.nov, .inl ⟨ea, fun dx n ne => q dx n ne⟩⟩
  · cases fl with
    | next =>
      obtain ⟨σ', H', J', q'⟩ := hs
      exact wpAt_of_wpAny (wpAny_execs_nil (CRt J' q'))
    | ret u =>
      obtain ⟨_, _, _, _, _, q'⟩ := hs
      exact False.elim q'
    | brk =>
      obtain ⟨_, _, _, q'⟩ := hs
      exact False.elim q'
    | cont =>
      obtain ⟨_, _, _, q'⟩ := hs
      exact False.elim q'
end Dx

set_option Elab.async false
set_option linter.all false
set_option maxRecDepth 100000
set_option maxHeartbeats 2000000
/-! DxXb: an error that is caught and kept in a variable. -/
namespace Dx
open PySem PySem.Spec PyProof.Rows L2
variable [Tbs]
section
variable {X : Cx} {pins : List (Addr × Obj)} {σ : L2.St} {H : Hp} {s : Shared} {a : Addr} {o : HO}
/-- an object of ours that stands there is told of from now on -/
theorem track (I : Inv X pins σ H s) (na : H a = none) (n0 : X.s_0.heap.get? a = none) (nL : a ≠ X.env.locals) (nC : ∀ x c, X.env.cells.lookup x = some c → c ≠ a) (np : ∀ p ∈ X.pn ++ pins, p.1 ≠ a) (new : ObjOk X.prog X.w (upd H a o) s.heap a o) : Inv X pins σ (upd H a o) s := by
  have ne0 : ∀ {b : Addr} {u : Obj}, X.s_0.heap.get? b = some u → b ≠ a := fun {b u} e z => by rw [z, n0] at e; cases e
  have neH : ∀ {b : Addr} {u : HO}, H b = some u → b ≠ a := fun {b u} e z => by rw [z, na] at e; cases e
  refine ⟨I.ok, I.os, I.bare, ⟨I.base.keep, I.base.slot, fun b u e n hx => ?_, I.base.there, fun b xs e => ?_, fun b u v e => ?_, fun b ps e => ?_⟩, I.loc, I.cell, ?_, fun x c e => ?_, fun p hp => ?_, fun b u e => ?_, I.len⟩
  · rw [upd_ne (ne0 e)]; exact I.base.free b u e n hx
  · have := I.base.tups b xs e
    rw [upd_ne (neH this)]; exact this
  · have := I.base.frzs b u v e
    rw [upd_ne (neH this)]; exact this
  · obtain ⟨more, this⟩ := I.base.tbls b ps e
    exact ⟨more, by rw [upd_ne (neH this)]; exact this⟩
  · rw [upd_ne (Ne.symm nL)]; exact I.free
  · rw [upd_ne (nC x c e)]; exact I.freeC x c e
  · obtain ⟨e, n, r⟩ := I.pin p hp
    exact ⟨e, by rw [upd_ne (np p hp)]; exact n, r⟩
  · by_cases hb : b = a
    · subst hb
      rw [upd_same] at e
      cases e
      exact new
    · rw [upd_ne hb] at e
      exact (I.hok b u e).stay (fun c v _ z => z) (fun c hc => by rw [upd_ne (neH hc)]; exact hc) fun c xs hc => by rw [upd_ne (neH hc)]; exact hc
end
theorem xob_ok {P : Program} {w : World} {H : Hp} {h : Heap} {a dx : Addr} {cls : Value} {oe : Obj} {vs : Array Value} (e : h.get? a = some oe) (hz : Zc cls (some dx) oe) (hd : oe.data = .fields vs) : ObjOk P w H h a (XOb cls dx a) :=
  ⟨⟨oe, vs, e, hz.1, hz.2, hd⟩, ⟨_, e⟩, fun h1 h2 ⟨o1, v1, e1, r⟩ k => ⟨o1, v1, k _ e1, r⟩⟩
/-- what 'except x as n: ..' wishes, the error being kept -/
def wKeep (K : Frag) (c : Value) (i nN : Nat) (ts : Addr → Value → Option Addr → TS) (Wout : WX) (D : Ends) : WX := fun cls d σ H =>
  ∃ b, PySem.W.exmOne K cls c = some b ∧ (b = true → σ.length = nN → ∀ a, H a = none → ∃ dx, d = some dx ∧ ts a cls d { nx := fun σ' H' => H' a = none → D.nx (σ'.set i none) (upd H' a (XOb cls dx a)), rt := fun _ _ => False } (σ.set i (some (.ref a))) H) ∧
    (b = false → Wout cls d σ H)
section
variable {X : Cx} {x n : Str} {c : Value} {i : Nat} {body suite : List Stmt} {b₀ : Stmt} {np pos pos' : Pos} {tb : WX → TS} {ts : Addr → Value → Option Addr → TS} {Wout : WX}
end
end Dx

set_option Elab.async false
set_option linter.all false
set_option maxRecDepth 100000
set_option maxHeartbeats 1000000
/-! DxXc: raise C(e). -/
namespace Dx
open PySem PySem.Spec PyProof.Rows L2
variable [Tbs]
/-- an error class that can be made -/
structure ErrOk (W : Wd) (c : Str) : Prop where
  ex : ∃ (D fI : Addr) (fd : FuncData) (ps : List Str), ErrC W.K D (He.ga W.K c) ∧ PySem.W.findIn W.K (.ref (He.ga W.K c)) "__init__" = some (some (.ref fI)) ∧ PySem.W.typeIn W.K (.ref fI) = some (.type "function") ∧
    FnOk W.P W.w W.K W.mg W.base L2.CX0 1 fI fd ps (spErr W.K D) ∧ L2.Binds W.K fd ps []
  mg : W.mg c = some (.ref (He.ga W.K c))
def stRaise (c : Str) (f : List Sl → R (D × List Sl)) (ρ : List Sl) : RS := (f ρ).st fun p => .exc c p.1
section
variable {W : Wd} {N : List Str} {sc : Scope} {k : Nat} {E : XK} {X : Cx} {B : Bs} {e : Expr} {f : List Sl → R (D × List Sl)} {c : Str} {p pos pos2 : Pos}
end
end Dx

set_option Elab.async false
set_option linter.all false
set_option maxRecDepth 100000
set_option maxHeartbeats 2000000
/-! DxXd: what catches: y = None / try: a() except e as n: y = n / return y. -/
namespace Dx
open PySem PySem.Spec PyProof.Rows L2 LamX
variable [Tbs]
/-- the def that calls what it got: a calls it; TT: what it makes of the lambda's reading -/
def GivesT (X : Cx) (Ng : List Str) (x : Str) (sg : Scope) (g : Addr) (cdg : Value) (bg : List Stmt) (a : Str) (q : Str) (TT : (XK → Hp → VK → Prop) → Hp → VK → Prop) : Prop :=
  ∀ (f c' : Addr) (s : Shared) (H : Hp) (Q : VK) (tl : XK → Hp → VK → Prop),
    (∀ (Wt : WX) (pn : List (Addr × Obj)) (xe : Value → Shared → Prop) (Ech : XK) (p1 p2 : Pos), Takes ((cxOf C8.CX0 X.prog X.w X.K X.mg X.base Ng x sg g cdg X.A X.stack s H C8.E0).tr pn xe) Wt →
      PE ((cxOf C8.CX0 X.prog X.w X.K X.mg X.base Ng x sg g cdg X.A X.stack s H C8.E0).tr pn xe) (.Call (.Name a p1) [] [] p2) (fun σZ HZ QZ => σZ[0]? = some (some (.ref f)) ∧ HZ c' = some (CodeO c' q) ∧ (∀ cls d H', Ech cls d H' → Wt cls d σZ H') ∧ tl Ech HZ QZ)) →
    H c' = some (CodeO c' q) → TT tl H Q →
    ∃ t, PSs (cxOf C8.CX0 X.prog X.w X.K X.mg X.base Ng x sg g cdg X.A X.stack s H C8.E0).nox bg t ∧ t { nx := fun _ H' => Q .non H', rt := Q } (L2.start Ng [.ref f]) H
/-- what the catching def makes of the lambda's reading -/
def TCau (K : Frag) (CS : Addr) : (XK → Hp → VK → Prop) → Hp → VK → Prop := fun tl H Q =>
  tl (fun cls d H' => PySem.W.exmOne K cls (.ref CS) = some true ∧ ∃ dx, d = some dx ∧ ∀ b, H' b = none → Q (.ref b) (upd H' b (XOb cls dx b))) H (fun _ H' => Q .non H')
/-- .. one that answers with the error and the reply -/
def TAns (K : Frag) (CS : Addr) : (XK → Hp → VK → Prop) → Hp → VK → Prop := fun tl H Q => ∀ p0, H p0 = none →
  tl (fun cls d H' => PySem.W.exmOne K cls (.ref CS) = some true ∧ ∃ dx, d = some dx ∧ ∀ b, H' b = none → ∀ p, upd H' b (XOb cls dx b) p = none → Q (.ref p) (upd (upd H' b (XOb cls dx b)) p (.tup [.ref b, .non]))) (upd H p0 (.tup [.non, .non])) (fun v H' => ∀ p, H' p = none → Q (.ref p) (upd H' p (.tup [.non, v])))
section
variable {X : Cx}
end
end Dx

set_option Elab.async false
set_option linter.all false
set_option maxRecDepth 100000
set_option maxHeartbeats 2000000
/-! DxXe: x(lambda: e), where no guard is open. -/
namespace Dx
open PySem PySem.Spec PyProof.Rows L2 LamX
variable [Tbs]
/-- the catching def's context -/
abbrev gCx (X : Cx) (Ng : List Str) (x : Str) (sg : Scope) (g : Addr) (cdg : Value) (s : Shared) (H : Hp) : Cx := cxOf C8.CX0 X.prog X.w X.K X.mg X.base Ng x sg g cdg X.A X.stack s H C8.E0
section
variable {X : Cx} {pins : List (Addr × Obj)} {σ : L2.St} {H : Hp} {s : Shared}
/-- the lambda is called, in the def that got it -/
theorem look_call {Ng : List Str} {x a : Str} {sg scope : Scope} {g f cc : Addr} {cdg pm ctv : Value} {ag : Arguments} {bd : Expr} {k : Nat} {pn : List (Addr × Obj)} {xe : Value → Shared → Prop} {Wt : WX} {E : XK} {tb : TE} {q1 q2 : Pos}
    (I : Inv X pins σ H s) (gd : X.A.guards = some []) (LS : LamS X.env.scope scope) (ho : s.heap.get? f = some (PySem.W.kla_obj "<lambda>" (X.env.qual ++ "<lambda>") ag bd scope (cloFrom X.env.cells scope.names []) pm cc ctv)) (hH : H f = none) (hF : f ∉ frs X.stack)
    (hb : bindArgs (PySem.W.kla_fn "<lambda>" (X.env.qual ++ "<lambda>") ag bd scope (cloFrom X.env.cells scope.names []) pm (.ref cc) ctv) ⟨[], []⟩ = pure []) (tk : Takes ((gCx X Ng x sg g cdg s H).tr pn xe) Wt)
    (rm : Room (k + 1) (X.A.deeper (envOfC x sg s.heap.objs.size g cdg))) (body : ∀ (A : Around) (outer : List Env) (s : Shared) (H : Hp), A.guards = some [] → Room k (A.deeper (lamEnv X scope s.heap.objs.size f cc)) → PE (lamCx X A outer s H E scope f cc) bd tb)
    (h0 : Ng[0]? = some a) (hv : Vis sg a) (hd1 : (a == ("__debug__" : Str)) = false) (hd2 : (a == ("__classdict__" : Str)) = false) :
    PE ((gCx X Ng x sg g cdg s H).tr pn xe) (.Call (.Name a q1) [] [] q2) (fun σZ HZ Q => σZ[0]? = some (some (.ref f)) ∧ HZ cc = some (CodeO cc (X.env.qual ++ "<lambda>")) ∧ (∀ c d H', E c d H' → Wt c d σZ H') ∧ tb σ HZ Q) := by
  refine ⟨fun pz sz σz Hz Q Iz ⟨hs, hc, hE, ht⟩ => ?_⟩
  have nameRun := (pe_var (X := (gCx X Ng x sg g cdg s H).tr pn xe) (pos := q1) (i := 0) h0 hv hd1 hd2).run pz sz σz Hz (fun v H1 => v = .ref f ∧ H1 = Hz) Iz ⟨.ref f, hs, rfl, rfl⟩
  refine wpAny_Call_Name_kw (thn nameRun fun u st ⟨v, H1, I1, r1, ev, eH⟩ => ?_)
  subst ev eH
  cases (show u = Value.ref f from r1)
  have hof := I1.base.keep f _ ho hH hF (fun z => nomatch (show f ∈ ([] : List Addr) from z))
  have hun : Un (frs X.stack) [] H H1 s.heap st.heap := I1.base
  obtain ⟨⟨oc, vs, tt, hoc, hdc, hvc⟩, _, _⟩ := I1.hok cc _ hc
  refine PySem.W.callWith_F0 ⟨_, _, _, _, hof⟩ (wpAny_call (codeAny_mono (PySem.W.kla_callFunE rm.depth hof rfl LS.co LS.gen rfl ⟨cc, oc, vs, tt, rfl, hoc, hdc, hvc⟩ (R := CR (L2.CX X.prog X.w) (envOfC x sg s.heap.objs.size g cdg :: X.stack) X.prog X.w H1 st Q E) ?_) fun r s' hq => ?_))
  · rw [show (⟨[] ++ [], []⟩ : Args) = ⟨[], []⟩ from rfl, hb]
    refine wpAny_pure (wpAny_newFunctionEnv (fun y hy => (LS.own y hy).2) (fun y hy => absurd hy (by simp)) (fun h1 hns hsb => ⟨I1.nolimit.fresh _ hsb, ?_⟩) LS.kind)
    have kp : ∀ b o, st.heap.get? b = some o → h1.get? b = some o := fun b o e => hsb.extBut b o (Nat.ne_of_lt (Heap.lt_size e)) (Heap.get?_push_of_some _ e)
    have J := lam_start2 (E := E) (f := f) (c' := cc) (tk := st.toks + ([] : List (Str × Value)).length) I LS I1.env0 rm.hd hun hns kp
    have run := (body (X.A.deeper (envOfC x sg s.heap.objs.size g cdg)) (envOfC x sg s.heap.objs.size g cdg :: X.stack) st H1 gd (rm.deeper _)).run [] _ _ H1 Q J ht
    refine PySem.W.kla_codeExpr (wpAny_mono run (fun v s' ⟨w', H', J', rv, qq⟩ => ?_) fun _ _ hq => hq)
    exact ⟨w', H', J'.os, J'.bare, J'.base, J'.hok, rv, qq⟩
  · match r, hq with
    | .error e, hq => exact tk e s' (XE.of_call I1 (fun cls d H' h => hE cls d H' h) hq)
    | .ok (.ret u), hq => exact I1.after hq
    | .ok .next, hq => exact False.elim hq
    | .ok .brk, hq => exact False.elim hq
    | .ok .cont, hq => exact False.elim hq
/-- what the making of a lambda does to the tracked heap: nothing, or one more code object in the maker's table -/
def LamTo (H : Hp) (P : Addr) (q : Str) (H1 : Hp) : Prop := H1 = H ∨ ∃ (ps more : Array Value) (cc : Addr), H P = some (.tbl ps) ∧ H cc = none ∧ H1 = upd (upd H P (.tbl (ps ++ more))) cc (CodeO cc q)
theorem LamTo.keep {P : Addr} {q : Str} {H1 : Hp} (l : LamTo H P q H1) {b : Addr} {o : HO} (e : H b = some o) : H1 b = some o ∨ ∃ ps more, o = .tbl ps ∧ H1 b = some (.tbl (ps ++ more)) := by
  rcases l with rfl | ⟨ps, more, cc, hP, hn, rfl⟩
  · exact .inl e
  · have hbc : b ≠ cc := fun z => by rw [z, hn] at e; cases e
    by_cases hb : b = P
    · subst hb
      rw [hP] at e
      cases e
      exact .inr ⟨ps, more, rfl, by rw [upd_ne hbc, upd_same]⟩
    · exact .inl (by rw [upd_ne hbc, upd_ne hb]; exact e)
theorem LamTo.extN {P : Addr} {q : Str} {H1 : Hp} (l : LamTo H P q H1) : ExtN H H1 := fun b o e n => by
  rcases l.keep e with h | ⟨ps, _, rfl, _⟩
  · exact h
  · exact absurd rfl (n ps)
theorem lam_made {T : List (Addr × Str)} {cA P : Addr} {ag : Arguments} {bd : Expr} {scope : Scope} {q2 : Pos} {E Q : Value → Shared → Prop} (I : Inv X pins σ H s) (tab : TabB X.base X.mg cA P) (code : X.env.code = .ref cA) (inT : (P, X.env.qual ++ "<lambda>") ∈ T)
    (one : ∀ p ∈ T, p.1 = P → p.2 = X.env.qual ++ "<lambda>") (tabs : Tabs T H) (df : defaultsOf ag X.env = ([], [])) (fr : ∀ y ∈ scope.names, y.2 = .free → ∃ c, X.env.cells.lookup y.1 = some c)
    (h : ∀ (f cc : Addr) (pm ctv : Value) (H1 : Hp) (s' : Shared), Inv X pins σ H1 s' → LamTo H P (X.env.qual ++ "<lambda>") H1 → Tabs T H1 → s'.heap.get? f = some (PySem.W.kla_obj "<lambda>" (X.env.qual ++ "<lambda>") ag bd scope (cloFrom X.env.cells scope.names []) pm cc ctv) → H1 f = none → f ∉ frs X.stack → H1 cc = some (CodeO cc (X.env.qual ++ "<lambda>")) → Q (.ref f) s') :
    wpAny (model X.prog X.w) X.A (eval (.Lambda ag bd scope q2) X.env) Q E s := by
  obtain ⟨ps, hP, tr, names⟩ := tabs _ inT
  have onP : s.heap.get? P = some { cls := .none, data := .fields ps } := I.hok P _ hP
  have bP := tab.bm.keeps I.bk
  have cP := tab.code.keeps I.bk
  have away : ∀ f, s.heap.objs.size ≤ f → f ∉ frs X.stack := fun f hf z => (List.mem_cons.mp (I.stkSub _ z)).elim (fun e => absurd I.lt (by rw [← e]; exact Nat.not_lt.mpr hf)) (I.nofs hf)
  refine PySem.W.kla_eval df ?_
  cases found : codeAmong q2 ps.toList with
  | some cv =>
    obtain ⟨cc, rfl, hcc⟩ := names q2 cv found
    refine PySem.W.kla_makeFunctionHit (mg := X.mg) (closure_ok fr) I.ok.glob (I.mod.glob.keeps I.bk) code cP onP tr found bP fun ctv h' tk hx hsz => ?_
    exact h _ cc _ ctv H _ (I.kept fun b o e => Heap.get?_push_of_some _ (hx b o e)) (.inl rfl) tabs (Heap.get?_push_size _ rfl) (I.hok.fresh hsz) (away _ hsz) hcc
  | none =>
    refine PySem.W.kla_makeFunction (mg := X.mg) (closure_ok fr) I.ok.glob (I.mod.glob.keeps I.bk) code cP onP tr found tab.gP bP fun cc ctv h' tk hx hge hlt hrec htb => ?_
    obtain ⟨_, oc, vs, tt, e2, hoc, hd, hv⟩ := hrec
    cases e2
    have newC : H cc = none := I.hok.fresh hge
    have sz : s.heap.objs.size ≤ h'.objs.size := Nat.le_trans hge (Nat.le_of_lt hlt)
    have I1 := inv_table (t' := tk) (more := #[rawInt q2.line, rawInt q2.col, .ref cc]) (h' := h'.push (PySem.W.kla_obj "<lambda>" (X.env.qual ++ "<lambda>") ag bd scope (cloFrom X.env.cells scope.names []) ((X.mg "__name__").getD .none) cc ctv)) (q := X.env.qual ++ "<lambda>") I hP
      (fun b o hb e => Heap.get?_push_of_some _ (hx b o hb e)) (Heap.get?_push_of_some _ htb) hge ⟨oc, vs, tt, Heap.get?_push_of_some _ hoc, hd, hv⟩
    have to : LamTo H P (X.env.qual ++ "<lambda>") (upd (upd H P (.tbl (ps ++ #[rawInt q2.line, rawInt q2.col, .ref cc]))) cc (CodeO cc (X.env.qual ++ "<lambda>"))) := .inr ⟨ps, _, cc, hP, newC, rfl⟩
    have tl : (ps ++ #[rawInt q2.line, rawInt q2.col, .ref cc]).toList = ps.toList ++ [rawInt q2.line, rawInt q2.col, .ref cc] := by simp
    refine h _ cc _ ctv _ _ I1 to (fun p hp => ?_) (Heap.get?_push_size _ rfl) ?_ (away _ sz) upd_same
    · by_cases hb : p.1 = P
      · rw [one p hp hb, hb]
        refine ⟨_, by rw [upd_ne (ne_of_none hP newC), upd_same], by rw [tl]; exact PySem.TriplesOk_snoc _ _ _ _ tr, fun p' cv hcv => ?_⟩
        rw [tl] at hcv
        rcases among_app _ tr hcv with z | z
        · obtain ⟨c0, e1, e2⟩ := names p' cv z
          exact ⟨c0, e1, to.extN _ _ e2 codeO_ne⟩
        · exact ⟨cc, z, upd_same⟩
      · obtain ⟨ps', a1, a2, a3⟩ := tabs p hp
        refine ⟨ps', by rw [upd_ne (ne_of_none a1 newC), upd_ne hb]; exact a1, a2, fun p' cv hcv => ?_⟩
        obtain ⟨c0, e1, e2⟩ := a3 p' cv hcv
        exact ⟨c0, e1, to.extN _ _ e2 codeO_ne⟩
    · rw [upd_ne (Nat.ne_of_gt hlt), upd_ne (Nat.ne_of_gt (Nat.lt_of_lt_of_le (Heap.lt_size onP) sz))]
      exact I.hok.fresh sz
/-- the reading of x(lambda: e) -/
def tLook (T : List (Addr × Str)) (P : Addr) (q : Str) (TT : (XK → Hp → VK → Prop) → Hp → VK → Prop) (t : XK → TE) : TE := fun σ H Q => Tabs T H ∧ ∀ H1, LamTo H P q H1 → Tabs T H1 → TT (fun E H' Q' => t E σ H' Q') H1 Q
/-- x(lambda: e) -/
theorem pe_look {T : List (Addr × Str)} {TT : (XK → Hp → VK → Prop) → Hp → VK → Prop} {x a : Str} {g cA P : Addr} {k : Nat} {gp ag : Arguments} {gb : List Stmt} {sg scope : Scope} {dV kV doc pm cdv ct oc : Value} {an od : Option Addr} {osl : Array (Option Value)} {Ng : List Str} {bd : Expr} {t : XK → TE} {q1 q2 q3 : Pos}
    (gd : X.A.guards = some []) (hg : Gl X x) (hm : X.mg x = some (.ref g)) (kp : PySem.W.keepIn X.K (.ref g) = true) (lk : X.K.lookup g = some ⟨oc, od, .func (PySem.W.fnOf x x gp gb sg dV kV doc pm an cdv ct), osl⟩) (cg : PySem.W.codeIn X.K cdv x = true)
    (bg : L2.Binds X.K (PySem.W.fnOf x x gp gb sg dV kV doc pm an cdv ct) [a] []) (Sg : FnScope Ng [a] sg) (h0 : Ng[0]? = some a) (va : Vis sg a) (G : GivesT X Ng x sg g cdv gb a (X.env.qual ++ "<lambda>") TT)
    (tab : TabB X.base X.mg cA P) (code : X.env.code = .ref cA) (inT : (P, X.env.qual ++ "<lambda>") ∈ T) (one : ∀ p ∈ T, p.1 = P → p.2 = X.env.qual ++ "<lambda>") (rm : Room (k + 2) X.A) (LS : LamS X.env.scope scope) (df : defaultsOf ag X.env = ([], []))
    (lb : ∀ (q : Str) (cl : List (Str × Addr)) (pm cv ctv : Value), bindArgs (PySem.W.kla_fn "<lambda>" q ag bd scope cl pm cv ctv) ⟨[], []⟩ = pure [])
    (body : ∀ (A : Around) (outer : List Env) (s : Shared) (H : Hp) (E : XK) (f cc : Addr), A.guards = some [] → Room k (A.deeper (lamEnv X scope s.heap.objs.size f cc)) → PE (lamCx X A outer s H E scope f cc) bd (t E))
    (d1 : (x == ("__debug__" : Str)) = false) (d2 : (a == ("__debug__" : Str)) = false) (d3 : (a == ("__classdict__" : Str)) = false) :
    PE X (.Call (.Name x q1) [.Lambda ag bd scope q2] [] q3) (tLook T P (X.env.qual ++ "<lambda>") TT t) := by
  refine ⟨fun pz s σ H Q I ⟨tabs, rest⟩ => ?_⟩
  have inner : ∀ (f cc : Addr) (pm' ctv : Value) (H1 : Hp) (s1 : Shared), Inv X pz σ H1 s1 → LamTo H P (X.env.qual ++ "<lambda>") H1 → Tabs T H1 → s1.heap.get? f = some (PySem.W.kla_obj "<lambda>" (X.env.qual ++ "<lambda>") ag bd scope (cloFrom X.env.cells scope.names []) pm' cc ctv) → H1 f = none → f ∉ frs X.stack → H1 cc = some (CodeO cc (X.env.qual ++ "<lambda>")) →
      wpAny (model X.prog X.w) X.A (call (.ref g) [.ref f]) (EP X pz σ Q) X.xe s1 := fun f cc pm' ctv H1 s1 I1 eN T1 o1 n1 nf hc => by
    have run : codeAny (model X.prog X.w) X.A (.call (.ref g) ⟨[.ref f], []⟩) (CR C8.CX0 X.stack X.prog X.w H1 s1 Q C8.E0) s1 := run_ofS (us := [.ref f]) (vs := [.ref f]) lk cg Sg rm I1.env0 (bg s1 [.ref f] I1.kIn rfl) (.cons rfl .nil) rfl fun rm' => by
      obtain ⟨t', ht, hq⟩ := G f cc s1 H1 Q (fun E H' Q' => t E σ H' Q') (fun Wt pn xe E p1 p2 tk => look_call I1 gd LS o1 n1 nf (lb _ _ _ _ _) tk rm' (fun A outer s H ga r => body A outer s H E f cc ga r) h0 va d2 d3) hc (rest H1 eN T1)
      exact ⟨t', ht.nox, hq⟩
    refine wpAny_call (codeAny_mono run fun r s2 hq => ?_)
    match r, hq with
    | .error e, hq => exact (show False from hq).elim
    | .ok (.ret u), hq => exact I1.after hq
    | .ok .next, hq => exact False.elim hq
    | .ok .brk, hq => exact False.elim hq
    | .ok .cont, hq => exact False.elim hq
  refine wpAny_Call_Name_kw (ld_glob I hg hm (PySem.W.callWith_K (h₀ := X.base) I.ok.mod.kin kp ?_ (by rfl) (by rfl)) d1)
  show wpAny _ _ (spliced ((false, eval (.Lambda ag bd scope q2) X.env) :: backTo q3 (starEach [] X.env))) _ _ s
  exact Calls.spliced_cons (lam_made I tab code inT one tabs df (LS.has I.ok) fun f cc pm' ctv H1 s1 I1 eN T1 o1 n1 nf hc => Calls.spliced_nil ⟨I1.kIn, inner f cc pm' ctv H1 s1 I1 eN T1 o1 n1 nf hc⟩)
end
end Dx

set_option Elab.async false
set_option linter.all false
set_option maxRecDepth 100000
set_option maxHeartbeats 2000000
/-! DxXf: an answer or an error of a lambda's body, over plain data. -/
namespace Dx
open PySem PySem.Spec PyProof.Rows L2 LamX
variable [Tbs]
/-- the slots that a lambda's body sees -/
def shO (ρ : List Sl) : List Sl := ρ.map fun s => match s with
  | .sh d => .sh d
  | _ => .un
/-- a base at the current state: nothing may be changed -/
def lamB (B : Bs) (Fz : Addr → Prop) (H : Hp) : Bs := ⟨B.K, fun _ => False, Fz, H, fun _ _ => False, fun _ => False⟩
section
variable {B : Bs} {Fz Fz' : Addr → Prop} {H H' : Hp} {σ : L2.St} {ρ : List Sl}
theorem Iv.back (I : Iv B Fz H σ ρ) (g : Ext (fun _ => False) Fz H Fz' H') (f : FzOk Fz' H') : Iv B Fz' H' σ ρ := I.step g f (fun _ h => h.elim) fun _ _ _ h => h
/-- the step that makes the lambda -/
theorem ext_lam {P : Addr} {q : Str} {H1 : Hp} (f : FzOk Fz H) (l : LamTo H P q H1) (t : Tabs TB H1) : Ext (fun _ => False) Fz H Fz H1 where
  ge := {
    imm := fun a o i e => l.extN a o e fun ps z => by rw [z] at i; exact i
    fz := fun _ h => h
    fzk := fun a z => by
      obtain ⟨C, dx, fs, e⟩ := f a z
      rw [e]
      exact l.extN a _ e (fun ps z => nomatch z)
    tab := fun P' q' _ m => t (P', q') m }
  keep := fun a o e _ nt => l.extN a o e fun ps z => by rw [z] at nt; exact nt
  nofz := fun _ h => .inl h
  there := fun a o e => by
    rcases l.keep e with h | ⟨_, _, _, h⟩ <;> exact ⟨_, h⟩
end
/-- f, called to see what it does: an error of one of the classes cs is told of -/
def evCau (cs : List Str) (f : List Sl → R (D × List Sl)) (ρ : List Sl) : R (D × List Sl) := match f (shO ρ) with
  | .ok _ => .ok (.non, ρ)
  | .exc c d => if cs.contains c then .ok (.exn c d, ρ) else .bad
  | .bad => .bad
section
variable {W : Wd} {B : Bs} {Fz : Addr → Prop} {H H1 : Hp} {σ : L2.St} {ρ : List Sl} {P CS : Addr} {q : Str} {Q : VK} {cs : List Str} {f : List Sl → R (D × List Sl)} {E : XK}
/-- a lambda's body in any base of the world -/
def tAny (W : Wd) (f : List Sl → R (D × List Sl)) (E : XK) : TE := fun σ H Q => ∃ B, BOk W B ∧ tE B E f σ H Q
end
/-- .. one that answers (error, reply) -/
def evAns (cs : List Str) (f : List Sl → R (D × List Sl)) (ρ : List Sl) : R (D × List Sl) := match f (shO ρ) with
  | .ok p => .ok (.tup [.non, p.1], ρ)
  | .exc c d => if cs.contains c then .ok (.tup [.exn c d, .non], ρ) else .bad
  | .bad => .bad
section
variable {W : Wd} {B : Bs} {Fz : Addr → Prop} {H H1 : Hp} {σ : L2.St} {ρ : List Sl} {P CS : Addr} {q : Str} {Q : VK} {cs : List Str} {f : List Sl → R (D × List Sl)} {E : XK}
end
end Dx

set_option Elab.async false
set_option linter.all false
set_option maxRecDepth 100000
set_option maxHeartbeats 2000000
/-! DxXg: x(lambda: e) in the world of a proof, x what catches. -/
namespace Dx
open PySem PySem.Spec PyProof.Rows L2 LamX
variable [Tbs]
/-- the def's own code object and its table -/
structure LamAt (W : Wd) (X : Cx) : Prop where
  ex : ∃ cA P, X.env.code = .ref cA ∧ TabB X.base X.mg cA P ∧ (P, X.env.qual ++ "<lambda>") ∈ TB ∧ ∀ p ∈ TB, p.1 = P → p.2 = X.env.qual ++ "<lambda>"
section
variable {W : Wd} {N : List Str} {sc scope : Scope} {k j : Nat} {E E' : XK} {X : Cx} {B : Bs}
end
end Dx

set_option Elab.async false
set_option linter.all false
set_option maxRecDepth 100000
set_option maxHeartbeats 2000000
/-! DxXh: an error that is kept is asked: x.value, isinstance(x, C). -/
namespace Dx
open PySem PySem.Spec PyProof.Rows L2
variable [Tbs]
section
variable {X : Cx} {pins : List (Addr × Obj)} {σ : L2.St} {H : Hp} {s : Shared} {a dx C : Addr} {fs : List (Str × V)}
/-- what the heap says of a kept error -/
theorem exn_inst (I : Inv X pins σ H s) (h1 : H a = some (XOb (.ref C) dx a)) (h2 : H dx = some (.xd fs)) : ∃ oe od, PySem.W.InstAt s.heap a oe C (some od) ∧ ∀ (f : Str) (v : V), fs.lookup f = some v → ∃ u, PySem.W.lookIn f od = some (some u) ∧ RelV v u := by
  obtain ⟨⟨oe, vs, e1, e2, e3, e4⟩, _, _⟩ := I.hok a _ h1
  obtain ⟨mA, hns, hr⟩ := (show ObjOk X.prog X.w H s.heap dx (.xd fs) from I.hok dx _ h2)
  obtain ⟨od, ho, hl⟩ := lookIn_ns hns
  refine ⟨oe, od, ⟨e1, e2, by unfold PySem.W.notCls; rw [e4] <;> rfl, by rw [e3]; exact ho⟩, fun f v hv => ?_⟩
  obtain ⟨u, hu, ru⟩ := RelO.some_of (v := v) (o := mA f) (by rw [← hv]; exact hr f)
  exact ⟨u, by rw [hl, hu], ru⟩
end
/-- the value of an error of one of the classes cs -/
def evXv (cs : List Str) (f : List Sl → R (D × List Sl)) (ρ : List Sl) : R (D × List Sl) := (f ρ).bind fun p => match p.1 with
  | .exn c d => if cs.contains c then .ok (d, p.2) else .bad
  | _ => .bad
section
variable {W : Wd} {N : List Str} {sc : Scope} {k : Nat} {E : XK} {X : Cx} {B : Bs} {e : Expr} {f : List Sl → R (D × List Sl)} {cs : List Str} {pos : Pos}
theorem q_xval (hX : XIs W N sc k E X) (hB : BOk W B) (ok : ∀ c ∈ cs, XfC W.K (He.ga W.K c) ∧ PySem.W.findIn W.K (.ref (He.ga W.K c)) "value" = some none) (he : PE X e (tE B E f)) (hb : attributeBase e "value" X.env (eval e X.env) = eval e X.env) : PE X (.Attribute e "value" pos) (tE B E (evXv cs f)) := by
  refine ⟨fun pz s σ H Q I0 ⟨Fz, ρ, I, q⟩ => ?_⟩
  refine attr_of hb (thn (he.run pz s σ H _ I0 (tG_bind I q)) fun u s1 ⟨x, H1, I1, rx, F1, ρ1, d, I2, d1, g1, e1, q1⟩ => ?_)
  have d1 : Den B.K F1 H1 x d := d1
  cases d1 with
  | @exn a dx c v dd h1 h2 dv =>
    cases (show u = Value.ref a from rx)
    dsimp only at q1
    split at q1
    case isFalse => exact q1.elim
    rename_i hc
    obtain ⟨xf, nov⟩ := ok c (List.contains_iff_mem.mp hc)
    rw [hB.K] at h1
    obtain ⟨oe, od, J, look⟩ := exn_inst I1 h1 h2
    obtain ⟨w', hw, rw'⟩ := look "value" v (by simp)
    exact HandSPX.exc_get I1.kIn J (by rw [hX.hK]; exact xf.ga) (by rw [hX.hK]; exact xf.gg) (by rw [hX.hK]; exact xf.exC) (PySem.W.findObj_own (by rw [hX.hK]; exact xf.hdC) (by rw [hX.hK]; exact nov) rfl hw) (handed_of rw') ⟨v, H1, I1.tok _, rw', q1 v H1 F1 I2 .refl dv⟩
  | _ => exact q1.elim
/-- isinstance, of an error too -/
def isiX (t : IsiT) (xs : List (Str × Bool)) (d : D) : Option D := match d with
  | .exn c _ => (xs.lookup c).map .bl
  | d => isiF t d
def evIsiX (t : IsiT) (xs : List (Str × Bool)) (f : List Sl → R (D × List Sl)) (ρ : List Sl) : R (D × List Sl) := (f ρ).bind fun p => (ofO (isiX t xs p.1)).bind fun z => .ok (z, p.2)
def rIsX (K : Frag) : List V → Hp → VK → Prop := fun xs H Q => ∃ (a C dx : Addr) (fs : List (Str × V)) (c : V) (cv : Value) (b : Bool), xs = [.ref a, c] ∧ ClsV c cv ∧ H a = some (XOb (.ref C) dx a) ∧ H dx = some (.xd fs) ∧ L2.ExcC K C ∧ PySem.W.kitOne K (.ref C) cv = some b ∧ Q (.bl b) H
theorem call_isX {X : Cx} : CallR X (.builtin "isinstance") (fun xs H Q => rIsi X.K xs H Q ∨ rIsX X.K xs H Q) := by
  intro pz s σ H xs us Q I r h
  rcases h with h | ⟨a, C, dx, fs, c, cv, b, rfl, kc, h1, h2, xc, e, q⟩
  · exact call_isi pz s σ H xs us Q I r h
  · cases r with
    | cons rx rr =>
    cases rr with
    | cons rt rr =>
    cases rr
    cases rx
    obtain ⟨oe, od, J, _⟩ := exn_inst I h1 h2
    have hcl : (PySem.W.clsIn X.K C).isSome = true := by
      obtain ⟨cd, hc, _⟩ := PySem.W.any_some xc.hd
      rw [hc]; rfl
    cases kc <;> (cases rt; exact PySem.W.kia_one (PySem.W.kitx_exc hcl xc.hg xc.hk xc.hs xc.ha xc.hn xc.ht xc.hm) I.kIn J e (fun z => nomatch z) fun tk => ⟨.bl b, H, I.kept (t' := tk) fun _ _ z => z, rfl, q⟩)
theorem t_isiX {t : IsiT} {xs : List (Str × Bool)} {uv : Value} {cv : V} {σ : L2.St} {H : Hp} {Q : VK} (hX : XIs W N sc k E X) (hB : BOk W B) (ok : IsiOk W t uv) (okx : ∀ p ∈ xs, L2.ExcC W.K (He.ga W.K p.1) ∧ PySem.W.kitOne W.K (.ref (He.ga W.K p.1)) uv = some p.2) (kc : ClsV cv uv)
    (h : tE B E (evIsiX t xs f) σ H Q) : tCB (fun xs H Q => rIsi X.K xs H Q ∨ rIsX X.K xs H Q) (tCons (tE B E f) (tCons (tC cv) tNil)) σ H Q := by
  obtain ⟨Fz, ρ, I, q⟩ := h
  refine monoG (tG_bind I q) fun v H1 ⟨F1, ρ1, d, I1, d1, g1, e1, q1⟩ => ?_
  obtain ⟨z, ez, q2⟩ := fin_o q1
  have d1 : Den W.K F1 H1 v d := by have d1 : Den B.K F1 H1 v d := d1; rw [hB.K] at d1; exact d1
  by_cases hd : ∃ c dd, d = .exn c dd
  · obtain ⟨c, dd, rfl⟩ := hd
    cases d1 with
    | @exn a dx _ w _ h1 h2 dv =>
      obtain ⟨r, e3, e4⟩ := map_some (show (xs.lookup c).map D.bl = some z from ez)
      obtain ⟨x1, x2⟩ := okx _ (lookup_memB e3)
      subst e4
      exact .inr ⟨a, _, dx, _, cv, uv, r, rfl, kc, h1, h2, by rw [hX.hK]; exact x1, by rw [hX.hK]; exact x2, q2 _ H1 F1 I1 .refl (.bl r)⟩
  · have ez' : isiF t d = some z := by
      cases d with
      | exn c dd => exact (hd ⟨c, dd, rfl⟩).elim
      | _ => exact ez
    obtain ⟨tv, r, h1, h2, rfl⟩ := isi_ty ok d1 ez'
    exact .inl ⟨v, cv, tv, uv, r, rfl, kc, by rw [hX.hK]; exact h1, by rw [hX.hK]; exact h2, q2 _ H1 F1 I1 .refl (.bl r)⟩
theorem q_isiX {t : IsiT} {xs : List (Str × Bool)} {y : Str} {p np : Pos} (hX : XIs W N sc k E X) (hB : BOk W B) (hm : W.mg "isinstance" = none) (o : GOk X sc "isinstance") (ok : IsiOk W t (.ref (He.ga W.K y))) (okx : ∀ p ∈ xs, L2.ExcC W.K (He.ga W.K p.1) ∧ PySem.W.kitOne W.K (.ref (He.ga W.K p.1)) (.ref (He.ga W.K y)) = some p.2)
    (hm2 : W.mg y = some (.ref (He.ga W.K y))) (o2 : GOk X sc y) (hs : nsE e = true) (he : PE X e (tE B E f)) : PE X (.Call (.Name "isinstance" p) [e, .Name y np] [] pos) (tE B E (evIsiX t xs f)) :=
  weakE (pe_callB call_isX o.g (hX.noName hm) rfl (pa_cons he (pa_cons (pe_glob (v := .ref (He.ga W.K y)) o2.g (by rw [hX.hmg]; exact hm2) rfl o2.d) pa_nil rfl) (star_cons hs)) (by decide) (by decide) (star_cons hs) (noStar_any rfl)) fun σ H Q h => t_isiX hX hB ok okx (.own _) h
end
end Dx

set_option Elab.async false
set_option linter.all false
set_option maxRecDepth 100000
set_option maxHeartbeats 1000000
/-! DxXi: tests of the written part: the program's own errors. -/
namespace Dx
open PySem PySem.Spec PyProof.Rows L2
variable [Tbs]
def oexB (K : Frag) (C : Addr) : Bool := match K.lookup C with
  | some ⟨.type "type", _, .cls cd, sl⟩ => (match cd.mro, sl.toList with
    | .ref C' :: bm, [_, _, _, _, some (.builtin n), _] => C' == C && n == "ValueError.__new__" && !cd.hasDel && cd.hasDict && PySem.HandSPX.refsVE bm
    | _, _ => false)
  | _ => false
theorem oexB_ok {K : Frag} {C : Addr} (h : oexB K C = true) : ∃ nm q N bs bm sn sub ab col dd k0 k1 k2 k3 k5, K.lookup C = some (excClassObj nm q C N bs bm true sn sub ab col dd k0 k1 k2 k3 k5 "ValueError.__new__") ∧ PySem.HandSPX.refsVE bm = true := by
  unfold oexB at h
  split at h
  · rename_i dd cd sl ho
    split at h
    · rename_i C' bm k0 k1 k2 k3 n k5 hm hs
      simp only [Bool.and_eq_true, beq_iff_eq, Bool.not_eq_true'] at h
      obtain ⟨⟨⟨⟨rfl, rfl⟩, hdel⟩, hdct⟩, ht⟩ := h
      obtain ⟨nm, bs, mro, ns, qn, hd, sn, sub, ab, col, del⟩ := cd
      dsimp only at hm hdel hdct
      subst hm hdel hdct
      have hsl : sl = #[k0, k1, k2, k3, some (.builtin "ValueError.__new__"), k5] := by
        obtain ⟨l⟩ := sl
        simp only at hs
        rw [hs]
      subst hsl
      exact ⟨nm, qn, ns, bs, bm, sn, sub, ab, col, dd, k0, k1, k2, k3, k5, ho, ht⟩
    · cases h
  · cases h
def supB (K : Frag) (D C : Addr) : Bool := match PySem.W.clsIn K C with
  | some cd => decide (PySem.W.alongIn K "__init__" ((cd.mro.dropWhile (· != .ref D)).drop 1) = some (some (.builtin "ValueError.__init__")))
  | none => false
def errB (K : Frag) (D C : Addr) : Bool := oexB K C && decide (PySem.W.findIn K (.ref C) "__setattr__" = some (some (.builtin "object.__setattr__"))) && decide (PySem.W.subIn K (.ref C) (.type "BaseException") = some true) && decide (PySem.W.typeIn K (.ref C) = some (.type "type")) && PySem.W.keepIn K (.ref C) &&
  supB K D C && decide (PySem.W.mroIn K C (.ref D) = some true) && decide (PySem.W.subIn K (.ref C) (.type "ValueError") = some true) && decide (PySem.W.findIn K (.ref C) "value" = some none)
theorem errB_ok {K : Frag} {D C : Addr} (h : errB K D C = true) : ErrC K D C := by
  unfold errB at h
  simp only [Bool.and_eq_true, decide_eq_true_eq] at h
  obtain ⟨⟨⟨⟨⟨⟨⟨⟨h1, h2⟩, h3⟩, h4⟩, h5⟩, h6⟩, h7⟩, h8⟩, h9⟩ := h
  refine ⟨⟨oexB_ok h1, h2, h3, h4, h5⟩, ?_, h7, h8, h9⟩
  unfold supB at h6
  split at h6
  · rename_i cd hc
    exact ⟨cd, hc, of_decide_eq_true h6⟩
  · cases h6
/-- an error's class can be asked for its class, its value -/
def xcB (K : Frag) (D : Addr) : Bool := decide (PySem.W.findIn K (.ref D) "__getattribute__" = some (some (.builtin "BaseException.__getattribute__"))) && decide (PySem.W.findIn K (.ref D) "__getattr__" = some none) && decide (PySem.W.subIn K (.ref D) (.type "BaseException") = some true) && PySem.W.hasDictIn K D &&
  decide (PySem.W.findIn K (.ref D) "__class__" = some (some (.builtin "object.__class__"))) && decide (PySem.W.specialIn K (.builtin "object.__class__") "__get__" = some (some (.builtin "getset_descriptor.__get__"))) && decide (PySem.W.takesIn K (.builtin "object.__class__") = some true) && decide (PySem.W.mroIn K D (.type "object") = some true)
theorem xcB_ok {K : Frag} {D : Addr} (h : xcB K D = true) : L2.ExcC K D := by
  unfold xcB at h
  simp only [Bool.and_eq_true, decide_eq_true_eq] at h
  obtain ⟨⟨⟨⟨⟨⟨⟨h1, h2⟩, h3⟩, h4⟩, h5⟩, h6⟩, h7⟩, h8⟩ := h
  exact ⟨h1, h2, h3, h4, h5, h6, h7, h8⟩
end Dx
namespace Dx
open PySem PySem.Spec PyProof.Rows L2
variable [Tbs]
/-- an error's __init__: its def, with the cell of its class -/
def iniB (K : Frag) (f D : Addr) (nm q file : Str) : Bool := match K.lookup f with
  | some ⟨_, _, .func fd, _⟩ => PySem.W.codeIn K fd.code q && (match fd.defaults with
    | .none => true
    | _ => false) && (match fd.closure with
    | [(x, cc)] => decide (x = "__class__") && (match K.lookup cc with
      | some ⟨_, _, .cell (some (.ref D')), _⟩ => decide (D' = D)
      | _ => false)
    | _ => false) && (match fd.code with
    | .ref cd => (match K.lookup cd with
      | some ⟨_, _, .fields vs, _⟩ => (match (vs[2]? : Option Value) with
        | some (.str fl _) => file == fl
        | _ => false)
      | _ => false)
    | _ => false)
  | _ => false
theorem iniB_ok {K : Frag} {f D : Addr} {nm q file : Str} (h : iniB K f D nm q file = true) : ∃ (oc : Value) (od : Option Addr) (fd : FuncData) (osl : Array (Option Value)) (cc cda : Addr) (cl ccl : Value) (cld cdd : Option Addr) (csl ccs : Array (Option Value)) (vs : Array Value) (fl : Str) (tf : Tok),
    K.lookup f = some ⟨oc, od, .func fd, osl⟩ ∧ fd.defaults = .none ∧ fd.closure = [(("__class__" : Str), cc)] ∧ fd.code = .ref cda ∧ PySem.W.codeIn K (.ref cda) q = true ∧ K.lookup cc = some ⟨cl, cld, .cell (some (.ref D)), csl⟩ ∧ K.lookup cda = some ⟨ccl, cdd, .fields vs, ccs⟩ ∧ vs[2]? = some (.str fl tf) ∧ (file == fl) = true := by
  unfold iniB at h
  split at h
  · rename_i oc od fd osl ho
    simp only [Bool.and_eq_true] at h
    obtain ⟨⟨⟨h5, h0⟩, h6⟩, h7⟩ := h
    have hd : fd.defaults = .none := by
      split at h0
      · assumption
      · cases h0
    split at h6
    · rename_i x cc hcl
      obtain ⟨hx, h6⟩ := Bool.and_eq_true_iff.mp h6
      have hx := of_decide_eq_true hx
      subst hx
      split at h6
      · rename_i cl cld D' csl hcc
        have e := of_decide_eq_true h6
        subst e
        split at h7
        · rename_i cda hcd
          split at h7
          · rename_i ccl cdd vs ccs hv
            split at h7
            · rename_i fl tf hf
              rw [hcd] at h5
              exact ⟨oc, od, fd, osl, cc, cda, cl, ccl, cld, cdd, csl, ccs, vs, fl, tf, ho, hd, hcl, hcd, h5, hcc, hv, hf, h7⟩
            · cases h7
          · cases h7
        · cases h7
      · cases h6
    · cases h6
  · cases h
end Dx

set_option Elab.async false
set_option linter.all false
set_option maxRecDepth 100000
set_option maxHeartbeats 1000000
/-! DxXj: a def in which lambdas stand: its code object and the table of its lambdas are known; its body is told of them. -/
namespace Dx
open PySem PySem.Spec PyProof.Rows L2 LamX
variable [Tbs]
/-- the def's function object has the code object cA -/
structure CodAt (W : Wd) (qual : Str) (f cA P : Addr) : Prop where
  ex : ∃ (oc : Value) (od : Option Addr) (fd : FuncData) (osl : Array (Option Value)), W.K.lookup f = some ⟨oc, od, .func fd, osl⟩ ∧ fd.code = .ref cA
  tab : TabB W.base W.mg cA P
  inT : (P, (qual ++ (".<locals>." : Str)) ++ ("<lambda>" : Str)) ∈ TB
  one : ∀ p ∈ TB, p.1 = P → p.2 = (qual ++ (".<locals>." : Str)) ++ ("<lambda>" : Str)
/-- a def's function object, its code object, the table -/
def codB (at_ : Frag → Addr) (cA P : Addr) (K : Frag) : Bool := (match K.lookup (at_ K) with
  | some ⟨_, _, .func fd, _⟩ => decide (fd.code = .ref cA)
  | _ => false) && PySem.W.codeHdIn K cA P
section
variable {W : Wd} {k : Nat} {f : Addr}
end
section
variable {W : Wd} {N : List Str} {sc : Scope} {k : Nat} {E : XK} {X : Cx}
end
end Dx

set_option Elab.async false
set_option linter.all false
set_option maxRecDepth 100000
set_option maxHeartbeats 2000000
/-! DxXk: the program's own errors from tests; the law's end with tables of lambdas and dicts of the module. -/
namespace Dx
open PySem PySem.Spec PyProof.Rows L2 LamX
variable [Tbs]
/-- tests of an error class c, whose __init__ is d's -/
def eokB (c d q file : Str) (K : Frag) : Bool := iniB K (pmA d "__init__" K) (He.ga K d) "__init__" q file && errB K (He.ga K d) (He.ga K c) && decide (PySem.W.findIn K (.ref (He.ga K c)) "__init__" = some (some (.ref (pmA d "__init__" K)))) && decide (PySem.W.typeIn K (.ref (pmA d "__init__" K)) = some (.type "function")) &&
  (PySem.W.clsIn K (He.ga K d)).isSome && decide (PySem.W.nsIn K cStatics "thirdparty.any" = some none)
/-- the scope of an error's __init__ -/
def xscB (sc : Scope) (x y : Str) : Bool := decide (sc.kind = .function) && !sc.isCoroutine && !sc.isGenerator && sc.names.all (fun z => !decide (z.2 = .cell) && (!decide (z.2 = .free) || decide (z.1 = "__class__"))) && decide (sc.names.lookup ("super" : Str) = some .globalImplicit) && decide (sc.names.lookup ("__class__" : Str) = some .free) &&
  decide (sc.names.lookup x = some .local) && decide (sc.names.lookup y = some .local) && decide (x ≠ y) && !(x == ("__debug__" : Str)) && !(x == ("__classdict__" : Str)) && !(y == ("__debug__" : Str)) && !(y == ("__classdict__" : Str))
theorem errOk_of {W : Wd} {c d q x y : Str} {st : Stmt} {ar : Arg} {p0 p1 p2 p3 p4 p5 p6 p7 p8 p9 : Pos} {pl : Env → Sem Bool} (ht2 : eokB c d q W.P.main.file W.K = true) (gc : W.mg c = some (.ref (He.ga W.K c))) (hsup : W.mg "super" = none) (htop : (W.P.main.scope.names.lookup ("super" : Str)).isSome = false)
    (e : fnE W.K (pmA d "__init__" W.K) = (fnD (pmA d "__init__") "__init__" q st).val)
    (hb : C8.fnBody st = [.Expr (.Call (.Attribute (.Call (.Name "super" p0) [] [] p1) "__init__" p2) [.Name y p3] [] p4) p5, .Assign [.Attribute (.Name x p6) "value" p7] (.Name y p8) p9])
    (hp : ((C8.fnArgs st).posonlyargs ++ (C8.fnArgs st).args).head? = some ar) (hpx : ar.arg = x) (hs : xscB (C8.fnScope st) x y = true)
    (bn : ∀ (cl : List (Str × Addr)) (kV doc pm : Value) (an : Option Addr) (cdv ct : Value) (us : List Value), us.length = 2 → bindArgs (PySem.W.fnX "__init__" q (C8.fnArgs st) (C8.fnBody st) (C8.fnScope st) cl .none kV doc pm an cdv ct) ⟨us, []⟩ = pure (([x, y] : List Str).zip us))
    (ht : ∀ env : Env, eval (.Call (.Attribute (.Call (.Name "super" p0) [] [] p1) "__init__" p2) [.Name y p3] [] p4) env = (do
      let ov ← attributeBase (.Call (.Name "super" p0) [] [] p1) "__init__" env (eval (.Call (.Name "super" p0) [] [] p1) env)
      standAt p2.atName
      let (f, first) ← holding [ov] (getMethod ov "__init__" (pl env))
      callWith p4 f first (backTo p4 (starEach [.Name y p3] env)) [])) : ErrOk W c := by
  unfold eokB at ht2
  simp only [Bool.and_eq_true, decide_eq_true_eq] at ht2
  obtain ⟨⟨⟨⟨⟨t1, t2⟩, t3⟩, t4⟩, t5⟩, t6⟩ := ht2
  obtain ⟨oc, od, fd, osl, cc, cda, cl, ccl, cld, cdd, csl, ccs, vs, fl, tf, lk, hdf, hcl, hcd, hci, hcell, hcode, hvs, hfile⟩ := iniB_ok t1
  obtain ⟨cdD, hD⟩ := Option.isSome_iff_exists.mp t5
  unfold fnE at e
  rw [lk] at e
  obtain ⟨n1, n2, n3, n4, n5, n6, n7, n8, n9, n10, n11, n12, n13, n14, n15⟩ := fd
  have e2 : (some (n1, n2, n3, n4, n5, n6, [], n15) : He.FnW) = some (("__init__" : Str), q, C8.fnArgs st, FuncBody.stmts (C8.fnBody st), C8.fnScope st, mainGlobals, [], builtinsNs) := e
  simp only [Option.some.injEq, Prod.mk.injEq, true_and] at e2
  obtain ⟨h1, h2, h3, h4, h5, h6, h8⟩ := e2
  dsimp only at hdf hcl hcd
  subst h1 h2 h3 h4 h5 h6 h8 hdf hcl hcd
  unfold xscB at hs
  simp only [Bool.and_eq_true, decide_eq_true_eq, Bool.not_eq_true', List.all_eq_true, Bool.or_eq_true, decide_eq_false_iff_not] at hs
  obtain ⟨⟨⟨⟨⟨⟨⟨⟨⟨⟨⟨⟨s1, s2⟩, s3⟩, s4⟩, s5⟩, s6⟩, s7⟩, s8⟩, s9⟩, s10⟩, s11⟩, s12⟩, s13⟩ := hs
  have lk2 := lk
  rw [hb] at lk2
  have F := fn_err (CX := L2.CX0) (P := W.P) (w := W.w) (mg := W.mg) (base := W.base) (k := 0) (lk := lk2) (hcd := hci) (hp := hp) (hpx := hpx) (hcode := hcode) (hvs := hvs) (hfile := hfile) (hcell := hcell) (hD := hD) (hst := t6) (hsup := hsup) (htop := htop) (hk := s1) (hco := s2) (hgen := s3)
    (nc := fun z hz => (s4 z hz).1) (fr := fun z hz hf => ((s4 z hz).2.resolve_left fun q => q hf)) (hks := s5) (hkc := s6) (hx := s7) (hy := s8) (hxy := s9) (hxd := s10) (hxc := s11) (hyd := s12) (hyc := s13) (ht := ht)
  refine ⟨⟨He.ga W.K d, pmA d "__init__" W.K, _, [x, y], errB_ok t2, t3, t4, F, ?_⟩, gc⟩
  rw [← hb]
  exact .all (bn _ _ _ _ _ _ _)
/-! dicts of the module -/
def fltV : D → Option V
  | .non => some .non
  | .bl b => some (.bl b)
  | .int i => some (.int i)
  | .str x => some (.str x)
  | _ => none
theorem fltV_ok {d : D} {v : V} {u : Value} (e : fltV d = some v) (c : ctB [] u d = true) : RelV v u ∧ ∀ K Fz H, Den K Fz H v d := by
  cases d with
  | non => cases e; cases u <;> first | exact ⟨rfl, fun _ _ _ => .non⟩ | (unfold ctB at c; cases c)
  | bl b =>
    cases e
    cases u with
    | bool b' => exact ⟨by rw [← show b' = b from beq_iff_eq.mp c]; rfl, fun _ _ _ => .bl b⟩
    | _ => unfold ctB at c; cases c
  | int i =>
    cases e
    cases u with
    | int j t => exact ⟨⟨t, by rw [show j = i from of_decide_eq_true c]⟩, fun _ _ _ => .int i⟩
    | _ => unfold ctB at c; cases c
  | str x =>
    cases e
    cases u with
    | str y t => exact ⟨⟨t, by rw [show y = x from of_decide_eq_true c]⟩, fun _ _ _ => .str x⟩
    | _ => unfold ctB at c; cases c
  | _ => cases e
def entB (p : DictEntry × (Str × D)) : Bool := keyIs (.inr p.2.1) p.1.key && (ctB [] p.1.val p.2.2 && (fltV p.2.2).isSome)
def obD (g : Addr → Option Obj) (a : Addr) (kvs : List (Str × D)) : Bool × List Int := match g a with
  | some ⟨.type c, none, .dict es _, sl⟩ => (decide (c = "dict") && decide (sl.toList.length = 0) && decide (es.toList.length = kvs.length) && (es.toList.zip kvs).all entB && decide ((kvs.map (·.1)).Nodup) && decide (kvs.length ≤ sizeLine) && !(a == sysModules), es.toList.map (·.hash))
  | _ => (false, [])
def vaD (w : World) (kvs : List (Str × D)) : Bool × List Int := (true, kvs.map fun p => keyH w (.inr p.1))
def vsD (kvs : List (Str × D)) : List (Str × V) := kvs.map fun p => (p.1, (fltV p.2).getD .non)
theorem pairs_of {prog : Program} {w : World} : ∀ {es : List DictEntry} {kvs : List (Str × D)}, es.length = kvs.length → (es.zip kvs).all entB = true → es.map (·.hash) = kvs.map (fun p => keyH w (.inr p.1)) →
    ∃ us : List (Key × Value), Pairs (mixKind prog w) es us ∧ KV ((vsD kvs).map keyP) us ∧ us.map (·.1) = kvs.map (fun p => (.inr p.1 : Key)) ∧ (∀ e ∈ es, ∃ k, (mixKind prog w).is k e.key = true ∧ e.hash = (mixKind prog w).hash k) ∧ ∀ (K : Frag) (Fz : Addr → Prop) (H : Hp), DenF K Fz H (vsD kvs) kvs
  | [], [], _, _, _ => ⟨[], .nil, .nil, rfl, by simp, fun _ _ _ => .nil⟩
  | [], _ :: _, h, _, _ => by cases h
  | _ :: _, [], h, _, _ => by cases h
  | e :: es, (k, d) :: kvs, h, c, hh => by
    rw [List.zip_cons_cons, List.all_cons, Bool.and_eq_true] at c
    unfold entB at c
    rw [Bool.and_eq_true, Bool.and_eq_true] at c
    rw [List.map_cons, List.map_cons] at hh
    obtain ⟨hh1, hh2⟩ := List.cons.inj hh
    obtain ⟨us, h1, h2, h3, h5, h4⟩ := pairs_of (prog := prog) (w := w) (Nat.succ.inj h) c.2 hh2
    obtain ⟨v, ev⟩ := Option.isSome_iff_exists.mp c.1.2.2
    obtain ⟨r, dn⟩ := fltV_ok ev c.1.2.1
    have e0 : vsD ((k, d) :: kvs) = (k, v) :: vsD kvs := by
      show (k, (fltV d).getD .non) :: vsD kvs = _
      rw [show fltV d = some v from ev]; rfl
    rw [e0]
    refine ⟨(.inr k, e.val) :: us, .cons c.1.1 rfl h1, .cons ⟨rfl, r⟩ h2, by simp [h3], fun z hz => ?_, fun K Fz H => .cons (dn K Fz H) (h4 K Fz H)⟩
    rcases List.mem_cons.mp hz with rfl | hz
    · exact ⟨.inr k, c.1.1, hh1⟩
    · exact h5 z hz
theorem obD_ok {g : Heap} {w : World} {a : Addr} {kvs : List (Str × D)} (e : obD g.get? a kvs = vaD w kvs) : ∃ o : Obj, g.get? a = some o ∧ o.cls = .type "dict" ∧ (∀ vs n, o.data ≠ .seq vs n) ∧ (∀ (P : Program) (H : Hp), ObjOk P w H g a (.dK ((vsD kvs).map keyP))) ∧ ∀ (K : Frag) (Fz : Addr → Prop) (H : Hp), DenF K Fz H (vsD kvs) kvs := by
  unfold obD vaD at e
  split at e
  · rename_i c es ep sl ho
    obtain ⟨e1, e2⟩ := Prod.mk.inj e
    simp only [Bool.and_eq_true, decide_eq_true_eq, Bool.not_eq_true'] at e1
    obtain ⟨⟨⟨⟨⟨⟨c1, c2⟩, c3⟩, c4⟩, c5⟩, c6⟩, c7⟩ := e1
    subst c1
    have c2 : sl = #[] := by
      obtain ⟨l⟩ := sl
      simp at c2
      rw [c2]
    subst c2
    refine ⟨_, ho, rfl, (fun vs n z => by cases z), fun P H => ?_, (pairs_of (prog := default) (w := w) c3 c4 e2).choose_spec.2.2.2.2⟩
    obtain ⟨us, h1, h2, h3, h5, h4⟩ := pairs_of (prog := P) (w := w) c3 c4 e2
    refine ⟨by rw [List.length_map]; unfold vsD; rw [List.length_map]; exact c6, c7, us, h2, _, es, ep, ho, ⟨rfl, rfl, rfl⟩, rfl, fun z hz => h5 z (by simpa using hz), h1, ?_⟩
    rw [h3]
    have : kvs.map (fun p => (.inr p.1 : Key)) = (kvs.map (·.1)).map .inr := by rw [List.map_map]; rfl
    rw [this]
    exact c5.map Sum.inr (fun a b h z => h (Sum.inr.inj z))
  · cases (Prod.mk.inj e).1
theorem lookup_nd {β : Type} : ∀ {l : List (Addr × β)}, (l.map (·.1)).Nodup → ∀ {p : Addr × β}, p ∈ l → l.lookup p.1 = some p.2
  | [], _, _, h => by cases h
  | (b, u) :: l, nd, p, h => by
    rw [List.map_cons, List.nodup_cons] at nd
    rw [List.lookup_cons]
    rcases List.mem_cons.mp h with rfl | h
    · simp
    · have : (p.1 == b) = false := by
        rw [beq_eq_false_iff_ne]
        intro e
        exact nd.1 (e ▸ List.mem_map_of_mem (f := (·.1)) h)
      rw [this]
      exact lookup_nd nd.2 h
theorem lookup_memA {β : Type} : ∀ {l : List (Addr × β)} {a : Addr} {u : β}, l.lookup a = some u → (a, u) ∈ l
  | [], _, _, h => by cases h
  | (b, v) :: l, a, u, h => by
    rw [List.lookup_cons] at h
    cases e : a == b with
    | true => rw [e] at h; cases h; rw [beq_iff_eq.mp e]; simp
    | false => rw [e] at h; exact List.mem_cons_of_mem _ (lookup_memA h)
/-- what stands: the dicts of the module -/
def gsOf (h : Heap) (ds : List (Addr × List (Str × D))) : List (Addr × HO) := ds.map fun p => (p.1, match h.get? p.1 with
  | some o => .frz o (.dK ((vsD p.2).map keyP))
  | none => .tbl #[])
/-- the script, the tables, the dicts -/
def manyH (a : Addr) (o : HO) (ts : List Addr) (gs : List (Addr × HO)) : Hp := fun b => if b = a then some o else if b ∈ ts then some (.tbl #[]) else gs.lookup b
section
variable {P : Program} {w : World} {K : Frag} {mg mb : Str → Option Value} {k : Nat} {fa a : Addr} {x : Str} {F : Fd} {s₁ : Shared} {vs : List Value} {ns : List Int} {cs : List (Addr × Addr)}
theorem end_runG {ds : List (Addr × List (Str × D))} (KX : K.In s₁.heap) (hnq : s₁.heap.Ns mainGlobals mg) (hb : s₁.heap.Ns builtinsNs mb) (hbb : ∀ x : Str, x ≠ "__name__" → mb x = bootBuiltins x) (hlq : s₁.heap.NoLimit) (hg : s₁.gens = #[])
    (hT : ∀ p ∈ cs, s₁.heap.get? p.2 = some { cls := .none, data := .fields #[] }) (nT : ∀ p ∈ cs, K.lookup p.2 = none) (C0 : ∀ p ∈ cs, PySem.W.CodeHd s₁.heap p.1 p.2) (tbs : ∀ p ∈ TB, p.1 ∈ cs.map (·.2)) (hD : ∀ p ∈ ds, obD s₁.heap.get? p.1 p.2 = vaD w p.2) (nD : ∀ p ∈ ds, K.lookup p.1 = none) (ndD : (ds.map (·.1)).Nodup) (dsB : ∀ p ∈ ds, p.1 ≠ mainGlobals ∧ p.1 ≠ builtinsNs ∧ p.1 ≠ cStatics)
    (hbm : ∃ (bm : Addr) (ob : Obj), mg "__builtins__" = some (.ref bm) ∧ bm ≠ builtinsNs ∧ s₁.heap.get? bm = some ob ∧ ob.cls = .type "module" ∧ ob.dict = some builtinsNs ∧ ob.data = .plain)
    (ha : s₁.heap.get? a = some { cls := .type "list", data := .seq vs.toArray }) (hi : IntsAre vs ns) (hl : ns.length ≤ sizeLine) (hr : Room k callerA) (hK : nolB K = true) (hmg : mg x = some (.ref fa))
    (C : ∀ base : Heap, K.In base → base.Ns mainGlobals mg → (∀ p ∈ cs, TabB base mg p.1 p.2) → Cal ⟨P, w, K, mg, base, L2.CX P w, gsOf s₁.heap ds⟩ k x F) (hm : F.md = [.sh]) (ho : F.own = false) (hs : ∃ o, F.sem [.lst (ns.map .int)] = .ok (.bl true, o)) :
    codeAny (model P w) callerA (.call (.ref fa) ⟨[.ref a], []⟩) (fun r s' => r = .ok (.ret (.bool true)) ∧ OldK s₁.heap s'.heap ∧ s'.os = s₁.os ∧ AllBare s'.gens) s₁ := by
  let ob : Obj := { cls := .type "list", data := .seq vs.toArray }
  have aT : a ∉ cs.map (·.2) := fun z => by
    obtain ⟨p, hp, e⟩ := List.mem_map.mp z
    have q := hT p hp
    rw [e, ha] at q
    have z' : Data.seq vs.toArray _ = Data.fields #[] := congrArg Obj.data (Option.some.inj q)
    cases z'
  have isT : ∀ b : Addr, b ∈ cs.map (·.2) → s₁.heap.get? b = some { cls := .none, data := .fields #[] } := fun b hb => by
    obtain ⟨p, hp, e⟩ := List.mem_map.mp hb
    rw [← e]
    exact hT p hp
  let H : Hp := manyH a (.frz ob (.lst (ns.map V.int))) (cs.map (·.2)) (gsOf s₁.heap ds)
  have Hat : H a = some (.frz ob (.lst (ns.map V.int))) := if_pos rfl
  have Htab : ∀ b, b ∈ cs.map (·.2) → H b = some (.tbl #[]) := fun b hb => by
    show manyH _ _ _ _ b = _
    unfold manyH
    rw [if_neg (fun z => aT (by rw [← z]; exact hb)), if_pos hb]
  have gsD : ∀ q ∈ gsOf s₁.heap ds, ∃ p ∈ ds, ∃ o, s₁.heap.get? p.1 = some o ∧ o.cls = .type "dict" ∧ (∀ vs n, o.data ≠ .seq vs n) ∧ (∀ (P : Program) (H : Hp), ObjOk P w H s₁.heap p.1 (.dK ((vsD p.2).map keyP))) ∧ q = (p.1, .frz o (.dK ((vsD p.2).map keyP))) := fun q hq => by
    obtain ⟨p, hp, e⟩ := List.mem_map.mp hq
    obtain ⟨o, e1, e2, e3, e4, _⟩ := obD_ok (hD p hp)
    exact ⟨p, hp, o, e1, e2, e3, e4, by rw [← e, e1]⟩
  have gsN : ∀ q ∈ gsOf s₁.heap ds, q.1 ≠ a ∧ q.1 ∉ cs.map (·.2) := fun q hq => by
    obtain ⟨p, hp, o, e1, e2, e3, _, rfl⟩ := gsD q hq
    refine ⟨fun z => ?_, fun z => ?_⟩
    · have z : p.1 = a := z
      rw [z, ha] at e1
      cases e1
      exact e3 _ _ rfl
    · rw [isT _ z] at e1
      cases e1
      cases e2
  have gsL : ∀ q ∈ gsOf s₁.heap ds, (gsOf s₁.heap ds).lookup q.1 = some q.2 := fun q hq => lookup_nd (by unfold gsOf; rw [List.map_map]; exact ndD) hq
  have Hgs : ∀ q ∈ gsOf s₁.heap ds, H q.1 = some q.2 := fun q hq => by
    show manyH _ _ _ _ q.1 = _
    unfold manyH
    rw [if_neg (gsN q hq).1, if_neg (gsN q hq).2]
    exact gsL q hq
  have Hinv : ∀ b u, H b = some u → (b = a ∧ u = .frz ob (.lst (ns.map V.int))) ∨ (b ∈ cs.map (·.2) ∧ u = .tbl #[]) ∨ ((b, u) ∈ gsOf s₁.heap ds) := fun b u z => by
    have z : manyH a (.frz ob (.lst (ns.map V.int))) (cs.map (·.2)) (gsOf s₁.heap ds) b = some u := z
    unfold manyH at z
    split at z
    · rename_i q; exact .inl ⟨q, (Option.some.inj z).symm⟩
    · split at z
      · rename_i q; exact .inr (.inl ⟨q, (Option.some.inj z).symm⟩)
      · exact .inr (.inr (lookup_memA z))
  have Hno : ∀ b, b ≠ a → b ∉ cs.map (·.2) → b ∉ ds.map (·.1) → H b = none := fun b h1 h2 h3 => by
    show manyH _ _ _ _ b = _
    unfold manyH
    rw [if_neg h1, if_neg h2]
    cases e : (gsOf s₁.heap ds).lookup b with
    | none => rfl
    | some u =>
      have := List.mem_map_of_mem (f := (·.1)) (lookup_memA e)
      unfold gsOf at this
      rw [List.map_map] at this
      exact absurd this h3
  have dD : ∀ b, b ∈ ds.map (·.1) → ∃ o, s₁.heap.get? b = some o ∧ o.cls = .type "dict" ∧ (∀ vs n, o.data ≠ .seq vs n) ∧ H b = some (.frz o (.dK ((vsD ((ds.lookup b).getD [])).map keyP))) := fun b hb => by
    obtain ⟨p, hp, rfl⟩ := List.mem_map.mp hb
    obtain ⟨o, e1, e2, e3, _⟩ := obD_ok (hD p hp)
    have hq : (p.1, HO.frz o (.dK ((vsD p.2).map keyP))) ∈ gsOf s₁.heap ds := List.mem_map.mpr ⟨p, hp, by rw [e1]⟩
    refine ⟨o, e1, e2, e3, ?_⟩
    rw [Hgs _ hq, lookup_nd ndD (p := p) hp]
    rfl
  have rv := vals_ints hi
  have lenV := hi.length
  have hok : HOk P w H s₁.heap := fun b u z => by
    rcases Hinv b u z with ⟨rfl, rfl⟩ | ⟨hb, rfl⟩ | hb
    · exact ⟨ha, by rw [List.length_map]; exact hl, vs, _, rv, ha⟩
    · exact isT b hb
    · obtain ⟨p, hp, o, e1, _, _, e4, e5⟩ := gsD _ hb
      obtain ⟨e6, e7⟩ := Prod.mk.inj e5
      subst e6 e7
      exact ⟨e1, e4 P H⟩
  have noD : ∀ {b : Addr} {o : Obj}, s₁.heap.get? b = some o → (∀ vs n, o.data ≠ .seq vs n) → o.data ≠ .fields #[] → b ∉ ds.map (·.1) → H b = none := fun {b o} e h1 h2 h3 => Hno b (fun q => by
    rw [q, ha] at e
    cases e
    exact h1 _ _ rfl) (fun q => by
    rw [isT b q] at e
    cases e
    exact h2 rfl) h3
  have notD : ∀ {b : Addr} {o : Obj}, s₁.heap.get? b = some o → o.cls ≠ .type "dict" → b ∉ ds.map (·.1) := fun {b o} e n hb => by
    obtain ⟨o', e1, e2, _⟩ := dD b hb
    rw [e] at e1; cases e1
    exact n e2
  have nsK : ∀ {b : Addr} {m : Str → Option Value}, b ∉ ds.map (·.1) → s₁.heap.Ns b m → (hidT s₁.heap H).Ns b m := fun {b m} nb ⟨o, es, ep, e, d, r⟩ => ⟨o, es, ep, hidT_get e (noD e (fun vs n z => by rw [d] at z; cases z) (fun z => by rw [d] at z; cases z) nb), d, r⟩
  have nb3 : mainGlobals ∉ ds.map (·.1) ∧ builtinsNs ∉ ds.map (·.1) ∧ cStatics ∉ ds.map (·.1) := by
    refine ⟨fun z => ?_, fun z => ?_, fun z => ?_⟩ <;> obtain ⟨p, hp, e⟩ := List.mem_map.mp z
    · exact (dsB p hp).1 e
    · exact (dsB p hp).2.1 e
    · exact (dsB p hp).2.2 e
  have hKq : K.In (hidT s₁.heap H) := fun b o e => hidT_get (KX b o e) (Hno b (fun q => by
    have z := KX b o e
    rw [q, ha] at z; cases z
    exact nolB_ok hK e rfl) (fun q => by
    obtain ⟨p, hp, ep⟩ := List.mem_map.mp q
    rw [← ep, nT p hp] at e
    cases e) fun q => by
    obtain ⟨p, hp, ep⟩ := List.mem_map.mp q
    rw [← ep, nD p hp] at e
    cases e)
  have hM : Mod K mg (hidT s₁.heap H) := ⟨hKq, nsK nb3.1 hnq, ⟨mb, nsK nb3.2.1 hb, hbb⟩, let ⟨mc, h1, h2⟩ := hlq; ⟨mc, nsK nb3.2.2 h1, h2⟩⟩
  have TBs : ∀ p ∈ cs, TabB (hidT s₁.heap H) mg p.1 p.2 := fun p hp => by
    have hTp := hT p hp
    refine ⟨?_, ?_, fun z => ?_⟩
    · obtain ⟨o, us, file, tf, flags, tg, inF, text, tt, e1, r1, r2, r3, r4, r5, r6, r7, r8, hne⟩ := C0 p hp
      refine ⟨o, us, file, tf, flags, tg, inF, text, tt, hidT_get e1 (noD e1 (fun vs n z => ?_) (fun z => ?_) (notD e1 (by rw [r1]; simp))), r1, r2, r3, r4, r5, r6, r7, r8, hne⟩
      · rw [r2] at z
        cases z
      · rw [r2] at z
        cases z
        simp at r3
    · obtain ⟨bm, ob, b1, b2, b3, b4, b5, b6⟩ := hbm
      have nG : bm ≠ mainGlobals := fun q => by
        obtain ⟨o, es, ep, e, hd, _⟩ := hnq
        rw [q, e] at b3
        cases b3
        rw [hd] at b6
        cases b6
      have nP : bm ≠ p.2 := fun q => by
        rw [q, hTp] at b3
        cases b3
        cases b6
      refine ⟨bm, ob, b1, b2, nG, nP, hidT_get b3 (noD b3 (fun vs n z => ?_) (fun z => ?_) (notD b3 (by rw [b4]; simp))), b4, b5, b6⟩
      · rw [b6] at z
        cases z
      · rw [b6] at z
        cases z
    · obtain ⟨o, es, ep, e, hd, _⟩ := hnq
      rw [z, hTp] at e
      cases e
      cases hd
  have ez : Env0 P w K mg (hidT s₁.heap H) callerA [] s₁ H := ⟨rfl, hM, fun b o e => of_hidT e, Nat.le_of_eq (hidT_size _ _), trivial, fun b hb => absurd (show b ∈ ([] : List Addr) from hb) (by simp), hok, .of_eq hg⟩
  obtain ⟨f, fd, ps, G, e1, _, bd⟩ := (C _ hKq (nsK nb3.1 hnq) TBs).ex
  have ef : f = fa := by
    have e1 : mg x = some (.ref f) := e1
    rw [hmg] at e1; cases e1; rfl
  subst ef
  obtain ⟨o, hs⟩ := hs
  have sp : spF K (fun H => (∀ p ∈ gsOf s₁.heap ds, H p.1 = some p.2) ∧ LamX.Tabs TB H) F [.ref a] H (fun v _ => v = .bl true) E0 := by
    refine ⟨⟨fun p h => Hgs p h, fun p h => TabS.nil (Htab _ (tbs p h))⟩, fun _ => False, [.lst (ns.map .int)], fun _ h => h.elim, ?_, ?_, ?_⟩
    · rw [hm]; exact .cons (.lst ⟨ob, Hat⟩ (denInts ns)) .nil
    · rw [hm]
      intro i j b c hij h1
      cases i with
      | zero => cases h1
      | succ i => simp at h1
    · rw [hs]
      intro v H' Fz' _ _ _ rs
      rw [ho] at rs
      cases (show Den K Fz' H' v (.bl true) from rs)
      rfl
  have len := G.len _ _ _ _ sp
  have hb2 : BindsTo s₁ fd ⟨[.ref a], []⟩ (ps.zip [.ref a]) := by
    have := bd s₁ [.ref a] KX (by rw [List.append_nil]; exact len)
    rw [List.append_nil] at this
    exact this
  refine codeAny_mono (G.run callerA [] s₁ H ⟨[.ref a], []⟩ [.ref a] [.ref a] _ _ hr rfl ez hb2 (.cons rfl .nil) sp) fun r s' h => ?_
  cases r with
  | error e => exact (cx_none h).elim
  | ok fl =>
    cases fl with
    | next => exact False.elim h
    | brk => exact False.elim h
    | cont => exact False.elim h
    | ret u =>
      obtain ⟨v, H', os, bre, un, hok', r', q⟩ := h
      have q' : v = .bl true := q
      subst q'
      obtain rfl : u = Value.bool true := r'
      have key : ∀ b o, b ∉ cs.map (·.2) → s₁.heap.get? b = some o → s'.heap.get? b = some o := fun b o nb e => by
        by_cases c : b = a
        · subst c
          obtain ⟨e2, _⟩ := hok' b _ (un.frzs b ob _ Hat)
          rw [ha] at e; cases e
          exact e2
        by_cases c2 : b ∈ ds.map (·.1)
        · obtain ⟨o', e1, _, _, e4⟩ := dD b c2
          obtain ⟨e2, _⟩ := hok' b _ (un.frzs b o' _ e4)
          rw [e1] at e; cases e
          exact e2
        · exact un.keep b o e (Hno b c nb c2) (by intro z; exact absurd (show b ∈ ([] : List Addr) from z) (by simp)) (by simp)
      have grown : ∀ p ∈ cs, ∃ more : Array Value, s'.heap.get? p.2 = some { cls := .none, data := .fields more } := fun p hp => by
        obtain ⟨more, z⟩ := un.tbls p.2 #[] (Htab p.2 (List.mem_map.mpr ⟨p, hp, rfl⟩))
        exact ⟨_, hok' p.2 _ z⟩
      refine ⟨rfl, ⟨fun b o e => ?_, fun b o e => ?_⟩, os, bre⟩
      · by_cases hb : b ∈ cs.map (·.2)
        · obtain ⟨p, hp, ep⟩ := List.mem_map.mp hb
          obtain ⟨more, hm⟩ := grown p hp
          rw [← ep] at e ⊢
          rw [hT p hp] at e
          cases e
          exact .inr (.inl ⟨((C0 p hp).tab (hT p hp)).isCodeTable, rfl, #[], more, rfl, by rw [Array.empty_append]; exact hm⟩)
        · exact .inl (key b o hb e)
      · by_cases hb : b ∈ cs.map (·.2)
        · obtain ⟨p, hp, ep⟩ := List.mem_map.mp hb
          obtain ⟨more, hm⟩ := grown p hp
          rw [← ep]
          exact ⟨_, hm⟩
        · exact ⟨o, key b o hb e⟩
end
/-! what is known of the module's dicts -/
structure DicG (W : Wd) (a : Addr) (kvs : List (Str × D)) : Prop where
  ex : ∃ o : Obj, (a, HO.frz o (.dK ((vsD kvs).map keyP))) ∈ W.gs
  dn : ∀ (K : Frag) (Fz : Addr → Prop) (H : Hp), DenF K Fz H (vsD kvs) kvs
theorem dicG_of {h : Heap} {ds : List (Addr × List (Str × D))} {w : World} {P : Program} {K : Frag} {mg : Str → Option Value} {base : Heap} {CX : CXT} (hD : ∀ p ∈ ds, obD h.get? p.1 p.2 = vaD w p.2) : ∀ p ∈ ds, DicG ⟨P, w, K, mg, base, CX, gsOf h ds⟩ p.1 p.2 := fun p hp => by
  obtain ⟨o, e1, _, _, _, dn⟩ := obD_ok (hD p hp)
  exact ⟨⟨o, List.mem_map.mpr ⟨p, hp, by rw [e1]⟩⟩, dn⟩
/-- the module's name x is the dict at a -/
def gdB (x : Str) (a : Addr) (K : Frag) : Bool := match PySem.W.nsIn K mainGlobals x with
  | some (some (.ref b)) => decide (b = a)
  | _ => false
theorem wokG {P : Program} {w : World} {K : Frag} {mg : Str → Option Value} {base h : Heap} {ds : List (Addr × List (Str × D))} (hD : ∀ p ∈ ds, obD h.get? p.1 p.2 = vaD w p.2) : WOk ⟨P, w, K, mg, base, L2.CX P w, gsOf h ds⟩ :=
  ⟨fun q hq => by
    obtain ⟨p, hp, e⟩ := List.mem_map.mp hq
    obtain ⟨o, e1, _⟩ := obD_ok (hD p hp)
    rw [← e, e1]
    exact trivial, fun _ _ _ _ _ h => cx_none h, fun _ _ _ _ _ _ _ _ _ _ _ => passes_call (takes_of rfl rfl rfl rfl) fun _ _ _ _ h => h, fun _ _ _ _ _ _ _ _ _ _ _ => takes_of rfl rfl rfl rfl⟩
/-! the hook, with tables and dicts -/
abbrev DsV : Type := List (Addr × List (Str × D))
def hookG (ts : List Addr) (ds : DsV) (as : List Addr) (gs : List Grp) : PySem.W.Hook where
  α := List GrV × List (Option Obj) × List (Bool × List Int)
  obs := fun s => (gs.map fun p => p.obs (He.frG s.heap.get? as), ts.map s.heap.get?, ds.map fun p => obD s.heap.get? p.1 p.2)
  val := fun w => (gs.map Grp.val, ts.map fun _ => some { cls := .none, data := .fields #[] }, ds.map fun p => vaD w p.2)
  says := fun w h => (∃ K : Frag, K.In h ∧ gs.map (fun p => p.obs K) = gs.map Grp.val) ∧ (∀ P ∈ ts, h.get? P = some { cls := .none, data := .fields #[] }) ∧ ∀ p ∈ ds, obD h.get? p.1 p.2 = vaD w p.2
  of := fun _ _ e => ⟨⟨_, He.frG_in, (Prod.mk.inj e).1⟩, List.map_inj_left.mp (Prod.mk.inj (Prod.mk.inj e).2).1, List.map_inj_left.mp (Prod.mk.inj (Prod.mk.inj e).2).2⟩
  keeps := fun w h h' ⟨⟨K, hK, c⟩, t, d⟩ k => ⟨⟨K, PySem.W.Frag.In.keeps hK k, c⟩, fun P hP => k _ _ (t P hP), fun p hp => by
    have e := d p hp
    obtain ⟨o, e1, _⟩ := obD_ok e
    rw [← e]
    unfold obD
    rw [e1, k _ _ e1]⟩
def obG (ts : List Addr) (ds : DsV) (as : List Addr) (gs : List Grp) (s : PySem.W.SharedT) : List GrV × List (Option Obj) × List (Bool × List Int) := (gs.map fun p => p.obs (He.frG (HandSHeadRun.getT s) as), ts.map (HandSHeadRun.getT s), ds.map fun p => obD (HandSHeadRun.getT s) p.1 p.2)
theorem obG_eq (ts : List Addr) (ds : DsV) (as : List Addr) (gs : List Grp) (s : PySem.W.SharedT) : obG ts ds as gs s = (hookG ts ds as gs).obs s.abs := by
  have e : HandSHeadRun.getT s = s.abs.heap.get? := funext fun a => HandSHeadRun.getT_eq s a
  unfold obG
  rw [e]
  rfl
section
open PySem.W HandSHeadRun
def BasEqG (r : OpenRow) (q : Program) (M : Nat) (loose : List PySem.Str) (ts : List Addr) (ds : DsV) (w : World) : Prop :=
  ∀ os : OsState, (endF (stepQ (denQ tabQ) r.prog w) M r.prog w os).map (fun s => (looksF r.prog (boot_heap w.params) s.abs, seenQ q loose (importedModules r.prog.main.body) (fun s => xlAt q [] s && recOk r.toRowW.records s) s.abs, ts.map (getT s), ds.map fun p => obD (getT s) p.1 p.2)) = some (true, openGood q loose, ts.map (fun _ => some { cls := .none, data := .fields #[] }), ds.map fun p => vaD w p.2)
theorem runEq_ofG {r : OpenRow} {q : Program} {M : Nat} {loose : List PySem.Str} {ts : List Addr} {ds : DsV} {as : List Addr} {gs : List Grp} {w : World} (b : BasEqG r q M loose ts ds w) (ps : ∀ p ∈ gs, ParEq r M as w p) : RunEq r q (hookG ts ds as gs) (obG ts ds as gs) M loose w := by
  intro os
  have hb := b os
  have hp : ∀ p ∈ gs, (endF (stepQ (denQ tabQ) r.prog w) M r.prog w os).map (fun s => p.obs (He.frG (getT s) as)) = some p.val := fun p h => ps p h os
  revert hb hp
  generalize endF (stepQ (denQ tabQ) r.prog w) M r.prog w os = z
  intro hb hp
  cases z with
  | none => cases hb
  | some s =>
    have h1 := Prod.mk.inj (Option.some.inj hb)
    have h2 := Prod.mk.inj h1.2
    have h3 := Prod.mk.inj h2.2
    show some (_, _, obG ts ds as gs s) = some (true, openGood q loose, (gs.map Grp.val, ts.map (fun _ => some { cls := .none, data := .fields #[] }), ds.map fun p => vaD w p.2))
    rw [h1.1, h2.1]
    unfold obG
    rw [h3.1, h3.2, List.map_congr_left (fun p h => Option.some.inj (hp p h))]
end
theorem walkXG {l : PySem.W.OpenLaw} {n k : Nat} {q : Program} {loose : List Str} {XP : (Str → Option Value) → Heap → Prop} {YP : World → Heap → Prop} {d : DefRec} {F : Fd} {cs : List (Addr × Addr)} {ds : DsV}
    (hn : l.most = some n) (hnz : n ≤ sizeLine) (hdq : d.params.defaults = []) (hr : Room k callerA) (tbs : ∀ p ∈ TB, p.1 ∈ cs.map (·.2)) (ndD : (ds.map (·.1)).Nodup) (dsB : ∀ p ∈ ds, p.1 ≠ mainGlobals ∧ p.1 ≠ builtinsNs ∧ p.1 ≠ cStatics)
    (C : ∀ (w : World) (mg : Str → Option Value) (h : Heap), YP w h → h.Ns mainGlobals mg → ∃ K : Frag, K.In h ∧ nolB K = true ∧ (∀ p ∈ cs, h.get? p.2 = some { cls := .none, data := .fields #[] }) ∧ (∀ p ∈ cs, K.lookup p.2 = none) ∧ (∀ p ∈ cs, PySem.W.codeHdIn K p.1 p.2 = true) ∧ (∀ p ∈ ds, obD h.get? p.1 p.2 = vaD w p.2) ∧ (∀ p ∈ ds, K.lookup p.1 = none) ∧
      ∀ base : Heap, K.In base → base.Ns mainGlobals mg → (∀ p ∈ cs, TabB base mg p.1 p.2) → Cal ⟨l.prog, w, K, mg, base, L2.CX l.prog w, gsOf h ds⟩ k d.name F)
    (hm : F.md = [.sh]) (ho : F.own = false) (hs : ∀ ns : List Int, ns.length ≤ n → ∃ o, F.sem [.lst (ns.map .int)] = .ok (.bl true, o)) : PySem.W.WalkO q loose XP YP l.row.toRowW d [] (fun f vs => PySem.call f vs) :=
  Att.attach_callB hn hdq fun w s₀ s₁ mg mb fa o pm cd doc a vs ns G Y ho' hd hcd hmg hobj hints hlen hbits hg => by
    obtain ⟨K, KX, nl, hT, nT, hH, hD, nD, hC⟩ := C w mg _ Y G.T.g
    exact end_runG KX G.T.g G.T.b G.T.builtins G.T.nolimit hg hT nT (fun p hp => PySem.W.codeHd_of_K KX (hH p hp)) tbs hD nD ndD dsB G.T.bmain hobj hints (Nat.le_trans hlen hnz) hr nl hmg hC hm ho (hs ns hlen)
end Dx

set_option Elab.async false
set_option linter.all false
set_option maxRecDepth 100000
set_option maxHeartbeats 1000000
/-! DxXl: lists of any values compared with the empty list. -/
namespace Dx
open PySem PySem.Spec PyProof.Rows L2
variable [Tbs]
def eqEO (x y : D) : Option D := match x, y with
  | .lst l, .lst [] => some (.bl (l.isEmpty))
  | _, _ => none
def neEO (x y : D) : Option D := match x, y with
  | .lst l, .lst [] => some (.bl (!l.isEmpty))
  | _, _ => none
section
variable {X : Cx}
end
section
variable {W : Wd} {N : List Str} {sc : Scope} {k : Nat} {E : XK} {X : Cx} {B : Bs} {a b : Expr} {f g : List Sl → R (D × List Sl)} {pos : Pos} (hX : XIs W N sc k E X) (hB : BOk W B)
include hX hB
end
end Dx

set_option Elab.async false
set_option linter.all false
set_option maxRecDepth 100000
set_option maxHeartbeats 1000000
/-! DxXm: tuple(text). -/
namespace Dx
open PySem PySem.Spec PyProof.Rows L2
variable [Tbs]
def tup2O : List D → Option D
  | [.str x] => if x.cps.size ≤ sizeLine then some (.tup (chrD x)) else none
  | ds => tupO ds
section
variable {W : Wd} {N : List Str} {sc : Scope} {k : Nat} {E : XK} {X : Cx} {B : Bs} {e : Expr} {f : List Sl → R (D × List Sl)} {pos p : Pos}
@[simp] theorem tup2_l {l : List D} : tup2O [.lst l] = some (.tup l) := rfl
@[simp] theorem tup2_t {l : List D} : tup2O [.tup l] = some (.tup l) := rfl
end
end Dx

set_option Elab.async false
set_option linter.all false
set_option maxRecDepth 100000
set_option maxHeartbeats 1000000
/-! DxXn: len(x) by an own __len__. -/
namespace Dx
open PySem PySem.Spec PyProof.Rows L2
variable [Tbs]
section
variable {W : Wd} {N : List Str} {sc : Scope} {k j : Nat} {E : XK} {X : Cx} {B : Bs} {e : Expr} {f : List Sl → R (D × List Sl)} {p pos : Pos}
end
end Dx

set_option Elab.async false
set_option linter.all false
set_option maxRecDepth 100000
set_option maxHeartbeats 1000000
/-! DxXp: a list that stands fast, times an int. -/
namespace Dx
open PySem PySem.Spec PyProof.Rows L2
variable [Tbs]
section
variable {W : Wd} {N : List Str} {sc : Scope} {k : Nat} {E : XK} {X : Cx} {B : Bs} {a b : Expr} {f g : List Sl → R (D × List Sl)} {pos : Pos}
end
end Dx

set_option Elab.async false
set_option linter.all false
set_option maxRecDepth 100000
set_option maxHeartbeats 2000000
/-! DxXq: an error that is made and kept as a value. -/
namespace Dx
open PySem PySem.Spec PyProof.Rows L2
variable [Tbs]
section
variable {X : Cx} {pins : List (Addr × Obj)} {σ : L2.St} {H : Hp} {s : Shared} {a : Addr} {o : HO}
theorem track2 (I : Inv X pins σ H s) (na : H a = none) (n0 : ∀ u, X.s_0.heap.get? a = some u → a ∈ X.ex) (nL : a ≠ X.env.locals) (nC : ∀ x c, X.env.cells.lookup x = some c → c ≠ a) (np : ∀ p ∈ X.pn ++ pins, p.1 ≠ a) (new : ObjOk X.prog X.w (upd H a o) s.heap a o) : Inv X pins σ (upd H a o) s := by
  have nh : ∀ {b : Addr} {u : HO}, H b = some u → b ≠ a := fun {b u} e z => by rw [z, na] at e; cases e
  refine ⟨I.ok, I.os, I.bare, ⟨I.base.keep, I.base.slot, fun b u e n hx => ?_, I.base.there, fun b xs e => ?_, fun b u v e => ?_, fun b ps e => ?_⟩, I.loc, I.cell, ?_, fun x c e => ?_, fun p hp => ?_, fun b u e => ?_, I.len⟩
  · have nb : b ≠ a := fun z => hx (by rw [z]; exact n0 u (by rw [← z]; exact e))
    rw [upd_ne nb]; exact I.base.free b u e n hx
  · have q := I.base.tups b xs e
    rw [upd_ne (nh q)]; exact q
  · have q := I.base.frzs b u v e
    rw [upd_ne (nh q)]; exact q
  · obtain ⟨more, q⟩ := I.base.tbls b ps e
    exact ⟨more, by rw [upd_ne (nh q)]; exact q⟩
  · rw [upd_ne (Ne.symm nL)]; exact I.free
  · rw [upd_ne (nC x c e)]; exact I.freeC x c e
  · obtain ⟨e, n, r⟩ := I.pin p hp
    exact ⟨e, by rw [upd_ne (np p hp)]; exact n, r⟩
  · by_cases hb : b = a
    · subst hb
      rw [upd_same] at e
      cases e
      exact new
    · rw [upd_ne hb] at e
      exact (I.hok b u e).stay (fun c v _ z => z) (fun c hc => by rw [upd_ne (nh hc)]; exact hc) fun c xs hc => by rw [upd_ne (nh hc)]; exact hc
theorem mk_inv {Q : XK} {u : Value} {s' : Shared} (m : MkP X pins σ Q u s') (hQ : ∀ cls d H', Q cls d H' → ∃ dx, d = some dx) :
    ∃ a H' cls dx, u = .ref a ∧ Inv X pins σ (upd H' a (XOb cls dx a)) s' ∧ H' a = none ∧ Q cls (some dx) H' := by
  obtain ⟨a, oe, vs, sI, H', cls, d, rfl, J, k, hne, ha, hz, hd, h1, na, os, ag, r, q⟩ := m
  obtain ⟨dx, rfl⟩ := hQ _ _ _ q
  have J2 : Inv X pins σ H' s' := J.landed (B := sI.heap) (fun b o e _ => e) (fun b o e => k b o e) (fun b o e _ => ⟨_, k b o e⟩) os ag
  refine ⟨a, H', cls, dx, rfl, track2 J2 na (fun u e => ?_) (fun z => ?_) (fun x c e z => ?_) (fun p hp z => ?_) (xob_ok ha hz hd), na, q⟩
  · refine Classical.byContradiction fun hx => ?_
    obtain ⟨o', e'⟩ := J.base.there a u e hx
    rw [hne] at e'; cases e'
  · obtain ⟨m, ⟨o, es, ep, e1, e2, _⟩, _⟩ := J.loc
    rw [← z, hne] at e1; cases e1
  · obtain ⟨v, o, ho, _⟩ := J.cell x c e
    rw [z, hne] at ho; cases ho
  · have e1 := (J.pin p hp).1
    rw [z, hne] at e1; cases e1
end
def evExn (c : Str) (f : List Sl → R (D × List Sl)) (ρ : List Sl) : R (D × List Sl) := (f ρ).bind fun p => .ok (.exn c p.1, p.2)
section
variable {W : Wd} {N : List Str} {sc : Scope} {k : Nat} {E : XK} {X : Cx} {B : Bs} {e : Expr} {f : List Sl → R (D × List Sl)} {c : Str} {p pos : Pos}
theorem q_exn (hX : XIs W N sc k E X) (hB : BOk W B) (hk : 2 ≤ k) (ok : ErrOk W c) (hg : Gl X c) (hdb : (c == ("__debug__" : Str)) = false) (he : PE X e (tE B E f))
    (hns : nsE e = true) : PE X (.Call (.Name c p) [e] [] pos) (tE B E (evExn c f)) := by
  obtain ⟨D, fI, fd, ps, EC, iC, tI, F1, bd⟩ := ok.ex
  have hPw : FnOk X.prog X.w X.K X.mg X.base L2.CX0 1 fI fd ps (spErr X.K D) := by rw [hX.hP, hX.hw, hX.hK, hX.hmg, hX.hbase]; exact F1
  have pm := pmk_oex (X := X) (CX := L2.CX0) (dvs := []) (ds := []) (p := p) (pos := pos) (by rw [hX.hK]; exact EC.ox) (by rw [hX.hK]; exact iC) (by rw [hX.hK]; exact tI) hPw (hX.room.mono hk) (by rw [hX.hK]; exact bd) .nil pass0 hg (by rw [hX.hmg]; exact ok.mg)
    (pa_cons he pa_nil (star_cons hns)) hdb (star_cons hns) rfl
  refine ⟨fun pz s σ H Q I0 ⟨Fz, ρ, I, q⟩ => ?_⟩
  refine thn (pm pz s σ H (fun cls d H' => ∃ dx, d = some dx ∧ ∀ b, H' b = none → Q (.ref b) (upd H' b (XOb cls dx b))) I0 ?_) fun u s' m => ?_
  · refine monoG (tG_bind I q) fun x H1 ⟨F1, ρ1, dv, I1, d1, g1, e1, q1⟩ => ?_
    show ([x] : List V).length ≤ 1000 ∧ _
    refine ⟨by simp, fun a ha => ?_⟩
    show spErr X.K D _ _ _ _
    rw [hX.hK]
    refine ⟨a, He.ga W.K c, x, rfl, EC, upd_same, fun dx hdx ne => ?_⟩
    have hdx1 : H1 dx = none := by rw [upd_ne ne] at hdx; exact hdx
    refine ⟨rfl, dx, [("value", x)], upd_same, by rw [upd_ne ne, upd_same], hdx1, ?_⟩
    have eH : upd (del (upd (upd (upd H1 a (exo a (He.ga W.K c) none)) dx (exd dx [("value", x)])) a (exo a (He.ga W.K c) (some dx))) a) dx (.xd [("value", x)]) = upd H1 dx (.xd [("value", x)]) := by
      funext b
      by_cases hb : b = dx
      · rw [hb, upd_same, upd_same]
      · rw [upd_ne hb, upd_ne hb]
        by_cases h2 : b = a
        · rw [h2, del_same]; exact ha.symm
        · rw [del_ne h2, upd_ne h2, upd_ne hb, upd_ne h2]
    rw [eH]
    obtain ⟨I2, g2, _⟩ := I1.laid hdx1 (.xd [("value", x)])
    refine ⟨dx, rfl, fun b hb => ?_⟩
    obtain ⟨I3, g3, _⟩ := I2.laid hb (XOb (.ref (He.ga W.K c)) dx b)
    have nb : dx ≠ b := fun z => by rw [← z, upd_same] at hb; cases hb
    have dn : Den B.K F1 (upd (upd H1 dx (.xd [("value", x)])) b (XOb (.ref (He.ga W.K c)) dx b)) (.ref b) (.exn c dv) := by
      rw [hB.K]
      have dv2 := (show Den B.K F1 H1 x dv from d1).mono (g2.trans g3)
      rw [hB.K] at dv2
      exact .exn upd_same (by rw [upd_ne nb, upd_same]) dv2
    exact q1 (.ref b) _ F1 I3 (g2.trans g3) dn
  · obtain ⟨a, H', cls, dx, rfl, J, na, dx', e', q2⟩ := mk_inv m fun cls d H' ⟨dx, e, _⟩ => ⟨dx, e⟩
    cases e'
    exact ⟨.ref a, _, J, rfl, q2 a na⟩
theorem q_isiXB {t : IsiT} {xs : List (Str × Bool)} {n : String} {y : Str} {p np : Pos} (hX : XIs W N sc k E X) (hB : BOk W B) (hm : W.mg "isinstance" = none) (o : GOk X sc "isinstance") (ok : IsiOk W t (.type n)) (okx : ∀ p ∈ xs, L2.ExcC W.K (He.ga W.K p.1) ∧ PySem.W.kitOne W.K (.ref (He.ga W.K p.1)) (.type n) = some p.2)
    (hm2 : W.mg y = none) (o2 : GOk X sc y) (hv : bootBuiltins y = some (.type n)) (hs : nsE e = true) (he : PE X e (tE B E f)) : PE X (.Call (.Name "isinstance" p) [e, .Name y np] [] pos) (tE B E (evIsiX t xs f)) :=
  weakE (pe_callB call_isX o.g (hX.noName hm) rfl (pa_cons he (pa_cons (pe_bltn (v := .ty n) o2.g (hX.noName hm2) hv rfl (nn_of o2.n) o2.d) pa_nil rfl) (star_cons hs)) (by decide) (by decide) (star_cons hs) (noStar_any rfl)) fun σ H Q h => t_isiX hX hB ok okx (.ty n) h
end
end Dx

set_option Elab.async false
set_option linter.all false
set_option maxRecDepth 100000
set_option maxHeartbeats 2000000
/-! DxXr: x[k], x[l] = a, b. -/
namespace Dx
open PySem PySem.Spec PyProof.Rows L2
variable [Tbs]
theorem sw_sub {o1 i1 o2 i2 a b : Expr} {p1 p2 p pp : Pos} {k k2 : Nat} {env : Env} : swappedStores [.Tuple [.Subscript o1 i1 p1, .Subscript o2 i2 p2] k p] (.Tuple [a, b] k2 pp) env = pure none := by
  unfold swappedStores
  dsimp only
  repeat (first | rfl | split)
def stPut2 (i : Nat) (f g h : List Sl → R (D × List Sl)) (ρ : List Sl) : RS := (f ρ).st fun p => match p.1 with
  | .tup [a, b] => ofT (ownD p.2 i) fun _ => (g p.2).st fun q => ofT (ownD q.2 i) fun d => ofT (setF d q.1 a) fun d1 => ofT (ownD (putO q.2 i d1) i) fun _ => (h (putO q.2 i d1)).st fun r => ofT (ownD r.2 i) fun d' => ofT (setF d' r.1 b) fun d2 => .nx (putO r.2 i d2)
  | _ => .bad
section
variable {W : Wd} {N : List Str} {sc : Scope} {k : Nat} {E : XK} {X : Cx} {B : Bs} {e c c2 : Expr} {f g h : List Sl → R (D × List Sl)} {i kt : Nat} {x : Str} {np np2 tp tp2 tpt pos : Pos}
theorem q_put2 (hX : XIs W N sc k E X) (hB : BOk W B) (o : VOk X i x) (he : PE X e (tE B E f)) (hk : PE X c (tE B E g)) (hk2 : PE X c2 (tE B E h))
    (hs : swapsWithSole [.Tuple [.Subscript (.Name x np) c tp, .Subscript (.Name x np2) c2 tp2] kt tpt] e pos.line X.env = pure false) (hw : swappedStores [.Tuple [.Subscript (.Name x np) c tp, .Subscript (.Name x np2) c2 tp2] kt tpt] e X.env = pure none)
    (h1 : (assignEach [.Tuple [.Subscript (.Name x np) c tp, .Subscript (.Name x np2) c2 tp2] kt tpt] X.env).map (·.2) = [assign (.Tuple [.Subscript (.Name x np) c tp, .Subscript (.Name x np2) c2 tp2] kt tpt) X.env])
    (hn : (assignEach [.Subscript (.Name x np) c tp, .Subscript (.Name x np2) c2 tp2] X.env).length = 2) (hst : (assignEach [.Subscript (.Name x np) c tp, .Subscript (.Name x np2) c2 tp2] X.env).findIdx? (·.1) = none)
    (h2 : (assignEach [.Subscript (.Name x np) c tp, .Subscript (.Name x np2) c2 tp2] X.env).map (·.2) = assign (.Subscript (.Name x np) c tp) X.env :: (assignEach [.Subscript (.Name x np2) c2 tp2] X.env).map (·.2))
    (h3 : (assignEach [.Subscript (.Name x np2) c2 tp2] X.env).map (·.2) = assign (.Subscript (.Name x np2) c2 tp2) X.env :: (assignEach [] X.env).map (·.2))
    (ha : ∀ v, assign (.Subscript (.Name x np) c tp) X.env v = (do
      let ov ← holding [v] (eval (.Name x np) X.env)
      let iv ← holding [v, ov] (eval c X.env)
      standAt tp
      holding [v, ov, iv] (setItem ov iv v)
      release [v, ov, iv] []))
    (ha2 : ∀ v, assign (.Subscript (.Name x np2) c2 tp2) X.env v = (do
      let ov ← holding [v] (eval (.Name x np2) X.env)
      let iv ← holding [v, ov] (eval c2 X.env)
      standAt tp2
      holding [v, ov, iv] (setItem ov iv v)
      release [v, ov, iv] [])) : PS X (.Assign [.Tuple [.Subscript (.Name x np) c tp, .Subscript (.Name x np2) c2 tp2] kt tpt] e pos) (tS B E (stPut2 i f g h)) := by
  have hu := hX.hu
  have ps : PSet X _ := pset_or set_list (set_dict (by omega))
  have G1 := pg_sub (pos := tp) (pe_var (pos := np) o.n o.v o.d o.c) hk ps ha
  have G2 := pg_sub (pos := tp2) (pe_var (pos := np2) o.n o.v o.d o.c) hk2 ps ha2
  refine weakS (ps_asg he (pg_tup (n := 2) hX.calm (pgs_cons G1 (pgs_cons G2 pgs_nil h3) h2) hn hst) hs hw h1) fun Dn σ H ⟨Fz, ρ, I, q⟩ => ?_
  refine monoG (tG_st I q) fun v H1 ⟨F1, ρ1, dv, I1, d1, g1, q1⟩ => ?_
  have d1 : Den B.K F1 H1 v dv := d1
  cases d1 with
  | @tup a vs ds sq l =>
    dsimp only at q1
    split at q1
    case h_2 => exact q1.elim
    rename_i da db eq
    cases eq
    cases l with
    | cons la l =>
    cases l with
    | cons lb l =>
    cases l
    rename_i va vb
    obtain ⟨d0, e0, q1⟩ := fin_ofT q1
    obtain ⟨at0, hs0, _⟩ := ownD_of I1 e0
    refine ⟨a, [va, vb], rfl, by rw [← hX.kk hB]; exact sq.t, rfl, va, [vb], rfl, .ref at0, hs0, monoG (tG_st I1 q1) fun kv H2 ⟨F2, ρ2, dk, I2, d2, g2, q2⟩ => ?_⟩
    obtain ⟨dd, e1, q3⟩ := fin_ofT q2
    obtain ⟨dd1, e2, q4⟩ := fin_ofT q3
    refine set_at I2 e1 hs0 d2 (la.mono g2) e2 fun o' I3 => ?_
    obtain ⟨dd2, e3, q5⟩ := fin_ofT q4
    obtain ⟨at1, hs1, _⟩ := ownD_of I3.1 e3
    refine ⟨vb, [], rfl, .ref at1, hs1, monoG (tG_st I3.1 (q5.ge I3.2)) fun kv2 H4 ⟨F4, ρ4, dk2, I4, d4, g4, q6⟩ => ?_⟩
    obtain ⟨dd3, e4, q7⟩ := fin_ofT q6
    obtain ⟨dd4, e5, q8⟩ := fin_ofT q7
    exact set_at I4 e4 hs1 d4 (((lb.mono g2).mono I3.2).mono g4) e5 fun o2 I5 => ⟨rfl, q8 σ _ F4 I5.1 I5.2⟩
  | _ => exact q1.elim
end
end Dx

set_option Elab.async false
set_option linter.all false
set_option maxRecDepth 100000
set_option maxHeartbeats 1000000
/-! DxXo: the top's run looked at once: what the row asks of it, and the law's tests. -/
namespace Dx
open PySem PySem.Spec PyProof.Rows L2
variable [Tbs]
section
open PySem.W HandSHeadRun
def BotEq (r : OpenRow) (q : Program) (M : Nat) (loose : List PySem.Str) (ts : List Addr) (ds : DsV) (as : List Addr) (p : Grp) (w : World) : Prop :=
  ∀ os : OsState, (endF (stepQ (denQ tabQ) r.prog w) M r.prog w os).map (fun s => ((looksF r.prog (boot_heap w.params) s.abs, seenQ q loose (importedModules r.prog.main.body) (fun s => xlAt q [] s && recOk r.toRowW.records s) s.abs, ts.map (getT s), ds.map fun p => obD (getT s) p.1 p.2), p.obs (He.frG (getT s) as))) = some ((true, openGood q loose, ts.map (fun _ => some { cls := .none, data := .fields #[] }), ds.map fun p => vaD w p.2), p.val)
theorem BotEq.bas {r : OpenRow} {q : Program} {M : Nat} {loose : List PySem.Str} {ts : List Addr} {ds : DsV} {as : List Addr} {p : Grp} {w : World} (h : BotEq r q M loose ts ds as p w) : BasEqG r q M loose ts ds w := fun os => by
  have e := congrArg (Option.map Prod.fst) (h os)
  rw [Option.map_map] at e
  exact e
theorem BotEq.par {r : OpenRow} {q : Program} {M : Nat} {loose : List PySem.Str} {ts : List Addr} {ds : DsV} {as : List Addr} {p : Grp} {w : World} (h : BotEq r q M loose ts ds as p w) : ParEq r M as w p := fun os => by
  have e := congrArg (Option.map Prod.snd) (h os)
  rw [Option.map_map] at e
  exact e
end
end Dx

set_option Elab.async false
set_option linter.all false
set_option maxRecDepth 100000
set_option maxHeartbeats 1000000
/-! DxMa: what pieces of code do, said by what must hold behind them (sat). -/
namespace Dx
open PySem PySem.Spec PyProof.Rows L2

def R.sat {α : Type} (r : R α) (Q : α → Prop) : Prop := ∃ a, r = .ok a ∧ Q a
section
variable {α β γ : Type} {Q Q' : α → Prop}
@[simp] theorem R.sat_ok (a : α) : (R.ok a).sat Q = Q a := propext ⟨fun ⟨_, e, h⟩ => by cases e; exact h, fun h => ⟨a, rfl, h⟩⟩
@[simp] theorem R.sat_bad : (R.bad : R α).sat Q = False := propext ⟨fun ⟨_, e, _⟩ => (nomatch e), fun h => h.elim⟩
@[simp] theorem R.sat_exc (c : Str) (d : D) : (R.exc c d : R α).sat Q = False := propext ⟨fun ⟨_, e, _⟩ => (nomatch e), fun h => h.elim⟩
@[simp] theorem R.sat_bind (r : R β) (k : β → R α) : (r.bind k).sat Q = r.sat fun a => (k a).sat Q := by cases r <;> simp
@[simp] theorem R.sat_nox (r : R α) : r.nox.sat Q = r.sat Q := by cases r <;> simp [R.nox]
theorem R.sat.mono {r : R α} (h : r.sat Q) (w : ∀ a, Q a → Q' a) : r.sat Q' := let ⟨a, e, q⟩ := h; ⟨a, e, w a q⟩
theorem R.sat_iff {r : R α} : r.sat Q ↔ ∃ a, r = .ok a ∧ Q a := Iff.rfl
@[simp] theorem ofO_some (a : α) : ofO (some a) = .ok a := rfl
@[simp] theorem ofO_none : (ofO none : R α) = .bad := rfl
end
def RS.sat (r : RS) (N : List Sl → Prop) (T : Bool → D → List Sl → Prop) : Prop := (∃ ρ, r = .nx ρ ∧ N ρ) ∨ ∃ o d ρ, r = .rt o d ρ ∧ T o d ρ
section
variable {α β : Type} {N N' : List Sl → Prop} {T T' : Bool → D → List Sl → Prop}
@[simp] theorem RS.sat_nx (ρ : List Sl) : (RS.nx ρ).sat N T = N ρ := by simp [RS.sat]
@[simp] theorem RS.sat_rt (o : Bool) (d : D) (ρ : List Sl) : (RS.rt o d ρ).sat N T = T o d ρ := by
  simp only [RS.sat, reduceCtorEq, false_and, exists_false, RS.rt.injEq, false_or]
  exact propext ⟨fun ⟨_, _, _, ⟨e1, e2, e3⟩, h⟩ => by subst e1 e2 e3; exact h, fun h => ⟨_, _, _, ⟨rfl, rfl, rfl⟩, h⟩⟩
@[simp] theorem RS.sat_bad : RS.bad.sat N T = False := by simp [RS.sat]
@[simp] theorem RS.sat_exc (c : Str) (d : D) : (RS.exc c d).sat N T = False := by simp [RS.sat]
@[simp] theorem RS.sat_bk (ρ : List Sl) : (RS.bk ρ).sat N T = False := by simp [RS.sat]
@[simp] theorem RS.sat_ct (ρ : List Sl) : (RS.ct ρ).sat N T = False := by simp [RS.sat]
@[simp] theorem RS.sat_bind (r : RS) (k : List Sl → RS) : (r.bind k).sat N T = r.sat (fun ρ => (k ρ).sat N T) T := by cases r <;> simp
@[simp] theorem R.st_sat (r : R α) (k : α → RS) : (r.st k).sat N T = r.sat fun a => (k a).sat N T := by cases r <;> simp
theorem RS.sat.mono {r : RS} (h : r.sat N T) (n : ∀ ρ, N ρ → N' ρ) (t : ∀ o d ρ, T o d ρ → T' o d ρ) : r.sat N' T' := by
  rcases h with ⟨ρ, e, h⟩ | ⟨o, d, ρ, e, h⟩
  · exact .inl ⟨ρ, e, n _ h⟩
  · exact .inr ⟨o, d, ρ, e, t _ _ _ h⟩
theorem RS.sat_lp {r : RS} {k : List Sl → RS} (h : r.sat (fun ρ => (k ρ).sat N T) T) : (r.lp k).sat N T := by
  cases r <;> simp at h <;> first | exact h | simpa [RS.lp] using h
def lenEq : List D → List Md → Bool
  | [], [] => true
  | _ :: l, _ :: m => lenEq l m
  | _, _ => false
theorem lenEq_of : ∀ {l : List D} {m : List Md}, lenEq l m = true → l.length = m.length
  | [], [], _ => rfl
  | _ :: _, _ :: _, h => congrArg Nat.succ (lenEq_of h)
  | [], _ :: _, h => nomatch h
  | _ :: _, [], h => nomatch h
/-- a def's meaning -/
theorem semOf_sat {n : Nat} {ms : List Md} {own : Bool} {g : List Sl → RS} {ds : List D} {Q : D × List D → Prop} (hl : lenEq ds ms = true)
    (h : (g (iniS ms ds n)).sat (fun ρ => own = false ∧ (ofO (outsR ms 0 ρ)).sat fun o => Q (.non, o)) (fun o z ρ => o = own ∧ (ofO (outsR ms 0 ρ)).sat fun l => Q (z, l))) : (semOf n ms own g ds).sat Q := by
  unfold semOf
  rw [if_pos (lenEq_of hl)]
  cases e : g (iniS ms ds n) with
  | nx ρ =>
    rw [e] at h
    rw [RS.sat_nx] at h
    obtain ⟨h1, h2⟩ := h
    subst h1
    rw [R.sat_iff] at h2
    obtain ⟨o, e2, q⟩ := h2
    show ((ofO (outsR ms 0 ρ)).bind fun o => R.ok (D.non, o)).sat Q
    rw [e2]; simpa using q
  | rt o z ρ =>
    rw [e] at h
    rw [RS.sat_rt] at h
    obtain ⟨h1, h2⟩ := h
    rw [R.sat_iff] at h2
    obtain ⟨l, e2, q⟩ := h2
    show (if o = own then (ofO (outsR ms 0 ρ)).bind fun l => R.ok (z, l) else R.bad).sat Q
    rw [if_pos h1, e2]; simpa using q
  | _ => rw [e] at h; simp at h
/-- a for loop over data that stands for l -/
theorem forL_sat {t : D → List Sl → Option (List Sl)} {g : List Sl → RS} (enc : α → D) (I : List α → List Sl → Prop) (l : List α)
    (step : ∀ pre x post, l = pre ++ x :: post → ∀ ρ, I pre ρ → ∃ ρ1, t (enc x) ρ = some ρ1 ∧ (g ρ1).sat (I (pre ++ [x])) T) (fin : ∀ ρ, I l ρ → N ρ) {ρ : List Sl} (h0 : I [] ρ) : (forL t g (l.map enc) ρ).sat N T := by
  have gen : ∀ (post pre : List α), l = pre ++ post → ∀ ρ, I pre ρ → (forL t g (post.map enc) ρ).sat N T := by
    intro post
    induction post with
    | nil => intro pre e ρ h; rw [List.append_nil] at e; subst e; show (RS.nx ρ).sat N T; rw [RS.sat_nx]; exact fin ρ h
    | cons x post ih =>
      intro pre e ρ h
      obtain ⟨ρ1, e1, s⟩ := step pre x post e ρ h
      show (ofT (t (enc x) ρ) fun ρ1 => (g ρ1).lp (forL t g (post.map enc))).sat N T
      rw [e1]
      refine RS.sat_lp (s.mono (fun ρ2 h2 => ih (pre ++ [x]) (by rw [e]; simp) ρ2 h2) fun _ _ _ z => z)
  exact gen l [] rfl ρ h0
/-- a while loop: m falls -/
theorem whF_sat {u : List Sl → R (Bool × List Sl)} {g : List Sl → RS} (I : Nat → List Sl → Prop)
    (step : ∀ m ρ, I m ρ → (u ρ).sat fun p => if p.1 then (g p.2).sat (fun ρ' => ∃ k, k < m ∧ I k ρ') T else N p.2) : ∀ (n m : Nat) (ρ : List Sl), m < n → I m ρ → (whF u g n ρ).sat N T := by
  intro n
  induction n with
  | zero => intro m ρ h; exact absurd h (Nat.not_lt_zero m)
  | succ n ih =>
    intro m ρ hm hI
    unfold whF
    rw [R.st_sat]
    refine (step m ρ hI).mono fun p hp => ?_
    obtain ⟨b, ρ2⟩ := p
    cases b with
    | true =>
      have hp : (g ρ2).sat (fun ρ' => ∃ k, k < m ∧ I k ρ') T := by simpa using hp
      exact RS.sat_lp (RS.sat.mono hp (fun ρ' ⟨k, hk, hI'⟩ => ih k ρ' (by omega) hI') fun _ _ _ z => z)
    | false => simpa using hp
end
section
variable {α : Type}
/-- a list comprehension over data that stands for l -/
theorem lcL_sat {vs : List Nat} {t : D → List Sl → Option (List Sl)} {u : List Sl → R (Bool × List Sl)} {f : List Sl → R (D × List Sl)} {Q : List D × List Sl → Prop} (enc : α → D) (I : List α → List D → List Sl → Prop) (l : List α)
    (step : ∀ pre x post, l = pre ++ x :: post → ∀ acc ρ, I pre acc ρ → ∃ ρ1, t (enc x) ρ = some ρ1 ∧ (u ρ1).sat fun p => if p.1 then (f p.2).sat fun q => acc.length < sizeLine ∧ I (pre ++ [x]) (acc ++ [q.1]) (wipeR q.2 vs) else I (pre ++ [x]) acc (wipeR p.2 vs))
    (fin : ∀ acc ρ, I l acc ρ → Q (acc, ρ)) {acc : List D} {ρ : List Sl} (h0 : I [] acc ρ) : (lcL vs t u f acc (l.map enc) ρ).sat Q := by
  have gen : ∀ (post pre : List α), l = pre ++ post → ∀ acc ρ, I pre acc ρ → (lcL vs t u f acc (post.map enc) ρ).sat Q := by
    intro post
    induction post with
    | nil => intro pre e acc ρ h; rw [List.append_nil] at e; subst e; show (R.ok (acc, ρ)).sat Q; rw [R.sat_ok]; exact fin acc ρ h
    | cons x post ih =>
      intro pre e acc ρ h
      obtain ⟨ρ1, e1, s⟩ := step pre x post e acc ρ h
      show ((ofO (t (enc x) ρ)).bind fun ρ1 => (u ρ1).nox.bind fun p => match p.1 with
        | true => (f p.2).nox.bind fun q => if decide (acc.length < sizeLine) = true then lcL vs t u f (acc ++ [q.1]) (post.map enc) (wipeR q.2 vs) else .bad
        | false => lcL vs t u f acc (post.map enc) (wipeR p.2 vs)).sat Q
      rw [e1, ofO_some]
      show ((u ρ1).nox.bind _).sat Q
      rw [R.sat_bind, R.sat_nox]
      refine s.mono fun p hp => ?_
      obtain ⟨b, ρ2⟩ := p
      cases b with
      | true =>
        have hp : (f ρ2).sat fun q => acc.length < sizeLine ∧ I (pre ++ [x]) (acc ++ [q.1]) (wipeR q.2 vs) := by simpa using hp
        show ((f ρ2).nox.bind _).sat Q
        rw [R.sat_bind, R.sat_nox]
        refine hp.mono fun q ⟨hl, hI⟩ => ?_
        show (if decide (acc.length < sizeLine) = true then _ else _ : R _).sat Q
        rw [if_pos (decide_eq_true hl)]
        exact ih (pre ++ [x]) (by rw [e]; simp) _ _ hI
      | false =>
        have hp : I (pre ++ [x]) acc (wipeR ρ2 vs) := by simpa using hp
        exact ih (pre ++ [x]) (by rw [e]; simp) _ _ hp
  exact gen l [] rfl acc ρ h0
/-- .. one that changes nothing -/
theorem lcL_pure {vs : List Nat} {t : D → List Sl → Option (List Sl)} {u : List Sl → R (Bool × List Sl)} {f : List Sl → R (D × List Sl)} {Q : List D × List Sl → Prop} (enc : α → D) (p : α → Bool) (h : α → D) (l : List α) {ρ : List Sl}
    (step : ∀ x ∈ l, ∃ ρ1, t (enc x) ρ = some ρ1 ∧ (u ρ1).sat fun q => q.1 = p x ∧ if p x then (f q.2).sat fun r => r.1 = h x ∧ wipeR r.2 vs = ρ else wipeR q.2 vs = ρ)
    (hl : l.length ≤ sizeLine) (fin : Q ((l.filter p).map h, ρ)) : (lcL vs t u f [] (l.map enc) ρ).sat Q := by
  refine lcL_sat enc (fun pre acc ρ' => ρ' = ρ ∧ acc = (pre.filter p).map h) l (fun pre x post e acc ρ' ⟨e1, e2⟩ => ?_) (fun acc ρ' ⟨e1, e2⟩ => by subst e1; subst e2; exact fin) ⟨rfl, rfl⟩
  subst e1
  obtain ⟨ρ1, e3, s⟩ := step x (by rw [e]; simp)
  refine ⟨ρ1, e3, s.mono fun q ⟨hq, hr⟩ => ?_⟩
  obtain ⟨b, ρ2⟩ := q
  dsimp only at hq hr ⊢
  subst hq
  cases hb : p x with
  | true =>
    rw [hb, if_pos rfl] at hr
    rw [if_pos rfl]
    refine hr.mono fun r ⟨h1, h2⟩ => ⟨?_, h2, ?_⟩
    · have : pre.length < l.length := by rw [e]; simp
      have h3 : ((pre.filter p).map h).length ≤ pre.length := by rw [List.length_map]; exact List.length_filter_le _ _
      rw [e2]; omega
    · rw [e2, h1]; simp [hb]
  | false =>
    rw [hb] at hr
    rw [if_neg (by simp)] at hr ⊢
    exact ⟨hr, by rw [e2]; simp [hb]⟩
/-- .. without a test -/
theorem lcL_map {vs : List Nat} {t : D → List Sl → Option (List Sl)} {f : List Sl → R (D × List Sl)} {Q : List D × List Sl → Prop} (enc : α → D) (h : α → D) (l : List α) {ρ : List Sl}
    (step : ∀ x ∈ l, ∃ ρ1, t (enc x) ρ = some ρ1 ∧ (f ρ1).sat fun r => r.1 = h x ∧ wipeR r.2 vs = ρ)
    (hl : l.length ≤ sizeLine) (fin : Q (l.map h, ρ)) : (lcL vs t evYes f [] (l.map enc) ρ).sat Q := by
  refine lcL_pure enc (fun _ => true) h l (fun x hx => ?_) hl (by rw [show l.filter (fun _ => true) = l from List.filter_eq_self.mpr fun _ _ => rfl]; exact fin)
  obtain ⟨ρ1, e, s⟩ := step x hx
  exact ⟨ρ1, e, (R.sat_ok _).mpr ⟨rfl, by simpa using s⟩⟩
end
end Dx

set_option Elab.async false
set_option linter.all false
set_option autoImplicit false
set_option maxRecDepth 100000
set_option maxHeartbeats 1000000
/-! DxMb: towns as typed data. -/
namespace Dx
open PySem PySem.Spec PyProof.Rows L2 TL

/-- the draws of a cell -/
structure Pot where
  a : Int
  b : Int
  c : Int
def Pot.d (p : Pot) : D := .lst [.int p.a, .int p.b, .int p.c]
/-- at most n numbers were mixed -/
def Pk (n : Nat) (p : Pot) : Prop := 0 ≤ p.b ∧ p.b < 2 ^ 62 ∧ 0 ≤ p.c ∧ p.c ≤ n
theorem Pk.mono {m n : Nat} {p : Pot} (h : Pk m p) (l : m ≤ n) : Pk n p := ⟨h.1, h.2.1, h.2.2.1, by have := h.2.2.2; omega⟩
/-- a street -/
structure Row where
  nm : Str
  kd : Str
  a : Str
  b : Str
def Row.dic (r : Row) : Str × D := (r.nm, .tup [.str r.kd, .str r.a, .str r.b])
def Row.tup (r : Row) : D := .tup [.str r.kd, .str r.nm, .str r.a, .str r.b]
def Row.words (r : Row) : List Str := [r.kd, r.nm, r.a, r.b]
structure Lore where
  pl : List Str
  rows : List Row
def Lore.d (l : Lore) : D := .tup [.lst (l.pl.map .str), .lst (l.rows.map Row.tup)]
def strT (l : List Str) : D := .tup (l.map .str)
def strL (l : List Str) : D := .lst (l.map .str)
def Lore.text (l : Lore) : Str := Txt.join "\n" (Txt.join " " ("places" :: l.pl) :: l.rows.map fun r => Txt.join " " r.words)
def townD (c : Str) (t : Str) (l : Lore) : D := .ins c [("own_text", .str t), ("own_places", strT l.pl), ("own_rows", .dic (l.rows.map Row.dic))]
/-- a name: one to eight letters a to z -/
def NameOk (x : Str) : Prop := 1 ≤ x.length ∧ x.length ≤ 8 ∧ ∀ c ∈ tl x, 97 ≤ c ∧ c ≤ 122
instance (x : Str) : Decidable (NameOk x) := by unfold NameOk; infer_instance
def kinds : List Str := ["unread", "known", "both"]
structure RowOk (pl : List Str) (r : Row) : Prop where
  nm : NameOk r.nm
  kd : r.kd ∈ kinds
  a : r.a ∈ pl
  b : r.b ∈ pl
  ne : r.a ≠ r.b
structure LoreOk (l : Lore) : Prop where
  nd : l.pl.Nodup
  lo : 2 ≤ l.pl.length
  hi : l.pl.length ≤ 9
  nm : ∀ p ∈ l.pl, NameOk p
  rnd : (l.rows.map Row.nm).Nodup
  few : l.rows.length ≤ 20
  ok : ∀ r ∈ l.rows, RowOk l.pl r

/-! sets: parts of the places -/
def IsSet (pl some : List Str) : Prop := some.Sublist pl ∧ 1 ≤ some.length ∧ some.length < pl.length
/-- all sets in the law's sequence -/
def subs : List Str → List (List Str)
  | [] => [[]]
  | _ => []
/-! the text, read back -/
theorem tl_blank : tl (" " : Str) = 32 :: [] := by decide +kernel
theorem tl_feed : tl ("\n" : Str) = 10 :: [] := by decide +kernel
theorem NameOk.blank {x : Str} (h : NameOk x) : 32 ∉ tl x := fun z => by have := h.2.2 _ z; omega
theorem NameOk.feed {x : Str} (h : NameOk x) : 10 ∉ tl x := fun z => by have := h.2.2 _ z; omega
end Dx

set_option Elab.async false
set_option linter.all false
set_option autoImplicit false
set_option maxRecDepth 100000
set_option maxHeartbeats 1000000
/-! DxMc: what each construct asks, as rewriting. -/
namespace Dx
open PySem PySem.Spec PyProof.Rows L2 TL
section
variable {α β : Type} {Q : D × List Sl → Prop} {QB : Bool × List Sl → Prop} {QL : List D × List Sl → Prop} {QA : List Ar × List Sl → Prop} {N : List Sl → Prop} {T : Bool → D → List Sl → Prop} {ρ : List Sl} {s0 : Sl} {i : Nat} {d : D}
  {f g h : List Sl → R (D × List Sl)} {u v : List Sl → R (Bool × List Sl)} {l : List Sl → R (List D × List Sl)} {a : List Sl → R (List Ar × List Sl)}
def toB (p : D × List Sl) : R (Bool × List Sl) := match p.1 with
  | .bl k => .ok (k, p.2)
  | _ => .bad
@[simp] theorem toB_b {k : Bool} : toB (.bl k, ρ) = .ok (k, ρ) := rfl
def toI (p : D × List Sl) : R (Int × List Sl) := match p.1 with
  | .int k => .ok (k, p.2)
  | _ => .bad
@[simp] theorem toI_i {k : Int} : toI (.int k, ρ) = .ok (k, ρ) := rfl
@[simp] theorem ite_sat {c : Prop} [Decidable c] {x y : R α} {Q : α → Prop} : (if c then x else y).sat Q = if c then x.sat Q else y.sat Q := by by_cases h : c <;> simp [h]
@[simp] theorem iteS_sat {c : Prop} [Decidable c] {x y : RS} : (if c then x else y).sat N T = if c then x.sat N T else y.sat N T := by by_cases h : c <;> simp [h]
@[simp ↓] theorem evLit_s : (evLit d (s0 :: ρ)).sat Q = Q (d, (s0 :: ρ)) := R.sat_ok _
@[simp] theorem evV_s : evV i (s0 :: ρ) = match (s0 :: ρ)[i]? with
  | some (.sh d) => .ok (d, (s0 :: ρ))
  | some (.ow d) => if frzD d then .ok (d, (s0 :: ρ).set i (.sh d)) else .bad
  | _ => .bad := rfl
@[simp ↓] theorem ev2_s {F : D → D → Option D} : (ev2 F f g (s0 :: ρ)).sat Q = (f (s0 :: ρ)).sat fun p => (g p.2).sat fun q => (ofO (F p.1 q.1)).sat fun z => Q (z, q.2) := by simp [ev2]
@[simp ↓] theorem evB_s : (evB f (s0 :: ρ)).sat QB = (f (s0 :: ρ)).sat fun p => (toB p).sat QB := by
  unfold evB
  rw [R.sat_bind]
  congr 1
@[simp ↓] theorem evT_s : (evT f (s0 :: ρ)).sat QB = (f (s0 :: ρ)).sat fun p => (ofO (truD p.1)).sat fun k => QB (k, p.2) := by simp [evT]
@[simp ↓] theorem evAnd_s : (evAnd u v (s0 :: ρ)).sat QB = (u (s0 :: ρ)).sat fun p => (if p.1 = true then v p.2 else .ok (false, p.2)).sat QB := by
  unfold evAnd
  rw [R.sat_bind]
  congr 1
  funext p
  obtain ⟨b, s⟩ := p
  cases b <;> simp
@[simp ↓] theorem evOr_s : (evOr u v (s0 :: ρ)).sat QB = (u (s0 :: ρ)).sat fun p => (if p.1 = true then .ok (true, p.2) else v p.2).sat QB := by
  unfold evOr
  rw [R.sat_bind]
  congr 1
  funext p
  obtain ⟨b, s⟩ := p
  cases b <;> simp
@[simp ↓] theorem evNot_s : (evNot u (s0 :: ρ)).sat QB = (u (s0 :: ρ)).sat fun p => QB (!p.1, p.2) := by simp [evNot]
@[simp ↓] theorem evYes_s : (evYes (s0 :: ρ)).sat QB = QB (true, (s0 :: ρ)) := R.sat_ok _
@[simp ↓] theorem evIf_s {f g : List Sl → R (α × List Sl)} {Q : α × List Sl → Prop} : (evIf u f g (s0 :: ρ)).sat Q = (u (s0 :: ρ)).sat fun p => (if p.1 = true then f p.2 else g p.2).sat Q := by
  unfold evIf
  rw [R.sat_bind]
  congr 1
  funext p
  obtain ⟨b, s⟩ := p
  cases b <;> simp
@[simp ↓] theorem evAndV_s : (evAndV f g (s0 :: ρ)).sat Q = (f (s0 :: ρ)).sat fun p => (toB p).sat fun k => (if k.1 = true then g k.2 else .ok (.bl false, k.2)).sat Q := by
  unfold evAndV
  rw [R.sat_bind]
  congr 1
  funext p
  obtain ⟨d, s⟩ := p
  cases d <;> first | (rename_i b; cases b <;> simp [toB, toI]; done) | simp [toB, toI]
@[simp ↓] theorem evOrV_s : (evOrV f g (s0 :: ρ)).sat Q = (f (s0 :: ρ)).sat fun p => (toB p).sat fun k => (if k.1 = true then .ok (.bl true, k.2) else g k.2).sat Q := by
  unfold evOrV
  rw [R.sat_bind]
  congr 1
  funext p
  obtain ⟨d, s⟩ := p
  cases d <;> first | (rename_i b; cases b <;> simp [toB, toI]; done) | simp [toB, toI]
@[simp ↓] theorem evNotV_s : (evNotV f (s0 :: ρ)).sat Q = (f (s0 :: ρ)).sat fun p => (toB p).sat fun k => Q (.bl (!k.1), k.2) := by
  unfold evNotV
  rw [R.sat_bind]
  congr 1
  funext p
  obtain ⟨d, s⟩ := p
  cases d <;> first | (rename_i b; cases b <;> simp [toB, toI]; done) | simp [toB, toI]
@[simp ↓] theorem evChn_s {F G : D → D → Option D} : (evChn F G f g h (s0 :: ρ)).sat Q = (f (s0 :: ρ)).sat fun p => (g p.2).sat fun q => (ofO (F p.1 q.1)).sat fun z => (toB (z, q.2)).sat fun k => (if k.1 = true then (h k.2).bind fun r => (ofO (G q.1 r.1)).bind fun z => .ok (z, r.2) else .ok (.bl false, k.2)).sat Q := by
  unfold evChn
  rw [R.sat_bind]
  congr 1
  funext p
  rw [R.sat_bind]
  congr 1
  funext q
  cases F p.1 q.1 with
  | none => simp
  | some z => cases z <;> first | (rename_i b; cases b <;> simp [toB]; done) | simp [toB]
@[simp ↓] theorem evNil_s : (evNil (s0 :: ρ)).sat QL = QL ([], (s0 :: ρ)) := R.sat_ok _
@[simp ↓] theorem evCons_s : (evCons f l (s0 :: ρ)).sat QL = (f (s0 :: ρ)).sat fun p => (l p.2).sat fun q => QL (p.1 :: q.1, q.2) := by simp [evCons]
theorem ifR_s {c : Prop} [Decidable c] {x : R α} {Q : α → Prop} : (if c then x else .bad).sat Q = (c ∧ x.sat Q) := by
  by_cases h : c <;> simp [h]
@[simp ↓] theorem evTup_s : (evTup l (s0 :: ρ)).sat Q = (l (s0 :: ρ)).sat fun p => okLen p.1.length = true ∧ Q (.tup p.1, p.2) := by simp [evTup, ifR_s]
@[simp ↓] theorem evLst_s : (evLst l (s0 :: ρ)).sat Q = (l (s0 :: ρ)).sat fun p => okLen p.1.length = true ∧ Q (.lst p.1, p.2) := by simp [evLst, ifR_s]
@[simp ↓] theorem evL_s {F : List D → Option D} : (evL F l (s0 :: ρ)).sat Q = (l (s0 :: ρ)).sat fun p => (ofO (F p.1)).sat fun z => Q (z, p.2) := by simp [evL]
@[simp ↓] theorem frzE_s : (frzE f (s0 :: ρ)).sat Q = (f (s0 :: ρ)).sat fun p => frzD p.1 = true ∧ Q p := by simp [frzE, ifR_s]
@[simp ↓] theorem evNeg_s : (evNeg f (s0 :: ρ)).sat Q = (f (s0 :: ρ)).sat fun p => (toI p).sat fun k => Q (.int (-k.1), k.2) := by
  unfold evNeg
  rw [R.sat_bind]
  congr 1
  funext p
  obtain ⟨d, s⟩ := p
  cases d <;> first | (rename_i b; cases b <;> simp [toB, toI]; done) | simp [toB, toI]
@[simp ↓] theorem evPart_none {Q : Option Int × List Sl → Prop} : (evPart none (s0 :: ρ)).sat Q = Q (none, (s0 :: ρ)) := R.sat_ok _
@[simp ↓] theorem evPart_some {Q : Option Int × List Sl → Prop} : (evPart (some f) (s0 :: ρ)).sat Q = (f (s0 :: ρ)).sat fun p => (toI p).sat fun k => Q (some k.1, k.2) := by
  unfold evPart
  rw [R.sat_bind]
  congr 1
  funext p
  obtain ⟨d, s⟩ := p
  cases d <;> first | (rename_i b; cases b <;> simp [toB, toI]; done) | simp [toB, toI]
@[simp ↓] theorem evSl3_s {p q : Option (List Sl → R (D × List Sl))} : (evSl3 f p q (s0 :: ρ)).sat Q = (f (s0 :: ρ)).sat fun x => (evPart p x.2).sat fun y => (evPart q y.2).sat fun z => (ofO (slA y.1 z.1 x.1)).sat fun w => Q (w, z.2) := by simp [evSl3, evSl]
@[simp ↓] theorem evMt_s {F : D → List D → Option (D × D)} : (evMt F i l (s0 :: ρ)).sat Q = ((∃ d, ownD (s0 :: ρ) i = some d ∧ isLst d = true) ∧ (l (s0 :: ρ)).sat fun p => (ofO (ownD p.2 i)).sat fun d => (ofO (F d p.1)).sat fun z => Q (z.1, putO p.2 i z.2)) := by
  unfold evMt
  cases ownD (s0 :: ρ) i with
  | none => simp
  | some d => simp [ifR_s]
@[simp ↓] theorem evIxV_s : (evIxV i g (s0 :: ρ)).sat Q = ((∃ d, viewD (s0 :: ρ) i = some d) ∧ (g (s0 :: ρ)).sat fun p => (ofO (viewD p.2 i)).sat fun d => (ofO (ixO d p.1)).sat fun z => Q (z, p.2)) := by
  unfold evIxV
  cases viewD (s0 :: ρ) i with
  | none => simp
  | some d => simp
@[simp ↓] theorem evInV_s {F : D → D → Option D} : (evInV F i f (s0 :: ρ)).sat Q = (f (s0 :: ρ)).sat fun p => (ofO (viewD p.2 i)).sat fun d => (ofO (F p.1 d)).sat fun z => Q (z, p.2) := by simp [evInV]
@[simp ↓] theorem evLenV_s : (evLenV i (s0 :: ρ)).sat Q = (ofO (viewD (s0 :: ρ) i)).sat fun d => (ofO (lenO [d])).sat fun z => Q (z, (s0 :: ρ)) := by simp [evLenV]
@[simp ↓] theorem evListV_s : (evListV i (s0 :: ρ)).sat Q = (ofO (viewD (s0 :: ρ) i)).sat fun d => (ofO (listO [d])).sat fun z => Q (z, (s0 :: ρ)) := by simp [evListV]
@[simp ↓] theorem evDic0_s : (evDic0 (s0 :: ρ)).sat Q = Q (.dic [], (s0 :: ρ)) := R.sat_ok _
@[simp ↓] theorem evIsi_s {t : IsiT} : (evIsi t f (s0 :: ρ)).sat Q = (f (s0 :: ρ)).sat fun p => (ofO (isiF t p.1)).sat fun z => Q (z, p.2) := by simp [evIsi]
@[simp ↓] theorem evRg_s : (evRg f (s0 :: ρ)).sat Q = (f (s0 :: ρ)).sat fun p => (ofO (rgO p.1)).sat fun z => Q (z, p.2) := by simp [evRg]
@[simp ↓] theorem evLenSet_s : (evLenSet f (s0 :: ρ)).sat Q = (f (s0 :: ρ)).sat fun p => (ofO (lenSetO p.1)).sat fun z => Q (z, p.2) := by simp [evLenSet]
@[simp ↓] theorem evSplit_s : (evSplit f g (s0 :: ρ)).sat Q = (f (s0 :: ρ)).sat fun p => isStr p.1 = true ∧ (g p.2).sat fun q => (ofO (splitO p.1 q.1)).sat fun z => Q (z, q.2) := by simp [evSplit, evS1, ifR_s]
@[simp ↓] theorem evJoin_s : (evJoin f g (s0 :: ρ)).sat Q = (f (s0 :: ρ)).sat fun p => isStr p.1 = true ∧ (g p.2).sat fun q => (ofO (joinO p.1 q.1)).sat fun z => Q (z, q.2) := by simp [evJoin, evS1, ifR_s]
@[simp ↓] theorem srcD_s : (srcD f (s0 :: ρ)).sat QL = (f (s0 :: ρ)).sat fun p => (ofO (itD p.1)).sat fun l => QL (l, p.2) := by simp [srcD]
@[simp ↓] theorem srcL_s {F : List D → Option (List D)} : (srcL F l (s0 :: ρ)).sat QL = (l (s0 :: ρ)).sat fun p => (ofO (F p.1)).sat fun l => QL (l, p.2) := by simp [srcL]
@[simp ↓] theorem srcI_s {F : D → Option (List D)} : (srcI F f (s0 :: ρ)).sat QL = (f (s0 :: ρ)).sat fun p => (ofO (F p.1)).sat fun l => QL (l, p.2) := by simp [srcI]
@[simp ↓] theorem evLc_s {vs : List Nat} {s : List Sl → R (List D × List Sl)} {t : D → List Sl → Option (List Sl)} : (evLc vs s t u f (s0 :: ρ)).sat Q = (s (s0 :: ρ)).sat fun p => (lcL vs t u f [] p.1 (wipeR p.2 vs)).sat fun q => Q (.lst q.1, q.2) := by simp [evLc]
@[simp ↓] theorem asNil_s : (asNil (s0 :: ρ)).sat QA = QA ([], (s0 :: ρ)) := R.sat_ok _
@[simp ↓] theorem asD_s : (asD f a (s0 :: ρ)).sat QA = (f (s0 :: ρ)).sat fun p => (a p.2).sat fun q => QA (.d p.1 :: q.1, q.2) := by simp [asD]
@[simp ↓] theorem asS_s : (asS i a (s0 :: ρ)).sat QA = (heldB (s0 :: ρ) i = true ∧ (a (s0 :: ρ)).sat fun q => QA (.s i :: q.1, q.2)) := by simp [asS, ifR_s]
@[simp ↓] theorem evCall_s {F : Fd} : (evCall F a (s0 :: ρ)).sat Q = (a (s0 :: ρ)).sat fun p => (arIx p.1).Nodup ∧ (ofO (mkArgs F.md p.1 p.2)).sat fun ds => (F.sem ds).sat fun q => Q (q.1, putOuts F.md p.1 q.2 p.2) := by simp [evCall, ifR_s]
@[simp ↓] theorem evFld_s {cs : List Str} {x : Str} : (evFld cs x f (s0 :: ρ)).sat Q = (f (s0 :: ρ)).sat fun p => (ofO (fldF cs x p.1)).sat fun z => Q (z, p.2) := by simp [evFld]
@[simp ↓] theorem evFldV_s {cs : List Str} {x : Str} : (evFldV cs x i (s0 :: ρ)).sat Q = (ofO (ownD (s0 :: ρ) i)).sat fun d => (ofO (fldF cs x d)).sat fun z => Q (z, (s0 :: ρ)) := by simp [evFldV]
@[simp ↓] theorem evProp_s {tab : List (Str × Fd)} : (evProp tab f (s0 :: ρ)).sat Q = (f (s0 :: ρ)).sat fun p => (ofO ((insC p.1).bind fun c => tab.lookup c)).sat fun F => (F.md = [.sh] ∧ F.own = false) ∧ (F.sem [p.1]).sat fun q => Q (q.1, p.2) := by
  simp [evProp, ifR_s]
@[simp ↓] theorem evMeth_s {tab : List (Str × Fd)} {m : Str} {own : Bool} : (evMeth tab m own f a (s0 :: ρ)).sat Q = (f (s0 :: ρ)).sat fun p => (ofO (methF tab m own p.1)).sat fun F => (a p.2).sat fun q => (arIx (.d p.1 :: q.1)).Nodup ∧ (ofO (mkArgs F.md (.d p.1 :: q.1) q.2)).sat fun ds => (F.sem ds).sat fun r => Q (r.1, putOuts F.md (.d p.1 :: q.1) r.2 q.2) := by
  simp [evMeth, ifR_s]
@[simp ↓] theorem evMake_s {c : Str} {F : Fd} : (evMake c F a (s0 :: ρ)).sat Q = (a (s0 :: ρ)).sat fun p => arIx p.1 = [] ∧ (ofO (mkTail F p.1 p.2)).sat fun ds => (F.sem (.ins c [] :: ds)).sat fun q => (ofO (newF c q)).sat fun z => Q (z, p.2) := by
  simp [evMake, ifR_s]
/-! statements -/
@[simp ↓] theorem stRet_s : (stRet f (s0 :: ρ)).sat N T = (f (s0 :: ρ)).sat fun p => T false p.1 p.2 := by simp [stRet]
@[simp ↓] theorem stRetO_s : (stRetO f (s0 :: ρ)).sat N T = (f (s0 :: ρ)).sat fun p => T true p.1 p.2 := by simp [stRetO]
@[simp ↓] theorem stRetN_s : (stRetN (s0 :: ρ)).sat N T = T false .non (s0 :: ρ) := RS.sat_rt _ _ _
@[simp] theorem stRetV_s : stRetV i (s0 :: ρ) = match (s0 :: ρ)[i]? with
  | some (.ow d) => .rt true d (s0 :: ρ)
  | _ => .bad := rfl
@[simp ↓] theorem stExp_s : (stExp f (s0 :: ρ)).sat N T = (f (s0 :: ρ)).sat fun p => N p.2 := by simp [stExp]
@[simp ↓] theorem stIf_s {p q : List Sl → RS} : (stIf u p q (s0 :: ρ)).sat N T = (u (s0 :: ρ)).sat fun x => (if x.1 = true then p x.2 else q x.2).sat N T := by
  unfold stIf
  rw [R.st_sat]
  congr 1
  funext p
  obtain ⟨b, s⟩ := p
  cases b <;> simp
@[simp] theorem ofT_s {o : Option α} {k : α → RS} : (ofT o k).sat N T = (ofO o).sat fun z => (k z).sat N T := by cases o <;> simp [ofT]
@[simp ↓] theorem stAsg_s {t : D → List Sl → Option (List Sl)} : (stAsg t f (s0 :: ρ)).sat N T = (f (s0 :: ρ)).sat fun p => (ofO (t p.1 p.2)).sat N := by simp [stAsg]
@[simp ↓] theorem stOwn_s : (stOwn i f (s0 :: ρ)).sat N T = (f (s0 :: ρ)).sat fun p => (ofO (putSl p.2 i (.ow p.1))).sat N := by simp [stOwn]
@[simp ↓] theorem stSet_s : (stSet i f (s0 :: ρ)).sat N T = (f (s0 :: ρ)).sat fun p => (ofO (putSl p.2 i (.sh p.1))).sat N := by simp [stSet]
@[simp ↓] theorem stPut_s : (stPut i f g (s0 :: ρ)).sat N T = (f (s0 :: ρ)).sat fun p => (∃ d, ownD p.2 i = some d) ∧ (g p.2).sat fun q => (ofO (ownD q.2 i)).sat fun d => (ofO (setF d q.1 p.1)).sat fun d' => N (putO q.2 i d') := by
  simp only [stPut, R.st_sat, ofT_s, RS.sat_nx]
  congr 1
  funext p
  cases ownD p.2 i <;> simp
@[simp ↓] theorem stFld_s {cs : List Str} {x : Str} : (stFld cs x i f (s0 :: ρ)).sat N T = (f (s0 :: ρ)).sat fun p => (ofO (ownD p.2 i)).sat fun d => (ofO (setFld cs x d p.1)).sat fun d' => N (putO p.2 i d') := by simp [stFld]
@[simp ↓] theorem stFor_s {s : List Sl → R (List D × List Sl)} {t : D → List Sl → Option (List Sl)} {k : List Sl → RS} : (stFor s t k (s0 :: ρ)).sat N T = (s (s0 :: ρ)).sat fun p => (forL t k p.1 p.2).sat N T := by simp [stFor]
@[simp ↓] theorem mxNil_s {Q : List (Bool × D) × List Sl → Prop} : (mxNil (s0 :: ρ)).sat Q = Q ([], (s0 :: ρ)) := R.sat_ok _
@[simp ↓] theorem mxC_s {b : Bool} {m : List Sl → R (List (Bool × D) × List Sl)} {Q : List (Bool × D) × List Sl → Prop} : (mxC b f m (s0 :: ρ)).sat Q = (f (s0 :: ρ)).sat fun p => (m p.2).sat fun q => Q ((b, p.1) :: q.1, q.2) := by simp [mxC]
@[simp ↓] theorem stPar_s {is : List Nat} {m : List Sl → R (List (Bool × D) × List Sl)} : (stPar is m (s0 :: ρ)).sat N T = (m (s0 :: ρ)).sat fun p => (ofO (putMx is p.1 p.2)).sat N := by simp [stPar]
end
/-! slots -/
@[simp] theorem putSl_s {s0 : Sl} {ρ : List Sl} {i : Nat} {s : Sl} : putSl (s0 :: ρ) i s = match (s0 :: ρ)[i]? with
  | some t => if t.free then some ((s0 :: ρ).set i s) else none
  | none => none := rfl
@[simp] theorem tgN_s {ρ : List Sl} {i : Nat} {d : D} : tgN i d ρ = putSl ρ i (.sh d) := rfl
@[simp] theorem tgNil_s {ρ : List Sl} : tgNil [] ρ = some ρ := rfl
@[simp] theorem tgCons_s {t : D → List Sl → Option (List Sl)} {u : List D → List Sl → Option (List Sl)} {d : D} {r : List D} {ρ : List Sl} : tgCons t u (d :: r) ρ = (t d ρ).bind (u r) := rfl
@[simp] theorem tgT_tup {n : Nat} {u : List D → List Sl → Option (List Sl)} {l : List D} {ρ : List Sl} : tgT n u (.tup l) ρ = if l.length = n then u l ρ else none := rfl
@[simp] theorem tgT_lst {n : Nat} {u : List D → List Sl → Option (List Sl)} {l : List D} {ρ : List Sl} : tgT n u (.lst l) ρ = if l.length = n then u l ρ else none := rfl
@[simp] theorem free_un : Sl.un.free = true := rfl
@[simp] theorem free_sh {d : D} : (Sl.sh d).free = true := rfl
@[simp] theorem free_ow {d : D} : (Sl.ow d).free = true := rfl
@[simp] theorem held_ow {d : D} : (Sl.ow d).held = true := rfl
@[simp] theorem held_mt {d : D} : (Sl.mt d).held = true := rfl
@[simp] theorem held_br {d : D} : (Sl.br d).held = true := rfl
@[simp] theorem ownD_s {s0 : Sl} {ρ : List Sl} {i : Nat} : ownD (s0 :: ρ) i = match (s0 :: ρ)[i]? with
  | some (.ow d) => some d
  | some (.mt d) => some d
  | _ => none := rfl
@[simp] theorem viewD_s {s0 : Sl} {ρ : List Sl} {i : Nat} : viewD (s0 :: ρ) i = match (s0 :: ρ)[i]? with
  | some (.sh d) => some d
  | some (.ow d) => if frzD d then some d else none
  | some (.mt d) => if frzD d then some d else none
  | some (.br d) => some d
  | _ => none := rfl
@[simp] theorem putO_s {s0 : Sl} {ρ : List Sl} {i : Nat} {d : D} : putO (s0 :: ρ) i d = match (s0 :: ρ)[i]? with
  | some (.ow _) => (s0 :: ρ).set i (.ow d)
  | some (.mt _) => (s0 :: ρ).set i (.mt d)
  | _ => (s0 :: ρ) := rfl
@[simp] theorem heldB_s {s0 : Sl} {ρ : List Sl} {i : Nat} : heldB (s0 :: ρ) i = match (s0 :: ρ)[i]? with
  | some s => s.held
  | none => false := rfl
@[simp] theorem brD_s {s0 : Sl} {ρ : List Sl} {i : Nat} : brD (s0 :: ρ) i = match (s0 :: ρ)[i]? with
  | some (.br d) => some d
  | _ => (ownD (s0 :: ρ) i).bind fun d => if frzD d then some d else none := rfl
@[simp] theorem arIx_nil : arIx [] = [] := rfl
@[simp] theorem arIx_s {i : Nat} {as : List Ar} : arIx (.s i :: as) = i :: arIx as := rfl
@[simp] theorem arIx_d {d : D} {as : List Ar} : arIx (.d d :: as) = arIx as := rfl
@[simp] theorem mkArgs_nil {ρ : List Sl} : mkArgs [] [] ρ = some [] := rfl
@[simp] theorem mkArgs_cons {m : Md} {ms : List Md} {a : Ar} {as : List Ar} {ρ : List Sl} : mkArgs (m :: ms) (a :: as) ρ = (mkArg m a ρ).bind fun d => (mkArgs ms as ρ).map fun l => d :: l := rfl
@[simp] theorem mkArg_sh {d : D} {ρ : List Sl} : mkArg .sh (.d d) ρ = some d := rfl
@[simp] theorem mkArg_br {d : D} {ρ : List Sl} : mkArg .br (.d d) ρ = if frzD d then some d else none := rfl
@[simp] theorem mkArg_brs {i : Nat} {ρ : List Sl} : mkArg .br (.s i) ρ = brD ρ i := rfl
@[simp] theorem mkArg_mt {i : Nat} {ρ : List Sl} : mkArg .mt (.s i) ρ = ownD ρ i := rfl
@[simp] theorem putOuts_nil {ds : List D} {ρ : List Sl} : putOuts [] [] ds ρ = ρ := by cases ds <;> rfl
@[simp] theorem putOuts_mt {i : Nat} {ms : List Md} {as : List Ar} {d : D} {ds : List D} {ρ : List Sl} : putOuts (.mt :: ms) (.s i :: as) (d :: ds) ρ = putOuts ms as ds (putO ρ i d) := rfl
@[simp] theorem putOuts_sh {a : Ar} {ms : List Md} {as : List Ar} {ds : List D} {ρ : List Sl} : putOuts (.sh :: ms) (a :: as) ds ρ = putOuts ms as ds ρ := by cases ds <;> rfl
@[simp] theorem putOuts_br {a : Ar} {ms : List Md} {as : List Ar} {ds : List D} {ρ : List Sl} : putOuts (.br :: ms) (a :: as) ds ρ = putOuts ms as ds ρ := by cases ds <;> rfl
@[simp] theorem outsR_nil {i : Nat} {ρ : List Sl} : outsR [] i ρ = some [] := rfl
@[simp] theorem outsR_mt {ms : List Md} {i : Nat} {s0 : Sl} {ρ : List Sl} : outsR (.mt :: ms) i (s0 :: ρ) = match (s0 :: ρ)[i]? with
  | some (.mt d) => (outsR ms (i + 1) (s0 :: ρ)).map fun l => d :: l
  | _ => none := rfl
@[simp] theorem outsR_sh {ms : List Md} {i : Nat} {ρ : List Sl} : outsR (.sh :: ms) i ρ = outsR ms (i + 1) ρ := rfl
@[simp] theorem outsR_br {ms : List Md} {i : Nat} {ρ : List Sl} : outsR (.br :: ms) i ρ = outsR ms (i + 1) ρ := rfl
@[simp] theorem wipeR_nil {ρ : List Sl} : wipeR ρ [] = ρ := rfl
@[simp] theorem wipeR_cons {ρ : List Sl} {v : Nat} {vs : List Nat} : wipeR ρ (v :: vs) = (wipeR ρ vs).set v .un := rfl
@[simp] theorem putMx_nil {ρ : List Sl} : putMx [] [] ρ = some ρ := rfl
@[simp] theorem putMx_cons {i : Nat} {is : List Nat} {p : Bool × D} {ps : List (Bool × D)} {ρ : List Sl} : putMx (i :: is) (p :: ps) ρ = (putSl ρ i (slOf p)).bind (putMx is ps) := rfl
@[simp] theorem slOf_t {d : D} : slOf (true, d) = .ow d := rfl
@[simp] theorem slOf_f {d : D} : slOf (false, d) = .sh d := rfl
@[simp] theorem iniS_nil {n : Nat} : iniS [] [] n = List.replicate n .un := rfl
@[simp] theorem iniS_cons {m : Md} {ms : List Md} {d : D} {ds : List D} {n : Nat} : iniS (m :: ms) (d :: ds) (n + 1) = mdS m d :: iniS ms ds n := by simp [iniS]
@[simp] theorem mdS_sh {d : D} : mdS .sh d = .sh d := rfl
@[simp] theorem mdS_br {d : D} : mdS .br d = .br d := rfl
@[simp] theorem mdS_mt {d : D} : mdS .mt d = .mt d := rfl
@[simp] theorem frz_lst {l : List D} : frzD (.lst l) = true := rfl
@[simp] theorem frz_dic {l : List (Str × D)} : frzD (.dic l) = true := rfl
@[simp] theorem isLst_lst {l : List D} : isLst (.lst l) = true := rfl
@[simp] theorem isStr_str {x : Str} : isStr (.str x) = true := rfl
/-! operators -/
section
variable {i j : Int} {x y : Str} {l m : List D} {b c : Bool} {Q : D → Prop}
@[simp] theorem lt_i : ltO (.int i) (.int j) = some (.bl (decide (i < j))) := rfl
@[simp] theorem le_i : leO (.int i) (.int j) = some (.bl (decide (i ≤ j))) := rfl
@[simp] theorem gt_i : gtO (.int i) (.int j) = some (.bl (decide (j < i))) := rfl
@[simp] theorem ge_i : geO (.int i) (.int j) = some (.bl (decide (j ≤ i))) := rfl
@[simp] theorem sub_i : subO (.int i) (.int j) = some (.int (i - j)) := rfl
@[simp] theorem add_i : add2O (.int i) (.int j) = some (.int (i + j)) := rfl
@[simp] theorem div_i : (ofO (divO (.int i) (.int j))).sat Q = ((0 < j ∧ bitsOf j < 9000) ∧ Q (.int (i / j))) := by
  unfold divO intO
  by_cases h : 0 < j ∧ bitsOf j < 9000 <;> simp [h]
@[simp] theorem mod_i : (ofO (modO (.int i) (.int j))).sat Q = (0 < j ∧ Q (.int (i % j))) := by
  unfold modO intO
  by_cases h : 0 < j <;> simp [h]
@[simp] theorem mul_i : (ofO (mulO (.int i) (.int j))).sat Q = (bitsOf i + bitsOf j < 1000000 ∧ Q (.int (i * j))) := by
  unfold mulO intO
  by_cases h : bitsOf i + bitsOf j < 1000000 <;> simp [h]
@[simp] theorem pow_i : (ofO (powO (.int i) (.int j))).sat Q = (CPowX i j ∧ Q (.int (i ^ j.toNat))) := by
  unfold powO intO
  by_cases h : CPowX i j <;> simp [h]
theorem add_sl : add2O (.lst l) (.lst m) = if okLen (l.length + m.length) then some (.lst (l ++ m)) else none := by
  unfold add2O catO
  by_cases h : okLen (l.length + m.length) = true <;> simp [h, addO]
@[simp] theorem add_l : (ofO (add2O (.lst l) (.lst m))).sat Q = (okLen (l.length + m.length) = true ∧ Q (.lst (l ++ m))) := by
  rw [add_sl]
  by_cases h : okLen (l.length + m.length) = true <;> simp [h]
@[simp] theorem add_t : (ofO (add2O (.tup l) (.tup m))).sat Q = (okLen (l.length + m.length) = true ∧ Q (.tup (l ++ m))) := by
  unfold add2O catO addO
  by_cases h : okLen (l.length + m.length) = true <;> simp [h]
@[simp] theorem add_s : (ofO (add2O (.str x) (.str y))).sat Q = (okLen (x.length + y.length) = true ∧ Q (.str (x ++ y))) := by
  unfold add2O catO addO
  by_cases h : okLen (x.length + y.length) = true <;> simp [h]
@[simp] theorem len_l : lenO [.lst l] = some (.int l.length) := rfl
@[simp] theorem len_t : lenO [.tup l] = some (.int l.length) := rfl
@[simp] theorem len_d {l : List (Str × D)} : lenO [.dic l] = some (.int l.length) := rfl
@[simp] theorem len_s : (ofO (lenO [.str x])).sat Q = (okLen x.length = true ∧ Q (.int x.length)) := by
  unfold lenO
  by_cases h : okLen x.length = true <;> simp [h]
@[simp] theorem abs_i : absO [.int i] = some (.int (if i < 0 then -i else i)) := rfl
@[simp] theorem max_i : maxO [.int i, .int j] = some (.int (if j > i then j else i)) := rfl
@[simp] theorem min_i : minO [.int i, .int j] = some (.int (if j < i then j else i)) := rfl
@[simp] theorem int_i : intF [.int i] = some (.int i) := rfl
@[simp] theorem int_b : intF [.bl b] = some (.int (if b then 1 else 0)) := rfl
@[simp] theorem list_l : listO [.lst l] = some (.lst l) := rfl
@[simp] theorem list_t : listO [.tup l] = some (.lst l) := rfl
@[simp] theorem tup_l : tupO [.lst l] = some (.tup l) := rfl
@[simp] theorem tup_t : tupO [.tup l] = some (.tup l) := rfl
@[simp] theorem tru_b : truD (.bl b) = some b := rfl
@[simp] theorem tru_l : truD (.lst l) = some (!l.isEmpty) := rfl
@[simp] theorem tru_t : truD (.tup l) = some (!l.isEmpty) := rfl
@[simp] theorem it_l : itD (.lst l) = some l := rfl
@[simp] theorem it_t : itD (.tup l) = some l := rfl
@[simp] theorem it_s : itD (.str x) = some (chrD x) := rfl
@[simp] theorem it_d {l : List (Str × D)} : itD (.dic l) = some (l.map fun p => .str p.1) := rfl
@[simp] theorem itm_d {l : List (Str × D)} : itmO (.dic l) = some (itemD l) := rfl
@[simp] theorem val_d {l : List (Str × D)} : valO (.dic l) = some (l.map (·.2)) := rfl
@[simp] theorem zip_l : zipO [.lst l, .lst m] = some (zipD l m) := rfl
@[simp] theorem zip_t : zipO [.tup l, .tup m] = some (zipD l m) := rfl
@[simp] theorem isn {d : D} : isNO d .non = some (.bl (isNon d)) := rfl
@[simp] theorem notn {d : D} : notNO d .non = some (.bl (!isNon d)) := rfl
@[simp] theorem isNon_n : isNon .non = true := rfl
@[simp] theorem isNon_t : isNon (.tup l) = false := rfl
@[simp] theorem isNon_l : isNon (.lst l) = false := rfl
@[simp] theorem isNon_s : isNon (.str x) = false := rfl
@[simp] theorem isNon_i : isNon (.int i) = false := rfl
@[simp] theorem isNon_o {c : Str} {fs : List (Str × D)} : isNon (.ins c fs) = false := rfl
@[simp] theorem insC_o {c : Str} {fs : List (Str × D)} : insC (.ins c fs) = some c := rfl
@[simp] theorem app_s {d : D} {Q : D × D → Prop} : (ofO (appF (.lst l) [d])).sat Q = (l.length < sizeLine ∧ Q (.non, .lst (l ++ [d]))) := by
  unfold appF
  by_cases h : l.length < sizeLine <;> simp [h]
@[simp] theorem ext_s {Q : D × D → Prop} : (ofO (extF (.lst l) [.lst m])).sat Q = (l.length + m.length ≤ sizeLine ∧ Q (.non, .lst (l ++ m))) := by
  unfold extF
  by_cases h : l.length + m.length ≤ sizeLine <;> simp [h]
@[simp] theorem rng1_s {Q : List D → Prop} : (ofO (rng1O [.int j])).sat Q = (smI j = true ∧ Q (rngD 0 j.toNat)) := by
  unfold rng1O
  by_cases h : smI j = true <;> simp [h]
@[simp] theorem rng2_s {Q : List D → Prop} : (ofO (rng2O [.int i, .int j])).sat Q = ((smI i = true ∧ smI j = true) ∧ Q (rngD i (j - i).toNat)) := by
  unfold rng2O
  by_cases h : smI i = true <;> by_cases h2 : smI j = true <;> simp [h, h2]
@[simp] theorem ix_l : ixO (.lst l) (.int i) = atI l i := rfl
@[simp] theorem ix_t : ixO (.tup l) (.int i) = atI l i := rfl
@[simp] theorem ix_d {l : List (Str × D)} : ixO (.dic l) (.str x) = l.lookup x := rfl
@[simp] theorem sl_l {lo hi : Option Int} : slA lo hi (.lst l) = some (.lst (cutL l lo hi)) := rfl
@[simp] theorem sl_t {lo hi : Option Int} : slA lo hi (.tup l) = some (.tup (cutL l lo hi)) := rfl
@[simp] theorem eq_i : eqO (.int i) (.int j) = some (.bl (decide (i = j))) := rfl
@[simp] theorem ne_i : neO (.int i) (.int j) = some (.bl (!decide (i = j))) := rfl
@[simp] theorem eq_s : eqO (.str x) (.str y) = some (.bl (decide (x = y))) := rfl
@[simp] theorem ne_s : neO (.str x) (.str y) = some (.bl (!decide (x = y))) := rfl
@[simp] theorem eq_b : eqO (.bl b) (.bl c) = some (.bl (b == c)) := rfl
@[simp] theorem ne_b : neO (.bl b) (.bl c) = some (.bl (!(b == c))) := rfl
end
/-! places -/
section
variable {α β : Type} {x y z w v : α} {l : List α}
theorem atI_nat {l : List α} {i : Int} {n : Nat} (e : i = n) (h : n < l.length) : atI l i = l[n]? := by
  subst e
  unfold atI ixN
  rw [if_pos (by omega), if_pos (by omega)]
  rfl
@[simp] theorem atI_0 : atI (x :: l) 0 = some x := by rw [atI_nat (i := 0) (n := 0) rfl (by simp)]; rfl
@[simp] theorem atI_1 : atI (x :: y :: l) 1 = some y := by rw [atI_nat (i := 1) (n := 1) rfl (by simp)]; rfl
@[simp] theorem atI_2 : atI (x :: y :: z :: l) 2 = some z := by rw [atI_nat (i := 2) (n := 2) rfl (by simp)]; rfl
@[simp] theorem atI_3 : atI (x :: y :: z :: w :: l) 3 = some w := by rw [atI_nat (i := 3) (n := 3) rfl (by simp)]; rfl
@[simp] theorem atI_4 : atI (x :: y :: z :: w :: v :: l) 4 = some v := by rw [atI_nat (i := 4) (n := 4) rfl (by simp)]; rfl
@[simp] theorem atI_map {f : α → β} {l : List α} {i : Int} : atI (l.map f) i = (atI l i).map f := by
  unfold atI
  rw [List.length_map]
  cases ixN l.length i with
  | none => rfl
  | some n => simp
theorem atI_mem {l : List α} {i : Int} (h0 : 0 ≤ i) (h : i < l.length) : ∃ x, atI l i = some x ∧ l[i.toNat]? = some x := by
  rw [atI_nat (n := i.toNat) (by omega) (by omega)]
  exact ⟨_, List.getElem?_eq_getElem (by omega), List.getElem?_eq_getElem (by omega)⟩
@[simp] theorem ixN_0 {n : Nat} : ixN (n + 1) 0 = some 0 := by unfold ixN; simp
@[simp] theorem ixN_1 {n : Nat} : ixN (n + 2) 1 = some 1 := by unfold ixN; rw [if_pos (by omega), if_pos (by omega)]; rfl
@[simp] theorem ixN_2 {n : Nat} : ixN (n + 3) 2 = some 2 := by unfold ixN; rw [if_pos (by omega), if_pos (by omega)]; rfl
@[simp] theorem set_l {l : List D} {j : Int} {v : D} : setF (.lst l) (.int j) v = (ixN l.length j).map fun n => .lst (l.set n v) := rfl
@[simp] theorem set_d {l : List (Str × D)} {k : Str} {v : D} {Q : D → Prop} : (ofO (setF (.dic l) (.str k) v)).sat Q = (l.length < sizeLine ∧ Q (.dic (putD l k v))) := by
  unfold setF
  by_cases h : l.length < sizeLine <;> simp [h]
theorem bitsOf_lt {i : Int} {k : Nat} (h : i.natAbs < 2 ^ k) (hk : 0 < k) : bitsOf i < k := by
  unfold bitsOf
  by_cases h0 : i.natAbs = 0
  · rw [h0]; simpa using hk
  · exact (Nat.log2_lt h0).mpr h
end
/-! sizes of ints -/
def Bd (k : Nat) (i : Int) : Prop := i.natAbs < 2 ^ k
instance (k : Nat) (i : Int) : Decidable (Bd k i) := by unfold Bd; infer_instance
theorem Bd.mono {j k : Nat} {i : Int} (h : Bd j i) (l : j ≤ k) : Bd k i := Nat.lt_of_lt_of_le h (Nat.pow_le_pow_right (by decide) l)
theorem Bd.mul {j k : Nat} {x y : Int} (a : Bd j x) (b : Bd k y) : Bd (j + k) (x * y) := by
  unfold Bd at *
  rw [Int.natAbs_mul, Nat.pow_add]
  exact Nat.mul_lt_mul_of_lt_of_lt a b
theorem Bd.add {j k : Nat} {x y : Int} (a : Bd j x) (b : Bd k y) : Bd (max j k + 1) (x + y) := by
  unfold Bd at *
  have h1 : 2 ^ j ≤ 2 ^ max j k := Nat.pow_le_pow_right (by decide) (Nat.le_max_left ..)
  have h2 : 2 ^ k ≤ 2 ^ max j k := Nat.pow_le_pow_right (by decide) (Nat.le_max_right ..)
  have h3 := Int.natAbs_add_le x y
  rw [Nat.pow_succ]
  omega
theorem Bd.emod {k : Nat} {x y : Int} (h0 : 0 < y) (b : Bd k y) : Bd k (x % y) := by
  unfold Bd at *
  have h1 := Int.emod_nonneg x (show y ≠ 0 by omega)
  have h2 := Int.emod_lt_of_pos x h0
  omega
theorem Bd.lit {i : Int} (h : decide (i.natAbs < 2 ^ 64) = true) : Bd 64 i := of_decide_eq_true h
theorem Bd.lit2 {i : Int} (h : decide (i.natAbs < 2 ^ 1100) = true) : Bd 1100 i := of_decide_eq_true h
theorem Bd.ite {k : Nat} {c : Prop} [Decidable c] {x y : Int} (a : Bd k x) (b : Bd k y) : Bd k (if c then x else y) := by by_cases h : c <;> simpa [h]
theorem Bd.bits {k : Nat} {i : Int} (h : Bd k i) (hk : 0 < k) : bitsOf i < k := bitsOf_lt h hk
theorem Bd.two {j k : Nat} {x y : Int} (a : Bd j x) (b : Bd k y) (h : j + k ≤ 1000000) (hj : 0 < j) (hk : 0 < k) : bitsOf x + bitsOf y < 1000000 := by
  have := a.bits hj
  have := b.bits hk
  omega
theorem Bd.pow {k : Nat} {x : Int} (a : Bd k x) (h : k ≤ 2 ^ 20) {j : Int} (h0 : 0 ≤ j) (hj : j ≤ 64) : CPowX x j := by
  refine ⟨h0, ?_⟩
  have : Builtin.Int.intBits x ≤ k := by
    unfold Builtin.Int.intBits
    split
    · omega
    · rename_i z
      have hz : x.natAbs ≠ 0 := by simpa using z
      have := (Nat.log2_lt hz).mpr a
      omega
  have h1 : (Builtin.Int.intBits x : Int) ≤ 2 ^ 20 := by omega
  have h2 : (Builtin.Int.intBits x : Int) * j ≤ 2 ^ 20 * 64 := by
    calc (Builtin.Int.intBits x : Int) * j ≤ (Builtin.Int.intBits x : Int) * 64 := Int.mul_le_mul_of_nonneg_left hj (by omega)
      _ ≤ 2 ^ 20 * 64 := Int.mul_le_mul_of_nonneg_right h1 (by decide)
  omega
@[simp] theorem okLen_lit {n : Nat} (h : n ≤ 16777216) : okLen n = true := decide_eq_true h
@[simp] theorem smI_lit {i : Int} (h0 : -(2 ^ 62) ≤ i) (h : i < 2 ^ 62) : smI i = true := decide_eq_true ⟨h0, h⟩
theorem rngD_eq {lo : Int} {n : Nat} : rngD lo n = (List.range n).map fun i : Nat => .int (lo + i) := rfl
/-! lists that stand for lists -/
section
variable {α β γ : Type}
@[simp] theorem cutL_map {f : α → β} {l : List α} {lo hi : Option Int} : cutL (l.map f) lo hi = (cutL l lo hi).map f := by
  unfold cutL
  rw [List.length_map, ← List.map_drop, ← List.map_take]
theorem cutL_from {l : List α} {i : Int} (h : 0 ≤ i) : cutL l (some i) none = l.drop i.toNat := by
  unfold cutL
  have e : HT.sIx l.length 0 (some i) = min i.toNat l.length := by
    show (if i < 0 then _ else _) = _
    rw [if_neg (by omega)]
  rw [e, HT.sIx_none]
  rcases Nat.le_total i.toNat l.length with h2 | h2
  · rw [Nat.min_eq_left h2]
    exact List.take_of_length_le (by rw [List.length_drop]; omega)
  · rw [Nat.min_eq_right h2, List.drop_eq_nil_of_le (Nat.le_refl _), List.drop_eq_nil_of_le h2]
    simp
theorem cutL_to {l : List α} {i : Int} (h : 0 ≤ i) : cutL l none (some i) = l.take i.toNat := by
  unfold cutL
  have e : HT.sIx l.length l.length (some i) = min i.toNat l.length := by
    show (if i < 0 then _ else _) = _
    rw [if_neg (by omega)]
  rw [e, HT.sIx_none, List.drop_zero, Nat.sub_zero]
  rcases Nat.le_total i.toNat l.length with h2 | h2
  · rw [Nat.min_eq_left h2]
  · rw [Nat.min_eq_right h2, List.take_of_length_le (Nat.le_refl _), List.take_of_length_le h2]
@[simp] theorem cutL_1 {l : List α} : cutL l (some 1) none = l.drop 1 := cutL_from (by decide)
@[simp] theorem cutL_t1 {l : List α} : cutL l none (some 1) = l.take 1 := cutL_to (by decide)
end
/-- two unlike places -/
def PairOk (pl : List Str) (p : Str × Str) : Prop := p.1 ∈ pl ∧ p.2 ∈ pl ∧ p.1 ≠ p.2
/-- a ring through places -/
theorem ring_ok {pl : List Str} (nd : pl.Nodup) (h : 2 ≤ pl.length) : ∀ p ∈ pl.zip (pl.drop 1 ++ pl.take 1), PairOk pl p := by
  intro p hp
  obtain ⟨i, hi, e⟩ := List.mem_iff_getElem.mp hp
  rw [List.getElem_zip] at e
  have hi1 : i < pl.length := by rw [List.length_zip] at hi; omega
  subst e
  by_cases hl : i + 1 < pl.length
  · have e2 : (pl.drop 1 ++ pl.take 1)[i]'(by rw [List.length_zip] at hi; omega) = pl[i + 1] := by
      rw [List.getElem_append_left (by rw [List.length_drop]; omega), List.getElem_drop]
      congr 1
      omega
    refine ⟨List.getElem_mem _, ?_, ?_⟩
    · show (pl.drop 1 ++ pl.take 1)[i]'_ ∈ pl
      rw [e2]; exact List.getElem_mem _
    · show pl[i] ≠ (pl.drop 1 ++ pl.take 1)[i]'_
      rw [e2]
      intro z
      have := (List.getElem_inj nd).mp z
      omega
  · have e2 : (pl.drop 1 ++ pl.take 1)[i]'(by rw [List.length_zip] at hi; omega) = pl[0] := by
      rw [List.getElem_append_right (by rw [List.length_drop]; omega), List.getElem_take]
      congr 1
      rw [List.length_drop]
      omega
    refine ⟨List.getElem_mem _, ?_, ?_⟩
    · show (pl.drop 1 ++ pl.take 1)[i]'_ ∈ pl
      rw [e2]; exact List.getElem_mem _
    · show pl[i] ≠ (pl.drop 1 ++ pl.take 1)[i]'_
      rw [e2]
      intro z
      have := (List.getElem_inj nd).mp z
      omega
end Dx

set_option Elab.async false
set_option linter.all false
set_option autoImplicit false
set_option maxRecDepth 100000
set_option maxHeartbeats 1000000
/-! DxMd: texts, lists of texts, repr. -/
namespace Dx
open PySem PySem.Spec PyProof.Rows L2 TL
section
variable {x y : Str} {l m : List Str} {Q : D → Prop}
@[simp] theorem strsD_map : ∀ l : List Str, strsD (l.map .str) = some l
  | [] => rfl
  | x :: l => by show (strsD (l.map .str)).map _ = _; rw [strsD_map l]; rfl
@[simp] theorem split_s : (ofO (splitO (.str x) (.str y))).sat Q = ((y.length ≠ 0 ∧ x.length + 2 ≤ sizeLine) ∧ Q (.lst ((Txt.split x y).map .str))) := by
  unfold splitO
  by_cases h : y.length = 0 <;> by_cases h2 : x.length + 2 ≤ sizeLine <;> simp [h, h2]
@[simp] theorem join_l : (ofO (joinO (.str x) (.lst (l.map .str)))).sat Q = ((l.map (·.length)).sum + l.length * x.length ≤ 16777216 ∧ Q (.str (Txt.join x l))) := by
  unfold joinO
  by_cases h : (l.map (·.length)).sum + l.length * x.length ≤ 16777216 <;> simp [h]
@[simp] theorem join_t : (ofO (joinO (.str x) (.tup (l.map .str)))).sat Q = ((l.map (·.length)).sum + l.length * x.length ≤ 16777216 ∧ Q (.str (Txt.join x l))) := by
  unfold joinO
  by_cases h : (l.map (·.length)).sum + l.length * x.length ≤ 16777216 <;> simp [h]
@[simp] theorem join_c {z : Str} : (ofO (joinO (.str x) (.lst (.str z :: l.map .str)))).sat Q = (((z :: l).map (·.length)).sum + (z :: l).length * x.length ≤ 16777216 ∧ Q (.str (Txt.join x (z :: l)))) := join_l (l := z :: l)
@[simp] theorem join_t4 {a b c d : Str} : (ofO (joinO (.str x) (.tup [.str a, .str b, .str c, .str d]))).sat Q = (([a, b, c, d].map (·.length)).sum + [a, b, c, d].length * x.length ≤ 16777216 ∧ Q (.str (Txt.join x [a, b, c, d]))) := join_t (l := [a, b, c, d])
@[simp] theorem flatL_str : ∀ l : List Str, flatL (l.map .str) = true
  | [] => rfl
  | x :: l => by show (flatD (.str x) && flatL (l.map .str)) = true; rw [flatL_str l]; rfl
@[simp] theorem depL_str : ∀ l : List Str, depL (l.map .str) = 0
  | [] => rfl
  | x :: l => by show max (depD (.str x)) (depL (l.map .str)) = 0; rw [depL_str l]; rfl
@[simp] theorem inD_str : inD (.str x) (l.map .str) = decide (x ∈ l) := by
  unfold inD
  rw [List.any_map]
  induction l with
  | nil => rfl
  | cons y l ih =>
    rw [List.any_cons, ih]
    show ((y == x) || decide (x ∈ l)) = decide (x ∈ y :: l)
    by_cases h : y = x
    · subst h; simp
    · have h' : ¬ x = y := fun e => h e.symm
      rw [beq_eq_false_iff_ne.mpr h, Bool.false_or]
      simp [h']
theorem inO_str : inO (.str x) (.tup (l.map .str)) = some (.bl (decide (x ∈ l))) := by
  show (if flatD (.str x) && flatL (l.map .str) && decide (depL (l.map .str) ≤ maxDep) then some (D.bl (inD (.str x) (l.map .str))) else none) = _
  rw [flatL_str, depL_str, inD_str]; rfl
theorem inO_strL : inO (.str x) (.lst (l.map .str)) = some (.bl (decide (x ∈ l))) := by
  show (if flatD (.str x) && flatL (l.map .str) && decide (depL (l.map .str) ≤ maxDep) then some (D.bl (inD (.str x) (l.map .str))) else none) = _
  rw [flatL_str, depL_str, inD_str]; rfl
@[simp] theorem in2_t : inO2 (.str x) (.tup (l.map .str)) = some (.bl (decide (x ∈ l))) := inO_str
@[simp] theorem in2_l : inO2 (.str x) (.lst (l.map .str)) = some (.bl (decide (x ∈ l))) := inO_strL
@[simp] theorem nin2_t : ninO2 (.str x) (.tup (l.map .str)) = some (.bl (!decide (x ∈ l))) := by unfold ninO2; rw [in2_t]; rfl
@[simp] theorem nin2_l : ninO2 (.str x) (.lst (l.map .str)) = some (.bl (!decide (x ∈ l))) := by unfold ninO2; rw [in2_l]; rfl
@[simp] theorem in2_d {f : List (Str × D)} : inO2 (.str x) (.dic f) = some (.bl (f.lookup x).isSome) := rfl
@[simp] theorem nin2_d {f : List (Str × D)} : ninO2 (.str x) (.dic f) = some (.bl (!(f.lookup x).isSome)) := rfl
@[simp] theorem eqL_str : ∀ l m : List Str, eqL (l.map .str) (m.map .str) = decide (l = m)
  | [], [] => rfl
  | [], _ :: _ => by simp [eqL]
  | _ :: _, [] => by simp [eqL]
  | x :: l, y :: m => by
    show (eqD (.str x) (.str y) && eqL (l.map .str) (m.map .str)) = _
    rw [eqL_str l m]
    show ((x == y) && decide (l = m)) = decide (x :: l = y :: m)
    rw [Bool.eq_iff_iff]
    simp
theorem okS {l m : List Str} {b : D} : (if flatD (.tup (l.map .str)) && flatD (.tup (m.map .str)) && decide (depD (.tup (l.map .str)) ≤ maxDep) then some b else none) = some b := by
  have h1 : ∀ l : List Str, flatD (.tup (l.map .str)) = true := flatL_str
  have h2 : depD (.tup (l.map .str)) = 1 := by show depL (l.map .str) + 1 = 1; rw [depL_str]
  rw [h1, h1, h2]; rfl
@[simp] theorem eq_tS : eqO (.tup (l.map .str)) (.tup (m.map .str)) = some (.bl (decide (l = m))) := by
  unfold eqO
  rw [okS]
  show some (D.bl (eqL _ _)) = _
  rw [eqL_str]
@[simp] theorem ne_tS : neO (.tup (l.map .str)) (.tup (m.map .str)) = some (.bl (!decide (l = m))) := by
  unfold neO
  rw [okS]
  show some (D.bl (!eqL _ _)) = _
  rw [eqL_str]
/-- data that is flat and not deep -/
def Flt (n : Nat) (d : D) : Prop := flatD d = true ∧ depD d ≤ n
/-- whether a list is empty -/
def nilB {α : Type} (l : List α) : Bool := l.isEmpty
@[simp] theorem nilB_map {α β : Type} {f : α → β} {l : List α} : nilB (l.map f) = nilB l := by cases l <;> rfl
end
theorem boolsD_map {α : Type} {p : α → Bool} : ∀ l : List α, boolsD (l.map fun x => .bl (p x)) = some (l.map p)
  | [] => rfl
  | x :: l => by show (boolsD (l.map fun x => .bl (p x))).map _ = _; rw [boolsD_map l]; rfl
@[simp] theorem all_map {α : Type} {p : α → Bool} {l : List α} : allO [.lst (l.map fun x => .bl (p x))] = some (.bl (l.all p)) := by
  show (boolsD (l.map fun x => .bl (p x))).map _ = _
  rw [boolsD_map]
  simp
@[simp] theorem any_map {α : Type} {p : α → Bool} {l : List α} : anyO [.lst (l.map fun x => .bl (p x))] = some (.bl (l.any p)) := by
  show (boolsD (l.map fun x => .bl (p x))).map _ = _
  rw [boolsD_map]
  simp
/-! names -/
/-! lengths of texts -/
theorem sum_le {l : List Str} {B : Nat} (h : ∀ x ∈ l, x.length ≤ B) : (l.map (·.length)).sum ≤ l.length * B := by
  induction l with
  | nil => exact Nat.zero_le _
  | cons x l ih =>
    have h1 := h x (List.mem_cons_self ..)
    have h2 := ih fun y hy => h y (List.mem_cons_of_mem _ hy)
    simp only [List.map_cons, List.sum_cons, List.length_cons, Nat.succ_mul]
    omega
theorem join_len {a : Str} {l : List Str} {B n : Nat} (h : ∀ x ∈ l, x.length ≤ B) (hn : l.length ≤ n) : (l.map (·.length)).sum + l.length * a.length ≤ n * (B + a.length) ∧ (Txt.join a l).length ≤ n * (B + a.length) := by
  have h1 := sum_le h
  have h2 := StrLaws.join_length_le a l
  rw [join_eq]
  have h3 : l.length * B + l.length * a.length ≤ n * (B + a.length) := by
    rw [← Nat.mul_add]; exact Nat.mul_le_mul_right _ hn
  omega
theorem mem_join {a : Str} {c : Nat} : ∀ {l : List Str}, c ∈ tl (Txt.join a l) → c ∈ tl a ∨ ∃ x ∈ l, c ∈ tl x := by
  intro l
  rw [join_eq, tl_join]
  induction l with
  | nil => intro h; exact absurd h (by simp [joinL])
  | cons x l ih =>
    cases l with
    | nil => intro h; exact .inr ⟨x, by simp, by simpa [joinL] using h⟩
    | cons y l =>
      intro h
      have h : c ∈ tl x ++ (tl a ++ joinL (tl a) ((y :: l).map tl)) := h
      rw [List.mem_append, List.mem_append] at h
      rcases h with h | h | h
      · exact .inr ⟨x, by simp, h⟩
      · exact .inl h
      · rcases ih h with h | ⟨z, hz, h⟩
        · exact .inl h
        · exact .inr ⟨z, List.mem_cons_of_mem _ hz, h⟩
/-! a dict's keys -/
theorem putD_new {l : List (Str × D)} {k : Str} {v : D} (h : l.lookup k = none) : putD l k v = l ++ [(k, v)] := by
  unfold putD
  rw [if_neg]
  intro z
  rw [List.any_eq_true] at z
  obtain ⟨p, hp, e⟩ := z
  have e := of_decide_eq_true e
  induction l with
  | nil => cases hp
  | cons q l ih =>
    obtain ⟨qk, qv⟩ := q
    rw [List.lookup_cons] at h
    cases h2 : k == qk with
    | true => rw [h2] at h; cases h
    | false =>
      rw [h2] at h
      rcases List.mem_cons.mp hp with rfl | hp
      · rw [beq_eq_false_iff_ne] at h2; exact h2 e.symm
      · exact ih h hp
/-! repr -/
@[simp] theorem len_blank : (Str.ofString " ").length = 1 := by decide +kernel
@[simp] theorem len_feed : (Str.ofString "\n").length = 1 := by decide +kernel
/-- words with blanks between them, cut again -/
theorem split_words {ws : List Str} (h0 : ws ≠ []) (h : ∀ x ∈ ws, NameOk x) : Txt.split (Txt.join " " ws) " " = ws := split_join tl_blank (by decide +kernel) h0 fun p hp => (h p hp).blank
theorem words_feed {ws : List Str} (h : ∀ x ∈ ws, NameOk x) : 10 ∉ tl (Txt.join " " ws) := by
  intro z
  rcases mem_join z with z | ⟨x, hx, z⟩
  · rw [tl_blank] at z; simp at z
  · exact (h x hx).feed z
theorem split_lines {ls : List Str} (h0 : ls ≠ []) (h : ∀ x ∈ ls, 10 ∉ tl x) : Txt.split (Txt.join "\n" ls) "\n" = ls := split_join tl_feed (by decide +kernel) h0 h
theorem kinds_ok : ∀ x ∈ kinds, NameOk x := by decide +kernel
theorem places_ok : NameOk "places" := by decide +kernel
def Lore.words0 (l : Lore) : List Str := ("places" : Str) :: l.pl
def Lore.line0 (l : Lore) : Str := Txt.join " " l.words0
def Row.line (r : Row) : Str := Txt.join " " r.words
theorem LoreOk.words0 {l : Lore} (h : LoreOk l) : ∀ x ∈ l.words0, NameOk x := by
  intro x hx
  rcases List.mem_cons.mp hx with rfl | hx
  · exact places_ok
  · exact h.nm x hx
theorem RowOk.words {pl : List Str} {r : Row} (h : RowOk pl r) (hp : ∀ p ∈ pl, NameOk p) : ∀ x ∈ r.words, NameOk x := by
  intro x hx
  simp only [Row.words, List.mem_cons, List.not_mem_nil, or_false] at hx
  rcases hx with rfl | rfl | rfl | rfl
  · exact kinds_ok _ h.kd
  · exact h.nm
  · exact hp _ h.a
  · exact hp _ h.b
theorem LoreOk.len0 {l : Lore} (h : LoreOk l) : l.line0.length ≤ 90 := (join_len (a := " ") (B := 8) (n := 10) (fun x hx => (h.words0 x hx).2.1) (by have := h.hi; show l.pl.length + 1 ≤ 10; omega)).2
theorem RowOk.len {pl : List Str} {r : Row} (h : RowOk pl r) (hp : ∀ p ∈ pl, NameOk p) : r.line.length ≤ 36 := (join_len (a := " ") (B := 8) (n := 4) (fun x hx => (h.words hp x hx).2.1) (Nat.le_refl _)).2
def Lore.lines (l : Lore) : List Str := l.line0 :: l.rows.map Row.line
theorem Lore.text_eq (l : Lore) : l.text = Txt.join "\n" l.lines := rfl
theorem LoreOk.lines {l : Lore} (h : LoreOk l) : (∀ x ∈ l.lines, x.length ≤ 90) ∧ l.lines.length ≤ 21 ∧ ∀ x ∈ l.lines, 10 ∉ tl x := by
  refine ⟨?_, ?_, ?_⟩
  · intro x hx
    rcases List.mem_cons.mp hx with rfl | hx
    · exact h.len0
    · obtain ⟨r, hr, rfl⟩ := List.mem_map.mp hx
      have := (h.ok r hr).len h.nm
      omega
  · have := h.few
    show (l.rows.map Row.line).length + 1 ≤ 21
    rw [List.length_map]; omega
  · intro x hx
    rcases List.mem_cons.mp hx with rfl | hx
    · exact words_feed h.words0
    · obtain ⟨r, hr, rfl⟩ := List.mem_map.mp hx
      exact words_feed ((h.ok r hr).words h.nm)
theorem LoreOk.text {l : Lore} (h : LoreOk l) : l.text.length ≤ 2000 ∧ (l.lines.map (·.length)).sum + l.lines.length * 1 ≤ 2000 ∧ Txt.split l.text "\n" = l.lines := by
  have h1 := h.lines
  have h2 := join_len (a := "\n") h1.1 h1.2.1
  rw [len_feed] at h2
  exact ⟨by rw [Lore.text_eq]; omega, by omega, by rw [Lore.text_eq]; exact split_lines (by simp [Lore.lines]) h1.2.2⟩
@[simp] theorem newF_s {c : Str} {fs : List (Str × D)} : newF c (.non, [.ins c fs]) = some (.ins c fs) := by simp [newF]
@[simp] theorem newF_t {c t : Str} {l : Lore} : newF c (.non, [townD c t l]) = some (townD c t l) := newF_s
end Dx

set_option Elab.async false
set_option linter.all false
set_option autoImplicit false
set_option maxRecDepth 100000
set_option maxHeartbeats 1000000
/-! DxMe: streets and signs: sets that bar, and maps. -/
namespace Dx
open PySem
abbrev Arr := Str × Str × Str
inductive Rch (A : List Arr) (p : Str) : Str → Prop
  | refl : Rch A p p
  | step {s o t : Str} : Rch A p o → (s, o, t) ∈ A → Rch A p t
theorem Rch.head {A : List Arr} {s p q x : Str} (h : (s, p, q) ∈ A) (r : Rch A q x) : Rch A p x := by
  induction r with
  | refl => exact .step .refl h
  | step _ e ih => exact .step ih e
/-- a way from within a set to the outside has a street that leads out -/
theorem Rch.leave {A : List Arr} {p x : Str} (r : Rch A p x) (X : Str → Bool) (hp : X p = true) (hx : X x = false) : ∃ s o t, (s, o, t) ∈ A ∧ X o = true ∧ X t = false := by
  induction r with
  | refl => rw [hp] at hx; cases hx
  | @step s o t r e ih =>
    cases q : X o with
    | false => exact ih q
    | true => exact ⟨s, o, t, e, q, hx⟩
theorem len_sub {α : Type} [DecidableEq α] : ∀ {K l : List α}, K.Nodup → (∀ x ∈ K, x ∈ l) → K.length ≤ l.length
  | [], _, _, _ => Nat.zero_le _
  | x :: K, l, nd, h => by
    rw [List.nodup_cons] at nd
    have hx : x ∈ l := h x (by simp)
    have := len_sub (l := l.erase x) nd.2 fun y hy => (List.mem_erase_of_ne (fun e => by subst e; exact nd.1 hy)).mpr (h y (by simp [hy]))
    rw [List.length_erase_of_mem hx] at this
    have : 0 < l.length := List.length_pos_of_mem hx
    simp; omega
/-! rims and bars, for any set of places -/
def rimX (X : Str → Bool) (r : Row) : Bool := X r.a != X r.b
def outX (X : Str → Bool) (r : Row) : Bool := !decide (r.kd = "known") || X r.a
def barX (rows : List Row) (X : Str → Bool) : Bool := nilB ((rows.filter (rimX X)).filter (outX X)) || match rows.filter (rimX X) with
  | [r] => decide (r.kd = "unread")
  | _ => false
theorem barX_iff {rows : List Row} {X : Str → Bool} : barX rows X = true ↔ (∀ r ∈ rows, X r.a ≠ X r.b → r.kd = "known" ∧ X r.a = false) ∨ ∃ r, rows.filter (rimX X) = [r] ∧ r.kd = "unread" := by
  unfold barX
  rw [Bool.or_eq_true]
  refine or_congr ?_ ?_
  · unfold nilB
    rw [List.isEmpty_iff, List.filter_eq_nil_iff]
    refine ⟨fun h r hr hx => ?_, fun h r hr => ?_⟩
    · have := h r (List.mem_filter.mpr ⟨hr, by simpa [rimX] using hx⟩)
      simpa [outX] using this
    · obtain ⟨hr, hx⟩ := List.mem_filter.mp hr
      simpa [outX] using h r hr (by simpa [rimX] using hx)
  · match rows.filter (rimX X) with
    | [] => simp
    | [r] => simp
    | _ :: _ :: _ => simp
def NB (pl : List Str) (rows : List Row) : Prop := ∀ X : Str → Bool, (∃ p ∈ pl, X p = true) → (∃ p ∈ pl, X p = false) → barX rows X = false
def fwd (r : Row) : Row := ⟨r.nm, "known", r.a, r.b⟩
def bwd (r : Row) : Row := ⟨r.nm, "known", r.b, r.a⟩
/-- what a set that bars behind a street was told says -/
theorem bar_told {L R : List Row} {r r1 : Row} {X : Str → Bool} (hu : r.kd = "unread") (h1 : r1.kd = "known") (he : rimX X r1 = rimX X r) (hb : barX (L ++ r1 :: R) X = true) (hn : barX (L ++ r :: R) X = false) :
    rimX X r = true ∧ X r1.a = false ∧ (∀ q ∈ L ++ R, X q.a ≠ X q.b → q.kd = "known" ∧ X q.a = false) ∧ ∃ q ∈ L ++ R, X q.a ≠ X q.b := by
  have hn2 : ¬ barX (L ++ r :: R) X = true := by rw [hn]; simp
  rw [barX_iff] at hb hn2
  simp only [not_or] at hn2
  have uk : ("unread" : Str) ≠ "known" := by decide +kernel
  cases hr : rimX X r with
  | false =>
    refine absurd ?_ (not_or.mpr hn2)
    rcases hb with hb | ⟨q, e, hq⟩
    · refine .inl fun q hq hx => ?_
      rcases List.mem_append.mp hq with h | h
      · exact hb q (by simp [h]) hx
      · rcases List.mem_cons.mp h with rfl | h
        · unfold rimX at hr; simp at hr; exact absurd hr hx
        · exact hb q (by simp [h]) hx
    · refine .inr ⟨q, ?_, hq⟩
      rw [← e, List.filter_append, List.filter_append, List.filter_cons, List.filter_cons, he]
      simp [hr]
  | true =>
    have hr1 : rimX X r1 = true := by rw [he, hr]
    rcases hb with hb | ⟨q, e, hq⟩
    · have ha := (hb r1 (by simp) (by simpa [rimX] using hr1)).2
      refine ⟨rfl, ha, fun q hq => hb q (by rcases List.mem_append.mp hq with h | h <;> simp [h]), ?_⟩
      by_cases w : ∃ q ∈ L ++ R, X q.a ≠ X q.b
      · exact w
      · refine absurd ⟨r, ?_, hu⟩ hn2.2
        have none : ∀ M : List Row, (∀ q ∈ M, q ∈ L ++ R) → M.filter (rimX X) = [] := fun M hM => by
          rw [List.filter_eq_nil_iff]
          intro q hq z
          exact w ⟨q, hM q hq, by simpa [rimX] using z⟩
        rw [List.filter_append, List.filter_cons, if_pos hr, none L (fun q h => by simp [h]), none R (fun q h => by simp [h])]
        rfl
    · have : r1 ∈ (L ++ r1 :: R).filter (rimX X) := List.mem_filter.mpr ⟨by simp, hr1⟩
      rw [e] at this
      rw [List.mem_singleton.mp this] at h1
      rw [h1] at hq
      exact absurd hq.symm uk
/-- one street more is told, and still no set bars -/
theorem nb_step {pl : List Str} {L R : List Row} {r : Row} (hp : ∀ q ∈ L ++ r :: R, q.a ∈ pl ∧ q.b ∈ pl) (hu : r.kd = "unread") (h : NB pl (L ++ r :: R)) : NB pl (L ++ fwd r :: R) ∨ NB pl (L ++ bwd r :: R) := by
  by_cases hX : NB pl (L ++ fwd r :: R)
  · exact .inl hX
  by_cases hY : NB pl (L ++ bwd r :: R)
  · exact .inr hY
  exfalso
  simp only [NB, Classical.not_forall] at hX hY
  obtain ⟨X, x1, x0, hX⟩ := hX
  obtain ⟨Y, y1, y0, hY⟩ := hY
  rw [Bool.not_eq_false] at hX hY
  obtain ⟨xr, xa, xq, q, hq, hqx⟩ := bar_told hu rfl (by rfl) hX (h X x1 x0)
  obtain ⟨yr, ya, yq, _⟩ := bar_told hu rfl (by show (Y r.b != Y r.a) = (Y r.a != Y r.b); exact bne_comm) hY (h Y y1 y0)
  have xb : X r.b = true := by unfold rimX at xr; have xa : X r.a = false := xa; rw [xa] at xr; simpa using xr
  have yb : Y r.a = true := by unfold rimX at yr; have ya : Y r.b = false := ya; rw [ya] at yr; simpa using yr
  have xa : X r.a = false := xa
  have ya : Y r.b = false := ya
  have hra := hp r (by simp)
  -- the common part, and the whole
  have inter : ∀ p ∈ pl, (X p && Y p) = false := by
    intro p hpp
    cases e : (X p && Y p) with
    | false => rfl
    | true =>
      have := h (fun z => X z && Y z) ⟨p, hpp, e⟩ ⟨r.a, hra.1, by simp [xa]⟩
      rw [← Bool.not_eq_true, barX_iff] at this
      refine absurd (.inl fun t ht hx => ?_) this
      rcases List.mem_append.mp ht with ht | ht
      · have m : t ∈ L ++ R := by simp [ht]
        have a1 := xq t m
        have a2 := yq t m
        cases e1 : X t.a <;> cases e2 : X t.b <;> cases e3 : Y t.a <;> cases e4 : Y t.b <;> simp_all
      · rcases List.mem_cons.mp ht with rfl | ht
        · simp [xa, xb, ya, yb] at hx
        · have m : t ∈ L ++ R := by simp [ht]
          have a1 := xq t m
          have a2 := yq t m
          cases e1 : X t.a <;> cases e2 : X t.b <;> cases e3 : Y t.a <;> cases e4 : Y t.b <;> simp_all
  have union : ∀ p ∈ pl, (X p || Y p) = true := by
    intro p hpp
    cases e : (X p || Y p) with
    | true => rfl
    | false =>
      have := h (fun z => X z || Y z) ⟨r.a, hra.1, by simp [yb]⟩ ⟨p, hpp, e⟩
      rw [← Bool.not_eq_true, barX_iff] at this
      refine absurd (.inl fun t ht hx => ?_) this
      rcases List.mem_append.mp ht with ht | ht
      · have m : t ∈ L ++ R := by simp [ht]
        have a1 := xq t m
        have a2 := yq t m
        cases e1 : X t.a <;> cases e2 : X t.b <;> cases e3 : Y t.a <;> cases e4 : Y t.b <;> simp_all
      · rcases List.mem_cons.mp ht with rfl | ht
        · simp [xa, xb, ya, yb] at hx
        · have m : t ∈ L ++ R := by simp [ht]
          have a1 := xq t m
          have a2 := yq t m
          cases e1 : X t.a <;> cases e2 : X t.b <;> cases e3 : Y t.a <;> cases e4 : Y t.b <;> simp_all
  have hqp := hp q (by rcases List.mem_append.mp hq with z | z <;> simp [z])
  have b1 := xq q hq
  have b2 := yq q hq
  have i1 := inter _ hqp.1
  have i2 := inter _ hqp.2
  have u1 := union _ hqp.1
  have u2 := union _ hqp.2
  cases e1 : X q.a <;> cases e2 : X q.b <;> cases e3 : Y q.a <;> cases e4 : Y q.b <;> simp_all
/-- a street by its sign -/
def ori (f : Str → Bool) (r : Row) : Row := if r.kd = "unread" then (if f r.nm then fwd r else bwd r) else r
theorem nb_all {pl : List Str} : ∀ (rest D : List Row), (∀ q ∈ D ++ rest, q.a ∈ pl ∧ q.b ∈ pl) → (rest.map Row.nm).Nodup → NB pl (D ++ rest) → ∃ f, NB pl (D ++ rest.map (ori f))
  | [], D, _, _, h => ⟨fun _ => true, h⟩
  | r :: rs, D, hp, nd, h => by
    rw [List.map_cons, List.nodup_cons] at nd
    have key : ∀ r' : Row, (r'.a ∈ pl ∧ r'.b ∈ pl) → NB pl (D ++ r' :: rs) → ∃ f, NB pl (D ++ r' :: rs.map (ori f)) := fun r' hr' h' => by
      obtain ⟨f, hf⟩ := nb_all rs (D ++ [r']) (fun q hq => by
        simp at hq
        rcases hq with hq | rfl | hq
        · exact hp q (by simp [hq])
        · exact hr'
        · exact hp q (by simp [hq])) nd.2 (by simpa using h')
      exact ⟨f, by simpa using hf⟩
    have hr := hp r (by simp)
    by_cases hu : r.kd = "unread"
    · have fin : ∀ (b : Bool) (f : Str → Bool), NB pl (D ++ (if b then fwd r else bwd r) :: rs.map (ori f)) → ∃ f, NB pl (D ++ (r :: rs).map (ori f)) := fun b f hf => by
        refine ⟨fun x => if x = r.nm then b else f x, ?_⟩
        have e : rs.map (ori fun x => if x = r.nm then b else f x) = rs.map (ori f) := by
          refine List.map_congr_left fun q hq => ?_
          have : q.nm ≠ r.nm := fun e => nd.1 (e ▸ List.mem_map_of_mem hq)
          simp [ori, this]
        rw [List.map_cons, e]
        simpa [ori, hu] using hf
      rcases nb_step hp hu h with h | h
      · obtain ⟨f, hf⟩ := key (fwd r) hr h
        exact fin true f hf
      · obtain ⟨f, hf⟩ := key (bwd r) ⟨hr.2, hr.1⟩ h
        exact fin false f hf
    · obtain ⟨f, hf⟩ := key r hr h
      refine ⟨f, ?_⟩
      rw [List.map_cons, show ori f r = r by simp [ori, hu]]
      exact hf
/-- the arrows by signs -/
def arr1 (r : Row) : List Arr := if r.kd = "both" then [(r.nm, r.a, r.b), (r.nm, r.b, r.a)] else [(r.nm, r.a, r.b)]
def arrs (rows : List Row) (f : Str → Bool) : List Arr := rows.flatMap fun r => arr1 (ori f r)
def Strong (pl : List Str) (A : List Arr) : Prop := ∀ p ∈ pl, ∀ x ∈ pl, Rch A p x
theorem ori_kd {pl : List Str} {f : Str → Bool} {r : Row} (h : RowOk pl r) : (ori f r).kd = "known" ∨ (ori f r).kd = "both" := by
  have hk := h.kd
  unfold ori
  split
  · left; split <;> rfl
  · rename_i hu
    simp [kinds] at hk
    rcases hk with hk | hk | hk
    · exact absurd hk hu
    · exact .inl hk
    · exact .inr hk
theorem strong_of {pl : List Str} {rows : List Row} {f : Str → Bool} (ok : ∀ r ∈ rows, RowOk pl r) (h : NB pl (rows.map (ori f))) : Strong pl (arrs rows f) := by
  intro p hp x hx
  by_cases hr : Rch (arrs rows f) p x
  · exact hr
  exfalso
  have kb : ("both" : Str) ≠ "known" := by decide +kernel
  let X : Str → Bool := fun z => @decide (Rch (arrs rows f) p z) (Classical.propDecidable _)
  have X1 : ∀ z, X z = true → Rch (arrs rows f) p z := fun z hz => @of_decide_eq_true _ (Classical.propDecidable _) hz
  have X0 : ∀ z, Rch (arrs rows f) p z → X z = true := fun z hz => @decide_eq_true _ (Classical.propDecidable _) hz
  have := h X ⟨p, hp, X0 _ .refl⟩ ⟨x, hx, by rw [← Bool.not_eq_true]; exact fun z => hr (X1 x z)⟩
  rw [← Bool.not_eq_true, barX_iff] at this
  refine absurd (.inl fun q hq hne => ?_) this
  obtain ⟨r, hrr, rfl⟩ := List.mem_map.mp hq
  have mem : ∀ t ∈ arr1 (ori f r), t ∈ arrs rows f := fun t ht => List.mem_flatMap.mpr ⟨r, hrr, ht⟩
  rcases ori_kd (f := f) (ok r hrr) with hk | hk
  · refine ⟨hk, ?_⟩
    cases e : X (ori f r).a with
    | false => rfl
    | true =>
      refine absurd ?_ hne
      rw [e]
      refine (X0 _ (.step (s := (ori f r).nm) (X1 _ e) (mem _ ?_))).symm
      simp [arr1, hk, kb.symm]
  · exfalso
    apply hne
    cases e : X (ori f r).a with
    | true =>
      refine (X0 _ (.step (s := (ori f r).nm) (X1 _ e) (mem _ ?_))).symm
      simp [arr1, hk]
    | false =>
      cases e2 : X (ori f r).b with
      | false => rfl
      | true =>
        rw [X0 _ (.step (s := (ori f r).nm) (o := (ori f r).b) (X1 _ e2) (mem _ (by simp [arr1, hk])))] at e
        cases e
/-- by a map some street leads out of each set; the rim is there, and the set does not bar -/
theorem arr_row {rows : List Row} {f : Str → Bool} {pl : List Str} (ok : ∀ r ∈ rows, RowOk pl r) {s o t : Str} (h : (s, o, t) ∈ arrs rows f) {X : Str → Bool} (ho : X o = true) (ht : X t = false) :
    ∃ r ∈ rows, X r.a ≠ X r.b ∧ (r.kd = "known" → X r.a = true) ∧ (r.kd = "unread" → X (ori f r).a = true) := by
  unfold arrs at h
  obtain ⟨r, hr, h⟩ := List.mem_flatMap.mp h
  refine ⟨r, hr, ?_⟩
  have uk : ("unread" : Str) ≠ "known" := by decide +kernel
  have ub : ("unread" : Str) ≠ "both" := by decide +kernel
  have kb : ("known" : Str) ≠ "both" := by decide +kernel
  have hk := (ok r hr).kd
  simp [kinds] at hk
  rcases hk with hk | hk | hk
  · unfold arr1 ori at h
    rw [if_pos hk] at h
    cases e : f r.nm with
    | true =>
      rw [e] at h
      simp [fwd, kb] at h
      obtain ⟨_, rfl, rfl⟩ := h
      refine ⟨by rw [ho, ht]; simp, fun z => absurd (hk.symm.trans z) uk, fun _ => by simp [ori, hk, e, fwd, ho]⟩
    | false =>
      rw [e] at h
      simp [bwd, kb] at h
      obtain ⟨_, rfl, rfl⟩ := h
      refine ⟨by rw [ho, ht]; simp, fun z => absurd (hk.symm.trans z) uk, fun _ => by simp [ori, hk, e, bwd, ho]⟩
  · rw [show ori f r = r by simp [ori, hk, uk.symm]] at h
    unfold arr1 at h
    rw [if_neg (by rw [hk]; exact kb)] at h
    simp at h
    obtain ⟨_, rfl, rfl⟩ := h
    exact ⟨by rw [ho, ht]; simp, fun _ => ho, fun z => absurd (z.symm.trans hk) uk⟩
  · rw [show ori f r = r by simp [ori, hk, ub.symm]] at h
    unfold arr1 at h
    rw [if_pos hk] at h
    simp at h
    refine ⟨?_, fun z => absurd (z.symm.trans hk) kb, fun z => absurd (z.symm.trans hk) ub⟩
    rcases h with ⟨_, rfl, rfl⟩ | ⟨_, rfl, rfl⟩ <;> rw [ho, ht] <;> simp
theorem out_of {rows : List Row} {f : Str → Bool} {pl : List Str} (ok : ∀ r ∈ rows, RowOk pl r) (h : Strong pl (arrs rows f)) {X : Str → Bool} (h1 : ∃ p ∈ pl, X p = true) (h0 : ∃ p ∈ pl, X p = false) :
    (∃ s o t, (s, o, t) ∈ arrs rows f ∧ X o = true ∧ X t = false) ∧ rows.filter (rimX X) ≠ [] ∧ barX rows X = false := by
  obtain ⟨p, hp, p1⟩ := h1
  obtain ⟨x, hx, x0⟩ := h0
  obtain ⟨s, o, t, hm, ho, ht⟩ := (h p hp x hx).leave X p1 x0
  obtain ⟨r, hr, hne, hk, hun⟩ := arr_row ok hm ho ht
  refine ⟨⟨s, o, t, hm, ho, ht⟩, fun e => ?_, ?_⟩
  · rw [List.filter_eq_nil_iff] at e
    exact e r hr (by simpa [rimX] using hne)
  · rw [← Bool.not_eq_true, barX_iff]
    rintro (hb | ⟨q, e, hq⟩)
    · have := hb r hr hne
      rw [hk this.1] at this
      exact absurd this.2 (by simp)
    · have hrq : r = q := by
        have : r ∈ rows.filter (rimX X) := List.mem_filter.mpr ⟨hr, by simpa [rimX] using hne⟩
        rw [e] at this
        exact List.mem_singleton.mp this
      subst hrq
      obtain ⟨s', o', t', hm', ho', ht'⟩ := (h x hx p hp).leave (fun z => !X z) (by simp [x0]) (by simp [p1])
      obtain ⟨r', hr', hne', _, hun'⟩ := arr_row (X := fun z => !X z) ok hm' ho' ht'
      have : r' ∈ rows.filter (rimX X) := List.mem_filter.mpr ⟨hr', by simp [rimX] at hne' ⊢; exact hne'⟩
      rw [e] at this
      rw [List.mem_singleton.mp this] at hun'
      have a := hun hq
      have b := hun' hq
      rw [a] at b
      exact absurd b (by simp)
/-- a town has a map just if no set bars it -/
theorem map_iff {pl : List Str} {rows : List Row} (ok : ∀ r ∈ rows, RowOk pl r) (nd : (rows.map Row.nm).Nodup) : (∃ f, Strong pl (arrs rows f)) ↔ NB pl rows := by
  refine ⟨fun ⟨f, h⟩ X h1 h0 => (out_of ok h h1 h0).2.2, fun h => ?_⟩
  obtain ⟨f, hf⟩ := nb_all rows [] (fun q hq => ⟨(ok q (by simpa using hq)).a, (ok q (by simpa using hq)).b⟩) nd (by simpa using h)
  exact ⟨f, strong_of ok (by simpa using hf)⟩
end Dx

set_option Elab.async false
set_option linter.all false
set_option autoImplicit false
set_option maxRecDepth 100000
set_option maxHeartbeats 1000000
/-! DxMf: simp rules for the newer constructs. -/
namespace Dx
open PySem PySem.Spec PyProof.Rows L2 TL
section
variable {s0 : Sl} {ρ : List Sl} {f g h : List Sl → R (D × List Sl)} {l : List Sl → R (List D × List Sl)} {u : List Sl → R (Bool × List Sl)} {i : Nat} {Q : D × List Sl → Prop} {QL : List D × List Sl → Prop} {N : List Sl → Prop} {T : Bool → D → List Sl → Prop}
@[simp ↓] theorem evStar_s : (evStar f l (s0 :: ρ)).sat QL = (f (s0 :: ρ)).sat fun p => (ofO (starO p.1)).sat fun xs => (l p.2).sat fun q => QL (xs ++ q.1, q.2) := by simp [evStar]
@[simp] theorem starO_l {x : List D} : starO (.lst x) = some x := rfl
@[simp] theorem starO_t {x : List D} : starO (.tup x) = some x := rfl
@[simp ↓] theorem evAug_s {F : Int → Int → Int} : (evAug F i f (s0 :: ρ)).sat Q = ∃ m, (s0 :: ρ)[i]? = some (.sh (.int m)) ∧ (f (s0 :: ρ)).sat fun p => (toI p).sat fun k => Q (.int (F m k.1), k.2) := by
  unfold evAug
  split
  · rename_i m e
    rw [R.sat_bind]
    refine propext ⟨fun z => ⟨m, e, ?_⟩, fun ⟨m', e', z⟩ => ?_⟩
    · refine z.mono fun p hp => ?_
      obtain ⟨d, ρ'⟩ := p
      cases d <;> simp at hp
      simpa using hp
    · rw [e] at e'; cases e'
      refine z.mono fun p hp => ?_
      obtain ⟨d, ρ'⟩ := p
      cases d <;> simp [toI] at hp
      simpa using hp
  · rename_i e
    rw [R.sat_bad]
    exact propext ⟨fun z => z.elim, fun ⟨m, e', _⟩ => e m e'⟩
@[simp ↓] theorem evPs_nil {QP : List (D × D) × List Sl → Prop} : (evPs [] (s0 :: ρ)).sat QP = QP ([], s0 :: ρ) := R.sat_ok _
@[simp ↓] theorem evPs_cons {fg : EvD × EvD} {r : List (EvD × EvD)} {QP : List (D × D) × List Sl → Prop} : (evPs (fg :: r) (s0 :: ρ)).sat QP = (fg.1 (s0 :: ρ)).sat fun p => (fg.2 p.2).sat fun q => (evPs r q.2).sat fun s => QP ((p.1, q.1) :: s.1, s.2) := by simp [evPs]
@[simp ↓] theorem evDisp_s {r : List (EvD × EvD)} : (evDisp r (s0 :: ρ)).sat Q = (evPs r (s0 :: ρ)).sat fun p => (ofO (strKs p.1)).sat fun l => l.length ≤ 15 ∧ Q (.dic (dicOf l), p.2) := by simp [evDisp, ifR_s]
@[simp] theorem strKs_nil : strKs [] = some [] := rfl
@[simp] theorem strKs_cons {k : Str} {d : D} {r : List (D × D)} : strKs ((.str k, d) :: r) = (strKs r).map fun l => (k, d) :: l := rfl
@[simp] theorem dicOf_one {k : Str} {d : D} : dicOf [(k, d)] = [(k, d)] := rfl
@[simp ↓] theorem evGet2_s : (evGet2 f g h (s0 :: ρ)).sat Q = (f (s0 :: ρ)).sat fun p => isDic p.1 = true ∧ (g p.2).sat fun q => (h q.2).sat fun r => (ofO (getO p.1 q.1)).sat fun z => Q (z.getD r.1, r.2) := by simp [evGet2, ifR_s]
@[simp ↓] theorem evGet1_s : (evGet1 f g (s0 :: ρ)).sat Q = (f (s0 :: ρ)).sat fun p => isDic p.1 = true ∧ (g p.2).sat fun q => (ofO (getO p.1 q.1)).sat fun z => Q (z.getD .non, q.2) := by simp [evGet1, ifR_s]
@[simp ↓] theorem evGet2V_s : (evGet2V i g h (s0 :: ρ)).sat Q = (ofO (viewD (s0 :: ρ) i)).sat fun d0 => isDic d0 = true ∧ (g (s0 :: ρ)).sat fun q => (h q.2).sat fun r => (ofO (viewD r.2 i)).sat fun d => (ofO (getO d q.1)).sat fun z => Q (z.getD r.1, r.2) := by simp [evGet2V, ifR_s]
@[simp] theorem isDic_d {l : List (Str × D)} : isDic (.dic l) = true := rfl
@[simp] theorem getO_s {l : List (Str × D)} {k : Str} : getO (.dic l) (.str k) = some (l.lookup k) := rfl
@[simp ↓] theorem evListIt_s : (evListIt f (s0 :: ρ)).sat Q = (f (s0 :: ρ)).sat fun p => (ofO (litO p.1)).sat fun z => Q (z, p.2) := by simp [evListIt]
@[simp] theorem litO_d {l : List (Str × D)} {Q : D → Prop} : (ofO (litO (.dic l))).sat Q = (l.length ≤ sizeLine ∧ Q (.lst (itemD l))) := by by_cases e : l.length ≤ sizeLine <;> simp [litO, e]
@[simp ↓] theorem evCallT_s {F : Fd} : (evCallT F g (s0 :: ρ)).sat Q = (g (s0 :: ρ)).sat fun p => (F.sem [p.1]).sat fun q => Q (q.1, p.2) := by simp [evCallT]
@[simp ↓] theorem stWhile_s {g : List Sl → RS} : (stWhile u g (s0 :: ρ)).sat N T = (whF u g fuel0 (s0 :: ρ)).sat N T := rfl
/-! list(zip(l, x)) of names and signs, dict of it -/
@[simp] theorem zsO_l {x : List D} : zsO (.lst x) = some x := rfl
@[simp] theorem zsO_t {x : List D} : zsO (.tup x) = some x := rfl
@[simp] theorem zsO_s {x : Str} : zsO (.str x) = some (chrD x) := rfl
end
theorem putD_out {l : List (Str × D)} {k : Str} {v : D} (h : k ∉ l.map (·.1)) : putD l k v = l ++ [(k, v)] := by
  refine putD_new ?_
  induction l with
  | nil => rfl
  | cons x l ih =>
    obtain ⟨a, b⟩ := x
    simp at h
    rw [List.lookup_cons]
    have : (k == a) = false := by simpa using h.1
    rw [this]
    exact ih (by simpa using h.2)
/-! rows of signs -/
def sgD (b : Bool) : Str := if b then ">" else "<"
def sgS (w : List Bool) : Str := ⟨(w.map fun b => if b then 62 else 60).toArray⟩
end Dx

set_option Elab.async false
set_option linter.all false
set_option autoImplicit false
set_option maxRecDepth 100000
set_option maxHeartbeats 1000000
/-! DxMg: rows of signs, arrows, as data. -/
namespace Dx
open PySem PySem.Spec PyProof.Rows L2 TL
def rowsOf : Nat → List (List Bool)
  | 0 => [[]]
  | n + 1 => (rowsOf n).flatMap fun w => [w ++ [false], w ++ [true]]
theorem rowsOf_mem : ∀ {n : Nat} {w : List Bool}, w ∈ rowsOf n ↔ w.length = n
  | 0, w => by simp [rowsOf]
  | n + 1, w => by
    show w ∈ (rowsOf n).flatMap _ ↔ _
    rw [List.mem_flatMap]
    refine ⟨fun ⟨v, hv, h⟩ => ?_, fun h => ?_⟩
    · have := rowsOf_mem.mp hv
      simp at h
      rcases h with rfl | rfl <;> simp [this]
    · have hne : w ≠ [] := fun e => by rw [e] at h; simp at h
      refine ⟨w.dropLast, rowsOf_mem.mpr (by simp [h]), ?_⟩
      have e := List.dropLast_concat_getLast hne
      cases q : w.getLast hne
      · rw [q] at e; exact List.mem_cons.mpr (.inl e.symm)
      · rw [q] at e; exact List.mem_cons.mpr (.inr (List.mem_singleton.mpr e.symm))
def unrB (r : Row) : Bool := decide (r.kd = "unread")
def Lore.unr (l : Lore) : List Str := (l.rows.filter unrB).map Row.nm
def sgn (l : Lore) (w : List Bool) (x : Str) : Bool := ((l.unr.zip w).lookup x).getD true
theorem lk_mem {α : Type} : ∀ {l : List (Str × α)} {x : Str}, (l.lookup x).isSome = decide (x ∈ l.map (·.1))
  | [], _ => rfl
  | (k, v) :: l, x => by
    rw [List.lookup_cons]
    cases h : x == k
    · have : x ≠ k := by simpa using h
      have ih := lk_mem (l := l) (x := x)
      show (l.lookup x).isSome = _
      rw [ih]
      simp [this]
    · have : x = k := by simpa using h
      simp [this]
/-- the sign of the street at a place -/
theorem sgn_at {l : Lore} {w : List Bool} (h : LoreOk l) {pre post : List Row} {r : Row} (e : l.rows = pre ++ r :: post) (hr : unrB r = true) {b : Bool} (hb : w[(pre.filter unrB).length]? = some b) : sgn l w r.nm = b := by
  have hn : r.nm ∉ pre.map Row.nm := by
    have := h.rnd
    rw [e, List.map_append, List.nodup_append] at this
    exact fun z => this.2.2 _ z r.nm (by simp) rfl
  have eu : l.unr = (pre.filter unrB).map Row.nm ++ r.nm :: (post.filter unrB).map Row.nm := by
    unfold Lore.unr; rw [e]; simp [hr]
  have gen : ∀ (xs : List Str) (w : List Bool) (y : Str) (ys : List Str), y ∉ xs → w[xs.length]? = some b → ((xs ++ y :: ys).zip w).lookup y = some b := by
    intro xs
    induction xs with
    | nil =>
      intro w y ys _ hb
      cases w with
      | nil => simp at hb
      | cons c w => simp at hb; subst hb; simp
    | cons x xs ih =>
      intro w y ys hy hb
      cases w with
      | nil => simp at hb
      | cons c w =>
        simp at hb hy
        rw [List.cons_append, List.zip_cons_cons, List.lookup_cons]
        have : (y == x) = false := by simpa using hy.1
        rw [this]
        exact ih w y ys hy.2 hb
  unfold sgn
  rw [eu, gen _ w r.nm _ (fun z => hn (by
    obtain ⟨q, hq, e⟩ := List.mem_map.mp z
    exact e ▸ List.mem_map_of_mem (List.mem_filter.mp hq).1)) (by rw [List.length_map]; exact hb)]
  rfl
theorem sgn_of {l : Lore} (f : Str → Bool) : ∀ r ∈ l.rows, unrB r = true → sgn l (l.unr.map f) r.nm = f r.nm := by
  intro r hr hu
  have hm : r.nm ∈ l.unr := List.mem_map_of_mem (List.mem_filter.mpr ⟨hr, hu⟩)
  have gen : ∀ (xs : List Str) (x : Str), x ∈ xs → ((xs.zip (xs.map f)).lookup x) = some (f x) := by
    intro xs
    induction xs with
    | nil => intro x h; simp at h
    | cons y xs ih =>
      intro x h
      rw [List.map_cons, List.zip_cons_cons, List.lookup_cons]
      cases q : x == y
      · have : x ≠ y := by simpa using q
        exact ih x (by simpa [this] using h)
      · have : x = y := by simpa using q
        rw [this]
  unfold sgn
  rw [gen _ _ hm]
  rfl
theorem arrs_congr {rows : List Row} {f g : Str → Bool} (h : ∀ r ∈ rows, unrB r = true → f r.nm = g r.nm) : arrs rows f = arrs rows g := by
  have : ∀ r ∈ rows, ori f r = ori g r := fun r hr => by
    unfold ori
    split
    · rename_i hu
      rw [h r hr (by simp [unrB, hu])]
    · rfl
  unfold arrs
  induction rows with
  | nil => rfl
  | cons r rows ih =>
    rw [List.flatMap_cons, List.flatMap_cons, this r (by simp), ih (fun r hr => h r (by simp [hr])) fun r hr => this r (by simp [hr])]
/-- the law's maps: rows of signs by which everybody gets everywhere -/
noncomputable def mapB (l : Lore) (w : List Bool) : Bool := @decide (Strong l.pl (arrs l.rows (sgn l w))) (Classical.propDecidable _)
theorem mapB_iff {l : Lore} {w : List Bool} : mapB l w = true ↔ Strong l.pl (arrs l.rows (sgn l w)) := ⟨fun h => @of_decide_eq_true _ (Classical.propDecidable _) h, fun h => @decide_eq_true _ (Classical.propDecidable _) h⟩
theorem rch_in {pl : List Str} {A : List Arr} (h : ∀ a ∈ A, a.2.1 ∈ pl ∧ a.2.2 ∈ pl) {p x : Str} (hp : p ∈ pl) (r : Rch A p x) : x ∈ pl := by
  cases r with
  | refl => exact hp
  | step _ e => exact (h _ e).2
theorem nes_nil {l : List Str} : neO (.lst (l.map .str)) (.lst []) = some (.bl (!nilB l)) := by
  unfold neO
  have e1 : flatD (.lst (l.map .str)) = true := flatL_str l
  have e2 : depD (.lst (l.map .str)) ≤ maxDep := by show depL (l.map .str) + 1 ≤ 60; rw [depL_str]; decide
  rw [e1, decide_eq_true e2]
  cases l <;> rfl
/-- the length of what is come to -/
theorem come_all {pl : List Str} {A : List Arr} {p : Str} {K : List Str} (nd : K.Nodup) (hpl : pl.Nodup) (h : ∀ a ∈ A, a.2.1 ∈ pl ∧ a.2.2 ∈ pl) (hp : p ∈ pl) (hK : ∀ x, x ∈ K ↔ Rch A p x) : (K.length < pl.length) ↔ ¬ ∀ x ∈ pl, Rch A p x := by
  have sub : ∀ x ∈ K, x ∈ pl := fun x hx => rch_in h hp ((hK x).mp hx)
  refine ⟨fun hl z => ?_, fun z => ?_⟩
  · have := len_sub hpl (fun x hx => (hK x).mpr (z x hx))
    omega
  · rw [Classical.not_forall] at z
    obtain ⟨x, hx⟩ := z
    rw [Classical.not_imp] at hx
    have := len_sub (K := x :: K) (l := pl) (List.nodup_cons.mpr ⟨fun y => hx.2 ((hK x).mp y), nd⟩) (by
      intro y hy
      rcases List.mem_cons.mp hy with rfl | hy
      · exact hx.1
      · exact sub y hy)
    simp at this
    omega
end Dx
namespace Dx
open PySem
@[simp] theorem len_lt : (Str.ofString "<").length = 1 := by decide +kernel
@[simp] theorem len_gt : (Str.ofString ">").length = 1 := by decide +kernel
@[simp] theorem sum_two {α : Type} : ∀ l : List α, (l.map fun _ => 2).sum = 2 * l.length
  | [] => rfl
  | _ :: l => by rw [List.map_cons, List.sum_cons, sum_two l, List.length_cons]; omega
end Dx
namespace Dx
open PySem
abbrev ks (f : List (Str × D)) : List Str := f.map (·.1)
/-- places that were come to so far; those of the last level -/
structure CmI (A : List Arr) (p : Str) (f : List (Str × D)) (L : List Str) : Prop where
  nd : (ks f).Nodup
  hp : p ∈ ks f
  rch : ∀ x ∈ ks f, Rch A p x
  hL : ∀ x ∈ L, x ∈ ks f
  cl : ∀ a ∈ A, a.2.1 ∈ ks f → a.2.1 ∉ L → a.2.2 ∈ ks f
structure CmJ (A : List Arr) (p : Str) (f : List (Str × D)) (L : List Str) (pre : List Arr) (f' : List (Str × D)) (lat : List Str) : Prop where
  e : ks f' = ks f ++ lat
  nd : (ks f').Nodup
  rch : ∀ x ∈ ks f', Rch A p x
  cl : ∀ a ∈ pre, a.2.1 ∈ L → a.2.2 ∈ ks f'
theorem CmI.init {A : List Arr} {p : Str} {d : D} : CmI A p [(p, d)] [p] :=
  ⟨by simp, by simp, by simp; exact .refl, by simp, fun a _ h1 h2 => (h2 (by simpa using h1)).elim⟩
theorem CmI.len {A : List Arr} {p : Str} {f : List (Str × D)} {L pl : List Str} (h : CmI A p f L) (hA : ∀ a ∈ A, a.2.1 ∈ pl ∧ a.2.2 ∈ pl) (hp : p ∈ pl) : f.length ≤ pl.length := by
  have := len_sub h.nd (fun x hx => rch_in hA hp (h.rch x hx))
  rwa [List.length_map] at this
theorem CmJ.len {A : List Arr} {p : Str} {f f' : List (Str × D)} {L lat pl : List Str} {pre : List Arr} (h : CmJ A p f L pre f' lat) (hA : ∀ a ∈ A, a.2.1 ∈ pl ∧ a.2.2 ∈ pl) (hp : p ∈ pl) : f'.length ≤ pl.length ∧ f'.length = f.length + lat.length := by
  have := len_sub h.nd (fun x hx => rch_in hA hp (h.rch x hx))
  rw [List.length_map] at this
  have e := congrArg List.length h.e
  simp at e
  exact ⟨this, e⟩
theorem CmI.fin {A : List Arr} {p : Str} {f : List (Str × D)} (h : CmI A p f []) (x : Str) : x ∈ ks f ↔ Rch A p x := by
  refine ⟨h.rch x, fun r => ?_⟩
  induction r with
  | refl => exact h.hp
  | step _ e2 ih => exact h.cl _ e2 ih (by simp)
theorem CmI.start {A : List Arr} {p : Str} {f : List (Str × D)} {L : List Str} (h : CmI A p f L) : CmJ A p f L [] f [] := ⟨by simp, h.nd, h.rch, by simp⟩
theorem CmJ.skip {A : List Arr} {p : Str} {f f' : List (Str × D)} {L lat : List Str} {pre : List Arr} {a : Arr} (h : CmJ A p f L pre f' lat) (w : a.2.1 ∈ L → a.2.2 ∈ ks f') : CmJ A p f L (pre ++ [a]) f' lat :=
  ⟨h.e, h.nd, h.rch, fun b hb hl => by
    rcases List.mem_append.mp hb with hb | hb
    · exact h.cl b hb hl
    · rw [List.mem_singleton.mp hb] at hl ⊢; exact w hl⟩
theorem CmJ.add {A : List Arr} {p : Str} {f f' : List (Str × D)} {L lat : List Str} {pre : List Arr} {s o t : Str} {d : D} (h : CmJ A p f L pre f' lat) (ho : o ∈ ks f') (hm : (s, o, t) ∈ A) (ht : t ∉ ks f') : CmJ A p f L (pre ++ [(s, o, t)]) (putD f' t d) (lat ++ [t]) := by
  have e1 : ks (putD f' t d) = ks f' ++ [t] := by rw [putD_out ht]; simp [ks]
  refine ⟨by rw [e1, h.e]; simp, ?_, ?_, ?_⟩
  · rw [e1, List.nodup_append]
    refine ⟨h.nd, by simp, fun x hx y hy e => ?_⟩
    simp at hy
    subst hy
    exact ht (e ▸ hx)
  · intro x hx
    rw [e1] at hx
    rcases List.mem_append.mp hx with hx | hx
    · exact h.rch x hx
    · rw [List.mem_singleton.mp hx]; exact .step (h.rch o ho) hm
  · intro a ha hal
    rw [e1, List.mem_append]
    rcases List.mem_append.mp ha with ha | ha
    · exact .inl (h.cl a ha hal)
    · rw [List.mem_singleton.mp ha]; exact .inr (by simp)
theorem CmJ.done {A : List Arr} {p : Str} {f f' : List (Str × D)} {L lat : List Str} (h0 : CmI A p f L) (h : CmJ A p f L A f' lat) : CmI A p f' lat := by
  have hsub : ∀ x ∈ ks f, x ∈ ks f' := fun x hx => by rw [h.e]; exact List.mem_append_left _ hx
  refine ⟨h.nd, hsub p h0.hp, h.rch, fun x hx => by rw [h.e]; exact List.mem_append_right _ hx, fun a ha h1 h2 => ?_⟩
  rw [h.e] at h1
  rcases List.mem_append.mp h1 with h1 | h1
  · by_cases q : a.2.1 ∈ L
    · exact h.cl a ha q
    · exact hsub _ (h0.cl a ha h1 q)
  · exact absurd h1 h2
end Dx
namespace Dx
open PySem L2
/-- the signs, as a dict -/
def toldD (l : Lore) (w : List Bool) : List (Str × D) := (l.unr.zip w).map fun p => (p.1, .str (sgD p.2))
@[simp] theorem sgD_gt (b : Bool) : decide (sgD b = ">") = b := by cases b <;> decide +kernel
@[simp] theorem sgD_lt (b : Bool) : decide (sgD b = "<") = !b := by cases b <;> decide +kernel
theorem kd_uk : ("unread" : Str) ≠ "known" := by decide +kernel
theorem kd_ub : ("unread" : Str) ≠ "both" := by decide +kernel
/-- the arrows of a row, by its kind -/
theorem arr_both {f : Str → Bool} {r : Row} (h : r.kd = "both") : arr1 (ori f r) = [(r.nm, r.a, r.b), (r.nm, r.b, r.a)] := by simp [arr1, ori, h, kd_ub.symm]
end Dx
namespace Dx
open PySem L2
end Dx

set_option Elab.async false
set_option linter.all false
set_option autoImplicit false
set_option maxRecDepth 100000
set_option maxHeartbeats 1000000
/-! DxMh: roads from a place. -/
namespace Dx
open PySem L2
theorem lk_get {α : Type} : ∀ {l : List (Str × α)} {x : Str} {v : α}, l.lookup x = some v → (x, v) ∈ l
  | [], _, _, h => by cases h
  | (k, w) :: l, x, v, h => by
    rw [List.lookup_cons] at h
    cases e : x == k
    · rw [e] at h; exact List.mem_cons_of_mem _ (lk_get h)
    · rw [e] at h; cases h
      have : x = k := by simpa using e
      rw [this]; simp
structure RdI (A : List Arr) (p : Str) (f : List (Str × D)) (n : Nat) : Prop where
  nd : (ks f).Nodup
  hp : p ∈ ks f
  rch : ∀ x ∈ ks f, Rch A p x
  le : n ≤ f.length
  cl : ∀ a ∈ A, a.2.1 ∈ (ks f).take n → a.2.2 ∈ ks f
  rd : ∀ x ∈ f, ∃ r : List Str, x.2 = strL r ∧ r.length < f.length
structure RdJ (A : List Arr) (p : Str) (f : List (Str × D)) (c : Str) (pre : List Arr) (f' : List (Str × D)) : Prop where
  e : ∃ lat, ks f' = ks f ++ lat
  nd : (ks f').Nodup
  rch : ∀ x ∈ ks f', Rch A p x
  cl : ∀ a ∈ pre, a.2.1 = c → a.2.2 ∈ ks f'
  rd : ∀ x ∈ f', ∃ r : List Str, x.2 = strL r ∧ r.length < f'.length
section
variable {A : List Arr} {p c : Str} {f f' : List (Str × D)} {n : Nat} {pre : List Arr} {pl : List Str}
theorem RdI.init : RdI A p [(p, strL [])] 0 := ⟨by simp, by simp, by simp; exact .refl, by simp, by simp, fun x hx => ⟨[], by rw [List.mem_singleton.mp hx], by simp⟩⟩
theorem RdI.len (h : RdI A p f n) (hA : ∀ a ∈ A, a.2.1 ∈ pl ∧ a.2.2 ∈ pl) (hp : p ∈ pl) : f.length ≤ pl.length := by
  have := len_sub h.nd (fun x hx => rch_in hA hp (h.rch x hx))
  rwa [List.length_map] at this
theorem RdJ.len (h : RdJ A p f c pre f') (hA : ∀ a ∈ A, a.2.1 ∈ pl ∧ a.2.2 ∈ pl) (hp : p ∈ pl) : f'.length ≤ pl.length := by
  have := len_sub h.nd (fun x hx => rch_in hA hp (h.rch x hx))
  rwa [List.length_map] at this
theorem RdI.start (h : RdI A p f n) : RdJ A p f c [] f := ⟨⟨[], by simp⟩, h.nd, h.rch, by simp, h.rd⟩
theorem RdJ.skip {a : Arr} (h : RdJ A p f c pre f') (w : a.2.1 = c → a.2.2 ∈ ks f') : RdJ A p f c (pre ++ [a]) f' :=
  ⟨h.e, h.nd, h.rch, fun b hb hl => by
    rcases List.mem_append.mp hb with hb | hb
    · exact h.cl b hb hl
    · rw [List.mem_singleton.mp hb] at hl ⊢; exact w hl, h.rd⟩
/-- the road to a place that was come to -/
theorem RdJ.road (h : RdJ A p f c pre f') {o : Str} (ho : o ∈ ks f') : ∃ r : List Str, f'.lookup o = some (strL r) ∧ r.length < f'.length := by
  have : (f'.lookup o).isSome = true := by rw [lk_mem]; exact decide_eq_true ho
  obtain ⟨v, e⟩ := Option.isSome_iff_exists.mp this
  obtain ⟨r, e2, hl⟩ := h.rd _ (lk_get e)
  exact ⟨r, by rw [e]; exact congrArg some e2, hl⟩
theorem RdJ.add {s o t : Str} {r : List Str} (h : RdJ A p f c pre f') (ho : o ∈ ks f') (hm : (s, o, t) ∈ A) (ht : t ∉ ks f') (hl : r.length < f'.length) : RdJ A p f c (pre ++ [(s, o, t)]) (putD f' t (strL (r ++ [s]))) := by
  have e0 : putD f' t (strL (r ++ [s])) = f' ++ [(t, strL (r ++ [s]))] := putD_out ht
  have e1 : ks (putD f' t (strL (r ++ [s]))) = ks f' ++ [t] := by rw [e0]; simp [ks]
  obtain ⟨lat, el⟩ := h.e
  refine ⟨⟨lat ++ [t], by rw [e1, el]; simp⟩, ?_, ?_, ?_, ?_⟩
  · rw [e1, List.nodup_append]
    refine ⟨h.nd, by simp, fun x hx y hy e => ?_⟩
    simp at hy
    subst hy
    exact ht (e ▸ hx)
  · intro x hx
    rw [e1] at hx
    rcases List.mem_append.mp hx with hx | hx
    · exact h.rch x hx
    · rw [List.mem_singleton.mp hx]; exact .step (h.rch o ho) hm
  · intro a ha hal
    rw [e1, List.mem_append]
    rcases List.mem_append.mp ha with ha | ha
    · exact .inl (h.cl a ha hal)
    · rw [List.mem_singleton.mp ha]; exact .inr (by simp)
  · intro x hx
    rw [e0] at hx ⊢
    rw [List.length_append]
    rcases List.mem_append.mp hx with hx | hx
    · obtain ⟨r', e2, h2⟩ := h.rd x hx
      exact ⟨r', e2, by omega⟩
    · rw [List.mem_singleton.mp hx]
      exact ⟨r ++ [s], rfl, by simp; omega⟩
theorem RdJ.done (h0 : RdI A p f n) (hc : (ks f)[n]? = some c) (h : RdJ A p f c A f') : RdI A p f' (n + 1) := by
  obtain ⟨lat, el⟩ := h.e
  have hsub : ∀ x ∈ ks f, x ∈ ks f' := fun x hx => by rw [el]; exact List.mem_append_left _ hx
  have hn : n < (ks f).length := by
    rw [List.getElem?_eq_some_iff] at hc
    exact hc.1
  have e1 := congrArg List.length el
  simp at e1 hn
  refine ⟨h.nd, hsub p h0.hp, h.rch, by omega, fun a ha h1 => ?_, h.rd⟩
  rw [el, List.take_append_of_le_length (by simp; omega), List.take_add_one, hc] at h1
  rcases List.mem_append.mp h1 with h1 | h1
  · exact hsub _ (h0.cl a ha h1)
  · exact h.cl a ha (by simpa using h1)
theorem RdI.fin (h : RdI A p f n) (hn : ¬ n < f.length) (x : Str) : x ∈ ks f ↔ Rch A p x := by
  have e : (ks f).take n = ks f := List.take_of_length_le (by simp; omega)
  refine ⟨h.rch x, fun r => ?_⟩
  induction r with
  | refl => exact h.hp
  | step _ e2 ih => exact h.cl _ e2 (by rw [e]; exact ih)
end
end Dx
namespace Dx
open PySem L2
end Dx

set_option Elab.async false
set_option linter.all false
set_option maxRecDepth 100000
set_option maxHeartbeats 1000000
/-! DxMi: sets of places; which set bars a town that has no map. -/
namespace Dx
open PySem L2 TL
/-- a street with just one end in a set -/
def rimB (s : List Str) (r : Row) : Bool := !(decide (r.a ∈ s) == decide (r.b ∈ s))
/-- it can lead out -/
def outB (s : List Str) (r : Row) : Bool := !decide (r.kd = "known") || decide (r.a ∈ s)
/-- the rows of a set's rim, and what bars -/
def barB (l : Lore) (s : List Str) : Bool := nilB ((l.rows.filter (rimB s)).filter (outB s)) || match l.rows.filter (rimB s) with
  | [r] => decide (r.kd = "unread")
  | _ => false
theorem barB_X (l : Lore) (s : List Str) : barB l s = barX l.rows fun x => decide (x ∈ s) := rfl
/-- all parts of a list, in the law's sequence -/
def parts (pl : List Str) : List (List Str) := pl.foldl (fun acc p => acc ++ acc.map (· ++ [p])) [[]]
theorem parts_add (pre : List Str) (p : Str) : parts (pre ++ [p]) = parts pre ++ (parts pre).map (· ++ [p]) := by simp [parts]
theorem rev_ind {α : Type} {P : List α → Prop} (h0 : P []) (h1 : ∀ l x, P l → P (l ++ [x])) (l : List α) : P l := by
  have : ∀ m : List α, P m.reverse := by
    intro m
    induction m with
    | nil => exact h0
    | cons x m ih => rw [List.reverse_cons]; exact h1 _ _ ih
  have h := this l.reverse
  rwa [List.reverse_reverse] at h
/-- each part of a list is among its parts -/
theorem parts_all (pl : List Str) : ∀ s : List Str, s.Sublist pl → s ∈ parts pl := by
  refine rev_ind (P := fun pl => ∀ s : List Str, s.Sublist pl → s ∈ parts pl) ?_ ?_ pl
  · intro s hs
    rw [List.sublist_nil.mp hs]
    simp [parts]
  · intro l x ih s hs
    rw [parts_add]
    obtain ⟨s1, s2, rfl, h1, h2⟩ := List.sublist_append_iff.mp hs
    have : s2 = [] ∨ s2 = [x] := by
      cases s2 with
      | nil => exact .inl rfl
      | cons y t =>
        have hl := h2.length_le
        simp at hl
        subst hl
        have := h2.subset (List.mem_singleton.mpr rfl)
        rw [List.mem_singleton.mp this]
        exact .inr rfl
    rcases this with rfl | rfl
    · exact List.mem_append_left _ (by simpa using ih s1 h1)
    · exact List.mem_append_right _ (List.mem_map_of_mem (ih s1 h1))
theorem barX_congr {rows : List Row} {X Y : Str → Bool} (h : ∀ r ∈ rows, X r.a = Y r.a ∧ X r.b = Y r.b) : barX rows X = barX rows Y := by
  have e : rows.filter (rimX X) = rows.filter (rimX Y) := List.filter_congr fun r hr => by unfold rimX; rw [(h r hr).1, (h r hr).2]
  unfold barX
  rw [e]
  congr 2
  exact List.filter_congr fun r hr => by
    have := (List.mem_filter.mp hr).1
    unfold outX; rw [(h r this).1]
/-- by a map each set has a street that leads out -/
theorem set_out {l : Lore} {f : Str → Bool} (h : LoreOk l) (hs : Strong l.pl (arrs l.rows f)) {s : List Str} (hset : IsSet l.pl s) : ((arrs l.rows f).any fun a => decide (a.2.1 ∈ s) && !decide (a.2.2 ∈ s)) = true ∧ l.rows.filter (rimB s) ≠ [] ∧ barB l s = false := by
  obtain ⟨h1, h2, h3⟩ := hset
  obtain ⟨x, hx⟩ : ∃ x, x ∈ s := by
    cases s with
    | nil => simp at h2
    | cons x _ => exact ⟨x, by simp⟩
  obtain ⟨y, hy, hys⟩ : ∃ y ∈ l.pl, y ∉ s := by
    refine Classical.byContradiction fun z => ?_
    have : ∀ y ∈ l.pl, y ∈ s := fun y hy => Classical.byContradiction fun w => z ⟨y, hy, w⟩
    have := len_sub h.nd this
    omega
  obtain ⟨⟨st, o, t, hm, ho, ht⟩, h5, h6⟩ := out_of (X := fun x => decide (x ∈ s)) h.ok hs ⟨x, h1.subset hx, decide_eq_true hx⟩ ⟨y, hy, decide_eq_false hys⟩
  refine ⟨List.any_eq_true.mpr ⟨_, hm, ?_⟩, h5, h6⟩
  simp at ho ht ⊢
  exact ⟨ho, ht⟩
/-- there are maps just if no set bars -/
theorem maps_iff {l : Lore} (h : LoreOk l) : (rowsOf l.unr.length).filter (mapB l) ≠ [] ↔ NB l.pl l.rows := by
  rw [← map_iff h.ok h.rnd]
  refine ⟨fun hne => ?_, fun ⟨f, hf⟩ => ?_⟩
  · obtain ⟨w, hw⟩ := List.exists_mem_of_ne_nil _ hne
    exact ⟨_, mapB_iff.mp (List.mem_filter.mp hw).2⟩
  · refine List.ne_nil_of_mem (a := l.unr.map f) (List.mem_filter.mpr ⟨rowsOf_mem.mpr (by simp), mapB_iff.mpr ?_⟩)
    rw [arrs_congr (g := f) fun r hr hu => sgn_of f r hr hu]
    exact hf

/-! ### what a town without a map is told by -/
/-- all ways in which streets can go -/
def wayA (r : Row) : List Arr := if r.kd = "known" then [(r.nm, r.a, r.b)] else [(r.nm, r.a, r.b), (r.nm, r.b, r.a)]
def waysA (rows : List Row) : List Arr := rows.flatMap wayA
def revA (A : List Arr) : List Arr := A.map fun a => (a.1, a.2.2, a.2.1)
def bothA (rows : List Row) : List Arr := rows.flatMap fun r => [(r.nm, r.a, r.b), (r.nm, r.b, r.a)]
def woA (rows : List Row) (s : Str) : List Arr := (bothA rows).filter fun a => !decide (a.1 = s)
theorem way_row {rows : List Row} {s o t : Str} (h : (s, o, t) ∈ waysA rows) : ∃ r ∈ rows, r.nm = s ∧ ((o = r.a ∧ t = r.b) ∨ (r.kd ≠ "known" ∧ o = r.b ∧ t = r.a)) := by
  obtain ⟨r, hr, h⟩ := List.mem_flatMap.mp h
  refine ⟨r, hr, ?_⟩
  unfold wayA at h
  split at h
  · simp at h; obtain ⟨rfl, rfl, rfl⟩ := h; exact ⟨rfl, .inl ⟨rfl, rfl⟩⟩
  · rename_i hk
    simp at h
    rcases h with ⟨rfl, rfl, rfl⟩ | ⟨rfl, rfl, rfl⟩
    · exact ⟨rfl, .inl ⟨rfl, rfl⟩⟩
    · exact ⟨rfl, .inr ⟨hk, rfl, rfl⟩⟩
theorem both_row {rows : List Row} {s o t : Str} (h : (s, o, t) ∈ bothA rows) : ∃ r ∈ rows, r.nm = s ∧ ((o = r.a ∧ t = r.b) ∨ (o = r.b ∧ t = r.a)) := by
  obtain ⟨r, hr, h⟩ := List.mem_flatMap.mp h
  refine ⟨r, hr, ?_⟩
  simp at h
  rcases h with ⟨rfl, rfl, rfl⟩ | ⟨rfl, rfl, rfl⟩
  · exact ⟨rfl, .inl ⟨rfl, rfl⟩⟩
  · exact ⟨rfl, .inr ⟨rfl, rfl⟩⟩
theorem way_in {rows : List Row} {r : Row} (h : r ∈ rows) : (r.nm, r.a, r.b) ∈ waysA rows ∧ (r.kd ≠ "known" → (r.nm, r.b, r.a) ∈ waysA rows) := by
  refine ⟨List.mem_flatMap.mpr ⟨r, h, ?_⟩, fun hk => List.mem_flatMap.mpr ⟨r, h, ?_⟩⟩
  · unfold wayA; split <;> simp
  · unfold wayA; rw [if_neg hk]; simp
theorem rev_mem {A : List Arr} {s o t : Str} : (s, o, t) ∈ revA A ↔ (s, t, o) ∈ A := by
  unfold revA
  rw [List.mem_map]
  refine ⟨fun ⟨⟨a, b, c⟩, h, e⟩ => ?_, fun h => ⟨_, h, rfl⟩⟩
  simp at e
  obtain ⟨rfl, rfl, rfl⟩ := e
  exact h
theorem wo_mem {rows : List Row} {s n o t : Str} : (n, o, t) ∈ woA rows s ↔ (n, o, t) ∈ bothA rows ∧ n ≠ s := by
  unfold woA
  rw [List.mem_filter]
  simp
/-- nothing that can go leads out of it -/
theorem closed_bars {rows : List Row} {X : Str → Bool} (h : ∀ s o t, (s, o, t) ∈ waysA rows → X o = true → X t = true) : barX rows X = true := by
  refine barX_iff.mpr (.inl fun r hr ne => ?_)
  have hw := way_in hr
  have h1 := h _ _ _ hw.1
  by_cases hk : r.kd = "known"
  · refine ⟨hk, ?_⟩
    cases e : X r.a with
    | false => rfl
    | true => rw [h1 e, e] at ne; exact (ne rfl).elim
  · have h2 := h _ _ _ (hw.2 hk)
    exfalso
    apply ne
    cases e : X r.a with
    | true => rw [h1 e]
    | false => cases e2 : X r.b with
      | false => rfl
      | true => rw [h2 e2] at e; cases e
/-- one unread street alone is at its rim, or none -/
theorem alone_bars {rows : List Row} {X : Str → Bool} {s : Str} (nd : (rows.map Row.nm).Nodup) (hu : s ∈ (rows.filter unrB).map Row.nm) (h : ∀ r ∈ rows, r.nm ≠ s → X r.a = X r.b) : barX rows X = true := by
  obtain ⟨r0, h0, e0⟩ := List.mem_map.mp hu
  obtain ⟨hr0, hk⟩ := List.mem_filter.mp h0
  have hk : r0.kd = "unread" := by simpa [unrB] using hk
  have uniq : ∀ r ∈ rows, r.nm = s → r = r0 := by
    intro r hr e
    rw [← e0] at e
    obtain ⟨i, hi, ei⟩ := List.mem_iff_getElem.mp hr
    obtain ⟨j, hj, ej⟩ := List.mem_iff_getElem.mp hr0
    have : i = j := by
      have e2 : (rows.map Row.nm)[i]'(by simpa using hi) = (rows.map Row.nm)[j]'(by simpa using hj) := by simp [ei, ej, e]
      exact (List.getElem_inj nd).mp e2
    subst this
    rw [← ei, ← ej]
  have sub : ∀ r ∈ rows.filter (rimX X), r = r0 := by
    intro r hr
    obtain ⟨h1, h2⟩ := List.mem_filter.mp hr
    by_cases e : r.nm = s
    · exact uniq r h1 e
    · have := h r h1 e
      unfold rimX at h2
      rw [this] at h2
      simp at h2
  have ndr : rows.Nodup := by
    rw [List.nodup_iff_pairwise_ne] at nd ⊢
    exact (List.pairwise_map.mp nd).imp fun h e => h (congrArg Row.nm e)
  have ndf : (rows.filter (rimX X)).Nodup := ndr.filter _
  match e : rows.filter (rimX X) with
  | [] => exact barX_iff.mpr (.inl fun r hr ne => absurd (show r ∈ rows.filter (rimX X) from List.mem_filter.mpr ⟨hr, by unfold rimX; simpa using ne⟩) (by rw [e]; simp))
  | [r] => exact barX_iff.mpr (.inr ⟨r, e, by rw [sub r (by rw [e]; simp)]; exact hk⟩)
  | r :: q :: m =>
    rw [e] at ndf
    have e1 := sub r (by rw [e]; simp)
    have e2 := sub q (by rw [e]; simp)
    rw [e1, e2] at ndf
    simp at ndf
/-- no set bars -/
theorem none_bars {pl : List Str} {rows : List Row} {p0 : Str} (h1 : ∀ x ∈ pl, Rch (waysA rows) p0 x) (h2 : ∀ x ∈ pl, Rch (revA (waysA rows)) p0 x) (h3 : ∀ s ∈ (rows.filter unrB).map Row.nm, ∀ x ∈ pl, Rch (woA rows s) p0 x) : NB pl rows := by
  intro X ⟨p, hp, Xp⟩ ⟨q, hq, Xq⟩
  cases hb : barX rows X with
  | false => rfl
  | true =>
    exfalso
    rcases barX_iff.mp hb with h | ⟨r, e, hk⟩
    · have key : ∀ s o t, (s, o, t) ∈ waysA rows → X o = true → X t = false → False := by
        intro s o t hm ho ht
        obtain ⟨r, hr, _, ⟨rfl, rfl⟩ | ⟨hk, rfl, rfl⟩⟩ := way_row hm
        · have := (h r hr (by rw [ho, ht]; simp)).2
          rw [ho] at this; cases this
        · exact hk (h r hr (by rw [ho, ht]; simp)).1
      cases e0 : X p0 with
      | true =>
        obtain ⟨s, o, t, hm, ho, ht⟩ := (h1 q hq).leave X e0 Xq
        exact key s o t hm ho ht
      | false =>
        obtain ⟨s, o, t, hm, ho, ht⟩ := (h2 p hp).leave (fun x => !X x) (by rw [e0]; rfl) (by rw [Xp]; rfl)
        exact key s t o (rev_mem.mp hm) (by simpa using ht) (by simpa using ho)
    · have hr : r ∈ rows.filter (rimX X) := by rw [e]; simp
      have hu : r.nm ∈ (rows.filter unrB).map Row.nm := List.mem_map_of_mem (List.mem_filter.mpr ⟨(List.mem_filter.mp hr).1, by simp [unrB, hk]⟩)
      have key : ∀ n o t, (n, o, t) ∈ woA rows r.nm → X o ≠ X t → False := by
        intro n o t hm hne
        obtain ⟨hb, hn⟩ := wo_mem.mp hm
        obtain ⟨r', hr', en, hx⟩ := both_row hb
        have : r' ∈ rows.filter (rimX X) := List.mem_filter.mpr ⟨hr', by
          unfold rimX
          rcases hx with ⟨rfl, rfl⟩ | ⟨rfl, rfl⟩
          · simpa using hne
          · simpa using fun z => hne (Eq.symm z)⟩
        rw [e] at this
        rw [List.mem_singleton.mp this] at en
        exact hn en.symm
      cases e0 : X p0 with
      | true =>
        obtain ⟨n, o, t, hm, ho, ht⟩ := (h3 _ hu q hq).leave X e0 Xq
        exact key n o t hm (by rw [ho, ht]; simp)
      | false =>
        obtain ⟨n, o, t, hm, ho, ht⟩ := (h3 _ hu p hp).leave (fun x => !X x) (by rw [e0]; rfl) (by rw [Xp]; rfl)
        exact key n o t hm fun z => by simp at ho ht; rw [ho, ht] at z; cases z
/-- what is told of a set is enough to know that it bars -/
theorem bars_of {l : Lore} (h : LoreOk l) {X : Str → Bool} (hb : barX l.rows X = true) : barB l (l.pl.filter X) = true := by
  rw [barB_X, ← hb]
  refine barX_congr fun r hr => ?_
  have e : ∀ x ∈ l.pl, decide (x ∈ l.pl.filter X) = X x := fun x hx => by
    cases q : X x
    · exact decide_eq_false fun z => by rw [(List.mem_filter.mp z).2] at q; cases q
    · exact decide_eq_true (List.mem_filter.mpr ⟨hx, q⟩)
  exact ⟨e _ (h.ok r hr).a, e _ (h.ok r hr).b⟩
end Dx

set_option Elab.async false
set_option linter.all false
set_option maxRecDepth 100000
set_option maxHeartbeats 1000000
/-! DxMj: towns of either class; lore as a dict; more simp rules. -/
namespace Dx
open PySem PySem.Spec PyProof.Rows L2 TL
def TC (c : Str) : Prop := c = "Town" ∨ c = "MadeTown"
theorem TC.t : TC "Town" := .inl rfl
theorem TC.m : TC "MadeTown" := .inr rfl
abbrev T (c : Str) (l : Lore) : D := townD c l.text l
/-- lore as a dict -/
def Lore.dd (l : Lore) : D := .dic [("places", .lst (l.pl.map .str)), ("streets", .lst (l.rows.map Row.tup))]
section
variable {s0 : Sl} {ρ : List Sl} {f g h : List Sl → R (D × List Sl)} {l : List Sl → R (List D × List Sl)} {i : Nat} {Q : D × List Sl → Prop} {QL : List D × List Sl → Prop} {N : List Sl → Prop} {T : Bool → D → List Sl → Prop}
@[simp ↓] theorem evDst_s : (evDst f g h (s0 :: ρ)).sat Q = (f (s0 :: ρ)).sat fun p => (ofO (dicL p.1)).sat fun l => l.length < sizeLine ∧ (g p.2).sat fun q => (h q.2).sat fun r => (ofO (strK q.1)).sat fun k => Q (.dic (putD l k r.1), r.2) := by simp [evDst, ifR_s]
@[simp] theorem dicL_d {l : List (Str × D)} : dicL (.dic l) = some l := rfl
@[simp] theorem strK_s {x : Str} : strK (.str x) = some x := rfl
@[simp ↓] theorem evCallO_s {sem : List D → R (List D)} : (evCallO sem l (s0 :: ρ)).sat QL = (l (s0 :: ρ)).sat fun p => (sem p.1).sat fun q => QL (q, p.2) := by simp [evCallO]
@[simp ↓] theorem stForO_s {F : List Sl → R (List D × List Sl)} {k : List Sl → RS} : (stForO i F k (s0 :: ρ)).sat N T = (F (s0 :: ρ)).sat fun p => (forL (fun d ρ => putSl ρ i (.ow d)) k p.1 p.2).sat N T := by simp [stForO]
@[simp ↓] theorem evLcO_s {vs : List Nat} {s : List Sl → R (List D × List Sl)} {t : D → List Sl → Option (List Sl)} {u : List Sl → R (Bool × List Sl)} : (evLcO vs s t u f (s0 :: ρ)).sat QL = (s (s0 :: ρ)).sat fun p => (lcL vs t u (chkL f) [] p.1 (wipeR p.2 vs)).sat QL := by simp [evLcO]
@[simp ↓] theorem chkL_s : (chkL f (s0 :: ρ)).sat Q = (f (s0 :: ρ)).sat fun q => isLst q.1 = true ∧ Q q := by simp [chkL, ifR_s]
@[simp ↓] theorem evRep_s : (evRep f g (s0 :: ρ)).sat Q = (f (s0 :: ρ)).sat fun p => isLst p.1 = true ∧ (g p.2).sat fun q => (ofO (repF p.1 q.1)).sat fun z => Q (z, q.2) := by simp [evRep, ifR_s]
@[simp] theorem isLst_l {l : List D} : isLst (.lst l) = true := rfl
end
end Dx
namespace Dx
open PySem
/-- a street about -/
def turnR (rows : List Row) (s : Str) : List Row := rows.map fun r => if r.nm = s then ⟨r.nm, r.kd, r.b, r.a⟩ else r
theorem row_uniq {rows : List Row} (nd : (rows.map Row.nm).Nodup) {r q : Row} (hr : r ∈ rows) (hq : q ∈ rows) (e : r.nm = q.nm) : r = q := by
  obtain ⟨i, hi, ei⟩ := List.mem_iff_getElem.mp hr
  obtain ⟨j, hj, ej⟩ := List.mem_iff_getElem.mp hq
  have : i = j := by
    have e2 : (rows.map Row.nm)[i]'(by simpa using hi) = (rows.map Row.nm)[j]'(by simpa using hj) := by simp [ei, ej, e]
    exact (List.getElem_inj nd).mp e2
  subst this
  rw [← ei, ← ej]
theorem LoreOk.rows {l : Lore} (h : LoreOk l) {f : Row → Row} (hn : ∀ r ∈ l.rows, (f r).nm = r.nm) (ho : ∀ r ∈ l.rows, RowOk l.pl (f r)) : LoreOk ⟨l.pl, l.rows.map f⟩ where
  nd := h.nd
  lo := h.lo
  hi := h.hi
  nm := h.nm
  rnd := by
    show ((l.rows.map f).map Row.nm).Nodup
    rw [List.map_map]
    rw [show l.rows.map (Row.nm ∘ f) = l.rows.map Row.nm from List.map_congr_left fun r hr => hn r hr]
    exact h.rnd
  few := by show (l.rows.map f).length ≤ 20; rw [List.length_map]; exact h.few
  ok := fun r hr => by
    obtain ⟨q, hq, rfl⟩ := List.mem_map.mp hr
    exact ho q hq
theorem RowOk.turn {pl : List Str} {r : Row} (h : RowOk pl r) : RowOk pl ⟨r.nm, r.kd, r.b, r.a⟩ := ⟨h.nm, h.kd, h.b, h.a, fun z => h.ne z.symm⟩
theorem LoreOk.turn {l : Lore} (h : LoreOk l) {s : Str} : LoreOk ⟨l.pl, turnR l.rows s⟩ :=
  h.rows (fun r _ => by split <;> rfl) fun r hr => by split; exact (h.ok r hr).turn; exact h.ok r hr
end Dx
namespace Dx
open PySem L2 TL
@[simp] theorem join_l4 {x a b c d : Str} {Q : D → Prop} : (ofO (joinO (.str x) (.lst [.str a, .str b, .str c, .str d]))).sat Q = (([a, b, c, d].map (·.length)).sum + [a, b, c, d].length * x.length ≤ 16777216 ∧ Q (.str (Txt.join x [a, b, c, d]))) := join_l (l := [a, b, c, d])
end Dx
namespace Dx
open PySem L2 TL
end Dx
namespace Dx
open PySem L2 TL
/-- a road over new places -/
theorem road_ok {P : List Str} {one other : Str} {I : List Str} (h2 : I.length ≤ 2) (nd : (P ++ I).Nodup) (h1 : one ∈ P) (ho : other ∈ P) (hne : I ≠ [] ∨ one ≠ other) : ∀ z ∈ (one :: (I ++ [other])).zip (I ++ [other]), PairOk (P ++ I) z := by
  rw [List.nodup_append] at nd
  obtain ⟨_, ndI, nd3⟩ := nd
  match I, h2 with
  | [], _ =>
    have hne : one ≠ other := by rcases hne with z | z; exact (z rfl).elim; exact z
    intro z hz
    simp at hz
    subst hz
    exact ⟨by simp [h1], by simp [ho], hne⟩
  | [a], _ =>
    intro z hz
    simp at hz
    rcases hz with rfl | rfl
    · exact ⟨by simp [h1], by simp, nd3 _ h1 a (by simp)⟩
    · exact ⟨by simp, by simp [ho], fun e => nd3 _ ho a (by simp) e.symm⟩
  | [a, b], _ =>
    intro z hz
    simp at hz
    rcases hz with rfl | rfl | rfl
    · exact ⟨by simp [h1], by simp, nd3 _ h1 a (by simp)⟩
    · exact ⟨by simp, by simp, by simpa using ndI⟩
    · exact ⟨by simp, by simp [ho], fun e => nd3 _ ho b (by simp) e.symm⟩
  | a :: b :: c :: t, h => simp at h
theorem PairOk.more {P I : List Str} {z : Str × Str} (h : PairOk P z) : PairOk (P ++ I) z := ⟨List.mem_append_left _ h.1, List.mem_append_left _ h.2.1, h.2.2⟩
end Dx
namespace Dx
open PySem L2 TL
@[simp] theorem ne_nn : neO (.lst []) (.lst []) = some (.bl false) := nes_nil (l := [])
end Dx
namespace Dx
open PySem L2 TL
end Dx
namespace Dx
open PySem L2 TL
/-! places come to, as a list -/
structure LsI (A : List Arr) (p : Str) (K : List Str) (n : Nat) : Prop where
  nd : K.Nodup
  hp : p ∈ K
  rch : ∀ x ∈ K, Rch A p x
  le : n ≤ K.length
  cl : ∀ a ∈ A, a.2.1 ∈ K.take n → a.2.2 ∈ K
structure LsJ (A : List Arr) (p : Str) (K : List Str) (c : Str) (pre : List Arr) (K' : List Str) : Prop where
  e : ∃ lat, K' = K ++ lat
  nd : K'.Nodup
  rch : ∀ x ∈ K', Rch A p x
  cl : ∀ a ∈ pre, a.2.1 = c → a.2.2 ∈ K'
section
variable {A : List Arr} {p c : Str} {K K' : List Str} {n : Nat} {pre : List Arr} {pl : List Str}
theorem LsI.init : LsI A p [p] 0 := ⟨by simp, by simp, by simp; exact .refl, by simp, by simp⟩
theorem LsI.len (h : LsI A p K n) (hA : ∀ a ∈ A, a.2.1 ∈ pl ∧ a.2.2 ∈ pl) (hp : p ∈ pl) : K.length ≤ pl.length := len_sub h.nd (fun x hx => rch_in hA hp (h.rch x hx))
theorem LsJ.len (h : LsJ A p K c pre K') (hA : ∀ a ∈ A, a.2.1 ∈ pl ∧ a.2.2 ∈ pl) (hp : p ∈ pl) : K'.length ≤ pl.length := len_sub h.nd (fun x hx => rch_in hA hp (h.rch x hx))
theorem LsI.start (h : LsI A p K n) : LsJ A p K c [] K := ⟨⟨[], by simp⟩, h.nd, h.rch, by simp⟩
theorem LsJ.skip {a : Arr} (h : LsJ A p K c pre K') (w : a.2.1 = c → a.2.2 ∈ K') : LsJ A p K c (pre ++ [a]) K' :=
  ⟨h.e, h.nd, h.rch, fun b hb hl => by
    rcases List.mem_append.mp hb with hb | hb
    · exact h.cl b hb hl
    · rw [List.mem_singleton.mp hb] at hl ⊢; exact w hl⟩
theorem LsJ.add {s o t : Str} (h : LsJ A p K c pre K') (ho : o ∈ K') (hm : (s, o, t) ∈ A) (ht : t ∉ K') : LsJ A p K c (pre ++ [(s, o, t)]) (K' ++ [t]) := by
  obtain ⟨lat, el⟩ := h.e
  refine ⟨⟨lat ++ [t], by rw [el]; simp⟩, ?_, ?_, ?_⟩
  · rw [List.nodup_append]
    refine ⟨h.nd, by simp, fun x hx y hy e => ?_⟩
    simp at hy
    subst hy
    exact ht (e ▸ hx)
  · intro x hx
    rcases List.mem_append.mp hx with hx | hx
    · exact h.rch x hx
    · rw [List.mem_singleton.mp hx]; exact .step (h.rch o ho) hm
  · intro a ha hal
    rw [List.mem_append]
    rcases List.mem_append.mp ha with ha | ha
    · exact .inl (h.cl a ha hal)
    · rw [List.mem_singleton.mp ha]; exact .inr (by simp)
theorem LsJ.done (h : LsJ A p K c A K') (h0 : LsI A p K n) (hc : K[n]? = some c) : LsI A p K' (n + 1) := by
  obtain ⟨lat, el⟩ := h.e
  have hn : n < K.length := (List.getElem?_eq_some_iff.mp hc).1
  refine ⟨h.nd, by rw [el]; exact List.mem_append_left _ h0.hp, h.rch, by rw [el, List.length_append]; omega, fun a ha hl => ?_⟩
  have et : K'.take (n + 1) = K.take n ++ [c] := by
    rw [el, List.take_append_of_le_length (by omega), List.take_add_one, hc]
    rfl
  rw [et, List.mem_append] at hl
  rcases hl with hl | hl
  · rw [el]; exact List.mem_append_left _ (h0.cl a ha hl)
  · exact h.cl a ha (List.mem_singleton.mp hl)
theorem LsI.fin (h : LsI A p K n) (hn : ¬ n < K.length) (x : Str) : x ∈ K ↔ Rch A p x := by
  have e : n = K.length := by have := h.le; omega
  refine ⟨h.rch x, fun r => ?_⟩
  induction r with
  | refl => exact h.hp
  | step r hm ih => exact h.cl _ hm (by rw [e, List.take_length]; exact ih)
end
theorem Rch.trans {A : List Arr} {p q x : Str} (a : Rch A p q) (b : Rch A q x) : Rch A p x := by
  induction b with
  | refl => exact a
  | step r hm ih => exact .step ih hm
theorem rch_rev {A : List Arr} {p x : Str} (h : Rch (revA A) p x) : Rch A x p := by
  induction h with
  | refl => exact .refl
  | step r hm ih => exact Rch.trans (.step .refl (rev_mem.mp hm)) ih
theorem rch_rev' {A : List Arr} {p x : Str} (h : Rch A x p) : Rch (revA A) p x := by
  induction h with
  | refl => exact .refl
  | step r hm ih => exact Rch.trans (.step .refl (rev_mem.mpr hm)) ih
/-- from one place all, and to it from all -/
theorem strong_two {pl : List Str} {A : List Arr} {p0 : Str} (hp : p0 ∈ pl) : Strong pl A ↔ (∀ x ∈ pl, Rch A p0 x) ∧ ∀ x ∈ pl, Rch (revA A) p0 x :=
  ⟨fun h => ⟨h p0 hp, fun x hx => rch_rev' (h x hx p0 hp)⟩, fun ⟨h1, h2⟩ p hpp x hx => (rch_rev (h2 p hpp)).trans (h1 x hx)⟩
end Dx
namespace Dx
open PySem L2 TL
end Dx
namespace Dx
open PySem L2 TL
end Dx
namespace Dx
open PySem L2 TL
end Dx
namespace Dx
open PySem L2 TL
def MC (m : Str) : Prop := m = "Map" ∨ m = "MadeMap"
theorem MC.p : MC "Map" := .inl rfl
theorem MC.m : MC "MadeMap" := .inr rfl
/-- a map: by its class, that of its town -/
abbrev M (m c : Str) (l : Lore) (w : List Bool) : D := .ins m [("own_town", T c l), ("own_signs", .str (sgS w))]
end Dx

set_option Elab.async false
set_option linter.all false
set_option maxRecDepth 100000
set_option maxHeartbeats 1000000
/-! DxMk: claims that are read; a map for them. -/
namespace Dx
open PySem PySem.Spec PyProof.Rows L2 TL
section
variable {s0 : Sl} {ρ : List Sl} {f g : List Sl → R (D × List Sl)} {Q : D × List Sl → Prop} {t : EqT}
@[simp ↓] theorem evEqX_s : (evEqX t f g (s0 :: ρ)).sat Q = (f (s0 :: ρ)).sat fun p => (g p.2).sat fun q => (eqX t p.1 q.1).sat fun z => Q (z, q.2) := by simp [evEqX]
@[simp ↓] theorem evNeX_s : (evNeX t f g (s0 :: ρ)).sat Q = (f (s0 :: ρ)).sat fun p => (g p.2).sat fun q => (neX t p.1 q.1).sat fun z => Q (z, q.2) := by simp [evNeX]
end
abbrev Clm := Str × Bool
/-- a claim, as data -/
def clD (p : Clm) : D := .tup [.str p.1, .str (sgD p.2)]
def tell (r : Row) (b : Bool) : Row := if b then fwd r else bwd r
theorem tell_nm {r : Row} {b : Bool} : (tell r b).nm = r.nm := by cases b <;> rfl
def rdR (cl : List Clm) (r : Row) : Row := match cl.lookup r.nm with
  | some b => tell r b
  | none => r
/-- the claims are read -/
def rdL (l : Lore) (cl : List Clm) : Lore := ⟨l.pl, l.rows.map (rdR cl)⟩
theorem rdR_nm {cl : List Clm} {r : Row} : (rdR cl r).nm = r.nm := by unfold rdR; split; exact tell_nm; rfl
theorem lk_out {α : Type} {l : List (Str × α)} {x : Str} (h : x ∉ l.map (·.1)) : l.lookup x = none := by
  cases e : l.lookup x with
  | none => rfl
  | some v =>
    have : (l.lookup x).isSome = true := by rw [e]; rfl
    rw [lk_mem] at this
    exact absurd (of_decide_eq_true this) h
theorem lk_app {α : Type} {l m : List (Str × α)} {x : Str} : (l ++ m).lookup x = (l.lookup x).or (m.lookup x) := by
  induction l with
  | nil => simp
  | cons p l ih =>
    obtain ⟨k, v⟩ := p
    rw [List.cons_append, List.lookup_cons, List.lookup_cons]
    cases x == k <;> simp [ih]
theorem RowOk.tell {pl : List Str} {r : Row} {b : Bool} (h : RowOk pl r) : RowOk pl (tell r b) := by
  have k : ("known" : Str) ∈ kinds := by decide +kernel
  cases b
  · exact ⟨h.nm, k, h.b, h.a, fun z => h.ne z.symm⟩
  · exact ⟨h.nm, k, h.a, h.b, h.ne⟩
theorem RowOk.rd {pl : List Str} {r : Row} {cl : List Clm} (h : RowOk pl r) : RowOk pl (rdR cl r) := by unfold rdR; split; exact h.tell; exact h
theorem LoreOk.rd {l : Lore} (h : LoreOk l) {cl : List Clm} : LoreOk (rdL l cl) := h.rows (fun r _ => rdR_nm) fun r hr => (h.ok r hr).rd
/-- one claim more -/
theorem rdR_add {cl : List Clm} {s : Str} {b : Bool} {r : Row} (hs : s ∉ cl.map (·.1)) : rdR (cl ++ [(s, b)]) r = rdR [(s, b)] (rdR cl r) := by
  by_cases e : r.nm = s
  · have h1 : cl.lookup r.nm = none := lk_out (by rw [e]; exact hs)
    unfold rdR
    rw [lk_app, h1]
    simp only [Option.none_or]
  · have h1 : ([(s, b)] : List Clm).lookup r.nm = none := lk_out (by simpa using e)
    have h2 : rdR [(s, b)] (rdR cl r) = rdR cl r := by
      have hn : (rdR cl r).nm = r.nm := rdR_nm
      generalize rdR cl r = q at hn ⊢
      unfold rdR
      rw [hn, h1]
    rw [h2]
    unfold rdR
    rw [lk_app, h1]
    simp
theorem mem_unr {l : Lore} {s : Str} (h : s ∈ l.unr) : ∃ r ∈ l.rows, r.nm = s ∧ r.kd = "unread" := by
  obtain ⟨r, hr, e⟩ := List.mem_map.mp h
  obtain ⟨h1, h2⟩ := List.mem_filter.mp hr
  exact ⟨r, h1, e, by simpa [unrB] using h2⟩
theorem unr_mem {l : Lore} {r : Row} (hr : r ∈ l.rows) (hk : r.kd = "unread") : r.nm ∈ l.unr := List.mem_map_of_mem (List.mem_filter.mpr ⟨hr, by simp [unrB, hk]⟩)
/-- reading one street: one row exchanged -/
theorem rd_one {rows : List Row} (nd : (rows.map Row.nm).Nodup) {r : Row} (hr : r ∈ rows) (b : Bool) : rows.map (rdR [(r.nm, b)]) = rows.map fun x => if x.nm = r.nm then tell r b else x := by
  refine List.map_congr_left fun x hx => ?_
  unfold rdR
  by_cases e : x.nm = r.nm
  · rw [if_pos e]
    have : x = r := row_uniq nd hx hr e
    subst this
    simp
  · rw [if_neg e, lk_out (by simpa using e)]
theorem split_at {rows : List Row} (nd : (rows.map Row.nm).Nodup) {r : Row} (hr : r ∈ rows) (b : Bool) : ∃ L R, rows = L ++ r :: R ∧ rows.map (rdR [(r.nm, b)]) = L ++ tell r b :: R := by
  obtain ⟨L, R, e⟩ := List.append_of_mem hr
  refine ⟨L, R, e, ?_⟩
  rw [rd_one nd hr b, e, List.map_append, List.map_cons, if_pos rfl]
  rw [e, List.map_append, List.map_cons, List.nodup_append] at nd
  obtain ⟨_, nd2, nd3⟩ := nd
  rw [List.nodup_cons] at nd2
  have h1 : L.map (fun x => if x.nm = r.nm then tell r b else x) = L := by
    rw [show L.map (fun x => if x.nm = r.nm then tell r b else x) = L.map id from List.map_congr_left fun x hx => if_neg fun z => nd3 _ (List.mem_map_of_mem hx) _ (List.mem_cons_self ..) z, List.map_id]
  have h2 : R.map (fun x => if x.nm = r.nm then tell r b else x) = R := by
    rw [show R.map (fun x => if x.nm = r.nm then tell r b else x) = R.map id from List.map_congr_left fun x hx => if_neg fun z : x.nm = r.nm => nd2.1 (by rw [← z]; exact List.mem_map_of_mem hx), List.map_id]
  rw [h1, h2]
/-- of an unread street one way or the other leaves a map -/
theorem nb_read {l : Lore} (h : LoreOk l) {r : Row} (hr : r ∈ l.rows) (hk : r.kd = "unread") (hn : NB l.pl l.rows) : NB l.pl (rdL l [(r.nm, true)]).rows ∨ NB l.pl (rdL l [(r.nm, false)]).rows := by
  obtain ⟨L, R, e, e1⟩ := split_at h.rnd hr true
  obtain ⟨L2, R2, e', e2⟩ := split_at h.rnd hr false
  have : L2 = L ∧ R2 = R := by
    rw [e] at e'
    have nd := h.rnd
    rw [e, List.map_append, List.map_cons, List.nodup_append] at nd
    have hl : L.length = L2.length := by
      have i1 : (L ++ r :: R)[L.length]? = some r := by simp
      have i2 : (L ++ r :: R)[L2.length]? = some r := by rw [e']; simp
      have nd0 := h.rnd
      rw [e] at nd0
      have l1 := (List.getElem?_eq_some_iff.mp i1).1
      have l2 := (List.getElem?_eq_some_iff.mp i2).1
      have e1 := (List.getElem?_eq_some_iff.mp i1).2
      have e2 := (List.getElem?_eq_some_iff.mp i2).2
      exact (List.getElem_inj nd0 (h₀ := by simpa using l1) (h₁ := by simpa using l2)).mp (by simp only [List.getElem_map, e1, e2])
    have := List.append_inj e' hl
    exact ⟨this.1.symm, by have := this.2; simp at this; exact this.symm⟩
  obtain ⟨rfl, rfl⟩ := this
  show NB l.pl (l.rows.map (rdR [(r.nm, true)])) ∨ NB l.pl (l.rows.map (rdR [(r.nm, false)]))
  rw [e1, e2]
  rw [e] at hn
  exact nb_step (fun q hq => by rw [← e] at hq; exact ⟨(h.ok q hq).a, (h.ok q hq).b⟩) hk hn
/-- claims of unlike unread streets -/
structure ClOk (l : Lore) (cl : List Clm) : Prop where
  nd : (cl.map (·.1)).Nodup
  un : ∀ p ∈ cl, p.1 ∈ l.unr
theorem ClOk.nil {l : Lore} : ClOk l [] := ⟨by simp, by simp⟩
theorem ClOk.one {l : Lore} {s : Str} {b : Bool} (h : s ∈ l.unr) : ClOk l [(s, b)] := ⟨by simp, by simpa using h⟩
theorem ClOk.add {l : Lore} {cl : List Clm} {s : Str} {b : Bool} (h : ClOk l cl) (h1 : s ∈ l.unr) (h2 : s ∉ cl.map (·.1)) : ClOk l (cl ++ [(s, b)]) := by
  refine ⟨?_, fun p hp => ?_⟩
  · rw [List.map_append, List.nodup_append]
    refine ⟨h.nd, by simp, fun x hx y hy e => ?_⟩
    simp at hy
    subst hy
    exact h2 (e ▸ hx)
  · rcases List.mem_append.mp hp with hp | hp
    · exact h.un p hp
    · rw [List.mem_singleton.mp hp]; exact h1
theorem ClOk.len {l : Lore} {cl : List Clm} (h : ClOk l cl) : cl.length ≤ l.unr.length := by
  have := len_sub h.nd (l := l.unr) fun x hx => by obtain ⟨p, hp, rfl⟩ := List.mem_map.mp hx; exact h.un p hp
  simpa using this
theorem ClOk.pre {l : Lore} {cl post : List Clm} (h : ClOk l (cl ++ post)) : ClOk l cl := by
  refine ⟨?_, fun p hp => h.un p (List.mem_append_left _ hp)⟩
  have := h.nd
  rw [List.map_append, List.nodup_append] at this
  exact this.1
/-- what is unread still -/
theorem rd_unr {l : Lore} {cl : List Clm} (hcl : ∀ p ∈ cl, p.1 ∈ l.unr) : (rdL l cl).unr = l.unr.filter fun s => !decide (s ∈ cl.map (·.1)) := by
  have key : ∀ rows : List Row, (((rows.map (rdR cl)).filter unrB).map Row.nm) = (((rows.filter unrB).map Row.nm).filter fun s => !decide (s ∈ cl.map (·.1))) := by
    intro rows
    induction rows with
    | nil => rfl
    | cons r rows ih =>
      have e1 : unrB (rdR cl r) = (unrB r && !decide (r.nm ∈ cl.map (·.1))) := by
        have hlk := lk_mem (l := cl) (x := r.nm)
        unfold rdR
        cases e : cl.lookup r.nm with
        | none =>
          rw [e] at hlk
          have : decide (r.nm ∈ cl.map (·.1)) = false := hlk.symm
          rw [this]; simp
        | some b =>
          rw [e] at hlk
          have : decide (r.nm ∈ cl.map (·.1)) = true := hlk.symm
          rw [this]
          have : (tell r b).kd = "known" := by cases b <;> rfl
          simp [unrB, this, kd_uk.symm]
      simp only [List.map_cons, List.filter_cons, e1]
      cases h1 : unrB r with
      | false => simpa using ih
      | true =>
        cases h2 : decide (r.nm ∈ cl.map (·.1)) with
        | true => simp only [Bool.not_true, Bool.and_false, Bool.true_and, if_true, List.map_cons, List.filter_cons, h2]; simpa using ih
        | false => simp only [Bool.not_false, Bool.and_true, if_true, List.map_cons, List.filter_cons, h2, rdR_nm]; simpa using ih
  exact key l.rows
/-- all is told: a map -/
theorem told_map {l : Lore} (h : LoreOk l) {told : List Clm} (hc : ∀ s ∈ l.unr, s ∈ told.map (·.1)) (hu : ∀ p ∈ told, p.1 ∈ l.unr) (hn : NB l.pl (rdL l told).rows) : Strong l.pl (arrs l.rows fun s => (told.lookup s).getD true) := by
  refine strong_of h.ok ?_
  have : l.rows.map (ori fun s => (told.lookup s).getD true) = l.rows.map (rdR told) := by
    refine List.map_congr_left fun r hr => ?_
    have hlk := lk_mem (l := told) (x := r.nm)
    by_cases hk : r.kd = "unread"
    · have hin := hc _ (unr_mem hr hk)
      rw [decide_eq_true hin] at hlk
      obtain ⟨b, eb⟩ := Option.isSome_iff_exists.mp hlk
      unfold ori rdR
      rw [if_pos hk]
      show (if (told.lookup r.nm).getD true = true then fwd r else bwd r) = _
      rw [eb]
      rfl
    · unfold ori rdR
      rw [if_neg hk]
      cases e : told.lookup r.nm with
      | none => rfl
      | some b =>
        rw [e] at hlk
        have hin : r.nm ∈ told.map (·.1) := of_decide_eq_true hlk.symm
        obtain ⟨p, hp, ep⟩ := List.mem_map.mp hin
        obtain ⟨q, hq, e1, e2⟩ := mem_unr (hu p hp)
        have : r = q := row_uniq h.rnd hr hq (by rw [e1, ep])
        exact absurd (this ▸ e2) hk
  rw [this]
  exact hn
/-! signs, as a text -/
end Dx
namespace Dx
open PySem L2 TL
end Dx
namespace Dx
open PySem L2 TL
end Dx

set_option Elab.async false
set_option linter.all false
set_option maxRecDepth 100000
set_option maxHeartbeats 1000000
/-! DxMl: dict comprehensions that change nothing; towns changed by a street, a place. -/
namespace Dx
open PySem PySem.Spec PyProof.Rows L2 TL
section
variable {s0 : Sl} {ρ : List Sl} {f g h : List Sl → R (D × List Sl)} {u : List Sl → R (Bool × List Sl)} {p : Option (List Sl → R (D × List Sl))} {Q : D × List Sl → Prop}
@[simp ↓] theorem evDc_s {vs : List Nat} {s : List Sl → R (List D × List Sl)} {t : D → List Sl → Option (List Sl)} : (evDc vs s t u f g (s0 :: ρ)).sat Q = (s (s0 :: ρ)).sat fun p => (dcL vs t u f g [] p.1 (wipeR p.2 vs)).sat fun q => Q (.dic q.1, q.2) := by simp [evDc]
@[simp ↓] theorem evRev_s : (evRev f p (s0 :: ρ)).sat Q = (f (s0 :: ρ)).sat fun x => (evPart p x.2).sat fun y => (ofO (revO y.1 x.1)).sat fun w => Q (w, y.2) := by simp [evRev]
end
/-- a dict comprehension that changes nothing else, with unlike keys -/
theorem dcL_pure {α : Type} {vs : List Nat} {t : D → List Sl → Option (List Sl)} {u : List Sl → R (Bool × List Sl)} {f g : List Sl → R (D × List Sl)} {Q : List (Str × D) × List Sl → Prop} (enc : α → D) (p : α → Bool) (k : α → Str) (v : α → D) (l : List α) {ρ : List Sl} (nd : (l.map k).Nodup)
    (step : ∀ x ∈ l, ∃ ρ1, t (enc x) ρ = some ρ1 ∧ (u ρ1).sat fun q => q.1 = p x ∧ if p x then (f q.2).sat fun r => r.1 = .str (k x) ∧ (g r.2).sat fun z => z.1 = v x ∧ wipeR z.2 vs = ρ else wipeR q.2 vs = ρ)
    (hl : l.length ≤ sizeLine) (fin : Q ((l.filter p).map fun x => (k x, v x), ρ)) : (dcL vs t u f g [] (l.map enc) ρ).sat Q := by
  have gen : ∀ (post pre : List α), l = pre ++ post → (dcL vs t u f g ((pre.filter p).map fun x => (k x, v x)) (post.map enc) ρ).sat Q := by
    intro post
    induction post with
    | nil => intro pre e; rw [List.append_nil] at e; subst e; show (R.ok (_, ρ)).sat Q; rw [R.sat_ok]; exact fin
    | cons x post ih =>
      intro pre e
      have hx : x ∈ l := by rw [e]; simp
      obtain ⟨ρ1, e1, s⟩ := step x hx
      show ((ofO (t (enc x) ρ)).bind fun ρ1 => (u ρ1).nox.bind fun q => match q.1 with
        | true => (f q.2).nox.bind fun q => (g q.2).nox.bind fun r => (ofO (strO q.1)).bind fun kk => if decide (((pre.filter p).map fun x => (k x, v x)).length < sizeLine) = true then dcL vs t u f g (putD ((pre.filter p).map fun x => (k x, v x)) kk r.1) (post.map enc) (wipeR r.2 vs) else .bad
        | false => dcL vs t u f g ((pre.filter p).map fun x => (k x, v x)) (post.map enc) (wipeR q.2 vs)).sat Q
      rw [e1, ofO_some]
      show ((u ρ1).nox.bind _).sat Q
      rw [R.sat_bind, R.sat_nox]
      refine s.mono fun q ⟨hq, hr⟩ => ?_
      obtain ⟨b, ρ2⟩ := q
      dsimp only at hq hr ⊢
      subst hq
      have ih := ih (pre ++ [x]) (by rw [e]; simp)
      rw [List.filter_append, List.map_append] at ih
      cases hb : p x with
      | true =>
        rw [hb, if_pos rfl] at hr
        rw [show ([x].filter p).map (fun x => (k x, v x)) = [(k x, v x)] by simp [hb]] at ih
        show ((f ρ2).nox.bind _).sat Q
        rw [R.sat_bind, R.sat_nox]
        refine hr.mono fun r ⟨h1, h2⟩ => ?_
        show ((g r.2).nox.bind _).sat Q
        rw [R.sat_bind, R.sat_nox]
        refine h2.mono fun z ⟨h3, h4⟩ => ?_
        rw [h1]
        show (if decide (((pre.filter p).map fun x => (k x, v x)).length < sizeLine) = true then dcL vs t u f g (putD ((pre.filter p).map fun x => (k x, v x)) (k x) z.1) (post.map enc) (wipeR z.2 vs) else .bad).sat Q
        have h5 : ((pre.filter p).map fun x => (k x, v x)).length < sizeLine := by
          have : pre.length < l.length := by rw [e]; simp
          have h6 : ((pre.filter p).map fun x => (k x, v x)).length ≤ pre.length := by rw [List.length_map]; exact List.length_filter_le _ _
          omega
        rw [if_pos (decide_eq_true h5), h3, h4, putD_out]
        · exact ih
        · rw [List.map_map]
          intro z
          obtain ⟨y, hy, ey⟩ := List.mem_map.mp z
          rw [e, List.map_append, List.map_cons, List.nodup_append] at nd
          exact nd.2.2 _ (List.mem_map_of_mem (List.mem_filter.mp hy).1) _ (List.mem_cons_self ..) ey
      | false =>
        rw [hb] at hr
        rw [if_neg (by simp)] at hr
        rw [show ([x].filter p).map (fun x => (k x, v x)) = [] by simp [hb], List.append_nil] at ih
        show (dcL vs t u f g _ (post.map enc) (wipeR ρ2 vs)).sat Q
        rw [hr]
        exact ih
  exact gen l [] rfl
@[simp] theorem revO_t {l : List D} : revO none (.tup l) = some (.tup l.reverse) := rfl
@[simp] theorem revO_l {l : List D} : revO none (.lst l) = some (.lst l.reverse) := rfl
@[simp] theorem revO_0 {l : List D} : revO (some 0) (.tup l) = some (.tup (l.drop 1).reverse) := rfl
@[simp] theorem revO_1 {l : List D} : revO (some 1) (.tup l) = some (.tup (l.drop 2).reverse) := rfl
/-! rows -/
def delR (rows : List Row) (s : Str) : List Row := rows.filter fun r => !decide (r.nm = s)
theorem LoreOk.sub {l : Lore} (h : LoreOk l) {rows : List Row} (hs : rows.Sublist l.rows) : LoreOk ⟨l.pl, rows⟩ where
  nd := h.nd
  lo := h.lo
  hi := h.hi
  nm := h.nm
  rnd := (hs.map Row.nm).nodup h.rnd
  few := Nat.le_trans hs.length_le h.few
  ok := fun r hr => h.ok r (hs.subset hr)
theorem LoreOk.del {l : Lore} (h : LoreOk l) {s : Str} : LoreOk ⟨l.pl, delR l.rows s⟩ := h.sub List.filter_sublist
theorem LoreOk.add {l : Lore} (h : LoreOk l) {r : Row} (hr : RowOk l.pl r) (hn : r.nm ∉ l.rows.map Row.nm) (hf : l.rows.length < 20) : LoreOk ⟨l.pl, l.rows ++ [r]⟩ where
  nd := h.nd
  lo := h.lo
  hi := h.hi
  nm := h.nm
  rnd := by
    show ((l.rows ++ [r]).map Row.nm).Nodup
    rw [List.map_append, List.nodup_append]
    refine ⟨h.rnd, by simp, fun x hx y hy e => ?_⟩
    simp at hy
    subst hy
    exact hn (e ▸ hx)
  few := by show (l.rows ++ [r]).length ≤ 20; rw [List.length_append, List.length_singleton]; omega
  ok := fun q hq => by
    rcases List.mem_append.mp hq with hq | hq
    · exact h.ok q hq
    · rw [List.mem_singleton.mp hq]; exact hr
end Dx

set_option Elab.async false
set_option linter.all false
set_option autoImplicit false
set_option maxRecDepth 100000
set_option maxHeartbeats 1000000
/-! DxMo: what must hold behind a piece of code that may raise (tot), and what each construct asks. -/
namespace Dx
open PySem PySem.Spec PyProof.Rows L2 TL
def R.tot {α : Type} (r : R α) (X : Str → D → Prop) (Q : α → Prop) : Prop := (∃ a, r = .ok a ∧ Q a) ∨ ∃ c d, r = .exc c d ∧ X c d
section
variable {α β γ : Type} {Q Q' : α → Prop} {X X' : Str → D → Prop}
@[simp] theorem R.tot_ok (a : α) : (R.ok a).tot X Q = Q a := by simp [R.tot]
@[simp] theorem R.tot_bad : (R.bad : R α).tot X Q = False := by simp [R.tot]
@[simp] theorem R.tot_exc (c : Str) (d : D) : (R.exc c d : R α).tot X Q = X c d := propext ⟨fun h => by rcases h with ⟨_, e, _⟩ | ⟨_, _, e, h⟩ <;> cases e; exact h, fun h => .inr ⟨c, d, rfl, h⟩⟩
@[simp] theorem R.tot_bind (r : R β) (k : β → R α) : (r.bind k).tot X Q = r.tot X fun a => (k a).tot X Q := by cases r <;> simp
@[simp] theorem R.tot_nox (r : R α) : r.nox.tot X Q = r.sat Q := by cases r <;> simp [R.nox]
@[simp] theorem ofO_tot (o : Option α) : (ofO o).tot X Q = (ofO o).sat Q := by cases o <;> simp [ofO]
theorem R.sat.tot {r : R α} (h : r.sat Q) : r.tot X Q := .inl h
theorem R.tot.mono {r : R α} (h : r.tot X Q) (w : ∀ a, Q a → Q' a) (x : ∀ c d, X c d → X' c d) : r.tot X' Q' := by
  rcases h with ⟨a, e, q⟩ | ⟨c, d, e, q⟩
  · exact .inl ⟨a, e, w a q⟩
  · exact .inr ⟨c, d, e, x c d q⟩
theorem R.tot.sat {r : R α} (h : r.tot X Q) (x : ∀ c d, ¬ X c d) : r.sat Q := by
  rcases h with h | ⟨c, d, _, q⟩
  · exact h
  · exact (x c d q).elim
end
def RS.tot (r : RS) (X : Str → D → Prop) (N : List Sl → Prop) (T : Bool → D → List Sl → Prop) : Prop := (∃ ρ, r = .nx ρ ∧ N ρ) ∨ (∃ o d ρ, r = .rt o d ρ ∧ T o d ρ) ∨ ∃ c d, r = .exc c d ∧ X c d
section
variable {α β : Type} {N N' : List Sl → Prop} {T T' : Bool → D → List Sl → Prop} {X X' : Str → D → Prop}
@[simp] theorem RS.tot_nx (ρ : List Sl) : (RS.nx ρ).tot X N T = N ρ := by simp [RS.tot]
@[simp] theorem RS.tot_rt (o : Bool) (d : D) (ρ : List Sl) : (RS.rt o d ρ).tot X N T = T o d ρ := by
  simp only [RS.tot, reduceCtorEq, false_and, exists_false, RS.rt.injEq, false_or, or_false]
  exact propext ⟨fun ⟨_, _, _, ⟨e1, e2, e3⟩, h⟩ => by subst e1 e2 e3; exact h, fun h => ⟨_, _, _, ⟨rfl, rfl, rfl⟩, h⟩⟩
@[simp] theorem RS.tot_exc (c : Str) (d : D) : (RS.exc c d).tot X N T = X c d := by
  simp only [RS.tot, reduceCtorEq, false_and, exists_false, RS.exc.injEq, false_or]
  exact propext ⟨fun ⟨_, _, ⟨e1, e2⟩, h⟩ => by subst e1 e2; exact h, fun h => ⟨_, _, ⟨rfl, rfl⟩, h⟩⟩
@[simp] theorem RS.tot_bad : RS.bad.tot X N T = False := by simp [RS.tot]
@[simp] theorem RS.tot_bk (ρ : List Sl) : (RS.bk ρ).tot X N T = False := by simp [RS.tot]
@[simp] theorem RS.tot_ct (ρ : List Sl) : (RS.ct ρ).tot X N T = False := by simp [RS.tot]
@[simp] theorem RS.tot_bind (r : RS) (k : List Sl → RS) : (r.bind k).tot X N T = r.tot X (fun ρ => (k ρ).tot X N T) T := by cases r <;> simp
@[simp] theorem R.st_tot (r : R α) (k : α → RS) : (r.st k).tot X N T = r.tot X fun a => (k a).tot X N T := by cases r <;> simp
theorem RS.sat.tot {r : RS} (h : r.sat N T) : r.tot X N T := by
  rcases h with h | h
  · exact .inl h
  · exact .inr (.inl h)
theorem RS.tot.mono {r : RS} (h : r.tot X N T) (x : ∀ c d, X c d → X' c d) (n : ∀ ρ, N ρ → N' ρ) (t : ∀ o d ρ, T o d ρ → T' o d ρ) : r.tot X' N' T' := by
  rcases h with ⟨ρ, e, h⟩ | ⟨o, d, ρ, e, h⟩ | ⟨c, d, e, h⟩
  · exact .inl ⟨ρ, e, n _ h⟩
  · exact .inr (.inl ⟨o, d, ρ, e, t _ _ _ h⟩)
  · exact .inr (.inr ⟨c, d, e, x c d h⟩)
/-- a def's meaning -/
theorem semOf_tot {n : Nat} {ms : List Md} {own : Bool} {g : List Sl → RS} {ds : List D} {Q : D × List D → Prop} (hl : lenEq ds ms = true)
    (h : (g (iniS ms ds n)).tot X (fun ρ => own = false ∧ (ofO (outsR ms 0 ρ)).sat fun o => Q (.non, o)) (fun o z ρ => o = own ∧ (ofO (outsR ms 0 ρ)).sat fun l => Q (z, l))) : (semOf n ms own g ds).tot X Q := by
  rcases h with h | h | ⟨c, d, e, h⟩
  · exact (semOf_sat hl (.inl h)).tot
  · exact (semOf_sat hl (.inr h)).tot
  · refine .inr ⟨c, d, ?_, h⟩
    unfold semOf
    rw [if_pos (lenEq_of hl), e]
end
section
variable {s0 : Sl} {ρ : List Sl} {f : List Sl → R (D × List Sl)} {c : Str} {cs : List Str} {X : Str → D → Prop} {N : List Sl → Prop} {T : Bool → D → List Sl → Prop} {Q : D × List Sl → Prop}
@[simp ↓] theorem stRaise_t : (stRaise c f (s0 :: ρ)).tot X N T = (f (s0 :: ρ)).tot X fun p => X c p.1 := by simp [stRaise]
@[simp] theorem stRaise_s : (stRaise c f ρ).sat N T = False := by unfold stRaise; cases f ρ <;> simp [R.st]
/-- what is caught -/
@[simp ↓] theorem evCau_s : (evCau cs f (s0 :: ρ)).sat Q = (f (shO (s0 :: ρ))).tot (fun c d => cs.contains c = true ∧ Q (.exn c d, s0 :: ρ)) fun _ => Q (.non, s0 :: ρ) := by
  unfold evCau
  cases f (shO (s0 :: ρ)) with
  | ok p => simp
  | exc c d => by_cases h : cs.contains c = true <;> simp [h]
  | bad => simp
@[simp ↓] theorem evAns_s : (evAns cs f (s0 :: ρ)).sat Q = (f (shO (s0 :: ρ))).tot (fun c d => cs.contains c = true ∧ Q (.tup [.exn c d, .non], s0 :: ρ)) fun p => Q (.tup [.non, p.1], s0 :: ρ) := by
  unfold evAns
  cases f (shO (s0 :: ρ)) with
  | ok p => simp
  | exc c d => by_cases h : cs.contains c = true <;> simp [h]
  | bad => simp
@[simp] theorem shO_nil : shO [] = [] := rfl
@[simp] theorem shO_sh {d : D} : shO (.sh d :: ρ) = .sh d :: shO ρ := rfl
@[simp] theorem shO_un : shO (.un :: ρ) = .un :: shO ρ := rfl
@[simp] theorem shO_ow {d : D} : shO (.ow d :: ρ) = .un :: shO ρ := rfl
@[simp] theorem shO_br {d : D} : shO (.br d :: ρ) = .un :: shO ρ := rfl
@[simp] theorem shO_mt {d : D} : shO (.mt d :: ρ) = .un :: shO ρ := rfl
@[simp ↓] theorem evXv_s : (evXv cs f (s0 :: ρ)).sat Q = (f (s0 :: ρ)).sat fun p => ∃ c d, p.1 = .exn c d ∧ cs.contains c = true ∧ Q (d, p.2) := by
  unfold evXv
  rw [R.sat_bind]
  congr 1
  funext p
  obtain ⟨d, s⟩ := p
  cases d with
  | exn c e =>
    show (if cs.contains c then (R.ok (e, s)) else .bad).sat Q = _
    by_cases h : cs.contains c = true
    · rw [if_pos h, R.sat_ok]
      exact propext ⟨fun q => ⟨c, e, rfl, h, q⟩, fun ⟨c', d', e1, _, q⟩ => by cases e1; exact q⟩
    · rw [if_neg h, R.sat_bad]
      exact propext ⟨False.elim, fun ⟨c', d', e1, h2, _⟩ => by cases e1; exact h h2⟩
  | _ => simp
@[simp ↓] theorem evIsiX_s {t : IsiT} {xs : List (Str × Bool)} : (evIsiX t xs f (s0 :: ρ)).sat Q = (f (s0 :: ρ)).sat fun p => (ofO (isiX t xs p.1)).sat fun z => Q (z, p.2) := by simp [evIsiX]
@[simp] theorem eqE_l {l : List D} : eqEO (.lst l) (.lst []) = some (.bl l.isEmpty) := rfl
@[simp] theorem neE_l {l : List D} : neEO (.lst l) (.lst []) = some (.bl (!l.isEmpty)) := rfl
@[simp] theorem isNon_x {c : Str} {d : D} : isNon (.exn c d) = false := rfl
@[simp] theorem isiX_x {t : IsiT} {xs : List (Str × Bool)} {c : Str} {d : D} : isiX t xs (.exn c d) = (xs.lookup c).map .bl := rfl
@[simp] theorem isiX_n {t : IsiT} {xs : List (Str × Bool)} : isiX t xs .non = isiF t .non := rfl
end
section
variable {α β : Type} {X : Str → D → Prop} {Q : D × List Sl → Prop} {QB : Bool × List Sl → Prop} {QL : List D × List Sl → Prop} {QA : List Ar × List Sl → Prop} {N : List Sl → Prop} {T : Bool → D → List Sl → Prop} {ρ : List Sl} {s0 : Sl} {i : Nat} {d : D}
  {f g h : List Sl → R (D × List Sl)} {u v : List Sl → R (Bool × List Sl)} {l : List Sl → R (List D × List Sl)} {a : List Sl → R (List Ar × List Sl)} {t : EqT} {p : Option (List Sl → R (D × List Sl))}
@[simp] theorem ite_sat_t {c : Prop} [Decidable c] {x y : R α} {Q : α → Prop} : (if c then x else y).tot X Q = if c then x.tot X Q else y.tot X Q := by by_cases h : c <;> simp [-heldB_s, -ownD_s, -viewD_s, -putSl_s, -putO_s, -arIx_d, -arIx_s, h]
@[simp] theorem iteS_sat_t {c : Prop} [Decidable c] {x y : RS} : (if c then x else y).tot X N T = if c then x.tot X N T else y.tot X N T := by by_cases h : c <;> simp [-heldB_s, -ownD_s, -viewD_s, -putSl_s, -putO_s, -arIx_d, -arIx_s, h]
@[simp ↓] theorem evLit_s_t : (evLit d (s0 :: ρ)).tot X Q = Q (d, (s0 :: ρ)) := R.tot_ok _
@[simp ↓] theorem ev2_s_t {F : D → D → Option D} : (ev2 F f g (s0 :: ρ)).tot X Q = (f (s0 :: ρ)).tot X fun p => (g p.2).tot X fun q => (ofO (F p.1 q.1)).tot X fun z => Q (z, q.2) := by simp [-heldB_s, -ownD_s, -viewD_s, -putSl_s, -putO_s, -arIx_d, -arIx_s, ev2]
@[simp ↓] theorem evB_s_t : (evB f (s0 :: ρ)).tot X QB = (f (s0 :: ρ)).tot X fun p => (toB p).tot X QB := by
  unfold evB
  rw [R.tot_bind]
  congr 1
@[simp ↓] theorem evT_s_t : (evT f (s0 :: ρ)).tot X QB = (f (s0 :: ρ)).tot X fun p => (ofO (truD p.1)).tot X fun k => QB (k, p.2) := by simp [-heldB_s, -ownD_s, -viewD_s, -putSl_s, -putO_s, -arIx_d, -arIx_s, evT]
@[simp ↓] theorem evAnd_s_t : (evAnd u v (s0 :: ρ)).tot X QB = (u (s0 :: ρ)).tot X fun p => (if p.1 = true then v p.2 else .ok (false, p.2)).tot X QB := by
  unfold evAnd
  rw [R.tot_bind]
  congr 1
  funext p
  obtain ⟨b, s⟩ := p
  cases b <;> simp
@[simp ↓] theorem evOr_s_t : (evOr u v (s0 :: ρ)).tot X QB = (u (s0 :: ρ)).tot X fun p => (if p.1 = true then .ok (true, p.2) else v p.2).tot X QB := by
  unfold evOr
  rw [R.tot_bind]
  congr 1
  funext p
  obtain ⟨b, s⟩ := p
  cases b <;> simp
@[simp ↓] theorem evNot_s_t : (evNot u (s0 :: ρ)).tot X QB = (u (s0 :: ρ)).tot X fun p => QB (!p.1, p.2) := by simp [-heldB_s, -ownD_s, -viewD_s, -putSl_s, -putO_s, -arIx_d, -arIx_s, evNot]
@[simp ↓] theorem evYes_s_t : (evYes (s0 :: ρ)).tot X QB = QB (true, (s0 :: ρ)) := R.tot_ok _
@[simp ↓] theorem evIf_s_t {f g : List Sl → R (α × List Sl)} {Q : α × List Sl → Prop} : (evIf u f g (s0 :: ρ)).tot X Q = (u (s0 :: ρ)).tot X fun p => (if p.1 = true then f p.2 else g p.2).tot X Q := by
  unfold evIf
  rw [R.tot_bind]
  congr 1
  funext p
  obtain ⟨b, s⟩ := p
  cases b <;> simp
@[simp ↓] theorem evAndV_s_t : (evAndV f g (s0 :: ρ)).tot X Q = (f (s0 :: ρ)).tot X fun p => (toB p).tot X fun k => (if k.1 = true then g k.2 else .ok (.bl false, k.2)).tot X Q := by
  unfold evAndV
  rw [R.tot_bind]
  congr 1
  funext p
  obtain ⟨d, s⟩ := p
  cases d <;> first | (rename_i b; cases b <;> simp [-heldB_s, -ownD_s, -viewD_s, -putSl_s, -putO_s, -arIx_d, -arIx_s, toB, toI]; done) | simp [-heldB_s, -ownD_s, -viewD_s, -putSl_s, -putO_s, -arIx_d, -arIx_s, toB, toI]
@[simp ↓] theorem evOrV_s_t : (evOrV f g (s0 :: ρ)).tot X Q = (f (s0 :: ρ)).tot X fun p => (toB p).tot X fun k => (if k.1 = true then .ok (.bl true, k.2) else g k.2).tot X Q := by
  unfold evOrV
  rw [R.tot_bind]
  congr 1
  funext p
  obtain ⟨d, s⟩ := p
  cases d <;> first | (rename_i b; cases b <;> simp [-heldB_s, -ownD_s, -viewD_s, -putSl_s, -putO_s, -arIx_d, -arIx_s, toB, toI]; done) | simp [-heldB_s, -ownD_s, -viewD_s, -putSl_s, -putO_s, -arIx_d, -arIx_s, toB, toI]
@[simp ↓] theorem evNotV_s_t : (evNotV f (s0 :: ρ)).tot X Q = (f (s0 :: ρ)).tot X fun p => (toB p).tot X fun k => Q (.bl (!k.1), k.2) := by
  unfold evNotV
  rw [R.tot_bind]
  congr 1
  funext p
  obtain ⟨d, s⟩ := p
  cases d <;> first | (rename_i b; cases b <;> simp [-heldB_s, -ownD_s, -viewD_s, -putSl_s, -putO_s, -arIx_d, -arIx_s, toB, toI]; done) | simp [-heldB_s, -ownD_s, -viewD_s, -putSl_s, -putO_s, -arIx_d, -arIx_s, toB, toI]
@[simp ↓] theorem evChn_s_t {F G : D → D → Option D} : (evChn F G f g h (s0 :: ρ)).tot X Q = (f (s0 :: ρ)).tot X fun p => (g p.2).tot X fun q => (ofO (F p.1 q.1)).tot X fun z => (toB (z, q.2)).tot X fun k => (if k.1 = true then (h k.2).bind fun r => (ofO (G q.1 r.1)).bind fun z => .ok (z, r.2) else .ok (.bl false, k.2)).tot X Q := by
  unfold evChn
  rw [R.tot_bind]
  congr 1
  funext p
  rw [R.tot_bind]
  congr 1
  funext q
  cases F p.1 q.1 with
  | none => simp
  | some z => cases z <;> first | (rename_i b; cases b <;> simp [-heldB_s, -ownD_s, -viewD_s, -putSl_s, -putO_s, -arIx_d, -arIx_s, toB]; done) | simp [-heldB_s, -ownD_s, -viewD_s, -putSl_s, -putO_s, -arIx_d, -arIx_s, toB]
@[simp ↓] theorem evNil_s_t : (evNil (s0 :: ρ)).tot X QL = QL ([], (s0 :: ρ)) := R.tot_ok _
@[simp ↓] theorem evCons_s_t : (evCons f l (s0 :: ρ)).tot X QL = (f (s0 :: ρ)).tot X fun p => (l p.2).tot X fun q => QL (p.1 :: q.1, q.2) := by simp [-heldB_s, -ownD_s, -viewD_s, -putSl_s, -putO_s, -arIx_d, -arIx_s, evCons]
theorem ifR_s_t {c : Prop} [Decidable c] {x : R α} {Q : α → Prop} : (if c then x else .bad).tot X Q = (c ∧ x.tot X Q) := by
  by_cases h : c <;> simp [-heldB_s, -ownD_s, -viewD_s, -putSl_s, -putO_s, -arIx_d, -arIx_s, h]
@[simp ↓] theorem evTup_s_t : (evTup l (s0 :: ρ)).tot X Q = (l (s0 :: ρ)).tot X fun p => okLen p.1.length = true ∧ Q (.tup p.1, p.2) := by simp [-heldB_s, -ownD_s, -viewD_s, -putSl_s, -putO_s, -arIx_d, -arIx_s, evTup, ifR_s_t]
@[simp ↓] theorem evLst_s_t : (evLst l (s0 :: ρ)).tot X Q = (l (s0 :: ρ)).tot X fun p => okLen p.1.length = true ∧ Q (.lst p.1, p.2) := by simp [-heldB_s, -ownD_s, -viewD_s, -putSl_s, -putO_s, -arIx_d, -arIx_s, evLst, ifR_s_t]
@[simp ↓] theorem evL_s_t {F : List D → Option D} : (evL F l (s0 :: ρ)).tot X Q = (l (s0 :: ρ)).tot X fun p => (ofO (F p.1)).tot X fun z => Q (z, p.2) := by simp [-heldB_s, -ownD_s, -viewD_s, -putSl_s, -putO_s, -arIx_d, -arIx_s, evL]
@[simp ↓] theorem frzE_s_t : (frzE f (s0 :: ρ)).tot X Q = (f (s0 :: ρ)).tot X fun p => frzD p.1 = true ∧ Q p := by simp [-heldB_s, -ownD_s, -viewD_s, -putSl_s, -putO_s, -arIx_d, -arIx_s, frzE, ifR_s_t]
@[simp ↓] theorem evNeg_s_t : (evNeg f (s0 :: ρ)).tot X Q = (f (s0 :: ρ)).tot X fun p => (toI p).tot X fun k => Q (.int (-k.1), k.2) := by
  unfold evNeg
  rw [R.tot_bind]
  congr 1
  funext p
  obtain ⟨d, s⟩ := p
  cases d <;> first | (rename_i b; cases b <;> simp [-heldB_s, -ownD_s, -viewD_s, -putSl_s, -putO_s, -arIx_d, -arIx_s, toB, toI]; done) | simp [-heldB_s, -ownD_s, -viewD_s, -putSl_s, -putO_s, -arIx_d, -arIx_s, toB, toI]
@[simp ↓] theorem evPart_none_t {Q : Option Int × List Sl → Prop} : (evPart none (s0 :: ρ)).tot X Q = Q (none, (s0 :: ρ)) := R.tot_ok _
@[simp ↓] theorem evPart_some_t {Q : Option Int × List Sl → Prop} : (evPart (some f) (s0 :: ρ)).tot X Q = (f (s0 :: ρ)).tot X fun p => (toI p).tot X fun k => Q (some k.1, k.2) := by
  unfold evPart
  rw [R.tot_bind]
  congr 1
  funext p
  obtain ⟨d, s⟩ := p
  cases d <;> first | (rename_i b; cases b <;> simp [-heldB_s, -ownD_s, -viewD_s, -putSl_s, -putO_s, -arIx_d, -arIx_s, toB, toI]; done) | simp [-heldB_s, -ownD_s, -viewD_s, -putSl_s, -putO_s, -arIx_d, -arIx_s, toB, toI]
@[simp ↓] theorem evSl3_s_t {p q : Option (List Sl → R (D × List Sl))} : (evSl3 f p q (s0 :: ρ)).tot X Q = (f (s0 :: ρ)).tot X fun x => (evPart p x.2).tot X fun y => (evPart q y.2).tot X fun z => (ofO (slA y.1 z.1 x.1)).tot X fun w => Q (w, z.2) := by simp [-heldB_s, -ownD_s, -viewD_s, -putSl_s, -putO_s, -arIx_d, -arIx_s, evSl3, evSl]
@[simp ↓] theorem evMt_s_t {F : D → List D → Option (D × D)} : (evMt F i l (s0 :: ρ)).tot X Q = ((∃ d, ownD (s0 :: ρ) i = some d ∧ isLst d = true) ∧ (l (s0 :: ρ)).tot X fun p => (ofO (ownD p.2 i)).tot X fun d => (ofO (F d p.1)).tot X fun z => Q (z.1, putO p.2 i z.2)) := by
  unfold evMt
  cases ownD (s0 :: ρ) i with
  | none => simp
  | some d => simp [-heldB_s, -ownD_s, -viewD_s, -putSl_s, -putO_s, -arIx_d, -arIx_s, ifR_s_t]
@[simp ↓] theorem evIxV_s_t : (evIxV i g (s0 :: ρ)).tot X Q = ((∃ d, viewD (s0 :: ρ) i = some d) ∧ (g (s0 :: ρ)).tot X fun p => (ofO (viewD p.2 i)).tot X fun d => (ofO (ixO d p.1)).tot X fun z => Q (z, p.2)) := by
  unfold evIxV
  cases viewD (s0 :: ρ) i with
  | none => simp
  | some d => simp
@[simp ↓] theorem evInV_s_t {F : D → D → Option D} : (evInV F i f (s0 :: ρ)).tot X Q = (f (s0 :: ρ)).tot X fun p => (ofO (viewD p.2 i)).tot X fun d => (ofO (F p.1 d)).tot X fun z => Q (z, p.2) := by simp [-heldB_s, -ownD_s, -viewD_s, -putSl_s, -putO_s, -arIx_d, -arIx_s, evInV]
@[simp ↓] theorem evLenV_s_t : (evLenV i (s0 :: ρ)).tot X Q = (ofO (viewD (s0 :: ρ) i)).tot X fun d => (ofO (lenO [d])).tot X fun z => Q (z, (s0 :: ρ)) := by simp [-heldB_s, -ownD_s, -viewD_s, -putSl_s, -putO_s, -arIx_d, -arIx_s, evLenV]
@[simp ↓] theorem evListV_s_t : (evListV i (s0 :: ρ)).tot X Q = (ofO (viewD (s0 :: ρ) i)).tot X fun d => (ofO (listO [d])).tot X fun z => Q (z, (s0 :: ρ)) := by simp [-heldB_s, -ownD_s, -viewD_s, -putSl_s, -putO_s, -arIx_d, -arIx_s, evListV]
@[simp ↓] theorem evDic0_s_t : (evDic0 (s0 :: ρ)).tot X Q = Q (.dic [], (s0 :: ρ)) := R.tot_ok _
@[simp ↓] theorem evIsi_s_t {t : IsiT} : (evIsi t f (s0 :: ρ)).tot X Q = (f (s0 :: ρ)).tot X fun p => (ofO (isiF t p.1)).tot X fun z => Q (z, p.2) := by simp [-heldB_s, -ownD_s, -viewD_s, -putSl_s, -putO_s, -arIx_d, -arIx_s, evIsi]
@[simp ↓] theorem evRg_s_t : (evRg f (s0 :: ρ)).tot X Q = (f (s0 :: ρ)).tot X fun p => (ofO (rgO p.1)).tot X fun z => Q (z, p.2) := by simp [-heldB_s, -ownD_s, -viewD_s, -putSl_s, -putO_s, -arIx_d, -arIx_s, evRg]
@[simp ↓] theorem evLenSet_s_t : (evLenSet f (s0 :: ρ)).tot X Q = (f (s0 :: ρ)).tot X fun p => (ofO (lenSetO p.1)).tot X fun z => Q (z, p.2) := by simp [-heldB_s, -ownD_s, -viewD_s, -putSl_s, -putO_s, -arIx_d, -arIx_s, evLenSet]
@[simp ↓] theorem evSplit_s_t : (evSplit f g (s0 :: ρ)).tot X Q = (f (s0 :: ρ)).tot X fun p => isStr p.1 = true ∧ (g p.2).tot X fun q => (ofO (splitO p.1 q.1)).tot X fun z => Q (z, q.2) := by simp [-heldB_s, -ownD_s, -viewD_s, -putSl_s, -putO_s, -arIx_d, -arIx_s, evSplit, evS1, ifR_s_t]
@[simp ↓] theorem evJoin_s_t : (evJoin f g (s0 :: ρ)).tot X Q = (f (s0 :: ρ)).tot X fun p => isStr p.1 = true ∧ (g p.2).tot X fun q => (ofO (joinO p.1 q.1)).tot X fun z => Q (z, q.2) := by simp [-heldB_s, -ownD_s, -viewD_s, -putSl_s, -putO_s, -arIx_d, -arIx_s, evJoin, evS1, ifR_s_t]
@[simp ↓] theorem srcD_s_t : (srcD f (s0 :: ρ)).tot X QL = (f (s0 :: ρ)).tot X fun p => (ofO (itD p.1)).tot X fun l => QL (l, p.2) := by simp [-heldB_s, -ownD_s, -viewD_s, -putSl_s, -putO_s, -arIx_d, -arIx_s, srcD]
@[simp ↓] theorem srcL_s_t {F : List D → Option (List D)} : (srcL F l (s0 :: ρ)).tot X QL = (l (s0 :: ρ)).tot X fun p => (ofO (F p.1)).tot X fun l => QL (l, p.2) := by simp [-heldB_s, -ownD_s, -viewD_s, -putSl_s, -putO_s, -arIx_d, -arIx_s, srcL]
@[simp ↓] theorem srcI_s_t {F : D → Option (List D)} : (srcI F f (s0 :: ρ)).tot X QL = (f (s0 :: ρ)).tot X fun p => (ofO (F p.1)).tot X fun l => QL (l, p.2) := by simp [-heldB_s, -ownD_s, -viewD_s, -putSl_s, -putO_s, -arIx_d, -arIx_s, srcI]
@[simp ↓] theorem evLc_s_t {vs : List Nat} {s : List Sl → R (List D × List Sl)} {t : D → List Sl → Option (List Sl)} : (evLc vs s t u f (s0 :: ρ)).tot X Q = (s (s0 :: ρ)).tot X fun p => (lcL vs t u f [] p.1 (wipeR p.2 vs)).tot X fun q => Q (.lst q.1, q.2) := by simp [-heldB_s, -ownD_s, -viewD_s, -putSl_s, -putO_s, -arIx_d, -arIx_s, evLc]
@[simp ↓] theorem asNil_s_t : (asNil (s0 :: ρ)).tot X QA = QA ([], (s0 :: ρ)) := R.tot_ok _
@[simp ↓] theorem asD_s_t : (asD f a (s0 :: ρ)).tot X QA = (f (s0 :: ρ)).tot X fun p => (a p.2).tot X fun q => QA (.d p.1 :: q.1, q.2) := by simp [-heldB_s, -ownD_s, -viewD_s, -putSl_s, -putO_s, -arIx_d, -arIx_s, asD]
@[simp ↓] theorem asS_s_t : (asS i a (s0 :: ρ)).tot X QA = (heldB (s0 :: ρ) i = true ∧ (a (s0 :: ρ)).tot X fun q => QA (.s i :: q.1, q.2)) := by simp [-heldB_s, -ownD_s, -viewD_s, -putSl_s, -putO_s, -arIx_d, -arIx_s, asS, ifR_s_t]
@[simp ↓] theorem evCall_s_t {F : Fd} : (evCall F a (s0 :: ρ)).tot X Q = (a (s0 :: ρ)).tot X fun p => (arIx p.1).Nodup ∧ (ofO (mkArgs F.md p.1 p.2)).tot X fun ds => (F.sem ds).tot X fun q => Q (q.1, putOuts F.md p.1 q.2 p.2) := by simp [-heldB_s, -ownD_s, -viewD_s, -putSl_s, -putO_s, -arIx_d, -arIx_s, evCall, ifR_s_t]
@[simp ↓] theorem evFld_s_t {cs : List Str} {x : Str} : (evFld cs x f (s0 :: ρ)).tot X Q = (f (s0 :: ρ)).tot X fun p => (ofO (fldF cs x p.1)).tot X fun z => Q (z, p.2) := by simp [-heldB_s, -ownD_s, -viewD_s, -putSl_s, -putO_s, -arIx_d, -arIx_s, evFld]
@[simp ↓] theorem evFldV_s_t {cs : List Str} {x : Str} : (evFldV cs x i (s0 :: ρ)).tot X Q = (ofO (ownD (s0 :: ρ) i)).tot X fun d => (ofO (fldF cs x d)).tot X fun z => Q (z, (s0 :: ρ)) := by simp [-heldB_s, -ownD_s, -viewD_s, -putSl_s, -putO_s, -arIx_d, -arIx_s, evFldV]
@[simp ↓] theorem evProp_s_t {tab : List (Str × Fd)} : (evProp tab f (s0 :: ρ)).tot X Q = (f (s0 :: ρ)).tot X fun p => (ofO ((insC p.1).bind fun c => tab.lookup c)).tot X fun F => (F.md = [.sh] ∧ F.own = false) ∧ (F.sem [p.1]).sat fun q => Q (q.1, p.2) := by
  simp [-heldB_s, -ownD_s, -viewD_s, -putSl_s, -putO_s, -arIx_d, -arIx_s, evProp, ifR_s_t]
@[simp ↓] theorem evMeth_s_t {tab : List (Str × Fd)} {m : Str} {own : Bool} : (evMeth tab m own f a (s0 :: ρ)).tot X Q = (f (s0 :: ρ)).tot X fun p => (ofO (methF tab m own p.1)).tot X fun F => (a p.2).tot X fun q => (arIx (.d p.1 :: q.1)).Nodup ∧ (ofO (mkArgs F.md (.d p.1 :: q.1) q.2)).tot X fun ds => (F.sem ds).tot X fun r => Q (r.1, putOuts F.md (.d p.1 :: q.1) r.2 q.2) := by
  simp [-heldB_s, -ownD_s, -viewD_s, -putSl_s, -putO_s, -arIx_d, -arIx_s, evMeth, ifR_s_t]
@[simp ↓] theorem evMake_s_t {c : Str} {F : Fd} : (evMake c F a (s0 :: ρ)).tot X Q = (a (s0 :: ρ)).tot X fun p => arIx p.1 = [] ∧ (ofO (mkTail F p.1 p.2)).tot X fun ds => (F.sem (.ins c [] :: ds)).tot X fun q => (ofO (newF c q)).tot X fun z => Q (z, p.2) := by
  simp [-heldB_s, -ownD_s, -viewD_s, -putSl_s, -putO_s, -arIx_d, -arIx_s, evMake, ifR_s_t]
@[simp ↓] theorem stRet_s_t : (stRet f (s0 :: ρ)).tot X N T = (f (s0 :: ρ)).tot X fun p => T false p.1 p.2 := by simp [-heldB_s, -ownD_s, -viewD_s, -putSl_s, -putO_s, -arIx_d, -arIx_s, stRet]
@[simp ↓] theorem stRetO_s_t : (stRetO f (s0 :: ρ)).tot X N T = (f (s0 :: ρ)).tot X fun p => T true p.1 p.2 := by simp [-heldB_s, -ownD_s, -viewD_s, -putSl_s, -putO_s, -arIx_d, -arIx_s, stRetO]
@[simp ↓] theorem stRetN_s_t : (stRetN (s0 :: ρ)).tot X N T = T false .non (s0 :: ρ) := RS.tot_rt _ _ _
@[simp ↓] theorem stExp_s_t : (stExp f (s0 :: ρ)).tot X N T = (f (s0 :: ρ)).tot X fun p => N p.2 := by simp [-heldB_s, -ownD_s, -viewD_s, -putSl_s, -putO_s, -arIx_d, -arIx_s, stExp]
@[simp ↓] theorem stIf_s_t {p q : List Sl → RS} : (stIf u p q (s0 :: ρ)).tot X N T = (u (s0 :: ρ)).tot X fun x => (if x.1 = true then p x.2 else q x.2).tot X N T := by
  unfold stIf
  rw [R.st_tot]
  congr 1
  funext p
  obtain ⟨b, s⟩ := p
  cases b <;> simp
@[simp] theorem ofT_s_t {o : Option α} {k : α → RS} : (ofT o k).tot X N T = (ofO o).tot X fun z => (k z).tot X N T := by cases o <;> simp [-heldB_s, -ownD_s, -viewD_s, -putSl_s, -putO_s, -arIx_d, -arIx_s, ofT]
@[simp ↓] theorem stAsg_s_t {t : D → List Sl → Option (List Sl)} : (stAsg t f (s0 :: ρ)).tot X N T = (f (s0 :: ρ)).tot X fun p => (ofO (t p.1 p.2)).tot X N := by simp [-heldB_s, -ownD_s, -viewD_s, -putSl_s, -putO_s, -arIx_d, -arIx_s, stAsg]
@[simp ↓] theorem stOwn_s_t : (stOwn i f (s0 :: ρ)).tot X N T = (f (s0 :: ρ)).tot X fun p => (ofO (putSl p.2 i (.ow p.1))).tot X N := by simp [-heldB_s, -ownD_s, -viewD_s, -putSl_s, -putO_s, -arIx_d, -arIx_s, stOwn]
@[simp ↓] theorem stSet_s_t : (stSet i f (s0 :: ρ)).tot X N T = (f (s0 :: ρ)).tot X fun p => (ofO (putSl p.2 i (.sh p.1))).tot X N := by simp [-heldB_s, -ownD_s, -viewD_s, -putSl_s, -putO_s, -arIx_d, -arIx_s, stSet]
@[simp ↓] theorem stPut_s_t : (stPut i f g (s0 :: ρ)).tot X N T = (f (s0 :: ρ)).tot X fun p => (∃ d, ownD p.2 i = some d) ∧ (g p.2).tot X fun q => (ofO (ownD q.2 i)).tot X fun d => (ofO (setF d q.1 p.1)).tot X fun d' => N (putO q.2 i d') := by
  simp only [stPut, R.st_tot, ofT_s_t, RS.tot_nx]
  congr 1
  funext p
  cases ownD p.2 i <;> simp
@[simp ↓] theorem stFld_s_t {cs : List Str} {x : Str} : (stFld cs x i f (s0 :: ρ)).tot X N T = (f (s0 :: ρ)).tot X fun p => (ofO (ownD p.2 i)).tot X fun d => (ofO (setFld cs x d p.1)).tot X fun d' => N (putO p.2 i d') := by simp [-heldB_s, -ownD_s, -viewD_s, -putSl_s, -putO_s, -arIx_d, -arIx_s, stFld]
@[simp ↓] theorem stFor_s_t {s : List Sl → R (List D × List Sl)} {t : D → List Sl → Option (List Sl)} {k : List Sl → RS} : (stFor s t k (s0 :: ρ)).tot X N T = (s (s0 :: ρ)).tot X fun p => (forL t k p.1 p.2).tot X N T := by simp [-heldB_s, -ownD_s, -viewD_s, -putSl_s, -putO_s, -arIx_d, -arIx_s, stFor]
@[simp ↓] theorem mxNil_s_t {Q : List (Bool × D) × List Sl → Prop} : (mxNil (s0 :: ρ)).tot X Q = Q ([], (s0 :: ρ)) := R.tot_ok _
@[simp ↓] theorem mxC_s_t {b : Bool} {m : List Sl → R (List (Bool × D) × List Sl)} {Q : List (Bool × D) × List Sl → Prop} : (mxC b f m (s0 :: ρ)).tot X Q = (f (s0 :: ρ)).tot X fun p => (m p.2).tot X fun q => Q ((b, p.1) :: q.1, q.2) := by simp [-heldB_s, -ownD_s, -viewD_s, -putSl_s, -putO_s, -arIx_d, -arIx_s, mxC]
@[simp ↓] theorem stPar_s_t {is : List Nat} {m : List Sl → R (List (Bool × D) × List Sl)} : (stPar is m (s0 :: ρ)).tot X N T = (m (s0 :: ρ)).tot X fun p => (ofO (putMx is p.1 p.2)).tot X N := by simp [-heldB_s, -ownD_s, -viewD_s, -putSl_s, -putO_s, -arIx_d, -arIx_s, stPar]
@[simp ↓] theorem evGet2_s_t : (evGet2 f g h (s0 :: ρ)).tot X Q = (f (s0 :: ρ)).tot X fun p => isDic p.1 = true ∧ (g p.2).tot X fun q => (h q.2).tot X fun r => (ofO (getO p.1 q.1)).tot X fun z => Q (z.getD r.1, r.2) := by simp [-heldB_s, -ownD_s, -viewD_s, -putSl_s, -putO_s, -arIx_d, -arIx_s, evGet2, ifR_s_t]
@[simp ↓] theorem evGet1_s_t : (evGet1 f g (s0 :: ρ)).tot X Q = (f (s0 :: ρ)).tot X fun p => isDic p.1 = true ∧ (g p.2).tot X fun q => (ofO (getO p.1 q.1)).tot X fun z => Q (z.getD .non, q.2) := by simp [-heldB_s, -ownD_s, -viewD_s, -putSl_s, -putO_s, -arIx_d, -arIx_s, evGet1, ifR_s_t]
@[simp ↓] theorem evGet2V_s_t : (evGet2V i g h (s0 :: ρ)).tot X Q = (ofO (viewD (s0 :: ρ) i)).tot X fun d0 => isDic d0 = true ∧ (g (s0 :: ρ)).tot X fun q => (h q.2).tot X fun r => (ofO (viewD r.2 i)).tot X fun d => (ofO (getO d q.1)).tot X fun z => Q (z.getD r.1, r.2) := by simp [-heldB_s, -ownD_s, -viewD_s, -putSl_s, -putO_s, -arIx_d, -arIx_s, evGet2V, ifR_s_t]
@[simp ↓] theorem evListIt_s_t : (evListIt f (s0 :: ρ)).tot X Q = (f (s0 :: ρ)).tot X fun p => (ofO (litO p.1)).tot X fun z => Q (z, p.2) := by simp [-heldB_s, -ownD_s, -viewD_s, -putSl_s, -putO_s, -arIx_d, -arIx_s, evListIt]
@[simp ↓] theorem evCallT_s_t {F : Fd} : (evCallT F g (s0 :: ρ)).tot X Q = (g (s0 :: ρ)).tot X fun p => (F.sem [p.1]).tot X fun q => Q (q.1, p.2) := by simp [-heldB_s, -ownD_s, -viewD_s, -putSl_s, -putO_s, -arIx_d, -arIx_s, evCallT]
@[simp ↓] theorem stWhile_s_t {g : List Sl → RS} : (stWhile u g (s0 :: ρ)).tot X N T = (whF u g fuel0 (s0 :: ρ)).tot X N T := rfl
@[simp ↓] theorem evCallO_s_t {sem : List D → R (List D)} : (evCallO sem l (s0 :: ρ)).tot X QL = (l (s0 :: ρ)).tot X fun p => (sem p.1).tot X fun q => QL (q, p.2) := by simp [-heldB_s, -ownD_s, -viewD_s, -putSl_s, -putO_s, -arIx_d, -arIx_s, evCallO]
@[simp ↓] theorem stForO_s_t {F : List Sl → R (List D × List Sl)} {k : List Sl → RS} : (stForO i F k (s0 :: ρ)).tot X N T = (F (s0 :: ρ)).tot X fun p => (forL (fun d ρ => putSl ρ i (.ow d)) k p.1 p.2).tot X N T := by simp [-heldB_s, -ownD_s, -viewD_s, -putSl_s, -putO_s, -arIx_d, -arIx_s, stForO]
@[simp ↓] theorem evLcO_s_t {vs : List Nat} {s : List Sl → R (List D × List Sl)} {t : D → List Sl → Option (List Sl)} {u : List Sl → R (Bool × List Sl)} : (evLcO vs s t u f (s0 :: ρ)).tot X QL = (s (s0 :: ρ)).tot X fun p => (lcL vs t u (chkL f) [] p.1 (wipeR p.2 vs)).tot X QL := by simp [-heldB_s, -ownD_s, -viewD_s, -putSl_s, -putO_s, -arIx_d, -arIx_s, evLcO]
@[simp ↓] theorem chkL_s_t : (chkL f (s0 :: ρ)).tot X Q = (f (s0 :: ρ)).tot X fun q => isLst q.1 = true ∧ Q q := by simp [-heldB_s, -ownD_s, -viewD_s, -putSl_s, -putO_s, -arIx_d, -arIx_s, chkL, ifR_s_t]
@[simp ↓] theorem evNeX_s_t : (evNeX t f g (s0 :: ρ)).tot X Q = (f (s0 :: ρ)).tot X fun p => (g p.2).tot X fun q => (neX t p.1 q.1).tot X fun z => Q (z, q.2) := by simp [-heldB_s, -ownD_s, -viewD_s, -putSl_s, -putO_s, -arIx_d, -arIx_s, evNeX]
@[simp ↓] theorem evRev_s_t : (evRev f p (s0 :: ρ)).tot X Q = (f (s0 :: ρ)).tot X fun x => (evPart p x.2).tot X fun y => (ofO (revO y.1 x.1)).tot X fun w => Q (w, y.2) := by simp [-heldB_s, -ownD_s, -viewD_s, -putSl_s, -putO_s, -arIx_d, -arIx_s, evRev]
end
end Dx

set_option Elab.async false
set_option linter.all false
set_option autoImplicit false
set_option maxRecDepth 100000
set_option maxHeartbeats 1000000
/-! DxMp: values of any kind. -/
namespace Dx
open PySem PySem.Spec PyProof.Rows L2 TL
variable [Tbs]
def sts : List D → Option (List Str)
  | [] => some []
  | .str x :: l => (sts l).map (x :: ·)
  | _ :: _ => none
/-- a set of places, of any value -/
def isSetB (pl : List Str) : D → Bool
  | .tup l => (match sts l with
    | some s => decide (1 ≤ s.length) && decide (s.length < pl.length) && decide (pl.filter (fun p => decide (p ∈ s)) = s)
    | none => false)
  | _ => false
/-! values that repr can show -/
structure Rp (w dp : Nat) (d : D) : Prop where
  ex : ∃ p, toP d = some p ∧ p.showable = true ∧ p.leavesShort 13 = true ∧ p.weight ≤ w ∧ p.depth ≤ dp
structure RpL (w dp : Nat) (l : List D) : Prop where
  ex : ∃ ps, toPL l = some ps ∧ PyData.showableAll ps = true ∧ PyData.leavesShortAll 13 ps = true ∧ PyData.weightAll ps ≤ w ∧ PyData.depthAll ps ≤ dp
theorem Rp.mono {w dp w' dp' : Nat} {d : D} (h : Rp w dp d) (hw : w ≤ w') (hd : dp ≤ dp') : Rp w' dp' d := let ⟨p, a, b, c, e, f⟩ := h.ex; ⟨p, a, b, c, Nat.le_trans e hw, Nat.le_trans f hd⟩
theorem RpL.of {w dp : Nat} : ∀ {l : List D}, (∀ d ∈ l, Rp w dp d) → RpL (l.length * (w + 1)) dp l
  | [], _ => ⟨[], rfl, by simp [PyData.showableAll], by simp [PyData.leavesShortAll], by simp [PyData.weightAll], by simp [PyData.depthAll]⟩
  | d :: l, h => by
    obtain ⟨p, a, b, c, e, f⟩ := (h d (List.mem_cons_self ..)).ex
    obtain ⟨ps, a2, b2, c2, e2, f2⟩ := (RpL.of fun x hx => h x (List.mem_cons_of_mem _ hx)).ex
    refine ⟨p :: ps, ?_, by rw [PyData.showableAll, b, b2]; rfl, by rw [PyData.leavesShortAll, c, c2]; rfl, ?_, ?_⟩
    · show ((toP d).bind fun p => (toPL l).map (p :: ·)) = _
      rw [a, a2]; rfl
    · rw [PyData.weightAll, List.length_cons, Nat.add_mul]; omega
    · rw [PyData.depthAll]; omega
theorem RpL.tup {w dp : Nat} {l : List D} (h : RpL w dp l) : Rp w (dp + 1) (.tup l) := by
  obtain ⟨ps, a, b, c, e, f⟩ := h.ex
  refine ⟨.tuple ps, ?_, by rw [PyData.showable]; exact b, by rw [PyData.leavesShort]; exact c, by rw [PyData.weight]; exact e, by rw [PyData.depth]; omega⟩
  show (toPL l).map _ = _
  rw [a]; rfl
theorem RpL.lst {w dp : Nat} {l : List D} (h : RpL w dp l) : Rp w (dp + 1) (.lst l) := by
  obtain ⟨ps, a, b, c, e, f⟩ := h.ex
  refine ⟨.list ps, ?_, by rw [PyData.showable]; exact b, by rw [PyData.leavesShort]; exact c, by rw [PyData.weight]; exact e, by rw [PyData.depth]; omega⟩
  show (toPL l).map _ = _
  rw [a]; rfl
theorem Rp.tup {w dp n : Nat} {l : List D} (h : ∀ d ∈ l, Rp w dp d) (hl : l.length ≤ n) : Rp (n * (w + 1)) (dp + 1) (.tup l) := (RpL.of h).tup.mono (Nat.mul_le_mul_right _ hl) (Nat.le_refl _)
theorem Rp.lst {w dp n : Nat} {l : List D} (h : ∀ d ∈ l, Rp w dp d) (hl : l.length ≤ n) : Rp (n * (w + 1)) (dp + 1) (.lst l) := (RpL.of h).lst.mono (Nat.mul_le_mul_right _ hl) (Nat.le_refl _)
/-- printable signs -/
def Ascii (x : Str) : Prop := ∀ c ∈ tl x, c < 16 ^ 8
theorem Rp.str {x : Str} {w : Nat} (h : Ascii x) (hl : x.length ≤ w) : Rp w 0 (.str x) := by
  refine ⟨.str x, rfl, by rw [PyData.showable], ?_, by rw [PyData.weight]; exact hl, by rw [PyData.depth]; exact Nat.le_refl _⟩
  rw [PyData.leavesShort, List.all_eq_true]
  exact fun c hc => decide_eq_true (h c hc)
theorem NameOk.ascii {x : Str} (h : NameOk x) : Ascii x := fun c hc => by have := h.2.2 c hc; exact Nat.lt_of_le_of_lt this.2 (by decide)
theorem Rp.name {x : Str} (h : NameOk x) : Rp 8 0 (.str x) := .str h.ascii h.2.1
theorem Rp.non : Rp 0 0 .non := ⟨.none, rfl, by rw [PyData.showable], by rw [PyData.leavesShort], by rw [PyData.weight]; exact Nat.le_refl _, by rw [PyData.depth]; exact Nat.le_refl _⟩
theorem Rp.bl {b : Bool} : Rp 0 0 (.bl b) := ⟨.bool b, rfl, by rw [PyData.showable], by rw [PyData.leavesShort], by rw [PyData.weight]; exact Nat.le_refl _, by rw [PyData.depth]; exact Nat.le_refl _⟩
theorem Rp.repr {w dp : Nat} {d : D} (h : Rp w dp d) (hw : w ≤ 2 ^ 20) (hd : dp ≤ 40) : ∃ x, reprO [d] = some (.str x) := by
  obtain ⟨p, a, b, c, e, f⟩ := h.ex
  have g : p.shown.length ≤ sizeLine := PyData.shown_fits (B := 13) (by decide) (by decide) c (Nat.le_trans e hw)
  refine ⟨p.shown, ?_⟩
  show (reprD d).map D.str = _
  unfold reprD
  rw [a]
  show (if _ then _ else _ : Option Str).map D.str = _
  rw [b, show okLen _ = true from decide_eq_true g, show decide (p.depth ≤ maxDep) = true from decide_eq_true (Nat.le_trans f (Nat.le_trans hd (by decide)))]
  rfl
/-- a concrete value -/
def rpB (w dp : Nat) (d : D) : Bool := match toP d with
  | some p => p.showable && p.leavesShort 13 && decide (p.weight ≤ w) && decide (p.depth ≤ dp)
  | none => false
theorem rpB_ok {w dp : Nat} {d : D} (h : rpB w dp d = true) : Rp w dp d := by
  unfold rpB at h
  split at h
  · rename_i p e
    simp only [Bool.and_eq_true, decide_eq_true_eq] at h
    exact ⟨p, e, h.1.1.1, h.1.1.2, h.1.2, h.2⟩
  · cases h
/-! the values of any kind that the laws draw -/
def odd1 : List D := [.non, .bl true, .bl false, .int 0, .int 1, .int (-1), .int 100000000, .str "", .str "a", .str "0", .tup [], .lst [], .dic [], .tup [.int 0], .tup [.tup []], .lst [.int 0], .tup [.str "a", .str "b"], .tup [.str "a"], .str "zz",
  .tup [.str "a", .str "b", .str "c"], .lst [.tup [.str "a", .str "b"]], .tup [.tup [.str "a", .str "b"]], .dic [("a", .str "b")], .str "A", .str "><", .tup [.str "a", .str ">"]]
end Dx

set_option Elab.async false
set_option linter.all false
set_option maxRecDepth 100000
set_option maxHeartbeats 4000000
namespace K00
open PySem Spec PyProof.Rows L2 Dx
abbrev prog : Program := PySem.Challenge.pw_signsunread_k00_errors_keep_their_values
def st (i : Nat) : Stmt := (prog.main.body[i]?).getD (.Pass ⟨0, 0, 0, 0⟩)
def ms (i j : Nat) : Stmt := ((C8.clsBody (st i))[j]?).getD (.Pass ⟨0, 0, 0, 0⟩)
def tabs : List (Addr × Addr) := []
instance : Dx.Tbs := ⟨[]⟩
def c_errs : List Str := [("BadClaim" : Str), ("BadClaims" : Str), ("BadDrive" : Str), ("BadJournal" : Str), ("BadLine" : Str), ("BadLot" : Str), ("BadNumber" : Str), ("BadOffers" : Str), ("BadSet" : Str), ("BadSigns" : Str), ("BadTown" : Str), ("BadWishes" : Str), ("Contrary" : Str), ("Few" : Str), ("Full" : Str), ("HasKnown" : Str), ("NoMap" : Str), ("NoPlace" : Str), ("NoStreet" : Str), ("NoTrial" : Str), ("NotKnown" : Str), ("NotUnread" : Str), ("NothingToRedo" : Str), ("NothingToUndo" : Str), ("OtherTown" : Str), ("SignError" : Str), ("TooMany" : Str), ("Torn" : Str)]
def dcs : List (Addr × List (Str × D)) := []
def is_BadClaim : IsiT := ⟨[("NoneType", false), ("bool", false), ("int", false), ("str", false), ("tuple", false), ("list", false), ("dict", false)], []⟩
def is_BadClaims : IsiT := ⟨[("NoneType", false), ("bool", false), ("int", false), ("str", false), ("tuple", false), ("list", false), ("dict", false)], []⟩
def is_BadDrive : IsiT := ⟨[("NoneType", false), ("bool", false), ("int", false), ("str", false), ("tuple", false), ("list", false), ("dict", false)], []⟩
def is_BadJournal : IsiT := ⟨[("NoneType", false), ("bool", false), ("int", false), ("str", false), ("tuple", false), ("list", false), ("dict", false)], []⟩
def is_BadLine : IsiT := ⟨[("NoneType", false), ("bool", false), ("int", false), ("str", false), ("tuple", false), ("list", false), ("dict", false)], []⟩
def is_BadLot : IsiT := ⟨[("NoneType", false), ("bool", false), ("int", false), ("str", false), ("tuple", false), ("list", false), ("dict", false)], []⟩
def is_BadNumber : IsiT := ⟨[("NoneType", false), ("bool", false), ("int", false), ("str", false), ("tuple", false), ("list", false), ("dict", false)], []⟩
def is_BadOffers : IsiT := ⟨[("NoneType", false), ("bool", false), ("int", false), ("str", false), ("tuple", false), ("list", false), ("dict", false)], []⟩
def is_BadSet : IsiT := ⟨[("NoneType", false), ("bool", false), ("int", false), ("str", false), ("tuple", false), ("list", false), ("dict", false)], []⟩
def is_BadSigns : IsiT := ⟨[("NoneType", false), ("bool", false), ("int", false), ("str", false), ("tuple", false), ("list", false), ("dict", false)], []⟩
def is_BadTown : IsiT := ⟨[("NoneType", false), ("bool", false), ("int", false), ("str", false), ("tuple", false), ("list", false), ("dict", false)], []⟩
def is_BadWishes : IsiT := ⟨[("NoneType", false), ("bool", false), ("int", false), ("str", false), ("tuple", false), ("list", false), ("dict", false)], []⟩
def is_Contrary : IsiT := ⟨[("NoneType", false), ("bool", false), ("int", false), ("str", false), ("tuple", false), ("list", false), ("dict", false)], []⟩
def is_Few : IsiT := ⟨[("NoneType", false), ("bool", false), ("int", false), ("str", false), ("tuple", false), ("list", false), ("dict", false)], []⟩
def is_Full : IsiT := ⟨[("NoneType", false), ("bool", false), ("int", false), ("str", false), ("tuple", false), ("list", false), ("dict", false)], []⟩
def is_HasKnown : IsiT := ⟨[("NoneType", false), ("bool", false), ("int", false), ("str", false), ("tuple", false), ("list", false), ("dict", false)], []⟩
def is_NoMap : IsiT := ⟨[("NoneType", false), ("bool", false), ("int", false), ("str", false), ("tuple", false), ("list", false), ("dict", false)], []⟩
def is_NoPlace : IsiT := ⟨[("NoneType", false), ("bool", false), ("int", false), ("str", false), ("tuple", false), ("list", false), ("dict", false)], []⟩
def is_NoStreet : IsiT := ⟨[("NoneType", false), ("bool", false), ("int", false), ("str", false), ("tuple", false), ("list", false), ("dict", false)], []⟩
def is_NoTrial : IsiT := ⟨[("NoneType", false), ("bool", false), ("int", false), ("str", false), ("tuple", false), ("list", false), ("dict", false)], []⟩
def is_NotKnown : IsiT := ⟨[("NoneType", false), ("bool", false), ("int", false), ("str", false), ("tuple", false), ("list", false), ("dict", false)], []⟩
def is_NotUnread : IsiT := ⟨[("NoneType", false), ("bool", false), ("int", false), ("str", false), ("tuple", false), ("list", false), ("dict", false)], []⟩
def is_NothingToRedo : IsiT := ⟨[("NoneType", false), ("bool", false), ("int", false), ("str", false), ("tuple", false), ("list", false), ("dict", false)], []⟩
def is_NothingToUndo : IsiT := ⟨[("NoneType", false), ("bool", false), ("int", false), ("str", false), ("tuple", false), ("list", false), ("dict", false)], []⟩
def is_OtherTown : IsiT := ⟨[("NoneType", false), ("bool", false), ("int", false), ("str", false), ("tuple", false), ("list", false), ("dict", false)], []⟩
def is_SignError : IsiT := ⟨[("NoneType", false), ("bool", false), ("int", false), ("str", false), ("tuple", false), ("list", false), ("dict", false)], []⟩
def is_TooMany : IsiT := ⟨[("NoneType", false), ("bool", false), ("int", false), ("str", false), ("tuple", false), ("list", false), ("dict", false)], []⟩
def is_Torn : IsiT := ⟨[("NoneType", false), ("bool", false), ("int", false), ("str", false), ("tuple", false), ("list", false), ("dict", false)], []⟩
def is_ValueError : IsiT := ⟨[("NoneType", false), ("bool", false), ("int", false), ("str", false), ("tuple", false), ("list", false), ("dict", false)], []⟩
def isx_BadClaim : List (Str × Bool) := [(("BadClaim" : Str), true), (("BadClaims" : Str), false), (("BadDrive" : Str), false), (("BadJournal" : Str), false), (("BadLine" : Str), false), (("BadLot" : Str), false), (("BadNumber" : Str), false), (("BadOffers" : Str), false), (("BadSet" : Str), false), (("BadSigns" : Str), false), (("BadTown" : Str), false), (("BadWishes" : Str), false), (("Contrary" : Str), false), (("Few" : Str), false), (("Full" : Str), false), (("HasKnown" : Str), false), (("NoMap" : Str), false), (("NoPlace" : Str), false), (("NoStreet" : Str), false), (("NoTrial" : Str), false), (("NotKnown" : Str), false), (("NotUnread" : Str), false), (("NothingToRedo" : Str), false), (("NothingToUndo" : Str), false), (("OtherTown" : Str), false), (("SignError" : Str), false), (("TooMany" : Str), false), (("Torn" : Str), false)]
def isx_BadClaims : List (Str × Bool) := [(("BadClaim" : Str), false), (("BadClaims" : Str), true), (("BadDrive" : Str), false), (("BadJournal" : Str), false), (("BadLine" : Str), false), (("BadLot" : Str), false), (("BadNumber" : Str), false), (("BadOffers" : Str), false), (("BadSet" : Str), false), (("BadSigns" : Str), false), (("BadTown" : Str), false), (("BadWishes" : Str), false), (("Contrary" : Str), false), (("Few" : Str), false), (("Full" : Str), false), (("HasKnown" : Str), false), (("NoMap" : Str), false), (("NoPlace" : Str), false), (("NoStreet" : Str), false), (("NoTrial" : Str), false), (("NotKnown" : Str), false), (("NotUnread" : Str), false), (("NothingToRedo" : Str), false), (("NothingToUndo" : Str), false), (("OtherTown" : Str), false), (("SignError" : Str), false), (("TooMany" : Str), false), (("Torn" : Str), false)]
def isx_BadDrive : List (Str × Bool) := [(("BadClaim" : Str), false), (("BadClaims" : Str), false), (("BadDrive" : Str), true), (("BadJournal" : Str), false), (("BadLine" : Str), false), (("BadLot" : Str), false), (("BadNumber" : Str), false), (("BadOffers" : Str), false), (("BadSet" : Str), false), (("BadSigns" : Str), false), (("BadTown" : Str), false), (("BadWishes" : Str), false), (("Contrary" : Str), false), (("Few" : Str), false), (("Full" : Str), false), (("HasKnown" : Str), false), (("NoMap" : Str), false), (("NoPlace" : Str), false), (("NoStreet" : Str), false), (("NoTrial" : Str), false), (("NotKnown" : Str), false), (("NotUnread" : Str), false), (("NothingToRedo" : Str), false), (("NothingToUndo" : Str), false), (("OtherTown" : Str), false), (("SignError" : Str), false), (("TooMany" : Str), false), (("Torn" : Str), false)]
def isx_BadJournal : List (Str × Bool) := [(("BadClaim" : Str), false), (("BadClaims" : Str), false), (("BadDrive" : Str), false), (("BadJournal" : Str), true), (("BadLine" : Str), false), (("BadLot" : Str), false), (("BadNumber" : Str), false), (("BadOffers" : Str), false), (("BadSet" : Str), false), (("BadSigns" : Str), false), (("BadTown" : Str), false), (("BadWishes" : Str), false), (("Contrary" : Str), false), (("Few" : Str), false), (("Full" : Str), false), (("HasKnown" : Str), false), (("NoMap" : Str), false), (("NoPlace" : Str), false), (("NoStreet" : Str), false), (("NoTrial" : Str), false), (("NotKnown" : Str), false), (("NotUnread" : Str), false), (("NothingToRedo" : Str), false), (("NothingToUndo" : Str), false), (("OtherTown" : Str), false), (("SignError" : Str), false), (("TooMany" : Str), false), (("Torn" : Str), false)]
def isx_BadLine : List (Str × Bool) := [(("BadClaim" : Str), false), (("BadClaims" : Str), false), (("BadDrive" : Str), false), (("BadJournal" : Str), false), (("BadLine" : Str), true), (("BadLot" : Str), false), (("BadNumber" : Str), false), (("BadOffers" : Str), false), (("BadSet" : Str), false), (("BadSigns" : Str), false), (("BadTown" : Str), false), (("BadWishes" : Str), false), (("Contrary" : Str), false), (("Few" : Str), false), (("Full" : Str), false), (("HasKnown" : Str), false), (("NoMap" : Str), false), (("NoPlace" : Str), false), (("NoStreet" : Str), false), (("NoTrial" : Str), false), (("NotKnown" : Str), false), (("NotUnread" : Str), false), (("NothingToRedo" : Str), false), (("NothingToUndo" : Str), false), (("OtherTown" : Str), false), (("SignError" : Str), false), (("TooMany" : Str), false), (("Torn" : Str), false)]
def isx_BadLot : List (Str × Bool) := [(("BadClaim" : Str), false), (("BadClaims" : Str), false), (("BadDrive" : Str), false), (("BadJournal" : Str), false), (("BadLine" : Str), false), (("BadLot" : Str), true), (("BadNumber" : Str), false), (("BadOffers" : Str), false), (("BadSet" : Str), false), (("BadSigns" : Str), false), (("BadTown" : Str), false), (("BadWishes" : Str), false), (("Contrary" : Str), false), (("Few" : Str), false), (("Full" : Str), false), (("HasKnown" : Str), false), (("NoMap" : Str), false), (("NoPlace" : Str), false), (("NoStreet" : Str), false), (("NoTrial" : Str), false), (("NotKnown" : Str), false), (("NotUnread" : Str), false), (("NothingToRedo" : Str), false), (("NothingToUndo" : Str), false), (("OtherTown" : Str), false), (("SignError" : Str), false), (("TooMany" : Str), false), (("Torn" : Str), false)]
def isx_BadNumber : List (Str × Bool) := [(("BadClaim" : Str), false), (("BadClaims" : Str), false), (("BadDrive" : Str), false), (("BadJournal" : Str), false), (("BadLine" : Str), false), (("BadLot" : Str), false), (("BadNumber" : Str), true), (("BadOffers" : Str), false), (("BadSet" : Str), false), (("BadSigns" : Str), false), (("BadTown" : Str), false), (("BadWishes" : Str), false), (("Contrary" : Str), false), (("Few" : Str), false), (("Full" : Str), false), (("HasKnown" : Str), false), (("NoMap" : Str), false), (("NoPlace" : Str), false), (("NoStreet" : Str), false), (("NoTrial" : Str), false), (("NotKnown" : Str), false), (("NotUnread" : Str), false), (("NothingToRedo" : Str), false), (("NothingToUndo" : Str), false), (("OtherTown" : Str), false), (("SignError" : Str), false), (("TooMany" : Str), false), (("Torn" : Str), false)]
def isx_BadOffers : List (Str × Bool) := [(("BadClaim" : Str), false), (("BadClaims" : Str), false), (("BadDrive" : Str), false), (("BadJournal" : Str), false), (("BadLine" : Str), false), (("BadLot" : Str), false), (("BadNumber" : Str), false), (("BadOffers" : Str), true), (("BadSet" : Str), false), (("BadSigns" : Str), false), (("BadTown" : Str), false), (("BadWishes" : Str), false), (("Contrary" : Str), false), (("Few" : Str), false), (("Full" : Str), false), (("HasKnown" : Str), false), (("NoMap" : Str), false), (("NoPlace" : Str), false), (("NoStreet" : Str), false), (("NoTrial" : Str), false), (("NotKnown" : Str), false), (("NotUnread" : Str), false), (("NothingToRedo" : Str), false), (("NothingToUndo" : Str), false), (("OtherTown" : Str), false), (("SignError" : Str), false), (("TooMany" : Str), false), (("Torn" : Str), false)]
def isx_BadSet : List (Str × Bool) := [(("BadClaim" : Str), false), (("BadClaims" : Str), false), (("BadDrive" : Str), false), (("BadJournal" : Str), false), (("BadLine" : Str), false), (("BadLot" : Str), false), (("BadNumber" : Str), false), (("BadOffers" : Str), false), (("BadSet" : Str), true), (("BadSigns" : Str), false), (("BadTown" : Str), false), (("BadWishes" : Str), false), (("Contrary" : Str), false), (("Few" : Str), false), (("Full" : Str), false), (("HasKnown" : Str), false), (("NoMap" : Str), false), (("NoPlace" : Str), false), (("NoStreet" : Str), false), (("NoTrial" : Str), false), (("NotKnown" : Str), false), (("NotUnread" : Str), false), (("NothingToRedo" : Str), false), (("NothingToUndo" : Str), false), (("OtherTown" : Str), false), (("SignError" : Str), false), (("TooMany" : Str), false), (("Torn" : Str), false)]
def isx_BadSigns : List (Str × Bool) := [(("BadClaim" : Str), false), (("BadClaims" : Str), false), (("BadDrive" : Str), false), (("BadJournal" : Str), false), (("BadLine" : Str), false), (("BadLot" : Str), false), (("BadNumber" : Str), false), (("BadOffers" : Str), false), (("BadSet" : Str), false), (("BadSigns" : Str), true), (("BadTown" : Str), false), (("BadWishes" : Str), false), (("Contrary" : Str), false), (("Few" : Str), false), (("Full" : Str), false), (("HasKnown" : Str), false), (("NoMap" : Str), false), (("NoPlace" : Str), false), (("NoStreet" : Str), false), (("NoTrial" : Str), false), (("NotKnown" : Str), false), (("NotUnread" : Str), false), (("NothingToRedo" : Str), false), (("NothingToUndo" : Str), false), (("OtherTown" : Str), false), (("SignError" : Str), false), (("TooMany" : Str), false), (("Torn" : Str), false)]
def isx_BadTown : List (Str × Bool) := [(("BadClaim" : Str), false), (("BadClaims" : Str), false), (("BadDrive" : Str), false), (("BadJournal" : Str), false), (("BadLine" : Str), false), (("BadLot" : Str), false), (("BadNumber" : Str), false), (("BadOffers" : Str), false), (("BadSet" : Str), false), (("BadSigns" : Str), false), (("BadTown" : Str), true), (("BadWishes" : Str), false), (("Contrary" : Str), false), (("Few" : Str), false), (("Full" : Str), false), (("HasKnown" : Str), false), (("NoMap" : Str), false), (("NoPlace" : Str), false), (("NoStreet" : Str), false), (("NoTrial" : Str), false), (("NotKnown" : Str), false), (("NotUnread" : Str), false), (("NothingToRedo" : Str), false), (("NothingToUndo" : Str), false), (("OtherTown" : Str), false), (("SignError" : Str), false), (("TooMany" : Str), false), (("Torn" : Str), false)]
def isx_BadWishes : List (Str × Bool) := [(("BadClaim" : Str), false), (("BadClaims" : Str), false), (("BadDrive" : Str), false), (("BadJournal" : Str), false), (("BadLine" : Str), false), (("BadLot" : Str), false), (("BadNumber" : Str), false), (("BadOffers" : Str), false), (("BadSet" : Str), false), (("BadSigns" : Str), false), (("BadTown" : Str), false), (("BadWishes" : Str), true), (("Contrary" : Str), false), (("Few" : Str), false), (("Full" : Str), false), (("HasKnown" : Str), false), (("NoMap" : Str), false), (("NoPlace" : Str), false), (("NoStreet" : Str), false), (("NoTrial" : Str), false), (("NotKnown" : Str), false), (("NotUnread" : Str), false), (("NothingToRedo" : Str), false), (("NothingToUndo" : Str), false), (("OtherTown" : Str), false), (("SignError" : Str), false), (("TooMany" : Str), false), (("Torn" : Str), false)]
def isx_Contrary : List (Str × Bool) := [(("BadClaim" : Str), false), (("BadClaims" : Str), false), (("BadDrive" : Str), false), (("BadJournal" : Str), false), (("BadLine" : Str), false), (("BadLot" : Str), false), (("BadNumber" : Str), false), (("BadOffers" : Str), false), (("BadSet" : Str), false), (("BadSigns" : Str), false), (("BadTown" : Str), false), (("BadWishes" : Str), false), (("Contrary" : Str), true), (("Few" : Str), false), (("Full" : Str), false), (("HasKnown" : Str), false), (("NoMap" : Str), false), (("NoPlace" : Str), false), (("NoStreet" : Str), false), (("NoTrial" : Str), false), (("NotKnown" : Str), false), (("NotUnread" : Str), false), (("NothingToRedo" : Str), false), (("NothingToUndo" : Str), false), (("OtherTown" : Str), false), (("SignError" : Str), false), (("TooMany" : Str), false), (("Torn" : Str), false)]
def isx_Few : List (Str × Bool) := [(("BadClaim" : Str), false), (("BadClaims" : Str), false), (("BadDrive" : Str), false), (("BadJournal" : Str), false), (("BadLine" : Str), false), (("BadLot" : Str), false), (("BadNumber" : Str), false), (("BadOffers" : Str), false), (("BadSet" : Str), false), (("BadSigns" : Str), false), (("BadTown" : Str), false), (("BadWishes" : Str), false), (("Contrary" : Str), false), (("Few" : Str), true), (("Full" : Str), false), (("HasKnown" : Str), false), (("NoMap" : Str), false), (("NoPlace" : Str), false), (("NoStreet" : Str), false), (("NoTrial" : Str), false), (("NotKnown" : Str), false), (("NotUnread" : Str), false), (("NothingToRedo" : Str), false), (("NothingToUndo" : Str), false), (("OtherTown" : Str), false), (("SignError" : Str), false), (("TooMany" : Str), false), (("Torn" : Str), false)]
def isx_Full : List (Str × Bool) := [(("BadClaim" : Str), false), (("BadClaims" : Str), false), (("BadDrive" : Str), false), (("BadJournal" : Str), false), (("BadLine" : Str), false), (("BadLot" : Str), false), (("BadNumber" : Str), false), (("BadOffers" : Str), false), (("BadSet" : Str), false), (("BadSigns" : Str), false), (("BadTown" : Str), false), (("BadWishes" : Str), false), (("Contrary" : Str), false), (("Few" : Str), false), (("Full" : Str), true), (("HasKnown" : Str), false), (("NoMap" : Str), false), (("NoPlace" : Str), false), (("NoStreet" : Str), false), (("NoTrial" : Str), false), (("NotKnown" : Str), false), (("NotUnread" : Str), false), (("NothingToRedo" : Str), false), (("NothingToUndo" : Str), false), (("OtherTown" : Str), false), (("SignError" : Str), false), (("TooMany" : Str), false), (("Torn" : Str), false)]
def isx_HasKnown : List (Str × Bool) := [(("BadClaim" : Str), false), (("BadClaims" : Str), false), (("BadDrive" : Str), false), (("BadJournal" : Str), false), (("BadLine" : Str), false), (("BadLot" : Str), false), (("BadNumber" : Str), false), (("BadOffers" : Str), false), (("BadSet" : Str), false), (("BadSigns" : Str), false), (("BadTown" : Str), false), (("BadWishes" : Str), false), (("Contrary" : Str), false), (("Few" : Str), false), (("Full" : Str), false), (("HasKnown" : Str), true), (("NoMap" : Str), false), (("NoPlace" : Str), false), (("NoStreet" : Str), false), (("NoTrial" : Str), false), (("NotKnown" : Str), false), (("NotUnread" : Str), false), (("NothingToRedo" : Str), false), (("NothingToUndo" : Str), false), (("OtherTown" : Str), false), (("SignError" : Str), false), (("TooMany" : Str), false), (("Torn" : Str), false)]
def isx_NoMap : List (Str × Bool) := [(("BadClaim" : Str), false), (("BadClaims" : Str), false), (("BadDrive" : Str), false), (("BadJournal" : Str), false), (("BadLine" : Str), false), (("BadLot" : Str), false), (("BadNumber" : Str), false), (("BadOffers" : Str), false), (("BadSet" : Str), false), (("BadSigns" : Str), false), (("BadTown" : Str), false), (("BadWishes" : Str), false), (("Contrary" : Str), false), (("Few" : Str), false), (("Full" : Str), false), (("HasKnown" : Str), false), (("NoMap" : Str), true), (("NoPlace" : Str), false), (("NoStreet" : Str), false), (("NoTrial" : Str), false), (("NotKnown" : Str), false), (("NotUnread" : Str), false), (("NothingToRedo" : Str), false), (("NothingToUndo" : Str), false), (("OtherTown" : Str), false), (("SignError" : Str), false), (("TooMany" : Str), false), (("Torn" : Str), false)]
def isx_NoPlace : List (Str × Bool) := [(("BadClaim" : Str), false), (("BadClaims" : Str), false), (("BadDrive" : Str), false), (("BadJournal" : Str), false), (("BadLine" : Str), false), (("BadLot" : Str), false), (("BadNumber" : Str), false), (("BadOffers" : Str), false), (("BadSet" : Str), false), (("BadSigns" : Str), false), (("BadTown" : Str), false), (("BadWishes" : Str), false), (("Contrary" : Str), false), (("Few" : Str), false), (("Full" : Str), false), (("HasKnown" : Str), false), (("NoMap" : Str), false), (("NoPlace" : Str), true), (("NoStreet" : Str), false), (("NoTrial" : Str), false), (("NotKnown" : Str), false), (("NotUnread" : Str), false), (("NothingToRedo" : Str), false), (("NothingToUndo" : Str), false), (("OtherTown" : Str), false), (("SignError" : Str), false), (("TooMany" : Str), false), (("Torn" : Str), false)]
def isx_NoStreet : List (Str × Bool) := [(("BadClaim" : Str), false), (("BadClaims" : Str), false), (("BadDrive" : Str), false), (("BadJournal" : Str), false), (("BadLine" : Str), false), (("BadLot" : Str), false), (("BadNumber" : Str), false), (("BadOffers" : Str), false), (("BadSet" : Str), false), (("BadSigns" : Str), false), (("BadTown" : Str), false), (("BadWishes" : Str), false), (("Contrary" : Str), false), (("Few" : Str), false), (("Full" : Str), false), (("HasKnown" : Str), false), (("NoMap" : Str), false), (("NoPlace" : Str), false), (("NoStreet" : Str), true), (("NoTrial" : Str), false), (("NotKnown" : Str), false), (("NotUnread" : Str), false), (("NothingToRedo" : Str), false), (("NothingToUndo" : Str), false), (("OtherTown" : Str), false), (("SignError" : Str), false), (("TooMany" : Str), false), (("Torn" : Str), false)]
def isx_NoTrial : List (Str × Bool) := [(("BadClaim" : Str), false), (("BadClaims" : Str), false), (("BadDrive" : Str), false), (("BadJournal" : Str), false), (("BadLine" : Str), false), (("BadLot" : Str), false), (("BadNumber" : Str), false), (("BadOffers" : Str), false), (("BadSet" : Str), false), (("BadSigns" : Str), false), (("BadTown" : Str), false), (("BadWishes" : Str), false), (("Contrary" : Str), false), (("Few" : Str), false), (("Full" : Str), false), (("HasKnown" : Str), false), (("NoMap" : Str), false), (("NoPlace" : Str), false), (("NoStreet" : Str), false), (("NoTrial" : Str), true), (("NotKnown" : Str), false), (("NotUnread" : Str), false), (("NothingToRedo" : Str), false), (("NothingToUndo" : Str), false), (("OtherTown" : Str), false), (("SignError" : Str), false), (("TooMany" : Str), false), (("Torn" : Str), false)]
def isx_NotKnown : List (Str × Bool) := [(("BadClaim" : Str), false), (("BadClaims" : Str), false), (("BadDrive" : Str), false), (("BadJournal" : Str), false), (("BadLine" : Str), false), (("BadLot" : Str), false), (("BadNumber" : Str), false), (("BadOffers" : Str), false), (("BadSet" : Str), false), (("BadSigns" : Str), false), (("BadTown" : Str), false), (("BadWishes" : Str), false), (("Contrary" : Str), false), (("Few" : Str), false), (("Full" : Str), false), (("HasKnown" : Str), false), (("NoMap" : Str), false), (("NoPlace" : Str), false), (("NoStreet" : Str), false), (("NoTrial" : Str), false), (("NotKnown" : Str), true), (("NotUnread" : Str), false), (("NothingToRedo" : Str), false), (("NothingToUndo" : Str), false), (("OtherTown" : Str), false), (("SignError" : Str), false), (("TooMany" : Str), false), (("Torn" : Str), false)]
def isx_NotUnread : List (Str × Bool) := [(("BadClaim" : Str), false), (("BadClaims" : Str), false), (("BadDrive" : Str), false), (("BadJournal" : Str), false), (("BadLine" : Str), false), (("BadLot" : Str), false), (("BadNumber" : Str), false), (("BadOffers" : Str), false), (("BadSet" : Str), false), (("BadSigns" : Str), false), (("BadTown" : Str), false), (("BadWishes" : Str), false), (("Contrary" : Str), false), (("Few" : Str), false), (("Full" : Str), false), (("HasKnown" : Str), false), (("NoMap" : Str), false), (("NoPlace" : Str), false), (("NoStreet" : Str), false), (("NoTrial" : Str), false), (("NotKnown" : Str), false), (("NotUnread" : Str), true), (("NothingToRedo" : Str), false), (("NothingToUndo" : Str), false), (("OtherTown" : Str), false), (("SignError" : Str), false), (("TooMany" : Str), false), (("Torn" : Str), false)]
def isx_NothingToRedo : List (Str × Bool) := [(("BadClaim" : Str), false), (("BadClaims" : Str), false), (("BadDrive" : Str), false), (("BadJournal" : Str), false), (("BadLine" : Str), false), (("BadLot" : Str), false), (("BadNumber" : Str), false), (("BadOffers" : Str), false), (("BadSet" : Str), false), (("BadSigns" : Str), false), (("BadTown" : Str), false), (("BadWishes" : Str), false), (("Contrary" : Str), false), (("Few" : Str), false), (("Full" : Str), false), (("HasKnown" : Str), false), (("NoMap" : Str), false), (("NoPlace" : Str), false), (("NoStreet" : Str), false), (("NoTrial" : Str), false), (("NotKnown" : Str), false), (("NotUnread" : Str), false), (("NothingToRedo" : Str), true), (("NothingToUndo" : Str), false), (("OtherTown" : Str), false), (("SignError" : Str), false), (("TooMany" : Str), false), (("Torn" : Str), false)]
def isx_NothingToUndo : List (Str × Bool) := [(("BadClaim" : Str), false), (("BadClaims" : Str), false), (("BadDrive" : Str), false), (("BadJournal" : Str), false), (("BadLine" : Str), false), (("BadLot" : Str), false), (("BadNumber" : Str), false), (("BadOffers" : Str), false), (("BadSet" : Str), false), (("BadSigns" : Str), false), (("BadTown" : Str), false), (("BadWishes" : Str), false), (("Contrary" : Str), false), (("Few" : Str), false), (("Full" : Str), false), (("HasKnown" : Str), false), (("NoMap" : Str), false), (("NoPlace" : Str), false), (("NoStreet" : Str), false), (("NoTrial" : Str), false), (("NotKnown" : Str), false), (("NotUnread" : Str), false), (("NothingToRedo" : Str), false), (("NothingToUndo" : Str), true), (("OtherTown" : Str), false), (("SignError" : Str), false), (("TooMany" : Str), false), (("Torn" : Str), false)]
def isx_OtherTown : List (Str × Bool) := [(("BadClaim" : Str), false), (("BadClaims" : Str), false), (("BadDrive" : Str), false), (("BadJournal" : Str), false), (("BadLine" : Str), false), (("BadLot" : Str), false), (("BadNumber" : Str), false), (("BadOffers" : Str), false), (("BadSet" : Str), false), (("BadSigns" : Str), false), (("BadTown" : Str), false), (("BadWishes" : Str), false), (("Contrary" : Str), false), (("Few" : Str), false), (("Full" : Str), false), (("HasKnown" : Str), false), (("NoMap" : Str), false), (("NoPlace" : Str), false), (("NoStreet" : Str), false), (("NoTrial" : Str), false), (("NotKnown" : Str), false), (("NotUnread" : Str), false), (("NothingToRedo" : Str), false), (("NothingToUndo" : Str), false), (("OtherTown" : Str), true), (("SignError" : Str), false), (("TooMany" : Str), false), (("Torn" : Str), false)]
def isx_SignError : List (Str × Bool) := [(("BadClaim" : Str), true), (("BadClaims" : Str), true), (("BadDrive" : Str), true), (("BadJournal" : Str), true), (("BadLine" : Str), true), (("BadLot" : Str), true), (("BadNumber" : Str), true), (("BadOffers" : Str), true), (("BadSet" : Str), true), (("BadSigns" : Str), true), (("BadTown" : Str), true), (("BadWishes" : Str), true), (("Contrary" : Str), true), (("Few" : Str), true), (("Full" : Str), true), (("HasKnown" : Str), true), (("NoMap" : Str), true), (("NoPlace" : Str), true), (("NoStreet" : Str), true), (("NoTrial" : Str), true), (("NotKnown" : Str), true), (("NotUnread" : Str), true), (("NothingToRedo" : Str), true), (("NothingToUndo" : Str), true), (("OtherTown" : Str), true), (("SignError" : Str), true), (("TooMany" : Str), true), (("Torn" : Str), true)]
def isx_TooMany : List (Str × Bool) := [(("BadClaim" : Str), false), (("BadClaims" : Str), false), (("BadDrive" : Str), false), (("BadJournal" : Str), false), (("BadLine" : Str), false), (("BadLot" : Str), false), (("BadNumber" : Str), false), (("BadOffers" : Str), false), (("BadSet" : Str), false), (("BadSigns" : Str), false), (("BadTown" : Str), false), (("BadWishes" : Str), false), (("Contrary" : Str), false), (("Few" : Str), false), (("Full" : Str), false), (("HasKnown" : Str), false), (("NoMap" : Str), false), (("NoPlace" : Str), false), (("NoStreet" : Str), false), (("NoTrial" : Str), false), (("NotKnown" : Str), false), (("NotUnread" : Str), false), (("NothingToRedo" : Str), false), (("NothingToUndo" : Str), false), (("OtherTown" : Str), false), (("SignError" : Str), false), (("TooMany" : Str), true), (("Torn" : Str), false)]
def isx_Torn : List (Str × Bool) := [(("BadClaim" : Str), false), (("BadClaims" : Str), false), (("BadDrive" : Str), false), (("BadJournal" : Str), false), (("BadLine" : Str), false), (("BadLot" : Str), false), (("BadNumber" : Str), false), (("BadOffers" : Str), false), (("BadSet" : Str), false), (("BadSigns" : Str), false), (("BadTown" : Str), false), (("BadWishes" : Str), false), (("Contrary" : Str), false), (("Few" : Str), false), (("Full" : Str), false), (("HasKnown" : Str), false), (("NoMap" : Str), false), (("NoPlace" : Str), false), (("NoStreet" : Str), false), (("NoTrial" : Str), false), (("NotKnown" : Str), false), (("NotUnread" : Str), false), (("NothingToRedo" : Str), false), (("NothingToUndo" : Str), false), (("OtherTown" : Str), false), (("SignError" : Str), false), (("TooMany" : Str), false), (("Torn" : Str), true)]
def isx_ValueError : List (Str × Bool) := [(("BadClaim" : Str), true), (("BadClaims" : Str), true), (("BadDrive" : Str), true), (("BadJournal" : Str), true), (("BadLine" : Str), true), (("BadLot" : Str), true), (("BadNumber" : Str), true), (("BadOffers" : Str), true), (("BadSet" : Str), true), (("BadSigns" : Str), true), (("BadTown" : Str), true), (("BadWishes" : Str), true), (("Contrary" : Str), true), (("Few" : Str), true), (("Full" : Str), true), (("HasKnown" : Str), true), (("NoMap" : Str), true), (("NoPlace" : Str), true), (("NoStreet" : Str), true), (("NoTrial" : Str), true), (("NotKnown" : Str), true), (("NotUnread" : Str), true), (("NothingToRedo" : Str), true), (("NothingToUndo" : Str), true), (("OtherTown" : Str), true), (("SignError" : Str), true), (("TooMany" : Str), true), (("Torn" : Str), true)]
structure Facts (W : Wd) : Prop where
  bn : ∀ x : Str, ([("ValueError" : Str), ("abs" : Str), ("all" : Str), ("any" : Str), ("enumerate" : Str), ("int" : Str), ("isinstance" : Str), ("len" : Str), ("list" : Str), ("max" : Str), ("min" : Str), ("range" : Str), ("repr" : Str), ("set" : Str), ("super" : Str), ("zip" : Str)] : List Str).contains x = true → W.mg x = none
  sys : ∃ o, W.K.lookup sysModules = some o
  is_BadClaim : IsiOk W is_BadClaim (.ref (He.ga W.K ("BadClaim" : Str)))
  mg_BadClaim : W.mg ("BadClaim" : Str) = some (.ref (He.ga W.K ("BadClaim" : Str)))
  is_BadClaims : IsiOk W is_BadClaims (.ref (He.ga W.K ("BadClaims" : Str)))
  mg_BadClaims : W.mg ("BadClaims" : Str) = some (.ref (He.ga W.K ("BadClaims" : Str)))
  is_BadDrive : IsiOk W is_BadDrive (.ref (He.ga W.K ("BadDrive" : Str)))
  mg_BadDrive : W.mg ("BadDrive" : Str) = some (.ref (He.ga W.K ("BadDrive" : Str)))
  is_BadJournal : IsiOk W is_BadJournal (.ref (He.ga W.K ("BadJournal" : Str)))
  mg_BadJournal : W.mg ("BadJournal" : Str) = some (.ref (He.ga W.K ("BadJournal" : Str)))
  is_BadLine : IsiOk W is_BadLine (.ref (He.ga W.K ("BadLine" : Str)))
  mg_BadLine : W.mg ("BadLine" : Str) = some (.ref (He.ga W.K ("BadLine" : Str)))
  is_BadLot : IsiOk W is_BadLot (.ref (He.ga W.K ("BadLot" : Str)))
  mg_BadLot : W.mg ("BadLot" : Str) = some (.ref (He.ga W.K ("BadLot" : Str)))
  is_BadNumber : IsiOk W is_BadNumber (.ref (He.ga W.K ("BadNumber" : Str)))
  mg_BadNumber : W.mg ("BadNumber" : Str) = some (.ref (He.ga W.K ("BadNumber" : Str)))
  is_BadOffers : IsiOk W is_BadOffers (.ref (He.ga W.K ("BadOffers" : Str)))
  mg_BadOffers : W.mg ("BadOffers" : Str) = some (.ref (He.ga W.K ("BadOffers" : Str)))
  is_BadSet : IsiOk W is_BadSet (.ref (He.ga W.K ("BadSet" : Str)))
  mg_BadSet : W.mg ("BadSet" : Str) = some (.ref (He.ga W.K ("BadSet" : Str)))
  is_BadSigns : IsiOk W is_BadSigns (.ref (He.ga W.K ("BadSigns" : Str)))
  mg_BadSigns : W.mg ("BadSigns" : Str) = some (.ref (He.ga W.K ("BadSigns" : Str)))
  is_BadTown : IsiOk W is_BadTown (.ref (He.ga W.K ("BadTown" : Str)))
  mg_BadTown : W.mg ("BadTown" : Str) = some (.ref (He.ga W.K ("BadTown" : Str)))
  is_BadWishes : IsiOk W is_BadWishes (.ref (He.ga W.K ("BadWishes" : Str)))
  mg_BadWishes : W.mg ("BadWishes" : Str) = some (.ref (He.ga W.K ("BadWishes" : Str)))
  is_Contrary : IsiOk W is_Contrary (.ref (He.ga W.K ("Contrary" : Str)))
  mg_Contrary : W.mg ("Contrary" : Str) = some (.ref (He.ga W.K ("Contrary" : Str)))
  is_Few : IsiOk W is_Few (.ref (He.ga W.K ("Few" : Str)))
  mg_Few : W.mg ("Few" : Str) = some (.ref (He.ga W.K ("Few" : Str)))
  is_Full : IsiOk W is_Full (.ref (He.ga W.K ("Full" : Str)))
  mg_Full : W.mg ("Full" : Str) = some (.ref (He.ga W.K ("Full" : Str)))
  is_HasKnown : IsiOk W is_HasKnown (.ref (He.ga W.K ("HasKnown" : Str)))
  mg_HasKnown : W.mg ("HasKnown" : Str) = some (.ref (He.ga W.K ("HasKnown" : Str)))
  is_NoMap : IsiOk W is_NoMap (.ref (He.ga W.K ("NoMap" : Str)))
  mg_NoMap : W.mg ("NoMap" : Str) = some (.ref (He.ga W.K ("NoMap" : Str)))
  is_NoPlace : IsiOk W is_NoPlace (.ref (He.ga W.K ("NoPlace" : Str)))
  mg_NoPlace : W.mg ("NoPlace" : Str) = some (.ref (He.ga W.K ("NoPlace" : Str)))
  is_NoStreet : IsiOk W is_NoStreet (.ref (He.ga W.K ("NoStreet" : Str)))
  mg_NoStreet : W.mg ("NoStreet" : Str) = some (.ref (He.ga W.K ("NoStreet" : Str)))
  is_NoTrial : IsiOk W is_NoTrial (.ref (He.ga W.K ("NoTrial" : Str)))
  mg_NoTrial : W.mg ("NoTrial" : Str) = some (.ref (He.ga W.K ("NoTrial" : Str)))
  is_NotKnown : IsiOk W is_NotKnown (.ref (He.ga W.K ("NotKnown" : Str)))
  mg_NotKnown : W.mg ("NotKnown" : Str) = some (.ref (He.ga W.K ("NotKnown" : Str)))
  is_NotUnread : IsiOk W is_NotUnread (.ref (He.ga W.K ("NotUnread" : Str)))
  mg_NotUnread : W.mg ("NotUnread" : Str) = some (.ref (He.ga W.K ("NotUnread" : Str)))
  is_NothingToRedo : IsiOk W is_NothingToRedo (.ref (He.ga W.K ("NothingToRedo" : Str)))
  mg_NothingToRedo : W.mg ("NothingToRedo" : Str) = some (.ref (He.ga W.K ("NothingToRedo" : Str)))
  is_NothingToUndo : IsiOk W is_NothingToUndo (.ref (He.ga W.K ("NothingToUndo" : Str)))
  mg_NothingToUndo : W.mg ("NothingToUndo" : Str) = some (.ref (He.ga W.K ("NothingToUndo" : Str)))
  is_OtherTown : IsiOk W is_OtherTown (.ref (He.ga W.K ("OtherTown" : Str)))
  mg_OtherTown : W.mg ("OtherTown" : Str) = some (.ref (He.ga W.K ("OtherTown" : Str)))
  is_SignError : IsiOk W is_SignError (.ref (He.ga W.K ("SignError" : Str)))
  mg_SignError : W.mg ("SignError" : Str) = some (.ref (He.ga W.K ("SignError" : Str)))
  is_TooMany : IsiOk W is_TooMany (.ref (He.ga W.K ("TooMany" : Str)))
  mg_TooMany : W.mg ("TooMany" : Str) = some (.ref (He.ga W.K ("TooMany" : Str)))
  is_Torn : IsiOk W is_Torn (.ref (He.ga W.K ("Torn" : Str)))
  mg_Torn : W.mg ("Torn" : Str) = some (.ref (He.ga W.K ("Torn" : Str)))
  is_ValueError : IsiOk W is_ValueError (.type "ValueError")
  cx : W.CX = L2.CX W.P W.w
  er_BadClaim : ErrOk W ("BadClaim" : Str)
  er_BadClaims : ErrOk W ("BadClaims" : Str)
  er_BadDrive : ErrOk W ("BadDrive" : Str)
  er_BadJournal : ErrOk W ("BadJournal" : Str)
  er_BadLine : ErrOk W ("BadLine" : Str)
  er_BadLot : ErrOk W ("BadLot" : Str)
  er_BadNumber : ErrOk W ("BadNumber" : Str)
  er_BadOffers : ErrOk W ("BadOffers" : Str)
  er_BadSet : ErrOk W ("BadSet" : Str)
  er_BadSigns : ErrOk W ("BadSigns" : Str)
  er_BadTown : ErrOk W ("BadTown" : Str)
  er_BadWishes : ErrOk W ("BadWishes" : Str)
  er_Contrary : ErrOk W ("Contrary" : Str)
  er_Few : ErrOk W ("Few" : Str)
  er_Full : ErrOk W ("Full" : Str)
  er_HasKnown : ErrOk W ("HasKnown" : Str)
  er_NoMap : ErrOk W ("NoMap" : Str)
  er_NoPlace : ErrOk W ("NoPlace" : Str)
  er_NoStreet : ErrOk W ("NoStreet" : Str)
  er_NoTrial : ErrOk W ("NoTrial" : Str)
  er_NotKnown : ErrOk W ("NotKnown" : Str)
  er_NotUnread : ErrOk W ("NotUnread" : Str)
  er_NothingToRedo : ErrOk W ("NothingToRedo" : Str)
  er_NothingToUndo : ErrOk W ("NothingToUndo" : Str)
  er_OtherTown : ErrOk W ("OtherTown" : Str)
  er_SignError : ErrOk W ("SignError" : Str)
  er_TooMany : ErrOk W ("TooMany" : Str)
  er_Torn : ErrOk W ("Torn" : Str)
  xv : ∀ c ∈ c_errs, XfC W.K (He.ga W.K c) ∧ PySem.W.findIn W.K (.ref (He.ga W.K c)) "value" = some none
  isx_BadClaim : ∀ p ∈ isx_BadClaim, L2.ExcC W.K (He.ga W.K p.1) ∧ PySem.W.kitOne W.K (.ref (He.ga W.K p.1)) (.ref (He.ga W.K ("BadClaim" : Str))) = some p.2
  isx_BadClaims : ∀ p ∈ isx_BadClaims, L2.ExcC W.K (He.ga W.K p.1) ∧ PySem.W.kitOne W.K (.ref (He.ga W.K p.1)) (.ref (He.ga W.K ("BadClaims" : Str))) = some p.2
  isx_BadDrive : ∀ p ∈ isx_BadDrive, L2.ExcC W.K (He.ga W.K p.1) ∧ PySem.W.kitOne W.K (.ref (He.ga W.K p.1)) (.ref (He.ga W.K ("BadDrive" : Str))) = some p.2
  isx_BadJournal : ∀ p ∈ isx_BadJournal, L2.ExcC W.K (He.ga W.K p.1) ∧ PySem.W.kitOne W.K (.ref (He.ga W.K p.1)) (.ref (He.ga W.K ("BadJournal" : Str))) = some p.2
  isx_BadLine : ∀ p ∈ isx_BadLine, L2.ExcC W.K (He.ga W.K p.1) ∧ PySem.W.kitOne W.K (.ref (He.ga W.K p.1)) (.ref (He.ga W.K ("BadLine" : Str))) = some p.2
  isx_BadLot : ∀ p ∈ isx_BadLot, L2.ExcC W.K (He.ga W.K p.1) ∧ PySem.W.kitOne W.K (.ref (He.ga W.K p.1)) (.ref (He.ga W.K ("BadLot" : Str))) = some p.2
  isx_BadNumber : ∀ p ∈ isx_BadNumber, L2.ExcC W.K (He.ga W.K p.1) ∧ PySem.W.kitOne W.K (.ref (He.ga W.K p.1)) (.ref (He.ga W.K ("BadNumber" : Str))) = some p.2
  isx_BadOffers : ∀ p ∈ isx_BadOffers, L2.ExcC W.K (He.ga W.K p.1) ∧ PySem.W.kitOne W.K (.ref (He.ga W.K p.1)) (.ref (He.ga W.K ("BadOffers" : Str))) = some p.2
  isx_BadSet : ∀ p ∈ isx_BadSet, L2.ExcC W.K (He.ga W.K p.1) ∧ PySem.W.kitOne W.K (.ref (He.ga W.K p.1)) (.ref (He.ga W.K ("BadSet" : Str))) = some p.2
  isx_BadSigns : ∀ p ∈ isx_BadSigns, L2.ExcC W.K (He.ga W.K p.1) ∧ PySem.W.kitOne W.K (.ref (He.ga W.K p.1)) (.ref (He.ga W.K ("BadSigns" : Str))) = some p.2
  isx_BadTown : ∀ p ∈ isx_BadTown, L2.ExcC W.K (He.ga W.K p.1) ∧ PySem.W.kitOne W.K (.ref (He.ga W.K p.1)) (.ref (He.ga W.K ("BadTown" : Str))) = some p.2
  isx_BadWishes : ∀ p ∈ isx_BadWishes, L2.ExcC W.K (He.ga W.K p.1) ∧ PySem.W.kitOne W.K (.ref (He.ga W.K p.1)) (.ref (He.ga W.K ("BadWishes" : Str))) = some p.2
  isx_Contrary : ∀ p ∈ isx_Contrary, L2.ExcC W.K (He.ga W.K p.1) ∧ PySem.W.kitOne W.K (.ref (He.ga W.K p.1)) (.ref (He.ga W.K ("Contrary" : Str))) = some p.2
  isx_Few : ∀ p ∈ isx_Few, L2.ExcC W.K (He.ga W.K p.1) ∧ PySem.W.kitOne W.K (.ref (He.ga W.K p.1)) (.ref (He.ga W.K ("Few" : Str))) = some p.2
  isx_Full : ∀ p ∈ isx_Full, L2.ExcC W.K (He.ga W.K p.1) ∧ PySem.W.kitOne W.K (.ref (He.ga W.K p.1)) (.ref (He.ga W.K ("Full" : Str))) = some p.2
  isx_HasKnown : ∀ p ∈ isx_HasKnown, L2.ExcC W.K (He.ga W.K p.1) ∧ PySem.W.kitOne W.K (.ref (He.ga W.K p.1)) (.ref (He.ga W.K ("HasKnown" : Str))) = some p.2
  isx_NoMap : ∀ p ∈ isx_NoMap, L2.ExcC W.K (He.ga W.K p.1) ∧ PySem.W.kitOne W.K (.ref (He.ga W.K p.1)) (.ref (He.ga W.K ("NoMap" : Str))) = some p.2
  isx_NoPlace : ∀ p ∈ isx_NoPlace, L2.ExcC W.K (He.ga W.K p.1) ∧ PySem.W.kitOne W.K (.ref (He.ga W.K p.1)) (.ref (He.ga W.K ("NoPlace" : Str))) = some p.2
  isx_NoStreet : ∀ p ∈ isx_NoStreet, L2.ExcC W.K (He.ga W.K p.1) ∧ PySem.W.kitOne W.K (.ref (He.ga W.K p.1)) (.ref (He.ga W.K ("NoStreet" : Str))) = some p.2
  isx_NoTrial : ∀ p ∈ isx_NoTrial, L2.ExcC W.K (He.ga W.K p.1) ∧ PySem.W.kitOne W.K (.ref (He.ga W.K p.1)) (.ref (He.ga W.K ("NoTrial" : Str))) = some p.2
  isx_NotKnown : ∀ p ∈ isx_NotKnown, L2.ExcC W.K (He.ga W.K p.1) ∧ PySem.W.kitOne W.K (.ref (He.ga W.K p.1)) (.ref (He.ga W.K ("NotKnown" : Str))) = some p.2
  isx_NotUnread : ∀ p ∈ isx_NotUnread, L2.ExcC W.K (He.ga W.K p.1) ∧ PySem.W.kitOne W.K (.ref (He.ga W.K p.1)) (.ref (He.ga W.K ("NotUnread" : Str))) = some p.2
  isx_NothingToRedo : ∀ p ∈ isx_NothingToRedo, L2.ExcC W.K (He.ga W.K p.1) ∧ PySem.W.kitOne W.K (.ref (He.ga W.K p.1)) (.ref (He.ga W.K ("NothingToRedo" : Str))) = some p.2
  isx_NothingToUndo : ∀ p ∈ isx_NothingToUndo, L2.ExcC W.K (He.ga W.K p.1) ∧ PySem.W.kitOne W.K (.ref (He.ga W.K p.1)) (.ref (He.ga W.K ("NothingToUndo" : Str))) = some p.2
  isx_OtherTown : ∀ p ∈ isx_OtherTown, L2.ExcC W.K (He.ga W.K p.1) ∧ PySem.W.kitOne W.K (.ref (He.ga W.K p.1)) (.ref (He.ga W.K ("OtherTown" : Str))) = some p.2
  isx_SignError : ∀ p ∈ isx_SignError, L2.ExcC W.K (He.ga W.K p.1) ∧ PySem.W.kitOne W.K (.ref (He.ga W.K p.1)) (.ref (He.ga W.K ("SignError" : Str))) = some p.2
  isx_TooMany : ∀ p ∈ isx_TooMany, L2.ExcC W.K (He.ga W.K p.1) ∧ PySem.W.kitOne W.K (.ref (He.ga W.K p.1)) (.ref (He.ga W.K ("TooMany" : Str))) = some p.2
  isx_Torn : ∀ p ∈ isx_Torn, L2.ExcC W.K (He.ga W.K p.1) ∧ PySem.W.kitOne W.K (.ref (He.ga W.K p.1)) (.ref (He.ga W.K ("Torn" : Str))) = some p.2
  isx_ValueError : ∀ p ∈ isx_ValueError, L2.ExcC W.K (He.ga W.K p.1) ∧ PySem.W.kitOne W.K (.ref (He.ga W.K p.1)) (.type "ValueError") = some p.2
  fn_f_law_take : ∃ f, FnAt W ("_law_take" : Str) ("_law_take" : Str) (st 31) f ∧ W.mg ("_law_take" : Str) = some (.ref f)
  fn_f_law_of : ∃ f, FnAt W ("_law_of" : Str) ("_law_of" : Str) (st 32) f ∧ W.mg ("_law_of" : Str) = some (.ref f)
  fn_f_law_made : ∃ f, FnAt W ("_law_made" : Str) ("_law_made" : Str) (st 35) f ∧ W.mg ("_law_made" : Str) = some (.ref f)
  fn_f_law_odd : ∃ f, FnAt W ("_law_odd" : Str) ("_law_odd" : Str) (st 34) f ∧ W.mg ("_law_odd" : Str) = some (.ref f)
  fn_f_law_marks : ∃ f, FnAt W ("_law_marks" : Str) ("_law_marks" : Str) (st 36) f ∧ W.mg ("_law_marks" : Str) = some (.ref f)
  fn_f_law_right : ∃ f, FnAt W ("_law_right" : Str) ("_law_right" : Str) (st 37) f ∧ W.mg ("_law_right" : Str) = some (.ref f)
  fn_f_law_pot : ∃ f, FnAt W ("_law_pot" : Str) ("_law_pot" : Str) (st 30) f ∧ W.mg ("_law_pot" : Str) = some (.ref f)
  fn_f_law_cells : ∃ f, FnAt W ("_law_cells" : Str) ("_law_cells" : Str) (st 33) f ∧ W.mg ("_law_cells" : Str) = some (.ref f)
  fn_f_law : ∃ f, FnAt W ("law" : Str) ("law" : Str) (st 38) f ∧ W.mg ("law" : Str) = some (.ref f)
variable {W : Wd}
def g_f_law_take : List Sl → RS := fun ρ => ((stIf (evB (ev2 gtO (evIxV 0 (evLit (.int 0))) (evLit (.int 0)))) (fun ρ => ((stSet 4 (ev2 modO (evL intF (evCons (evIxV 0 (evLit (.int 0))) evNil)) (evV 1))) ρ).bind (fun ρ => ((stPut 0 (ev2 divO (evIxV 0 (evLit (.int 0))) (evV 1)) (evLit (.int 0))) ρ).bind (fun ρ => ((stRet (evV 4)) ρ).bind .nx))) (.nx)) ρ).bind (fun ρ => ((stPut 0 (ev2 add2O (evIxV 0 (evLit (.int 2))) (evLit (.int 1))) (evLit (.int 2))) ρ).bind (fun ρ => ((stSet 2 (ev2 ixO (frzE (evLst (evCons (evLit (.int 2147483647)) (evCons (evLit (.int 2147483629)) (evCons (evLit (.int 2147483587)) (evCons (evLit (.int 2147483579)) (evCons (evLit (.int 2147483563)) (evNil)))))))) (ev2 modO (evL intF (evCons (evIxV 0 (evLit (.int 2))) evNil)) (evLit (.int 5))))) ρ).bind (fun ρ => ((stSet 3 (ev2 modO (evL intF (evCons (ev2 powO (evL intF (evCons (ev2 add2O (ev2 add2O (evIxV 0 (evLit (.int 1))) (ev2 mulO (ev2 mulO (evLit (.int 97103)) (evIxV 0 (evLit (.int 2)))) (evIxV 0 (evLit (.int 2))))) (evLit (.int 41))) evNil)) (evLit (.int 3))) evNil)) (evV 2))) ρ).bind (fun ρ => ((stSet 3 (ev2 modO (evL intF (evCons (ev2 mulO (evV 3) (ev2 add2O (ev2 modO (evL intF (evCons (evV 3) evNil)) (evLit (.int 10037))) (ev2 mulO (evLit (.int 107)) (evIxV 0 (evLit (.int 2)))))) evNil)) (evLit (.int 2305843009213693907)))) ρ).bind (fun ρ => ((stRet (ev2 modO (evL intF (evCons (ev2 divO (evV 3) (evLit (.int 131))) evNil)) (evV 1))) ρ).bind .nx)))))
def F_f_law_take : Fd := ⟨[.mt, .sh], false, semOf 5 [.mt, .sh] false g_f_law_take⟩
@[simp] theorem F_f_law_take_md : F_f_law_take.md = [.mt, .sh] := rfl
@[simp] theorem F_f_law_take_own : F_f_law_take.own = false := rfl
theorem F_f_law_take_sem : F_f_law_take.sem = semOf 5 [.mt, .sh] false g_f_law_take := rfl
theorem k_f_law_take (wo : WOk W) (wf : Facts W) : Cal W 1 ("_law_take" : Str) F_f_law_take := cal_of (k := 0) (N := [("_law_pot_here" : Str), ("_law_upto" : Str), ("_law_prime" : Str), ("_law_mixed" : Str), ("_law_digit" : Str)]) (ps := [("_law_pot_here" : Str), ("_law_upto" : Str)]) wo wf.fn_f_law_take (by decide +kernel) rfl (fun _ _ _ _ _ _ us hl => match us, hl with | [_, _], _ => rfl) rfl fun X E hS B hB => have hX := hS.toXIs; dss_cons (ds_if (q_tgt hX hB (q_ixv hX hB (hX.vo (by decide +kernel)) rfl (q_int)) (q_int)) (dss_cons (ds_set hX.nN (hX.nm (by decide +kernel)) (hX.loc (by decide +kernel)) (.inl (hS.fn _)) (q_mod hX hB (q_intf hX hB (wf.bn ("int" : Str) (by decide +kernel)) (hX.go (by decide +kernel)) rfl (q_ixv hX hB (hX.vo (by decide +kernel)) rfl (q_int))) (q_v (hX.vo (by decide +kernel)))) rfl) (dss_cons (q_put hX (hX.vo (by decide +kernel)) (q_div hX hB (q_ixv hX hB (hX.vo (by decide +kernel)) rfl (q_int)) (q_v (hX.vo (by decide +kernel)))) (q_int) rfl rfl rfl (fun _ => rfl)) (dss_cons (ds_ret (q_v (hX.vo (by decide +kernel)))) (dss_nil)))) (dss_nil)) (dss_cons (q_put hX (hX.vo (by decide +kernel)) (q_add hX hB (q_ixv hX hB (hX.vo (by decide +kernel)) rfl (q_int)) (q_int)) (q_int) rfl rfl rfl (fun _ => rfl)) (dss_cons (ds_set hX.nN (hX.nm (by decide +kernel)) (hX.loc (by decide +kernel)) (.inl (hS.fn _)) (q_ix hX hB rfl (q_own (do_lst (da_cons rfl (q_int) (da_cons rfl (q_int) (da_cons rfl (q_int) (da_cons rfl (q_int) (da_cons rfl (q_int) (da_nil)))))))) (q_mod hX hB (q_intf hX hB (wf.bn ("int" : Str) (by decide +kernel)) (hX.go (by decide +kernel)) rfl (q_ixv hX hB (hX.vo (by decide +kernel)) rfl (q_int))) (q_int))) rfl) (dss_cons (ds_set hX.nN (hX.nm (by decide +kernel)) (hX.loc (by decide +kernel)) (.inl (hS.fn _)) (q_mod hX hB (q_intf hX hB (wf.bn ("int" : Str) (by decide +kernel)) (hX.go (by decide +kernel)) rfl (q_pow hX hB (q_intf hX hB (wf.bn ("int" : Str) (by decide +kernel)) (hX.go (by decide +kernel)) rfl (q_add hX hB (q_add hX hB (q_ixv hX hB (hX.vo (by decide +kernel)) rfl (q_int)) (q_mul hX hB (q_mul hX hB (q_int) (q_ixv hX hB (hX.vo (by decide +kernel)) rfl (q_int))) (q_ixv hX hB (hX.vo (by decide +kernel)) rfl (q_int)))) (q_int))) (q_int))) (q_v (hX.vo (by decide +kernel)))) rfl) (dss_cons (ds_set hX.nN (hX.nm (by decide +kernel)) (hX.loc (by decide +kernel)) (.inl (hS.fn _)) (q_mod hX hB (q_intf hX hB (wf.bn ("int" : Str) (by decide +kernel)) (hX.go (by decide +kernel)) rfl (q_mul hX hB (q_v (hX.vo (by decide +kernel))) (q_add hX hB (q_mod hX hB (q_intf hX hB (wf.bn ("int" : Str) (by decide +kernel)) (hX.go (by decide +kernel)) rfl (q_v (hX.vo (by decide +kernel)))) (q_int)) (q_mul hX hB (q_int) (q_ixv hX hB (hX.vo (by decide +kernel)) rfl (q_int)))))) (q_int)) rfl) (dss_cons (ds_ret (q_mod hX hB (q_intf hX hB (wf.bn ("int" : Str) (by decide +kernel)) (hX.go (by decide +kernel)) rfl (q_div hX hB (q_v (hX.vo (by decide +kernel))) (q_int))) (q_v (hX.vo (by decide +kernel))))) (dss_nil))))))
def g_f_law_of : List Sl → RS := fun ρ => ((stRet (evIxV 1 (evCall F_f_law_take (asS 0 (asD (evLenV 1) (asNil)))))) ρ).bind .nx
def F_f_law_of : Fd := ⟨[.mt, .sh], false, semOf 2 [.mt, .sh] false g_f_law_of⟩
@[simp] theorem F_f_law_of_md : F_f_law_of.md = [.mt, .sh] := rfl
@[simp] theorem F_f_law_of_own : F_f_law_of.own = false := rfl
theorem F_f_law_of_sem : F_f_law_of.sem = semOf 2 [.mt, .sh] false g_f_law_of := rfl
theorem k_f_law_of (wo : WOk W) (wf : Facts W) : Cal W 3 ("_law_of" : Str) F_f_law_of := cal_of (k := 2) (N := [("_law_pot_here" : Str), ("_law_some" : Str)]) (ps := [("_law_pot_here" : Str), ("_law_some" : Str)]) wo wf.fn_f_law_of (by decide +kernel) rfl (fun _ _ _ _ _ _ us hl => match us, hl with | [_, _], _ => rfl) rfl fun X E hS B hB => have hX := hS.toXIs; dss_cons (ds_ret (q_ixv hX hB (hX.vo (by decide +kernel)) rfl (de_call wo hX hB (k_f_law_take wo wf) (by decide) rfl (hX.go (by decide +kernel)).l rfl rfl rfl (q_asS (hX.vo (by decide +kernel)) (das_d rfl (q_lenv hX hB (wf.bn ("len" : Str) (by decide +kernel)) (hX.go (by decide +kernel)) (hX.vo (by decide +kernel))) (das_nil)))))) (dss_nil)
def g_f_law_made : List Sl → RS := fun ρ => ((stOwn 1 (evLst (evCons (evExn ("BadTown" : Str) (evV 0)) (evCons (evExn ("NoStreet" : Str) (evV 0)) (evCons (evExn ("NoPlace" : Str) (evV 0)) (evCons (evExn ("BadClaim" : Str) (evV 0)) (evCons (evExn ("NotKnown" : Str) (evV 0)) (evNil)))))))) ρ).bind (fun ρ => ((stExp (evMt extF 1 (evCons (frzE (evLst (evCons (evExn ("BadLine" : Str) (evV 0)) (evCons (evExn ("Full" : Str) (evV 0)) (evCons (evExn ("Few" : Str) (evV 0)) (evCons (evExn ("BadSigns" : Str) (evV 0)) (evCons (evExn ("Torn" : Str) (evV 0)) (evCons (evExn ("BadSet" : Str) (evV 0)) (evNil))))))))) (evNil)))) ρ).bind (fun ρ => ((stExp (evMt extF 1 (evCons (frzE (evLst (evCons (evExn ("NoMap" : Str) (evV 0)) (evCons (evExn ("BadClaims" : Str) (evV 0)) (evCons (evExn ("BadDrive" : Str) (evV 0)) (evCons (evExn ("NotUnread" : Str) (evV 0)) (evCons (evExn ("TooMany" : Str) (evV 0)) (evNil)))))))) (evNil)))) ρ).bind (fun ρ => ((stExp (evMt extF 1 (evCons (frzE (evLst (evCons (evExn ("BadNumber" : Str) (evV 0)) (evCons (evExn ("BadLot" : Str) (evV 0)) (evCons (evExn ("OtherTown" : Str) (evV 0)) (evCons (evExn ("HasKnown" : Str) (evV 0)) (evCons (evExn ("BadOffers" : Str) (evV 0)) (evNil)))))))) (evNil)))) ρ).bind (fun ρ => ((stExp (evMt extF 1 (evCons (frzE (evLst (evCons (evExn ("BadWishes" : Str) (evV 0)) (evCons (evExn ("Contrary" : Str) (evV 0)) (evCons (evExn ("NothingToUndo" : Str) (evV 0)) (evCons (evExn ("NothingToRedo" : Str) (evV 0)) (evNil))))))) (evNil)))) ρ).bind (fun ρ => ((stExp (evMt extF 1 (evCons (frzE (evLst (evCons (evExn ("NoTrial" : Str) (evV 0)) (evCons (evExn ("BadJournal" : Str) (evV 0)) (evNil))))) (evNil)))) ρ).bind (fun ρ => ((stRet (evV 1)) ρ).bind .nx))))))
def F_f_law_made : Fd := ⟨[.sh], false, semOf 2 [.sh] false g_f_law_made⟩
@[simp] theorem F_f_law_made_md : F_f_law_made.md = [.sh] := rfl
@[simp] theorem F_f_law_made_own : F_f_law_made.own = false := rfl
theorem F_f_law_made_sem : F_f_law_made.sem = semOf 2 [.sh] false g_f_law_made := rfl
theorem k_f_law_made (wo : WOk W) (wf : Facts W) : Cal W 3 ("_law_made" : Str) F_f_law_made := cal_of (k := 2) (N := [("_law_value" : Str), ("_law_found" : Str)]) (ps := [("_law_value" : Str)]) wo wf.fn_f_law_made (by decide +kernel) rfl (fun _ _ _ _ _ _ us hl => match us, hl with | [_], _ => rfl) rfl fun X E hS B hB => have hX := hS.toXIs; dss_cons (ds_own hX.nN (hX.nm (by decide +kernel)) (hX.loc (by decide +kernel)) (.inl (hS.fn _)) (do_lst (da_cons rfl (q_exn hX hB (by decide) wf.er_BadTown (hX.go (by decide +kernel)).g rfl (q_v (hX.vo (by decide +kernel))) rfl) (da_cons rfl (q_exn hX hB (by decide) wf.er_NoStreet (hX.go (by decide +kernel)).g rfl (q_v (hX.vo (by decide +kernel))) rfl) (da_cons rfl (q_exn hX hB (by decide) wf.er_NoPlace (hX.go (by decide +kernel)).g rfl (q_v (hX.vo (by decide +kernel))) rfl) (da_cons rfl (q_exn hX hB (by decide) wf.er_BadClaim (hX.go (by decide +kernel)).g rfl (q_v (hX.vo (by decide +kernel))) rfl) (da_cons rfl (q_exn hX hB (by decide) wf.er_NotKnown (hX.go (by decide +kernel)).g rfl (q_v (hX.vo (by decide +kernel))) rfl) (da_nil))))))) rfl) (dss_cons (ds_exp (q_extend hX hB (hX.vo (by decide +kernel)) rfl rfl rfl rfl rfl (da_cons rfl (q_own (do_lst (da_cons rfl (q_exn hX hB (by decide) wf.er_BadLine (hX.go (by decide +kernel)).g rfl (q_v (hX.vo (by decide +kernel))) rfl) (da_cons rfl (q_exn hX hB (by decide) wf.er_Full (hX.go (by decide +kernel)).g rfl (q_v (hX.vo (by decide +kernel))) rfl) (da_cons rfl (q_exn hX hB (by decide) wf.er_Few (hX.go (by decide +kernel)).g rfl (q_v (hX.vo (by decide +kernel))) rfl) (da_cons rfl (q_exn hX hB (by decide) wf.er_BadSigns (hX.go (by decide +kernel)).g rfl (q_v (hX.vo (by decide +kernel))) rfl) (da_cons rfl (q_exn hX hB (by decide) wf.er_Torn (hX.go (by decide +kernel)).g rfl (q_v (hX.vo (by decide +kernel))) rfl) (da_cons rfl (q_exn hX hB (by decide) wf.er_BadSet (hX.go (by decide +kernel)).g rfl (q_v (hX.vo (by decide +kernel))) rfl) (da_nil))))))))) (da_nil))) rfl) (dss_cons (ds_exp (q_extend hX hB (hX.vo (by decide +kernel)) rfl rfl rfl rfl rfl (da_cons rfl (q_own (do_lst (da_cons rfl (q_exn hX hB (by decide) wf.er_NoMap (hX.go (by decide +kernel)).g rfl (q_v (hX.vo (by decide +kernel))) rfl) (da_cons rfl (q_exn hX hB (by decide) wf.er_BadClaims (hX.go (by decide +kernel)).g rfl (q_v (hX.vo (by decide +kernel))) rfl) (da_cons rfl (q_exn hX hB (by decide) wf.er_BadDrive (hX.go (by decide +kernel)).g rfl (q_v (hX.vo (by decide +kernel))) rfl) (da_cons rfl (q_exn hX hB (by decide) wf.er_NotUnread (hX.go (by decide +kernel)).g rfl (q_v (hX.vo (by decide +kernel))) rfl) (da_cons rfl (q_exn hX hB (by decide) wf.er_TooMany (hX.go (by decide +kernel)).g rfl (q_v (hX.vo (by decide +kernel))) rfl) (da_nil)))))))) (da_nil))) rfl) (dss_cons (ds_exp (q_extend hX hB (hX.vo (by decide +kernel)) rfl rfl rfl rfl rfl (da_cons rfl (q_own (do_lst (da_cons rfl (q_exn hX hB (by decide) wf.er_BadNumber (hX.go (by decide +kernel)).g rfl (q_v (hX.vo (by decide +kernel))) rfl) (da_cons rfl (q_exn hX hB (by decide) wf.er_BadLot (hX.go (by decide +kernel)).g rfl (q_v (hX.vo (by decide +kernel))) rfl) (da_cons rfl (q_exn hX hB (by decide) wf.er_OtherTown (hX.go (by decide +kernel)).g rfl (q_v (hX.vo (by decide +kernel))) rfl) (da_cons rfl (q_exn hX hB (by decide) wf.er_HasKnown (hX.go (by decide +kernel)).g rfl (q_v (hX.vo (by decide +kernel))) rfl) (da_cons rfl (q_exn hX hB (by decide) wf.er_BadOffers (hX.go (by decide +kernel)).g rfl (q_v (hX.vo (by decide +kernel))) rfl) (da_nil)))))))) (da_nil))) rfl) (dss_cons (ds_exp (q_extend hX hB (hX.vo (by decide +kernel)) rfl rfl rfl rfl rfl (da_cons rfl (q_own (do_lst (da_cons rfl (q_exn hX hB (by decide) wf.er_BadWishes (hX.go (by decide +kernel)).g rfl (q_v (hX.vo (by decide +kernel))) rfl) (da_cons rfl (q_exn hX hB (by decide) wf.er_Contrary (hX.go (by decide +kernel)).g rfl (q_v (hX.vo (by decide +kernel))) rfl) (da_cons rfl (q_exn hX hB (by decide) wf.er_NothingToUndo (hX.go (by decide +kernel)).g rfl (q_v (hX.vo (by decide +kernel))) rfl) (da_cons rfl (q_exn hX hB (by decide) wf.er_NothingToRedo (hX.go (by decide +kernel)).g rfl (q_v (hX.vo (by decide +kernel))) rfl) (da_nil))))))) (da_nil))) rfl) (dss_cons (ds_exp (q_extend hX hB (hX.vo (by decide +kernel)) rfl rfl rfl rfl rfl (da_cons rfl (q_own (do_lst (da_cons rfl (q_exn hX hB (by decide) wf.er_NoTrial (hX.go (by decide +kernel)).g rfl (q_v (hX.vo (by decide +kernel))) rfl) (da_cons rfl (q_exn hX hB (by decide) wf.er_BadJournal (hX.go (by decide +kernel)).g rfl (q_v (hX.vo (by decide +kernel))) rfl) (da_nil))))) (da_nil))) rfl) (dss_cons (ds_ret (q_v (hX.vo (by decide +kernel)))) (dss_nil)))))))
def g_f_law_odd : List Sl → RS := fun ρ => ((stSet 1 (frzE (evLst (evCons (evLit .non) (evCons (evLit (.bl true)) (evCons (evLit (.bl false)) (evCons (evLit (.int 0)) (evCons (evLit (.int 1)) (evCons (evNeg (evLit (.int 1))) (evCons (ev2 powO (evLit (.int 10)) (evLit (.int 8))) (evCons (evLit (.str ("" : Str))) (evCons (evLit (.str ("a" : Str))) (evCons (evLit (.str ("0" : Str))) (evCons (evTup (evNil)) (evCons (frzE (evLst (evNil))) (evCons (frzE (evDic0)) (evCons (evTup (evCons (evLit (.int 0)) (evNil))) (evCons (evTup (evCons (evTup (evNil)) (evNil))) (evCons (frzE (evLst (evCons (evLit (.int 0)) (evNil)))) (evCons (evTup (evCons (evLit (.str ("a" : Str))) (evCons (evLit (.str ("b" : Str))) (evNil)))) (evCons (evTup (evCons (evLit (.str ("a" : Str))) (evNil))) (evCons (evLit (.str ("zz" : Str))) (evNil))))))))))))))))))))))) ρ).bind (fun ρ => ((stRet (evCall F_f_law_of (asS 0 (asD (ev2 add2O (evV 1) (frzE (evLst (evCons (evTup (evCons (evLit (.str ("a" : Str))) (evCons (evLit (.str ("b" : Str))) (evCons (evLit (.str ("c" : Str))) (evNil))))) (evCons (frzE (evLst (evCons (evTup (evCons (evLit (.str ("a" : Str))) (evCons (evLit (.str ("b" : Str))) (evNil)))) (evNil)))) (evCons (evTup (evCons (evTup (evCons (evLit (.str ("a" : Str))) (evCons (evLit (.str ("b" : Str))) (evNil)))) (evNil))) (evCons (frzE (evDisp [(evLit (.str ("a" : Str)), evLit (.str ("b" : Str)))])) (evCons (evLit (.str ("A" : Str))) (evCons (evLit (.str ("><" : Str))) (evCons (evTup (evCons (evLit (.str ("a" : Str))) (evCons (evLit (.str (">" : Str))) (evNil)))) (evNil))))))))))) (asNil))))) ρ).bind .nx)
def F_f_law_odd : Fd := ⟨[.mt], false, semOf 2 [.mt] false g_f_law_odd⟩
@[simp] theorem F_f_law_odd_md : F_f_law_odd.md = [.mt] := rfl
@[simp] theorem F_f_law_odd_own : F_f_law_odd.own = false := rfl
theorem F_f_law_odd_sem : F_f_law_odd.sem = semOf 2 [.mt] false g_f_law_odd := rfl
theorem k_f_law_odd (wo : WOk W) (wf : Facts W) : Cal W 5 ("_law_odd" : Str) F_f_law_odd := cal_of (k := 4) (N := [("_law_pot_here" : Str), ("_law_some" : Str)]) (ps := [("_law_pot_here" : Str)]) wo wf.fn_f_law_odd (by decide +kernel) rfl (fun _ _ _ _ _ _ us hl => match us, hl with | [_], _ => rfl) rfl fun X E hS B hB => have hX := hS.toXIs; dss_cons (ds_set hX.nN (hX.nm (by decide +kernel)) (hX.loc (by decide +kernel)) (.inl (hS.fn _)) (q_own (do_lst (da_cons rfl (q_non) (da_cons rfl (q_bl) (da_cons rfl (q_bl) (da_cons rfl (q_int) (da_cons rfl (q_int) (da_cons rfl (q_neg (q_int)) (da_cons rfl (q_pow hX hB (q_int) (q_int)) (da_cons rfl (q_str) (da_cons rfl (q_str) (da_cons rfl (q_str) (da_cons rfl (de_tup (da_nil)) (da_cons rfl (q_own (do_lst (da_nil))) (da_cons rfl (q_own (do_dic0)) (da_cons rfl (de_tup (da_cons rfl (q_int) (da_nil))) (da_cons rfl (de_tup (da_cons rfl (de_tup (da_nil)) (da_nil))) (da_cons rfl (q_own (do_lst (da_cons rfl (q_int) (da_nil)))) (da_cons rfl (de_tup (da_cons rfl (q_str) (da_cons rfl (q_str) (da_nil)))) (da_cons rfl (de_tup (da_cons rfl (q_str) (da_nil))) (da_cons rfl (q_str) (da_nil)))))))))))))))))))))) rfl) (dss_cons (ds_ret (de_call wo hX hB (k_f_law_of wo wf) (by decide) rfl (hX.go (by decide +kernel)).l rfl rfl rfl (q_asS (hX.vo (by decide +kernel)) (das_d rfl (q_add hX hB (q_v (hX.vo (by decide +kernel))) (q_own (do_lst (da_cons rfl (de_tup (da_cons rfl (q_str) (da_cons rfl (q_str) (da_cons rfl (q_str) (da_nil))))) (da_cons rfl (q_own (do_lst (da_cons rfl (de_tup (da_cons rfl (q_str) (da_cons rfl (q_str) (da_nil)))) (da_nil)))) (da_cons rfl (de_tup (da_cons rfl (de_tup (da_cons rfl (q_str) (da_cons rfl (q_str) (da_nil)))) (da_nil))) (da_cons rfl (q_own (q_disp rfl (q_dps wo hX hB (fun _ hB' hX' => q_str) (fun _ hB' hX' => q_str) (dps_nil)))) (da_cons rfl (q_str) (da_cons rfl (q_str) (da_cons rfl (de_tup (da_cons rfl (q_str) (da_cons rfl (q_str) (da_nil)))) (da_nil))))))))))) (das_nil))))) (dss_nil))
def g_f_law_marks : List Sl → RS := fun ρ => ((stOwn 1 (evLst (evCons (evIsiX is_BadTown isx_BadTown (evV 0)) (evCons (evIsiX is_NoStreet isx_NoStreet (evV 0)) (evCons (evIsiX is_NoPlace isx_NoPlace (evV 0)) (evNil)))))) ρ).bind (fun ρ => ((stExp (evMt extF 1 (evCons (frzE (evLst (evCons (evIsiX is_BadClaim isx_BadClaim (evV 0)) (evCons (evIsiX is_NotKnown isx_NotKnown (evV 0)) (evCons (evIsiX is_BadLine isx_BadLine (evV 0)) (evNil)))))) (evNil)))) ρ).bind (fun ρ => ((stExp (evMt extF 1 (evCons (frzE (evLst (evCons (evIsiX is_Full isx_Full (evV 0)) (evCons (evIsiX is_Few isx_Few (evV 0)) (evCons (evIsiX is_BadSigns isx_BadSigns (evV 0)) (evNil)))))) (evNil)))) ρ).bind (fun ρ => ((stExp (evMt extF 1 (evCons (frzE (evLst (evCons (evIsiX is_Torn isx_Torn (evV 0)) (evCons (evIsiX is_BadSet isx_BadSet (evV 0)) (evCons (evIsiX is_NoMap isx_NoMap (evV 0)) (evNil)))))) (evNil)))) ρ).bind (fun ρ => ((stExp (evMt extF 1 (evCons (frzE (evLst (evCons (evIsiX is_BadClaims isx_BadClaims (evV 0)) (evCons (evIsiX is_BadDrive isx_BadDrive (evV 0)) (evCons (evIsiX is_NotUnread isx_NotUnread (evV 0)) (evNil)))))) (evNil)))) ρ).bind (fun ρ => ((stExp (evMt extF 1 (evCons (frzE (evLst (evCons (evIsiX is_TooMany isx_TooMany (evV 0)) (evCons (evIsiX is_BadNumber isx_BadNumber (evV 0)) (evCons (evIsiX is_BadLot isx_BadLot (evV 0)) (evNil)))))) (evNil)))) ρ).bind (fun ρ => ((stExp (evMt extF 1 (evCons (frzE (evLst (evCons (evIsiX is_OtherTown isx_OtherTown (evV 0)) (evCons (evIsiX is_HasKnown isx_HasKnown (evV 0)) (evCons (evIsiX is_BadOffers isx_BadOffers (evV 0)) (evNil)))))) (evNil)))) ρ).bind (fun ρ => ((stExp (evMt extF 1 (evCons (frzE (evLst (evCons (evIsiX is_BadWishes isx_BadWishes (evV 0)) (evCons (evIsiX is_Contrary isx_Contrary (evV 0)) (evNil))))) (evNil)))) ρ).bind (fun ρ => ((stExp (evMt extF 1 (evCons (frzE (evLst (evCons (evIsiX is_NothingToUndo isx_NothingToUndo (evV 0)) (evCons (evIsiX is_NothingToRedo isx_NothingToRedo (evV 0)) (evNil))))) (evNil)))) ρ).bind (fun ρ => ((stExp (evMt extF 1 (evCons (frzE (evLst (evCons (evIsiX is_NoTrial isx_NoTrial (evV 0)) (evCons (evIsiX is_BadJournal isx_BadJournal (evV 0)) (evNil))))) (evNil)))) ρ).bind (fun ρ => ((stRet (evV 1)) ρ).bind .nx))))))))))
def F_f_law_marks : Fd := ⟨[.sh], false, semOf 2 [.sh] false g_f_law_marks⟩
@[simp] theorem F_f_law_marks_md : F_f_law_marks.md = [.sh] := rfl
@[simp] theorem F_f_law_marks_own : F_f_law_marks.own = false := rfl
theorem F_f_law_marks_sem : F_f_law_marks.sem = semOf 2 [.sh] false g_f_law_marks := rfl
theorem k_f_law_marks (wo : WOk W) (wf : Facts W) : Cal W 1 ("_law_marks" : Str) F_f_law_marks := cal_of (k := 0) (N := [("_law_error" : Str), ("_law_found" : Str)]) (ps := [("_law_error" : Str)]) wo wf.fn_f_law_marks (by decide +kernel) rfl (fun _ _ _ _ _ _ us hl => match us, hl with | [_], _ => rfl) rfl fun X E hS B hB => have hX := hS.toXIs; dss_cons (ds_own hX.nN (hX.nm (by decide +kernel)) (hX.loc (by decide +kernel)) (.inl (hS.fn _)) (do_lst (da_cons rfl (q_isiX hX hB (wf.bn ("isinstance" : Str) (by decide +kernel)) (hX.go (by decide +kernel)) wf.is_BadTown wf.isx_BadTown wf.mg_BadTown (hX.go (by decide +kernel)) rfl (q_v (hX.vo (by decide +kernel)))) (da_cons rfl (q_isiX hX hB (wf.bn ("isinstance" : Str) (by decide +kernel)) (hX.go (by decide +kernel)) wf.is_NoStreet wf.isx_NoStreet wf.mg_NoStreet (hX.go (by decide +kernel)) rfl (q_v (hX.vo (by decide +kernel)))) (da_cons rfl (q_isiX hX hB (wf.bn ("isinstance" : Str) (by decide +kernel)) (hX.go (by decide +kernel)) wf.is_NoPlace wf.isx_NoPlace wf.mg_NoPlace (hX.go (by decide +kernel)) rfl (q_v (hX.vo (by decide +kernel)))) (da_nil))))) rfl) (dss_cons (ds_exp (q_extend hX hB (hX.vo (by decide +kernel)) rfl rfl rfl rfl rfl (da_cons rfl (q_own (do_lst (da_cons rfl (q_isiX hX hB (wf.bn ("isinstance" : Str) (by decide +kernel)) (hX.go (by decide +kernel)) wf.is_BadClaim wf.isx_BadClaim wf.mg_BadClaim (hX.go (by decide +kernel)) rfl (q_v (hX.vo (by decide +kernel)))) (da_cons rfl (q_isiX hX hB (wf.bn ("isinstance" : Str) (by decide +kernel)) (hX.go (by decide +kernel)) wf.is_NotKnown wf.isx_NotKnown wf.mg_NotKnown (hX.go (by decide +kernel)) rfl (q_v (hX.vo (by decide +kernel)))) (da_cons rfl (q_isiX hX hB (wf.bn ("isinstance" : Str) (by decide +kernel)) (hX.go (by decide +kernel)) wf.is_BadLine wf.isx_BadLine wf.mg_BadLine (hX.go (by decide +kernel)) rfl (q_v (hX.vo (by decide +kernel)))) (da_nil)))))) (da_nil))) rfl) (dss_cons (ds_exp (q_extend hX hB (hX.vo (by decide +kernel)) rfl rfl rfl rfl rfl (da_cons rfl (q_own (do_lst (da_cons rfl (q_isiX hX hB (wf.bn ("isinstance" : Str) (by decide +kernel)) (hX.go (by decide +kernel)) wf.is_Full wf.isx_Full wf.mg_Full (hX.go (by decide +kernel)) rfl (q_v (hX.vo (by decide +kernel)))) (da_cons rfl (q_isiX hX hB (wf.bn ("isinstance" : Str) (by decide +kernel)) (hX.go (by decide +kernel)) wf.is_Few wf.isx_Few wf.mg_Few (hX.go (by decide +kernel)) rfl (q_v (hX.vo (by decide +kernel)))) (da_cons rfl (q_isiX hX hB (wf.bn ("isinstance" : Str) (by decide +kernel)) (hX.go (by decide +kernel)) wf.is_BadSigns wf.isx_BadSigns wf.mg_BadSigns (hX.go (by decide +kernel)) rfl (q_v (hX.vo (by decide +kernel)))) (da_nil)))))) (da_nil))) rfl) (dss_cons (ds_exp (q_extend hX hB (hX.vo (by decide +kernel)) rfl rfl rfl rfl rfl (da_cons rfl (q_own (do_lst (da_cons rfl (q_isiX hX hB (wf.bn ("isinstance" : Str) (by decide +kernel)) (hX.go (by decide +kernel)) wf.is_Torn wf.isx_Torn wf.mg_Torn (hX.go (by decide +kernel)) rfl (q_v (hX.vo (by decide +kernel)))) (da_cons rfl (q_isiX hX hB (wf.bn ("isinstance" : Str) (by decide +kernel)) (hX.go (by decide +kernel)) wf.is_BadSet wf.isx_BadSet wf.mg_BadSet (hX.go (by decide +kernel)) rfl (q_v (hX.vo (by decide +kernel)))) (da_cons rfl (q_isiX hX hB (wf.bn ("isinstance" : Str) (by decide +kernel)) (hX.go (by decide +kernel)) wf.is_NoMap wf.isx_NoMap wf.mg_NoMap (hX.go (by decide +kernel)) rfl (q_v (hX.vo (by decide +kernel)))) (da_nil)))))) (da_nil))) rfl) (dss_cons (ds_exp (q_extend hX hB (hX.vo (by decide +kernel)) rfl rfl rfl rfl rfl (da_cons rfl (q_own (do_lst (da_cons rfl (q_isiX hX hB (wf.bn ("isinstance" : Str) (by decide +kernel)) (hX.go (by decide +kernel)) wf.is_BadClaims wf.isx_BadClaims wf.mg_BadClaims (hX.go (by decide +kernel)) rfl (q_v (hX.vo (by decide +kernel)))) (da_cons rfl (q_isiX hX hB (wf.bn ("isinstance" : Str) (by decide +kernel)) (hX.go (by decide +kernel)) wf.is_BadDrive wf.isx_BadDrive wf.mg_BadDrive (hX.go (by decide +kernel)) rfl (q_v (hX.vo (by decide +kernel)))) (da_cons rfl (q_isiX hX hB (wf.bn ("isinstance" : Str) (by decide +kernel)) (hX.go (by decide +kernel)) wf.is_NotUnread wf.isx_NotUnread wf.mg_NotUnread (hX.go (by decide +kernel)) rfl (q_v (hX.vo (by decide +kernel)))) (da_nil)))))) (da_nil))) rfl) (dss_cons (ds_exp (q_extend hX hB (hX.vo (by decide +kernel)) rfl rfl rfl rfl rfl (da_cons rfl (q_own (do_lst (da_cons rfl (q_isiX hX hB (wf.bn ("isinstance" : Str) (by decide +kernel)) (hX.go (by decide +kernel)) wf.is_TooMany wf.isx_TooMany wf.mg_TooMany (hX.go (by decide +kernel)) rfl (q_v (hX.vo (by decide +kernel)))) (da_cons rfl (q_isiX hX hB (wf.bn ("isinstance" : Str) (by decide +kernel)) (hX.go (by decide +kernel)) wf.is_BadNumber wf.isx_BadNumber wf.mg_BadNumber (hX.go (by decide +kernel)) rfl (q_v (hX.vo (by decide +kernel)))) (da_cons rfl (q_isiX hX hB (wf.bn ("isinstance" : Str) (by decide +kernel)) (hX.go (by decide +kernel)) wf.is_BadLot wf.isx_BadLot wf.mg_BadLot (hX.go (by decide +kernel)) rfl (q_v (hX.vo (by decide +kernel)))) (da_nil)))))) (da_nil))) rfl) (dss_cons (ds_exp (q_extend hX hB (hX.vo (by decide +kernel)) rfl rfl rfl rfl rfl (da_cons rfl (q_own (do_lst (da_cons rfl (q_isiX hX hB (wf.bn ("isinstance" : Str) (by decide +kernel)) (hX.go (by decide +kernel)) wf.is_OtherTown wf.isx_OtherTown wf.mg_OtherTown (hX.go (by decide +kernel)) rfl (q_v (hX.vo (by decide +kernel)))) (da_cons rfl (q_isiX hX hB (wf.bn ("isinstance" : Str) (by decide +kernel)) (hX.go (by decide +kernel)) wf.is_HasKnown wf.isx_HasKnown wf.mg_HasKnown (hX.go (by decide +kernel)) rfl (q_v (hX.vo (by decide +kernel)))) (da_cons rfl (q_isiX hX hB (wf.bn ("isinstance" : Str) (by decide +kernel)) (hX.go (by decide +kernel)) wf.is_BadOffers wf.isx_BadOffers wf.mg_BadOffers (hX.go (by decide +kernel)) rfl (q_v (hX.vo (by decide +kernel)))) (da_nil)))))) (da_nil))) rfl) (dss_cons (ds_exp (q_extend hX hB (hX.vo (by decide +kernel)) rfl rfl rfl rfl rfl (da_cons rfl (q_own (do_lst (da_cons rfl (q_isiX hX hB (wf.bn ("isinstance" : Str) (by decide +kernel)) (hX.go (by decide +kernel)) wf.is_BadWishes wf.isx_BadWishes wf.mg_BadWishes (hX.go (by decide +kernel)) rfl (q_v (hX.vo (by decide +kernel)))) (da_cons rfl (q_isiX hX hB (wf.bn ("isinstance" : Str) (by decide +kernel)) (hX.go (by decide +kernel)) wf.is_Contrary wf.isx_Contrary wf.mg_Contrary (hX.go (by decide +kernel)) rfl (q_v (hX.vo (by decide +kernel)))) (da_nil))))) (da_nil))) rfl) (dss_cons (ds_exp (q_extend hX hB (hX.vo (by decide +kernel)) rfl rfl rfl rfl rfl (da_cons rfl (q_own (do_lst (da_cons rfl (q_isiX hX hB (wf.bn ("isinstance" : Str) (by decide +kernel)) (hX.go (by decide +kernel)) wf.is_NothingToUndo wf.isx_NothingToUndo wf.mg_NothingToUndo (hX.go (by decide +kernel)) rfl (q_v (hX.vo (by decide +kernel)))) (da_cons rfl (q_isiX hX hB (wf.bn ("isinstance" : Str) (by decide +kernel)) (hX.go (by decide +kernel)) wf.is_NothingToRedo wf.isx_NothingToRedo wf.mg_NothingToRedo (hX.go (by decide +kernel)) rfl (q_v (hX.vo (by decide +kernel)))) (da_nil))))) (da_nil))) rfl) (dss_cons (ds_exp (q_extend hX hB (hX.vo (by decide +kernel)) rfl rfl rfl rfl rfl (da_cons rfl (q_own (do_lst (da_cons rfl (q_isiX hX hB (wf.bn ("isinstance" : Str) (by decide +kernel)) (hX.go (by decide +kernel)) wf.is_NoTrial wf.isx_NoTrial wf.mg_NoTrial (hX.go (by decide +kernel)) rfl (q_v (hX.vo (by decide +kernel)))) (da_cons rfl (q_isiX hX hB (wf.bn ("isinstance" : Str) (by decide +kernel)) (hX.go (by decide +kernel)) wf.is_BadJournal wf.isx_BadJournal wf.mg_BadJournal (hX.go (by decide +kernel)) rfl (q_v (hX.vo (by decide +kernel)))) (da_nil))))) (da_nil))) rfl) (dss_cons (ds_ret (q_v (hX.vo (by decide +kernel)))) (dss_nil)))))))))))
def g_f_law_right : List Sl → RS := fun ρ => ((stSet 1 (evCall F_f_law_of (asS 0 (asD (frzE (evLst (evCons (evCall F_f_law_odd (asS 0 (asNil))) (evCons (evTup (evCons (evCall F_f_law_odd (asS 0 (asNil))) (evCons (evLit (.int 3)) (evNil)))) (evCons (frzE (evLst (evCons (evCall F_f_law_odd (asS 0 (asNil))) (evNil)))) (evCons (frzE (evDisp [(evLit (.str ("a" : Str)), evCall F_f_law_odd (asS 0 (asNil)))])) (evNil))))))) (asNil))))) ρ).bind (fun ρ => ((stSet 2 (evCall F_f_law_made (asD (evV 1) (asNil)))) ρ).bind (fun ρ => ((stFor (srcL enuO (evCons (evV 2) (evNil))) (tgT 2 (tgCons (tgN 4) (tgCons (tgN 5) (tgNil)))) (fun ρ => ((stIf (evOr (evNot (evT (evIsiX is_SignError isx_SignError (evV 5)))) (evNot (evT (evIsiX is_ValueError isx_ValueError (evV 5))))) (fun ρ => ((stRet (evLit (.bl false))) ρ).bind .nx) (.nx)) ρ).bind (fun ρ => ((stIf (evOr (evB (ev2 neO (evL reprO (evCons (evXv c_errs (evV 5)) evNil)) (evL reprO (evCons (evV 1) evNil)))) (evB (ev2 neO (evCall F_f_law_marks (asD (evV 5) (asNil))) (frzE (evLc [6] (srcL rng1O (evCons (evLenV 2) (evNil))) (tgN 6) (evYes) (ev2 eqO (evV 4) (evV 6))))))) (fun ρ => ((stRet (evLit (.bl false))) ρ).bind .nx) (.nx)) ρ).bind .nx))) ρ).bind (fun ρ => ((stSet 3 (evExn ("SignError" : Str) (evV 1))) ρ).bind (fun ρ => ((stRet (evAndV (ev2 eqO (evL reprO (evCons (evXv c_errs (evV 3)) evNil)) (evL reprO (evCons (evV 1) evNil))) (evAndV (evIsiX is_ValueError isx_ValueError (evV 3)) (evNotV (evL anyO (evCons (evCall F_f_law_marks (asD (evV 3) (asNil))) evNil)))))) ρ).bind .nx))))
def F_f_law_right : Fd := ⟨[.mt], false, semOf 7 [.mt] false g_f_law_right⟩
@[simp] theorem F_f_law_right_md : F_f_law_right.md = [.mt] := rfl
@[simp] theorem F_f_law_right_own : F_f_law_right.own = false := rfl
theorem F_f_law_right_sem : F_f_law_right.sem = semOf 7 [.mt] false g_f_law_right := rfl
theorem k_f_law_right (wo : WOk W) (wf : Facts W) : Cal W 7 ("_law_right" : Str) F_f_law_right := cal_of (k := 6) (N := [("_law_pot_here" : Str), ("_law_value" : Str), ("_law_made_here" : Str), ("_law_base" : Str), ("_law_spot" : Str), ("_law_error" : Str), ("_law_place" : Str)]) (ps := [("_law_pot_here" : Str)]) wo wf.fn_f_law_right (by decide +kernel) rfl (fun _ _ _ _ _ _ us hl => match us, hl with | [_], _ => rfl) rfl fun X E hS B hB => have hX := hS.toXIs; dss_cons (ds_set hX.nN (hX.nm (by decide +kernel)) (hX.loc (by decide +kernel)) (.inl (hS.fn _)) (de_call wo hX hB (k_f_law_of wo wf) (by decide) rfl (hX.go (by decide +kernel)).l rfl rfl rfl (q_asS (hX.vo (by decide +kernel)) (das_d rfl (q_own (do_lst (da_cons rfl (de_call wo hX hB (k_f_law_odd wo wf) (by decide) rfl (hX.go (by decide +kernel)).l rfl rfl rfl (q_asS (hX.vo (by decide +kernel)) (das_nil))) (da_cons rfl (de_tup (da_cons rfl (de_call wo hX hB (k_f_law_odd wo wf) (by decide) rfl (hX.go (by decide +kernel)).l rfl rfl rfl (q_asS (hX.vo (by decide +kernel)) (das_nil))) (da_cons rfl (q_int) (da_nil)))) (da_cons rfl (q_own (do_lst (da_cons rfl (de_call wo hX hB (k_f_law_odd wo wf) (by decide) rfl (hX.go (by decide +kernel)).l rfl rfl rfl (q_asS (hX.vo (by decide +kernel)) (das_nil))) (da_nil)))) (da_cons rfl (q_own (q_disp rfl (q_dps wo hX hB (fun _ hB' hX' => q_str) (fun _ hB' hX' => de_call wo hX' hB' (k_f_law_odd wo wf) (by decide) rfl (hX'.go (by decide +kernel)).l rfl rfl rfl (q_asS (hX'.vo (by decide +kernel)) (das_nil))) (dps_nil)))) (da_nil))))))) (das_nil)))) rfl) (dss_cons (ds_set hX.nN (hX.nm (by decide +kernel)) (hX.loc (by decide +kernel)) (.inl (hS.fn _)) (de_call wo hX hB (k_f_law_made wo wf) (by decide) rfl (hX.go (by decide +kernel)).l rfl rfl rfl (das_d rfl (q_v (hX.vo (by decide +kernel))) (das_nil))) rfl) (dss_cons (ds_for hS.owns hX.calm (di_enum (hX.kk hB) (hX.go (by decide +kernel)).g (hX.noName (wf.bn ("enumerate" : Str) (by decide +kernel))) rfl (da_cons rfl (q_v (hX.vo (by decide +kernel))) (da_nil))) (dg_t (hX.kk hB) hX.calm (dgs_cons (dg_n hX.nN (hX.nm (by decide +kernel)) (hX.loc (by decide +kernel)) (.inl (hS.fn _))) (dgs_cons (dg_n hX.nN (hX.nm (by decide +kernel)) (hX.loc (by decide +kernel)) (.inl (hS.fn _))) (dgs_nil) rfl) rfl) rfl rfl) (dss_cons (ds_if ((dw_or (dt_not (dt_truth (hX.kk hB) (q_isiX hX hB (wf.bn ("isinstance" : Str) (by decide +kernel)) (hX.go (by decide +kernel)) wf.is_SignError wf.isx_SignError wf.mg_SignError (hX.go (by decide +kernel)) rfl (q_v (hX.vo (by decide +kernel)))) (fun _ => rfl))) (pw_or1 (dt_not (dt_truth (hX.kk hB) (q_isiXB hX hB (wf.bn ("isinstance" : Str) (by decide +kernel)) (hX.go (by decide +kernel)) wf.is_ValueError wf.isx_ValueError (wf.bn ("ValueError" : Str) (by decide +kernel)) (hX.go (by decide +kernel)) rfl rfl (q_v (hX.vo (by decide +kernel)))) (fun _ => rfl))))).pt) (dss_cons (ds_ret (q_bl)) (dss_nil)) (dss_nil)) (dss_cons (ds_if ((dw_or (q_tne hX hB (q_repr hX hB wf.sys (wf.bn ("repr" : Str) (by decide +kernel)) (hX.go (by decide +kernel)) rfl (q_xval hX hB wf.xv (q_v (hX.vo (by decide +kernel))) rfl)) (q_repr hX hB wf.sys (wf.bn ("repr" : Str) (by decide +kernel)) (hX.go (by decide +kernel)) rfl (q_v (hX.vo (by decide +kernel))))) (pw_or1 (q_tne hX hB (de_call wo hX hB (k_f_law_marks wo wf) (by decide) rfl (hX.go (by decide +kernel)).l rfl rfl rfl (das_d rfl (q_v (hX.vo (by decide +kernel))) (das_nil))) (q_own (q_lc (own := [(("_law_place" : Str), 6)]) wo hX hB (di_rng1 (hX.go (by decide +kernel)).g (hX.noName (wf.bn ("range" : Str) (by decide +kernel))) rfl  (da_cons rfl (q_lenv hX hB (wf.bn ("len" : Str) (by decide +kernel)) (hX.go (by decide +kernel)) (hX.vo (by decide +kernel))) (da_nil))) (by decide +kernel) (by decide +kernel) (fun B1 hB1 Y1 hS1 => have hX1 := hS1.toXIs; dg_n hX1.nN (hX1.nm (by decide +kernel)) (hX1.loc (by decide +kernel)) (hS1.bf _ (by decide +kernel))) (fun B1 hB1 Y1 hS1 => have hX1 := hS1.toXIs; dts_nil) (fun B1 hB1 Y1 hS1 => have hX1 := hS1.toXIs; q_eq hX1 hB1 (q_v (hX1.vo (by decide +kernel))) (q_v (hX1.vo (by decide +kernel)))) (fun _ => rfl)))))).pt) (dss_cons (ds_ret (q_bl)) (dss_nil)) (dss_nil)) (dss_nil))) (fun _ => rfl)) (dss_cons (ds_set hX.nN (hX.nm (by decide +kernel)) (hX.loc (by decide +kernel)) (.inl (hS.fn _)) (q_exn hX hB (by decide) wf.er_SignError (hX.go (by decide +kernel)).g rfl (q_v (hX.vo (by decide +kernel))) rfl) rfl) (dss_cons (ds_ret (de_and (q_eq hX hB (q_repr hX hB wf.sys (wf.bn ("repr" : Str) (by decide +kernel)) (hX.go (by decide +kernel)) rfl (q_xval hX hB wf.xv (q_v (hX.vo (by decide +kernel))) rfl)) (q_repr hX hB wf.sys (wf.bn ("repr" : Str) (by decide +kernel)) (hX.go (by decide +kernel)) rfl (q_v (hX.vo (by decide +kernel))))) (de_and (q_isiXB hX hB (wf.bn ("isinstance" : Str) (by decide +kernel)) (hX.go (by decide +kernel)) wf.is_ValueError wf.isx_ValueError (wf.bn ("ValueError" : Str) (by decide +kernel)) (hX.go (by decide +kernel)) rfl rfl (q_v (hX.vo (by decide +kernel)))) (pe_one (de_not (q_any hX hB (wf.bn ("any" : Str) (by decide +kernel)) (hX.go (by decide +kernel)) rfl (de_call wo hX hB (k_f_law_marks wo wf) (by decide) rfl (hX.go (by decide +kernel)).l rfl rfl rfl (das_d rfl (q_v (hX.vo (by decide +kernel))) (das_nil))))))))) (dss_nil)))))
def g_f_law_pot : List Sl → RS := fun ρ => ((stSet 2 (evIf (evB (ev2 ltO (evV 1) (evLenV 0))) (evIxV 0 (evV 1)) (ev2 add2O (ev2 mulO (evLit (.int 53)) (evV 1)) (evLit (.int 11))))) ρ).bind (fun ρ => ((stSet 3 (ev2 mulO (ev2 modO (evL intF (evCons (evL absO (evCons (evV 2) evNil)) evNil)) (ev2 powO (ev2 powO (evLit (.int 10)) (evLit (.int 60))) (evLit (.int 5)))) (evL intF (evCons (ev2 geO (evL absO (evCons (evV 2) evNil)) (ev2 powO (evLit (.int 10)) (evLit (.int 18)))) evNil)))) ρ).bind (fun ρ => ((stSet 4 (ev2 modO (evL intF (evCons (evV 2) evNil)) (evLit (.int 2305843009213693951)))) ρ).bind (fun ρ => ((stRetO (evLst (evCons (evV 3) (evCons (ev2 modO (evL intF (evCons (ev2 add2O (ev2 add2O (ev2 mulO (evV 4) (evLit (.int 61001))) (ev2 mulO (ev2 mulO (evLit (.int 6007)) (evV 1)) (evV 1))) (evLit (.int 87))) evNil)) (evLit (.int 2305843009213693921))) (evCons (evLit (.int 0)) (evNil)))))) ρ).bind .nx)))
def F_f_law_pot : Fd := ⟨[.sh, .sh], true, semOf 5 [.sh, .sh] true g_f_law_pot⟩
@[simp] theorem F_f_law_pot_md : F_f_law_pot.md = [.sh, .sh] := rfl
@[simp] theorem F_f_law_pot_own : F_f_law_pot.own = true := rfl
theorem F_f_law_pot_sem : F_f_law_pot.sem = semOf 5 [.sh, .sh] true g_f_law_pot := rfl
theorem k_f_law_pot (wo : WOk W) (wf : Facts W) : Cal W 1 ("_law_pot" : Str) F_f_law_pot := cal_of (k := 0) (N := [("_law_script" : Str), ("_law_place" : Str), ("_law_cell" : Str), ("_law_own" : Str), ("_law_small" : Str)]) (ps := [("_law_script" : Str), ("_law_place" : Str)]) wo wf.fn_f_law_pot (by decide +kernel) rfl (fun _ _ _ _ _ _ us hl => match us, hl with | [_, _], _ => rfl) rfl fun X E hS B hB => have hX := hS.toXIs; dss_cons (ds_set hX.nN (hX.nm (by decide +kernel)) (hX.loc (by decide +kernel)) (.inl (hS.fn _)) (de_if (q_tlt hX hB (q_v (hX.vo (by decide +kernel))) (q_lenv hX hB (wf.bn ("len" : Str) (by decide +kernel)) (hX.go (by decide +kernel)) (hX.vo (by decide +kernel)))) (q_ixv hX hB (hX.vo (by decide +kernel)) rfl (q_v (hX.vo (by decide +kernel)))) (q_add hX hB (q_mul hX hB (q_int) (q_v (hX.vo (by decide +kernel)))) (q_int))) rfl) (dss_cons (ds_set hX.nN (hX.nm (by decide +kernel)) (hX.loc (by decide +kernel)) (.inl (hS.fn _)) (q_mul hX hB (q_mod hX hB (q_intf hX hB (wf.bn ("int" : Str) (by decide +kernel)) (hX.go (by decide +kernel)) rfl (q_abs hX hB (wf.bn ("abs" : Str) (by decide +kernel)) (hX.go (by decide +kernel)) rfl (q_v (hX.vo (by decide +kernel))))) (q_pow hX hB (q_pow hX hB (q_int) (q_int)) (q_int))) (q_intf hX hB (wf.bn ("int" : Str) (by decide +kernel)) (hX.go (by decide +kernel)) rfl (q_ge hX hB (q_abs hX hB (wf.bn ("abs" : Str) (by decide +kernel)) (hX.go (by decide +kernel)) rfl (q_v (hX.vo (by decide +kernel)))) (q_pow hX hB (q_int) (q_int))))) rfl) (dss_cons (ds_set hX.nN (hX.nm (by decide +kernel)) (hX.loc (by decide +kernel)) (.inl (hS.fn _)) (q_mod hX hB (q_intf hX hB (wf.bn ("int" : Str) (by decide +kernel)) (hX.go (by decide +kernel)) rfl (q_v (hX.vo (by decide +kernel)))) (q_int)) rfl) (dss_cons (ds_retO (do_lst (da_cons rfl (q_v (hX.vo (by decide +kernel))) (da_cons rfl (q_mod hX hB (q_intf hX hB (wf.bn ("int" : Str) (by decide +kernel)) (hX.go (by decide +kernel)) rfl (q_add hX hB (q_add hX hB (q_mul hX hB (q_v (hX.vo (by decide +kernel))) (q_int)) (q_mul hX hB (q_mul hX hB (q_int) (q_v (hX.vo (by decide +kernel)))) (q_v (hX.vo (by decide +kernel))))) (q_int))) (q_int)) (da_cons rfl (q_int) (da_nil)))))) (dss_nil))))
def g_f_law_cells : List Sl → RS := fun ρ => ((stRet (frzE (evRg (evL maxO (evCons (evLit (.int 1)) (evCons (evL minO (evCons (evV 1) (evCons (evLenV 0) evNil))) evNil)))))) ρ).bind .nx
def F_f_law_cells : Fd := ⟨[.sh, .sh], false, semOf 2 [.sh, .sh] false g_f_law_cells⟩
@[simp] theorem F_f_law_cells_md : F_f_law_cells.md = [.sh, .sh] := rfl
@[simp] theorem F_f_law_cells_own : F_f_law_cells.own = false := rfl
theorem F_f_law_cells_sem : F_f_law_cells.sem = semOf 2 [.sh, .sh] false g_f_law_cells := rfl
theorem k_f_law_cells (wo : WOk W) (wf : Facts W) : Cal W 1 ("_law_cells" : Str) F_f_law_cells := cal_of (k := 0) (N := [("_law_script" : Str), ("_law_most" : Str)]) (ps := [("_law_script" : Str), ("_law_most" : Str)]) wo wf.fn_f_law_cells (by decide +kernel) rfl (fun _ _ _ _ _ _ us hl => match us, hl with | [_, _], _ => rfl) rfl fun X E hS B hB => have hX := hS.toXIs; dss_cons (ds_ret (q_own (q_listrg hX hB (wf.bn ("list" : Str) (by decide +kernel)) (hX.go (by decide +kernel)) (wf.bn ("range" : Str) (by decide +kernel)) (hX.go (by decide +kernel)) rfl (q_max hX hB (wf.bn ("max" : Str) (by decide +kernel)) (hX.go (by decide +kernel)) rfl rfl (q_int) (q_min hX hB (wf.bn ("min" : Str) (by decide +kernel)) (hX.go (by decide +kernel)) rfl rfl (q_v (hX.vo (by decide +kernel))) (q_lenv hX hB (wf.bn ("len" : Str) (by decide +kernel)) (hX.go (by decide +kernel)) (hX.vo (by decide +kernel)))))))) (dss_nil)
def g_f_law : List Sl → RS := fun ρ => ((stRet (evL allO (evCons (frzE (evLc [1] (srcD (evCall F_f_law_cells (asD (evV 0) (asD (evLit (.int 4)) (asNil))))) (tgN 1) (evYes) (evCallT F_f_law_right (evCall F_f_law_pot (asD (evV 0) (asD (evV 1) (asNil))))))) evNil))) ρ).bind .nx
def F_f_law : Fd := ⟨[.sh], false, semOf 2 [.sh] false g_f_law⟩
@[simp] theorem F_f_law_md : F_f_law.md = [.sh] := rfl
@[simp] theorem F_f_law_own : F_f_law.own = false := rfl
theorem F_f_law_sem : F_f_law.sem = semOf 2 [.sh] false g_f_law := rfl
theorem k_f_law (wo : WOk W) (wf : Facts W) : Cal W 9 ("law" : Str) F_f_law := cal_of (k := 8) (N := [("_law_script" : Str), ("_law_place" : Str)]) (ps := [("_law_script" : Str)]) wo wf.fn_f_law (by decide +kernel) rfl (fun _ _ _ _ _ _ us hl => match us, hl with | [_], _ => rfl) rfl fun X E hS B hB => have hX := hS.toXIs; dss_cons (ds_ret (q_all hX hB (wf.bn ("all" : Str) (by decide +kernel)) (hX.go (by decide +kernel)) rfl (q_own (q_lc (own := [(("_law_place" : Str), 1)]) wo hX hB (di_any (hX.kk hB) (de_call wo hX hB (k_f_law_cells wo wf) (by decide) rfl (hX.go (by decide +kernel)).l rfl rfl rfl (das_d rfl (q_v (hX.vo (by decide +kernel))) (das_d rfl (q_int) (das_nil))))) (by decide +kernel) (by decide +kernel) (fun B1 hB1 Y1 hS1 => have hX1 := hS1.toXIs; dg_n hX1.nN (hX1.nm (by decide +kernel)) (hX1.loc (by decide +kernel)) (hS1.bf _ (by decide +kernel))) (fun B1 hB1 Y1 hS1 => have hX1 := hS1.toXIs; dts_nil) (fun B1 hB1 Y1 hS1 => have hX1 := hS1.toXIs; de_callT wo hX1 hB1 (k_f_law_right wo wf) (by decide) rfl rfl (hX1.go (by decide +kernel)).l rfl rfl (do_call wo hX1 hB1 (k_f_law_pot wo wf) (by decide) rfl (hX1.go (by decide +kernel)).l rfl rfl rfl (das_d rfl (q_v (hX1.vo (by decide +kernel))) (das_d rfl (q_v (hX1.vo (by decide +kernel))) (das_nil))))) (fun _ => rfl))))) (dss_nil)
end K00

set_option Elab.async false
set_option linter.all false
set_option maxRecDepth 100000
set_option maxHeartbeats 1000000
namespace K00
open PySem L2 Dx TL
/-! _law_take -/
theorem prime5 (i : Int) (a b c d e : Int) : ∃ q : Int, atI [D.int a, D.int b, D.int c, D.int d, D.int e] (i % 5) = some (.int q) ∧ (q = a ∨ q = b ∨ q = c ∨ q = d ∨ q = e) := by
  have : i % 5 = 0 ∨ i % 5 = 1 ∨ i % 5 = 2 ∨ i % 5 = 3 ∨ i % 5 = 4 := by omega
  rcases this with h | h | h | h | h <;> rw [h] <;> simp
theorem law_take_sem {p : Pot} {n : Nat} {u : Int} {Q : D × List D → Prop} (h : Pk n p) (hn : n ≤ 2 ^ 100) (h0 : 0 < u) (hu : u < 2 ^ 100)
    (k : ∀ r p', 0 ≤ r → r < u → Pk (n + 1) p' → Q (.int r, [p'.d])) : (F_f_law_take.sem [p.d, .int u]).sat Q := by
  rw [F_f_law_take_sem]
  refine semOf_sat (by rfl) ?_
  simp (implicitDefEqProofs := false) [-List.map_drop, -List.map_take, -List.map_tail, -List.drop_one, -List.map_map, -List.filter_filter, g_f_law_take, Pot.d]
  have hu2 : bitsOf u < 9000 := bitsOf_lt (by omega) (by decide)
  split
  · exact ⟨h0, ⟨h0, hu2⟩, k _ ⟨p.a / u, p.b, p.c⟩ (Int.emod_nonneg _ (by omega)) (Int.emod_lt_of_pos _ h0) (h.mono (Nat.le_succ n))⟩
  · obtain ⟨q, e, hq⟩ := prime5 (p.c + 1) 2147483647 2147483629 2147483587 2147483579 2147483563
    have q0 : 0 < q := by omega
    have q1 : q < 2 ^ 40 := by omega
    simp (implicitDefEqProofs := false) [-List.map_drop, -List.map_take, -List.map_tail, -List.drop_one, -List.map_map, -List.filter_filter, e, q0]
    obtain ⟨hb0, hb1, hc0, hc1⟩ := h
    generalize hc : p.c + 1 = c at *
    have c0 : 0 < c := by omega
    have bc : Bd 102 c := by unfold Bd; omega
    have bp : Bd 64 p.b := by unfold Bd; omega
    have bq : Bd 64 q := by unfold Bd; omega
    have b1 : ∀ z : Int, decide (z.natAbs < 2 ^ 64) = true → Bd 64 z := fun z h => Bd.lit h
    generalize hm : (p.b + 97103 * c * c + 41) ^ 3 % q = m at *
    have bm : Bd 64 m := by rw [← hm]; exact Bd.emod q0 bq
    refine ⟨by (repeat' (first | assumption | exact Bd.lit (by decide) | exact Bd.lit2 (by decide) | apply Bd.emod | apply Bd.mul | apply Bd.add | apply Bd.ite | apply Bd.two | apply Bd.pow | decide | omega)), by (repeat' (first | assumption | exact Bd.lit (by decide) | exact Bd.lit2 (by decide) | apply Bd.emod | apply Bd.mul | apply Bd.add | apply Bd.ite | apply Bd.two | apply Bd.pow | decide | omega)), by (repeat' (first | assumption | exact Bd.lit (by decide) | exact Bd.lit2 (by decide) | apply Bd.emod | apply Bd.mul | apply Bd.add | apply Bd.ite | apply Bd.two | apply Bd.pow | decide | omega)), by (repeat' (first | assumption | exact Bd.lit (by decide) | exact Bd.lit2 (by decide) | apply Bd.emod | apply Bd.mul | apply Bd.add | apply Bd.ite | apply Bd.two | apply Bd.pow | decide | omega)), by (repeat' (first | assumption | exact Bd.lit (by decide) | exact Bd.lit2 (by decide) | apply Bd.emod | apply Bd.mul | apply Bd.add | apply Bd.ite | apply Bd.two | apply Bd.pow | decide | omega)), by (repeat' (first | assumption | exact Bd.lit (by decide) | exact Bd.lit2 (by decide) | apply Bd.emod | apply Bd.mul | apply Bd.add | apply Bd.ite | apply Bd.two | apply Bd.pow | decide | omega)), h0, ?_⟩
    exact k _ ⟨p.a, p.b, c⟩ (Int.emod_nonneg _ (by omega)) (Int.emod_lt_of_pos _ h0) ⟨hb0, hb1, by show 0 ≤ c; omega, by show c ≤ _; omega⟩
/-! _law_of -/
theorem law_of_sem {α : Type} {enc : α → D} {p : Pot} {n : Nat} {l : List α} {Q : D × List D → Prop} (h : Pk n p) (hn : n + 1 ≤ 2 ^ 100) (h0 : 0 < l.length) (hl : l.length ≤ 10000)
    (k : ∀ (p' : Pot) (x : α), Pk (n + 1) p' → x ∈ l → Q (enc x, [p'.d])) : (F_f_law_of.sem [p.d, .lst (l.map enc)]).sat Q := by
  rw [F_f_law_of_sem]
  refine semOf_sat (by rfl) ?_
  simp (implicitDefEqProofs := false) [-List.map_drop, -List.map_take, -List.map_tail, -List.drop_one, -List.map_map, -List.filter_filter, g_f_law_of]
  refine law_take_sem h (by omega) (by omega) (by omega) fun i p' h0 h1 hp => ?_
  obtain ⟨y, e1, e2⟩ := atI_mem h0 h1
  simp (implicitDefEqProofs := false) [-List.map_drop, -List.map_take, -List.map_tail, -List.drop_one, -List.map_map, -List.filter_filter, e1]
  exact k p' y hp (List.mem_of_getElem? e2)
theorem law_of_id {p : Pot} {n : Nat} {l : List D} {Q : D × List D → Prop} (h : Pk n p) (hn : n + 1 ≤ 2 ^ 100) (h0 : 0 < l.length) (hl : l.length ≤ 10000)
    (k : ∀ (p' : Pot) (x : D), Pk (n + 1) p' → x ∈ l → Q (x, [p'.d])) : (F_f_law_of.sem [p.d, .lst l]).sat Q := by
  have := law_of_sem (enc := id) (p := p) (l := l) (Q := Q) h hn h0 hl k
  rwa [List.map_id] at this
/-! _law_made -/
def madeN : List Str := ["BadTown", "NoStreet", "NoPlace", "BadClaim", "NotKnown", "BadLine", "Full", "Few", "BadSigns", "Torn", "BadSet", "NoMap", "BadClaims", "BadDrive", "NotUnread", "TooMany", "BadNumber", "BadLot", "OtherTown", "HasKnown", "BadOffers", "BadWishes", "Contrary", "NothingToUndo", "NothingToRedo", "NoTrial", "BadJournal"]
@[simp ↓] theorem evExn_s {c : Str} {f : List Sl → R (D × List Sl)} {s0 : Sl} {ρ : List Sl} {Q : D × List Sl → Prop} : (evExn c f (s0 :: ρ)).sat Q = (f (s0 :: ρ)).sat fun p => Q (.exn c p.1, p.2) := by simp [evExn]
theorem law_made_sem {v : D} {Q : D × List D → Prop} (k : Q (.lst (madeN.map fun n => .exn n v), [])) : (F_f_law_made.sem [v]).sat Q := by
  rw [F_f_law_made_sem]
  refine semOf_sat (by rfl) ?_
  simp (implicitDefEqProofs := false) [-List.map_drop, -List.map_take, -List.map_tail, -List.drop_one, -List.map_map, -List.filter_filter, g_f_law_made]
  exact ⟨by decide, by decide, by decide, by decide, by decide, k⟩
/-! _law_odd -/
theorem law_odd_sem {p : Pot} {n : Nat} {Q : D × List D → Prop} (h : Pk n p) (hn : n + 1 ≤ 2 ^ 100) (k : ∀ (p' : Pot) (x : D), Pk (n + 1) p' → x ∈ odd1 → Q (x, [p'.d])) : (F_f_law_odd.sem [p.d]).sat Q := by
  rw [F_f_law_odd_sem]
  refine semOf_sat (by rfl) ?_
  have e8 : (10 : Int) ^ (8 : Int).toNat = 100000000 := by decide
  have c8 : CPowX 10 8 := by decide +kernel
  simp (implicitDefEqProofs := false) [-List.map_drop, -List.map_take, -List.map_tail, -List.drop_one, -List.map_map, -List.filter_filter, g_f_law_odd, c8, e8]
  refine law_of_id (l := odd1) h hn (by decide) (by decide) fun p' x hp hx => ?_
  simp (implicitDefEqProofs := false) [-List.map_drop, -List.map_take, -List.map_tail, -List.drop_one, -List.map_map, -List.filter_filter]
  exact k p' x hp hx
/-! _law_marks -/
def marksB (c : Str) : List Bool := [(isx_BadTown.lookup c).getD false, (isx_NoStreet.lookup c).getD false, (isx_NoPlace.lookup c).getD false, (isx_BadClaim.lookup c).getD false, (isx_NotKnown.lookup c).getD false, (isx_BadLine.lookup c).getD false, (isx_Full.lookup c).getD false, (isx_Few.lookup c).getD false, (isx_BadSigns.lookup c).getD false, (isx_Torn.lookup c).getD false, (isx_BadSet.lookup c).getD false, (isx_NoMap.lookup c).getD false, (isx_BadClaims.lookup c).getD false, (isx_BadDrive.lookup c).getD false, (isx_NotUnread.lookup c).getD false, (isx_TooMany.lookup c).getD false, (isx_BadNumber.lookup c).getD false, (isx_BadLot.lookup c).getD false, (isx_OtherTown.lookup c).getD false, (isx_HasKnown.lookup c).getD false, (isx_BadOffers.lookup c).getD false, (isx_BadWishes.lookup c).getD false, (isx_Contrary.lookup c).getD false, (isx_NothingToUndo.lookup c).getD false, (isx_NothingToRedo.lookup c).getD false, (isx_NoTrial.lookup c).getD false, (isx_BadJournal.lookup c).getD false]
theorem isx_get {xs : List (Str × Bool)} {c : Str} (h : (xs.lookup c).isSome = true) : xs.lookup c = some ((xs.lookup c).getD false) := by cases e : xs.lookup c with
  | none => rw [e] at h; cases h
  | some b => rfl
theorem isiX_exn {t : IsiT} {xs : List (Str × Bool)} {c : Str} {d : D} (h : (xs.lookup c).isSome = true) : isiX t xs (.exn c d) = some (.bl ((xs.lookup c).getD false)) := by
  show (xs.lookup c).map D.bl = _
  rw [isx_get h]; rfl
theorem law_marks_sem {c : Str} {v : D} {Q : D × List D → Prop} (hc : c ∈ c_errs) (k : Q (.lst ((marksB c).map .bl), [])) : (F_f_law_marks.sem [.exn c v]).sat Q := by
  have h_BadTown : isiX is_BadTown isx_BadTown (.exn c v) = some (.bl ((isx_BadTown.lookup c).getD false)) := isiX_exn ((by decide +kernel : ∀ c ∈ c_errs, (isx_BadTown.lookup c).isSome = true) c hc)
  have h_NoStreet : isiX is_NoStreet isx_NoStreet (.exn c v) = some (.bl ((isx_NoStreet.lookup c).getD false)) := isiX_exn ((by decide +kernel : ∀ c ∈ c_errs, (isx_NoStreet.lookup c).isSome = true) c hc)
  have h_NoPlace : isiX is_NoPlace isx_NoPlace (.exn c v) = some (.bl ((isx_NoPlace.lookup c).getD false)) := isiX_exn ((by decide +kernel : ∀ c ∈ c_errs, (isx_NoPlace.lookup c).isSome = true) c hc)
  have h_BadClaim : isiX is_BadClaim isx_BadClaim (.exn c v) = some (.bl ((isx_BadClaim.lookup c).getD false)) := isiX_exn ((by decide +kernel : ∀ c ∈ c_errs, (isx_BadClaim.lookup c).isSome = true) c hc)
  have h_NotKnown : isiX is_NotKnown isx_NotKnown (.exn c v) = some (.bl ((isx_NotKnown.lookup c).getD false)) := isiX_exn ((by decide +kernel : ∀ c ∈ c_errs, (isx_NotKnown.lookup c).isSome = true) c hc)
  have h_BadLine : isiX is_BadLine isx_BadLine (.exn c v) = some (.bl ((isx_BadLine.lookup c).getD false)) := isiX_exn ((by decide +kernel : ∀ c ∈ c_errs, (isx_BadLine.lookup c).isSome = true) c hc)
  have h_Full : isiX is_Full isx_Full (.exn c v) = some (.bl ((isx_Full.lookup c).getD false)) := isiX_exn ((by decide +kernel : ∀ c ∈ c_errs, (isx_Full.lookup c).isSome = true) c hc)
  have h_Few : isiX is_Few isx_Few (.exn c v) = some (.bl ((isx_Few.lookup c).getD false)) := isiX_exn ((by decide +kernel : ∀ c ∈ c_errs, (isx_Few.lookup c).isSome = true) c hc)
  have h_BadSigns : isiX is_BadSigns isx_BadSigns (.exn c v) = some (.bl ((isx_BadSigns.lookup c).getD false)) := isiX_exn ((by decide +kernel : ∀ c ∈ c_errs, (isx_BadSigns.lookup c).isSome = true) c hc)
  have h_Torn : isiX is_Torn isx_Torn (.exn c v) = some (.bl ((isx_Torn.lookup c).getD false)) := isiX_exn ((by decide +kernel : ∀ c ∈ c_errs, (isx_Torn.lookup c).isSome = true) c hc)
  have h_BadSet : isiX is_BadSet isx_BadSet (.exn c v) = some (.bl ((isx_BadSet.lookup c).getD false)) := isiX_exn ((by decide +kernel : ∀ c ∈ c_errs, (isx_BadSet.lookup c).isSome = true) c hc)
  have h_NoMap : isiX is_NoMap isx_NoMap (.exn c v) = some (.bl ((isx_NoMap.lookup c).getD false)) := isiX_exn ((by decide +kernel : ∀ c ∈ c_errs, (isx_NoMap.lookup c).isSome = true) c hc)
  have h_BadClaims : isiX is_BadClaims isx_BadClaims (.exn c v) = some (.bl ((isx_BadClaims.lookup c).getD false)) := isiX_exn ((by decide +kernel : ∀ c ∈ c_errs, (isx_BadClaims.lookup c).isSome = true) c hc)
  have h_BadDrive : isiX is_BadDrive isx_BadDrive (.exn c v) = some (.bl ((isx_BadDrive.lookup c).getD false)) := isiX_exn ((by decide +kernel : ∀ c ∈ c_errs, (isx_BadDrive.lookup c).isSome = true) c hc)
  have h_NotUnread : isiX is_NotUnread isx_NotUnread (.exn c v) = some (.bl ((isx_NotUnread.lookup c).getD false)) := isiX_exn ((by decide +kernel : ∀ c ∈ c_errs, (isx_NotUnread.lookup c).isSome = true) c hc)
  have h_TooMany : isiX is_TooMany isx_TooMany (.exn c v) = some (.bl ((isx_TooMany.lookup c).getD false)) := isiX_exn ((by decide +kernel : ∀ c ∈ c_errs, (isx_TooMany.lookup c).isSome = true) c hc)
  have h_BadNumber : isiX is_BadNumber isx_BadNumber (.exn c v) = some (.bl ((isx_BadNumber.lookup c).getD false)) := isiX_exn ((by decide +kernel : ∀ c ∈ c_errs, (isx_BadNumber.lookup c).isSome = true) c hc)
  have h_BadLot : isiX is_BadLot isx_BadLot (.exn c v) = some (.bl ((isx_BadLot.lookup c).getD false)) := isiX_exn ((by decide +kernel : ∀ c ∈ c_errs, (isx_BadLot.lookup c).isSome = true) c hc)
  have h_OtherTown : isiX is_OtherTown isx_OtherTown (.exn c v) = some (.bl ((isx_OtherTown.lookup c).getD false)) := isiX_exn ((by decide +kernel : ∀ c ∈ c_errs, (isx_OtherTown.lookup c).isSome = true) c hc)
  have h_HasKnown : isiX is_HasKnown isx_HasKnown (.exn c v) = some (.bl ((isx_HasKnown.lookup c).getD false)) := isiX_exn ((by decide +kernel : ∀ c ∈ c_errs, (isx_HasKnown.lookup c).isSome = true) c hc)
  have h_BadOffers : isiX is_BadOffers isx_BadOffers (.exn c v) = some (.bl ((isx_BadOffers.lookup c).getD false)) := isiX_exn ((by decide +kernel : ∀ c ∈ c_errs, (isx_BadOffers.lookup c).isSome = true) c hc)
  have h_BadWishes : isiX is_BadWishes isx_BadWishes (.exn c v) = some (.bl ((isx_BadWishes.lookup c).getD false)) := isiX_exn ((by decide +kernel : ∀ c ∈ c_errs, (isx_BadWishes.lookup c).isSome = true) c hc)
  have h_Contrary : isiX is_Contrary isx_Contrary (.exn c v) = some (.bl ((isx_Contrary.lookup c).getD false)) := isiX_exn ((by decide +kernel : ∀ c ∈ c_errs, (isx_Contrary.lookup c).isSome = true) c hc)
  have h_NothingToUndo : isiX is_NothingToUndo isx_NothingToUndo (.exn c v) = some (.bl ((isx_NothingToUndo.lookup c).getD false)) := isiX_exn ((by decide +kernel : ∀ c ∈ c_errs, (isx_NothingToUndo.lookup c).isSome = true) c hc)
  have h_NothingToRedo : isiX is_NothingToRedo isx_NothingToRedo (.exn c v) = some (.bl ((isx_NothingToRedo.lookup c).getD false)) := isiX_exn ((by decide +kernel : ∀ c ∈ c_errs, (isx_NothingToRedo.lookup c).isSome = true) c hc)
  have h_NoTrial : isiX is_NoTrial isx_NoTrial (.exn c v) = some (.bl ((isx_NoTrial.lookup c).getD false)) := isiX_exn ((by decide +kernel : ∀ c ∈ c_errs, (isx_NoTrial.lookup c).isSome = true) c hc)
  have h_BadJournal : isiX is_BadJournal isx_BadJournal (.exn c v) = some (.bl ((isx_BadJournal.lookup c).getD false)) := isiX_exn ((by decide +kernel : ∀ c ∈ c_errs, (isx_BadJournal.lookup c).isSome = true) c hc)
  rw [F_f_law_marks_sem]
  refine semOf_sat (by rfl) ?_
  simp (implicitDefEqProofs := false) [-List.map_drop, -List.map_take, -List.map_tail, -List.drop_one, -List.map_map, -List.filter_filter, g_f_law_marks, h_BadTown, h_NoStreet, h_NoPlace, h_BadClaim, h_NotKnown, h_BadLine, h_Full, h_Few, h_BadSigns, h_Torn, h_BadSet, h_NoMap, h_BadClaims, h_BadDrive, h_NotUnread, h_TooMany, h_BadNumber, h_BadLot, h_OtherTown, h_HasKnown, h_BadOffers, h_BadWishes, h_Contrary, h_NothingToUndo, h_NothingToRedo, h_NoTrial, h_BadJournal]
  exact ⟨by decide, by decide, by decide, by decide, by decide, by decide, by decide, by decide, by decide, k⟩
/-! _law_right -/
theorem eqL_bl : ∀ l m : List Bool, eqL (l.map .bl) (m.map .bl) = decide (l = m)
  | [], [] => by simp [eqL]
  | [], _ :: _ => by simp [eqL]
  | _ :: _, [] => by simp [eqL]
  | x :: l, y :: m => by
    show (eqD (.bl x) (.bl y) && eqL (l.map .bl) (m.map .bl)) = _
    rw [eqL_bl l m]
    cases x <;> cases y <;> simp [eqD]
theorem flatL_bl : ∀ l : List Bool, flatL (l.map .bl) = true
  | [] => rfl
  | _ :: l => by
    show (flatD (.bl _) && flatL (l.map .bl)) = true
    rw [flatL_bl l]; rfl
theorem depL_bl : ∀ l : List Bool, depL (l.map .bl) = 0
  | [] => rfl
  | x :: l => by simp [depL, depL_bl l, depD]
theorem ne_bls {l m : List Bool} : neO (.lst (l.map .bl)) (.lst (m.map .bl)) = some (.bl (!decide (l = m))) := by
  have h1 : ∀ l : List Bool, flatD (.lst (l.map .bl)) = true := flatL_bl
  have h2 : depD (.lst (l.map .bl)) = 1 := by show depL (l.map .bl) + 1 = 1; rw [depL_bl]
  unfold neO
  rw [h1, h1, h2]
  show some (D.bl (!eqL _ _)) = _
  rw [eqL_bl]
theorem marks_made : ∀ p ∈ madeN.zipIdx, marksB p.1 = (List.range 27).map (fun j : Nat => decide ((p.2 : Int) = (j : Int))) ∧ p.1 ∈ c_errs ∧ c_errs.contains p.1 = true ∧ isx_SignError.lookup p.1 = some true ∧ isx_ValueError.lookup p.1 = some true := by decide +kernel
theorem odd4 : ∀ d ∈ odd1, rpB 200 6 d = true ∧ rpB 200 6 (.tup [d, .int 3]) = true ∧ rpB 200 6 (.lst [d]) = true ∧ rpB 200 6 (.dic [("a", d)]) = true := fun d h => by
  have q := List.all_eq_true.mp (show odd1.all (fun d => rpB 200 6 d && (rpB 200 6 (.tup [d, .int 3]) && (rpB 200 6 (.lst [d]) && rpB 200 6 (.dic [("a", d)])))) = true by decide +kernel) d h
  simpa [Bool.and_eq_true] using q
theorem law_right_sem {p : Pot} {n : Nat} {Q : D × List D → Prop} (h : Pk n p) (hn : n + 10000 ≤ 2 ^ 100) (k : ∀ p' : Pot, Pk (n + 10000) p' → Q (.bl true, [p'.d])) : (F_f_law_right.sem [p.d]).sat Q := by
  rw [F_f_law_right_sem]
  refine semOf_sat (by rfl) ?_
  simp (implicitDefEqProofs := false) [-List.map_drop, -List.map_take, -List.map_tail, -List.drop_one, -List.map_map, -List.filter_filter, g_f_law_right]
  refine law_odd_sem h (by omega) fun p1 o1 hp1 ho1 => ?_
  simp (implicitDefEqProofs := false) [-List.map_drop, -List.map_take, -List.map_tail, -List.drop_one, -List.map_map, -List.filter_filter]
  refine law_odd_sem hp1 (by omega) fun p2 o2 hp2 ho2 => ?_
  simp (implicitDefEqProofs := false) [-List.map_drop, -List.map_take, -List.map_tail, -List.drop_one, -List.map_map, -List.filter_filter]
  refine law_odd_sem hp2 (by omega) fun p3 o3 hp3 ho3 => ?_
  simp (implicitDefEqProofs := false) [-List.map_drop, -List.map_take, -List.map_tail, -List.drop_one, -List.map_map, -List.filter_filter]
  refine law_odd_sem hp3 (by omega) fun p4 o4 hp4 ho4 => ?_
  simp (implicitDefEqProofs := false) [-List.map_drop, -List.map_take, -List.map_tail, -List.drop_one, -List.map_map, -List.filter_filter]
  refine law_of_id (l := [o1, .tup [o2, .int 3], .lst [o3], .dic [("a", o4)]]) hp4 (by omega) (by simp) (by simp) fun p5 v hp5 hv => ?_
  obtain ⟨r, er⟩ : ∃ r, reprO [v] = some (.str r) := by
    have hr : rpB 200 6 v = true := by
      simp only [List.mem_cons, List.not_mem_nil, or_false] at hv
      rcases hv with rfl | rfl | rfl | rfl
      · exact (odd4 _ ho1).1
      · exact (odd4 _ ho2).2.1
      · exact (odd4 _ ho3).2.2.1
      · exact (odd4 _ ho4).2.2.2
    exact (rpB_ok hr).repr (by decide) (by decide)
  simp (implicitDefEqProofs := false) [-List.map_drop, -List.map_take, -List.map_tail, -List.drop_one, -List.map_map, -List.filter_filter]
  refine law_made_sem ?_
  have en : enuO [D.lst (List.map (fun n => D.exn n v) madeN)] = some (madeN.zipIdx.map fun p => .tup [.int p.2, .exn p.1 v]) := rfl
  simp (implicitDefEqProofs := false) [-List.map_drop, -List.map_take, -List.map_tail, -List.drop_one, -List.map_map, -List.filter_filter, en]
  refine forL_sat (fun p : Str × Nat => D.tup [.int p.2, .exn p.1 v]) (fun pre ρ => ∃ s4 s5 s6 : Sl, ρ = [.mt p5.d, .sh v, .sh (.lst (madeN.map fun n => .exn n v)), .un, s4, s5, s6] ∧ s4.free = true ∧ s5.free = true ∧ s6.free = true) madeN.zipIdx ?_ ?_ ⟨.un, .un, .un, rfl, rfl, rfl, rfl⟩
  · rintro pre x post e _ ⟨s4, s5, s6, rfl, h4, h5, h6⟩
    obtain ⟨m1, m2, m3, m4, m5⟩ := marks_made x (by rw [e]; simp)
    obtain ⟨c, i⟩ := x
    refine ⟨_, by simp (implicitDefEqProofs := false) [-List.map_drop, -List.map_take, -List.map_tail, -List.drop_one, -List.map_map, -List.filter_filter, h4, h5]; rfl, ?_⟩
    dsimp only at m1 m2 m3 m4 m5
    simp (implicitDefEqProofs := false) [-List.map_drop, -List.map_take, -List.map_tail, -List.drop_one, -List.map_map, -List.filter_filter, m4, m5]
    refine ⟨c, v, ⟨rfl, rfl⟩, m2, ?_⟩
    simp (implicitDefEqProofs := false) [-List.map_drop, -List.map_take, -List.map_tail, -List.drop_one, -List.map_map, -List.filter_filter, er]
    refine law_marks_sem m2 ?_
    simp (implicitDefEqProofs := false) [-List.map_drop, -List.map_take, -List.map_tail, -List.drop_one, -List.map_map, -List.filter_filter]
    refine ⟨by decide, ?_⟩
    rw [rngD_eq]
    refine lcL_map (fun j : Nat => D.int ((0 : Int) + j)) (fun j => .bl (decide ((i : Int) = j))) (List.range madeN.length) ?_ (by decide) ?_
    · intro j hj
      refine ⟨_, by simp (implicitDefEqProofs := false) [-List.map_drop, -List.map_take, -List.map_tail, -List.drop_one, -List.map_map, -List.filter_filter, h6]; rfl, ?_⟩
      simp (implicitDefEqProofs := false) [-List.map_drop, -List.map_take, -List.map_tail, -List.drop_one, -List.map_map, -List.filter_filter, h6]
    · have el : (List.range madeN.length).map (fun j : Nat => D.bl (decide ((i : Int) = j))) = (marksB c).map .bl := by
        rw [m1, List.map_map]; rfl
      simp (implicitDefEqProofs := false) [-List.map_drop, -List.map_take, -List.map_tail, -List.drop_one, -List.map_map, -List.filter_filter]
      rw [el, ne_bls]
      simp (implicitDefEqProofs := false) [-List.map_drop, -List.map_take, -List.map_tail, -List.drop_one, -List.map_map, -List.filter_filter]
      exact ⟨_, _, _, ⟨rfl, rfl, rfl⟩, rfl, rfl, rfl⟩
  · rintro _ ⟨s4, s5, s6, rfl, h4, h5, h6⟩
    simp (implicitDefEqProofs := false) [-List.map_drop, -List.map_take, -List.map_tail, -List.drop_one, -List.map_map, -List.filter_filter]
    have hs : ("SignError" : Str) ∈ c_errs := by decide +kernel
    have hx : isx_ValueError.lookup ("SignError" : Str) = some true := by decide +kernel
    have hm : marksB "SignError" = List.replicate 27 false := by decide +kernel
    have ha : anyO [.lst ((marksB "SignError").map .bl)] = some (.bl false) := by rw [hm]; rfl
    refine ⟨_, _, ⟨rfl, rfl⟩, hs, ?_⟩
    simp (implicitDefEqProofs := false) [-List.map_drop, -List.map_take, -List.map_tail, -List.drop_one, -List.map_map, -List.filter_filter, er, hx]
    refine law_marks_sem hs ?_
    simp (implicitDefEqProofs := false) [-List.map_drop, -List.map_take, -List.map_tail, -List.drop_one, -List.map_map, -List.filter_filter, ha]
    exact k p5 (hp5.mono (by omega))
/-! _law_pot -/
theorem law_pot_sem {ns : List Int} {i : Nat} {Q : D × List D → Prop} (hi : i < 100) (k : ∀ p, Pk 0 p → Q (p.d, [])) : (F_f_law_pot.sem [.lst (ns.map .int), .int i]).sat Q := by
  rw [F_f_law_pot_sem]
  refine semOf_sat (by rfl) ?_
  have bi : Bd 64 (i : Int) := by unfold Bd; omega
  by_cases h : i < ns.length
  · obtain ⟨x, e, _⟩ := atI_mem (l := ns) (i := i) (by omega) (by omega)
    simp (implicitDefEqProofs := false) [-List.map_drop, -List.map_take, -List.map_tail, -List.drop_one, -List.map_map, -List.filter_filter, g_f_law_pot, h, e]
    refine ⟨by (repeat' (first | assumption | exact Bd.lit (by decide) | exact Bd.lit2 (by decide) | apply Bd.emod | apply Bd.mul | apply Bd.add | apply Bd.ite | apply Bd.two | apply Bd.pow | decide | omega)), by (repeat' (first | assumption | exact Bd.lit (by decide) | exact Bd.lit2 (by decide) | apply Bd.emod | apply Bd.mul | apply Bd.add | apply Bd.ite | apply Bd.two | apply Bd.pow | decide | omega)), by (repeat' (first | assumption | exact Bd.lit (by decide) | exact Bd.lit2 (by decide) | apply Bd.emod | apply Bd.mul | apply Bd.add | apply Bd.ite | apply Bd.two | apply Bd.pow | decide | omega)), by (repeat' (first | assumption | exact Bd.lit (by decide) | exact Bd.lit2 (by decide) | apply Bd.emod | apply Bd.mul | apply Bd.add | apply Bd.ite | apply Bd.two | apply Bd.pow | decide | omega)), by (repeat' (first | assumption | exact Bd.lit (by decide) | exact Bd.lit2 (by decide) | apply Bd.emod | apply Bd.mul | apply Bd.add | apply Bd.ite | apply Bd.two | apply Bd.pow | decide | omega)), by (repeat' (first | assumption | exact Bd.lit (by decide) | exact Bd.lit2 (by decide) | apply Bd.emod | apply Bd.mul | apply Bd.add | apply Bd.ite | apply Bd.two | apply Bd.pow | decide | omega)), by (repeat' (first | assumption | exact Bd.lit (by decide) | exact Bd.lit2 (by decide) | apply Bd.emod | apply Bd.mul | apply Bd.add | apply Bd.ite | apply Bd.two | apply Bd.pow | decide | omega)), ?_⟩
    exact k ⟨_, _, 0⟩ ⟨Int.emod_nonneg _ (by decide), Int.lt_trans (Int.emod_lt_of_pos _ (by decide)) (by decide), Int.le_refl _, Int.le_refl _⟩
  · simp (implicitDefEqProofs := false) [-List.map_drop, -List.map_take, -List.map_tail, -List.drop_one, -List.map_map, -List.filter_filter, g_f_law_pot, h]
    refine ⟨by (repeat' (first | assumption | exact Bd.lit (by decide) | exact Bd.lit2 (by decide) | apply Bd.emod | apply Bd.mul | apply Bd.add | apply Bd.ite | apply Bd.two | apply Bd.pow | decide | omega)), by (repeat' (first | assumption | exact Bd.lit (by decide) | exact Bd.lit2 (by decide) | apply Bd.emod | apply Bd.mul | apply Bd.add | apply Bd.ite | apply Bd.two | apply Bd.pow | decide | omega)), by (repeat' (first | assumption | exact Bd.lit (by decide) | exact Bd.lit2 (by decide) | apply Bd.emod | apply Bd.mul | apply Bd.add | apply Bd.ite | apply Bd.two | apply Bd.pow | decide | omega)), by (repeat' (first | assumption | exact Bd.lit (by decide) | exact Bd.lit2 (by decide) | apply Bd.emod | apply Bd.mul | apply Bd.add | apply Bd.ite | apply Bd.two | apply Bd.pow | decide | omega)), by (repeat' (first | assumption | exact Bd.lit (by decide) | exact Bd.lit2 (by decide) | apply Bd.emod | apply Bd.mul | apply Bd.add | apply Bd.ite | apply Bd.two | apply Bd.pow | decide | omega)), by (repeat' (first | assumption | exact Bd.lit (by decide) | exact Bd.lit2 (by decide) | apply Bd.emod | apply Bd.mul | apply Bd.add | apply Bd.ite | apply Bd.two | apply Bd.pow | decide | omega)), by (repeat' (first | assumption | exact Bd.lit (by decide) | exact Bd.lit2 (by decide) | apply Bd.emod | apply Bd.mul | apply Bd.add | apply Bd.ite | apply Bd.two | apply Bd.pow | decide | omega)), by (repeat' (first | assumption | exact Bd.lit (by decide) | exact Bd.lit2 (by decide) | apply Bd.emod | apply Bd.mul | apply Bd.add | apply Bd.ite | apply Bd.two | apply Bd.pow | decide | omega)), ?_⟩
    exact k ⟨_, _, 0⟩ ⟨Int.emod_nonneg _ (by decide), Int.lt_trans (Int.emod_lt_of_pos _ (by decide)) (by decide), Int.le_refl _, Int.le_refl _⟩
end K00

set_option Elab.async false
set_option linter.all false
set_option maxRecDepth 100000
set_option maxHeartbeats 1000000
namespace K00
open PySem L2 Dx TL
/-! _law_cells -/
theorem law_cells_sem {ns : List Int} {m : Nat} {Q : D × List D → Prop} (hm : m ≤ 60) (k : ∀ c : Nat, c ≤ 60 → Q (.lst (rngD 0 c), [])) : (F_f_law_cells.sem [.lst (ns.map .int), .int m]).sat Q := by
  rw [F_f_law_cells_sem]
  refine semOf_sat (by rfl) ?_
  simp (implicitDefEqProofs := false) [-List.map_drop, -List.map_take, -List.map_tail, -List.drop_one, -List.map_map, -List.filter_filter, g_f_law_cells]
  have e : ∀ j : Int, 1 ≤ j → j ≤ 60 → rgO (.int j) = some (.lst (rngD 0 j.toNat)) := by
    intro j h1 h2
    show (if decide (-(2 ^ 62) ≤ j ∧ j ≤ 16777216) then some (D.lst (rngD 0 j.toNat)) else none) = _
    rw [if_pos (decide_eq_true (by omega))]
  rw [e _ (by split <;> split <;> omega) (by split <;> split <;> omega)]
  simp (implicitDefEqProofs := false) [-List.map_drop, -List.map_take, -List.map_tail, -List.drop_one, -List.map_map, -List.filter_filter]
  exact k _ (by split <;> split <;> omega)
/-! law -/
theorem law_sem (ns : List Int) : (F_f_law.sem [.lst (ns.map .int)]).sat fun q => q.1 = .bl true := by
  rw [F_f_law_sem]
  refine semOf_sat (by rfl) ?_
  simp (implicitDefEqProofs := false) [-List.map_drop, -List.map_take, -List.map_tail, -List.drop_one, -List.map_map, -List.filter_filter, g_f_law]
  refine law_cells_sem (m := 4) (by decide) fun c hc => ?_
  simp (implicitDefEqProofs := false) [-List.map_drop, -List.map_take, -List.map_tail, -List.drop_one, -List.map_map, -List.filter_filter, rngD_eq]
  refine lcL_map _ (fun _ => .bl true) (List.range c) ?_ (by rw [List.length_range]; unfold sizeLine; omega) ?_
  · intro i hi
    have hi : i < c := by simpa using hi
    refine ⟨_, by simp (implicitDefEqProofs := false) [-List.map_drop, -List.map_take, -List.map_tail, -List.drop_one, -List.map_map, -List.filter_filter]; rfl, ?_⟩
    simp (implicitDefEqProofs := false) [-List.map_drop, -List.map_take, -List.map_tail, -List.drop_one, -List.map_map, -List.filter_filter]
    refine law_pot_sem (i := i) (by omega) fun p hp => ?_
    simp (implicitDefEqProofs := false) [-List.map_drop, -List.map_take, -List.map_tail, -List.drop_one, -List.map_map, -List.filter_filter]
    refine law_right_sem hp (by decide) fun p2 hp2 => ?_
    simp (implicitDefEqProofs := false) [-List.map_drop, -List.map_take, -List.map_tail, -List.drop_one, -List.map_map, -List.filter_filter]
  · simp (implicitDefEqProofs := false) [-List.map_drop, -List.map_take, -List.map_tail, -List.drop_one, -List.map_map, -List.filter_filter, all_map (p := fun _ => true)]
end K00

set_option Elab.async false
set_option linter.all false
set_option maxRecDepth 100000
set_option maxHeartbeats 0
namespace K00
open PySem Spec PyProof.Rows L2 Dx
abbrev R : PySem.W.OpenRow := PySem.W.OpenLaw.row PySem.Challenge.rw_signsunread_k00_errors_keep_their_values
def as : List Addr := sysModules :: cStatics :: [3, 6, 4, 33, 46, 58, 70, 82, 94, 106, 118, 130, 142, 154, 166, 178, 190, 202, 214, 226, 238, 250, 262, 274, 286, 298, 310, 322, 334, 346, 358, 367, 374, 381, 388, 395, 402, 409, 414, 419, 0, 32, 45, 57, 69, 81, 93, 105, 117, 129, 141, 153, 165, 177, 189, 201, 213, 225, 237, 249, 261, 273, 285, 297, 309, 321, 333, 345, 357, 366, 373, 380, 387, 394, 401, 408, 413, 418, 30, 31, 34, 44, 56, 68, 80, 92, 104, 116, 128, 140, 152, 164, 176, 188, 200, 212, 224, 236, 248, 260, 272, 284, 296, 308, 320, 332, 344, 356, 361, 362, 363, 364, 365, 368, 369, 370, 371, 372, 375, 376, 377, 378, 379, 382, 383, 384, 385, 386, 389, 390, 391, 392, 393, 396, 397, 398, 399, 400, 403, 404, 405, 406, 407, 410, 411, 412, 415, 416, 417, 29, 18, 24, 25, 26, 27, 28]
def nm0 : List Str := ["SignError", "BadTown", "NoStreet", "NoPlace", "BadClaim", "NotKnown", "BadLine", "Full", "Few", "BadSigns", "Torn", "BadSet", "NoMap", "BadClaims", "BadDrive", "NotUnread", "TooMany", "BadNumber", "BadLot", "OtherTown", "HasKnown", "BadOffers", "BadWishes", "Contrary", "NothingToUndo"]
def nm1 : List Str := ["NothingToRedo", "NoTrial", "BadJournal", "_law_pot", "_law_take", "_law_of", "_law_cells", "_law_odd", "_law_made", "_law_marks", "_law_right"]
def tls : List Addr := tabs.map fun p : Addr × Addr => p.2
def names : List Str := nm0 ++ nm1
abbrev vw : Program := PySem.W.view R.prog [38]
def gr0 : Grp := ⟨[fun K => nolB K,
 fun K => tabs.all fun p => (K.lookup p.2).isNone && PySem.W.codeHdIn K p.1 p.2,
 fun K => dcs.all fun p => (K.lookup p.1).isNone,
 fun K => freB [("ValueError" : Str), ("abs" : Str), ("all" : Str), ("any" : Str), ("enumerate" : Str), ("int" : Str), ("isinstance" : Str), ("len" : Str), ("list" : Str), ("max" : Str), ("min" : Str), ("range" : Str), ("repr" : Str), ("set" : Str), ("super" : Str), ("zip" : Str)] K,
 fun K => sysB K,
 fun K => isiB is_BadClaim (fun K => .ref (He.ga K ("BadClaim" : Str))) K,
 fun K => (He.Fa.glo ("BadClaim" : Str)).ok K,
 fun K => isiB is_BadClaims (fun K => .ref (He.ga K ("BadClaims" : Str))) K,
 fun K => (He.Fa.glo ("BadClaims" : Str)).ok K,
 fun K => isiB is_BadDrive (fun K => .ref (He.ga K ("BadDrive" : Str))) K,
 fun K => (He.Fa.glo ("BadDrive" : Str)).ok K,
 fun K => isiB is_BadJournal (fun K => .ref (He.ga K ("BadJournal" : Str))) K,
 fun K => (He.Fa.glo ("BadJournal" : Str)).ok K,
 fun K => isiB is_BadLine (fun K => .ref (He.ga K ("BadLine" : Str))) K,
 fun K => (He.Fa.glo ("BadLine" : Str)).ok K,
 fun K => isiB is_BadLot (fun K => .ref (He.ga K ("BadLot" : Str))) K,
 fun K => (He.Fa.glo ("BadLot" : Str)).ok K,
 fun K => isiB is_BadNumber (fun K => .ref (He.ga K ("BadNumber" : Str))) K,
 fun K => (He.Fa.glo ("BadNumber" : Str)).ok K,
 fun K => isiB is_BadOffers (fun K => .ref (He.ga K ("BadOffers" : Str))) K,
 fun K => (He.Fa.glo ("BadOffers" : Str)).ok K,
 fun K => isiB is_BadSet (fun K => .ref (He.ga K ("BadSet" : Str))) K,
 fun K => (He.Fa.glo ("BadSet" : Str)).ok K,
 fun K => isiB is_BadSigns (fun K => .ref (He.ga K ("BadSigns" : Str))) K,
 fun K => (He.Fa.glo ("BadSigns" : Str)).ok K,
 fun K => isiB is_BadTown (fun K => .ref (He.ga K ("BadTown" : Str))) K,
 fun K => (He.Fa.glo ("BadTown" : Str)).ok K,
 fun K => isiB is_BadWishes (fun K => .ref (He.ga K ("BadWishes" : Str))) K,
 fun K => (He.Fa.glo ("BadWishes" : Str)).ok K,
 fun K => isiB is_Contrary (fun K => .ref (He.ga K ("Contrary" : Str))) K,
 fun K => (He.Fa.glo ("Contrary" : Str)).ok K,
 fun K => isiB is_Few (fun K => .ref (He.ga K ("Few" : Str))) K,
 fun K => (He.Fa.glo ("Few" : Str)).ok K,
 fun K => isiB is_Full (fun K => .ref (He.ga K ("Full" : Str))) K,
 fun K => (He.Fa.glo ("Full" : Str)).ok K,
 fun K => isiB is_HasKnown (fun K => .ref (He.ga K ("HasKnown" : Str))) K,
 fun K => (He.Fa.glo ("HasKnown" : Str)).ok K,
 fun K => isiB is_NoMap (fun K => .ref (He.ga K ("NoMap" : Str))) K,
 fun K => (He.Fa.glo ("NoMap" : Str)).ok K,
 fun K => isiB is_NoPlace (fun K => .ref (He.ga K ("NoPlace" : Str))) K,
 fun K => (He.Fa.glo ("NoPlace" : Str)).ok K,
 fun K => isiB is_NoStreet (fun K => .ref (He.ga K ("NoStreet" : Str))) K,
 fun K => (He.Fa.glo ("NoStreet" : Str)).ok K,
 fun K => isiB is_NoTrial (fun K => .ref (He.ga K ("NoTrial" : Str))) K,
 fun K => (He.Fa.glo ("NoTrial" : Str)).ok K,
 fun K => isiB is_NotKnown (fun K => .ref (He.ga K ("NotKnown" : Str))) K,
 fun K => (He.Fa.glo ("NotKnown" : Str)).ok K,
 fun K => isiB is_NotUnread (fun K => .ref (He.ga K ("NotUnread" : Str))) K,
 fun K => (He.Fa.glo ("NotUnread" : Str)).ok K,
 fun K => isiB is_NothingToRedo (fun K => .ref (He.ga K ("NothingToRedo" : Str))) K,
 fun K => (He.Fa.glo ("NothingToRedo" : Str)).ok K,
 fun K => isiB is_NothingToUndo (fun K => .ref (He.ga K ("NothingToUndo" : Str))) K,
 fun K => (He.Fa.glo ("NothingToUndo" : Str)).ok K,
 fun K => isiB is_OtherTown (fun K => .ref (He.ga K ("OtherTown" : Str))) K,
 fun K => (He.Fa.glo ("OtherTown" : Str)).ok K,
 fun K => isiB is_SignError (fun K => .ref (He.ga K ("SignError" : Str))) K,
 fun K => (He.Fa.glo ("SignError" : Str)).ok K,
 fun K => isiB is_TooMany (fun K => .ref (He.ga K ("TooMany" : Str))) K,
 fun K => (He.Fa.glo ("TooMany" : Str)).ok K,
 fun K => isiB is_Torn (fun K => .ref (He.ga K ("Torn" : Str))) K,
 fun K => (He.Fa.glo ("Torn" : Str)).ok K,
 fun K => isiB is_ValueError (fun _ => .type "ValueError") K,
 fun K => eokB ("BadClaim" : Str) "SignError" "SignError.__init__" prog.main.file K,
 fun K => (He.Fa.glo ("BadClaim" : Str)).ok K,
 fun K => eokB ("BadClaims" : Str) "SignError" "SignError.__init__" prog.main.file K,
 fun K => (He.Fa.glo ("BadClaims" : Str)).ok K,
 fun K => eokB ("BadDrive" : Str) "SignError" "SignError.__init__" prog.main.file K,
 fun K => (He.Fa.glo ("BadDrive" : Str)).ok K,
 fun K => eokB ("BadJournal" : Str) "SignError" "SignError.__init__" prog.main.file K,
 fun K => (He.Fa.glo ("BadJournal" : Str)).ok K,
 fun K => eokB ("BadLine" : Str) "SignError" "SignError.__init__" prog.main.file K,
 fun K => (He.Fa.glo ("BadLine" : Str)).ok K,
 fun K => eokB ("BadLot" : Str) "SignError" "SignError.__init__" prog.main.file K,
 fun K => (He.Fa.glo ("BadLot" : Str)).ok K,
 fun K => eokB ("BadNumber" : Str) "SignError" "SignError.__init__" prog.main.file K,
 fun K => (He.Fa.glo ("BadNumber" : Str)).ok K,
 fun K => eokB ("BadOffers" : Str) "SignError" "SignError.__init__" prog.main.file K,
 fun K => (He.Fa.glo ("BadOffers" : Str)).ok K,
 fun K => eokB ("BadSet" : Str) "SignError" "SignError.__init__" prog.main.file K,
 fun K => (He.Fa.glo ("BadSet" : Str)).ok K,
 fun K => eokB ("BadSigns" : Str) "SignError" "SignError.__init__" prog.main.file K,
 fun K => (He.Fa.glo ("BadSigns" : Str)).ok K,
 fun K => eokB ("BadTown" : Str) "SignError" "SignError.__init__" prog.main.file K,
 fun K => (He.Fa.glo ("BadTown" : Str)).ok K,
 fun K => eokB ("BadWishes" : Str) "SignError" "SignError.__init__" prog.main.file K,
 fun K => (He.Fa.glo ("BadWishes" : Str)).ok K,
 fun K => eokB ("Contrary" : Str) "SignError" "SignError.__init__" prog.main.file K,
 fun K => (He.Fa.glo ("Contrary" : Str)).ok K,
 fun K => eokB ("Few" : Str) "SignError" "SignError.__init__" prog.main.file K,
 fun K => (He.Fa.glo ("Few" : Str)).ok K,
 fun K => eokB ("Full" : Str) "SignError" "SignError.__init__" prog.main.file K,
 fun K => (He.Fa.glo ("Full" : Str)).ok K,
 fun K => eokB ("HasKnown" : Str) "SignError" "SignError.__init__" prog.main.file K,
 fun K => (He.Fa.glo ("HasKnown" : Str)).ok K,
 fun K => eokB ("NoMap" : Str) "SignError" "SignError.__init__" prog.main.file K,
 fun K => (He.Fa.glo ("NoMap" : Str)).ok K,
 fun K => eokB ("NoPlace" : Str) "SignError" "SignError.__init__" prog.main.file K,
 fun K => (He.Fa.glo ("NoPlace" : Str)).ok K,
 fun K => eokB ("NoStreet" : Str) "SignError" "SignError.__init__" prog.main.file K,
 fun K => (He.Fa.glo ("NoStreet" : Str)).ok K,
 fun K => eokB ("NoTrial" : Str) "SignError" "SignError.__init__" prog.main.file K,
 fun K => (He.Fa.glo ("NoTrial" : Str)).ok K,
 fun K => eokB ("NotKnown" : Str) "SignError" "SignError.__init__" prog.main.file K,
 fun K => (He.Fa.glo ("NotKnown" : Str)).ok K,
 fun K => eokB ("NotUnread" : Str) "SignError" "SignError.__init__" prog.main.file K,
 fun K => (He.Fa.glo ("NotUnread" : Str)).ok K,
 fun K => eokB ("NothingToRedo" : Str) "SignError" "SignError.__init__" prog.main.file K,
 fun K => (He.Fa.glo ("NothingToRedo" : Str)).ok K,
 fun K => eokB ("NothingToUndo" : Str) "SignError" "SignError.__init__" prog.main.file K,
 fun K => (He.Fa.glo ("NothingToUndo" : Str)).ok K,
 fun K => eokB ("OtherTown" : Str) "SignError" "SignError.__init__" prog.main.file K,
 fun K => (He.Fa.glo ("OtherTown" : Str)).ok K,
 fun K => eokB ("SignError" : Str) "SignError" "SignError.__init__" prog.main.file K,
 fun K => (He.Fa.glo ("SignError" : Str)).ok K,
 fun K => eokB ("TooMany" : Str) "SignError" "SignError.__init__" prog.main.file K,
 fun K => (He.Fa.glo ("TooMany" : Str)).ok K,
 fun K => eokB ("Torn" : Str) "SignError" "SignError.__init__" prog.main.file K,
 fun K => (He.Fa.glo ("Torn" : Str)).ok K,
 fun K => c_errs.all fun c => xfB K (He.ga K c) && decide (PySem.W.findIn K (.ref (He.ga K c)) "value" = some none),
 fun K => isx_BadClaim.all fun p => xcB K (He.ga K p.1) && decide (PySem.W.kitOne K (.ref (He.ga K p.1)) (.ref (He.ga K ("BadClaim" : Str))) = some p.2),
 fun K => isx_BadClaims.all fun p => xcB K (He.ga K p.1) && decide (PySem.W.kitOne K (.ref (He.ga K p.1)) (.ref (He.ga K ("BadClaims" : Str))) = some p.2),
 fun K => isx_BadDrive.all fun p => xcB K (He.ga K p.1) && decide (PySem.W.kitOne K (.ref (He.ga K p.1)) (.ref (He.ga K ("BadDrive" : Str))) = some p.2),
 fun K => isx_BadJournal.all fun p => xcB K (He.ga K p.1) && decide (PySem.W.kitOne K (.ref (He.ga K p.1)) (.ref (He.ga K ("BadJournal" : Str))) = some p.2),
 fun K => isx_BadLine.all fun p => xcB K (He.ga K p.1) && decide (PySem.W.kitOne K (.ref (He.ga K p.1)) (.ref (He.ga K ("BadLine" : Str))) = some p.2),
 fun K => isx_BadLot.all fun p => xcB K (He.ga K p.1) && decide (PySem.W.kitOne K (.ref (He.ga K p.1)) (.ref (He.ga K ("BadLot" : Str))) = some p.2),
 fun K => isx_BadNumber.all fun p => xcB K (He.ga K p.1) && decide (PySem.W.kitOne K (.ref (He.ga K p.1)) (.ref (He.ga K ("BadNumber" : Str))) = some p.2),
 fun K => isx_BadOffers.all fun p => xcB K (He.ga K p.1) && decide (PySem.W.kitOne K (.ref (He.ga K p.1)) (.ref (He.ga K ("BadOffers" : Str))) = some p.2),
 fun K => isx_BadSet.all fun p => xcB K (He.ga K p.1) && decide (PySem.W.kitOne K (.ref (He.ga K p.1)) (.ref (He.ga K ("BadSet" : Str))) = some p.2),
 fun K => isx_BadSigns.all fun p => xcB K (He.ga K p.1) && decide (PySem.W.kitOne K (.ref (He.ga K p.1)) (.ref (He.ga K ("BadSigns" : Str))) = some p.2),
 fun K => isx_BadTown.all fun p => xcB K (He.ga K p.1) && decide (PySem.W.kitOne K (.ref (He.ga K p.1)) (.ref (He.ga K ("BadTown" : Str))) = some p.2),
 fun K => isx_BadWishes.all fun p => xcB K (He.ga K p.1) && decide (PySem.W.kitOne K (.ref (He.ga K p.1)) (.ref (He.ga K ("BadWishes" : Str))) = some p.2),
 fun K => isx_Contrary.all fun p => xcB K (He.ga K p.1) && decide (PySem.W.kitOne K (.ref (He.ga K p.1)) (.ref (He.ga K ("Contrary" : Str))) = some p.2),
 fun K => isx_Few.all fun p => xcB K (He.ga K p.1) && decide (PySem.W.kitOne K (.ref (He.ga K p.1)) (.ref (He.ga K ("Few" : Str))) = some p.2),
 fun K => isx_Full.all fun p => xcB K (He.ga K p.1) && decide (PySem.W.kitOne K (.ref (He.ga K p.1)) (.ref (He.ga K ("Full" : Str))) = some p.2),
 fun K => isx_HasKnown.all fun p => xcB K (He.ga K p.1) && decide (PySem.W.kitOne K (.ref (He.ga K p.1)) (.ref (He.ga K ("HasKnown" : Str))) = some p.2),
 fun K => isx_NoMap.all fun p => xcB K (He.ga K p.1) && decide (PySem.W.kitOne K (.ref (He.ga K p.1)) (.ref (He.ga K ("NoMap" : Str))) = some p.2),
 fun K => isx_NoPlace.all fun p => xcB K (He.ga K p.1) && decide (PySem.W.kitOne K (.ref (He.ga K p.1)) (.ref (He.ga K ("NoPlace" : Str))) = some p.2),
 fun K => isx_NoStreet.all fun p => xcB K (He.ga K p.1) && decide (PySem.W.kitOne K (.ref (He.ga K p.1)) (.ref (He.ga K ("NoStreet" : Str))) = some p.2),
 fun K => isx_NoTrial.all fun p => xcB K (He.ga K p.1) && decide (PySem.W.kitOne K (.ref (He.ga K p.1)) (.ref (He.ga K ("NoTrial" : Str))) = some p.2),
 fun K => isx_NotKnown.all fun p => xcB K (He.ga K p.1) && decide (PySem.W.kitOne K (.ref (He.ga K p.1)) (.ref (He.ga K ("NotKnown" : Str))) = some p.2),
 fun K => isx_NotUnread.all fun p => xcB K (He.ga K p.1) && decide (PySem.W.kitOne K (.ref (He.ga K p.1)) (.ref (He.ga K ("NotUnread" : Str))) = some p.2),
 fun K => isx_NothingToRedo.all fun p => xcB K (He.ga K p.1) && decide (PySem.W.kitOne K (.ref (He.ga K p.1)) (.ref (He.ga K ("NothingToRedo" : Str))) = some p.2),
 fun K => isx_NothingToUndo.all fun p => xcB K (He.ga K p.1) && decide (PySem.W.kitOne K (.ref (He.ga K p.1)) (.ref (He.ga K ("NothingToUndo" : Str))) = some p.2),
 fun K => isx_OtherTown.all fun p => xcB K (He.ga K p.1) && decide (PySem.W.kitOne K (.ref (He.ga K p.1)) (.ref (He.ga K ("OtherTown" : Str))) = some p.2),
 fun K => isx_SignError.all fun p => xcB K (He.ga K p.1) && decide (PySem.W.kitOne K (.ref (He.ga K p.1)) (.ref (He.ga K ("SignError" : Str))) = some p.2),
 fun K => isx_TooMany.all fun p => xcB K (He.ga K p.1) && decide (PySem.W.kitOne K (.ref (He.ga K p.1)) (.ref (He.ga K ("TooMany" : Str))) = some p.2),
 fun K => isx_Torn.all fun p => xcB K (He.ga K p.1) && decide (PySem.W.kitOne K (.ref (He.ga K p.1)) (.ref (He.ga K ("Torn" : Str))) = some p.2),
 fun K => isx_ValueError.all fun p => xcB K (He.ga K p.1) && decide (PySem.W.kitOne K (.ref (He.ga K p.1)) (.type "ValueError") = some p.2),
 fun K => (He.Fa.glo ("_law_take" : Str)).ok K,
 fun K => (He.Fa.glo ("_law_of" : Str)).ok K,
 fun K => (He.Fa.glo ("_law_made" : Str)).ok K,
 fun K => (He.Fa.glo ("_law_odd" : Str)).ok K,
 fun K => (He.Fa.glo ("_law_marks" : Str)).ok K,
 fun K => (He.Fa.glo ("_law_right" : Str)).ok K,
 fun K => (He.Fa.glo ("_law_pot" : Str)).ok K,
 fun K => (He.Fa.glo ("_law_cells" : Str)).ok K,
 fun K => (He.Fa.glo ("law" : Str)).ok K,
 fun K => (fnD (fun K => He.ga K ("_law_take" : Str)) ("_law_take" : Str) ("_law_take" : Str) (st 31)).ok K,
 fun K => (fnD (fun K => He.ga K ("_law_of" : Str)) ("_law_of" : Str) ("_law_of" : Str) (st 32)).ok K,
 fun K => (fnD (fun K => He.ga K ("_law_made" : Str)) ("_law_made" : Str) ("_law_made" : Str) (st 35)).ok K,
 fun K => (fnD (fun K => He.ga K ("_law_odd" : Str)) ("_law_odd" : Str) ("_law_odd" : Str) (st 34)).ok K,
 fun K => (fnD (fun K => He.ga K ("_law_marks" : Str)) ("_law_marks" : Str) ("_law_marks" : Str) (st 36)).ok K,
 fun K => (fnD (fun K => He.ga K ("_law_right" : Str)) ("_law_right" : Str) ("_law_right" : Str) (st 37)).ok K,
 fun K => (fnD (fun K => He.ga K ("_law_pot" : Str)) ("_law_pot" : Str) ("_law_pot" : Str) (st 30)).ok K,
 fun K => (fnD (fun K => He.ga K ("_law_cells" : Str)) ("_law_cells" : Str) ("_law_cells" : Str) (st 33)).ok K,
 fun K => (fnD (fun K => He.ga K ("law" : Str)) ("law" : Str) ("law" : Str) (st 38)).ok K], [fnD (fun K => He.ga K ("_law_take" : Str)) ("_law_take" : Str) ("_law_take" : Str) (st 31),
 fnD (fun K => He.ga K ("_law_of" : Str)) ("_law_of" : Str) ("_law_of" : Str) (st 32),
 fnD (fun K => He.ga K ("_law_made" : Str)) ("_law_made" : Str) ("_law_made" : Str) (st 35),
 fnD (fun K => He.ga K ("_law_odd" : Str)) ("_law_odd" : Str) ("_law_odd" : Str) (st 34),
 fnD (fun K => He.ga K ("_law_marks" : Str)) ("_law_marks" : Str) ("_law_marks" : Str) (st 36),
 fnD (fun K => He.ga K ("_law_right" : Str)) ("_law_right" : Str) ("_law_right" : Str) (st 37),
 fnD (fun K => He.ga K ("_law_pot" : Str)) ("_law_pot" : Str) ("_law_pot" : Str) (st 30),
 fnD (fun K => He.ga K ("_law_cells" : Str)) ("_law_cells" : Str) ("_law_cells" : Str) (st 33),
 fnD (fun K => He.ga K ("law" : Str)) ("law" : Str) ("law" : Str) (st 38)], [fnD (pmA "SignError" "__init__") "__init__" "SignError.__init__" (ms 1 0)]⟩
def grs : List Grp := [gr0]
theorem facts_of {W : Wd} {h : Heap} (X : W.K.In h) (G : h.Ns mainGlobals W.mg) (hP : W.P = prog) (cx : W.CX = L2.CX W.P W.w) (tb : ∀ p ∈ tabs, LamX.TabB W.base W.mg p.1 p.2) (dg : ∀ p ∈ dcs, DicG W p.1 p.2) (cc : grs.map (fun p => p.obs W.K) = grs.map Grp.val) : Facts W := by
  have p0 := says_at cc (i := 0) (p := gr0) rfl
  have er : ∀ c : Str, eokB c "SignError" "SignError.__init__" prog.main.file W.K = true → W.mg c = some (.ref (He.ga W.K c)) → ErrOk W c := fun c h0 gc => errOk_of (d := "SignError") (q := "SignError.__init__") (x := "self") (y := "value") (by rw [hP]; exact h0) gc (freB_ok X G (obs_fb p0 (f := fun K => freB [("ValueError" : Str), ("abs" : Str), ("all" : Str), ("any" : Str), ("enumerate" : Str), ("int" : Str), ("isinstance" : Str), ("len" : Str), ("list" : Str), ("max" : Str), ("min" : Str), ("range" : Str), ("repr" : Str), ("set" : Str), ("super" : Str), ("zip" : Str)] K) 3 rfl) "super" (by decide +kernel)) (by rw [hP]; decide +kernel) (obs_fx p0 (d := fnD (pmA "SignError" "__init__") "__init__" "SignError.__init__" (ms 1 0)) 0 rfl) rfl rfl rfl (by decide +kernel) (fun _ _ _ _ _ _ _ us hl => match us, hl with | [_, _], _ => rfl) (fun _ => rfl)
  exact {
    bn := freB_ok X G (obs_fb p0 (f := fun K => freB [("ValueError" : Str), ("abs" : Str), ("all" : Str), ("any" : Str), ("enumerate" : Str), ("int" : Str), ("isinstance" : Str), ("len" : Str), ("list" : Str), ("max" : Str), ("min" : Str), ("range" : Str), ("repr" : Str), ("set" : Str), ("super" : Str), ("zip" : Str)] K) 3 rfl),
    sys := sysB_ok (obs_fb p0 (f := fun K => sysB K) 4 rfl),
    is_BadClaim := isiB_ok (u := fun K => .ref (He.ga K ("BadClaim" : Str))) (obs_fb p0 (f := fun K => isiB is_BadClaim (fun K => .ref (He.ga K ("BadClaim" : Str))) K) 5 rfl),
    mg_BadClaim := He.glo_ok X G (obs_fb p0 (f := fun K => (He.Fa.glo ("BadClaim" : Str)).ok K) 6 rfl),
    is_BadClaims := isiB_ok (u := fun K => .ref (He.ga K ("BadClaims" : Str))) (obs_fb p0 (f := fun K => isiB is_BadClaims (fun K => .ref (He.ga K ("BadClaims" : Str))) K) 7 rfl),
    mg_BadClaims := He.glo_ok X G (obs_fb p0 (f := fun K => (He.Fa.glo ("BadClaims" : Str)).ok K) 8 rfl),
    is_BadDrive := isiB_ok (u := fun K => .ref (He.ga K ("BadDrive" : Str))) (obs_fb p0 (f := fun K => isiB is_BadDrive (fun K => .ref (He.ga K ("BadDrive" : Str))) K) 9 rfl),
    mg_BadDrive := He.glo_ok X G (obs_fb p0 (f := fun K => (He.Fa.glo ("BadDrive" : Str)).ok K) 10 rfl),
    is_BadJournal := isiB_ok (u := fun K => .ref (He.ga K ("BadJournal" : Str))) (obs_fb p0 (f := fun K => isiB is_BadJournal (fun K => .ref (He.ga K ("BadJournal" : Str))) K) 11 rfl),
    mg_BadJournal := He.glo_ok X G (obs_fb p0 (f := fun K => (He.Fa.glo ("BadJournal" : Str)).ok K) 12 rfl),
    is_BadLine := isiB_ok (u := fun K => .ref (He.ga K ("BadLine" : Str))) (obs_fb p0 (f := fun K => isiB is_BadLine (fun K => .ref (He.ga K ("BadLine" : Str))) K) 13 rfl),
    mg_BadLine := He.glo_ok X G (obs_fb p0 (f := fun K => (He.Fa.glo ("BadLine" : Str)).ok K) 14 rfl),
    is_BadLot := isiB_ok (u := fun K => .ref (He.ga K ("BadLot" : Str))) (obs_fb p0 (f := fun K => isiB is_BadLot (fun K => .ref (He.ga K ("BadLot" : Str))) K) 15 rfl),
    mg_BadLot := He.glo_ok X G (obs_fb p0 (f := fun K => (He.Fa.glo ("BadLot" : Str)).ok K) 16 rfl),
    is_BadNumber := isiB_ok (u := fun K => .ref (He.ga K ("BadNumber" : Str))) (obs_fb p0 (f := fun K => isiB is_BadNumber (fun K => .ref (He.ga K ("BadNumber" : Str))) K) 17 rfl),
    mg_BadNumber := He.glo_ok X G (obs_fb p0 (f := fun K => (He.Fa.glo ("BadNumber" : Str)).ok K) 18 rfl),
    is_BadOffers := isiB_ok (u := fun K => .ref (He.ga K ("BadOffers" : Str))) (obs_fb p0 (f := fun K => isiB is_BadOffers (fun K => .ref (He.ga K ("BadOffers" : Str))) K) 19 rfl),
    mg_BadOffers := He.glo_ok X G (obs_fb p0 (f := fun K => (He.Fa.glo ("BadOffers" : Str)).ok K) 20 rfl),
    is_BadSet := isiB_ok (u := fun K => .ref (He.ga K ("BadSet" : Str))) (obs_fb p0 (f := fun K => isiB is_BadSet (fun K => .ref (He.ga K ("BadSet" : Str))) K) 21 rfl),
    mg_BadSet := He.glo_ok X G (obs_fb p0 (f := fun K => (He.Fa.glo ("BadSet" : Str)).ok K) 22 rfl),
    is_BadSigns := isiB_ok (u := fun K => .ref (He.ga K ("BadSigns" : Str))) (obs_fb p0 (f := fun K => isiB is_BadSigns (fun K => .ref (He.ga K ("BadSigns" : Str))) K) 23 rfl),
    mg_BadSigns := He.glo_ok X G (obs_fb p0 (f := fun K => (He.Fa.glo ("BadSigns" : Str)).ok K) 24 rfl),
    is_BadTown := isiB_ok (u := fun K => .ref (He.ga K ("BadTown" : Str))) (obs_fb p0 (f := fun K => isiB is_BadTown (fun K => .ref (He.ga K ("BadTown" : Str))) K) 25 rfl),
    mg_BadTown := He.glo_ok X G (obs_fb p0 (f := fun K => (He.Fa.glo ("BadTown" : Str)).ok K) 26 rfl),
    is_BadWishes := isiB_ok (u := fun K => .ref (He.ga K ("BadWishes" : Str))) (obs_fb p0 (f := fun K => isiB is_BadWishes (fun K => .ref (He.ga K ("BadWishes" : Str))) K) 27 rfl),
    mg_BadWishes := He.glo_ok X G (obs_fb p0 (f := fun K => (He.Fa.glo ("BadWishes" : Str)).ok K) 28 rfl),
    is_Contrary := isiB_ok (u := fun K => .ref (He.ga K ("Contrary" : Str))) (obs_fb p0 (f := fun K => isiB is_Contrary (fun K => .ref (He.ga K ("Contrary" : Str))) K) 29 rfl),
    mg_Contrary := He.glo_ok X G (obs_fb p0 (f := fun K => (He.Fa.glo ("Contrary" : Str)).ok K) 30 rfl),
    is_Few := isiB_ok (u := fun K => .ref (He.ga K ("Few" : Str))) (obs_fb p0 (f := fun K => isiB is_Few (fun K => .ref (He.ga K ("Few" : Str))) K) 31 rfl),
    mg_Few := He.glo_ok X G (obs_fb p0 (f := fun K => (He.Fa.glo ("Few" : Str)).ok K) 32 rfl),
    is_Full := isiB_ok (u := fun K => .ref (He.ga K ("Full" : Str))) (obs_fb p0 (f := fun K => isiB is_Full (fun K => .ref (He.ga K ("Full" : Str))) K) 33 rfl),
    mg_Full := He.glo_ok X G (obs_fb p0 (f := fun K => (He.Fa.glo ("Full" : Str)).ok K) 34 rfl),
    is_HasKnown := isiB_ok (u := fun K => .ref (He.ga K ("HasKnown" : Str))) (obs_fb p0 (f := fun K => isiB is_HasKnown (fun K => .ref (He.ga K ("HasKnown" : Str))) K) 35 rfl),
    mg_HasKnown := He.glo_ok X G (obs_fb p0 (f := fun K => (He.Fa.glo ("HasKnown" : Str)).ok K) 36 rfl),
    is_NoMap := isiB_ok (u := fun K => .ref (He.ga K ("NoMap" : Str))) (obs_fb p0 (f := fun K => isiB is_NoMap (fun K => .ref (He.ga K ("NoMap" : Str))) K) 37 rfl),
    mg_NoMap := He.glo_ok X G (obs_fb p0 (f := fun K => (He.Fa.glo ("NoMap" : Str)).ok K) 38 rfl),
    is_NoPlace := isiB_ok (u := fun K => .ref (He.ga K ("NoPlace" : Str))) (obs_fb p0 (f := fun K => isiB is_NoPlace (fun K => .ref (He.ga K ("NoPlace" : Str))) K) 39 rfl),
    mg_NoPlace := He.glo_ok X G (obs_fb p0 (f := fun K => (He.Fa.glo ("NoPlace" : Str)).ok K) 40 rfl),
    is_NoStreet := isiB_ok (u := fun K => .ref (He.ga K ("NoStreet" : Str))) (obs_fb p0 (f := fun K => isiB is_NoStreet (fun K => .ref (He.ga K ("NoStreet" : Str))) K) 41 rfl),
    mg_NoStreet := He.glo_ok X G (obs_fb p0 (f := fun K => (He.Fa.glo ("NoStreet" : Str)).ok K) 42 rfl),
    is_NoTrial := isiB_ok (u := fun K => .ref (He.ga K ("NoTrial" : Str))) (obs_fb p0 (f := fun K => isiB is_NoTrial (fun K => .ref (He.ga K ("NoTrial" : Str))) K) 43 rfl),
    mg_NoTrial := He.glo_ok X G (obs_fb p0 (f := fun K => (He.Fa.glo ("NoTrial" : Str)).ok K) 44 rfl),
    is_NotKnown := isiB_ok (u := fun K => .ref (He.ga K ("NotKnown" : Str))) (obs_fb p0 (f := fun K => isiB is_NotKnown (fun K => .ref (He.ga K ("NotKnown" : Str))) K) 45 rfl),
    mg_NotKnown := He.glo_ok X G (obs_fb p0 (f := fun K => (He.Fa.glo ("NotKnown" : Str)).ok K) 46 rfl),
    is_NotUnread := isiB_ok (u := fun K => .ref (He.ga K ("NotUnread" : Str))) (obs_fb p0 (f := fun K => isiB is_NotUnread (fun K => .ref (He.ga K ("NotUnread" : Str))) K) 47 rfl),
    mg_NotUnread := He.glo_ok X G (obs_fb p0 (f := fun K => (He.Fa.glo ("NotUnread" : Str)).ok K) 48 rfl),
    is_NothingToRedo := isiB_ok (u := fun K => .ref (He.ga K ("NothingToRedo" : Str))) (obs_fb p0 (f := fun K => isiB is_NothingToRedo (fun K => .ref (He.ga K ("NothingToRedo" : Str))) K) 49 rfl),
    mg_NothingToRedo := He.glo_ok X G (obs_fb p0 (f := fun K => (He.Fa.glo ("NothingToRedo" : Str)).ok K) 50 rfl),
    is_NothingToUndo := isiB_ok (u := fun K => .ref (He.ga K ("NothingToUndo" : Str))) (obs_fb p0 (f := fun K => isiB is_NothingToUndo (fun K => .ref (He.ga K ("NothingToUndo" : Str))) K) 51 rfl),
    mg_NothingToUndo := He.glo_ok X G (obs_fb p0 (f := fun K => (He.Fa.glo ("NothingToUndo" : Str)).ok K) 52 rfl),
    is_OtherTown := isiB_ok (u := fun K => .ref (He.ga K ("OtherTown" : Str))) (obs_fb p0 (f := fun K => isiB is_OtherTown (fun K => .ref (He.ga K ("OtherTown" : Str))) K) 53 rfl),
    mg_OtherTown := He.glo_ok X G (obs_fb p0 (f := fun K => (He.Fa.glo ("OtherTown" : Str)).ok K) 54 rfl),
    is_SignError := isiB_ok (u := fun K => .ref (He.ga K ("SignError" : Str))) (obs_fb p0 (f := fun K => isiB is_SignError (fun K => .ref (He.ga K ("SignError" : Str))) K) 55 rfl),
    mg_SignError := He.glo_ok X G (obs_fb p0 (f := fun K => (He.Fa.glo ("SignError" : Str)).ok K) 56 rfl),
    is_TooMany := isiB_ok (u := fun K => .ref (He.ga K ("TooMany" : Str))) (obs_fb p0 (f := fun K => isiB is_TooMany (fun K => .ref (He.ga K ("TooMany" : Str))) K) 57 rfl),
    mg_TooMany := He.glo_ok X G (obs_fb p0 (f := fun K => (He.Fa.glo ("TooMany" : Str)).ok K) 58 rfl),
    is_Torn := isiB_ok (u := fun K => .ref (He.ga K ("Torn" : Str))) (obs_fb p0 (f := fun K => isiB is_Torn (fun K => .ref (He.ga K ("Torn" : Str))) K) 59 rfl),
    mg_Torn := He.glo_ok X G (obs_fb p0 (f := fun K => (He.Fa.glo ("Torn" : Str)).ok K) 60 rfl),
    is_ValueError := isiB_ok (u := fun _ => .type "ValueError") (obs_fb p0 (f := fun K => isiB is_ValueError (fun _ => .type "ValueError") K) 61 rfl),
    cx := cx,
    er_BadClaim := er ("BadClaim" : Str) (obs_fb p0 (f := fun K => eokB ("BadClaim" : Str) "SignError" "SignError.__init__" prog.main.file K) 62 rfl) (He.glo_ok X G (obs_fb p0 (f := fun K => (He.Fa.glo ("BadClaim" : Str)).ok K) 63 rfl)),
    er_BadClaims := er ("BadClaims" : Str) (obs_fb p0 (f := fun K => eokB ("BadClaims" : Str) "SignError" "SignError.__init__" prog.main.file K) 64 rfl) (He.glo_ok X G (obs_fb p0 (f := fun K => (He.Fa.glo ("BadClaims" : Str)).ok K) 65 rfl)),
    er_BadDrive := er ("BadDrive" : Str) (obs_fb p0 (f := fun K => eokB ("BadDrive" : Str) "SignError" "SignError.__init__" prog.main.file K) 66 rfl) (He.glo_ok X G (obs_fb p0 (f := fun K => (He.Fa.glo ("BadDrive" : Str)).ok K) 67 rfl)),
    er_BadJournal := er ("BadJournal" : Str) (obs_fb p0 (f := fun K => eokB ("BadJournal" : Str) "SignError" "SignError.__init__" prog.main.file K) 68 rfl) (He.glo_ok X G (obs_fb p0 (f := fun K => (He.Fa.glo ("BadJournal" : Str)).ok K) 69 rfl)),
    er_BadLine := er ("BadLine" : Str) (obs_fb p0 (f := fun K => eokB ("BadLine" : Str) "SignError" "SignError.__init__" prog.main.file K) 70 rfl) (He.glo_ok X G (obs_fb p0 (f := fun K => (He.Fa.glo ("BadLine" : Str)).ok K) 71 rfl)),
    er_BadLot := er ("BadLot" : Str) (obs_fb p0 (f := fun K => eokB ("BadLot" : Str) "SignError" "SignError.__init__" prog.main.file K) 72 rfl) (He.glo_ok X G (obs_fb p0 (f := fun K => (He.Fa.glo ("BadLot" : Str)).ok K) 73 rfl)),
    er_BadNumber := er ("BadNumber" : Str) (obs_fb p0 (f := fun K => eokB ("BadNumber" : Str) "SignError" "SignError.__init__" prog.main.file K) 74 rfl) (He.glo_ok X G (obs_fb p0 (f := fun K => (He.Fa.glo ("BadNumber" : Str)).ok K) 75 rfl)),
    er_BadOffers := er ("BadOffers" : Str) (obs_fb p0 (f := fun K => eokB ("BadOffers" : Str) "SignError" "SignError.__init__" prog.main.file K) 76 rfl) (He.glo_ok X G (obs_fb p0 (f := fun K => (He.Fa.glo ("BadOffers" : Str)).ok K) 77 rfl)),
    er_BadSet := er ("BadSet" : Str) (obs_fb p0 (f := fun K => eokB ("BadSet" : Str) "SignError" "SignError.__init__" prog.main.file K) 78 rfl) (He.glo_ok X G (obs_fb p0 (f := fun K => (He.Fa.glo ("BadSet" : Str)).ok K) 79 rfl)),
    er_BadSigns := er ("BadSigns" : Str) (obs_fb p0 (f := fun K => eokB ("BadSigns" : Str) "SignError" "SignError.__init__" prog.main.file K) 80 rfl) (He.glo_ok X G (obs_fb p0 (f := fun K => (He.Fa.glo ("BadSigns" : Str)).ok K) 81 rfl)),
    er_BadTown := er ("BadTown" : Str) (obs_fb p0 (f := fun K => eokB ("BadTown" : Str) "SignError" "SignError.__init__" prog.main.file K) 82 rfl) (He.glo_ok X G (obs_fb p0 (f := fun K => (He.Fa.glo ("BadTown" : Str)).ok K) 83 rfl)),
    er_BadWishes := er ("BadWishes" : Str) (obs_fb p0 (f := fun K => eokB ("BadWishes" : Str) "SignError" "SignError.__init__" prog.main.file K) 84 rfl) (He.glo_ok X G (obs_fb p0 (f := fun K => (He.Fa.glo ("BadWishes" : Str)).ok K) 85 rfl)),
    er_Contrary := er ("Contrary" : Str) (obs_fb p0 (f := fun K => eokB ("Contrary" : Str) "SignError" "SignError.__init__" prog.main.file K) 86 rfl) (He.glo_ok X G (obs_fb p0 (f := fun K => (He.Fa.glo ("Contrary" : Str)).ok K) 87 rfl)),
    er_Few := er ("Few" : Str) (obs_fb p0 (f := fun K => eokB ("Few" : Str) "SignError" "SignError.__init__" prog.main.file K) 88 rfl) (He.glo_ok X G (obs_fb p0 (f := fun K => (He.Fa.glo ("Few" : Str)).ok K) 89 rfl)),
    er_Full := er ("Full" : Str) (obs_fb p0 (f := fun K => eokB ("Full" : Str) "SignError" "SignError.__init__" prog.main.file K) 90 rfl) (He.glo_ok X G (obs_fb p0 (f := fun K => (He.Fa.glo ("Full" : Str)).ok K) 91 rfl)),
    er_HasKnown := er ("HasKnown" : Str) (obs_fb p0 (f := fun K => eokB ("HasKnown" : Str) "SignError" "SignError.__init__" prog.main.file K) 92 rfl) (He.glo_ok X G (obs_fb p0 (f := fun K => (He.Fa.glo ("HasKnown" : Str)).ok K) 93 rfl)),
    er_NoMap := er ("NoMap" : Str) (obs_fb p0 (f := fun K => eokB ("NoMap" : Str) "SignError" "SignError.__init__" prog.main.file K) 94 rfl) (He.glo_ok X G (obs_fb p0 (f := fun K => (He.Fa.glo ("NoMap" : Str)).ok K) 95 rfl)),
    er_NoPlace := er ("NoPlace" : Str) (obs_fb p0 (f := fun K => eokB ("NoPlace" : Str) "SignError" "SignError.__init__" prog.main.file K) 96 rfl) (He.glo_ok X G (obs_fb p0 (f := fun K => (He.Fa.glo ("NoPlace" : Str)).ok K) 97 rfl)),
    er_NoStreet := er ("NoStreet" : Str) (obs_fb p0 (f := fun K => eokB ("NoStreet" : Str) "SignError" "SignError.__init__" prog.main.file K) 98 rfl) (He.glo_ok X G (obs_fb p0 (f := fun K => (He.Fa.glo ("NoStreet" : Str)).ok K) 99 rfl)),
    er_NoTrial := er ("NoTrial" : Str) (obs_fb p0 (f := fun K => eokB ("NoTrial" : Str) "SignError" "SignError.__init__" prog.main.file K) 100 rfl) (He.glo_ok X G (obs_fb p0 (f := fun K => (He.Fa.glo ("NoTrial" : Str)).ok K) 101 rfl)),
    er_NotKnown := er ("NotKnown" : Str) (obs_fb p0 (f := fun K => eokB ("NotKnown" : Str) "SignError" "SignError.__init__" prog.main.file K) 102 rfl) (He.glo_ok X G (obs_fb p0 (f := fun K => (He.Fa.glo ("NotKnown" : Str)).ok K) 103 rfl)),
    er_NotUnread := er ("NotUnread" : Str) (obs_fb p0 (f := fun K => eokB ("NotUnread" : Str) "SignError" "SignError.__init__" prog.main.file K) 104 rfl) (He.glo_ok X G (obs_fb p0 (f := fun K => (He.Fa.glo ("NotUnread" : Str)).ok K) 105 rfl)),
    er_NothingToRedo := er ("NothingToRedo" : Str) (obs_fb p0 (f := fun K => eokB ("NothingToRedo" : Str) "SignError" "SignError.__init__" prog.main.file K) 106 rfl) (He.glo_ok X G (obs_fb p0 (f := fun K => (He.Fa.glo ("NothingToRedo" : Str)).ok K) 107 rfl)),
    er_NothingToUndo := er ("NothingToUndo" : Str) (obs_fb p0 (f := fun K => eokB ("NothingToUndo" : Str) "SignError" "SignError.__init__" prog.main.file K) 108 rfl) (He.glo_ok X G (obs_fb p0 (f := fun K => (He.Fa.glo ("NothingToUndo" : Str)).ok K) 109 rfl)),
    er_OtherTown := er ("OtherTown" : Str) (obs_fb p0 (f := fun K => eokB ("OtherTown" : Str) "SignError" "SignError.__init__" prog.main.file K) 110 rfl) (He.glo_ok X G (obs_fb p0 (f := fun K => (He.Fa.glo ("OtherTown" : Str)).ok K) 111 rfl)),
    er_SignError := er ("SignError" : Str) (obs_fb p0 (f := fun K => eokB ("SignError" : Str) "SignError" "SignError.__init__" prog.main.file K) 112 rfl) (He.glo_ok X G (obs_fb p0 (f := fun K => (He.Fa.glo ("SignError" : Str)).ok K) 113 rfl)),
    er_TooMany := er ("TooMany" : Str) (obs_fb p0 (f := fun K => eokB ("TooMany" : Str) "SignError" "SignError.__init__" prog.main.file K) 114 rfl) (He.glo_ok X G (obs_fb p0 (f := fun K => (He.Fa.glo ("TooMany" : Str)).ok K) 115 rfl)),
    er_Torn := er ("Torn" : Str) (obs_fb p0 (f := fun K => eokB ("Torn" : Str) "SignError" "SignError.__init__" prog.main.file K) 116 rfl) (He.glo_ok X G (obs_fb p0 (f := fun K => (He.Fa.glo ("Torn" : Str)).ok K) 117 rfl)),
    xv := fun c hc => (Bool.and_eq_true_iff.mp (List.all_eq_true.mp (obs_fb p0 (f := fun K => c_errs.all fun c => xfB K (He.ga K c) && decide (PySem.W.findIn K (.ref (He.ga K c)) "value" = some none)) 118 rfl) c hc)).imp xfB_ok of_decide_eq_true,
    isx_BadClaim := fun c hc => (Bool.and_eq_true_iff.mp (List.all_eq_true.mp (obs_fb p0 (f := fun K => isx_BadClaim.all fun p => xcB K (He.ga K p.1) && decide (PySem.W.kitOne K (.ref (He.ga K p.1)) (.ref (He.ga K ("BadClaim" : Str))) = some p.2)) 119 rfl) c hc)).imp xcB_ok of_decide_eq_true,
    isx_BadClaims := fun c hc => (Bool.and_eq_true_iff.mp (List.all_eq_true.mp (obs_fb p0 (f := fun K => isx_BadClaims.all fun p => xcB K (He.ga K p.1) && decide (PySem.W.kitOne K (.ref (He.ga K p.1)) (.ref (He.ga K ("BadClaims" : Str))) = some p.2)) 120 rfl) c hc)).imp xcB_ok of_decide_eq_true,
    isx_BadDrive := fun c hc => (Bool.and_eq_true_iff.mp (List.all_eq_true.mp (obs_fb p0 (f := fun K => isx_BadDrive.all fun p => xcB K (He.ga K p.1) && decide (PySem.W.kitOne K (.ref (He.ga K p.1)) (.ref (He.ga K ("BadDrive" : Str))) = some p.2)) 121 rfl) c hc)).imp xcB_ok of_decide_eq_true,
    isx_BadJournal := fun c hc => (Bool.and_eq_true_iff.mp (List.all_eq_true.mp (obs_fb p0 (f := fun K => isx_BadJournal.all fun p => xcB K (He.ga K p.1) && decide (PySem.W.kitOne K (.ref (He.ga K p.1)) (.ref (He.ga K ("BadJournal" : Str))) = some p.2)) 122 rfl) c hc)).imp xcB_ok of_decide_eq_true,
    isx_BadLine := fun c hc => (Bool.and_eq_true_iff.mp (List.all_eq_true.mp (obs_fb p0 (f := fun K => isx_BadLine.all fun p => xcB K (He.ga K p.1) && decide (PySem.W.kitOne K (.ref (He.ga K p.1)) (.ref (He.ga K ("BadLine" : Str))) = some p.2)) 123 rfl) c hc)).imp xcB_ok of_decide_eq_true,
    isx_BadLot := fun c hc => (Bool.and_eq_true_iff.mp (List.all_eq_true.mp (obs_fb p0 (f := fun K => isx_BadLot.all fun p => xcB K (He.ga K p.1) && decide (PySem.W.kitOne K (.ref (He.ga K p.1)) (.ref (He.ga K ("BadLot" : Str))) = some p.2)) 124 rfl) c hc)).imp xcB_ok of_decide_eq_true,
    isx_BadNumber := fun c hc => (Bool.and_eq_true_iff.mp (List.all_eq_true.mp (obs_fb p0 (f := fun K => isx_BadNumber.all fun p => xcB K (He.ga K p.1) && decide (PySem.W.kitOne K (.ref (He.ga K p.1)) (.ref (He.ga K ("BadNumber" : Str))) = some p.2)) 125 rfl) c hc)).imp xcB_ok of_decide_eq_true,
    isx_BadOffers := fun c hc => (Bool.and_eq_true_iff.mp (List.all_eq_true.mp (obs_fb p0 (f := fun K => isx_BadOffers.all fun p => xcB K (He.ga K p.1) && decide (PySem.W.kitOne K (.ref (He.ga K p.1)) (.ref (He.ga K ("BadOffers" : Str))) = some p.2)) 126 rfl) c hc)).imp xcB_ok of_decide_eq_true,
    isx_BadSet := fun c hc => (Bool.and_eq_true_iff.mp (List.all_eq_true.mp (obs_fb p0 (f := fun K => isx_BadSet.all fun p => xcB K (He.ga K p.1) && decide (PySem.W.kitOne K (.ref (He.ga K p.1)) (.ref (He.ga K ("BadSet" : Str))) = some p.2)) 127 rfl) c hc)).imp xcB_ok of_decide_eq_true,
    isx_BadSigns := fun c hc => (Bool.and_eq_true_iff.mp (List.all_eq_true.mp (obs_fb p0 (f := fun K => isx_BadSigns.all fun p => xcB K (He.ga K p.1) && decide (PySem.W.kitOne K (.ref (He.ga K p.1)) (.ref (He.ga K ("BadSigns" : Str))) = some p.2)) 128 rfl) c hc)).imp xcB_ok of_decide_eq_true,
    isx_BadTown := fun c hc => (Bool.and_eq_true_iff.mp (List.all_eq_true.mp (obs_fb p0 (f := fun K => isx_BadTown.all fun p => xcB K (He.ga K p.1) && decide (PySem.W.kitOne K (.ref (He.ga K p.1)) (.ref (He.ga K ("BadTown" : Str))) = some p.2)) 129 rfl) c hc)).imp xcB_ok of_decide_eq_true,
    isx_BadWishes := fun c hc => (Bool.and_eq_true_iff.mp (List.all_eq_true.mp (obs_fb p0 (f := fun K => isx_BadWishes.all fun p => xcB K (He.ga K p.1) && decide (PySem.W.kitOne K (.ref (He.ga K p.1)) (.ref (He.ga K ("BadWishes" : Str))) = some p.2)) 130 rfl) c hc)).imp xcB_ok of_decide_eq_true,
    isx_Contrary := fun c hc => (Bool.and_eq_true_iff.mp (List.all_eq_true.mp (obs_fb p0 (f := fun K => isx_Contrary.all fun p => xcB K (He.ga K p.1) && decide (PySem.W.kitOne K (.ref (He.ga K p.1)) (.ref (He.ga K ("Contrary" : Str))) = some p.2)) 131 rfl) c hc)).imp xcB_ok of_decide_eq_true,
    isx_Few := fun c hc => (Bool.and_eq_true_iff.mp (List.all_eq_true.mp (obs_fb p0 (f := fun K => isx_Few.all fun p => xcB K (He.ga K p.1) && decide (PySem.W.kitOne K (.ref (He.ga K p.1)) (.ref (He.ga K ("Few" : Str))) = some p.2)) 132 rfl) c hc)).imp xcB_ok of_decide_eq_true,
    isx_Full := fun c hc => (Bool.and_eq_true_iff.mp (List.all_eq_true.mp (obs_fb p0 (f := fun K => isx_Full.all fun p => xcB K (He.ga K p.1) && decide (PySem.W.kitOne K (.ref (He.ga K p.1)) (.ref (He.ga K ("Full" : Str))) = some p.2)) 133 rfl) c hc)).imp xcB_ok of_decide_eq_true,
    isx_HasKnown := fun c hc => (Bool.and_eq_true_iff.mp (List.all_eq_true.mp (obs_fb p0 (f := fun K => isx_HasKnown.all fun p => xcB K (He.ga K p.1) && decide (PySem.W.kitOne K (.ref (He.ga K p.1)) (.ref (He.ga K ("HasKnown" : Str))) = some p.2)) 134 rfl) c hc)).imp xcB_ok of_decide_eq_true,
    isx_NoMap := fun c hc => (Bool.and_eq_true_iff.mp (List.all_eq_true.mp (obs_fb p0 (f := fun K => isx_NoMap.all fun p => xcB K (He.ga K p.1) && decide (PySem.W.kitOne K (.ref (He.ga K p.1)) (.ref (He.ga K ("NoMap" : Str))) = some p.2)) 135 rfl) c hc)).imp xcB_ok of_decide_eq_true,
    isx_NoPlace := fun c hc => (Bool.and_eq_true_iff.mp (List.all_eq_true.mp (obs_fb p0 (f := fun K => isx_NoPlace.all fun p => xcB K (He.ga K p.1) && decide (PySem.W.kitOne K (.ref (He.ga K p.1)) (.ref (He.ga K ("NoPlace" : Str))) = some p.2)) 136 rfl) c hc)).imp xcB_ok of_decide_eq_true,
    isx_NoStreet := fun c hc => (Bool.and_eq_true_iff.mp (List.all_eq_true.mp (obs_fb p0 (f := fun K => isx_NoStreet.all fun p => xcB K (He.ga K p.1) && decide (PySem.W.kitOne K (.ref (He.ga K p.1)) (.ref (He.ga K ("NoStreet" : Str))) = some p.2)) 137 rfl) c hc)).imp xcB_ok of_decide_eq_true,
    isx_NoTrial := fun c hc => (Bool.and_eq_true_iff.mp (List.all_eq_true.mp (obs_fb p0 (f := fun K => isx_NoTrial.all fun p => xcB K (He.ga K p.1) && decide (PySem.W.kitOne K (.ref (He.ga K p.1)) (.ref (He.ga K ("NoTrial" : Str))) = some p.2)) 138 rfl) c hc)).imp xcB_ok of_decide_eq_true,
    isx_NotKnown := fun c hc => (Bool.and_eq_true_iff.mp (List.all_eq_true.mp (obs_fb p0 (f := fun K => isx_NotKnown.all fun p => xcB K (He.ga K p.1) && decide (PySem.W.kitOne K (.ref (He.ga K p.1)) (.ref (He.ga K ("NotKnown" : Str))) = some p.2)) 139 rfl) c hc)).imp xcB_ok of_decide_eq_true,
    isx_NotUnread := fun c hc => (Bool.and_eq_true_iff.mp (List.all_eq_true.mp (obs_fb p0 (f := fun K => isx_NotUnread.all fun p => xcB K (He.ga K p.1) && decide (PySem.W.kitOne K (.ref (He.ga K p.1)) (.ref (He.ga K ("NotUnread" : Str))) = some p.2)) 140 rfl) c hc)).imp xcB_ok of_decide_eq_true,
    isx_NothingToRedo := fun c hc => (Bool.and_eq_true_iff.mp (List.all_eq_true.mp (obs_fb p0 (f := fun K => isx_NothingToRedo.all fun p => xcB K (He.ga K p.1) && decide (PySem.W.kitOne K (.ref (He.ga K p.1)) (.ref (He.ga K ("NothingToRedo" : Str))) = some p.2)) 141 rfl) c hc)).imp xcB_ok of_decide_eq_true,
    isx_NothingToUndo := fun c hc => (Bool.and_eq_true_iff.mp (List.all_eq_true.mp (obs_fb p0 (f := fun K => isx_NothingToUndo.all fun p => xcB K (He.ga K p.1) && decide (PySem.W.kitOne K (.ref (He.ga K p.1)) (.ref (He.ga K ("NothingToUndo" : Str))) = some p.2)) 142 rfl) c hc)).imp xcB_ok of_decide_eq_true,
    isx_OtherTown := fun c hc => (Bool.and_eq_true_iff.mp (List.all_eq_true.mp (obs_fb p0 (f := fun K => isx_OtherTown.all fun p => xcB K (He.ga K p.1) && decide (PySem.W.kitOne K (.ref (He.ga K p.1)) (.ref (He.ga K ("OtherTown" : Str))) = some p.2)) 143 rfl) c hc)).imp xcB_ok of_decide_eq_true,
    isx_SignError := fun c hc => (Bool.and_eq_true_iff.mp (List.all_eq_true.mp (obs_fb p0 (f := fun K => isx_SignError.all fun p => xcB K (He.ga K p.1) && decide (PySem.W.kitOne K (.ref (He.ga K p.1)) (.ref (He.ga K ("SignError" : Str))) = some p.2)) 144 rfl) c hc)).imp xcB_ok of_decide_eq_true,
    isx_TooMany := fun c hc => (Bool.and_eq_true_iff.mp (List.all_eq_true.mp (obs_fb p0 (f := fun K => isx_TooMany.all fun p => xcB K (He.ga K p.1) && decide (PySem.W.kitOne K (.ref (He.ga K p.1)) (.ref (He.ga K ("TooMany" : Str))) = some p.2)) 145 rfl) c hc)).imp xcB_ok of_decide_eq_true,
    isx_Torn := fun c hc => (Bool.and_eq_true_iff.mp (List.all_eq_true.mp (obs_fb p0 (f := fun K => isx_Torn.all fun p => xcB K (He.ga K p.1) && decide (PySem.W.kitOne K (.ref (He.ga K p.1)) (.ref (He.ga K ("Torn" : Str))) = some p.2)) 146 rfl) c hc)).imp xcB_ok of_decide_eq_true,
    isx_ValueError := fun c hc => (Bool.and_eq_true_iff.mp (List.all_eq_true.mp (obs_fb p0 (f := fun K => isx_ValueError.all fun p => xcB K (He.ga K p.1) && decide (PySem.W.kitOne K (.ref (He.ga K p.1)) (.type "ValueError") = some p.2)) 147 rfl) c hc)).imp xcB_ok of_decide_eq_true,
    fn_f_law_take := ⟨He.ga W.K ("_law_take" : Str), (fnAt_of (at_ := fun K => He.ga K ("_law_take" : Str)) (obs_fn p0 (d := fnD (fun K => He.ga K ("_law_take" : Str)) ("_law_take" : Str) ("_law_take" : Str) (st 31)) 0 rfl) (obs_fb p0 (f := fun K => (fnD (fun K => He.ga K ("_law_take" : Str)) ("_law_take" : Str) ("_law_take" : Str) (st 31)).ok K) 157 rfl)), He.glo_ok X G (obs_fb p0 (f := fun K => (He.Fa.glo ("_law_take" : Str)).ok K) 148 rfl)⟩,
    fn_f_law_of := ⟨He.ga W.K ("_law_of" : Str), (fnAt_of (at_ := fun K => He.ga K ("_law_of" : Str)) (obs_fn p0 (d := fnD (fun K => He.ga K ("_law_of" : Str)) ("_law_of" : Str) ("_law_of" : Str) (st 32)) 1 rfl) (obs_fb p0 (f := fun K => (fnD (fun K => He.ga K ("_law_of" : Str)) ("_law_of" : Str) ("_law_of" : Str) (st 32)).ok K) 158 rfl)), He.glo_ok X G (obs_fb p0 (f := fun K => (He.Fa.glo ("_law_of" : Str)).ok K) 149 rfl)⟩,
    fn_f_law_made := ⟨He.ga W.K ("_law_made" : Str), (fnAt_of (at_ := fun K => He.ga K ("_law_made" : Str)) (obs_fn p0 (d := fnD (fun K => He.ga K ("_law_made" : Str)) ("_law_made" : Str) ("_law_made" : Str) (st 35)) 2 rfl) (obs_fb p0 (f := fun K => (fnD (fun K => He.ga K ("_law_made" : Str)) ("_law_made" : Str) ("_law_made" : Str) (st 35)).ok K) 159 rfl)), He.glo_ok X G (obs_fb p0 (f := fun K => (He.Fa.glo ("_law_made" : Str)).ok K) 150 rfl)⟩,
    fn_f_law_odd := ⟨He.ga W.K ("_law_odd" : Str), (fnAt_of (at_ := fun K => He.ga K ("_law_odd" : Str)) (obs_fn p0 (d := fnD (fun K => He.ga K ("_law_odd" : Str)) ("_law_odd" : Str) ("_law_odd" : Str) (st 34)) 3 rfl) (obs_fb p0 (f := fun K => (fnD (fun K => He.ga K ("_law_odd" : Str)) ("_law_odd" : Str) ("_law_odd" : Str) (st 34)).ok K) 160 rfl)), He.glo_ok X G (obs_fb p0 (f := fun K => (He.Fa.glo ("_law_odd" : Str)).ok K) 151 rfl)⟩,
    fn_f_law_marks := ⟨He.ga W.K ("_law_marks" : Str), (fnAt_of (at_ := fun K => He.ga K ("_law_marks" : Str)) (obs_fn p0 (d := fnD (fun K => He.ga K ("_law_marks" : Str)) ("_law_marks" : Str) ("_law_marks" : Str) (st 36)) 4 rfl) (obs_fb p0 (f := fun K => (fnD (fun K => He.ga K ("_law_marks" : Str)) ("_law_marks" : Str) ("_law_marks" : Str) (st 36)).ok K) 161 rfl)), He.glo_ok X G (obs_fb p0 (f := fun K => (He.Fa.glo ("_law_marks" : Str)).ok K) 152 rfl)⟩,
    fn_f_law_right := ⟨He.ga W.K ("_law_right" : Str), (fnAt_of (at_ := fun K => He.ga K ("_law_right" : Str)) (obs_fn p0 (d := fnD (fun K => He.ga K ("_law_right" : Str)) ("_law_right" : Str) ("_law_right" : Str) (st 37)) 5 rfl) (obs_fb p0 (f := fun K => (fnD (fun K => He.ga K ("_law_right" : Str)) ("_law_right" : Str) ("_law_right" : Str) (st 37)).ok K) 162 rfl)), He.glo_ok X G (obs_fb p0 (f := fun K => (He.Fa.glo ("_law_right" : Str)).ok K) 153 rfl)⟩,
    fn_f_law_pot := ⟨He.ga W.K ("_law_pot" : Str), (fnAt_of (at_ := fun K => He.ga K ("_law_pot" : Str)) (obs_fn p0 (d := fnD (fun K => He.ga K ("_law_pot" : Str)) ("_law_pot" : Str) ("_law_pot" : Str) (st 30)) 6 rfl) (obs_fb p0 (f := fun K => (fnD (fun K => He.ga K ("_law_pot" : Str)) ("_law_pot" : Str) ("_law_pot" : Str) (st 30)).ok K) 163 rfl)), He.glo_ok X G (obs_fb p0 (f := fun K => (He.Fa.glo ("_law_pot" : Str)).ok K) 154 rfl)⟩,
    fn_f_law_cells := ⟨He.ga W.K ("_law_cells" : Str), (fnAt_of (at_ := fun K => He.ga K ("_law_cells" : Str)) (obs_fn p0 (d := fnD (fun K => He.ga K ("_law_cells" : Str)) ("_law_cells" : Str) ("_law_cells" : Str) (st 33)) 7 rfl) (obs_fb p0 (f := fun K => (fnD (fun K => He.ga K ("_law_cells" : Str)) ("_law_cells" : Str) ("_law_cells" : Str) (st 33)).ok K) 164 rfl)), He.glo_ok X G (obs_fb p0 (f := fun K => (He.Fa.glo ("_law_cells" : Str)).ok K) 155 rfl)⟩,
    fn_f_law := ⟨He.ga W.K ("law" : Str), (fnAt_of (at_ := fun K => He.ga K ("law" : Str)) (obs_fn p0 (d := fnD (fun K => He.ga K ("law" : Str)) ("law" : Str) ("law" : Str) (st 38)) 8 rfl) (obs_fb p0 (f := fun K => (fnD (fun K => He.ga K ("law" : Str)) ("law" : Str) ("law" : Str) (st 38)).ok K) 165 rfl)), He.glo_ok X G (obs_fb p0 (f := fun K => (He.Fa.glo ("law" : Str)).ok K) 156 rfl)⟩ }
theorem both (w : World) : BotEq R vw 80000 names tls dcs as gr0 w := fun os => by kernel_rfl
theorem base (w : World) : BasEqG R vw 80000 names tls dcs w := (both w).bas
theorem par0 (w : World) : ParEq R 80000 as w gr0 := (both w).par
theorem holds (hs : ∀ ns : List Int, ns.length ≤ 63 → ∃ o, F_f_law.sem [.lst (ns.map .int)] = .ok (.bl true, o)) : PySem.Challenge.rw_signsunread_k00_errors_keep_their_values.Holds := by
  w_on; o_law
  refine HandSHeadRun.head_any (r := R) (q := vw) (H := hookG tls dcs as grs) (ob := obG tls dcs as grs) (M := 80000) (loose := names) (d := HandSHeadRun.topDef R.prog 38) (kwd := []) (obG_eq tls dcs as grs)
    (by kernel_rfl) (fun s => by kernel_rfl) (fun w => runEq_ofG (base w) (List.forall_mem_cons.2 ⟨par0 w, fun _ h => (nomatch h)⟩)) (by kernel_rfl) (by kernel_rfl) (by kernel_rfl) (by rfl) (by first | assumption | decide +kernel) (by decide +kernel) ⟨rfl, rfl, rfl, rfl, rfl, by decide +kernel⟩ ?hw ?hc
  case hw => w_witness2
  case hc =>
    refine walkXG (cs := tabs) (ds := dcs) (l := PySem.Challenge.rw_signsunread_k00_errors_keep_their_values) (n := 63) (k := 9) (F := F_f_law) rfl (by decide) (by kernel_rfl) ⟨rfl, by decide, by decide⟩ (by decide) (by decide) (by decide) ?C rfl rfl hs
    intro w mg h Y G
    obtain ⟨⟨K, KX, c⟩, tP, dP⟩ := Y
    have e : (HandSHeadRun.topDef R.prog 38).name = ("law" : PySem.Str) := by kernel_rfl
    rw [e]
    have p0 := says_at c (i := 0) (p := gr0) rfl
    have tst : ∀ p ∈ tabs, (K.lookup p.2).isNone = true ∧ PySem.W.codeHdIn K p.1 p.2 = true := fun p hp => Bool.and_eq_true_iff.mp (List.all_eq_true.mp (obs_fb p0 (f := fun K => tabs.all fun p => (K.lookup p.2).isNone && PySem.W.codeHdIn K p.1 p.2) 1 rfl) p hp)
    have dst : ∀ p ∈ dcs, (K.lookup p.1).isNone = true := fun p hp => List.all_eq_true.mp (obs_fb p0 (f := fun K => dcs.all fun p => (K.lookup p.1).isNone) 2 rfl) p hp
    exact ⟨K, KX, obs_fb p0 (f := nolB) 0 rfl, fun p hp => tP p.2 (show p.2 ∈ tabs.map fun p : Addr × Addr => p.2 from List.mem_map.mpr ⟨p, hp, rfl⟩), fun p hp => Option.isNone_iff_eq_none.mp (tst p hp).1, fun p hp => (tst p hp).2, dP, fun p hp => Option.isNone_iff_eq_none.mp (dst p hp), fun base' X' G' T' => k_f_law (W := ⟨_, w, K, mg, base', L2.CX _ w, gsOf h dcs⟩) (wokG dP) (facts_of X' G' rfl rfl T' (dicG_of dP) c)⟩
end K00
theorem PySem.Challenge.cw_signsunread_k00_errors_keep_their_values_holds : PySem.Challenge.rw_signsunread_k00_errors_keep_their_values.Holds := by
  refine K00.holds fun ns _ => ?_
  obtain ⟨⟨z, o⟩, e, h⟩ := K00.law_sem ns
  exact ⟨o, by rw [e]; exact congrArg (fun z => Dx.R.ok (z, o)) h⟩
