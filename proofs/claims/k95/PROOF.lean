import PyProof.Rows.All
import Wide.All
import OpenK.AllK
import Wide.FinOn
import KE.KStateDown
import HandS.ForMost
import HandS.ForExc
import HandS.Defaults
import HandS.Conv
import HandS.Wide
import HandS.More
import HandS.Flow
import HandS.IsInst
import HandS.HeadHook1
import HandS.TupAny
import PyProof.NeKinds
import PyProof.NeData
import PyProof.ReprReads
import PyProof.ReprRoads
import PyProof.CallFns
import HandS.TryOnly
import HandS.Walk
import HandS.Small
import HandS.Zip
import HandS.Codes
import HandS.Style
import HandS.Property
import HandS.Text
import KE.GoesEnum
import HandS.Strs
import HandS.Star
import HandS.ListItems
import HandS.DictComp
import KE.GoesZip
import KE.GoesMore
import KE.KDictZip
import HandS.GenList
import HandS.List
import PyProof.ListStr
import HandS.Head0
import HandS.Head1
import HandS.Head2
import HandS.HeadEnd
import HandS.HeadHook2
import HandS.HeadNt
import Wide.Once
import PySem.Challenge.RW_signsunread_k95_whole_what_is_wrong_in_g
set_option Elab.async false
set_option linter.all false
set_option maxRecDepth 100000
set_option maxHeartbeats 1000000
/-! Dx: values as plain data; the readings of the hand layer over plain data. -/
namespace Dx
open PySem PySem.Spec PyProof.Rows L2

/-- plain data -/
inductive D where
  | non | bl (b : Bool) | int (i : Int) | str (x : Str)
  | tup (l : List D) | lst (l : List D) | dic (l : List (Str × D))
  | ins (c : Str) (fs : List (Str × D)) | exn (c : Str) (d : D)

/-- a slot: unset; shared data; a container of this def's own; a borrowed one; one that the caller lent to be changed -/
inductive Sl where
  | un | sh (d : D) | ow (d : D) | br (d : D) | mt (d : D)

/-- what comes of a piece of code -/
inductive R (α : Type) where
  | ok (a : α) | exc (c : Str) (d : D) | bad

def R.bind {α β : Type} (r : R α) (k : α → R β) : R β := match r with
  | .ok a => k a
  | .exc c d => .exc c d
  | .bad => .bad
instance : Monad R where
  pure := R.ok
  bind := R.bind
@[simp] theorem R.bind_ok {α β : Type} (a : α) (k : α → R β) : (R.ok a).bind k = k a := rfl
@[simp] theorem R.bind_exc {α β : Type} (c : Str) (d : D) (k : α → R β) : (R.exc c d : R α).bind k = .exc c d := rfl
@[simp] theorem R.bind_bad {α β : Type} (k : α → R β) : (R.bad : R α).bind k = .bad := rfl
theorem R.bind_assoc {α β γ : Type} (r : R α) (k : α → R β) (l : β → R γ) : (r.bind k).bind l = r.bind fun a => (k a).bind l := by cases r <;> rfl

abbrev Frag := PySem.W.Frag
def keyP (p : Str × V) : Key × V := (Sum.inr p.1, p.2)
/-- a list that no one writes any more -/
def SqF (_K : Frag) (H : Hp) (a : Addr) (xs : List V) : Prop := ∃ o, H a = some (.frz o (.lst xs))
theorem SqF.l {K : Frag} {H : Hp} {a : Addr} {xs : List V} (h : SqF K H a xs) : SqL K H a xs := .inl (.inr h)
theorem SqF.rd {K : Frag} {H : Hp} {a : Addr} {xs : List V} (h : SqF K H a xs) : Rd H a (.lst xs) := .inr h
/-- a tuple as it is read -/
def SqU (K : Frag) (H : Hp) (a : Addr) (xs : List V) : Prop :=
  H a = some (.tup xs) ∨
    ∃ (o : Obj) (its : Array Value) (n : Nat), K.lookup a = some o ∧ o.cls = .type "tuple" ∧ o.data = .seq its n ∧ its.size ≤ sizeLine ∧ Vals xs its.toList
theorem SqU.t {K : Frag} {H : Hp} {a : Addr} {xs : List V} (h : SqU K H a xs) : SqT K H a xs := by
  rcases h with h | h
  · exact .inl (.inl h)
  · exact .inr h

/-- an exception object of the class at C whose own dict is at dx -/
def XOb (C : Value) (dx : Addr) (a : Addr) : HO := .ext fun h => ∃ (oe : Obj) (vs : Array Value), h.get? a = some oe ∧ oe.cls = C ∧ oe.dict = some dx ∧ oe.data = .fields vs

mutual
/-- the value stands for the data. Fz: the instances that are whole -/
inductive Den (K : Frag) (Fz : Addr → Prop) (H : Hp) : V → D → Prop where
  | non : Den K Fz H .non .non
  | bl (b : Bool) : Den K Fz H (.bl b) (.bl b)
  | int (i : Int) : Den K Fz H (.int i) (.int i)
  | str (x : Str) : Den K Fz H (.str x) (.str x)
  | tup {a : Addr} {vs : List V} {ds : List D} : SqU K H a vs → DenL K Fz H vs ds → Den K Fz H (.ref a) (.tup ds)
  | lst {a : Addr} {vs : List V} {ds : List D} : SqF K H a vs → DenL K Fz H vs ds → Den K Fz H (.ref a) (.lst ds)
  | dic {a : Addr} {o : Obj} {kvs : List (Str × V)} {ds : List (Str × D)} : H a = some (.frz o (.dK (kvs.map keyP))) → DenF K Fz H kvs ds → Den K Fz H (.ref a) (.dic ds)
  | ins {a dx : Addr} {c : Str} {fs : List (Str × V)} {ds : List (Str × D)} : Fz a → H a = some (.ins (He.ga K c) dx fs) → DenF K Fz H fs ds → Den K Fz H (.ref a) (.ins c ds)
  | exn {a dx : Addr} {c : Str} {v : V} {d : D} : H a = some (XOb (.ref (He.ga K c)) dx a) → H dx = some (.xd [("value", v)]) → Den K Fz H v d → Den K Fz H (.ref a) (.exn c d)
inductive DenL (K : Frag) (Fz : Addr → Prop) (H : Hp) : List V → List D → Prop where
  | nil : DenL K Fz H [] []
  | cons {v : V} {d : D} {vs : List V} {ds : List D} : Den K Fz H v d → DenL K Fz H vs ds → DenL K Fz H (v :: vs) (d :: ds)
inductive DenF (K : Frag) (Fz : Addr → Prop) (H : Hp) : List (Str × V) → List (Str × D) → Prop where
  | nil : DenF K Fz H [] []
  | cons {k : Str} {v : V} {d : D} {vs : List (Str × V)} {ds : List (Str × D)} : Den K Fz H v d → DenF K Fz H vs ds → DenF K Fz H ((k, v) :: vs) ((k, d) :: ds)
end

/-- what is never written -/
def Imm : HO → Prop
  | .tup _ => True
  | .frz _ _ => True
  | .xd _ => True
  | .ext _ => True
  | .tbl _ => True
  | _ => False

/-- from (Fz, H) to (Fz', H'): data stays -/
structure Ge (Fz : Addr → Prop) (H : Hp) (Fz' : Addr → Prop) (H' : Hp) : Prop where
  imm : ∀ a o, Imm o → H a = some o → H' a = some o
  fz : ∀ a, Fz a → Fz' a
  fzk : ∀ a, Fz a → H' a = H a
theorem Ge.refl {Fz : Addr → Prop} {H : Hp} : Ge Fz H Fz H := ⟨fun _ _ _ h => h, fun _ h => h, fun _ _ => rfl⟩
theorem Ge.trans {F1 F2 F3 : Addr → Prop} {H1 H2 H3 : Hp} (a : Ge F1 H1 F2 H2) (b : Ge F2 H2 F3 H3) : Ge F1 H1 F3 H3 :=
  ⟨fun x o i h => b.imm x o i (a.imm x o i h), fun x h => b.fz x (a.fz x h), fun x h => (b.fzk x (a.fz x h)).trans (a.fzk x h)⟩

section
variable {K : Frag} {Fz Fz' : Addr → Prop} {H H' : Hp}
theorem SqU.mono (g : Ge Fz H Fz' H') {a : Addr} {xs : List V} (h : SqU K H a xs) : SqU K H' a xs := by
  rcases h with h | h
  · exact .inl (g.imm a _ (by exact trivial) h)
  · exact .inr h
theorem SqF.mono (g : Ge Fz H Fz' H') {a : Addr} {xs : List V} (h : SqF K H a xs) : SqF K H' a xs :=
  let ⟨o, h⟩ := h; ⟨o, g.imm a _ (by exact trivial) h⟩
mutual
theorem Den.mono (g : Ge Fz H Fz' H') : ∀ {v : V} {d : D}, Den K Fz H v d → Den K Fz' H' v d
  | _, _, .non => .non
  | _, _, .bl b => .bl b
  | _, _, .int i => .int i
  | _, _, .str x => .str x
  | _, _, .tup h l => .tup (h.mono g) (l.mono g)
  | _, _, .lst h l => .lst (h.mono g) (l.mono g)
  | _, _, .dic h l => .dic (g.imm _ _ (by exact trivial) h) (l.mono g)
  | _, _, .ins z h l => .ins (g.fz _ z) ((g.fzk _ z).trans h) (l.mono g)
  | _, _, .exn h h2 l => .exn (g.imm _ _ (by exact trivial) h) (g.imm _ _ (by exact trivial) h2) (l.mono g)
theorem DenL.mono (g : Ge Fz H Fz' H') : ∀ {v : List V} {d : List D}, DenL K Fz H v d → DenL K Fz' H' v d
  | _, _, .nil => .nil
  | _, _, .cons h l => .cons (h.mono g) (l.mono g)
theorem DenF.mono (g : Ge Fz H Fz' H') : ∀ {v : List (Str × V)} {d : List (Str × D)}, DenF K Fz H v d → DenF K Fz' H' v d
  | _, _, .nil => .nil
  | _, _, .cons h l => .cons (h.mono g) (l.mono g)
end
theorem DenL.length : ∀ {v : List V} {d : List D}, DenL K Fz H v d → v.length = d.length
  | _, _, .nil => rfl
  | _, _, .cons _ l => congrArg Nat.succ l.length
theorem DenF.length : ∀ {v : List (Str × V)} {d : List (Str × D)}, DenF K Fz H v d → v.length = d.length
  | _, _, .nil => rfl
  | _, _, .cons _ l => congrArg Nat.succ l.length
theorem DenL.get : ∀ {v : List V} {d : List D} {i : Nat} {x : D}, DenL K Fz H v d → d[i]? = some x → ∃ u, v[i]? = some u ∧ Den K Fz H u x
  | _, _, _, _, .nil, e => by simp at e
  | _, _, 0, _, .cons h _, e => by simp at e; subst e; exact ⟨_, rfl, h⟩
  | _, _, i + 1, x, .cons _ l, e => by
    obtain ⟨u, h1, h2⟩ := DenL.get (i := i) (x := x) l (by simpa using e)
    exact ⟨u, by simpa using h1, h2⟩
theorem DenL.getV {v : List V} {d : List D} {i : Nat} {u : V} (h : DenL K Fz H v d) (e : v[i]? = some u) : ∃ x, d[i]? = some x ∧ Den K Fz H u x := by
  have hi : i < d.length := by rw [← h.length]; exact (List.getElem?_eq_some_iff.mp e).1
  obtain ⟨u', e1, h1⟩ := h.get (List.getElem?_eq_getElem hi)
  rw [e] at e1; cases e1
  exact ⟨_, List.getElem?_eq_getElem hi, h1⟩
theorem DenL.append : ∀ {v v2 : List V} {d d2 : List D}, DenL K Fz H v d → DenL K Fz H v2 d2 → DenL K Fz H (v ++ v2) (d ++ d2)
  | _, _, _, _, .nil, h => h
  | _, _, _, _, .cons a l, h => .cons a (l.append h)
theorem DenL.take : ∀ {v : List V} {d : List D} (n : Nat), DenL K Fz H v d → DenL K Fz H (v.take n) (d.take n)
  | _, _, 0, _ => .nil
  | _, _, _ + 1, .nil => .nil
  | _, _, n + 1, .cons a l => .cons a (l.take n)
theorem DenL.drop : ∀ {v : List V} {d : List D} (n : Nat), DenL K Fz H v d → DenL K Fz H (v.drop n) (d.drop n)
  | _, _, 0, h => h
  | _, _, _ + 1, .nil => .nil
  | _, _, n + 1, .cons _ l => l.drop n
theorem DenL.set {x : V} {y : D} (h : Den K Fz H x y) : ∀ {v : List V} {d : List D} (n : Nat), DenL K Fz H v d → DenL K Fz H (v.set n x) (d.set n y)
  | _, _, _, .nil => .nil
  | _, _, 0, .cons _ l => .cons h l
  | _, _, n + 1, .cons a l => .cons a (DenL.set h n l)
theorem DenL.eraseIdx : ∀ {v : List V} {d : List D} (n : Nat), DenL K Fz H v d → DenL K Fz H (v.eraseIdx n) (d.eraseIdx n)
  | _, _, _, .nil => .nil
  | _, _, 0, .cons _ l => l
  | _, _, n + 1, .cons a l => .cons a (DenL.eraseIdx n l)
theorem DenL.reverse {v : List V} {d : List D} (h : DenL K Fz H v d) : DenL K Fz H v.reverse d.reverse := by
  have gen : ∀ {v : List V} {d : List D}, DenL K Fz H v d → ∀ {v2 : List V} {d2 : List D}, DenL K Fz H v2 d2 → DenL K Fz H (v.reverseAux v2) (d.reverseAux d2) := by
    intro v d h
    induction v generalizing d with
    | nil => cases h; intro v2 d2 h2; exact h2
    | cons x r ih =>
      cases h with
      | cons a l => intro v2 d2 h2; exact ih l (.cons a h2)
  exact gen h .nil
theorem DenF.lookup : ∀ {v : List (Str × V)} {d : List (Str × D)} {k : Str} {x : D}, DenF K Fz H v d → d.lookup k = some x → ∃ u, v.lookup k = some u ∧ Den K Fz H u x
  | _, _, _, _, .nil, e => by cases e
  | _, _, k, x, .cons (k := k0) h l, e => by
    rw [List.lookup_cons] at e ⊢
    cases q : (k == k0) with
    | true => rw [q] at e; cases e; exact ⟨_, rfl, h⟩
    | false => rw [q] at e; exact DenF.lookup l e
theorem DenF.lookup_none : ∀ {v : List (Str × V)} {d : List (Str × D)} {k : Str}, DenF K Fz H v d → d.lookup k = none → v.lookup k = none
  | _, _, _, .nil, _ => rfl
  | _, _, k, .cons (k := k0) h l, e => by
    rw [List.lookup_cons] at e ⊢
    cases q : (k == k0) with
    | true => rw [q] at e; cases e
    | false => rw [q] at e; exact DenF.lookup_none l e
theorem DenF.keys : ∀ {v : List (Str × V)} {d : List (Str × D)}, DenF K Fz H v d → v.map (·.1) = d.map (·.1)
  | _, _, .nil => rfl
  | _, _, .cons _ l => congrArg (_ :: ·) l.keys
end

/-- what one activation of a def starts from: ex: the addresses of what it may change for its caller; mts: their slots -/
structure Bs where
  K : Frag
  ex : Addr → Prop
  Fz0 : Addr → Prop
  H0 : Hp
  mts : Nat → Addr → Prop
  bd : Addr → Prop

/-- from (Fz, H) to (Fz', H'): all stays but what is at ex -/
structure Ext (ex : Addr → Prop) (Fz : Addr → Prop) (H : Hp) (Fz' : Addr → Prop) (H' : Hp) : Prop where
  ge : Ge Fz H Fz' H'
  keep : ∀ a o, H a = some o → ¬ ex a → H' a = some o
  nofz : ∀ a, Fz' a → Fz a ∨ H a = none ∨ ex a
  there : ∀ a o, H a = some o → ∃ o', H' a = some o'
theorem Ext.refl {ex Fz : Addr → Prop} {H : Hp} : Ext ex Fz H Fz H := ⟨.refl, fun _ _ h _ => h, fun _ h => .inl h, fun _ o h => ⟨o, h⟩⟩
theorem Ext.trans {e0 e1 F0 F1 F2 : Addr → Prop} {H0 H1 H2 : Hp} (a : Ext e0 F0 H0 F1 H1) (b : Ext e1 F1 H1 F2 H2) (h : ∀ x, e1 x → H0 x = none ∨ e0 x) : Ext e0 F0 H0 F2 H2 where
  ge := a.ge.trans b.ge
  keep := fun x o q n => b.keep x o (a.keep x o q n) fun z => by
    rcases h x z with z | z
    · rw [q] at z; cases z
    · exact n z
  nofz := fun x z => by
    rcases b.nofz x z with z | z | z
    · exact a.nofz x z
    · by_cases q : e0 x
      · exact .inr (.inr q)
      · cases w : H0 x with
        | none => exact .inr (.inl rfl)
        | some o =>
          have := a.keep x o w q
          rw [z] at this; cases this
    · rcases h x z with z | z
      · exact .inr (.inl z)
      · exact .inr (.inr z)
  there := fun x o q => let ⟨o', q'⟩ := a.there x o q; b.there x o' q'
/-- whole instances stand -/
def FzOk (Fz : Addr → Prop) (H : Hp) : Prop := ∀ a, Fz a → ∃ C dx fs, H a = some (.ins C dx fs)

/-- a container of one's own: its members are shared data -/
def Own (K : Frag) (Fz : Addr → Prop) (H : Hp) (a : Addr) : D → Prop
  | .lst ds => ∃ vs, H a = some (.lst vs) ∧ DenL K Fz H vs ds
  | .dic ds => ∃ kvs, H a = some (.dK (kvs.map keyP)) ∧ DenF K Fz H kvs ds
  | .ins c ds => ∃ dx fs, H a = some (.ins (He.ga K c) dx fs) ∧ ¬ Fz a ∧ DenF K Fz H fs ds
  | _ => False
/-- a container that is read -/
def Brw (K : Frag) (Fz : Addr → Prop) (H : Hp) (a : Addr) : D → Prop
  | .lst ds => ∃ vs, Rd H a (.lst vs) ∧ DenL K Fz H vs ds
  | .dic ds => ∃ kvs, Rd H a (.dK (kvs.map keyP)) ∧ DenF K Fz H kvs ds
  | _ => False
section
variable {K : Frag} {Fz Fz' : Addr → Prop} {H H' : Hp}
theorem Own.there {a : Addr} {d : D} (h : Own K Fz H a d) : ∃ o, H a = some o ∧ ¬ Imm o ∧ Mut (some o) := by
  cases d with
  | lst ds => obtain ⟨vs, e, _⟩ := h; exact ⟨_, e, fun z => z, trivial⟩
  | dic ds => obtain ⟨vs, e, _⟩ := h; exact ⟨_, e, fun z => z, trivial⟩
  | ins c ds => obtain ⟨dx, fs, e, _⟩ := h; exact ⟨_, e, fun z => z, trivial⟩
  | _ => exact h.elim
theorem Own.nofz (f : FzOk Fz H) {a : Addr} {d : D} (h : Own K Fz H a d) : ¬ Fz a := by
  intro z
  obtain ⟨C, dx, fs, e⟩ := f a z
  cases d with
  | lst ds => obtain ⟨vs, e2, _⟩ := h; rw [e] at e2; cases e2
  | dic ds => obtain ⟨vs, e2, _⟩ := h; rw [e] at e2; cases e2
  | ins c ds => obtain ⟨dx, fs, e2, n, _⟩ := h; exact n z
  | _ => exact h.elim
/-- kept by a step that leaves a -/
theorem Own.keep {ex : Addr → Prop} (g : Ext ex Fz H Fz' H') {a : Addr} {d : D} (h : Own K Fz H a d) (n : ¬ ex a) : Own K Fz' H' a d := by
  cases d with
  | lst ds => obtain ⟨vs, e, l⟩ := h; exact ⟨vs, g.keep a _ e n, l.mono g.ge⟩
  | dic ds => obtain ⟨vs, e, l⟩ := h; exact ⟨vs, g.keep a _ e n, l.mono g.ge⟩
  | ins c ds =>
    obtain ⟨dx, fs, e, z, l⟩ := h
    refine ⟨dx, fs, g.keep a _ e n, fun q => ?_, l.mono g.ge⟩
    rcases g.nofz a q with q | q | q
    · exact z q
    · rw [e] at q; cases q
    · exact n q
  | _ => exact h.elim
theorem Rd.keep {ex : Addr → Prop} (g : Ext ex Fz H Fz' H') {a : Addr} {u : HO} (h : Rd H a u) (n : ¬ ex a) : Rd H' a u := by
  rcases h with h | ⟨o, h⟩
  · exact .inl (g.keep a _ h n)
  · exact .inr ⟨o, g.ge.imm a _ (by exact trivial) h⟩
theorem Brw.keep {ex : Addr → Prop} (g : Ext ex Fz H Fz' H') {a : Addr} {d : D} (h : Brw K Fz H a d) (n : ¬ ex a) : Brw K Fz' H' a d := by
  cases d with
  | lst ds => obtain ⟨vs, e, l⟩ := h; exact ⟨vs, Rd.keep g e n, l.mono g.ge⟩
  | dic ds => obtain ⟨vs, e, l⟩ := h; exact ⟨vs, Rd.keep g e n, l.mono g.ge⟩
  | _ => exact h.elim
theorem Brw.there {a : Addr} {d : D} (h : Brw K Fz H a d) : ∃ o, H a = some o := by
  cases d with
  | lst ds => obtain ⟨vs, e | ⟨o, e⟩, _⟩ := h <;> exact ⟨_, e⟩
  | dic ds => obtain ⟨vs, e | ⟨o, e⟩, _⟩ := h <;> exact ⟨_, e⟩
  | _ => exact h.elim
theorem Own.brw {a : Addr} {d : D} (h : Own K Fz H a d) (hd : ∀ c fs, d ≠ .ins c fs) : Brw K Fz H a d := by
  cases d with
  | lst ds => obtain ⟨vs, e, l⟩ := h; exact ⟨vs, .inl e, l⟩
  | dic ds => obtain ⟨vs, e, l⟩ := h; exact ⟨vs, .inl e, l⟩
  | ins c ds => exact (hd c ds rfl).elim
  | _ => exact h.elim
theorem Den.brw {a : Addr} {v : V} {d : D} (h : Den K Fz H v d) (hd : (∃ l, d = .lst l) ∨ ∃ l, d = .dic l) : ∃ a, v = .ref a ∧ Brw K Fz H a d := by
  cases h with
  | lst h l => exact ⟨_, rfl, _, h.rd, l⟩
  | dic h l => exact ⟨_, rfl, _, .inr ⟨_, h⟩, l⟩
  | _ => rcases hd with ⟨l, e⟩ | ⟨l, e⟩ <;> cases e
end

/-- what stands in a slot -/
def SlOk (B : Bs) (Fz : Addr → Prop) (H : Hp) (i : Nat) (v : Option V) : Sl → Prop
  | .un => True
  | .sh d => ∃ u, v = some u ∧ Den B.K Fz H u d
  | .ow d => ∃ a, v = some (.ref a) ∧ Own B.K Fz H a d ∧ B.H0 a = none
  | .br d => ∃ a, v = some (.ref a) ∧ Brw B.K Fz H a d ∧ B.bd a
  | .mt d => ∃ a, v = some (.ref a) ∧ Own B.K Fz H a d ∧ B.ex a ∧ B.mts i a
def Sl.owned : Sl → Bool
  | .ow _ => true
  | .mt _ => true
  | _ => false
def Sl.held : Sl → Bool
  | .ow _ => true
  | .mt _ => true
  | .br _ => true
  | _ => false
theorem Sl.held_of {s : Sl} (h : s.owned = true) : s.held = true := by cases s <;> first | rfl | cases h
/-- slot i holds the address a of a container that is not shared -/
def HeldAt (σ : L2.St) (ρ : List Sl) (i : Nat) (a : Addr) : Prop := ∃ s, ρ[i]? = some s ∧ s.held = true ∧ σ[i]? = some (some (.ref a))
def OwnAt (σ : L2.St) (ρ : List Sl) (i : Nat) (a : Addr) : Prop := ∃ s, ρ[i]? = some s ∧ s.owned = true ∧ σ[i]? = some (some (.ref a))
theorem OwnAt.held {σ : L2.St} {ρ : List Sl} {i : Nat} {a : Addr} (h : OwnAt σ ρ i a) : HeldAt σ ρ i a := let ⟨s, e, o, q⟩ := h; ⟨s, e, s.held_of o, q⟩

structure Iv (B : Bs) (Fz : Addr → Prop) (H : Hp) (σ : L2.St) (ρ : List Sl) : Prop where
  len : ρ.length = σ.length
  ext : Ext B.ex B.Fz0 B.H0 Fz H
  fzs : FzOk Fz H
  ok : ∀ i s, ρ[i]? = some s → SlOk B Fz H i (σ[i]?.join) s
  apart : ∀ i j a b, i ≠ j → OwnAt σ ρ i a → HeldAt σ ρ j b → a ≠ b
  lent : ∀ a, B.bd a → ∃ o, B.H0 a = some o

section
variable {B : Bs} {Fz Fz' : Addr → Prop} {H H' : Hp} {σ : L2.St} {ρ : List Sl}
theorem join_some {σ : L2.St} {i : Nat} {v : V} : σ[i]?.join = some v ↔ σ[i]? = some (some v) := by
  cases h : σ[i]? with
  | none => simp
  | some o => simp
theorem SlOk.keep {ex : Addr → Prop} (g : Ext ex Fz H Fz' H') {i : Nat} {v : Option V} {s : Sl} (h : SlOk B Fz H i v s) (n : ∀ a, s.held = true → v = some (.ref a) → ¬ ex a) : SlOk B Fz' H' i v s := by
  cases s with
  | un => trivial
  | sh d => obtain ⟨u, e, q⟩ := h; exact ⟨u, e, q.mono g.ge⟩
  | ow d => obtain ⟨a, e, q, z⟩ := h; exact ⟨a, e, q.keep g (n a rfl e), z⟩
  | br d => obtain ⟨a, e, q, z⟩ := h; exact ⟨a, e, q.keep g (n a rfl e), z⟩
  | mt d => obtain ⟨a, e, q, z⟩ := h; exact ⟨a, e, q.keep g (n a rfl e), z⟩
/-- an owned container stands at an address that this activation may write -/
theorem Iv.may (I : Iv B Fz H σ ρ) {i : Nat} {a : Addr} (h : OwnAt σ ρ i a) : B.H0 a = none ∨ B.ex a := by
  obtain ⟨s, e, o, q⟩ := h
  have z := I.ok i s e
  rw [join_some.mpr q] at z
  cases s with
  | ow d => obtain ⟨b, e2, _, n⟩ := z; cases e2; exact .inl n
  | mt d => obtain ⟨b, e2, _, n, _⟩ := z; cases e2; exact .inr n
  | _ => cases o
theorem Iv.held (I : Iv B Fz H σ ρ) {i : Nat} {a : Addr} (h : HeldAt σ ρ i a) : ∃ o, H a = some o := by
  obtain ⟨s, e, o, q⟩ := h
  have z := I.ok i s e
  rw [join_some.mpr q] at z
  cases s with
  | ow d => obtain ⟨b, e2, w, n⟩ := z; cases e2; obtain ⟨o, w, _⟩ := w.there; exact ⟨o, w⟩
  | mt d => obtain ⟨b, e2, w, n, _⟩ := z; cases e2; obtain ⟨o, w, _⟩ := w.there; exact ⟨o, w⟩
  | br d => obtain ⟨b, e2, w, _⟩ := z; cases e2; exact w.there
  | _ => cases o
/-- a step that leaves all held containers -/
theorem Iv.step {ex : Addr → Prop} (I : Iv B Fz H σ ρ) (g : Ext ex Fz H Fz' H') (f : FzOk Fz' H') (m : ∀ a, ex a → B.H0 a = none ∨ B.ex a) (n : ∀ i a, HeldAt σ ρ i a → ¬ ex a) : Iv B Fz' H' σ ρ where
  len := I.len
  ext := I.ext.trans g m
  fzs := f
  ok := fun i s e => (I.ok i s e).keep g fun a hs q => n i a ⟨s, e, hs, join_some.mp q⟩
  apart := I.apart
  lent := I.lent
/-- .. and gives slot i's container new members -/
theorem Iv.turn {ex : Addr → Prop} (I : Iv B Fz H σ ρ) (g : Ext ex Fz H Fz' H') (f : FzOk Fz' H') {i : Nat} {a : Addr} {s s' : Sl} (e : ρ[i]? = some s) (o : s.owned = true) (q : σ[i]? = some (some (.ref a)))
    (hx : ∀ b, ex b → b = a) (z : SlOk B Fz' H' i (some (.ref a)) s') : Iv B Fz' H' σ (ρ.set i s') where
  len := by rw [List.length_set]; exact I.len
  ext := I.ext.trans g fun b hb => by cases hx b hb; exact I.may ⟨s, e, o, q⟩
  fzs := f
  ok := fun j t ej => by
    by_cases hj : j = i
    · subst hj
      have hlt := (List.getElem?_eq_some_iff.mp e).1
      rw [List.getElem?_set_self hlt] at ej
      cases ej
      rw [join_some.mpr q]
      exact z
    · rw [List.getElem?_set_ne (Ne.symm hj)] at ej
      refine (I.ok j t ej).keep g fun b hs qb hb => ?_
      cases hx b hb
      exact I.apart i j a a (Ne.symm hj) ⟨s, e, o, q⟩ ⟨t, ej, hs, join_some.mp qb⟩ rfl
  apart := fun j k b c hjk hj hk => by
    have back : ∀ {l : Nat} {x : Addr}, (HeldAt σ (ρ.set i s') l x → HeldAt σ ρ l x) ∧ (OwnAt σ (ρ.set i s') l x → OwnAt σ ρ l x) := by
      intro l x
      by_cases hl : l = i
      · subst hl
        exact ⟨fun ⟨_, _, _, q2⟩ => ⟨s, e, s.held_of o, q2⟩, fun ⟨_, _, _, q2⟩ => ⟨s, e, o, q2⟩⟩
      · constructor
        · rintro ⟨t, e2, h2, q2⟩
          rw [List.getElem?_set_ne (Ne.symm hl)] at e2
          exact ⟨t, e2, h2, q2⟩
        · rintro ⟨t, e2, h2, q2⟩
          rw [List.getElem?_set_ne (Ne.symm hl)] at e2
          exact ⟨t, e2, h2, q2⟩
    exact I.apart j k b c hjk (back.2 hj) (back.1 hk)
  lent := I.lent
end
end Dx

set_option Elab.async false
set_option linter.all false
set_option maxRecDepth 100000
set_option maxHeartbeats 1000000
namespace Dx
open PySem PySem.Spec PyProof.Rows L2

/-- what a result must be of a value -/
abbrev Rel (α β : Type) := Bs → (Addr → Prop) → Hp → L2.St → List Sl → β → α → Prop
def FinG {α β : Type} (Rl : Rel α β) (B : Bs) (E : XK) (σ : L2.St) (Q : β → Hp → Prop) (Fz : Addr → Prop) (H : Hp) : R (α × List Sl) → Prop
  | .ok p => ∀ v H' Fz', Iv B Fz' H' σ p.2 → Ge Fz H Fz' H' → Rl B Fz' H' σ p.2 v p.1 → Q v H'
  | .exc c d => ∀ dx v H' Fz', Ext B.ex B.Fz0 B.H0 Fz' H' → FzOk Fz' H' → H' dx = some (.xd [("value", v)]) → Den B.K Fz' H' v d → E (.ref (He.ga B.K c)) (some dx) H'
  | .bad => False
/-- the reading of a piece of code that does f to the slots -/
def tG {α β : Type} (Rl : Rel α β) (B : Bs) (E : XK) (f : List Sl → R (α × List Sl)) : L2.St → Hp → (β → Hp → Prop) → Prop :=
  fun σ H Q => ∃ Fz ρ, Iv B Fz H σ ρ ∧ FinG Rl B E σ Q Fz H (f ρ)
abbrev rD : Rel D V := fun B Fz H _ _ v d => Den B.K Fz H v d
abbrev rB : Rel Bool Bool := fun _ _ _ _ _ v d => v = d
abbrev rL : Rel (List D) (List V) := fun B Fz H _ _ v d => DenL B.K Fz H v d
/-- a new container of one's own -/
abbrev rO : Rel D V := fun B Fz H σ ρ v d => ∃ a, v = .ref a ∧ Own B.K Fz H a d ∧ B.H0 a = none ∧ ∀ i b, HeldAt σ ρ i b → b ≠ a
abbrev tE (B : Bs) (E : XK) (f : List Sl → R (D × List Sl)) : TE := tG rD B E f
abbrev tT (B : Bs) (E : XK) (f : List Sl → R (Bool × List Sl)) : TT := tG rB B E f
abbrev tA (B : Bs) (E : XK) (f : List Sl → R (List D × List Sl)) : TA := tG rL B E f
abbrev tO (B : Bs) (E : XK) (f : List Sl → R (D × List Sl)) : TE := tG rO B E f

section
variable {α β γ δ : Type} {Rl : Rel α β} {Rm : Rel γ δ} {B : Bs} {E : XK} {σ : L2.St} {H H' : Hp} {Fz Fz' : Addr → Prop} {ρ : List Sl}
theorem FinG.ge {Q : β → Hp → Prop} {r : R (α × List Sl)} (g : Ge Fz H Fz' H') (h : FinG Rl B E σ Q Fz H r) : FinG Rl B E σ Q Fz' H' r := by
  cases r with
  | ok p => exact fun v H2 F2 I g2 d => h v H2 F2 I (g.trans g2) d
  | exc c d => exact h
  | bad => exact h
theorem FinG.mono {Q Q' : β → Hp → Prop} {r : R (α × List Sl)} (w : ∀ v H', Q v H' → Q' v H') (h : FinG Rl B E σ Q Fz H r) : FinG Rl B E σ Q' Fz H r := by
  cases r with
  | ok p => exact fun v H2 F2 I g2 d => w _ _ (h v H2 F2 I g2 d)
  | exc c d => exact h
  | bad => exact h
/-- one piece, then the rest -/
theorem tG_bind {Q : δ → Hp → Prop} {f : List Sl → R (α × List Sl)} {k : α × List Sl → R (γ × List Sl)} (I : Iv B Fz H σ ρ) (h : FinG Rm B E σ Q Fz H ((f ρ).bind k)) :
    tG Rl B E f σ H (fun v H1 => ∃ Fz1 ρ1 d, Iv B Fz1 H1 σ ρ1 ∧ Rl B Fz1 H1 σ ρ1 v d ∧ Ge Fz H Fz1 H1 ∧ f ρ = .ok (d, ρ1) ∧ FinG Rm B E σ Q Fz1 H1 (k (d, ρ1))) := by
  refine ⟨Fz, ρ, I, ?_⟩
  cases e : f ρ with
  | ok p =>
    rw [e] at h
    exact fun v H1 F1 I1 g1 d1 => ⟨F1, p.2, p.1, I1, d1, g1, rfl, FinG.ge g1 h⟩
  | exc c d => rw [e] at h; exact h
  | bad => rw [e] at h; exact h
end

section
variable {X : Cx}
theorem weakE {e : Expr} {t t' : TE} (h : PE X e t) (w : ∀ σ H Q, t' σ H Q → t σ H Q) : PE X e t' := ⟨fun pins s σ H Q I q => h.run pins s σ H Q I (w σ H Q q)⟩
theorem weakT {e : Expr} {t t' : TT} (h : PT X e t) (w : ∀ σ H Q, t' σ H Q → t σ H Q) : PT X e t' := ⟨fun pins s σ H Q I q => h.run pins s σ H Q I (w σ H Q q)⟩
theorem weakW {e : Expr} {t t' : TT} (h : PW X e t) (w : ∀ σ H Q, t' σ H Q → t σ H Q) : PW X e t' := ⟨fun wh pins s σ H Q I q => h.run wh pins s σ H Q I (w σ H Q q)⟩
theorem weakA {es : List Expr} {t t' : TA} (h : PA X es t) (w : ∀ σ H Q, t' σ H Q → t σ H Q) : PA X es t' := ⟨fun pos pins s σ H Q I q => h.run pos pins s σ H Q I (w σ H Q q)⟩
theorem weakS {st : Stmt} {t t' : TS} (h : PS X st t) (w : ∀ D σ H, t' D σ H → t D σ H) : PS X st t' := ⟨fun pins s σ H D I q => h.run pins s σ H D I (w D σ H q)⟩
theorem weakSs {st : List Stmt} {t t' : TS} (h : PSs X st t) (w : ∀ D σ H, t' D σ H → t D σ H) : PSs X st t' := ⟨fun pins s σ H D I q => h.run pins s σ H D I (w D σ H q)⟩
theorem weakI {tg iter : Expr} {t t' : TI} (h : PI X tg iter t) (w : ∀ σ H Q, t' σ H Q → t σ H Q) : PI X tg iter t' := ⟨fun pins s σ H Q I q => h.run pins s σ H Q I (w σ H Q q)⟩

/-- freezing: what was just made is locked -/
theorem pe_frz {e : Expr} {t : TE} (h : PE X e t) : PE X e (fun σ H Q => t σ H fun v H1 => ∃ a u, v = .ref a ∧ H1 a = some u ∧ Mut (some u) ∧ ∀ od, Q v (upd H1 a (.frz od u))) := by
  refine ⟨fun pins s σ H Q I q => thn (h.run pins s σ H _ I q) fun u s1 ⟨v, H1, I1, r1, a, o, ev, ha, mu, q1⟩ => ?_⟩
  obtain ⟨od, I2⟩ := I1.lock ha mu
  exact ⟨v, _, I2, r1, q1 od⟩
end

/-- a new object at a fresh address -/
theorem ext_new {Fz : Addr → Prop} {H : Hp} {p : Addr} {o : HO} (f : FzOk Fz H) (h : H p = none) : Ext (fun _ => False) Fz H Fz (upd H p o) where
  ge := ⟨fun a u _ e => by rw [upd_ne (ne_of_none e h)]; exact e, fun _ z => z, fun a z => by
    obtain ⟨C, dx, fs, e⟩ := f a z
    rw [upd_ne (ne_of_none e h)]⟩
  keep := fun a u e _ => by rw [upd_ne (ne_of_none e h)]; exact e
  nofz := fun a z => .inl z
  there := fun a u e => ⟨u, by rw [upd_ne (ne_of_none e h)]; exact e⟩
theorem fzs_new {Fz : Addr → Prop} {H : Hp} {p : Addr} {o : HO} (f : FzOk Fz H) (h : H p = none) : FzOk Fz (upd H p o) := fun a z => by
  obtain ⟨C, dx, fs, e⟩ := f a z
  exact ⟨C, dx, fs, by rw [upd_ne (ne_of_none e h)]; exact e⟩
/-- a container is written -/
theorem ext_put {Fz : Addr → Prop} {H : Hp} {p : Addr} {o u : HO} (h : H p = some u) (ni : ¬ Imm u) (nz : ¬ Fz p) : Ext (fun a => a = p) Fz H Fz (upd H p o) where
  ge := ⟨fun a w i e => by
    by_cases q : a = p
    · subst q; rw [h] at e; cases e; exact (ni i).elim
    · rw [upd_ne q]; exact e, fun _ z => z, fun a z => by
    have : a ≠ p := fun q => nz (q ▸ z)
    rw [upd_ne this]⟩
  keep := fun a w e n => by rw [upd_ne n]; exact e
  nofz := fun a z => .inl z
  there := fun a w e => by
    by_cases q : a = p
    · exact ⟨o, by rw [q, upd_same]⟩
    · exact ⟨w, by rw [upd_ne q]; exact e⟩
theorem fzs_put {Fz : Addr → Prop} {H : Hp} {p : Addr} {o : HO} (f : FzOk Fz H) (nz : ¬ Fz p) : FzOk Fz (upd H p o) := fun a z => by
  obtain ⟨C, dx, fs, e⟩ := f a z
  exact ⟨C, dx, fs, by
    have n : a ≠ p := fun q => by rw [q] at z; exact nz z
    rw [upd_ne n]; exact e⟩
/-- the unfrozen container of a temporary, frozen -/
theorem tO_frz {B : Bs} {E : XK} {f : List Sl → R (D × List Sl)} {σ : L2.St} {H : Hp} {Q : VK} (nd : ∀ ρ d ρ', f ρ = .ok (d, ρ') → ∀ c fs, d ≠ .ins c fs) (h : tE B E f σ H Q) :
    tO B E f σ H fun v H1 => ∃ a u, v = .ref a ∧ H1 a = some u ∧ Mut (some u) ∧ ∀ od, Q v (upd H1 a (.frz od u)) := by
  obtain ⟨Fz, ρ, I, q⟩ := h
  refine ⟨Fz, ρ, I, ?_⟩
  cases e : f ρ with
  | exc c d => rw [e] at q; exact q
  | bad => rw [e] at q; exact q
  | ok p =>
    rw [e] at q
    intro v H1 F1 I1 g1 ⟨a, ev, ow, hn, ap⟩
    subst ev
    have nd' := nd ρ p.1 p.2 (by rw [e])
    obtain ⟨u, hu, ni, mu⟩ := ow.there
    have nz : ¬ F1 a := ow.nofz I1.fzs
    refine ⟨a, u, rfl, hu, mu, fun od => ?_⟩
    have x := ext_put (o := .frz od u) hu ni nz
    have f2 : FzOk F1 (upd H1 a (.frz od u)) := fzs_put I1.fzs nz
    have I2 : Iv B F1 (upd H1 a (.frz od u)) σ p.2 := I1.step x f2 (fun b hb => by cases hb; exact .inl hn) fun i b hb z => ap i b hb z
    refine q (.ref a) _ F1 I2 (g1.trans x.ge) ?_
    cases hd : p.1 with
    | lst ds =>
      rw [hd] at ow
      obtain ⟨vs, e2, l⟩ := ow
      rw [hu] at e2; cases e2
      exact .lst ⟨od, upd_same⟩ (l.mono x.ge)
    | dic ds =>
      rw [hd] at ow
      obtain ⟨vs, e2, l⟩ := ow
      rw [hu] at e2; cases e2
      exact .dic (o := od) upd_same (l.mono x.ge)
    | ins c fs => exact (nd' c fs hd).elim
    | _ => rw [hd] at ow; exact ow.elim
/-- an expression that makes a container, as shared data -/
theorem pe_own {X : Cx} {e : Expr} {B : Bs} {E : XK} {f : List Sl → R (D × List Sl)} (h : PE X e (tO B E f)) (nd : ∀ ρ d ρ', f ρ = .ok (d, ρ') → ∀ c fs, d ≠ .ins c fs) : PE X e (tE B E f) :=
  weakE (pe_frz h) fun _ _ _ q => tO_frz nd q

/-! ### expressions -/
section
variable {X : Cx} {B : Bs} {E : XK} {a b c : Expr} {f g : List Sl → R (D × List Sl)} {pos : Pos}
def evVar (i : Nat) (ρ : List Sl) : R (D × List Sl) := match ρ[i]? with
  | some (.sh d) => .ok (d, ρ)
  | _ => .bad
theorem de_var {i : Nat} {x : Str} (hN : X.N[i]? = some x) (hv : Vis X.env.scope x) (hd : (x == ("__debug__" : Str)) = false) (hcd : (x == ("__classdict__" : Str)) = false) : PE X (.Name x pos) (tE B E (evVar i)) :=
  weakE (pe_var hN hv hd hcd) fun σ H Q ⟨Fz, ρ, I, q⟩ => by
    unfold evVar at q
    cases e : ρ[i]? with
    | none => rw [e] at q; exact q.elim
    | some s =>
      rw [e] at q
      cases s with
      | sh d =>
        obtain ⟨u, hu, hd⟩ := I.ok i _ e
        exact ⟨u, join_some.mp hu, q u H Fz I .refl hd⟩
      | _ => exact q.elim
/-- a constant that is no object -/
def Flat : D → Prop
  | .non => True
  | .bl _ => True
  | .int _ => True
  | .str _ => True
  | _ => False
def evLit (d : D) (ρ : List Sl) : R (D × List Sl) := .ok (d, ρ)
theorem de_const {e : Expr} {v : V} {d : D} (h : PE X e (tC v)) (hd : ∀ Fz H, Den B.K Fz H v d) : PE X e (tE B E (evLit d)) :=
  weakE h fun σ H Q ⟨Fz, ρ, I, q⟩ => q v H Fz I .refl (hd _ _)
def litV : D → V
  | .non => .non
  | .bl b => .bl b
  | .int i => .int i
  | .str x => .str x
  | _ => .non
theorem litV_ok {K : Frag} {Fz : Addr → Prop} {H : Hp} {d : D} (h : Flat d) : Den K Fz H (litV d) d := by
  cases d with
  | non => exact .non
  | bl b => exact .bl b
  | int i => exact .int i
  | str x => exact .str x
  | _ => exact h.elim
/-- an option as a result -/
def ofO {α : Type} : Option α → R α
  | some a => .ok a
  | none => .bad
theorem monoG {α β : Type} {Rl : Rel α β} {B : Bs} {E : XK} {f : List Sl → R (α × List Sl)} {σ : L2.St} {H : Hp} {Q Q' : β → Hp → Prop} (h : tG Rl B E f σ H Q) (w : ∀ v H', Q v H' → Q' v H') : tG Rl B E f σ H Q' :=
  let ⟨Fz, ρ, I, q⟩ := h; ⟨Fz, ρ, I, q.mono w⟩
/-- what is to be shown behind an operation that gives z -/
abbrev Back (B : Bs) (Fz : Addr → Prop) (H : Hp) (σ : L2.St) (ρ : List Sl) (z : D) (Q : VK) : Prop := ∀ v H' Fz', Iv B Fz' H' σ ρ → Ge Fz H Fz' H' → Den B.K Fz' H' v z → Q v H'
theorem back_of {B : Bs} {E : XK} {Fz : Addr → Prop} {H : Hp} {σ : L2.St} {ρ : List Sl} {Q : VK} {o : Option D} (q : FinG rD B E σ Q Fz H ((ofO o).bind fun z => .ok (z, ρ))) : ∃ z, o = some z ∧ Back B Fz H σ ρ z Q := by
  cases o with
  | none => exact q.elim
  | some z => exact ⟨z, rfl, q⟩
def R2D (K : Frag) (r : R2) (F : D → D → Option D) : Prop :=
  ∀ (B : Bs) (Fz : Addr → Prop) (H : Hp) (σ : L2.St) (ρ : List Sl) (x y : V) (dx dy z : D) (Q : VK), B.K = K → Iv B Fz H σ ρ → Den B.K Fz H x dx → Den B.K Fz H y dy → F dx dy = some z → Back B Fz H σ ρ z Q → r x y H Q
def ev2 (F : D → D → Option D) (f g : List Sl → R (D × List Sl)) (ρ : List Sl) : R (D × List Sl) := (f ρ).bind fun p => (g p.2).bind fun q => (ofO (F p.1 q.1)).bind fun z => .ok (z, q.2)
theorem t_op {K : Frag} {r : R2} {F : D → D → Option D} (hr : R2D K r F) (hK : B.K = K) {σ : L2.St} {H : Hp} {Q : VK} (h : tE B E (ev2 F f g) σ H Q) : tOp r (tE B E f) (tE B E g) σ H Q := by
  obtain ⟨Fz, ρ, I, q⟩ := h
  refine monoG (tG_bind I q) fun x H1 ⟨F1, ρ1, dx, I1, d1, g1, e1, q1⟩ => monoG (tG_bind I1 q1) fun y H2 ⟨F2, ρ2, dy, I2, d2, g2, e2, q2⟩ => ?_
  obtain ⟨z, ez, b⟩ := back_of q2
  exact hr B F2 H2 σ ρ2 x y dx dy z Q hK I2 (d1.mono g2) d2 ez b
theorem de_bin {op : Operator} {r : R2} {F : D → D → Option D} (ho : OpR X (binaryOp op) r) (hr : R2D X.K r F) (hK : B.K = X.K) (ha : PE X a (tE B E f)) (hb : PE X b (tE B E g)) : PE X (.BinOp a op b pos) (tE B E (ev2 F f g)) :=
  weakE (pe_op ho ha hb) fun _ _ _ h => t_op hr hK h
theorem de_cmp {op : CmpOp} {r : R2} {F : D → D → Option D} (ho : OpR X (compareOp op) r) (hr : R2D X.K r F) (hK : B.K = X.K) (hm : behindInMarks op b = false) (ha : PE X a (tE B E f)) (hb : PE X b (tE B E g)) : PE X (.Compare a [op] [b] pos) (tE B E (ev2 F f g)) :=
  weakE (pe_cmpR ho ha hb hm) fun _ _ _ h => t_op hr hK h
/-- data as a test: a bool -/
def evB (f : List Sl → R (D × List Sl)) (ρ : List Sl) : R (Bool × List Sl) := (f ρ).bind fun p => match p.1 with
  | .bl k => .ok (k, p.2)
  | _ => .bad
theorem t_bl {f : List Sl → R (D × List Sl)} {σ : L2.St} {H : Hp} {Q : Bool → Hp → Prop} (h : tT B E (evB f) σ H Q) : tE B E f σ H fun x H1 => ∃ k, x = .bl k ∧ Q k H1 := by
  obtain ⟨Fz, ρ, I, q⟩ := h
  refine monoG (tG_bind I q) fun x H1 ⟨F1, ρ1, dx, I1, d1, g1, e1, q1⟩ => ?_
  cases dx with
  | bl k =>
    cases d1
    exact ⟨k, rfl, q1 k H1 F1 I1 .refl rfl⟩
  | _ => exact q1.elim
theorem dt_cmp {op : CmpOp} {r : R2} {F : D → D → Option D} (ho : OpR X (compareOp op) r) (hr : R2D X.K r F) (hK : B.K = X.K) (hm : behindInMarks op b = false) (ha : PE X a (tE B E f)) (hb : PE X b (tE B E g)) : PT X (.Compare a [op] [b] pos) (tT B E (evB (ev2 F f g))) :=
  weakT (pt_cmpR ho ha hb hm) fun _ _ _ h => monoT_aux (t_bl h) fun h2 => t_op hr hK h2
where
  monoT_aux {t t' : TE} {σ : L2.St} {H : Hp} {Q : Bool → Hp → Prop} (h : t σ H fun x H1 => ∃ k, x = .bl k ∧ Q k H1) (w : t σ H (fun x H1 => ∃ k, x = .bl k ∧ Q k H1) → t' σ H (fun x H1 => ∃ k, x = .bl k ∧ Q k H1)) : t' σ H fun x H1 => ∃ k, x = .bl k ∧ Q k H1 := w h
/-- truth of data -/
def truD : D → Option Bool
  | .non => some false
  | .bl b => some b
  | .int i => some (i != 0)
  | .str y => if y.length ≤ sizeLine then some ((y.length : Int) != 0) else none
  | .tup l => some (!l.isEmpty)
  | .lst l => some (!l.isEmpty)
  | _ => none
def evT (f : List Sl → R (D × List Sl)) (ρ : List Sl) : R (Bool × List Sl) := (f ρ).bind fun p => (ofO (truD p.1)).bind fun k => .ok (k, p.2)
theorem isEmpty_den {K : Frag} {Fz : Addr → Prop} {H : Hp} {vs : List V} {ds : List D} (h : DenL K Fz H vs ds) : vs.isEmpty = ds.isEmpty := by
  cases h <;> rfl
theorem dt_truth (hK : B.K = X.K) (ha : PE X a (tE B E f)) (he : ∀ whole, isTrue a X.env whole = (do let v ← whole; standAt a.pos; holding [v] (truthy v))) : PT X a (tT B E (evT f)) :=
  weakT (pt_truth ha he) fun σ H Q ⟨Fz, ρ, I, q⟩ => by
    refine monoG (tG_bind I q) fun x H1 ⟨F1, ρ1, dx, I1, d1, g1, e1, q1⟩ => ?_
    cases ek : truD dx with
    | none => rw [show (ofO (truD (dx, ρ1).1)) = .bad by show ofO (truD dx) = _; rw [ek]; rfl] at q1; exact q1.elim
    | some k =>
      rw [show (ofO (truD (dx, ρ1).1)) = .ok k by show ofO (truD dx) = _; rw [ek]; rfl] at q1
      refine ⟨k, ?_, q1 k H1 F1 I1 .refl rfl⟩
      cases d1 with
      | non => cases ek; rfl
      | bl b => cases ek; rfl
      | int i => cases ek; rfl
      | str y =>
        have ek' : (if y.length ≤ sizeLine then some ((y.length : Int) != 0) else none) = some k := ek
        by_cases z : y.length ≤ sizeLine
        · rw [if_pos z] at ek'; cases ek'; exact ⟨z, rfl⟩
        · rw [if_neg z] at ek'; cases ek'
      | tup h l => cases ek; exact .inr (.inl ⟨_, hK ▸ h.t, by rw [isEmpty_den l]⟩)
      | lst h l => cases ek; exact .inl ⟨_, hK ▸ h.l, by rw [isEmpty_den l]⟩
      | _ => cases ek
/-! and, or, not, if-expressions -/
def evAnd (f g : List Sl → R (Bool × List Sl)) (ρ : List Sl) : R (Bool × List Sl) := (f ρ).bind fun p => match p.1 with
  | true => g p.2
  | false => .ok (false, p.2)
def evOr (f g : List Sl → R (Bool × List Sl)) (ρ : List Sl) : R (Bool × List Sl) := (f ρ).bind fun p => match p.1 with
  | true => .ok (true, p.2)
  | false => g p.2
def evNot (f : List Sl → R (Bool × List Sl)) (ρ : List Sl) : R (Bool × List Sl) := (f ρ).bind fun p => .ok (!p.1, p.2)
def evIf {α : Type} (f : List Sl → R (Bool × List Sl)) (g h : List Sl → R (α × List Sl)) (ρ : List Sl) : R (α × List Sl) := (f ρ).bind fun p => match p.1 with
  | true => g p.2
  | false => h p.2
variable {u v : List Sl → R (Bool × List Sl)} {rest : List Expr}
theorem dw_and (ha : PT X a (tT B E u)) (hb : PW X (.BoolOp .And (b :: rest) pos) (tT B E v)) : PW X (.BoolOp .And (a :: b :: rest) pos) (tT B E (evAnd u v)) :=
  weakW (pw_and ha hb) fun σ H Q ⟨Fz, ρ, I, q⟩ => by
    refine monoG (tG_bind I q) fun x H1 ⟨F1, ρ1, dx, I1, d1, g1, e1, q1⟩ => ?_
    have d1' : x = dx := d1
    subst d1'
    cases x with
    | true => exact ⟨F1, ρ1, I1, q1⟩
    | false => exact q1 false H1 F1 I1 .refl rfl
theorem dw_or (ha : PT X a (tT B E u)) (hb : PW X (.BoolOp .Or (b :: rest) pos) (tT B E v)) : PW X (.BoolOp .Or (a :: b :: rest) pos) (tT B E (evOr u v)) :=
  weakW (pw_or ha hb) fun σ H Q ⟨Fz, ρ, I, q⟩ => by
    refine monoG (tG_bind I q) fun x H1 ⟨F1, ρ1, dx, I1, d1, g1, e1, q1⟩ => ?_
    have d1' : x = dx := d1
    subst d1'
    cases x with
    | false => exact ⟨F1, ρ1, I1, q1⟩
    | true => exact q1 true H1 F1 I1 .refl rfl
theorem pw_and1' (ha : PT X a (tT B E u)) : PW X (.BoolOp .And [a] pos) (tT B E u) := pw_and1 ha
theorem pw_or1' (ha : PT X a (tT B E u)) : PW X (.BoolOp .Or [a] pos) (tT B E u) := pw_or1 ha
theorem dt_not (ha : PT X a (tT B E u)) : PT X (.UnaryOp .Not a pos) (tT B E (evNot u)) :=
  weakT (pt_not ha) fun σ H Q ⟨Fz, ρ, I, q⟩ => by
    refine monoG (tG_bind I q) fun x H1 ⟨F1, ρ1, dx, I1, d1, g1, e1, q1⟩ => ?_
    have d1' : x = dx := d1
    subst d1'
    exact q1 (!x) H1 F1 I1 .refl rfl
theorem de_if (hc : PT X c (tT B E u)) (ha : PE X a (tE B E f)) (hb : PE X b (tE B E g)) : PE X (.IfExp c a b pos) (tE B E (evIf u f g)) :=
  weakE (pe_ifExp hc ha hb) fun σ H Q ⟨Fz, ρ, I, q⟩ => by
    refine monoG (tG_bind I q) fun x H1 ⟨F1, ρ1, dx, I1, d1, g1, e1, q1⟩ => ?_
    have d1' : x = dx := d1
    subst d1'
    cases x with
    | true => exact ⟨F1, ρ1, I1, q1⟩
    | false => exact ⟨F1, ρ1, I1, q1⟩
/-! the same as values: all but the last are bools -/
def evAndV (f g : List Sl → R (D × List Sl)) (ρ : List Sl) : R (D × List Sl) := (f ρ).bind fun p => match p.1 with
  | .bl true => g p.2
  | .bl false => .ok (.bl false, p.2)
  | _ => .bad
def evOrV (f g : List Sl → R (D × List Sl)) (ρ : List Sl) : R (D × List Sl) := (f ρ).bind fun p => match p.1 with
  | .bl true => .ok (.bl true, p.2)
  | .bl false => g p.2
  | _ => .bad
def evNotV (f : List Sl → R (D × List Sl)) (ρ : List Sl) : R (D × List Sl) := (f ρ).bind fun p => match p.1 with
  | .bl k => .ok (.bl (!k), p.2)
  | _ => .bad
theorem de_and (ha : PE X a (tE B E f)) (hb : PE X (.BoolOp .And (b :: rest) pos) (tE B E g)) : PE X (.BoolOp .And (a :: b :: rest) pos) (tE B E (evAndV f g)) :=
  weakE (pe_and ha hb) fun σ H Q ⟨Fz, ρ, I, q⟩ => by
    refine monoG (tG_bind I q) fun x H1 ⟨F1, ρ1, dx, I1, d1, g1, e1, q1⟩ => ?_
    cases dx with
    | bl k =>
      cases d1
      cases k with
      | true => exact ⟨true, rfl, F1, ρ1, I1, q1⟩
      | false => exact ⟨false, rfl, q1 _ H1 F1 I1 .refl (.bl _)⟩
    | _ => exact q1.elim
theorem de_or (ha : PE X a (tE B E f)) (hb : PE X (.BoolOp .Or (b :: rest) pos) (tE B E g)) : PE X (.BoolOp .Or (a :: b :: rest) pos) (tE B E (evOrV f g)) :=
  weakE (pe_or ha hb) fun σ H Q ⟨Fz, ρ, I, q⟩ => by
    refine monoG (tG_bind I q) fun x H1 ⟨F1, ρ1, dx, I1, d1, g1, e1, q1⟩ => ?_
    cases dx with
    | bl k =>
      cases d1
      cases k with
      | false => exact ⟨false, rfl, F1, ρ1, I1, q1⟩
      | true => exact ⟨true, rfl, q1 _ H1 F1 I1 .refl (.bl _)⟩
    | _ => exact q1.elim
theorem de_not (ha : PE X a (tE B E f)) : PE X (.UnaryOp .Not a pos) (tE B E (evNotV f)) :=
  weakE (pe_not ha) fun σ H Q ⟨Fz, ρ, I, q⟩ => by
    refine monoG (tG_bind I q) fun x H1 ⟨F1, ρ1, dx, I1, d1, g1, e1, q1⟩ => ?_
    cases dx with
    | bl k =>
      cases d1
      exact ⟨k, rfl, q1 _ H1 F1 I1 .refl (.bl _)⟩
    | _ => exact q1.elim
/-! chains -/
def evChn (F G : D → D → Option D) (f g h : List Sl → R (D × List Sl)) (ρ : List Sl) : R (D × List Sl) :=
  (f ρ).bind fun p => (g p.2).bind fun q => match F p.1 q.1 with
    | some (.bl true) => (h q.2).bind fun r => (ofO (G q.1 r.1)).bind fun z => .ok (z, r.2)
    | some (.bl false) => .ok (.bl false, q.2)
    | _ => .bad
theorem t_chn {K : Frag} {r r' : R2} {F G : D → D → Option D} {h : List Sl → R (D × List Sl)} (hr : R2D K r F) (hr' : R2D K r' G) (hK : B.K = K) {σ : L2.St} {H : Hp} {Q : VK} (hq : tE B E (evChn F G f g h) σ H Q) : tChain r r' (tE B E f) (tE B E g) (tE B E h) σ H Q := by
  obtain ⟨Fz, ρ, I, q⟩ := hq
  refine monoG (tG_bind I q) fun x H1 ⟨F1, ρ1, dx, I1, d1, g1, e1, q1⟩ => monoG (tG_bind I1 q1) fun y H2 ⟨F2, ρ2, dy, I2, d2, g2, e2, q2⟩ => ?_
  cases ez : F dx dy with
  | none => exact absurd q2 (by show ¬ FinG rD B E σ Q F2 H2 (match F dx dy with | some (.bl true) => _ | some (.bl false) => _ | _ => _); rw [ez]; exact fun z => z)
  | some z =>
    have q3 : FinG rD B E σ Q F2 H2 (match F dx dy with
      | some (.bl true) => (h ρ2).bind fun r => (ofO (G dy r.1)).bind fun z => .ok (z, r.2)
      | some (.bl false) => .ok (.bl false, ρ2)
      | _ => .bad) := q2
    rw [ez] at q3
    refine hr B F2 H2 σ ρ2 x y dx dy z _ hK I2 (d1.mono g2) d2 ez fun v H3 F3 I3 g3 d3 => ?_
    cases z with
    | bl k =>
      cases d3
      refine ⟨k, rfl, ?_⟩
      cases k with
      | true =>
        rw [if_pos rfl]
        refine monoG (tG_bind I3 (FinG.ge g3 q3)) fun w' H4 ⟨F4, ρ4, dw, I4, d4, g4, e4, q4⟩ => ?_
        obtain ⟨z, ez, b⟩ := back_of q4
        exact hr' B F4 H4 σ ρ4 y w' dy dw z Q hK I4 ((d2.mono g3).mono g4) d4 ez b
      | false =>
        rw [if_neg (by decide)]
        exact q3 _ H3 F3 I3 g3 (.bl _)
    | _ => exact q3.elim
theorem de_chn {op op' : CmpOp} {r r' : R2} {F G : D → D → Option D} {h : List Sl → R (D × List Sl)} (ho : OpR X (compareOp op) r) (ho' : OpR X (compareOp op') r') (hr : R2D X.K r F) (hr' : R2D X.K r' G) (hK : B.K = X.K) (hm : lastMarks [op, op'] [b, c] = false)
    (ha : PE X a (tE B E f)) (hb : PE X b (tE B E g)) (hc : PE X c (tE B E h)) : PE X (.Compare a [op, op'] [b, c] pos) (tE B E (evChn F G f g h)) :=
  weakE (pe_chain ho ho' ha hb hc hm) fun _ _ _ q => t_chn hr hr' hK q
theorem dt_chn {op op' : CmpOp} {r r' : R2} {F G : D → D → Option D} {h : List Sl → R (D × List Sl)} (ho : OpR X (compareOp op) r) (ho' : OpR X (compareOp op') r') (hr : R2D X.K r F) (hr' : R2D X.K r' G) (hK : B.K = X.K) (hm : lastMarks [op, op'] [b, c] = false)
    (ha : PE X a (tE B E f)) (hb : PE X b (tE B E g)) (hc : PE X c (tE B E h)) : PT X (.Compare a [op, op'] [b, c] pos) (tT B E (evB (evChn F G f g h))) :=
  weakT (pt_chain ho ho' ha hb hc hm) fun _ _ _ q => t_chn hr hr' hK (t_bl q)
end
end Dx

set_option Elab.async false
set_option linter.all false
set_option maxRecDepth 100000
set_option maxHeartbeats 1000000
namespace Dx
open PySem PySem.Spec PyProof.Rows L2

/-- a new object laid at p -/
theorem Iv.laid {B : Bs} {Fz : Addr → Prop} {H : Hp} {σ : L2.St} {ρ : List Sl} (I : Iv B Fz H σ ρ) {p : Addr} (h : H p = none) (o : HO) :
    Iv B Fz (upd H p o) σ ρ ∧ Ge Fz H Fz (upd H p o) ∧ (∀ i b, HeldAt σ ρ i b → b ≠ p) ∧ B.H0 p = none ∧ ¬ Fz p := by
  have x := ext_new (o := o) I.fzs h
  refine ⟨I.step x (fzs_new I.fzs h) (fun _ z => z.elim) (fun _ _ _ z => z), x.ge, fun i b hb e => ?_, ?_, fun z => ?_⟩
  · obtain ⟨u, q⟩ := I.held hb
    rw [e, h] at q; cases q
  · cases q : B.H0 p with
    | none => rfl
    | some u =>
      obtain ⟨o', w⟩ := I.ext.there p u q
      rw [h] at w; cases w
  · obtain ⟨C, dx, fs, q⟩ := I.fzs p z
    rw [h] at q; cases q
/-! ### lists of arguments -/
def nsE : Expr → Bool
  | .Starred _ _ => false
  | _ => true
theorem star_cons {e : Expr} {es : List Expr} {env : Env} (h : nsE e = true) : starEach (e :: es) env = (false, eval e env) :: starEach es env := by
  cases e <;> first | rfl | cases h
theorem noStar_any {env : Env} {pos : Pos} : ∀ {es : List Expr}, es.all nsE = true → (backTo pos (starEach es env)).any (·.1) = false
  | [], _ => rfl
  | e :: es, h => by
    rw [List.all_cons, Bool.and_eq_true] at h
    have ih := noStar_any (env := env) (pos := pos) h.2
    rw [star_cons h.1]
    show (backTo pos ((false, eval e env) :: starEach es env)).any (·.1) = false
    unfold backTo at ih ⊢
    rw [List.map_cons, List.any_cons, ih] <;> rfl
def evNil (ρ : List Sl) : R (List D × List Sl) := .ok ([], ρ)
def evCons (f : List Sl → R (D × List Sl)) (g : List Sl → R (List D × List Sl)) (ρ : List Sl) : R (List D × List Sl) := (f ρ).bind fun p => (g p.2).bind fun q => .ok (p.1 :: q.1, q.2)
section
variable {X : Cx} {B : Bs} {E : XK} {a b c e : Expr} {es : List Expr} {f g : List Sl → R (D × List Sl)} {l : List Sl → R (List D × List Sl)} {pos : Pos}
theorem da_nil : PA X [] (tA B E evNil) := weakA pa_nil fun σ H Q ⟨Fz, ρ, I, q⟩ => q [] H Fz I .refl .nil
theorem da_cons (hs : nsE e = true) (ha : PE X e (tE B E f)) (hr : PA X es (tA B E l)) : PA X (e :: es) (tA B E (evCons f l)) :=
  weakA (pa_cons ha hr (star_cons hs)) fun σ H Q ⟨Fz, ρ, I, q⟩ =>
    monoG (tG_bind I q) fun x H1 ⟨F1, ρ1, dx, I1, d1, g1, e1, q1⟩ => monoG (tG_bind I1 q1) fun y H2 ⟨F2, ρ2, dy, I2, d2, g2, e2, q2⟩ =>
      q2 (x :: y) H2 F2 I2 .refl (.cons (d1.mono g2) d2)
/-! ### displays -/
def okLen (n : Nat) : Bool := decide (n ≤ sizeLine)
def evTup (l : List Sl → R (List D × List Sl)) (ρ : List Sl) : R (D × List Sl) := (l ρ).bind fun p => if okLen p.1.length then .ok (.tup p.1, p.2) else .bad
def evLst (l : List Sl → R (List D × List Sl)) (ρ : List Sl) : R (D × List Sl) := (l ρ).bind fun p => if okLen p.1.length then .ok (.lst p.1, p.2) else .bad
theorem fin_if {α β : Type} {Rl : Rel α β} {σ : L2.St} {H : Hp} {Q : β → Hp → Prop} {Fz : Addr → Prop} {c : Bool} {r : R (α × List Sl)} (h : FinG Rl B E σ Q Fz H (if c = true then r else .bad)) : c = true ∧ FinG Rl B E σ Q Fz H r := by
  cases c with
  | true => exact ⟨rfl, h⟩
  | false => exact h.elim
theorem de_tup {k : Nat} (h : PA X es (tA B E l)) : PE X (.Tuple es k pos) (tE B E (evTup l)) :=
  weakE (pe_tup h) fun σ H Q ⟨Fz, ρ, I, q⟩ =>
    monoG (tG_bind I q) fun xs H1 ⟨F1, ρ1, ds, I1, d1, g1, e1, q1⟩ => by
      obtain ⟨hc, q1⟩ := fin_if q1
      refine ⟨by rw [d1.length]; exact of_decide_eq_true hc, fun p hp => ?_⟩
      obtain ⟨I2, g2, _⟩ := I1.laid hp (.tup xs)
      exact q1 _ _ F1 I2 g2 (.tup (.inl upd_same) (d1.mono g2))
theorem do_lst (h : PA X es (tA B E l)) : PE X (.List es pos) (tO B E (evLst l)) :=
  weakE (pe_lst h) fun σ H Q ⟨Fz, ρ, I, q⟩ =>
    monoG (tG_bind I q) fun xs H1 ⟨F1, ρ1, ds, I1, d1, g1, e1, q1⟩ => by
      obtain ⟨hc, q1⟩ := fin_if q1
      refine ⟨by rw [d1.length]; exact of_decide_eq_true hc, fun p hp => ?_⟩
      obtain ⟨I2, g2, ap, h0, nz⟩ := I1.laid hp (.lst xs)
      exact q1 _ _ F1 I2 g2 ⟨p, rfl, ⟨xs, upd_same, d1.mono g2⟩, h0, ap⟩
/-! ### results that are new containers -/
abbrev BackO (B : Bs) (Fz : Addr → Prop) (H : Hp) (σ : L2.St) (ρ : List Sl) (z : D) (Q : VK) : Prop := ∀ v H' Fz', Iv B Fz' H' σ ρ → Ge Fz H Fz' H' → rO B Fz' H' σ ρ v z → Q v H'
theorem BackO.lst {Fz : Addr → Prop} {H : Hp} {σ : L2.St} {ρ : List Sl} {ds : List D} {xs : List V} {Q : VK} (I : Iv B Fz H σ ρ) (d : DenL B.K Fz H xs ds) (b : BackO B Fz H σ ρ (.lst ds) Q) : ∀ p, H p = none → Q (.ref p) (upd H p (.lst xs)) := fun p hp => by
  obtain ⟨I2, g2, ap, h0, nz⟩ := I.laid hp (.lst xs)
  exact b _ _ Fz I2 g2 ⟨p, rfl, ⟨xs, upd_same, d.mono g2⟩, h0, ap⟩
theorem Back.tup {Fz : Addr → Prop} {H : Hp} {σ : L2.St} {ρ : List Sl} {ds : List D} {xs : List V} {Q : VK} (I : Iv B Fz H σ ρ) (d : DenL B.K Fz H xs ds) (b : Back B Fz H σ ρ (.tup ds) Q) : ∀ p, H p = none → Q (.ref p) (upd H p (.tup xs)) := fun p hp => by
  obtain ⟨I2, g2, _⟩ := I.laid hp (.tup xs)
  exact b _ _ Fz I2 g2 (.tup (.inl upd_same) (d.mono g2))
def R2O (K : Frag) (r : R2) (F : D → D → Option D) : Prop :=
  ∀ (B : Bs) (Fz : Addr → Prop) (H : Hp) (σ : L2.St) (ρ : List Sl) (x y : V) (dx dy z : D) (Q : VK), B.K = K → Iv B Fz H σ ρ → Den B.K Fz H x dx → Den B.K Fz H y dy → F dx dy = some z → BackO B Fz H σ ρ z Q → r x y H Q
theorem do_bin {op : Operator} {r : R2} {F : D → D → Option D} (ho : OpR X (binaryOp op) r) (hr : R2O X.K r F) (hK : B.K = X.K) (ha : PE X a (tE B E f)) (hb : PE X b (tE B E g)) : PE X (.BinOp a op b pos) (tO B E (ev2 F f g)) :=
  weakE (pe_op ho ha hb) fun σ H Q ⟨Fz, ρ, I, q⟩ => by
    refine monoG (tG_bind I q) fun x H1 ⟨F1, ρ1, dx, I1, d1, g1, e1, q1⟩ => monoG (tG_bind I1 q1) fun y H2 ⟨F2, ρ2, dy, I2, d2, g2, e2, q2⟩ => ?_
    cases ez : F dx dy with
    | none => rw [show ofO (F (dx, ρ1).1 (dy, ρ2).1) = R.bad by show ofO (F dx dy) = _; rw [ez]; rfl] at q2; exact q2.elim
    | some z =>
      rw [show ofO (F (dx, ρ1).1 (dy, ρ2).1) = R.ok z by show ofO (F dx dy) = _; rw [ez]; rfl] at q2
      exact hr B F2 H2 σ ρ2 x y dx dy z Q hK I2 (d1.mono g2) d2 ez q2
/-! ### calls of built-ins -/
def RLD (K : Frag) (r : List V → Hp → VK → Prop) (F : List D → Option D) : Prop :=
  ∀ (B : Bs) (Fz : Addr → Prop) (H : Hp) (σ : L2.St) (ρ : List Sl) (vs : List V) (ds : List D) (z : D) (Q : VK), B.K = K → Iv B Fz H σ ρ → DenL B.K Fz H vs ds → F ds = some z → Back B Fz H σ ρ z Q → r vs H Q
def RLO (K : Frag) (r : List V → Hp → VK → Prop) (F : List D → Option D) : Prop :=
  ∀ (B : Bs) (Fz : Addr → Prop) (H : Hp) (σ : L2.St) (ρ : List Sl) (vs : List V) (ds : List D) (z : D) (Q : VK), B.K = K → Iv B Fz H σ ρ → DenL B.K Fz H vs ds → F ds = some z → BackO B Fz H σ ρ z Q → r vs H Q
def evL (F : List D → Option D) (l : List Sl → R (List D × List Sl)) (ρ : List Sl) : R (D × List Sl) := (l ρ).bind fun p => (ofO (F p.1)).bind fun z => .ok (z, p.2)
theorem fin_ofO {α β : Type} {Rl : Rel D β} {σ : L2.St} {H : Hp} {Q : β → Hp → Prop} {Fz : Addr → Prop} {ρ : List Sl} {o : Option D} (q : FinG Rl B E σ Q Fz H ((ofO o).bind fun z => .ok (z, ρ))) :
    ∃ z, o = some z ∧ FinG Rl B E σ Q Fz H (.ok (z, ρ)) := by
  cases o with
  | none => exact q.elim
  | some z => exact ⟨z, rfl, q⟩
theorem t_cb {K : Frag} {r : List V → Hp → VK → Prop} {F : List D → Option D} (hr : RLD K r F) (hK : B.K = K) {σ : L2.St} {H : Hp} {Q : VK} (h : tE B E (evL F l) σ H Q) : tCB r (tA B E l) σ H Q := by
  obtain ⟨Fz, ρ, I, q⟩ := h
  refine monoG (tG_bind I q) fun x H1 ⟨F1, ρ1, dx, I1, d1, g1, e1, q1⟩ => ?_
  obtain ⟨z, ez, b⟩ := fin_ofO (α := D) q1
  exact hr B F1 H1 σ ρ1 x dx z Q hK I1 d1 ez b
theorem t_cbO {K : Frag} {r : List V → Hp → VK → Prop} {F : List D → Option D} (hr : RLO K r F) (hK : B.K = K) {σ : L2.St} {H : Hp} {Q : VK} (h : tO B E (evL F l) σ H Q) : tCB r (tA B E l) σ H Q := by
  obtain ⟨Fz, ρ, I, q⟩ := h
  refine monoG (tG_bind I q) fun x H1 ⟨F1, ρ1, dx, I1, d1, g1, e1, q1⟩ => ?_
  obtain ⟨z, ez, b⟩ := fin_ofO (α := D) q1
  exact hr B F1 H1 σ ρ1 x dx z Q hK I1 d1 ez b
theorem nn_of {x : Str} (h : (x == ("__name__" : Str)) = false) : x ≠ "__name__" := fun z => by rw [z] at h; simp at h
variable {x : Str} {p : Pos} {id T : String} {r : List V → Hp → VK → Prop} {F : List D → Option D}
theorem de_callB (hc : CallR X (.builtin id) r) (hr : RLD X.K r F) (hK : B.K = X.K) (hg : Gl X x) (hm : X.mg x = none) (hv : bootBuiltins x = some (.builtin id)) (hn : (x == ("__name__" : Str)) = false) (hdb : (x == ("__debug__" : Str)) = false)
    (hs : nsE e = true) (hss : es.all nsE = true) (ha : PA X (e :: es) (tA B E l)) : PE X (.Call (.Name x p) (e :: es) [] pos) (tE B E (evL F l)) :=
  weakE (pe_callB hc hg hm hv ha (nn_of hn) hdb (star_cons hs) (noStar_any hss)) fun _ _ _ h => t_cb hr hK h
theorem de_callTy (hc : CallR X (.type T) r) (hr : RLD X.K r F) (hK : B.K = X.K) (hg : Gl X x) (hm : X.mg x = none) (hv : bootBuiltins x = some (.type T)) (hn : (x == ("__name__" : Str)) = false) (hdb : (x == ("__debug__" : Str)) = false)
    (hs : nsE e = true) (hss : es.all nsE = true) (ha : PA X (e :: es) (tA B E l)) : PE X (.Call (.Name x p) (e :: es) [] pos) (tE B E (evL F l)) :=
  weakE (pe_callTy hc hg hm hv ha (nn_of hn) hdb (star_cons hs) (noStar_any hss)) fun _ _ _ h => t_cb hr hK h
theorem do_callB (hc : CallR X (.builtin id) r) (hr : RLO X.K r F) (hK : B.K = X.K) (hg : Gl X x) (hm : X.mg x = none) (hv : bootBuiltins x = some (.builtin id)) (hn : (x == ("__name__" : Str)) = false) (hdb : (x == ("__debug__" : Str)) = false)
    (hs : nsE e = true) (hss : es.all nsE = true) (ha : PA X (e :: es) (tA B E l)) : PE X (.Call (.Name x p) (e :: es) [] pos) (tO B E (evL F l)) :=
  weakE (pe_callB hc hg hm hv ha (nn_of hn) hdb (star_cons hs) (noStar_any hss)) fun _ _ _ h => t_cbO hr hK h
theorem do_callTy (hc : CallR X (.type T) r) (hr : RLO X.K r F) (hK : B.K = X.K) (hg : Gl X x) (hm : X.mg x = none) (hv : bootBuiltins x = some (.type T)) (hn : (x == ("__name__" : Str)) = false) (hdb : (x == ("__debug__" : Str)) = false)
    (hs : nsE e = true) (hss : es.all nsE = true) (ha : PA X (e :: es) (tA B E l)) : PE X (.Call (.Name x p) (e :: es) [] pos) (tO B E (evL F l)) :=
  weakE (pe_callTy hc hg hm hv ha (nn_of hn) hdb (star_cons hs) (noStar_any hss)) fun _ _ _ h => t_cbO hr hK h
end
end Dx

set_option Elab.async false
set_option linter.all false
set_option maxRecDepth 100000
set_option maxHeartbeats 1000000
namespace Dx
open PySem PySem.Spec PyProof.Rows L2

/-! ### == of data: None, bools, ints, texts, lists, tuples -/
mutual
def flatD : D → Bool
  | .non => true
  | .bl _ => true
  | .int _ => true
  | .str _ => true
  | .tup l => flatL l
  | .lst l => flatL l
  | _ => false
def flatL : List D → Bool
  | [] => true
  | d :: l => flatD d && flatL l
end
mutual
def depD : D → Nat
  | .tup l => depL l + 1
  | .lst l => depL l + 1
  | _ => 0
def depL : List D → Nat
  | [] => 0
  | d :: l => max (depD d) (depL l)
end
mutual
def eqD : D → D → Bool
  | .non, .non => true
  | .bl a, .bl b => a == b
  | .bl a, .int b => (if a then 1 else 0) == b
  | .int a, .bl b => a == (if b then 1 else 0)
  | .int a, .int b => a == b
  | .str a, .str b => a == b
  | .tup l, .tup m => eqL l m
  | .lst l, .lst m => eqL l m
  | _, _ => false
def eqL : List D → List D → Bool
  | [], [] => true
  | a :: l, b :: m => eqD a b && eqL l m
  | _, _ => false
end
mutual
theorem eqD_refl : ∀ d : D, flatD d = true → eqD d d = true
  | .non, _ => rfl
  | .bl b, _ => by simp [eqD]
  | .int b, _ => by simp [eqD]
  | .str b, _ => by simp [eqD]
  | .tup l, h => by rw [eqD]; exact eqL_refl l (by simpa [flatD] using h)
  | .lst l, h => by rw [eqD]; exact eqL_refl l (by simpa [flatD] using h)
  | .dic l, h => by simp [flatD] at h
  | .ins _ l, h => by simp [flatD] at h
  | .exn _ l, h => by simp [flatD] at h
theorem eqL_refl : ∀ l : List D, flatL l = true → eqL l l = true
  | [], _ => by rw [eqL]
  | d :: l, h => by
    rw [flatL, Bool.and_eq_true] at h
    rw [eqL, eqD_refl d h.1, eqL_refl l h.2] <;> rfl
end
section
variable {X : Cx} {pins : List (Addr × Obj)} {σ : L2.St} {H : Hp} {s : Shared} {Fz : Addr → Prop}
mutual
theorem den_fun (I : Inv X pins σ H s) : ∀ {v : V} {d d' : D}, flatD d = true → flatD d' = true → Den X.K Fz H v d → Den X.K Fz H v d' → d = d'
  | _, _, _, _, _, .non, h => by cases h; rfl
  | _, _, _, _, _, .bl b, h => by cases h; rfl
  | _, _, _, _, _, .int b, h => by cases h; rfl
  | _, _, _, _, _, .str b, h => by cases h; rfl
  | _, _, _, f, f', .tup h l, h' => by
    cases h' with
    | tup h2 l2 =>
      have e := I.tuple_inj h.t h2.t
      subst e
      rw [denL_fun I (by simpa [flatD] using f) (by simpa [flatD] using f') l l2]
    | lst h2 l2 =>
      obtain ⟨its, r, ⟨o, e, c, n, d⟩, _⟩ := I.tuple h.t
      obtain ⟨its', r', ⟨o', n', e', c', _, d'⟩, _⟩ := I.list h2.l
      have ho : o = o' := Option.some.inj (e.symm.trans e')
      rw [ho, c'] at c
      injection c with c
      exact absurd c (by decide)
    | dic h2 l2 => simp [flatD] at f'
    | ins a b c => simp [flatD] at f'
    | exn a b c => simp [flatD] at f'
  | _, _, _, f, f', .lst h l, h' => by
    cases h' with
    | lst h2 l2 =>
      have e := I.list_inj h.l h2.l
      subst e
      rw [denL_fun I (by simpa [flatD] using f) (by simpa [flatD] using f') l l2]
    | tup h2 l2 =>
      obtain ⟨its, r, ⟨o, e, c, n, d⟩, _⟩ := I.tuple h2.t
      obtain ⟨its', r', ⟨o', n', e', c', _, d'⟩, _⟩ := I.list h.l
      have ho : o = o' := Option.some.inj (e.symm.trans e')
      rw [ho, c'] at c
      injection c with c
      exact absurd c (by decide)
    | dic h2 l2 => simp [flatD] at f'
    | ins a b c => simp [flatD] at f'
    | exn a b c => simp [flatD] at f'
  | _, _, _, f, _, .dic h l, _ => by simp [flatD] at f
  | _, _, _, f, _, .ins a b c, _ => by simp [flatD] at f
  | _, _, _, f, _, .exn a b c, _ => by simp [flatD] at f
theorem denL_fun (I : Inv X pins σ H s) : ∀ {v : List V} {d d' : List D}, flatL d = true → flatL d' = true → DenL X.K Fz H v d → DenL X.K Fz H v d' → d = d'
  | _, _, _, _, _, .nil, h => by cases h; rfl
  | _, _, _, f, f', .cons a l, .cons a2 l2 => by
    rw [flatL, Bool.and_eq_true] at f f'
    rw [den_fun I f.1 f'.1 a a2, denL_fun I f.2 f'.2 l l2]
end
theorem DenL.tup_at (I : Inv X pins σ H s) {a : Addr} {vs : List V} (h : SqU X.K H a vs) : ∃ its : List Value, Vals vs its ∧ s.heap.IsTuple a its.toArray := by
  obtain ⟨its, r, p, _⟩ := I.tuple h.t
  exact ⟨its, r, p⟩
theorem DenL.lst_at (I : Inv X pins σ H s) {a : Addr} {vs : List V} (h : SqF X.K H a vs) : ∃ its : List Value, Vals vs its ∧ s.heap.IsList a its.toArray := by
  obtain ⟨its, r, ⟨o, n, e, c, _, d⟩, _⟩ := I.list h.l
  exact ⟨its, r, ⟨o, e, c, n, d⟩⟩
open PySem.SeqAt in
/-- the pairs of two lists, as eqL asks them -/
def pairEqL (l m : List D) (j : Nat) : Bool := match l[j]?, m[j]? with
  | some a, some b => eqD a b
  | _, _ => false
theorem all_pairs : ∀ (l m : List D), l.length = m.length → (List.range l.length).all (pairEqL l m) = eqL l m
  | [], [], _ => by simp [eqL]
  | a :: l, b :: m, h => by
    have ih := all_pairs l m (by simpa using h)
    rw [eqL, List.length_cons, List.range_succ_eq_map, List.all_cons, List.all_map]
    have e : (pairEqL (a :: l) (b :: m) ∘ Nat.succ) = pairEqL l m := by funext j; rfl
    rw [e, ih] <;> rfl
  | [], _ :: _, h => by simp at h
  | _ :: _, [], h => by simp at h
theorem eqL_len : ∀ (l m : List D), l.length ≠ m.length → eqL l m = false
  | [], [], h => absurd rfl h
  | a :: l, b :: m, h => by rw [eqL, eqL_len l m (by simpa using h), Bool.and_false]
  | [], _ :: _, _ => by rw [eqL] <;> simp
  | _ :: _, [], _ => by rw [eqL] <;> simp
open PySem.SeqAt in
mutual
theorem eq_at (I : Inv X pins σ H s) : ∀ (d d' : D) (A : Around) (v u : V) (x y : Value), A.units + depD d < cLine → flatD d = true → flatD d' = true → Den X.K Fz H v d → Den X.K Fz H u d' → RelV v x → RelV u y → EqAt A s x y (eqD d d')
  | .non, d', A, v, u, x, y, hu, f, f', h, h', rx, ry => by
    cases h; cases rx
    cases h' with
    | non => cases ry; exact EqAt.same _
    | bl b => cases ry; exact EqAt.none_bool b
    | int i => obtain ⟨t, rfl⟩ := ry; exact EqAt.none_int i t
    | str i => obtain ⟨t, rfl⟩ := ry; exact EqAt.none_str i t
    | tup q l => cases ry; obtain ⟨its, r, p⟩ := DenL.tup_at I q; exact EqAt.none_tuple p (by omega)
    | lst q l => cases ry; obtain ⟨its, r, p⟩ := DenL.lst_at I q; exact EqAt.none_list p (by omega)
    | dic a b => simp [flatD] at f'
    | ins a b c => simp [flatD] at f'
    | exn a b c => simp [flatD] at f'
  | .bl k, d', A, v, u, x, y, hu, f, f', h, h', rx, ry => by
    cases h; cases rx
    cases h' with
    | non => cases ry; exact EqAt.bool_none k
    | bl b => cases ry; exact EqAt.bool_bool k b
    | int i => obtain ⟨t, rfl⟩ := ry; exact EqAt.bool_int k i t
    | str i => obtain ⟨t, rfl⟩ := ry; exact EqAt.bool_str k i t
    | tup q l => cases ry; obtain ⟨its, r, p⟩ := DenL.tup_at I q; exact EqAt.bool_tuple k p (by omega)
    | lst q l => cases ry; obtain ⟨its, r, p⟩ := DenL.lst_at I q; exact EqAt.bool_list k p (by omega)
    | dic a b => simp [flatD] at f'
    | ins a b c => simp [flatD] at f'
    | exn a b c => simp [flatD] at f'
  | .int k, d', A, v, u, x, y, hu, f, f', h, h', rx, ry => by
    cases h; obtain ⟨tk, rfl⟩ := rx
    cases h' with
    | non => cases ry; exact EqAt.int_none k tk
    | bl b => cases ry; exact EqAt.int_bool k tk b
    | int i => obtain ⟨t, rfl⟩ := ry; exact EqAt.int_int k tk i t
    | str i => obtain ⟨t, rfl⟩ := ry; exact EqAt.int_str k tk i t
    | tup q l => cases ry; obtain ⟨its, r, p⟩ := DenL.tup_at I q; exact EqAt.int_tuple k tk p (by omega)
    | lst q l => cases ry; obtain ⟨its, r, p⟩ := DenL.lst_at I q; exact EqAt.int_list k tk p (by omega)
    | dic a b => simp [flatD] at f'
    | ins a b c => simp [flatD] at f'
    | exn a b c => simp [flatD] at f'
  | .str k, d', A, v, u, x, y, hu, f, f', h, h', rx, ry => by
    cases h; obtain ⟨tk, rfl⟩ := rx
    cases h' with
    | non => cases ry; exact EqAt.str_none k tk
    | bl b => cases ry; exact EqAt.str_bool k tk b
    | int i => obtain ⟨t, rfl⟩ := ry; exact EqAt.str_int k tk i t
    | str i => obtain ⟨t, rfl⟩ := ry; exact EqAt.str_str k tk i t
    | tup q l => cases ry; obtain ⟨its, r, p⟩ := DenL.tup_at I q; exact EqAt.str_tuple k tk p (by omega)
    | lst q l => cases ry; obtain ⟨its, r, p⟩ := DenL.lst_at I q; exact EqAt.str_list k tk p (by omega)
    | dic a b => simp [flatD] at f'
    | ins a b c => simp [flatD] at f'
    | exn a b c => simp [flatD] at f'
  | .tup l, d', A, v, u, x, y, hu, f, f', h, h', rx, ry => by
    cases h with
    | tup q l1 =>
      cases rx
      obtain ⟨its, r, p⟩ := DenL.tup_at I q
      have hu' : A.units < cLine := by omega
      cases h' with
      | non => cases ry; exact EqAt.tuple_none p hu'
      | bl b => cases ry; exact EqAt.tuple_bool b p hu'
      | int i => obtain ⟨t, rfl⟩ := ry; exact EqAt.tuple_int i t p hu'
      | str i => obtain ⟨t, rfl⟩ := ry; exact EqAt.tuple_str i t p hu'
      | lst q2 l2 => cases ry; obtain ⟨its2, r2, p2⟩ := DenL.lst_at I q2; exact EqAt.tuple_list p p2 hu'
      | tup q2 l2 =>
        cases ry
        rename_i a vs b vs2 ds2
        obtain ⟨its2, r2, p2⟩ := DenL.tup_at I q2
        rw [eqD]
        by_cases hab : a = b
        · subst hab
          have := den_fun I f f' (.tup q l1) (.tup q2 l2)
          cases this
          rw [eqL_refl l (by simpa [flatD] using f)]
          exact EqAt.same _
        · refine EqAt.of_refs hab ?_
          have hl : its.length = l.length := by rw [← r.length, l1.length]
          have hl2 : its2.length = ds2.length := by rw [← r2.length, l2.length]
          have key := RcAt.tuples (A := A) (e := pairEqL l ds2) p p2 hu' fun j h1 h2 => by
            have e1 : j < its.length := by simpa using h1
            have e2 : j < its2.length := by simpa using h2
            have := eq_atL I l ds2 A.in1 _ _ _ _ (by show A.units + 1 + depL l < cLine; simp only [depD] at hu; omega) (by simpa [flatD] using f) (by simpa [flatD] using f') l1 l2 r r2 j e1 e2
            simpa using this
          have ek : ((List.range (min its.toArray.size its2.toArray.size)).all (pairEqL l ds2) && its.toArray.size == its2.toArray.size) = eqL l ds2 := by
            simp only [List.size_toArray, hl, hl2]
            by_cases hz : l.length = ds2.length
            · rw [← hz, Nat.min_self, all_pairs l ds2 hz]; simp
            · rw [eqL_len l ds2 hz]
              have : (l.length == ds2.length) = false := by simpa using hz
              rw [this, Bool.and_false]
          rw [ek] at key
          exact key
      | dic a b => simp [flatD] at f'
      | ins a b c => simp [flatD] at f'
      | exn a b c => simp [flatD] at f'
  | .lst l, d', A, v, u, x, y, hu, f, f', h, h', rx, ry => by
    cases h with
    | lst q l1 =>
      cases rx
      obtain ⟨its, r, p⟩ := DenL.lst_at I q
      have hu' : A.units < cLine := by omega
      cases h' with
      | non => cases ry; exact EqAt.list_none p hu'
      | bl b => cases ry; exact EqAt.list_bool b p hu'
      | int i => obtain ⟨t, rfl⟩ := ry; exact EqAt.list_int i t p hu'
      | str i => obtain ⟨t, rfl⟩ := ry; exact EqAt.list_str i t p hu'
      | tup q2 l2 => cases ry; obtain ⟨its2, r2, p2⟩ := DenL.tup_at I q2; exact EqAt.list_tuple p p2 hu'
      | lst q2 l2 =>
        cases ry
        rename_i a vs b vs2 ds2
        obtain ⟨its2, r2, p2⟩ := DenL.lst_at I q2
        rw [eqD]
        by_cases hab : a = b
        · subst hab
          have := den_fun I f f' (.lst q l1) (.lst q2 l2)
          cases this
          rw [eqL_refl l (by simpa [flatD] using f)]
          exact EqAt.same _
        · refine EqAt.of_refs hab ?_
          have hl : its.length = l.length := by rw [← r.length, l1.length]
          have hl2 : its2.length = ds2.length := by rw [← r2.length, l2.length]
          by_cases hz : l.length = ds2.length
          · have key := RcAt.lists (A := A) (e := pairEqL l ds2) p p2 (by simp [hl, hl2, hz]) hu' fun j h1 h2 => by
              have e1 : j < its.length := by simpa using h1
              have e2 : j < its2.length := by simpa using h2
              have := eq_atL I l ds2 A.in1 _ _ _ _ (by show A.units + 1 + depL l < cLine; simp only [depD] at hu; omega) (by simpa [flatD] using f) (by simpa [flatD] using f') l1 l2 r r2 j e1 e2
              simpa using this
            have ek : (List.range its.toArray.size).all (pairEqL l ds2) = eqL l ds2 := by
              simp only [List.size_toArray, hl]
              exact all_pairs l ds2 hz
            rw [ek] at key
            exact key
          · rw [eqL_len l ds2 hz]
            exact RcAt.lists_lengths p p2 (by simpa [hl, hl2] using hz) hu'
      | dic a b => simp [flatD] at f'
      | ins a b c => simp [flatD] at f'
      | exn a b c => simp [flatD] at f'
  | .dic l, d', A, v, u, x, y, hu, f, f', h, h', rx, ry => by simp [flatD] at f
  | .ins _ l, d', A, v, u, x, y, hu, f, f', h, h', rx, ry => by simp [flatD] at f
  | .exn _ l, d', A, v, u, x, y, hu, f, f', h, h', rx, ry => by simp [flatD] at f
theorem eq_atL (I : Inv X pins σ H s) : ∀ (l m : List D) (A : Around) (vs us : List V) (xs ys : List Value), A.units + depL l < cLine → flatL l = true → flatL m = true → DenL X.K Fz H vs l → DenL X.K Fz H us m → Vals vs xs → Vals us ys →
    ∀ j (h1 : j < xs.length) (h2 : j < ys.length), EqAt A s xs[j] ys[j] (pairEqL l m j)
  | [], m, A, vs, us, xs, ys, hu, f, f', h, h', rx, ry, j, h1, h2 => by
    cases h; cases rx; exact absurd h1 (Nat.not_lt_zero _)
  | d :: l, [], A, vs, us, xs, ys, hu, f, f', h, h', rx, ry, j, h1, h2 => by
    cases h'; cases ry; exact absurd h2 (Nat.not_lt_zero _)
  | d :: l, e :: m, A, vs, us, xs, ys, hu, f, f', h, h', rx, ry, j, h1, h2 => by
    cases h with
    | cons a b =>
      cases h' with
      | cons a2 b2 =>
        cases rx with
        | cons q1 q2 =>
          cases ry with
          | cons p1 p2 =>
            rw [flatL, Bool.and_eq_true] at f f'
            rw [depL] at hu
            have m1 : depD d ≤ max (depD d) (depL l) := Nat.le_max_left _ _
            have m2 : depL l ≤ max (depD d) (depL l) := Nat.le_max_right _ _
            cases j with
            | zero => exact eq_at I d e A _ _ _ _ (by omega) f.1 f'.1 a a2 q1 p1
            | succ j => exact eq_atL I l m A _ _ _ _ (by omega) f.2 f'.2 b b2 q2 p2 j (by simpa using h1) (by simpa using h2)
end
end
end Dx

set_option Elab.async false
set_option linter.all false
set_option maxRecDepth 100000
set_option maxHeartbeats 1000000
namespace Dx
open PySem PySem.Spec PyProof.Rows L2
section
variable {X : Cx} {pins : List (Addr × Obj)} {σ : L2.St} {H : Hp} {s : Shared} {Fz : Addr → Prop}
open PySem.SeqAt in
theorem rc_at (I : Inv X pins σ H s) : ∀ (d d' : D) (A : Around) (v u : V) (x y : Value), A.units + depD d < cLine → flatD d = true → flatD d' = true → Den X.K Fz H v d → Den X.K Fz H u d' → RelV v x → RelV u y → RcAt A s x y (eqD d d')
  | .non, d', A, v, u, x, y, hu, f, f', h, h', rx, ry => by
    cases h; cases rx
    cases h' with
    | non => cases ry; exact RcAt.none_none
    | bl b => cases ry; exact RcAt.none_bool b
    | int i => obtain ⟨t, rfl⟩ := ry; exact RcAt.none_int i t
    | str i => obtain ⟨t, rfl⟩ := ry; exact RcAt.none_str i t
    | tup q l => cases ry; obtain ⟨its, r, p⟩ := DenL.tup_at I q; exact RcAt.none_tuple p (by omega)
    | lst q l => cases ry; obtain ⟨its, r, p⟩ := DenL.lst_at I q; exact RcAt.none_list p (by omega)
    | dic a b => simp [flatD] at f'
    | ins a b c => simp [flatD] at f'
    | exn a b c => simp [flatD] at f'
  | .bl k, d', A, v, u, x, y, hu, f, f', h, h', rx, ry => by
    cases h; cases rx
    cases h' with
    | non => cases ry; exact RcAt.bool_none k
    | bl b => cases ry; exact RcAt.bool_bool k b
    | int i => obtain ⟨t, rfl⟩ := ry; exact RcAt.bool_int k i t
    | str i => obtain ⟨t, rfl⟩ := ry; exact RcAt.bool_str k i t
    | tup q l => cases ry; obtain ⟨its, r, p⟩ := DenL.tup_at I q; exact RcAt.bool_tuple k p (by omega)
    | lst q l => cases ry; obtain ⟨its, r, p⟩ := DenL.lst_at I q; exact RcAt.bool_list k p (by omega)
    | dic a b => simp [flatD] at f'
    | ins a b c => simp [flatD] at f'
    | exn a b c => simp [flatD] at f'
  | .int k, d', A, v, u, x, y, hu, f, f', h, h', rx, ry => by
    cases h; obtain ⟨tk, rfl⟩ := rx
    cases h' with
    | non => cases ry; exact RcAt.int_none k tk
    | bl b => cases ry; exact RcAt.int_bool k tk b
    | int i => obtain ⟨t, rfl⟩ := ry; exact RcAt.int_int k tk i t
    | str i => obtain ⟨t, rfl⟩ := ry; exact RcAt.int_str k tk i t
    | tup q l => cases ry; obtain ⟨its, r, p⟩ := DenL.tup_at I q; exact RcAt.int_tuple k tk p (by omega)
    | lst q l => cases ry; obtain ⟨its, r, p⟩ := DenL.lst_at I q; exact RcAt.int_list k tk p (by omega)
    | dic a b => simp [flatD] at f'
    | ins a b c => simp [flatD] at f'
    | exn a b c => simp [flatD] at f'
  | .str k, d', A, v, u, x, y, hu, f, f', h, h', rx, ry => by
    cases h; obtain ⟨tk, rfl⟩ := rx
    cases h' with
    | non => cases ry; exact RcAt.str_none k tk
    | bl b => cases ry; exact RcAt.str_bool k tk b
    | int i => obtain ⟨t, rfl⟩ := ry; exact RcAt.str_int k tk i t
    | str i => obtain ⟨t, rfl⟩ := ry; exact RcAt.str_str k tk i t
    | tup q l => cases ry; obtain ⟨its, r, p⟩ := DenL.tup_at I q; exact RcAt.str_tuple k tk p (by omega)
    | lst q l => cases ry; obtain ⟨its, r, p⟩ := DenL.lst_at I q; exact RcAt.str_list k tk p (by omega)
    | dic a b => simp [flatD] at f'
    | ins a b c => simp [flatD] at f'
    | exn a b c => simp [flatD] at f'
  | .tup l, d', A, v, u, x, y, hu, f, f', h, h', rx, ry => by
    cases h with
    | tup q l1 =>
      cases rx
      obtain ⟨its, r, p⟩ := DenL.tup_at I q
      have hu' : A.units < cLine := by omega
      cases h' with
      | non => cases ry; exact RcAt.tuple_none p hu'
      | bl b => cases ry; exact RcAt.tuple_bool b p hu'
      | int i => obtain ⟨t, rfl⟩ := ry; exact RcAt.tuple_int i t p hu'
      | str i => obtain ⟨t, rfl⟩ := ry; exact RcAt.tuple_str i t p hu'
      | lst q2 l2 => cases ry; obtain ⟨jts, r2, p2⟩ := DenL.lst_at I q2; exact RcAt.tuple_list p p2 hu'
      | tup q2 l2 =>
        cases ry
        rename_i a vs b vs2 ds2
        obtain ⟨jts, r2, p2⟩ := DenL.tup_at I q2
        rw [eqD]
        have hl : its.length = l.length := by rw [← r.length, l1.length]
        have hl2 : jts.length = ds2.length := by rw [← r2.length, l2.length]
        have key := RcAt.tuples (A := A) (e := pairEqL l ds2) p p2 hu' fun j h1 h2 => by
          have e1 : j < its.length := by simpa using h1
          have e2 : j < jts.length := by simpa using h2
          have := eq_atL I l ds2 A.in1 _ _ _ _ (by show A.units + 1 + depL l < cLine; simp only [depD] at hu; omega) (by simpa [flatD] using f) (by simpa [flatD] using f') l1 l2 r r2 j e1 e2
          simpa using this
        have ek : ((List.range (min its.toArray.size jts.toArray.size)).all (pairEqL l ds2) && its.toArray.size == jts.toArray.size) = eqL l ds2 := by
          simp only [List.size_toArray, hl, hl2]
          by_cases gz : l.length = ds2.length
          · rw [← gz, Nat.min_self, all_pairs l ds2 gz]; simp
          · rw [eqL_len l ds2 gz]
            have : (l.length == ds2.length) = false := by simpa using gz
            rw [this, Bool.and_false]
        rw [ek] at key
        exact key
      | dic a b => simp [flatD] at f'
      | ins a b c => simp [flatD] at f'
      | exn a b c => simp [flatD] at f'
  | .lst l, d', A, v, u, x, y, hu, f, f', h, h', rx, ry => by
    cases h with
    | lst q l1 =>
      cases rx
      obtain ⟨its, r, p⟩ := DenL.lst_at I q
      have hu' : A.units < cLine := by omega
      cases h' with
      | non => cases ry; exact RcAt.list_none p hu'
      | bl b => cases ry; exact RcAt.list_bool b p hu'
      | int i => obtain ⟨t, rfl⟩ := ry; exact RcAt.list_int i t p hu'
      | str i => obtain ⟨t, rfl⟩ := ry; exact RcAt.list_str i t p hu'
      | tup q2 l2 => cases ry; obtain ⟨jts, r2, p2⟩ := DenL.tup_at I q2; exact RcAt.list_tuple p p2 hu'
      | lst q2 l2 =>
        cases ry
        rename_i a vs b vs2 ds2
        obtain ⟨jts, r2, p2⟩ := DenL.lst_at I q2
        rw [eqD]
        have hl : its.length = l.length := by rw [← r.length, l1.length]
        have hl2 : jts.length = ds2.length := by rw [← r2.length, l2.length]
        by_cases gz : l.length = ds2.length
        · have key := RcAt.lists (A := A) (e := pairEqL l ds2) p p2 (by simp [hl, hl2, gz]) hu' fun j h1 h2 => by
            have e1 : j < its.length := by simpa using h1
            have e2 : j < jts.length := by simpa using h2
            have := eq_atL I l ds2 A.in1 _ _ _ _ (by show A.units + 1 + depL l < cLine; simp only [depD] at hu; omega) (by simpa [flatD] using f) (by simpa [flatD] using f') l1 l2 r r2 j e1 e2
            simpa using this
          have ek : (List.range its.toArray.size).all (pairEqL l ds2) = eqL l ds2 := by
            simp only [List.size_toArray, hl]
            exact all_pairs l ds2 gz
          rw [ek] at key
          exact key
        · rw [eqL_len l ds2 gz]
          exact RcAt.lists_lengths p p2 (by simpa [hl, hl2] using gz) hu'
      | dic a b => simp [flatD] at f'
      | ins a b c => simp [flatD] at f'
      | exn a b c => simp [flatD] at f'
  | .dic l, d', A, v, u, x, y, hu, f, f', h, h', rx, ry => by simp [flatD] at f
  | .ins _ l, d', A, v, u, x, y, hu, f, f', h, h', rx, ry => by simp [flatD] at f
  | .exn _ l, d', A, v, u, x, y, hu, f, f', h, h', rx, ry => by simp [flatD] at f
open PySem.SeqAt in
theorem rn_at (I : Inv X pins σ H s) : ∀ (d d' : D) (A : Around) (v u : V) (x y : Value), A.units + depD d < cLine → flatD d = true → flatD d' = true → Den X.K Fz H v d → Den X.K Fz H u d' → RelV v x → RelV u y → RcNeAt A s x y (!eqD d d')
  | .non, d', A, v, u, x, y, hu, f, f', h, h', rx, ry => by
    cases h; cases rx
    cases h' with
    | non => cases ry; exact RcNeAt.none_none
    | bl b => cases ry; exact RcNeAt.none_bool b
    | int i => obtain ⟨t, rfl⟩ := ry; exact RcNeAt.none_int i t
    | str i => obtain ⟨t, rfl⟩ := ry; exact RcNeAt.none_str i t
    | tup q l => cases ry; obtain ⟨its, r, p⟩ := DenL.tup_at I q; exact RcNeAt.none_tuple p (by omega)
    | lst q l => cases ry; obtain ⟨its, r, p⟩ := DenL.lst_at I q; exact RcNeAt.none_list p (by omega)
    | dic a b => simp [flatD] at f'
    | ins a b c => simp [flatD] at f'
    | exn a b c => simp [flatD] at f'
  | .bl k, d', A, v, u, x, y, hu, f, f', h, h', rx, ry => by
    cases h; cases rx
    cases h' with
    | non => cases ry; exact RcNeAt.bool_none k
    | bl b => cases ry; exact RcNeAt.bool_bool k b
    | int i => obtain ⟨t, rfl⟩ := ry; exact RcNeAt.bool_int k i t
    | str i => obtain ⟨t, rfl⟩ := ry; exact RcNeAt.bool_str k i t
    | tup q l => cases ry; obtain ⟨its, r, p⟩ := DenL.tup_at I q; exact RcNeAt.bool_tuple k p (by omega)
    | lst q l => cases ry; obtain ⟨its, r, p⟩ := DenL.lst_at I q; exact RcNeAt.bool_list k p (by omega)
    | dic a b => simp [flatD] at f'
    | ins a b c => simp [flatD] at f'
    | exn a b c => simp [flatD] at f'
  | .int k, d', A, v, u, x, y, hu, f, f', h, h', rx, ry => by
    cases h; obtain ⟨tk, rfl⟩ := rx
    cases h' with
    | non => cases ry; exact RcNeAt.int_none k tk
    | bl b => cases ry; exact RcNeAt.int_bool k tk b
    | int i => obtain ⟨t, rfl⟩ := ry; exact RcNeAt.int_int k tk i t
    | str i => obtain ⟨t, rfl⟩ := ry; exact RcNeAt.int_str k tk i t
    | tup q l => cases ry; obtain ⟨its, r, p⟩ := DenL.tup_at I q; exact RcNeAt.int_tuple k tk p (by omega)
    | lst q l => cases ry; obtain ⟨its, r, p⟩ := DenL.lst_at I q; exact RcNeAt.int_list k tk p (by omega)
    | dic a b => simp [flatD] at f'
    | ins a b c => simp [flatD] at f'
    | exn a b c => simp [flatD] at f'
  | .str k, d', A, v, u, x, y, hu, f, f', h, h', rx, ry => by
    cases h; obtain ⟨tk, rfl⟩ := rx
    cases h' with
    | non => cases ry; exact RcNeAt.str_none k tk
    | bl b => cases ry; exact RcNeAt.str_bool k tk b
    | int i => obtain ⟨t, rfl⟩ := ry; exact RcNeAt.str_int k tk i t
    | str i => obtain ⟨t, rfl⟩ := ry; exact RcNeAt.str_str k tk i t
    | tup q l => cases ry; obtain ⟨its, r, p⟩ := DenL.tup_at I q; exact RcNeAt.str_tuple k tk p (by omega)
    | lst q l => cases ry; obtain ⟨its, r, p⟩ := DenL.lst_at I q; exact RcNeAt.str_list k tk p (by omega)
    | dic a b => simp [flatD] at f'
    | ins a b c => simp [flatD] at f'
    | exn a b c => simp [flatD] at f'
  | .tup l, d', A, v, u, x, y, hu, f, f', h, h', rx, ry => by
    cases h with
    | tup q l1 =>
      cases rx
      obtain ⟨its, r, p⟩ := DenL.tup_at I q
      have hu' : A.units < cLine := by omega
      cases h' with
      | non => cases ry; exact RcNeAt.tuple_none p hu'
      | bl b => cases ry; exact RcNeAt.tuple_bool b p hu'
      | int i => obtain ⟨t, rfl⟩ := ry; exact RcNeAt.tuple_int i t p hu'
      | str i => obtain ⟨t, rfl⟩ := ry; exact RcNeAt.tuple_str i t p hu'
      | lst q2 l2 => cases ry; obtain ⟨jts, r2, p2⟩ := DenL.lst_at I q2; exact RcNeAt.tuple_list p p2 hu'
      | tup q2 l2 =>
        cases ry
        rename_i a vs b vs2 ds2
        obtain ⟨jts, r2, p2⟩ := DenL.tup_at I q2
        rw [eqD]
        have hl : its.length = l.length := by rw [← r.length, l1.length]
        have hl2 : jts.length = ds2.length := by rw [← r2.length, l2.length]
        have key := RcNeAt.tuples (A := A) (e := pairEqL l ds2) p p2 hu' fun j h1 h2 => by
          have e1 : j < its.length := by simpa using h1
          have e2 : j < jts.length := by simpa using h2
          have := eq_atL I l ds2 A.in1 _ _ _ _ (by show A.units + 1 + depL l < cLine; simp only [depD] at hu; omega) (by simpa [flatD] using f) (by simpa [flatD] using f') l1 l2 r r2 j e1 e2
          simpa using this
        have ek : ((List.range (min its.toArray.size jts.toArray.size)).all (pairEqL l ds2) && its.toArray.size == jts.toArray.size) = eqL l ds2 := by
          simp only [List.size_toArray, hl, hl2]
          by_cases gz : l.length = ds2.length
          · rw [← gz, Nat.min_self, all_pairs l ds2 gz]; simp
          · rw [eqL_len l ds2 gz]
            have : (l.length == ds2.length) = false := by simpa using gz
            rw [this, Bool.and_false]
        rw [ek] at key
        exact key
      | dic a b => simp [flatD] at f'
      | ins a b c => simp [flatD] at f'
      | exn a b c => simp [flatD] at f'
  | .lst l, d', A, v, u, x, y, hu, f, f', h, h', rx, ry => by
    cases h with
    | lst q l1 =>
      cases rx
      obtain ⟨its, r, p⟩ := DenL.lst_at I q
      have hu' : A.units < cLine := by omega
      cases h' with
      | non => cases ry; exact RcNeAt.list_none p hu'
      | bl b => cases ry; exact RcNeAt.list_bool b p hu'
      | int i => obtain ⟨t, rfl⟩ := ry; exact RcNeAt.list_int i t p hu'
      | str i => obtain ⟨t, rfl⟩ := ry; exact RcNeAt.list_str i t p hu'
      | tup q2 l2 => cases ry; obtain ⟨jts, r2, p2⟩ := DenL.tup_at I q2; exact RcNeAt.list_tuple p p2 hu'
      | lst q2 l2 =>
        cases ry
        rename_i a vs b vs2 ds2
        obtain ⟨jts, r2, p2⟩ := DenL.lst_at I q2
        rw [eqD]
        have hl : its.length = l.length := by rw [← r.length, l1.length]
        have hl2 : jts.length = ds2.length := by rw [← r2.length, l2.length]
        by_cases gz : l.length = ds2.length
        · have key := RcNeAt.lists (A := A) (e := pairEqL l ds2) p p2 (by simp [hl, hl2, gz]) hu' fun j h1 h2 => by
            have e1 : j < its.length := by simpa using h1
            have e2 : j < jts.length := by simpa using h2
            have := eq_atL I l ds2 A.in1 _ _ _ _ (by show A.units + 1 + depL l < cLine; simp only [depD] at hu; omega) (by simpa [flatD] using f) (by simpa [flatD] using f') l1 l2 r r2 j e1 e2
            simpa using this
          have ek : (List.range its.toArray.size).all (pairEqL l ds2) = eqL l ds2 := by
            simp only [List.size_toArray, hl]
            exact all_pairs l ds2 gz
          rw [ek] at key
          exact key
        · rw [eqL_len l ds2 gz]
          exact RcNeAt.lists_lengths p p2 (by simpa [hl, hl2] using gz) hu'
      | dic a b => simp [flatD] at f'
      | ins a b c => simp [flatD] at f'
      | exn a b c => simp [flatD] at f'
  | .dic l, d', A, v, u, x, y, hu, f, f', h, h', rx, ry => by simp [flatD] at f
  | .ins _ l, d', A, v, u, x, y, hu, f, f', h, h', rx, ry => by simp [flatD] at f
  | .exn _ l, d', A, v, u, x, y, hu, f, f', h, h', rx, ry => by simp [flatD] at f

/-- two values of one object stand for the same -/
theorem relV_inj {v u : V} {x : Value} (h : RelV v x) (h' : RelV u x) : v = u := RelV.inj h h'
theorem flat_mem : ∀ {l : List D} {d : D}, flatL l = true → d ∈ l → flatD d = true
  | a :: l, d, h, m => by
    rw [flatL, Bool.and_eq_true] at h
    rcases List.mem_cons.mp m with e | m
    · rw [e]; exact h.1
    · exact flat_mem h.2 m
theorem dep_mem : ∀ {l : List D} {d : D}, d ∈ l → depD d ≤ depL l
  | a :: l, d, m => by
    rw [depL]
    rcases List.mem_cons.mp m with e | m
    · rw [e]; exact Nat.le_max_left _ _
    · exact Nat.le_trans (dep_mem m) (Nat.le_max_right _ _)
def inD (x : D) (l : List D) : Bool := l.any fun y => eqD y x
/-- the answer of an item, read off its value -/
noncomputable def ansOf (x : D) (its : List Value) (l : List D) (y : Value) : Bool := open Classical in
  if h : ∃ j : Nat, its[j]? = some y then (match l[h.choose]? with | some d => eqD d x | none => false) else false
open PySem.SeqAt in
theorem ans_at (I : Inv X pins σ H s) {l : List D} {x : D} {A : Around} {vs : List V} {its : List Value} {u : V} {w : Value} (hu : A.units + depL l < cLine) (fl : flatL l = true) (fx : flatD x = true) (hl : DenL X.K Fz H vs l) (hx : Den X.K Fz H u x) (r : Vals vs its) (rx : RelV u w)
    {j : Nat} {y : Value} (e : its[j]? = some y) : ∃ d, l[j]? = some d ∧ ansOf x its l y = eqD d x ∧ EqAt A s y w (eqD d x) := by
  have any : ∀ j : Nat, its[j]? = some y → ∃ (d : D) (v : V), l[j]? = some d ∧ flatD d = true ∧ depD d ≤ depL l ∧ Den X.K Fz H v d ∧ RelV v y := by
    intro j e
    have hj : j < vs.length := by rw [r.length]; exact (List.getElem?_eq_some_iff.mp e).1
    obtain ⟨y', e1, rv⟩ := r.get (List.getElem?_eq_getElem hj)
    rw [e] at e1; cases e1
    obtain ⟨d, e2, hd⟩ := hl.getV (List.getElem?_eq_getElem hj)
    refine ⟨d, _, e2, ?_, ?_, hd, rv⟩
    · exact flat_mem fl (List.mem_of_getElem? e2)
    · exact dep_mem (List.mem_of_getElem? e2)
  obtain ⟨d, v, e1, f1, p1, h1, r1⟩ := any j e
  refine ⟨d, e1, ?_, eq_at I d x A _ _ _ _ (by omega) f1 fx h1 hx r1 rx⟩
  unfold ansOf
  have hex : ∃ j : Nat, its[j]? = some y := ⟨j, e⟩
  rw [dif_pos hex]
  obtain ⟨d2, v2, e2, f2, p2, h2, r2⟩ := any _ hex.choose_spec
  rw [e2]
  have := relV_inj r1 r2
  subst this
  rw [den_fun I f1 f2 h1 h2]

open PySem.SeqAt in
theorem any_ans (I : Inv X pins σ H s) {l : List D} {x : D} {A : Around} {vs : List V} {its : List Value} {u : V} {w : Value} (hu : A.units + depL l < cLine) (fl : flatL l = true) (fx : flatD x = true) (hl : DenL X.K Fz H vs l) (hx : Den X.K Fz H u x) (r : Vals vs its) (rx : RelV u w) :
    its.any (ansOf x its l) = inD x l := by
  have len : its.length = l.length := by rw [← r.length, hl.length]
  rw [Bool.eq_iff_iff, List.any_eq_true]
  unfold inD
  rw [List.any_eq_true]
  constructor
  · rintro ⟨y, hy, e⟩
    obtain ⟨j, hj, ej⟩ := List.getElem_of_mem hy
    obtain ⟨d, e1, e2, _⟩ := ans_at I (A := A) hu fl fx hl hx r rx (j := j) (y := y) (by rw [List.getElem?_eq_getElem hj, ej])
    exact ⟨d, List.mem_of_getElem? e1, by rw [← e2]; exact e⟩
  · rintro ⟨d, hd, e⟩
    obtain ⟨j, hj, ej⟩ := List.getElem_of_mem hd
    have hj' : j < its.length := by omega
    obtain ⟨d', e1, e2, _⟩ := ans_at I (A := A) hu fl fx hl hx r rx (j := j) (y := its[j]) (List.getElem?_eq_getElem hj')
    rw [List.getElem?_eq_getElem hj, ej] at e1
    cases e1
    exact ⟨its[j], List.getElem_mem hj', by rw [e2]; exact e⟩
end

/-! ### operations -/
def maxDep : Nat := 60
def eqO (x y : D) : Option D := if flatD x && flatD y && decide (depD x ≤ maxDep) then some (.bl (eqD x y)) else none
def neO (x y : D) : Option D := if flatD x && flatD y && decide (depD x ≤ maxDep) then some (.bl (!eqD x y)) else none
def bothFlat (x y : D) : Bool := flatD x && flatD y && decide (depD x ≤ maxDep)
theorem bothFlat_of {x y : D} (h : bothFlat x y = true) : flatD x = true ∧ flatD y = true ∧ depD x ≤ maxDep := by
  unfold bothFlat at h
  rw [Bool.and_eq_true, Bool.and_eq_true] at h
  exact ⟨h.1.1, h.1.2, of_decide_eq_true h.2⟩
section
variable {X : Cx} {K : Frag}
/-- data, an answer that leans on the data alone -/
def rAns (K : Frag) (F : D → D → Option D) : R2 := fun x y H Q => ∃ Fz dx dy z v, Den K Fz H x dx ∧ Den K Fz H y dy ∧ F dx dy = some z ∧ (∀ Fz H, Den K Fz H v z) ∧ Q v H
theorem rAns_D {F : D → D → Option D} (lit : ∀ x y z, F x y = some z → Flat z) : R2D K (rAns K F) F := fun B Fz H σ ρ x y dx dy z Q hK I hx hy e b => by
  subst hK
  exact ⟨Fz, dx, dy, z, litV z, hx, hy, e, fun _ _ => litV_ok (lit _ _ _ e), b _ H Fz I .refl (litV_ok (lit _ _ _ e))⟩
theorem op_eqF (hu : X.A.units + 100 < cLine) : OpR X (compareOp .Eq) (rAns X.K eqO) := by
  intro pins s σ H x y v u Q I rx ry ⟨Fz, dx, dy, z, r, hx, hy, e, gz, q⟩
  unfold eqO at e
  split at e
  · rename_i h
    cases e
    obtain ⟨f1, f2, p⟩ := bothFlat_of h
    have hr := gz Fz H
    cases hr
    exact rc_at I dx dy X.A x y v u (by unfold maxDep at p; omega) f1 f2 hx hy rx ry _ _ _ _ ⟨.bl _, H, I, rfl, q⟩
  · cases e
theorem op_neF (hu : X.A.units + 100 < cLine) : OpR X (compareOp .NotEq) (rAns X.K neO) := by
  intro pins s σ H x y v u Q I rx ry ⟨Fz, dx, dy, z, r, hx, hy, e, gz, q⟩
  unfold neO at e
  split at e
  · rename_i h
    cases e
    obtain ⟨f1, f2, p⟩ := bothFlat_of h
    have hr := gz Fz H
    cases hr
    exact rn_at I dx dy X.A x y v u (by unfold maxDep at p; omega) f1 f2 hx hy rx ry _ _ _ _ ⟨.bl _, H, I, rfl, q⟩
  · cases e
theorem eqO_lit (x y z : D) (h : eqO x y = some z) : Flat z := by unfold eqO at h; split at h <;> cases h; trivial
theorem neO_lit (x y z : D) (h : neO x y = some z) : Flat z := by unfold neO at h; split at h <;> cases h; trivial
/-- x in y: a list, a tuple, a text -/
def inO (x y : D) : Option D := match x, y with
  | x, .lst l => if flatD x && flatL l && decide (depL l ≤ maxDep) then some (.bl (inD x l)) else none
  | x, .tup l => if flatD x && flatL l && decide (depL l ≤ maxDep) then some (.bl (inD x l)) else none
  | .str i, .str j => some (.bl (!(Builtin.Str.occurrences j i 0 j.length 1).isEmpty))
  | _, _ => none
def notD (o : Option D) : Option D := o.bind fun d => match d with
  | .bl b => some (.bl (!b))
  | _ => none
def ninO (x y : D) : Option D := notD (inO x y)
theorem inO_lit (x y z : D) (h : inO x y = some z) : ∃ b, z = .bl b := by
  unfold inO at h
  split at h
  · split at h <;> cases h; exact ⟨_, rfl⟩
  · split at h <;> cases h; exact ⟨_, rfl⟩
  · cases h; exact ⟨_, rfl⟩
  · cases h
theorem ninO_lit (x y z : D) (h : ninO x y = some z) : Flat z := by
  unfold ninO notD at h
  cases e : inO x y with
  | none => rw [e] at h; cases h
  | some w => rw [e] at h; obtain ⟨b, rfl⟩ := inO_lit _ _ _ e; cases h; trivial
theorem op_inF (hu : X.A.units + 100 < cLine) : OpR X (compareOp .In) (rAns X.K inO) := by
  intro pins s σ H x y v u Q I rx ry ⟨Fz, dx, dy, z, r, hx, hy, e, gz, q⟩
  have seq : ∀ l : List D, (if flatD dx && flatL l && decide (depL l ≤ maxDep) then some (D.bl (inD dx l)) else none) = some z → flatD dx = true ∧ flatL l = true ∧ depL l ≤ maxDep ∧ r = .bl (inD dx l) := by
    intro l e
    split at e
    · rename_i h
      cases e
      rw [Bool.and_eq_true, Bool.and_eq_true] at h
      have hr := gz Fz H
      cases hr
      exact ⟨h.1.1, h.1.2, of_decide_eq_true h.2, rfl⟩
    · cases e
  cases hy with
  | lst h l =>
    rename_i a vs ds
    obtain ⟨f1, f2, p, rfl⟩ := seq ds e
    cases ry
    obtain ⟨its, rv, pl⟩ := DenL.lst_at I h
    refine SeqAt.in_listAt (ansOf dx its ds) pl (fun w hw => ?_) ⟨.bl _, H, I, rfl, ?_⟩
    · obtain ⟨j, hj, ej⟩ := List.getElem_of_mem (by simpa using hw : w ∈ its)
      obtain ⟨d, _, e2, e3⟩ := ans_at I (A := X.A.in1) (by show X.A.units + 1 + _ < _; unfold maxDep at p; omega) f2 f1 l hx rv rx (j := j) (y := w) (by rw [List.getElem?_eq_getElem hj, ej])
      rw [e2]; exact e3
    · rw [show its.toArray.any (ansOf dx its ds) = its.any (ansOf dx its ds) by simp, any_ans I (A := X.A) (by unfold maxDep at p; omega) f2 f1 l hx rv rx]
      exact q
  | tup h l =>
    rename_i a vs ds
    obtain ⟨f1, f2, p, rfl⟩ := seq ds (by cases dx <;> exact e)
    cases ry
    obtain ⟨its, rv, pl⟩ := DenL.tup_at I h
    refine SeqAt.in_tupleAt (ansOf dx its ds) pl (fun w hw => ?_) ⟨.bl _, H, I, rfl, ?_⟩
    · obtain ⟨j, hj, ej⟩ := List.getElem_of_mem (by simpa using hw : w ∈ its)
      obtain ⟨d, _, e2, e3⟩ := ans_at I (A := X.A.in1) (by show X.A.units + 1 + _ < _; unfold maxDep at p; omega) f2 f1 l hx rv rx (j := j) (y := w) (by rw [List.getElem?_eq_getElem hj, ej])
      rw [e2]; exact e3
    · rw [show its.toArray.any (ansOf dx its ds) = its.any (ansOf dx its ds) by simp, any_ans I (A := X.A) (by unfold maxDep at p; omega) f2 f1 l hx rv rx]
      exact q
  | str j =>
    cases hx with
    | str i =>
      cases e
      have hr := gz Fz H
      cases hr
      exact op_in_str pins s σ H _ _ v u Q I rx ry ⟨i, j, rfl, rfl, q⟩
    | _ => cases e
  | _ => cases dx <;> cases e
theorem op_ninF (hu : X.A.units + 100 < cLine) : OpR X (compareOp .NotIn) (rAns X.K ninO) := by
  intro pins s σ H x y v u Q I rx ry ⟨Fz, dx, dy, z, r, hx, hy, e, gz, q⟩
  have seq : ∀ l : List D, notD (if flatD dx && flatL l && decide (depL l ≤ maxDep) then some (D.bl (inD dx l)) else none) = some z → flatD dx = true ∧ flatL l = true ∧ depL l ≤ maxDep ∧ r = .bl (!inD dx l) := by
    intro l e
    split at e
    · rename_i h
      cases e
      rw [Bool.and_eq_true, Bool.and_eq_true] at h
      have hr := gz Fz H
      cases hr
      exact ⟨h.1.1, h.1.2, of_decide_eq_true h.2, rfl⟩
    · cases e
  cases hy with
  | lst h l =>
    rename_i a vs ds
    obtain ⟨f1, f2, p, rfl⟩ := seq ds e
    cases ry
    obtain ⟨its, rv, pl⟩ := DenL.lst_at I h
    refine SeqAt.notIn_listAt (ansOf dx its ds) pl (fun w hw => ?_) ⟨.bl _, H, I, rfl, ?_⟩
    · obtain ⟨j, hj, ej⟩ := List.getElem_of_mem (by simpa using hw : w ∈ its)
      obtain ⟨d, _, e2, e3⟩ := ans_at I (A := X.A.in1) (by show X.A.units + 1 + _ < _; unfold maxDep at p; omega) f2 f1 l hx rv rx (j := j) (y := w) (by rw [List.getElem?_eq_getElem hj, ej])
      rw [e2]; exact e3
    · rw [show its.toArray.any (ansOf dx its ds) = its.any (ansOf dx its ds) by simp, any_ans I (A := X.A) (by unfold maxDep at p; omega) f2 f1 l hx rv rx]
      exact q
  | tup h l =>
    rename_i a vs ds
    obtain ⟨f1, f2, p, rfl⟩ := seq ds (by cases dx <;> exact e)
    cases ry
    obtain ⟨its, rv, pl⟩ := DenL.tup_at I h
    refine SeqAt.notIn_tupleAt (ansOf dx its ds) pl (fun w hw => ?_) ⟨.bl _, H, I, rfl, ?_⟩
    · obtain ⟨j, hj, ej⟩ := List.getElem_of_mem (by simpa using hw : w ∈ its)
      obtain ⟨d, _, e2, e3⟩ := ans_at I (A := X.A.in1) (by show X.A.units + 1 + _ < _; unfold maxDep at p; omega) f2 f1 l hx rv rx (j := j) (y := w) (by rw [List.getElem?_eq_getElem hj, ej])
      rw [e2]; exact e3
    · rw [show its.toArray.any (ansOf dx its ds) = its.any (ansOf dx its ds) by simp, any_ans I (A := X.A) (by unfold maxDep at p; omega) f2 f1 l hx rv rx]
      exact q
  | str j =>
    cases hx with
    | str i =>
      cases e
      have hr := gz Fz H
      cases hr
      exact L2.op_notin_str pins s σ H _ _ v u Q I rx ry ⟨i, j, rfl, rfl, q⟩
    | _ => cases e
  | _ => cases dx <;> cases e
/-! ints -/
def intO (F : Int → Int → Option D) (x y : D) : Option D := match x, y with
  | .int i, .int j => F i j
  | _, _ => none
theorem den_int {Fz : Addr → Prop} {H : Hp} {v : V} {i : Int} (h : Den K Fz H v (.int i)) : v = .int i := by cases h; rfl
theorem r_int {r : R2} {C : Int → Int → Bool} {g : Int → Int → Int} (hr : ∀ i j H Q, C i j = true → Q (.int (g i j)) H → r (.int i) (.int j) H Q) : R2D K r (intO fun i j => if C i j then some (.int (g i j)) else none) :=
  fun B Fz H σ ρ x y dx dy z Q hK I hx hy e b => by
    unfold intO at e
    split at e
    · rename_i i j
      cases den_int hx; cases den_int hy
      dsimp only at e
      split at e
      · rename_i hc
        cases e
        exact hr i j H Q hc (b _ H Fz I .refl (.int _))
      · cases e
    · cases e
theorem r_intB {r : R2} {g : Int → Int → Bool} (hr : ∀ i j H Q, Q (.bl (g i j)) H → r (.int i) (.int j) H Q) : R2D K r (intO fun i j => some (.bl (g i j))) :=
  fun B Fz H σ ρ x y dx dy z Q hK I hx hy e b => by
    unfold intO at e
    split at e
    · rename_i i j
      cases den_int hx; cases den_int hy
      cases e
      exact hr i j H Q (b _ H Fz I .refl (.bl _))
    · cases e
def subO := intO fun i j => if true then some (.int (i - j)) else none
theorem r_sub : R2D K (rI0 fun i j => .int (i - j)) subO := r_int (C := fun _ _ => true) fun i j H Q _ q => ⟨i, j, rfl, rfl, q⟩
def bitsOf (i : Int) : Nat := i.natAbs.log2
def mulO := intO fun i j => if decide (bitsOf i + bitsOf j < 1000000) then some (.int (i * j)) else none
theorem r_mul : R2D K (rI CMulW fun i j => .int (i * j)) mulO := r_int (C := fun i j => decide (bitsOf i + bitsOf j < 1000000)) fun i j H Q c q => have h : bitsOf i + bitsOf j < 1000000 := of_decide_eq_true c
  ⟨i, j, rfl, rfl, h, q⟩
def divO := intO fun i j => if decide (0 < j ∧ bitsOf j < 9000) then some (.int (i / j)) else none
theorem r_div : R2D K (rI CDivW fun i j => .int (i / j)) divO := r_int (C := fun i j => decide (0 < j ∧ bitsOf j < 9000)) fun i j H Q c q => have h : 0 < j ∧ bitsOf j < 9000 := of_decide_eq_true c
  ⟨i, j, rfl, rfl, h, q⟩
def modO := intO fun i j => if decide (0 < j) then some (.int (i % j)) else none
theorem r_mod : R2D K (rI (fun _ j => 0 < j) fun i j => .int (i % j)) modO := r_int (C := fun i j => decide (0 < j)) fun i j H Q c q => have h : 0 < j := of_decide_eq_true c
  ⟨i, j, rfl, rfl, h, q⟩
/-- ** of any base, the result below 2 ^ 27 bits -/
def CPowX (i j : Int) : Prop := 0 ≤ j ∧ (Builtin.Int.intBits i : Int) * j ≤ 2 ^ 27
instance (i j : Int) : Decidable (CPowX i j) := by unfold CPowX; infer_instance
theorem op_powX : OpR X (binaryOp .Pow) (rI CPowX fun i j => .int (i ^ j.toNat)) := opI fun i j t u s Q E c h => pow_int c.1 c.2 h
def powO := intO fun i j => if decide (CPowX i j) then some (.int (i ^ j.toNat)) else none
theorem r_pow : R2D K (rI CPowX fun i j => .int (i ^ j.toNat)) powO := r_int (C := fun i j => decide (CPowX i j)) fun i j H Q c q => have h : CPowX i j := of_decide_eq_true c
  ⟨i, j, rfl, rfl, h, q⟩
def ltO := intO fun i j => some (.bl (decide (i < j)))
theorem r_lt : R2D K (rI0 fun i j => .bl (decide (i < j))) ltO := r_intB fun i j H Q q => ⟨i, j, rfl, rfl, q⟩
def leO := intO fun i j => some (.bl (decide (i ≤ j)))
theorem r_le : R2D K (rI0 fun i j => .bl (decide (i ≤ j))) leO := r_intB fun i j H Q q => ⟨i, j, rfl, rfl, q⟩
def gtO := intO fun i j => some (.bl (decide (j < i)))
theorem r_gt : R2D K (rI0 fun i j => .bl (decide (j < i))) gtO := r_intB fun i j H Q q => ⟨i, j, rfl, rfl, q⟩
def geO := intO fun i j => some (.bl (decide (j ≤ i)))
theorem r_ge : R2D K (rI0 fun i j => .bl (decide (j ≤ i))) geO := r_intB fun i j H Q q => ⟨i, j, rfl, rfl, q⟩
def isNon : D → Bool
  | .non => true
  | _ => false
def isNO (x y : D) : Option D := match y with
  | .non => some (.bl (isNon x))
  | _ => none
def notNO (x y : D) : Option D := match y with
  | .non => some (.bl (!isNon x))
  | _ => none
theorem den_non {Fz : Addr → Prop} {H : Hp} {v : V} {d : D} (h : Den K Fz H v d) : decide (v = .non) = isNon d := by
  cases h <;> simp [isNon]
theorem r_isN : R2D K (fun x y H Q => y = .non ∧ Q (.bl (decide (x = .non))) H) isNO := fun B Fz H σ ρ x y dx dy z Q hK I hx hy e b => by
  cases dy <;> cases e
  cases hy
  exact ⟨rfl, by rw [den_non hx]; exact b _ H Fz I .refl (.bl _)⟩
theorem r_notN : R2D K (fun x y H Q => y = .non ∧ Q (.bl (!decide (x = .non))) H) notNO := fun B Fz H σ ρ x y dx dy z Q hK I hx hy e b => by
  cases dy <;> cases e
  cases hy
  exact ⟨rfl, by rw [den_non hx]; exact b _ H Fz I .refl (.bl _)⟩
/-! + -/
def addO (x y : D) : Option D := match x, y with
  | .int i, .int j => some (.int (i + j))
  | .str i, .str j => if okLen (i.length + j.length) then some (.str (i ++ j)) else none
  | .tup l, .tup m => if okLen (l.length + m.length) then some (.tup (l ++ m)) else none
  | _, _ => none
def rAdd (K : Frag) : R2 := fun x y H Q => ((rI0 fun i j => .int (i + j)) x y H Q) ∨ (∃ i j, x = .str i ∧ y = .str j ∧ i.length + j.length ≤ sizeLine ∧ Q (.str (i ++ j)) H) ∨ rCatA K x y H Q
theorem op_addA : OpR X (binaryOp .Add) (rAdd X.K) := op_add.or (op_add_str.or op_catA)
theorem r_add : R2D K (rAdd K) addO := fun B Fz H σ ρ x y dx dy z Q hK I hx hy e b => by
  subst hK
  unfold addO at e
  split at e
  · cases e; cases hx; cases hy
    exact .inl ⟨_, _, rfl, rfl, b _ H Fz I .refl (.int _)⟩
  · split at e
    · rename_i h
      cases e; cases hx; cases hy
      exact .inr (.inl ⟨_, _, rfl, rfl, of_decide_eq_true h, b _ H Fz I .refl (.str _)⟩)
    · cases e
  · split at e
    · rename_i h
      cases e
      cases hx with
      | tup q1 l1 =>
        cases hy with
        | tup q2 l2 =>
          refine .inr (.inr ⟨_, _, _, _, rfl, rfl, q1.t, q2.t, by rw [l1.length, l2.length]; exact of_decide_eq_true h, fun h0 => ?_, fun h0 h1 => ?_, fun h0 h1 => ?_⟩)
          · subst h0; cases l1; exact b _ H Fz I .refl (.tup q2 l2)
          · subst h1; cases l2; rw [List.append_nil] at b; exact b _ H Fz I .refl (.tup q1 l1)
          · exact Back.tup I (l1.append l2) b
    · cases e
  · cases e
/-- list + list: a new list -/
theorem Inv.rdl {pins : List (Addr × Obj)} {σ : L2.St} {H : Hp} {s : Shared} {l : Addr} {xs : List V} (I : Inv X pins σ H s) (gH : Rd H l (.lst xs)) : xs.length ≤ sizeLine ∧ ∃ (its : List Value) (n : Nat), Vals xs its ∧ xs.length = its.length ∧ s.heap.get? l = some { cls := .type "list", data := .seq its.toArray n } := by
  obtain ⟨z, its, n, r, e⟩ := gH.ok I.hok
  exact ⟨z, its, n, r, r.length, e⟩
def rCatR : R2 := fun x y H Q => ∃ l b xs zs, x = .ref l ∧ y = .ref b ∧ Rd H l (.lst xs) ∧ Rd H b (.lst zs) ∧ xs.length + zs.length ≤ sizeLine ∧ ∀ p, H p = none → Q (.ref p) (upd H p (.lst (xs ++ zs)))
theorem op_catR : OpR X (binaryOp .Add) rCatR := by
  intro pins s σ H x y v u Q I rx ry h
  obtain ⟨l, b, xs, zs, rfl, rfl, gH, gB, gz, q⟩ := h
  cases rx
  cases ry
  obtain ⟨z, its, n, r, hl, e⟩ := Inv.rdl I gH
  obtain ⟨z2, jts, n2, r2, hl2, e2⟩ := Inv.rdl I gB
  refine PySem.P.add_list e e2 ?_ (by rw [List.size_toArray, List.size_toArray]; omega)
  have ek : its.toArray ++ jts.toArray = (its ++ jts).toArray := by simp
  rw [ek]
  exact ⟨.ref _, _, I.lnew (t' := s.toks) (r.append r2) (by rw [List.length_append]; omega), rfl, q _ I.fresh⟩
def catO (x y : D) : Option D := match x, y with
  | .lst l, .lst m => if okLen (l.length + m.length) then some (.lst (l ++ m)) else none
  | _, _ => none
theorem r_cat : R2O K rCatR catO := fun B Fz H σ ρ x y dx dy z Q hK I hx hy e b => by
  unfold catO at e
  split at e
  · split at e
    · rename_i h
      cases e
      cases hx with
      | lst q1 l1 =>
        cases hy with
        | lst q2 l2 => exact ⟨_, _, _, _, rfl, rfl, q1.rd, q2.rd, by rw [l1.length, l2.length]; exact of_decide_eq_true h, BackO.lst I (l1.append l2) b⟩
    · cases e
  · cases e
end
end Dx

set_option Elab.async false
set_option linter.all false
set_option maxRecDepth 100000
set_option maxHeartbeats 1000000
namespace Dx
open PySem PySem.Spec PyProof.Rows L2

/-! ### subscripts -/
def nslE : Expr → Bool
  | .Slice _ _ _ _ => false
  | _ => true
theorem plainIx_of {b : Expr} (h : nslE b = true) : PlainIx b := by
  cases b <;> first | (intro _ _; rfl) | cases h
def dicGet (l : List (Str × D)) (k : Str) : Option D := l.lookup k
def ixO (x y : D) : Option D := match x, y with
  | .lst l, .int i => atI l i
  | .tup l, .int i => atI l i
  | .str z, .int i => if okLen z.length then (atI z.cps.toList i).map fun c => .str ⟨#[c]⟩ else none
  | .dic l, .str k => dicGet l k
  | _, _ => none
theorem atI_den {K : Frag} {Fz : Addr → Prop} {H : Hp} {vs : List V} {ds : List D} {i : Int} {z : D} (h : DenL K Fz H vs ds) (e : atI ds i = some z) : ∃ v, atI vs i = some v ∧ Den K Fz H v z := by
  unfold atI at e ⊢
  rw [h.length]
  cases q : ixN ds.length i with
  | none => rw [q] at e; cases e
  | some j =>
    rw [q] at e
    exact h.get e
theorem valV_map {kvs : List (Str × V)} {k : Str} : valV (kvs.map keyP) (Sum.inr k) = kvs.lookup k := by
  induction kvs with
  | nil => rfl
  | cons p r ih =>
    obtain ⟨a, v⟩ := p
    rw [List.map_cons, List.lookup_cons]
    by_cases h : a = k
    · subst h
      have e := valV_pos (p := keyP (a, v)) (r := r.map keyP) (k := Sum.inr a) rfl
      rw [e]
      simp [keyP]
    · have e := valV_neg (p := keyP (a, v)) (r := r.map keyP) (k := Sum.inr k) (fun z => h (Sum.inr.inj z))
      rw [e, ih]
      have : (k == a) = false := by simpa using fun z => h z.symm
      rw [this]
theorem ix_dic {X : Cx} (hu : X.A.units + 1 < cLine) : IxR X (fun x y H Q => ∃ a v, x = .ref a ∧ DGet H a y (some v) ∧ Q v H) := by
  intro value slice pins s σ H x y v u Q I rx ry ⟨a, z, ex, g, q⟩ hs
  subst ex
  obtain rfl : v = Value.ref a := rx
  exact tail_any (dict_typeIs I g) PySem.F.slot_dict_getitem.lookup (d_getItem hu I g ry fun w' s3 I3 rw' => ⟨z, H, I3, rw', q⟩) hs
section
variable {X : Cx} {B : Bs} {E : XK} {a b c e : Expr} {es : List Expr} {f g : List Sl → R (D × List Sl)} {l : List Sl → R (List D × List Sl)} {pos : Pos} {K : Frag}
def rIxF (K : Frag) : R2 := fun x y H Q => rIx K x y H Q ∨ ∃ a v, x = .ref a ∧ DGet H a y (some v) ∧ Q v H
theorem r_ix : R2D K (rIxF K) ixO := fun B Fz H σ ρ x y dx dy z Q hK I hx hy e b => by
  subst hK
  unfold ixO at e
  split at e
  · cases den_int hy
    cases hx with
    | lst q l => obtain ⟨v, e2, d⟩ := atI_den l e; exact .inl (.inl ⟨_, _, _, v, rfl, rfl, q.l, e2, b v H Fz I .refl d⟩)
  · cases den_int hy
    cases hx with
    | tup q l => obtain ⟨v, e2, d⟩ := atI_den l e; exact .inl (.inr (.inl ⟨_, _, _, v, rfl, rfl, q.t, e2, b v H Fz I .refl d⟩))
  · cases den_int hy
    cases hx
    split at e
    · rename_i h
      obtain ⟨c, e2, rfl⟩ := Option.map_eq_some_iff.mp e
      exact .inl (.inr (.inr ⟨_, _, c, rfl, rfl, of_decide_eq_true h, e2, b _ H Fz I .refl (.str _)⟩))
    · cases e
  · cases hy
    cases hx with
    | dic q l =>
      obtain ⟨v, e2, d⟩ := l.lookup e
      rename_i ds k aa oo kvs
      refine .inr ⟨_, v, rfl, .inl ⟨_, Sum.inr k, .inr ⟨_, q⟩, rfl, ?_⟩, b v H Fz I .refl d⟩
      rw [valV_map, e2]
  · cases e
theorem de_ix (hu : X.A.units + 100 < cLine) (hK : B.K = X.K) (hn : nslE b = true) (ha : PE X a (tE B E f)) (hb : PE X b (tE B E g)) : PE X (.Subscript a b pos) (tE B E (ev2 ixO f g)) :=
  weakE (pe_ix (ix_seq.or (ix_dic (by omega))) ha hb (plainIx_of hn)) fun _ _ _ h => t_op (r := rIxF X.K) r_ix hK h
/-! slices -/
def cutL {α : Type} (xs : List α) (lo hi : Option Int) : List α := (xs.drop (HT.sIx xs.length 0 lo)).take (HT.sIx xs.length xs.length hi - HT.sIx xs.length 0 lo)
def evPart : Option (List Sl → R (D × List Sl)) → List Sl → R (Option Int × List Sl)
  | none, ρ => .ok (none, ρ)
  | some f, ρ => (f ρ).bind fun p => match p.1 with
    | .int i => .ok (some i, p.2)
    | _ => .bad
abbrev rP : Rel (Option Int) (Option Int) := fun _ _ _ _ _ v d => v = d
/-- a part of a slice -/
inductive PartOk (X : Cx) (B : Bs) (E : XK) : Option Expr → Option (List Sl → R (D × List Sl)) → Prop where
  | none : PartOk X B E none none
  | some {e : Expr} {f : List Sl → R (D × List Sl)} (h : PE X e (tE B E f)) : PartOk X B E (some e) (some f)
theorem part_po {o : Option Expr} {p : Option (List Sl → R (D × List Sl))} (h : PartOk X B E o p) : PO X o (tG rP B E (evPart p)) := by
  cases h with
  | none => exact ⟨fun pins s σ H Q I ⟨Fz, ρ, J, q⟩ => po_none.run pins s σ H Q I (q Option.none H Fz J .refl rfl)⟩
  | some h =>
    refine ⟨fun pins s σ H Q I ⟨Fz, ρ, J, q⟩ => (po_some h).run pins s σ H Q I ?_⟩
    refine monoG (tG_bind J q) fun x H1 ⟨F1, ρ1, dx, I1, d1, g1, e1, q1⟩ => ?_
    cases dx with
    | int i => cases d1; exact ⟨i, rfl, q1 (Option.some i) H1 F1 I1 .refl rfl⟩
    | _ => exact q1.elim
def slTO (lo hi : Option Int) : D → Option D
  | .tup l => some (.tup (cutL l lo hi))
  | .str z => if okLen z.length then some (.str (cutS z lo hi)) else none
  | _ => none
def slLO (lo hi : Option Int) : D → Option D
  | .lst l => some (.lst (cutL l lo hi))
  | _ => none
def evSl (F : Option Int → Option Int → D → Option D) (f : List Sl → R (D × List Sl)) (p q : Option (List Sl → R (D × List Sl))) (ρ : List Sl) : R (D × List Sl) :=
  (f ρ).bind fun x => (evPart p x.2).bind fun y => (evPart q y.2).bind fun z => (ofO (F y.1 z.1 x.1)).bind fun w => .ok (w, z.2)
theorem cutV_den {Fz : Addr → Prop} {H : Hp} {vs : List V} {ds : List D} (h : DenL K Fz H vs ds) (lo hi : Option Int) : DenL K Fz H (cutV vs lo hi) (cutL ds lo hi) := by
  unfold cutV cutL
  rw [h.length]
  exact (h.drop _).take _
def rSlF (K : Frag) : V → Option Int → Option Int → Hp → VK → Prop := fun x lo hi H Q => rSlA K x lo hi H Q ∨ ∃ z, x = .str z ∧ z.length ≤ sizeLine ∧ Q (.str (cutS z lo hi)) H
theorem fin_sl {α β : Type} {Rl : Rel D β} {σ : L2.St} {H : Hp} {Q : β → Hp → Prop} {Fz : Addr → Prop} {ρ : List Sl} {F : Option Int → Option Int → D → Option D} {f : List Sl → R (D × List Sl)} {p q : Option (List Sl → R (D × List Sl))} (I : Iv B Fz H σ ρ)
    (h : FinG Rl B E σ Q Fz H (evSl F f p q ρ)) : tE B E f σ H fun x H1 => tG rP B E (evPart p) σ H1 fun l H2 => tG rP B E (evPart q) σ H2 fun u H3 =>
      ∃ F3 ρ3 d z, Iv B F3 H3 σ ρ3 ∧ Den B.K F3 H3 x d ∧ F l u d = some z ∧ FinG Rl B E σ Q F3 H3 (.ok (z, ρ3)) := by
  refine monoG (tG_bind I h) fun x H1 ⟨F1, ρ1, dx, I1, d1, g1, e1, q1⟩ => monoG (tG_bind I1 q1) fun y H2 ⟨F2, ρ2, dy, I2, d2, g2, e2, q2⟩ => monoG (tG_bind I2 q2) fun y3 H3 ⟨F3, ρ3, dz, I3, d3, g3, e3, q3⟩ => ?_
  have d2' : y = dy := d2
  have d3' : y3 = dz := d3
  subst d2' d3'
  obtain ⟨z, ez, b⟩ := fin_ofO (α := D) q3
  exact ⟨F3, ρ3, dx, z, I3, (d1.mono g2).mono g3, ez, b⟩
theorem de_sl {lo hi : Option Expr} {p q : Option (List Sl → R (D × List Sl))} {p2 : Pos} (hK : B.K = X.K) (ha : PE X a (tE B E f)) (hp : PartOk X B E lo p) (hq : PartOk X B E hi q) : PE X (.Subscript a (.Slice lo hi none p2) pos) (tE B E (evSl slTO f p q)) :=
  weakE (pe_slice (sl_tupA.or sl_str) ha (part_po hp) (part_po hq)) fun σ H Q ⟨Fz, ρ, I, h⟩ => by
    refine monoG (fin_sl (α := D) I h) fun x H1 h1 => monoG h1 fun l H2 h2 => monoG h2 fun u H3 ⟨F3, ρ3, d, z, I3, d3, e, b⟩ => ?_
    unfold slTO at e
    split at e
    · cases e
      cases d3 with
      | tup q l =>
        refine .inl ⟨_, _, rfl, hK ▸ q.t, fun hw => ?_, fun hw => ?_⟩
        · refine b _ H3 F3 I3 .refl ?_
          have hl := l.length
          rw [hl] at hw
          have e2 : cutL _ _ _ = _ := cut_whole hw
          rw [e2]
          exact .tup q l
        · exact Back.tup I3 (cutV_den l _ _) b
    · split at e
      · rename_i hz
        cases e; cases d3
        exact .inr ⟨_, rfl, of_decide_eq_true hz, b _ H3 F3 I3 .refl (.str _)⟩
      · cases e
    · cases e
where
  cut_whole {ds : List D} {lo hi : Option Int} (hw : HT.sIx ds.length 0 lo = 0 ∧ HT.sIx ds.length ds.length hi = ds.length) : cutL ds lo hi = ds := by
    unfold cutL
    rw [hw.1, hw.2, List.drop_zero, Nat.sub_zero, List.take_length]
theorem do_sl {lo hi : Option Expr} {p q : Option (List Sl → R (D × List Sl))} {p2 : Pos} (hK : B.K = X.K) (ha : PE X a (tE B E f)) (hp : PartOk X B E lo p) (hq : PartOk X B E hi q) : PE X (.Subscript a (.Slice lo hi none p2) pos) (tO B E (evSl slLO f p q)) :=
  weakE (pe_slice sl_list ha (part_po hp) (part_po hq)) fun σ H Q ⟨Fz, ρ, I, h⟩ => by
    refine monoG (fin_sl (α := D) I h) fun x H1 h1 => monoG h1 fun l H2 h2 => monoG h2 fun u H3 ⟨F3, ρ3, d, z, I3, d3, e, b⟩ => ?_
    unfold slLO at e
    split at e
    · cases e
      cases d3 with
      | lst q l => exact ⟨_, _, rfl, hK ▸ q.l, BackO.lst I3 (cutV_den l _ _) b⟩
    · cases e
/-! ### built-ins -/
def lenO : List D → Option D
  | [.lst l] => some (.int l.length)
  | [.tup l] => some (.int l.length)
  | [.str z] => if okLen z.length then some (.int z.length) else none
  | [.dic l] => some (.int l.length)
  | _ => none
theorem call_lenD {X : Cx} : CallR X (.builtin "len") (fun xs H Q => ∃ a kvs, xs = [.ref a] ∧ Rd H a (.dK kvs) ∧ Q (.int kvs.length) H) := by
  intro pins s σ H xs us Q I r ⟨a, kvs, e, h, q⟩
  subst e
  obtain ⟨u, rfl, ru⟩ := r.one
  obtain rfl : u = Value.ref a := ru
  exact d_len I h fun t s' I' => ⟨.int kvs.length, H, I', ⟨t, rfl⟩, q⟩
def rLenF (K : Frag) : List V → Hp → VK → Prop := fun xs H Q => (∃ p ys, xs = [.ref p] ∧ (SqL K H p ys ∨ SqT K H p ys) ∧ Q (.int ys.length) H) ∨ (∃ z, xs = [.str z] ∧ z.length ≤ sizeLine ∧ Q (.int z.length) H) ∨ ∃ a kvs, xs = [.ref a] ∧ Rd H a (.dK kvs) ∧ Q (.int kvs.length) H
theorem call_lenF : CallR X (.builtin "len") (rLenF X.K) := call_len_seq.or (call_len_str.or call_lenD)
theorem denL1 {Fz : Addr → Prop} {H : Hp} {vs : List V} {d : D} (h : DenL K Fz H vs [d]) : ∃ v, vs = [v] ∧ Den K Fz H v d := by
  cases h with
  | cons a l => cases l; exact ⟨_, rfl, a⟩
theorem denL2 {Fz : Addr → Prop} {H : Hp} {vs : List V} {d d2 : D} (h : DenL K Fz H vs [d, d2]) : ∃ v u, vs = [v, u] ∧ Den K Fz H v d ∧ Den K Fz H u d2 := by
  cases h with
  | cons a l => obtain ⟨u, rfl, h2⟩ := denL1 l; exact ⟨_, u, rfl, a, h2⟩
theorem r_len : RLD K (rLenF K) lenO := fun B Fz H σ ρ vs ds z Q hK I hd e b => by
  subst hK
  unfold lenO at e
  split at e
  · cases e
    obtain ⟨v, rfl, h⟩ := denL1 hd
    cases h with
    | lst q l => refine .inl ⟨_, _, rfl, .inl q.l, ?_⟩; rw [l.length]; exact b _ H Fz I .refl (.int _)
  · cases e
    obtain ⟨v, rfl, h⟩ := denL1 hd
    cases h with
    | tup q l => refine .inl ⟨_, _, rfl, .inr q.t, ?_⟩; rw [l.length]; exact b _ H Fz I .refl (.int _)
  · split at e
    · rename_i hz
      cases e
      obtain ⟨v, rfl, h⟩ := denL1 hd
      cases h
      exact .inr (.inl ⟨_, rfl, of_decide_eq_true hz, b _ H Fz I .refl (.int _)⟩)
    · cases e
  · cases e
    obtain ⟨v, rfl, h⟩ := denL1 hd
    cases h with
    | dic q l =>
      refine .inr (.inr ⟨_, _, rfl, .inr ⟨_, q⟩, ?_⟩)
      rw [List.length_map, l.length]
      exact b _ H Fz I .refl (.int _)
  · cases e
def absO : List D → Option D
  | [.int i] => some (.int (if i < 0 then -i else i))
  | _ => none
theorem r_abs : RLD K (fun xs H Q => ∃ i, xs = [.int i] ∧ Q (.int (if i < 0 then -i else i)) H) absO := fun B Fz H σ ρ vs ds z Q hK I hd e b => by
  unfold absO at e
  split at e
  · cases e
    obtain ⟨v, rfl, h⟩ := denL1 hd
    cases h
    exact ⟨_, rfl, b _ H Fz I .refl (.int _)⟩
  · cases e
def maxO : List D → Option D
  | [.int i, .int j] => some (.int (if j > i then j else i))
  | _ => none
def minO : List D → Option D
  | [.int i, .int j] => some (.int (if j < i then j else i))
  | _ => none
theorem r_max : RLD K (fun xs H Q => ∃ i j, xs = [.int i, .int j] ∧ Q (.int (if j > i then j else i)) H) maxO := fun B Fz H σ ρ vs ds z Q hK I hd e b => by
  unfold maxO at e
  split at e
  · cases e
    obtain ⟨v, u, rfl, h, h2⟩ := denL2 hd
    cases h; cases h2
    exact ⟨_, _, rfl, b _ H Fz I .refl (.int _)⟩
  · cases e
theorem r_min : RLD K (fun xs H Q => ∃ i j, xs = [.int i, .int j] ∧ Q (.int (if j < i then j else i)) H) minO := fun B Fz H σ ρ vs ds z Q hK I hd e b => by
  unfold minO at e
  split at e
  · cases e
    obtain ⟨v, u, rfl, h, h2⟩ := denL2 hd
    cases h; cases h2
    exact ⟨_, _, rfl, b _ H Fz I .refl (.int _)⟩
  · cases e
def intF : List D → Option D
  | [.int i] => some (.int i)
  | [.bl k] => some (.int (if k then 1 else 0))
  | _ => none
theorem r_intF : RLD K (fun xs H Q => (∃ i, xs = [.int i] ∧ Q (.int i) H) ∨ ∃ k, xs = [.bl k] ∧ Q (.int (if k then 1 else 0)) H) intF := fun B Fz H σ ρ vs ds z Q hK I hd e b => by
  unfold intF at e
  split at e
  · cases e
    obtain ⟨v, rfl, h⟩ := denL1 hd
    cases h
    exact .inl ⟨_, rfl, b _ H Fz I .refl (.int _)⟩
  · cases e
    obtain ⟨v, rfl, h⟩ := denL1 hd
    cases h
    exact .inr ⟨_, rfl, b _ H Fz I .refl (.int _)⟩
  · cases e
/-- list(x) -/
def listO : List D → Option D
  | [.lst l] => some (.lst l)
  | [.tup l] => some (.lst l)
  | _ => none
theorem r_list : RLO K (fun xs H Q => ∃ p ys, xs = [.ref p] ∧ (SqL K H p ys ∨ SqT K H p ys) ∧ ∀ l, H l = none → Q (.ref l) (upd H l (.lst ys))) listO := fun B Fz H σ ρ vs ds z Q hK I hd e b => by
  subst hK
  unfold listO at e
  split at e
  · cases e
    obtain ⟨v, rfl, h⟩ := denL1 hd
    cases h with
    | lst q l => exact ⟨_, _, rfl, .inl q.l, BackO.lst I l b⟩
  · cases e
    obtain ⟨v, rfl, h⟩ := denL1 hd
    cases h with
    | tup q l => exact ⟨_, _, rfl, .inr q.t, BackO.lst I l b⟩
  · cases e
/-- tuple(x) -/
def tupO : List D → Option D
  | [.lst l] => some (.tup l)
  | [.tup l] => some (.tup l)
  | _ => none
theorem r_tup : RLD K (fun xs H Q => ∃ p ys, xs = [.ref p] ∧ ((SqL K H p ys ∧ ∀ l, H l = none → Q (.ref l) (upd H l (.tup ys))) ∨ (SqT K H p ys ∧ Q (.ref p) H))) tupO := fun B Fz H σ ρ vs ds z Q hK I hd e b => by
  subst hK
  unfold tupO at e
  split at e
  · cases e
    obtain ⟨v, rfl, h⟩ := denL1 hd
    cases h with
    | lst q l => exact ⟨_, _, rfl, .inl ⟨q.l, Back.tup I l b⟩⟩
  · cases e
    obtain ⟨v, rfl, h⟩ := denL1 hd
    cases h with
    | tup q l => exact ⟨_, _, rfl, .inr ⟨q.t, b _ H Fz I .refl (.tup q l)⟩⟩
  · cases e
end
end Dx

set_option Elab.async false
set_option linter.all false
set_option maxRecDepth 100000
set_option maxHeartbeats 1000000
namespace Dx
open PySem PySem.Spec PyProof.Rows L2

/-! ### repr -/
mutual
def toP : D → Option PyData
  | .non => some .none
  | .bl b => some (.bool b)
  | .int i => some (.int i)
  | .str x => some (.str x)
  | .tup l => (toPL l).map .tuple
  | .lst l => (toPL l).map .list
  | .dic l => (toPF l).map .dict
  | .ins _ _ => none
  | .exn _ _ => none
def toPL : List D → Option (List PyData)
  | [] => some []
  | d :: l => (toP d).bind fun p => (toPL l).map (p :: ·)
def toPF : List (Str × D) → Option (List (PyData × PyData))
  | [] => some []
  | (k, d) :: l => (toP d).bind fun p => (toPF l).map ((.str k, p) :: ·)
end
section
variable {X : Cx} {pins : List (Addr × Obj)} {σ : L2.St} {H : Hp} {s : Shared} {Fz : Addr → Prop}
theorem pairs_vals {P : Program} {w : World} : ∀ {es : List DictEntry} {vs : List (Key × Value)}, Pairs (mixKind P w) es vs → ∀ {kvs : List (Str × V)}, KV (kvs.map keyP) vs →
    ∃ ts : List Tok, es.map (·.key) = (kvs.zip ts).map (fun p => Value.str p.1.1 p.2) ∧ ts.length = kvs.length ∧ Vals (kvs.map (·.2)) (es.map (·.val))
  | _, _, .nil, kvs, r => by
    cases kvs with
    | nil => exact ⟨[], rfl, rfl, .nil⟩
    | cons p q => cases r
  | _, _, .cons (e := e) (kv := kv) (es := es) (kvs := vs) h1 h2 l, kvs, r => by
    cases kvs with
    | nil => cases r
    | cons p q =>
      cases r with
      | cons a b =>
        obtain ⟨ts, e1, e2, e3⟩ := pairs_vals l (kvs := q) b
        obtain ⟨a1, a2⟩ := a
        rw [← a1] at h1
        have h1' : keyIs (Sum.inr p.1) e.key = true := h1
        rcases keyIs_shape h1' with ⟨i, t, z, _⟩ | ⟨x, t, z, z2⟩
        · cases z
        · cases z
          refine ⟨t :: ts, ?_, congrArg Nat.succ e2, .cons ?_ e3⟩
          · rw [List.map_cons, List.zip_cons_cons, List.map_cons, e1, z2]
          · show RelV p.2 e.val
            rw [h2]; exact a2
theorem reads_keys {h : Heap} : ∀ (kvs : List (Str × V)) (ts : List Tok) (ps : List (PyData × PyData)), ts.length = kvs.length → ps.map (·.1) = kvs.map (fun p => PyData.str p.1) →
    ReadsAll h ((kvs.zip ts).map fun p => Value.str p.1.1 p.2) (ps.map (·.1)) []
  | [], ts, ps, _, e => by rw [e]; exact .nil
  | p :: kvs, [], ps, e, _ => by simp at e
  | p :: kvs, t :: ts, [], _, e => by simp at e
  | p :: kvs, t :: ts, q :: ps, e, e2 => by
    rw [List.map_cons, List.map_cons] at e2
    injection e2 with e3 e4
    rw [List.zip_cons_cons, List.map_cons, List.map_cons, e3]
    exact .cons (as := []) (bs := []) (.str _ _) (reads_keys kvs ts ps (by simpa using e) e4)
mutual
theorem reads_of (I : Inv X pins σ H s) : ∀ (d : D) {v : V} {u : Value} {p : PyData}, toP d = some p → Den X.K Fz H v d → RelV v u → ∃ as, Reads s.heap u p as ∧ ∀ a ∈ as, ∃ o, H a = some o
  | .non, _, _, _, e, h, r => by cases e; cases h; cases r; exact ⟨_, .none, fun a z => by cases z⟩
  | .bl b, _, _, _, e, h, r => by cases e; cases h; cases r; exact ⟨_, .bool b, fun a z => by cases z⟩
  | .int i, _, _, _, e, h, r => by cases e; cases h; obtain ⟨t, rfl⟩ := r; exact ⟨_, .int i t, fun a z => by cases z⟩
  | .str i, _, _, _, e, h, r => by cases e; cases h; obtain ⟨t, rfl⟩ := r; exact ⟨_, .str i t, fun a z => by cases z⟩
  | .tup l, _, _, _, e, h, r => by
    cases h with
    | tup q m =>
      cases r
      rw [toP] at e
      obtain ⟨ps, e1, rfl⟩ := Option.map_eq_some_iff.mp e
      obtain ⟨jts, rv, ⟨o, h1, h2, n, h3⟩, _⟩ := I.tuple q.t
      obtain ⟨as, h4, h5⟩ := reads_ofL I l e1 m rv
      exact ⟨as, .tuple h1 h2 h3 (by simpa using h4), h5⟩
  | .lst l, _, _, _, e, h, r => by
    cases h with
    | lst q m =>
      cases r
      rw [toP] at e
      obtain ⟨ps, e1, rfl⟩ := Option.map_eq_some_iff.mp e
      obtain ⟨jts, rv, ⟨o, n, h1, h2, _, h3⟩, _⟩ := I.list q.l
      obtain ⟨as, h4, h5⟩ := reads_ofL I l e1 m rv
      refine ⟨_ :: as, .list h1 h2 h3 (by simpa using h4), fun a z => ?_⟩
      rcases List.mem_cons.mp z with z | z
      · obtain ⟨o, q⟩ := q; exact ⟨_, by rw [z]; exact q⟩
      · exact h5 a z
  | .dic l, _, _, _, e, h, r => by
    cases h with
    | dic q m =>
      cases r
      rw [toP] at e
      obtain ⟨ps, e1, rfl⟩ := Option.map_eq_some_iff.mp e
      obtain ⟨k1, k2, k3, es, ep, vs, k4, k5, k6, o', es', k7, k8, k9, k10, k11, k12⟩ := Inv.frzK I q
      obtain ⟨ts, t1, t2, t3⟩ := pairs_vals k11 k6
      rw [k2] at k7; cases k7
      rw [k4] at k9; cases k9
      obtain ⟨ps1, as, h4, h5⟩ := reads_ofF I l e1 m t3
      have h6 := reads_keys (h := s.heap) _ ts ps t2 ps1
      rw [← t1] at h6
      refine ⟨_ :: [] ++ as, .dict k2 k3.1 k4 h6 h4, fun a z => ?_⟩
      rcases List.mem_cons.mp z with z | z
      · exact ⟨_, by rw [z]; exact q⟩
      · exact h5 a z
  | .ins _ _, _, _, _, e, _, _ => by simp [toP] at e
  | .exn _ _, _, _, _, e, _, _ => by simp [toP] at e
theorem reads_ofL (I : Inv X pins σ H s) : ∀ (l : List D) {vs : List V} {us : List Value} {ps : List PyData}, toPL l = some ps → DenL X.K Fz H vs l → Vals vs us → ∃ as, ReadsAll s.heap us ps as ∧ ∀ a ∈ as, ∃ o, H a = some o
  | [], _, _, _, e, h, r => by cases e; cases h; cases r; exact ⟨_, .nil, fun a z => by cases z⟩
  | d :: l, _, _, _, e, h, r => by
    rw [toPL] at e
    obtain ⟨p, e1, e2⟩ := Option.bind_eq_some_iff.mp e
    obtain ⟨ps, e3, rfl⟩ := Option.map_eq_some_iff.mp e2
    cases h with
    | cons a b =>
      cases r with
      | cons r1 r2 =>
        obtain ⟨as, h1, h2⟩ := reads_of I d e1 a r1
        obtain ⟨bs, h3, h4⟩ := reads_ofL I l e3 b r2
        exact ⟨as ++ bs, .cons h1 h3, fun a z => (List.mem_append.mp z).elim (h2 a) (h4 a)⟩
theorem reads_ofF (I : Inv X pins σ H s) : ∀ (l : List (Str × D)) {vs : List (Str × V)} {us : List Value} {ps : List (PyData × PyData)}, toPF l = some ps → DenF X.K Fz H vs l → Vals (vs.map (·.2)) us →
    ps.map (·.1) = vs.map (fun p => PyData.str p.1) ∧ ∃ as, ReadsAll s.heap us (ps.map (·.2)) as ∧ ∀ a ∈ as, ∃ o, H a = some o
  | [], _, _, _, e, h, r => by cases e; cases h; cases r; exact ⟨rfl, _, .nil, fun a z => by cases z⟩
  | (k, d) :: l, _, _, _, e, h, r => by
    rw [toPF] at e
    obtain ⟨p, e1, e2⟩ := Option.bind_eq_some_iff.mp e
    obtain ⟨ps, e3, rfl⟩ := Option.map_eq_some_iff.mp e2
    cases h with
    | cons a b =>
      cases r with
      | cons r1 r2 =>
        obtain ⟨as, h1, h2⟩ := reads_of I d e1 a r1
        obtain ⟨z, bs, h3, h4⟩ := reads_ofF I l e3 b r2
        exact ⟨congrArg (_ :: ·) z, as ++ bs, .cons h1 h3, fun a z => (List.mem_append.mp z).elim (h2 a) (h4 a)⟩
end
end
section
variable {X : Cx} {K : Frag}
def reprD (d : D) : Option Str := (toP d).bind fun p => if p.showable && okLen p.shown.length && decide (p.depth ≤ maxDep) then some p.shown else none
def reprO : List D → Option D
  | [d] => (reprD d).map .str
  | _ => none
theorem reprD_of {d : D} {x : Str} (h : reprD d = some x) : ∃ p, toP d = some p ∧ p.showable = true ∧ p.shown.length ≤ sizeLine ∧ p.depth ≤ maxDep ∧ x = p.shown := by
  obtain ⟨p, e, h⟩ := Option.bind_eq_some_iff.mp h
  split at h
  · rename_i c
    cases h
    rw [Bool.and_eq_true, Bool.and_eq_true] at c
    exact ⟨p, e, c.1.1, of_decide_eq_true c.1.2, of_decide_eq_true c.2, rfl⟩
  · cases h
def rRepr (K : Frag) : List V → Hp → VK → Prop := fun xs H Q => ∃ Fz d x v, xs = [v] ∧ Den K Fz H v d ∧ reprD d = some x ∧ Q (.str x) H
theorem r_repr : RLD K (rRepr K) reprO := fun B Fz H σ ρ vs ds z Q hK I hd e b => by
  subst hK
  unfold reprO at e
  split at e
  · obtain ⟨x, e1, rfl⟩ := Option.map_eq_some_iff.mp e
    obtain ⟨v, rfl, h⟩ := denL1 hd
    exact ⟨Fz, _, x, v, rfl, h, e1, b _ H Fz I .refl (.str _)⟩
  · cases e
theorem sys_none {pins : List (Addr × Obj)} {σ : L2.St} {H : Hp} {s : Shared} (I : Inv X pins σ H s) (h : ∃ o, X.K.lookup sysModules = some o) : H sysModules = none := by
  obtain ⟨o, e⟩ := h
  exact (I.bs _ _ (I.ok.mod.kin _ _ e)).2
theorem call_reprF (hg : X.A.guards = some []) (hu : X.A.units + 100 < cLine) (hsys : ∃ o, X.K.lookup sysModules = some o) : CallR X (.builtin "repr") (rRepr X.K) := by
  intro pins s σ H xs us Q I r ⟨Fz, d, x, v, e, hd, hr, q⟩
  subst e
  obtain ⟨u, rfl, ru⟩ := r.one
  obtain ⟨p, hp, h1, h2, h3, rfl⟩ := reprD_of hr
  have fin : ∀ t tk (h' : Heap), (∀ b o, s.heap.get? b = some o → h'.get? b = some o) → EP X pins σ Q (.str p.shown t) { s with heap := h', toks := tk } := fun t tk h' hk => ⟨.str p.shown, H, I.kept hk, ⟨t, rfl⟩, q⟩
  have seq : ∀ a, u = .ref a → wpAny (model X.prog X.w) X.A (call (.builtin "repr") [u]) (EP X pins σ Q) X.xe s := fun a eu => by
    subst eu
    obtain ⟨as, h4, h5⟩ := reads_of I d hp hd ru
    refine repr_of_reads' h4 h1 (fun _ z => ?_) hg (by unfold maxDep at h3; omega) (fun _ _ e => e) (fun h' t tk hk => fin t tk h' hk) h2
    obtain ⟨o, z⟩ := h5 _ z
    rw [sys_none I hsys] at z; cases z
  cases hd with
  | non => cases hp; cases ru; exact PySem.P.repr_of_none (fin _ _ _ fun _ _ e => e)
  | bl b =>
    cases hp; cases ru
    refine PySem.P.repr_of_bool ?_
    have := fin s.toks (s.toks + 1) s.heap fun _ _ e => e
    rw [PyData.shown] at this
    exact this
  | int i =>
    cases hp; obtain ⟨t, rfl⟩ := ru
    refine PySem.P.repr_of_int (by rw [PyData.showable] at h1; exact of_decide_eq_true h1) ?_
    have := fin s.toks (s.toks + 1) s.heap fun _ _ e => e
    rw [PyData.shown] at this
    exact this
  | str i =>
    cases hp; obtain ⟨t, rfl⟩ := ru
    refine PySem.P.repr_of_str ?_ (by rw [PyData.shown] at h2; exact h2)
    have := fin s.toks (s.toks + 1) s.heap fun _ _ e => e
    rw [PyData.shown] at this
    exact this
  | tup a b => exact seq _ ru
  | lst a b => exact seq _ ru
  | dic a b => exact seq _ ru
  | ins a b c => simp [toP] at hp
  | exn a b c => simp [toP] at hp
/-! ### all, any of a list of bools -/
def boolsD : List D → Option (List Bool)
  | [] => some []
  | .bl b :: l => (boolsD l).map (b :: ·)
  | _ => none
theorem boolsD_of {Fz : Addr → Prop} {H : Hp} : ∀ {l : List D} {bs : List Bool} {vs : List V}, boolsD l = some bs → DenL K Fz H vs l → vs = bs.map V.bl
  | [], _, _, e, h => by cases e; cases h; rfl
  | .bl b :: l, bs, vs, e, h => by
    rw [boolsD] at e
    obtain ⟨cs, e1, rfl⟩ := Option.map_eq_some_iff.mp e
    cases h with
    | cons a m => cases a; rw [boolsD_of e1 m]; rfl
  | .non :: l, bs, vs, e, h => by simp [boolsD] at e
  | .int _ :: l, bs, vs, e, h => by simp [boolsD] at e
  | .str _ :: l, bs, vs, e, h => by simp [boolsD] at e
  | .tup _ :: l, bs, vs, e, h => by simp [boolsD] at e
  | .lst _ :: l, bs, vs, e, h => by simp [boolsD] at e
  | .dic _ :: l, bs, vs, e, h => by simp [boolsD] at e
  | .ins _ _ :: l, bs, vs, e, h => by simp [boolsD] at e
  | .exn _ _ :: l, bs, vs, e, h => by simp [boolsD] at e
def allO : List D → Option D
  | [.lst l] => (boolsD l).map fun bs => .bl (bs.all id)
  | _ => none
def anyO : List D → Option D
  | [.lst l] => (boolsD l).map fun bs => .bl (bs.any id)
  | _ => none
theorem r_all : RLD K (rAll K) allO := fun B Fz H σ ρ vs ds z Q hK I hd e b => by
  subst hK
  unfold allO at e
  split at e
  · obtain ⟨bs, e1, rfl⟩ := Option.map_eq_some_iff.mp e
    obtain ⟨v, rfl, h⟩ := denL1 hd
    cases h with
    | lst q l => exact ⟨_, bs, rfl, boolsD_of e1 l ▸ q.l, b _ H Fz I .refl (.bl _)⟩
  · cases e
theorem r_any : RLD K (rAny K) anyO := fun B Fz H σ ρ vs ds z Q hK I hd e b => by
  subst hK
  unfold anyO at e
  split at e
  · obtain ⟨bs, e1, rfl⟩ := Option.map_eq_some_iff.mp e
    obtain ⟨v, rfl, h⟩ := denL1 hd
    cases h with
    | lst q l => exact ⟨_, bs, rfl, boolsD_of e1 l ▸ q.l, b _ H Fz I .refl (.bl _)⟩
  · cases e
end
end Dx

set_option Elab.async false
set_option linter.all false
set_option maxRecDepth 100000
set_option maxHeartbeats 1000000
namespace Dx
open PySem PySem.Spec PyProof.Rows L2

/-- what comes of a statement -/
inductive RS where
  | nx (ρ : List Sl) | rt (o : Bool) (d : D) (ρ : List Sl) | bk (ρ : List Sl) | ct (ρ : List Sl) | exc (c : Str) (d : D) | bad
def RS.bind (r : RS) (k : List Sl → RS) : RS := match r with
  | .nx ρ => k ρ
  | r => r
@[simp] theorem RS.bind_nx (ρ : List Sl) (k : List Sl → RS) : (RS.nx ρ).bind k = k ρ := rfl
@[simp] theorem RS.bind_rt (o : Bool) (d : D) (ρ : List Sl) (k : List Sl → RS) : (RS.rt o d ρ).bind k = .rt o d ρ := rfl
@[simp] theorem RS.bind_bk (ρ : List Sl) (k : List Sl → RS) : (RS.bk ρ).bind k = .bk ρ := rfl
@[simp] theorem RS.bind_ct (ρ : List Sl) (k : List Sl → RS) : (RS.ct ρ).bind k = .ct ρ := rfl
@[simp] theorem RS.bind_exc (c : Str) (d : D) (k : List Sl → RS) : (RS.exc c d).bind k = .exc c d := rfl
@[simp] theorem RS.bind_bad (k : List Sl → RS) : RS.bad.bind k = .bad := rfl
def R.st {α : Type} (r : R α) (k : α → RS) : RS := match r with
  | .ok a => k a
  | .exc c d => .exc c d
  | .bad => .bad
@[simp] theorem R.st_ok {α : Type} (a : α) (k : α → RS) : (R.ok a).st k = k a := rfl
@[simp] theorem R.st_exc {α : Type} (c : Str) (d : D) (k : α → RS) : (R.exc c d : R α).st k = .exc c d := rfl
@[simp] theorem R.st_bad {α : Type} (k : α → RS) : (R.bad : R α).st k = .bad := rfl

/-- a returned value: shared data, or a new container of one's own -/
def ResOk (B : Bs) (Fz : Addr → Prop) (H : Hp) (o : Bool) (v : V) (d : D) : Prop := match o with
  | true => ∃ a, v = .ref a ∧ Own B.K Fz H a d ∧ B.H0 a = none
  | false => Den B.K Fz H v d
def FinS (B : Bs) (E : XK) (Dn : Ends) (Fz : Addr → Prop) (H : Hp) : RS → Prop
  | .nx ρ => ∀ σ' H' Fz', Iv B Fz' H' σ' ρ → Ge Fz H Fz' H' → Dn.nx σ' H'
  | .bk ρ => ∀ σ' H' Fz', Iv B Fz' H' σ' ρ → Ge Fz H Fz' H' → Dn.bk σ' H'
  | .ct ρ => ∀ σ' H' Fz', Iv B Fz' H' σ' ρ → Ge Fz H Fz' H' → Dn.ct σ' H'
  | .rt o d ρ => ∀ v σ' H' Fz', Iv B Fz' H' σ' ρ → Ge Fz H Fz' H' → ResOk B Fz' H' o v d → Dn.rt v H'
  | .exc c d => ∀ dx v H' Fz', Ext B.ex B.Fz0 B.H0 Fz' H' → FzOk Fz' H' → H' dx = some (.xd [("value", v)]) → Den B.K Fz' H' v d → E (.ref (He.ga B.K c)) (some dx) H'
  | .bad => False
def tS (B : Bs) (E : XK) (g : List Sl → RS) : TS := fun Dn σ H => ∃ Fz ρ, Iv B Fz H σ ρ ∧ FinS B E Dn Fz H (g ρ)

section
variable {X : Cx} {B : Bs} {E : XK} {st : Stmt} {sts : List Stmt} {g k : List Sl → RS} {f : List Sl → R (D × List Sl)} {u : List Sl → R (Bool × List Sl)} {e c : Expr} {pos : Pos}
theorem FinS.mono {Dn Dn' : Ends} {Fz : Addr → Prop} {H : Hp} {r : RS} (h : FinS B E Dn Fz H r) (n : ∀ σ H, Dn.nx σ H → Dn'.nx σ H) (rt : ∀ v H, Dn.rt v H → Dn'.rt v H) (b : ∀ σ H, Dn.bk σ H → Dn'.bk σ H) (ct : ∀ σ H, Dn.ct σ H → Dn'.ct σ H) : FinS B E Dn' Fz H r := by
  cases r with
  | nx ρ => exact fun σ H Fz I g => n σ H (h σ H Fz I g)
  | bk ρ => exact fun σ H Fz I g => b σ H (h σ H Fz I g)
  | ct ρ => exact fun σ H Fz I g => ct σ H (h σ H Fz I g)
  | rt o d ρ => exact fun v σ H Fz I g q => rt v H (h v σ H Fz I g q)
  | exc c d => exact h
  | bad => exact h
theorem FinS.ge {Dn : Ends} {Fz Fz' : Addr → Prop} {H H' : Hp} {r : RS} (g : Ge Fz H Fz' H') (h : FinS B E Dn Fz H r) : FinS B E Dn Fz' H' r := by
  cases r with
  | nx ρ => exact fun σ H Fz I g' => h σ H Fz I (g.trans g')
  | bk ρ => exact fun σ H Fz I g' => h σ H Fz I (g.trans g')
  | ct ρ => exact fun σ H Fz I g' => h σ H Fz I (g.trans g')
  | rt o d ρ => exact fun v σ H Fz I g' q => h v σ H Fz I (g.trans g') q
  | exc c d => exact h
  | bad => exact h
theorem dss_nil : PSs X [] (tS B E .nx) := weakSs pss_nil fun Dn σ H ⟨Fz, ρ, I, q⟩ => q σ H Fz I .refl
theorem dss_cons (h1 : PS X st (tS B E g)) (h2 : PSs X sts (tS B E k)) : PSs X (st :: sts) (tS B E fun ρ => (g ρ).bind k) :=
  weakSs (pss_cons h1 h2) fun Dn σ H ⟨Fz, ρ, I, q⟩ => by
    refine ⟨Fz, ρ, I, ?_⟩
    have q : FinS B E Dn Fz H ((g ρ).bind k) := q
    cases e : g ρ with
    | nx ρ' => rw [e] at q; exact fun σ' H' Fz' I' g' => ⟨Fz', ρ', I', FinS.ge g' q⟩
    | bk ρ' => rw [e] at q; exact q
    | ct ρ' => rw [e] at q; exact q
    | rt o d ρ' => rw [e] at q; exact q
    | exc c d => rw [e] at q; exact q
    | bad => rw [e] at q; exact q
/-- an expression ahead of the rest of a statement -/
theorem tG_st {α β : Type} {Rl : Rel α β} {Dn : Ends} {f : List Sl → R (α × List Sl)} {k : α × List Sl → RS} {σ : L2.St} {H : Hp} {Fz : Addr → Prop} {ρ : List Sl} (I : Iv B Fz H σ ρ) (h : FinS B E Dn Fz H ((f ρ).st k)) :
    tG Rl B E f σ H (fun v H1 => ∃ Fz1 ρ1 d, Iv B Fz1 H1 σ ρ1 ∧ Rl B Fz1 H1 σ ρ1 v d ∧ Ge Fz H Fz1 H1 ∧ FinS B E Dn Fz1 H1 (k (d, ρ1))) := by
  refine ⟨Fz, ρ, I, ?_⟩
  cases e : f ρ with
  | ok p =>
    rw [e] at h
    exact fun v H1 F1 I1 g1 d1 => ⟨F1, p.2, p.1, I1, d1, g1, FinS.ge g1 h⟩
  | exc c d => rw [e] at h; exact h
  | bad => rw [e] at h; exact h
def stRet (f : List Sl → R (D × List Sl)) (ρ : List Sl) : RS := (f ρ).st fun p => .rt false p.1 p.2
theorem ds_ret (he : PE X e (tE B E f)) : PS X (.Return (some e) pos) (tS B E (stRet f)) :=
  weakS (ps_ret he) fun Dn σ H ⟨Fz, ρ, I, q⟩ => monoG (tG_st I q) fun v H1 ⟨F1, ρ1, d, I1, d1, g1, q1⟩ => q1 v σ H1 F1 I1 .refl d1
def stRetO (f : List Sl → R (D × List Sl)) (ρ : List Sl) : RS := (f ρ).st fun p => .rt true p.1 p.2
theorem ds_retO (he : PE X e (tO B E f)) : PS X (.Return (some e) pos) (tS B E (stRetO f)) :=
  weakS (ps_ret he) fun Dn σ H ⟨Fz, ρ, I, q⟩ => monoG (tG_st I q) fun v H1 ⟨F1, ρ1, d, I1, ⟨a, e1, ow, h0, _⟩, g1, q1⟩ => q1 v σ H1 F1 I1 .refl ⟨a, e1, ow, h0⟩
/-- return x, a container of one's own -/
def stRetV (i : Nat) (ρ : List Sl) : RS := match ρ[i]? with
  | some (.ow d) => .rt true d ρ
  | _ => .bad
theorem ds_retV {i : Nat} {x : Str} {p : Pos} (hN : X.N[i]? = some x) (hv : Vis X.env.scope x) (hd : (x == ("__debug__" : Str)) = false) (hcd : (x == ("__classdict__" : Str)) = false) : PS X (.Return (some (.Name x p)) pos) (tS B E (stRetV i)) :=
  weakS (ps_ret (pe_var hN hv hd hcd)) fun Dn σ H ⟨Fz, ρ, I, q⟩ => by
    unfold stRetV at q
    cases e : ρ[i]? with
    | none => rw [e] at q; exact q.elim
    | some s =>
      rw [e] at q
      cases s with
      | ow d =>
        obtain ⟨a, ha, ow, h0⟩ := I.ok i _ e
        exact ⟨.ref a, join_some.mp ha, q _ σ H Fz I .refl ⟨a, rfl, ow, h0⟩⟩
      | _ => exact q.elim
def stRetN (ρ : List Sl) : RS := .rt false .non ρ
theorem ds_retN : PS X (.Return none pos) (tS B E stRetN) := weakS ps_retN fun Dn σ H ⟨Fz, ρ, I, q⟩ => q .non σ H Fz I .refl .non
def stExp (f : List Sl → R (D × List Sl)) (ρ : List Sl) : RS := (f ρ).st fun p => .nx p.2
theorem ds_exp (he : PE X e (tE B E f)) (hs : swapsWith e none pos.line X.env = pure false) : PS X (.Expr e pos) (tS B E (stExp f)) :=
  weakS (ps_expr he hs) fun Dn σ H ⟨Fz, ρ, I, q⟩ => monoG (tG_st I q) fun v H1 ⟨F1, ρ1, d, I1, d1, g1, q1⟩ => q1 σ H1 F1 I1 .refl
theorem ds_pass : PS X (.Pass pos) (tS B E .nx) := weakS ps_pass fun Dn σ H ⟨Fz, ρ, I, q⟩ => q σ H Fz I .refl
theorem ds_brk : PS X (.Break pos) (tS B E .bk) := weakS ps_break fun Dn σ H ⟨Fz, ρ, I, q⟩ => q σ H Fz I .refl
theorem ds_cnt : PS X (.Continue pos) (tS B E .ct) := weakS ps_continue fun Dn σ H ⟨Fz, ρ, I, q⟩ => q σ H Fz I .refl
theorem ds_never : PS X st (tS B E fun _ => .bad) := weakS ps_never fun Dn σ H ⟨Fz, ρ, I, q⟩ => q.elim
def stIf (u : List Sl → R (Bool × List Sl)) (g k : List Sl → RS) (ρ : List Sl) : RS := (u ρ).st fun p => match p.1 with
  | true => g p.2
  | false => k p.2
theorem ds_if {a b : List Stmt} (hc : PT X c (tT B E u)) (ha : PSs X a (tS B E g)) (hb : PSs X b (tS B E k)) : PS X (.If c a b pos) (tS B E (stIf u g k)) :=
  weakS (ps_if hc ha hb) fun Dn σ H ⟨Fz, ρ, I, q⟩ => monoG (tG_st I q) fun v H1 ⟨F1, ρ1, d, I1, d1, g1, q1⟩ => by
    have d1' : v = d := d1
    subst d1'
    cases v with
    | true => exact ⟨F1, ρ1, I1, q1⟩
    | false => exact ⟨F1, ρ1, I1, q1⟩

/-! ### storing -/
/-- a slot may take a new value -/
def Sl.free : Sl → Bool
  | .mt _ => false
  | .br _ => false
  | _ => true
def putSl (ρ : List Sl) (i : Nat) (s : Sl) : Option (List Sl) := match ρ[i]? with
  | some t => if t.free then some (ρ.set i s) else none
  | none => none
theorem putSl_of {ρ ρ' : List Sl} {i : Nat} {s : Sl} (h : putSl ρ i s = some ρ') : i < ρ.length ∧ ρ' = ρ.set i s ∧ ∃ t, ρ[i]? = some t ∧ t.free = true := by
  unfold putSl at h
  cases e : ρ[i]? with
  | none => rw [e] at h; cases h
  | some t =>
    rw [e] at h
    have h2 : (if t.free = true then some (ρ.set i s) else none) = some ρ' := h
    split at h2
    · rename_i c; cases h2; exact ⟨(List.getElem?_eq_some_iff.mp e).1, rfl, t, rfl, c⟩
    · cases h2
theorem Iv.put {Fz : Addr → Prop} {H : Hp} {σ : L2.St} {ρ ρ' : List Sl} {i : Nat} {v : V} {s : Sl} (I : Iv B Fz H σ ρ) (h : putSl ρ i s = some ρ') (z : SlOk B Fz H i (some v) s) (ap : s.held = true → ∀ j b, j ≠ i → HeldAt σ ρ j b → v ≠ .ref b) : Iv B Fz H (σ.set i (some v)) ρ' := by
  obtain ⟨hi, rfl, t, et, ft⟩ := putSl_of h
  have hi' : i < σ.length := by rw [← I.len]; exact hi
  refine ⟨by rw [List.length_set, List.length_set]; exact I.len, I.ext, I.fzs, fun j w ej => ?_, fun j k b c hjk hj hk => ?_, I.lent⟩
  · by_cases hj : j = i
    · subst hj
      rw [List.getElem?_set_self hi] at ej
      cases ej
      rw [List.getElem?_set_self hi']
      exact z
    · rw [List.getElem?_set_ne (Ne.symm hj)] at ej ⊢
      exact I.ok j w ej
  · have old : ∀ {l x}, l ≠ i → HeldAt (σ.set i (some v)) (ρ.set i s) l x → HeldAt σ ρ l x := fun {l x} n ⟨w, e1, e2, e3⟩ => by
      rw [List.getElem?_set_ne (Ne.symm n)] at e1 e3
      exact ⟨w, e1, e2, e3⟩
    have oldO : ∀ {l x}, l ≠ i → OwnAt (σ.set i (some v)) (ρ.set i s) l x → OwnAt σ ρ l x := fun {l x} n ⟨w, e1, e2, e3⟩ => by
      rw [List.getElem?_set_ne (Ne.symm n)] at e1 e3
      exact ⟨w, e1, e2, e3⟩
    have new : ∀ {x}, HeldAt (σ.set i (some v)) (ρ.set i s) i x → s.held = true ∧ v = .ref x := fun {x} ⟨w, e1, e2, e3⟩ => by
      rw [List.getElem?_set_self hi] at e1
      rw [List.getElem?_set_self hi'] at e3
      cases e1; cases e3
      exact ⟨e2, rfl⟩
    by_cases h1 : j = i
    · subst h1
      obtain ⟨hh, ev⟩ := new hj.held
      have := ap hh k c (Ne.symm hjk) (old (Ne.symm hjk) hk)
      intro q
      rw [ev, q] at this
      exact this rfl
    · by_cases h2 : k = i
      · subst h2
        obtain ⟨hh, ev⟩ := new hk
        have := ap hh j b hjk (oldO h1 hj).held
        intro q
        rw [ev, q] at this
        exact this rfl
      · exact I.apart j k b c hjk (oldO h1 hj) (old h2 hk)
/-- a target of an assignment -/
def tGD (B : Bs) (K : Frag) (t : D → List Sl → Option (List Sl)) : TG := fun v σ H Q => ∃ Fz ρ d ρ', Iv B Fz H σ ρ ∧ Den B.K Fz H v d ∧ t d ρ = some ρ' ∧ ∀ σ', Iv B Fz H σ' ρ' → Q σ' H
theorem weakG {e : Expr} {t t' : TG} (h : PG X e t) (w : ∀ v σ H Q, t' v σ H Q → t v σ H Q) : PG X e t' := ⟨fun pins s σ H v u Q I r q => h.run pins s σ H v u Q I r (w v σ H Q q)⟩
def tgN (i : Nat) (d : D) (ρ : List Sl) : Option (List Sl) := putSl ρ i (.sh d)
theorem dg_name {i : Nat} {x : Str} {p : Pos} (hN : X.N.Nodup) (hi : X.N[i]? = some x) (hx : Loc X.env.scope x) (hf : X.fn x = true ∨ X.env.scope.names.lookup x = some .local) : PG X (.Name x p) (tGD B X.K (tgN i)) :=
  weakG (pg_name hN hi hx hf) fun v σ H Q ⟨Fz, ρ, d, ρ', I, h, e, q⟩ => q _ (I.put e ⟨v, rfl, h⟩ fun z => by cases z)
end
end Dx

set_option Elab.async false
set_option linter.all false
set_option maxRecDepth 100000
set_option maxHeartbeats 1000000
namespace Dx
open PySem PySem.Spec PyProof.Rows L2

section
variable {X : Cx} {B : Bs} {E : XK} {st : Stmt} {sts : List Stmt} {g k : List Sl → RS} {f h : List Sl → R (D × List Sl)} {u : List Sl → R (Bool × List Sl)} {e c : Expr} {pos : Pos}

/-! ### a name as data: a container of one's own is locked -/
theorem pe_frz2 {e : Expr} {t : TE} (h : PE X e t) : PE X e (fun σ H Q => t σ H fun v H1 => Q v H1 ∨ ∃ a u, v = .ref a ∧ H1 a = some u ∧ Mut (some u) ∧ ∀ od, Q v (upd H1 a (.frz od u))) := by
  refine ⟨fun pins s σ H Q I q => thn (h.run pins s σ H _ I q) fun u s1 ⟨v, H1, I1, r1, q1⟩ => ?_⟩
  rcases q1 with q1 | ⟨a, o, ev, ha, mu, q1⟩
  · exact ⟨v, H1, I1, r1, q1⟩
  · obtain ⟨od, I2⟩ := I1.lock ha mu
    exact ⟨v, _, I2, r1, q1 od⟩
def frzD : D → Bool
  | .lst _ => true
  | .dic _ => true
  | _ => false
/-- the container of slot i is locked -/
theorem Iv.frz {Fz : Addr → Prop} {H : Hp} {σ : L2.St} {ρ : List Sl} {i : Nat} {a : Addr} {d : D} (I : Iv B Fz H σ ρ) (e : ρ[i]? = some (.ow d)) (hf : frzD d = true) (q : σ[i]? = some (some (.ref a))) (ow : Own B.K Fz H a d) :
    ∃ u, H a = some u ∧ Mut (some u) ∧ ∀ od, Iv B Fz (upd H a (.frz od u)) σ (ρ.set i (.sh d)) ∧ Ge Fz H Fz (upd H a (.frz od u)) ∧ Den B.K Fz (upd H a (.frz od u)) (.ref a) d := by
  obtain ⟨u, hu, ni, mu⟩ := ow.there
  have nz : ¬ Fz a := ow.nofz I.fzs
  refine ⟨u, hu, mu, fun od => ?_⟩
  have x := ext_put (o := .frz od u) hu ni nz
  have f2 : FzOk Fz (upd H a (.frz od u)) := fzs_put I.fzs nz
  have dn : Den B.K Fz (upd H a (.frz od u)) (.ref a) d := by
    cases d with
    | lst ds =>
      obtain ⟨vs, e2, l⟩ := ow
      rw [hu] at e2; cases e2
      exact .lst ⟨od, upd_same⟩ (l.mono x.ge)
    | dic ds =>
      obtain ⟨vs, e2, l⟩ := ow
      rw [hu] at e2; cases e2
      exact .dic (o := od) upd_same (l.mono x.ge)
    | _ => cases hf
  exact ⟨I.turn x f2 e rfl q (fun b z => z) ⟨_, rfl, dn⟩, x.ge, dn⟩
def evV (i : Nat) (ρ : List Sl) : R (D × List Sl) := match ρ[i]? with
  | some (.sh d) => .ok (d, ρ)
  | some (.ow d) => if frzD d then .ok (d, ρ.set i (.sh d)) else .bad
  | _ => .bad
theorem de_v {i : Nat} {x : Str} (hN : X.N[i]? = some x) (hv : Vis X.env.scope x) (hd : (x == ("__debug__" : Str)) = false) (hcd : (x == ("__classdict__" : Str)) = false) : PE X (.Name x pos) (tE B E (evV i)) :=
  weakE (pe_frz2 (pe_var hN hv hd hcd)) fun σ H Q ⟨Fz, ρ, I, q⟩ => by
    unfold evV at q
    cases e : ρ[i]? with
    | none => rw [e] at q; exact q.elim
    | some s =>
      rw [e] at q
      cases s with
      | sh d =>
        obtain ⟨u, hu, hd⟩ := I.ok i _ e
        exact ⟨u, join_some.mp hu, .inl (q u H Fz I .refl hd)⟩
      | ow d =>
        obtain ⟨hf, q⟩ := fin_if (α := D) q
        obtain ⟨a, ha, ow, h0⟩ := I.ok i _ e
        have hs := join_some.mp ha
        obtain ⟨u, hu, mu, fin⟩ := I.frz e hf hs ow
        refine ⟨.ref a, hs, .inr ⟨a, u, rfl, hu, mu, fun od => ?_⟩⟩
        obtain ⟨I2, g2, d2⟩ := fin od
        exact q _ _ Fz I2 g2 d2
      | _ => exact q.elim

/-! ### targets -/
/-- the slots but vs stay -/
def Same (vs : List Nat) (σ σ' : L2.St) : Prop := σ'.length = σ.length ∧ ∀ j, j ∉ vs → σ'[j]? = σ[j]?
theorem Same.refl {vs : List Nat} {σ : L2.St} : Same vs σ σ := ⟨rfl, fun _ _ => rfl⟩
theorem Same.trans {vs : List Nat} {σ σ1 σ2 : L2.St} (a : Same vs σ σ1) (b : Same vs σ1 σ2) : Same vs σ σ2 := ⟨b.1.trans a.1, fun j hj => (b.2 j hj).trans (a.2 j hj)⟩
theorem Same.mono {vs ws : List Nat} {σ σ' : L2.St} (a : Same vs σ σ') (h : ∀ j ∈ vs, j ∈ ws) : Same ws σ σ' := ⟨a.1, fun j hj => a.2 j fun z => hj (h j z)⟩
theorem Same.set {σ : L2.St} {i : Nat} {v : Option V} : Same [i] σ (σ.set i v) := ⟨List.length_set, fun j hj => List.getElem?_set_ne (fun z => hj (by rw [z]; exact List.mem_singleton.mpr rfl))⟩
/-- a target that takes data -/
def tG1 (B : Bs) (vs : List Nat) (t : D → List Sl → Option (List Sl)) : TG := fun v σ H Q => ∃ Fz ρ d ρ', Iv B Fz H σ ρ ∧ Den B.K Fz H v d ∧ t d ρ = some ρ' ∧ ∀ σ', Same vs σ σ' → Iv B Fz H σ' ρ' → Q σ' H
def tG2 (B : Bs) (vs : List Nat) (t : List D → List Sl → Option (List Sl)) : TGs := fun v σ H Q => ∃ Fz ρ d ρ', Iv B Fz H σ ρ ∧ DenL B.K Fz H v d ∧ t d ρ = some ρ' ∧ ∀ σ', Same vs σ σ' → Iv B Fz H σ' ρ' → Q σ' H
theorem weakGs {es : List Expr} {t t' : TGs} (h : PGs X es t) (w : ∀ v σ H Q, t' v σ H Q → t v σ H Q) : PGs X es t' := ⟨fun pins s σ H v u Q I r q => h.run pins s σ H v u Q I r (w v σ H Q q)⟩
theorem pg_or {e : Expr} {t t' : TG} (h : PG X e t) (h' : PG X e t') : PG X e (fun v σ H Q => t v σ H Q ∨ t' v σ H Q) := ⟨fun pins s σ H v u Q I r q => q.elim (h.run pins s σ H v u Q I r) (h'.run pins s σ H v u Q I r)⟩
theorem dg_n {i : Nat} {x : Str} {p : Pos} (hN : X.N.Nodup) (hi : X.N[i]? = some x) (hx : Loc X.env.scope x) (hf : X.fn x = true ∨ X.env.scope.names.lookup x = some .local) : PG X (.Name x p) (tG1 B [i] (tgN i)) :=
  weakG (pg_name hN hi hx hf) fun v σ H Q ⟨Fz, ρ, d, ρ', I, h, e, q⟩ => q _ .set (I.put e ⟨v, rfl, h⟩ fun z => by cases z)
def tgNil (ds : List D) (ρ : List Sl) : Option (List Sl) := match ds with
  | [] => some ρ
  | _ => none
def tgCons (t : D → List Sl → Option (List Sl)) (u : List D → List Sl → Option (List Sl)) (ds : List D) (ρ : List Sl) : Option (List Sl) := match ds with
  | d :: r => (t d ρ).bind (u r)
  | [] => none
theorem dgs_nil : PGs X [] (tG2 B [] tgNil) := weakGs pgs_nil fun v σ H Q ⟨Fz, ρ, d, ρ', I, h, e, q⟩ => by
  cases h with
  | nil => cases e; exact ⟨rfl, q σ .refl I⟩
  | cons _ _ => cases e
theorem dgs_cons {e : Expr} {es : List Expr} {vs ws : List Nat} {t : D → List Sl → Option (List Sl)} {u : List D → List Sl → Option (List Sl)} (h1 : PG X e (tG1 B vs t)) (h2 : PGs X es (tG2 B ws u))
    (hs : (assignEach (e :: es) X.env).map (·.2) = assign e X.env :: (assignEach es X.env).map (·.2)) : PGs X (e :: es) (tG2 B (vs ++ ws) (tgCons t u)) :=
  weakGs (pgs_cons h1 h2 hs) fun v σ H Q ⟨Fz, ρ, d, ρ', I, h, e, q⟩ => by
    cases h with
    | nil => cases e
    | @cons v0 d0 vr dr hd tl =>
      have e' : (t d0 ρ).bind (u dr) = some ρ' := e
      cases e1 : t d0 ρ with
      | none => rw [e1] at e'; cases e'
      | some ρ1 =>
        rw [e1] at e'
        exact ⟨v0, vr, rfl, Fz, ρ, d0, ρ1, I, hd, e1, fun σ1 s1 I1 => ⟨Fz, ρ1, dr, ρ', I1, tl, e', fun σ2 s2 I2 => q σ2 ((s1.mono fun j hj => List.mem_append_left _ hj).trans (s2.mono fun j hj => List.mem_append_right _ hj)) I2⟩⟩
def tgT (n : Nat) (u : List D → List Sl → Option (List Sl)) (d : D) (ρ : List Sl) : Option (List Sl) := match d with
  | .tup l => if l.length = n then u l ρ else none
  | .lst l => if l.length = n then u l ρ else none
  | _ => none
theorem dg_t {es : List Expr} {k : Nat} {p : Pos} {vs : List Nat} {u : List D → List Sl → Option (List Sl)} (hK : B.K = X.K) (hc : X.calm = true) (h : PGs X es (tG2 B vs u)) (hn : (assignEach es X.env).length = es.length) (hst : (assignEach es X.env).findIdx? (·.1) = none) :
    PG X (.Tuple es k p) (tG1 B vs (tgT es.length u)) :=
  weakG (pg_or (pg_tup hc h hn hst) (pg_lst hc h hn hst)) fun v σ H Q ⟨Fz, ρ, d, ρ', I, hd, e, q⟩ => by
    cases hd with
    | @tup a vs ds sq l =>
      have e' : (if ds.length = es.length then u ds ρ else none) = some ρ' := e
      split at e'
      · rename_i z
        exact .inl ⟨a, vs, rfl, hK ▸ sq.t, l.length.trans z, Fz, ρ, ds, ρ', I, l, e', q⟩
      · cases e'
    | @lst a vs ds sq l =>
      have e' : (if ds.length = es.length then u ds ρ else none) = some ρ' := e
      split at e'
      · rename_i z
        exact .inr ⟨a, vs, rfl, hK ▸ sq.l, l.length.trans z, Fz, ρ, ds, ρ', I, l, e', q⟩
      · cases e'
    | _ => cases e

/-! ### assignments -/
def ofT {α : Type} (o : Option α) (k : α → RS) : RS := match o with
  | some a => k a
  | none => .bad
@[simp] theorem ofT_some {α : Type} (a : α) (k : α → RS) : ofT (some a) k = k a := rfl
@[simp] theorem ofT_none {α : Type} (k : α → RS) : ofT none k = .bad := rfl
theorem fin_ofT {α : Type} {Dn : Ends} {Fz : Addr → Prop} {H : Hp} {o : Option α} {k : α → RS} (h : FinS B E Dn Fz H (ofT o k)) : ∃ a, o = some a ∧ FinS B E Dn Fz H (k a) := by
  cases o with
  | none => exact h.elim
  | some a => exact ⟨a, rfl, h⟩
def stAsg (t : D → List Sl → Option (List Sl)) (f : List Sl → R (D × List Sl)) (ρ : List Sl) : RS := (f ρ).st fun p => ofT (t p.1 p.2) .nx
theorem ds_asg {tg : Expr} {vs : List Nat} {t : D → List Sl → Option (List Sl)} (he : PE X e (tE B E f)) (hg : PG X tg (tG1 B vs t)) (hs : swapsWithSole [tg] e pos.line X.env = pure false) (hw : swappedStores [tg] e X.env = pure none)
    (h1 : (assignEach [tg] X.env).map (·.2) = [assign tg X.env]) : PS X (.Assign [tg] e pos) (tS B E (stAsg t f)) :=
  weakS (ps_asg he hg hs hw h1) fun Dn σ H ⟨Fz, ρ, I, q⟩ => monoG (tG_st I q) fun v H1 ⟨F1, ρ1, d, I1, d1, g1, q1⟩ => by
    obtain ⟨ρ2, e2, q2⟩ := fin_ofT q1
    exact ⟨F1, ρ1, d, ρ2, I1, d1, e2, fun σ' _ I' => q2 σ' H1 F1 I' .refl⟩
/-- x = a new container -/
def stOwn (i : Nat) (f : List Sl → R (D × List Sl)) (ρ : List Sl) : RS := (f ρ).st fun p => ofT (putSl p.2 i (.ow p.1)) .nx
theorem ds_own {i : Nat} {x : Str} {p : Pos} (hN : X.N.Nodup) (hi : X.N[i]? = some x) (hx : Loc X.env.scope x) (hf : X.fn x = true ∨ X.env.scope.names.lookup x = some .local) (he : PE X e (tO B E f)) (hs : swapsWith e (some (.Name x p)) pos.line X.env = pure false) :
    PS X (.Assign [.Name x p] e pos) (tS B E (stOwn i f)) :=
  weakS (ps_set hN hi hx he hs hf) fun Dn σ H ⟨Fz, ρ, I, q⟩ => monoG (tG_st I q) fun v H1 ⟨F1, ρ1, d, I1, ⟨a, ev, ow, h0, ap⟩, g1, q1⟩ => by
    obtain ⟨ρ2, e2, q2⟩ := fin_ofT q1
    subst ev
    exact q2 _ H1 F1 (I1.put e2 ⟨a, rfl, ow, h0⟩ fun _ j b hj hb z => ap j b hb (V.ref.inj z).symm) .refl
/-- x = data, x a plain name -/
def stSet (i : Nat) (f : List Sl → R (D × List Sl)) (ρ : List Sl) : RS := (f ρ).st fun p => ofT (putSl p.2 i (.sh p.1)) .nx
theorem ds_set {i : Nat} {x : Str} {p : Pos} (hN : X.N.Nodup) (hi : X.N[i]? = some x) (hx : Loc X.env.scope x) (hf : X.fn x = true ∨ X.env.scope.names.lookup x = some .local) (he : PE X e (tE B E f)) (hs : swapsWith e (some (.Name x p)) pos.line X.env = pure false) :
    PS X (.Assign [.Name x p] e pos) (tS B E (stSet i f)) :=
  weakS (ps_set hN hi hx he hs hf) fun Dn σ H ⟨Fz, ρ, I, q⟩ => monoG (tG_st I q) fun v H1 ⟨F1, ρ1, d, I1, d1, g1, q1⟩ => by
    obtain ⟨ρ2, e2, q2⟩ := fin_ofT q1
    exact q2 _ H1 F1 (I1.put e2 ⟨v, rfl, d1⟩ fun z => by cases z) .refl
end
end Dx

set_option Elab.async false
set_option linter.all false
set_option maxRecDepth 100000
set_option maxHeartbeats 1000000
namespace Dx
open PySem PySem.Spec PyProof.Rows L2

/-! ### containers in slots, changed -/
def ownD (ρ : List Sl) (i : Nat) : Option D := match ρ[i]? with
  | some (.ow d) => some d
  | some (.mt d) => some d
  | _ => none
def putO (ρ : List Sl) (i : Nat) (d : D) : List Sl := match ρ[i]? with
  | some (.ow _) => ρ.set i (.ow d)
  | some (.mt _) => ρ.set i (.mt d)
  | _ => ρ
section
variable {B : Bs} {Fz : Addr → Prop} {H : Hp} {σ : L2.St} {ρ : List Sl} {i : Nat} {d : D}
theorem ownD_of (I : Iv B Fz H σ ρ) (h : ownD ρ i = some d) : ∃ a, σ[i]? = some (some (.ref a)) ∧ Own B.K Fz H a d := by
  unfold ownD at h
  cases e : ρ[i]? with
  | none => rw [e] at h; cases h
  | some s =>
    rw [e] at h
    have z := I.ok i s e
    cases s with
    | ow d' => cases h; obtain ⟨a, e1, o, _⟩ := z; exact ⟨a, join_some.mp e1, o⟩
    | mt d' => cases h; obtain ⟨a, e1, o, _⟩ := z; exact ⟨a, join_some.mp e1, o⟩
    | _ => cases h
theorem ownD_put {a : Addr} {o' : HO} {d' : D} (I : Iv B Fz H σ ρ) (h : ownD ρ i = some d) (hs : σ[i]? = some (some (.ref a))) (ho : ∀ g : Ge Fz H Fz (upd H a o'), Own B.K Fz (upd H a o') a d') :
    Iv B Fz (upd H a o') σ (putO ρ i d') ∧ Ge Fz H Fz (upd H a o') := by
  obtain ⟨a', hs', ow⟩ := ownD_of I h
  rw [hs] at hs'; cases hs'
  obtain ⟨u, hu, ni, mu⟩ := ow.there
  have nz : ¬ Fz a := ow.nofz I.fzs
  have x := ext_put (o := o') hu ni nz
  have f2 : FzOk Fz (upd H a o') := fzs_put I.fzs nz
  have ow' := ho x.ge
  refine ⟨?_, x.ge⟩
  unfold ownD at h
  unfold putO
  cases e : ρ[i]? with
  | none => rw [e] at h; cases h
  | some s =>
    rw [e] at h
    have z := I.ok i s e
    cases s with
    | ow d0 =>
      obtain ⟨a0, e1, _, h0⟩ := z
      have e2 := join_some.mp e1
      rw [hs] at e2; cases e2
      exact I.turn x f2 e rfl hs (fun b z => z) ⟨a, rfl, ow', h0⟩
    | mt d0 =>
      obtain ⟨a0, e1, _, h1, h2⟩ := z
      have e2 := join_some.mp e1
      rw [hs] at e2; cases e2
      exact I.turn x f2 e rfl hs (fun b z => z) ⟨a, rfl, ow', h1, h2⟩
    | _ => cases h
end
/-! ### methods that change the container -/
/-- a method: the container's data, the arguments; what it gives and what the container becomes -/
def MtO (K : Frag) (r : V → List V → Hp → VK → Prop) (F : D → List D → Option (D × D)) : Prop :=
  ∀ (Fz : Addr → Prop) (H : Hp) (a : Addr) (d : D) (vs : List V) (ds : List D) (z d' : D) (Q : VK), FzOk Fz H → Own K Fz H a d → DenL K Fz H vs ds → F d ds = some (z, d') →
    (∀ o' v, (∀ g : Ge Fz H Fz (upd H a o'), Own K Fz (upd H a o') a d' ∧ Den K Fz (upd H a o') v z) → Q v (upd H a o')) → r (.ref a) vs H Q
def isLst : D → Bool
  | .lst _ => true
  | _ => false
def evMt (F : D → List D → Option (D × D)) (i : Nat) (l : List Sl → R (List D × List Sl)) (ρ : List Sl) : R (D × List Sl) :=
  (ofO (ownD ρ i)).bind fun d0 => if isLst d0 then (l ρ).bind fun p => (ofO (ownD p.2 i)).bind fun d => (ofO (F d p.1)).bind fun z => .ok (z.1, putO p.2 i z.2) else .bad
theorem fin_o {α β γ : Type} {Rl : Rel α β} {B : Bs} {E : XK} {σ : L2.St} {H : Hp} {Q : β → Hp → Prop} {Fz : Addr → Prop} {o : Option γ} {k : γ → R (α × List Sl)} (q : FinG Rl B E σ Q Fz H ((ofO o).bind k)) :
    ∃ z, o = some z ∧ FinG Rl B E σ Q Fz H (k z) := by
  cases o with
  | none => exact q.elim
  | some z => exact ⟨z, rfl, q⟩
section
variable {X : Cx} {B : Bs} {E : XK} {e c : Expr} {es : List Expr} {f g : List Sl → R (D × List Sl)} {l : List Sl → R (List D × List Sl)} {pos cpos apos np : Pos} {i : Nat} {x name : Str} {id : String} {r : V → List V → Hp → VK → Prop} {F : D → List D → Option (D × D)}
theorem isLst_of {d : D} (h : isLst d = true) : ∃ ds, d = .lst ds := by
  cases d with
  | lst ds => exact ⟨ds, rfl⟩
  | _ => cases h
theorem de_mt (hK : B.K = X.K) (slot : Slot "list" name id) (hty : typeOf (.builtin id) = pure (.type "method_descriptor")) (hm : MtR X id r) (hr : MtO X.K r F) (hN : X.N[i]? = some x) (hv : Vis X.env.scope x) (hd : (x == ("__debug__" : Str)) = false) (hcd : (x == ("__classdict__" : Str)) = false)
    (ha : PA X (e :: es) (tA B E l)) (hbase : attributeBase (.Name x np) name X.env (eval (.Name x np) X.env) = eval (.Name x np) X.env)
    (hfew : ((backTo cpos (starEach (e :: es) X.env)).all (fun x => !x.1) && (backToKw cpos (keywordEach [] X.env)).all (fun x => x.1.isSome)
      && decide ((e :: es).length + ([] : List Keyword).length + (if ([] : List Keyword).isEmpty then 0 else 1) < 30)) = true)
    (hline : (apos.endLine == cpos.line) = true) (hs : nsE e = true) (hss : es.all nsE = true) :
    PE X (.Call (.Attribute (.Name x np) name apos) (e :: es) [] cpos) (tE B E (evMt F i l)) :=
  weakE (pe_bm PySem.F.plainAttrs_list slot hty hm (pe_var hN hv hd hcd) ha hbase hfew hline (star_cons hs) (noStar_any hss)) fun σ H Q ⟨Fz, ρ, I, q⟩ => by
    obtain ⟨d0, e0, q⟩ := fin_o q
    obtain ⟨il, q⟩ := fin_if q
    obtain ⟨ds0, rfl⟩ := isLst_of il
    obtain ⟨a, hs, ow⟩ := ownD_of I e0
    have ow0 := ow
    obtain ⟨vs0, ha0, _⟩ := ow0
    refine ⟨.ref a, hs, .inl ⟨rfl, vs0, .inl (.inl ha0)⟩, ?_⟩
    refine monoG (tG_bind I q) fun vs H1 ⟨F1, ρ1, ds, I1, d1, g1, e1, q1⟩ => ?_
    obtain ⟨d, e2, q2⟩ := fin_o q1
    obtain ⟨⟨z, d'⟩, e3, q3⟩ := fin_o q2
    obtain ⟨a', hs', ow1⟩ := ownD_of I1 e2
    rw [hs] at hs'; cases hs'
    refine hr F1 H1 a d vs ds z d' Q I1.fzs (hK ▸ ow1) (hK ▸ d1) e3 fun o' v h => ?_
    obtain ⟨I2, g2⟩ := ownD_put I1 e2 hs fun g => hK ▸ (h g).1
    exact q3 v _ F1 I2 g2 (show Den B.K F1 (upd H1 a o') v z from hK ▸ (h g2).2)
end
section
variable {K : Frag}
def appF (d : D) (ds : List D) : Option (D × D) := match d, ds with
  | .lst l, [y] => if decide (l.length < sizeLine) then some (.non, .lst (l ++ [y])) else none
  | _, _ => none
theorem if_some {α : Type} {c : Bool} {a b : α} (h : (if c = true then some a else none) = some b) : c = true ∧ a = b := by
  cases c with
  | true => exact ⟨rfl, Option.some.inj h⟩
  | false => cases h
theorem m_app : MtO K rAppend appF := fun Fz H a d vs ds z d' Q f ow dl e q => by
  cases d with
  | lst l =>
    cases ds with
    | nil => cases e
    | cons y r =>
      cases r with
      | cons _ _ => cases e
      | nil =>
        obtain ⟨c, e⟩ := if_some (show (if decide (l.length < sizeLine) = true then some (D.non, D.lst (l ++ [y])) else none) = some (z, d') from e)
        cases e
        obtain ⟨xs, hx, dx⟩ := ow
        obtain ⟨v, rfl, dv⟩ := denL1 dl
        exact ⟨a, xs, v, rfl, rfl, hx, by rw [dx.length]; exact of_decide_eq_true c, q _ _ fun g => ⟨⟨_, upd_same, (dx.mono g).append (.cons (dv.mono g) .nil)⟩, .non⟩⟩
  | _ => cases e
def popF (d : D) (ds : List D) : Option (D × D) := match d, ds with
  | .lst l, [.int i] => if decide (-(2 ^ 63) ≤ i ∧ i < 2 ^ 63) then (seqIndex? i l.length).bind fun k => l[k]?.map fun y => (y, .lst (l.eraseIdx k)) else none
  | _, _ => none
theorem bind_some {α β : Type} {o : Option α} {k : α → Option β} {b : β} (h : o.bind k = some b) : ∃ a, o = some a ∧ k a = some b := by
  cases o with
  | none => cases h
  | some a => exact ⟨a, rfl, h⟩
theorem map_some {α β : Type} {o : Option α} {k : α → β} {b : β} (h : o.map k = some b) : ∃ a, o = some a ∧ k a = b := by
  cases o with
  | none => cases h
  | some a => exact ⟨a, rfl, Option.some.inj h⟩
theorem m_pop : MtO K rPopAt popF := fun Fz H a d vs ds z d' Q f ow dl e q => by
  cases d with
  | lst l =>
    cases ds with
    | nil => cases e
    | cons y r =>
      cases y with
      | int i =>
        cases r with
        | cons _ _ => cases e
        | nil =>
          have e' : (if decide (-(2 ^ 63) ≤ i ∧ i < 2 ^ 63) = true then (seqIndex? i l.length).bind fun k => l[k]?.map fun y => (y, D.lst (l.eraseIdx k)) else none) = some (z, d') := e
          split at e'
          · rename_i c
            have c := of_decide_eq_true c
            obtain ⟨k, ek, e'⟩ := bind_some e'
            obtain ⟨y, ey, e'⟩ := map_some e'
            cases e'
            obtain ⟨xs, hx, dx⟩ := ow
            obtain ⟨v, rfl, dv⟩ := denL1 dl
            cases dv
            obtain ⟨u, hu, du⟩ := dx.get ey
            exact ⟨a, xs, i, k, u, rfl, rfl, hx, c.1, c.2, by rw [dx.length]; exact ek, hu, q _ _ fun g => ⟨⟨_, upd_same, (dx.mono g).eraseIdx k⟩, du.mono g⟩⟩
          · cases e'
      | _ => cases e
  | _ => cases e
/-! extend: by any list -/
def rExtF : V → List V → Hp → VK → Prop := fun x vs H Q => ∃ l b xs zs, x = .ref l ∧ vs = [.ref b] ∧ H l = some (.lst xs) ∧ Rd H b (.lst zs) ∧ xs.length + zs.length ≤ sizeLine ∧ Q .non (upd H l (.lst (xs ++ zs)))
theorem mt_extF {X : Cx} : MtR X "list.extend" rExtF := by
  intro pins s σ H x vs v us Q I rx rv h
  obtain ⟨l, b, xs, zs, rfl, rfl, gH, hB, gz, q⟩ := h
  cases rx
  obtain ⟨u, rfl, ru⟩ := rv.one
  cases ru
  obtain ⟨z, jts, n, r, hl, e⟩ := I.lstM gH
  obtain ⟨z2, its2, n2, r2, e2⟩ := hB.ok I.hok
  have hl2 := r2.length
  have sum : jts.toArray.size + its2.toArray.size ≤ sizeLine := by simp only [List.size_toArray]; omega
  have few : ¬ (!jts.toArray.isEmpty && Builtin.List.listTooLong (jts.toArray.size + its2.toArray.size)) = true := by
    rw [notLongL sum]
    simp
  have new := I.lset (t' := s.toks) (f := (· ++ its2.toArray)) (its' := jts ++ its2) gH e (by simp) (r.append r2) (by rw [List.length_append]; omega)
  exact call_meets PySem.F.slot_list_extend ⟨_, e, rfl⟩ PySem.F.entry_list_extend (PySem.F.args_list_extend_2 _ _) (AutoSeq1.list_extend_list_list_0 l jts.toArray n b its2.toArray n2 few (by simp only [List.size_toArray]; omega) (by omega)) ⟨e, e2, .non, _, new, rfl, q⟩
def extF (d : D) (ds : List D) : Option (D × D) := match d, ds with
  | .lst l, [.lst r] => if decide (l.length + r.length ≤ sizeLine) then some (.non, .lst (l ++ r)) else none
  | _, _ => none
theorem m_ext : MtO K rExtF extF := fun Fz H a d vs ds z d' Q f ow dl e q => by
  cases d with
  | lst l =>
    cases ds with
    | nil => cases e
    | cons y r =>
      cases y with
      | lst w =>
        cases r with
        | cons _ _ => cases e
        | nil =>
          obtain ⟨c, e⟩ := if_some (show (if decide (l.length + w.length ≤ sizeLine) = true then some (D.non, D.lst (l ++ w)) else none) = some (z, d') from e)
          cases e
          obtain ⟨xs, hx, dx⟩ := ow
          obtain ⟨v, rfl, dv⟩ := denL1 dl
          cases dv with
          | @lst b zs _ sq dz =>
            exact ⟨a, b, xs, zs, rfl, rfl, hx, sq.rd, by rw [dx.length, dz.length]; exact of_decide_eq_true c, q _ _ fun g => ⟨⟨_, upd_same, (dx.mono g).append (dz.mono g)⟩, .non⟩⟩
      | _ => cases e
  | _ => cases e
end
/-! ### x[k] = v -/
def putD (l : List (Str × D)) (k : Str) (v : D) : List (Str × D) := if (l.any fun kv => decide (kv.1 = k)) = true then l.map (fun kv => if kv.1 = k then (kv.1, v) else kv) else l ++ [(k, v)]
def putS (l : List (Str × V)) (k : Str) (v : V) : List (Str × V) := if (l.any fun kv => decide (kv.1 = k)) = true then l.map (fun kv => if kv.1 = k then (kv.1, v) else kv) else l ++ [(k, v)]
theorem putK_keyP (l : List (Str × V)) (k : Str) (v : V) : putK (l.map keyP) (Sum.inr k) v = (putS l k v).map keyP := by
  have e1 : ∀ l : List (Str × V), ((l.map keyP).any fun kv => decide (kv.1 = (Sum.inr k : L2.Key))) = l.any fun kv => decide (kv.1 = k) := by
    intro l
    induction l with
    | nil => rfl
    | cons p r ih =>
      rw [List.map_cons, List.any_cons, List.any_cons, ih]
      congr 1
      show decide ((Sum.inr p.1 : L2.Key) = Sum.inr k) = _
      simp
  unfold putK putS
  rw [e1]
  split
  · rw [List.map_map, List.map_map]
    refine List.map_congr_left fun p _ => ?_
    show (if (keyP p).1 = (Sum.inr k : L2.Key) then _ else _) = keyP (if p.1 = k then _ else _)
    by_cases c : p.1 = k
    · rw [if_pos c, if_pos (by show (Sum.inr p.1 : L2.Key) = _; rw [c])]; rfl
    · rw [if_neg c, if_neg (by show ¬ (Sum.inr p.1 : L2.Key) = _; simpa using c)]
  · rw [List.map_append]; rfl
section
variable {K : Frag} {Fz : Addr → Prop} {H : Hp}
theorem DenF.append : ∀ {v v2 : List (Str × V)} {d d2 : List (Str × D)}, DenF K Fz H v d → DenF K Fz H v2 d2 → DenF K Fz H (v ++ v2) (d ++ d2)
  | _, _, _, _, .nil, h => h
  | _, _, _, _, .cons a l, h => .cons a (l.append h)
theorem DenF.any {p : Str → Bool} : ∀ {v : List (Str × V)} {d : List (Str × D)}, DenF K Fz H v d → (v.any fun kv => p kv.1) = d.any fun kv => p kv.1
  | _, _, .nil => rfl
  | _, _, .cons (k := k) _ l => by rw [List.any_cons, List.any_cons, l.any]
theorem DenF.repl {k : Str} {x : V} {y : D} (h : Den K Fz H x y) : ∀ {v : List (Str × V)} {d : List (Str × D)}, DenF K Fz H v d → DenF K Fz H (v.map fun kv => if kv.1 = k then (kv.1, x) else kv) (d.map fun kv => if kv.1 = k then (kv.1, y) else kv)
  | _, _, .nil => .nil
  | _, _, .cons (k := k0) (v := v0) (d := d0) a l => by
    rw [List.map_cons, List.map_cons]
    by_cases c : k0 = k
    · rw [if_pos c, if_pos c]; exact .cons h (DenF.repl h l)
    · rw [if_neg c, if_neg c]; exact .cons a (DenF.repl h l)
theorem DenF.put {k : Str} {x : V} {y : D} (h : Den K Fz H x y) {v : List (Str × V)} {d : List (Str × D)} (l : DenF K Fz H v d) : DenF K Fz H (putS v k x) (putD d k y) := by
  unfold putS putD
  have e : (v.any fun kv => decide (kv.1 = k)) = d.any fun kv => decide (kv.1 = k) := l.any (p := fun s => decide (s = k))
  rw [e]
  split
  · exact DenF.repl h l
  · exact l.append (.cons h .nil)
end
section
variable {X : Cx} {B : Bs} {E : XK} {e c : Expr} {f g : List Sl → R (D × List Sl)} {pos np tpos : Pos} {i : Nat} {x : Str}
def setF (d k v : D) : Option D := match d, k with
  | .lst l, .int j => (ixN l.length j).map fun n => .lst (l.set n v)
  | .dic l, .str s => if decide (l.length < sizeLine) then some (.dic (putD l s v)) else none
  | _, _ => none
def stPut (i : Nat) (f g : List Sl → R (D × List Sl)) (ρ : List Sl) : RS := (f ρ).st fun p => ofT (ownD p.2 i) fun _ => (g p.2).st fun q => ofT (ownD q.2 i) fun d => ofT (setF d q.1 p.1) fun d' => .nx (putO q.2 i d')
theorem pset_or {t t' : TSet} (h : PSet X t) (h' : PSet X t') : PSet X (fun o i v H Q => t o i v H Q ∨ t' o i v H Q) := fun pins s σ H o i v ov iv u Q I ro ri rv q => q.elim (h pins s σ H o i v ov iv u Q I ro ri rv) (h' pins s σ H o i v ov iv u Q I ro ri rv)
theorem set_at {Fz : Addr → Prop} {H : Hp} {σ : L2.St} {ρ : List Sl} {d k v d' : D} {a : Addr} {kv vv : V} {Q : Hp → Prop} (I : Iv B Fz H σ ρ) (e : ownD ρ i = some d) (hs : σ[i]? = some (some (.ref a))) (dk : Den B.K Fz H kv k) (dv : Den B.K Fz H vv v) (hf : setF d k v = some d')
    (q : ∀ o', Iv B Fz (upd H a o') σ (putO ρ i d') ∧ Ge Fz H Fz (upd H a o') → Q (upd H a o')) : rSetL (.ref a) kv vv H Q ∨ rSetD (.ref a) kv vv H Q := by
  obtain ⟨a', hs', ow⟩ := ownD_of I e
  rw [hs] at hs'; cases hs'
  cases d with
  | lst l =>
    cases k with
    | int j =>
      obtain ⟨n, en, e2⟩ := map_some (show (ixN l.length j).map (fun n => D.lst (l.set n v)) = some d' from hf)
      subst e2
      cases dk
      obtain ⟨xs, hx, dx⟩ := id' ow
      refine .inl ⟨a, xs, j, n, rfl, rfl, hx, by rw [dx.length]; exact en, q _ (ownD_put (d' := .lst (l.set n v)) I e hs fun g => ⟨_, upd_same, DenL.set (dv.mono g) n (dx.mono g)⟩)⟩
    | _ => cases hf
  | dic l =>
    cases k with
    | str s =>
      obtain ⟨hc, e2⟩ := if_some (show (if decide (l.length < sizeLine) = true then some (D.dic (putD l s v)) else none) = some d' from hf)
      subst e2
      cases dk
      obtain ⟨xs, hx, dx⟩ := id' ow
      refine .inr ⟨a, _, rfl, DPut.k (k := Sum.inr s) hx (by rw [List.length_map, dx.length]; exact of_decide_eq_true hc), ?_⟩
      rw [putK_keyP]
      exact q _ (ownD_put (d' := .dic (putD l s v)) I e hs fun g => ⟨_, upd_same, DenF.put (dv.mono g) (dx.mono g)⟩)
    | _ => cases hf
  | _ => cases hf
where id' {p : Prop} (h : p) : p := h
theorem ds_put (hu : X.A.units + 100 < cLine) (hN : X.N[i]? = some x) (hv : Vis X.env.scope x) (hd : (x == ("__debug__" : Str)) = false) (hcd : (x == ("__classdict__" : Str)) = false) (he : PE X e (tE B E f)) (hk : PE X c (tE B E g))
    (hs : swapsWithSole [.Subscript (.Name x np) c tpos] e pos.line X.env = pure false) (hw : swappedStores [.Subscript (.Name x np) c tpos] e X.env = pure none)
    (h1 : (assignEach [.Subscript (.Name x np) c tpos] X.env).map (·.2) = [assign (.Subscript (.Name x np) c tpos) X.env])
    (ha : ∀ v, assign (.Subscript (.Name x np) c tpos) X.env v = (do
      let ov ← holding [v] (eval (.Name x np) X.env)
      let iv ← holding [v, ov] (eval c X.env)
      standAt tpos
      holding [v, ov, iv] (setItem ov iv v)
      release [v, ov, iv] [])) : PS X (.Assign [.Subscript (.Name x np) c tpos] e pos) (tS B E (stPut i f g)) :=
  weakS (ps_asg he (pg_sub (pe_var hN hv hd hcd) hk (pset_or set_list (set_dict (by omega))) ha) hs hw h1) fun Dn σ H ⟨Fz, ρ, I, q⟩ =>
    monoG (tG_st I q) fun v H1 ⟨F1, ρ1, dv, I1, d1, g1, q1⟩ => by
      obtain ⟨d0, e0, q1⟩ := fin_ofT q1
      obtain ⟨a, hs, _⟩ := ownD_of I1 e0
      refine ⟨.ref a, hs, monoG (tG_st I1 q1) fun k H2 ⟨F2, ρ2, dk, I2, d2, g2, q2⟩ => ?_⟩
      obtain ⟨d, e1, q3⟩ := fin_ofT q2
      obtain ⟨d', e2, q4⟩ := fin_ofT q3
      exact set_at I2 e1 hs d2 (d1.mono g2) e2 fun o' I3 => q4 σ _ F2 I3.1 I3.2
end
end Dx

set_option Elab.async false
set_option linter.all false
set_option maxRecDepth 100000
set_option maxHeartbeats 1000000
namespace Dx
open PySem PySem.Spec PyProof.Rows L2

/-! ### containers that are looked at -/
def viewD (ρ : List Sl) (i : Nat) : Option D := match ρ[i]? with
  | some (.sh d) => some d
  | some (.ow d) => if frzD d then some d else none
  | some (.mt d) => if frzD d then some d else none
  | some (.br d) => some d
  | _ => none
def Vw (K : Frag) (Fz : Addr → Prop) (H : Hp) (v : V) (d : D) : Prop := Den K Fz H v d ∨ ∃ a, v = .ref a ∧ Brw K Fz H a d
section
variable {B : Bs} {Fz : Addr → Prop} {H : Hp} {σ : L2.St} {ρ : List Sl} {i : Nat} {d : D}
theorem frz_ins {d : D} (h : frzD d = true) : ∀ c fs, d ≠ .ins c fs := fun c fs e => by rw [e] at h; cases h
theorem view_of (I : Iv B Fz H σ ρ) (h : viewD ρ i = some d) : ∃ v, σ[i]? = some (some v) ∧ Vw B.K Fz H v d := by
  unfold viewD at h
  cases e : ρ[i]? with
  | none => rw [e] at h; cases h
  | some s =>
    rw [e] at h
    have z := I.ok i s e
    cases s with
    | un => cases h
    | sh d' => cases h; obtain ⟨u, e1, o⟩ := z; exact ⟨u, join_some.mp e1, .inl o⟩
    | ow d' => obtain ⟨c, h⟩ := if_some h; subst h; obtain ⟨a, e1, o, _⟩ := z; exact ⟨_, join_some.mp e1, .inr ⟨a, rfl, o.brw (frz_ins c)⟩⟩
    | mt d' => obtain ⟨c, h⟩ := if_some h; subst h; obtain ⟨a, e1, o, _⟩ := z; exact ⟨_, join_some.mp e1, .inr ⟨a, rfl, o.brw (frz_ins c)⟩⟩
    | br d' => cases h; obtain ⟨a, e1, o, _⟩ := z; exact ⟨_, join_some.mp e1, .inr ⟨a, rfl, o⟩⟩
end
section
variable {X : Cx} {B : Bs} {E : XK} {e c : Expr} {f g : List Sl → R (D × List Sl)} {pos np : Pos} {i : Nat} {x : Str}
def evIxV (i : Nat) (g : List Sl → R (D × List Sl)) (ρ : List Sl) : R (D × List Sl) := (ofO (viewD ρ i)).bind fun _ => (g ρ).bind fun p => (ofO (viewD p.2 i)).bind fun d => (ofO (ixO d p.1)).bind fun z => .ok (z, p.2)
theorem de_ixv (hu : X.A.units + 100 < cLine) (hK : B.K = X.K) (hN : X.N[i]? = some x) (hv : Vis X.env.scope x) (hd : (x == ("__debug__" : Str)) = false) (hcd : (x == ("__classdict__" : Str)) = false) (hn : nslE c = true) (hb : PE X c (tE B E g)) :
    PE X (.Subscript (.Name x np) c pos) (tE B E (evIxV i g)) :=
  weakE (pe_ix (r := rIxF X.K) (ix_seq.or (ix_dic (by omega))) (pe_var hN hv hd hcd) hb (plainIx_of hn)) fun σ H Q ⟨Fz, ρ, I, q⟩ => by
    obtain ⟨d0, e0, q⟩ := fin_o q
    obtain ⟨v, hs, _⟩ := view_of I e0
    refine ⟨v, hs, monoG (tG_bind I q) fun k H1 ⟨F1, ρ1, dk, I1, d1, g1, e1, q1⟩ => ?_⟩
    obtain ⟨d, e2, q2⟩ := fin_o q1
    obtain ⟨z, e3, q3⟩ := fin_o q2
    obtain ⟨v', hs', vw⟩ := view_of I1 e2
    rw [hs] at hs'; cases hs'
    rcases vw with vw | ⟨a, rfl, bw⟩
    · exact r_ix B F1 H1 σ ρ1 v k d dk z Q hK I1 vw d1 e3 q3
    · have e3' : ixO d dk = some z := e3
      unfold ixO at e3'
      split at e3'
      · cases d1
        obtain ⟨vs, rd, l⟩ := bw
        obtain ⟨w, e4, dw⟩ := atI_den l e3'
        exact .inl (.inl ⟨a, vs, _, w, rfl, rfl, .inl rd, e4, q3 w H1 F1 I1 .refl dw⟩)
      · exact bw.elim
      · exact bw.elim
      · cases d1
        obtain ⟨vs, rd, l⟩ := bw
        obtain ⟨w, e4, dw⟩ := l.lookup e3'
        refine .inr ⟨a, w, rfl, .inl ⟨_, Sum.inr _, rd, rfl, ?_⟩, q3 w H1 F1 I1 .refl dw⟩
        rw [valV_map, e4]
      · cases e3'
/-! ### x in y, y a list, a tuple, a text, a dict -/
def inO2 (x y : D) : Option D := match y with
  | .dic l => (match x with
    | .str k => some (.bl (l.lookup k).isSome)
    | _ => none)
  | y => inO x y
def ninO2 (x y : D) : Option D := notD (inO2 x y)
def rDin : R2 := fun x y H Q => ∃ a o, y = .ref a ∧ DGet H a x o ∧ Q (.bl o.isSome) H
def rDnin : R2 := fun x y H Q => ∃ a o, y = .ref a ∧ DGet H a x o ∧ Q (.bl (!o.isSome)) H
theorem op_din (hu : X.A.units + 100 < cLine) : OpR X (compareOp .In) rDin := fun pins s σ H x y v u Q I rx ry ⟨a, o, ey, g, q⟩ => by
  subst ey
  cases (show u = Value.ref a from ry)
  exact d_in (by omega) I g rx fun s' I' => ⟨.bl o.isSome, H, I', rfl, q⟩
theorem op_dnin (hu : X.A.units + 100 < cLine) : OpR X (compareOp .NotIn) rDnin := fun pins s σ H x y v u Q I rx ry ⟨a, o, ey, g, q⟩ => by
  subst ey
  cases (show u = Value.ref a from ry)
  exact d_notIn (by omega) I g rx fun s' I' => ⟨.bl (!o.isSome), H, I', rfl, q⟩
/-- as it is, or while something is locked -/
def rLk (r : R2) : R2 := fun x y H Q => r x y H Q ∨ ∃ d u, H d = some u ∧ Mut (some u) ∧ ∀ od, r x y (upd H d (.frz od u)) fun v H' => H' d = some (.frz od u) ∧ Q v (upd H' d u)
theorem op_lk {f : Value → Value → Sem Value} {r : R2} (h : OpR X f r) : OpR X f (rLk r) := by
  intro pins s σ H x y v u Q I rx ry q
  rcases q with q | ⟨d, w, hd, mu, q⟩
  · exact h pins s σ H x y v u Q I rx ry q
  · obtain ⟨od, I1⟩ := I.lock hd mu
    exact thn (h pins s σ _ x y v u _ I1 rx ry (q od)) fun z s1 ⟨t, H1, I2, r2, e2, q2⟩ => ⟨t, _, I2.unlock e2 (I.nofrz hd mu), r2, q2⟩
theorem den_lock {K : Frag} {Fz : Addr → Prop} {H : Hp} {a : Addr} {d : D} {u : HO} {od : Obj} (hf : FzOk Fz H) (h : Brw K Fz H a d) (hu : H a = some u) (mu : ¬ Imm u) (nz : ¬ Fz a) : Ge Fz H Fz (upd H a (.frz od u)) ∧ Den K Fz (upd H a (.frz od u)) (.ref a) d := by
  have x := ext_put (o := .frz od u) hu mu nz
  refine ⟨x.ge, ?_⟩
  cases d with
  | lst ds =>
    obtain ⟨vs, e | ⟨o, e⟩, l⟩ := h
    · rw [hu] at e; cases e; exact .lst ⟨od, upd_same⟩ (l.mono x.ge)
    · rw [hu] at e; cases e; exact (mu trivial).elim
  | dic ds =>
    obtain ⟨vs, e | ⟨o, e⟩, l⟩ := h
    · rw [hu] at e; cases e; exact .dic (o := od) upd_same (l.mono x.ge)
    · rw [hu] at e; cases e; exact (mu trivial).elim
  | _ => exact h.elim
/-- a borrowed container: locked already, or it can be -/
theorem brw_cases {K : Frag} {Fz : Addr → Prop} {H : Hp} {a : Addr} {d : D} (hf : FzOk Fz H) (h : Brw K Fz H a d) : Den K Fz H (.ref a) d ∨ ∃ u, H a = some u ∧ Mut (some u) ∧ ¬ Imm u ∧ ¬ Fz a := by
  have nz : ∀ u, H a = some u → (∀ C dx fs, u ≠ .ins C dx fs) → ¬ Fz a := fun u e n z => by
    obtain ⟨C, dx, fs, e2⟩ := hf a z
    rw [e] at e2; cases e2
    exact n _ _ _ rfl
  cases d with
  | lst ds =>
    obtain ⟨vs, e | ⟨o, e⟩, l⟩ := h
    · exact .inr ⟨_, e, trivial, fun z => z, nz _ e fun _ _ _ z => by cases z⟩
    · exact .inl (.lst ⟨o, e⟩ l)
  | dic ds =>
    obtain ⟨vs, e | ⟨o, e⟩, l⟩ := h
    · exact .inr ⟨_, e, trivial, fun z => z, nz _ e fun _ _ _ z => by cases z⟩
    · exact .inl (.dic (o := o) e l)
  | _ => exact h.elim
theorem upd_back {H : Hp} {a : Addr} {u o : HO} (h : H a = some u) : upd (upd H a o) a u = H := by
  funext b
  by_cases e : b = a
  · rw [e, upd_same, h]
  · rw [upd_ne e, upd_ne e]
def rIn2 (K : Frag) : R2 := rLk fun x y H Q => rAns K inO x y H Q ∨ rDin x y H Q
def rNin2 (K : Frag) : R2 := rLk fun x y H Q => rAns K ninO x y H Q ∨ rDnin x y H Q
theorem op_in2 (hu : X.A.units + 100 < cLine) : OpR X (compareOp .In) (rIn2 X.K) := op_lk ((op_inF hu).or (op_din hu))
theorem op_nin2 (hu : X.A.units + 100 < cLine) : OpR X (compareOp .NotIn) (rNin2 X.K) := op_lk ((op_ninF hu).or (op_dnin hu))
theorem inO2_den {K : Frag} {Fz : Addr → Prop} {H : Hp} {x y : V} {dx dy z : D} {Q : VK} (hx : Den K Fz H x dx) (hy : Den K Fz H y dy) (e : inO2 dx dy = some z) (q : Q (litV z) H) : (rAns K inO x y H Q ∨ rDin x y H Q) ∧ ∃ b, z = .bl b := by
  have gen : inO dx dy = some z → (rAns K inO x y H Q ∨ rDin x y H Q) ∧ ∃ b, z = .bl b := fun e => by
    obtain ⟨b, rfl⟩ := inO_lit _ _ _ e
    exact ⟨.inl ⟨Fz, dx, dy, _, .bl b, hx, hy, e, fun _ _ => .bl b, q⟩, b, rfl⟩
  cases hy with
  | dic hd l =>
    rename_i a o kvs ds
    cases hx with
    | str k =>
      cases e
      refine ⟨.inr ⟨a, _, rfl, .inl ⟨_, Sum.inr k, .inr ⟨_, hd⟩, rfl, rfl⟩, ?_⟩, _, rfl⟩
      rw [valV_map]
      cases el : ds.lookup k with
      | none => rw [l.lookup_none el]; rw [show litV (.bl (ds.lookup k).isSome) = .bl false by rw [el]; rfl] at q; exact q
      | some w => obtain ⟨u, e2, _⟩ := l.lookup el; rw [e2]; rw [show litV (.bl (ds.lookup k).isSome) = .bl true by rw [el]; rfl] at q; exact q
    | _ => cases e
  | _ => exact gen e
theorem ninO2_den {K : Frag} {Fz : Addr → Prop} {H : Hp} {x y : V} {dx dy z : D} {Q : VK} (hx : Den K Fz H x dx) (hy : Den K Fz H y dy) (e : ninO2 dx dy = some z) (q : Q (litV z) H) : (rAns K ninO x y H Q ∨ rDnin x y H Q) ∧ ∃ b, z = .bl b := by
  have gen : ninO dx dy = some z → (rAns K ninO x y H Q ∨ rDnin x y H Q) ∧ ∃ b, z = .bl b := fun e => by
    have e0 := e
    unfold ninO notD at e
    obtain ⟨w, e1, e2⟩ := bind_some e
    obtain ⟨b, rfl⟩ := inO_lit _ _ _ e1
    cases e2
    exact ⟨.inl ⟨Fz, dx, dy, _, .bl _, hx, hy, e0, fun _ _ => .bl _, q⟩, _, rfl⟩
  cases hy with
  | dic hd l =>
    rename_i a o kvs ds
    cases hx with
    | str k =>
      cases e
      refine ⟨.inr ⟨a, _, rfl, .inl ⟨_, Sum.inr k, .inr ⟨_, hd⟩, rfl, rfl⟩, ?_⟩, _, rfl⟩
      rw [valV_map]
      cases el : ds.lookup k with
      | none => rw [l.lookup_none el]; rw [show litV (.bl (!(ds.lookup k).isSome)) = .bl true by rw [el]; rfl] at q; exact q
      | some w => obtain ⟨u, e2, _⟩ := l.lookup el; rw [e2]; rw [show litV (.bl (!(ds.lookup k).isSome)) = .bl false by rw [el]; rfl] at q; exact q
    | _ => cases e
  | _ => exact gen e
theorem r_in2 {K : Frag} : R2D K (rIn2 K) inO2 := fun B Fz H σ ρ x y dx dy z Q hK I hx hy e b => by
  subst hK
  have fz : Flat z := by
    obtain ⟨_, b, rfl⟩ := inO2_den (Q := fun _ _ => True) hx hy e trivial
    trivial
  exact .inl (inO2_den hx hy e (b _ H Fz I .refl (litV_ok fz))).1
theorem r_nin2 {K : Frag} : R2D K (rNin2 K) ninO2 := fun B Fz H σ ρ x y dx dy z Q hK I hx hy e b => by
  subst hK
  have fz : Flat z := by
    obtain ⟨_, b, rfl⟩ := ninO2_den (Q := fun _ _ => True) hx hy e trivial
    trivial
  exact .inl (ninO2_den hx hy e (b _ H Fz I .refl (litV_ok fz))).1
/-! .. the container a variable that need not be shared -/
def evInV (F : D → D → Option D) (i : Nat) (f : List Sl → R (D × List Sl)) (ρ : List Sl) : R (D × List Sl) := (f ρ).bind fun p => (ofO (viewD p.2 i)).bind fun d => (ofO (F p.1 d)).bind fun z => .ok (z, p.2)
theorem t_inv {K : Frag} {r : R2} {F : D → D → Option D} (hK : B.K = K) (hF : ∀ {Fz : Addr → Prop} {H : Hp} {x y : V} {dx dy z : D} {Q : VK}, Den K Fz H x dx → Den K Fz H y dy → F dx dy = some z → Q (litV z) H → r x y H Q ∧ ∃ b, z = .bl b) {σ : L2.St} {H : Hp} {Q : VK}
    (h : tE B E (evInV F i f) σ H Q) : tOp (rLk r) (tE B E f) (tVar i) σ H Q := by
  obtain ⟨Fz, ρ, I, q⟩ := h
  refine monoG (tG_bind I q) fun v H1 ⟨F1, ρ1, dk, I1, d1, g1, e1, q1⟩ => ?_
  obtain ⟨d, e2, q2⟩ := fin_o q1
  obtain ⟨z, e3, q3⟩ := fin_o q2
  obtain ⟨c, hs, vw⟩ := view_of I1 e2
  refine ⟨c, hs, ?_⟩
  have d1 : Den B.K F1 H1 v dk := d1
  have den : Den K F1 H1 c d → rLk r v c H1 Q := fun dc => by
    obtain ⟨_, b, rfl⟩ := hF (Q := fun _ _ => True) (hK ▸ d1) dc e3 trivial
    exact .inl (hF (hK ▸ d1) dc e3 (q3 _ H1 F1 I1 .refl (.bl b))).1
  rcases vw with vw | ⟨a, rfl, bw⟩
  · exact den (hK ▸ vw)
  · rcases brw_cases I1.fzs bw with dn | ⟨u, hu, mu, ni, nz⟩
    · exact den (hK ▸ dn)
    · refine .inr ⟨a, u, hu, mu, fun od => ?_⟩
      obtain ⟨g2, dn⟩ := den_lock (od := od) I1.fzs bw hu ni nz
      have dv : Den K F1 (upd H1 a (.frz od u)) v dk := hK ▸ d1.mono g2
      have dn : Den K F1 (upd H1 a (.frz od u)) (.ref a) d := hK ▸ dn
      obtain ⟨_, b, rfl⟩ := hF (Q := fun _ _ => True) dv dn e3 trivial
      refine (hF dv dn e3 ⟨upd_same, ?_⟩).1
      rw [upd_back hu]
      exact q3 _ H1 F1 I1 .refl (.bl b)
theorem de_inv {op : CmpOp} {r : R2} {F : D → D → Option D} (hK : B.K = X.K) (ho : OpR X (compareOp op) (rLk r)) (hF : ∀ {Fz : Addr → Prop} {H : Hp} {x y : V} {dx dy z : D} {Q : VK}, Den X.K Fz H x dx → Den X.K Fz H y dy → F dx dy = some z → Q (litV z) H → r x y H Q ∧ ∃ b, z = .bl b)
    (hN : X.N[i]? = some x) (hv : Vis X.env.scope x) (hd : (x == ("__debug__" : Str)) = false) (hcd : (x == ("__classdict__" : Str)) = false) (hm : behindInMarks op (.Name x np) = false) (ha : PE X e (tE B E f)) :
    PE X (.Compare e [op] [.Name x np] pos) (tE B E (evInV F i f)) :=
  weakE (pe_cmpR ho ha (pe_var hN hv hd hcd) hm) fun σ H Q h => t_inv hK hF h
theorem dt_inv {op : CmpOp} {r : R2} {F : D → D → Option D} (hK : B.K = X.K) (ho : OpR X (compareOp op) (rLk r)) (hF : ∀ {Fz : Addr → Prop} {H : Hp} {x y : V} {dx dy z : D} {Q : VK}, Den X.K Fz H x dx → Den X.K Fz H y dy → F dx dy = some z → Q (litV z) H → r x y H Q ∧ ∃ b, z = .bl b)
    (hN : X.N[i]? = some x) (hv : Vis X.env.scope x) (hd : (x == ("__debug__" : Str)) = false) (hcd : (x == ("__classdict__" : Str)) = false) (hm : behindInMarks op (.Name x np) = false) (ha : PE X e (tE B E f)) :
    PT X (.Compare e [op] [.Name x np] pos) (tT B E (evB (evInV F i f))) :=
  weakT (pt_cmpR ho ha (pe_var hN hv hd hcd) hm) fun σ H Q h => dt_cmp.monoT_aux (t := tE B E (evInV F i f)) (t_bl h) fun h2 => t_inv hK hF h2
/-! len of a variable -/
def evLenV (i : Nat) (ρ : List Sl) : R (D × List Sl) := (ofO (viewD ρ i)).bind fun d => (ofO (lenO [d])).bind fun z => .ok (z, ρ)
theorem de_lenv {p cpos : Pos} (hK : B.K = X.K) (hg : Gl X "len") (hm : X.mg "len" = none) (hN : X.N[i]? = some x) (hv : Vis X.env.scope x) (hd : (x == ("__debug__" : Str)) = false) (hcd : (x == ("__classdict__" : Str)) = false) :
    PE X (.Call (.Name "len" p) [.Name x np] [] cpos) (tE B E (evLenV i)) :=
  weakE (pe_callB call_lenF hg hm (by rfl) (pa_cons (pe_var hN hv hd hcd) pa_nil) (by decide) (by decide) rfl rfl) fun σ H Q ⟨Fz, ρ, I, q⟩ => by
    obtain ⟨d, e2, q2⟩ := fin_o q
    obtain ⟨z, e3, q3⟩ := fin_o q2
    obtain ⟨c, hs, vw⟩ := view_of I e2
    refine ⟨c, hs, ?_⟩
    rcases vw with vw | ⟨a, rfl, bw⟩
    · exact r_len B Fz H σ ρ [c] [d] z Q hK I (.cons vw .nil) e3 q3
    · cases d with
      | lst ds =>
        cases e3
        obtain ⟨vs, rd, l⟩ := bw
        refine .inl ⟨a, vs, rfl, .inl (.inl rd), ?_⟩
        rw [l.length]
        exact q3 _ H Fz I .refl (.int _)
      | dic ds =>
        cases e3
        obtain ⟨vs, rd, l⟩ := bw
        refine .inr (.inr ⟨a, _, rfl, rd, ?_⟩)
        rw [List.length_map, l.length]
        exact q3 _ H Fz I .refl (.int _)
      | _ => exact bw.elim
end
end Dx

set_option Elab.async false
set_option linter.all false
set_option maxRecDepth 100000
set_option maxHeartbeats 1000000
namespace Dx
open PySem PySem.Spec PyProof.Rows L2

/-! ### loops -/
/-- what a walk gives: the data one behind another, while what is shared stays -/
def ItOk (K : Frag) (J : It) (ds : List D) (Fz : Addr → Prop) (H : Hp) : Prop := ∃ (G : Hp → Prop) (Y : Nat → Hp → V → Hp → Prop), Walk J ds.length G Y ∧ (∀ Fz' H', Ge Fz H Fz' H' → G H') ∧
  ∀ i Fz' H' x H2 d, Ge Fz H Fz' H' → FzOk Fz' H' → ds[i]? = some d → Y i H' x H2 → (H2 = H' ∨ ∃ p o, H' p = none ∧ H2 = upd H' p o) ∧ Den K Fz' H2 x d
abbrev rI : Rel (List D) It := fun B Fz H _ _ J ds => ItOk B.K J ds Fz H
abbrev tI (B : Bs) (E : XK) (s : List Sl → R (List D × List Sl)) : TI := tG rI B E s
def RS.lp (r : RS) (k : List Sl → RS) : RS := match r with
  | .nx ρ => k ρ
  | .ct ρ => k ρ
  | .bk ρ => .nx ρ
  | r => r
def forL (t : D → List Sl → Option (List Sl)) (g : List Sl → RS) : List D → List Sl → RS
  | [], ρ => .nx ρ
  | d :: ds, ρ => ofT (t d ρ) fun ρ1 => (g ρ1).lp (forL t g ds)
def stFor (s : List Sl → R (List D × List Sl)) (t : D → List Sl → Option (List Sl)) (g : List Sl → RS) (ρ : List Sl) : RS := (s ρ).st fun p => forL t g p.1 p.2
section
variable {X : Cx} {B : Bs} {E : XK} {e c iter tg elt : Expr} {body : List Stmt} {f : List Sl → R (D × List Sl)} {s : List Sl → R (List D × List Sl)} {t : D → List Sl → Option (List Sl)} {g : List Sl → RS} {u : List Sl → R (Bool × List Sl)} {pos np : Pos} {i : Nat} {x : Str} {vs : List Nat}
theorem fin_lp {Dn : Ends} {Fz : Addr → Prop} {H : Hp} {r : RS} {k : List Sl → RS} (h : FinS B E Dn Fz H (r.lp k)) {N : L2.St → Hp → Prop} (hN : ∀ σ' H' Fz' ρ', Iv B Fz' H' σ' ρ' → Ge Fz H Fz' H' → FinS B E Dn Fz' H' (k ρ') → N σ' H') :
    FinS B E { Dn with nx := N, ct := N, bk := Dn.nx } Fz H r := by
  cases r with
  | nx ρ => exact fun σ' H' Fz' I g => hN σ' H' Fz' ρ I g (FinS.ge g h)
  | ct ρ => exact fun σ' H' Fz' I g => hN σ' H' Fz' ρ I g (FinS.ge g h)
  | bk ρ => exact h
  | rt o d ρ => exact h
  | exc c d => exact h
  | bad => exact h
theorem Iv.more {Fz : Addr → Prop} {H H2 : Hp} {σ : L2.St} {ρ : List Sl} (I : Iv B Fz H σ ρ) (h : H2 = H ∨ ∃ p o, H p = none ∧ H2 = upd H p o) : Iv B Fz H2 σ ρ ∧ Ge Fz H Fz H2 := by
  rcases h with rfl | ⟨p, o, hp, rfl⟩
  · exact ⟨I, .refl⟩
  · obtain ⟨I2, g2, _⟩ := I.laid hp o
    exact ⟨I2, g2⟩
theorem drop_get {α : Type} {l : List α} {i : Nat} (h : i < l.length) : ∃ d, l[i]? = some d ∧ l.drop i = d :: l.drop (i + 1) := ⟨l[i], List.getElem?_eq_getElem h, List.drop_eq_getElem_cons h⟩
theorem ds_for (hp : PassesOwn (model X.prog X.w) X.A X.env X.xe) (hc : X.calm = true) (hi : PI X tg iter (tI B E s)) (hg : PG X tg (tG1 B vs t)) (hb : PSs X body (tS B E g)) (hs : ∀ x, foldedSetIterable iter X.env x = pure x) :
    PS X (.For tg iter body [] pos) (tS B E (stFor s t g)) :=
  weakS (ps_for hp hc hi hg hb hs) fun Dn σ H ⟨Fz, ρ, I, q⟩ =>
    monoG (tG_st I q) fun J H1 ⟨F1, ρ1, ds, I1, ⟨G, Y, w, hG, hY⟩, g1, q1⟩ => by
      refine for_it w (fun i σ' H' => ∃ Fz' ρ', Iv B Fz' H' σ' ρ' ∧ Ge F1 H1 Fz' H' ∧ FinS B E Dn Fz' H' (forL t g (ds.drop i) ρ')) ⟨F1, ρ1, I1, .refl, q1⟩ (fun i σ' H' _ ⟨F', ρ', _, g', _⟩ => hG F' H' g') (fun i x σ' H' H2 hlt ⟨F', ρ', I', g', q'⟩ y => ?_)
        fun σ' H' ⟨F', ρ', I', g', q'⟩ => by rw [List.drop_length] at q'; exact q' σ' H' F' I' .refl
      obtain ⟨d, ed, er⟩ := drop_get hlt
      obtain ⟨h2, dn⟩ := hY i F' H' x H2 d g' I'.fzs ed y
      obtain ⟨I2, g2⟩ := I'.more h2
      rw [er] at q'
      obtain ⟨ρ2, e2, q2⟩ := fin_ofT (FinS.ge g2 q')
      exact ⟨F', ρ', d, ρ2, I2, dn, e2, fun σ3 _ I3 => ⟨F', ρ2, I3, fin_lp q2 fun σ4 H4 F4 ρ4 I4 g4 q4 => ⟨F4, ρ4, I4, (g'.trans g2).trans g4, q4⟩⟩⟩
/-! while: by fuel -/
def whF (u : List Sl → R (Bool × List Sl)) (g : List Sl → RS) : Nat → List Sl → RS
  | 0, _ => .bad
  | n + 1, ρ => (u ρ).st fun p => match p.1 with
    | true => (g p.2).lp (whF u g n)
    | false => .nx p.2
def fuel0 : Nat := 1000000
def stWhile (u : List Sl → R (Bool × List Sl)) (g : List Sl → RS) (ρ : List Sl) : RS := whF u g fuel0 ρ
theorem ds_while (hp : PassesOwn (model X.prog X.w) X.A X.env X.xe) (hc : PT X c (tT B E u)) (hb : PSs X body (tS B E g)) : PS X (.While c body [] pos) (tS B E (stWhile u g)) :=
  weakS (ps_while hp hc hb) fun Dn σ H ⟨Fz, ρ, I, q⟩ => by
    refine ⟨fun m σ' H' => ∃ F' ρ', Iv B F' H' σ' ρ' ∧ FinS B E Dn F' H' (whF u g m ρ'), ⟨fuel0, Fz, ρ, I, q⟩, fun m σ' H' ⟨F', ρ', I', q'⟩ => ?_⟩
    cases m with
    | zero => exact q'.elim
    | succ m =>
      refine monoG (tG_st I' q') fun b H1 ⟨F1, ρ1, d, I1, e1, g1, q1⟩ => ?_
      have e1 : b = d := e1
      subst e1
      cases b with
      | true =>
        rw [if_pos rfl]
        exact ⟨fun σ2 H2 => ∃ F2 ρ2, Iv B F2 H2 σ2 ρ2 ∧ FinS B E Dn F2 H2 (whF u g m ρ2), fun σ2 H2 h => ⟨m, Nat.lt_succ_self m, h⟩, F1, ρ1, I1, fin_lp q1 fun σ4 H4 F4 ρ4 I4 g4 q4 => ⟨F4, ρ4, I4, q4⟩⟩
      | false =>
        rw [if_neg (by decide)]
        exact q1 σ' H1 F1 I1 .refl
end
end Dx

set_option Elab.async false
set_option linter.all false
set_option maxRecDepth 100000
set_option maxHeartbeats 1000000
namespace Dx
open PySem PySem.Spec PyProof.Rows L2

theorem weakPI {X : Cx} {tg iter : Expr} {t t' : TI} (h : PI X tg iter t) (w : ∀ σ H R, t' σ H R → t σ H R) : PI X tg iter t' := ⟨fun pins s σ H R I q => h.run pins s σ H R I (w σ H R q)⟩
def chrD (z : Str) : List D := z.cps.toList.map fun c => .str ⟨#[c]⟩
def itD : D → Option (List D)
  | .lst l => some l
  | .tup l => some l
  | .str z => some (chrD z)
  | .dic l => some (l.map fun p => .str p.1)
  | _ => none
section
variable {X : Cx} {B : Bs} {E : XK} {e e2 tg : Expr} {f h : List Sl → R (D × List Sl)} {l : List Sl → R (List D × List Sl)} {pos p apos cpos tpos : Pos} {elts : List Expr} {kk : Nat}
/-- any of four kinds of things to walk -/
def iAny (K : Frag) (tl : TE) : TI := fun σ H R => tl σ H fun x H1 => (∃ a xs, x = .ref a ∧ SqL K H1 a xs ∧ R (Itl K a) H1) ∨ (∃ a xs, x = .ref a ∧ SqT K H1 a xs ∧ R (Itt K a) H1) ∨ (∃ z, x = .str z ∧ R (Its z) H1) ∨ ∃ d o kvs, x = .ref d ∧ H1 d = some (.frz o (.dK kvs)) ∧ R (Itk d o kvs) H1
theorem pi_any {te : TE} (he : PE X e te) : PI X tg e (iAny X.K te) := by
  refine ⟨fun pins s σ H R I0 h0 => thn (he.run pins s σ H _ I0 h0) fun v s1 ⟨x, H1, I, rx, q⟩ => ?_⟩
  rcases q with ⟨a, xs, rfl, hq, q⟩ | ⟨a, xs, rfl, hq, q⟩ | ⟨z, rfl, q⟩ | ⟨d, o, kvs, rfl, hd, q⟩
  · cases rx
    obtain ⟨its, _, pl, _⟩ := I.list hq
    exact wpAny_pyIter_list pl.isList (pi_one (tk := s1.toks) I _ (turn_list a _) ⟨_, Heap.get?_push_size _ rfl, rfl, rfl⟩ q)
  · cases rx
    obtain ⟨its, _, pl, _⟩ := I.tuple hq
    exact wpAny_pyIter_tuple (show s1.heap.IsTuple a its.toArray from pl) (pi_one (tk := s1.toks) I _ (turn_tuple a _) ⟨_, Heap.get?_push_size _ rfl, rfl, rfl⟩ q)
  · obtain ⟨t, rfl⟩ := rx
    rcases Bool.eq_false_or_eq_true (z.cps.all (· < 128)) with ha | ha
    · exact wpAny_pyIter_ascii ha (pi_one (tk := s1.toks) I _ (turn_str _ z t "str_ascii_iterator" (.inl rfl)) ⟨_, Heap.get?_push_size _ rfl, rfl, rfl⟩ q)
    · exact wpAny_pyIter_wide ha (pi_one (tk := s1.toks) I _ (turn_str _ z t "str_iterator" (.inr rfl)) ⟨_, Heap.get?_push_size _ rfl, rfl, rfl⟩ q)
  · cases (show v = Value.ref d from rx)
    obtain ⟨hs, hgd, hx, es, ep, vs, hdt, hsz, kv, hm⟩ := I.frzK hd
    exact iter_keys hs hgd hx hdt (pi_one (tk := s1.toks) I _ (turn_keys _ hdt) ⟨_, Heap.get?_push_size _ rfl, rfl, by rw [hsz] <;> rfl⟩ q)
theorem itOk_list {K : Frag} {Fz : Addr → Prop} {H : Hp} {a : Addr} {vs : List V} {ds : List D} (q : SqF K H a vs) (d : DenL K Fz H vs ds) : ItOk K (Itl K a) ds Fz H :=
  ⟨_, _, (show Walk (Itl K a) ds.length _ _ by rw [← d.length]; exact walk_list (xs := vs)), fun F' H' g => (q.mono g).l, fun i F' H' x H2 z g fz ez y => by
    obtain ⟨rfl, ev⟩ := y
    obtain ⟨u, e2, du⟩ := (d.mono g).get ez
    rw [ev] at e2; cases e2
    exact ⟨.inl rfl, du⟩⟩
theorem itOk_tup {K : Frag} {Fz : Addr → Prop} {H : Hp} {a : Addr} {vs : List V} {ds : List D} (q : SqU K H a vs) (d : DenL K Fz H vs ds) : ItOk K (Itt K a) ds Fz H :=
  ⟨_, _, (show Walk (Itt K a) ds.length _ _ by rw [← d.length]; exact walk_tup (xs := vs)), fun F' H' g => (q.mono g).t, fun i F' H' x H2 z g fz ez y => by
    obtain ⟨rfl, ev⟩ := y
    obtain ⟨u, e2, du⟩ := (d.mono g).get ez
    rw [ev] at e2; cases e2
    exact ⟨.inl rfl, du⟩⟩
theorem itOk_str {K : Frag} {Fz : Addr → Prop} {H : Hp} {z : Str} : ItOk K (Its z) (chrD z) Fz H :=
  ⟨_, _, (show Walk (Its z) (chrD z).length _ _ by unfold chrD; rw [List.length_map, Array.length_toList]; exact walk_str), fun _ _ _ => trivial, fun i F' H' x H2 w g fz ew y => by
    obtain ⟨rfl, c, ec, rfl⟩ := y
    refine ⟨.inl rfl, ?_⟩
    unfold chrD at ew
    rw [List.getElem?_map, Array.getElem?_toList, ec] at ew
    cases ew
    exact .str _⟩
theorem DenF.get {K : Frag} {Fz : Addr → Prop} {H : Hp} : ∀ {v : List (Str × V)} {d : List (Str × D)} {i : Nat} {x : Str × D}, DenF K Fz H v d → d[i]? = some x → ∃ u, v[i]? = some (x.1, u) ∧ Den K Fz H u x.2
  | _, _, _, _, .nil, e => by simp at e
  | _, _, 0, _, .cons h _, e => by simp at e; subst e; exact ⟨_, rfl, h⟩
  | _, _, i + 1, x, .cons _ l, e => by
    obtain ⟨u, h1, h2⟩ := DenF.get (i := i) (x := x) l (by simpa using e)
    exact ⟨u, by simpa using h1, h2⟩
theorem itOk_keys {K : Frag} {Fz : Addr → Prop} {H : Hp} {a : Addr} {o : Obj} {kvs : List (Str × V)} {ds : List (Str × D)} (q : H a = some (.frz o (.dK (kvs.map keyP)))) (d : DenF K Fz H kvs ds) : ItOk K (Itk a o (kvs.map keyP)) (ds.map fun p => .str p.1) Fz H :=
  ⟨_, _, (show Walk _ (ds.map fun p => D.str p.1).length _ _ by rw [List.length_map, ← d.length, ← List.length_map (f := keyP)]; exact walk_keys), fun F' H' g => g.imm a _ (by exact trivial) q, fun i F' H' x H2 w g fz ew y => by
    obtain ⟨rfl, k, v, ek, rfl⟩ := y
    refine ⟨.inl rfl, ?_⟩
    rw [List.getElem?_map] at ew ek
    obtain ⟨p, ep, rfl⟩ := map_some ew
    obtain ⟨u, e2, _⟩ := d.get ep
    rw [e2] at ek
    cases ek
    exact .str _⟩
def srcD (f : List Sl → R (D × List Sl)) (ρ : List Sl) : R (List D × List Sl) := (f ρ).bind fun p => (ofO (itD p.1)).bind fun l => .ok (l, p.2)
theorem fin_src {α β γ : Type} {Rl : Rel α β} {σ : L2.St} {H : Hp} {Q : β → Hp → Prop} {Fz : Addr → Prop} {o : Option γ} {k : γ → R (α × List Sl)} (q : FinG Rl B E σ Q Fz H ((ofO o).bind k)) : ∃ z, o = some z ∧ FinG Rl B E σ Q Fz H (k z) := fin_o q
theorem di_any (hK : B.K = X.K) (he : PE X e (tE B E f)) : PI X tg e (tI B E (srcD f)) :=
  weakPI (pi_any he) fun σ H R ⟨Fz, ρ, I, q⟩ => by
    refine monoG (tG_bind I q) fun x H1 ⟨F1, ρ1, dx, I1, d1, g1, e1, q1⟩ => ?_
    obtain ⟨z, ez, q2⟩ := fin_o q1
    have fin : ∀ J, ItOk B.K J z F1 H1 → R J H1 := fun J h => q2 J H1 F1 I1 .refl h
    rw [hK] at fin
    have d1 : Den X.K F1 H1 x dx := hK ▸ d1
    cases d1 with
    | lst hq l => cases ez; exact .inl ⟨_, _, rfl, hq.l, fin _ (itOk_list hq l)⟩
    | tup hq l => cases ez; exact .inr (.inl ⟨_, _, rfl, hq.t, fin _ (itOk_tup hq l)⟩)
    | str w => cases ez; exact .inr (.inr (.inl ⟨w, rfl, fin _ itOk_str⟩))
    | dic hd l => cases ez; exact .inr (.inr (.inr ⟨_, _, _, rfl, hd, fin _ (itOk_keys hd l)⟩))
    | _ => cases ez
/-! range -/
def rngD (lo : Int) (n : Nat) : List D := (List.range n).map fun (i : Nat) => .int (lo + i)
theorem itOk_rng {K : Frag} {Fz : Addr → Prop} {H : Hp} {lo : Int} {n : Nat} : ItOk K (Itr lo n) (rngD lo n) Fz H :=
  ⟨_, _, (show Walk _ (rngD lo n).length _ _ by unfold rngD; rw [List.length_map, List.length_range]; exact walk_range), fun _ _ _ => trivial, fun i F' H' x H2 w g fz ew y => by
    obtain ⟨rfl, rfl⟩ := y
    refine ⟨.inl rfl, ?_⟩
    unfold rngD at ew
    rw [List.getElem?_map] at ew
    obtain ⟨j, ej, rfl⟩ := map_some ew
    rw [List.getElem?_eq_some_iff] at ej
    obtain ⟨hj, ej⟩ := ej
    rw [List.getElem_range] at ej
    subst ej
    exact .int _⟩
def smI (i : Int) : Bool := decide (-(2 ^ 62) ≤ i ∧ i < 2 ^ 62)
def rng1O : List D → Option (List D)
  | [.int j] => if smI j then some (rngD 0 j.toNat) else none
  | _ => none
def rng2O : List D → Option (List D)
  | [.int i, .int j] => if smI i && smI j then some (rngD i (j - i).toNat) else none
  | _ => none
def srcL (F : List D → Option (List D)) (l : List Sl → R (List D × List Sl)) (ρ : List Sl) : R (List D × List Sl) := (l ρ).bind fun p => (ofO (F p.1)).bind fun l => .ok (l, p.2)
theorem di_rng1 (hg : Gl X "range") (hm : X.mg "range" = none) (hs : nsE e = true) (ha : PA X [e] (tA B E l)) : PI X tg (.Call (.Name "range" p) [e] [] pos) (tI B E (srcL rng1O l)) :=
  weakPI (pi_range1 hg hm ha (star_cons hs)) fun σ H R ⟨Fz, ρ, I, q⟩ => by
    refine monoG (tG_bind I q) fun x H1 ⟨F1, ρ1, dx, I1, d1, g1, e1, q1⟩ => ?_
    obtain ⟨z, ez, q2⟩ := fin_o q1
    have ez' : rng1O dx = some z := ez
    unfold rng1O at ez'
    split at ez'
    · obtain ⟨c, rfl⟩ := if_some ez'
      obtain ⟨v, rfl, dv⟩ := denL1 d1
      cases dv
      have c := of_decide_eq_true c
      exact ⟨_, rfl, c.1, c.2, q2 _ H1 F1 I1 .refl itOk_rng⟩
    · cases ez'
theorem di_rng2 (hg : Gl X "range") (hm : X.mg "range" = none) (hs : nsE e = true) (hs2 : nsE e2 = true) (ha : PA X [e, e2] (tA B E l)) : PI X tg (.Call (.Name "range" p) [e, e2] [] pos) (tI B E (srcL rng2O l)) :=
  weakPI (pi_range2 hg hm ha (by rw [star_cons hs, star_cons hs2]; rfl) (by rw [star_cons hs2]; rfl)) fun σ H R ⟨Fz, ρ, I, q⟩ => by
    refine monoG (tG_bind I q) fun x H1 ⟨F1, ρ1, dx, I1, d1, g1, e1, q1⟩ => ?_
    obtain ⟨z, ez, q2⟩ := fin_o q1
    have ez' : rng2O dx = some z := ez
    unfold rng2O at ez'
    split at ez'
    · obtain ⟨c, rfl⟩ := if_some ez'
      rw [Bool.and_eq_true] at c
      obtain ⟨v, w, rfl, dv, dw⟩ := denL2 d1
      cases dv
      cases dw
      have c1 := of_decide_eq_true c.1
      have c2 := of_decide_eq_true c.2
      exact ⟨_, _, rfl, ⟨c1.1, c1.2, c2.1, c2.2⟩, q2 _ H1 F1 I1 .refl itOk_rng⟩
    · cases ez'
/-! pairs: zip, enumerate, items -/
def zipD : List D → List D → List D
  | x :: xs, y :: ys => .tup [x, y] :: zipD xs ys
  | _, _ => []
theorem zipD_length : ∀ (xs ys : List D), (zipD xs ys).length = min xs.length ys.length
  | [], _ => by simp [zipD]
  | _ :: _, [] => by simp [zipD]
  | x :: xs, y :: ys => by simp [zipD, zipD_length xs ys]
theorem zipD_get : ∀ {xs ys : List D} {i : Nat} {z : D}, (zipD xs ys)[i]? = some z → ∃ x y, xs[i]? = some x ∧ ys[i]? = some y ∧ z = .tup [x, y]
  | [], _, _, _, h => by simp [zipD] at h
  | _ :: _, [], _, _, h => by simp [zipD] at h
  | x :: xs, y :: ys, 0, z, h => by simp [zipD] at h; exact ⟨x, y, rfl, rfl, h.symm⟩
  | x :: xs, y :: ys, i + 1, z, h => by
    obtain ⟨a, b, h1, h2, h3⟩ := zipD_get (xs := xs) (ys := ys) (i := i) (z := z) (by simpa [zipD] using h)
    exact ⟨a, b, by simpa using h1, by simpa using h2, h3⟩
theorem pair_den {K : Frag} {Fz : Addr → Prop} {H' H2 : Hp} {T : Addr} {x y : V} {dx dy : D} (f : FzOk Fz H') (hT : H' T = none) (h2 : H2 = upd H' T (.tup [x, y])) (d1 : Den K Fz H' x dx) (d2 : Den K Fz H' y dy) :
    (H2 = H' ∨ ∃ p o, H' p = none ∧ H2 = upd H' p o) ∧ Den K Fz H2 (.ref T) (.tup [dx, dy]) := by
  subst h2
  have g := (ext_new (o := .tup [x, y]) f hT).ge
  exact ⟨.inr ⟨T, _, hT, rfl⟩, .tup (.inl upd_same) (.cons (d1.mono g) (.cons (d2.mono g) .nil))⟩
theorem itOk_zip {K : Frag} {Fz : Addr → Prop} {H : Hp} {a b : Addr} {vs ws : List V} {ds es : List D} (q : SqF K H a vs) (d : DenL K Fz H vs ds) (q2 : SqF K H b ws) (d2 : DenL K Fz H ws es) : ItOk K (Itz K a b) (zipD ds es) Fz H :=
  have w := walk_zip (K := K) (a := a) (b := b) (xs := vs) (ys := ws) (n := (zipD ds es).length) (by rw [zipD_length, d.length, d2.length])
  ⟨_, _, w, fun F' H' g => ⟨(q.mono g).l, (q2.mono g).l⟩, fun i F' H' v H2 w g fz ew y => by
    obtain ⟨T, x, z, rfl, hT, h2, ex, ez⟩ := y
    obtain ⟨dx, dz, e1, e2, rfl⟩ := zipD_get ew
    obtain ⟨u1, f1, den1⟩ := (d.mono g).get e1
    obtain ⟨u2, f2, den2⟩ := (d2.mono g).get e2
    rw [show vs[i]? = some x from ex] at f1; cases f1
    rw [show ws[i]? = some z from ez] at f2; cases f2
    exact pair_den fz hT h2 den1 den2⟩
theorem walk_zipTx {K : Frag} {a b : Addr} {xs ys : List V} {n : Nat} (hn : n = min xs.length ys.length) : Walk (RZ.ItzT K a b) n (fun H => SqT K H a xs ∧ SqT K H b ys) (YPair (fun i => xs[i]?) (fun i => ys[i]?)) := by
  subst hn
  constructor
  · intro i H hi q
    have h1 : i < xs.length := by omega
    have h2 : i < ys.length := by omega
    exact ⟨xs, ys, xs[i], ys[i], q.1, q.2, List.getElem?_eq_getElem h1, List.getElem?_eq_getElem h2⟩
  · intro H q
    exact ⟨xs, ys, q.1, q.2, by omega⟩
  · intro i H v H' _ q ⟨T, x, z, h1, h2, h3, h4, h5⟩
    exact ⟨T, x, z, h1, h2, h3, h4 xs q.1, h5 ys q.2⟩
theorem itOk_zipT {K : Frag} {Fz : Addr → Prop} {H : Hp} {a b : Addr} {vs ws : List V} {ds es : List D} (q : SqU K H a vs) (d : DenL K Fz H vs ds) (q2 : SqU K H b ws) (d2 : DenL K Fz H ws es) : ItOk K (RZ.ItzT K a b) (zipD ds es) Fz H :=
  have w := walk_zipTx (K := K) (a := a) (b := b) (xs := vs) (ys := ws) (n := (zipD ds es).length) (by rw [zipD_length, d.length, d2.length])
  ⟨_, _, w, fun F' H' g => ⟨(q.mono g).t, (q2.mono g).t⟩, fun i F' H' v H2 w g fz ew y => by
    obtain ⟨T, x, z, rfl, hT, h2, ex, ez⟩ := y
    obtain ⟨dx, dz, e1, e2, rfl⟩ := zipD_get ew
    obtain ⟨u1, f1, den1⟩ := (d.mono g).get e1
    obtain ⟨u2, f2, den2⟩ := (d2.mono g).get e2
    rw [show vs[i]? = some x from ex] at f1; cases f1
    rw [show ws[i]? = some z from ez] at f2; cases f2
    exact pair_den fz hT h2 den1 den2⟩
def zipO : List D → Option (List D)
  | [.lst l, .lst r] => some (zipD l r)
  | [.tup l, .tup r] => some (zipD l r)
  | _ => none
theorem di_zip (hK : B.K = X.K) (hg : Gl X "zip") (hm : X.mg "zip" = none) (hs : nsE e = true) (hs2 : nsE e2 = true) (ha : PA X [e, e2] (tA B E l)) : PI X (.Tuple elts kk tpos) (.Call (.Name "zip" p) [e, e2] [] pos) (tI B E (srcL zipO l)) :=
  weakPI (RZ.pi_zipA hg hm ha (star_cons hs) (noStar_any (by simp [hs2]))) fun σ H R ⟨Fz, ρ, I, q⟩ => by
    refine monoG (tG_bind I q) fun x H1 ⟨F1, ρ1, dx, I1, d1, g1, e1, q1⟩ => ?_
    obtain ⟨z, ez, q2⟩ := fin_o q1
    have fin : ∀ J, ItOk B.K J z F1 H1 → R J H1 := fun J h => q2 J H1 F1 I1 .refl h
    rw [hK] at fin
    have d1 : DenL X.K F1 H1 x dx := hK ▸ d1
    have ez' : zipO dx = some z := ez
    unfold zipO at ez'
    split at ez'
    · cases ez'
      obtain ⟨v, w, rfl, dv, dw⟩ := denL2 d1
      cases dv with
      | lst q1 l1 =>
        cases dw with
        | lst q2 l2 => exact ⟨_, _, _, _, rfl, .inl ⟨q1.l, q2.l, fin _ (itOk_zip q1 l1 q2 l2)⟩⟩
    · cases ez'
      obtain ⟨v, w, rfl, dv, dw⟩ := denL2 d1
      cases dv with
      | tup q1 l1 =>
        cases dw with
        | tup q2 l2 => exact ⟨_, _, _, _, rfl, .inr ⟨q1.t, q2.t, fin _ (itOk_zipT q1 l1 q2 l2)⟩⟩
    · cases ez'
def enuD : Int → List D → List D
  | _, [] => []
  | n, d :: ds => .tup [.int n, d] :: enuD (n + 1) ds
theorem enuD_length : ∀ (n : Int) (l : List D), (enuD n l).length = l.length
  | _, [] => rfl
  | n, d :: ds => congrArg Nat.succ (enuD_length (n + 1) ds)
theorem enuD_get : ∀ {n : Int} {l : List D} {i : Nat} {z : D}, (enuD n l)[i]? = some z → ∃ x, l[i]? = some x ∧ z = .tup [.int (n + i), x]
  | n, [], i, z, h => by simp [enuD] at h
  | n, d :: ds, 0, z, h => by simp [enuD] at h; exact ⟨d, rfl, by rw [← h]; simp⟩
  | n, d :: ds, i + 1, z, h => by
    obtain ⟨x, h1, h2⟩ := enuD_get (n := n + 1) (l := ds) (i := i) (z := z) (by simpa [enuD] using h)
    exact ⟨x, by simpa using h1, by rw [h2, show n + 1 + (i : Int) = n + ((i + 1 : Nat) : Int) by omega]⟩
theorem itOk_enum {K : Frag} {Fz : Addr → Prop} {H : Hp} {a : Addr} {vs : List V} {ds : List D} (q : SqF K H a vs) (d : DenL K Fz H vs ds) : ItOk K (Ite K a) (enuD 0 ds) Fz H :=
  have w : Walk (Ite K a) (enuD 0 ds).length _ _ := by rw [enuD_length, ← d.length]; exact walk_enum (xs := vs)
  ⟨_, _, w, fun F' H' g => (q.mono g).l, fun i F' H' v H2 w g fz ew y => by
    obtain ⟨T, x, z, rfl, hT, h2, ex, ez⟩ := y
    obtain ⟨dz, e2, rfl⟩ := enuD_get ew
    obtain ⟨u2, f2, den2⟩ := (d.mono g).get e2
    rw [show vs[i]? = some z from ez] at f2; cases f2
    cases ex
    rw [Int.zero_add]
    exact pair_den fz hT h2 (.int _) den2⟩
def enuO : List D → Option (List D)
  | [.lst l] => some (enuD 0 l)
  | _ => none
theorem di_enum (hK : B.K = X.K) (hg : Gl X "enumerate") (hm : X.mg "enumerate" = none) (hs : nsE e = true) (ha : PA X [e] (tA B E l)) : PI X (.Tuple elts kk tpos) (.Call (.Name "enumerate" p) [e] [] pos) (tI B E (srcL enuO l)) :=
  weakPI (pi_enum hg hm ha (star_cons hs)) fun σ H R ⟨Fz, ρ, I, q⟩ => by
    refine monoG (tG_bind I q) fun x H1 ⟨F1, ρ1, dx, I1, d1, g1, e1, q1⟩ => ?_
    obtain ⟨z, ez, q2⟩ := fin_o q1
    have fin : ∀ J, ItOk B.K J z F1 H1 → R J H1 := fun J h => q2 J H1 F1 I1 .refl h
    rw [hK] at fin
    have d1 : DenL X.K F1 H1 x dx := hK ▸ d1
    have ez' : enuO dx = some z := ez
    unfold enuO at ez'
    split at ez'
    · cases ez'
      obtain ⟨v, rfl, dv⟩ := denL1 d1
      cases dv with
      | lst q1 l1 => exact ⟨_, _, rfl, q1.l, fin _ (itOk_enum q1 l1)⟩
    · cases ez'
/-! d.items() of a dict -/
def itemD (l : List (Str × D)) : List D := l.map fun p => .tup [.str p.1, p.2]
theorem itOk_items {K : Frag} {Fz : Addr → Prop} {H : Hp} {a : Addr} {o : Obj} {kvs : List (Str × V)} {ds : List (Str × D)} (q : H a = some (.frz o (.dK (kvs.map keyP)))) (d : DenF K Fz H kvs ds) : ItOk K (Iti a o (kvs.map keyP)) (itemD ds) Fz H :=
  ⟨_, _, (show Walk _ (itemD ds).length _ _ by unfold itemD; rw [List.length_map, ← d.length, ← List.length_map (f := keyP)]; exact walk_items), fun F' H' g => g.imm a _ (by exact trivial) q, fun i F' H' v H2 w g fz ew y => by
    obtain ⟨T, x, z, rfl, hT, h2, ex, ez⟩ := y
    unfold itemD at ew
    rw [List.getElem?_map] at ew
    obtain ⟨p, ep, rfl⟩ := map_some ew
    obtain ⟨u, e2, den⟩ := (d.mono g).get ep
    have ek : (kvs.map keyP)[i]? = some (Sum.inr p.1, u) := by rw [List.getElem?_map, e2]; rfl
    have ex : ((kvs.map keyP)[i]?.map fun kv => kV kv.1) = some x := ex
    have ez : ((kvs.map keyP)[i]?.map Prod.snd) = some z := ez
    rw [ek] at ex ez
    cases ex
    cases ez
    exact pair_den fz hT h2 (.str _) den⟩
def itmO : D → Option (List D)
  | .dic l => some (itemD l)
  | _ => none
def srcI (F : D → Option (List D)) (f : List Sl → R (D × List Sl)) (ρ : List Sl) : R (List D × List Sl) := (f ρ).bind fun p => (ofO (F p.1)).bind fun l => .ok (l, p.2)
theorem di_items (hK : B.K = X.K) (he : PE X e (tE B E f)) (hbase : attributeBase e "items" X.env (eval e X.env) = eval e X.env) (hline : (apos.endLine == cpos.line) = true) : PI X (.Tuple elts kk tpos) (.Call (.Attribute e "items" apos) [] [] cpos) (tI B E (srcI itmO f)) :=
  weakPI (pi_items he hbase hline) fun σ H R ⟨Fz, ρ, I, q⟩ => by
    refine monoG (tG_bind I q) fun x H1 ⟨F1, ρ1, dx, I1, d1, g1, e1, q1⟩ => ?_
    obtain ⟨z, ez, q2⟩ := fin_o q1
    have fin : ∀ J, ItOk B.K J z F1 H1 → R J H1 := fun J h => q2 J H1 F1 I1 .refl h
    rw [hK] at fin
    have d1 : Den X.K F1 H1 x dx := hK ▸ d1
    cases d1 with
    | dic hd l => cases ez; exact ⟨_, _, _, rfl, hd, fin _ (itOk_items hd l)⟩
    | _ => cases ez
def valO : D → Option (List D)
  | .dic l => some (l.map (·.2))
  | _ => none
theorem itOk_vals {K : Frag} {Fz : Addr → Prop} {H : Hp} {a : Addr} {o : Obj} {kvs : List (Str × V)} {ds : List (Str × D)} (q : H a = some (.frz o (.dK (kvs.map keyP)))) (d : DenF K Fz H kvs ds) : ItOk K (Itd a o (kvs.map keyP)) (ds.map (·.2)) Fz H :=
  ⟨_, _, (show Walk _ (ds.map (·.2)).length _ _ by rw [List.length_map, ← d.length, ← List.length_map (f := keyP)]; exact walk_values), fun F' H' g => g.imm a _ (by exact trivial) q, fun i F' H' v H2 w g fz ew y => by
    obtain ⟨rfl, k, ek⟩ := y
    refine ⟨.inl rfl, ?_⟩
    rw [List.getElem?_map] at ew ek
    obtain ⟨p, ep, rfl⟩ := map_some ew
    obtain ⟨u, e2, den⟩ := (d.mono g).get ep
    rw [e2] at ek
    cases ek
    exact den⟩
theorem di_values (hK : B.K = X.K) (he : PE X e (tE B E f)) (hbase : attributeBase e "values" X.env (eval e X.env) = eval e X.env) (hline : (apos.endLine == cpos.line) = true) : PI X tg (.Call (.Attribute e "values" apos) [] [] cpos) (tI B E (srcI valO f)) :=
  weakPI (pi_values he hbase hline) fun σ H R ⟨Fz, ρ, I, q⟩ => by
    refine monoG (tG_bind I q) fun x H1 ⟨F1, ρ1, dx, I1, d1, g1, e1, q1⟩ => ?_
    obtain ⟨z, ez, q2⟩ := fin_o q1
    have fin : ∀ J, ItOk B.K J z F1 H1 → R J H1 := fun J h => q2 J H1 F1 I1 .refl h
    rw [hK] at fin
    have d1 : Den X.K F1 H1 x dx := hK ▸ d1
    cases d1 with
    | dic hd l => cases ez; exact ⟨_, _, _, rfl, hd, fin _ (itOk_vals hd l)⟩
    | _ => cases ez
end
end Dx

set_option Elab.async false
set_option linter.all false
set_option maxRecDepth 100000
set_option maxHeartbeats 1000000
namespace Dx
open PySem PySem.Spec PyProof.Rows L2

abbrev E0 : XK := fun _ _ _ => False
def R.nox {α : Type} (r : R α) : R α := match r with
  | .ok a => .ok a
  | _ => .bad
@[simp] theorem R.nox_ok {α : Type} (a : α) : (R.ok a).nox = .ok a := rfl
/-- a base with one more object that must stay -/
def Bs.at (B : Bs) (D : Addr) (o : HO) : Bs := { B with ex := fun a => B.ex a ∧ a ≠ D, H0 := upd B.H0 D o }
/-- a base that tells more -/
structure BLe (B B' : Bs) : Prop where
  K : B'.K = B.K
  imm : ∀ a o, Imm o → B.H0 a = some o → B'.H0 a = some o
theorem BLe.at {B : Bs} {D : Addr} {o : HO} (h : B.H0 D = none) : BLe B (B.at D o) := ⟨rfl, fun a u _ e => by
  have q : a ≠ D := fun q => by rw [q, h] at e; cases e
  show upd B.H0 D o a = some u
  rw [upd_ne q]; exact e⟩
def wipeR (ρ : List Sl) (vs : List Nat) : List Sl := match vs with
  | [] => ρ
  | v :: vs => (wipeR ρ vs).set v .un
theorem wipeR_length (ρ : List Sl) : ∀ vs : List Nat, (wipeR ρ vs).length = ρ.length
  | [] => rfl
  | v :: vs => by unfold wipeR; rw [List.length_set]; exact wipeR_length ρ vs
theorem wipeR_out {ρ : List Sl} {i : Nat} : ∀ {vs : List Nat}, i ∉ vs → (wipeR ρ vs)[i]? = ρ[i]?
  | [], _ => rfl
  | v :: vs, h => by
    unfold wipeR
    rw [List.getElem?_set_ne (fun e => h (by rw [e]; exact List.mem_cons_self))]
    exact wipeR_out fun z => h (List.mem_cons_of_mem _ z)
theorem wipeR_in {ρ : List Sl} {i : Nat} {s : Sl} : ∀ {vs : List Nat}, i ∈ vs → (wipeR ρ vs)[i]? = some s → s = .un
  | v :: vs, h, e => by
    unfold wipeR at e
    by_cases q : v = i
    · subst q
      by_cases hl : v < (wipeR ρ vs).length
      · rw [List.getElem?_set_self hl] at e; cases e; rfl
      · rw [List.getElem?_eq_none (by rw [List.length_set]; omega)] at e; cases e
    · rw [List.getElem?_set_ne q] at e
      rcases List.mem_cons.mp h with h | h
      · exact (q h.symm).elim
      · exact wipeR_in h e
theorem wipe_out' {σ : L2.St} {i : Nat} : ∀ {vs : List Nat}, i ∉ vs → (wipe σ vs)[i]? = σ[i]?
  | [], _ => rfl
  | v :: vs, h => by
    unfold wipe
    rw [List.getElem?_set_ne (fun e => h (by rw [e]; exact List.mem_cons_self))]
    exact wipe_out' fun z => h (List.mem_cons_of_mem _ z)
section
variable {B : Bs} {Fz : Addr → Prop} {H : Hp} {σ σ' : L2.St} {ρ : List Sl} {vs : List Nat}
/-- other slots, the same but at vs, where nothing is told -/
theorem Iv.slots {ρ' : List Sl} (I : Iv B Fz H σ ρ) (hl : σ'.length = σ.length) (hl2 : ρ'.length = ρ.length) (h : ∀ (j : Nat) (s : Sl), ρ'[j]? = some s → s ≠ Sl.un → ρ[j]? = some s ∧ σ'[j]? = σ[j]?) : Iv B Fz H σ' ρ' where
  len := by rw [hl, hl2]; exact I.len
  ext := I.ext
  fzs := I.fzs
  ok := fun j s e => by
    by_cases q : s = .un
    · subst q; trivial
    · obtain ⟨h1, h2⟩ := h j s e q
      rw [h2]
      exact I.ok j s h1
  apart := fun i j a b n ⟨s, e1, o1, q1⟩ ⟨t, e2, o2, q2⟩ => by
    obtain ⟨x1, y1⟩ := h i s e1 (fun z => by rw [z] at o1; cases o1)
    obtain ⟨x2, y2⟩ := h j t e2 (fun z => by rw [z] at o2; cases o2)
    exact I.apart i j a b n ⟨s, x1, o1, y1 ▸ q1⟩ ⟨t, x2, o2, y2 ▸ q2⟩
  lent := I.lent
theorem Iv.wipe (I : Iv B Fz H σ ρ) : Iv B Fz H (L2.wipe σ vs) (wipeR ρ vs) :=
  I.slots (wipe_length σ vs) (wipeR_length ρ vs) fun j s e n => by
    by_cases q : j ∈ vs
    · exact (n (wipeR_in q e)).elim
    · rw [wipeR_out q] at e; exact ⟨e, wipe_out' q⟩
theorem Iv.unwipe (I : Iv B Fz H (L2.wipe σ vs) (wipeR ρ vs)) : Iv B Fz H σ (wipeR ρ vs) :=
  I.slots (wipe_length σ vs).symm rfl fun j s e n => by
    by_cases q : j ∈ vs
    · exact (n (wipeR_in q e)).elim
    · exact ⟨e, (wipe_out' q).symm⟩
theorem wipe_same {ws : List Nat} (h : Same ws (L2.wipe σ vs) σ') (hw : ∀ j ∈ ws, j ∈ vs) : L2.wipe σ' vs = L2.wipe σ vs := by
  have len : σ'.length = σ.length := by rw [h.1, wipe_length]
  apply List.ext_getElem?
  intro j
  have gen : ∀ (τ : L2.St), j ∈ vs → (L2.wipe τ vs)[j]? = if j < τ.length then some none else none := by
    intro τ hj
    clear h hw len
    induction vs with
    | nil => cases hj
    | cons v vs ih =>
      unfold L2.wipe
      by_cases q : v = j
      · subst q
        by_cases hl : v < τ.length
        · rw [List.getElem?_set_self (by rw [wipe_length]; exact hl), if_pos hl]
        · rw [List.getElem?_eq_none (by rw [List.length_set, wipe_length]; omega), if_neg hl]
      · rw [List.getElem?_set_ne q]
        rcases List.mem_cons.mp hj with z | z
        · exact (q z.symm).elim
        · exact ih z
  by_cases q : j ∈ vs
  · rw [gen σ' q, gen σ q, len]
  · rw [wipe_out' q, wipe_out' q, h.2 j (fun z => q (hw j z)), wipe_out' q]
/-- one more object in the base -/
theorem Iv.atBase {p : Addr} {o : HO} (I : Iv B Fz H σ ρ) (hp : H p = none) (ni : ¬ Imm o) : Iv (B.at p o) Fz (upd H p o) σ ρ := by
  obtain ⟨I2, g2, ap, h0, nz⟩ := I.laid hp o
  have nz0 : ¬ B.Fz0 p := fun z => nz (I.ext.ge.fz p z)
  refine ⟨I2.len, ⟨⟨fun a u i e => ?_, I2.ext.ge.fz, fun a z => ?_⟩, fun a u e n => ?_, fun a z => ?_, fun a u e => ?_⟩, I2.fzs, fun i s e => ?_, I2.apart, fun a z => ?_⟩
  · by_cases q : a = p
    · subst q; rw [show (B.at a o).H0 a = some o from upd_same] at e; cases e; exact (ni i).elim
    · rw [show (B.at p o).H0 a = B.H0 a from upd_ne q] at e; exact I2.ext.ge.imm a u i e
  · have q : a ≠ p := fun q => nz0 (q ▸ z)
    rw [show (B.at p o).H0 a = B.H0 a from upd_ne q]; exact I2.ext.ge.fzk a z
  · by_cases q : a = p
    · subst q; rw [show (B.at a o).H0 a = some o from upd_same] at e; cases e; exact upd_same
    · rw [show (B.at p o).H0 a = B.H0 a from upd_ne q] at e; exact I2.ext.keep a u e fun z => n ⟨z, q⟩
  · have q : a ≠ p := fun q => nz (q ▸ z)
    rcases I2.ext.nofz a z with h | h | h
    · exact .inl h
    · exact .inr (.inl (by rw [show (B.at p o).H0 a = B.H0 a from upd_ne q]; exact h))
    · exact .inr (.inr ⟨h, q⟩)
  · by_cases q : a = p
    · subst q; exact ⟨o, upd_same⟩
    · rw [show (B.at p o).H0 a = B.H0 a from upd_ne q] at e; exact I2.ext.there a u e
  · have z := I2.ok i s e
    have ne : ∀ a, s.held = true → σ[i]?.join = some (.ref a) → a ≠ p := fun a hh hs => ap i a ⟨s, e, hh, join_some.mp hs⟩
    cases s with
    | un => trivial
    | sh d => exact z
    | ow d => obtain ⟨a, e1, ow, h0⟩ := z; exact ⟨a, e1, ow, by rw [show (B.at p o).H0 a = B.H0 a from upd_ne (ne a rfl e1)]; exact h0⟩
    | br d => exact z
    | mt d => obtain ⟨a, e1, ow, h1, h2⟩ := z; exact ⟨a, e1, ow, ⟨h1, ne a rfl e1⟩, h2⟩
  · obtain ⟨u, e⟩ := I.lent a z
    have q : a ≠ p := fun q => by rw [q, h0] at e; cases e
    exact ⟨u, by rw [show (B.at p o).H0 a = B.H0 a from upd_ne q]; exact e⟩
/-- an object that stands there, into the base -/
theorem Iv.toBase {p : Addr} {o : HO} (I : Iv B Fz H σ ρ) (hp : H p = some o) (h0 : B.H0 p = none) (ap : ∀ i b, HeldAt σ ρ i b → b ≠ p) (ni : ¬ Imm o) (nz : ¬ Fz p) : Iv (B.at p o) Fz H σ ρ := by
  have nz0 : ¬ B.Fz0 p := fun z => nz (I.ext.ge.fz p z)
  refine ⟨I.len, ⟨⟨fun a u i e => ?_, I.ext.ge.fz, fun a z => ?_⟩, fun a u e n => ?_, fun a z => ?_, fun a u e => ?_⟩, I.fzs, fun i s e => ?_, I.apart, fun a z => ?_⟩
  · by_cases q : a = p
    · subst q; rw [show (B.at a o).H0 a = some o from upd_same] at e; cases e; exact (ni i).elim
    · rw [show (B.at p o).H0 a = B.H0 a from upd_ne q] at e; exact I.ext.ge.imm a u i e
  · have q : a ≠ p := fun q => nz0 (q ▸ z)
    rw [show (B.at p o).H0 a = B.H0 a from upd_ne q]; exact I.ext.ge.fzk a z
  · by_cases q : a = p
    · subst q; rw [show (B.at a o).H0 a = some o from upd_same] at e; cases e; exact hp
    · rw [show (B.at p o).H0 a = B.H0 a from upd_ne q] at e; exact I.ext.keep a u e fun z => n ⟨z, q⟩
  · have q : a ≠ p := fun q => nz (q ▸ z)
    rcases I.ext.nofz a z with h | h | h
    · exact .inl h
    · exact .inr (.inl (by rw [show (B.at p o).H0 a = B.H0 a from upd_ne q]; exact h))
    · exact .inr (.inr ⟨h, q⟩)
  · by_cases q : a = p
    · subst q; exact ⟨o, hp⟩
    · rw [show (B.at p o).H0 a = B.H0 a from upd_ne q] at e; exact I.ext.there a u e
  · have z := I.ok i s e
    have ne : ∀ a, s.held = true → σ[i]?.join = some (.ref a) → a ≠ p := fun a hh hs => ap i a ⟨s, e, hh, join_some.mp hs⟩
    cases s with
    | un => trivial
    | sh d => exact z
    | ow d => obtain ⟨a, e1, ow, h0⟩ := z; exact ⟨a, e1, ow, by rw [show (B.at p o).H0 a = B.H0 a from upd_ne (ne a rfl e1)]; exact h0⟩
    | br d => exact z
    | mt d => obtain ⟨a, e1, ow, h1, h2⟩ := z; exact ⟨a, e1, ow, ⟨h1, ne a rfl e1⟩, h2⟩
  · obtain ⟨u, e⟩ := I.lent a z
    have q : a ≠ p := fun q => by rw [q, h0] at e; cases e
    exact ⟨u, by rw [show (B.at p o).H0 a = B.H0 a from upd_ne q]; exact e⟩
theorem Iv.atNe {p : Addr} {o : HO} (I : Iv (B.at p o) Fz H σ ρ) (h0 : B.H0 p = none) (lent : ∀ a, B.bd a → ∃ o, B.H0 a = some o) : ∀ i b, HeldAt σ ρ i b → b ≠ p := fun i b ⟨s, e, hh, hs⟩ q => by
  have z := I.ok i s e
  rw [join_some.mpr hs] at z
  subst q
  cases s with
  | ow d => obtain ⟨a, e1, ow, h1⟩ := z; cases e1; rw [show (B.at b o).H0 b = some o from upd_same] at h1; cases h1
  | mt d => obtain ⟨a, e1, ow, h1, h2⟩ := z; cases e1; exact h1.2 rfl
  | br d => obtain ⟨a, e1, bw, h1⟩ := z; cases e1; obtain ⟨u, e2⟩ := lent b h1; rw [h0] at e2; cases e2
  | _ => cases hh
/-- out of it again -/
theorem Iv.outBase {p : Addr} {o : HO} (I : Iv (B.at p o) Fz H σ ρ) (h0 : B.H0 p = none) (nz : ¬ Fz p) (lent : ∀ a, B.bd a → ∃ o, B.H0 a = some o) : Iv B Fz H σ ρ := by
  have nz0 : ¬ B.Fz0 p := fun z => nz (I.ext.ge.fz p z)
  refine ⟨I.len, ⟨⟨fun a u i e => ?_, I.ext.ge.fz, fun a z => ?_⟩, fun a u e n => ?_, fun a z => ?_, fun a u e => ?_⟩, I.fzs, fun i s e => ?_, I.apart, lent⟩
  · have q : a ≠ p := fun q => by rw [q, h0] at e; cases e
    exact I.ext.ge.imm a u i (by rw [show (B.at p o).H0 a = B.H0 a from upd_ne q]; exact e)
  · have q : a ≠ p := fun q => nz0 (q ▸ z)
    have := I.ext.ge.fzk a z
    rw [show (B.at p o).H0 a = B.H0 a from upd_ne q] at this
    exact this
  · have q : a ≠ p := fun q => by rw [q, h0] at e; cases e
    exact I.ext.keep a u (by rw [show (B.at p o).H0 a = B.H0 a from upd_ne q]; exact e) fun z => n z.1
  · have q : a ≠ p := fun q => nz (q ▸ z)
    rcases I.ext.nofz a z with h | h | h
    · exact .inl h
    · exact .inr (.inl (by rw [show (B.at p o).H0 a = B.H0 a from upd_ne q] at h; exact h))
    · exact .inr (.inr h.1)
  · have q : a ≠ p := fun q => by rw [q, h0] at e; cases e
    exact I.ext.there a u (by rw [show (B.at p o).H0 a = B.H0 a from upd_ne q]; exact e)
  · have z := I.ok i s e
    cases s with
    | un => trivial
    | sh d => exact z
    | ow d =>
      obtain ⟨a, e1, ow, hn⟩ := z
      refine ⟨a, e1, ow, ?_⟩
      by_cases q : a = p
      · rw [q]; exact h0
      · rw [show (B.at p o).H0 a = B.H0 a from upd_ne q] at hn; exact hn
    | br d => exact z
    | mt d => obtain ⟨a, e1, ow, h1, h2⟩ := z; exact ⟨a, e1, ow, h1.1, h2⟩
end
end Dx

set_option Elab.async false
set_option linter.all false
set_option maxRecDepth 100000
set_option maxHeartbeats 1000000
namespace Dx
open PySem PySem.Spec PyProof.Rows L2

/-! ### list comprehensions -/
def lcL (vs : List Nat) (t : D → List Sl → Option (List Sl)) (u : List Sl → R (Bool × List Sl)) (f : List Sl → R (D × List Sl)) : List D → List D → List Sl → R (List D × List Sl)
  | acc, [], ρ => .ok (acc, ρ)
  | acc, d :: ds, ρ => (ofO (t d ρ)).bind fun ρ1 => (u ρ1).nox.bind fun p => match p.1 with
    | true => (f p.2).nox.bind fun q => if decide (acc.length < sizeLine) = true then lcL vs t u f (acc ++ [q.1]) ds (wipeR q.2 vs) else .bad
    | false => lcL vs t u f acc ds (wipeR p.2 vs)
def evLc (vs : List Nat) (s : List Sl → R (List D × List Sl)) (t : D → List Sl → Option (List Sl)) (u : List Sl → R (Bool × List Sl)) (f : List Sl → R (D × List Sl)) (ρ : List Sl) : R (D × List Sl) :=
  (s ρ).bind fun p => (lcL vs t u f [] p.1 (wipeR p.2 vs)).bind fun q => .ok (.lst q.1, q.2)
def evYes (ρ : List Sl) : R (Bool × List Sl) := .ok (true, ρ)
theorem dts_nil {X : Cx} {B : Bs} {E : XK} : PTs X [] (tT B E evYes) := ⟨fun pins s σ H Q I ⟨Fz, ρ, I2, q⟩ => pts_nil.run pins s σ H Q I (q true H Fz I2 .refl rfl)⟩
theorem dts_one {X : Cx} {B : Bs} {E : XK} {c : Expr} {u : List Sl → R (Bool × List Sl)} (h : PT X c (tT B E u)) : PTs X [c] (tT B E u) := pts_one h
/-- one piece inside a block: no exception leaves it -/
theorem tG_nox {α β γ δ : Type} {Rl : Rel α β} {Rm : Rel γ δ} {B B1 : Bs} {E : XK} {f : List Sl → R (α × List Sl)} {k : α × List Sl → R (γ × List Sl)} {σ σ1 : L2.St} {H : Hp} {Fz : Addr → Prop} {ρ : List Sl} {Q : δ → Hp → Prop} (I : Iv B1 Fz H σ1 ρ) (h : FinG Rm B E σ Q Fz H ((f ρ).nox.bind k)) :
    tG Rl B1 E0 f σ1 H (fun v H1 => ∃ Fz1 ρ1 d, Iv B1 Fz1 H1 σ1 ρ1 ∧ Rl B1 Fz1 H1 σ1 ρ1 v d ∧ Ge Fz H Fz1 H1 ∧ FinG Rm B E σ Q Fz1 H1 (k (d, ρ1))) := by
  refine ⟨Fz, ρ, I, ?_⟩
  cases e : f ρ with
  | ok p =>
    rw [e] at h
    exact fun v H1 F1 I1 g1 d1 => ⟨F1, p.2, p.1, I1, d1, g1, FinG.ge g1 h⟩
  | exc c d => rw [e] at h; exact h.elim
  | bad => rw [e] at h; exact h.elim
section
variable {X : Cx} {B : Bs} {E : XK} {e c iter tg elt : Expr} {ifs : List Expr} {f : List Sl → R (D × List Sl)} {s : List Sl → R (List D × List Sl)} {t : D → List Sl → Option (List Sl)} {u : List Sl → R (Bool × List Sl)} {pos : Pos} {i : Nat} {x : Str} {ws : List Nat} {scope : Scope} {own : List (Str × Nat)}
abbrev anyB (B : Bs) {α : Type} (t : Bs → L2.St → Hp → α → Prop) : L2.St → Hp → α → Prop := fun σ H Q => ∃ B' : Bs, BLe B B' ∧ t B' σ H Q
theorem pe_anyB {Y : Cx} (h : ∀ B' : Bs, BLe B B' → PE Y e (tE B' E f)) : PE Y e (fun σ H Q => ∃ B' : Bs, BLe B B' ∧ tE B' E f σ H Q) := ⟨fun pins s σ H Q I ⟨B', hB, q⟩ => (h B' hB).run pins s σ H Q I q⟩
theorem pts_anyB {Y : Cx} (h : ∀ B' : Bs, BLe B B' → PTs Y ifs (tT B' E u)) : PTs Y ifs (fun σ H Q => ∃ B' : Bs, BLe B B' ∧ tT B' E u σ H Q) := ⟨fun pins s σ H Q I ⟨B', hB, q⟩ => (h B' hB).run pins s σ H Q I q⟩
theorem pg_anyB {Y : Cx} (h : ∀ B' : Bs, BLe B B' → PG Y tg (tG1 B' ws t)) : PG Y tg (fun v σ H Q => ∃ B' : Bs, BLe B B' ∧ tG1 B' ws t v σ H Q) := ⟨fun pins s σ H v u Q I r ⟨B', hB, q⟩ => (h B' hB).run pins s σ H v u Q I r q⟩
theorem t_lc {vs : List Nat} (hw : ∀ j ∈ ws, j ∈ vs) {σ : L2.St} {H : Hp} {Q : VK} (h : tO B E (evLc vs s t u f) σ H Q) :
    tLc (tI B E s) (fun v σ H Q => ∃ B' : Bs, BLe B B' ∧ tG1 B' ws t v σ H Q) (fun σ H Q => ∃ B' : Bs, BLe B B' ∧ tT B' E0 u σ H Q) (fun σ H Q => ∃ B' : Bs, BLe B B' ∧ tE B' E0 f σ H Q) vs σ H Q := by
    obtain ⟨Fz, ρ, I, q⟩ := h
    refine monoG (tG_bind I q) fun J H1 ⟨F1, ρ1, ds, I1, ⟨G, Y, w, hG, hY⟩, g1, e1, q1⟩ => ?_
    intro p hp
    have h0 : B.H0 p = none := (I1.laid hp (.lst [])).2.2.2.1
    have pre : ∀ {F' : Addr → Prop} {H' : Hp} {vacc : List V}, FzOk F' H' → H' p = some (.lst vacc) → ¬ F' p := fun f e z => by
      obtain ⟨C, dx, fs, e2⟩ := f p z
      rw [e] at e2; cases e2
    have ge0 : Ge F1 H1 F1 (upd H1 p (.lst [])) := (I1.laid hp (.lst [])).2.1
    refine lc_it (g := fun v σ H Q => ∃ B' : Bs, BLe B B' ∧ tG1 B' ws t v σ H Q) (tt := fun σ H Q => ∃ B' : Bs, BLe B B' ∧ tT B' E0 u σ H Q) (te := fun σ H Q => ∃ B' : Bs, BLe B B' ∧ tE B' E0 f σ H Q) (vs := vs) (σ := σ) (Qd := fun H => Q (.ref p) H) w (fun i H' => ∃ F' ρ0 acc vacc, H' p = some (.lst vacc) ∧ DenL B.K F' H' vacc acc ∧ Iv (B.at p (.lst vacc)) F' H' (wipe σ vs) (wipeR ρ0 vs) ∧ Ge F1 H1 F' H' ∧
        FinG rO B E σ Q F' H' ((lcL vs t u f acc (ds.drop i) (wipeR ρ0 vs)).bind fun q => .ok (.lst q.1, q.2)))
      ⟨F1, ρ1, [], [], upd_same, .nil, (I1.atBase (o := .lst []) hp (fun z => z)).wipe, ge0, FinG.ge ge0 q1⟩ (fun i H' _ ⟨F', _, _, _, _, _, _, g', _⟩ => hG F' H' g')
      (fun i x H' H2 hlt ⟨F', ρ0, acc, vacc, hD, dacc, I', g', q'⟩ y => ?_) fun H' ⟨F', ρ0, acc, vacc, hD, dacc, I', g', q'⟩ => ?_
    · obtain ⟨d, ed, er⟩ := drop_get hlt
      obtain ⟨h2, dn⟩ := hY i F' H' x H2 d g' I'.fzs ed y
      obtain ⟨I2, g2⟩ := I'.more h2
      have hD2 : H2 p = some (.lst vacc) := I2.ext.keep p _ upd_same fun z => z.2 rfl
      rw [er] at q'
      have q' := FinG.ge g2 q'
      have q' : FinG rO B E σ Q F' H2 (((ofO (t d (wipeR ρ0 vs))).bind fun ρ1 => (u ρ1).nox.bind fun p => match p.1 with
        | true => (f p.2).nox.bind fun q => if decide (acc.length < sizeLine) = true then lcL vs t u f (acc ++ [q.1]) (ds.drop (i + 1)) (wipeR q.2 vs) else .bad
        | false => lcL vs t u f acc (ds.drop (i + 1)) (wipeR p.2 vs)).bind fun q => .ok (.lst q.1, q.2)) := q'
      rw [R.bind_assoc] at q'
      obtain ⟨ρ2, e2, q2⟩ := fin_o q'
      refine ⟨B.at p (.lst vacc), .at h0, F', _, d, ρ2, I2, dn, e2, fun σ3 s3 I3 => ⟨wipe_same s3 hw, ?_⟩⟩
      rw [R.bind_assoc] at q2
      refine ⟨B.at p (.lst vacc), .at h0, monoG (tG_nox I3 q2) fun b H3 ⟨F3, ρ3, db, I4, eb, g3, q3⟩ => ?_⟩
      have eb : b = db := eb
      subst eb
      have ws3 : wipe σ3 vs = wipe σ vs := wipe_same s3 hw
      cases b with
      | false =>
        rw [if_neg (by decide)]
        have hD3 : H3 p = some (.lst vacc) := I4.ext.keep p _ upd_same fun z => z.2 rfl
        refine ⟨F3, ρ3, acc, vacc, hD3, (dacc.mono g2).mono g3, ?_, (g'.trans g2).trans g3, q3⟩
        have I5 := I4.wipe (vs := vs)
        rw [ws3] at I5
        exact I5
      | true =>
        rw [if_pos rfl]
        have q3 : FinG rO B E σ Q F3 H3 (((f ρ3).nox.bind fun q => if decide (acc.length < sizeLine) = true then lcL vs t u f (acc ++ [q.1]) (ds.drop (i + 1)) (wipeR q.2 vs) else .bad).bind fun q => .ok (.lst q.1, q.2)) := q3
        rw [R.bind_assoc] at q3
        refine ⟨B.at p (.lst vacc), .at h0, monoG (tG_nox I4 q3) fun z H4 ⟨F4, ρ4, dz, I5, zd, g4, q4⟩ => ?_⟩
        have zd : Den B.K F4 H4 z dz := zd
        have hD4 : H4 p = some (.lst vacc) := I5.ext.keep p _ upd_same fun z => z.2 rfl
        have len : vacc.length = acc.length := dacc.length
        have q4 : FinG rO B E σ Q F4 H4 ((if decide (acc.length < sizeLine) = true then lcL vs t u f (acc ++ [dz]) (ds.drop (i + 1)) (wipeR ρ4 vs) else .bad).bind fun q => .ok (.lst q.1, q.2)) := q4
        by_cases hz : acc.length < sizeLine
        · rw [if_pos (decide_eq_true hz)] at q4
          have nz4 : ¬ F4 p := pre I5.fzs hD4
          have x := ext_put (o := .lst (vacc ++ [z])) hD4 (fun z => z) nz4
          refine ⟨vacc, hD4, by rw [len]; exact hz, F4, ρ4, acc ++ [dz], vacc ++ [z], upd_same, ((((dacc.mono g2).mono g3).mono g4).append (.cons zd .nil)).mono x.ge, ?_, ((g'.trans g2).trans g3).trans (g4.trans x.ge), FinG.ge x.ge q4⟩
          have lent : ∀ a, B.bd a → ∃ o, B.H0 a = some o := I.lent
          have I6 : Iv B F4 H4 σ3 ρ4 := I5.outBase h0 nz4 lent
          have ne := I5.atNe h0 lent
          have I7 : Iv B F4 (upd H4 p (.lst (vacc ++ [z]))) σ3 ρ4 := I6.step x (fzs_put I6.fzs nz4) (fun b hb => by rw [hb]; exact .inl h0) fun j b hb z => ne j b hb z
          have I8 : Iv (B.at p (.lst (vacc ++ [z]))) F4 (upd H4 p (.lst (vacc ++ [z]))) σ3 ρ4 := I7.toBase upd_same h0 ne (fun z => z) nz4
          have I9 := I8.wipe (vs := vs)
          rw [ws3] at I9
          exact I9
        · rw [if_neg (by rw [decide_eq_true_iff]; exact hz)] at q4
          exact q4.elim
    · rw [List.drop_length] at q'
      have nz : ¬ F' p := pre I'.fzs hD
      have lent : ∀ a, B.bd a → ∃ o, B.H0 a = some o := I.lent
      have I2 : Iv B F' H' σ (wipeR ρ0 vs) := (I'.outBase h0 nz lent).unwipe
      exact q' (.ref p) H' F' I2 .refl ⟨p, rfl, ⟨vacc, hD, dacc⟩, h0, fun j b hb => by
        have hb' : HeldAt (wipe σ vs) (wipeR ρ0 vs) j b := by
          obtain ⟨s, e, hh, hs⟩ := hb
          refine ⟨s, e, hh, ?_⟩
          by_cases q : j ∈ vs
          · rw [wipeR_in q e] at hh; cases hh
          · rw [wipe_out' q]; exact hs
        exact I'.atNe h0 lent j b hb'⟩
theorem do_lc (hc : X.calm = true) (hN : X.N.Nodup) (hi : PI X tg iter (tI B E s)) (ok : BlkOk X.N X.env.scope scope own) (hw : ∀ j ∈ ws, j ∈ own.map (·.2))
    (hg : ∀ (B' : Bs), BLe B B' → ∀ (s : Shared) (H : Hp) (C : Addr) (cl : List (Str × Addr)) (fp : List Addr), PG (X.blk s H scope (compEnvC scope cl C X.env) fp) tg (tG1 B' ws t))
    (ht : ∀ (B' : Bs), BLe B B' → ∀ (s : Shared) (H : Hp) (C : Addr) (cl : List (Str × Addr)) (fp : List Addr), PTs (X.blk s H scope (compEnvC scope cl C X.env) fp) ifs (tT B' E0 u))
    (he : ∀ (B' : Bs), BLe B B' → ∀ (s : Shared) (H : Hp) (C : Addr) (cl : List (Str × Addr)) (fp : List Addr), PE (X.blk s H scope (compEnvC scope cl C X.env) fp) elt (tE B' E0 f))
    (hs : ∀ x, foldedSetIterable iter X.env x = pure x) : PE X (.ListComp elt [⟨tg, iter, ifs, 0⟩] scope pos) (tO B E (evLc (own.map (·.2)) s t u f)) :=
  weakE (pe_lc hc hN hi ok (fun a b c d e => pg_anyB fun B' h => hg B' h a b c d e) (fun a b c d e => pts_anyB fun B' h => ht B' h a b c d e) (fun a b c d e => pe_anyB fun B' h => he B' h a b c d e) hs) fun σ H Q h => t_lc hw h
/-- x = [..] on one line -/
theorem ds_ownLc {i : Nat} {y : Str} {py spos : Pos} (hc : X.calm = true) (hN : X.N.Nodup) (hy : X.N[i]? = some y) (hyl : X.env.scope.names.lookup y = some .local) (hsw : swapsWith (.ListComp elt [⟨tg, iter, ifs, 0⟩] scope pos) (some (.Name y py)) spos.line X.env = pure true)
    (hi : PI X tg iter (tI B E s)) (ok : BlkOk X.N X.env.scope scope own) (hw : ∀ j ∈ ws, j ∈ own.map (·.2))
    (hg : ∀ (B' : Bs), BLe B B' → ∀ (s : Shared) (H : Hp) (C : Addr) (cl : List (Str × Addr)) (fp : List Addr), PG (X.blk s H scope (compEnvC scope cl C X.env) fp) tg (tG1 B' ws t))
    (ht : ∀ (B' : Bs), BLe B B' → ∀ (s : Shared) (H : Hp) (C : Addr) (cl : List (Str × Addr)) (fp : List Addr), PTs (X.blk s H scope (compEnvC scope cl C X.env) fp) ifs (tT B' E0 u))
    (he : ∀ (B' : Bs), BLe B B' → ∀ (s : Shared) (H : Hp) (C : Addr) (cl : List (Str × Addr)) (fp : List Addr), PE (X.blk s H scope (compEnvC scope cl C X.env) fp) elt (tE B' E0 f))
    (hs : ∀ x, foldedSetIterable iter X.env x = pure x) : PS X (.Assign [.Name y py] (.ListComp elt [⟨tg, iter, ifs, 0⟩] scope pos) spos) (tS B E (stOwn i (evLc (own.map (·.2)) s t u f))) :=
  weakS (ps_setLc hc hN hy hyl hsw hi ok (fun a b c d e => pg_anyB fun B' h => hg B' h a b c d e) (fun a b c d e => pts_anyB fun B' h => ht B' h a b c d e) (fun a b c d e => pe_anyB fun B' h => he B' h a b c d e) hs) fun Dn σ H ⟨Fz, ρ, I, q⟩ =>
    t_lc hw (monoG (tG_st I q) fun v H1 ⟨F1, ρ1, d, I1, ⟨a, ev, ow, h0, ap⟩, g1, q1⟩ => by
      obtain ⟨ρ2, e2, q2⟩ := fin_ofT q1
      subst ev
      exact q2 _ H1 F1 (I1.put e2 ⟨a, rfl, ow, h0⟩ fun _ j b hj hb z => ap j b hb (V.ref.inj z).symm) .refl)
end
end Dx

set_option Elab.async false
set_option linter.all false
set_option maxRecDepth 100000
set_option maxHeartbeats 1000000
namespace Dx
open PySem PySem.Spec PyProof.Rows L2

/-! ### a def as a function on data -/
/-- how a parameter is taken: shared data; a container that is read; one that is changed -/
inductive Md where
  | sh | br | mt
deriving DecidableEq
structure Fd where
  md : List Md
  own : Bool
  sem : List D → R (D × List D)
def ArgOk (K : Frag) (Fz : Addr → Prop) (H : Hp) : Md → V → D → Prop
  | .sh, v, d => Den K Fz H v d
  | .br, v, d => ∃ a, v = .ref a ∧ Brw K Fz H a d
  | .mt, v, d => ∃ a, v = .ref a ∧ Own K Fz H a d
inductive ArgsOk (K : Frag) (Fz : Addr → Prop) (H : Hp) : List Md → List V → List D → Prop where
  | nil : ArgsOk K Fz H [] [] []
  | cons {m : Md} {v : V} {d : D} {ms : List Md} {vs : List V} {ds : List D} : ArgOk K Fz H m v d → ArgsOk K Fz H ms vs ds → ArgsOk K Fz H (m :: ms) (v :: vs) (d :: ds)
def exA (ms : List Md) (vs : List V) (a : Addr) : Prop := ∃ i : Nat, ms[i]? = some .mt ∧ vs[i]? = some (.ref a)
def ApA (ms : List Md) (vs : List V) : Prop := ∀ (i j : Nat) (a b : Addr), i ≠ j → ms[i]? = some .mt → vs[i]? = some (.ref a) → ms[j]? ≠ some .sh → vs[j]? = some (.ref b) → a ≠ b
/-- what the changed ones become -/
inductive OutsOk (K : Frag) (Fz : Addr → Prop) (H : Hp) : List Md → List V → List D → Prop where
  | nil : OutsOk K Fz H [] [] []
  | skip {m : Md} {v : V} {ms : List Md} {vs : List V} {ds : List D} : m ≠ .mt → OutsOk K Fz H ms vs ds → OutsOk K Fz H (m :: ms) (v :: vs) ds
  | out {a : Addr} {d : D} {ms : List Md} {vs : List V} {ds : List D} : Own K Fz H a d → OutsOk K Fz H ms vs ds → OutsOk K Fz H (.mt :: ms) (.ref a :: vs) (d :: ds)
def ResF (K : Frag) (H : Hp) (own : Bool) (Fz' : Addr → Prop) (H' : Hp) (v : V) (z : D) : Prop := match own with
  | true => ∃ a, v = .ref a ∧ Own K Fz' H' a z ∧ H a = none
  | false => Den K Fz' H' v z
def FinF (K : Frag) (own : Bool) (ms : List Md) (vs : List V) (Q : VK) (E : XK) (Fz : Addr → Prop) (H : Hp) : R (D × List D) → Prop
  | .ok p => ∀ v H' Fz', Ext (exA ms vs) Fz H Fz' H' → FzOk Fz' H' → OutsOk K Fz' H' ms vs p.2 → ResF K H own Fz' H' v p.1 → Q v H'
  | .exc c d => ∀ dx v H' Fz', Ext (exA ms vs) Fz H Fz' H' → FzOk Fz' H' → H' dx = some (.xd [("value", v)]) → Den K Fz' H' v d → E (.ref (He.ga K c)) (some dx) H'
  | .bad => False
def spF (K : Frag) (gs : List (Addr × HO)) (F : Fd) : Sp := fun vs H Q E => (∀ p ∈ gs, H p.1 = some p.2) ∧ ∃ Fz ds, FzOk Fz H ∧ ArgsOk K Fz H F.md vs ds ∧ ApA F.md vs ∧ FinF K F.own F.md vs Q E Fz H (F.sem ds)
theorem ArgsOk.len {K : Frag} {Fz : Addr → Prop} {H : Hp} {ms : List Md} {vs : List V} {ds : List D} (h : ArgsOk K Fz H ms vs ds) : vs.length = ms.length ∧ ds.length = ms.length := by
  induction h with
  | nil => exact ⟨rfl, rfl⟩
  | cons _ _ ih => exact ⟨congrArg Nat.succ ih.1, congrArg Nat.succ ih.2⟩
theorem ArgsOk.get {K : Frag} {Fz : Addr → Prop} {H : Hp} {ms : List Md} {vs : List V} {ds : List D} (h : ArgsOk K Fz H ms vs ds) {i : Nat} {m : Md} (e : ms[i]? = some m) : ∃ v d, vs[i]? = some v ∧ ds[i]? = some d ∧ ArgOk K Fz H m v d := by
  induction h generalizing i with
  | nil => simp at e
  | cons a _ ih =>
    cases i with
    | zero => simp at e; subst e; exact ⟨_, _, rfl, rfl, a⟩
    | succ i => obtain ⟨v, d, e1, e2, e3⟩ := ih (i := i) (by simpa using e); exact ⟨v, d, by simpa using e1, by simpa using e2, e3⟩

/-! the slots at the start, and what the changed ones are at the end -/
def mdS : Md → D → Sl
  | .sh, d => .sh d
  | .br, d => .br d
  | .mt, d => .mt d
def iniS (ms : List Md) (ds : List D) (n : Nat) : List Sl := (ms.zipWith mdS ds) ++ List.replicate (n - ms.length) .un
def outsR : List Md → Nat → List Sl → Option (List D)
  | [], _, _ => some []
  | .mt :: ms, i, ρ => (match ρ[i]? with
    | some (.mt d) => (outsR ms (i + 1) ρ).map fun l => d :: l
    | _ => none)
  | _ :: ms, i, ρ => outsR ms (i + 1) ρ
def semOf (n : Nat) (ms : List Md) (own : Bool) (g : List Sl → RS) (ds : List D) : R (D × List D) := if ds.length = ms.length then (match g (iniS ms ds n) with
  | .nx ρ => if own then .bad else (ofO (outsR ms 0 ρ)).bind fun o => .ok (.non, o)
  | .rt o z ρ => if o = own then (ofO (outsR ms 0 ρ)).bind fun l => .ok (z, l) else .bad
  | .exc c d => .exc c d
  | _ => .bad) else .bad
section
variable {K : Frag} {Fz : Addr → Prop} {H : Hp} {ms : List Md} {vs : List V} {ds : List D} {N : List Str}
def baseF (K : Frag) (ms : List Md) (vs : List V) (Fz : Addr → Prop) (H : Hp) : Bs :=
  { K := K, ex := exA ms vs, Fz0 := Fz, H0 := H, mts := fun i a => ms[i]? = some .mt ∧ vs[i]? = some (.ref a), bd := fun a => ∃ i : Nat, ms[i]? = some .br ∧ vs[i]? = some (.ref a) }
theorem ini_get (hl : ds.length = ms.length) {n i : Nat} {s : Sl} (e : (iniS ms ds n)[i]? = some s) : s = .un ∨ ∃ m d, ms[i]? = some m ∧ ds[i]? = some d ∧ s = mdS m d := by
  unfold iniS at e
  by_cases h : i < (ms.zipWith mdS ds).length
  · rw [List.getElem?_append_left h] at e
    rw [List.getElem?_zipWith] at e
    rw [List.length_zipWith] at h
    have h1 : i < ms.length := by omega
    have h2 : i < ds.length := by omega
    rw [List.getElem?_eq_getElem h1, List.getElem?_eq_getElem h2] at e
    cases e
    exact .inr ⟨_, _, List.getElem?_eq_getElem h1, List.getElem?_eq_getElem h2, rfl⟩
  · rw [List.getElem?_append_right (by omega)] at e
    rw [List.getElem?_replicate] at e
    split at e
    · cases e; exact .inl rfl
    · cases e
theorem start_get {i : Nat} {v : V} (h : vs[i]? = some v) : (L2.start N vs)[i]? = some (some v) := by
  unfold L2.start
  have hi := (List.getElem?_eq_some_iff.mp h).1
  rw [List.getElem?_append_left (by rw [List.length_map]; exact hi), List.getElem?_map, h]
  rfl
theorem ini_iv (f : FzOk Fz H) (a : ArgsOk K Fz H ms vs ds) (ap : ApA ms vs) (hn : ms.length ≤ N.length) : Iv (baseF K ms vs Fz H) Fz H (L2.start N vs) (iniS ms ds N.length) where
  len := by
    unfold iniS L2.start
    rw [List.length_append, List.length_append, List.length_zipWith, List.length_replicate, List.length_map, List.length_replicate]
    have := a.len
    omega
  ext := .refl
  fzs := f
  ok := fun i s e => by
    rcases ini_get a.len.2 e with rfl | ⟨m, d, e1, e2, rfl⟩
    · trivial
    · obtain ⟨v, d', e3, e4, ok⟩ := a.get e1
      rw [e2] at e4; cases e4
      rw [show (L2.start N vs)[i]?.join = some v from join_some.mpr (start_get e3)]
      cases m with
      | sh => exact ⟨v, rfl, ok⟩
      | br => obtain ⟨x, rfl, b⟩ := ok; exact ⟨x, rfl, b, i, e1, e3⟩
      | mt => obtain ⟨x, rfl, b⟩ := ok; exact ⟨x, rfl, b, ⟨i, e1, e3⟩, e1, e3⟩
  apart := fun i j x y n ⟨s, e, o, q⟩ ⟨t, e', o', q'⟩ => by
    rcases ini_get a.len.2 e with rfl | ⟨m, d, e1, e2, rfl⟩
    · cases o
    · rcases ini_get a.len.2 e' with rfl | ⟨m', d', e1', e2', rfl⟩
      · cases o'
      · obtain ⟨v, _, e3, _, _⟩ := a.get e1
        obtain ⟨v', _, e3', _, _⟩ := a.get e1'
        rw [start_get e3] at q; cases q
        rw [start_get e3'] at q'; cases q'
        cases m with
        | sh => cases o
        | br => cases o
        | mt =>
          refine ap i j x y n e1 e3 ?_ e3'
          rw [e1']
          cases m' with
          | sh => cases o'
          | br => exact fun z => by cases z
          | mt => exact fun z => by cases z
  lent := fun x ⟨i, e1, e2⟩ => by
    obtain ⟨v, d, e3, _, b⟩ := a.get e1
    rw [e2] at e3; cases e3
    obtain ⟨y, ey, bw⟩ := b
    cases ey
    exact bw.there
theorem outs_of {B : Bs} {Fz' : Addr → Prop} {H' : Hp} {σ : L2.St} {ρ : List Sl} (I : Iv B Fz' H' σ ρ) : ∀ {ms : List Md} {vs : List V} {k : Nat} {l : List D}, ms.length = vs.length → (∀ i a, B.mts i a → k ≤ i → vs[i - k]? = some (.ref a)) → outsR ms k ρ = some l → OutsOk B.K Fz' H' ms vs l
  | [], [], _, _, _, _, e => by cases e; exact .nil
  | m :: ms, v :: vs, k, l, hl, hm, e => by
    have rest : ∀ {l : List D}, outsR ms (k + 1) ρ = some l → OutsOk B.K Fz' H' ms vs l := fun {l} e => outs_of I (by simpa using hl) (fun i a h hk => by
      have := hm i a h (by omega)
      rw [show i - k = (i - (k + 1)) + 1 by omega] at this
      simpa using this) e
    cases m with
    | sh => exact .skip (by decide) (rest e)
    | br => exact .skip (by decide) (rest e)
    | mt =>
      unfold outsR at e
      cases es : ρ[k]? with
      | none => rw [es] at e; cases e
      | some s =>
        rw [es] at e
        cases s with
        | mt d =>
          obtain ⟨l', el, e⟩ := map_some (show (outsR ms (k + 1) ρ).map (fun l => d :: l) = some l from e)
          subst e
          obtain ⟨a, e1, ow, _, h2⟩ := I.ok k _ es
          have := hm k a h2 (Nat.le_refl _)
          rw [Nat.sub_self] at this
          cases this
          exact .out ow (rest el)
        | _ => cases e
/-- THE RULE of a body -/
theorem fin_body {F : Fd} {g : List Sl → RS} {Q : VK} {E : XK} (hs : F.sem = semOf N.length F.md F.own g) (hn : F.md.length ≤ N.length) (f : FzOk Fz H) (a : ArgsOk K Fz H F.md vs ds) (ap : ApA F.md vs) (q : FinF K F.own F.md vs Q E Fz H (F.sem ds)) :
    tS (baseF K F.md vs Fz H) E g { nx := fun _ H' => Q .non H', rt := Q } (L2.start N vs) H := by
  have I := ini_iv f a ap hn
  refine ⟨Fz, _, I, ?_⟩
  rw [hs] at q
  unfold semOf at q
  rw [if_pos a.len.2] at q
  have outs : ∀ {Fz' : Addr → Prop} {H' : Hp} {σ' : L2.St} {ρ : List Sl} {l : List D}, Iv (baseF K F.md vs Fz H) Fz' H' σ' ρ → outsR F.md 0 ρ = some l → OutsOk K Fz' H' F.md vs l := fun I' e =>
    outs_of I' a.len.1.symm (fun i x h _ => h.2) e
  have take : ∀ {o : Option (List D)} {z : D}, FinF K F.own F.md vs Q E Fz H ((ofO o).bind fun l => .ok (z, l)) → ∃ l, o = some l ∧ FinF K F.own F.md vs Q E Fz H (.ok (z, l)) := fun {o z} h => by
    cases o with
    | none => exact h.elim
    | some l => exact ⟨l, rfl, h⟩
  cases e : g (iniS F.md ds N.length) with
  | nx ρ =>
    rw [e] at q
    intro σ' H' Fz' I' _
    cases ho : F.own with
    | true => rw [ho] at q; exact q.elim
    | false =>
      rw [ho] at q
      have q : FinF K F.own F.md vs Q E Fz H ((ofO (outsR F.md 0 ρ)).bind fun l => .ok (.non, l)) := by rw [ho]; exact q
      obtain ⟨l, el, q⟩ := take q
      refine q .non H' Fz' I'.ext I'.fzs (outs I' el) ?_
      rw [ho]
      exact .non
  | rt o z ρ =>
    rw [e] at q
    intro v σ' H' Fz' I' _ r
    have q : FinF K F.own F.md vs Q E Fz H (if o = F.own then (ofO (outsR F.md 0 ρ)).bind fun l => R.ok (z, l) else R.bad) := q
    by_cases c : o = F.own
    · rw [if_pos c] at q
      obtain ⟨l, el, q⟩ := take q
      refine q v H' Fz' I'.ext I'.fzs (outs I' el) ?_
      rw [← c]
      cases o with
      | true => exact r
      | false => exact r
    · rw [if_neg c] at q; exact q.elim
  | exc c d => rw [e] at q; exact q
  | bk ρ => rw [e] at q; exact q.elim
  | ct ρ => rw [e] at q; exact q.elim
  | bad => rw [e] at q; exact q.elim
end
end Dx

set_option Elab.async false
set_option linter.all false
set_option maxRecDepth 100000
set_option maxHeartbeats 1000000
namespace Dx
open PySem PySem.Spec PyProof.Rows L2

/-! ### arguments: data, or a slot's container -/
inductive Ar where
  | d (x : D) | s (i : Nat)
def ArOk (B : Bs) (Fz : Addr → Prop) (H : Hp) (σ : L2.St) (v : V) : Ar → Prop
  | .d x => Den B.K Fz H v x
  | .s i => σ[i]? = some (some v)
inductive ArsL (B : Bs) (Fz : Addr → Prop) (H : Hp) (σ : L2.St) : List V → List Ar → Prop where
  | nil : ArsL B Fz H σ [] []
  | cons {v : V} {a : Ar} {vs : List V} {as : List Ar} : ArOk B Fz H σ v a → ArsL B Fz H σ vs as → ArsL B Fz H σ (v :: vs) (a :: as)
abbrev rAs : Rel (List Ar) (List V) := fun B Fz H σ _ v a => ArsL B Fz H σ v a
theorem ArOk.mono {B : Bs} {Fz Fz' : Addr → Prop} {H H' : Hp} {σ : L2.St} {v : V} {a : Ar} (g : Ge Fz H Fz' H') (h : ArOk B Fz H σ v a) : ArOk B Fz' H' σ v a := by
  cases a with
  | d x => exact Den.mono g h
  | s i => exact h
theorem ArsL.mono {B : Bs} {Fz Fz' : Addr → Prop} {H H' : Hp} {σ : L2.St} {v : List V} {a : List Ar} (g : Ge Fz H Fz' H') (h : ArsL B Fz H σ v a) : ArsL B Fz' H' σ v a := by
  induction h with
  | nil => exact .nil
  | cons x _ ih => exact .cons (x.mono g) ih
def asNil (ρ : List Sl) : R (List Ar × List Sl) := .ok ([], ρ)
def asD (f : List Sl → R (D × List Sl)) (g : List Sl → R (List Ar × List Sl)) (ρ : List Sl) : R (List Ar × List Sl) := (f ρ).bind fun p => (g p.2).bind fun q => .ok (.d p.1 :: q.1, q.2)
def heldB (ρ : List Sl) (i : Nat) : Bool := match ρ[i]? with
  | some s => s.held
  | none => false
def asS (i : Nat) (g : List Sl → R (List Ar × List Sl)) (ρ : List Sl) : R (List Ar × List Sl) := if heldB ρ i then (g ρ).bind fun q => .ok (.s i :: q.1, q.2) else .bad
section
variable {X : Cx} {B : Bs} {E : XK} {e : Expr} {es : List Expr} {f : List Sl → R (D × List Sl)} {g : List Sl → R (List Ar × List Sl)} {i : Nat} {x : Str} {np : Pos}
theorem held_of {Fz : Addr → Prop} {H : Hp} {σ : L2.St} {ρ : List Sl} (I : Iv B Fz H σ ρ) (h : heldB ρ i = true) : ∃ a, σ[i]? = some (some (.ref a)) ∧ HeldAt σ ρ i a := by
  unfold heldB at h
  cases e : ρ[i]? with
  | none => rw [e] at h; cases h
  | some s =>
    rw [e] at h
    have z := I.ok i s e
    have fin : ∀ a, σ[i]?.join = some (.ref a) → ∃ a, σ[i]? = some (some (.ref a)) ∧ HeldAt σ ρ i a := fun a q => ⟨a, join_some.mp q, s, e, h, join_some.mp q⟩
    cases s with
    | ow d => obtain ⟨a, e1, _⟩ := z; exact fin a e1
    | mt d => obtain ⟨a, e1, _⟩ := z; exact fin a e1
    | br d => obtain ⟨a, e1, _⟩ := z; exact fin a e1
    | _ => cases h
theorem das_nil : PA X [] (tG rAs B E asNil) := weakA pa_nil fun σ H Q ⟨Fz, ρ, I, q⟩ => q [] H Fz I .refl .nil
theorem das_d (hs : nsE e = true) (ha : PE X e (tE B E f)) (hr : PA X es (tG rAs B E g)) : PA X (e :: es) (tG rAs B E (asD f g)) :=
  weakA (pa_cons ha hr (star_cons hs)) fun σ H Q ⟨Fz, ρ, I, q⟩ =>
    monoG (tG_bind I q) fun x H1 ⟨F1, ρ1, dx, I1, d1, g1, e1, q1⟩ => monoG (tG_bind I1 q1) fun y H2 ⟨F2, ρ2, dy, I2, d2, g2, e2, q2⟩ =>
      q2 (x :: y) H2 F2 I2 .refl (.cons (d1.mono g2) d2)
theorem das_s (hN : X.N[i]? = some x) (hv : Vis X.env.scope x) (hd : (x == ("__debug__" : Str)) = false) (hcd : (x == ("__classdict__" : Str)) = false) (hr : PA X es (tG rAs B E g)) : PA X (.Name x np :: es) (tG rAs B E (asS i g)) :=
  weakA (pa_cons (pe_var hN hv hd hcd) hr (star_cons rfl)) fun σ H Q ⟨Fz, ρ, I, q⟩ => by
    obtain ⟨hh, q⟩ := fin_if q
    obtain ⟨a, hs, _⟩ := held_of I hh
    exact ⟨.ref a, hs, monoG (tG_bind I q) fun y H2 ⟨F2, ρ2, dy, I2, d2, g2, e2, q2⟩ => q2 (.ref a :: y) H2 F2 I2 .refl (.cons hs d2)⟩
end
/-! the arguments' data; the changed slots -/
def brD (ρ : List Sl) (i : Nat) : Option D := match ρ[i]? with
  | some (.br d) => some d
  | _ => (ownD ρ i).bind fun d => if frzD d then some d else none
def mkArg (m : Md) (a : Ar) (ρ : List Sl) : Option D := match m, a with
  | .sh, .d x => some x
  | .br, .d x => if frzD x then some x else none
  | .br, .s i => brD ρ i
  | .mt, .s i => ownD ρ i
  | _, _ => none
def mkArgs : List Md → List Ar → List Sl → Option (List D)
  | [], [], _ => some []
  | m :: ms, a :: as, ρ => (mkArg m a ρ).bind fun d => (mkArgs ms as ρ).map fun l => d :: l
  | _, _, _ => none
def putOuts : List Md → List Ar → List D → List Sl → List Sl
  | .mt :: ms, .s i :: as, d :: ds, ρ => putOuts ms as ds (putO ρ i d)
  | .mt :: ms, _ :: as, _ :: ds, ρ => putOuts ms as ds ρ
  | _ :: ms, _ :: as, ds, ρ => putOuts ms as ds ρ
  | _, _, _, ρ => ρ
def arIx : List Ar → List Nat
  | [] => []
  | .s i :: as => i :: arIx as
  | _ :: as => arIx as
def evCall (F : Fd) (g : List Sl → R (List Ar × List Sl)) (ρ : List Sl) : R (D × List Sl) := (g ρ).bind fun p => if decide (arIx p.1).Nodup = true then (ofO (mkArgs F.md p.1 p.2)).bind fun ds => (F.sem ds).bind fun q => .ok (q.1, putOuts F.md p.1 q.2 p.2) else .bad
section
variable {B : Bs} {Fz : Addr → Prop} {H : Hp} {σ : L2.St} {ρ : List Sl} {ms : List Md} {vs : List V} {as : List Ar} {ds : List D}
theorem frz_brw {K : Frag} {v : V} {d : D} (h : Den K Fz H v d) (f : frzD d = true) : ∃ a, v = .ref a ∧ Brw K Fz H a d := by
  cases d with
  | lst l => exact Den.brw (a := 0) h (.inl ⟨l, rfl⟩)
  | dic l => exact Den.brw (a := 0) h (.inr ⟨l, rfl⟩)
  | _ => cases f
theorem arg_ok (I : Iv B Fz H σ ρ) {m : Md} {v : V} {a : Ar} {d : D} (ha : ArOk B Fz H σ v a) (e : mkArg m a ρ = some d) : ArgOk B.K Fz H m v d := by
  cases m with
  | sh => cases a with
    | d x => cases e; exact ha
    | s i => cases e
  | br => cases a with
    | d x => obtain ⟨c, e⟩ := if_some e; subst e; exact frz_brw ha c
    | s i =>
      have hs : σ[i]? = some (some v) := ha
      have e' : brD ρ i = some d := e
      unfold brD at e'
      have own : ∀ {o : Option D}, o = ownD ρ i → (o.bind fun d => if frzD d = true then some d else none) = some d → ArgOk B.K Fz H .br v d := fun {o} eo h => by
        obtain ⟨d', ed, h⟩ := bind_some h
        obtain ⟨c, h⟩ := if_some h
        subst h
        obtain ⟨x, hx, ow⟩ := ownD_of I (eo ▸ ed)
        rw [hs] at hx; cases hx
        exact ⟨x, rfl, ow.brw (frz_ins c)⟩
      split at e'
      · rename_i d' eρ
        cases e'
        obtain ⟨x, hx, bw, _⟩ := I.ok i _ eρ
        have hx := join_some.mp hx
        rw [hs] at hx; cases hx
        exact ⟨x, rfl, bw⟩
      · exact own rfl e'
  | mt => cases a with
    | d x => cases e
    | s i =>
      obtain ⟨x, hx, ow⟩ := ownD_of I (show ownD ρ i = some d from e)
      have hs : σ[i]? = some (some v) := ha
      rw [hs] at hx; cases hx
      exact ⟨x, rfl, ow⟩
theorem args_ok (I : Iv B Fz H σ ρ) : ∀ {ms : List Md} {vs : List V} {as : List Ar} {ds : List D}, ArsL B Fz H σ vs as → mkArgs ms as ρ = some ds → ArgsOk B.K Fz H ms vs ds
  | [], _, _, _, .nil, e => by cases e; exact .nil
  | [], _, _, _, .cons _ _, e => by cases e
  | _ :: _, _, _, _, .nil, e => by cases e
  | m :: ms, _, _, _, .cons (a := a) (as := as) h r, e => by
    obtain ⟨d, ed, e⟩ := bind_some (show (mkArg m a ρ).bind (fun d => (mkArgs ms as ρ).map fun l => d :: l) = some _ from e)
    obtain ⟨l, el, e⟩ := map_some e
    subst e
    exact .cons (arg_ok I h ed) (args_ok I r el)
/-- where a slot is handed on -/
theorem ars_get : ∀ {vs : List V} {as : List Ar} {k : Nat} {v : V}, ArsL B Fz H σ vs as → vs[k]? = some v → ∃ a, as[k]? = some a ∧ ArOk B Fz H σ v a
  | _, _, _, _, .nil, e => by simp at e
  | _, _, 0, _, .cons h _, e => by simp at e; subst e; exact ⟨_, rfl, h⟩
  | _, _, k + 1, v, .cons _ r, e => by
    obtain ⟨a, e1, e2⟩ := ars_get (k := k) (v := v) r (by simpa using e)
    exact ⟨a, by simpa using e1, e2⟩
theorem mk_get : ∀ {ms : List Md} {as : List Ar} {ds : List D} {k : Nat} {m : Md} {a : Ar}, mkArgs ms as ρ = some ds → ms[k]? = some m → as[k]? = some a → ∃ d, mkArg m a ρ = some d
  | [], _, _, _, _, _, _, h, _ => by simp at h
  | _ :: _, [], _, _, _, _, e, _, _ => by cases e
  | m :: ms, a :: as, ds, k, m', a', e, h1, h2 => by
    obtain ⟨d, ed, e⟩ := bind_some (show (mkArg m a ρ).bind (fun d => (mkArgs ms as ρ).map fun l => d :: l) = some ds from e)
    obtain ⟨l, el, _⟩ := map_some e
    cases k with
    | zero => simp at h1 h2; subst h1 h2; exact ⟨d, ed⟩
    | succ k => exact mk_get (k := k) el (by simpa using h1) (by simpa using h2)
theorem arIx_mem : ∀ {as : List Ar} {k i : Nat}, as[k]? = some (.s i) → i ∈ arIx as
  | [], _, _, h => by simp at h
  | .s j :: as, 0, i, h => by simp at h; subst h; exact List.mem_cons_self
  | .s j :: as, k + 1, i, h => List.mem_cons_of_mem _ (arIx_mem (k := k) (by simpa using h))
  | .d x :: as, 0, i, h => by simp at h
  | .d x :: as, k + 1, i, h => arIx_mem (as := as) (k := k) (by simpa using h)
theorem arIx_inj : ∀ {as : List Ar} {k l i : Nat}, (arIx as).Nodup → as[k]? = some (.s i) → as[l]? = some (.s i) → k = l
  | [], _, _, _, _, h, _ => by simp at h
  | a :: as, 0, 0, _, _, _, _ => rfl
  | a :: as, 0, l + 1, i, n, h1, h2 => by
    simp at h1; subst h1
    have m := arIx_mem (as := as) (k := l) (by simpa using h2)
    exact absurd m (List.nodup_cons.mp n).1
  | a :: as, k + 1, 0, i, n, h1, h2 => by
    simp at h2; subst h2
    have m := arIx_mem (as := as) (k := k) (by simpa using h1)
    exact absurd m (List.nodup_cons.mp n).1
  | a :: as, k + 1, l + 1, i, n, h1, h2 => by
    have n' : (arIx as).Nodup := by
      cases a with
      | d x => exact n
      | s j => exact (List.nodup_cons.mp n).2
    exact congrArg Nat.succ (arIx_inj (k := k) (l := l) n' (by simpa using h1) (by simpa using h2))
/-- what is owned and handed on as changed -/
theorem mt_slot (I : Iv B Fz H σ ρ) (ha : ArsL B Fz H σ vs as) (hm : mkArgs ms as ρ = some ds) {k : Nat} {a : Addr} (h1 : ms[k]? = some .mt) (h2 : vs[k]? = some (.ref a)) : ∃ i, as[k]? = some (.s i) ∧ OwnAt σ ρ i a := by
  obtain ⟨ar, e1, ok⟩ := ars_get ha h2
  obtain ⟨d, ed⟩ := mk_get hm h1 e1
  cases ar with
  | d x => cases ed
  | s i =>
    refine ⟨i, e1, ?_⟩
    have ed : ownD ρ i = some d := ed
    unfold ownD at ed
    cases es : ρ[i]? with
    | none => rw [es] at ed; cases ed
    | some s =>
      rw [es] at ed
      cases s with
      | ow d' => exact ⟨_, es, rfl, ok⟩
      | mt d' => exact ⟨_, es, rfl, ok⟩
      | _ => cases ed
theorem br_slot (I : Iv B Fz H σ ρ) (ha : ArsL B Fz H σ vs as) (hm : mkArgs ms as ρ = some ds) {k : Nat} {a : Addr} (h1 : ms[k]? = some .br) (h2 : vs[k]? = some (.ref a)) : (∃ i, as[k]? = some (.s i) ∧ HeldAt σ ρ i a) ∨ ∃ d, frzD d = true ∧ Den B.K Fz H (.ref a) d := by
  obtain ⟨ar, e1, ok⟩ := ars_get ha h2
  obtain ⟨d, ed⟩ := mk_get hm h1 e1
  cases ar with
  | d x => obtain ⟨c, _⟩ := if_some (show (if frzD x = true then some x else none) = some d from ed); exact .inr ⟨x, c, ok⟩
  | s i =>
    refine .inl ⟨i, e1, ?_⟩
    have ed : brD ρ i = some d := ed
    unfold brD at ed
    split at ed
    · rename_i d' es
      exact ⟨_, es, rfl, ok⟩
    · obtain ⟨d', e2, _⟩ := bind_some ed
      unfold ownD at e2
      cases es : ρ[i]? with
      | none => rw [es] at e2; cases e2
      | some s =>
        rw [es] at e2
        cases s with
        | ow d' => exact ⟨_, es, rfl, ok⟩
        | mt d' => exact ⟨_, es, rfl, ok⟩
        | _ => cases e2
theorem ap_ok (I : Iv B Fz H σ ρ) (ha : ArsL B Fz H σ vs as) (hm : mkArgs ms as ρ = some ds) (nd : (arIx as).Nodup) : ApA ms vs := fun k l a b n h1 h2 h3 h4 => by
  obtain ⟨i, e1, o1⟩ := mt_slot I ha hm h1 h2
  have hl : l < ms.length := by
    have := (args_ok I ha hm).len.1
    have := (List.getElem?_eq_some_iff.mp h4).1
    omega
  have held : ∀ j, as[l]? = some (.s j) → HeldAt σ ρ j b → a ≠ b := fun j e2 o2 => I.apart i j a b (fun z => n (arIx_inj nd e1 (z ▸ e2))) o1 o2
  cases em : ms[l]? with
  | none => rw [List.getElem?_eq_none_iff] at em; omega
  | some m =>
    cases m with
    | sh => exact (h3 em).elim
    | mt => obtain ⟨j, e2, o2⟩ := mt_slot I ha hm em h4; exact held j e2 o2.held
    | br =>
      rcases br_slot I ha hm em h4 with ⟨j, e2, o2⟩ | ⟨d, fd, dn⟩
      · exact held j e2 o2
      · intro z
        obtain ⟨s, es, os, qs⟩ := o1
        have zz := I.ok i s es
        rw [join_some.mpr qs] at zz
        have contra : ∀ {d' : D}, Own B.K Fz H a d' → False := fun {d'} ow => by
          obtain ⟨u, hu, ni, mu⟩ := ow.there
          subst z
          cases dn with
          | lst q _ => obtain ⟨o, q⟩ := q; rw [hu] at q; cases q; exact ni trivial
          | dic q _ => rw [hu] at q; cases q; exact ni trivial
          | _ => cases fd
        cases s with
        | ow d' => obtain ⟨x, ex, ow, _⟩ := zz; cases ex; exact contra ow
        | mt d' => obtain ⟨x, ex, ow, _⟩ := zz; cases ex; exact contra ow
        | _ => cases os
def Sl.wD (s : Sl) (d : D) : Sl := match s with
  | .ow _ => .ow d
  | .mt _ => .mt d
  | s => s
theorem putO_get {i j : Nat} {d : D} {s' : Sl} (h : (putO ρ i d)[j]? = some s') : (j ≠ i ∧ ρ[j]? = some s') ∨ (j = i ∧ ∃ s, ρ[j]? = some s ∧ s' = s.wD d) := by
  unfold putO at h
  by_cases q : j = i
  · subst q
    refine .inr ⟨rfl, ?_⟩
    cases es : ρ[j]? with
    | none => rw [es] at h; simp at h; rw [es] at h; cases h
    | some s =>
      rw [es] at h
      have hl := (List.getElem?_eq_some_iff.mp es).1
      cases s with
      | ow d' => have h : (ρ.set j (.ow d))[j]? = some s' := h; rw [List.getElem?_set_self hl] at h; cases h; exact ⟨_, rfl, rfl⟩
      | mt d' => have h : (ρ.set j (.mt d))[j]? = some s' := h; rw [List.getElem?_set_self hl] at h; cases h; exact ⟨_, rfl, rfl⟩
      | un => have h : ρ[j]? = some s' := h; rw [es] at h; cases h; exact ⟨_, rfl, rfl⟩
      | sh d' => have h : ρ[j]? = some s' := h; rw [es] at h; cases h; exact ⟨_, rfl, rfl⟩
      | br d' => have h : ρ[j]? = some s' := h; rw [es] at h; cases h; exact ⟨_, rfl, rfl⟩
  · refine .inl ⟨q, ?_⟩
    cases es : ρ[i]? with
    | none => rw [es] at h; exact h
    | some s =>
      rw [es] at h
      cases s with
      | ow d' => rw [← List.getElem?_set_ne (Ne.symm q)]; exact h
      | mt d' => rw [← List.getElem?_set_ne (Ne.symm q)]; exact h
      | un => exact h
      | sh d' => exact h
      | br d' => exact h
theorem putO_length {i : Nat} {d : D} : (putO ρ i d).length = ρ.length := by
  unfold putO
  split <;> first | exact List.length_set | rfl
theorem putOuts_length : ∀ {ms : List Md} {as : List Ar} {ds : List D} {ρ : List Sl}, (putOuts ms as ds ρ).length = ρ.length
  | [], _, _, _ => by unfold putOuts; rfl
  | m :: ms, [], ds, ρ => by cases m <;> cases ds <;> rfl
  | .mt :: ms, .s i :: as, d :: ds, ρ => by rw [show putOuts (.mt :: ms) (.s i :: as) (d :: ds) ρ = putOuts ms as ds (putO ρ i d) from rfl, putOuts_length, putO_length]
  | .mt :: ms, .s i :: as, [], ρ => by rw [show putOuts (.mt :: ms) (.s i :: as) [] ρ = putOuts ms as [] ρ from rfl, putOuts_length]
  | .mt :: ms, .d x :: as, [], ρ => by rw [show putOuts (.mt :: ms) (.d x :: as) [] ρ = putOuts ms as [] ρ from rfl, putOuts_length]
  | .mt :: ms, .d x :: as, d :: ds, ρ => by rw [show putOuts (.mt :: ms) (.d x :: as) (d :: ds) ρ = putOuts ms as ds ρ from rfl, putOuts_length]
  | .sh :: ms, a :: as, ds, ρ => by rw [show putOuts (.sh :: ms) (a :: as) ds ρ = putOuts ms as ds ρ by cases a <;> cases ds <;> rfl, putOuts_length]
  | .br :: ms, a :: as, ds, ρ => by rw [show putOuts (.br :: ms) (a :: as) ds ρ = putOuts ms as ds ρ by cases a <;> cases ds <;> rfl, putOuts_length]
end
end Dx

set_option Elab.async false
set_option linter.all false
set_option maxRecDepth 100000
set_option maxHeartbeats 1000000
namespace Dx
open PySem PySem.Spec PyProof.Rows L2
section
variable {B : Bs} {Fz Fz' : Addr → Prop} {H H' : Hp} {σ : L2.St} {ρ : List Sl} {ms : List Md} {vs : List V} {as : List Ar} {ds outs : List D}
theorem wD_wD (s : Sl) (d e : D) : (s.wD d).wD e = s.wD e := by cases s <;> rfl
theorem putOuts_get {K : Frag} (o : OutsOk K Fz' H' ms vs outs) : ∀ {as : List Ar} {ρ : List Sl} {j : Nat} {s' : Sl}, as.length = ms.length → (arIx as).Nodup → (putOuts ms as outs ρ)[j]? = some s' →
    (ρ[j]? = some s' ∧ ∀ k : Nat, ms[k]? = some .mt → as[k]? = some (.s j) → False) ∨
      ∃ (k : Nat) (d : D) (s : Sl) (a : Addr), ms[k]? = some .mt ∧ as[k]? = some (.s j) ∧ ρ[j]? = some s ∧ s' = s.wD d ∧ vs[k]? = some (.ref a) ∧ Own K Fz' H' a d := by
  induction o with
  | nil => intro as ρ j s' hl nd h; exact .inl ⟨by unfold putOuts at h; exact h, fun k z => by simp at z⟩
  | @skip m v ms vs ds hm _ ih =>
    intro as ρ j s' hl nd h
    cases as with
    | nil => cases hl
    | cons a as =>
      have e : putOuts (m :: ms) (a :: as) ds ρ = putOuts ms as ds ρ := by
        cases m with
        | mt => exact (hm rfl).elim
        | sh => cases a <;> cases ds <;> rfl
        | br => cases a <;> cases ds <;> rfl
      rw [e] at h
      have nd' : (arIx as).Nodup := by
        cases a with
        | d x => exact nd
        | s i => exact (List.nodup_cons.mp nd).2
      rcases ih (as := as) (by simpa using hl) nd' h with ⟨h1, h2⟩ | ⟨k, d, s, a', h1, h2, h3, h4, h5, h6⟩
      · refine .inl ⟨h1, fun k z1 z2 => ?_⟩
        cases k with
        | zero => simp at z1; exact hm z1
        | succ k => exact h2 k (by simpa using z1) (by simpa using z2)
      · exact .inr ⟨k + 1, d, s, a', by simpa using h1, by simpa using h2, h3, h4, by simpa using h5, h6⟩
  | @out a0 d0 ms vs ds ow _ ih =>
    intro as ρ j s' hl nd h
    cases as with
    | nil => cases hl
    | cons a as =>
      cases a with
      | d x =>
        have e : putOuts (.mt :: ms) (.d x :: as) (d0 :: ds) ρ = putOuts ms as ds ρ := rfl
        rw [e] at h
        rcases ih (as := as) (by simpa using hl) nd h with ⟨h1, h2⟩ | ⟨k, d, s, a', h1, h2, h3, h4, h5, h6⟩
        · refine .inl ⟨h1, fun k z1 z2 => ?_⟩
          cases k with
          | zero => simp at z2
          | succ k => exact h2 k (by simpa using z1) (by simpa using z2)
        · exact .inr ⟨k + 1, d, s, a', by simpa using h1, by simpa using h2, h3, h4, by simpa using h5, h6⟩
      | s i =>
        have e : putOuts (.mt :: ms) (.s i :: as) (d0 :: ds) ρ = putOuts ms as ds (putO ρ i d0) := rfl
        rw [e] at h
        have nd1 := (List.nodup_cons.mp nd).1
        have nd' := (List.nodup_cons.mp nd).2
        rcases ih (as := as) (by simpa using hl) nd' h with ⟨h1, h2⟩ | ⟨k, d, s, a', h1, h2, h3, h4, h5, h6⟩
        · rcases putO_get h1 with ⟨n, h1⟩ | ⟨rfl, s, h3, h4⟩
          · refine .inl ⟨h1, fun k z1 z2 => ?_⟩
            cases k with
            | zero => simp at z2; exact n z2.symm
            | succ k => exact h2 k (by simpa using z1) (by simpa using z2)
          · exact .inr ⟨0, d0, s, a0, rfl, rfl, h3, h4, rfl, ow⟩
        · rcases putO_get h3 with ⟨n, h3⟩ | ⟨rfl, s2, h7, h8⟩
          · exact .inr ⟨k + 1, d, s, a', by simpa using h1, by simpa using h2, h3, h4, by simpa using h5, h6⟩
          · exact absurd (arIx_mem h2) nd1
theorem ArsL.len (h : ArsL B Fz H σ vs as) : as.length = vs.length := by
  induction h with
  | nil => rfl
  | cons _ _ ih => exact congrArg Nat.succ ih
theorem wD_owned {s : Sl} {d : D} : (s.wD d).owned = s.owned := by cases s <;> rfl
theorem wD_held {s : Sl} {d : D} : (s.wD d).held = s.held := by cases s <;> rfl
theorem held_back {K : Frag} (o : OutsOk K Fz' H' ms vs outs) (hl : as.length = ms.length) (nd : (arIx as).Nodup) {l : Nat} {y : Addr} (h : HeldAt σ (putOuts ms as outs ρ) l y) : HeldAt σ ρ l y := by
  obtain ⟨s', e, hh, hs⟩ := h
  rcases putOuts_get o hl nd e with ⟨h1, _⟩ | ⟨k, d, s, a, h1, h2, h3, h4, h5, h6⟩
  · exact ⟨s', h1, hh, hs⟩
  · subst h4; rw [wD_held] at hh; exact ⟨s, h3, hh, hs⟩
/-- the invariant behind a call -/
theorem Iv.called (I : Iv B Fz H σ ρ) (ha : ArsL B Fz H σ vs as) (hm : mkArgs ms as ρ = some ds) (nd : (arIx as).Nodup) (x : Ext (exA ms vs) Fz H Fz' H') (f : FzOk Fz' H') (o : OutsOk B.K Fz' H' ms vs outs) : Iv B Fz' H' σ (putOuts ms as outs ρ) := by
  have hl : as.length = ms.length := by rw [ha.len]; exact (args_ok I ha hm).len.1
  have may : ∀ a, exA ms vs a → B.H0 a = none ∨ B.ex a := fun a ⟨k, h1, h2⟩ => by
    obtain ⟨i, _, o⟩ := mt_slot I ha hm h1 h2
    exact I.may o
  have back : ∀ {l : Nat} {y : Addr}, (HeldAt σ (putOuts ms as outs ρ) l y → HeldAt σ ρ l y) ∧ (OwnAt σ (putOuts ms as outs ρ) l y → OwnAt σ ρ l y) := by
    intro l y
    constructor
    · rintro ⟨s', e, hh, hs⟩
      rcases putOuts_get o hl nd e with ⟨h1, _⟩ | ⟨k, d, s, a, h1, h2, h3, h4, h5, h6⟩
      · exact ⟨s', h1, hh, hs⟩
      · subst h4; rw [wD_held] at hh; exact ⟨s, h3, hh, hs⟩
    · rintro ⟨s', e, hh, hs⟩
      rcases putOuts_get o hl nd e with ⟨h1, _⟩ | ⟨k, d, s, a, h1, h2, h3, h4, h5, h6⟩
      · exact ⟨s', h1, hh, hs⟩
      · subst h4; rw [wD_owned] at hh; exact ⟨s, h3, hh, hs⟩
  refine ⟨by rw [putOuts_length]; exact I.len, I.ext.trans x may, f, fun j s' e => ?_, fun i j a b n o1 o2 => I.apart i j a b n (back.2 o1) (back.1 o2), I.lent⟩
  rcases putOuts_get o hl nd e with ⟨h1, h2⟩ | ⟨k, d, s, a, h1, h2, h3, h4, h5, h6⟩
  · refine (I.ok j s' h1).keep x fun b hh hs ⟨k, e1, e2⟩ => ?_
    obtain ⟨i, e3, o3⟩ := mt_slot I ha hm e1 e2
    have : i ≠ j := fun z => h2 k e1 (z ▸ e3)
    exact I.apart i j b b this o3 ⟨s', h1, hh, join_some.mp hs⟩ rfl
  · obtain ⟨i, e3, o3⟩ := mt_slot I ha hm h1 h5
    rw [h2] at e3
    cases e3
    have z := I.ok j s h3
    have hs : σ[j]? = some (some (.ref a)) := by obtain ⟨_, _, _, q⟩ := o3; exact q
    rw [join_some.mpr hs] at z ⊢
    subst h4
    obtain ⟨s2, e4, ho, _⟩ := o3
    rw [h3] at e4; cases e4
    cases s with
    | ow d' => obtain ⟨a', ea, _, h0⟩ := z; cases ea; exact ⟨a, rfl, h6, h0⟩
    | mt d' => obtain ⟨a', ea, _, h0, h00⟩ := z; cases ea; exact ⟨a, rfl, h6, h0, h00⟩
    | _ => cases ho
/-- what is to be shown of a call -/
theorem sp_call {F : Fd} {E : XK} {Q : VK} (I : Iv B Fz H σ ρ) (ha : ArsL B Fz H σ vs as) (hm : mkArgs F.md as ρ = some ds) (nd : (arIx as).Nodup)
    (hq : ∀ z outs v H' Fz', F.sem ds = .ok (z, outs) → Iv B Fz' H' σ (putOuts F.md as outs ρ) → Ge Fz H Fz' H' → (∀ i b, HeldAt σ (putOuts F.md as outs ρ) i b → HeldAt σ ρ i b) → ResF B.K H F.own Fz' H' v z → Q v H')
    (hx : ∀ c d, F.sem ds = .exc c d → FinG rD B E σ Q Fz H (.exc c d)) (hb : F.sem ds ≠ .bad) {gs : List (Addr × HO)} (hgs : ∀ p ∈ gs, H p.1 = some p.2) : spF B.K gs F vs H Q E := by
  refine ⟨hgs, Fz, ds, I.fzs, args_ok I ha hm, ap_ok I ha hm nd, ?_⟩
  have may : ∀ a, exA F.md vs a → B.H0 a = none ∨ B.ex a := fun a ⟨k, h1, h2⟩ => by
    obtain ⟨i, _, o⟩ := mt_slot I ha hm h1 h2
    exact I.may o
  cases e : F.sem ds with
  | ok p => exact fun v H' Fz' x f o r => hq p.1 p.2 v H' Fz' e (I.called ha hm nd x f o) x.ge (fun i b => held_back o (by rw [ha.len]; exact (args_ok I ha hm).len.1) nd) r
  | exc c d => exact fun dx v H' Fz' x f h1 h2 => hx c d e dx v H' Fz' (I.ext.trans x may) f h1 h2
  | bad => exact hb e
end
end Dx

set_option Elab.async false
set_option linter.all false
set_option maxRecDepth 100000
set_option maxHeartbeats 1000000
namespace Dx
open PySem PySem.Spec PyProof.Rows L2

/-! ### the world of a proof; promises that may use that no guard is open -/
structure Wd where
  P : Program
  w : World
  K : Frag
  mg : Str → Option Value
  base : Heap
  CX : CXT
  gs : List (Addr × HO)
/-- a base of an activation in the world -/
structure BOk (W : Wd) (B : Bs) : Prop where
  K : B.K = W.K
  gs : ∀ p ∈ W.gs, B.H0 p.1 = some p.2
structure FnG (W : Wd) (k : Nat) (f : Addr) (fd : FuncData) (ps : List Str) (sp : Sp) : Prop where
  len : ∀ vs H Q E, sp vs H Q E → vs.length = ps.length
  run : ∀ (A : Around) (outer : List Env) (s : Shared) (H : Hp) (args : Args) (us : List Value) (vs : List V) (Q : VK) (E : XK), Room k A → A.guards = some [] → Env0 W.P W.w W.K W.mg W.base A outer s H → BindsTo s fd args (ps.zip us) → Vals vs us →
    sp vs H Q E → codeAny (model W.P W.w) A (.call (.ref f) args) (CR W.CX outer W.P W.w H s Q E) s
theorem FnG.mono {W : Wd} {j k : Nat} {f : Addr} {fd : FuncData} {ps : List Str} {sp : Sp} (F : FnG W j f fd ps sp) (h : j ≤ k) : FnG W k f fd ps sp :=
  ⟨F.len, fun A outer s H args us vs Q E r => F.run A outer s H args us vs Q E (r.mono h)⟩
/-- a context of the world -/
structure XIs (W : Wd) (N : List Str) (sc : Scope) (k : Nat) (E : XK) (X : Cx) : Prop where
  hP : X.prog = W.P
  hw : X.w = W.w
  hK : X.K = W.K
  hmg : X.mg = W.mg
  hbase : X.base = W.base
  hN : X.N = N
  hsc : X.env.scope = sc
  room : Room k X.A
  grd : X.A.guards = some []
  calm : X.calm = true
  nd : N.Nodup
  pass : Passes W.CX X E
structure XSt (W : Wd) (N : List Str) (sc : Scope) (k : Nat) (E : XK) (X : Cx) : Prop extends XIs W N sc k E X where
  owns : PassesOwn (model X.prog X.w) X.A X.env X.xe
  fn : ∀ x, X.fn x = true
/-- the world's exceptions: none leaves where none is wanted; a def's body takes what its callees let out -/
structure WOk (W : Wd) : Prop where
  gimm : ∀ p ∈ W.gs, Imm p.2
  none : ∀ outer H s e s', ¬ W.CX outer H s E0 e s'
  call : ∀ N qual sc f cd A outer s H E, A.handled = Option.none → Passes W.CX (cxOf W.CX W.P W.w W.K W.mg W.base N qual sc f cd A outer s H E) E
theorem BOk.le {W : Wd} {B B' : Bs} (wo : WOk W) (h : BOk W B) (l : BLe B B') : BOk W B' := ⟨l.K.trans h.K, fun p hp => l.imm _ _ (wo.gimm p hp) (h.gs p hp)⟩
theorem BOk.now {W : Wd} {B : Bs} {Fz : Addr → Prop} {H : Hp} {σ : L2.St} {ρ : List Sl} (wo : WOk W) (h : BOk W B) (I : Iv B Fz H σ ρ) : ∀ p ∈ W.gs, H p.1 = some p.2 := fun p hp => I.ext.ge.imm _ _ (wo.gimm p hp) (h.gs p hp)
structure FnAt (W : Wd) (x qual : Str) (st : Stmt) (f : Addr) : Prop where
  ex : ∃ (oc : Value) (od : Option Addr) (kV doc pm : Value) (an : Option Addr) (cdv ct : Value) (osl : Array (Option Value)),
    W.K.lookup f = some ⟨oc, od, .func (PySem.W.fnOf x qual (C8.fnArgs st) (C8.fnBody st) (C8.fnScope st) .none kV doc pm an cdv ct), osl⟩ ∧ PySem.W.codeIn W.K cdv qual = true
  kp : PySem.W.keepIn W.K (.ref f) = true
section
variable {W : Wd} {k : Nat} {f : Addr}
theorem fnG_of {x qual : Str} {st : Stmt} {N ps : List Str} {sp : Sp} (wo : WOk W) (D : FnAt W x qual st f) (S : FnScope N ps (C8.fnScope st)) (hbind : ∀ (kV doc pm : Value) (an : Option Addr) (cdv ct : Value) (us : List Value), us.length = ps.length → bindArgs (PySem.W.fnOf x qual (C8.fnArgs st) (C8.fnBody st) (C8.fnScope st) .none kV doc pm an cdv ct) ⟨us, []⟩ = pure (ps.zip us))
    (len : ∀ vs H Q E, sp vs H Q E → vs.length = ps.length)
    (hbody : ∀ (X : Cx) (H : Hp) (vs : List V) (Q : VK) (E : XK), XSt W N (C8.fnScope st) k E X → sp vs H Q E → ∃ t, PSs X (C8.fnBody st) t ∧ t { nx := fun _ H' => Q .non H', rt := Q } (L2.start N vs) H) :
    ∃ fd, FnG W (k + 1) f fd ps sp ∧ Binds W.K fd ps [] := by
  obtain ⟨oc, od, kV, doc, pm, an, cdv, ct, osl, lk, hcd⟩ := D.ex
  refine ⟨_, ⟨len, fun A outer s H args us vs Q E hr hg e0 hb r hsp => ?_⟩, .all (hbind kV doc pm an cdv ct)⟩
  have nv := len _ _ _ _ hsp
  have inK : W.K.In s.heap := e0.mod.kin.keeps fun b o e => (e0.bs b o e).1
  have noLim : s.heap.NoLimit := e0.mod.nolimit.keeps fun b o e => (e0.bs b o e).1
  have kinds : ∀ y ∈ ps.zip us, (C8.fnScope st).names.lookup y.1 = some .local ∨ ((C8.fnScope st).names.lookup y.1 = some .cell ∧ ((cellsFrom (s.heap.objs.size + 1) (C8.fnScope st).names []).lookup y.1).isSome = true) := by
    rintro ⟨n, v⟩ hy
    have np := S.par n (List.of_mem_zip hy).1
    exact np.imp id fun q => ⟨q, PySem.W.cellsFrom_some _ _ _ (.inl q)⟩
  refine codeAny_call_function hr.depth (inK _ _ lk) rfl S.co S.gen rfl (PySem.W.codeRec_of inK hcd) (hb _ _ _ _ ?_)
  refine wpAny_newFunctionEnv_cells S.kind kinds fun env he s1 x1 => ?_
  subst he
  refine ⟨noLim.keeps x1.toInCall.keep, codeAny_func ?_⟩
  let X := cxOf W.CX W.P W.w W.K W.mg W.base N qual (C8.fnScope st) f cdv A outer s H E
  have hX : XSt W N (C8.fnScope st) k E X :=
    { hP := rfl, hw := rfl, hK := rfl, hmg := rfl, hbase := rfl, hN := rfl, hsc := rfl, room := hr.deeper _, grd := hg, calm := rfl, nd := S.nd, pass := wo.call _ _ _ _ _ _ _ _ _ _ hr.hd, fn := fun _ => rfl, owns := passes_of (K := fun e s'' => W.CX outer H s E e s'') rfl }
  obtain ⟨t, ht, hq⟩ := hbody X H vs Q E hX hsp
  have I : Inv X [] (L2.start N vs) H s1 := inv_start S hr.hd e0 nv r x1
  refine wpAny_mono (ht.run [] s1 (L2.start N vs) H _ I hq) (fun fz s' hs => ?_) fun e s' hs => hs
  cases fz with
  | ret u =>
    obtain ⟨v, σ', H', J, rv, q⟩ := hs
    exact ⟨v, H', J.os, J.bare, J.base, J.hok, rv, q⟩
  | next =>
    obtain ⟨σ', H', J, q⟩ := hs
    exact ⟨V.non, H', J.os, J.bare, J.base, J.hok, rfl, q⟩
  | brk => obtain ⟨_, _, _, q⟩ := hs; exact q.elim
  | cont => obtain ⟨_, _, _, q⟩ := hs; exact q.elim
/-- a def that may be called by its name -/
structure Cal (W : Wd) (k : Nat) (x : Str) (F : Fd) : Prop where
  ex : ∃ (f : Addr) (fd : FuncData) (ps : List Str), FnG W k f fd ps (spF W.K W.gs F) ∧ W.mg x = some (.ref f) ∧ PySem.W.keepIn W.K (.ref f) = true ∧ Binds W.K fd ps []
theorem Cal.mono {j : Nat} {x : Str} {F : Fd} (c : Cal W j x F) (h : j ≤ k) : Cal W k x F :=
  let ⟨f, fd, ps, a, b⟩ := c.ex; ⟨f, fd, ps, a.mono h, b⟩
theorem spF_len {K : Frag} {gs : List (Addr × HO)} {F : Fd} {vs : List V} {H : Hp} {Q : VK} {E : XK} (h : spF K gs F vs H Q E) : vs.length = F.md.length := by
  obtain ⟨_, Fz, ds, _, a, _⟩ := h
  exact a.len.1
theorem fn_sem {x qual : Str} {st : Stmt} {N ps : List Str} {F : Fd} {g : List Sl → RS} (wo : WOk W) (D : FnAt W x qual st f) (S : C8.scC N ps (C8.fnScope st) = true) (hl : F.md.length = ps.length)
    (hbind : ∀ (kV doc pm : Value) (an : Option Addr) (cdv ct : Value) (us : List Value), us.length = ps.length → bindArgs (PySem.W.fnOf x qual (C8.fnArgs st) (C8.fnBody st) (C8.fnScope st) .none kV doc pm an cdv ct) ⟨us, []⟩ = pure (ps.zip us))
    (hs : F.sem = semOf N.length F.md F.own g) (hbody : ∀ (X : Cx) (E : XK), XSt W N (C8.fnScope st) k E X → ∀ B : Bs, BOk W B → PSs X (C8.fnBody st) (tS B E g)) : ∃ fd, FnG W (k + 1) f fd ps (spF W.K W.gs F) ∧ Binds W.K fd ps [] := by
  have S' := C8.fnScope_by S
  refine fnG_of wo D S' hbind (fun vs H Q E h => by rw [spF_len h, hl]) fun X H vs Q E hX ⟨hgs, Fz, ds, fz, a, ap, q⟩ => ?_
  have hn : F.md.length ≤ N.length := by
    have := congrArg List.length S'.pre
    rw [List.length_take] at this
    omega
  exact ⟨_, hbody X E hX (baseF W.K F.md vs Fz H) ⟨rfl, hgs⟩, fin_body hs hn fz a ap q⟩
theorem cal_of {x : Str} {st : Stmt} {N ps : List Str} {F : Fd} {g : List Sl → RS} (wo : WOk W) (D : ∃ f, FnAt W x x st f ∧ W.mg x = some (.ref f)) (S : C8.scC N ps (C8.fnScope st) = true) (hl : F.md.length = ps.length)
    (hbind : ∀ (kV doc pm : Value) (an : Option Addr) (cdv ct : Value) (us : List Value), us.length = ps.length → bindArgs (PySem.W.fnOf x x (C8.fnArgs st) (C8.fnBody st) (C8.fnScope st) .none kV doc pm an cdv ct) ⟨us, []⟩ = pure (ps.zip us))
    (hs : F.sem = semOf N.length F.md F.own g) (hbody : ∀ (X : Cx) (E : XK), XSt W N (C8.fnScope st) k E X → ∀ B : Bs, BOk W B → PSs X (C8.fnBody st) (tS B E g)) : Cal W (k + 1) x F := by
  obtain ⟨f, D, hm⟩ := D
  obtain ⟨fd, F1, b⟩ := fn_sem wo D S hl hbind hs hbody
  exact ⟨f, fd, ps, F1, hm, D.kp, b⟩
end
/-! ### calls -/
section
variable {W : Wd} {N : List Str} {sc : Scope} {k j : Nat} {E : XK} {X : Cx} {B : Bs} {f : Addr} {fd : FuncData} {ps : List Str} {sp : Sp} {x : Str} {p pos : Pos} {e : Expr} {es : List Expr} {F : Fd} {g : List Sl → R (List Ar × List Sl)} {t : TA}
theorem run_fnG {pins : List (Addr × Obj)} {σ : L2.St} {H : Hp} {s : Shared} {Q : VK} {us : List Value} {vs : List V} (hX : XIs W N sc k E X) (F : FnG W j f fd ps sp) (hj : j ≤ k) (hb : Binds W.K fd ps []) (I : Inv X pins σ H s) (r : Vals vs us) (h : sp vs H Q E) :
    wpAny (model X.prog X.w) X.A (call (.ref f) us) (EP X pins σ Q) X.xe s := by
  have hl : (us ++ []).length = ps.length := by rw [List.append_nil, ← r.length]; exact F.len _ _ _ _ h
  have bd := hb s us (hX.hK ▸ I.kIn) hl
  rw [List.append_nil] at bd
  have e0 : Env0 W.P W.w W.K W.mg W.base X.A X.stack s H := by
    have := I.env0
    rw [hX.hP, hX.hw, hX.hK, hX.hmg, hX.hbase] at this
    exact this
  have run := F.run X.A X.stack s H ⟨us, []⟩ us vs Q E (hX.room.mono hj) hX.grd e0 bd r h
  rw [← hX.hP, ← hX.hw] at run
  refine wpAny_call (codeAny_mono run fun res s' hq => ?_)
  cases res with
  | error er => exact hX.pass pins σ H s er s' I hq
  | ok fz =>
    cases fz with
    | ret u =>
      exact I.after hq
    | next => exact False.elim hq
    | brk => exact False.elim hq
    | cont => exact False.elim hq
abbrev tSp (sp : Sp) (E : XK) (t : TA) : TE := fun σ H Q => t σ H fun vs H1 => sp vs H1 Q E
theorem pe_callG (hX : XIs W N sc k E X) (F : FnG W j f fd ps sp) (hj : j ≤ k) (hb : Binds W.K fd ps []) (hm : W.mg x = some (.ref f)) (hk : PySem.W.keepIn W.K (.ref f) = true) (hg : sc.names.lookup x = some .globalImplicit) (hdb : (x == ("__debug__" : Str)) = false)
    (hns : nsE e = true) (hns2 : es.all nsE = true) (ha : PA X (e :: es) t) : PE X (.Call (.Name x p) (e :: es) [] pos) (tSp sp E t) := by
  have gl : Gl X x := by show X.env.scope.names.lookup x = _; rw [hX.hsc]; exact hg
  have mgx : X.mg x = some (.ref f) := by rw [hX.hmg]; exact hm
  have kp : PySem.W.keepIn X.K (.ref f) = true := by rw [hX.hK]; exact hk
  refine ⟨fun pins s σ H Q I h => wpAny_Call_Name_kw (ld_glob I gl mgx ?_ hdb)⟩
  exact PySem.W.callWith_K (h₀ := X.base) I.ok.mod.kin kp (thn (ha.run pos pins s σ H _ I h) fun us s1 ⟨vs, H1, I1, r, q⟩ => ⟨I1.kIn, run_fnG hX F hj hb I1 r q⟩) (star_cons hns) (noStar_any hns2)
theorem pe_callG0 (hX : XIs W N sc k E X) (F : FnG W j f fd ps sp) (hj : j ≤ k) (hb : Binds W.K fd ps []) (hm : W.mg x = some (.ref f)) (hk : PySem.W.keepIn W.K (.ref f) = true) (hg : sc.names.lookup x = some .globalImplicit) (hdb : (x == ("__debug__" : Str)) = false) :
    PE X (.Call (.Name x p) [] [] pos) (fun σ H Q => sp [] H Q E) := by
  have gl : Gl X x := by show X.env.scope.names.lookup x = _; rw [hX.hsc]; exact hg
  have mgx : X.mg x = some (.ref f) := by rw [hX.hmg]; exact hm
  have kp : PySem.W.keepIn X.K (.ref f) = true := by rw [hX.hK]; exact hk
  refine ⟨fun pins s σ H Q I h => wpAny_Call_Name_kw (ld_glob I gl mgx ?_ hdb)⟩
  exact PySem.W.callWith_K0 I.kIn kp (run_fnG (us := []) hX F hj hb I .nil h)
/-- behind the arguments -/
theorem fin_call {Rl : Rel D V} {σ : L2.St} {H : Hp} {Fz : Addr → Prop} {ρ : List Sl} {vs : List V} {as : List Ar} {Q : VK} (wo : WOk W) (hB : BOk W B) (I : Iv B Fz H σ ρ) (ha : ArsL B Fz H σ vs as)
    (hR : ∀ {Fz' : Addr → Prop} {H' : Hp} {ρ' : List Sl} {v : V} {z : D}, Iv B Fz' H' σ ρ' → (∀ i b, HeldAt σ ρ' i b → HeldAt σ ρ i b) → ResF B.K H F.own Fz' H' v z → Rl B Fz' H' σ ρ' v z)
    (q : FinG Rl B E σ Q Fz H (if decide (arIx as).Nodup = true then (ofO (mkArgs F.md as ρ)).bind fun ds => (F.sem ds).bind fun q => .ok (q.1, putOuts F.md as q.2 ρ) else .bad)) : spF W.K W.gs F vs H Q E := by
  obtain ⟨nd, q⟩ := fin_if q
  have nd := of_decide_eq_true nd
  obtain ⟨ds, hm, q⟩ := fin_o q
  rw [← hB.K]
  have hl : as.length = F.md.length := by rw [ha.len]; exact (args_ok I ha hm).len.1
  refine sp_call I ha hm nd (fun z outs v H' Fz' e I' g bk r => ?_) (fun c d e => ?_) (fun e => ?_) (hB.now wo I)
  · rw [e] at q
    exact q v H' Fz' I' g (hR I' bk r)
  · rw [e] at q; exact q
  · rw [e] at q; exact q
theorem hR_D {F : Fd} {σ : L2.St} {H : Hp} {ρ : List Sl} (ho : F.own = false) : ∀ {Fz' : Addr → Prop} {H' : Hp} {ρ' : List Sl} {v : V} {z : D}, Iv B Fz' H' σ ρ' → (∀ i b, HeldAt σ ρ' i b → HeldAt σ ρ i b) → ResF B.K H F.own Fz' H' v z → Den B.K Fz' H' v z :=
  fun _ _ r => by rw [ho] at r; exact r
theorem hR_O {F : Fd} {σ : L2.St} {H : Hp} {Fz : Addr → Prop} {ρ : List Sl} (I : Iv B Fz H σ ρ) (ho : F.own = true) : ∀ {Fz' : Addr → Prop} {H' : Hp} {ρ' : List Sl} {v : V} {z : D}, Iv B Fz' H' σ ρ' → (∀ i b, HeldAt σ ρ' i b → HeldAt σ ρ i b) → ResF B.K H F.own Fz' H' v z → rO B Fz' H' σ ρ' v z :=
  fun I' bk r => by
    rw [ho] at r
    obtain ⟨a, rfl, ow, hn⟩ := r
    refine ⟨a, rfl, ow, ?_, fun i b hb z => ?_⟩
    · cases q : B.H0 a with
      | none => rfl
      | some u => obtain ⟨o', w⟩ := I.ext.there a u q; rw [hn] at w; cases w
    · obtain ⟨o, w⟩ := I.held (bk i b hb)
      rw [z, hn] at w; cases w
theorem de_call (wo : WOk W) (hX : XIs W N sc k E X) (hB : BOk W B) (c : Cal W j x F) (hj : j ≤ k) (ho : F.own = false) (hg : sc.names.lookup x = some .globalImplicit) (hdb : (x == ("__debug__" : Str)) = false) (hns : nsE e = true) (hns2 : es.all nsE = true) (ha : PA X (e :: es) (tG rAs B E g)) :
    PE X (.Call (.Name x p) (e :: es) [] pos) (tE B E (evCall F g)) := by
  obtain ⟨f, fd, ps, fn, hm, hk, hb⟩ := c.ex
  exact weakE (pe_callG hX fn hj hb hm hk hg hdb hns hns2 ha) fun σ H Q ⟨Fz, ρ, I, q⟩ =>
    monoG (tG_bind I q) fun vs H1 ⟨F1, ρ1, as, I1, a1, g1, e1, q1⟩ => fin_call wo hB I1 a1 (hR_D ho) q1
theorem do_call (wo : WOk W) (hX : XIs W N sc k E X) (hB : BOk W B) (c : Cal W j x F) (hj : j ≤ k) (ho : F.own = true) (hg : sc.names.lookup x = some .globalImplicit) (hdb : (x == ("__debug__" : Str)) = false) (hns : nsE e = true) (hns2 : es.all nsE = true) (ha : PA X (e :: es) (tG rAs B E g)) :
    PE X (.Call (.Name x p) (e :: es) [] pos) (tO B E (evCall F g)) := by
  obtain ⟨f, fd, ps, fn, hm, hk, hb⟩ := c.ex
  exact weakE (pe_callG hX fn hj hb hm hk hg hdb hns hns2 ha) fun σ H Q ⟨Fz, ρ, I, q⟩ =>
    monoG (tG_bind I q) fun vs H1 ⟨F1, ρ1, as, I1, a1, g1, e1, q1⟩ => fin_call wo hB I1 a1 (hR_O I1 ho) q1
theorem de_call0 (wo : WOk W) (hX : XIs W N sc k E X) (hB : BOk W B) (c : Cal W j x F) (hj : j ≤ k) (ho : F.own = false) (hg : sc.names.lookup x = some .globalImplicit) (hdb : (x == ("__debug__" : Str)) = false) :
    PE X (.Call (.Name x p) [] [] pos) (tE B E (evCall F asNil)) := by
  obtain ⟨f, fd, ps, fn, hm, hk, hb⟩ := c.ex
  exact weakE (pe_callG0 hX fn hj hb hm hk hg hdb) fun σ H Q ⟨Fz, ρ, I, q⟩ => fin_call wo hB I .nil (hR_D ho) q
theorem do_call0 (wo : WOk W) (hX : XIs W N sc k E X) (hB : BOk W B) (c : Cal W j x F) (hj : j ≤ k) (ho : F.own = true) (hg : sc.names.lookup x = some .globalImplicit) (hdb : (x == ("__debug__" : Str)) = false) :
    PE X (.Call (.Name x p) [] [] pos) (tO B E (evCall F asNil)) := by
  obtain ⟨f, fd, ps, fn, hm, hk, hb⟩ := c.ex
  exact weakE (pe_callG0 hX fn hj hb hm hk hg hdb) fun σ H Q ⟨Fz, ρ, I, q⟩ => fin_call wo hB I .nil (hR_O I ho) q
end
end Dx

set_option Elab.async false
set_option linter.all false
set_option maxRecDepth 100000
set_option maxHeartbeats 1000000
namespace Dx
open PySem PySem.Spec PyProof.Rows L2

/-! ### looks at names, decided -/
def visB (sc : Scope) (x : Str) : Bool := match sc.names.lookup x with
  | some .local => true
  | some .cell => true
  | some .free => true
  | _ => false
def locB (sc : Scope) (x : Str) : Bool := match sc.names.lookup x with
  | some .local => true
  | some .cell => true
  | _ => false
theorem vis_of {sc : Scope} {x : Str} (h : visB sc x = true) : Vis sc x := by
  unfold visB at h
  unfold Vis
  cases e : sc.names.lookup x with
  | none => rw [e] at h; cases h
  | some k =>
    rw [e] at h
    cases k <;> first | exact .inl rfl | exact .inr (.inl rfl) | exact .inr (.inr rfl) | cases h
theorem loc_of {sc : Scope} {x : Str} (h : locB sc x = true) : L2.Loc sc x := by
  unfold locB at h
  unfold L2.Loc
  cases e : sc.names.lookup x with
  | none => rw [e] at h; cases h
  | some k =>
    rw [e] at h
    cases k <;> first | exact .inl rfl | exact .inr rfl | cases h
section
variable {W : Wd} {N : List Str} {sc : Scope} {k : Nat} {E : XK} {X : Cx} {B : Bs} {x : Str} {i : Nat}
theorem XIs.kk (hX : XIs W N sc k E X) (hB : BOk W B) : B.K = X.K := hB.K.trans hX.hK.symm
theorem XIs.hu (hX : XIs W N sc k E X) : X.A.units + 100 < cLine := by have := hX.room.un; omega
theorem XIs.nm (hX : XIs W N sc k E X) (h : decide (N[i]? = some x) = true) : X.N[i]? = some x := by rw [hX.hN]; exact of_decide_eq_true h
theorem XIs.nN (hX : XIs W N sc k E X) : X.N.Nodup := by rw [hX.hN]; exact hX.nd
theorem XIs.vis (hX : XIs W N sc k E X) (h : visB sc x = true) : Vis X.env.scope x := by rw [hX.hsc]; exact vis_of h
theorem XIs.loc (hX : XIs W N sc k E X) (h : locB sc x = true) : L2.Loc X.env.scope x := by rw [hX.hsc]; exact loc_of h
theorem XIs.gl (hX : XIs W N sc k E X) (h : decide (sc.names.lookup x = some .globalImplicit) = true) : Gl X x := by show X.env.scope.names.lookup x = _; rw [hX.hsc]; exact of_decide_eq_true h
theorem XIs.lc (hX : XIs W N sc k E X) (h : decide (sc.names.lookup x = some .local) = true) : X.env.scope.names.lookup x = some .local := by rw [hX.hsc]; exact of_decide_eq_true h
theorem XIs.noName (hX : XIs W N sc k E X) (h : W.mg x = none) : X.mg x = none := by rw [hX.hmg]; exact h
theorem XIs.blk (wo : WOk W) (hX : XIs W N sc k E X) {s : Shared} {H : Hp} {scope : Scope} {cl : List (Str × Addr)} {C : Addr} {fp : List Addr} : XIs W N (relS scope sc) k E0 (X.blk s H scope (compEnvC scope cl C X.env) fp) where
  hP := hX.hP
  hw := hX.hw
  hK := hX.hK
  hmg := hX.hmg
  hbase := hX.hbase
  hN := hX.hN
  hsc := by rw [← hX.hsc]; rfl
  room := hX.room
  grd := hX.grd
  calm := hX.calm
  nd := hX.nd
  pass := fun pins σ H s e s' _ h => wo.none _ _ _ _ _ h
theorem blk_fn {scope : Scope} {s : Shared} {H : Hp} {C : Addr} {cl : List (Str × Addr)} {fp : List Addr} (hX : XIs W N (relS scope sc) k E0 (X.blk s H scope (compEnvC scope cl C X.env) fp))
    (h : ((scope.names.lookup x == some .cell) || decide ((relS scope sc).names.lookup x = some .local)) = true) : (X.blk s H scope (compEnvC scope cl C X.env) fp).fn x = true ∨ (X.blk s H scope (compEnvC scope cl C X.env) fp).env.scope.names.lookup x = some .local := by
  rw [Bool.or_eq_true] at h
  rcases h with h | h
  · exact .inl h
  · right
    rw [hX.hsc]
    exact of_decide_eq_true h
/-- statements about the scope alone -/
theorem scP {P : Env → Prop} (hX : XIs W N sc k E X) (h : ∀ env : Env, P { env with scope := sc }) : P X.env := by
  have := h X.env
  rw [← hX.hsc] at this
  exact this
end
/-! ### x, y = e, f -/
inductive MxL (B : Bs) (Fz : Addr → Prop) (H : Hp) (σ : L2.St) (ρ : List Sl) : List V → List (Bool × D) → Prop where
  | nil : MxL B Fz H σ ρ [] []
  | sh {v : V} {d : D} {vs : List V} {ds : List (Bool × D)} : Den B.K Fz H v d → MxL B Fz H σ ρ vs ds → MxL B Fz H σ ρ (v :: vs) ((false, d) :: ds)
  | ow {a : Addr} {d : D} {vs : List V} {ds : List (Bool × D)} : Own B.K Fz H a d → B.H0 a = none → (∀ i b, HeldAt σ ρ i b → b ≠ a) → (∀ (i : Nat) (b : Addr) (d : D), vs[i]? = some (.ref b) → ds[i]? = some (true, d) → b ≠ a) → MxL B Fz H σ ρ vs ds → MxL B Fz H σ ρ (.ref a :: vs) ((true, d) :: ds)
abbrev rMx : Rel (List (Bool × D)) (List V) := fun B Fz H σ ρ v d => MxL B Fz H σ ρ v d
def mxNil (ρ : List Sl) : R (List (Bool × D) × List Sl) := .ok ([], ρ)
def mxC (b : Bool) (f : List Sl → R (D × List Sl)) (g : List Sl → R (List (Bool × D) × List Sl)) (ρ : List Sl) : R (List (Bool × D) × List Sl) := (f ρ).bind fun p => (g p.2).bind fun q => .ok ((b, p.1) :: q.1, q.2)
theorem Own.same {K : Frag} {Fz Fz' : Addr → Prop} {H H' : Hp} {a : Addr} {d : D} (h : Own K Fz H a d) (g : Ge Fz H Fz' H') (e : H' a = H a) (nz : ¬ Fz' a) : Own K Fz' H' a d := by
  cases d with
  | lst ds => obtain ⟨vs, e2, l⟩ := h; exact ⟨vs, e.trans e2, l.mono g⟩
  | dic ds => obtain ⟨vs, e2, l⟩ := h; exact ⟨vs, e.trans e2, l.mono g⟩
  | ins c ds => obtain ⟨dx, fs, e2, _, l⟩ := h; exact ⟨dx, fs, e.trans e2, nz, l.mono g⟩
  | _ => exact h.elim
theorem Ext.outBase {B : Bs} {p : Addr} {o : HO} {Fz' : Addr → Prop} {H' : Hp} (x : Ext (B.at p o).ex B.Fz0 (B.at p o).H0 Fz' H') (h0 : B.H0 p = none) (nz0 : ¬ B.Fz0 p) : Ext B.ex B.Fz0 B.H0 Fz' H' ∧ ¬ Fz' p ∧ H' p = some o := by
  have hp : H' p = some o := x.keep p o upd_same fun z => z.2 rfl
  have nz : ¬ Fz' p := fun z => by
    rcases x.nofz p z with h | h | h
    · exact nz0 h
    · rw [show (B.at p o).H0 p = some o from upd_same] at h; cases h
    · exact h.2 rfl
  refine ⟨⟨⟨fun a u i e => ?_, x.ge.fz, fun a z => ?_⟩, fun a u e n => ?_, fun a z => ?_, fun a u e => ?_⟩, nz, hp⟩
  · have q : a ≠ p := fun q => by rw [q, h0] at e; cases e
    exact x.ge.imm a u i (by rw [show (B.at p o).H0 a = B.H0 a from upd_ne q]; exact e)
  · have q : a ≠ p := fun q => nz0 (q ▸ z)
    have := x.ge.fzk a z
    rw [show (B.at p o).H0 a = B.H0 a from upd_ne q] at this
    exact this
  · have q : a ≠ p := fun q => by rw [q, h0] at e; cases e
    exact x.keep a u (by rw [show (B.at p o).H0 a = B.H0 a from upd_ne q]; exact e) fun z => n z.1
  · have q : a ≠ p := fun q => nz (q ▸ z)
    rcases x.nofz a z with h | h | h
    · exact .inl h
    · exact .inr (.inl (by rw [show (B.at p o).H0 a = B.H0 a from upd_ne q] at h; exact h))
    · exact .inr (.inr h.1)
  · have q : a ≠ p := fun q => by rw [q, h0] at e; cases e
    exact x.there a u (by rw [show (B.at p o).H0 a = B.H0 a from upd_ne q]; exact e)
section
variable {X : Cx} {B : Bs} {E : XK} {e : Expr} {es : List Expr} {f : List Sl → R (D × List Sl)} {g : List Sl → R (List (Bool × D) × List Sl)}
theorem dmx_nil : PA X [] (tG rMx B E mxNil) := weakA pa_nil fun σ H Q ⟨Fz, ρ, I, q⟩ => q [] H Fz I .refl .nil
theorem MxL.mono {Fz Fz' : Addr → Prop} {H H' : Hp} {σ : L2.St} {ρ : List Sl} {v : List V} {d : List (Bool × D)} (h : MxL B Fz H σ ρ v d) : True := trivial
theorem dmx_sh (hs : nsE e = true) (ha : PE X e (tE B E f)) (hr : PA X es (tG rMx B E g)) : PA X (e :: es) (tG rMx B E (mxC false f g)) :=
  weakA (pa_cons ha hr (star_cons hs)) fun σ H Q ⟨Fz, ρ, I, q⟩ =>
    monoG (tG_bind I q) fun x H1 ⟨F1, ρ1, dx, I1, d1, g1, e1, q1⟩ => monoG (tG_bind I1 q1) fun y H2 ⟨F2, ρ2, dy, I2, d2, g2, e2, q2⟩ =>
      q2 (x :: y) H2 F2 I2 .refl (.sh (d1.mono g2) d2)
theorem pa_anyB {h : List Sl → R (List (Bool × D) × List Sl)} (hr : ∀ B' : Bs, BLe B B' → PA X es (tG rMx B' E h)) : PA X es (fun σ H Q => ∃ B' : Bs, BLe B B' ∧ tG rMx B' E h σ H Q) := ⟨fun pos pins s σ H Q I ⟨B', hB, q⟩ => (hr B' hB).run pos pins s σ H Q I q⟩
theorem MxL.outB {p : Addr} {o : HO} {Fz : Addr → Prop} {H : Hp} {σ : L2.St} {ρ : List Sl} {v : List V} {d : List (Bool × D)} (h0 : B.H0 p = none) (h : MxL (B.at p o) Fz H σ ρ v d) : MxL B Fz H σ ρ v d ∧ ∀ (i : Nat) (b : Addr) (x : D), v[i]? = some (.ref b) → d[i]? = some (true, x) → b ≠ p := by
  induction h with
  | nil => exact ⟨.nil, fun i b x e => by simp at e⟩
  | sh a _ ih =>
    refine ⟨.sh a ih.1, fun i b x e1 e2 => ?_⟩
    cases i with
    | zero => simp at e2
    | succ i => exact ih.2 i b x (by simpa using e1) (by simpa using e2)
  | @ow a d vs ds a1 a2 a3 a4 _ ih =>
    have na : a ≠ p := fun q => by rw [q, show (B.at p o).H0 p = some o from upd_same] at a2; cases a2
    refine ⟨.ow a1 (by rw [show (B.at p o).H0 a = B.H0 a from upd_ne na] at a2; exact a2) a3 a4 ih.1, fun i b x e1 e2 => ?_⟩
    cases i with
    | zero => simp at e1; rw [← e1]; exact na
    | succ i => exact ih.2 i b x (by simpa using e1) (by simpa using e2)
theorem dmx_ow (hs : nsE e = true) (ha : PE X e (tO B E f)) (hr : ∀ B' : Bs, BLe B B' → PA X es (tG rMx B' E g)) : PA X (e :: es) (tG rMx B E (mxC true f g)) :=
  weakA (pa_cons ha (pa_anyB hr) (star_cons hs)) fun σ H Q ⟨Fz, ρ, I, q⟩ =>
    monoG (tG_bind I q) fun x H1 ⟨F1, ρ1, dx, I1, ⟨a, ea, ow, h0, ap⟩, g1, e1, q1⟩ => by
      subst ea
      obtain ⟨o, ho, ni, mu⟩ := ow.there
      have nz : ¬ F1 a := ow.nofz I1.fzs
      have nz0 : ¬ B.Fz0 a := fun z => nz (I1.ext.ge.fz a z)
      have I2 := I1.toBase ho h0 ap ni nz
      refine ⟨B.at a o, .at h0, F1, ρ1, I2, ?_⟩
      have q1 : FinG rMx B E σ Q F1 H1 ((g ρ1).bind fun q => .ok ((true, dx) :: q.1, q.2)) := q1
      cases eg : g ρ1 with
      | bad => rw [eg] at q1; exact q1
      | exc c d => rw [eg] at q1; exact fun dx v H' Fz' x f h1 h2 => q1 dx v H' Fz' (Ext.outBase x h0 nz0).1 f h1 h2
      | ok p =>
        rw [eg] at q1
        intro y H2 F2 I3 g2 m2
        obtain ⟨x3, nz2, hp⟩ := Ext.outBase I3.ext h0 nz0
        have I4 := I3.outBase h0 nz2 I1.lent
        obtain ⟨m3, dis⟩ := MxL.outB h0 m2
        have ow2 : Own B.K F2 H2 a dx := ow.same g2 (hp.trans ho.symm) nz2
        exact q1 _ H2 F2 I4 g2 (.ow ow2 h0 (I3.atNe h0 I1.lent) dis m3)
/-! storing several -/
def slOf (p : Bool × D) : Sl := match p.1 with
  | true => .ow p.2
  | false => .sh p.2
def putMx : List Nat → List (Bool × D) → List Sl → Option (List Sl)
  | [], [], ρ => some ρ
  | i :: is, p :: ps, ρ => (putSl ρ i (slOf p)).bind (putMx is ps)
  | _, _, _ => none
def setMx : List Nat → List V → L2.St → L2.St
  | i :: is, v :: vs, σ => setMx is vs (σ.set i (some v))
  | _, _, σ => σ
theorem put_mx {Fz : Addr → Prop} {H : Hp} : ∀ {is : List Nat} {ps : List (Bool × D)} {vs : List V} {σ : L2.St} {ρ ρ' : List Sl}, Iv B Fz H σ ρ → MxL B Fz H σ ρ vs ps → putMx is ps ρ = some ρ' → Iv B Fz H (setMx is vs σ) ρ'
  | [], [], _, _, _, _, I, m, e => by cases e; cases m; exact I
  | [], _ :: _, _, _, _, _, _, _, e => by cases e
  | _ :: _, [], _, _, _, _, _, _, e => by cases e
  | i :: is, p :: ps, vs, σ, ρ, ρ', I, m, e => by
    obtain ⟨ρ1, e1, e2⟩ := bind_some (show (putSl ρ i (slOf p)).bind (putMx is ps) = some ρ' from e)
    have held : ∀ {v : V} {j : Nat} {b : Addr}, HeldAt (σ.set i (some v)) ρ1 j b → j ≠ i → HeldAt σ ρ j b := fun {v j b} ⟨s, es, hh, hs⟩ n => by
      obtain ⟨_, rfl, _⟩ := putSl_of e1
      rw [List.getElem?_set_ne (Ne.symm n)] at es hs
      exact ⟨s, es, hh, hs⟩
    have self : ∀ {v : V} {b : Addr}, HeldAt (σ.set i (some v)) ρ1 i b → v = .ref b ∧ (slOf p).held = true := fun {v b} ⟨s, es, hh, hs⟩ => by
      obtain ⟨hl, rfl, _⟩ := putSl_of e1
      rw [List.getElem?_set_self hl] at es
      rw [List.getElem?_set_self (by rw [← I.len]; exact hl)] at hs
      cases es; cases hs
      exact ⟨rfl, hh⟩
    -- the rest still stands
    have rest : ∀ {v : V} {vs : List V} {ds : List (Bool × D)}, (∀ b, v = .ref b → (slOf p).held = true → ∀ (i : Nat) (c : Addr) (d : D), vs[i]? = some (.ref c) → ds[i]? = some (true, d) → c ≠ b) → MxL B Fz H σ ρ vs ds → MxL B Fz H (σ.set i (some v)) ρ1 vs ds := by
      intro v vs ds dis m
      induction m with
      | nil => exact .nil
      | sh a _ ih => exact .sh a (ih fun b eb hh i c d h1 h2 => dis b eb hh (i + 1) c d (by simpa using h1) (by simpa using h2))
      | @ow a d vs ds a1 a2 a3 a4 _ ih =>
        refine .ow a1 a2 (fun j b hb => ?_) a4 (ih fun b eb hh i c d h1 h2 => dis b eb hh (i + 1) c d (by simpa using h1) (by simpa using h2))
        by_cases q : j = i
        · subst q
          obtain ⟨ev, hh⟩ := self hb
          exact fun z => dis b ev hh 0 a d rfl rfl z.symm
        · exact a3 j b (held hb q)
    cases m with
    | @sh v d vs ds a m =>
      have I2 := I.put e1 (z := ⟨v, rfl, a⟩) (ap := fun z => by cases z)
      show Iv B Fz H (setMx is vs (σ.set i (some v))) ρ'
      exact put_mx I2 (rest (fun b _ z => by cases z) m) e2
    | @ow a d vs ds a1 a2 a3 a4 m =>
      have I2 := I.put e1 (z := ⟨a, rfl, a1, a2⟩) (ap := fun _ j b hj hb z => a3 j b hb (V.ref.inj z).symm)
      show Iv B Fz H (setMx is vs (σ.set i (some (.ref a)))) ρ'
      exact put_mx I2 (rest (fun b eb _ i c d h1 h2 => by cases eb; exact a4 i c d h1 h2) m) e2
def stPar (is : List Nat) (l : List Sl → R (List (Bool × D) × List Sl)) (ρ : List Sl) : RS := (l ρ).st fun p => ofT (putMx is p.1 p.2) .nx
theorem mx_len {Fz : Addr → Prop} {H : Hp} {σ : L2.St} {ρ : List Sl} {vs : List V} {ds : List (Bool × D)} (m : MxL B Fz H σ ρ vs ds) : vs.length = ds.length := by
  induction m with
  | nil => rfl
  | sh _ _ ih => exact congrArg Nat.succ ih
  | ow _ _ _ _ _ ih => exact congrArg Nat.succ ih
theorem putMx_len : ∀ {is : List Nat} {ps : List (Bool × D)} {ρ ρ' : List Sl}, putMx is ps ρ = some ρ' → is.length = ps.length
  | [], [], _, _, _ => rfl
  | [], _ :: _, _, _, e => by cases e
  | _ :: _, [], _, _, e => by cases e
  | i :: is, p :: ps, ρ, ρ', e => by
    obtain ⟨ρ1, _, e2⟩ := bind_some (show (putSl ρ i (slOf p)).bind (putMx is ps) = some ρ' from e)
    exact congrArg Nat.succ (putMx_len e2)
variable {i j l : Nat} {x y z : Str} {a b c : Expr} {px py pz pt pos : Pos} {kt k2 : Nat} {pt2 : Pos}
theorem ds_par (hc : X.calm = true) (hN : X.N.Nodup) (hi : X.N[i]? = some x) (hj : X.N[j]? = some y) (hij : i ≠ j) (hx : X.env.scope.names.lookup x = some .local) (hy : X.env.scope.names.lookup y = some .local) (ha : PA X [a, b] (tG rMx B E g))
    (hw : swappedStores [.Tuple [.Name x px, .Name y py] kt pt] (.Tuple [a, b] k2 pt2) X.env = pure (some [x, y])) (hs : swapsWithSole [.Tuple [.Name x px, .Name y py] kt pt] (.Tuple [a, b] k2 pt2) pos.line X.env = pure false) :
    PS X (.Assign [.Tuple [.Name x px, .Name y py] kt pt] (.Tuple [a, b] k2 pt2) pos) (tS B E (stPar [i, j] g)) :=
  weakS (ps_par hc hN hi hj hij hx hy ha hw hs) fun Dn σ H ⟨Fz, ρ, I, q⟩ => monoG (tG_st I q) fun vs H1 ⟨F1, ρ1, ds, I1, m1, g1, q1⟩ => by
    obtain ⟨ρ2, e2, q2⟩ := fin_ofT q1
    have I2 := put_mx I1 m1 e2
    have l1 := mx_len m1
    have l2 := putMx_len e2
    match vs, l1 with
    | [v, w], _ => exact ⟨v, w, rfl, q2 _ H1 F1 I2 .refl⟩
    | [], l1 => rw [← l2] at l1; cases l1
    | [_], l1 => rw [← l2] at l1; cases l1
    | _ :: _ :: _ :: _, l1 => rw [← l2] at l1; cases l1
theorem ds_par3 (hc : X.calm = true) (hN : X.N.Nodup) (hi : X.N[i]? = some x) (hj : X.N[j]? = some y) (hl : X.N[l]? = some z) (hij : i ≠ j) (hil : i ≠ l) (hjl : j ≠ l) (hx : X.env.scope.names.lookup x = some .local) (hy : X.env.scope.names.lookup y = some .local) (hz : X.env.scope.names.lookup z = some .local)
    (ha : PA X [a, b, c] (tG rMx B E g)) (hw : swappedStores [.Tuple [.Name x px, .Name y py, .Name z pz] kt pt] (.Tuple [a, b, c] k2 pt2) X.env = pure (some [x, y, z])) (hs : swapsWithSole [.Tuple [.Name x px, .Name y py, .Name z pz] kt pt] (.Tuple [a, b, c] k2 pt2) pos.line X.env = pure false) :
    PS X (.Assign [.Tuple [.Name x px, .Name y py, .Name z pz] kt pt] (.Tuple [a, b, c] k2 pt2) pos) (tS B E (stPar [i, j, l] g)) :=
  weakS (ps_par3 hc hN hi hj hl hij hil hjl hx hy hz ha hw hs) fun Dn σ H ⟨Fz, ρ, I, q⟩ => monoG (tG_st I q) fun vs H1 ⟨F1, ρ1, ds, I1, m1, g1, q1⟩ => by
    obtain ⟨ρ2, e2, q2⟩ := fin_ofT q1
    have I2 := put_mx I1 m1 e2
    have l1 := mx_len m1
    have l2 := putMx_len e2
    match vs, l1 with
    | [u, v, w], _ => exact ⟨u, v, w, rfl, q2 _ H1 F1 I2 .refl⟩
    | [], l1 => rw [← l2] at l1; cases l1
    | [_], l1 => rw [← l2] at l1; cases l1
    | [_, _], l1 => rw [← l2] at l1; cases l1
    | _ :: _ :: _ :: _ :: _, l1 => rw [← l2] at l1; cases l1
end
end Dx

set_option Elab.async false
set_option linter.all false
set_option maxRecDepth 100000
set_option maxHeartbeats 1000000
namespace Dx
open PySem PySem.Spec PyProof.Rows L2

/-! ### instances -/
structure FldOk (W : Wd) (c f : Str) : Prop where
  cls : Cls W.K (He.ga W.K c)
  no : NoAttr W.K (He.ga W.K c) f
def fldF (cs : List Str) (f : Str) (d : D) : Option D := match d with
  | .ins c fs => if decide (c ∈ cs) = true then fs.lookup f else none
  | _ => none
def evFld (cs : List Str) (f : Str) (g : List Sl → R (D × List Sl)) (ρ : List Sl) : R (D × List Sl) := (g ρ).bind fun p => (ofO (fldF cs f p.1)).bind fun z => .ok (z, p.2)
/-- .. of an object in a slot -/
def evFldV (cs : List Str) (f : Str) (i : Nat) (ρ : List Sl) : R (D × List Sl) := (ofO (ownD ρ i)).bind fun d => (ofO (fldF cs f d)).bind fun z => .ok (z, ρ)
def putF' (fs : List (Str × D)) (f : Str) (v : D) : List (Str × D) := match fs with
  | [] => [(f, v)]
  | p :: r => if p.1 = f then (f, v) :: r else p :: putF' r f v
def setFld (cs : List Str) (f : Str) (d v : D) : Option D := match d with
  | .ins c fs => if decide (c ∈ cs) && decide (fs.length < 1000) then some (.ins c (putF' fs f v)) else none
  | _ => none
def stFld (cs : List Str) (f : Str) (i : Nat) (g : List Sl → R (D × List Sl)) (ρ : List Sl) : RS := (g ρ).st fun p => ofT (ownD p.2 i) fun d => ofT (setFld cs f d p.1) fun d' => .nx (putO p.2 i d')
section
variable {W : Wd} {N : List Str} {sc : Scope} {k j : Nat} {E : XK} {X : Cx} {B : Bs} {o e : Expr} {es : List Expr} {f : Str} {cs : List Str} {g h : List Sl → R (D × List Sl)} {l : List Sl → R (List Ar × List Sl)} {pos apos p : Pos} {i : Nat} {x : Str} {F : Fd}
theorem de_fld (hX : XIs W N sc k E X) (hB : BOk W B) (hf : ∀ c ∈ cs, FldOk W c f) (ho : PE X o (tE B E g)) (hb : attributeBase o f X.env (eval o X.env) = eval o X.env) : PE X (.Attribute o f pos) (tE B E (evFld cs f g)) :=
  weakE (pe_fld ho hb) fun σ H Q ⟨Fz, ρ, I, q⟩ => by
    refine monoG (tG_bind I q) fun v H1 ⟨F1, ρ1, d, I1, d1, g1, e1, q1⟩ => ?_
    obtain ⟨z, ez, q2⟩ := fin_o q1
    have d1 : Den B.K F1 H1 v d := d1
    cases d1 with
    | @ins a dx c fs ds fz ha dn =>
      have ez : (if decide (c ∈ cs) = true then ds.lookup f else none) = some z := ez
      by_cases hc : c ∈ cs
      · rw [if_pos (decide_eq_true hc)] at ez
        obtain ⟨u, hu, du⟩ := dn.lookup ez
        have ok := hf c hc
        rw [hB.K] at ha
        exact ⟨a, _, dx, fs, u, rfl, ha, hX.hK ▸ ok.cls, hX.hK ▸ ok.no, hu, q2 u H1 F1 I1 .refl du⟩
      · rw [if_neg (by rw [decide_eq_true_iff]; exact hc)] at ez; cases ez
    | _ => cases ez
theorem de_fldv (hX : XIs W N sc k E X) (hB : BOk W B) (hf : ∀ c ∈ cs, FldOk W c f) (hN : X.N[i]? = some x) (hv : Vis X.env.scope x) (hd : (x == ("__debug__" : Str)) = false) (hcd : (x == ("__classdict__" : Str)) = false)
    (hb : attributeBase (.Name x p) f X.env (eval (.Name x p) X.env) = eval (.Name x p) X.env) : PE X (.Attribute (.Name x p) f pos) (tE B E (evFldV cs f i)) :=
  weakE (pe_fld (pe_var hN hv hd hcd) hb) fun σ H Q ⟨Fz, ρ, I, q⟩ => by
    obtain ⟨d, ed, q1⟩ := fin_o q
    obtain ⟨z, ez, q2⟩ := fin_o q1
    obtain ⟨a, hs, ow⟩ := ownD_of I ed
    refine ⟨.ref a, hs, ?_⟩
    cases d with
    | ins c ds =>
      obtain ⟨dx, fs, ha, nz, dn⟩ := ow
      have ez : (if decide (c ∈ cs) = true then ds.lookup f else none) = some z := ez
      by_cases hc : c ∈ cs
      · rw [if_pos (decide_eq_true hc)] at ez
        obtain ⟨u, hu, du⟩ := dn.lookup ez
        have ok := hf c hc
        rw [hB.K] at ha
        exact ⟨a, _, dx, fs, u, rfl, ha, hX.hK ▸ ok.cls, hX.hK ▸ ok.no, hu, q2 u H Fz I .refl du⟩
      · rw [if_neg (by rw [decide_eq_true_iff]; exact hc)] at ez; cases ez
    | _ => cases ez
theorem DenF.putF {K : Frag} {Fz : Addr → Prop} {H : Hp} {f : Str} {x : V} {y : D} (h : Den K Fz H x y) : ∀ {v : List (Str × V)} {d : List (Str × D)}, DenF K Fz H v d → DenF K Fz H (L2.putF f x v) (putF' d f y)
  | _, _, .nil => .cons h .nil
  | _, _, .cons (k := k0) (v := v0) (d := d0) (vs := vs) (ds := ds) a l => by
    show DenF K Fz H (if k0 = f then (k0, x) :: vs else (k0, v0) :: L2.putF f x vs) (if k0 = f then (f, y) :: ds else (k0, d0) :: putF' ds f y)
    by_cases c : k0 = f
    · rw [if_pos c, if_pos c, c]; exact .cons h l
    · rw [if_neg c, if_neg c]; exact .cons a (DenF.putF h l)
theorem ds_fld {value : Expr} {pos' : Pos} (hX : XIs W N sc k E X) (hB : BOk W B) (hf : ∀ c ∈ cs, FldOk W c f) (hN : X.N[i]? = some x) (hv : Vis X.env.scope x) (hd : (x == ("__debug__" : Str)) = false) (hcd : (x == ("__classdict__" : Str)) = false)
    (he : PE X value (tE B E g)) (hs : swapsWith value (some (.Attribute (.Name x p) f pos')) pos.line X.env = pure false) : PS X (.Assign [.Attribute (.Name x p) f pos'] value pos) (tS B E (stFld cs f i g)) :=
  weakS (ps_fld (pe_var hN hv hd hcd) he hs) fun Dn σ H ⟨Fz, ρ, I, q⟩ => monoG (tG_st I q) fun v H1 ⟨F1, ρ1, dv, I1, d1, g1, q1⟩ => by
    obtain ⟨d, ed, q2⟩ := fin_ofT q1
    obtain ⟨d', ed', qz⟩ := fin_ofT q2
    obtain ⟨a, hsl, ow⟩ := ownD_of I1 ed
    refine ⟨.ref a, hsl, ?_⟩
    cases d with
    | ins c ds =>
      have ow0 := ow
      obtain ⟨dx, fs, ha, nz, dn⟩ := ow0
      obtain ⟨hc, ed'⟩ := if_some (show (if (decide (c ∈ cs) && decide (ds.length < 1000)) = true then some (D.ins c (putF' ds f dv)) else none) = some d' from ed')
      subst ed'
      rw [Bool.and_eq_true] at hc
      have ok := hf c (of_decide_eq_true hc.1)
      have ha2 : H1 a = some (.ins (He.ga W.K c) dx fs) := by rw [← hB.K]; exact ha
      refine ⟨a, _, dx, fs, rfl, ha2, hX.hK ▸ ok.cls, hX.hK ▸ ok.no, by rw [dn.length]; exact of_decide_eq_true hc.2, ?_⟩
      obtain ⟨I2, g2⟩ := ownD_put (o' := .ins (He.ga W.K c) dx (L2.putF f v fs)) (d' := .ins c (putF' ds f dv)) I1 ed hsl fun gg => ⟨dx, _, by rw [hB.K]; exact upd_same, nz, DenF.putF (d1.mono gg) (dn.mono gg)⟩
      exact qz σ _ F1 I2 g2
    | _ => cases ed'
/-! properties, methods -/
structure PropG (W : Wd) (j : Nat) (c m : Str) (F : Fd) : Prop where
  cls : Cls W.K (He.ga W.K c)
  ex : ∃ (p g : Addr) (fd : FuncData) (ps : List Str), PropOf W.K (He.ga W.K c) m p g ∧ FnG W j g fd ps (spF W.K W.gs F) ∧ Binds W.K fd ps []
structure MethG (W : Wd) (j : Nat) (c m : Str) (F : Fd) : Prop where
  cls : Cls W.K (He.ga W.K c)
  ex : ∃ (g : Addr) (fd : FuncData) (ps : List Str), Meth W.K (He.ga W.K c) m g ∧ FnG W j g fd ps (spF W.K W.gs F) ∧ Binds W.K fd ps []
theorem PropG.mono {j k : Nat} {c m : Str} (p : PropG W j c m F) (h : j ≤ k) : PropG W k c m F := ⟨p.cls, let ⟨a, b, c, d, e1, e2, e3⟩ := p.ex; ⟨a, b, c, d, e1, e2.mono h, e3⟩⟩
theorem MethG.mono {j k : Nat} {c m : Str} (p : MethG W j c m F) (h : j ≤ k) : MethG W k c m F := ⟨p.cls, let ⟨a, b, c, e1, e2, e3⟩ := p.ex; ⟨a, b, c, e1, e2.mono h, e3⟩⟩
def insC : D → Option Str
  | .ins c _ => some c
  | _ => none
/-- a read of a property: by the object's class -/
def evProp (tab : List (Str × Fd)) (g : List Sl → R (D × List Sl)) (ρ : List Sl) : R (D × List Sl) := (g ρ).bind fun p => (ofO ((insC p.1).bind fun c => tab.lookup c)).bind fun F => if decide (F.md = [.sh]) && !F.own then (F.sem [p.1]).nox.bind fun q => .ok (q.1, p.2) else .bad
theorem lookup_mem {tab : List (Str × Fd)} {c : Str} {F : Fd} (h : tab.lookup c = some F) : (c, F) ∈ tab := by
  induction tab with
  | nil => cases h
  | cons p r ih =>
    obtain ⟨c', F'⟩ := p
    rw [List.lookup_cons] at h
    cases e : c == c' with
    | true => rw [e] at h; cases h; rw [beq_iff_eq.mp e]; exact List.mem_cons_self
    | false => rw [e] at h; exact List.mem_cons_of_mem _ (ih h)
theorem run_prop (wo : WOk W) {C a dx : Addr} {fs : List (Str × V)} {m : Str} {pp g : Addr} {fd : FuncData} {ps : List Str} {sp : Sp} {pins : List (Addr × Obj)} {σ : L2.St} {H : Hp} {s : Shared} {Q : VK} {b : Bool} (hX : XIs W N sc k E X) (I : Inv X pins σ H s) (ea : H a = some (.ins C dx fs)) (c : Cls X.K C) (hp : PropOf X.K C m pp g)
    (Fn : FnG W j g fd ps sp) (hj : j + 1 ≤ k) (hb : Binds W.K fd ps []) (h : sp [.ref a] H Q E0) : wpAny (model X.prog X.w) X.A (getAttr (.ref a) m b) (EP X pins σ Q) X.xe s := by
  obtain ⟨mZ, O, _, _, _, _⟩ := ins_get I.hok ea
  obtain ⟨od, J, _⟩ := O.look
  obtain ⟨rest, hrc⟩ := hp.rec_
  have I1 := I.tok (s.toks + 1)
  have inst : (PySem.W.clsIn X.K C).isSome = true := by
    obtain ⟨cd, hc, _⟩ := PySem.W.any_some c.hd
    simp [hc]
  have nl : ([Value.ref a] ++ []).length = ps.length := Fn.len _ _ _ _ h
  have e0 : Env0 W.P W.w W.K W.mg W.base X.A.in1 X.stack { s with toks := s.toks + 1 } H := by
    have := I1.env0.in1
    rw [hX.hP, hX.hw, hX.hK, hX.hmg, hX.hbase] at this
    exact this
  have bd := hb { s with toks := s.toks + 1 } [.ref a] (hX.hK ▸ I1.kIn) nl
  rw [List.append_nil] at bd
  have run := Fn.run X.A.in1 X.stack { s with toks := s.toks + 1 } H ⟨[.ref a], []⟩ [.ref a] [.ref a] Q E0 ((hX.room.mono hj).in1) hX.grd e0 bd (.cons rfl .nil) h
  rw [← hX.hP, ← hX.hw] at run
  refine PySem.W.get_bind I.kIn J (PySem.W.plainGet_of (c.get m)).1 (PySem.W.findObj_data inst hp.at_ hp.get hp.tak) (PySem.W.plainGet_of (c.get m)).2 (wpAny_call (PySem.W.prop_get (s := { s with toks := s.toks + 1 }) I.kIn hrc (codeAny_mono run fun r s' hq => ?_)))
  cases r with
  | error er => exact (wo.none _ _ _ _ _ hq).elim
  | ok fl =>
    cases fl with
    | ret u =>
      obtain ⟨v, H', I3, rv, qz⟩ := I1.after hq
      show wpAny _ _ (handedOut u) _ _ _
      rw [PySem.W.handedOut_of (handed_of rv)]
      exact wpAny_pure ⟨v, H', I3, rv, qz⟩
    | next => exact False.elim hq
    | brk => exact False.elim hq
    | cont => exact False.elim hq
theorem fin_call1 {σ : L2.St} {H : Hp} {Fz : Addr → Prop} {ρ : List Sl} {v : V} {d : D} {Q : VK} (wo : WOk W) (hB : BOk W B) (I : Iv B Fz H σ ρ) (hd : Den B.K Fz H v d) (hm : F.md = [.sh]) (ho : F.own = false)
    (q : FinG rD B E σ Q Fz H ((F.sem [d]).nox.bind fun q => .ok (q.1, ρ))) : spF W.K W.gs F [v] H Q E0 := by
  have ha : ArsL B Fz H σ [v] [.d d] := .cons hd .nil
  have hk : mkArgs F.md [.d d] ρ = some [d] := by rw [hm]; rfl
  rw [← hB.K]
  refine sp_call I ha hk (show (arIx [Ar.d d]).Nodup from List.nodup_nil) (fun z outs v H' Fz' e I' g bk r => ?_) (fun c d e => ?_) (fun e => ?_) (hB.now wo I)
  · rw [e] at q
    have e2 : putOuts F.md [Ar.d d] outs ρ = ρ := by rw [hm]; cases outs <;> rfl
    rw [e2] at I'
    rw [ho] at r
    exact q v H' Fz' I' g r
  · rw [e] at q; exact q.elim
  · rw [e] at q; exact q
def tPropA (C : Addr → Prop) (sp : Addr → Sp) (ta : TE) : TE := fun σ H Q => ta σ H fun x H1 => ∃ a c dx fs, x = .ref a ∧ H1 a = some (.ins c dx fs) ∧ C c ∧ sp c [.ref a] H1 Q E0
theorem de_prop {tab : List (Str × Fd)} (wo : WOk W) (hX : XIs W N sc k E X) (hB : BOk W B) (hp : ∀ p ∈ tab, PropG W j p.1 f p.2) (hj : j + 1 ≤ k) (ho : PE X o (tE B E g)) (hb : attributeBase o f X.env (eval o X.env) = eval o X.env) : PE X (.Attribute o f pos) (tE B E (evProp tab g)) := by
  refine ⟨fun pins s σ H Q I0 ⟨Fz, ρ, I, q⟩ => ?_⟩
  refine attr_of hb (thn (ho.run pins s σ H _ I0 (tG_bind I q)) fun u s1 ⟨x, H1, I1, rx, F1, ρ1, d, I2, d1, g1, e1, q1⟩ => ?_)
  obtain ⟨F, eF, q2⟩ := fin_o q1
  obtain ⟨hc, qz⟩ := fin_if q2
  rw [Bool.and_eq_true, Bool.not_eq_true'] at hc
  obtain ⟨c, ec, eF⟩ := bind_some eF
  have d1 : Den B.K F1 H1 x d := d1
  have d0 := d1
  cases d1 with
  | @ins a dx c' fs ds fz ha dn =>
    cases ec
    have pg := hp _ (lookup_mem eF)
    obtain ⟨pp, gg, fd, ps, h1, h2, h3⟩ := pg.ex
    cases (show u = Value.ref a from rx)
    rw [hB.K] at ha
    exact run_prop wo hX I1 ha (by rw [hX.hK]; exact pg.cls) (by rw [hX.hK]; exact h1) h2 hj h3 (fin_call1 wo hB I2 d0 (of_decide_eq_true hc.1) hc.2 qz)
  | _ => cases ec
/-- o.m(..) by the object's class -/
def methF (tab : List (Str × Fd)) (m : Str) (own : Bool) (d : D) : Option Fd := match d with
  | .ins c fs => (tab.lookup c).bind fun F => if F.own == own && (fs.lookup m).isNone then some F else none
  | _ => none
def evMeth (tab : List (Str × Fd)) (m : Str) (own : Bool) (g : List Sl → R (D × List Sl)) (l : List Sl → R (List Ar × List Sl)) (ρ : List Sl) : R (D × List Sl) := (g ρ).bind fun p => (ofO (methF tab m own p.1)).bind fun F => (l p.2).bind fun q =>
  if decide (arIx (.d p.1 :: q.1)).Nodup = true then (ofO (mkArgs F.md (.d p.1 :: q.1) q.2)).bind fun ds => (F.sem ds).bind fun r => .ok (r.1, putOuts F.md (.d p.1 :: q.1) r.2 q.2) else .bad
theorem methF_of {tab : List (Str × Fd)} {m : Str} {own : Bool} {d : D} {F : Fd} (h : methF tab m own d = some F) : ∃ c fs, d = .ins c fs ∧ (c, F) ∈ tab ∧ F.own = own ∧ fs.lookup m = none := by
  cases d with
  | ins c fs =>
    obtain ⟨F', e1, e2⟩ := bind_some (show (tab.lookup c).bind (fun F => if (F.own == own && (fs.lookup m).isNone) = true then some F else none) = some F from h)
    obtain ⟨hc, e2⟩ := if_some e2
    subst e2
    rw [Bool.and_eq_true] at hc
    exact ⟨c, fs, rfl, lookup_mem e1, beq_iff_eq.mp hc.1, Option.isNone_iff_eq_none.mp hc.2⟩
  | _ => cases h
/-- the reading of a method's call -/
abbrev tMt (W : Wd) (tab : List (Str × Fd)) (m : Str) (E : XK) (ta : TE) (t : TA) : TE := fun σ H Q => ta σ H fun x H1 => ∃ a c dx fs F, x = .ref a ∧ H1 a = some (.ins (He.ga W.K c) dx fs) ∧ (c, F) ∈ tab ∧ fs.lookup m = none ∧ t σ H1 fun vs H2 => spF W.K W.gs F (x :: vs) H2 Q E
theorem pe_methG {tab : List (Str × Fd)} {pl : Sem Bool} {ta : TE} {t : TA} (hX : XIs W N sc k E X) (hp : ∀ p ∈ tab, MethG W j p.1 f p.2) (hj : j ≤ k) (ho : PE X o ta) (hns : nsE e = true) (hns2 : es.all nsE = true) (ha : PA X (e :: es) t)
    (ht : eval (.Call (.Attribute o f apos) (e :: es) [] pos) X.env = (do
      let ov ← eval o X.env
      standAt apos.atName
      let (f, first) ← holding [ov] (getMethod ov f pl)
      callWith pos f first (backTo pos (starEach (e :: es) X.env)) (backToKw pos (keywordEach [] X.env)))) :
    PE X (.Call (.Attribute o f apos) (e :: es) [] pos) (tMt W tab f E ta t) := by
  refine ⟨fun pins s σ H Q I h => PySem.W.methodCall_KW (pl := pl) (thn (ho.run pins s σ H _ I h) fun u s1 ⟨x, H1, I1, rx, a, c, dx, fs, F, ex, ea, mem, nl, q⟩ => ?_) ht⟩
  subst ex
  cases (show u = Value.ref a from rx)
  have mg := hp _ mem
  obtain ⟨gg, fd, ps, h1, h2, h3⟩ := mg.ex
  have h1 : Meth X.K (He.ga W.K c) f gg := by rw [hX.hK]; exact h1
  refine getmeth_ok I1 ea (by rw [hX.hK]; exact mg.cls) h1 nl ?_
  exact PySem.W.callWith_K (first := [.ref a]) (h₀ := X.base) I1.ok.mod.kin h1.kp (thn (ha.run pos pins s1 σ H1 _ I1 q) fun us s2 ⟨vs, H2, I2, r, q2⟩ => ⟨I2.kIn, run_fnG (us := .ref a :: us) (vs := .ref a :: vs) hX h2 hj h3 I2 (.cons rfl r) q2⟩) (star_cons hns) (noStar_any hns2)
theorem pe_methG0 {tab : List (Str × Fd)} {pl : Sem Bool} {ta : TE} (hX : XIs W N sc k E X) (hp : ∀ p ∈ tab, MethG W j p.1 f p.2) (hj : j ≤ k) (ho : PE X o ta)
    (ht : eval (.Call (.Attribute o f apos) [] [] pos) X.env = (do
      let ov ← eval o X.env
      standAt apos.atName
      let (f, first) ← holding [ov] (getMethod ov f pl)
      callWith pos f first (backTo pos (starEach [] X.env)) (backToKw pos (keywordEach [] X.env)))) :
    PE X (.Call (.Attribute o f apos) [] [] pos) (tMt W tab f E ta fun _ H Q => Q [] H) := by
  refine ⟨fun pins s σ H Q I h => PySem.W.methodCall_KW (pl := pl) (thn (ho.run pins s σ H _ I h) fun u s1 ⟨x, H1, I1, rx, a, c, dx, fs, F, ex, ea, mem, nl, q⟩ => ?_) ht⟩
  subst ex
  cases (show u = Value.ref a from rx)
  have mg := hp _ mem
  obtain ⟨gg, fd, ps, h1, h2, h3⟩ := mg.ex
  have h1 : Meth X.K (He.ga W.K c) f gg := by rw [hX.hK]; exact h1
  refine getmeth_ok I1 ea (by rw [hX.hK]; exact mg.cls) h1 nl ?_
  exact PySem.W.callWith_K0 (first := [.ref a]) I1.kIn h1.kp (run_fnG (us := [.ref a]) (vs := [.ref a]) hX h2 hj h3 I1 (.cons rfl .nil) q)
theorem t_meth {Rl : Rel D V} {tab : List (Str × Fd)} {own : Bool} {σ : L2.St} {H : Hp} {Q : VK} (wo : WOk W) (hB : BOk W B)
    (hR : ∀ {F : Fd} {Fz : Addr → Prop} {H : Hp} {ρ : List Sl}, Iv B Fz H σ ρ → F.own = own → ∀ {Fz' : Addr → Prop} {H' : Hp} {ρ' : List Sl} {v : V} {z : D}, Iv B Fz' H' σ ρ' → (∀ i b, HeldAt σ ρ' i b → HeldAt σ ρ i b) → ResF B.K H F.own Fz' H' v z → Rl B Fz' H' σ ρ' v z)
    (h : tG Rl B E (evMeth tab f own g l) σ H Q) : tMt W tab f E (tE B E g) (tG rAs B E l) σ H Q := by
  obtain ⟨Fz, ρ, I, q⟩ := h
  refine monoG (tG_bind I q) fun x H1 ⟨F1, ρ1, d, I1, d1, g1, e1, q1⟩ => ?_
  obtain ⟨F, eF, q2⟩ := fin_o q1
  obtain ⟨c, fs, rfl, mem, ho, nl⟩ := methF_of eF
  have d1 : Den B.K F1 H1 x (.ins c fs) := d1
  have d0 := d1
  cases d1 with
  | @ins a dx c' fs' ds fz ha dn =>
    rw [hB.K] at ha
    refine ⟨a, c, dx, fs', F, rfl, ha, mem, dn.lookup_none nl, monoG (tG_bind I1 q2) fun vs H2 ⟨F2, ρ2, as, I2, a2, g2, e2, qz⟩ => ?_⟩
    exact fin_call wo hB I2 (.cons (show ArOk B F2 H2 σ _ (.d (.ins c fs)) from d0.mono g2) a2) (hR I2 ho) qz
theorem de_meth {tab : List (Str × Fd)} {pl : Sem Bool} (wo : WOk W) (hX : XIs W N sc k E X) (hB : BOk W B) (hp : ∀ p ∈ tab, MethG W j p.1 f p.2) (hj : j ≤ k) (ho : PE X o (tE B E g)) (hns : nsE e = true) (hns2 : es.all nsE = true) (ha : PA X (e :: es) (tG rAs B E l))
    (ht : eval (.Call (.Attribute o f apos) (e :: es) [] pos) X.env = (do
      let ov ← eval o X.env
      standAt apos.atName
      let (f, first) ← holding [ov] (getMethod ov f pl)
      callWith pos f first (backTo pos (starEach (e :: es) X.env)) (backToKw pos (keywordEach [] X.env)))) :
    PE X (.Call (.Attribute o f apos) (e :: es) [] pos) (tE B E (evMeth tab f false g l)) :=
  weakE (pe_methG hX hp hj ho hns hns2 ha ht) fun σ H Q h => t_meth wo hB (fun I ho => hR_D ho) h
theorem do_meth {tab : List (Str × Fd)} {pl : Sem Bool} (wo : WOk W) (hX : XIs W N sc k E X) (hB : BOk W B) (hp : ∀ p ∈ tab, MethG W j p.1 f p.2) (hj : j ≤ k) (ho : PE X o (tE B E g)) (hns : nsE e = true) (hns2 : es.all nsE = true) (ha : PA X (e :: es) (tG rAs B E l))
    (ht : eval (.Call (.Attribute o f apos) (e :: es) [] pos) X.env = (do
      let ov ← eval o X.env
      standAt apos.atName
      let (f, first) ← holding [ov] (getMethod ov f pl)
      callWith pos f first (backTo pos (starEach (e :: es) X.env)) (backToKw pos (keywordEach [] X.env)))) :
    PE X (.Call (.Attribute o f apos) (e :: es) [] pos) (tO B E (evMeth tab f true g l)) :=
  weakE (pe_methG hX hp hj ho hns hns2 ha ht) fun σ H Q h => t_meth wo hB (fun I ho => hR_O I ho) h
theorem de_meth0 {tab : List (Str × Fd)} {pl : Sem Bool} (wo : WOk W) (hX : XIs W N sc k E X) (hB : BOk W B) (hp : ∀ p ∈ tab, MethG W j p.1 f p.2) (hj : j ≤ k) (ho : PE X o (tE B E g))
    (ht : eval (.Call (.Attribute o f apos) [] [] pos) X.env = (do
      let ov ← eval o X.env
      standAt apos.atName
      let (f, first) ← holding [ov] (getMethod ov f pl)
      callWith pos f first (backTo pos (starEach [] X.env)) (backToKw pos (keywordEach [] X.env)))) :
    PE X (.Call (.Attribute o f apos) [] [] pos) (tE B E (evMeth tab f false g asNil)) :=
  weakE (pe_methG0 hX hp hj ho ht) fun σ H Q h => by
    obtain ⟨Fz, ρ, I, q⟩ := t_meth wo hB (fun I ho => hR_D ho) h
    refine ⟨Fz, ρ, I, FinG.mono (fun v H1 ⟨a, c, dx, fs, F, h1, h2, h3, h4, F2, ρ2, I2, q2⟩ => ⟨a, c, dx, fs, F, h1, h2, h3, h4, q2 [] H1 F2 I2 .refl .nil⟩) q⟩
/-! making -/
structure MakG (W : Wd) (j : Nat) (x : Str) (F : Fd) : Prop where
  mg : W.mg x = some (.ref (He.ga W.K x))
  ex : ∃ (f : Addr) (fd : FuncData) (ps : List Str), Mk W.K (He.ga W.K x) f ∧ FnG W j f fd ps (spF W.K W.gs F) ∧ Binds W.K fd ps []
theorem run_makeG {C f : Addr} {fd : FuncData} {ps : List Str} {sp : Sp} {pins : List (Addr × Obj)} {σ : L2.St} {H : Hp} {s : Shared} {Q : VK} {us : List Value} {vs : List V} (hX : XIs W N sc k E X) (M : Mk X.K C f) (Fn : FnG W j f fd ps sp) (hj : j + 1 ≤ k) (hb : Binds W.K fd ps [])
    (I : Inv X pins σ H s) (r : Vals vs us) (h : ∀ x dx, H x = none → H dx = none → dx ≠ x → sp (.ref x :: vs) (upd (upd H dx (.own x)) x (.ins C dx [])) (fun v H2 => v = .non ∧ Q (.ref x) H2) E) :
    wpAny (model X.prog X.w) X.A (call (.ref C) us) (EP X pins σ Q) X.xe s := by
  have hq := h (s.heap.objs.size + 1) s.heap.objs.size (I.hok.fresh (Nat.le_succ _)) (I.hok.fresh (Nat.le_refl _)) (Nat.ne_of_lt (Nat.lt_succ_self _))
  have J := Inv.made (C := C) I
  have r2 : Vals (V.ref (s.heap.objs.size + 1) :: vs) (Value.ref (s.heap.objs.size + 1) :: us) := .cons rfl r
  have nl : (Value.ref (s.heap.objs.size + 1) :: us ++ []).length = ps.length := by
    rw [List.append_nil, ← r2.length]
    exact Fn.len _ _ _ _ hq
  have bd := hb _ (Value.ref (s.heap.objs.size + 1) :: us) (hX.hK ▸ J.kIn) nl
  rw [List.append_nil] at bd
  have e0 := J.env0.make C us []
  rw [hX.hP, hX.hw, hX.hK, hX.hmg, hX.hbase] at e0
  have run := Fn.run _ X.stack _ _ ⟨Value.ref (s.heap.objs.size + 1) :: us, []⟩ (Value.ref (s.heap.objs.size + 1) :: us) _ _ E ((hX.room.mono hj).make C us []) hX.grd e0 bd r2 hq
  rw [← hX.hP, ← hX.hw] at run
  refine wpAny_call (L2.make_map (f := f) I.kIn M.makes M.init (beq_iff_eq.mp M.fn) (codeAny_mono run fun res s' hq' => ?_))
  cases res with
  | error er => exact hX.pass pins σ _ _ er s' J hq'
  | ok fl =>
    cases fl with
    | ret u =>
      obtain ⟨v, H', I3, rv, ev, qz⟩ := J.after hq'
      subst ev
      exact ⟨rv, ⟨V.ref (s.heap.objs.size + 1), H', I3, rfl, qz⟩⟩
    | next => exact False.elim hq'
    | brk => exact False.elim hq'
    | cont => exact False.elim hq'
end
end Dx

set_option Elab.async false
set_option linter.all false
set_option maxRecDepth 100000
set_option maxHeartbeats 1000000
namespace Dx
open PySem PySem.Spec PyProof.Rows L2

theorem Den.ge_fz {K : Frag} {Fz Fz' : Addr → Prop} {H : Hp} (h : ∀ a, Fz a → Fz' a) : Ge Fz H Fz' H := ⟨fun _ _ _ e => e, h, fun _ _ => rfl⟩
/-- an instance is whole from now on -/
theorem Iv.seal {B : Bs} {Fz : Addr → Prop} {H : Hp} {σ : L2.St} {ρ : List Sl} {x : Addr} {C dx : Addr} {fs : List (Str × V)} (I : Iv B Fz H σ ρ) (h0 : B.H0 x = none) (hx : H x = some (.ins C dx fs)) (ap : ∀ i b, HeldAt σ ρ i b → b ≠ x) : Iv B (fun a => Fz a ∨ a = x) H σ ρ := by
  have g : Ge Fz H (fun a => Fz a ∨ a = x) H := Den.ge_fz (K := B.K) fun _ z => .inl z
  have ow : ∀ {a : Addr} {d : D}, a ≠ x → Own B.K Fz H a d → Own B.K (fun a => Fz a ∨ a = x) H a d := fun {a d} n o => o.same g rfl fun z => by
    rcases z with z | z
    · exact o.nofz I.fzs z
    · exact n z
  refine ⟨I.len, ⟨I.ext.ge.trans g, I.ext.keep, fun a z => ?_, I.ext.there⟩, fun a z => ?_, fun i s e => ?_, I.apart, I.lent⟩
  · rcases z with z | z
    · exact I.ext.nofz a z
    · exact .inr (.inl (z ▸ h0))
  · rcases z with z | z
    · exact I.fzs a z
    · exact ⟨C, dx, fs, z ▸ hx⟩
  · have z := I.ok i s e
    have ne : ∀ a, s.held = true → σ[i]?.join = some (.ref a) → a ≠ x := fun a hh hs => ap i a ⟨s, e, hh, join_some.mp hs⟩
    cases s with
    | un => trivial
    | sh d => obtain ⟨u, e1, h1⟩ := z; exact ⟨u, e1, h1.mono g⟩
    | ow d => obtain ⟨a, e1, h1, h2⟩ := z; exact ⟨a, e1, ow (ne a rfl e1) h1, h2⟩
    | br d =>
      obtain ⟨a, e1, h1, h2⟩ := z
      refine ⟨a, e1, ?_, h2⟩
      cases d with
      | lst ds => obtain ⟨vs, e2, l⟩ := h1; exact ⟨vs, e2, l.mono g⟩
      | dic ds => obtain ⟨vs, e2, l⟩ := h1; exact ⟨vs, e2, l.mono g⟩
      | _ => exact h1.elim
    | mt d => obtain ⟨a, e1, h1, h2, h3⟩ := z; exact ⟨a, e1, ow (ne a rfl e1) h1, h2, h3⟩
def allSh (ms : List Md) : Bool := ms.all fun m => decide (m = .sh)
def mkTail (F : Fd) (as : List Ar) (ρ : List Sl) : Option (List D) := match F.md with
  | .mt :: ms => if allSh ms && !F.own then mkArgs ms as ρ else none
  | _ => none
def newF (c : Str) (p : D × List D) : Option D := match p with
  | (.non, [.ins c' fs]) => if decide (c' = c) = true then some (.ins c fs) else none
  | _ => none
def evMake (c : Str) (F : Fd) (g : List Sl → R (List Ar × List Sl)) (ρ : List Sl) : R (D × List Sl) := (g ρ).bind fun p => if decide (arIx p.1 = []) = true then (ofO (mkTail F p.1 p.2)).bind fun ds => (F.sem (.ins c [] :: ds)).bind fun q => (ofO (newF c q)).bind fun z => .ok (z, p.2) else .bad
section
variable {W : Wd} {N : List Str} {sc : Scope} {k j : Nat} {E : XK} {X : Cx} {B : Bs} {e : Expr} {es : List Expr} {g : List Sl → R (List Ar × List Sl)} {pos p : Pos} {x : Str} {F : Fd}
theorem all_sh : ∀ {ms : List Md} {i : Nat} {m : Md}, allSh ms = true → ms[i]? = some m → m = .sh
  | [], _, _, _, h => by simp at h
  | a :: ms, 0, m, h, e => by
    simp at e; subst e
    unfold allSh at h
    rw [List.all_cons, Bool.and_eq_true] at h
    exact of_decide_eq_true h.1
  | a :: ms, i + 1, m, h, e => by
    unfold allSh at h
    rw [List.all_cons, Bool.and_eq_true] at h
    exact all_sh (ms := ms) (i := i) h.2 (by simpa using e)
theorem argsOk_sh {K : Frag} {Fz Fz' : Addr → Prop} {H H' : Hp} (g : Ge Fz H Fz' H') {ms : List Md} {vs : List V} {ds : List D} (h : ArgsOk K Fz H ms vs ds) (hs : allSh ms = true) : ArgsOk K Fz' H' ms vs ds := by
  induction h with
  | nil => exact .nil
  | cons a _ ih =>
    unfold allSh at hs
    rw [List.all_cons, Bool.and_eq_true] at hs
    have := of_decide_eq_true hs.1
    subst this
    exact .cons (Den.mono g a) (ih hs.2)
theorem sp_make {σ : L2.St} {H : Hp} {Fz : Addr → Prop} {ρ : List Sl} {vs : List V} {as : List Ar} {Q : VK} {c : Str} (wo : WOk W) (hB : BOk W B) (I : Iv B Fz H σ ρ) (ha : ArsL B Fz H σ vs as)
    (q : FinG rD B E σ Q Fz H (if decide (arIx as = []) = true then (ofO (mkTail F as ρ)).bind fun ds => (F.sem (.ins c [] :: ds)).bind fun q => (ofO (newF c q)).bind fun z => .ok (z, ρ) else .bad)) :
    ∀ y dx, H y = none → H dx = none → dx ≠ y → spF W.K W.gs F (.ref y :: vs) (upd (upd H dx (.own y)) y (.ins (He.ga W.K c) dx [])) (fun v H2 => v = .non ∧ Q (.ref y) H2) E := by
  intro y dx hy hdx hne
  obtain ⟨nix, q⟩ := fin_if q
  obtain ⟨ds, hm, q⟩ := fin_o q
  have shape : ∃ ms, F.md = .mt :: ms ∧ allSh ms = true ∧ F.own = false ∧ mkArgs ms as ρ = some ds := by
    unfold mkTail at hm
    cases em : F.md with
    | nil => rw [em] at hm; cases hm
    | cons m ms =>
      rw [em] at hm
      cases m with
      | mt =>
        have hm : (if (allSh ms && !F.own) = true then mkArgs ms as ρ else none) = some ds := hm
        by_cases hc : (allSh ms && !F.own) = true
        · rw [if_pos hc] at hm
          rw [Bool.and_eq_true, Bool.not_eq_true'] at hc
          exact ⟨ms, rfl, hc.1, hc.2, hm⟩
        · rw [if_neg hc] at hm; cases hm
      | _ => cases hm
  obtain ⟨ms, em, hsh, ho, hm⟩ := shape
  obtain ⟨I1, g1, ap1, h01, nz1⟩ := I.laid hdx (.own y)
  have hy1 : upd H dx (.own y) y = none := by rw [upd_ne (Ne.symm hne)]; exact hy
  obtain ⟨I2, g2, ap2, h02, nz2⟩ := I1.laid hy1 (.ins (He.ga W.K c) dx [])
  have g12 := g1.trans g2
  have args := argsOk_sh g12 (args_ok I ha hm) hsh
  rw [hB.K] at args
  have exY : ∀ a, exA F.md (.ref y :: vs) a → a = y := fun a ⟨i, e1, e2⟩ => by
    rw [em] at e1
    cases i with
    | zero => simp at e2; exact e2.symm
    | succ i => simp at e1; cases (all_sh hsh e1)
  refine ⟨hB.now wo I2, Fz, .ins c [] :: ds, I2.fzs, ?_, ?_, ?_⟩
  · rw [em]
    exact .cons ⟨y, rfl, dx, [], upd_same, nz2, .nil⟩ args
  · intro i j a b n e1 e2 e3 e4
    rw [em] at e1 e3
    cases i with
    | succ i => simp at e1; cases (all_sh hsh e1)
    | zero =>
      cases j with
      | zero => exact (n rfl).elim
      | succ j =>
        simp at e3 e4
        cases em2 : ms[j]? with
        | none =>
          have l1 := args.len.1
          have := (List.getElem?_eq_some_iff.mp e4).1
          rw [List.getElem?_eq_none_iff] at em2
          omega
        | some m => exact absurd (all_sh hsh em2 ▸ em2) e3
  · cases es : F.sem (.ins c [] :: ds) with
    | bad => rw [es] at q; exact q
    | exc c' d =>
      rw [es] at q
      intro dx' v H' Fz' x f h1 h2
      rw [← hB.K] at h2 ⊢
      exact q dx' v H' Fz' (I2.ext.trans x fun a z => .inl (exY a z ▸ h02)) f h1 h2
    | ok r =>
      rw [es] at q
      obtain ⟨z, ez, q⟩ := fin_o q
      intro v H2 Fz2 xe f2 outs res
      rw [ho] at res
      obtain ⟨r1, r2⟩ := r
      have shp : ∃ fs, r1 = .non ∧ r2 = [.ins c fs] ∧ z = .ins c fs := by
        unfold newF at ez
        split at ez
        · rename_i heq
          cases heq
          split at ez
          · rename_i hc
            have hc := of_decide_eq_true hc
            subst hc
            cases ez
            exact ⟨_, rfl, rfl, rfl⟩
          · cases ez
        · cases ez
      obtain ⟨fs, rfl, rfl, rfl⟩ := shp
      have ev : v = .non := by cases (show Den W.K Fz2 H2 v .non from res); rfl
      refine ⟨ev, ?_⟩
      rw [em] at outs
      have ow : Own W.K Fz2 H2 y (.ins c fs) := by
        cases outs with
        | skip n _ => exact (n rfl).elim
        | out o _ => exact o
      obtain ⟨dx2, fs2, e2, nz, dn⟩ := ow
      have sub : Ext (fun a => a = y) Fz (upd (upd H dx (.own y)) y (.ins (He.ga W.K c) dx [])) Fz2 H2 :=
        ⟨xe.ge, fun a o e n => xe.keep a o e fun z => n (exY a z), fun a z => (xe.nofz a z).imp id (fun h => h.imp id (exY a)), xe.there⟩
      have I3 : Iv B Fz2 H2 σ ρ := I2.step sub f2 (fun a z => .inl (z ▸ h02)) fun i b hb z => ap2 i b hb z
      have I4 := I3.seal h02 e2 ap2
      have gz : Ge Fz2 H2 (fun a => Fz2 a ∨ a = y) H2 := Den.ge_fz (K := B.K) fun _ z => .inl z
      refine q (.ref y) H2 _ I4 ((g12.trans xe.ge).trans gz) ?_
      show Den B.K _ H2 (.ref y) (.ins c fs)
      rw [hB.K]
      exact .ins (.inr rfl) e2 (dn.mono gz)
theorem de_make (wo : WOk W) (hX : XIs W N sc k E X) (hB : BOk W B) (c : MakG W j x F) (hj : j + 1 ≤ k) (hg : sc.names.lookup x = some .globalImplicit) (hdb : (x == ("__debug__" : Str)) = false) (hns : nsE e = true) (hns2 : es.all nsE = true) (ha : PA X (e :: es) (tG rAs B E g)) :
    PE X (.Call (.Name x p) (e :: es) [] pos) (tE B E (evMake x F g)) := by
  obtain ⟨f, fd, ps, M, fn, hb⟩ := c.ex
  have gl : Gl X x := by show X.env.scope.names.lookup x = _; rw [hX.hsc]; exact hg
  have mgx : X.mg x = some (.ref (He.ga W.K x)) := by rw [hX.hmg]; exact c.mg
  have M : Mk X.K (He.ga W.K x) f := by rw [hX.hK]; exact M
  refine ⟨fun pins s σ H Q I ⟨Fz, ρ, I1, q⟩ => wpAny_Call_Name_kw (ld_glob I gl mgx ?_ hdb)⟩
  exact PySem.W.callWith_K (h₀ := X.base) I.ok.mod.kin M.kp (thn (ha.run pos pins s σ H _ I (tG_bind I1 q)) fun us s1 ⟨vs, H1, I2, r, F1, ρ1, as, I3, a1, g1, e1, q1⟩ => ⟨I2.kIn, run_makeG hX M fn hj hb I2 r (sp_make wo hB I3 a1 q1)⟩) (star_cons hns) (noStar_any hns2)
end
end Dx

set_option Elab.async false
set_option linter.all false
set_option maxRecDepth 100000
set_option maxHeartbeats 1000000
namespace Dx
open PySem PySem.Spec PyProof.Rows L2

/-! ### the rules that a printed proof names: all by the context of the world -/
def frzE (f : List Sl → R (D × List Sl)) (ρ : List Sl) : R (D × List Sl) := (f ρ).bind fun p => if frzD p.1 then .ok p else .bad
def vB (N : List Str) (sc : Scope) (i : Nat) (x : Str) : Bool := decide (N[i]? = some x) && visB sc x && !(x == ("__debug__" : Str)) && !(x == ("__classdict__" : Str))
def gB (sc : Scope) (x : Str) : Bool := decide (sc.names.lookup x = some .globalImplicit) && !(x == ("__debug__" : Str)) && !(x == ("__name__" : Str))
structure VOk (X : Cx) (i : Nat) (x : Str) : Prop where
  n : X.N[i]? = some x
  v : Vis X.env.scope x
  d : (x == ("__debug__" : Str)) = false
  c : (x == ("__classdict__" : Str)) = false
structure GOk (X : Cx) (sc : Scope) (x : Str) : Prop where
  g : Gl X x
  l : sc.names.lookup x = some .globalImplicit
  d : (x == ("__debug__" : Str)) = false
  n : (x == ("__name__" : Str)) = false
section
variable {W : Wd} {N : List Str} {sc : Scope} {k j : Nat} {E : XK} {X : Cx} {B : Bs} {a b c e : Expr} {es : List Expr} {f g h : List Sl → R (D × List Sl)} {u v : List Sl → R (Bool × List Sl)} {l : List Sl → R (List D × List Sl)} {pos p np cpos apos : Pos} {i : Nat} {x : Str} {kk : Nat}
theorem XIs.vo (hX : XIs W N sc k E X) (h : vB N sc i x = true) : VOk X i x := by
  unfold vB at h
  simp only [Bool.and_eq_true, Bool.not_eq_true'] at h
  exact ⟨hX.nm h.1.1.1, hX.vis h.1.1.2, h.1.2, h.2⟩
theorem XIs.go (hX : XIs W N sc k E X) (h : gB sc x = true) : GOk X sc x := by
  unfold gB at h
  simp only [Bool.and_eq_true, Bool.not_eq_true'] at h
  exact ⟨hX.gl h.1.1, of_decide_eq_true h.1.1, h.1.2, h.2⟩
theorem q_own (ho : PE X e (tO B E f)) : PE X e (tE B E (frzE f)) :=
  weakE (pe_frz ho) fun σ H Q ⟨Fz, ρ, I, q⟩ => by
    refine ⟨Fz, ρ, I, ?_⟩
    have q : FinG rD B E σ Q Fz H ((f ρ).bind fun p => if frzD p.1 then .ok p else .bad) := q
    cases ef : f ρ with
    | exc c d => rw [ef] at q; exact q
    | bad => rw [ef] at q; exact q
    | ok p =>
      rw [ef] at q
      obtain ⟨hf, q⟩ := fin_if (α := D) q
      intro v H1 F1 I1 g1 ⟨x, ev, ow, hn, ap⟩
      subst ev
      obtain ⟨w, hw, ni, mu⟩ := ow.there
      have nz : ¬ F1 x := ow.nofz I1.fzs
      refine ⟨x, w, rfl, hw, mu, fun od => ?_⟩
      have xe := ext_put (o := .frz od w) hw ni nz
      have I2 : Iv B F1 (upd H1 x (.frz od w)) σ p.2 := I1.step xe (fzs_put I1.fzs nz) (fun y hy => by cases hy; exact .inl hn) fun y z hz q => ap y z hz q
      exact q (.ref x) _ F1 I2 (g1.trans xe.ge) (den_lock I1.fzs (ow.brw (frz_ins hf)) hw ni nz).2
theorem q_v (o : VOk X i x) : PE X (.Name x pos) (tE B E (evV i)) := de_v o.n o.v o.d o.c
theorem q_int {z : Int} : PE X (.Constant (.int z) kk pos) (tE B E (evLit (.int z))) := de_const pe_int fun _ _ => .int z
theorem q_bl {z : Bool} : PE X (.Constant (.bool z) kk pos) (tE B E (evLit (.bl z))) := de_const pe_bl fun _ _ => .bl z
theorem q_non : PE X (.Constant .none kk pos) (tE B E (evLit .non)) := de_const pe_non fun _ _ => .non
theorem q_str {z : Str} : PE X (.Constant (.str z) kk pos) (tE B E (evLit (.str z))) := de_const pe_str fun _ _ => .str z
/-- a constant of the module -/
structure GC (W : Wd) (x : Str) (d : D) : Prop where
  ex : ∃ (u : Value) (v : V), W.mg x = some u ∧ RelV v u ∧ ∀ Fz H, (∀ p ∈ W.gs, H p.1 = some p.2) → Den W.K Fz H v d
theorem q_glob {d : D} (wo : WOk W) (hX : XIs W N sc k E X) (hB : BOk W B) (gc : GC W x d) (o : GOk X sc x) : PE X (.Name x pos) (tE B E (evLit d)) := by
  obtain ⟨u, v, hm, r, dn⟩ := gc.ex
  exact weakE (pe_glob o.g (by rw [hX.hmg]; exact hm) r o.d) fun σ H Q ⟨Fz, ρ, I, q⟩ => q v H Fz I .refl (show Den B.K Fz H v d by rw [hB.K]; exact dn Fz H (hB.now wo I))
/-! operators -/
section
variable (hX : XIs W N sc k E X) (hB : BOk W B)
include hX hB
theorem q_eq (ha : PE X a (tE B E f)) (hb : PE X b (tE B E g)) : PE X (.Compare a [.Eq] [b] pos) (tE B E (ev2 eqO f g)) := de_cmp (op_eqF hX.hu) (rAns_D eqO_lit) (hX.kk hB) (nobehind b (by decide) (by decide)) ha hb
theorem q_ne (ha : PE X a (tE B E f)) (hb : PE X b (tE B E g)) : PE X (.Compare a [.NotEq] [b] pos) (tE B E (ev2 neO f g)) := de_cmp (op_neF hX.hu) (rAns_D neO_lit) (hX.kk hB) (nobehind b (by decide) (by decide)) ha hb
theorem q_lt (ha : PE X a (tE B E f)) (hb : PE X b (tE B E g)) : PE X (.Compare a [.Lt] [b] pos) (tE B E (ev2 ltO f g)) := de_cmp op_lt r_lt (hX.kk hB) (nobehind b (by decide) (by decide)) ha hb
theorem q_le (ha : PE X a (tE B E f)) (hb : PE X b (tE B E g)) : PE X (.Compare a [.LtE] [b] pos) (tE B E (ev2 leO f g)) := de_cmp op_le r_le (hX.kk hB) (nobehind b (by decide) (by decide)) ha hb
theorem q_gt (ha : PE X a (tE B E f)) (hb : PE X b (tE B E g)) : PE X (.Compare a [.Gt] [b] pos) (tE B E (ev2 gtO f g)) := de_cmp op_gt r_gt (hX.kk hB) (nobehind b (by decide) (by decide)) ha hb
theorem q_ge (ha : PE X a (tE B E f)) (hb : PE X b (tE B E g)) : PE X (.Compare a [.GtE] [b] pos) (tE B E (ev2 geO f g)) := de_cmp op_ge r_ge (hX.kk hB) (nobehind b (by decide) (by decide)) ha hb
theorem q_isN (ha : PE X a (tE B E f)) (hb : PE X b (tE B E g)) : PE X (.Compare a [.Is] [b] pos) (tE B E (ev2 isNO f g)) := de_cmp op_isN r_isN (hX.kk hB) (nobehind b (by decide) (by decide)) ha hb
theorem q_in (hm : behindInMarks .In b = false) (ha : PE X a (tE B E f)) (hb : PE X b (tE B E g)) : PE X (.Compare a [.In] [b] pos) (tE B E (ev2 inO2 f g)) := de_cmp (op_in2 hX.hu) r_in2 (hX.kk hB) hm ha hb
theorem q_nin (hm : behindInMarks .NotIn b = false) (ha : PE X a (tE B E f)) (hb : PE X b (tE B E g)) : PE X (.Compare a [.NotIn] [b] pos) (tE B E (ev2 ninO2 f g)) := de_cmp (op_nin2 hX.hu) r_nin2 (hX.kk hB) hm ha hb
theorem q_inv (o : VOk X i x) (ha : PE X a (tE B E f)) : PE X (.Compare a [.In] [.Name x np] pos) (tE B E (evInV inO2 i f)) := de_inv (hX.kk hB) (op_in2 hX.hu) (fun h1 h2 h3 h4 => inO2_den h1 h2 h3 h4) o.n o.v o.d o.c rfl ha
theorem q_ninv (o : VOk X i x) (ha : PE X a (tE B E f)) : PE X (.Compare a [.NotIn] [.Name x np] pos) (tE B E (evInV ninO2 i f)) := de_inv (hX.kk hB) (op_nin2 hX.hu) (fun h1 h2 h3 h4 => ninO2_den h1 h2 h3 h4) o.n o.v o.d o.c rfl ha
theorem q_sub (ha : PE X a (tE B E f)) (hb : PE X b (tE B E g)) : PE X (.BinOp a .Sub b pos) (tE B E (ev2 subO f g)) := de_bin op_sub r_sub (hX.kk hB) ha hb
theorem q_mul (ha : PE X a (tE B E f)) (hb : PE X b (tE B E g)) : PE X (.BinOp a .Mult b pos) (tE B E (ev2 mulO f g)) := de_bin op_mulW r_mul (hX.kk hB) ha hb
theorem q_div (ha : PE X a (tE B E f)) (hb : PE X b (tE B E g)) : PE X (.BinOp a .FloorDiv b pos) (tE B E (ev2 divO f g)) := de_bin op_fdivW r_div (hX.kk hB) ha hb
theorem q_mod (ha : PE X a (tE B E f)) (hb : PE X b (tE B E g)) : PE X (.BinOp a .Mod b pos) (tE B E (ev2 modO f g)) := de_bin op_mod r_mod (hX.kk hB) ha hb
theorem q_pow (ha : PE X a (tE B E f)) (hb : PE X b (tE B E g)) : PE X (.BinOp a .Pow b pos) (tE B E (ev2 powO f g)) := de_bin op_powX r_pow (hX.kk hB) ha hb
theorem q_ix (hn : nslE b = true) (ha : PE X a (tE B E f)) (hb : PE X b (tE B E g)) : PE X (.Subscript a b pos) (tE B E (ev2 ixO f g)) := de_ix hX.hu (hX.kk hB) hn ha hb
theorem q_ixv (o : VOk X i x) (hn : nslE b = true) (hb : PE X b (tE B E g)) : PE X (.Subscript (.Name x np) b pos) (tE B E (evIxV i g)) := de_ixv hX.hu (hX.kk hB) o.n o.v o.d o.c hn hb
theorem q_tup (ha : PA X es (tA B E l)) : PE X (.Tuple es kk pos) (tE B E (evTup l)) := de_tup ha
theorem q_cat (ha : PE X a (tE B E f)) (hb : PE X b (tE B E g)) : PE X (.BinOp a .Add b pos) (tO B E (ev2 catO f g)) := do_bin op_catR r_cat (hX.kk hB) ha hb
end
/-! a + b as data: ints, texts, tuples, lists -/
def add2O (x y : D) : Option D := match catO x y with
  | some z => some z
  | none => addO x y
theorem q_add (hX : XIs W N sc k E X) (hB : BOk W B) (ha : PE X a (tE B E f)) (hb : PE X b (tE B E g)) : PE X (.BinOp a .Add b pos) (tE B E (ev2 add2O f g)) := by
  refine weakE (pe_frz2 (pe_op (op_addA.or op_catR) ha hb)) fun σ H Q ⟨Fz, ρ, I, q⟩ => ?_
  refine monoG (tG_bind I q) fun x H1 ⟨F1, ρ1, dx, I1, d1, g1, e1, q1⟩ => monoG (tG_bind I1 q1) fun y H2 ⟨F2, ρ2, dy, I2, d2, g2, e2, q2⟩ => ?_
  obtain ⟨z, ez, b⟩ := back_of q2
  have hK := hX.kk hB
  have ez : add2O dx dy = some z := ez
  unfold add2O at ez
  have d1 : Den B.K F2 H2 x dx := d1.mono g2
  have d2 : Den B.K F2 H2 y dy := d2
  split at ez
  · rename_i w hw
    cases ez
    refine .inr (r_cat (K := X.K) B F2 H2 σ ρ2 x y dx dy z _ hK I2 d1 d2 hw fun v H' Fz' I' g' o => ?_)
    obtain ⟨a, rfl, ow, h0, ap⟩ := o
    obtain ⟨o, ho, ni, mu⟩ := ow.there
    have nz : ¬ Fz' a := ow.nofz I'.fzs
    have isl : frzD z = true := by
      unfold catO at hw
      split at hw
      · split at hw
        · cases hw; rfl
        · cases hw
      · cases hw
    refine .inr ⟨a, o, rfl, ho, mu, fun od => ?_⟩
    have xe := ext_put (o := .frz od o) ho ni nz
    have I3 : Iv B Fz' (upd H' a (.frz od o)) σ ρ2 := I'.step xe (fzs_put I'.fzs nz) (fun y hy => by cases hy; exact .inl h0) fun y z hz q => ap y z hz q
    exact b _ _ Fz' I3 (g'.trans xe.ge) (den_lock I'.fzs (ow.brw (frz_ins isl)) ho ni nz).2
  · exact .inl (r_add (K := X.K) B F2 H2 σ ρ2 x y dx dy z _ hK I2 d1 d2 ez fun v H' Fz' I' g' o => .inl (b v H' Fz' I' g' o))
/-! calls of built-ins -/
section
variable (hX : XIs W N sc k E X) (hB : BOk W B)
include hX hB
theorem q_len (hm : W.mg "len" = none) (o : GOk X sc "len") (hs : nsE e = true) (ha : PE X e (tE B E f)) : PE X (.Call (.Name "len" p) [e] [] pos) (tE B E (evL lenO (evCons f evNil))) := de_callB call_lenF r_len (hX.kk hB) o.g (hX.noName hm) rfl o.n o.d hs rfl (da_cons hs ha da_nil)
theorem q_lenv (hm : W.mg "len" = none) (o : GOk X sc "len") (o2 : VOk X i x) : PE X (.Call (.Name "len" p) [.Name x np] [] pos) (tE B E (evLenV i)) := de_lenv (hX.kk hB) o.g (hX.noName hm) o2.n o2.v o2.d o2.c
theorem q_abs (hm : W.mg "abs" = none) (o : GOk X sc "abs") (hs : nsE e = true) (ha : PE X e (tE B E f)) : PE X (.Call (.Name "abs" p) [e] [] pos) (tE B E (evL absO (evCons f evNil))) := de_callB call_abs r_abs (hX.kk hB) o.g (hX.noName hm) rfl o.n o.d hs rfl (da_cons hs ha da_nil)
theorem q_intf (hm : W.mg "int" = none) (o : GOk X sc "int") (hs : nsE e = true) (ha : PE X e (tE B E f)) : PE X (.Call (.Name "int" p) [e] [] pos) (tE B E (evL intF (evCons f evNil))) := de_callTy call_int1 r_intF (hX.kk hB) o.g (hX.noName hm) rfl o.n o.d hs rfl (da_cons hs ha da_nil)
theorem q_max (hm : W.mg "max" = none) (o : GOk X sc "max") (hs : nsE a = true) (hs2 : nsE b = true) (ha : PE X a (tE B E f)) (hb : PE X b (tE B E g)) : PE X (.Call (.Name "max" p) [a, b] [] pos) (tE B E (evL maxO (evCons f (evCons g evNil)))) := de_callB (call_max2 hX.calm) r_max (hX.kk hB) o.g (hX.noName hm) rfl o.n o.d hs (by simp [hs2]) (da_cons hs ha (da_cons hs2 hb da_nil))
theorem q_min (hm : W.mg "min" = none) (o : GOk X sc "min") (hs : nsE a = true) (hs2 : nsE b = true) (ha : PE X a (tE B E f)) (hb : PE X b (tE B E g)) : PE X (.Call (.Name "min" p) [a, b] [] pos) (tE B E (evL minO (evCons f (evCons g evNil)))) := de_callB (call_min2 hX.calm) r_min (hX.kk hB) o.g (hX.noName hm) rfl o.n o.d hs (by simp [hs2]) (da_cons hs ha (da_cons hs2 hb da_nil))
theorem q_all (hm : W.mg "all" = none) (o : GOk X sc "all") (hs : nsE e = true) (ha : PE X e (tE B E f)) : PE X (.Call (.Name "all" p) [e] [] pos) (tE B E (evL allO (evCons f evNil))) := de_callB (cr_all hX.calm) r_all (hX.kk hB) o.g (hX.noName hm) rfl o.n o.d hs rfl (da_cons hs ha da_nil)
theorem q_any (hm : W.mg "any" = none) (o : GOk X sc "any") (hs : nsE e = true) (ha : PE X e (tE B E f)) : PE X (.Call (.Name "any" p) [e] [] pos) (tE B E (evL anyO (evCons f evNil))) := de_callB (cr_any hX.calm) r_any (hX.kk hB) o.g (hX.noName hm) rfl o.n o.d hs rfl (da_cons hs ha da_nil)
theorem q_repr (hsys : ∃ o, W.K.lookup sysModules = some o) (hm : W.mg "repr" = none) (o : GOk X sc "repr") (hs : nsE e = true) (ha : PE X e (tE B E f)) : PE X (.Call (.Name "repr" p) [e] [] pos) (tE B E (evL reprO (evCons f evNil))) := de_callB (call_reprF hX.grd hX.hu (by rw [hX.hK]; exact hsys)) r_repr (hX.kk hB) o.g (hX.noName hm) rfl o.n o.d hs rfl (da_cons hs ha da_nil)
theorem q_list (hm : W.mg "list" = none) (o : GOk X sc "list") (hs : nsE e = true) (ha : PE X e (tE B E f)) : PE X (.Call (.Name "list" p) [e] [] pos) (tO B E (evL listO (evCons f evNil))) := do_callTy call_list_of r_list (hX.kk hB) o.g (hX.noName hm) rfl o.n o.d hs rfl (da_cons hs ha da_nil)
theorem q_tuple (hm : W.mg "tuple" = none) (o : GOk X sc "tuple") (hs : nsE e = true) (ha : PE X e (tE B E f)) : PE X (.Call (.Name "tuple" p) [e] [] pos) (tE B E (evL tupO (evCons f evNil))) := de_callTy call_tuple_of r_tup (hX.kk hB) o.g (hX.noName hm) rfl o.n o.d hs rfl (da_cons hs ha da_nil)
end
end
end Dx

set_option Elab.async false
set_option linter.all false
set_option maxRecDepth 100000
set_option maxHeartbeats 1000000
namespace Dx
open PySem PySem.Spec PyProof.Rows L2

section
variable {W : Wd} {N : List Str} {sc : Scope} {k j : Nat} {E : XK} {X : Cx} {B : Bs} {a b c e : Expr} {es : List Expr} {f g h : List Sl → R (D × List Sl)} {u v : List Sl → R (Bool × List Sl)} {l : List Sl → R (List D × List Sl)} {pos p np cpos apos : Pos} {i : Nat} {x : Str} {kk : Nat}
variable (hX : XIs W N sc k E X) (hB : BOk W B)
section
include hX hB
theorem q_teq (ha : PE X a (tE B E f)) (hb : PE X b (tE B E g)) : PT X (.Compare a [.Eq] [b] pos) (tT B E (evB (ev2 eqO f g))) := dt_cmp (op_eqF hX.hu) (rAns_D eqO_lit) (hX.kk hB) (nobehind b (by decide) (by decide)) ha hb
theorem q_tne (ha : PE X a (tE B E f)) (hb : PE X b (tE B E g)) : PT X (.Compare a [.NotEq] [b] pos) (tT B E (evB (ev2 neO f g))) := dt_cmp (op_neF hX.hu) (rAns_D neO_lit) (hX.kk hB) (nobehind b (by decide) (by decide)) ha hb
theorem q_tlt (ha : PE X a (tE B E f)) (hb : PE X b (tE B E g)) : PT X (.Compare a [.Lt] [b] pos) (tT B E (evB (ev2 ltO f g))) := dt_cmp op_lt r_lt (hX.kk hB) (nobehind b (by decide) (by decide)) ha hb
theorem q_tle (ha : PE X a (tE B E f)) (hb : PE X b (tE B E g)) : PT X (.Compare a [.LtE] [b] pos) (tT B E (evB (ev2 leO f g))) := dt_cmp op_le r_le (hX.kk hB) (nobehind b (by decide) (by decide)) ha hb
theorem q_tgt (ha : PE X a (tE B E f)) (hb : PE X b (tE B E g)) : PT X (.Compare a [.Gt] [b] pos) (tT B E (evB (ev2 gtO f g))) := dt_cmp op_gt r_gt (hX.kk hB) (nobehind b (by decide) (by decide)) ha hb
theorem q_tge (ha : PE X a (tE B E f)) (hb : PE X b (tE B E g)) : PT X (.Compare a [.GtE] [b] pos) (tT B E (evB (ev2 geO f g))) := dt_cmp op_ge r_ge (hX.kk hB) (nobehind b (by decide) (by decide)) ha hb
theorem q_tisN (ha : PE X a (tE B E f)) (hb : PE X b (tE B E g)) : PT X (.Compare a [.Is] [b] pos) (tT B E (evB (ev2 isNO f g))) := dt_cmp op_isN r_isN (hX.kk hB) (nobehind b (by decide) (by decide)) ha hb
theorem q_tin (hm : behindInMarks .In b = false) (ha : PE X a (tE B E f)) (hb : PE X b (tE B E g)) : PT X (.Compare a [.In] [b] pos) (tT B E (evB (ev2 inO2 f g))) := dt_cmp (op_in2 hX.hu) r_in2 (hX.kk hB) hm ha hb
theorem q_tnin (hm : behindInMarks .NotIn b = false) (ha : PE X a (tE B E f)) (hb : PE X b (tE B E g)) : PT X (.Compare a [.NotIn] [b] pos) (tT B E (evB (ev2 ninO2 f g))) := dt_cmp (op_nin2 hX.hu) r_nin2 (hX.kk hB) hm ha hb
/-! chains of ints -/
theorem q_chn {op op' : CmpOp} {r r' : R2} {F G : D → D → Option D} (ho : OpR X (compareOp op) r) (ho' : OpR X (compareOp op') r') (hr : R2D X.K r F) (hr' : R2D X.K r' G) (hm : lastMarks [op, op'] [b, c] = false) (ha : PE X a (tE B E f)) (hb : PE X b (tE B E g)) (hc : PE X c (tE B E h)) :
    PE X (.Compare a [op, op'] [b, c] pos) (tE B E (evChn F G f g h)) := de_chn ho ho' hr hr' (hX.kk hB) hm ha hb hc
theorem q_tchn {op op' : CmpOp} {r r' : R2} {F G : D → D → Option D} (ho : OpR X (compareOp op) r) (ho' : OpR X (compareOp op') r') (hr : R2D X.K r F) (hr' : R2D X.K r' G) (hm : lastMarks [op, op'] [b, c] = false) (ha : PE X a (tE B E f)) (hb : PE X b (tE B E g)) (hc : PE X c (tE B E h)) :
    PT X (.Compare a [op, op'] [b, c] pos) (tT B E (evB (evChn F G f g h))) := dt_chn ho ho' hr hr' (hX.kk hB) hm ha hb hc
end
end
end Dx

set_option Elab.async false
set_option linter.all false
set_option maxRecDepth 100000
set_option maxHeartbeats 1000000
namespace Dx
open PySem PySem.Spec PyProof.Rows L2

section
variable {W : Wd} {N : List Str} {sc : Scope} {k j : Nat} {E : XK} {X : Cx} {B : Bs} {a b c e : Expr} {es : List Expr} {f g h : List Sl → R (D × List Sl)} {u v : List Sl → R (Bool × List Sl)} {l : List Sl → R (List D × List Sl)} {pos p np cpos apos : Pos} {i : Nat} {x : Str} {kk : Nat}
/-! -e -/
def evNeg (f : List Sl → R (D × List Sl)) (ρ : List Sl) : R (D × List Sl) := (f ρ).bind fun p => match p.1 with
  | .int z => .ok (.int (-z), p.2)
  | _ => .bad
theorem q_neg (ha : PE X a (tE B E f)) : PE X (.UnaryOp .USub a pos) (tE B E (evNeg f)) :=
  weakE (pe_un un_neg ha) fun σ H Q ⟨Fz, ρ, I, q⟩ => monoG (tG_bind I q) fun v H1 ⟨F1, ρ1, d, I1, d1, g1, e1, q1⟩ => by
    cases d with
    | int z => cases d1; exact ⟨z, rfl, q1 _ H1 F1 I1 .refl (.int _)⟩
    | _ => exact q1.elim
theorem q_notN (hX : XIs W N sc k E X) (hB : BOk W B) (ha : PE X a (tE B E f)) (hb : PE X b (tE B E g)) : PE X (.Compare a [.IsNot] [b] pos) (tE B E (ev2 notNO f g)) := de_cmp op_notN r_notN (hX.kk hB) (nobehind b (by decide) (by decide)) ha hb
theorem q_tnotN (hX : XIs W N sc k E X) (hB : BOk W B) (ha : PE X a (tE B E f)) (hb : PE X b (tE B E g)) : PT X (.Compare a [.IsNot] [b] pos) (tT B E (evB (ev2 notNO f g))) := dt_cmp op_notN r_notN (hX.kk hB) (nobehind b (by decide) (by decide)) ha hb
theorem backO_frz {Fz : Addr → Prop} {H : Hp} {σ : L2.St} {ρ : List Sl} {z : D} {Q : VK} (hz : frzD z = true) (b : Back B Fz H σ ρ z Q) : BackO B Fz H σ ρ z (fun v H1 => Q v H1 ∨ ∃ a u, v = .ref a ∧ H1 a = some u ∧ Mut (some u) ∧ ∀ od, Q v (upd H1 a (.frz od u))) := by
  intro v H' Fz' I' g' o
  obtain ⟨a, rfl, ow, h0, ap⟩ := o
  obtain ⟨o, ho, ni, mu⟩ := ow.there
  have nz : ¬ Fz' a := ow.nofz I'.fzs
  refine .inr ⟨a, o, rfl, ho, mu, fun od => ?_⟩
  have xe := ext_put (o := .frz od o) ho ni nz
  have I3 : Iv B Fz' (upd H' a (.frz od o)) σ ρ := I'.step xe (fzs_put I'.fzs nz) (fun y hy => by cases hy; exact .inl h0) fun y z hz q => ap y z hz q
  exact b _ _ Fz' I3 (g'.trans xe.ge) (den_lock I'.fzs (ow.brw (frz_ins hz)) ho ni nz).2
/-! slices as data -/
def slA (lo hi : Option Int) (d : D) : Option D := match slLO lo hi d with
  | some z => some z
  | none => slTO lo hi d
def evSl3 (f : List Sl → R (D × List Sl)) (p q : Option (List Sl → R (D × List Sl))) : List Sl → R (D × List Sl) := evSl slA f p q
/-! the slots' rules -/
theorem q_retv (o : VOk X i x) : PS X (.Return (some (.Name x np)) pos) (tS B E (stRetV i)) := ds_retV o.n o.v o.d o.c
theorem q_asS {gs : List Sl → R (List Ar × List Sl)} (o : VOk X i x) (hr : PA X es (tG rAs B E gs)) : PA X (.Name x np :: es) (tG rAs B E (asS i gs)) := das_s o.n o.v o.d o.c hr
theorem q_fldv {cs : List Str} {m : Str} (hX : XIs W N sc k E X) (hB : BOk W B) (hf : ∀ c ∈ cs, FldOk W c m) (o : VOk X i x) (hb : attributeBase (.Name x p) m X.env (eval (.Name x p) X.env) = eval (.Name x p) X.env) : PE X (.Attribute (.Name x p) m pos) (tE B E (evFldV cs m i)) :=
  de_fldv hX hB hf o.n o.v o.d o.c hb
theorem q_stfld {cs : List Str} {m : Str} {value : Expr} {pos' : Pos} (hX : XIs W N sc k E X) (hB : BOk W B) (hf : ∀ c ∈ cs, FldOk W c m) (o : VOk X i x) (he : PE X value (tE B E g)) (hs : swapsWith value (some (.Attribute (.Name x p) m pos')) pos.line X.env = pure false) :
    PS X (.Assign [.Attribute (.Name x p) m pos'] value pos) (tS B E (stFld cs m i g)) := ds_fld hX hB hf o.n o.v o.d o.c he hs
section
variable (hX : XIs W N sc k E X) (hB : BOk W B)
include hX hB
theorem q_append (o : VOk X i x) (hbase : attributeBase (.Name x np) "append" X.env (eval (.Name x np) X.env) = eval (.Name x np) X.env)
    (hfew : ((backTo cpos (starEach (e :: es) X.env)).all (fun x => !x.1) && (backToKw cpos (keywordEach [] X.env)).all (fun x => x.1.isSome) && decide ((e :: es).length + ([] : List Keyword).length + (if ([] : List Keyword).isEmpty then 0 else 1) < 30)) = true)
    (hline : (apos.endLine == cpos.line) = true) (hs : nsE e = true) (hss : es.all nsE = true) (ha : PA X (e :: es) (tA B E l)) : PE X (.Call (.Attribute (.Name x np) "append" apos) (e :: es) [] cpos) (tE B E (evMt appF i l)) :=
  de_mt (hX.kk hB) PySem.F.slot_list_append PySem.F.type_list_append mt_append m_app o.n o.v o.d o.c ha hbase hfew hline hs hss
theorem q_extend (o : VOk X i x) (hbase : attributeBase (.Name x np) "extend" X.env (eval (.Name x np) X.env) = eval (.Name x np) X.env)
    (hfew : ((backTo cpos (starEach (e :: es) X.env)).all (fun x => !x.1) && (backToKw cpos (keywordEach [] X.env)).all (fun x => x.1.isSome) && decide ((e :: es).length + ([] : List Keyword).length + (if ([] : List Keyword).isEmpty then 0 else 1) < 30)) = true)
    (hline : (apos.endLine == cpos.line) = true) (hs : nsE e = true) (hss : es.all nsE = true) (ha : PA X (e :: es) (tA B E l)) : PE X (.Call (.Attribute (.Name x np) "extend" apos) (e :: es) [] cpos) (tE B E (evMt extF i l)) :=
  de_mt (hX.kk hB) PySem.F.slot_list_extend PySem.F.type_list_extend mt_extF m_ext o.n o.v o.d o.c ha hbase hfew hline hs hss
theorem q_pop (o : VOk X i x) (hbase : attributeBase (.Name x np) "pop" X.env (eval (.Name x np) X.env) = eval (.Name x np) X.env)
    (hfew : ((backTo cpos (starEach (e :: es) X.env)).all (fun x => !x.1) && (backToKw cpos (keywordEach [] X.env)).all (fun x => x.1.isSome) && decide ((e :: es).length + ([] : List Keyword).length + (if ([] : List Keyword).isEmpty then 0 else 1) < 30)) = true)
    (hline : (apos.endLine == cpos.line) = true) (hs : nsE e = true) (hss : es.all nsE = true) (ha : PA X (e :: es) (tA B E l)) : PE X (.Call (.Attribute (.Name x np) "pop" apos) (e :: es) [] cpos) (tE B E (evMt popF i l)) :=
  de_mt (hX.kk hB) PySem.F.slot_list_pop PySem.F.type_list_pop mt_popAt m_pop o.n o.v o.d o.c ha hbase hfew hline hs hss
end
theorem q_put {tpos : Pos} (hX : XIs W N sc k E X) (o : VOk X i x) (he : PE X e (tE B E f)) (hk : PE X c (tE B E g))
    (hs : swapsWithSole [.Subscript (.Name x np) c tpos] e pos.line X.env = pure false) (hw : swappedStores [.Subscript (.Name x np) c tpos] e X.env = pure none)
    (h1 : (assignEach [.Subscript (.Name x np) c tpos] X.env).map (·.2) = [assign (.Subscript (.Name x np) c tpos) X.env])
    (ha : ∀ v, assign (.Subscript (.Name x np) c tpos) X.env v = (do
      let ov ← holding [v] (eval (.Name x np) X.env)
      let iv ← holding [v, ov] (eval c X.env)
      standAt tpos
      holding [v, ov, iv] (setItem ov iv v)
      release [v, ov, iv] [])) : PS X (.Assign [.Subscript (.Name x np) c tpos] e pos) (tS B E (stPut i f g)) := ds_put hX.hu o.n o.v o.d o.c he hk hs hw h1 ha
theorem q_tinv (hX : XIs W N sc k E X) (hB : BOk W B) (o : VOk X i x) (ha : PE X a (tE B E f)) : PT X (.Compare a [.In] [.Name x np] pos) (tT B E (evB (evInV inO2 i f))) :=
  dt_inv (hX.kk hB) (op_in2 hX.hu) (fun h1 h2 h3 h4 => inO2_den h1 h2 h3 h4) o.n o.v o.d o.c rfl ha
theorem q_tninv (hX : XIs W N sc k E X) (hB : BOk W B) (o : VOk X i x) (ha : PE X a (tE B E f)) : PT X (.Compare a [.NotIn] [.Name x np] pos) (tT B E (evB (evInV ninO2 i f))) :=
  dt_inv (hX.kk hB) (op_nin2 hX.hu) (fun h1 h2 h3 h4 => ninO2_den h1 h2 h3 h4) o.n o.v o.d o.c rfl ha
/-! comprehensions: by any context of the block -/
def bfB (scope sc : Scope) (x : Str) : Bool := (scope.names.lookup x == some .cell) || decide ((relS scope sc).names.lookup x = some .local)
structure XBk (W : Wd) (N : List Str) (scope sc : Scope) (k : Nat) (Y : Cx) : Prop extends XIs W N (relS scope sc) k E0 Y where
  bf : ∀ x, bfB scope sc x = true → Y.fn x = true ∨ Y.env.scope.names.lookup x = some .local
theorem xbk (wo : WOk W) (hX : XIs W N sc k E X) {s : Shared} {H : Hp} {scope : Scope} {cl : List (Str × Addr)} {C : Addr} {fp : List Addr} : XBk W N scope sc k (X.blk s H scope (compEnvC scope cl C X.env) fp) :=
  ⟨hX.blk wo, fun x h => blk_fn (hX.blk wo) h⟩
section
variable {iter tg elt : Expr} {ifs : List Expr} {s : List Sl → R (List D × List Sl)} {t : D → List Sl → Option (List Sl)} {ws : List Nat} {scope : Scope} {own : List (Str × Nat)}
theorem q_lc (wo : WOk W) (hX : XIs W N sc k E X) (hB : BOk W B) (hi : PI X tg iter (tI B E s)) (ok : blkC N sc scope own = true) (hw : (ws.all fun j => decide (j ∈ own.map (·.2))) = true)
    (hg : ∀ B' : Bs, BOk W B' → ∀ Y : Cx, XBk W N scope sc k Y → PG Y tg (tG1 B' ws t)) (ht : ∀ B' : Bs, BOk W B' → ∀ Y : Cx, XBk W N scope sc k Y → PTs Y ifs (tT B' E0 u)) (he : ∀ B' : Bs, BOk W B' → ∀ Y : Cx, XBk W N scope sc k Y → PE Y elt (tE B' E0 f))
    (hs : ∀ x, foldedSetIterable iter X.env x = pure x) : PE X (.ListComp elt [⟨tg, iter, ifs, 0⟩] scope pos) (tO B E (evLc (own.map (·.2)) s t u f)) :=
  do_lc hX.calm hX.nN hi (by rw [hX.hN, hX.hsc]; exact blkOk_by ok) (fun j hj => of_decide_eq_true (List.all_eq_true.mp hw j hj)) (fun B' l _ _ _ _ _ => hg B' (hB.le wo l) _ (xbk wo hX)) (fun B' l _ _ _ _ _ => ht B' (hB.le wo l) _ (xbk wo hX)) (fun B' l _ _ _ _ _ => he B' (hB.le wo l) _ (xbk wo hX)) hs
theorem q_ownLc {y : Str} {py spos : Pos} (hy : decide (N[i]? = some y) = true) (hyl : decide (sc.names.lookup y = some .local) = true) (hsw : (py.line == pos.line) = true) (hno : (scope.names.any fun (n, k) => n == y && (k == .local || k == .cell)) = false) (hkf : decide (sc.kind = .function) = true)
    (wo : WOk W) (hX : XIs W N sc k E X) (hB : BOk W B) (hi : PI X tg iter (tI B E s)) (ok : blkC N sc scope own = true) (hw : (ws.all fun j => decide (j ∈ own.map (·.2))) = true)
    (hg : ∀ B' : Bs, BOk W B' → ∀ Y : Cx, XBk W N scope sc k Y → PG Y tg (tG1 B' ws t)) (ht : ∀ B' : Bs, BOk W B' → ∀ Y : Cx, XBk W N scope sc k Y → PTs Y ifs (tT B' E0 u)) (he : ∀ B' : Bs, BOk W B' → ∀ Y : Cx, XBk W N scope sc k Y → PE Y elt (tE B' E0 f))
    (hs : ∀ x, foldedSetIterable iter X.env x = pure x) : PS X (.Assign [.Name y py] (.ListComp elt [⟨tg, iter, ifs, 0⟩] scope pos) spos) (tS B E (stOwn i (evLc (own.map (·.2)) s t u f))) :=
  ds_ownLc hX.calm hX.nN (hX.nm hy) (hX.lc hyl) (sw_true (by rw [hX.hsc]; exact of_decide_eq_true hkf) (hX.lc hyl) hsw hno) hi (by rw [hX.hN, hX.hsc]; exact blkOk_by ok) (fun j hj => of_decide_eq_true (List.all_eq_true.mp hw j hj)) (fun B' l _ _ _ _ _ => hg B' (hB.le wo l) _ (xbk wo hX)) (fun B' l _ _ _ _ _ => ht B' (hB.le wo l) _ (xbk wo hX)) (fun B' l _ _ _ _ _ => he B' (hB.le wo l) _ (xbk wo hX)) hs
end
/-! a, b = e, f by names -/
section
variable {i2 i3 : Nat} {y z : Str} {px py pz pt : Pos} {kt k2 : Nat} {pt2 : Pos} {gm : List Sl → R (List (Bool × D) × List Sl)}
theorem swSt {t : Expr} {v : Expr} {o : Option (List Str)} (hX : XIs W N sc k E X) (h : ∀ env : Env, swappedStores [t] v { env with scope := sc } = pure o) : swappedStores [t] v X.env = pure o := scP (P := fun env => swappedStores [t] v env = pure o) hX h
theorem q_par (hX : XIs W N sc k E X) (h1 : decide (N[i]? = some x ∧ N[i2]? = some y ∧ i ≠ i2) = true) (hx : decide (sc.names.lookup x = some .local ∧ sc.names.lookup y = some .local) = true)
    (hw : ∀ env : Env, swappedStores [.Tuple [.Name x px, .Name y py] kt pt] (.Tuple [a, b] k2 pt2) { env with scope := sc } = pure (some [x, y])) (hs : swapsWithSole [.Tuple [.Name x px, .Name y py] kt pt] (.Tuple [a, b] k2 pt2) pos.line X.env = pure false) (ha : PA X [a, b] (tG rMx B E gm)) :
    PS X (.Assign [.Tuple [.Name x px, .Name y py] kt pt] (.Tuple [a, b] k2 pt2) pos) (tS B E (stPar [i, i2] gm)) := by
  have h1 := of_decide_eq_true h1
  have h2 := of_decide_eq_true hx
  exact ds_par hX.calm hX.nN (by rw [hX.hN]; exact h1.1) (by rw [hX.hN]; exact h1.2.1) h1.2.2 (by rw [hX.hsc]; exact h2.1) (by rw [hX.hsc]; exact h2.2) ha (swSt hX hw) hs
theorem q_par3 (hX : XIs W N sc k E X) (h1 : decide (N[i]? = some x ∧ N[i2]? = some y ∧ N[i3]? = some z ∧ i ≠ i2 ∧ i ≠ i3 ∧ i2 ≠ i3) = true) (hx : decide (sc.names.lookup x = some .local ∧ sc.names.lookup y = some .local ∧ sc.names.lookup z = some .local) = true)
    (hw : ∀ env : Env, swappedStores [.Tuple [.Name x px, .Name y py, .Name z pz] kt pt] (.Tuple [a, b, c] k2 pt2) { env with scope := sc } = pure (some [x, y, z])) (hs : swapsWithSole [.Tuple [.Name x px, .Name y py, .Name z pz] kt pt] (.Tuple [a, b, c] k2 pt2) pos.line X.env = pure false) (ha : PA X [a, b, c] (tG rMx B E gm)) :
    PS X (.Assign [.Tuple [.Name x px, .Name y py, .Name z pz] kt pt] (.Tuple [a, b, c] k2 pt2) pos) (tS B E (stPar [i, i2, i3] gm)) := by
  have h1 := of_decide_eq_true h1
  have h2 := of_decide_eq_true hx
  exact ds_par3 hX.calm hX.nN (by rw [hX.hN]; exact h1.1) (by rw [hX.hN]; exact h1.2.1) (by rw [hX.hN]; exact h1.2.2.1) h1.2.2.2.1 h1.2.2.2.2.1 h1.2.2.2.2.2 (by rw [hX.hsc]; exact h2.1) (by rw [hX.hsc]; exact h2.2.1) (by rw [hX.hsc]; exact h2.2.2) ha (swSt hX hw) hs
end
/-! slices -/
theorem q_sl {lo hi : Option Expr} {p q : Option (List Sl → R (D × List Sl))} {p2 : Pos} (hX : XIs W N sc k E X) (hB : BOk W B) (ha : PE X a (tE B E f)) (hp : PartOk X B E lo p) (hq : PartOk X B E hi q) : PE X (.Subscript a (.Slice lo hi none p2) pos) (tE B E (evSl3 f p q)) := by
  refine weakE (pe_frz2 (pe_slice (sl_list.or (sl_tupA.or sl_str)) ha (part_po hp) (part_po hq))) fun σ H Q ⟨Fz, ρ, I, h⟩ => ?_
  refine monoG (fin_sl (α := D) I h) fun x H1 h1 => monoG h1 fun l H2 h2 => monoG h2 fun u H3 ⟨F3, ρ3, d, z, I3, d3, e, b⟩ => ?_
  have hK := hX.kk hB
  unfold slA slLO at e
  cases d3 with
  | lst q l =>
    cases e
    exact .inl ⟨_, _, rfl, hK ▸ q.l, BackO.lst I3 (cutV_den l _ _) (backO_frz rfl b)⟩
  | tup q l =>
    cases e
    refine .inr (.inl ⟨_, _, rfl, hK ▸ q.t, fun hw => ?_, fun hw => ?_⟩)
    · refine .inl (b _ H3 F3 I3 .refl ?_)
      have hl := l.length
      rw [hl] at hw
      have e2 : cutL _ _ _ = _ := de_sl.cut_whole hw
      rw [e2]
      exact .tup q l
    · exact fun p hp => .inl (Back.tup I3 (cutV_den l _ _) b p hp)
  | str y =>
    have e : (if okLen y.length = true then some (D.str (cutS y _ _)) else none) = some z := e
    obtain ⟨hz, e⟩ := if_some e
    subst e
    exact .inr (.inr ⟨_, rfl, of_decide_eq_true hz, .inl (b _ H3 F3 I3 .refl (.str _))⟩)
  | _ => cases e
end
end Dx

set_option Elab.async false
set_option linter.all false
set_option maxRecDepth 100000
set_option maxHeartbeats 1000000
namespace Dx
open PySem PySem.Spec PyProof.Rows L2

/-! ### methods of texts -/
def strsD : List D → Option (List Str)
  | [] => some []
  | .str x :: l => (strsD l).map fun r => x :: r
  | _ => none
theorem strsD_of {K : Frag} {Fz : Addr → Prop} {H : Hp} : ∀ {l : List D} {ys : List Str} {vs : List V}, strsD l = some ys → DenL K Fz H vs l → vs = ys.map V.str
  | [], _, _, e, .nil => by cases e; rfl
  | d :: l, ys, _, e, .cons h t => by
    cases d with
    | str x =>
      obtain ⟨r, e1, e2⟩ := map_some (show (strsD l).map (fun r => x :: r) = some ys from e)
      subst e2
      cases h
      rw [strsD_of e1 t]; rfl
    | _ => cases e
theorem denL_strs {K : Frag} {Fz : Addr → Prop} {H : Hp} : ∀ ys : List Str, DenL K Fz H (ys.map V.str) (ys.map D.str)
  | [] => .nil
  | y :: ys => .cons (.str y) (denL_strs ys)
def evM1 (F : D → D → Option D) (f g : List Sl → R (D × List Sl)) : List Sl → R (D × List Sl) := ev2 F f g
def isStr : D → Bool
  | .str _ => true
  | _ => false
def evS1 (F : D → D → Option D) (f g : List Sl → R (D × List Sl)) (ρ : List Sl) : R (D × List Sl) := (f ρ).bind fun p => if isStr p.1 then (g p.2).bind fun q => (ofO (F p.1 q.1)).bind fun z => .ok (z, q.2) else .bad
def splitO (x y : D) : Option D := match x, y with
  | .str a, .str b => if !(b.length == 0) && decide (a.length + 2 ≤ sizeLine) then some (.lst ((Txt.split a b).map .str)) else none
  | _, _ => none
def joinO (x y : D) : Option D := match x, y with
  | .str a, .lst l => (strsD l).bind fun ys => if decide ((ys.map (·.length)).sum + ys.length * a.length ≤ 16777216) then some (.str (Txt.join a ys)) else none
  | .str a, .tup l => (strsD l).bind fun ys => if decide ((ys.map (·.length)).sum + ys.length * a.length ≤ 16777216) then some (.str (Txt.join a ys)) else none
  | _, _ => none
def evSplit (f g : List Sl → R (D × List Sl)) : List Sl → R (D × List Sl) := evS1 splitO f g
def evJoin (f g : List Sl → R (D × List Sl)) : List Sl → R (D × List Sl) := evS1 joinO f g
section
variable {W : Wd} {N : List Str} {sc : Scope} {k j : Nat} {E : XK} {X : Cx} {B : Bs} {a b c e o : Expr} {es : List Expr} {f g h : List Sl → R (D × List Sl)} {u v : List Sl → R (Bool × List Sl)} {l : List Sl → R (List D × List Sl)} {pos p p2 np cpos apos : Pos} {i : Nat} {x : Str} {kk : Nat}
theorem isStr_of {d : D} (h : isStr d = true) : ∃ x, d = .str x := by
  cases d with
  | str x => exact ⟨x, rfl⟩
  | _ => cases h
theorem q_split (hX : XIs W N sc k E X) (hB : BOk W B) (hbase : attributeBase o "split" X.env (eval o X.env) = eval o X.env)
    (hfew : ((backTo cpos (starEach [e] X.env)).all (fun x => !x.1) && (backToKw cpos (keywordEach [] X.env)).all (fun x => x.1.isSome) && decide ([e].length + ([] : List Keyword).length + (if ([] : List Keyword).isEmpty then 0 else 1) < 30)) = true)
    (hline : (apos.endLine == cpos.line) = true) (hs : nsE e = true) (ho : PE X o (tE B E f)) (he : PE X e (tE B E g)) : PE X (.Call (.Attribute o "split" apos) [e] [] cpos) (tO B E (evSplit f g)) :=
  weakE (pe_bm PySem.F.plainAttrs_str PySem.F.slot_str_split PySem.F.type_str_split mt_split ho (pa_cons he pa_nil (star_cons hs)) hbase hfew hline (star_cons hs) (noStar_any rfl)) fun σ H Q ⟨Fz, ρ, I, q⟩ => by
    refine monoG (tG_bind I q) fun x H1 ⟨F1, ρ1, dx, I1, d1, g1, e1, q1⟩ => ?_
    obtain ⟨hx, q1⟩ := fin_if q1
    obtain ⟨z, rfl⟩ := isStr_of hx
    cases (show Den B.K F1 H1 x (.str z) from d1)
    refine ⟨rfl, monoG (tG_bind I1 q1) fun y H2 ⟨F2, ρ2, dy, I2, d2, g2, e2, q2⟩ => ?_⟩
    obtain ⟨w, ew, q3⟩ := fin_o q2
    cases dy with
    | str b =>
      cases (show Den B.K F2 H2 y (.str b) from d2)
      obtain ⟨hc, ew⟩ := if_some (show (if (!(b.length == 0) && decide (z.length + 2 ≤ sizeLine)) = true then some (D.lst ((Txt.split z b).map .str)) else none) = some w from ew)
      subst ew
      rw [Bool.and_eq_true, Bool.not_eq_true'] at hc
      exact ⟨z, b, rfl, rfl, hc.1, of_decide_eq_true hc.2, BackO.lst I2 (denL_strs _) q3⟩
    | _ => cases ew
theorem q_join (hX : XIs W N sc k E X) (hB : BOk W B) (hbase : attributeBase o "join" X.env (eval o X.env) = eval o X.env)
    (hfew : ((backTo cpos (starEach [e] X.env)).all (fun x => !x.1) && (backToKw cpos (keywordEach [] X.env)).all (fun x => x.1.isSome) && decide ([e].length + ([] : List Keyword).length + (if ([] : List Keyword).isEmpty then 0 else 1) < 30)) = true)
    (hline : (apos.endLine == cpos.line) = true) (hs : nsE e = true) (ho : PE X o (tE B E f)) (he : PE X e (tE B E g)) : PE X (.Call (.Attribute o "join" apos) [e] [] cpos) (tE B E (evJoin f g)) :=
  weakE (pe_bm PySem.F.plainAttrs_str PySem.F.slot_str_join PySem.F.type_str_join mt_join ho (pa_cons he pa_nil (star_cons hs)) hbase hfew hline (star_cons hs) (noStar_any rfl)) fun σ H Q ⟨Fz, ρ, I, q⟩ => by
    refine monoG (tG_bind I q) fun x H1 ⟨F1, ρ1, dx, I1, d1, g1, e1, q1⟩ => ?_
    obtain ⟨hx, q1⟩ := fin_if q1
    obtain ⟨z, rfl⟩ := isStr_of hx
    cases (show Den B.K F1 H1 x (.str z) from d1)
    refine ⟨rfl, monoG (tG_bind I1 q1) fun y H2 ⟨F2, ρ2, dy, I2, d2, g2, e2, q2⟩ => ?_⟩
    obtain ⟨w, ew, q3⟩ := fin_o q2
    have hK := hX.kk hB
    have d2 : Den B.K F2 H2 y dy := d2
    have gen : ∀ {ds : List D} {vs : List V}, (strsD ds).bind (fun ys => if decide ((ys.map (·.length)).sum + ys.length * z.length ≤ 16777216) = true then some (D.str (Txt.join z ys)) else none) = some w → DenL B.K F2 H2 vs ds →
        ∃ ys, vs = ys.map V.str ∧ (ys.map (·.length)).sum + ys.length * z.length ≤ 16777216 ∧ w = .str (Txt.join z ys) := fun {ds vs} e dl => by
      obtain ⟨ys, e1, e2⟩ := bind_some e
      obtain ⟨hc, e2⟩ := if_some e2
      exact ⟨ys, strsD_of e1 dl, of_decide_eq_true hc, e2.symm⟩
    cases d2 with
    | lst q l =>
      obtain ⟨ys, rfl, h1, rfl⟩ := gen ew l
      exact ⟨z, _, ys, rfl, rfl, .inl (hK ▸ q.l), h1, q3 _ H2 F2 I2 .refl (.str _)⟩
    | tup q l =>
      obtain ⟨ys, rfl, h1, rfl⟩ := gen ew l
      exact ⟨z, _, ys, rfl, rfl, .inr (hK ▸ q.t), h1, q3 _ H2 F2 I2 .refl (.str _)⟩
    | _ => cases ew
/-! {} -/
def evDic0 (ρ : List Sl) : R (D × List Sl) := .ok (.dic [], ρ)
theorem do_dic0 : PE X (.Dict [] [] pos) (tO B E evDic0) :=
  weakE pe_dnewK fun σ H Q ⟨Fz, ρ, I, q⟩ p hp => by
    obtain ⟨I2, g2, ap, h0, nz⟩ := I.laid hp (.dK [])
    exact q _ _ Fz I2 g2 ⟨p, rfl, ⟨[], upd_same, .nil⟩, h0, ap⟩
/-! list of a variable that need not be shared -/
def evListV (i : Nat) (ρ : List Sl) : R (D × List Sl) := (ofO (viewD ρ i)).bind fun d => (ofO (listO [d])).bind fun z => .ok (z, ρ)
theorem q_listv (hX : XIs W N sc k E X) (hB : BOk W B) (hm : W.mg "list" = none) (o : GOk X sc "list") (o2 : VOk X i x) : PE X (.Call (.Name "list" p) [.Name x np] [] pos) (tO B E (evListV i)) :=
  weakE (pe_callTy call_list_of o.g (hX.noName hm) rfl (pa_cons (pe_var o2.n o2.v o2.d o2.c) pa_nil) (by decide) (by decide) rfl rfl) fun σ H Q ⟨Fz, ρ, I, q⟩ => by
    obtain ⟨d, e2, q2⟩ := fin_o q
    obtain ⟨z, e3, q3⟩ := fin_o q2
    obtain ⟨c, hs, vw⟩ := view_of I e2
    have hK := hX.kk hB
    refine ⟨c, hs, ?_⟩
    rcases vw with vw | ⟨a, rfl, bw⟩
    · exact r_list (K := X.K) B Fz H σ ρ [c] [d] z Q hK I (.cons vw .nil) e3 q3
    · cases d with
      | lst ds =>
        cases e3
        obtain ⟨vs, rd, l⟩ := bw
        exact ⟨a, vs, rfl, .inl (.inl rd), BackO.lst I l q3⟩
      | _ => first | exact bw.elim | cases e3
/-! isinstance -/
def tyS : D → Option String
  | .non => some "NoneType"
  | .bl _ => some "bool"
  | .int _ => some "int"
  | .str _ => some "str"
  | .tup _ => some "tuple"
  | .lst _ => some "list"
  | .dic _ => some "dict"
  | _ => none
/-- the answers for a class: by the names of built-in types, by those of own classes -/
structure IsiT where
  ty : List (String × Bool)
  ins : List (Str × Bool)
def isiF (t : IsiT) (d : D) : Option D := match d with
  | .ins c _ => (t.ins.lookup c).map .bl
  | d => (tyS d).bind fun s => (t.ty.lookup s).map .bl
def evIsi (t : IsiT) (f : List Sl → R (D × List Sl)) (ρ : List Sl) : R (D × List Sl) := (f ρ).bind fun p => (ofO (isiF t p.1)).bind fun z => .ok (z, p.2)
/-- what the class must have so that its instances can be asked -/
structure InsTy (W : Wd) (c : Str) : Prop where
  cls : Cls W.K (He.ga W.K c)
  a : PySem.W.findIn W.K (.ref (He.ga W.K c)) "__class__" = some (some (.builtin "object.__class__"))
  m : PySem.W.mroIn W.K (He.ga W.K c) (.type "object") = some true
structure IsiOk (W : Wd) (t : IsiT) (u : Value) : Prop where
  ty : ∀ p ∈ t.ty, PySem.W.kitOne W.K (.type p.1) u = some p.2
  ins : ∀ p ∈ t.ins, InsTy W p.1 ∧ PySem.W.kitOne W.K (.ref (He.ga W.K p.1)) u = some p.2
  hn : PySem.W.specialIn W.K (.builtin "object.__class__") "__get__" = some (some (.builtin "getset_descriptor.__get__"))
  htk : PySem.W.takesIn W.K (.builtin "object.__class__") = some true
theorem lookup_memS {β : Type} {tab : List (String × β)} {c : String} {F : β} (h : tab.lookup c = some F) : (c, F) ∈ tab := by
  induction tab with
  | nil => cases h
  | cons p r ih =>
    obtain ⟨c', F'⟩ := p
    rw [List.lookup_cons] at h
    cases e : c == c' with
    | true => rw [e] at h; cases h; rw [beq_iff_eq.mp e]; exact List.mem_cons_self
    | false => rw [e] at h; exact List.mem_cons_of_mem _ (ih h)
theorem lookup_memB {β : Type} {tab : List (Str × β)} {c : Str} {F : β} (h : tab.lookup c = some F) : (c, F) ∈ tab := by
  induction tab with
  | nil => cases h
  | cons p r ih =>
    obtain ⟨c', F'⟩ := p
    rw [List.lookup_cons] at h
    cases e : c == c' with
    | true => rw [e] at h; cases h; rw [beq_iff_eq.mp e]; exact List.mem_cons_self
    | false => rw [e] at h; exact List.mem_cons_of_mem _ (ih h)
theorem isi_ty {Fz : Addr → Prop} {H : Hp} {v : V} {d z : D} {t : IsiT} {u : Value} (ok : IsiOk W t u) (h : Den W.K Fz H v d) (e : isiF t d = some z) : ∃ (tv : Value) (r : Bool), TyX W.K H v tv ∧ PySem.W.kitOne W.K tv u = some r ∧ z = .bl r := by
  have bt : ∀ {s : String}, tyS d = some s → (∀ c fs, d ≠ .ins c fs) → ∃ r, PySem.W.kitOne W.K (.type s) u = some r ∧ z = .bl r := fun {s} es n => by
    have e' : (tyS d).bind (fun s => (t.ty.lookup s).map .bl) = some z := by
      cases d with
      | ins c fs => exact (n c fs rfl).elim
      | _ => exact e
    rw [es] at e'
    obtain ⟨r, e1, e2⟩ := map_some (show (t.ty.lookup s).map D.bl = some z from e')
    exact ⟨r, ok.ty _ (lookup_memS e1), e2.symm⟩
  cases h with
  | non => obtain ⟨r, h1, h2⟩ := bt rfl (fun _ _ z => by cases z); exact ⟨_, r, .base .non, h1, h2⟩
  | bl b => obtain ⟨r, h1, h2⟩ := bt rfl (fun _ _ z => by cases z); exact ⟨_, r, .base (.bl b), h1, h2⟩
  | int n => obtain ⟨r, h1, h2⟩ := bt rfl (fun _ _ z => by cases z); exact ⟨_, r, .base (.int n), h1, h2⟩
  | str y => obtain ⟨r, h1, h2⟩ := bt rfl (fun _ _ z => by cases z); exact ⟨_, r, .base (.str y), h1, h2⟩
  | tup q l =>
    obtain ⟨r, h1, h2⟩ := bt rfl (fun _ _ z => by cases z)
    rcases q with q | ⟨ob, its, n, lk, hc, _⟩
    · exact ⟨_, r, .base (.tup q), h1, h2⟩
    · exact ⟨_, r, .kTuple lk hc, h1, h2⟩
  | lst q l =>
    obtain ⟨r, h1, h2⟩ := bt rfl (fun _ _ z => by cases z)
    obtain ⟨ob, q⟩ := q
    exact ⟨_, r, .base (.frz q), h1, h2⟩
  | dic q l => obtain ⟨r, h1, h2⟩ := bt rfl (fun _ _ z => by cases z); exact ⟨_, r, .fDict q, h1, h2⟩
  | @ins a dx c fs ds fz q l =>
    obtain ⟨r, e1, e2⟩ := map_some (show (t.ins.lookup c).map D.bl = some z from e)
    obtain ⟨it, h1⟩ := ok.ins _ (lookup_memB e1)
    exact ⟨_, r, .base (.ins q it.cls it.a ok.hn ok.htk it.m), h1, e2.symm⟩
  | exn _ _ _ => cases e
theorem t_isi {t : IsiT} {uv : Value} {cv : V} {σ : L2.St} {H : Hp} {Q : VK} (hX : XIs W N sc k E X) (hB : BOk W B) (ok : IsiOk W t uv) (kc : ClsV cv uv) (h : tE B E (evIsi t f) σ H Q) : tCB (rIsi X.K) (tCons (tE B E f) (tCons (tC cv) tNil)) σ H Q := by
  obtain ⟨Fz, ρ, I, q⟩ := h
  refine monoG (tG_bind I q) fun v H1 ⟨F1, ρ1, d, I1, d1, g1, e1, q1⟩ => ?_
  obtain ⟨z, ez, q2⟩ := fin_o q1
  have d1 : Den W.K F1 H1 v d := by have d1 : Den B.K F1 H1 v d := d1; rw [hB.K] at d1; exact d1
  obtain ⟨tv, r, h1, h2, rfl⟩ := isi_ty ok d1 ez
  exact ⟨v, cv, tv, uv, r, rfl, kc, by rw [hX.hK]; exact h1, by rw [hX.hK]; exact h2, q2 _ H1 F1 I1 .refl (.bl r)⟩
theorem q_isiB {t : IsiT} {n : String} {y : Str} (hX : XIs W N sc k E X) (hB : BOk W B) (hm : W.mg "isinstance" = none) (o : GOk X sc "isinstance") (ok : IsiOk W t (.type n)) (hm2 : W.mg y = none) (o2 : GOk X sc y) (hv : bootBuiltins y = some (.type n)) (hs : nsE e = true) (he : PE X e (tE B E f)) :
    PE X (.Call (.Name "isinstance" p) [e, .Name y np] [] pos) (tE B E (evIsi t f)) :=
  weakE (pe_callB call_isi o.g (hX.noName hm) rfl (pa_cons he (pa_cons (pe_bltn (v := .ty n) o2.g (hX.noName hm2) hv rfl (nn_of o2.n) o2.d) pa_nil rfl) (star_cons hs)) (by decide) (by decide) (star_cons hs) (noStar_any rfl)) fun σ H Q h => t_isi hX hB ok (.ty n) h
theorem q_isiC {t : IsiT} {y : Str} (hX : XIs W N sc k E X) (hB : BOk W B) (hm : W.mg "isinstance" = none) (o : GOk X sc "isinstance") (ok : IsiOk W t (.ref (He.ga W.K y))) (hm2 : W.mg y = some (.ref (He.ga W.K y))) (o2 : GOk X sc y) (hs : nsE e = true) (he : PE X e (tE B E f)) :
    PE X (.Call (.Name "isinstance" p) [e, .Name y np] [] pos) (tE B E (evIsi t f)) :=
  weakE (pe_callB call_isi o.g (hX.noName hm) rfl (pa_cons he (pa_cons (pe_glob (v := .ref (He.ga W.K y)) o2.g (by rw [hX.hmg]; exact hm2) rfl o2.d) pa_nil rfl) (star_cons hs)) (by decide) (by decide) (star_cons hs) (noStar_any rfl)) fun σ H Q h => t_isi hX hB ok (.own _) h
end
end Dx

set_option Elab.async false
set_option linter.all false
set_option maxRecDepth 100000
set_option maxHeartbeats 1000000
namespace Dx
open PySem PySem.Spec PyProof.Rows L2

/-! ### enumerate(x, k), x a list -/
def ItF (K : Frag) (a : Addr) (c : Int) : It :=
  ⟨fun i H => ∃ (xs : List V) (x : V), SqL K H a xs ∧ xs[i]? = some x, fun i H v H' => ∃ T x, v = .ref T ∧ H T = none ∧ H' = upd H T (.tup [.int (c + (i : Nat)), x]) ∧ ∀ xs, SqL K H a xs → xs[i]? = some x, fun i H => ∃ xs : List V, SqL K H a xs ∧ xs.length = i⟩
theorem turn_from {P : Program} {w : World} {K : PySem.W.Frag} {elts : List Expr} {kk : Nat} {tpos : Pos} (a e it : Addr) (c : Int) (nea : a ≠ e) (nia : a ≠ it) :
    Turn P w K (.Tuple elts kk tpos) (ItF K a c) [e, it] e (fun i h => (∃ was, IsEnum h e it (c + (i : Nat)) was) ∧ h.IsListIter it a i ∧ e ≠ it) where
  mem := by simp
  obj := fun i h st b hb => by
    obtain ⟨⟨was, he⟩, ⟨o, ho, hc, hd⟩, _⟩ := st
    rcases List.mem_cons.mp hb with z | z
    · rw [z]; exact ⟨_, he, fun v q => nomatch q⟩
    · rw [List.mem_singleton.mp z]; exact ⟨o, ho, fun v q => by rw [hd] at q; cases q⟩
  keep := fun i h h' st k => let ⟨⟨was, he⟩, hi, hNe⟩ := st; ⟨⟨was, k e (by simp) _ he⟩, hi.at fun o q => k it (by simp) o q, hNe⟩
  item := by
    intro X hP hw hK hc i pins s σ H E I hf st hg
    subst hP hw hK
    obtain ⟨⟨was, he⟩, hIt, hNe⟩ := st
    obtain ⟨xs, x, hq, gx⟩ := hg
    obtain ⟨its, rv, p, hz⟩ := I.list hq
    obtain ⟨u, hu, ru⟩ := rv.get gx
    have hLe : e < s.heap.objs.size := Heap.lt_size he
    have hLi : it < s.heap.objs.size := by obtain ⟨_, q, _⟩ := hIt; exact Heap.lt_size q
    have dr := Draws.list (prog := X.prog) (w := X.w) (A := X.A.in1) (show X.A.in1.handled = none from I.ok.hd hc) it a nia its.toArray
    have hlt : i < its.toArray.size := by
      rw [List.size_toArray, ← rv.length]
      exact (List.getElem?_eq_some_iff.mp gx).1
    refine wpAny_pyNext_enum_itemC dr he ⟨hIt, p.isList⟩ hlt hNe (by simp [hNe, Ne.symm nea]) fun y h' tk hy ho hit' hT hsz hk => ?_
    have ey : y = u := by
      have hy : its.toArray[i]? = some y := hy
      rw [← Array.getElem?_toList] at hy
      have hy : its[i]? = some y := hy
      rw [hu] at hy
      exact (Option.some.inj hy).symm
    subst ey
    refine ⟨_, rfl, wpAny_letOwnedTupleGo_enum (s := { s with heap := h', toks := tk + 1 }) ho fun h'' he' sb => ?_⟩
    have tupAt : h''.get? s.heap.objs.size = some { cls := .type "tuple", data := .seq #[.int (c + (i : Nat)) tk, y] } := (sb.2 _ (Nat.ne_of_gt hLe)).trans hT
    have new : ObjOk X.prog X.w (upd H s.heap.objs.size (.tup [.int (c + (i : Nat)), x])) h'' s.heap.objs.size (.tup [.int (c + (i : Nat)), x]) :=
      ⟨by show 2 ≤ sizeLine; decide, [.int (c + (i : Nat)) tk, y], .cons ⟨_, rfl⟩ (.cons ru .nil), ⟨_, tupAt, rfl, _, rfl⟩⟩
    have I1 : Inv X pins σ (upd H s.heap.objs.size (.tup [.int (c + (i : Nat)), x])) { s with heap := h'', toks := tk + 1 } :=
      I.turnedNew (ch := [e, it]) (fun b ob hb q => (sb.2 b fun z => hb (z ▸ List.mem_cons_self)).trans (hk b ob (fun z => hb (z ▸ List.mem_cons_self)) (fun z => hb (z ▸ List.mem_cons_of_mem _ (List.mem_singleton.mpr rfl))) q)) hf (Nat.le_refl _) new
    refine ⟨.ref s.heap.objs.size, _, I1, rfl, ⟨_, x, rfl, I.hok.fresh (Nat.le_refl _), rfl, fun ys hy => by rw [I.list_inj hy hq]; exact gx⟩, ⟨⟨y, ?_⟩, hit'.1.at fun o q => (sb.2 it (Ne.symm hNe)).trans q, hNe⟩, fun b hb => ?_⟩
    · rw [show c + ((i + 1 : Nat) : Int) = c + (i : Int) + 1 by omega]; exact he'
    · have low : b < s.heap.objs.size := by
        rcases List.mem_cons.mp hb with z | z
        · rw [z]; exact hLe
        · rw [List.mem_singleton.mp z]; exact hLi
      rw [upd_ne (Nat.ne_of_lt low)]
      exact (hf b hb).1
  done := by
    intro X hP hw hK hc i pins s σ H E I hf st hg
    subst hP hw hK
    obtain ⟨⟨was, he⟩, hIt, hNe⟩ := st
    obtain ⟨xs, hq, gx⟩ := hg
    obtain ⟨its, rv, p, hz⟩ := I.list hq
    obtain ⟨k0, k1, k2, k3, k4, k5⟩ := hf it (by simp)
    have dr := Draws.list (prog := X.prog) (w := X.w) (A := X.A.in1) (show X.A.in1.handled = none from I.ok.hd hc) it a nia its.toArray
    have hn : i = its.toArray.size := by rw [List.size_toArray, ← rv.length]; exact gx.symm
    rw [hn] at hIt
    exact wpAny_pyNext_enum_endD dr he ⟨hIt, p.isList⟩ fun h' eb => ⟨rfl, I.turned (t' := s.toks) (fun b o hb q => eb b o hb q) k0 k1 k3 k4 k5⟩
  self := fun A i s Q E st h => let ⟨⟨_, he⟩, _⟩ := st; wpAny_pyIter_enum he h
section
variable {W : Wd} {N : List Str} {sc : Scope} {k : Nat} {E : XK} {X : Cx} {B : Bs} {e e2 : Expr} {elts : List Expr} {kk : Nat} {tpos p pos : Pos} {l : List Sl → R (List D × List Sl)}
theorem pi_from {ta : TA} (hg : Gl X "enumerate") (hm : X.mg "enumerate" = none) (ha : PA X [e, e2] ta) (hs : nsE e = true) (hs2 : nsE e2 = true) : PI X (.Tuple elts kk tpos) (.Call (.Name "enumerate" p) [e, e2] [] pos)
    (fun σ H R => ta σ H fun vs H1 => ∃ a c xs, vs = [.ref a, .int c] ∧ SqL X.K H1 a xs ∧ -(2 ^ 63) ≤ c ∧ c < 2 ^ 63 ∧ R (ItF X.K a c) H1) := by
  refine ⟨fun pins s σ H R I h => ?_⟩
  refine Call_ (ld_blt I hg hm boot_enumerate (PyProof.Rows.callWith_type1 (thn (ha.run pos pins s σ H _ I h) fun us s1 ⟨vs, H1, I1, r1, q1⟩ => ?_) (star_cons hs) (noStar_any (by simp [hs2]))))
  obtain ⟨a, c, xs, ex, hq, c1, c2, q⟩ := q1
  subst ex
  cases r1 with
  | cons r rr =>
    cases rr with
    | cons r' rr =>
      cases rr
      cases r
      obtain ⟨t, rfl⟩ := r'
      obtain ⟨its, rv, pl, hz⟩ := I1.list hq
      refine enum_begins (begins_list a its.toArray) pl.isList c1 c2 fun h' he hIt hsz hk => wpAny_pyIter_enum he ?_
      have I2 : Inv X pins σ H1 { s1 with heap := h' } := I1.kept (t' := s1.toks) hk
      have la : a < s1.heap.objs.size := pl.lt
      refine ⟨s1.heap.objs.size + 1, [s1.heap.objs.size + 1, s1.heap.objs.size], _, _, H1, rfl, I2, turn_from a (s1.heap.objs.size + 1) s1.heap.objs.size c (Nat.ne_of_lt (Nat.lt_succ_of_lt la)) (Nat.ne_of_lt la), ⟨⟨.none, by simpa using he⟩, ⟨_, hIt, rfl, rfl⟩, Nat.succ_ne_self _⟩, fun b hb => ?_, q⟩
      have up : s1.heap.objs.size ≤ b := by
        rcases List.mem_cons.mp hb with z | z
        · rw [z]; exact Nat.le_succ _
        · rw [List.mem_singleton.mp z]; exact Nat.le_refl _
      exact I1.fpOk up (I1.hok.fresh up)
theorem itOk_from {K : Frag} {Fz : Addr → Prop} {H : Hp} {a : Addr} {vs : List V} {ds : List D} {c : Int} (q : SqF K H a vs) (d : DenL K Fz H vs ds) : ItOk K (ItF K a c) (enuD c ds) Fz H := by
  have w : Walk (ItF K a c) (enuD c ds).length (fun H => SqL K H a vs) (YPair (fun i => some (.int (c + (i : Nat)))) (fun i => vs[i]?)) := by
    rw [enuD_length, ← d.length]
    refine ⟨fun i _ hi q => ⟨vs, vs[i], q, List.getElem?_eq_getElem hi⟩, fun _ q => ⟨vs, q, rfl⟩, fun i H v H' _ q ⟨T, x, h1, h2, h3, h4⟩ => ⟨T, _, x, h1, h2, h3, rfl, h4 vs q⟩⟩
  refine ⟨_, _, w, fun F' H' g => (q.mono g).l, fun i F' H' v H2 z g fz ew y => ?_⟩
  obtain ⟨T, x, y, rfl, hT, h2, ex, ez⟩ := y
  obtain ⟨dz, e2, rfl⟩ := enuD_get ew
  obtain ⟨u2, k2, den2⟩ := (d.mono g).get e2
  rw [show vs[i]? = some y from ez] at k2; cases k2
  cases ex
  exact pair_den fz hT h2 (.int _) den2
def enu2O : List D → Option (List D)
  | [.lst l, .int c] => if decide (-(2 ^ 63) ≤ c ∧ c < 2 ^ 63) then some (enuD c l) else none
  | _ => none
theorem di_from (hK : B.K = X.K) (hg : Gl X "enumerate") (hm : X.mg "enumerate" = none) (hs : nsE e = true) (hs2 : nsE e2 = true) (ha : PA X [e, e2] (tA B E l)) : PI X (.Tuple elts kk tpos) (.Call (.Name "enumerate" p) [e, e2] [] pos) (tI B E (srcL enu2O l)) :=
  weakPI (pi_from hg hm ha hs hs2) fun σ H R ⟨Fz, ρ, I, q⟩ => by
    refine monoG (tG_bind I q) fun x H1 ⟨F1, ρ1, dx, I1, d1, g1, e1, q1⟩ => ?_
    obtain ⟨z, ez, q2⟩ := fin_o q1
    have fin : ∀ J, ItOk B.K J z F1 H1 → R J H1 := fun J h => q2 J H1 F1 I1 .refl h
    rw [hK] at fin
    have d1 : DenL X.K F1 H1 x dx := hK ▸ d1
    have ez' : enu2O dx = some z := ez
    unfold enu2O at ez'
    split at ez'
    · obtain ⟨hc, rfl⟩ := if_some ez'
      have hc := of_decide_eq_true hc
      obtain ⟨v, w, rfl, dv, dw⟩ := denL2 d1
      cases dw
      cases dv with
      | lst q1 l1 => exact ⟨_, _, _, rfl, q1.l, hc.1, hc.2, fin _ (itOk_from q1 l1)⟩
    · cases ez'
/-! list(range(n)) -/
def rgO : D → Option D
  | .int n => if decide (-(2 ^ 62) ≤ n ∧ n ≤ 16777216) then some (.lst (rngD 0 n.toNat)) else none
  | _ => none
def evRg (f : List Sl → R (D × List Sl)) (ρ : List Sl) : R (D × List Sl) := (f ρ).bind fun p => (ofO (rgO p.1)).bind fun z => .ok (z, p.2)
theorem den_rg {K : Frag} {Fz : Addr → Prop} {H : Hp} (n : Int) : DenL K Fz H (rgV 0 n) (rngD 0 n.toNat) := by
  have gen : ∀ l : List Nat, DenL K Fz H (l.map fun i => V.int (0 + (i : Nat))) (l.map fun (i : Nat) => D.int (0 + i)) := by
    intro l
    induction l with
    | nil => exact .nil
    | cons a r ih => exact .cons (.int _) ih
  unfold rgV rngD
  rw [Int.sub_zero]
  exact gen _
theorem q_listrg {f : List Sl → R (D × List Sl)} {p2 pos2 : Pos} (hX : XIs W N sc k E X) (hB : BOk W B) (hm : W.mg "list" = none) (o : GOk X sc "list") (hm2 : W.mg "range" = none) (o2 : GOk X sc "range") (hs : nsE e = true) (ha : PE X e (tE B E f)) :
    PE X (.Call (.Name "list" p) [.Call (.Name "range" p2) [e] [] pos2] [] pos) (tO B E (evRg f)) :=
  weakE (pe_listRg hX.calm o.g (hX.noName hm) (prg_1 o2.g (hX.noName hm2) ha (star_cons hs))) fun σ H Q ⟨Fz, ρ, I, q⟩ => by
    refine monoG (tG_bind I q) fun x H1 ⟨F1, ρ1, dx, I1, d1, g1, e1, q1⟩ => ?_
    obtain ⟨z, ez, q2⟩ := fin_o q1
    cases dx with
    | int n =>
      cases (show Den B.K F1 H1 x (.int n) from d1)
      obtain ⟨hc, ez⟩ := if_some (show (if decide (-(2 ^ 62) ≤ n ∧ n ≤ 16777216) = true then some (D.lst (rngD 0 n.toNat)) else none) = some z from ez)
      subst ez
      have hc := of_decide_eq_true hc
      exact ⟨n, rfl, ⟨by decide, by decide, hc.1, by omega, by omega⟩, BackO.lst I1 (den_rg n) q2⟩
    | _ => cases ez
end
end Dx

set_option Elab.async false
set_option linter.all false
set_option maxRecDepth 100000
set_option maxHeartbeats 4000000
/-! len(set(texts)) -/
namespace Dx
open PySem PySem.Spec PyProof.Rows L2

/-- how many of the first i texts are unlike -/
def cntS (ys : List Str) : Nat → Nat
  | 0 => 0
  | i + 1 => if (ys.take i).any (· == ys.getD i Str.empty) then cntS ys i else cntS ys i + 1
theorem cntS_le (ys : List Str) : ∀ i, cntS ys i ≤ i
  | 0 => Nat.le_refl _
  | i + 1 => by
    have := cntS_le ys i
    unfold cntS
    split <;> omega
abbrev hasS (ys : List Str) (i : Nat) : Str → Bool := fun q => (ys.take i).any (· == q)
theorem hasS_succ {ys : List Str} {i : Nat} (h : i < ys.length) (q : Str) : (hasS ys i q || decide (q = ys.getD i Str.empty)) = hasS ys (i + 1) q := by
  unfold hasS
  rw [List.take_add_one, List.getElem?_eq_getElem h, List.any_append, List.getD_eq_getElem?_getD, List.getElem?_eq_getElem h]
  show (_ || decide (q = ys[i])) = (_ || [ys[i]].any (· == q))
  congr 1
  rw [List.any_cons, List.any_nil, Bool.or_false]
  by_cases e : q = ys[i]
  · subst e; simp
  · have n : (ys[i] == q) = false := by rw [beq_eq_false_iff_ne]; exact fun z => e z.symm
    rw [n]; exact decide_eq_false e
section
variable {prog : Program} {w : World} {A : Around} {R : Result → Shared → Prop} {I Z : Addr} {fp wr : List Addr} {G : Array GenState → Array GenState → Prop} {n : Nat} {P : Nat → Value → Prop} {St : Nat → Shared → Prop}
/-- the loop that puts the texts into the set at Z -/
theorem set_loop (W : WalksS prog w A.in1 I fp wr G n P St) (off : Z ∉ fp) (ys : List Str) (len : ys.length = n) (few : n + 1 < scanBound) (val : ∀ i v, P i v → ∃ t, v = .str (ys.getD i Str.empty) t) :
    ∀ (m i : Nat) (s : Shared), n - i = m → i ≤ n → St i s → s.heap.SetOf (strKind prog w) Z (hasS ys i) (cntS ys i) →
      (∀ s', Moved (Z :: wr) G s s' → s'.heap.SetOf (strKind prog w) Z (hasS ys n) (cntS ys n) → R (.ok (.ret .none)) s') → codeAny (model prog w) A (.builtin "set.update.loop" ⟨[.ref Z, .ref I], []⟩) R s := by
  have offW : Z ∉ wr := fun h => off (W.sub _ h)
  have inW : ∀ b ∈ wr, b ∈ Z :: wr := fun b => List.mem_cons_of_mem _
  have carry : ∀ {S : Str → Bool} {c : Nat} {h h' : Heap}, (∀ o, h.get? Z = some o → h'.get? Z = some o) → h.SetOf (strKind prog w) Z S c → h'.SetOf (strKind prog w) Z S c := fun k ⟨o, es, ep, t, ho, r⟩ => ⟨o, es, ep, t, k o ho, r⟩
  intro m
  induction m with
  | zero =>
    intro i s e le st set fin
    obtain rfl : i = n := by omega
    refine codeAny_builtin PyProof.Rows.F.entry_set_update_loop ?_
    rw [Around.under_plainId PyProof.Rows.F.plain_set_update_loop _]
    show wpAny _ A.in1 (pyNext (.ref I) >>= _) _ _ s
    exact wpAny_bind (W.done s _ _ st fun s' mv => wpAny_pure (fin s' (mv.mono inW) (carry (mv.heap Z · offW) set)))
  | succ m ih =>
    intro i s e le st set fin
    have lt : i < n := by omega
    refine codeAny_builtin PyProof.Rows.F.entry_set_update_loop ?_
    rw [Around.under_plainId PyProof.Rows.F.plain_set_update_loop _]
    show wpAny _ A.in1 (pyNext (.ref I) >>= _) _ _ s
    refine wpAny_bind (W.item i s _ _ lt st fun v s' hv st' mv => ?_)
    obtain ⟨t, rfl⟩ := val i v hv
    have set' := carry (mv.heap Z · offW) set
    show wpAny _ A.in1 (holding [Value.str (ys.getD i Str.empty) t] (setAdd Z (.str (ys.getD i Str.empty) t)) >>= _) _ _ s'
    refine wpAny_bind (wpAny_holding ?_)
    unfold setAdd
    refine wpAny_holding (wpAny_bind ((strKind prog w).pyHash (k := ys.getD i Str.empty) (strKind_is _ _ _ _) ?_))
    refine wpAny_setAddHashed_of (knd := strKind prog w) (s := { s' with toks := s'.toks + 1 }) (strKind_is _ _ _ _) rfl set' (by have := cntS_le ys i; omega) fun h' same set2 => ?_
    have set3 : h'.SetOf (strKind prog w) Z (hasS ys (i + 1)) (cntS ys (i + 1)) := SetOf_congr set2 (fun q => hasS_succ (by omega) q) rfl
    refine wpAny_pure ⟨plainId_quiet PyProof.Rows.F.plain_set_update_loop _, ih (i + 1) _ (by omega) lt (W.frame _ s' _ _ st' (Nat.le_succ _) fun b hb o eb => ?_) set3 fun s2 mv2 set4 => ?_⟩
    · exact (same.2 b fun z : b = Z => off (z ▸ hb)).trans eb
    · exact fin s2 (Moved.trans W.gtrans ((mv.mono inW).then_heap (Nat.le_succ _) fun b o nb eb => (same.2 b fun z : b = Z => nb (z ▸ List.mem_cons_self)).trans eb) mv2) set4
end
section
variable {prog : Program} {w : World} {A : Around} {E : Value → Shared → Prop} {s : Shared}
abbrev newSetO (led : Bool) : Obj := { cls := .type "set", dict := none, data := .set #[] 0 (.fresh 0 0 led) }
theorem setOf_list {l : Addr} {items : Array Value} {ys : List Str} {Q : Value → Shared → Prop} (quiet : A.handled = none) (src : s.heap.IsList l items) (txts : PyProof.Rows.StrsAre items.toList ys) (few : ys.length + 1 < scanBound)
    (fin : ∀ (h' : Heap) (tk : Nat), h'.SetOf (strKind prog w) s.heap.objs.size (hasS ys ys.length) (cntS ys ys.length) → (∀ b o, b < s.heap.objs.size → s.heap.get? b = some o → h'.get? b = some o) → Q (.ref s.heap.objs.size) { s with heap := h', toks := tk }) :
    wpAny (model prog w) A (call (.type "set") [.ref l]) Q E s := by
  obtain ⟨c, tl, mro⟩ := PySem.F.called_set.mro
  have made := PySem.F.called_set.made
  have sub := PySem.F.called_set.sub
  have len : ys.length = items.size := by rw [← StrsAre.len_eq txts, Array.length_toList]
  have val : ∀ (i : Nat) (v : Value), items[i]? = some v → ∃ t, v = .str (ys.getD i Str.empty) t := fun i v hv => SS.strs_at txts i v (by rw [Array.getElem?_toList]; exact hv)
  refine wpAny_call (codeAny_of_tree (show wpAny _ _ (callAny (.type "set") _) _ _ _ from wpAny_pure ⟨Code.quiet_builtin _ (by decide +kernel), codeAny_builtin PySem.F.entry_type_call ?_⟩))
  rw [Around.under_plain (weight_type_call_type "set" [.ref l] []) rfl]
  have nt := PySem.F.called_set.notType
  have cc := PySem.F.called_set.canCreate
  have tc := PySem.F.typeCall_set_1 (.ref l)
  repeat (any_goals (first | assumption | wp_step))
  refine codeAny_mono (code_set_new_1 (.ref l) (E := E) (Q₁ := fun obj s1 => ∃ led : Bool, obj = .ref s.heap.objs.size ∧ s1 = { s with heap := s.heap.push (newSetO led) }) fun led => ⟨led, rfl, rfl⟩) fun r s1 hr => ?_
  cases r with
  | error e => exact hr
  | ok fl =>
    cases fl with
    | ret obj =>
      obtain ⟨led, rfl, rfl⟩ := hr
      have atZ : (s.heap.push (newSetO led)).get? s.heap.objs.size = some (newSetO led) := Heap.get?_push_size _ rfl
      have tyZ : Shared.TypeIs { s with heap := s.heap.push (newSetO led) } (.ref s.heap.objs.size) "set" := ⟨_, atZ, rfl⟩
      have il := PySem.F.called_set.init.lookup
      have ib := PySem.F.called_set.init.bind (.ref s.heap.objs.size)
      repeat (any_goals (first | assumption | wp_step))
      refine codeAny_mono (codeAny_call_builtin (R := wants (fun r s2 => r = .none ∧ ∃ h' tk, s2 = { s with heap := h', toks := tk } ∧ h'.SetOf (strKind prog w) s.heap.objs.size (hasS ys ys.length) (cntS ys ys.length) ∧ (∀ b o, b < s.heap.objs.size → s.heap.get? b = some o → h'.get? b = some o)) E)
        PySem.F.called_set.init.plain PySem.F.entry_set_init (check_set_init_1 tyZ ?_)) fun r2 s2 hr2 => ?_
      · obtain ⟨⟨k0, d0, dt, sl0⟩, atl, hcl, nl, hdl⟩ := src
        simp only at hcl hdl
        subst hcl; subst hdl
        have atl' : (s.heap.push (newSetO led)).get? l = some { cls := .type "list", dict := d0, data := .seq items nl, slots := sl0 } := Heap.get?_push_of_some _ atl
        have s1 := PySem.F.sub_list_set
        have s2 := PySem.F.sub_list_frozenset
        have nd : (Value.type "list" == Value.type "dict") = false := by decide
        have src1 : (s.heap.push (newSetO led)).IsList l items := ⟨_, atl', rfl, nl, rfl⟩
        unfold Builtin.«set.__init__» noKeywords Builtin.Frozenset.updateFrom
        generalize hPI : pyIter = PI
        wp_walk
        subst hPI
        refine wpAny_pyIter_list src1 (wpAny_bind (wpAny_runValue ?_))
        have low : l < s.heap.objs.size := Heap.lt_size atl
        have next : (s.heap.push (newSetO led)).objs.size = s.heap.objs.size + 1 := Heap.size_push _ _
        have q3 : A.in1.in1.in1.handled = none := by simp [quiet]
        have neI : l ≠ (s.heap.push (newSetO led)).objs.size := by rw [next]; exact Nat.ne_of_lt (Nat.lt_succ_of_lt low)
        have offZ : s.heap.objs.size ∉ [(s.heap.push (newSetO led)).objs.size, l] := by
          rw [next]
          intro h
          rcases List.mem_cons.mp h with z | z
          · exact Nat.ne_of_lt (Nat.lt_succ_self _) z
          · exact Nat.ne_of_gt low (List.mem_singleton.mp z)
        refine set_loop ((Walks.list q3 _ l neI items).toS) offZ ys len (by rw [← len]; exact few) val (items.size - 0) 0 _ (by omega) (Nat.zero_le _) ⟨⟨_, Heap.get?_push_size _ rfl, rfl, rfl⟩, (src1.push _)⟩ ?_ ?_
        · exact PyProof.Rows.SetOf_congr ((PyProof.Rows.setObjOf_fresh (knd := strKind prog w) led).setOf (Heap.get?_push_of_some _ atZ) (by unfold scanBound; omega)) (fun _ => rfl) rfl
        · intro s' mv set
          obtain ⟨h', gz, dz, tkz, osz⟩ := s'
          obtain rfl : gz = s.gens := mv.gens
          obtain rfl : dz = s.drawn := mv.drawn
          obtain rfl : osz = s.os := mv.os
          rw [← len] at set
          show wpAny _ _ _ _ _ _
          refine wpAny_pure (wpAny_pure ⟨rfl, h', tkz, rfl, set, fun b o hb e => ?_⟩)
          refine mv.heap b o (fun z => ?_) (Heap.get?_push_of_some _ (Heap.get?_push_of_some _ e))
          rcases List.mem_cons.mp z with z | z
          · exact Nat.ne_of_lt hb z
          · have z := List.mem_singleton.mp z
            rw [next] at z
            exact Nat.ne_of_lt (Nat.lt_succ_of_lt hb) z
      · cases r2 with
        | error e => exact hr2
        | ok fl2 =>
          cases fl2 with
          | ret r =>
            obtain ⟨rfl, h', tk, rfl, set, kp⟩ := hr2
            repeat (any_goals (first | assumption | wp_step))
            exact fin _ _ set kp
          | _ => exact hr2.elim
    | _ => exact hr.elim
theorem setOf_tuple {l : Addr} {items : Array Value} {ys : List Str} {Q : Value → Shared → Prop} (quiet : A.handled = none) (src : s.heap.IsTuple l items) (txts : PyProof.Rows.StrsAre items.toList ys) (few : ys.length + 1 < scanBound)
    (fin : ∀ (h' : Heap) (tk : Nat), h'.SetOf (strKind prog w) s.heap.objs.size (hasS ys ys.length) (cntS ys ys.length) → (∀ b o, b < s.heap.objs.size → s.heap.get? b = some o → h'.get? b = some o) → Q (.ref s.heap.objs.size) { s with heap := h', toks := tk }) :
    wpAny (model prog w) A (call (.type "set") [.ref l]) Q E s := by
  obtain ⟨c, tl, mro⟩ := PySem.F.called_set.mro
  have made := PySem.F.called_set.made
  have sub := PySem.F.called_set.sub
  have len : ys.length = items.size := by rw [← StrsAre.len_eq txts, Array.length_toList]
  have val : ∀ (i : Nat) (v : Value), items[i]? = some v → ∃ t, v = .str (ys.getD i Str.empty) t := fun i v hv => SS.strs_at txts i v (by rw [Array.getElem?_toList]; exact hv)
  refine wpAny_call (codeAny_of_tree (show wpAny _ _ (callAny (.type "set") _) _ _ _ from wpAny_pure ⟨Code.quiet_builtin _ (by decide +kernel), codeAny_builtin PySem.F.entry_type_call ?_⟩))
  rw [Around.under_plain (weight_type_call_type "set" [.ref l] []) rfl]
  have nt := PySem.F.called_set.notType
  have cc := PySem.F.called_set.canCreate
  have tc := PySem.F.typeCall_set_1 (.ref l)
  repeat (any_goals (first | assumption | wp_step))
  refine codeAny_mono (code_set_new_1 (.ref l) (E := E) (Q₁ := fun obj s1 => ∃ led : Bool, obj = .ref s.heap.objs.size ∧ s1 = { s with heap := s.heap.push (newSetO led) }) fun led => ⟨led, rfl, rfl⟩) fun r s1 hr => ?_
  cases r with
  | error e => exact hr
  | ok fl =>
    cases fl with
    | ret obj =>
      obtain ⟨led, rfl, rfl⟩ := hr
      have atZ : (s.heap.push (newSetO led)).get? s.heap.objs.size = some (newSetO led) := Heap.get?_push_size _ rfl
      have tyZ : Shared.TypeIs { s with heap := s.heap.push (newSetO led) } (.ref s.heap.objs.size) "set" := ⟨_, atZ, rfl⟩
      have il := PySem.F.called_set.init.lookup
      have ib := PySem.F.called_set.init.bind (.ref s.heap.objs.size)
      repeat (any_goals (first | assumption | wp_step))
      refine codeAny_mono (codeAny_call_builtin (R := wants (fun r s2 => r = .none ∧ ∃ h' tk, s2 = { s with heap := h', toks := tk } ∧ h'.SetOf (strKind prog w) s.heap.objs.size (hasS ys ys.length) (cntS ys ys.length) ∧ (∀ b o, b < s.heap.objs.size → s.heap.get? b = some o → h'.get? b = some o)) E)
        PySem.F.called_set.init.plain PySem.F.entry_set_init (check_set_init_1 tyZ ?_)) fun r2 s2 hr2 => ?_
      · obtain ⟨⟨k0, d0, dt, sl0⟩, atl, hcl, nl, hdl⟩ := src
        simp only at hcl hdl
        subst hcl; subst hdl
        have atl' : (s.heap.push (newSetO led)).get? l = some { cls := .type "tuple", dict := d0, data := .seq items nl, slots := sl0 } := Heap.get?_push_of_some _ atl
        have s1 := PySem.F.sub_tuple_set
        have s2 := PySem.F.sub_tuple_frozenset
        have nd : (Value.type "tuple" == Value.type "dict") = false := by decide
        have src1 : (s.heap.push (newSetO led)).IsTuple l items := ⟨_, atl', rfl, nl, rfl⟩
        unfold Builtin.«set.__init__» noKeywords Builtin.Frozenset.updateFrom
        generalize hPI : pyIter = PI
        wp_walk
        subst hPI
        refine wpAny_pyIter_tuple src1 (wpAny_bind (wpAny_runValue ?_))
        have low : l < s.heap.objs.size := Heap.lt_size atl
        have next : (s.heap.push (newSetO led)).objs.size = s.heap.objs.size + 1 := Heap.size_push _ _
        have q3 : A.in1.in1.in1.handled = none := by simp [quiet]
        have neI : l ≠ (s.heap.push (newSetO led)).objs.size := by rw [next]; exact Nat.ne_of_lt (Nat.lt_succ_of_lt low)
        have offZ : s.heap.objs.size ∉ [(s.heap.push (newSetO led)).objs.size, l] := by
          rw [next]
          intro h
          rcases List.mem_cons.mp h with z | z
          · exact Nat.ne_of_lt (Nat.lt_succ_self _) z
          · exact Nat.ne_of_gt low (List.mem_singleton.mp z)
        refine set_loop ((Walks.tuple q3 _ l neI items).toS) offZ ys len (by rw [← len]; exact few) val (items.size - 0) 0 _ (by omega) (Nat.zero_le _) ⟨⟨_, Heap.get?_push_size _ rfl, rfl, rfl⟩, (src1.push _)⟩ ?_ ?_
        · exact PyProof.Rows.SetOf_congr ((PyProof.Rows.setObjOf_fresh (knd := strKind prog w) led).setOf (Heap.get?_push_of_some _ atZ) (by unfold scanBound; omega)) (fun _ => rfl) rfl
        · intro s' mv set
          obtain ⟨h', gz, dz, tkz, osz⟩ := s'
          obtain rfl : gz = s.gens := mv.gens
          obtain rfl : dz = s.drawn := mv.drawn
          obtain rfl : osz = s.os := mv.os
          rw [← len] at set
          show wpAny _ _ _ _ _ _
          refine wpAny_pure (wpAny_pure ⟨rfl, h', tkz, rfl, set, fun b o hb e => ?_⟩)
          refine mv.heap b o (fun z => ?_) (Heap.get?_push_of_some _ (Heap.get?_push_of_some _ e))
          rcases List.mem_cons.mp z with z | z
          · exact Nat.ne_of_lt hb z
          · have z := List.mem_singleton.mp z
            rw [next] at z
            exact Nat.ne_of_lt (Nat.lt_succ_of_lt hb) z
      · cases r2 with
        | error e => exact hr2
        | ok fl2 =>
          cases fl2 with
          | ret r =>
            obtain ⟨rfl, h', tk, rfl, set, kp⟩ := hr2
            repeat (any_goals (first | assumption | wp_step))
            exact fin _ _ set kp
          | _ => exact hr2.elim
    | _ => exact hr.elim
end
section
variable {W : Wd} {N : List Str} {sc : Scope} {k : Nat} {E : XK} {X : Cx} {B : Bs} {e : Expr} {f : List Sl → R (D × List Sl)} {p p2 pos pos2 : Pos}
def lenSetO (d : D) : Option D := match d with
  | .lst l => (strsD l).bind fun ys => if decide (ys.length ≤ 4000) then some (.int (cntS ys ys.length)) else none
  | .tup l => (strsD l).bind fun ys => if decide (ys.length ≤ 4000) then some (.int (cntS ys ys.length)) else none
  | _ => none
def evLenSet (f : List Sl → R (D × List Sl)) (ρ : List Sl) : R (D × List Sl) := (f ρ).bind fun p => (ofO (lenSetO p.1)).bind fun z => .ok (z, p.2)
theorem pe_lenS {ta : TE} (hc : X.calm = true) (hg : Gl X "len") (hm : X.mg "len" = none) (hg2 : Gl X "set") (hm2 : X.mg "set" = none) (ha : PE X e ta) (hs : nsE e = true) : PE X (.Call (.Name "len" p) [.Call (.Name "set" p2) [e] [] pos2] [] pos)
    (fun σ H Q => ta σ H fun x H1 => ∃ l, ∃ ys : List Str, x = .ref l ∧ (SqL X.K H1 l (ys.map V.str) ∨ SqT X.K H1 l (ys.map V.str)) ∧ ys.length ≤ 4000 ∧ Q (.int (cntS ys ys.length)) H1) := by
  refine ⟨fun pins s σ H Q I h => Call_ (ld_blt I hg hm boot_len (PyProof.Rows.callWith_builtin1 (PyProof.Rows.args_cons (Call_ (ld_blt I hg2 hm2 boot_set ?_)) rfl) rfl rfl))⟩
  refine PyProof.Rows.callWith_type1 (PyProof.Rows.args_cons (thn (ha.run pins s σ H _ I h) fun v s1 ⟨x, H1, I1, r1, l, ys, ex, hq, few, q1⟩ => PyProof.Rows.args_nil ?_) (star_cons hs)) (star_cons hs) rfl
  subst ex
  cases r1
  have rest : ∀ (h' : Heap) (tk : Nat), h'.SetOf (strKind X.prog X.w) s1.heap.objs.size (hasS ys ys.length) (cntS ys ys.length) → (∀ b o, b < s1.heap.objs.size → s1.heap.get? b = some o → h'.get? b = some o) →
      wpAny (model X.prog X.w) X.A (spliced (backTo pos (starEach [] X.env))) (fun vs s2 => wpAny (model X.prog X.w) X.A (call (.builtin "len") (Value.ref s1.heap.objs.size :: vs)) (EP X pins σ Q) X.xe s2) X.xe { s1 with heap := h', toks := tk } := fun h' tk set kp => by
    have le := cntS_le ys ys.length
    obtain ⟨o, es, ep, t, ho, hex, hd, _, _, _, hf, hn⟩ := set
    have I2 : Inv X pins σ H1 { s1 with heap := h', toks := tk } := I1.kept fun b o e => kp b o (Heap.lt_size e) e
    exact PyProof.Rows.args_nil (call_len_set ho hex hd hf (by rw [hn] <;> omega) ⟨.int (cntS ys ys.length), H1, I2.tok _, ⟨_, by rw [hn]⟩, q1⟩)
  have few' : ys.length + 1 < scanBound := by unfold scanBound; omega
  rcases hq with hq | hq
  · obtain ⟨its, r, pl, hz⟩ := I1.list hq
    exact setOf_list (I1.ok.hd hc) pl.isList (by simpa using strsAre_of r) few' rest
  · obtain ⟨its, r, pl, hz⟩ := I1.tuple hq
    exact setOf_tuple (I1.ok.hd hc) (show s1.heap.IsTuple l its.toArray from pl) (by simpa using strsAre_of r) few' rest
theorem q_lenset (hX : XIs W N sc k E X) (hB : BOk W B) (hm : W.mg "len" = none) (o : GOk X sc "len") (hm2 : W.mg "set" = none) (o2 : GOk X sc "set") (hs : nsE e = true) (ha : PE X e (tE B E f)) :
    PE X (.Call (.Name "len" p) [.Call (.Name "set" p2) [e] [] pos2] [] pos) (tE B E (evLenSet f)) :=
  weakE (pe_lenS hX.calm o.g (hX.noName hm) o2.g (hX.noName hm2) ha hs) fun σ H Q ⟨Fz, ρ, I, q⟩ => by
    refine monoG (tG_bind I q) fun x H1 ⟨F1, ρ1, dx, I1, d1, g1, e1, q1⟩ => ?_
    obtain ⟨z, ez, q2⟩ := fin_o q1
    have d1 : Den B.K F1 H1 x dx := d1
    have hK := hX.kk hB
    have gen : ∀ {ds : List D} {vs : List V}, (strsD ds).bind (fun ys => if decide (ys.length ≤ 4000) = true then some (D.int (cntS ys ys.length)) else none) = some z → DenL B.K F1 H1 vs ds → ∃ ys, vs = ys.map V.str ∧ ys.length ≤ 4000 ∧ z = .int (cntS ys ys.length) := fun {ds vs} e dl => by
      obtain ⟨ys, e1, e2⟩ := bind_some e
      obtain ⟨hc, e2⟩ := if_some e2
      exact ⟨ys, strsD_of e1 dl, of_decide_eq_true hc, e2.symm⟩
    cases d1 with
    | lst q l =>
      obtain ⟨ys, rfl, h1, rfl⟩ := gen ez l
      exact ⟨_, ys, rfl, .inl (hK ▸ q.l), h1, q2 _ H1 F1 I1 .refl (.int _)⟩
    | tup q l =>
      obtain ⟨ys, rfl, h1, rfl⟩ := gen ez l
      exact ⟨_, ys, rfl, .inr (hK ▸ q.t), h1, q2 _ H1 F1 I1 .refl (.int _)⟩
    | _ => cases ez
end
end Dx

set_option Elab.async false
set_option linter.all false
set_option maxRecDepth 100000
set_option maxHeartbeats 1000000
namespace Dx
open PySem PySem.Spec PyProof.Rows L2
theorem q_asg {W : Wd} {N : List Str} {sc : Scope} {k : Nat} {E : XK} {X : Cx} {B : Bs} {e tg : Expr} {f : List Sl → R (D × List Sl)} {vs : List Nat} {t : D → List Sl → Option (List Sl)} {pos : Pos} (hX : XIs W N sc k E X) (he : PE X e (tE B E f)) (hg : PG X tg (tG1 B vs t))
    (hs : swapsWithSole [tg] e pos.line X.env = pure false) (hw : ∀ env : Env, swappedStores [tg] e { env with scope := sc } = pure none) (h1 : (assignEach [tg] X.env).map (·.2) = [assign tg X.env]) : PS X (.Assign [tg] e pos) (tS B E (stAsg t f)) :=
  ds_asg he hg hs (swSt hX hw) h1
end Dx

set_option Elab.async false
set_option linter.all false
set_option maxRecDepth 100000
set_option maxHeartbeats 1000000
/-! DxZd: starred elements, op=, a temporary handed on to be changed. -/
namespace Dx
open PySem PySem.Spec PyProof.Rows L2
section
variable {W : Wd} {N : List Str} {sc : Scope} {k j : Nat} {E : XK} {X : Cx} {B : Bs} {a b c e o : Expr} {es : List Expr} {f g h : List Sl → R (D × List Sl)} {u v : List Sl → R (Bool × List Sl)} {l : List Sl → R (List D × List Sl)} {pos p p2 np cpos apos : Pos} {i : Nat} {x : Str} {F : Fd}
/-! ### starred elements -/
def starO : D → Option (List D)
  | .lst l => some l
  | .tup l => some l
  | _ => none
def evStar (f : List Sl → R (D × List Sl)) (l : List Sl → R (List D × List Sl)) (ρ : List Sl) : R (List D × List Sl) := (f ρ).bind fun p => (ofO (starO p.1)).bind fun xs => (l p.2).bind fun q => .ok (xs ++ q.1, q.2)
theorem da_star (hK : B.K = X.K) (ha : PE X e (tE B E f)) (hr : PA X es (tA B E l)) : PA X (.Starred e p :: es) (tA B E (evStar f l)) :=
  weakA (StX.pa_star ha hr) fun σ H Q ⟨Fz, ρ, I, q⟩ => monoG (tG_bind I q) fun v H1 ⟨F1, ρ1, d, I1, d1, g1, e1, q1⟩ => by
    obtain ⟨xs, ex, q2⟩ := fin_o q1
    have fin : ∀ vs, DenL B.K F1 H1 vs xs → tA B E l σ H1 fun ys H2 => Q (vs ++ ys) H2 := fun vs dv =>
      monoG (tG_bind I1 q2) fun ys H2 ⟨F2, ρ2, dy, I2, d2, g2, e2, q3⟩ => q3 _ H2 F2 I2 .refl ((dv.mono g2).append d2)
    cases d with
    | lst ds =>
      cases ex
      cases (show Den B.K F1 H1 v (.lst _) from d1) with
      | lst hq hl => exact ⟨_, _, rfl, .inr (hK ▸ hq.l), fin _ hl⟩
    | tup ds =>
      cases ex
      cases (show Den B.K F1 H1 v (.tup _) from d1) with
      | tup hq hl => exact ⟨_, _, rfl, .inl (hK ▸ hq.t), fin _ hl⟩
    | _ => cases ex
/-! ### x += e, x -= e for ints -/
def iaddO := intO fun i j => some (.int (i + j))
def isubO := intO fun i j => some (.int (i - j))
def evAug (F : Int → Int → Int) (i : Nat) (f : List Sl → R (D × List Sl)) (ρ : List Sl) : R (D × List Sl) := match ρ[i]? with
  | some (.sh (.int m)) => (f ρ).bind fun p => match p.1 with
    | .int n => .ok (.int (F m n), p.2)
    | _ => .bad
  | _ => .bad
theorem ds_aug {op : Operator} {F : Int → Int → Int} (hN : X.N.Nodup) (hi : X.N[i]? = some x) (hx : Loc X.env.scope x) (hf : X.fn x = true ∨ X.env.scope.names.lookup x = some .local) (ho : PIp X op (ipI F)) (he : PE X e (tE B E f)) :
    PS X (.AugAssign (.Name x p) op e pos) (tS B E (stSet i (evAug F i f))) :=
  weakS (ps_aug hN hi hx he ho hf) fun Dn σ H ⟨Fz, ρ, I, q⟩ => by
    have q : FinS B E Dn Fz H ((evAug F i f ρ).st fun p => ofT (putSl p.2 i (.sh p.1)) .nx) := q
    unfold evAug at q
    split at q
    · rename_i m em
      obtain ⟨u, hu, hd⟩ := I.ok i _ em
      refine ⟨u, join_some.mp hu, ?_⟩
      have e0 : ((f ρ).bind fun p => (match p.1 with
          | .int n => R.ok (D.int (F m n), p.2)
          | _ => R.bad : R (D × List Sl))).st (fun p => ofT (putSl p.2 i (.sh p.1)) RS.nx) = (f ρ).st fun p => (match p.1 with
          | .int n => R.ok (D.int (F m n), p.2)
          | _ => R.bad : R (D × List Sl)).st fun p => ofT (putSl p.2 i (.sh p.1)) RS.nx := by cases f ρ <;> rfl
      have q : FinS B E Dn Fz H ((f ρ).st fun p => (match p.1 with
          | .int n => R.ok (D.int (F m n), p.2)
          | _ => R.bad : R (D × List Sl)).st fun p => ofT (putSl p.2 i (.sh p.1)) RS.nx) := by rw [← e0]; exact q
      refine monoG (tG_st I q) fun y H1 ⟨F1, ρ1, dy, I1, d1, g1, q1⟩ => ?_
      cases hd
      cases dy with
      | int n =>
        cases (show Den B.K F1 H1 y (.int n) from d1)
        have q1 : FinS B E Dn F1 H1 (ofT (putSl ρ1 i (.sh (.int (F m n)))) .nx) := q1
        obtain ⟨ρ2, e2, q2⟩ := fin_ofT q1
        exact ⟨m, n, rfl, rfl, q2 _ H1 F1 (I1.put e2 ⟨_, rfl, .int _⟩ fun z => by cases z) .refl⟩
      | _ => exact q1.elim
    · exact q.elim
/-! ### f(g(..)): what was just made, handed on to be changed -/
def evCallT (F : Fd) (g : List Sl → R (D × List Sl)) (ρ : List Sl) : R (D × List Sl) := (g ρ).bind fun p => (F.sem [p.1]).bind fun q => .ok (q.1, p.2)
theorem de_callT (wo : WOk W) (hX : XIs W N sc k E X) (hB : BOk W B) (c : Cal W j x F) (hj : j ≤ k) (ho : F.own = false) (hm : F.md = [.mt]) (hg : sc.names.lookup x = some .globalImplicit) (hdb : (x == ("__debug__" : Str)) = false) (hns : nsE e = true) (ha : PE X e (tO B E g)) :
    PE X (.Call (.Name x p) [e] [] pos) (tE B E (evCallT F g)) := by
  obtain ⟨f, fd, ps, fn, hmg, hk, hb⟩ := c.ex
  refine weakE (pe_callG hX fn hj hb hmg hk hg hdb hns rfl (pa_cons ha pa_nil (star_cons hns))) fun σ H Q ⟨Fz, ρ, I, q⟩ =>
    monoG (tG_bind I q) fun v H1 ⟨F1, ρ1, d, I1, d1, g1, e1, q1⟩ => ?_
  obtain ⟨a, rfl, ow, h0, ap⟩ := d1
  have may : ∀ y, exA [.mt] [V.ref a] y → y = a := by
    rintro y ⟨n, h1, h2⟩
    cases n with
    | zero => cases h2; rfl
    | succ n => simp at h1
  refine ⟨hB.now wo I1, F1, [d], I1.fzs, ?_, ?_, ?_⟩
  · rw [hm, ← hB.K]; exact .cons ⟨a, rfl, ow⟩ .nil
  · rw [hm]
    intro i j' y z hij h1 h2 h3 h4
    cases i with
    | zero => cases j' with
      | zero => exact absurd rfl hij
      | succ n => simp at h4
    | succ n => simp at h1
  · rw [hm, ← hB.K, ho]
    cases es : F.sem [d] with
    | bad => rw [es] at q1; exact q1.elim
    | exc cc dd =>
      rw [es] at q1
      exact fun dx w H' Fz' xt f h1 h2 => q1 dx w H' Fz' (I1.ext.trans xt fun y hy => .inl (by rw [may y hy]; exact h0)) f h1 h2
    | ok r =>
      rw [es] at q1
      intro w H' Fz' xt f o r'
      exact q1 w H' Fz' (I1.step xt f (fun y hy => .inl (by rw [may y hy]; exact h0)) fun i b hb hy => ap i b hb (may b hy)) xt.ge r'
end
end Dx

set_option Elab.async false
set_option linter.all false
set_option maxRecDepth 100000
set_option maxHeartbeats 1000000
/-! DxZe: dict comprehensions, dict displays. -/
namespace Dx
open PySem PySem.Spec PyProof.Rows L2
/-- a walk that fills a dict -/
theorem dc_it {J : It} {n : Nat} {G : Hp → Prop} {Y : Nat → Hp → V → Hp → Prop} (w : Walk J n G Y) {g : TG} {tt : TT} {tk tv : TE} {vs : List Nat} {σ : L2.St} {H1 : Hp} {D : Addr} {Qd : Hp → Prop} (Pv : Nat → Hp → Prop) (h0 : Pv 0 (upd H1 D (.dK []))) (hG : ∀ i H, i ≤ n → Pv i H → G H)
    (hs : ∀ i x H H', i < n → Pv i H → Y i H x H' → g x (wipe σ vs) H' fun σ2 H2 => wipe σ2 vs = wipe σ vs ∧ tt σ2 H2 fun b H3 =>
      if b = true then tk σ2 H3 fun y H4 => tv σ2 H4 fun z H5 => ∃ kvs k, y = kV k ∧ H5 D = some (.dK kvs) ∧ kvs.length < sizeLine ∧ Pv (i + 1) (upd H5 D (.dK (putK kvs k z))) else Pv (i + 1) H3) (hd : ∀ H, Pv n H → Qd H) :
    ∃ W : Nat → Nat → Hp → Prop, (∃ m, W 0 m (upd H1 D (.dK []))) ∧ ∀ i m H, W i m H →
      (J.stop i H ∧ Qd H) ∨ (J.go i H ∧ ∃ Nx : Hp → Prop, (∀ H', Nx H' → ∃ m', m' < m ∧ W (i + 1) m' H') ∧ ∀ x H', J.yld i H x H' → g x (wipe σ vs) H' fun σ2 H2 => wipe σ2 vs = wipe σ vs ∧ tt σ2 H2 fun b H3 =>
        if b = true then tk σ2 H3 fun y H4 => tv σ2 H4 fun z H5 => ∃ kvs k, y = kV k ∧ H5 D = some (.dK kvs) ∧ kvs.length < sizeLine ∧ Nx (upd H5 D (.dK (putK kvs k z))) else Nx H3) := by
  refine ⟨fun i m H => m = n - i ∧ i ≤ n ∧ Pv i H, ⟨n, by simp, Nat.zero_le _, h0⟩, fun i m H hw => ?_⟩
  obtain ⟨em, hi, p⟩ := hw
  by_cases hlt : i < n
  · exact .inr ⟨w.goes i H hlt (hG i H hi p), Pv (i + 1), fun H' p' => ⟨n - (i + 1), by omega, rfl, hlt, p'⟩, fun x H' y => hs i x H H' hlt p (w.yields i H x H' hlt (hG i H hi p) y)⟩
  · obtain rfl : i = n := by omega
    exact .inl ⟨w.stops H (hG _ H hi p), hd H p⟩
def strO : D → Option Str
  | .str x => some x
  | _ => none
def dcL (vs : List Nat) (t : D → List Sl → Option (List Sl)) (u : List Sl → R (Bool × List Sl)) (f g : List Sl → R (D × List Sl)) : List (Str × D) → List D → List Sl → R (List (Str × D) × List Sl)
  | acc, [], ρ => .ok (acc, ρ)
  | acc, d :: ds, ρ => (ofO (t d ρ)).bind fun ρ1 => (u ρ1).nox.bind fun p => match p.1 with
    | true => (f p.2).nox.bind fun q => (g q.2).nox.bind fun r => (ofO (strO q.1)).bind fun k => if decide (acc.length < sizeLine) = true then dcL vs t u f g (putD acc k r.1) ds (wipeR r.2 vs) else .bad
    | false => dcL vs t u f g acc ds (wipeR p.2 vs)
def evDc (vs : List Nat) (s : List Sl → R (List D × List Sl)) (t : D → List Sl → Option (List Sl)) (u : List Sl → R (Bool × List Sl)) (f g : List Sl → R (D × List Sl)) (ρ : List Sl) : R (D × List Sl) :=
  (s ρ).bind fun p => (dcL vs t u f g [] p.1 (wipeR p.2 vs)).bind fun q => .ok (.dic q.1, q.2)
section
variable {X : Cx} {B : Bs} {E : XK} {e c iter tg kx vx : Expr} {ifs : List Expr} {f h : List Sl → R (D × List Sl)} {s : List Sl → R (List D × List Sl)} {t : D → List Sl → Option (List Sl)} {u : List Sl → R (Bool × List Sl)} {pos : Pos} {i : Nat} {x : Str} {ws : List Nat} {scope : Scope} {own : List (Str × Nat)}
theorem t_dc {vs : List Nat} (hw : ∀ j ∈ ws, j ∈ vs) {σ : L2.St} {H : Hp} {Q : VK} (hq : tO B E (evDc vs s t u f h) σ H Q) :
    tDc (tI B E s) (fun v σ H Q => ∃ B' : Bs, BLe B B' ∧ tG1 B' ws t v σ H Q) (fun σ H Q => ∃ B' : Bs, BLe B B' ∧ tT B' E0 u σ H Q) (fun σ H Q => ∃ B' : Bs, BLe B B' ∧ tE B' E0 f σ H Q) (fun σ H Q => ∃ B' : Bs, BLe B B' ∧ tE B' E0 h σ H Q) vs σ H Q := by
    obtain ⟨Fz, ρ, I, q⟩ := hq
    refine monoG (tG_bind I q) fun J H1 ⟨F1, ρ1, ds, I1, ⟨G, Y, w, hG, hY⟩, g1, e1, q1⟩ => ?_
    intro p hp
    have h0 : B.H0 p = none := (I1.laid hp (.dK [])).2.2.2.1
    have pre : ∀ {F' : Addr → Prop} {H' : Hp} {vacc : List (Key × V)}, FzOk F' H' → H' p = some (.dK vacc) → ¬ F' p := fun f e z => by
      obtain ⟨C, dx, fs, e2⟩ := f p z
      rw [e] at e2; cases e2
    have ge0 : Ge F1 H1 F1 (upd H1 p (.dK [])) := (I1.laid hp (.dK [])).2.1
    refine dc_it (g := fun v σ H Q => ∃ B' : Bs, BLe B B' ∧ tG1 B' ws t v σ H Q) (tt := fun σ H Q => ∃ B' : Bs, BLe B B' ∧ tT B' E0 u σ H Q) (tk := fun σ H Q => ∃ B' : Bs, BLe B B' ∧ tE B' E0 f σ H Q) (tv := fun σ H Q => ∃ B' : Bs, BLe B B' ∧ tE B' E0 h σ H Q) (vs := vs) (σ := σ) (Qd := fun H => Q (.ref p) H) w
      (fun i H' => ∃ F' ρ0 acc vacc, H' p = some (.dK (vacc.map keyP)) ∧ DenF B.K F' H' vacc acc ∧ Iv (B.at p (.dK (vacc.map keyP))) F' H' (wipe σ vs) (wipeR ρ0 vs) ∧ Ge F1 H1 F' H' ∧
        FinG rO B E σ Q F' H' ((dcL vs t u f h acc (ds.drop i) (wipeR ρ0 vs)).bind fun q => .ok (.dic q.1, q.2)))
      ⟨F1, ρ1, [], [], upd_same, .nil, (I1.atBase (o := .dK []) hp (fun z => z)).wipe, ge0, FinG.ge ge0 q1⟩ (fun i H' _ ⟨F', _, _, _, _, _, _, g', _⟩ => hG F' H' g')
      (fun i x H' H2 hlt ⟨F', ρ0, acc, vacc, hD, dacc, I', g', q'⟩ y => ?_) fun H' ⟨F', ρ0, acc, vacc, hD, dacc, I', g', q'⟩ => ?_
    · obtain ⟨d, ed, er⟩ := drop_get hlt
      obtain ⟨h2, dn⟩ := hY i F' H' x H2 d g' I'.fzs ed y
      obtain ⟨I2, g2⟩ := I'.more h2
      rw [er] at q'
      have q' := FinG.ge g2 q'
      have q' : FinG rO B E σ Q F' H2 (((ofO (t d (wipeR ρ0 vs))).bind fun ρ1 => (u ρ1).nox.bind fun p => match p.1 with
        | true => (f p.2).nox.bind fun q => (h q.2).nox.bind fun r => (ofO (strO q.1)).bind fun k => if decide (acc.length < sizeLine) = true then dcL vs t u f h (putD acc k r.1) (ds.drop (i + 1)) (wipeR r.2 vs) else .bad
        | false => dcL vs t u f h acc (ds.drop (i + 1)) (wipeR p.2 vs)).bind fun q => .ok (.dic q.1, q.2)) := q'
      rw [R.bind_assoc] at q'
      obtain ⟨ρ2, e2, q2⟩ := fin_o q'
      refine ⟨B.at p (.dK (vacc.map keyP)), .at h0, F', _, d, ρ2, I2, dn, e2, fun σ3 s3 I3 => ⟨wipe_same s3 hw, ?_⟩⟩
      rw [R.bind_assoc] at q2
      refine ⟨B.at p (.dK (vacc.map keyP)), .at h0, monoG (tG_nox I3 q2) fun b H3 ⟨F3, ρ3, db, I4, eb, g3, q3⟩ => ?_⟩
      have eb : b = db := eb
      subst eb
      have ws3 : wipe σ3 vs = wipe σ vs := wipe_same s3 hw
      cases b with
      | false =>
        rw [if_neg (by decide)]
        have hD3 : H3 p = some (.dK (vacc.map keyP)) := I4.ext.keep p _ upd_same fun z => z.2 rfl
        refine ⟨F3, ρ3, acc, vacc, hD3, (dacc.mono g2).mono g3, ?_, (g'.trans g2).trans g3, q3⟩
        have I5 := I4.wipe (vs := vs)
        rw [ws3] at I5
        exact I5
      | true =>
        rw [if_pos rfl]
        have q3 : FinG rO B E σ Q F3 H3 (((f ρ3).nox.bind fun q => (h q.2).nox.bind fun r => (ofO (strO q.1)).bind fun k => if decide (acc.length < sizeLine) = true then dcL vs t u f h (putD acc k r.1) (ds.drop (i + 1)) (wipeR r.2 vs) else .bad).bind fun q => .ok (.dic q.1, q.2)) := q3
        rw [R.bind_assoc] at q3
        refine ⟨B.at p (.dK (vacc.map keyP)), .at h0, monoG (tG_nox I4 q3) fun ky H4 ⟨F4, ρ4, dk, I5, kd, g4, q4⟩ => ?_⟩
        have kd : Den B.K F4 H4 ky dk := kd
        have q4 : FinG rO B E σ Q F4 H4 (((h ρ4).nox.bind fun r => (ofO (strO dk)).bind fun k => if decide (acc.length < sizeLine) = true then dcL vs t u f h (putD acc k r.1) (ds.drop (i + 1)) (wipeR r.2 vs) else .bad).bind fun q => .ok (.dic q.1, q.2)) := q4
        rw [R.bind_assoc] at q4
        refine ⟨B.at p (.dK (vacc.map keyP)), .at h0, monoG (tG_nox I5 q4) fun z H5 ⟨F5, ρ5, dz, I6, zd, g5, q5⟩ => ?_⟩
        have zd : Den B.K F5 H5 z dz := zd
        have hD5 : H5 p = some (.dK (vacc.map keyP)) := I6.ext.keep p _ upd_same fun z => z.2 rfl
        rw [R.bind_assoc] at q5
        obtain ⟨k, ek, q6⟩ := fin_o q5
        cases dk with
        | str k' =>
          cases ek
          cases kd
          have len : vacc.length = acc.length := dacc.length
          by_cases hz : acc.length < sizeLine
          · have q6 : FinG rO B E σ Q F5 H5 ((if decide (acc.length < sizeLine) = true then dcL vs t u f h (putD acc k dz) (ds.drop (i + 1)) (wipeR ρ5 vs) else .bad).bind fun q => .ok (.dic q.1, q.2)) := q6
            rw [if_pos (decide_eq_true hz)] at q6
            have nz5 : ¬ F5 p := pre I6.fzs hD5
            have x := ext_put (o := .dK ((putS vacc k z).map keyP)) hD5 (fun z => z) nz5
            refine ⟨vacc.map keyP, Sum.inr k, rfl, hD5, by rw [List.length_map, len]; exact hz, F5, ρ5, putD acc k dz, putS vacc k z, ?_, ?_, ?_, ((g'.trans g2).trans g3).trans ((g4.trans g5).trans ?_), ?_⟩
            all_goals rw [putK_keyP]
            · exact upd_same
            · exact (DenF.put zd ((((dacc.mono g2).mono g3).mono g4).mono g5)).mono x.ge
            · have lent : ∀ a, B.bd a → ∃ o, B.H0 a = some o := I.lent
              have I7 : Iv B F5 H5 σ3 ρ5 := I6.outBase h0 nz5 lent
              have ne := I6.atNe h0 lent
              have I8 : Iv B F5 (upd H5 p (.dK ((putS vacc k z).map keyP))) σ3 ρ5 := I7.step x (fzs_put I7.fzs nz5) (fun b hb => by rw [hb]; exact .inl h0) fun j b hb z => ne j b hb z
              have I9 : Iv (B.at p (.dK ((putS vacc k z).map keyP))) F5 (upd H5 p (.dK ((putS vacc k z).map keyP))) σ3 ρ5 := I8.toBase upd_same h0 ne (fun z => z) nz5
              have I10 := I9.wipe (vs := vs)
              rw [ws3] at I10
              exact I10
            · exact x.ge
            · exact FinG.ge x.ge q6
          · have q6 : FinG rO B E σ Q F5 H5 ((if decide (acc.length < sizeLine) = true then dcL vs t u f h (putD acc k dz) (ds.drop (i + 1)) (wipeR ρ5 vs) else .bad).bind fun q => .ok (.dic q.1, q.2)) := q6
            rw [if_neg (by rw [decide_eq_true_iff]; exact hz)] at q6
            exact q6.elim
        | _ => cases ek
    · rw [List.drop_length] at q'
      have nz : ¬ F' p := pre I'.fzs hD
      have lent : ∀ a, B.bd a → ∃ o, B.H0 a = some o := I.lent
      have I2 : Iv B F' H' σ (wipeR ρ0 vs) := (I'.outBase h0 nz lent).unwipe
      exact q' (.ref p) H' F' I2 .refl ⟨p, rfl, ⟨vacc, hD, dacc⟩, h0, fun j b hb => by
        have hb' : HeldAt (wipe σ vs) (wipeR ρ0 vs) j b := by
          obtain ⟨s, e, hh, hs⟩ := hb
          refine ⟨s, e, hh, ?_⟩
          by_cases q : j ∈ vs
          · rw [wipeR_in q e] at hh; cases hh
          · rw [wipe_out' q]; exact hs
        exact I'.atNe h0 lent j b hb'⟩
theorem do_dc (hc : X.calm = true) (hN : X.N.Nodup) (hi : PI X tg iter (tI B E s)) (ok : BlkOk X.N X.env.scope scope own) (hw : ∀ j ∈ ws, j ∈ own.map (·.2))
    (hg : ∀ (B' : Bs), BLe B B' → ∀ (s : Shared) (H : Hp) (C : Addr) (cl : List (Str × Addr)) (fp : List Addr), PG (X.blk s H scope (compEnvC scope cl C X.env) fp) tg (tG1 B' ws t))
    (ht : ∀ (B' : Bs), BLe B B' → ∀ (s : Shared) (H : Hp) (C : Addr) (cl : List (Str × Addr)) (fp : List Addr), PTs (X.blk s H scope (compEnvC scope cl C X.env) fp) ifs (tT B' E0 u))
    (hk : ∀ (B' : Bs), BLe B B' → ∀ (s : Shared) (H : Hp) (C : Addr) (cl : List (Str × Addr)) (fp : List Addr), PE (X.blk s H scope (compEnvC scope cl C X.env) fp) kx (tE B' E0 f))
    (he : ∀ (B' : Bs), BLe B B' → ∀ (s : Shared) (H : Hp) (C : Addr) (cl : List (Str × Addr)) (fp : List Addr), PE (X.blk s H scope (compEnvC scope cl C X.env) fp) vx (tE B' E0 h))
    (hs : ∀ x, foldedSetIterable iter X.env x = pure x) : PE X (.DictComp kx vx [⟨tg, iter, ifs, 0⟩] scope pos) (tO B E (evDc (own.map (·.2)) s t u f h)) :=
  weakE (pe_dc hc hN hi ok (fun s H C cl fp => pg_anyB fun B' l => hg B' l s H C cl fp) (fun s H C cl fp => pts_anyB fun B' l => ht B' l s H C cl fp) (fun s H C cl fp => pe_anyB fun B' l => hk B' l s H C cl fp) (fun s H C cl fp => pe_anyB fun B' l => he B' l s H C cl fp) hs) fun σ H Q hq => t_dc hw hq
end
end Dx

set_option Elab.async false
set_option linter.all false
set_option maxRecDepth 100000
set_option maxHeartbeats 2000000
/-! DxZf: list(zip(a, b)), a and b lists, tuples, texts. -/
namespace Dx
open PySem PySem.Spec PyProof.Rows L2
open Sem (wp)
section
variable {prog : Program} {w : World} {A : Around} {E : Value → Shared → Prop} {s : Shared} {z TI TO i1 i2 T : Addr} {fp1 fp2 : List Addr} {n1 n2 i : Nat} {P1 P2 : Nat → Value → Prop} {St1 St2 : Nat → Heap → Prop} {b : Bool} {oT : Obj}
/-- the next pair while the one ahead is still there -/
theorem zipH_item {Q : Value → Shared → Prop} (S : ZipSep2 z TI TO i1 i2 fp1 fp2) (D1 : Draws prog w A i1 fp1 n1 P1 St1) (D2 : Draws prog w A i2 fp2 n2 P2 St2)
    (zh : IsZipHeld s.heap z TI TO T b) (oh : s.heap.get? T = some oT) (ti : IsTupOf2 s.heap TI (.ref i1) (.ref i2)) (st1 : St1 i s.heap) (st2 : St2 i s.heap) (l1 : i < n1) (l2 : i < n2)
    (fin : ∀ x1 x2 h' tk, P1 i x1 → P2 i x2 → IsZipHeld h' z TI TO T true → St1 (i + 1) h' → St2 (i + 1) h' → IsTupOf2 h' s.heap.objs.size x1 x2 → h'.objs.size = s.heap.objs.size + 1 →
      (∀ c o, c ≠ z → c ≠ i1 → c ≠ i2 → s.heap.get? c = some o → h'.get? c = some o) → Q (.ref s.heap.objs.size) { s with heap := h', toks := tk }) :
    wpAny (model prog w) A (Builtin.«zip.__next__» ⟨[.ref z], []⟩) (fun e s' => ∃ v, e = .done (.ret v) ∧ Q v s') E s := by
  obtain ⟨hp, gg, dd, k0, oo⟩ := s
  show wpAny _ _ (field (.ref z) 2 >>= _) _ _ _
  refine wpAny_bind (wpAny_field zh rfl (x := .bool false) rfl ?_)
  show wpAny _ _ (field (.ref z) 3 >>= _) _ _ _
  refine wpAny_bind (wpAny_field zh rfl (x := .ref TI) rfl (wpAny_bind (wpAny_seqItems ti rfl ?_)))
  show wpAny _ _ (Builtin.SmallTypes.ownedTupleIsFree (.ref z) >>= _) _ _ _
  refine wpAny_bind (wpAny_tupleHeld_zip zh oh fun q0 za sa => ?_)
  simp only [Bool.false_eq_true, if_false]
  refine wpAny_bind ?_
  rw [← Array.forIn_toList]
  simp only [List.forIn_cons, List.forIn_nil]
  refine wpAny_bind (wpAny_bind (wpAny_holding ?_))
  show wpAny _ _ (Builtin.SmallTypes.nextOf (.ref i1) >>= _) _ _ ⟨q0, gg, dd, k0, oo⟩
  replace sa : Heap.SameBut z hp q0 := sa
  refine wpAny_bind (D1.item i _ _ _ l1 (D1.over st1 sa S.zf1) fun x1 q1 k1 y1 u1 sb => wpAny_pure (wpAny_pure ?_))
  replace sb : Heap.SameBut i1 q0 q1 := sb
  refine wpAny_bind (wpAny_bind (wpAny_holding ?_))
  show wpAny _ _ (Builtin.SmallTypes.nextOf (.ref i2) >>= _) _ _ ⟨q1, gg, dd, k1, oo⟩
  refine wpAny_bind (D2.item i _ _ _ l2 (D2.over (D2.over st2 sa S.zf2) sb S.sep1_2) fun x2 q2 k2 y2 u2 sc => wpAny_pure (wpAny_pure (wpAny_pure ?_)))
  replace sc : Heap.SameBut i2 q1 q2 := sc
  show wpAny _ _ (newTuple [x1, x2] >>= _) _ _ ⟨q2, gg, dd, k2, oo⟩
  refine wpAny_bind (wpAny_newTuple (wpAny_pure ⟨_, rfl, ?_⟩))
  have size : q2.objs.size = hp.objs.size := by rw [sc.1, sb.1, sa.1]
  have zc : IsZipHeld q2 z TI TO T true := sc.extBut _ _ S.zi2 (sb.extBut _ _ S.zi1 za)
  have keep : ∀ c o, c ≠ z → c ≠ i1 → c ≠ i2 → hp.get? c = some o → q2.get? c = some o := fun c o a1 a2 a3 e => sc.extBut _ _ a3 (sb.extBut _ _ a2 (sa.extBut _ _ a1 e))
  have up : ∀ c o, q2.get? c = some o → (q2.push { cls := .type "tuple", data := .seq #[x1, x2] }).get? c = some o := fun c o e => Heap.get?_push_of_some _ e
  have new : IsTupOf2 (q2.push { cls := .type "tuple", data := .seq #[x1, x2] }) q2.objs.size x1 x2 := Heap.get?_push_size _ rfl
  have more : (q2.push { cls := .type "tuple", data := .seq #[x1, x2] }).objs.size = q2.objs.size + 1 := Heap.size_push ..
  show Q (.ref q2.objs.size) _
  rw [size] at new more ⊢
  exact fin x1 x2 _ k2 y1 y2 (up _ _ zc) (D1.frame _ _ _ (D1.over u1 sc S.sep2_1) fun _ _ o e => up _ o e) (D2.frame _ _ _ u2 fun _ _ o e => up _ o e) new more fun c o a1 a2 a3 e => up _ o (keep c o a1 a2 a3 e)
/-- the end, in the same state -/
theorem zipH_end {Q : Fin → Shared → Prop} (S : ZipSep2 z TI TO i1 i2 fp1 fp2) (D1 : Draws prog w A i1 fp1 n1 P1 St1) (D2 : Draws prog w A i2 fp2 n2 P2 St2)
    (zh : IsZipHeld s.heap z TI TO T b) (oh : s.heap.get? T = some oT) (ti : IsTupOf2 s.heap TI (.ref i1) (.ref i2)) (st1 : St1 i s.heap) (st2 : St2 i s.heap) (l1 : i ≤ n1) (l2 : i ≤ n2) (hend : i = n1 ∨ i = n2)
    (fin : ∀ h' tk e, (∀ c o, c ≠ z → c ≠ i1 → c ≠ i2 → s.heap.get? c = some o → h'.get? c = some o) → (∃ o, h'.get? e = some o ∧ o.cls = .type "StopIteration") → E (.ref e) { s with heap := h', toks := tk }) :
    wpAny (model prog w) A (Builtin.«zip.__next__» ⟨[.ref z], []⟩) Q E s := by
  obtain ⟨hp, gg, dd, k0, oo⟩ := s
  show wpAny _ _ (field (.ref z) 2 >>= _) _ _ _
  refine wpAny_bind (wpAny_field zh rfl (x := .bool false) rfl ?_)
  show wpAny _ _ (field (.ref z) 3 >>= _) _ _ _
  refine wpAny_bind (wpAny_field zh rfl (x := .ref TI) rfl (wpAny_bind (wpAny_seqItems ti rfl ?_)))
  show wpAny _ _ (Builtin.SmallTypes.ownedTupleIsFree (.ref z) >>= _) _ _ _
  refine wpAny_bind (wpAny_tupleHeld_zip zh oh fun q0 za sa => ?_)
  simp only [Bool.false_eq_true, if_false]
  refine wpAny_bind ?_
  rw [← Array.forIn_toList]
  simp only [List.forIn_cons, List.forIn_nil]
  refine wpAny_bind (wpAny_bind (wpAny_holding ?_))
  show wpAny _ _ (Builtin.SmallTypes.nextOf (.ref i1) >>= _) _ _ ⟨q0, gg, dd, k0, oo⟩
  replace sa : Heap.SameBut z hp q0 := sa
  by_cases hl : i < n1
  · have e2 : i = n2 := by omega
    refine wpAny_bind (D1.item i _ _ _ hl (D1.over st1 sa S.zf1) fun x1 q1 k1 y1 u1 sb => wpAny_pure (wpAny_pure ?_))
    replace sb : Heap.SameBut i1 q0 q1 := sb
    refine wpAny_bind (wpAny_bind (wpAny_holding ?_))
    show wpAny _ _ (Builtin.SmallTypes.nextOf (.ref i2) >>= _) _ _ ⟨q1, gg, dd, k1, oo⟩
    refine wpAny_bind (D2.done ⟨q1, gg, dd, k1, oo⟩ _ _ (by rw [← e2]; exact D2.over (D2.over st2 sa S.zf2) sb S.sep1_2) fun q e eb he => ?_)
    exact fin q k1 e (fun c o a1 a2 a3 x => eb _ _ a3 (sb.extBut _ _ a2 (sa.extBut _ _ a1 x))) he
  · have e1 : i = n1 := by omega
    refine wpAny_bind (D1.done ⟨q0, gg, dd, k0, oo⟩ _ _ (by rw [← e1]; exact D1.over st1 sa S.zf1) fun q e eb he => ?_)
    exact fin q k0 e (fun c o a1 a2 _ x => eb _ _ a2 (sa.extBut _ _ a1 x)) he
end
/-- a zip on its way: at the start, or with a pair that is still there -/
def ZOn (h : Heap) (z TI TO i1 i2 S : Addr) (i : Nat) : Prop := (i = 0 ∧ IsZip h z TI TO .none ∧ ∃ a1 a2, IsTupOf2 h TO a1 a2) ∨ ∃ T b oT, IsZipHeld h z TI TO T b ∧ h.get? T = some oT ∧ T ≠ z ∧ T ≠ i1 ∧ T ≠ i2 ∧ T ≠ S
section
variable {prog : Program} {w : World} {A : Around} {E : Value → Shared → Prop} {s : Shared} {z TI TO i1 i2 S0 : Addr} {fp1 fp2 : List Addr} {n1 n2 i : Nat} {P1 P2 : Nat → Value → Prop} {St1 St2 : Nat → Heap → Prop}
theorem zOn_item {Q : Option Value → Shared → Prop} (S : ZipSep2 z TI TO i1 i2 fp1 fp2) (D1 : Draws prog w A.in1 i1 fp1 n1 P1 St1) (D2 : Draws prog w A.in1 i2 fp2 n2 P2 St2)
    (zo : ZOn s.heap z TI TO i1 i2 S0 i) (hS : S0 < s.heap.objs.size) (ti : IsTupOf2 s.heap TI (.ref i1) (.ref i2)) (st1 : St1 i s.heap) (st2 : St2 i s.heap) (l1 : i < n1) (l2 : i < n2)
    (fin : ∀ x1 x2 h' tk, P1 i x1 → P2 i x2 → ZOn h' z TI TO i1 i2 S0 (i + 1) → St1 (i + 1) h' → St2 (i + 1) h' → IsTupOf2 h' TI (.ref i1) (.ref i2) → IsTupOf2 h' s.heap.objs.size x1 x2 → h'.objs.size = s.heap.objs.size + 1 →
      (∀ c o, c ≠ z → c ≠ TO → c ≠ i1 → c ≠ i2 → s.heap.get? c = some o → h'.get? c = some o) → Q (some (.ref s.heap.objs.size)) { s with heap := h', toks := tk }) :
    wpAny (model prog w) A (pyNext (.ref z)) Q E s := by
  have lt1 : i1 < s.heap.objs.size := let ⟨_, e⟩ := D1.live _ _ st1; Heap.lt_size e
  have lt2 : i2 < s.heap.objs.size := let ⟨_, e⟩ := D2.live _ _ st2; Heap.lt_size e
  rcases zo with ⟨_, hz, a1, a2, hTO⟩ | ⟨T, b, oT, zh, oh, n1, n2, n3, n4⟩
  · have ltz : z < s.heap.objs.size := Heap.lt_size hz
    refine wpAny_pyNext_zipD2_item S D1 D2 hz ti hTO st1 st2 l1 l2 fun x1 x2 h' tk y1 y2 b1 b2 d1 d2 b5 b6 b7 => ?_
    exact fin x1 x2 h' tk y1 y2 (.inr ⟨_, false, _, b1, b5, Nat.ne_of_gt ltz, Nat.ne_of_gt lt1, Nat.ne_of_gt lt2, Nat.ne_of_gt hS⟩) d1 d2 (b7 _ _ S.TIz S.TITO S.TIi1 S.TIi2 ti) b5 b6 b7
  · have hTy : s.TypeIs (.ref z) "zip" := ⟨_, zh, rfl⟩
    unfold pyNext
    refine wpAny_bind (wpAny_attempt (wpAny_callSpecial?_slot (name := Str.ofString "__next__") hTy PySem.F.slot_zip_next (wpAny_call_entry PySem.F.slot_zip_next hTy PySem.F.entry_zip_next
      (zipH_item S D1 D2 zh oh ti st1 st2 l1 l2 fun x1 x2 h' tk y1 y2 b1 d1 d2 b5 b6 b7 => wpAny_pure ?_) (PySem.F.args_zip_next_1 _))))
    exact fin x1 x2 h' tk y1 y2 (.inr ⟨T, true, oT, b1, b7 _ _ n1 n2 n3 oh, n1, n2, n3, n4⟩) d1 d2 (b7 _ _ S.TIz S.TIi1 S.TIi2 ti) b5 b6 fun c o c1 _ c3 c4 e => b7 c o c1 c3 c4 e
theorem zOn_end {Q : Option Value → Shared → Prop} (S : ZipSep2 z TI TO i1 i2 fp1 fp2) (D1 : Draws prog w A.in1 i1 fp1 n1 P1 St1) (D2 : Draws prog w A.in1 i2 fp2 n2 P2 St2)
    (zo : ZOn s.heap z TI TO i1 i2 S0 i) (ti : IsTupOf2 s.heap TI (.ref i1) (.ref i2)) (st1 : St1 i s.heap) (st2 : St2 i s.heap) (l1 : i ≤ n1) (l2 : i ≤ n2) (hend : i = n1 ∨ i = n2)
    (fin : ∀ h' tk, (∀ c o, c ≠ z → c ≠ TO → c ≠ i1 → c ≠ i2 → s.heap.get? c = some o → h'.get? c = some o) → Q none { s with heap := h', toks := tk }) : wpAny (model prog w) A (pyNext (.ref z)) Q E s := by
  rcases zo with ⟨_, hz, a1, a2, hTO⟩ | ⟨T, b, oT, zh, oh, n1, n2, n3, n4⟩
  · exact wpAny_pyNext_zipD2_end S D1 D2 hz ti hTO st1 st2 l1 l2 hend fin
  · have hTy : s.TypeIs (.ref z) "zip" := ⟨_, zh, rfl⟩
    unfold pyNext
    refine wpAny_bind (wpAny_attempt (wpAny_callSpecial?_slot (name := Str.ofString "__next__") hTy PySem.F.slot_zip_next (wpAny_call_entry PySem.F.slot_zip_next hTy PySem.F.entry_zip_next
      (zipH_end S D1 D2 zh oh ti st1 st2 l1 l2 hend fun h' tk e keep he => ?_) (PySem.F.args_zip_next_1 _))))
    obtain ⟨o, ho, hc⟩ := he
    exact wpAny_bind (wpAny_isInstance (T := "StopIteration") (b := true) ⟨o, ho, hc⟩ isSubtype_stop (wpAny_pure (fin _ _ fun c o c1 _ c3 c4 e => keep c o c1 c3 c4 e)))
end
end Dx

set_option Elab.async false
set_option linter.all false
set_option maxRecDepth 100000
set_option maxHeartbeats 2000000
/-! DxZg: the list of a zip's pairs. -/
namespace Dx
open PySem PySem.Spec PyProof.Rows L2
open Sem (wp)
abbrev lsO (acc : Array Value) (c : Nat) : Obj := { cls := .type "list", dict := none, data := .seq acc c, slots := #[] }
theorem neA {x lo a : Addr} (h : x ≤ lo) (g : lo < a) : a ≠ x := fun e => absurd g (Nat.not_lt.mpr (by rw [e]; exact h))
/-- the pairs made so far -/
structure ZG (P1 P2 : Nat → Value → Prop) (lo : Addr) (h : Heap) (as : List Addr) : Prop where
  rise : as.Pairwise (· < ·)
  above : ∀ a ∈ as, lo < a
  pairs : ∀ (j : Nat) (a : Addr), as[j]? = some a → ∃ x y, P1 j x ∧ P2 j y ∧ IsTupOf2 h a x y
theorem ZG.there {P1 P2 : Nat → Value → Prop} {lo : Addr} {h : Heap} {as : List Addr} (g : ZG P1 P2 lo h as) {a : Addr} (ha : a ∈ as) : a < h.objs.size := by
  obtain ⟨j, hj⟩ := List.mem_iff_getElem?.mp ha
  obtain ⟨x, y, _, _, e⟩ := g.pairs j a hj
  exact Heap.lt_size e
theorem ZG.keep {P1 P2 : Nat → Value → Prop} {lo : Addr} {h h' : Heap} {as : List Addr} (g : ZG P1 P2 lo h as) (k : ∀ a ∈ as, ∀ o, h.get? a = some o → h'.get? a = some o) : ZG P1 P2 lo h' as :=
  ⟨g.rise, g.above, fun j a e => let ⟨x, y, p, q, t⟩ := g.pairs j a e; ⟨x, y, p, q, k a (List.mem_of_getElem? e) _ t⟩⟩
theorem ZG.add {P1 P2 : Nat → Value → Prop} {lo : Addr} {h h' : Heap} {as : List Addr} {T : Addr} {x y : Value} (g : ZG P1 P2 lo h as) (hT : h.objs.size ≤ T) (hl : lo < T) (k : ∀ a ∈ as, ∀ o, h.get? a = some o → h'.get? a = some o) (p : P1 as.length x) (q : P2 as.length y) (t : IsTupOf2 h' T x y) : ZG P1 P2 lo h' (as ++ [T]) := by
  have g' := g.keep k
  refine ⟨?_, ?_, ?_⟩
  · rw [List.pairwise_append]
    refine ⟨g.rise, List.pairwise_singleton .., fun a ha c hc => ?_⟩
    rw [List.mem_singleton.mp hc]
    exact Nat.lt_of_lt_of_le (g.there ha) hT
  · intro a ha
    rcases List.mem_append.mp ha with u | u
    · exact g.above a u
    · rw [List.mem_singleton.mp u]; exact hl
  · intro j a e
    rcases Nat.lt_trichotomy j as.length with u | u | u
    · rw [List.getElem?_append_left u] at e
      exact g'.pairs j a e
    · subst u
      rw [List.getElem?_append_right (Nat.le_refl _), Nat.sub_self] at e
      cases e
      exact ⟨x, y, p, q, t⟩
    · rw [List.getElem?_eq_none (by simp; omega)] at e
      cases e
section
variable {prog : Program} {w : World} {A : Around} {s0 : Shared} {z TI TO i1 i2 S0 lo : Addr} {fp1 fp2 : List Addr} {n1 n2 : Nat} {P1 P2 : Nat → Value → Prop} {St1 St2 : Nat → Heap → Prop}
theorem zl_loop {R : Result → Shared → Prop} {res : Value} (S : ZipSep2 z TI TO i1 i2 fp1 fp2) (D1 : Draws prog w A.in1.in1 i1 fp1 n1 P1 St1) (D2 : Draws prog w A.in1.in1 i2 fp2 n2 P2 St2) (a1 : S0 ≠ z) (a2 : S0 ≠ TI) (a3 : S0 ≠ TO) (a4 : S0 ∉ fp1) (a5 : S0 ∉ fp2)
    (b1 : z ≤ lo) (b3 : TO ≤ lo) (b4 : i1 ≤ lo) (b5 : i2 ≤ lo) (b6 : S0 ≤ lo) (hn : min n1 n2 ≤ sizeLine) (h0 : Heap)
    (fin : ∀ h' tk acc c as, h'.get? S0 = some (lsO acc c) → acc.toList = as.map Value.ref → as.length = min n1 n2 → ZG P1 P2 lo h' as → (∀ b o, b ≠ z → b ≠ TO → b ≠ i1 → b ≠ i2 → b ≠ S0 → h0.get? b = some o → h'.get? b = some o) → R (.ok (.ret res)) { s0 with heap := h', toks := tk }) :
    ∀ (m i : Nat) (h : Heap) (tk : Nat) (acc : Array Value) (c : Nat) (as : List Addr), i + m = min n1 n2 → ZOn h z TI TO i1 i2 S0 i → IsTupOf2 h TI (.ref i1) (.ref i2) → St1 i h → St2 i h → h.get? S0 = some (lsO acc c) → acc.toList = as.map Value.ref → as.length = i → ZG P1 P2 lo h as → lo < h.objs.size →
      (∀ b o, b ≠ z → b ≠ TO → b ≠ i1 → b ≠ i2 → b ≠ S0 → h0.get? b = some o → h.get? b = some o) → codeAny (model prog w) A (.builtin "list.extend.loop" ⟨[.ref S0, .ref z, res], []⟩) R { s0 with heap := h, toks := tk } := by
  intro m
  induction m with
  | zero =>
    intro i h tk acc c as hm zo ti st1 st2 hS ea el g hlo keep
    refine codeAny_builtin PySem.F.entry_extend_loop ?_
    rw [Around.under_plainId PySem.F.plain_extend_loop _]
    show wpAny _ A.in1 (pyNext (.ref z) >>= _) _ _ _
    have h1 : i ≤ n1 := by omega
    have h2 : i ≤ n2 := by omega
    have h3 : i = n1 ∨ i = n2 := by omega
    refine wpAny_bind (zOn_end (s := { s0 with heap := h, toks := tk }) S D1 D2 zo ti st1 st2 h1 h2 h3 fun h' tk' k => ?_)
    have hi1 : S0 ≠ i1 := fun e => a4 (e ▸ S.mem1)
    have hi2 : S0 ≠ i2 := fun e => a5 (e ▸ S.mem2)
    have ne : ∀ a ∈ as, a ≠ z ∧ a ≠ TO ∧ a ≠ i1 ∧ a ≠ i2 := fun a ha => have q := g.above a ha; ⟨neA b1 q, neA b3 q, neA b4 q, neA b5 q⟩
    exact wpAny_pure (fin h' tk' acc c as (k _ _ a1 a3 hi1 hi2 hS) ea (by omega) (g.keep fun a ha o e => k a o (ne a ha).1 (ne a ha).2.1 (ne a ha).2.2.1 (ne a ha).2.2.2 e) fun b o c1 c2 c3 c4 c5 e => k b o c1 c2 c3 c4 (keep b o c1 c2 c3 c4 c5 e))
  | succ m ih =>
    intro i h tk acc c as hm zo ti st1 st2 hS ea el g hlo keep
    refine codeAny_builtin PySem.F.entry_extend_loop ?_
    rw [Around.under_plainId PySem.F.plain_extend_loop _]
    show wpAny _ A.in1 (pyNext (.ref z) >>= _) _ _ _
    refine wpAny_bind (zOn_item (s := { s0 with heap := h, toks := tk }) S D1 D2 zo (Nat.lt_of_le_of_lt b6 hlo) ti st1 st2 (by omega) (by omega) fun x1 x2 h' tk' y1 y2 zo' u1 u2 ti' tt sz k => ?_)
    have hi1 : S0 ≠ i1 := fun e => a4 (e ▸ S.mem1)
    have hi2 : S0 ≠ i2 := fun e => a5 (e ▸ S.mem2)
    have hS' : h'.get? S0 = some (lsO acc c) := k _ _ a1 a3 hi1 hi2 hS
    have hi : i < sizeLine := by omega
    have hacc : acc.size = i := by rw [← el, ← Array.length_toList, ea, List.length_map]
    show wpAny _ A.in1 (updateSeq S0 (·.push (Value.ref h.objs.size)) >>= _) _ _ _
    refine wpAny_bind (wpAny_updateSeq (s := { s0 with heap := h', toks := tk' }) hS' rfl (wpAny_pure ⟨plainId_quiet PySem.F.plain_extend_loop _, ?_⟩) (by omega) (by show (acc.push _).size ≤ sizeLine + 1; rw [Array.size_push]; omega))
    have sb : Heap.SameBut S0 h' (h'.update S0 (Obj.mapSeq (·.push (Value.ref h.objs.size)))) := Heap.SameBut.update ..
    have up : ∀ b o, b ≠ S0 → h'.get? b = some o → (h'.update S0 (Obj.mapSeq (·.push (Value.ref h.objs.size)))).get? b = some o := fun b o n e => sb.extBut _ _ n e
    have ne : ∀ a ∈ as, a ≠ z ∧ a ≠ TO ∧ a ≠ i1 ∧ a ≠ i2 ∧ a ≠ S0 := fun a ha => have q := g.above a ha; ⟨neA b1 q, neA b3 q, neA b4 q, neA b5 q, neA b6 q⟩
    have hTn : h.objs.size ≠ S0 := neA b6 hlo
    refine ih (i + 1) _ tk' (acc.push (.ref h.objs.size)) _ (as ++ [h.objs.size]) (by omega) ?_ (up _ _ (Ne.symm a2) ti') (D1.over u1 sb a4) (D2.over u2 sb a5) (Heap.get?_update_self _ hS' rfl) ?_ (by simp [el]) ?_ ?_ ?_
    · rcases zo' with ⟨e, _⟩ | ⟨T, b, oT, zh, oh, r1, r2, r3, r4⟩
      · omega
      · exact .inr ⟨T, b, oT, up _ _ (Ne.symm a1) zh, up _ _ r4 oh, r1, r2, r3, r4⟩
    · rw [Array.toList_push, ea, List.map_append]; rfl
    · refine g.add (Nat.le_refl _) hlo (fun a ha o e => up _ _ (ne a ha).2.2.2.2 (k a o (ne a ha).1 (ne a ha).2.1 (ne a ha).2.2.1 (ne a ha).2.2.2.1 e)) (by rw [el]; exact y1) (by rw [el]; exact y2) (up _ _ hTn tt)
    · rw [sb.1]; have sz : h'.objs.size = h.objs.size + 1 := sz; rw [sz]; exact Nat.lt_succ_of_lt hlo
    · exact fun b o c1 c2 c3 c4 c5 e => up _ _ c5 (k b o c1 c2 c3 c4 (keep b o c1 c2 c3 c4 c5 e))
end
end Dx

set_option Elab.async false
set_option linter.all false
set_option maxRecDepth 100000
set_option maxHeartbeats 2000000
/-! DxZh: the call of list over a zip. -/
namespace Dx
open PySem PySem.Spec PyProof.Rows L2
open Sem (wp)
theorem zip_len0 : typeLookup (.type "zip") "__len__" = pure none := by rw [typeLookup_type, builtinLookup_eq_fast]; kernel_rfl
theorem zip_hint0 : typeLookup (.type "zip") "__length_hint__" = pure none := by rw [typeLookup_type, builtinLookup_eq_fast]; kernel_rfl
section
variable {prog : Program} {w : World} {A : Around} {E : Value → Shared → Prop} {s : Shared} {z TI TO i1 i2 : Addr} {fp1 fp2 : List Addr} {n1 n2 : Nat} {P1 P2 : Nat → Value → Prop} {St1 St2 : Nat → Heap → Prop}
theorem call_list_zip {Q : Value → Shared → Prop} (hh : A.handled = none) (S : ZipSep2 z TI TO i1 i2 fp1 fp2) (D1 : ∀ A : Around, A.handled = none → Draws prog w A i1 fp1 n1 P1 St1) (D2 : ∀ A : Around, A.handled = none → Draws prog w A i2 fp2 n2 P2 St2)
    (f1 : ∀ a ∈ fp1, a < s.heap.objs.size) (f2 : ∀ a ∈ fp2, a < s.heap.objs.size) (hz : IsZip s.heap z TI TO .none) (ti : IsTupOf2 s.heap TI (.ref i1) (.ref i2)) {u1 u2 : Value} (to : IsTupOf2 s.heap TO u1 u2) (st1 : St1 0 s.heap) (st2 : St2 0 s.heap) (hn : min n1 n2 ≤ sizeLine)
    (fin : ∀ h' tk acc c as, h'.get? s.heap.objs.size = some (lsO acc c) → acc.toList = as.map Value.ref → as.length = min n1 n2 → ZG P1 P2 s.heap.objs.size h' as → (∀ b o, b ≠ z → b ≠ TO → b ≠ i1 → b ≠ i2 → s.heap.get? b = some o → h'.get? b = some o) → Q (.ref s.heap.objs.size) { s with heap := h', toks := tk }) :
    wpAny (model prog w) A (call (.type "list") [.ref z]) Q E s := by
  have lz : z < s.heap.objs.size := Heap.lt_size hz
  have lTI : TI < s.heap.objs.size := Heap.lt_size ti
  have lTO : TO < s.heap.objs.size := Heap.lt_size to
  have nz : s.heap.objs.size ≠ z := Nat.ne_of_gt lz
  refine callType_codes (Q₁ := fun o s' => o = .ref s.heap.objs.size ∧ s' = { s with heap := s.heap.push { cls := .type "list", data := .seq #[] } }) PySem.F.called_list (PySem.F.typeCall_list_1 _) PySem.F.entry_list_init (code_list_new _ ⟨rfl, rfl⟩) fun o s' hs => ?_
  obtain ⟨rfl, rfl⟩ := hs
  have e0 : (s.heap.push { cls := .type "list", data := .seq #[] }).get? s.heap.objs.size = some { cls := .type "list", data := .seq #[] } := Heap.get?_push_size _ rfl
  refine ⟨⟨_, e0, rfl⟩, PySem.F.args_list_init_2 _ _, ?_⟩
  show wpAny _ A.in1.in1 (do let old ← Builtin.List.listItems (.ref s.heap.objs.size); Builtin.List.listUpdate (.ref s.heap.objs.size) (fun _ => #[]); letGo old.toList.reverse; Builtin.List.listExtendWith (.ref s.heap.objs.size) (.ref z) .none) _ _ _
  refine wpAny_bind ?_
  unfold Builtin.List.listItems
  refine wpAny_bind (wpAny_seqItems e0 rfl (wpAny_pure ?_))
  show wpAny _ A.in1.in1 (updateSeq s.heap.objs.size (fun _ => #[]) >>= fun _ => letGo (#[] : Array Value).toList.reverse >>= fun _ => Builtin.List.listExtendWith (.ref s.heap.objs.size) (.ref z) .none) _ _ _
  refine wpAny_bind (wpAny_updateSeq e0 rfl ?_)
  have e1 := Heap.get?_update_self (Obj.mapSeq (fun _ => (#[] : Array Value))) e0 rfl
  refine wpAny_bind (wpAny_letGo ?_)
  unfold Builtin.List.listExtendWith
  have up : ∀ (h : Heap) (f : Obj → Obj), (∀ b o, s.heap.get? b = some o → h.get? b = some o) → ∀ b o, s.heap.get? b = some o → (h.update s.heap.objs.size f).get? b = some o := fun h f q b o e =>
    (Heap.get?_update_other _ _ (Ne.symm (Nat.ne_of_lt (Heap.lt_size e)))).trans (q b o e)
  have k1 : ∀ b o, s.heap.get? b = some o → (s.heap.push { cls := .type "list", data := .seq #[] }).get? b = some o := fun b o e => Heap.get?_push_of_some _ e
  have k2 := up _ (Obj.mapSeq (fun _ => (#[] : Array Value))) k1
  refine wpAny_bind (wpAny_typeOf (T := "zip") ⟨_, k2 z _ hz, rfl⟩ ?_)
  have h1 : Builtin.List.listSameRef (.ref s.heap.objs.size) (.ref z) = false := by simp [Builtin.List.listSameRef, nz]
  have h2 : (Value.type "zip" == Value.type "list") = false := by decide
  have h3 : (Value.type "zip" == Value.type "tuple") = false := by decide
  simp only [h1, h2, h3, Bool.or_false, Bool.false_eq_true, if_false]
  refine wpAny_bind (wpAny_pyIter_zip (s := { s with heap := _ }) (k2 z _ hz) ?_)
  refine wpAny_bind (wpAny_holding ?_)
  unfold Builtin.List.listLengthHint
  refine wpAny_bind (wpAny_specialOf (T := "zip") ⟨_, k2 z _ hz, rfl⟩ zip_len0 ?_)
  show wpAny _ A.in1.in1 (specialOf (Value.ref z) (Str.ofString "__length_hint__") >>= _) _ _ _
  refine wpAny_bind (wpAny_specialOf (T := "zip") ⟨_, k2 z _ hz, rfl⟩ zip_hint0 ?_)
  refine wpAny_pure ?_
  show wpAny _ A.in1.in1 (rule "list.extend.makes-room" >>= fun _ => Builtin.List.listTouch (.ref s.heap.objs.size) >>= fun _ => again (.builtin "list.extend.loop" ⟨[.ref s.heap.objs.size, .ref z, .none], []⟩)) _ _ _
  refine wpAny_bind (wpAny_rule (wpAny_bind ?_))
  show wpAny _ A.in1.in1 (updateSeq s.heap.objs.size (·.push .none) >>= fun _ => updateSeq s.heap.objs.size (·.pop)) _ _ _
  refine wpAny_bind (wpAny_updateSeq e1 rfl ?_)
  have e2 := Heap.get?_update_self (Obj.mapSeq (·.push Value.none)) e1 rfl
  refine wpAny_updateSeq (hz := by seq_fits) e2 rfl ?_
  have e3 := Heap.get?_update_self (Obj.mapSeq (·.pop)) e2 rfl
  have k4 := up _ (Obj.mapSeq (·.pop)) (up _ (Obj.mapSeq (·.push Value.none)) k2)
  refine wpAny_pure ⟨plainId_quiet PySem.F.plain_extend_loop _, ?_⟩
  have D1' := D1 A.in1.in1.in1 hh
  have D2' := D2 A.in1.in1.in1 hh
  refine zl_loop (s0 := s) (A := A.in1) (lo := s.heap.objs.size) S D1' D2' nz (Nat.ne_of_gt lTI) (Nat.ne_of_gt lTO) (fun q => Nat.lt_irrefl _ (f1 _ q)) (fun q => Nat.lt_irrefl _ (f2 _ q)) (Nat.le_of_lt lz) (Nat.le_of_lt lTO) (Nat.le_of_lt (f1 _ S.mem1)) (Nat.le_of_lt (f2 _ S.mem2)) (Nat.le_refl _) hn s.heap
    (fun h' tk acc c as q1 q2 q3 q4 q5 => ⟨rfl, fin h' tk acc c as q1 q2 q3 q4 fun b o c1 c2 c3 c4 e => q5 b o c1 c2 c3 c4 (Nat.ne_of_lt (Heap.lt_size e)) e⟩)
    (min n1 n2) 0 _ s.toks #[] _ [] (Nat.zero_add _) (.inl ⟨rfl, k4 _ _ hz, u1, u2, k4 _ _ to⟩) (k4 _ _ ti) (D1'.frame _ _ _ st1 fun b _ o e => k4 b o e) (D2'.frame _ _ _ st2 fun b _ o e => k4 b o e) e3 rfl rfl ⟨List.Pairwise.nil, (fun _ ha => nomatch ha), (fun j a e => by simp at e)⟩ ?_ fun b o _ _ _ _ _ e => k4 b o e
  exact Heap.lt_size e3
end
end Dx

set_option Elab.async false
set_option linter.all false
set_option maxRecDepth 100000
set_option maxHeartbeats 2000000
/-! DxZi: list(zip(a, b)) as a rule; dict(pairs). -/
namespace Dx
open PySem PySem.Spec PyProof.Rows L2
open Sem (wp)
/-- a thing that zip can walk: its members -/
structure ZSrc (prog : Program) (w : World) (s : Shared) (v : Value) (xs : List V) : Prop where
  ex : ∃ (o : Obj) (Hc : Heap → Prop) (fp : List Addr) (P : Nat → Value → Prop) (St : Addr → Nat → Heap → Prop), Begins v o Hc ∧ Hc s.heap ∧ (∀ a ∈ fp, a < s.heap.objs.size) ∧
    (∀ it, it ∉ fp → ∀ A : Around, A.handled = none → Draws prog w A it (it :: fp) xs.length P (St it)) ∧
    (∀ it h', h'.get? it = some o → (∀ c o, s.heap.get? c = some o → h'.get? c = some o) → St it 0 h') ∧ ∀ i u, P i u → ∃ x, xs[i]? = some x ∧ RelV x u
section
variable {X : Cx} {pins : List (Addr × Obj)} {σ : L2.St} {H : Hp} {s : Shared}
theorem vals_at {xs : List V} {us : List Value} (r : Vals xs us) {i : Nat} {u : Value} (e : us[i]? = some u) : ∃ x, xs[i]? = some x ∧ RelV x u := by
  induction r generalizing i with
  | nil => simp at e
  | cons a _ ih =>
    cases i with
    | zero => simp at e; subst e; exact ⟨_, rfl, a⟩
    | succ i => simpa using ih (by simpa using e)
theorem zsrc_list (I : Inv X pins σ H s) {a : Addr} {xs : List V} (h : SqL X.K H a xs) : ZSrc X.prog X.w s (.ref a) xs := by
  obtain ⟨its, r, p, hz⟩ := I.list h
  have hl : its.toArray.size = xs.length := by rw [List.size_toArray]; exact (Paired.length r).symm
  refine ⟨_, _, [a], fun i v => its.toArray[i]? = some v, fun it i h => h.IsListIter it a i ∧ h.IsList a its.toArray, begins_list a its.toArray, p.isList, ?_, ?_, ?_, ?_⟩
  · intro b hb; rw [List.mem_singleton.mp hb]; exact p.lt
  · intro it hi A hA
    rw [← hl]
    exact Draws.list hA it a (fun e => hi (by rw [e]; simp)) _
  · intro it h' e k
    exact ⟨⟨_, e, rfl, rfl⟩, p.isList.at fun o q => k a o q⟩
  · intro i u e
    exact vals_at r (by simpa using e)
theorem zsrc_tup (I : Inv X pins σ H s) {a : Addr} {xs : List V} (h : SqT X.K H a xs) : ZSrc X.prog X.w s (.ref a) xs := by
  obtain ⟨its, r, p, hz⟩ := I.tuple h
  have hl : its.toArray.size = xs.length := by rw [List.size_toArray]; exact (Paired.length r).symm
  refine ⟨_, _, [a], fun i v => its.toArray[i]? = some v, fun it i h => h.IsTupleIter it a i ∧ h.IsTuple a its.toArray, begins_tuple a its.toArray, p, ?_, ?_, ?_, ?_⟩
  · intro b hb; rw [List.mem_singleton.mp hb]
    obtain ⟨o, ho, _⟩ := p
    exact Heap.lt_size ho
  · intro it hi A hA
    rw [← hl]
    exact Draws.tuple hA it a (fun e => hi (by rw [e]; simp)) _
  · intro it h' e k
    exact ⟨⟨_, e, rfl, rfl⟩, Heap.IsTuple.at p fun o q => k a o q⟩
  · intro i u e
    exact vals_at r (by simpa using e)
theorem zsrc_str (x : Str) (t : Tok) : ZSrc X.prog X.w s (.str x t) (x.cps.toList.map fun c => V.str ⟨#[c]⟩) := by
  refine ⟨_, _, [], fun i v => ∃ c u, x.cps[i]? = some c ∧ v = .str ⟨#[c]⟩ u, fun it i h => h.IsStrIter it (strIterType x) x t i, begins_text x t, trivial, fun _ h => (nomatch h), ?_, ?_, ?_⟩
  · intro it _ A hA
    have hl : (x.cps.toList.map fun c => V.str ⟨#[c]⟩).length = x.cps.size := by simp
    rw [hl]
    exact Draws.text hA it x t
  · intro it h' e _
    exact ⟨_, e, rfl, rfl⟩
  · rintro i u ⟨c, t', e, rfl⟩
    refine ⟨.str ⟨#[c]⟩, ?_, ⟨t', rfl⟩⟩
    rw [List.getElem?_map, Array.getElem?_toList, e]; rfl
/-! pairs, laid -/
def putP (H : Hp) : List Addr → List (V × V) → Hp
  | a :: as, p :: ps => putP (upd H a (.tup [p.1, p.2])) as ps
  | _, _ => H
theorem putP_off {b : Addr} : ∀ (as : List Addr) (ps : List (V × V)) (H : Hp), b ∉ as → putP H as ps b = H b
  | [], _, _, _ => rfl
  | _ :: _, [], _, _ => rfl
  | a :: as, p :: ps, H, h => by
    show putP (upd H a (.tup [p.1, p.2])) as ps b = H b
    rw [putP_off as ps _ fun z => h (List.mem_cons_of_mem _ z), upd_ne fun z => h (by rw [z]; simp)]
theorem putP_at : ∀ (as : List Addr) (ps : List (V × V)) (H : Hp), as.Nodup → as.length = ps.length → ∀ (j : Nat) (a : Addr), as[j]? = some a → ∃ p, ps[j]? = some p ∧ putP H as ps a = some (.tup [p.1, p.2])
  | [], _, _, _, _, j, a, e => by simp at e
  | _ :: _, [], _, _, hl, _, _, _ => by simp at hl
  | b :: as, p :: ps, H, nd, hl, 0, a, e => by
    simp at e; subst e
    rw [List.nodup_cons] at nd
    exact ⟨p, rfl, by show putP (upd H b (.tup [p.1, p.2])) as ps b = _; rw [putP_off as ps _ nd.1, upd_same]⟩
  | b :: as, p :: ps, H, nd, hl, j + 1, a, e => by
    rw [List.nodup_cons] at nd
    obtain ⟨q, e1, e2⟩ := putP_at as ps (upd H b (.tup [p.1, p.2])) nd.2 (by simpa using hl) j a (by simpa using e)
    exact ⟨q, by simpa using e1, e2⟩
theorem zip_laid {h' : Heap} {tk : Nat} {ps : List (V × V)} {as : List Addr} {acc : Array Value} {c : Nat} {S0 : Addr} (I : Inv X pins σ H s) (hS0 : s.heap.objs.size ≤ S0) (hk : ∀ b o, s.heap.get? b = some o → h'.get? b = some o) (hS : h'.get? S0 = some (lsO acc c))
    (hl : as.length = ps.length) (hz : ps.length ≤ sizeLine) (rise : as.Pairwise (· < ·)) (above : ∀ a ∈ as, S0 < a) (hp : ∀ (j : Nat) (a : Addr) (p : V × V), as[j]? = some a → ps[j]? = some p → ∃ x y, RelV p.1 x ∧ RelV p.2 y ∧ IsTupOf2 h' a x y) (hacc : acc.toList = as.map Value.ref) :
    (∀ b u, H b = some u → putP (upd H S0 (.lst (as.map V.ref))) as ps b = some u) ∧ H S0 = none ∧ (∀ t ∈ as, H t = none) ∧ S0 ∉ as ∧ as.Nodup ∧ Inv X pins σ (putP (upd H S0 (.lst (as.map V.ref))) as ps) { s with heap := h', toks := tk } := by
  have off0 : S0 ∉ as := fun q => Nat.lt_irrefl _ (above _ q)
  have nd : as.Nodup := List.Pairwise.imp (fun {a b} (h : a < b) => Nat.ne_of_lt h) rise
  have newT : ∀ t ∈ as, H t = none := fun t ht => I.hok.fresh (Nat.le_trans hS0 (Nat.le_of_lt (above t ht)))
  have newS : H S0 = none := I.hok.fresh hS0
  have off : ∀ b, b ∉ as → b ≠ S0 → putP (upd H S0 (.lst (as.map V.ref))) as ps b = H b := fun b h1 h2 => by rw [putP_off as ps _ h1, upd_ne h2]
  have low : ∀ b o, s.heap.get? b = some o → b ∉ as ∧ b ≠ S0 := fun b o e => ⟨fun q => absurd (Heap.lt_size e) (Nat.not_lt.mpr (Nat.le_trans hS0 (Nat.le_of_lt (above b q)))), Nat.ne_of_lt (Nat.lt_of_lt_of_le (Heap.lt_size e) hS0)⟩
  have kp : ∀ b u, H b = some u → putP (upd H S0 (.lst (as.map V.ref))) as ps b = some u := fun b u e => by
    rw [off b (fun q => by rw [newT b q] at e; cases e) (fun q => by rw [q, newS] at e; cases e)]
    exact e
  have atS : putP (upd H S0 (.lst (as.map V.ref))) as ps S0 = some (.lst (as.map V.ref)) := by rw [putP_off as ps _ off0, upd_same]
  refine ⟨kp, newS, newT, off0, nd, ?_⟩
  refine I.call' (ch := []) rfl ⟨fun b o q _ _ _ => hk b o q, fun b o q _ _ _ => ⟨o.slots, hk b o q⟩, fun b o q n _ => ?_, fun b o q _ => ⟨o, hk b o q⟩, fun b xs q => kp b _ q, fun b o u q => kp b _ q, fun b ys q => ⟨#[], by rw [kp b _ q]; simp⟩⟩ (fun b u q => ?_) I.bare fun b q => by simp at q
  · rw [off b (low b o q).1 (low b o q).2]
    exact n
  · by_cases hb : b ∈ as
    · obtain ⟨j, ej⟩ := List.mem_iff_getElem?.mp hb
      obtain ⟨p, e1, e2⟩ := putP_at as ps (upd H S0 (.lst (as.map V.ref))) nd hl j b ej
      rw [e2] at q; cases q
      obtain ⟨x, y, r1, r2, t⟩ := hp j b p ej e1
      exact ⟨by show 2 ≤ sizeLine; decide, [x, y], .cons r1 (.cons r2 .nil), ⟨_, t, rfl, _, rfl⟩⟩
    · by_cases hb2 : b = S0
      · subst hb2
        rw [atS] at q; cases q
        refine ⟨by rw [List.length_map]; omega, acc.toList, c, by rw [hacc]; exact LiI.vals_refs as, ?_⟩
        rw [Array.toArray_toList]; exact hS
      · rw [off b hb hb2] at q
        exact (I.hok b u q).stay (fun d v _ e => hk d v e) (fun d e => kp d _ e) fun d ys e => kp d _ e
end
end Dx

set_option Elab.async false
set_option linter.all false
set_option maxRecDepth 100000
set_option maxHeartbeats 2000000
/-! DxZj: the rule of list(zip(a, b)). -/
namespace Dx
open PySem PySem.Spec PyProof.Rows L2
open Sem (wp)
def chV (x : Str) : List V := x.cps.toList.map fun c => V.str ⟨#[c]⟩
def ZV (K : Frag) (H : Hp) (v : V) (xs : List V) : Prop := (∃ a, v = .ref a ∧ SqL K H a xs) ∨ (∃ a, v = .ref a ∧ SqT K H a xs) ∨ ∃ x, v = .str x ∧ xs = chV x
theorem ZV.src {X : Cx} {pins : List (Addr × Obj)} {σ : L2.St} {H : Hp} {s : Shared} (I : Inv X pins σ H s) {v : V} {u : Value} {xs : List V} (h : ZV X.K H v xs) (r : RelV v u) : ZSrc X.prog X.w s u xs := by
  rcases h with ⟨a, rfl, q⟩ | ⟨a, rfl, q⟩ | ⟨x, rfl, rfl⟩
  · obtain rfl : u = Value.ref a := r
    exact zsrc_list I q
  · obtain rfl : u = Value.ref a := r
    exact zsrc_tup I q
  · obtain ⟨t, rfl⟩ := (show ∃ t, u = .str x t from r)
    exact zsrc_str (X := X) x t
def tLz (K : Frag) (ta : TA) : TE := fun σ H Q => ta σ H fun vs H1 => ∃ v1 v2 xs ys, vs = [v1, v2] ∧ ZV K H1 v1 xs ∧ ZV K H1 v2 ys ∧ min xs.length ys.length ≤ sizeLine ∧
  ∀ (S0 : Addr) (as : List Addr), H1 S0 = none → (∀ t ∈ as, H1 t = none) → S0 ∉ as → as.Nodup → as.length = (xs.zip ys).length → Q (.ref S0) (putP (upd H1 S0 (.lst (as.map V.ref))) as (xs.zip ys))
section
variable {X : Cx} {e e2 : Expr} {ta : TA} {p p2 pos pos2 : Pos}
theorem pe_listzip (hc : X.calm = true) (hg : Gl X "list") (hm : X.mg "list" = none) (hg2 : Gl X "zip") (hm2 : X.mg "zip" = none) (ha : PA X [e, e2] ta) (hs : nsE e = true) (hs2 : nsE e2 = true) :
    PE X (.Call (.Name "list" p) [.Call (.Name "zip" p2) [e, e2] [] pos2] [] pos) (tLz X.K ta) := by
  refine ⟨fun pins s σ H Q I hq => ?_⟩
  have st1 : starEach [.Call (.Name "zip" p2) [e, e2] [] pos2] X.env = (false, eval (.Call (.Name "zip" p2) [e, e2] [] pos2) X.env) :: starEach [] X.env := star_cons rfl
  refine wpAny_Call_Name_kw (ld_blt I hg hm boot_list ?_)
  refine PyProof.Rows.callWith_type1 ?_ st1 rfl
  rw [st1]
  show wpAny _ _ (spliced ((false, eval (.Call (.Name "zip" p2) [e, e2] [] pos2) X.env) :: backTo pos (starEach [] X.env))) _ _ s
  refine Calls.spliced_cons ?_
  refine Call_ (ld_blt I hg2 hm2 boot_zip (PyProof.Rows.callWith_type1 (thn (ha.run pos2 pins s σ H _ I hq) fun us s1 ⟨vs, H1, I1, r1, q1⟩ => ?_) (star_cons hs) (noStar_any (by simp [hs2]))))
  obtain ⟨v1, v2, xs, ys, ex, z1, z2, hn, q⟩ := q1
  subst ex
  cases r1 with
  | cons ra rr =>
    cases rr with
    | cons rb rr =>
      cases rr
      obtain ⟨o1, H1c, fp1, P1, St1, B1, c1, f1, D1, b1, k1⟩ := (z1.src I1 ra).ex
      obtain ⟨o2, H2c, fp2, P2, St2, B2, c2, f2, D2, b2, k2⟩ := (z2.src I1 rb).ex
      refine zip_begins2 B1 B2 c1 c2 fun h2 hz hTI hTO g1 g2 hsz hk => ?_
      refine Calls.spliced_nil ?_
      have n1 : s1.heap.objs.size ∉ fp1 := fun q => Nat.lt_irrefl _ (f1 _ q)
      have n2 : s1.heap.objs.size + 1 ∉ fp2 := fun q => Nat.lt_irrefl _ (Nat.lt_of_succ_lt (f2 _ q))
      have hsz' : ({ s1 with heap := h2 } : Shared).heap.objs.size = s1.heap.objs.size + 5 := hsz
      refine call_list_zip (s := { s1 with heap := h2 }) (I1.ok.hd hc) (zip_sep2 f1 f2) (fun A hA => D1 _ n1 A hA) (fun A hA => D2 _ n2 A hA) (fun a ha => ?_) (fun a ha => ?_) hz hTI hTO (b1 _ h2 g1 hk) (b2 _ h2 g2 hk) hn fun h' tk acc c as e1 e2 e3 g e4 => ?_
      · rw [hsz']
        rcases List.mem_cons.mp ha with z | z
        · rw [z]; exact Nat.lt_add_of_pos_right (by decide)
        · exact Nat.lt_of_lt_of_le (f1 a z) (Nat.le_add_right _ _)
      · rw [hsz']
        rcases List.mem_cons.mp ha with z | z
        · rw [z]; exact Nat.add_lt_add_left (by decide) _
        · exact Nat.lt_of_lt_of_le (f2 a z) (Nat.le_add_right _ _)
      rw [hsz'] at e1 g ⊢
      have low : ∀ {b : Addr} {o : Obj} (n : Nat), s1.heap.get? b = some o → b ≠ s1.heap.objs.size + n := fun n e q => absurd (Heap.lt_size e) (Nat.not_lt.mpr (by rw [q]; exact Nat.le_add_right _ _))
      have keep : ∀ b o, s1.heap.get? b = some o → h'.get? b = some o := fun b o e => e4 b o (low 4 e) (low 3 e) (low 0 e) (low 1 e) (hk b o e)
      have hlen : as.length = (xs.zip ys).length := by rw [e3, List.length_zip]
      have key : ∀ (j : Nat) (a : Addr) (pr : V × V), as[j]? = some a → (xs.zip ys)[j]? = some pr → ∃ x y, RelV pr.1 x ∧ RelV pr.2 y ∧ IsTupOf2 h' a x y := by
        intro j a pr ej ep
        obtain ⟨x, y, px, py, t⟩ := g.pairs j a ej
        obtain ⟨vx, ex, rx⟩ := k1 j x px
        obtain ⟨vy, ey, ry⟩ := k2 j y py
        have : pr = (vx, vy) := by
          have h1 : (xs.zip ys)[j]? = some (vx, vy) := by rw [List.getElem?_zip_eq_some]; exact ⟨ex, ey⟩
          rw [h1] at ep; exact (Option.some.inj ep).symm
        subst this
        exact ⟨x, y, rx, ry, t⟩
      obtain ⟨_, x2, x3, x4, x5, J⟩ := zip_laid (tk := tk) I1 (Nat.le_add_right _ 5) keep e1 hlen (by rw [List.length_zip]; exact hn) g.rise g.above key e2
      exact ⟨.ref _, _, J, rfl, q _ as x2 x3 x4 x5 hlen⟩
end
/-! over data -/
def zsO : D → Option (List D)
  | .lst l => some l
  | .tup l => some l
  | .str x => some (chrD x)
  | _ => none
def lzO : List D → Option D
  | [a, b] => (zsO a).bind fun l => (zsO b).bind fun m => if decide (min l.length m.length ≤ sizeLine) then some (.lst (zipD l m)) else none
  | _ => none
theorem den_zs {K : Frag} {Fz : Addr → Prop} {H : Hp} {v : V} {d : D} {l : List D} (h : Den K Fz H v d) (e : zsO d = some l) : ∃ xs, ZV K H v xs ∧ DenL K Fz H xs l := by
  cases h with
  | lst q dl => cases e; exact ⟨_, .inl ⟨_, rfl, q.l⟩, dl⟩
  | tup q dl => cases e; exact ⟨_, .inr (.inl ⟨_, rfl, q.t⟩), dl⟩
  | str x =>
    cases e
    refine ⟨chV x, .inr (.inr ⟨x, rfl, rfl⟩), ?_⟩
    unfold chV chrD
    generalize x.cps.toList = cs
    induction cs with
    | nil => exact .nil
    | cons c cs ih => exact .cons (.str _) ih
  | _ => cases e
theorem den_zip {K : Frag} {Fz : Addr → Prop} {H : Hp} : ∀ {xs ys : List V} {l m : List D} (as : List Addr), DenL K Fz H xs l → DenL K Fz H ys m → as.length = (xs.zip ys).length →
    (∀ (j : Nat) (a : Addr), as[j]? = some a → ∃ p, (xs.zip ys)[j]? = some p ∧ H a = some (.tup [p.1, p.2])) → DenL K Fz H (as.map V.ref) (zipD l m)
  | [], _, _, _, as, .nil, dm, hl, _ => by
    have : as = [] := List.eq_nil_of_length_eq_zero (by simpa using hl)
    subst this
    cases dm <;> exact .nil
  | _ :: _, [], _, _, as, .cons _ _, .nil, hl, _ => by
    have : as = [] := List.eq_nil_of_length_eq_zero (by simpa using hl)
    subst this
    exact .nil
  | x :: xs, y :: ys, _, _, [], .cons _ _, .cons _ _, hl, _ => by simp at hl
  | x :: xs, y :: ys, _, _, a :: as, .cons dx dl, .cons dy dm, hl, h => by
    obtain ⟨p, e1, e2⟩ := h 0 a rfl
    have e1 : (x, y) = p := by simpa using e1
    subst e1
    exact .cons (.tup (.inl e2) (.cons dx (.cons dy .nil))) (den_zip as dl dm (by simpa using hl) fun j a' e => by
      obtain ⟨q, f1, f2⟩ := h (j + 1) a' (by simpa using e)
      exact ⟨q, by simpa using f1, f2⟩)
section
variable {W : Wd} {N : List Str} {sc : Scope} {k : Nat} {E : XK} {X : Cx} {B : Bs} {e e2 : Expr} {l : List Sl → R (List D × List Sl)} {p p2 pos pos2 : Pos}
theorem q_listzip (hX : XIs W N sc k E X) (hB : BOk W B) (hm : W.mg "list" = none) (o : GOk X sc "list") (hm2 : W.mg "zip" = none) (o2 : GOk X sc "zip") (hs : nsE e = true) (hs2 : nsE e2 = true) (ha : PA X [e, e2] (tA B E l)) :
    PE X (.Call (.Name "list" p) [.Call (.Name "zip" p2) [e, e2] [] pos2] [] pos) (tO B E (evL lzO l)) :=
  weakE (pe_listzip hX.calm o.g (hX.noName hm) o2.g (hX.noName hm2) ha hs hs2) fun σ H Q ⟨Fz, ρ, I, q⟩ => by
    refine monoG (tG_bind I q) fun vs H1 ⟨F1, ρ1, ds, I1, d1, g1, e1, q1⟩ => ?_
    obtain ⟨z, ez, q2⟩ := fin_o q1
    match ds, d1, ez with
    | [da, db], .cons (v := va) ha' (.cons (v := vb) hb' .nil), ez =>
      obtain ⟨la, ea, ez⟩ := bind_some ez
      obtain ⟨lb, eb, ez⟩ := bind_some ez
      obtain ⟨hc, rfl⟩ := if_some ez
      obtain ⟨xs, zx, dx⟩ := den_zs ha' ea
      obtain ⟨ys, zy, dy⟩ := den_zs hb' eb
      have hlen : min xs.length ys.length ≤ sizeLine := by rw [dx.length, dy.length]; exact of_decide_eq_true hc
      rw [(hX.kk hB).symm]
      refine ⟨va, vb, xs, ys, rfl, zx, zy, hlen, fun S0 as h1 h2 h3 h4 h5 => ?_⟩
      -- the heap behind
      have kp : ∀ b u, H1 b = some u → putP (upd H1 S0 (.lst (as.map V.ref))) as (xs.zip ys) b = some u := fun b u e => by
        rw [putP_off as _ _ (fun z => by rw [h2 b z] at e; cases e), upd_ne (fun z => by rw [z, h1] at e; cases e)]; exact e
      have low : ∀ b, H1 b = none → B.H0 b = none := fun b hb => by
        cases q : B.H0 b with
        | none => rfl
        | some u => obtain ⟨o', w⟩ := I1.ext.there b u q; rw [hb] at w; cases w
      have nz : ∀ b, H1 b = none → ¬ F1 b := fun b hb z => by
        obtain ⟨C, dx, fs, e⟩ := I1.fzs b z
        rw [hb] at e; cases e
      have ge : Ge F1 H1 F1 (putP (upd H1 S0 (.lst (as.map V.ref))) as (xs.zip ys)) := ⟨fun a o _ e => kp a o e, fun _ h => h, fun a h => by
        obtain ⟨C, dx, fs, e⟩ := I1.fzs a h
        rw [e]; exact kp a _ e⟩
      have ext : Ext (fun _ => False) F1 H1 F1 (putP (upd H1 S0 (.lst (as.map V.ref))) as (xs.zip ys)) := ⟨ge, fun a o e _ => kp a o e, fun _ h => .inl h, fun a o e => ⟨o, kp a o e⟩⟩
      have fz : FzOk F1 (putP (upd H1 S0 (.lst (as.map V.ref))) as (xs.zip ys)) := fun a h => by
        obtain ⟨C, dx, fs, e⟩ := I1.fzs a h
        exact ⟨C, dx, fs, kp a _ e⟩
      refine q2 _ _ F1 (I1.step ext fz (fun _ h => h.elim) fun _ _ _ h => h) ge ⟨S0, rfl, ⟨as.map V.ref, by rw [putP_off as _ _ h3, upd_same], ?_⟩, low S0 h1, fun i b hb z => ?_⟩
      · exact den_zip as (dx.mono ge) (dy.mono ge) h5 fun j a ej => putP_at as _ _ h4 h5 j a ej
      · obtain ⟨o', w⟩ := I1.held hb
        rw [z, h1] at w; cases w
end
end Dx

set_option Elab.async false
set_option linter.all false
set_option maxRecDepth 100000
set_option maxHeartbeats 2000000
/-! DxZk: dicts: of pairs, of a dict, displays, get, list(d.items()). -/
namespace Dx
open PySem PySem.Spec PyProof.Rows L2
/-- a dict put together from pairs -/
def dicOf (l : List (Str × D)) : List (Str × D) := l.foldl (fun acc p => putD acc p.1 p.2) []
def pairsD : List D → Option (List (Str × D))
  | [] => some []
  | .tup [.str k, d] :: l => (pairsD l).map fun r => (k, d) :: r
  | .lst [.str k, d] :: l => none
  | _ => none
def dictO : List D → Option D
  | [.lst l] => (pairsD l).map fun r => .dic (dicOf r)
  | [.dic l] => some (.dic l)
  | _ => none
section
variable {K : Frag} {Fz : Addr → Prop} {H : Hp}
theorem merge_keyP : ∀ (l acc : List (Str × V)), mergeK (acc.map keyP) (l.map keyP) = (l.foldl (fun a p => putS a p.1 p.2) acc).map keyP
  | [], _ => rfl
  | p :: l, acc => by
    show mergeK (putK (acc.map keyP) (Sum.inr p.1) p.2) (l.map keyP) = _
    rw [putK_keyP, merge_keyP l (putS acc p.1 p.2)]; rfl
theorem DenF.fold : ∀ {l : List (Str × V)} {m : List (Str × D)} {acc : List (Str × V)} {bcc : List (Str × D)}, DenF K Fz H l m → DenF K Fz H acc bcc → DenF K Fz H (l.foldl (fun a p => putS a p.1 p.2) acc) (m.foldl (fun a p => putD a p.1 p.2) bcc)
  | _, _, _, _, .nil, h => h
  | _, _, _, _, .cons d t, h => have r := DenF.fold t (DenF.put d h); r
theorem den_pairs : ∀ {vs : List V} {ds : List D} {r : List (Str × D)}, DenL K Fz H vs ds → pairsD ds = some r → ∃ (ps : List Addr) (kvs : List (Str × V)), vs = ps.map V.ref ∧ Paired (fun p kv => SqT K H p [kV kv.1, kv.2]) ps (kvs.map keyP) ∧ DenF K Fz H kvs r
  | _, _, _, .nil, e => by cases e; exact ⟨[], [], rfl, .nil, .nil⟩
  | _, _, _, .cons (v := v) (d := d) (vs := vs) (ds := ds) dv dl, e => by
    unfold pairsD at e
    split at e
    · rename_i h; cases h
    · rename_i k x l h
      cases h
      obtain ⟨r', er, rfl⟩ := map_some e
      obtain ⟨ps, kvs, rfl, pp, df⟩ := den_pairs dl er
      cases dv with
      | tup q dd =>
        cases dd with
        | cons d1 d2 =>
          cases d2 with
          | cons d2 d3 =>
            cases d3
            cases d1
            exact ⟨_ :: ps, (k, _) :: kvs, rfl, .cons q.t pp, .cons d2 df⟩
    · cases e
    · cases e
end
theorem BackO.dic {B : Bs} {Fz : Addr → Prop} {H : Hp} {σ : L2.St} {ρ : List Sl} {ds : List (Str × D)} {kvs : List (Str × V)} {Q : VK} (I : Iv B Fz H σ ρ) (d : DenF B.K Fz H kvs ds) (b : BackO B Fz H σ ρ (.dic ds) Q) : ∀ p, H p = none → Q (.ref p) (upd H p (.dK (kvs.map keyP))) := fun p hp => by
  obtain ⟨I2, g2, ap, h0, nz⟩ := I.laid hp (.dK (kvs.map keyP))
  exact b _ _ Fz I2 g2 ⟨p, rfl, ⟨kvs, upd_same, d.mono g2⟩, h0, ap⟩
def rDict (K : Frag) : List V → Hp → VK → Prop := fun xs H Q => (∃ (a : Addr) (ps : List Addr) (kvs : List (Key × V)), xs = [.ref a] ∧ SqL K H a (ps.map V.ref) ∧ Paired (fun p kv => SqT K H p [kV kv.1, kv.2]) ps kvs ∧ ∀ p, H p = none → Q (.ref p) (upd H p (.dK (mergeK [] kvs)))) ∨
  ∃ (a : Addr) (kvs : List (Key × V)), xs = [.ref a] ∧ Rd H a (.dK kvs) ∧ ∀ p, H p = none → Q (.ref p) (upd H p (.dK kvs))
theorem r_dict {K : Frag} : RLO K (rDict K) dictO := fun B Fz H σ ρ vs ds z Q hK I hd e b => by
  subst hK
  unfold dictO at e
  split at e
  · rename_i l
    obtain ⟨r, er, rfl⟩ := map_some e
    cases hd with
    | cons dv dn =>
      cases dn
      cases dv with
      | lst q dl =>
        obtain ⟨ps, kvs, rfl, pp, df⟩ := den_pairs dl er
        have m := merge_keyP kvs []
        refine .inl ⟨_, ps, kvs.map keyP, rfl, q.l, pp, ?_⟩
        rw [show mergeK [] (kvs.map keyP) = _ from m]
        exact BackO.dic I (DenF.fold df .nil) b
  · cases e
    cases hd with
    | cons dv dn =>
      cases dn
      cases dv with
      | dic q df => exact .inr ⟨_, _, rfl, .inr ⟨_, q⟩, BackO.dic I df b⟩
  · cases e
theorem cr_or {X : Cx} {f : Value} {r r' : List V → Hp → VK → Prop} (h : CallR X f r) (h' : CallR X f r') : CallR X f (fun xs H Q => r xs H Q ∨ r' xs H Q) := by
  intro pins s σ H vs us Q I rv q
  rcases q with q | q
  · exact h pins s σ H vs us Q I rv q
  · exact h' pins s σ H vs us Q I rv q
section
variable {W : Wd} {N : List Str} {sc : Scope} {k : Nat} {E : XK} {X : Cx} {B : Bs} {e e2 o : Expr} {es : List Expr} {f g h : List Sl → R (D × List Sl)} {l : List Sl → R (List D × List Sl)} {p p2 pos pos2 apos cpos np : Pos} {i : Nat} {x : Str}
theorem q_dict (hX : XIs W N sc k E X) (hB : BOk W B) (hm : W.mg "dict" = none) (oo : GOk X sc "dict") (hs : nsE e = true) (ha : PE X e (tE B E f)) : PE X (.Call (.Name "dict" p) [e] [] pos) (tO B E (evL dictO (evCons f evNil))) :=
  do_callTy (cr_or (call_dictP hX.calm) call_dictD) r_dict (hX.kk hB) oo.g (hX.noName hm) boot_dict oo.n oo.d hs rfl (da_cons hs ha da_nil)
/-! ### d.get(k, x), d.get(k) -/
def isDic : D → Bool
  | .dic _ => true
  | _ => false
def getO (d k : D) : Option (Option D) := match d, k with
  | .dic l, .str k => some (l.lookup k)
  | _, _ => none
theorem isDic_of {d : D} (h : isDic d = true) : ∃ l, d = .dic l := by
  cases d with
  | dic l => exact ⟨l, rfl⟩
  | _ => cases h
def evGet2 (f g h : List Sl → R (D × List Sl)) (ρ : List Sl) : R (D × List Sl) := (f ρ).bind fun p => if isDic p.1 then (g p.2).bind fun q => (h q.2).bind fun r => (ofO (getO p.1 q.1)).bind fun z => .ok (z.getD r.1, r.2) else .bad
def evGet1 (f g : List Sl → R (D × List Sl)) (ρ : List Sl) : R (D × List Sl) := (f ρ).bind fun p => if isDic p.1 then (g p.2).bind fun q => (ofO (getO p.1 q.1)).bind fun z => .ok (z.getD .non, q.2) else .bad
def evGet2V (i : Nat) (g h : List Sl → R (D × List Sl)) (ρ : List Sl) : R (D × List Sl) := (ofO (viewD ρ i)).bind fun d0 => if isDic d0 then (g ρ).bind fun q => (h q.2).bind fun r => (ofO (viewD r.2 i)).bind fun d => (ofO (getO d q.1)).bind fun z => .ok (z.getD r.1, r.2) else .bad
theorem dget_of {K : Frag} {Fz : Addr → Prop} {H : Hp} {a : Addr} {kvs : List (Str × V)} {l : List (Str × D)} {y : V} {dy : D} {z : Option D} (q : Rd H a (.dK (kvs.map keyP))) (df : DenF K Fz H kvs l) (d2 : Den K Fz H y dy) (ez : getO (.dic l) dy = some z) :
    ∃ o, DGet H a y o ∧ ((o = none ∧ z = none) ∨ ∃ v d, o = some v ∧ z = some d ∧ Den K Fz H v d) := by
  cases dy with
  | str ky =>
    have ez : some (l.lookup ky) = some z := ez
    cases ez
    cases d2
    refine ⟨valV (kvs.map keyP) (Sum.inr ky), .inl ⟨_, _, q, rfl, rfl⟩, ?_⟩
    rw [valV_map]
    cases e : l.lookup ky with
    | none => exact .inl ⟨df.lookup_none e, rfl⟩
    | some d =>
      obtain ⟨u, e1, e2⟩ := df.lookup e
      exact .inr ⟨u, d, e1, rfl, e2⟩
  | _ => cases ez
theorem de_get2 (hX : XIs W N sc k E X) (hB : BOk W B) (m : M2 X o "get" apos e e2 cpos) (ho : PE X o (tE B E f)) (he : PE X e (tE B E g)) (hf : PE X e2 (tE B E h)) : PE X (.Call (.Attribute o "get" apos) [e, e2] [] cpos) (tE B E (evGet2 f g h)) :=
  weakE (pe_dget2 (Nat.lt_of_le_of_lt (Nat.le_add_right _ 99) hX.hu) ho he hf m) fun σ H Q ⟨Fz, ρ, I, q⟩ => by
    refine monoG (tG_bind I q) fun v H1 ⟨F1, ρ1, d, I1, d1, g1, e1, q1⟩ => ?_
    obtain ⟨hx, q1⟩ := fin_if q1
    obtain ⟨l, rfl⟩ := isDic_of hx
    have d1 : Den B.K F1 H1 v (.dic l) := d1
    cases d1 with
    | dic hd df =>
      refine ⟨_, rfl, .inl ⟨_, .inr ⟨_, hd⟩⟩, monoG (tG_bind I1 q1) fun y H2 ⟨F2, ρ2, dy, I2, d2, g2, e3, q2⟩ => monoG (tG_bind I2 q2) fun z H3 ⟨F3, ρ3, dz, I3, d3, g3, e4, q3⟩ => ?_⟩
      obtain ⟨zz, ez, q4⟩ := fin_o q3
      have hd3 := g3.imm _ _ (by exact trivial) (g2.imm _ _ (by exact trivial) hd)
      obtain ⟨oo, dg, w⟩ := dget_of (.inr ⟨_, hd3⟩) ((df.mono g2).mono g3) (d2.mono g3) ez
      refine ⟨oo, dg, ?_⟩
      rcases w with ⟨rfl, rfl⟩ | ⟨v', d', rfl, rfl, dv⟩
      · exact q4 _ H3 F3 I3 .refl d3
      · exact q4 _ H3 F3 I3 .refl dv
theorem de_get1 (hX : XIs W N sc k E X) (hB : BOk W B) (m : M1 X o "get" apos e cpos) (ho : PE X o (tE B E f)) (he : PE X e (tE B E g)) : PE X (.Call (.Attribute o "get" apos) [e] [] cpos) (tE B E (evGet1 f g)) :=
  weakE (pe_dget1 (Nat.lt_of_le_of_lt (Nat.le_add_right _ 99) hX.hu) ho he m) fun σ H Q ⟨Fz, ρ, I, q⟩ => by
    refine monoG (tG_bind I q) fun v H1 ⟨F1, ρ1, d, I1, d1, g1, e1, q1⟩ => ?_
    obtain ⟨hx, q1⟩ := fin_if q1
    obtain ⟨l, rfl⟩ := isDic_of hx
    have d1 : Den B.K F1 H1 v (.dic l) := d1
    cases d1 with
    | dic hd df =>
      refine ⟨_, rfl, .inl ⟨_, .inr ⟨_, hd⟩⟩, monoG (tG_bind I1 q1) fun y H2 ⟨F2, ρ2, dy, I2, d2, g2, e3, q2⟩ => ?_⟩
      obtain ⟨zz, ez, q4⟩ := fin_o q2
      obtain ⟨oo, dg, w⟩ := dget_of (.inr ⟨_, g2.imm _ _ (by exact trivial) hd⟩) (df.mono g2) d2 ez
      refine ⟨oo, dg, ?_⟩
      rcases w with ⟨rfl, rfl⟩ | ⟨v', d', rfl, rfl, dv⟩
      · exact q4 _ H2 F2 I2 .refl .non
      · exact q4 _ H2 F2 I2 .refl dv
theorem vw_dic {K : Frag} {Fz : Addr → Prop} {H : Hp} {v : V} {l : List (Str × D)} (h : Vw K Fz H v (.dic l)) : ∃ a kvs, v = .ref a ∧ Rd H a (.dK (kvs.map keyP)) ∧ DenF K Fz H kvs l := by
  rcases h with h | ⟨a, rfl, kvs, q, df⟩
  · cases h with
    | dic q df => exact ⟨_, _, rfl, .inr ⟨_, q⟩, df⟩
  · exact ⟨a, kvs, rfl, q, df⟩
theorem de_get2v (hX : XIs W N sc k E X) (hB : BOk W B) (m : M2 X (.Name x np) "get" apos e e2 cpos) (ov : VOk X i x) (he : PE X e (tE B E g)) (hf : PE X e2 (tE B E h)) : PE X (.Call (.Attribute (.Name x np) "get" apos) [e, e2] [] cpos) (tE B E (evGet2V i g h)) :=
  weakE (pe_dget2 (Nat.lt_of_le_of_lt (Nat.le_add_right _ 99) hX.hu) (pe_var ov.n ov.v ov.d ov.c) he hf m) fun σ H Q ⟨Fz, ρ, I, q⟩ => by
    obtain ⟨d0, e0, q0⟩ := fin_o q
    obtain ⟨hx, q1⟩ := fin_if q0
    obtain ⟨l0, rfl⟩ := isDic_of hx
    obtain ⟨v, hv, vw⟩ := view_of I e0
    obtain ⟨a, kvs, rfl, rd, df⟩ := vw_dic vw
    refine ⟨_, hv, a, rfl, .inl ⟨_, rd⟩, monoG (tG_bind I q1) fun y H2 ⟨F2, ρ2, dy, I2, d2, g2, e3, q2⟩ => monoG (tG_bind I2 q2) fun z H3 ⟨F3, ρ3, dz, I3, d3, g3, e4, q3⟩ => ?_⟩
    obtain ⟨d, ed, q4⟩ := fin_o q3
    obtain ⟨zz, ez, q5⟩ := fin_o q4
    cases d with
    | dic l =>
      obtain ⟨v2, hv2, vw2⟩ := view_of I3 ed
      rw [hv] at hv2; cases hv2
      obtain ⟨a2, kvs2, ea, rd2, df2⟩ := vw_dic vw2
      cases ea
      obtain ⟨oo, dg, w⟩ := dget_of rd2 df2 (d2.mono g3) ez
      refine ⟨oo, dg, ?_⟩
      rcases w with ⟨rfl, rfl⟩ | ⟨v', d', rfl, rfl, dv⟩
      · exact q5 _ H3 F3 I3 .refl d3
      · exact q5 _ H3 F3 I3 .refl dv
    | _ => cases ez
end
end Dx

set_option Elab.async false
set_option linter.all false
set_option maxRecDepth 100000
set_option maxHeartbeats 2000000
/-! DxZl: {k: v, ..}; list(d.items()). -/
namespace Dx
open PySem PySem.Spec PyProof.Rows L2
abbrev EvD := List Sl → R (D × List Sl)
def evPs : List (EvD × EvD) → List Sl → R (List (D × D) × List Sl)
  | [], ρ => .ok ([], ρ)
  | fg :: r, ρ => (fg.1 ρ).nox.bind fun p => (fg.2 p.2).nox.bind fun q => (evPs r q.2).bind fun s => .ok ((p.1, q.1) :: s.1, s.2)
def strKs : List (D × D) → Option (List (Str × D))
  | [] => some []
  | (.str k, d) :: l => (strKs l).map fun r => (k, d) :: r
  | _ => none
def evDisp (r : List (EvD × EvD)) (ρ : List Sl) : R (D × List Sl) := (evPs r ρ).bind fun p => (ofO (strKs p.1)).bind fun l => if decide (l.length ≤ 15) = true then .ok (.dic (dicOf l), p.2) else .bad
def DenP (K : Frag) (Fz : Addr → Prop) (H : Hp) : List (V × V) → List (D × D) → Prop
  | [], [] => True
  | p :: ps, d :: ds => Den K Fz H p.1 d.1 ∧ Den K Fz H p.2 d.2 ∧ DenP K Fz H ps ds
  | _, _ => False
theorem DenP.mono {K : Frag} {Fz Fz' : Addr → Prop} {H H' : Hp} (g : Ge Fz H Fz' H') : ∀ {ps : List (V × V)} {ds : List (D × D)}, DenP K Fz H ps ds → DenP K Fz' H' ps ds
  | [], [], _ => trivial
  | p :: ps, d :: ds, h => ⟨h.1.mono g, h.2.1.mono g, DenP.mono (ps := ps) (ds := ds) g h.2.2⟩
  | [], _ :: _, h => h.elim
  | _ :: _, [], h => h.elim
theorem denP_keys {K : Frag} {Fz : Addr → Prop} {H : Hp} : ∀ {ps : List (V × V)} {ds : List (D × D)} {l : List (Str × D)}, DenP K Fz H ps ds → strKs ds = some l → ∃ kvs : List (Str × V), ps = kvs.map (fun kv => (V.str kv.1, kv.2)) ∧ DenF K Fz H kvs l
  | [], [], _, _, e => by cases e; exact ⟨[], rfl, .nil⟩
  | (x, y) :: ps, (a, b) :: ds, l, h, e => by
    cases a with
    | str k =>
      obtain ⟨l', el, rfl⟩ := map_some (show (strKs ds).map (fun r => (k, b) :: r) = some l from e)
      obtain ⟨kvs, rfl, df⟩ := denP_keys (ps := ps) (ds := ds) h.2.2 el
      cases (show Den K Fz H x (.str k) from h.1)
      exact ⟨(k, y) :: kvs, rfl, .cons h.2.1 df⟩
    | _ => cases e
  | [], _ :: _, _, h, _ => h.elim
  | _ :: _, [], _, h, _ => h.elim
section
variable {W : Wd} {N : List Str} {sc : Scope} {k : Nat} {E : XK} {X : Cx} {B : Bs} {e e2 o : Expr} {es : List Expr} {f g h : List Sl → R (D × List Sl)} {pos p p2 pos2 apos cpos np : Pos} {i : Nat} {x : Str}
def anyE (B : Bs) (f : EvD) : TE := fun σ H Q => ∃ B' : Bs, BLe B B' ∧ tE B' E0 f σ H Q
theorem tPairs_mono : ∀ (trs : List (TE × TE)) (σ : L2.St) (H : Hp) (Q Q' : List (V × V) → Hp → Prop), (∀ ps H, Q ps H → Q' ps H) → (∀ t ∈ trs, (∀ σ H R R', (∀ v H, R v H → R' v H) → t.1 σ H R → t.1 σ H R') ∧ ∀ σ H R R', (∀ v H, R v H → R' v H) → t.2 σ H R → t.2 σ H R') → tPairs trs σ H Q → tPairs trs σ H Q'
  | [], _, _, _, _, w, _, h => w _ _ h
  | t :: trs, _, _, _, _, w, m, h => (m t (by simp)).1 _ _ _ _ (fun v H h => (m t (by simp)).2 _ _ _ _ (fun u H h => tPairs_mono trs _ _ _ _ (fun ps H h => w _ _ h) (fun t ht => m t (List.mem_cons_of_mem _ ht)) h) h) h
theorem t_pairs {q : Addr} {σ : L2.St} {Q : VK} (h0 : B.H0 q = none) : ∀ (r : List (EvD × EvD)) {Fz : Addr → Prop} {H : Hp} {ρ : List Sl} {k : List (D × D) × List Sl → R (D × List Sl)} (I : Iv (B.at q (.dK [])) Fz H σ ρ) (hq : FinG rO B E σ Q Fz H ((evPs r ρ).bind k)),
    tPairs (r.map fun fg => (anyE B fg.1, anyE B fg.2)) σ H (fun ps H2 => ∃ F2 ρ2 ds, Iv (B.at q (.dK [])) F2 H2 σ ρ2 ∧ DenP B.K F2 H2 ps ds ∧ Ge Fz H F2 H2 ∧ FinG rO B E σ Q F2 H2 (k (ds, ρ2)))
  | [], Fz, H, ρ, k, I, hq => ⟨Fz, ρ, [], I, trivial, .refl, hq⟩
  | fg :: r, Fz, H, ρ, k, I, hq => by
    have hq : FinG rO B E σ Q Fz H ((fg.1 ρ).nox.bind fun p => ((fg.2 p.2).nox.bind fun q => (evPs r q.2).bind fun s => .ok ((p.1, q.1) :: s.1, s.2)).bind k) := by
      have : (evPs (fg :: r) ρ).bind k = (fg.1 ρ).nox.bind fun p => ((fg.2 p.2).nox.bind fun q => (evPs r q.2).bind fun s => R.ok ((p.1, q.1) :: s.1, s.2)).bind k := by
        show ((fg.1 ρ).nox.bind _).bind k = _
        rw [R.bind_assoc]
      rw [← this]; exact hq
    refine ⟨B.at q (.dK []), .at h0, monoG (tG_nox I hq) fun y H1 ⟨F1, ρ1, dy, I1, d1, g1, q1⟩ => ?_⟩
    have d1 : Den B.K F1 H1 y dy := d1
    rw [R.bind_assoc] at q1
    refine ⟨B.at q (.dK []), .at h0, monoG (tG_nox I1 q1) fun z H2 ⟨F2, ρ2, dz, I2, d2, g2, q2⟩ => ?_⟩
    have d2 : Den B.K F2 H2 z dz := d2
    rw [R.bind_assoc] at q2
    have step := t_pairs h0 r (k := fun s => k ((dy, dz) :: s.1, s.2)) I2 q2
    refine tPairs_mono _ _ _ _ _ (fun ps H3 ⟨F3, ρ3, ds, I3, dp, g3, q3⟩ => ⟨F3, ρ3, (dy, dz) :: ds, I3, ⟨(d1.mono g2).mono g3, d2.mono g3, dp⟩, (g1.trans g2).trans g3, q3⟩) (fun t ht => ?_) step
    obtain ⟨fg, _, rfl⟩ := List.mem_map.mp ht
    exact ⟨fun σ H R R' w ⟨B', l, t⟩ => ⟨B', l, monoG t w⟩, fun σ H R R' w ⟨B', l, t⟩ => ⟨B', l, monoG t w⟩⟩
/-- the pairs of a display -/
structure DPs (X : Cx) (B : Bs) (pos : Pos) (keys : List (Option Expr)) (values : List Expr) (r : List (EvD × EvD)) : Prop where
  pps : PPs X pos keys values (r.map fun fg => (anyE B fg.1, anyE B fg.2))
theorem dps_nil : DPs X B pos [] [] [] := ⟨pps_nil⟩
theorem dps_cons {ks : List (Option Expr)} {vs : List Expr} {r : List (EvD × EvD)} (hk : ∀ B' : Bs, BLe B B' → PE X e (tE B' E0 f)) (hv : ∀ B' : Bs, BLe B B' → PE X e2 (tE B' E0 g)) (hr : DPs X B pos ks vs r) : DPs X B pos (some e :: ks) (e2 :: vs) ((f, g) :: r) :=
  ⟨pps_cons (pe_anyB hk) (pe_anyB hv) hr.pps⟩
theorem do_disp {keys : List (Option Expr)} {values : List Expr} {r : List (EvD × EvD)} (h : DPs X B pos keys values r) (hall : keys.all (·.isSome) = true) (hl : keys.length = values.length) (hk0 : keys ≠ []) (h15 : keys.length ≤ 15) : PE X (.Dict keys values pos) (tO B E (evDisp r)) :=
  weakE (pe_disp h.pps hall hl hk0 h15) fun σ H Q ⟨Fz, ρ, I, q⟩ p hp => by
    obtain ⟨_, g1, ap, h0, nz⟩ := I.laid hp (.dK [])
    have I1 : Iv (B.at p (.dK [])) Fz (upd H p (.dK [])) σ ρ := I.atBase (o := .dK []) hp fun z => z
    have mm : ∀ t ∈ r.map (fun fg => (anyE B fg.1, anyE B fg.2)), (∀ σ H R R', (∀ v H, R v H → R' v H) → t.1 σ H R → t.1 σ H R') ∧ ∀ σ H R R', (∀ v H, R v H → R' v H) → t.2 σ H R → t.2 σ H R' := by
      intro t ht
      obtain ⟨fg, _, rfl⟩ := List.mem_map.mp ht
      exact ⟨fun σ H R R' w ⟨B', l, t⟩ => ⟨B', l, monoG t w⟩, fun σ H R R' w ⟨B', l, t⟩ => ⟨B', l, monoG t w⟩⟩
    refine tPairs_mono _ _ _ _ _ (fun ps H2 hps => ?_) mm (t_pairs h0 r I1 (FinG.ge g1 q))
    · obtain ⟨F2, ρ2, ds, I2, dp, g2, q2⟩ := hps
      obtain ⟨l, el, q3⟩ := fin_o q2
      obtain ⟨hc, q3⟩ := fin_if q3
      obtain ⟨kvs, ek, df⟩ := denP_keys dp el
      have hp2 : H2 p = some (.dK []) := I2.ext.keep p _ upd_same fun z => z.2 rfl
      have nz2 : ¬ F2 p := fun z => by
        obtain ⟨C, dx, fs, e⟩ := I2.fzs p z
        rw [hp2] at e; cases e
      have m := merge_keyP kvs []
      have x := ext_put (o := .dK ((kvs.foldl (fun a p => putS a p.1 p.2) []).map keyP)) hp2 (fun z => z) nz2
      have lent : ∀ a, B.bd a → ∃ o, B.H0 a = some o := I.lent
      have I3 : Iv B F2 H2 σ ρ2 := I2.outBase h0 nz2 lent
      have ne := I2.atNe h0 lent
      have I4 := I3.step x (fzs_put I3.fzs nz2) (fun b hb => by rw [hb]; exact .inl h0) fun j b hb z => ne j b hb z
      refine ⟨hp2, kvs.map keyP, by rw [ek, List.map_map]; rfl, by rw [List.length_map, df.length]; exact of_decide_eq_true hc, ?_⟩
      rw [show mergeK [] (kvs.map keyP) = _ from m]
      exact q3 _ _ F2 I4 x.ge ⟨p, rfl, ⟨_, upd_same, (DenF.fold df .nil).mono x.ge⟩, h0, ne⟩
/-! ### list(d.items()) -/
open Sem (wp)
def rItF : V → Hp → VK → Prop := fun x H Q => ∃ (d : Addr) (kvs : List (Key × V)), x = .ref d ∧ Rd H d (.dK kvs) ∧
  ∀ (H' : Hp) (p : Addr) (ts : List Addr), (∀ b o, H b = some o → H' b = some o) → H p = none → (∀ t ∈ ts, H t = none) → p ∉ ts → H' p = some (.lst (ts.map V.ref)) → Paired (fun (t : Addr) (q : Key × V) => H' t = some (.tup [kV q.1, q.2])) ts kvs → (∀ b, b ∉ ts → b ≠ p → H' b = H b) → Q (.ref p) H'
theorem pe_listItemsR {te : TE} (hc : X.calm = true) (he : PE X e te) (hg : Gl X "list") (hm : X.mg "list" = none) (hbase : attributeBase e "items" X.env (eval e X.env) = eval e X.env) (hline : (apos.endLine == cpos.line) = true) :
    PE X (.Call (.Name "list" p) [.Call (.Attribute e "items" apos) [] [] cpos] [] pos) (fun σ H Q => te σ H fun x H1 => rItF x H1 Q) := by
  refine ⟨fun pins s σ H Q I hq => ?_⟩
  have st1 : starEach [.Call (.Attribute e "items" apos) [] [] cpos] X.env = (false, eval (.Call (.Attribute e "items" apos) [] [] cpos) X.env) :: starEach [] X.env := star_cons rfl
  refine wpAny_Call_Name_kw (ld_blt I hg hm boot_list (PyProof.Rows.callWith_type1 ?_ st1 rfl))
  rw [st1]
  show wpAny _ _ (spliced ((false, eval (.Call (.Attribute e "items" apos) [] [] cpos) X.env) :: backTo pos (starEach [] X.env))) _ _ s
  refine Calls.spliced_cons (wpAny_Call_method (T := "dict") (id := "dict.items") hbase rfl hline PySem.F.plainAttrs_dict PySem.F.slot_dict_items PySem.F.type_dict_items (thn (he.run pins s σ H _ I hq) fun u s1 hx => ?_))
  obtain ⟨x, H1, I1, rx, d, kvs, ex, hd, q⟩ := hx
  subst ex
  obtain rfl : u = Value.ref d := rx
  obtain ⟨hz, low, vs, kv, dof⟩ := dk_rd I1.hok hd
  obtain ⟨ep, hat⟩ := dof.dictAt
  have lk : kvs.length = vs.length := Paired.length kv
  have I2 : Inv X pins σ H1 { s1 with heap := s1.heap.push { cls := .type "dict_items", data := .fields #[.ref d] } } := I1.kept (t' := s1.toks) fun b ob q => Heap.get?_push_of_some _ q
  refine ⟨dof.typeIs, dof.mapOf.noDict, ?_⟩
  show wpAny _ _ (callWith cpos (.builtin "dict.items") [.ref d] [] []) _ X.xe s1
  refine method_meetsIn PySem.F.slot_dict_items PySem.F.entry_dict_items rfl (PySem.evalArgs_none ⟨rfl, dof.typeIs, PySem.F.args_dict_items_1 _, _, meets_dict_items (mixKind X.prog X.w) d low, ⟨vs, dof⟩, Calls.spliced_nil ?_⟩)
  refine PySem.W.kdx_call (knd := mixKind X.prog X.w) (kvs := vs) (ep := ep) (I1.ok.hd hc) ⟨_, Heap.get?_push_size _ rfl, rfl, rfl⟩ (hat.push _) (by omega) fun h' tk acc c as hk hS hl hG hacc => ?_
  -- the new objects: the same as for a zip
  have hlen : as.length = (kvs.map fun p => (kV p.1, p.2)).length := by rw [hl, List.length_map, ← lk]
  have hsz : (s1.heap.push { cls := .type "dict_items", data := .fields #[.ref d] }).objs.size = s1.heap.objs.size + 1 := Heap.size_push ..
  have key : ∀ (j : Nat) (a : Addr) (pr : V × V), as[j]? = some a → (kvs.map fun p => (kV p.1, p.2))[j]? = some pr → ∃ x y, RelV pr.1 x ∧ RelV pr.2 y ∧ IsTupOf2 h' a x y := by
    intro j a pr ej ep
    obtain ⟨kk, k1, x, f1, f2, f3⟩ := hG.pairs j a ej
    rw [List.getElem?_map] at ep
    cases ek : kvs[j]? with
    | none => rw [ek] at ep; cases ep
    | some kp =>
      rw [ek] at ep; cases ep
      obtain ⟨qv, w1, w2, w3⟩ := LiI.paired_get kv ek
      rw [f1] at w1; cases w1
      refine ⟨kk, x, ?_, w3, f3⟩
      show RelV (kV kp.1) kk
      rw [w2]
      exact relV_key (show keyIs k1 kk = true from f2)
  obtain ⟨kp, x2, x3, x4, x5, J⟩ := zip_laid (tk := tk) I2 (Nat.le_refl _) hk hS hlen (by rw [List.length_map]; exact hz) hG.rise hG.above key hacc
  refine ⟨.ref _, _, J, rfl, q _ _ as kp x2 x3 x4 (by rw [putP_off as _ _ x4, upd_same]) ?_ fun b h1 h2 => by rw [putP_off as _ _ h1, upd_ne h2]⟩
  have all := putP_at as (kvs.map fun p => (kV p.1, p.2)) (upd H1 (s1.heap.push { cls := .type "dict_items", data := .fields #[.ref d] }).objs.size (.lst (as.map V.ref))) x5 hlen
  have gen : ∀ (as : List Addr) (kvs : List (Key × V)) (H' : Hp), as.length = kvs.length → (∀ (j : Nat) (a : Addr), as[j]? = some a → ∃ p, (kvs.map fun p => (kV p.1, p.2))[j]? = some p ∧ H' a = some (.tup [p.1, p.2])) → Paired (fun (t : Addr) (q : Key × V) => H' t = some (.tup [kV q.1, q.2])) as kvs := by
    intro as
    induction as with
    | nil => intro kvs H' hl _; cases kvs with
      | nil => exact .nil
      | cons _ _ => simp at hl
    | cons a as ih => intro kvs H' hl h; cases kvs with
      | nil => simp at hl
      | cons kp kvs =>
        obtain ⟨p, e1, e2⟩ := h 0 a rfl
        have e1 : (kV kp.1, kp.2) = p := by simpa using e1
        subst e1
        exact .cons e2 (ih kvs H' (by simpa using hl) fun j a' e => by
          obtain ⟨p, f1, f2⟩ := h (j + 1) a' (by simpa using e)
          exact ⟨p, by simpa using f1, f2⟩)
  exact gen as kvs _ (by rw [hlen, List.length_map]) all
def litO : D → Option D
  | .dic l => if decide (l.length ≤ sizeLine) then some (.lst (itemD l)) else none
  | _ => none
def evListIt (f : List Sl → R (D × List Sl)) (ρ : List Sl) : R (D × List Sl) := (f ρ).bind fun p => (ofO (litO p.1)).bind fun z => .ok (z, p.2)
theorem den_items {K : Frag} {Fz : Addr → Prop} {H : Hp} : ∀ {kvs : List (Str × V)} {l : List (Str × D)} {ts : List Addr}, DenF K Fz H kvs l → Paired (fun (t : Addr) (q : Key × V) => H t = some (.tup [kV q.1, q.2])) ts (kvs.map keyP) → DenL K Fz H (ts.map V.ref) (itemD l)
  | _, _, [], .nil, _ => .nil
  | _, _, t :: ts, .cons d r, .cons e p => .cons (.tup (.inl e) (.cons (.str _) (.cons d .nil))) (den_items r p)
theorem q_listit (hX : XIs W N sc k E X) (hB : BOk W B) (hm : W.mg "list" = none) (oo : GOk X sc "list") (hbase : attributeBase e "items" X.env (eval e X.env) = eval e X.env) (hline : (apos.endLine == cpos.line) = true) (ha : PE X e (tE B E f)) :
    PE X (.Call (.Name "list" p) [.Call (.Attribute e "items" apos) [] [] cpos] [] pos) (tO B E (evListIt f)) :=
  weakE (pe_listItemsR hX.calm ha oo.g (hX.noName hm) hbase hline) fun σ H Q ⟨Fz, ρ, I, q⟩ => by
    refine monoG (tG_bind I q) fun v H1 ⟨F1, ρ1, d, I1, d1, g1, e1, q1⟩ => ?_
    obtain ⟨z, ez, q2⟩ := fin_o q1
    cases d with
    | dic l =>
      have d1 : Den B.K F1 H1 v (.dic l) := d1
      obtain ⟨hc, rfl⟩ := if_some (show (if decide (l.length ≤ sizeLine) = true then some (D.lst (itemD l)) else none) = some z from ez)
      cases d1 with
      | dic hd df =>
        refine ⟨_, _, rfl, .inr ⟨_, hd⟩, fun H' S0 ts kp h1 h2 h3 h4 h5 h6 => ?_⟩
        have low : ∀ b, H1 b = none → B.H0 b = none := fun b hb => by
          cases q : B.H0 b with
          | none => rfl
          | some u => obtain ⟨o', w⟩ := I1.ext.there b u q; rw [hb] at w; cases w
        have ge : Ge F1 H1 F1 H' := ⟨fun a o _ e => kp a o e, fun _ h => h, fun a h => by
          obtain ⟨C, dx, fs, e⟩ := I1.fzs a h
          rw [e]; exact kp a _ e⟩
        have ext : Ext (fun _ => False) F1 H1 F1 H' := ⟨ge, fun a o e _ => kp a o e, fun _ h => .inl h, fun a o e => ⟨o, kp a o e⟩⟩
        have fz : FzOk F1 H' := fun a h => by
          obtain ⟨C, dx, fs, e⟩ := I1.fzs a h
          exact ⟨C, dx, fs, kp a _ e⟩
        refine q2 _ _ F1 (I1.step ext fz (fun _ h => h.elim) fun _ _ _ h => h) ge ⟨S0, rfl, ⟨ts.map V.ref, h4, den_items (df.mono ge) h5⟩, low S0 h1, fun i b hb z => ?_⟩
        obtain ⟨o', w⟩ := I1.held hb
        rw [z, h1] at w; cases w
    | _ => cases ez
end
end Dx

set_option Elab.async false
set_option linter.all false
set_option maxRecDepth 100000
set_option maxHeartbeats 2000000
/-! DxZm: the forms that the printer uses for the newer rules. -/
namespace Dx
open PySem PySem.Spec PyProof.Rows L2
section
variable {W : Wd} {N : List Str} {sc : Scope} {k j : Nat} {E : XK} {X : Cx} {B : Bs} {x y : Str} {p pos : Pos} {e e2 kx vx iter tg : Expr} {ifs : List Expr} {f g h : List Sl → R (D × List Sl)} {ks : List (Option Expr)} {vs : List Expr} {r : List (EvD × EvD)}
theorem XIs.e0 (wo : WOk W) (hX : XIs W N sc k E X) : XIs W N sc k E0 X :=
  { hX with pass := fun pins σ H s e s' I h => (wo.none _ _ _ _ _ h).elim }
theorem q_dps (wo : WOk W) (hX : XIs W N sc k E X) (hB : BOk W B) (hk : ∀ B' : Bs, BOk W B' → XIs W N sc k E0 X → PE X e (tE B' E0 f)) (hv : ∀ B' : Bs, BOk W B' → XIs W N sc k E0 X → PE X e2 (tE B' E0 g)) (hr : DPs X B pos ks vs r) : DPs X B pos (some e :: ks) (e2 :: vs) ((f, g) :: r) :=
  dps_cons (fun B' l => hk B' (hB.le wo l) (hX.e0 wo)) (fun B' l => hv B' (hB.le wo l) (hX.e0 wo)) hr
theorem q_disp (hl : (ks.all (·.isSome) && ks.length == vs.length && ks.length != 0 && decide (ks.length ≤ 15)) = true) (h : DPs X B pos ks vs r) : PE X (.Dict ks vs pos) (tO B E (evDisp r)) := by
  simp only [Bool.and_eq_true, decide_eq_true_eq, beq_iff_eq, bne_iff_ne] at hl
  exact do_disp h hl.1.1.1 hl.1.1.2 (fun z => hl.1.2 (by rw [z]; rfl)) hl.2
theorem q_dc {s : List Sl → R (List D × List Sl)} {t : D → List Sl → Option (List Sl)} {ws : List Nat} {scope : Scope} {own : List (Str × Nat)} {u : List Sl → R (Bool × List Sl)} (wo : WOk W) (hX : XIs W N sc k E X) (hB : BOk W B) (hi : PI X tg iter (tI B E s)) (ok : blkC N sc scope own = true) (hw : (ws.all fun j => decide (j ∈ own.map (·.2))) = true)
    (hg : ∀ B' : Bs, BOk W B' → ∀ Y : Cx, XBk W N scope sc k Y → PG Y tg (tG1 B' ws t)) (ht : ∀ B' : Bs, BOk W B' → ∀ Y : Cx, XBk W N scope sc k Y → PTs Y ifs (tT B' E0 u)) (hk : ∀ B' : Bs, BOk W B' → ∀ Y : Cx, XBk W N scope sc k Y → PE Y kx (tE B' E0 f)) (he : ∀ B' : Bs, BOk W B' → ∀ Y : Cx, XBk W N scope sc k Y → PE Y vx (tE B' E0 h))
    (hs : ∀ x, foldedSetIterable iter X.env x = pure x) : PE X (.DictComp kx vx [⟨tg, iter, ifs, 0⟩] scope pos) (tO B E (evDc (own.map (·.2)) s t u f h)) :=
  do_dc hX.calm hX.nN hi (by rw [hX.hN, hX.hsc]; exact blkOk_by ok) (fun j hj => of_decide_eq_true (List.all_eq_true.mp hw j hj)) (fun B' l _ _ _ _ _ => hg B' (hB.le wo l) _ (xbk wo hX)) (fun B' l _ _ _ _ _ => ht B' (hB.le wo l) _ (xbk wo hX)) (fun B' l _ _ _ _ _ => hk B' (hB.le wo l) _ (xbk wo hX)) (fun B' l _ _ _ _ _ => he B' (hB.le wo l) _ (xbk wo hX)) hs
theorem q_star (hX : XIs W N sc k E X) (hB : BOk W B) {es : List Expr} {l : List Sl → R (List D × List Sl)} (ha : PE X e (tE B E f)) (hr : PA X es (tA B E l)) : PA X (.Starred e p :: es) (tA B E (evStar f l)) := da_star (hX.kk hB) ha hr
/-- a def by another name -/
theorem cal_al {st : Stmt} {N ps : List Str} {F : Fd} {g : List Sl → RS} (wo : WOk W) (D : ∃ f, FnAt W x x st f ∧ W.mg y = some (.ref f)) (S : C8.scC N ps (C8.fnScope st) = true) (hl : F.md.length = ps.length)
    (hbind : ∀ (kV doc pm : Value) (an : Option Addr) (cdv ct : Value) (us : List Value), us.length = ps.length → bindArgs (PySem.W.fnOf x x (C8.fnArgs st) (C8.fnBody st) (C8.fnScope st) .none kV doc pm an cdv ct) ⟨us, []⟩ = pure (ps.zip us))
    (hs : F.sem = semOf N.length F.md F.own g) (hbody : ∀ (X : Cx) (E : XK), XSt W N (C8.fnScope st) k E X → ∀ B : Bs, BOk W B → PSs X (C8.fnBody st) (tS B E g)) : Cal W (k + 1) y F := by
  obtain ⟨f, D, hm⟩ := D
  obtain ⟨fd, F1, b⟩ := fn_sem wo D S hl hbind hs hbody
  exact ⟨f, fd, ps, F1, hm, D.kp, b⟩
theorem q_augadd {i : Nat} (hX : XIs W N sc k E X) (hi : decide (N[i]? = some x) = true) (hx : locB sc x = true) (hf : X.fn x = true ∨ X.env.scope.names.lookup x = some .local) (he : PE X e (tE B E f)) :
    PS X (.AugAssign (.Name x p) .Add e pos) (tS B E (stSet i (evAug (· + ·) i f))) := ds_aug hX.nN (hX.nm hi) (hX.loc hx) hf ip_add he
theorem q_augsub {i : Nat} (hX : XIs W N sc k E X) (hi : decide (N[i]? = some x) = true) (hx : locB sc x = true) (hf : X.fn x = true ∨ X.env.scope.names.lookup x = some .local) (he : PE X e (tE B E f)) :
    PS X (.AugAssign (.Name x p) .Sub e pos) (tS B E (stSet i (evAug (· - ·) i f))) := ds_aug hX.nN (hX.nm hi) (hX.loc hx) hf ip_sub he
end
end Dx

set_option Elab.async false
set_option linter.all false
set_option maxRecDepth 100000
set_option maxHeartbeats 2000000
/-! DxZn: {**m, k: v}. -/
namespace Dx
open PySem PySem.Spec PyProof.Rows L2
section
variable {prog : Program} {w : World} {K : Type} [DecidableEq K] {knd : KeyKind prog w K} {A : Around} {E : Value → Shared → Prop} {s : Shared}
theorem wpAny_dictPut {d : Addr} {kvs : List (K × Value)} {k : K} {key v : Value} {Q : Unit → Shared → Prop} (hkey : knd.is k key = true) (hm : s.heap.DictOf knd d kvs)
    (hQ : ∀ h', h'.DictOf knd d (stored kvs k v) → Heap.SameBut d s.heap h' → Q () { s with heap := h' })
    (hsz : kvs.length ≤ sizeLine) :
    wpAny (model prog w) A (dictPut d (knd.hash k) key v) Q E s := by
  obtain ⟨o, es, ep, ho, hc, hd, hk, hp, hn⟩ := hm
  have hes : es.size ≤ sizeLine := by have e1 := hp.length; have e2 : es.toList.length = es.size := by simp
                                      omega
  unfold dictPut
  refine wpAny_bind (wpAny_dictFind_of hkey ho hd hk ?_)
  have hidx : (es.findIdx? fun e => knd.is k e.key) = kvs.findIdx? fun kv => decide (kv.1 = k) := by
    rw [← hp.findIdx k]; obtain ⟨l⟩ := es; simp
  cases hi : es.findIdx? fun e => knd.is k e.key with
  | some i =>
    refine wpAny_updateDict ho hd (hQ _ ⟨_, _, ep, Heap.get?_update_self _ ho (Obj.isFreed_of_dict (Obj.data_mapDict hd _)),
      hc.mapDict _, Obj.data_mapDict hd _, hk.modify _ _, ?_, ?_⟩ (Heap.SameBut.update ..))
    · rw [stored, if_pos (any_of_findIdx_some (hidx ▸ hi))]
      have hl : (es.toList.findIdx? fun e => knd.is k e.key) = some i := by rw [← hi]; obtain ⟨l⟩ := es; simp
      have := hp.modify hn hl v
      obtain ⟨l⟩ := es
      simpa using this
    · rw [stored, if_pos (any_of_findIdx_some (hidx ▸ hi)), keys_map_store]; exact hn
  | none =>
    have hnot : k ∉ kvs.map (·.1) := not_mem_of_findIdx_none (hidx ▸ hi)
    have hany : ¬ (kvs.any fun kv => decide (kv.1 = k)) = true := by
      rw [List.any_eq_true]; rintro ⟨kv, hkv, he⟩
      exact hnot (List.mem_map.mpr ⟨kv, hkv, of_decide_eq_true he⟩)
    refine wpAny_updateDictKeys (hz := hes) ho hd (hQ _ ⟨_, _, ep + 1, Heap.get?_update_self _ ho (Obj.isFreed_of_dict (Obj.data_mapDictKeys hd _)),
      hc.mapDictKeys _, Obj.data_mapDictKeys hd _, hk.push hkey _, ?_, ?_⟩ (Heap.SameBut.update ..))
    · rw [stored, if_neg hany]
      have := hp.append hkey (knd.hash k) v
      obtain ⟨l⟩ := es
      simpa using this
    · rw [stored, if_neg hany, List.map_append, List.nodup_append]
      refine ⟨hn, by simp, ?_⟩
      intro a ha b hb
      simp only [List.map_cons, List.map_nil, List.mem_singleton] at hb
      subst hb
      exact fun e => hnot (e ▸ ha)
theorem wpAny_mergeMapping {d o : Addr} {kvs more : List (K × Value)} {Q : Unit → Shared → Prop} (hdo : d ≠ o) (hoS : (o == sysModules) = false) (hrf : ∀ k a, knd.is k (.ref a) = false)
    (hd : s.heap.DictOf knd d kvs) (ho : s.heap.DictOf knd o more)
    (hQ : ∀ h', h'.DictOf knd d (merged kvs more) → h'.DictOf knd o more → Heap.SameBut d s.heap h' → Q () { s with heap := h' })
    (hsz : kvs.length + more.length ≤ sizeLine) :
    wpAny (model prog w) A (mergeMapping d (.ref o) false) Q E s := by
  obtain ⟨od, esd, epd, hod, hcd, hdd, hkd, hpd, hnd⟩ := id hd
  obtain ⟨oo, eso, epo, hoo, hco, hdo', hko, hpo, hno⟩ := id ho
  have hlen : more.length = eso.size := by rw [← hpo.length]; simp
  unfold mergeMapping
  refine wpAny_bind (wpAny_isInstance ho.typeIs isSubtype_dict_dict ?_)
  dsimp only
  rw [if_pos rfl]
  refine wpAny_bind (wpAny_specialOf ho.typeIs PySem.F.slot_dict_iter.lookup ?_)
  refine wpAny_bind (wpAny_pure ?_)
  rw [show (some (Value.builtin "dict.__iter__") == some (Value.builtin "dict.__iter__")) = true from by decide +kernel]
  dsimp only
  rw [if_neg (by rw [hoS]; exact Bool.false_ne_true)]
  refine wpAny_bind (wpAny_dictEntries hod hdd ?_)
  have loop : wpAny (model prog w) A (do
      let l ← dictEntries o
      let epoch ← dictEpoch o
      forIn (List.range l.size) PUnit.unit fun i (_ : PUnit) => (do
          let l' ← dictEntries o
          match l'[i]? with
            | some e => do
              holding [e.key, e.val] (dictPut d e.hash e.key e.val)
              let ep' ← dictEpoch o
              if (ep' != epoch) = true then do
                  (unsupported "dict.changed-during-merge" : Sem PUnit)
                  pure (ForInStep.yield PUnit.unit)
                else pure (ForInStep.yield PUnit.unit)
            | _ => do
              (unsupported "dict.changed-during-merge" : Sem PUnit)
              pure (ForInStep.yield PUnit.unit) : Sem (ForInStep PUnit))
      pure ()) Q E s := by
    refine wpAny_bind (wpAny_dictEntries hoo hdo' ?_)
    refine wpAny_bind (wpAny_dictEpoch hoo hdo' ?_)
    refine wpAny_bind ?_
    rw [List.range_eq_range']
    refine wpAny_forIn_list _
      (fun rest _ s' => ∃ h' i, s' = { s with heap := h' } ∧ rest = List.range' i (eso.size - i) ∧ i ≤ eso.size ∧ h'.DictOf knd d (merged kvs (more.take i)) ∧ h'.get? o = some oo ∧ Heap.SameBut d s.heap h')
      _ ?_ ?_ _ _ ⟨s.heap, 0, rfl, by simp, Nat.zero_le _, by simpa [merged] using hd, hoo, Heap.SameBut.refl _ _⟩
    · rintro x rest b s' ⟨h', i, rfl, hr, hi, hd', hoo', hs'⟩
      have hlt : i < eso.size := by
        rcases Nat.lt_or_ge i eso.size with h | h
        · exact h
        · rw [Nat.sub_eq_zero_of_le h] at hr; simp at hr
      obtain ⟨rfl, hrest⟩ : x = i ∧ rest = List.range' (i + 1) (eso.size - (i + 1)) := by
        have e : eso.size - i = (eso.size - (i + 1)) + 1 := by omega
        rw [e, List.range'_succ] at hr
        injection hr with h1 h2
        exact ⟨h1, h2⟩
      refine wpAny_bind (wpAny_dictEntries hoo' hdo' ?_)
      rw [Array.getElem?_eq_getElem hlt]
      obtain ⟨kv, hkv⟩ : ∃ kv, more[x]? = some kv := ⟨more[x]'(by rw [hlen]; exact hlt), List.getElem?_eq_getElem _⟩
      obtain ⟨k, v⟩ := kv
      obtain ⟨hkey, hval⟩ := hpo.get? (e := eso[x]) (by simp [hlt]) hkv
      obtain ⟨k', hkey', hhash⟩ := hko eso[x] (Array.getElem_mem hlt)
      obtain rfl : k' = k := knd.inj _ _ _ hkey' hkey
      show wpAny _ _ (holding [eso[x].key, eso[x].val] (dictPut d eso[x].hash eso[x].key eso[x].val) >>= _) _ _ _
      rw [hhash, hval]
      have hmx : (merged kvs (more.take x)).length ≤ sizeLine := by
        have e1 := merged_length_le kvs (more.take x)
        have e2 : (more.take x).length ≤ more.length := by rw [List.length_take]; omega
        omega
      refine wpAny_bind (wpAny_holding (wpAny_dictPut hkey hd' (fun h'' hd'' hs'' => ?_) hmx))
      have hoo'' : h''.get? o = some oo := (hs''.2 o (Ne.symm hdo)).trans hoo'
      refine wpAny_bind (wpAny_dictEpoch hoo'' hdo' ?_)
      rw [if_neg (by simp)]
      exact wpAny_pure ⟨h'', x + 1, rfl, hrest, hlt, by rw [merged_take_succ kvs more x (k', v) hkv]; exact hd'', hoo'', hs'.trans hs''⟩
    · rintro b s' ⟨h', i, rfl, hr, hi, hd', hoo', hs'⟩
      have hin : i = eso.size := by
        rcases Nat.lt_or_ge i eso.size with h | h
        · have e : eso.size - i = (eso.size - (i + 1)) + 1 := by omega
          rw [e, List.range'_succ] at hr; exact nomatch hr
        · exact Nat.le_antisymm hi h
      refine wpAny_pure (hQ h' ?_ ⟨oo, eso, epo, hoo', hco, hdo', hko, hpo, hno⟩ hs')
      rw [hin, ← hlen, List.take_length] at hd'; exact hd'
  split
  · refine wpAny_bind (wpAny_dictEntries hoo hdo' ?_)
    refine wpAny_bind (wpAny_of_eq (a := PUnit.unit) ?_ loop)
    rw [← Array.forIn_toList]
    refine forIn_yield_id _ fun e he c => ?_
    obtain ⟨k, hkey, _⟩ := hko e (Array.mem_toList_iff.mp he)
    split
    · rename_i a ea
      rw [ea, hrf] at hkey
      cases hkey
    · rfl
  · exact loop
theorem wpAny_Dict_star {env : Env} {m k v : Expr} {pos : Pos} {Q : Value → Shared → Prop} (hrf : ∀ k a, knd.is k (.ref a) = false)
    (h : wpAny (model prog w) A (eval m env) (fun x s1 => ∃ (o : Addr) (more : List (K × Value)), x = .ref o ∧ s.heap.objs.size ≠ o ∧ (o == sysModules) = false ∧ s1.heap.DictOf knd s.heap.objs.size [] ∧ s1.heap.DictOf knd o more ∧ more.length + 1 ≤ sizeLine ∧
      ∀ h', h'.DictOf knd s.heap.objs.size more → h'.DictOf knd o more → Heap.SameBut s.heap.objs.size s1.heap h' →
        wpAny (model prog w) A (evalPairs [(eval k env, do let x ← eval v env; standAt pos; pure x)]) (fun vs s2 => ∃ kv more, Carries knd vs [kv] ∧ s2.heap.DictOf knd h'.objs.size [] ∧ s2.heap.DictOf knd s.heap.objs.size more ∧ more.length + 1 ≤ sizeLine ∧ s.heap.objs.size ≠ h'.objs.size ∧ (h'.objs.size == sysModules) = false ∧
          ∀ h2 h3, h2.DictOf knd h'.objs.size [kv] → Heap.SameBut h'.objs.size s2.heap h2 → h3.DictOf knd s.heap.objs.size (merged more [kv]) → h3.DictOf knd h'.objs.size [kv] → Heap.SameBut s.heap.objs.size h2 h3 → ∀ tk, Q (.ref s.heap.objs.size) { s2 with heap := h3, toks := tk }) E
          { s1 with heap := h'.push { cls := .type "dict", data := .dict #[] } }) E { s with heap := s.heap.push { cls := .type "dict", data := .dict #[] } }) :
    wpAny (model prog w) A (eval (.Dict [none, some k] [m, v] pos) env) Q E s := by
  rw [arm_eval_Dict]
  refine wpAny_bind (wpAny_standAt ?_)
  show wpAny _ _ (dictDisplay [(none, do let x ← eval m env; standAt pos; pure x), (some (eval k env), do let x ← eval v env; standAt pos; pure x)]) _ _ _
  unfold dictDisplay
  dsimp only
  refine wpAny_bind ?_
  rw [List.forIn_cons]
  refine wpAny_bind ?_
  refine wpAny_bind (wpAny_pure ?_)
  refine wpAny_bind (wpAny_alloc ?_)
  refine wpAny_bind (wpAny_holding (wpAny_bind (wpAny_mono h (fun x s1 hx => ?_) fun _ _ e => e)))
  obtain ⟨o, more, rfl, hdo, hoS, hd, ho, hsz, h2⟩ := hx
  refine wpAny_bind (wpAny_standAt (wpAny_pure ?_))
  refine wpAny_bind (wpAny_onRaise (wpAny_tryCatch (wpAny_onRaise (wpAny_holding (wpAny_mergeMapping hdo hoS hrf hd ho (fun h' hd' ho' hs' => ?_) (by simpa using Nat.le_of_succ_le hsz))))))
  have hno : (more.map (·.1)).Nodup := by obtain ⟨_, _, _, _, _, _, _, _, z⟩ := ho; exact z
  rw [merged_nil_of_nodup more hno] at hd'
  refine wpAny_pure ?_
  dsimp only
  rw [List.forIn_cons]
  refine wpAny_bind ?_
  dsimp only
  rw [if_neg (by simp)]
  refine wpAny_pure ?_
  dsimp only
  rw [List.forIn_nil]
  refine wpAny_pure ?_
  dsimp only [List.nil_append]
  rw [if_neg (by simp)]
  refine wpAny_bind ?_
  refine wpAny_bind (wpAny_holding (wpAny_subDict (knd := knd) (by simp) (wpAny_mono (h2 h' hd' ho' hs') (fun vs s2 hx => ?_) fun _ _ e => e)))
  obtain ⟨kv, more, hc, e2, e3, hsz, hne, hnS, fin⟩ := hx
  refine ⟨[kv], hc, e2, fun h2' hd2 hs2 => ?_⟩
  have hd2 : h2'.DictOf knd h'.objs.size [kv] := by rw [merged_nil_of_nodup [kv] (by simp)] at hd2; exact hd2
  refine wpAny_bind (wpAny_onRaise (wpAny_holding (wpAny_mergeMapping hne hnS hrf (e3.sameBut hs2 hne) hd2 (fun h3 hd3 ho3 hs3 => ?_) (by simpa using hsz))))
  exact wpAny_pure (wpAny_pure (fin h2' h3 hd2 hs2 hd3 ho3 hs3 _))
end
def tStarD (te tk tv : TE) : TE := fun σ H Q => ∀ p, H p = none → te σ (upd H p (.dK [])) fun x H1 => H1 p = some (.dK []) ∧ ∃ (o : Addr) (kvs : List (Key × V)), x = .ref o ∧ p ≠ o ∧ Rd H1 o (.dK kvs) ∧ kvs.length + 1 ≤ sizeLine ∧
  ∀ p2, upd H1 p (.dK kvs) p2 = none → tPairs [(tk, tv)] σ (upd (upd H1 p (.dK kvs)) p2 (.dK [])) fun ps H2 => H2 p2 = some (.dK []) ∧ H2 p = some (.dK kvs) ∧ ∃ kv : Key × V, ps = [(kV kv.1, kv.2)] ∧ Q (.ref p) (upd (upd H2 p2 (.dK [kv])) p (.dK (mergeK kvs [kv])))
theorem mix_ref {P : Program} {w : World} (k : Key) (a : Addr) : (mixKind P w).is k (.ref a) = false := by
  cases k <;> rfl
theorem pe_dstar {X : Cx} {m k v : Expr} {pos : Pos} {te tk tv : TE} (he : PE X m te) (hp : PPs X pos [some k] [v] [(tk, tv)]) : PE X (.Dict [none, some k] [m, v] pos) (tStarD te tk tv) := by
  refine ⟨fun pins s σ H Q I q => ?_⟩
  have hn := I.hok.fresh (Nat.le_refl s.heap.objs.size)
  have I1 := I.laid (a := s.heap.objs.size) (o := .dK []) (h' := s.heap.push { cls := .type "dict", data := .dict #[] }) (t' := s.toks) (fun _ _ q => Heap.get?_push_of_some _ q) (Nat.le_refl _) (dk_empty s.heap I.big)
  refine wpAny_Dict_star (knd := mixKind X.prog X.w) mix_ref (thn (he.run pins _ σ _ _ I1 (q _ hn)) fun u s1 ⟨x, H1, I2, rx, ep, o, kvs, ex, hne, rd, hz, q2⟩ => ?_)
  subst ex
  obtain rfl : u = Value.ref o := rx
  obtain ⟨z1, hd1, vs0, r0, dd0⟩ := dk_of I2.hok ep
  cases r0
  obtain ⟨z2, hS, vs, kv, dof⟩ := dk_rd I2.hok rd
  refine ⟨o, vs, rfl, hne, hS, dd0, dof, by rw [← kv.length]; exact hz, fun h' hd' ho' hs' => ?_⟩
  have he' : ∃ q, h'.get? s.heap.objs.size = some q := let ⟨q, _, _, hq, _⟩ := hd'; ⟨q, hq⟩
  have I3 := d_write (ob := .dK kvs) (t' := s1.toks) I2 (by rw [ep]; exact True.intro) hs' he' (dk_new z2 hd1 kv hd')
  have hn2 := I3.hok.fresh (Nat.le_refl h'.objs.size)
  have I4 := I3.laid (a := h'.objs.size) (o := .dK []) (h' := h'.push { cls := .type "dict", data := .dict #[] }) (t' := s1.toks) (fun _ _ q => Heap.get?_push_of_some _ q) (Nat.le_refl _) (dk_empty h' I3.big)
  refine thn (hp.run pins _ σ _ _ I4 (q2 _ hn2)) fun ws s2 ⟨ps, H2, I5, rel, e2, e3, kw, eps, q3⟩ => ?_
  have eps : ps = [kw].map (fun kv => (kV kv.1, kv.2)) := eps
  subst eps
  obtain ⟨rs, c, rk⟩ := carries_of (P := X.prog) (w := X.w) rel
  obtain ⟨z3, hS3, v3, r3, d3⟩ := dk_of I5.hok e2
  cases r3
  obtain ⟨z4, hS4, v4, r4, d4⟩ := dk_of I5.hok e3
  cases rk with
  | @cons _ r _ rs' rk rr =>
    cases rr
    have hpp : s.heap.objs.size ≠ h'.objs.size := fun z => by rw [← z, upd_same] at hn2; cases hn2
    refine ⟨r, v4, c, d3, d4, by rw [← r4.length]; exact hz, hpp, hS3, fun h2 h3 a1 a2 a3 a4 a5 tk => ⟨.ref s.heap.objs.size, _, ?_, rfl, q3⟩⟩
    have I6 := d_write (ob := .dK [kw]) (t' := tk) I5 (by rw [e2]; exact True.intro) a2 (let ⟨q, _, _, hq, _⟩ := a1; ⟨q, hq⟩) (dk_new (by rw [sizeLine_eq]; simp) hS3 (.cons rk .nil) a1)
    have e3' : upd H2 h'.objs.size (.dK [kw]) s.heap.objs.size = some (.dK kvs) := by rw [upd_ne hpp]; exact e3
    have hm := KV.merge (.cons rk .nil) r4
    have I7 := d_write (ob := .dK (mergeK kvs [kw])) (t' := tk) I6 (by rw [e3']; exact True.intro) a5 (let ⟨q, _, _, hq, _⟩ := a3; ⟨q, hq⟩) (dk_new (by have := length_mergeK [kw] kvs; simp at this; omega) hS4 hm a3)
    exact I7
def dicL : D → Option (List (Str × D))
  | .dic l => some l
  | _ => none
def strK : D → Option Str
  | .str k => some k
  | _ => none
def evDst (f g h : EvD) (ρ : List Sl) : R (D × List Sl) := (f ρ).nox.bind fun p => (ofO (dicL p.1)).bind fun l => if decide (l.length < sizeLine) = true then (g p.2).nox.bind fun q => (h q.2).nox.bind fun r => (ofO (strK q.1)).bind fun k => .ok (.dic (putD l k r.1), r.2) else .bad
section
variable {W : Wd} {N : List Str} {sc : Scope} {k : Nat} {E : XK} {X : Cx} {B : Bs} {e e2 o : Expr} {f g h : EvD} {pos : Pos}
theorem BLe.trans {B1 B2 B3 : Bs} (l1 : BLe B1 B2) (l2 : BLe B2 B3) : BLe B1 B3 := ⟨l2.K.trans l1.K, fun a o i e => l2.imm _ _ i (l1.imm _ _ i e)⟩
theorem do_dst (hf : ∀ B' : Bs, BLe B B' → PE X o (tE B' E0 f)) (hg : ∀ B' : Bs, BLe B B' → PE X e (tE B' E0 g)) (hh : ∀ B' : Bs, BLe B B' → PE X e2 (tE B' E0 h)) : PE X (.Dict [none, some e] [o, e2] pos) (tO B E (evDst f g h)) :=
  weakE (pe_dstar (pe_anyB hf) (pps_cons (pe_anyB hg) (pe_anyB hh) pps_nil)) fun σ H Q ⟨Fz, ρ, I, q⟩ p hp => by
    obtain ⟨_, g1, ap, h0, nz⟩ := I.laid hp (.dK [])
    have I1 : Iv (B.at p (.dK [])) Fz (upd H p (.dK [])) σ ρ := I.atBase (o := .dK []) hp fun z => z
    have lent : ∀ a, B.bd a → ∃ o, B.H0 a = some o := I.lent
    refine ⟨B.at p (.dK []), .at h0, monoG (tG_nox I1 (FinG.ge g1 q)) fun v H1 ⟨F1, ρ1, d, I2, d1, g2, q1⟩ => ?_⟩
    have d1 : Den B.K F1 H1 v d := d1
    obtain ⟨l, el, q2⟩ := fin_o q1
    cases d with
    | dic l' =>
      cases el
      obtain ⟨hc, q2⟩ := fin_if q2
      cases d1 with
      | @dic a ob kvs _ hd df =>
        have hp1 : H1 p = some (.dK []) := I2.ext.keep p _ upd_same fun z => z.2 rfl
        have nz1 : ¬ F1 p := fun z => by
          obtain ⟨C, dx, fs, e⟩ := I2.fzs p z
          rw [hp1] at e; cases e
        have hpa : p ≠ a := by
          rintro rfl
          rw [hp1] at hd
          cases hd
        refine ⟨hp1, a, kvs.map keyP, rfl, hpa, .inr ⟨_, hd⟩, by rw [List.length_map, df.length]; exact of_decide_eq_true hc, fun p2 hp2 => ?_⟩
        -- the first merge
        have x1 := ext_put (o := .dK (kvs.map keyP)) hp1 (fun z => z) nz1
        have I3 : Iv B F1 H1 σ ρ1 := I2.outBase h0 nz1 lent
        have ne := I2.atNe h0 lent
        have I4 := I3.step x1 (fzs_put I3.fzs nz1) (fun b hb => by rw [hb]; exact .inl h0) fun j b hb z => ne j b hb z
        have I5 : Iv (B.at p (.dK (kvs.map keyP))) F1 (upd H1 p (.dK (kvs.map keyP))) σ ρ1 := I4.toBase upd_same h0 ne (fun z => z) nz1
        obtain ⟨_, g5, ap5, h5, nz5⟩ := I5.laid hp2 (.dK [])
        have I6 : Iv ((B.at p (.dK (kvs.map keyP))).at p2 (.dK [])) F1 (upd (upd H1 p (.dK (kvs.map keyP))) p2 (.dK [])) σ ρ1 := I5.atBase (o := .dK []) hp2 fun z => z
        have lent1 : ∀ a, (B.at p (.dK (kvs.map keyP))).bd a → ∃ o, (B.at p (.dK (kvs.map keyP))).H0 a = some o := I5.lent
        have le2 : BLe B ((B.at p (.dK (kvs.map keyP))).at p2 (.dK [])) := (BLe.at (o := .dK (kvs.map keyP)) h0).trans (.at h5)
        refine ⟨_, le2, monoG (tG_nox I6 (FinG.ge (x1.ge.trans g5) q2)) fun y H4 ⟨F4, ρ4, dy, I7, d7, g7, q7⟩ => ⟨_, le2, monoG (tG_nox I7 q7) fun z H5 ⟨F5, ρ5, dz, I8, d8, g8, q8⟩ => ?_⟩⟩
        have d7 : Den B.K F4 H4 y dy := d7
        have d8 : Den B.K F5 H5 z dz := d8
        obtain ⟨kk, ek, q9⟩ := fin_o q8
        cases dy with
        | str k' =>
          cases ek
          cases d7
          have e2 : H5 p2 = some (.dK []) := I8.ext.keep p2 _ upd_same fun z => z.2 rfl
          have hpp : p ≠ p2 := fun z => by rw [← z, upd_same] at hp2; cases hp2
          have e3 : H5 p = some (.dK (kvs.map keyP)) := I8.ext.keep p _ (by show upd (upd B.H0 p _) p2 _ p = _; rw [upd_ne hpp, upd_same]) fun z => z.1.2 rfl
          have nf2 : ¬ F5 p2 := fun z => by
            obtain ⟨C, dx, fs, e⟩ := I8.fzs p2 z
            rw [e2] at e; cases e
          have nf : ¬ F5 p := fun z => by
            obtain ⟨C, dx, fs, e⟩ := I8.fzs p z
            rw [e3] at e; cases e
          have J1 := I8.outBase h5 nf2 lent1
          have ne2 := I8.atNe h5 lent1
          have J2 : Iv B F5 H5 σ ρ5 := J1.outBase h0 nf lent
          have ne3 := J1.atNe h0 lent
          have h02 : B.H0 p2 = none := by have : upd B.H0 p _ p2 = none := h5; rwa [upd_ne (Ne.symm hpp)] at this
          have x2 := ext_put (o := .dK [keyP (kk, z)]) e2 (fun z => z) nf2
          have J3 := J2.step x2 (fzs_put J2.fzs nf2) (fun b hb => by rw [hb]; exact .inl h02) fun j b hb z => ne2 j b hb z
          have e3' : upd H5 p2 (.dK [keyP (kk, z)]) p = some (.dK (kvs.map keyP)) := by rw [upd_ne hpp]; exact e3
          have x3 := ext_put (o := .dK ((putS kvs kk z).map keyP)) e3' (fun z => z) nf
          have J4 := J3.step x3 (fzs_put J3.fzs nf) (fun b hb => by rw [hb]; exact .inl h0) fun j b hb z => ne3 j b hb z
          refine ⟨e2, e3, keyP (kk, z), rfl, ?_⟩
          have m : mergeK (kvs.map keyP) [keyP (kk, z)] = (putS kvs kk z).map keyP := merge_keyP [(kk, z)] kvs
          rw [m]
          exact q9 _ _ F5 J4 (x2.ge.trans x3.ge) ⟨p, rfl, ⟨_, upd_same, ((DenF.fold (l := [(kk, z)]) (m := [(kk, dz)]) (.cons d8 .nil) (df.mono (((x1.ge.trans g5).trans g7).trans g8))).mono (x2.ge.trans x3.ge))⟩, h0, ne3⟩
        | _ => cases ek
    | _ => cases el
end
end Dx

set_option Elab.async false
set_option linter.all false
set_option maxRecDepth 100000
set_option maxHeartbeats 2000000
/-! DxZo: more forms for the printer. -/
namespace Dx
open PySem PySem.Spec PyProof.Rows L2
section
variable {W : Wd} {N : List Str} {sc : Scope} {k j : Nat} {E : XK} {X : Cx} {B : Bs} {x y : Str} {p pos : Pos} {e e2 o : Expr} {f g h : List Sl → R (D × List Sl)}
theorem q_dst (wo : WOk W) (hX : XIs W N sc k E X) (hB : BOk W B) (hf : ∀ B' : Bs, BOk W B' → XIs W N sc k E0 X → PE X o (tE B' E0 f)) (hg : ∀ B' : Bs, BOk W B' → XIs W N sc k E0 X → PE X e (tE B' E0 g)) (hh : ∀ B' : Bs, BOk W B' → XIs W N sc k E0 X → PE X e2 (tE B' E0 h)) : PE X (.Dict [none, some e] [o, e2] pos) (tO B E (evDst f g h)) :=
  do_dst (fun B' l => hf B' (hB.le wo l) (hX.e0 wo)) (fun B' l => hg B' (hB.le wo l) (hX.e0 wo)) (fun B' l => hh B' (hB.le wo l) (hX.e0 wo))
end
end Dx

set_option Elab.async false
set_option linter.all false
set_option maxRecDepth 100000
set_option maxHeartbeats 1000000
/-! DxZp: lists of lists of one's own: what a for gives its variable may be changed. -/
namespace Dx
open PySem PySem.Spec PyProof.Rows L2
abbrev Cells := List (Addr × List V)
def refs (l : Cells) : List V := l.map fun p => V.ref p.1
abbrev ads (l : Cells) : List Addr := l.map (·.1)
def Bs.ats (B : Bs) : Cells → Bs
  | [] => B
  | p :: l => (B.ats l).at p.1 (.lst p.2)
/-- a base that tells more, and can be left again -/
structure BOut (B' B : Bs) : Prop where
  K : B'.K = B.K
  imm : ∀ a o, Imm o → B.H0 a = some o → B'.H0 a = some o
  iv : ∀ {Fz : Addr → Prop} {H : Hp} {σ : L2.St} {ρ : List Sl}, Iv B' Fz H σ ρ → Iv B Fz H σ ρ
  ext : ∀ {Fz : Addr → Prop} {H : Hp}, Ext B'.ex B'.Fz0 B'.H0 Fz H → FzOk Fz H → Ext B.ex B.Fz0 B.H0 Fz H
  h0 : ∀ a, B'.H0 a = none → B.H0 a = none
  lent : (∀ a, B.bd a → ∃ o, B.H0 a = some o) → ∀ a, B'.bd a → ∃ o, B'.H0 a = some o
theorem BOut.le {B' B : Bs} (b : BOut B' B) : BLe B B' := ⟨b.K, b.imm⟩
theorem BOut.refl {B : Bs} : BOut B B := ⟨rfl, fun _ _ _ h => h, fun h => h, fun h _ => h, fun _ h => h, fun h => h⟩
theorem BOut.trans {B2 B1 B : Bs} (a : BOut B2 B1) (b : BOut B1 B) : BOut B2 B :=
  ⟨a.K.trans b.K, fun x o i h => a.imm x o i (b.imm x o i h), fun h => b.iv (a.iv h), fun h f => b.ext (a.ext h f) f, fun x h => b.h0 x (a.h0 x h), fun h => a.lent (b.lent h)⟩
theorem nz_lst {Fz : Addr → Prop} {H : Hp} {p : Addr} {vs : List V} (f : FzOk Fz H) (e : H p = some (.lst vs)) : ¬ Fz p := fun z => by
  obtain ⟨C, dx, fs, e2⟩ := f p z
  rw [e] at e2; cases e2
theorem at_get {B : Bs} {Fz : Addr → Prop} {H : Hp} {p : Addr} {vs : List V} (x : Ext (B.at p (.lst vs)).ex (B.at p (.lst vs)).Fz0 (B.at p (.lst vs)).H0 Fz H) : H p = some (.lst vs) := x.keep p _ upd_same fun z => z.2 rfl
theorem BOut.at {B : Bs} {p : Addr} {vs : List V} (h0 : B.H0 p = none) (lent : ∀ a, B.bd a → ∃ o, B.H0 a = some o) : BOut (B.at p (.lst vs)) B where
  K := rfl
  imm := (BLe.at h0).imm
  iv := fun I => I.outBase h0 (nz_lst I.fzs (at_get I.ext)) lent
  ext := fun {Fz H} x f => by
    have nz : ¬ Fz p := nz_lst f (at_get x)
    have nz0 : ¬ B.Fz0 p := fun z => nz (x.ge.fz p z)
    refine ⟨⟨fun a u i e => ?_, x.ge.fz, fun a z => ?_⟩, fun a u e n => ?_, fun a z => ?_, fun a u e => ?_⟩
    · have q : a ≠ p := fun q => by rw [q, h0] at e; cases e
      exact x.ge.imm a u i (by rw [show (B.at p (.lst vs)).H0 a = B.H0 a from upd_ne q]; exact e)
    · have q : a ≠ p := fun q => nz0 (q ▸ z)
      have := x.ge.fzk a z
      rw [show (B.at p (.lst vs)).H0 a = B.H0 a from upd_ne q] at this
      exact this
    · have q : a ≠ p := fun q => by rw [q, h0] at e; cases e
      exact x.keep a u (by rw [show (B.at p (.lst vs)).H0 a = B.H0 a from upd_ne q]; exact e) fun z => n z.1
    · have q : a ≠ p := fun q => nz (q ▸ z)
      rcases x.nofz a z with h | h | h
      · exact .inl h
      · exact .inr (.inl (by rw [show (B.at p (.lst vs)).H0 a = B.H0 a from upd_ne q] at h; exact h))
      · exact .inr (.inr h.1)
    · have q : a ≠ p := fun q => by rw [q, h0] at e; cases e
      exact x.there a u (by rw [show (B.at p (.lst vs)).H0 a = B.H0 a from upd_ne q]; exact e)
  h0 := fun a h => by
    by_cases q : a = p
    · rw [q]; exact h0
    · rw [show (B.at p (.lst vs)).H0 a = B.H0 a from upd_ne q] at h; exact h
  lent := fun l a z => by
    obtain ⟨u, e⟩ := l a z
    by_cases q : a = p
    · rw [q, h0] at e; cases e
    · exact ⟨u, by rw [show (B.at p (.lst vs)).H0 a = B.H0 a from upd_ne q]; exact e⟩
section
variable {B : Bs} {l : Cells}
theorem ats_h0 {x : Addr} : ∀ {l : Cells}, x ∉ ads l → (B.ats l).H0 x = B.H0 x
  | [], _ => rfl
  | p :: l, h => by
    have h1 : x ≠ p.1 := fun z => h (by rw [z]; exact List.mem_cons_self ..)
    rw [show (B.ats (p :: l)).H0 x = (B.ats l).H0 x from upd_ne h1]
    exact ats_h0 fun z => h (List.mem_cons_of_mem _ z)
theorem ats_in : ∀ {l : Cells} {p : Addr × List V}, p.1 ∈ ads l → (B.ats l).H0 p.1 ≠ none
  | q :: l, p, h => by
    by_cases e : p.1 = q.1
    · rw [show (B.ats (q :: l)).H0 p.1 = some (.lst q.2) by rw [e]; exact upd_same]; exact fun z => by cases z
    · rw [show (B.ats (q :: l)).H0 p.1 = (B.ats l).H0 p.1 from upd_ne e]
      exact ats_in (by rcases List.mem_cons.mp h with z | z; exact (e z).elim; exact z)
theorem ats_out (lent : ∀ a, B.bd a → ∃ o, B.H0 a = some o) : ∀ {l : Cells}, (ads l).Nodup → (∀ x ∈ ads l, B.H0 x = none) → BOut (B.ats l) B
  | [], _, _ => .refl
  | p :: l, nd, h0 => by
    have nd := List.nodup_cons.mp nd
    have b := ats_out lent (l := l) nd.2 fun x hx => h0 x (List.mem_cons_of_mem _ hx)
    refine BOut.trans (.at ?_ (b.lent lent)) b
    rw [ats_h0 nd.1]
    exact h0 p.1 (List.mem_cons_self ..)
variable {Fz : Addr → Prop} {H : Hp} {σ : L2.St} {ρ : List Sl}
/-- into the base -/
theorem Iv.ats (I : Iv B Fz H σ ρ) : ∀ {l : Cells}, (ads l).Nodup → (∀ p ∈ l, H p.1 = some (.lst p.2)) → (∀ x ∈ ads l, B.H0 x = none ∧ ∀ i b, HeldAt σ ρ i b → b ≠ x) → Iv (B.ats l) Fz H σ ρ
  | [], _, _, _ => I
  | p :: l, nd, hs, h0 => by
    have nd := List.nodup_cons.mp nd
    have J := Iv.ats I (l := l) nd.2 (fun q hq => hs q (List.mem_cons_of_mem _ hq)) fun x hx => h0 x (List.mem_cons_of_mem _ hx)
    have hp := hs p (List.mem_cons_self ..)
    have hx := h0 p.1 (List.mem_cons_self ..)
    exact J.toBase hp (by rw [ats_h0 nd.1]; exact hx.1) hx.2 (fun z => z) (nz_lst J.fzs hp)
/-- what is in the base stands, and no slot holds it -/
theorem ats_at (lent : ∀ a, B.bd a → ∃ o, B.H0 a = some o) : ∀ {l : Cells}, (ads l).Nodup → (∀ x ∈ ads l, B.H0 x = none) → Iv (B.ats l) Fz H σ ρ → ∀ p ∈ l, H p.1 = some (.lst p.2) ∧ ∀ i b, HeldAt σ ρ i b → b ≠ p.1
  | p :: l, nd, h0, I, q, hq => by
    have nd := List.nodup_cons.mp nd
    have h0' : ∀ x ∈ ads l, B.H0 x = none := fun x hx => h0 x (List.mem_cons_of_mem _ hx)
    have hp : (B.ats l).H0 p.1 = none := by rw [ats_h0 nd.1]; exact h0 p.1 (List.mem_cons_self ..)
    have bo := ats_out lent nd.2 h0'
    rcases List.mem_cons.mp hq with z | z
    · subst z
      exact ⟨at_get I.ext, I.atNe hp (bo.lent lent)⟩
    · exact ats_at lent nd.2 h0' ((BOut.at hp (bo.lent lent)).iv I) q z
end
/-- lists, as data -/
inductive DenLL (K : Frag) (Fz : Addr → Prop) (H : Hp) : List (List V) → List D → Prop where
  | nil : DenLL K Fz H [] []
  | cons {vs : List V} {es : List D} {vss : List (List V)} {ds : List D} : DenL K Fz H vs es → DenLL K Fz H vss ds → DenLL K Fz H (vs :: vss) (.lst es :: ds)
section
variable {K : Frag} {Fz Fz' : Addr → Prop} {H H' : Hp}
theorem DenLL.mono (g : Ge Fz H Fz' H') {vss : List (List V)} {ds : List D} (h : DenLL K Fz H vss ds) : DenLL K Fz' H' vss ds := by
  induction h with
  | nil => exact .nil
  | cons d _ ih => exact .cons (d.mono g) ih
theorem DenLL.append {v v2 : List (List V)} {d d2 : List D} (h : DenLL K Fz H v d) (h2 : DenLL K Fz H v2 d2) : DenLL K Fz H (v ++ v2) (d ++ d2) := by
  induction h with
  | nil => exact h2
  | cons d _ ih => exact .cons d ih
theorem DenLL.length {vss : List (List V)} {ds : List D} (h : DenLL K Fz H vss ds) : vss.length = ds.length := by
  induction h with
  | nil => rfl
  | cons _ _ ih => exact congrArg Nat.succ ih
theorem DenLL.drop {vss : List (List V)} {ds : List D} (h : DenLL K Fz H vss ds) : ∀ n, DenLL K Fz H (vss.drop n) (ds.drop n) := by
  induction h with
  | nil => intro n; simp; exact .nil
  | cons d h ih => intro n; cases n with
    | zero => exact .cons d h
    | succ n => simpa using ih n
end
abbrev rOO : Rel (List D) V := fun B Fz H σ ρ v ds => ∃ a l, v = .ref a ∧ H a = some (.lst (refs l)) ∧ (∀ p ∈ l, H p.1 = some (.lst p.2)) ∧ DenLL B.K Fz H (l.map (·.2)) ds ∧ (a :: ads l).Nodup ∧ ∀ x ∈ a :: ads l, B.H0 x = none ∧ ∀ i b, HeldAt σ ρ i b → b ≠ x
abbrev tOO (B : Bs) (E : XK) (f : List Sl → R (List D × List Sl)) : TE := tG rOO B E f
section
variable {B B' : Bs} {E : XK} {Fz : Addr → Prop} {H : Hp}
theorem FinS.out {Dn : Ends} (b : BOut B' B) {r : RS} (h : FinS B E Dn Fz H r) : FinS B' E Dn Fz H r := by
  cases r with
  | nx ρ => exact fun σ' H' Fz' I g => h σ' H' Fz' (b.iv I) g
  | bk ρ => exact fun σ' H' Fz' I g => h σ' H' Fz' (b.iv I) g
  | ct ρ => exact fun σ' H' Fz' I g => h σ' H' Fz' (b.iv I) g
  | rt o d ρ =>
    refine fun v σ' H' Fz' I g r => h v σ' H' Fz' (b.iv I) g ?_
    cases o with
    | true => obtain ⟨a, e, ow, hn⟩ := r; exact ⟨a, e, b.K ▸ ow, b.h0 a hn⟩
    | false => have r : Den B'.K Fz' H' v d := r; rw [b.K] at r; exact r
  | exc c d => intro dx v H' Fz' x f e dn; rw [b.K] at dn ⊢; exact h dx v H' Fz' (b.ext x f) f e dn
  | bad => exact h
theorem fin_lpO {Dn : Ends} (b : BOut B' B) {r : RS} {k : List Sl → RS} (h : FinS B E Dn Fz H (r.lp k)) {N : L2.St → Hp → Prop} (hN : ∀ σ' H' Fz' ρ', Iv B' Fz' H' σ' ρ' → Ge Fz H Fz' H' → FinS B E Dn Fz' H' (k ρ') → N σ' H') :
    FinS B' E { Dn with nx := N, ct := N, bk := Dn.nx } Fz H r := by
  cases r with
  | nx ρ => exact fun σ' H' Fz' I g => hN σ' H' Fz' ρ I g (FinS.ge g h)
  | ct ρ => exact fun σ' H' Fz' I g => hN σ' H' Fz' ρ I g (FinS.ge g h)
  | bk ρ => exact FinS.out (r := .nx ρ) b h
  | rt o d ρ => exact FinS.out (r := .rt o d ρ) b h
  | exc c d => exact FinS.out (r := .exc c d) b h
  | bad => exact h
end
/-! ### the list made by a comprehension -/
def chkL (f : List Sl → R (D × List Sl)) (ρ : List Sl) : R (D × List Sl) := (f ρ).bind fun q => if isLst q.1 then .ok q else .bad
def evLcO (vs : List Nat) (s : List Sl → R (List D × List Sl)) (t : D → List Sl → Option (List Sl)) (u : List Sl → R (Bool × List Sl)) (f : List Sl → R (D × List Sl)) (ρ : List Sl) : R (List D × List Sl) :=
  (s ρ).bind fun p => lcL vs t u (chkL f) [] p.1 (wipeR p.2 vs)
section
variable {X : Cx} {B : Bs} {E : XK} {e c iter tg elt : Expr} {ifs : List Expr} {f : List Sl → R (D × List Sl)} {s : List Sl → R (List D × List Sl)} {t : D → List Sl → Option (List Sl)} {u : List Sl → R (Bool × List Sl)} {g : List Sl → RS} {pos : Pos} {i : Nat} {x : Str} {ws : List Nat} {scope : Scope} {own : List (Str × Nat)} {body : List Stmt}
theorem chk_ok {f : List Sl → R (D × List Sl)} {k : D × List Sl → R (List D × List Sl)} {σ : L2.St} {Q : VK} {Fz : Addr → Prop} {H : Hp} {ρ : List Sl} (h : FinG rOO B E σ Q Fz H ((chkL f ρ).nox.bind k)) : FinG rOO B E σ Q Fz H ((f ρ).nox.bind fun q => if isLst q.1 then k q else .bad) := by
  unfold chkL at h
  cases e : f ρ with
  | ok q =>
    rw [e] at h
    cases c : isLst q.1 with
    | true =>
      have : FinG rOO B E σ Q Fz H (((if isLst q.1 = true then R.ok q else .bad) : R _).nox.bind k) := h
      rw [if_pos c] at this
      show FinG rOO B E σ Q Fz H (if isLst q.1 = true then k q else .bad)
      rw [if_pos c]
      exact this
    | false =>
      have : FinG rOO B E σ Q Fz H (((if isLst q.1 = true then R.ok q else .bad) : R _).nox.bind k) := h
      rw [if_neg (by rw [c]; decide)] at this
      exact this.elim
  | exc c d => rw [e] at h; exact h.elim
  | bad => rw [e] at h; exact h.elim
theorem refs_add {l : Cells} {p : Addr × List V} : refs (l ++ [p]) = refs l ++ [.ref p.1] := by simp [refs]
theorem t_lcO {vs : List Nat} (hw : ∀ j ∈ ws, j ∈ vs) {σ : L2.St} {H : Hp} {Q : VK} (h : tOO B E (evLcO vs s t u f) σ H Q) :
    tLc (tI B E s) (fun v σ H Q => ∃ B' : Bs, BLe B B' ∧ tG1 B' ws t v σ H Q) (fun σ H Q => ∃ B' : Bs, BLe B B' ∧ tT B' E0 u σ H Q) (fun σ H Q => ∃ B' : Bs, BLe B B' ∧ tO B' E0 f σ H Q) vs σ H Q := by
    obtain ⟨Fz, ρ, I, q⟩ := h
    refine monoG (tG_bind I q) fun J H1 ⟨F1, ρ1, ds, I1, ⟨G, Y, w, hG, hY⟩, g1, e1, q1⟩ => ?_
    intro p hp
    have lent : ∀ a, B.bd a → ∃ o, B.H0 a = some o := I.lent
    have h0 : B.H0 p = none := (I1.laid hp (.lst [])).2.2.2.1
    have ge0 : Ge F1 H1 F1 (upd H1 p (.lst [])) := (I1.laid hp (.lst [])).2.1
    refine lc_it (g := fun v σ H Q => ∃ B' : Bs, BLe B B' ∧ tG1 B' ws t v σ H Q) (tt := fun σ H Q => ∃ B' : Bs, BLe B B' ∧ tT B' E0 u σ H Q) (te := fun σ H Q => ∃ B' : Bs, BLe B B' ∧ tO B' E0 f σ H Q) (vs := vs) (σ := σ) (Qd := fun H => Q (.ref p) H) w (fun i H' => ∃ F' ρ0 acc l, DenLL B.K F' H' (l.map (·.2)) acc ∧ (ads l).Nodup ∧ (∀ x ∈ ads l, B.H0 x = none ∧ x ≠ p) ∧ Iv ((B.ats l.reverse).at p (.lst (refs l))) F' H' (wipe σ vs) (wipeR ρ0 vs) ∧ Ge F1 H1 F' H' ∧
        FinG rOO B E σ Q F' H' (lcL vs t u (chkL f) acc (ds.drop i) (wipeR ρ0 vs)))
      ⟨F1, ρ1, [], [], .nil, List.nodup_nil, fun _ z => (nomatch z), (I1.atBase (o := .lst []) hp (fun z => z)).wipe, ge0, FinG.ge ge0 q1⟩ (fun i H' _ ⟨F', _, _, _, _, _, _, _, g', _⟩ => hG F' H' g')
      (fun i x H' H2 hlt ⟨F', ρ0, acc, l, dacc, nd, hx, I', g', q'⟩ y => ?_) fun H' ⟨F', ρ0, acc, l, dacc, nd, hx, I', g', q'⟩ => ?_
    · have ndr : (ads l.reverse).Nodup := by rw [ads, List.map_reverse]; exact (List.reverse_perm (ads l)).nodup_iff.mpr nd
      have hxr : ∀ x ∈ ads l.reverse, B.H0 x = none ∧ x ≠ p := fun x h => hx x (by rw [ads, List.map_reverse] at h; exact List.mem_reverse.mp h)
      have pnr : p ∉ ads l.reverse := fun z => (hxr p z).2 rfl
      have bo := ats_out lent ndr fun x h => (hxr x h).1
      have hp0 : (B.ats l.reverse).H0 p = none := by rw [ats_h0 pnr]; exact h0
      have bp : BOut ((B.ats l.reverse).at p (.lst (refs l))) (B.ats l.reverse) := .at hp0 (bo.lent lent)
      have ble : BLe B ((B.ats l.reverse).at p (.lst (refs l))) := (bp.trans bo).le
      obtain ⟨d, ed, er⟩ := drop_get hlt
      obtain ⟨h2, dn⟩ := hY i F' H' x H2 d g' I'.fzs ed y
      obtain ⟨I2, g2⟩ := I'.more h2
      rw [er] at q'
      have q' := FinG.ge g2 q'
      have q' : FinG rOO B E σ Q F' H2 ((ofO (t d (wipeR ρ0 vs))).bind fun ρ1 => (u ρ1).nox.bind fun p => match p.1 with
        | true => (chkL f p.2).nox.bind fun q => if decide (acc.length < sizeLine) = true then lcL vs t u (chkL f) (acc ++ [q.1]) (ds.drop (i + 1)) (wipeR q.2 vs) else .bad
        | false => lcL vs t u (chkL f) acc (ds.drop (i + 1)) (wipeR p.2 vs)) := q'
      obtain ⟨ρ2, e2, q2⟩ := fin_o q'
      refine ⟨_, ble, F', _, d, ρ2, I2, (by rw [(bp.trans bo).K]; exact dn), e2, fun σ3 s3 I3 => ⟨wipe_same s3 hw, ?_⟩⟩
      refine ⟨_, ble, monoG (tG_nox I3 q2) fun b H3 ⟨F3, ρ3, db, I4, eb, g3, q3⟩ => ?_⟩
      have eb : b = db := eb
      subst eb
      have ws3 : wipe σ3 vs = wipe σ vs := wipe_same s3 hw
      cases b with
      | false =>
        rw [if_neg (by decide)]
        refine ⟨F3, ρ3, acc, l, (dacc.mono g2).mono g3, nd, hx, ?_, (g'.trans g2).trans g3, q3⟩
        have I5 := I4.wipe (vs := vs)
        rw [ws3] at I5
        exact I5
      | true =>
        rw [if_pos rfl]
        have q3 : FinG rOO B E σ Q F3 H3 ((chkL f ρ3).nox.bind fun q => if decide (acc.length < sizeLine) = true then lcL vs t u (chkL f) (acc ++ [q.1]) (ds.drop (i + 1)) (wipeR q.2 vs) else .bad) := q3
        refine ⟨_, ble, monoG (tG_nox I4 (chk_ok q3)) fun z H4 ⟨F4, ρ4, dz, I5, ⟨a', ez, ow, hn, ap⟩, g4, q4⟩ => ?_⟩
        have q4 : FinG rOO B E σ Q F4 H4 (if isLst dz = true then (if decide (acc.length < sizeLine) = true then lcL vs t u (chkL f) (acc ++ [dz]) (ds.drop (i + 1)) (wipeR ρ4 vs) else .bad) else .bad) := q4
        by_cases hL : ¬ isLst dz = true
        · rw [if_neg hL] at q4; exact q4.elim
        have hL := Classical.not_not.mp hL
        rw [if_pos hL] at q4
        by_cases hz : ¬ acc.length < sizeLine
        · rw [if_neg (by rw [decide_eq_true_iff]; exact hz)] at q4
          exact q4.elim
        have hz := Classical.not_not.mp hz
        rw [if_pos (decide_eq_true hz)] at q4
        obtain ⟨es, rfl⟩ := isLst_of hL
        obtain ⟨vs', hv', dv⟩ := ow
        rw [(bp.trans bo).K] at dv
        subst ez
        have hD4 : H4 p = some (.lst (refs l)) := at_get I5.ext
        have nz4 : ¬ F4 p := nz_lst I5.fzs hD4
        have x := ext_put (o := .lst (refs l ++ [V.ref a'])) hD4 (fun z => z) nz4
        have ap' : a' ≠ p := fun z => by rw [z] at hn; rw [show ((B.ats l.reverse).at p (.lst (refs l))).H0 p = some (.lst (refs l)) from upd_same] at hn; cases hn
        have hn1 : (B.ats l.reverse).H0 a' = none := by rw [show ((B.ats l.reverse).at p (.lst (refs l))).H0 a' = (B.ats l.reverse).H0 a' from upd_ne ap'] at hn; exact hn
        have anr : a' ∉ ads l.reverse := fun z => ats_in (B := B) (l := l.reverse) (p := (a', [])) z hn1
        have anl : a' ∉ ads l := fun z => anr (by rw [ads, List.map_reverse]; exact List.mem_reverse.mpr z)
        have hn0 : B.H0 a' = none := by rw [ats_h0 anr] at hn1; exact hn1
        have len : (refs l).length = acc.length := by have := dacc.length; simp only [List.length_map] at this; simp only [refs, List.length_map, this]
        have lent1 := bo.lent lent
        have I6 : Iv (B.ats l.reverse) F4 H4 σ3 ρ4 := bp.iv I5
        have ne := I5.atNe hp0 lent1
        have I7 : Iv (B.ats l.reverse) F4 (upd H4 p (.lst (refs l ++ [V.ref a']))) σ3 ρ4 := I6.step x (fzs_put I6.fzs nz4) (fun b hb => by rw [hb]; exact .inl hp0) fun j b hb z => ne j b hb z
        have hv7 : upd H4 p (.lst (refs l ++ [V.ref a'])) a' = some (.lst vs') := by rw [upd_ne ap']; exact hv'
        have I8 : Iv ((B.ats l.reverse).at a' (.lst vs')) F4 (upd H4 p (.lst (refs l ++ [V.ref a']))) σ3 ρ4 := I7.toBase hv7 hn1 ap (fun z => z) (nz_lst I7.fzs hv7)
        have er2 : (l ++ [(a', vs')]).reverse = (a', vs') :: l.reverse := by simp
        have pn2 : ((B.ats l.reverse).at a' (.lst vs')).H0 p = none := by rw [show ((B.ats l.reverse).at a' (.lst vs')).H0 p = (B.ats l.reverse).H0 p from upd_ne (fun z => ap' z.symm)]; exact hp0
        have I9 : Iv (((B.ats l.reverse).at a' (.lst vs')).at p (.lst (refs l ++ [V.ref a']))) F4 (upd H4 p (.lst (refs l ++ [V.ref a']))) σ3 ρ4 := I8.toBase upd_same pn2 ne (fun z => z) (nz_lst I8.fzs upd_same)
        refine ⟨refs l, hD4, by rw [len]; exact hz, F4, ρ4, acc ++ [.lst es], l ++ [(a', vs')], ?_, ?_, ?_, ?_, ((g'.trans g2).trans g3).trans (g4.trans x.ge), FinG.ge x.ge q4⟩
        · rw [List.map_append]
          exact ((((dacc.mono g2).mono g3).mono g4).mono x.ge).append (.cons (dv.mono x.ge) .nil)
        · rw [ads, List.map_append]
          refine List.nodup_append.mpr ⟨nd, by simp, fun y hy z hz => ?_⟩
          simp at hz
          subst hz
          exact fun e => anl (e ▸ hy)
        · intro y hy
          rw [ads, List.map_append] at hy
          rcases List.mem_append.mp hy with hy | hy
          · exact hx y hy
          · simp at hy; subst hy; exact ⟨hn0, ap'⟩
        · have I10 := I9.wipe (vs := vs)
          rw [ws3] at I10
          rw [er2, refs_add]
          exact I10
    · rw [List.drop_length] at q'
      have ndr : (ads l.reverse).Nodup := by rw [ads, List.map_reverse]; exact (List.reverse_perm (ads l)).nodup_iff.mpr nd
      have hxr : ∀ x ∈ ads l.reverse, B.H0 x = none ∧ x ≠ p := fun x h => hx x (by rw [ads, List.map_reverse] at h; exact List.mem_reverse.mp h)
      have pnr : p ∉ ads l.reverse := fun z => (hxr p z).2 rfl
      have bo := ats_out lent ndr fun x h => (hxr x h).1
      have hp0 : (B.ats l.reverse).H0 p = none := by rw [ats_h0 pnr]; exact h0
      have bp : BOut ((B.ats l.reverse).at p (.lst (refs l))) (B.ats l.reverse) := .at hp0 (bo.lent lent)
      have I3 := bp.iv I'
      have at_ := ats_at lent ndr (fun x h => (hxr x h).1) I3
      have up : ∀ {j : Nat} {b : Addr}, HeldAt σ (wipeR ρ0 vs) j b → HeldAt (wipe σ vs) (wipeR ρ0 vs) j b := fun {j b} ⟨s, e, hh, hs⟩ => by
        refine ⟨s, e, hh, ?_⟩
        by_cases q : j ∈ vs
        · rw [wipeR_in q e] at hh; cases hh
        · rw [wipe_out' q]; exact hs
      refine q' (.ref p) H' F' (bo.iv I3).unwipe .refl ⟨p, l, rfl, at_get I'.ext, fun r hr => (at_ r (List.mem_reverse.mpr hr)).1, dacc, List.nodup_cons.mpr ⟨fun z => (hx p z).2 rfl, nd⟩, fun y hy => ?_⟩
      rcases List.mem_cons.mp hy with z | z
      · subst z
        exact ⟨h0, fun j b hb => I'.atNe hp0 (bo.lent lent) j b (up hb)⟩
      · obtain ⟨r, hr, e⟩ := List.mem_map.mp z
        refine ⟨(hx y z).1, fun j b hb => ?_⟩
        rw [← e]
        exact (at_ r (List.mem_reverse.mpr hr)).2 j b (up hb)
theorem doo_lc (hc : X.calm = true) (hN : X.N.Nodup) (hi : PI X tg iter (tI B E s)) (ok : BlkOk X.N X.env.scope scope own) (hw : ∀ j ∈ ws, j ∈ own.map (·.2))
    (hg : ∀ (B' : Bs), BLe B B' → ∀ (s : Shared) (H : Hp) (C : Addr) (cl : List (Str × Addr)) (fp : List Addr), PG (X.blk s H scope (compEnvC scope cl C X.env) fp) tg (tG1 B' ws t))
    (ht : ∀ (B' : Bs), BLe B B' → ∀ (s : Shared) (H : Hp) (C : Addr) (cl : List (Str × Addr)) (fp : List Addr), PTs (X.blk s H scope (compEnvC scope cl C X.env) fp) ifs (tT B' E0 u))
    (he : ∀ (B' : Bs), BLe B B' → ∀ (s : Shared) (H : Hp) (C : Addr) (cl : List (Str × Addr)) (fp : List Addr), PE (X.blk s H scope (compEnvC scope cl C X.env) fp) elt (tO B' E0 f))
    (hs : ∀ x, foldedSetIterable iter X.env x = pure x) : PE X (.ListComp elt [⟨tg, iter, ifs, 0⟩] scope pos) (tOO B E (evLcO (own.map (·.2)) s t u f)) :=
  weakE (pe_lc hc hN hi ok (fun a b c d e => pg_anyB fun B' h => hg B' h a b c d e) (fun a b c d e => pts_anyB fun B' h => ht B' h a b c d e) (fun a b c d e => ⟨fun pins s σ H Q I ⟨B', hB, q⟩ => (he B' hB a b c d e).run pins s σ H Q I q⟩) hs) fun σ H Q h => t_lcO hw h
/-! ### for over such a list -/
def stForO (i : Nat) (f : List Sl → R (List D × List Sl)) (g : List Sl → RS) (ρ : List Sl) : RS := (f ρ).st fun p => forL (fun d ρ => putSl ρ i (.ow d)) g p.1 p.2
theorem pss_anyB {Y : Cx} (h : ∀ B' : Bs, BLe B B' → PSs Y body (tS B' E g)) : PSs Y body (fun Dn σ H => ∃ B' : Bs, BLe B B' ∧ tS B' E g Dn σ H) := ⟨fun pins s σ H Q I ⟨B', hB, q⟩ => (h B' hB).run pins s σ H Q I q⟩
theorem ds_forO {F : List Sl → R (List D × List Sl)} {np : Pos} (hp : PassesOwn (model X.prog X.w) X.A X.env X.xe) (hc : X.calm = true) (hN : X.N.Nodup) (hi : X.N[i]? = some x) (hx : Loc X.env.scope x) (hf : X.fn x = true ∨ X.env.scope.names.lookup x = some .local) (he : PE X e (tOO B E F)) (hb : ∀ B' : Bs, BLe B B' → PSs X body (tS B' E g)) (hs : ∀ x, foldedSetIterable e X.env x = pure x) :
    PS X (.For (.Name x np) e body [] pos) (tS B E (stForO i F g)) :=
  weakS (ps_for hp hc (pi_any he) (pg_name hN hi hx hf) (pss_anyB hb) hs) fun Dn σ H ⟨Fz, ρ, I, q⟩ =>
    monoG (tG_st I q) fun v H1 ⟨F1, ρ1, ds, I1, ⟨a, l, ev, ha, hl, dl, nd, fr⟩, g1, q1⟩ => by
      have lent : ∀ a, B.bd a → ∃ o, B.H0 a = some o := I.lent
      have nda := List.nodup_cons.mp nd
      have fra := fr a (List.mem_cons_self ..)
      have b1 : BOut (B.at a (.lst (refs l))) B := .at fra.1 lent
      have I2 : Iv (B.at a (.lst (refs l))) F1 H1 σ ρ1 := I1.toBase ha fra.1 fra.2 (fun z => z) (nz_lst I1.fzs ha)
      have h01 : ∀ y ∈ ads l, (B.at a (.lst (refs l))).H0 y = none := fun y hy => by
        rw [show (B.at a (.lst (refs l))).H0 y = B.H0 y from upd_ne (fun z => nda.1 (z ▸ hy))]
        exact (fr y (List.mem_cons_of_mem _ hy)).1
      have I3 : Iv ((B.at a (.lst (refs l))).ats l) F1 H1 σ ρ1 := I2.ats nda.2 hl fun y hy => ⟨h01 y hy, (fr y (List.mem_cons_of_mem _ hy)).2⟩
      have lent1 := b1.lent lent
      have ndd : ∀ k, (ads (l.drop k)).Nodup := fun k => by rw [ads, List.map_drop]; exact nda.2.sublist (List.drop_sublist k _)
      have subd : ∀ k, ∀ y ∈ ads (l.drop k), y ∈ ads l := fun k y hy => by rw [ads, List.map_drop] at hy; exact List.mem_of_mem_drop hy
      have bd : ∀ k, BOut ((B.at a (.lst (refs l))).ats (l.drop k)) (B.at a (.lst (refs l))) := fun k => ats_out lent1 (ndd k) fun y hy => h01 y (subd k y hy)
      have hlen : (refs l).length = l.length := by simp [refs]
      have dlen : l.length = ds.length := by have := dl.length; simpa using this
      refine .inl ⟨a, refs l, ev, .inl (.inl ha), ?_⟩
      refine for_it (g := gName i) (tb := fun Dn σ H => ∃ B' : Bs, BLe B B' ∧ tS B' E g Dn σ H) (D := Dn) (walk_list (K := X.K)) (fun k σ' H' => ∃ F' ρ', Iv ((B.at a (.lst (refs l))).ats (l.drop k)) F' H' σ' ρ' ∧ Ge F1 H1 F' H' ∧ FinS B E Dn F' H' (forL (fun d ρ => putSl ρ i (.ow d)) g (ds.drop k) ρ')) ⟨F1, ρ1, I3, .refl, q1⟩ (fun k σ' H' _ ⟨F', ρ', I', _, _⟩ => .inl (.inl (at_get ((bd k).iv I').ext)))
        (fun k x' σ' H' H2 hlt ⟨F', ρ', I', g', q'⟩ y => ?_) fun σ' H' ⟨F', ρ', I', g', q'⟩ => ?_
      · obtain ⟨rfl, y⟩ := y
        rw [hlen] at hlt
        obtain ⟨p, ep, er⟩ := drop_get hlt
        obtain ⟨d, ed, erd⟩ := drop_get (show k < ds.length by omega)
        have ex' : x' = .ref p.1 := by
          rw [refs, List.getElem?_map, ep] at y
          exact (Option.some.inj y).symm
        subst ex'
        have dk := dl.drop k
        rw [← List.map_drop, er, erd, List.map_cons] at dk
        rw [er] at I'
        have nk := ndd k
        rw [er] at nk
        have pn : p.1 ∉ ads (l.drop (k + 1)) := (List.nodup_cons.mp nk).1
        have pin : p.1 ∈ ads l := subd k p.1 (by rw [er]; exact List.mem_cons_self ..)
        have hp0 : ((B.at a (.lst (refs l))).ats (l.drop (k + 1))).H0 p.1 = none := by rw [ats_h0 pn]; exact h01 p.1 pin
        have lent2 := (bd (k + 1)).lent lent1
        have hpp : H2 p.1 = some (.lst p.2) := at_get I'.ext
        have ne := I'.atNe hp0 lent2
        have J := (BOut.at hp0 lent2).iv I'
        rw [erd] at q'
        have q' : FinS B E Dn F' H2 (ofT (putSl ρ' i (.ow d)) fun ρ1 => (g ρ1).lp (forL (fun d ρ => putSl ρ i (.ow d)) g (ds.drop (k + 1)))) := q'
        obtain ⟨ρ2, e2, q2⟩ := fin_ofT q'
        have bb : BOut ((B.at a (.lst (refs l))).ats (l.drop (k + 1))) B := (bd (k + 1)).trans b1
        have J2 : Iv ((B.at a (.lst (refs l))).ats (l.drop (k + 1))) F' H2 (σ'.set i (some (.ref p.1))) ρ2 := by
          refine J.put e2 ?_ fun _ j b hj hb z => ne j b hb (V.ref.inj z).symm
          cases dk with
          | cons dv _ => exact ⟨p.1, rfl, ⟨p.2, hpp, by rw [bb.K]; exact dv.mono g'⟩, hp0⟩
        exact ⟨_, bb.le, F', ρ2, J2, fin_lpO bb q2 fun σ4 H4 F4 ρ4 I4 g4 q4 => ⟨F4, ρ4, I4, g'.trans g4, q4⟩⟩
      · rw [hlen, dlen, List.drop_length] at q'
        have q' : FinS B E Dn F' H' (.nx ρ') := q'
        exact q' σ' H' F' (b1.iv ((bd _).iv I')) .refl
end
end Dx

set_option Elab.async false
set_option linter.all false
set_option maxRecDepth 100000
set_option maxHeartbeats 1000000
/-! DxZq: defs that hand back lists of lists of one's own; comprehensions over them. -/
namespace Dx
open PySem PySem.Spec PyProof.Rows L2
abbrev shs (n : Nat) : List Md := List.replicate n .sh
def FinF2 (K : Frag) (Q : VK) (E : XK) (Fz : Addr → Prop) (H : Hp) : R (List D) → Prop
  | .ok ds => ∀ a l H' Fz', Ext (fun _ => False) Fz H Fz' H' → FzOk Fz' H' → H' a = some (.lst (refs l)) → (∀ p ∈ l, H' p.1 = some (.lst p.2)) → DenLL K Fz' H' (l.map (·.2)) ds → (a :: ads l).Nodup → (∀ x ∈ a :: ads l, H x = none) → Q (.ref a) H'
  | .exc c d => ∀ dx v H' Fz', Ext (fun _ => False) Fz H Fz' H' → FzOk Fz' H' → H' dx = some (.xd [("value", v)]) → Den K Fz' H' v d → E (.ref (He.ga K c)) (some dx) H'
  | .bad => False
def spO2 (K : Frag) (gs : List (Addr × HO)) (n : Nat) (sem : List D → R (List D)) : Sp := fun vs H Q E => (∀ p ∈ gs, H p.1 = some p.2) ∧ vs.length = n ∧ ∃ Fz ds, FzOk Fz H ∧ DenL K Fz H vs ds ∧ FinF2 K Q E Fz H (sem ds)
structure CalO (W : Wd) (k : Nat) (x : Str) (n : Nat) (sem : List D → R (List D)) : Prop where
  ex : ∃ (f : Addr) (fd : FuncData) (ps : List Str), FnG W k f fd ps (spO2 W.K W.gs n sem) ∧ W.mg x = some (.ref f) ∧ PySem.W.keepIn W.K (.ref f) = true ∧ Binds W.K fd ps []
def semO (n N : Nat) (f : List Sl → R (List D × List Sl)) (ds : List D) : R (List D) := if ds.length = n then (f (iniS (shs n) ds N)).bind fun p => .ok p.1 else .bad
theorem Ext.exF {ex Fz Fz' : Addr → Prop} {H H' : Hp} (h : Ext ex Fz H Fz' H') (n : ∀ a, ¬ ex a) : Ext (fun _ => False) Fz H Fz' H' :=
  ⟨h.ge, fun a o e _ => h.keep a o e (n a), fun a z => (h.nofz a z).imp id fun q => q.imp id fun r => (n a r).elim, h.there⟩
theorem exA_shs {n : Nat} {vs : List V} (a : Addr) : ¬ exA (shs n) vs a := fun ⟨i, e, _⟩ => by
  rw [shs, List.getElem?_replicate] at e
  split at e <;> cases e
theorem args_shs {K : Frag} {Fz : Addr → Prop} {H : Hp} {vs : List V} {ds : List D} (h : DenL K Fz H vs ds) : ArgsOk K Fz H (shs vs.length) vs ds := by
  induction vs generalizing ds with
  | nil => cases h; exact .nil
  | cons v vs ih => cases h with
    | cons d r => exact .cons d (ih r)
theorem calO_of {W : Wd} {k : Nat} {x : Str} {st : Stmt} {N ps : List Str} {f : List Sl → R (List D × List Sl)} {e : Expr} {pos : Pos} (wo : WOk W) (D : ∃ f, FnAt W x x st f ∧ W.mg x = some (.ref f)) (S : C8.scC N ps (C8.fnScope st) = true)
    (hbind : ∀ (kV doc pm : Value) (an : Option Addr) (cdv ct : Value) (us : List Value), us.length = ps.length → bindArgs (PySem.W.fnOf x x (C8.fnArgs st) (C8.fnBody st) (C8.fnScope st) .none kV doc pm an cdv ct) ⟨us, []⟩ = pure (ps.zip us))
    (hb : C8.fnBody st = [.Return (some e) pos]) (he : ∀ (X : Cx) (E : XK), XSt W N (C8.fnScope st) k E X → ∀ B : Bs, BOk W B → PE X e (tOO B E f)) : CalO W (k + 1) x ps.length (semO ps.length N.length f) := by
  obtain ⟨a, D, hm⟩ := D
  have S' := C8.fnScope_by S
  obtain ⟨fd, F1, b⟩ := fnG_of (sp := spO2 W.K W.gs ps.length (semO ps.length N.length f)) wo D S' hbind (fun vs H Q E h => h.2.1) fun X H vs Q E hX ⟨hgs, hl, Fz, ds, fz, dl, q⟩ => by
    have hn : (shs ps.length).length ≤ N.length := by
      have := congrArg List.length S'.pre
      rw [List.length_take] at this
      rw [shs, List.length_replicate]
      omega
    rw [hb]
    refine ⟨_, pss_one (ps_ret (he X E hX (baseF W.K (shs ps.length) vs Fz H) ⟨rfl, hgs⟩)), ?_⟩
    have ar : ArgsOk W.K Fz H (shs ps.length) vs ds := by have := args_shs dl; rw [hl] at this; exact this
    have I := ini_iv (N := N) fz ar (fun i j a b _ e1 => by rw [shs, List.getElem?_replicate] at e1; split at e1 <;> cases e1) hn
    have hd : ds.length = ps.length := dl.length.symm.trans hl
    unfold semO at q
    rw [if_pos hd] at q
    refine ⟨Fz, _, I, ?_⟩
    cases e2 : f (iniS (shs ps.length) ds N.length) with
    | ok p =>
      rw [e2] at q
      intro v H' Fz' I' g ⟨a, l, ev, ha, hl2, dll, nd, fr⟩
      subst ev
      exact q a l H' Fz' (I'.ext.exF exA_shs) I'.fzs ha hl2 dll nd fun x hx => (fr x hx).1
    | exc c d =>
      rw [e2] at q
      exact fun dx v H' Fz' x f e d => q dx v H' Fz' (x.exF exA_shs) f e d
    | bad => rw [e2] at q; exact q.elim
  exact ⟨a, fd, ps, F1, hm, D.kp, b⟩
def evCallO (sem : List D → R (List D)) (l : List Sl → R (List D × List Sl)) (ρ : List Sl) : R (List D × List Sl) := (l ρ).bind fun p => (sem p.1).bind fun q => .ok (q, p.2)
section
variable {W : Wd} {N : List Str} {sc : Scope} {k j n : Nat} {E : XK} {X : Cx} {B : Bs} {x : Str} {p pos np : Pos} {e : Expr} {es : List Expr} {sem : List D → R (List D)} {l : List Sl → R (List D × List Sl)} {i : Nat}
theorem doo_call (wo : WOk W) (hX : XIs W N sc k E X) (hB : BOk W B) (c : CalO W j x n sem) (hj : j ≤ k) (hn : es.length + 1 = n) (hg : sc.names.lookup x = some .globalImplicit) (hdb : (x == ("__debug__" : Str)) = false) (hns : nsE e = true) (hns2 : es.all nsE = true) (hln : ∀ ρ p, l ρ = .ok p → p.1.length = n) (ha : PA X (e :: es) (tA B E l)) :
    PE X (.Call (.Name x p) (e :: es) [] pos) (tOO B E (evCallO sem l)) := by
  obtain ⟨f, fd, ps, fn, hm, hk, hb⟩ := c.ex
  refine weakE (pe_callG hX fn hj hb hm hk hg hdb hns hns2 ha) fun σ H Q ⟨Fz, ρ, I, q⟩ => monoG (tG_bind I q) fun vs H1 ⟨F1, ρ1, ds, I1, dl, g1, e1, q1⟩ => ?_
  have dl : DenL B.K F1 H1 vs ds := dl
  refine ⟨hB.now wo I1, by rw [dl.length]; exact hln _ _ e1, F1, ds, I1.fzs, by rw [← hB.K]; exact dl, ?_⟩
  cases e2 : sem ds with
  | ok zs =>
    have q1 : FinG rOO B E σ Q F1 H1 ((sem ds).bind fun q => .ok (q, ρ1)) := q1
    rw [e2] at q1
    intro a c H' Fz' xt fz ha hc dll nd fr
    have I2 : Iv B Fz' H' σ ρ1 := I1.step xt fz (fun _ z => z.elim) fun _ _ _ z => z
    refine q1 (.ref a) H' Fz' I2 xt.ge ⟨a, c, rfl, ha, hc, by rw [hB.K]; exact dll, nd, fun y hy => ⟨?_, fun i b hb z => ?_⟩⟩
    · cases qh : B.H0 y with
      | none => rfl
      | some u => obtain ⟨o', w⟩ := I1.ext.there y u qh; rw [fr y hy] at w; cases w
    · obtain ⟨o, w⟩ := I1.held hb
      rw [z, fr y hy] at w; cases w
  | exc c d =>
    have q1 : FinG rOO B E σ Q F1 H1 ((sem ds).bind fun q => .ok (q, ρ1)) := q1
    rw [e2] at q1
    intro dx v H' Fz' xt fz hd dv
    have q1 : ∀ dx v H' Fz', Ext B.ex B.Fz0 B.H0 Fz' H' → FzOk Fz' H' → H' dx = some (.xd [("value", v)]) → Den B.K Fz' H' v d → E (.ref (He.ga B.K c)) (some dx) H' := q1
    rw [← hB.K] at dv ⊢
    exact q1 dx v H' Fz' (I1.ext.trans xt fun _ z => z.elim) fz hd dv
  | bad =>
    have q1 : FinG rOO B E σ Q F1 H1 ((sem ds).bind fun q => .ok (q, ρ1)) := q1
    rw [e2] at q1; exact q1.elim
end
/-! comprehensions whose variable holds each of them -/
section
variable {X : Cx} {B : Bs} {E : XK} {e c iter elt : Expr} {ifs : List Expr} {f : List Sl → R (D × List Sl)} {F : List Sl → R (List D × List Sl)} {u : List Sl → R (Bool × List Sl)} {pos np : Pos} {i : Nat} {x : Str} {scope : Scope} {own : List (Str × Nat)}
/-- the target: a name that takes a container -/
def tGO1 (B : Bs) (i : Nat) : TG := fun v σ H Q => ∃ Fz ρ a d ρ', v = .ref a ∧ Iv B Fz H σ ρ ∧ Own B.K Fz H a d ∧ B.H0 a = none ∧ (∀ j b, HeldAt σ ρ j b → b ≠ a) ∧ putSl ρ i (.ow d) = some ρ' ∧ ∀ σ', Same [i] σ σ' → Iv B Fz H σ' ρ' → Q σ' H
theorem dgo_n {p : Pos} (hN : X.N.Nodup) (hi : X.N[i]? = some x) (hx : Loc X.env.scope x) (hf : X.fn x = true ∨ X.env.scope.names.lookup x = some .local) : PG X (.Name x p) (tGO1 B i) :=
  weakG (pg_name hN hi hx hf) fun v σ H Q ⟨Fz, ρ, a, d, ρ', ev, I, ow, h0, ap, e, q⟩ => by
    subst ev
    exact q _ .set (I.put e ⟨a, rfl, ow, h0⟩ fun _ j b hj hb z => ap j b hb (V.ref.inj z).symm)
def evLcF (vs : List Nat) (i : Nat) (s : List Sl → R (List D × List Sl)) (u : List Sl → R (Bool × List Sl)) (f : List Sl → R (D × List Sl)) (ρ : List Sl) : R (D × List Sl) :=
  (s ρ).bind fun p => (lcL vs (fun d ρ => putSl ρ i (.ow d)) u f [] p.1 (wipeR p.2 vs)).bind fun q => .ok (.lst q.1, q.2)
theorem t_lcF {vs : List Nat} (hw : i ∈ vs) {σ : L2.St} {H : Hp} {Q : VK} (h : tO B E (evLcF vs i F u f) σ H Q) :
    tLc (iAny X.K (tOO B E F)) (fun v σ H Q => ∃ B' : Bs, BLe B B' ∧ tGO1 B' i v σ H Q) (fun σ H Q => ∃ B' : Bs, BLe B B' ∧ tT B' E0 u σ H Q) (fun σ H Q => ∃ B' : Bs, BLe B B' ∧ tE B' E0 f σ H Q) vs σ H Q := by
    obtain ⟨Fz, ρ, I, q⟩ := h
    refine monoG (tG_bind I q) fun v H1 ⟨F1, ρ1, ds, I1, ⟨a, l, ev, ha, hl, dl, nd, fr⟩, g1, e1, q1⟩ => ?_
    have lent : ∀ a, B.bd a → ∃ o, B.H0 a = some o := I.lent
    have nda := List.nodup_cons.mp nd
    have fra := fr a (List.mem_cons_self ..)
    have b1 : BOut (B.at a (.lst (refs l))) B := .at fra.1 lent
    have I2 : Iv (B.at a (.lst (refs l))) F1 H1 σ ρ1 := I1.toBase ha fra.1 fra.2 (fun z => z) (nz_lst I1.fzs ha)
    have h01 : ∀ y ∈ ads l, (B.at a (.lst (refs l))).H0 y = none := fun y hy => by
      rw [show (B.at a (.lst (refs l))).H0 y = B.H0 y from upd_ne (fun z => nda.1 (z ▸ hy))]
      exact (fr y (List.mem_cons_of_mem _ hy)).1
    have I3 : Iv ((B.at a (.lst (refs l))).ats l) F1 H1 σ ρ1 := I2.ats nda.2 hl fun y hy => ⟨h01 y hy, (fr y (List.mem_cons_of_mem _ hy)).2⟩
    have lent1 := b1.lent lent
    have ndd : ∀ k, (ads (l.drop k)).Nodup := fun k => by rw [ads, List.map_drop]; exact nda.2.sublist (List.drop_sublist k _)
    have subd : ∀ k, ∀ y ∈ ads (l.drop k), y ∈ ads l := fun k y hy => by rw [ads, List.map_drop] at hy; exact List.mem_of_mem_drop hy
    have bd : ∀ k, BOut ((B.at a (.lst (refs l))).ats (l.drop k)) (B.at a (.lst (refs l))) := fun k => ats_out lent1 (ndd k) fun y hy => h01 y (subd k y hy)
    have hlen : (refs l).length = l.length := by simp [refs]
    have dlen : l.length = ds.length := by have := dl.length; simpa using this
    refine .inl ⟨a, refs l, ev, .inl (.inl ha), fun p hp => ?_⟩
    have hpn : ∀ k, ((B.at a (.lst (refs l))).ats (l.drop k)).H0 p = none := fun k => by
      have := (I3.laid hp (.lst [])).2.2.2.1
      have hpl : p ∉ ads l := fun z => by
        obtain ⟨r, hr, e⟩ := List.mem_map.mp z
        have := hl r hr
        rw [e, hp] at this; cases this
      rw [ats_h0 hpl] at this
      rw [ats_h0 fun z => hpl (subd k p z)]
      exact this
    have ge0 : Ge F1 H1 F1 (upd H1 p (.lst [])) := (I1.laid hp (.lst [])).2.1
    have hl0 : l.drop 0 = l := rfl
    refine lc_it (g := fun v σ H Q => ∃ B' : Bs, BLe B B' ∧ tGO1 B' i v σ H Q) (tt := fun σ H Q => ∃ B' : Bs, BLe B B' ∧ tT B' E0 u σ H Q) (te := fun σ H Q => ∃ B' : Bs, BLe B B' ∧ tE B' E0 f σ H Q) (vs := vs) (σ := σ) (Qd := fun H => Q (.ref p) H) (walk_list (K := X.K)) (fun k H' => ∃ F' ρ0 acc vacc, DenL B.K F' H' vacc acc ∧ Iv (((B.at a (.lst (refs l))).ats (l.drop k)).at p (.lst vacc)) F' H' (wipe σ vs) (wipeR ρ0 vs) ∧ Ge F1 H1 F' H' ∧
        FinG rO B E σ Q F' H' ((lcL vs (fun d ρ => putSl ρ i (.ow d)) u f acc (ds.drop k) (wipeR ρ0 vs)).bind fun q => .ok (.lst q.1, q.2)))
      ⟨F1, ρ1, [], [], .nil, (I3.atBase (o := .lst []) hp (fun z => z)).wipe, ge0, FinG.ge ge0 q1⟩ (fun k H' _ ⟨F', _, _, _, _, I', _, _⟩ => .inl (.inl (at_get ((bd k).iv ((BOut.at (hpn k) ((bd k).lent lent1)).iv I')).ext)))
      (fun k x' H' H2 hlt ⟨F', ρ0, acc, vacc, dacc, I', g', q'⟩ y => ?_) fun H' ⟨F', ρ0, acc, vacc, dacc, I', g', q'⟩ => ?_
    · obtain ⟨rfl, y⟩ := y
      rw [hlen] at hlt
      obtain ⟨c, ep, er⟩ := drop_get hlt
      obtain ⟨d, ed, erd⟩ := drop_get (show k < ds.length by omega)
      have ex' : x' = .ref c.1 := by
        rw [refs, List.getElem?_map, ep] at y
        exact (Option.some.inj y).symm
      subst ex'
      have dk := dl.drop k
      rw [← List.map_drop, er, erd, List.map_cons] at dk
      have hpk := hpn k
      rw [er] at I' hpk
      have nk := ndd k
      rw [er] at nk
      have pn : c.1 ∉ ads (l.drop (k + 1)) := (List.nodup_cons.mp nk).1
      have pin : c.1 ∈ ads l := subd k c.1 (by rw [er]; exact List.mem_cons_self ..)
      have hc0 : ((B.at a (.lst (refs l))).ats (l.drop (k + 1))).H0 c.1 = none := by rw [ats_h0 pn]; exact h01 c.1 pin
      have lent2 := (bd (k + 1)).lent lent1
      have bb : BOut ((B.at a (.lst (refs l))).ats (l.drop (k + 1))) B := (bd (k + 1)).trans b1
      -- out: the list that grows, then the one whose turn it is; the first one in again
      have bc : BOut (((B.at a (.lst (refs l))).ats (l.drop (k + 1))).at c.1 (.lst c.2)) ((B.at a (.lst (refs l))).ats (l.drop (k + 1))) := .at hc0 lent2
      have lent3 := bc.lent lent2
      have J1 : Iv (((B.at a (.lst (refs l))).ats (l.drop (k + 1))).at c.1 (.lst c.2)) F' H2 (wipe σ vs) (wipeR ρ0 vs) := (BOut.at (B := ((B.at a (.lst (refs l))).ats (l.drop (k + 1))).at c.1 (.lst c.2)) hpk lent3).iv I'
      have hD : H2 p = some (.lst vacc) := at_get I'.ext
      have neP := I'.atNe (B := ((B.at a (.lst (refs l))).ats (l.drop (k + 1))).at c.1 (.lst c.2)) hpk lent3
      have hcc : H2 c.1 = some (.lst c.2) := at_get J1.ext
      have neC := J1.atNe hc0 lent2
      have J2 : Iv ((B.at a (.lst (refs l))).ats (l.drop (k + 1))) F' H2 (wipe σ vs) (wipeR ρ0 vs) := bc.iv J1
      have cp : c.1 ≠ p := fun z => by
        have e := hpk
        rw [← z] at e
        have e2 : (((B.at a (.lst (refs l))).ats (l.drop (k + 1))).at c.1 (.lst c.2)).H0 c.1 = some (.lst c.2) := upd_same
        have e3 : some (HO.lst c.2) = none := e2.symm.trans e
        cases e3
      have J3 : Iv (((B.at a (.lst (refs l))).ats (l.drop (k + 1))).at p (.lst vacc)) F' H2 (wipe σ vs) (wipeR ρ0 vs) := J2.toBase hD (hpn (k + 1)) neP (fun z => z) (nz_lst J2.fzs hD)
      have bp : BOut (((B.at a (.lst (refs l))).ats (l.drop (k + 1))).at p (.lst vacc)) ((B.at a (.lst (refs l))).ats (l.drop (k + 1))) := .at (hpn (k + 1)) lent2
      have ble : BLe B (((B.at a (.lst (refs l))).ats (l.drop (k + 1))).at p (.lst vacc)) := (bp.trans bb).le
      rw [erd] at q'
      have q' : FinG rO B E σ Q F' H2 (((ofO (putSl (wipeR ρ0 vs) i (.ow d))).bind fun ρ1 => (u ρ1).nox.bind fun p => match p.1 with
        | true => (f p.2).nox.bind fun q => if decide (acc.length < sizeLine) = true then lcL vs (fun d ρ => putSl ρ i (.ow d)) u f (acc ++ [q.1]) (ds.drop (k + 1)) (wipeR q.2 vs) else .bad
        | false => lcL vs (fun d ρ => putSl ρ i (.ow d)) u f acc (ds.drop (k + 1)) (wipeR p.2 vs)).bind fun q => .ok (.lst q.1, q.2)) := q'
      rw [R.bind_assoc] at q'
      obtain ⟨ρ2, e2, q2⟩ := fin_o q'
      have owc : Own ((((B.at a (.lst (refs l))).ats (l.drop (k + 1))).at p (.lst vacc))).K F' H2 c.1 d := by
        cases dk with
        | cons dv _ => exact ⟨c.2, hcc, by rw [(bp.trans bb).K]; exact dv.mono g'⟩
      refine ⟨_, ble, F', _, c.1, d, ρ2, rfl, J3, owc, by rw [show ((((B.at a (.lst (refs l))).ats (l.drop (k + 1))).at p (.lst vacc))).H0 c.1 = _ from upd_ne cp]; exact hc0, neC, e2, fun σ3 s3 I3 => ⟨wipe_same (ws := [i]) s3 (fun j hj => by rw [List.mem_singleton.mp hj]; exact hw), ?_⟩⟩
      rw [R.bind_assoc] at q2
      refine ⟨_, ble, monoG (tG_nox I3 q2) fun b H3 ⟨F3, ρ3, db, I4, eb, g3, q3⟩ => ?_⟩
      have eb : b = db := eb
      subst eb
      have ws3 : wipe σ3 vs = wipe σ vs := wipe_same (ws := [i]) s3 (fun j hj => by rw [List.mem_singleton.mp hj]; exact hw)
      cases b with
      | false =>
        rw [if_neg (by decide)]
        refine ⟨F3, ρ3, acc, vacc, dacc.mono g3, ?_, g'.trans g3, q3⟩
        have I5 := I4.wipe (vs := vs)
        rw [ws3] at I5
        exact I5
      | true =>
        rw [if_pos rfl]
        have q3 : FinG rO B E σ Q F3 H3 (((f ρ3).nox.bind fun q => if decide (acc.length < sizeLine) = true then lcL vs (fun d ρ => putSl ρ i (.ow d)) u f (acc ++ [q.1]) (ds.drop (k + 1)) (wipeR q.2 vs) else .bad).bind fun q => .ok (.lst q.1, q.2)) := q3
        rw [R.bind_assoc] at q3
        refine ⟨_, ble, monoG (tG_nox I4 q3) fun z H4 ⟨F4, ρ4, dz, I5, zd, g4, q4⟩ => ?_⟩
        have zd : Den (((B.at a (.lst (refs l))).ats (l.drop (k + 1))).at p (.lst vacc)).K F4 H4 z dz := zd
        rw [(bp.trans bb).K] at zd
        have hD4 : H4 p = some (.lst vacc) := at_get I5.ext
        have len : vacc.length = acc.length := dacc.length
        have q4 : FinG rO B E σ Q F4 H4 ((if decide (acc.length < sizeLine) = true then lcL vs (fun d ρ => putSl ρ i (.ow d)) u f (acc ++ [dz]) (ds.drop (k + 1)) (wipeR ρ4 vs) else .bad).bind fun q => .ok (.lst q.1, q.2)) := q4
        by_cases hz : acc.length < sizeLine
        · rw [if_pos (decide_eq_true hz)] at q4
          have nz4 : ¬ F4 p := nz_lst I5.fzs hD4
          have x := ext_put (o := .lst (vacc ++ [z])) hD4 (fun z => z) nz4
          refine ⟨vacc, hD4, by rw [len]; exact hz, F4, ρ4, acc ++ [dz], vacc ++ [z], (((dacc.mono g3).mono g4).append (.cons zd .nil)).mono x.ge, ?_, (g'.trans g3).trans (g4.trans x.ge), FinG.ge x.ge q4⟩
          have I6 : Iv ((B.at a (.lst (refs l))).ats (l.drop (k + 1))) F4 H4 σ3 ρ4 := bp.iv I5
          have ne := I5.atNe (hpn (k + 1)) lent2
          have I7 : Iv ((B.at a (.lst (refs l))).ats (l.drop (k + 1))) F4 (upd H4 p (.lst (vacc ++ [z]))) σ3 ρ4 := I6.step x (fzs_put I6.fzs nz4) (fun b hb => by rw [hb]; exact .inl (hpn (k + 1))) fun j b hb z => ne j b hb z
          have I8 : Iv (((B.at a (.lst (refs l))).ats (l.drop (k + 1))).at p (.lst (vacc ++ [z]))) F4 (upd H4 p (.lst (vacc ++ [z]))) σ3 ρ4 := I7.toBase upd_same (hpn (k + 1)) ne (fun z => z) nz4
          have I9 := I8.wipe (vs := vs)
          rw [ws3] at I9
          exact I9
        · rw [if_neg (by rw [decide_eq_true_iff]; exact hz)] at q4
          exact q4.elim
    · rw [hlen, dlen, List.drop_length] at q'
      have lentk := (bd (refs l).length).lent lent1
      have bp : BOut (((B.at a (.lst (refs l))).ats (l.drop (refs l).length)).at p (.lst vacc)) ((B.at a (.lst (refs l))).ats (l.drop (refs l).length)) := .at (hpn _) lentk
      have hD : H' p = some (.lst vacc) := at_get I'.ext
      have I2 : Iv B F' H' (wipe σ vs) (wipeR ρ0 vs) := b1.iv ((bd _).iv (bp.iv I'))
      have hp0 : B.H0 p = none := ((bd (refs l).length).trans b1).h0 p (hpn _)
      exact q' (.ref p) H' F' I2.unwipe .refl ⟨p, rfl, ⟨vacc, hD, dacc⟩, hp0, fun j b hb => by
        have hb' : HeldAt (wipe σ vs) (wipeR ρ0 vs) j b := by
          obtain ⟨s, e, hh, hs⟩ := hb
          refine ⟨s, e, hh, ?_⟩
          by_cases q : j ∈ vs
          · rw [wipeR_in q e] at hh; cases hh
          · rw [wipe_out' q]; exact hs
        exact I'.atNe (hpn _) lentk j b hb'⟩
theorem do_lcF (hc : X.calm = true) (hN : X.N.Nodup) (hi : PE X iter (tOO B E F)) (ok : BlkOk X.N X.env.scope scope own) (hw : i ∈ own.map (·.2))
    (hg : ∀ (B' : Bs), BLe B B' → ∀ (s : Shared) (H : Hp) (C : Addr) (cl : List (Str × Addr)) (fp : List Addr), PG (X.blk s H scope (compEnvC scope cl C X.env) fp) (.Name x np) (tGO1 B' i))
    (ht : ∀ (B' : Bs), BLe B B' → ∀ (s : Shared) (H : Hp) (C : Addr) (cl : List (Str × Addr)) (fp : List Addr), PTs (X.blk s H scope (compEnvC scope cl C X.env) fp) ifs (tT B' E0 u))
    (he : ∀ (B' : Bs), BLe B B' → ∀ (s : Shared) (H : Hp) (C : Addr) (cl : List (Str × Addr)) (fp : List Addr), PE (X.blk s H scope (compEnvC scope cl C X.env) fp) elt (tE B' E0 f))
    (hs : ∀ x, foldedSetIterable iter X.env x = pure x) : PE X (.ListComp elt [⟨.Name x np, iter, ifs, 0⟩] scope pos) (tO B E (evLcF (own.map (·.2)) i F u f)) :=
  weakE (pe_lc hc hN (pi_any hi) ok (fun a b c d e => ⟨fun pins s σ H v u Q I r ⟨B', hB, q⟩ => (hg B' hB a b c d e).run pins s σ H v u Q I r q⟩) (fun a b c d e => pts_anyB fun B' h => ht B' h a b c d e) (fun a b c d e => pe_anyB fun B' h => he B' h a b c d e) hs) fun σ H Q h => t_lcF hw h
end
/-! the printer's rules -/
section
variable {W : Wd} {N : List Str} {sc : Scope} {k : Nat} {E : XK} {X : Cx} {B : Bs} {e iter elt : Expr} {ifs : List Expr} {F : List Sl → R (List D × List Sl)} {f : List Sl → R (D × List Sl)} {u : List Sl → R (Bool × List Sl)} {s : List Sl → R (List D × List Sl)} {t : D → List Sl → Option (List Sl)} {g : List Sl → RS} {pos np : Pos} {i : Nat} {x : Str} {ws : List Nat} {scope : Scope} {own : List (Str × Nat)} {body : List Stmt}
theorem q_forO (wo : WOk W) (hS : XSt W N sc k E X) (hB : BOk W B) (hi : decide (N[i]? = some x) = true) (hx : locB sc x = true) (he : PE X e (tOO B E F)) (hb : ∀ B' : Bs, BOk W B' → PSs X body (tS B' E g)) (hs : ∀ x, foldedSetIterable e X.env x = pure x) :
    PS X (.For (.Name x np) e body [] pos) (tS B E (stForO i F g)) :=
  ds_forO hS.owns hS.calm hS.toXIs.nN (hS.toXIs.nm hi) (hS.toXIs.loc hx) (.inl (hS.fn _)) he (fun B' l => hb B' (hB.le wo l)) hs
theorem q_lcO (wo : WOk W) (hX : XIs W N sc k E X) (hB : BOk W B) (hi : PI X (.Name x np) iter (tI B E s)) (ok : blkC N sc scope own = true) (hw : (ws.all fun j => decide (j ∈ own.map (·.2))) = true)
    (hg : ∀ B' : Bs, BOk W B' → ∀ Y : Cx, XBk W N scope sc k Y → PG Y (.Name x np) (tG1 B' ws t)) (ht : ∀ B' : Bs, BOk W B' → ∀ Y : Cx, XBk W N scope sc k Y → PTs Y ifs (tT B' E0 u)) (he : ∀ B' : Bs, BOk W B' → ∀ Y : Cx, XBk W N scope sc k Y → PE Y elt (tO B' E0 f))
    (hs : ∀ x, foldedSetIterable iter X.env x = pure x) : PE X (.ListComp elt [⟨.Name x np, iter, ifs, 0⟩] scope pos) (tOO B E (evLcO (own.map (·.2)) s t u f)) :=
  doo_lc hX.calm hX.nN hi (by rw [hX.hN, hX.hsc]; exact blkOk_by ok) (fun j hj => of_decide_eq_true (List.all_eq_true.mp hw j hj)) (fun B' l _ _ _ _ _ => hg B' (hB.le wo l) _ (xbk wo hX)) (fun B' l _ _ _ _ _ => ht B' (hB.le wo l) _ (xbk wo hX)) (fun B' l _ _ _ _ _ => he B' (hB.le wo l) _ (xbk wo hX)) hs
theorem q_lcF (wo : WOk W) (hX : XIs W N sc k E X) (hB : BOk W B) (hi : PE X iter (tOO B E F)) (ok : blkC N sc scope own = true) (hw : decide (i ∈ own.map (·.2)) = true)
    (hg : ∀ B' : Bs, BOk W B' → ∀ Y : Cx, XBk W N scope sc k Y → PG Y (.Name x np) (tGO1 B' i)) (ht : ∀ B' : Bs, BOk W B' → ∀ Y : Cx, XBk W N scope sc k Y → PTs Y ifs (tT B' E0 u)) (he : ∀ B' : Bs, BOk W B' → ∀ Y : Cx, XBk W N scope sc k Y → PE Y elt (tE B' E0 f))
    (hs : ∀ x, foldedSetIterable iter X.env x = pure x) : PE X (.ListComp elt [⟨.Name x np, iter, ifs, 0⟩] scope pos) (tO B E (evLcF (own.map (·.2)) i F u f)) :=
  do_lcF hX.calm hX.nN hi (by rw [hX.hN, hX.hsc]; exact blkOk_by ok) (of_decide_eq_true hw) (fun B' l _ _ _ _ _ => hg B' (hB.le wo l) _ (xbk wo hX)) (fun B' l _ _ _ _ _ => ht B' (hB.le wo l) _ (xbk wo hX)) (fun B' l _ _ _ _ _ => he B' (hB.le wo l) _ (xbk wo hX)) hs
end
end Dx
namespace Dx
theorem ln_nil : ∀ (ρ : List Sl) (p : List D × List Sl), evNil ρ = .ok p → p.1.length = 0 := fun ρ p h => by cases h; rfl
theorem ln_cons {f : List Sl → R (D × List Sl)} {l : List Sl → R (List D × List Sl)} {n : Nat} (hl : ∀ (ρ : List Sl) (p : List D × List Sl), l ρ = .ok p → p.1.length = n) : ∀ (ρ : List Sl) (p : List D × List Sl), evCons f l ρ = .ok p → p.1.length = n + 1 := fun ρ p h => by
  unfold evCons at h
  cases e : f ρ with
  | ok q =>
    rw [e] at h
    have h : (l q.2).bind (fun r => R.ok (q.1 :: r.1, r.2)) = .ok p := h
    cases e2 : l q.2 with
    | ok r => rw [e2] at h; cases h; exact congrArg Nat.succ (hl _ _ e2)
    | exc c d => rw [e2] at h; cases h
    | bad => rw [e2] at h; cases h
  | exc c d => rw [e] at h; cases h
  | bad => rw [e] at h; cases h
end Dx

set_option Elab.async false
set_option linter.all false
set_option maxRecDepth 100000
set_option maxHeartbeats 1000000
/-! DxZr: [..] * n. -/
namespace Dx
open PySem PySem.Spec PyProof.Rows L2
def repF (x y : D) : Option D := match x, y with
  | .lst l, .int k => if decide (-(2 ^ 63) ≤ k ∧ k < 2 ^ 63 ∧ l.length * k.toNat ≤ sizeLine) then some (.lst (List.replicate k.toNat l).flatten) else none
  | _, _ => none
def evRep (f g : List Sl → R (D × List Sl)) (ρ : List Sl) : R (D × List Sl) := (f ρ).bind fun p => if isLst p.1 then (g p.2).nox.bind fun q => (ofO (repF p.1 q.1)).bind fun z => .ok (z, q.2) else .bad
theorem DenL.rep {K : Frag} {Fz : Addr → Prop} {H : Hp} {vs : List V} {ds : List D} (h : DenL K Fz H vs ds) : ∀ n, DenL K Fz H (List.replicate n vs).flatten (List.replicate n ds).flatten
  | 0 => .nil
  | n + 1 => by rw [List.replicate_succ, List.replicate_succ, List.flatten_cons, List.flatten_cons]; exact h.append (h.rep n)
section
variable {X : Cx} {B : Bs} {E : XK} {a b : Expr} {f g : List Sl → R (D × List Sl)} {pos : Pos}
theorem do_rep (ha : PE X a (tO B E f)) (hb : ∀ B' : Bs, BLe B B' → PE X b (tE B' E0 g)) : PE X (.BinOp a .Mult b pos) (tO B E (evRep f g)) :=
  weakE (pe_op op_rep ha (pe_anyB hb)) fun σ H Q ⟨Fz, ρ, I, q⟩ =>
    monoG (tG_bind I q) fun x H1 ⟨F1, ρ1, dx, I1, ⟨a, ex, ow, h0, ap⟩, g1, e1, q1⟩ => by
      obtain ⟨hl, q1⟩ := fin_if (α := D) q1
      obtain ⟨ds, rfl⟩ := isLst_of hl
      obtain ⟨vs, hv, dv⟩ := ow
      have lent : ∀ a, B.bd a → ∃ o, B.H0 a = some o := I1.lent
      have I2 : Iv (B.at a (.lst vs)) F1 H1 σ ρ1 := I1.toBase hv h0 ap (fun z => z) (nz_lst I1.fzs hv)
      refine ⟨_, .at h0, monoG (tG_nox I2 q1) fun y H2 ⟨F2, ρ2, dy, I3, dn, g2, q2⟩ => ?_⟩
      obtain ⟨z, ez, q3⟩ := fin_ofO (α := D) q2
      have hv2 : H2 a = some (.lst vs) := at_get I3.ext
      have dn : Den B.K F2 H2 y dy := dn
      cases dn with
      | int k =>
        have ez : (if decide (-(2 ^ 63) ≤ k ∧ k < 2 ^ 63 ∧ ds.length * k.toNat ≤ sizeLine) then some (D.lst (List.replicate k.toNat ds).flatten) else none) = some z := ez
        obtain ⟨hk, rfl⟩ := if_some ez
        have hk := of_decide_eq_true hk
        have I4 : Iv B F2 H2 σ ρ2 := (BOut.at h0 lent).iv I3
        refine ⟨a, k, vs, ex, rfl, hv2, hk.1, hk.2.1, by rw [dv.length]; exact hk.2.2, ?_⟩
        exact BackO.lst I4 ((dv.mono g2).rep k.toNat) fun v H' Fz' I' g r => q3 v H' Fz' I' g r
      | _ => exact absurd ez (by intro h; cases h)
end
section
variable {W : Wd} {N : List Str} {sc : Scope} {k : Nat} {E : XK} {X : Cx} {B : Bs} {a b : Expr} {f g : List Sl → R (D × List Sl)} {pos : Pos}
theorem q_rep (wo : WOk W) (hX : XIs W N sc k E X) (hB : BOk W B) (ha : PE X a (tO B E f)) (hb : ∀ B' : Bs, BOk W B' → XIs W N sc k E0 X → PE X b (tE B' E0 g)) : PE X (.BinOp a .Mult b pos) (tO B E (evRep f g)) := do_rep ha fun B' l => hb B' (hB.le wo l) (hX.e0 wo)
end
end Dx

set_option Elab.async false
set_option linter.all false
set_option maxRecDepth 100000
set_option maxHeartbeats 1000000
/-! DxZs: list(text). -/
namespace Dx
open PySem PySem.Spec PyProof.Rows L2
theorem vals_ix : ∀ {xs : List V} {vs : List Value}, xs.length = vs.length → (∀ (j : Nat) (x : V) (v : Value), xs[j]? = some x → vs[j]? = some v → RelV x v) → Vals xs vs
  | [], [], _, _ => .nil
  | x :: xs, v :: vs, hl, h => .cons (h 0 x v rfl rfl) (vals_ix (by simpa using hl) fun j y w e1 e2 => h (j + 1) y w (by simpa using e1) (by simpa using e2))
  | [], _ :: _, hl, _ => by simp at hl
  | _ :: _, [], hl, _ => by simp at hl
theorem call_list_tx {X : Cx} (hc : X.calm = true) : CallR X (.type "list") (fun xs H Q => ∃ x, xs = [V.str x] ∧ x.cps.size ≤ sizeLine ∧ ∀ p, H p = none → Q (.ref p) (upd H p (.lst (chV x)))) := by
  intro pins s σ H xs us Q I r q
  obtain ⟨x, ex, hz, q⟩ := q
  subst ex
  obtain ⟨u, eu, rx⟩ := vals1 r
  subst eu
  obtain ⟨t, rfl⟩ := rx
  refine call_list_str (hn := hz) (I.ok.hd hc) x t fun h' tk acc c' hk hS hacc => ?_
  have hv : Vals (chV x) acc.toList := vals_ix (by simp [chV, hacc.1]) fun j y v e1 e2 => by
    obtain ⟨c, u, hc, rfl⟩ := hacc.2 j v (by rw [← Array.getElem?_toList]; exact e2)
    have e3 : (chV x)[j]? = some (V.str ⟨#[c]⟩) := by simp [chV, hc]
    rw [e3] at e1
    cases e1
    exact ⟨_, rfl⟩
  refine ⟨.ref s.heap.objs.size, upd H s.heap.objs.size (.lst (chV x)), I.laid (t' := tk) hk (Nat.le_refl _)
    (show ObjOk X.prog X.w _ _ _ (.lst (chV x)) from ⟨by simpa [chV] using hz, acc.toList, c', hv, by rw [Array.toArray_toList]; exact hS⟩), rfl, q _ (I.hok.fresh (Nat.le_refl _))⟩
/-- list of a text -/
def listSO : List D → Option D
  | [.str x] => if x.cps.size ≤ sizeLine then some (.lst (chrD x)) else none
  | _ => none
theorem chr_den {K : Frag} {Fz : Addr → Prop} {H : Hp} (x : Str) : DenL K Fz H (chV x) (chrD x) := by
  unfold chV chrD
  generalize x.cps.toList = l
  induction l with
  | nil => exact .nil
  | cons c l ih => exact .cons (.str _) ih
theorem r_listS {K : Frag} : RLO K (fun xs H Q => ∃ x, xs = [V.str x] ∧ x.cps.size ≤ sizeLine ∧ ∀ p, H p = none → Q (.ref p) (upd H p (.lst (chV x)))) listSO := fun B Fz H σ ρ vs ds z Q hK I hd e b => by
  unfold listSO at e
  split at e
  · rename_i x
    obtain ⟨v, rfl, h⟩ := denL1 hd
    split at e
    · rename_i hz
      cases e
      cases h
      exact ⟨x, rfl, hz, BackO.lst I (chr_den x) b⟩
    · cases e
  · cases e
section
variable {W : Wd} {N : List Str} {sc : Scope} {k : Nat} {E : XK} {X : Cx} {B : Bs} {e : Expr} {f : List Sl → R (D × List Sl)} {pos p : Pos}
/-- list(x) of a list, a tuple or a text -/
def list2O : List D → Option D
  | [.str x] => listSO [.str x]
  | ds => listO ds
theorem r_list2 {K : Frag} : RLO K (fun xs H Q => (∃ p ys, xs = [.ref p] ∧ (SqL K H p ys ∨ SqT K H p ys) ∧ ∀ l, H l = none → Q (.ref l) (upd H l (.lst ys))) ∨ ∃ x, xs = [V.str x] ∧ x.cps.size ≤ sizeLine ∧ ∀ p, H p = none → Q (.ref p) (upd H p (.lst (chV x)))) list2O := fun B Fz H σ ρ vs ds z Q hK I hd e b => by
  unfold list2O at e
  split at e
  · exact .inr (r_listS B Fz H σ ρ vs _ z Q hK I hd e b)
  · exact .inl (r_list B Fz H σ ρ vs _ z Q hK I hd e b)
theorem call_or {f : Value} {r r' : List V → Hp → VK → Prop} (a : CallR X f r) (b : CallR X f r') : CallR X f (fun xs H Q => r xs H Q ∨ r' xs H Q) := fun pins s σ H xs us Q I rv q => q.elim (a pins s σ H xs us Q I rv) (b pins s σ H xs us Q I rv)
theorem q_list2 (hX : XIs W N sc k E X) (hB : BOk W B) (hm : W.mg "list" = none) (o : GOk X sc "list") (hs : nsE e = true) (ha : PE X e (tE B E f)) : PE X (.Call (.Name "list" p) [e] [] pos) (tO B E (evL list2O (evCons f evNil))) :=
  do_callTy (call_or call_list_of (call_list_tx hX.calm)) r_list2 (hX.kk hB) o.g (hX.noName hm) rfl o.n o.d hs rfl (da_cons hs ha da_nil)
@[simp] theorem list2_l {l : List D} : list2O [.lst l] = some (.lst l) := rfl
@[simp] theorem list2_t {l : List D} : list2O [.tup l] = some (.lst l) := rfl
theorem list2_s {x : Str} (h : x.length ≤ sizeLine) : list2O [.str x] = some (.lst (chrD x)) := if_pos h
end
end Dx

set_option Elab.async false
set_option linter.all false
set_option maxRecDepth 100000
set_option maxHeartbeats 1000000
/-! the head: facts of the state behind the top, in groups, each group seen in a run of its own -/
namespace Dx
open PySem PySem.Spec PyProof.Rows L2

abbrev FB : Type := Frag → Bool
/-- a group: tests, defs -/
structure Grp where
  fb : List FB
  fn : List He5.DefA
abbrev GrV : Type := Bool × List He.FnW
def Grp.obs (p : Grp) (K : Frag) : GrV := (p.fb.all fun f => f K, p.fn.map fun d => He5.fnA K (d.at_ K))
def Grp.val (p : Grp) : GrV := (true, p.fn.map He5.DefA.val)
def hookX (as : List Addr) (gs : List Grp) : PySem.W.Hook where
  α := List GrV
  obs := fun s => gs.map fun p => p.obs (He.frG s.heap.get? as)
  val := fun _ => gs.map Grp.val
  says := fun _ h => ∃ K : Frag, K.In h ∧ gs.map (fun p => p.obs K) = gs.map Grp.val
  of := fun _ _ e => ⟨_, He.frG_in, e⟩
  keeps := fun _ _ _ ⟨K, hK, c⟩ k => ⟨K, PySem.W.Frag.In.keeps hK k, c⟩
def obX (as : List Addr) (gs : List Grp) (s : PySem.W.SharedT) : List GrV := gs.map fun p => p.obs (He.frG (HandSHeadRun.getT s) as)
theorem obX_eq (as : List Addr) (gs : List Grp) (s : PySem.W.SharedT) : obX as gs s = (hookX as gs).obs s.abs := by
  have e : HandSHeadRun.getT s = s.abs.heap.get? := funext fun a => HandSHeadRun.getT_eq s a
  unfold obX
  rw [e]
  rfl
theorem says_at {gs : List Grp} {K : Frag} (h : gs.map (fun p => p.obs K) = gs.map Grp.val) {i : Nat} {p : Grp} (e : gs[i]? = some p) : p.obs K = p.val := by
  have q : (gs.map fun p => p.obs K)[i]? = (gs.map Grp.val)[i]? := by rw [h]
  rw [List.getElem?_map, List.getElem?_map, e] at q
  exact Option.some.inj q
theorem obs_fb {p : Grp} {K : Frag} (h : p.obs K = p.val) {f : FB} (i : Nat) (e : p.fb[i]? = some f) : f K = true := by
  have c : (p.fb.all fun f => f K) = true := congrArg (fun z : GrV => z.1) h
  exact List.all_eq_true.mp c f (List.mem_of_getElem? e)
theorem obs_fn {p : Grp} {K : Frag} (h : p.obs K = p.val) {d : He5.DefA} (i : Nat) (e : p.fn[i]? = some d) : He5.fnA K (d.at_ K) = d.val := by
  have c : p.fn.map (fun d => He5.fnA K (d.at_ K)) = p.fn.map He5.DefA.val := congrArg (fun z : GrV => z.2) h
  have q : (p.fn.map fun d => He5.fnA K (d.at_ K))[i]? = (p.fn.map He5.DefA.val)[i]? := by rw [c]
  rw [List.getElem?_map, List.getElem?_map, e] at q
  exact Option.some.inj q
section
open PySem.W HandSHeadRun
def ParEq (r : OpenRow) (M : Nat) (as : List Addr) (w : World) (p : Grp) : Prop := ∀ os : OsState, (endF (stepQ (denQ tabQ) r.prog w) M r.prog w os).map (fun s => p.obs (He.frG (getT s) as)) = some p.val
def BasEq (r : OpenRow) (q : Program) (M : Nat) (loose : List PySem.Str) (w : World) : Prop :=
  ∀ os : OsState, (endF (stepQ (denQ tabQ) r.prog w) M r.prog w os).map (fun s => (looksF r.prog (boot_heap w.params) s.abs, seenQ q loose (importedModules r.prog.main.body) (fun s => xlAt q [] s && recOk r.toRowW.records s) s.abs)) = some (true, openGood q loose)
theorem runEq_of {r : OpenRow} {q : Program} {M : Nat} {loose : List PySem.Str} {as : List Addr} {gs : List Grp} {w : World} (b : BasEq r q M loose w) (ps : ∀ p ∈ gs, ParEq r M as w p) : RunEq r q (hookX as gs) (obX as gs) M loose w := by
  intro os
  have hb := b os
  have hp : ∀ p ∈ gs, (endF (stepQ (denQ tabQ) r.prog w) M r.prog w os).map (fun s => p.obs (He.frG (getT s) as)) = some p.val := fun p h => ps p h os
  revert hb hp
  generalize endF (stepQ (denQ tabQ) r.prog w) M r.prog w os = z
  intro hb hp
  cases z with
  | none => cases hb
  | some s =>
    have h1 := Prod.mk.inj (Option.some.inj hb)
    show some (_, _, obX as gs s) = some (true, openGood q loose, gs.map Grp.val)
    rw [h1.1, h1.2]
    congr 3
    unfold obX
    exact List.map_congr_left fun p h => Option.some.inj (hp p h)
end
end Dx

set_option Elab.async false
set_option linter.all false
set_option maxRecDepth 100000
set_option maxHeartbeats 1000000
/-! tests of the state behind the top, and what they show -/
namespace Dx
open PySem PySem.Spec PyProof.Rows L2

/-! ### constants -/
mutual
def ctB (K : Frag) : Value → D → Bool
  | .none, .non => true
  | .bool b, .bl c => b == c
  | .int i _, .int j => decide (i = j)
  | .str x _, .str y => decide (x = y)
  | .ref a, .tup l => (match K.lookup a with
    | some ⟨.type c, _, .seq its _, _⟩ => decide (c = "tuple") && decide (its.size ≤ sizeLine) && ctL K its.toList l
    | _ => false)
  | _, _ => false
def ctL (K : Frag) : List Value → List D → Bool
  | [], [] => true
  | u :: us, d :: ds => ctB K u d && ctL K us ds
  | _, _ => false
end
mutual
theorem ctB_ok {K : Frag} : ∀ (d : D) {u : Value}, ctB K u d = true → ∃ v, RelV v u ∧ ∀ Fz H, Den K Fz H v d
  | .non, u, h => by
    cases u with
    | none => exact ⟨.non, rfl, fun _ _ => .non⟩
    | _ => unfold ctB at h; cases h
  | .bl c, u, h => by
    cases u with
    | bool b => exact ⟨.bl b, rfl, fun _ _ => by rw [show b = c from beq_iff_eq.mp h]; exact .bl c⟩
    | _ => unfold ctB at h; cases h
  | .int j, u, h => by
    cases u with
    | int i t => exact ⟨.int i, ⟨t, rfl⟩, fun _ _ => by rw [show i = j from of_decide_eq_true h]; exact .int j⟩
    | _ => unfold ctB at h; cases h
  | .str y, u, h => by
    cases u with
    | str x t => exact ⟨.str x, ⟨t, rfl⟩, fun _ _ => by rw [show x = y from of_decide_eq_true h]; exact .str y⟩
    | _ => unfold ctB at h; cases h
  | .tup l, u, h => by
    cases u with
    | ref a =>
      unfold ctB at h
      cases q : K.lookup a with
      | none => rw [q] at h; cases h
      | some o =>
        obtain ⟨oc, od, dt, osl⟩ := o
        rw [q] at h
        cases oc with
        | type c =>
          cases dt with
          | seq its n =>
            have h : (decide (c = "tuple") && decide (its.size ≤ sizeLine) && ctL K its.toList l) = true := h
            rw [Bool.and_eq_true, Bool.and_eq_true] at h
            obtain ⟨vs, r, dn⟩ := ctL_ok l h.2
            exact ⟨.ref a, rfl, fun Fz H => .tup (.inr ⟨_, its, n, q, congrArg Value.type (of_decide_eq_true h.1.1), rfl, of_decide_eq_true h.1.2, r⟩) (dn Fz H)⟩
          | _ => cases h
        | _ => cases dt <;> cases h
    | _ => unfold ctB at h; cases h
  | .lst l, u, h => by cases u <;> (unfold ctB at h; cases h)
  | .dic l, u, h => by cases u <;> (unfold ctB at h; cases h)
  | .ins c l, u, h => by cases u <;> (unfold ctB at h; cases h)
  | .exn c l, u, h => by cases u <;> (unfold ctB at h; cases h)
theorem ctL_ok {K : Frag} : ∀ (ds : List D) {us : List Value}, ctL K us ds = true → ∃ vs, Vals vs us ∧ ∀ Fz H, DenL K Fz H vs ds
  | [], us, h => by
    cases us with
    | nil => exact ⟨[], .nil, fun _ _ => .nil⟩
    | cons _ _ => unfold ctL at h; cases h
  | d :: ds, us, h => by
    cases us with
    | nil => unfold ctL at h; cases h
    | cons u us =>
      have h : (ctB K u d && ctL K us ds) = true := h
      rw [Bool.and_eq_true] at h
      obtain ⟨v, r, dn⟩ := ctB_ok d h.1
      obtain ⟨vs, rs, dns⟩ := ctL_ok ds h.2
      exact ⟨v :: vs, .cons r rs, fun Fz H => .cons (dn Fz H) (dns Fz H)⟩
end
/-- the module's name x is the constant d -/
def gcB (x : Str) (d : D) (K : Frag) : Bool := match PySem.W.nsIn K mainGlobals x with
  | some (some u) => ctB K u d
  | _ => false
theorem gcB_ok {W : Wd} {h : Heap} (X : W.K.In h) (G : h.Ns mainGlobals W.mg) {x : Str} {d : D} (c : gcB x d W.K = true) : GC W x d := by
  unfold gcB at c
  cases e : PySem.W.nsIn W.K mainGlobals x with
  | none => rw [e] at c; cases c
  | some o =>
    rw [e] at c
    cases o with
    | none => cases c
    | some u =>
      obtain ⟨v, r, dn⟩ := ctB_ok d c
      exact ⟨u, v, PySem.W.mg_of X G e, r, fun Fz H _ => dn Fz H⟩
/-! ### fields, kinds -/
def fldB (c f : Str) (K : Frag) : Bool := (He.Fa.cls c).ok K && (He.Fa.noat c f).ok K
theorem fldB_ok {W : Wd} {c f : Str} (h : fldB c f W.K = true) : FldOk W c f := by
  unfold fldB at h
  rw [Bool.and_eq_true] at h
  exact ⟨He.cls_ok h.1, He.noat_ok h.2⟩
def insB (c : Str) (K : Frag) : Bool := (He.Fa.cls c).ok K && (He.eqO (PySem.W.findIn K (.ref (He.ga K c)) "__class__") (some (some (.builtin "object.__class__"))) && decide (PySem.W.mroIn K (He.ga K c) (.type "object") = some true))
theorem insB_ok {W : Wd} {c : Str} (h : insB c W.K = true) : InsTy W c := by
  unfold insB at h
  rw [Bool.and_eq_true, Bool.and_eq_true] at h
  exact ⟨He.cls_ok h.1, He.eqO_ok h.2.1, of_decide_eq_true h.2.2⟩
def isiB (t : IsiT) (u : Frag → Value) (K : Frag) : Bool := (t.ty.all fun p => decide (PySem.W.kitOne K (.type p.1) (u K) = some p.2)) && ((t.ins.all fun p => insB p.1 K && decide (PySem.W.kitOne K (.ref (He.ga K p.1)) (u K) = some p.2)) &&
  (He.eqO (PySem.W.specialIn K (.builtin "object.__class__") "__get__") (some (some (.builtin "getset_descriptor.__get__"))) && decide (PySem.W.takesIn K (.builtin "object.__class__") = some true)))
theorem isiB_ok {W : Wd} {t : IsiT} {u : Frag → Value} (h : isiB t u W.K = true) : IsiOk W t (u W.K) := by
  unfold isiB at h
  rw [Bool.and_eq_true, Bool.and_eq_true, Bool.and_eq_true] at h
  refine ⟨fun p hp => of_decide_eq_true (List.all_eq_true.mp h.1 p hp), fun p hp => ?_, He.eqO_ok h.2.2.1, of_decide_eq_true h.2.2.2⟩
  have := List.all_eq_true.mp h.2.1 p hp
  rw [Bool.and_eq_true] at this
  exact ⟨insB_ok this.1, of_decide_eq_true this.2⟩
/-! ### free names, defs, properties -/
def freB (l : List Str) (K : Frag) : Bool := l.all fun x => (He.Fa.free x).ok K
theorem freB_ok {W : Wd} {h : Heap} {l : List Str} (X : W.K.In h) (G : h.Ns mainGlobals W.mg) (c : freB l W.K = true) : ∀ x : Str, l.contains x = true → W.mg x = none :=
  fun x hx => He.free_ok X G (List.all_eq_true.mp c x (List.contains_iff_mem.mp hx))
def sysB (K : Frag) : Bool := (K.lookup sysModules).isSome
theorem sysB_ok {K : Frag} (c : sysB K = true) : ∃ o, K.lookup sysModules = some o := Option.isSome_iff_exists.mp c
theorem memK {K : Frag} {a : Addr} {o : Obj} (h : K.lookup a = some o) : (a, o) ∈ K := by
  induction K with
  | nil => cases h
  | cons p r ih =>
    obtain ⟨b, u⟩ := p
    rw [List.lookup_cons] at h
    cases e : a == b with
    | true => rw [e] at h; cases h; rw [beq_iff_eq.mp e]; exact List.mem_cons_self
    | false => rw [e] at h; exact List.mem_cons_of_mem _ (ih h)
def nolB (K : Frag) : Bool := K.all fun p => !(decide (p.2.cls = .type "list"))
theorem nolB_ok {K : Frag} (c : nolB K = true) {a : Addr} {o : Obj} (e : K.lookup a = some o) : o.cls ≠ .type "list" := fun q => by
  have := List.all_eq_true.mp c (a, o) (memK e)
  rw [show decide (((a, o) : Addr × Obj).2.cls = .type "list") = true from decide_eq_true q] at this
  cases this
def fnD (at_ : Frag → Addr) (x qual : Str) (st : Stmt) : He5.DefA := ⟨at_, x, qual, C8.fnArgs st, C8.fnBody st, C8.fnScope st, [], []⟩
theorem fnAt_of {W : Wd} {at_ : Frag → Addr} {x qual : Str} {st : Stmt} (e : He5.fnA W.K (at_ W.K) = (fnD at_ x qual st).val) (c : (fnD at_ x qual st).ok W.K = true) : FnAt W x qual st (at_ W.K) := by
  obtain ⟨fd, D⟩ := He5.DefA.funD (d := fnD at_ x qual st) e c
  obtain ⟨oc, od, dV, kV, doc, pm, an, cdv, ct, osl, e1, e2, e3, hd, _⟩ := D.ex
  rcases hd with ⟨_, e4⟩ | ⟨e4, _⟩
  · subst e4
    subst e1
    exact ⟨⟨oc, od, kV, doc, pm, an, cdv, ct, osl, e2, e3⟩, D.kp⟩
  · exact absurd rfl e4
def pmA (c m : Str) (K : Frag) : Addr := He.ma K (He.ga K c) m
def pgA (c m : Str) (K : Frag) : Addr := match PySem.W.recIn K (pmA c m K) "property" with
  | some (.ref f :: _) => f
  | _ => 0
def prpB (c m : Str) (K : Frag) : Bool := He.eqO (PySem.W.findIn K (.ref (He.ga K c)) m) (some (some (.ref (pmA c m K)))) && (He.eqO (PySem.W.specialIn K (.ref (pmA c m K)) "__get__") (some (some (.builtin "property.__get__"))) &&
  (decide (PySem.W.takesIn K (.ref (pmA c m K)) = some true) && (match PySem.W.recIn K (pmA c m K) "property" with
    | some (.ref f :: _) => true
    | _ => false)))
theorem prpB_ok {K : Frag} {c m : Str} (h : prpB c m K = true) : PropOf K (He.ga K c) m (pmA c m K) (pgA c m K) := by
  unfold prpB at h
  rw [Bool.and_eq_true, Bool.and_eq_true, Bool.and_eq_true] at h
  refine ⟨He.eqO_ok h.1, He.eqO_ok h.2.1, of_decide_eq_true h.2.2.1, ?_⟩
  have q := h.2.2.2
  unfold pgA
  split at q
  · next f r e => rw [e]; exact ⟨r, rfl⟩
  · cases q
end Dx

set_option Elab.async false
set_option linter.all false
set_option maxRecDepth 100000
set_option maxHeartbeats 1000000
/-! the law's end -/
namespace Dx
open PySem PySem.Spec PyProof.Rows L2

theorem wok0 {P : Program} {w : World} {K : Frag} {mg : Str → Option Value} {base : Heap} : WOk ⟨P, w, K, mg, base, L2.CX0, []⟩ :=
  ⟨fun _ h => (nomatch h), fun _ _ _ _ _ h => h, fun _ _ _ _ _ _ _ _ _ _ _ => L2.pass0⟩
theorem denInts {K : Frag} {Fz : Addr → Prop} {H : Hp} : ∀ ns : List Int, DenL K Fz H (ns.map V.int) (ns.map D.int)
  | [] => .nil
  | n :: r => .cons (.int n) (denInts r)
/-- only the script, and it is known to be frozen -/
def oneH (a : Addr) (o : HO) : Hp := fun b => if b = a then some o else none
theorem oneH_at {a : Addr} {o : HO} : oneH a o a = some o := if_pos rfl
theorem oneH_inv {a b : Addr} {o u : HO} (h : oneH a o b = some u) : b = a ∧ u = o := by
  unfold oneH at h
  by_cases c : b = a
  · rw [if_pos c] at h; exact ⟨c, (Option.some.inj h).symm⟩
  · rw [if_neg c] at h; cases h
theorem oneH_no {a b : Addr} {o : HO} (c : b ≠ a) : oneH a o b = none := if_neg c
section
variable {P : Program} {w : World} {K : Frag} {mg mb : Str → Option Value} {k : Nat} {fa a : Addr} {x : Str} {F : Fd} {s₁ : Shared} {vs : List Value} {ns : List Int}
theorem end_run (KX : K.In s₁.heap) (hnq : s₁.heap.Ns mainGlobals mg) (hb : s₁.heap.Ns builtinsNs mb) (hbb : ∀ x : Str, x ≠ "__name__" → mb x = bootBuiltins x) (hlq : s₁.heap.NoLimit) (hg : s₁.gens = #[])
    (ha : s₁.heap.get? a = some { cls := .type "list", data := .seq vs.toArray }) (hi : IntsAre vs ns) (hl : ns.length ≤ sizeLine) (hr : Room k callerA) (hK : nolB K = true) (hmg : mg x = some (.ref fa))
    (C : ∀ base : Heap, K.In base → base.Ns mainGlobals mg → Cal ⟨P, w, K, mg, base, L2.CX0, []⟩ k x F) (hm : F.md = [.sh]) (ho : F.own = false) (hs : ∃ o, F.sem [.lst (ns.map .int)] = .ok (.bl true, o)) :
    codeAny (model P w) callerA (.call (.ref fa) ⟨[.ref a], []⟩) (fun r s' => r = .ok (.ret (.bool true)) ∧ OldK s₁.heap s'.heap ∧ s'.os = s₁.os ∧ AllBare s'.gens) s₁ := by
  let ob : Obj := { cls := .type "list", data := .seq vs.toArray }
  let H : Hp := oneH a (.frz ob (.lst (ns.map V.int)))
  have rv := vals_ints hi
  have lenV := hi.length
  have hok : HOk P w H s₁.heap := fun b u z => by
    obtain ⟨rfl, rfl⟩ := oneH_inv z
    exact ⟨ha, by rw [List.length_map]; exact hl, vs, _, rv, ha⟩
  have offD : ∀ {b : Addr} {o : Obj} {es : Array DictEntry} {ep : Nat}, s₁.heap.get? b = some o → o.data = .dict es ep → H b = none := fun {b o es ep} e d => oneH_no fun q => by
    rw [q, ha] at e; cases e
    have d' : Data.seq vs.toArray _ = Data.dict es ep := d
    cases d'
  have offK : ∀ {b : Addr} {o : Obj}, K.lookup b = some o → H b = none := fun {b o} e => oneH_no fun q => by
    have z := KX b o e
    rw [q, ha] at z; cases z
    exact nolB_ok hK e rfl
  have nsK : ∀ {b : Addr} {m : Str → Option Value}, s₁.heap.Ns b m → (hidT s₁.heap H).Ns b m := fun ⟨o, es, ep, e, d, r⟩ => ⟨o, es, ep, hidT_get e (offD e d), d, r⟩
  have hKq : K.In (hidT s₁.heap H) := fun b o e => hidT_get (KX b o e) (offK e)
  have hM : Mod K mg (hidT s₁.heap H) := ⟨hKq, nsK hnq, ⟨mb, nsK hb, hbb⟩, let ⟨mc, h1, h2⟩ := hlq; ⟨mc, nsK h1, h2⟩⟩
  have ez : Env0 P w K mg (hidT s₁.heap H) callerA [] s₁ H := ⟨rfl, hM, fun b o e => of_hidT e, Nat.le_of_eq (hidT_size _ _), trivial, fun b hb => absurd (show b ∈ ([] : List Addr) from hb) (by simp), hok, .of_eq hg⟩
  obtain ⟨f, fd, ps, G, e1, _, bd⟩ := (C _ hKq (nsK hnq)).ex
  have ef : f = fa := by
    have e1 : mg x = some (.ref f) := e1
    rw [hmg] at e1; cases e1; rfl
  subst ef
  obtain ⟨o, hs⟩ := hs
  have sp : spF K [] F [.ref a] H (fun v _ => v = .bl true) E0 := by
    refine ⟨fun _ h => (nomatch h), fun _ => False, [.lst (ns.map .int)], fun _ h => h.elim, ?_, ?_, ?_⟩
    · rw [hm]; exact .cons (.lst ⟨ob, oneH_at⟩ (denInts ns)) .nil
    · rw [hm]
      intro i j b c hij h1
      cases i with
      | zero => cases h1
      | succ i => simp at h1
    · rw [hs]
      intro v H' Fz' _ _ _ rs
      rw [ho] at rs
      cases (show Den K Fz' H' v (.bl true) from rs)
      rfl
  have len := G.len _ _ _ _ sp
  have hb2 : BindsTo s₁ fd ⟨[.ref a], []⟩ (ps.zip [.ref a]) := by
    have := bd s₁ [.ref a] KX (by rw [List.append_nil]; exact len)
    rw [List.append_nil] at this
    exact this
  refine codeAny_mono (G.run callerA [] s₁ H ⟨[.ref a], []⟩ [.ref a] [.ref a] _ _ hr rfl ez hb2 (.cons rfl .nil) sp) fun r s' h => ?_
  cases r with
  | error e => exact (show False from h).elim
  | ok fl =>
    cases fl with
    | next => exact False.elim h
    | brk => exact False.elim h
    | cont => exact False.elim h
    | ret u =>
      obtain ⟨v, H', os, bre, un, hok', r', q⟩ := h
      have q' : v = .bl true := q
      subst q'
      obtain rfl : u = Value.bool true := r'
      refine ⟨rfl, OldK.of_keep fun b o e => ?_, os, bre⟩
      by_cases c : b = a
      · subst c
        obtain ⟨e2, _⟩ := hok' b _ (un.frzs b ob _ oneH_at)
        rw [ha] at e; cases e
        exact e2
      · exact un.keep b o e (oneH_no c) (by intro z; exact absurd (show b ∈ ([] : List Addr) from z) (by simp)) (by simp)
end
theorem walkX {l : PySem.W.OpenLaw} {n k : Nat} {q : Program} {loose : List Str} {XP : (Str → Option Value) → Heap → Prop} {YP : World → Heap → Prop} {d : DefRec} {F : Fd}
    (hn : l.most = some n) (hnz : n ≤ sizeLine) (hdq : d.params.defaults = []) (hr : Room k callerA)
    (C : ∀ (w : World) (mg : Str → Option Value) (h : Heap), YP w h → h.Ns mainGlobals mg → ∃ K : Frag, K.In h ∧ nolB K = true ∧ ∀ base : Heap, K.In base → base.Ns mainGlobals mg → Cal ⟨l.prog, w, K, mg, base, L2.CX0, []⟩ k d.name F)
    (hm : F.md = [.sh]) (ho : F.own = false) (hs : ∀ ns : List Int, ns.length ≤ n → ∃ o, F.sem [.lst (ns.map .int)] = .ok (.bl true, o)) : PySem.W.WalkO q loose XP YP l.row.toRowW d [] (fun f vs => PySem.call f vs) :=
  Att.attach_call hn hdq fun w s₀ s₁ mg mb fa o pm cd doc a vs ns G Y ho' hd hcd hmg hobj hints hlen hg => by
    obtain ⟨K, KX, nl, hC⟩ := C w mg _ Y G.T.g
    exact end_run KX G.T.g G.T.b G.T.builtins G.T.nolimit hg hobj hints (Nat.le_trans hlen hnz) hr nl hmg hC hm ho (hs ns hlen)
end Dx

set_option Elab.async false
set_option linter.all false
set_option maxRecDepth 100000
set_option maxHeartbeats 1000000
/-! DxMa: what pieces of code do, said by what must hold behind them (sat). -/
namespace Dx
open PySem PySem.Spec PyProof.Rows L2

def R.sat {α : Type} (r : R α) (Q : α → Prop) : Prop := ∃ a, r = .ok a ∧ Q a
section
variable {α β γ : Type} {Q Q' : α → Prop}
@[simp] theorem R.sat_ok (a : α) : (R.ok a).sat Q = Q a := propext ⟨fun ⟨_, e, h⟩ => by cases e; exact h, fun h => ⟨a, rfl, h⟩⟩
@[simp] theorem R.sat_bad : (R.bad : R α).sat Q = False := propext ⟨fun ⟨_, e, _⟩ => (nomatch e), fun h => h.elim⟩
@[simp] theorem R.sat_exc (c : Str) (d : D) : (R.exc c d : R α).sat Q = False := propext ⟨fun ⟨_, e, _⟩ => (nomatch e), fun h => h.elim⟩
@[simp] theorem R.sat_bind (r : R β) (k : β → R α) : (r.bind k).sat Q = r.sat fun a => (k a).sat Q := by cases r <;> simp
@[simp] theorem R.sat_nox (r : R α) : r.nox.sat Q = r.sat Q := by cases r <;> simp [R.nox]
theorem R.sat.mono {r : R α} (h : r.sat Q) (w : ∀ a, Q a → Q' a) : r.sat Q' := let ⟨a, e, q⟩ := h; ⟨a, e, w a q⟩
theorem R.sat_iff {r : R α} : r.sat Q ↔ ∃ a, r = .ok a ∧ Q a := Iff.rfl
theorem R.sat_eq {r : R α} {x : α} (h : r.sat (fun y => y = x)) : r = .ok x := let ⟨a, e, q⟩ := h; by rw [e, q]
theorem R.sat_of_eq {r : R α} {x : α} (e : r = .ok x) (h : Q x) : r.sat Q := ⟨x, e, h⟩
@[simp] theorem ofO_some (a : α) : ofO (some a) = .ok a := rfl
@[simp] theorem ofO_none : (ofO none : R α) = .bad := rfl
end
def RS.sat (r : RS) (N : List Sl → Prop) (T : Bool → D → List Sl → Prop) : Prop := (∃ ρ, r = .nx ρ ∧ N ρ) ∨ ∃ o d ρ, r = .rt o d ρ ∧ T o d ρ
section
variable {α β : Type} {N N' : List Sl → Prop} {T T' : Bool → D → List Sl → Prop}
@[simp] theorem RS.sat_nx (ρ : List Sl) : (RS.nx ρ).sat N T = N ρ := by simp [RS.sat]
@[simp] theorem RS.sat_rt (o : Bool) (d : D) (ρ : List Sl) : (RS.rt o d ρ).sat N T = T o d ρ := by
  simp only [RS.sat, reduceCtorEq, false_and, exists_false, RS.rt.injEq, false_or]
  exact propext ⟨fun ⟨_, _, _, ⟨e1, e2, e3⟩, h⟩ => by subst e1 e2 e3; exact h, fun h => ⟨_, _, _, ⟨rfl, rfl, rfl⟩, h⟩⟩
@[simp] theorem RS.sat_bad : RS.bad.sat N T = False := by simp [RS.sat]
@[simp] theorem RS.sat_exc (c : Str) (d : D) : (RS.exc c d).sat N T = False := by simp [RS.sat]
@[simp] theorem RS.sat_bk (ρ : List Sl) : (RS.bk ρ).sat N T = False := by simp [RS.sat]
@[simp] theorem RS.sat_ct (ρ : List Sl) : (RS.ct ρ).sat N T = False := by simp [RS.sat]
@[simp] theorem RS.sat_bind (r : RS) (k : List Sl → RS) : (r.bind k).sat N T = r.sat (fun ρ => (k ρ).sat N T) T := by cases r <;> simp
@[simp] theorem R.st_sat (r : R α) (k : α → RS) : (r.st k).sat N T = r.sat fun a => (k a).sat N T := by cases r <;> simp
theorem RS.sat.mono {r : RS} (h : r.sat N T) (n : ∀ ρ, N ρ → N' ρ) (t : ∀ o d ρ, T o d ρ → T' o d ρ) : r.sat N' T' := by
  rcases h with ⟨ρ, e, h⟩ | ⟨o, d, ρ, e, h⟩
  · exact .inl ⟨ρ, e, n _ h⟩
  · exact .inr ⟨o, d, ρ, e, t _ _ _ h⟩
theorem RS.sat_lp {r : RS} {k : List Sl → RS} (h : r.sat (fun ρ => (k ρ).sat N T) T) : (r.lp k).sat N T := by
  cases r <;> simp at h <;> first | exact h | simpa [RS.lp] using h
def lenEq : List D → List Md → Bool
  | [], [] => true
  | _ :: l, _ :: m => lenEq l m
  | _, _ => false
theorem lenEq_of : ∀ {l : List D} {m : List Md}, lenEq l m = true → l.length = m.length
  | [], [], _ => rfl
  | _ :: _, _ :: _, h => congrArg Nat.succ (lenEq_of h)
  | [], _ :: _, h => nomatch h
  | _ :: _, [], h => nomatch h
/-- a def's meaning -/
theorem semOf_sat {n : Nat} {ms : List Md} {own : Bool} {g : List Sl → RS} {ds : List D} {Q : D × List D → Prop} (hl : lenEq ds ms = true)
    (h : (g (iniS ms ds n)).sat (fun ρ => own = false ∧ (ofO (outsR ms 0 ρ)).sat fun o => Q (.non, o)) (fun o z ρ => o = own ∧ (ofO (outsR ms 0 ρ)).sat fun l => Q (z, l))) : (semOf n ms own g ds).sat Q := by
  unfold semOf
  rw [if_pos (lenEq_of hl)]
  cases e : g (iniS ms ds n) with
  | nx ρ =>
    rw [e] at h
    rw [RS.sat_nx] at h
    obtain ⟨h1, h2⟩ := h
    subst h1
    rw [R.sat_iff] at h2
    obtain ⟨o, e2, q⟩ := h2
    show ((ofO (outsR ms 0 ρ)).bind fun o => R.ok (D.non, o)).sat Q
    rw [e2]; simpa using q
  | rt o z ρ =>
    rw [e] at h
    rw [RS.sat_rt] at h
    obtain ⟨h1, h2⟩ := h
    rw [R.sat_iff] at h2
    obtain ⟨l, e2, q⟩ := h2
    show (if o = own then (ofO (outsR ms 0 ρ)).bind fun l => R.ok (z, l) else R.bad).sat Q
    rw [if_pos h1, e2]; simpa using q
  | _ => rw [e] at h; simp at h
/-- a for loop over data that stands for l -/
theorem forL_sat {t : D → List Sl → Option (List Sl)} {g : List Sl → RS} (enc : α → D) (I : List α → List Sl → Prop) (l : List α)
    (step : ∀ pre x post, l = pre ++ x :: post → ∀ ρ, I pre ρ → ∃ ρ1, t (enc x) ρ = some ρ1 ∧ (g ρ1).sat (I (pre ++ [x])) T) (fin : ∀ ρ, I l ρ → N ρ) {ρ : List Sl} (h0 : I [] ρ) : (forL t g (l.map enc) ρ).sat N T := by
  have gen : ∀ (post pre : List α), l = pre ++ post → ∀ ρ, I pre ρ → (forL t g (post.map enc) ρ).sat N T := by
    intro post
    induction post with
    | nil => intro pre e ρ h; rw [List.append_nil] at e; subst e; show (RS.nx ρ).sat N T; rw [RS.sat_nx]; exact fin ρ h
    | cons x post ih =>
      intro pre e ρ h
      obtain ⟨ρ1, e1, s⟩ := step pre x post e ρ h
      show (ofT (t (enc x) ρ) fun ρ1 => (g ρ1).lp (forL t g (post.map enc))).sat N T
      rw [e1]
      refine RS.sat_lp (s.mono (fun ρ2 h2 => ih (pre ++ [x]) (by rw [e]; simp) ρ2 h2) fun _ _ _ z => z)
  exact gen l [] rfl ρ h0
/-- a while loop: m falls -/
theorem whF_sat {u : List Sl → R (Bool × List Sl)} {g : List Sl → RS} (I : Nat → List Sl → Prop)
    (step : ∀ m ρ, I m ρ → (u ρ).sat fun p => if p.1 then (g p.2).sat (fun ρ' => ∃ k, k < m ∧ I k ρ') T else N p.2) : ∀ (n m : Nat) (ρ : List Sl), m < n → I m ρ → (whF u g n ρ).sat N T := by
  intro n
  induction n with
  | zero => intro m ρ h; exact absurd h (Nat.not_lt_zero m)
  | succ n ih =>
    intro m ρ hm hI
    unfold whF
    rw [R.st_sat]
    refine (step m ρ hI).mono fun p hp => ?_
    obtain ⟨b, ρ2⟩ := p
    cases b with
    | true =>
      have hp : (g ρ2).sat (fun ρ' => ∃ k, k < m ∧ I k ρ') T := by simpa using hp
      exact RS.sat_lp (RS.sat.mono hp (fun ρ' ⟨k, hk, hI'⟩ => ih k ρ' (by omega) hI') fun _ _ _ z => z)
    | false => simpa using hp
end
section
variable {α : Type}
/-- a list comprehension over data that stands for l -/
theorem lcL_sat {vs : List Nat} {t : D → List Sl → Option (List Sl)} {u : List Sl → R (Bool × List Sl)} {f : List Sl → R (D × List Sl)} {Q : List D × List Sl → Prop} (enc : α → D) (I : List α → List D → List Sl → Prop) (l : List α)
    (step : ∀ pre x post, l = pre ++ x :: post → ∀ acc ρ, I pre acc ρ → ∃ ρ1, t (enc x) ρ = some ρ1 ∧ (u ρ1).sat fun p => if p.1 then (f p.2).sat fun q => acc.length < sizeLine ∧ I (pre ++ [x]) (acc ++ [q.1]) (wipeR q.2 vs) else I (pre ++ [x]) acc (wipeR p.2 vs))
    (fin : ∀ acc ρ, I l acc ρ → Q (acc, ρ)) {acc : List D} {ρ : List Sl} (h0 : I [] acc ρ) : (lcL vs t u f acc (l.map enc) ρ).sat Q := by
  have gen : ∀ (post pre : List α), l = pre ++ post → ∀ acc ρ, I pre acc ρ → (lcL vs t u f acc (post.map enc) ρ).sat Q := by
    intro post
    induction post with
    | nil => intro pre e acc ρ h; rw [List.append_nil] at e; subst e; show (R.ok (acc, ρ)).sat Q; rw [R.sat_ok]; exact fin acc ρ h
    | cons x post ih =>
      intro pre e acc ρ h
      obtain ⟨ρ1, e1, s⟩ := step pre x post e acc ρ h
      show ((ofO (t (enc x) ρ)).bind fun ρ1 => (u ρ1).nox.bind fun p => match p.1 with
        | true => (f p.2).nox.bind fun q => if decide (acc.length < sizeLine) = true then lcL vs t u f (acc ++ [q.1]) (post.map enc) (wipeR q.2 vs) else .bad
        | false => lcL vs t u f acc (post.map enc) (wipeR p.2 vs)).sat Q
      rw [e1, ofO_some]
      show ((u ρ1).nox.bind _).sat Q
      rw [R.sat_bind, R.sat_nox]
      refine s.mono fun p hp => ?_
      obtain ⟨b, ρ2⟩ := p
      cases b with
      | true =>
        have hp : (f ρ2).sat fun q => acc.length < sizeLine ∧ I (pre ++ [x]) (acc ++ [q.1]) (wipeR q.2 vs) := by simpa using hp
        show ((f ρ2).nox.bind _).sat Q
        rw [R.sat_bind, R.sat_nox]
        refine hp.mono fun q ⟨hl, hI⟩ => ?_
        show (if decide (acc.length < sizeLine) = true then _ else _ : R _).sat Q
        rw [if_pos (decide_eq_true hl)]
        exact ih (pre ++ [x]) (by rw [e]; simp) _ _ hI
      | false =>
        have hp : I (pre ++ [x]) acc (wipeR ρ2 vs) := by simpa using hp
        exact ih (pre ++ [x]) (by rw [e]; simp) _ _ hp
  exact gen l [] rfl acc ρ h0
/-- .. one that changes nothing -/
theorem lcL_pure {vs : List Nat} {t : D → List Sl → Option (List Sl)} {u : List Sl → R (Bool × List Sl)} {f : List Sl → R (D × List Sl)} {Q : List D × List Sl → Prop} (enc : α → D) (p : α → Bool) (h : α → D) (l : List α) {ρ : List Sl}
    (step : ∀ x ∈ l, ∃ ρ1, t (enc x) ρ = some ρ1 ∧ (u ρ1).sat fun q => q.1 = p x ∧ if p x then (f q.2).sat fun r => r.1 = h x ∧ wipeR r.2 vs = ρ else wipeR q.2 vs = ρ)
    (hl : l.length ≤ sizeLine) (fin : Q ((l.filter p).map h, ρ)) : (lcL vs t u f [] (l.map enc) ρ).sat Q := by
  refine lcL_sat enc (fun pre acc ρ' => ρ' = ρ ∧ acc = (pre.filter p).map h) l (fun pre x post e acc ρ' ⟨e1, e2⟩ => ?_) (fun acc ρ' ⟨e1, e2⟩ => by subst e1; subst e2; exact fin) ⟨rfl, rfl⟩
  subst e1
  obtain ⟨ρ1, e3, s⟩ := step x (by rw [e]; simp)
  refine ⟨ρ1, e3, s.mono fun q ⟨hq, hr⟩ => ?_⟩
  obtain ⟨b, ρ2⟩ := q
  dsimp only at hq hr ⊢
  subst hq
  cases hb : p x with
  | true =>
    rw [hb, if_pos rfl] at hr
    rw [if_pos rfl]
    refine hr.mono fun r ⟨h1, h2⟩ => ⟨?_, h2, ?_⟩
    · have : pre.length < l.length := by rw [e]; simp
      have h3 : ((pre.filter p).map h).length ≤ pre.length := by rw [List.length_map]; exact List.length_filter_le _ _
      rw [e2]; omega
    · rw [e2, h1]; simp [hb]
  | false =>
    rw [hb] at hr
    rw [if_neg (by simp)] at hr ⊢
    exact ⟨hr, by rw [e2]; simp [hb]⟩
/-- .. without a test -/
theorem lcL_map {vs : List Nat} {t : D → List Sl → Option (List Sl)} {f : List Sl → R (D × List Sl)} {Q : List D × List Sl → Prop} (enc : α → D) (h : α → D) (l : List α) {ρ : List Sl}
    (step : ∀ x ∈ l, ∃ ρ1, t (enc x) ρ = some ρ1 ∧ (f ρ1).sat fun r => r.1 = h x ∧ wipeR r.2 vs = ρ)
    (hl : l.length ≤ sizeLine) (fin : Q (l.map h, ρ)) : (lcL vs t evYes f [] (l.map enc) ρ).sat Q := by
  refine lcL_pure enc (fun _ => true) h l (fun x hx => ?_) hl (by rw [show l.filter (fun _ => true) = l from List.filter_eq_self.mpr fun _ _ => rfl]; exact fin)
  obtain ⟨ρ1, e, s⟩ := step x hx
  exact ⟨ρ1, e, (R.sat_ok _).mpr ⟨rfl, by simpa using s⟩⟩
end
end Dx

set_option Elab.async false
set_option linter.all false
set_option autoImplicit false
set_option maxRecDepth 100000
set_option maxHeartbeats 1000000
/-! DxMb: towns as typed data. -/
namespace Dx
open PySem PySem.Spec PyProof.Rows L2 TL

/-- the draws of a cell -/
structure Pot where
  a : Int
  b : Int
  c : Int
def Pot.d (p : Pot) : D := .lst [.int p.a, .int p.b, .int p.c]
/-- at most n numbers were mixed -/
def Pk (n : Nat) (p : Pot) : Prop := 0 ≤ p.b ∧ p.b < 2 ^ 62 ∧ 0 ≤ p.c ∧ p.c ≤ n
theorem Pk.mono {m n : Nat} {p : Pot} (h : Pk m p) (l : m ≤ n) : Pk n p := ⟨h.1, h.2.1, h.2.2.1, by have := h.2.2.2; omega⟩
/-- a street -/
structure Row where
  nm : Str
  kd : Str
  a : Str
  b : Str
def Row.dic (r : Row) : Str × D := (r.nm, .tup [.str r.kd, .str r.a, .str r.b])
def Row.tup (r : Row) : D := .tup [.str r.kd, .str r.nm, .str r.a, .str r.b]
def Row.words (r : Row) : List Str := [r.kd, r.nm, r.a, r.b]
structure Lore where
  pl : List Str
  rows : List Row
def Lore.d (l : Lore) : D := .tup [.lst (l.pl.map .str), .lst (l.rows.map Row.tup)]
def strT (l : List Str) : D := .tup (l.map .str)
def strL (l : List Str) : D := .lst (l.map .str)
def Lore.text (l : Lore) : Str := Txt.join "\n" (Txt.join " " ("places" :: l.pl) :: l.rows.map fun r => Txt.join " " r.words)
def townD (c : Str) (t : Str) (l : Lore) : D := .ins c [("own_text", .str t), ("own_places", strT l.pl), ("own_rows", .dic (l.rows.map Row.dic))]
/-- a name: one to eight letters a to z -/
def NameOk (x : Str) : Prop := 1 ≤ x.length ∧ x.length ≤ 8 ∧ ∀ c ∈ tl x, 97 ≤ c ∧ c ≤ 122
instance (x : Str) : Decidable (NameOk x) := by unfold NameOk; infer_instance
def kinds : List Str := ["unread", "known", "both"]
structure RowOk (pl : List Str) (r : Row) : Prop where
  nm : NameOk r.nm
  kd : r.kd ∈ kinds
  a : r.a ∈ pl
  b : r.b ∈ pl
  ne : r.a ≠ r.b
structure LoreOk (l : Lore) : Prop where
  nd : l.pl.Nodup
  lo : 2 ≤ l.pl.length
  hi : l.pl.length ≤ 9
  nm : ∀ p ∈ l.pl, NameOk p
  rnd : (l.rows.map Row.nm).Nodup
  few : l.rows.length ≤ 20
  ok : ∀ r ∈ l.rows, RowOk l.pl r

/-! sets: parts of the places -/
def IsSet (pl some : List Str) : Prop := some.Sublist pl ∧ 1 ≤ some.length ∧ some.length < pl.length
theorem filter_sub : ∀ {l s : List Str}, s.Sublist l → l.Nodup → l.filter (fun p => decide (p ∈ s)) = s := by
  intro l s h
  induction h with
  | slnil => intro _; rfl
  | @cons l1 l2 a h ih =>
    intro nd
    rw [List.nodup_cons] at nd
    have : a ∉ l1 := fun z => nd.1 (h.subset z)
    rw [List.filter_cons_of_neg (by simpa using this)]
    exact ih nd.2
  | @cons_cons l1 l2 a h ih =>
    intro nd
    rw [List.nodup_cons] at nd
    rw [List.filter_cons_of_pos (by simp)]
    congr 1
    rw [← ih nd.2]
    refine List.filter_congr fun x hx => ?_
    rw [ih nd.2]
    have : x ≠ a := fun e => nd.1 (e ▸ hx)
    simp [this]
/-- all sets in the law's sequence -/
def subs : List Str → List (List Str)
  | [] => [[]]
  | _ => []
theorem cntS_nodup {ys : List Str} (h : ys.Nodup) : cntS ys ys.length = ys.length := by
  have gen : ∀ i, i ≤ ys.length → cntS ys i = i := by
    intro i
    induction i with
    | zero => intro _; rfl
    | succ i ih =>
      intro hi
      unfold cntS
      have hlt : i < ys.length := by omega
      have e : (ys.take i).any (· == ys.getD i Str.empty) = false := by
        rw [Bool.eq_false_iff]
        intro z
        rw [List.any_eq_true] at z
        obtain ⟨x, hx, q⟩ := z
        rw [List.getD_eq_getElem?_getD, List.getElem?_eq_getElem hlt, Option.getD_some, beq_iff_eq] at q
        subst q
        rw [List.mem_take_iff_getElem] at hx
        obtain ⟨j, hj, e⟩ := hx
        have := (List.getElem_inj h).mp e
        omega
      rw [e, ih (by omega)]
      rfl
  exact gen _ (Nat.le_refl _)
/-! the text, read back -/
theorem tl_blank : tl (" " : Str) = 32 :: [] := by decide +kernel
theorem tl_feed : tl ("\n" : Str) = 10 :: [] := by decide +kernel
theorem NameOk.blank {x : Str} (h : NameOk x) : 32 ∉ tl x := fun z => by have := h.2.2 _ z; omega
theorem NameOk.feed {x : Str} (h : NameOk x) : 10 ∉ tl x := fun z => by have := h.2.2 _ z; omega
end Dx

set_option Elab.async false
set_option linter.all false
set_option autoImplicit false
set_option maxRecDepth 100000
set_option maxHeartbeats 1000000
/-! DxMc: what each construct asks, as rewriting. -/
namespace Dx
open PySem PySem.Spec PyProof.Rows L2 TL
section
variable {α β : Type} {Q : D × List Sl → Prop} {QB : Bool × List Sl → Prop} {QL : List D × List Sl → Prop} {QA : List Ar × List Sl → Prop} {N : List Sl → Prop} {T : Bool → D → List Sl → Prop} {ρ : List Sl} {s0 : Sl} {i : Nat} {d : D}
  {f g h : List Sl → R (D × List Sl)} {u v : List Sl → R (Bool × List Sl)} {l : List Sl → R (List D × List Sl)} {a : List Sl → R (List Ar × List Sl)}
def toB (p : D × List Sl) : R (Bool × List Sl) := match p.1 with
  | .bl k => .ok (k, p.2)
  | _ => .bad
@[simp] theorem toB_b {k : Bool} : toB (.bl k, ρ) = .ok (k, ρ) := rfl
def toI (p : D × List Sl) : R (Int × List Sl) := match p.1 with
  | .int k => .ok (k, p.2)
  | _ => .bad
@[simp] theorem toI_i {k : Int} : toI (.int k, ρ) = .ok (k, ρ) := rfl
@[simp] theorem ite_sat {c : Prop} [Decidable c] {x y : R α} {Q : α → Prop} : (if c then x else y).sat Q = if c then x.sat Q else y.sat Q := by by_cases h : c <;> simp [h]
@[simp] theorem iteS_sat {c : Prop} [Decidable c] {x y : RS} : (if c then x else y).sat N T = if c then x.sat N T else y.sat N T := by by_cases h : c <;> simp [h]
theorem ofO_sat {o : Option α} {Q : α → Prop} : (ofO o).sat Q = ∃ z, o = some z ∧ Q z := by cases o <;> simp [ofO, R.sat]
@[simp ↓] theorem evLit_s : (evLit d (s0 :: ρ)).sat Q = Q (d, (s0 :: ρ)) := R.sat_ok _
@[simp] theorem evV_s : evV i (s0 :: ρ) = match (s0 :: ρ)[i]? with
  | some (.sh d) => .ok (d, (s0 :: ρ))
  | some (.ow d) => if frzD d then .ok (d, (s0 :: ρ).set i (.sh d)) else .bad
  | _ => .bad := rfl
@[simp ↓] theorem ev2_s {F : D → D → Option D} : (ev2 F f g (s0 :: ρ)).sat Q = (f (s0 :: ρ)).sat fun p => (g p.2).sat fun q => (ofO (F p.1 q.1)).sat fun z => Q (z, q.2) := by simp [ev2]
@[simp ↓] theorem evB_s : (evB f (s0 :: ρ)).sat QB = (f (s0 :: ρ)).sat fun p => (toB p).sat QB := by
  unfold evB
  rw [R.sat_bind]
  congr 1
@[simp ↓] theorem evT_s : (evT f (s0 :: ρ)).sat QB = (f (s0 :: ρ)).sat fun p => (ofO (truD p.1)).sat fun k => QB (k, p.2) := by simp [evT]
theorem mB {α : Type} {b : Bool} {r s : R α} {Q : α → Prop} : (match b with | true => r | false => s).sat Q = if b = true then r.sat Q else s.sat Q := by cases b <;> rfl
@[simp ↓] theorem evAnd_s : (evAnd u v (s0 :: ρ)).sat QB = (u (s0 :: ρ)).sat fun p => (if p.1 = true then v p.2 else .ok (false, p.2)).sat QB := by
  unfold evAnd
  rw [R.sat_bind]
  congr 1
  funext p
  obtain ⟨b, s⟩ := p
  cases b <;> simp
@[simp ↓] theorem evOr_s : (evOr u v (s0 :: ρ)).sat QB = (u (s0 :: ρ)).sat fun p => (if p.1 = true then .ok (true, p.2) else v p.2).sat QB := by
  unfold evOr
  rw [R.sat_bind]
  congr 1
  funext p
  obtain ⟨b, s⟩ := p
  cases b <;> simp
@[simp ↓] theorem evNot_s : (evNot u (s0 :: ρ)).sat QB = (u (s0 :: ρ)).sat fun p => QB (!p.1, p.2) := by simp [evNot]
@[simp ↓] theorem evYes_s : (evYes (s0 :: ρ)).sat QB = QB (true, (s0 :: ρ)) := R.sat_ok _
@[simp ↓] theorem evIf_s {f g : List Sl → R (α × List Sl)} {Q : α × List Sl → Prop} : (evIf u f g (s0 :: ρ)).sat Q = (u (s0 :: ρ)).sat fun p => (if p.1 = true then f p.2 else g p.2).sat Q := by
  unfold evIf
  rw [R.sat_bind]
  congr 1
  funext p
  obtain ⟨b, s⟩ := p
  cases b <;> simp
@[simp ↓] theorem evAndV_s : (evAndV f g (s0 :: ρ)).sat Q = (f (s0 :: ρ)).sat fun p => (toB p).sat fun k => (if k.1 = true then g k.2 else .ok (.bl false, k.2)).sat Q := by
  unfold evAndV
  rw [R.sat_bind]
  congr 1
  funext p
  obtain ⟨d, s⟩ := p
  cases d <;> first | (rename_i b; cases b <;> simp [toB, toI]; done) | simp [toB, toI]
@[simp ↓] theorem evOrV_s : (evOrV f g (s0 :: ρ)).sat Q = (f (s0 :: ρ)).sat fun p => (toB p).sat fun k => (if k.1 = true then .ok (.bl true, k.2) else g k.2).sat Q := by
  unfold evOrV
  rw [R.sat_bind]
  congr 1
  funext p
  obtain ⟨d, s⟩ := p
  cases d <;> first | (rename_i b; cases b <;> simp [toB, toI]; done) | simp [toB, toI]
@[simp ↓] theorem evNotV_s : (evNotV f (s0 :: ρ)).sat Q = (f (s0 :: ρ)).sat fun p => (toB p).sat fun k => Q (.bl (!k.1), k.2) := by
  unfold evNotV
  rw [R.sat_bind]
  congr 1
  funext p
  obtain ⟨d, s⟩ := p
  cases d <;> first | (rename_i b; cases b <;> simp [toB, toI]; done) | simp [toB, toI]
@[simp ↓] theorem evChn_s {F G : D → D → Option D} : (evChn F G f g h (s0 :: ρ)).sat Q = (f (s0 :: ρ)).sat fun p => (g p.2).sat fun q => (ofO (F p.1 q.1)).sat fun z => (toB (z, q.2)).sat fun k => (if k.1 = true then (h k.2).bind fun r => (ofO (G q.1 r.1)).bind fun z => .ok (z, r.2) else .ok (.bl false, k.2)).sat Q := by
  unfold evChn
  rw [R.sat_bind]
  congr 1
  funext p
  rw [R.sat_bind]
  congr 1
  funext q
  cases F p.1 q.1 with
  | none => simp
  | some z => cases z <;> first | (rename_i b; cases b <;> simp [toB]; done) | simp [toB]
@[simp ↓] theorem evNil_s : (evNil (s0 :: ρ)).sat QL = QL ([], (s0 :: ρ)) := R.sat_ok _
@[simp ↓] theorem evCons_s : (evCons f l (s0 :: ρ)).sat QL = (f (s0 :: ρ)).sat fun p => (l p.2).sat fun q => QL (p.1 :: q.1, q.2) := by simp [evCons]
theorem ifR_s {c : Prop} [Decidable c] {x : R α} {Q : α → Prop} : (if c then x else .bad).sat Q = (c ∧ x.sat Q) := by
  by_cases h : c <;> simp [h]
@[simp ↓] theorem evTup_s : (evTup l (s0 :: ρ)).sat Q = (l (s0 :: ρ)).sat fun p => okLen p.1.length = true ∧ Q (.tup p.1, p.2) := by simp [evTup, ifR_s]
@[simp ↓] theorem evLst_s : (evLst l (s0 :: ρ)).sat Q = (l (s0 :: ρ)).sat fun p => okLen p.1.length = true ∧ Q (.lst p.1, p.2) := by simp [evLst, ifR_s]
@[simp ↓] theorem evL_s {F : List D → Option D} : (evL F l (s0 :: ρ)).sat Q = (l (s0 :: ρ)).sat fun p => (ofO (F p.1)).sat fun z => Q (z, p.2) := by simp [evL]
@[simp ↓] theorem frzE_s : (frzE f (s0 :: ρ)).sat Q = (f (s0 :: ρ)).sat fun p => frzD p.1 = true ∧ Q p := by simp [frzE, ifR_s]
@[simp ↓] theorem evNeg_s : (evNeg f (s0 :: ρ)).sat Q = (f (s0 :: ρ)).sat fun p => (toI p).sat fun k => Q (.int (-k.1), k.2) := by
  unfold evNeg
  rw [R.sat_bind]
  congr 1
  funext p
  obtain ⟨d, s⟩ := p
  cases d <;> first | (rename_i b; cases b <;> simp [toB, toI]; done) | simp [toB, toI]
@[simp ↓] theorem evPart_none {Q : Option Int × List Sl → Prop} : (evPart none (s0 :: ρ)).sat Q = Q (none, (s0 :: ρ)) := R.sat_ok _
@[simp ↓] theorem evPart_some {Q : Option Int × List Sl → Prop} : (evPart (some f) (s0 :: ρ)).sat Q = (f (s0 :: ρ)).sat fun p => (toI p).sat fun k => Q (some k.1, k.2) := by
  unfold evPart
  rw [R.sat_bind]
  congr 1
  funext p
  obtain ⟨d, s⟩ := p
  cases d <;> first | (rename_i b; cases b <;> simp [toB, toI]; done) | simp [toB, toI]
@[simp ↓] theorem evSl3_s {p q : Option (List Sl → R (D × List Sl))} : (evSl3 f p q (s0 :: ρ)).sat Q = (f (s0 :: ρ)).sat fun x => (evPart p x.2).sat fun y => (evPart q y.2).sat fun z => (ofO (slA y.1 z.1 x.1)).sat fun w => Q (w, z.2) := by simp [evSl3, evSl]
@[simp ↓] theorem evMt_s {F : D → List D → Option (D × D)} : (evMt F i l (s0 :: ρ)).sat Q = ((∃ d, ownD (s0 :: ρ) i = some d ∧ isLst d = true) ∧ (l (s0 :: ρ)).sat fun p => (ofO (ownD p.2 i)).sat fun d => (ofO (F d p.1)).sat fun z => Q (z.1, putO p.2 i z.2)) := by
  unfold evMt
  cases ownD (s0 :: ρ) i with
  | none => simp
  | some d => simp [ifR_s]
@[simp ↓] theorem evIxV_s : (evIxV i g (s0 :: ρ)).sat Q = ((∃ d, viewD (s0 :: ρ) i = some d) ∧ (g (s0 :: ρ)).sat fun p => (ofO (viewD p.2 i)).sat fun d => (ofO (ixO d p.1)).sat fun z => Q (z, p.2)) := by
  unfold evIxV
  cases viewD (s0 :: ρ) i with
  | none => simp
  | some d => simp
@[simp ↓] theorem evInV_s {F : D → D → Option D} : (evInV F i f (s0 :: ρ)).sat Q = (f (s0 :: ρ)).sat fun p => (ofO (viewD p.2 i)).sat fun d => (ofO (F p.1 d)).sat fun z => Q (z, p.2) := by simp [evInV]
@[simp ↓] theorem evLenV_s : (evLenV i (s0 :: ρ)).sat Q = (ofO (viewD (s0 :: ρ) i)).sat fun d => (ofO (lenO [d])).sat fun z => Q (z, (s0 :: ρ)) := by simp [evLenV]
@[simp ↓] theorem evListV_s : (evListV i (s0 :: ρ)).sat Q = (ofO (viewD (s0 :: ρ) i)).sat fun d => (ofO (listO [d])).sat fun z => Q (z, (s0 :: ρ)) := by simp [evListV]
@[simp ↓] theorem evDic0_s : (evDic0 (s0 :: ρ)).sat Q = Q (.dic [], (s0 :: ρ)) := R.sat_ok _
@[simp ↓] theorem evIsi_s {t : IsiT} : (evIsi t f (s0 :: ρ)).sat Q = (f (s0 :: ρ)).sat fun p => (ofO (isiF t p.1)).sat fun z => Q (z, p.2) := by simp [evIsi]
@[simp ↓] theorem evRg_s : (evRg f (s0 :: ρ)).sat Q = (f (s0 :: ρ)).sat fun p => (ofO (rgO p.1)).sat fun z => Q (z, p.2) := by simp [evRg]
@[simp ↓] theorem evLenSet_s : (evLenSet f (s0 :: ρ)).sat Q = (f (s0 :: ρ)).sat fun p => (ofO (lenSetO p.1)).sat fun z => Q (z, p.2) := by simp [evLenSet]
@[simp ↓] theorem evSplit_s : (evSplit f g (s0 :: ρ)).sat Q = (f (s0 :: ρ)).sat fun p => isStr p.1 = true ∧ (g p.2).sat fun q => (ofO (splitO p.1 q.1)).sat fun z => Q (z, q.2) := by simp [evSplit, evS1, ifR_s]
@[simp ↓] theorem evJoin_s : (evJoin f g (s0 :: ρ)).sat Q = (f (s0 :: ρ)).sat fun p => isStr p.1 = true ∧ (g p.2).sat fun q => (ofO (joinO p.1 q.1)).sat fun z => Q (z, q.2) := by simp [evJoin, evS1, ifR_s]
@[simp ↓] theorem srcD_s : (srcD f (s0 :: ρ)).sat QL = (f (s0 :: ρ)).sat fun p => (ofO (itD p.1)).sat fun l => QL (l, p.2) := by simp [srcD]
@[simp ↓] theorem srcL_s {F : List D → Option (List D)} : (srcL F l (s0 :: ρ)).sat QL = (l (s0 :: ρ)).sat fun p => (ofO (F p.1)).sat fun l => QL (l, p.2) := by simp [srcL]
@[simp ↓] theorem srcI_s {F : D → Option (List D)} : (srcI F f (s0 :: ρ)).sat QL = (f (s0 :: ρ)).sat fun p => (ofO (F p.1)).sat fun l => QL (l, p.2) := by simp [srcI]
@[simp ↓] theorem evLc_s {vs : List Nat} {s : List Sl → R (List D × List Sl)} {t : D → List Sl → Option (List Sl)} : (evLc vs s t u f (s0 :: ρ)).sat Q = (s (s0 :: ρ)).sat fun p => (lcL vs t u f [] p.1 (wipeR p.2 vs)).sat fun q => Q (.lst q.1, q.2) := by simp [evLc]
@[simp ↓] theorem asNil_s : (asNil (s0 :: ρ)).sat QA = QA ([], (s0 :: ρ)) := R.sat_ok _
@[simp ↓] theorem asD_s : (asD f a (s0 :: ρ)).sat QA = (f (s0 :: ρ)).sat fun p => (a p.2).sat fun q => QA (.d p.1 :: q.1, q.2) := by simp [asD]
@[simp ↓] theorem asS_s : (asS i a (s0 :: ρ)).sat QA = (heldB (s0 :: ρ) i = true ∧ (a (s0 :: ρ)).sat fun q => QA (.s i :: q.1, q.2)) := by simp [asS, ifR_s]
@[simp ↓] theorem evCall_s {F : Fd} : (evCall F a (s0 :: ρ)).sat Q = (a (s0 :: ρ)).sat fun p => (arIx p.1).Nodup ∧ (ofO (mkArgs F.md p.1 p.2)).sat fun ds => (F.sem ds).sat fun q => Q (q.1, putOuts F.md p.1 q.2 p.2) := by simp [evCall, ifR_s]
@[simp ↓] theorem evFld_s {cs : List Str} {x : Str} : (evFld cs x f (s0 :: ρ)).sat Q = (f (s0 :: ρ)).sat fun p => (ofO (fldF cs x p.1)).sat fun z => Q (z, p.2) := by simp [evFld]
@[simp ↓] theorem evFldV_s {cs : List Str} {x : Str} : (evFldV cs x i (s0 :: ρ)).sat Q = (ofO (ownD (s0 :: ρ) i)).sat fun d => (ofO (fldF cs x d)).sat fun z => Q (z, (s0 :: ρ)) := by simp [evFldV]
@[simp ↓] theorem evProp_s {tab : List (Str × Fd)} : (evProp tab f (s0 :: ρ)).sat Q = (f (s0 :: ρ)).sat fun p => (ofO ((insC p.1).bind fun c => tab.lookup c)).sat fun F => (F.md = [.sh] ∧ F.own = false) ∧ (F.sem [p.1]).sat fun q => Q (q.1, p.2) := by
  simp [evProp, ifR_s]
@[simp ↓] theorem evMeth_s {tab : List (Str × Fd)} {m : Str} {own : Bool} : (evMeth tab m own f a (s0 :: ρ)).sat Q = (f (s0 :: ρ)).sat fun p => (ofO (methF tab m own p.1)).sat fun F => (a p.2).sat fun q => (arIx (.d p.1 :: q.1)).Nodup ∧ (ofO (mkArgs F.md (.d p.1 :: q.1) q.2)).sat fun ds => (F.sem ds).sat fun r => Q (r.1, putOuts F.md (.d p.1 :: q.1) r.2 q.2) := by
  simp [evMeth, ifR_s]
@[simp ↓] theorem evMake_s {c : Str} {F : Fd} : (evMake c F a (s0 :: ρ)).sat Q = (a (s0 :: ρ)).sat fun p => arIx p.1 = [] ∧ (ofO (mkTail F p.1 p.2)).sat fun ds => (F.sem (.ins c [] :: ds)).sat fun q => (ofO (newF c q)).sat fun z => Q (z, p.2) := by
  simp [evMake, ifR_s]
/-! statements -/
@[simp ↓] theorem stRet_s : (stRet f (s0 :: ρ)).sat N T = (f (s0 :: ρ)).sat fun p => T false p.1 p.2 := by simp [stRet]
@[simp ↓] theorem stRetO_s : (stRetO f (s0 :: ρ)).sat N T = (f (s0 :: ρ)).sat fun p => T true p.1 p.2 := by simp [stRetO]
@[simp ↓] theorem stRetN_s : (stRetN (s0 :: ρ)).sat N T = T false .non (s0 :: ρ) := RS.sat_rt _ _ _
@[simp] theorem stRetV_s : stRetV i (s0 :: ρ) = match (s0 :: ρ)[i]? with
  | some (.ow d) => .rt true d (s0 :: ρ)
  | _ => .bad := rfl
@[simp ↓] theorem stExp_s : (stExp f (s0 :: ρ)).sat N T = (f (s0 :: ρ)).sat fun p => N p.2 := by simp [stExp]
theorem mS {b : Bool} {r s : RS} : (match b with | true => r | false => s).sat N T = if b = true then r.sat N T else s.sat N T := by cases b <;> rfl
@[simp ↓] theorem stIf_s {p q : List Sl → RS} : (stIf u p q (s0 :: ρ)).sat N T = (u (s0 :: ρ)).sat fun x => (if x.1 = true then p x.2 else q x.2).sat N T := by
  unfold stIf
  rw [R.st_sat]
  congr 1
  funext p
  obtain ⟨b, s⟩ := p
  cases b <;> simp
@[simp] theorem ofT_s {o : Option α} {k : α → RS} : (ofT o k).sat N T = (ofO o).sat fun z => (k z).sat N T := by cases o <;> simp [ofT]
@[simp ↓] theorem stAsg_s {t : D → List Sl → Option (List Sl)} : (stAsg t f (s0 :: ρ)).sat N T = (f (s0 :: ρ)).sat fun p => (ofO (t p.1 p.2)).sat N := by simp [stAsg]
@[simp ↓] theorem stOwn_s : (stOwn i f (s0 :: ρ)).sat N T = (f (s0 :: ρ)).sat fun p => (ofO (putSl p.2 i (.ow p.1))).sat N := by simp [stOwn]
@[simp ↓] theorem stSet_s : (stSet i f (s0 :: ρ)).sat N T = (f (s0 :: ρ)).sat fun p => (ofO (putSl p.2 i (.sh p.1))).sat N := by simp [stSet]
@[simp ↓] theorem stPut_s : (stPut i f g (s0 :: ρ)).sat N T = (f (s0 :: ρ)).sat fun p => (∃ d, ownD p.2 i = some d) ∧ (g p.2).sat fun q => (ofO (ownD q.2 i)).sat fun d => (ofO (setF d q.1 p.1)).sat fun d' => N (putO q.2 i d') := by
  simp only [stPut, R.st_sat, ofT_s, RS.sat_nx]
  congr 1
  funext p
  cases ownD p.2 i <;> simp
@[simp ↓] theorem stFld_s {cs : List Str} {x : Str} : (stFld cs x i f (s0 :: ρ)).sat N T = (f (s0 :: ρ)).sat fun p => (ofO (ownD p.2 i)).sat fun d => (ofO (setFld cs x d p.1)).sat fun d' => N (putO p.2 i d') := by simp [stFld]
@[simp ↓] theorem stFor_s {s : List Sl → R (List D × List Sl)} {t : D → List Sl → Option (List Sl)} {k : List Sl → RS} : (stFor s t k (s0 :: ρ)).sat N T = (s (s0 :: ρ)).sat fun p => (forL t k p.1 p.2).sat N T := by simp [stFor]
@[simp ↓] theorem mxNil_s {Q : List (Bool × D) × List Sl → Prop} : (mxNil (s0 :: ρ)).sat Q = Q ([], (s0 :: ρ)) := R.sat_ok _
@[simp ↓] theorem mxC_s {b : Bool} {m : List Sl → R (List (Bool × D) × List Sl)} {Q : List (Bool × D) × List Sl → Prop} : (mxC b f m (s0 :: ρ)).sat Q = (f (s0 :: ρ)).sat fun p => (m p.2).sat fun q => Q ((b, p.1) :: q.1, q.2) := by simp [mxC]
@[simp ↓] theorem stPar_s {is : List Nat} {m : List Sl → R (List (Bool × D) × List Sl)} : (stPar is m (s0 :: ρ)).sat N T = (m (s0 :: ρ)).sat fun p => (ofO (putMx is p.1 p.2)).sat N := by simp [stPar]
end
/-! slots -/
@[simp] theorem putSl_s {s0 : Sl} {ρ : List Sl} {i : Nat} {s : Sl} : putSl (s0 :: ρ) i s = match (s0 :: ρ)[i]? with
  | some t => if t.free then some ((s0 :: ρ).set i s) else none
  | none => none := rfl
@[simp] theorem tgN_s {ρ : List Sl} {i : Nat} {d : D} : tgN i d ρ = putSl ρ i (.sh d) := rfl
@[simp] theorem tgNil_s {ρ : List Sl} : tgNil [] ρ = some ρ := rfl
@[simp] theorem tgCons_s {t : D → List Sl → Option (List Sl)} {u : List D → List Sl → Option (List Sl)} {d : D} {r : List D} {ρ : List Sl} : tgCons t u (d :: r) ρ = (t d ρ).bind (u r) := rfl
@[simp] theorem tgT_tup {n : Nat} {u : List D → List Sl → Option (List Sl)} {l : List D} {ρ : List Sl} : tgT n u (.tup l) ρ = if l.length = n then u l ρ else none := rfl
@[simp] theorem tgT_lst {n : Nat} {u : List D → List Sl → Option (List Sl)} {l : List D} {ρ : List Sl} : tgT n u (.lst l) ρ = if l.length = n then u l ρ else none := rfl
@[simp] theorem free_un : Sl.un.free = true := rfl
@[simp] theorem free_sh {d : D} : (Sl.sh d).free = true := rfl
@[simp] theorem free_ow {d : D} : (Sl.ow d).free = true := rfl
@[simp] theorem held_ow {d : D} : (Sl.ow d).held = true := rfl
@[simp] theorem held_mt {d : D} : (Sl.mt d).held = true := rfl
@[simp] theorem held_br {d : D} : (Sl.br d).held = true := rfl
@[simp] theorem ownD_s {s0 : Sl} {ρ : List Sl} {i : Nat} : ownD (s0 :: ρ) i = match (s0 :: ρ)[i]? with
  | some (.ow d) => some d
  | some (.mt d) => some d
  | _ => none := rfl
@[simp] theorem viewD_s {s0 : Sl} {ρ : List Sl} {i : Nat} : viewD (s0 :: ρ) i = match (s0 :: ρ)[i]? with
  | some (.sh d) => some d
  | some (.ow d) => if frzD d then some d else none
  | some (.mt d) => if frzD d then some d else none
  | some (.br d) => some d
  | _ => none := rfl
@[simp] theorem putO_s {s0 : Sl} {ρ : List Sl} {i : Nat} {d : D} : putO (s0 :: ρ) i d = match (s0 :: ρ)[i]? with
  | some (.ow _) => (s0 :: ρ).set i (.ow d)
  | some (.mt _) => (s0 :: ρ).set i (.mt d)
  | _ => (s0 :: ρ) := rfl
@[simp] theorem heldB_s {s0 : Sl} {ρ : List Sl} {i : Nat} : heldB (s0 :: ρ) i = match (s0 :: ρ)[i]? with
  | some s => s.held
  | none => false := rfl
@[simp] theorem brD_s {s0 : Sl} {ρ : List Sl} {i : Nat} : brD (s0 :: ρ) i = match (s0 :: ρ)[i]? with
  | some (.br d) => some d
  | _ => (ownD (s0 :: ρ) i).bind fun d => if frzD d then some d else none := rfl
@[simp] theorem arIx_nil : arIx [] = [] := rfl
@[simp] theorem arIx_s {i : Nat} {as : List Ar} : arIx (.s i :: as) = i :: arIx as := rfl
@[simp] theorem arIx_d {d : D} {as : List Ar} : arIx (.d d :: as) = arIx as := rfl
@[simp] theorem mkArgs_nil {ρ : List Sl} : mkArgs [] [] ρ = some [] := rfl
@[simp] theorem mkArgs_cons {m : Md} {ms : List Md} {a : Ar} {as : List Ar} {ρ : List Sl} : mkArgs (m :: ms) (a :: as) ρ = (mkArg m a ρ).bind fun d => (mkArgs ms as ρ).map fun l => d :: l := rfl
@[simp] theorem mkArg_sh {d : D} {ρ : List Sl} : mkArg .sh (.d d) ρ = some d := rfl
@[simp] theorem mkArg_br {d : D} {ρ : List Sl} : mkArg .br (.d d) ρ = if frzD d then some d else none := rfl
@[simp] theorem mkArg_brs {i : Nat} {ρ : List Sl} : mkArg .br (.s i) ρ = brD ρ i := rfl
@[simp] theorem mkArg_mt {i : Nat} {ρ : List Sl} : mkArg .mt (.s i) ρ = ownD ρ i := rfl
@[simp] theorem putOuts_nil {ds : List D} {ρ : List Sl} : putOuts [] [] ds ρ = ρ := by cases ds <;> rfl
@[simp] theorem putOuts_mt {i : Nat} {ms : List Md} {as : List Ar} {d : D} {ds : List D} {ρ : List Sl} : putOuts (.mt :: ms) (.s i :: as) (d :: ds) ρ = putOuts ms as ds (putO ρ i d) := rfl
@[simp] theorem putOuts_sh {a : Ar} {ms : List Md} {as : List Ar} {ds : List D} {ρ : List Sl} : putOuts (.sh :: ms) (a :: as) ds ρ = putOuts ms as ds ρ := by cases ds <;> rfl
@[simp] theorem putOuts_br {a : Ar} {ms : List Md} {as : List Ar} {ds : List D} {ρ : List Sl} : putOuts (.br :: ms) (a :: as) ds ρ = putOuts ms as ds ρ := by cases ds <;> rfl
@[simp] theorem outsR_nil {i : Nat} {ρ : List Sl} : outsR [] i ρ = some [] := rfl
@[simp] theorem outsR_mt {ms : List Md} {i : Nat} {s0 : Sl} {ρ : List Sl} : outsR (.mt :: ms) i (s0 :: ρ) = match (s0 :: ρ)[i]? with
  | some (.mt d) => (outsR ms (i + 1) (s0 :: ρ)).map fun l => d :: l
  | _ => none := rfl
@[simp] theorem outsR_sh {ms : List Md} {i : Nat} {ρ : List Sl} : outsR (.sh :: ms) i ρ = outsR ms (i + 1) ρ := rfl
@[simp] theorem outsR_br {ms : List Md} {i : Nat} {ρ : List Sl} : outsR (.br :: ms) i ρ = outsR ms (i + 1) ρ := rfl
@[simp] theorem wipeR_nil {ρ : List Sl} : wipeR ρ [] = ρ := rfl
@[simp] theorem wipeR_cons {ρ : List Sl} {v : Nat} {vs : List Nat} : wipeR ρ (v :: vs) = (wipeR ρ vs).set v .un := rfl
@[simp] theorem putMx_nil {ρ : List Sl} : putMx [] [] ρ = some ρ := rfl
@[simp] theorem putMx_cons {i : Nat} {is : List Nat} {p : Bool × D} {ps : List (Bool × D)} {ρ : List Sl} : putMx (i :: is) (p :: ps) ρ = (putSl ρ i (slOf p)).bind (putMx is ps) := rfl
@[simp] theorem slOf_t {d : D} : slOf (true, d) = .ow d := rfl
@[simp] theorem slOf_f {d : D} : slOf (false, d) = .sh d := rfl
@[simp] theorem iniS_nil {n : Nat} : iniS [] [] n = List.replicate n .un := rfl
@[simp] theorem iniS_cons {m : Md} {ms : List Md} {d : D} {ds : List D} {n : Nat} : iniS (m :: ms) (d :: ds) (n + 1) = mdS m d :: iniS ms ds n := by simp [iniS]
@[simp] theorem mdS_sh {d : D} : mdS .sh d = .sh d := rfl
@[simp] theorem mdS_br {d : D} : mdS .br d = .br d := rfl
@[simp] theorem mdS_mt {d : D} : mdS .mt d = .mt d := rfl
@[simp] theorem frz_lst {l : List D} : frzD (.lst l) = true := rfl
@[simp] theorem frz_dic {l : List (Str × D)} : frzD (.dic l) = true := rfl
@[simp] theorem isLst_lst {l : List D} : isLst (.lst l) = true := rfl
@[simp] theorem isStr_str {x : Str} : isStr (.str x) = true := rfl
/-! operators -/
section
variable {i j : Int} {x y : Str} {l m : List D} {b c : Bool} {Q : D → Prop}
@[simp] theorem lt_i : ltO (.int i) (.int j) = some (.bl (decide (i < j))) := rfl
@[simp] theorem le_i : leO (.int i) (.int j) = some (.bl (decide (i ≤ j))) := rfl
@[simp] theorem gt_i : gtO (.int i) (.int j) = some (.bl (decide (j < i))) := rfl
@[simp] theorem ge_i : geO (.int i) (.int j) = some (.bl (decide (j ≤ i))) := rfl
@[simp] theorem sub_i : subO (.int i) (.int j) = some (.int (i - j)) := rfl
@[simp] theorem add_i : add2O (.int i) (.int j) = some (.int (i + j)) := rfl
@[simp] theorem div_i : (ofO (divO (.int i) (.int j))).sat Q = ((0 < j ∧ bitsOf j < 9000) ∧ Q (.int (i / j))) := by
  unfold divO intO
  by_cases h : 0 < j ∧ bitsOf j < 9000 <;> simp [h]
@[simp] theorem mod_i : (ofO (modO (.int i) (.int j))).sat Q = (0 < j ∧ Q (.int (i % j))) := by
  unfold modO intO
  by_cases h : 0 < j <;> simp [h]
@[simp] theorem mul_i : (ofO (mulO (.int i) (.int j))).sat Q = (bitsOf i + bitsOf j < 1000000 ∧ Q (.int (i * j))) := by
  unfold mulO intO
  by_cases h : bitsOf i + bitsOf j < 1000000 <;> simp [h]
@[simp] theorem pow_i : (ofO (powO (.int i) (.int j))).sat Q = (CPowX i j ∧ Q (.int (i ^ j.toNat))) := by
  unfold powO intO
  by_cases h : CPowX i j <;> simp [h]
theorem add_sl : add2O (.lst l) (.lst m) = if okLen (l.length + m.length) then some (.lst (l ++ m)) else none := by
  unfold add2O catO
  by_cases h : okLen (l.length + m.length) = true <;> simp [h, addO]
@[simp] theorem add_l : (ofO (add2O (.lst l) (.lst m))).sat Q = (okLen (l.length + m.length) = true ∧ Q (.lst (l ++ m))) := by
  rw [add_sl]
  by_cases h : okLen (l.length + m.length) = true <;> simp [h]
@[simp] theorem add_t : (ofO (add2O (.tup l) (.tup m))).sat Q = (okLen (l.length + m.length) = true ∧ Q (.tup (l ++ m))) := by
  unfold add2O catO addO
  by_cases h : okLen (l.length + m.length) = true <;> simp [h]
@[simp] theorem add_s : (ofO (add2O (.str x) (.str y))).sat Q = (okLen (x.length + y.length) = true ∧ Q (.str (x ++ y))) := by
  unfold add2O catO addO
  by_cases h : okLen (x.length + y.length) = true <;> simp [h]
@[simp] theorem len_l : lenO [.lst l] = some (.int l.length) := rfl
@[simp] theorem len_t : lenO [.tup l] = some (.int l.length) := rfl
@[simp] theorem len_d {l : List (Str × D)} : lenO [.dic l] = some (.int l.length) := rfl
@[simp] theorem len_s : (ofO (lenO [.str x])).sat Q = (okLen x.length = true ∧ Q (.int x.length)) := by
  unfold lenO
  by_cases h : okLen x.length = true <;> simp [h]
@[simp] theorem abs_i : absO [.int i] = some (.int (if i < 0 then -i else i)) := rfl
@[simp] theorem max_i : maxO [.int i, .int j] = some (.int (if j > i then j else i)) := rfl
@[simp] theorem min_i : minO [.int i, .int j] = some (.int (if j < i then j else i)) := rfl
@[simp] theorem int_i : intF [.int i] = some (.int i) := rfl
@[simp] theorem int_b : intF [.bl b] = some (.int (if b then 1 else 0)) := rfl
@[simp] theorem list_l : listO [.lst l] = some (.lst l) := rfl
@[simp] theorem list_t : listO [.tup l] = some (.lst l) := rfl
@[simp] theorem tup_l : tupO [.lst l] = some (.tup l) := rfl
@[simp] theorem tup_t : tupO [.tup l] = some (.tup l) := rfl
@[simp] theorem tru_b : truD (.bl b) = some b := rfl
@[simp] theorem tru_l : truD (.lst l) = some (!l.isEmpty) := rfl
@[simp] theorem tru_t : truD (.tup l) = some (!l.isEmpty) := rfl
@[simp] theorem it_l : itD (.lst l) = some l := rfl
@[simp] theorem it_t : itD (.tup l) = some l := rfl
@[simp] theorem it_s : itD (.str x) = some (chrD x) := rfl
@[simp] theorem it_d {l : List (Str × D)} : itD (.dic l) = some (l.map fun p => .str p.1) := rfl
@[simp] theorem itm_d {l : List (Str × D)} : itmO (.dic l) = some (itemD l) := rfl
@[simp] theorem val_d {l : List (Str × D)} : valO (.dic l) = some (l.map (·.2)) := rfl
@[simp] theorem zip_l : zipO [.lst l, .lst m] = some (zipD l m) := rfl
@[simp] theorem zip_t : zipO [.tup l, .tup m] = some (zipD l m) := rfl
@[simp] theorem isn {d : D} : isNO d .non = some (.bl (isNon d)) := rfl
@[simp] theorem notn {d : D} : notNO d .non = some (.bl (!isNon d)) := rfl
@[simp] theorem isNon_n : isNon .non = true := rfl
@[simp] theorem isNon_t : isNon (.tup l) = false := rfl
@[simp] theorem isNon_l : isNon (.lst l) = false := rfl
@[simp] theorem isNon_s : isNon (.str x) = false := rfl
@[simp] theorem isNon_i : isNon (.int i) = false := rfl
@[simp] theorem isNon_o {c : Str} {fs : List (Str × D)} : isNon (.ins c fs) = false := rfl
@[simp] theorem insC_o {c : Str} {fs : List (Str × D)} : insC (.ins c fs) = some c := rfl
theorem app_l {d : D} : appF (.lst l) [d] = if decide (l.length < sizeLine) then some (.non, .lst (l ++ [d])) else none := rfl
@[simp] theorem app_s {d : D} {Q : D × D → Prop} : (ofO (appF (.lst l) [d])).sat Q = (l.length < sizeLine ∧ Q (.non, .lst (l ++ [d]))) := by
  unfold appF
  by_cases h : l.length < sizeLine <;> simp [h]
@[simp] theorem ext_s {Q : D × D → Prop} : (ofO (extF (.lst l) [.lst m])).sat Q = (l.length + m.length ≤ sizeLine ∧ Q (.non, .lst (l ++ m))) := by
  unfold extF
  by_cases h : l.length + m.length ≤ sizeLine <;> simp [h]
@[simp] theorem rng1_s {Q : List D → Prop} : (ofO (rng1O [.int j])).sat Q = (smI j = true ∧ Q (rngD 0 j.toNat)) := by
  unfold rng1O
  by_cases h : smI j = true <;> simp [h]
@[simp] theorem rng2_s {Q : List D → Prop} : (ofO (rng2O [.int i, .int j])).sat Q = ((smI i = true ∧ smI j = true) ∧ Q (rngD i (j - i).toNat)) := by
  unfold rng2O
  by_cases h : smI i = true <;> by_cases h2 : smI j = true <;> simp [h, h2]
@[simp] theorem ix_l : ixO (.lst l) (.int i) = atI l i := rfl
@[simp] theorem ix_t : ixO (.tup l) (.int i) = atI l i := rfl
@[simp] theorem ix_d {l : List (Str × D)} : ixO (.dic l) (.str x) = l.lookup x := rfl
@[simp] theorem sl_l {lo hi : Option Int} : slA lo hi (.lst l) = some (.lst (cutL l lo hi)) := rfl
@[simp] theorem sl_t {lo hi : Option Int} : slA lo hi (.tup l) = some (.tup (cutL l lo hi)) := rfl
theorem eqB_i : eqO (.int i) (.int j) = some (.bl (i == j)) := rfl
@[simp] theorem eq_i : eqO (.int i) (.int j) = some (.bl (decide (i = j))) := rfl
@[simp] theorem ne_i : neO (.int i) (.int j) = some (.bl (!decide (i = j))) := rfl
@[simp] theorem eq_s : eqO (.str x) (.str y) = some (.bl (decide (x = y))) := rfl
@[simp] theorem ne_s : neO (.str x) (.str y) = some (.bl (!decide (x = y))) := rfl
@[simp] theorem eq_b : eqO (.bl b) (.bl c) = some (.bl (b == c)) := rfl
@[simp] theorem ne_b : neO (.bl b) (.bl c) = some (.bl (!(b == c))) := rfl
end
/-! places -/
section
variable {α β : Type} {x y z w v : α} {l : List α}
theorem atI_nat {l : List α} {i : Int} {n : Nat} (e : i = n) (h : n < l.length) : atI l i = l[n]? := by
  subst e
  unfold atI ixN
  rw [if_pos (by omega), if_pos (by omega)]
  rfl
theorem atI_neg {l : List α} {n : Nat} (h0 : 0 < n) (h : n ≤ l.length) : atI l (-(n : Int)) = l[l.length - n]? := by
  unfold atI ixN
  rw [if_neg (by omega), if_pos (by omega)]
  show l[(-(n : Int) + (l.length : Int)).toNat]? = _
  congr 1
  omega
@[simp] theorem atI_0 : atI (x :: l) 0 = some x := by rw [atI_nat (i := 0) (n := 0) rfl (by simp)]; rfl
@[simp] theorem atI_1 : atI (x :: y :: l) 1 = some y := by rw [atI_nat (i := 1) (n := 1) rfl (by simp)]; rfl
@[simp] theorem atI_2 : atI (x :: y :: z :: l) 2 = some z := by rw [atI_nat (i := 2) (n := 2) rfl (by simp)]; rfl
@[simp] theorem atI_3 : atI (x :: y :: z :: w :: l) 3 = some w := by rw [atI_nat (i := 3) (n := 3) rfl (by simp)]; rfl
@[simp] theorem atI_4 : atI (x :: y :: z :: w :: v :: l) 4 = some v := by rw [atI_nat (i := 4) (n := 4) rfl (by simp)]; rfl
@[simp] theorem atI_map {f : α → β} {l : List α} {i : Int} : atI (l.map f) i = (atI l i).map f := by
  unfold atI
  rw [List.length_map]
  cases ixN l.length i with
  | none => rfl
  | some n => simp
theorem atI_mem {l : List α} {i : Int} (h0 : 0 ≤ i) (h : i < l.length) : ∃ x, atI l i = some x ∧ l[i.toNat]? = some x := by
  rw [atI_nat (n := i.toNat) (by omega) (by omega)]
  exact ⟨_, List.getElem?_eq_getElem (by omega), List.getElem?_eq_getElem (by omega)⟩
@[simp] theorem ixN_0 {n : Nat} : ixN (n + 1) 0 = some 0 := by unfold ixN; simp
@[simp] theorem ixN_1 {n : Nat} : ixN (n + 2) 1 = some 1 := by unfold ixN; rw [if_pos (by omega), if_pos (by omega)]; rfl
@[simp] theorem ixN_2 {n : Nat} : ixN (n + 3) 2 = some 2 := by unfold ixN; rw [if_pos (by omega), if_pos (by omega)]; rfl
@[simp] theorem set_l {l : List D} {j : Int} {v : D} : setF (.lst l) (.int j) v = (ixN l.length j).map fun n => .lst (l.set n v) := rfl
@[simp] theorem set_d {l : List (Str × D)} {k : Str} {v : D} {Q : D → Prop} : (ofO (setF (.dic l) (.str k) v)).sat Q = (l.length < sizeLine ∧ Q (.dic (putD l k v))) := by
  unfold setF
  by_cases h : l.length < sizeLine <;> simp [h]
theorem bitsOf_lt {i : Int} {k : Nat} (h : i.natAbs < 2 ^ k) (hk : 0 < k) : bitsOf i < k := by
  unfold bitsOf
  by_cases h0 : i.natAbs = 0
  · rw [h0]; simpa using hk
  · exact (Nat.log2_lt h0).mpr h
end
/-! sizes of ints -/
def Bd (k : Nat) (i : Int) : Prop := i.natAbs < 2 ^ k
instance (k : Nat) (i : Int) : Decidable (Bd k i) := by unfold Bd; infer_instance
theorem Bd.mono {j k : Nat} {i : Int} (h : Bd j i) (l : j ≤ k) : Bd k i := Nat.lt_of_lt_of_le h (Nat.pow_le_pow_right (by decide) l)
theorem Bd.mul {j k : Nat} {x y : Int} (a : Bd j x) (b : Bd k y) : Bd (j + k) (x * y) := by
  unfold Bd at *
  rw [Int.natAbs_mul, Nat.pow_add]
  exact Nat.mul_lt_mul_of_lt_of_lt a b
theorem Bd.add {j k : Nat} {x y : Int} (a : Bd j x) (b : Bd k y) : Bd (max j k + 1) (x + y) := by
  unfold Bd at *
  have h1 : 2 ^ j ≤ 2 ^ max j k := Nat.pow_le_pow_right (by decide) (Nat.le_max_left ..)
  have h2 : 2 ^ k ≤ 2 ^ max j k := Nat.pow_le_pow_right (by decide) (Nat.le_max_right ..)
  have h3 := Int.natAbs_add_le x y
  rw [Nat.pow_succ]
  omega
theorem Bd.emod {k : Nat} {x y : Int} (h0 : 0 < y) (b : Bd k y) : Bd k (x % y) := by
  unfold Bd at *
  have h1 := Int.emod_nonneg x (show y ≠ 0 by omega)
  have h2 := Int.emod_lt_of_pos x h0
  omega
theorem Bd.lit {i : Int} (h : decide (i.natAbs < 2 ^ 64) = true) : Bd 64 i := of_decide_eq_true h
theorem Bd.lit2 {i : Int} (h : decide (i.natAbs < 2 ^ 1100) = true) : Bd 1100 i := of_decide_eq_true h
theorem Bd.ite {k : Nat} {c : Prop} [Decidable c] {x y : Int} (a : Bd k x) (b : Bd k y) : Bd k (if c then x else y) := by by_cases h : c <;> simpa [h]
theorem Bd.bits {k : Nat} {i : Int} (h : Bd k i) (hk : 0 < k) : bitsOf i < k := bitsOf_lt h hk
theorem Bd.two {j k : Nat} {x y : Int} (a : Bd j x) (b : Bd k y) (h : j + k ≤ 1000000) (hj : 0 < j) (hk : 0 < k) : bitsOf x + bitsOf y < 1000000 := by
  have := a.bits hj
  have := b.bits hk
  omega
theorem Bd.pow {k : Nat} {x : Int} (a : Bd k x) (h : k ≤ 2 ^ 20) {j : Int} (h0 : 0 ≤ j) (hj : j ≤ 64) : CPowX x j := by
  refine ⟨h0, ?_⟩
  have : Builtin.Int.intBits x ≤ k := by
    unfold Builtin.Int.intBits
    split
    · omega
    · rename_i z
      have hz : x.natAbs ≠ 0 := by simpa using z
      have := (Nat.log2_lt hz).mpr a
      omega
  have h1 : (Builtin.Int.intBits x : Int) ≤ 2 ^ 20 := by omega
  have h2 : (Builtin.Int.intBits x : Int) * j ≤ 2 ^ 20 * 64 := by
    calc (Builtin.Int.intBits x : Int) * j ≤ (Builtin.Int.intBits x : Int) * 64 := Int.mul_le_mul_of_nonneg_left hj (by omega)
      _ ≤ 2 ^ 20 * 64 := Int.mul_le_mul_of_nonneg_right h1 (by decide)
  omega
@[simp] theorem okLen_lit {n : Nat} (h : n ≤ 16777216) : okLen n = true := decide_eq_true h
theorem eraseIdx_map' {α β : Type} {f : α → β} : ∀ (l : List α) (i : Nat), (l.map f).eraseIdx i = (l.eraseIdx i).map f
  | [], _ => rfl
  | _ :: _, 0 => rfl
  | x :: l, i + 1 => congrArg (f x :: ·) (eraseIdx_map' l i)
theorem erase_perm {α : Type} : ∀ {l : List α} {i : Nat} {x : α}, l[i]? = some x → (x :: l.eraseIdx i).Perm l
  | [], i, x, h => by simp at h
  | y :: l, 0, x, h => by simp at h; subst h; exact .refl _
  | y :: l, i + 1, x, h => ((List.Perm.swap y x _).trans (List.Perm.cons y (erase_perm (l := l) (i := i) (by simpa using h))))
theorem pop_map {α : Type} {enc : α → D} {l : List α} {i : Int} (h0 : 0 ≤ i) (h : i < l.length) (hi : i < 2 ^ 62) :
    ∃ x, l[i.toNat]? = some x ∧ popF (.lst (l.map enc)) [.int i] = some (enc x, .lst ((l.eraseIdx i.toNat).map enc)) := by
  have hn : i.toNat < l.length := by omega
  refine ⟨l[i.toNat], List.getElem?_eq_getElem hn, ?_⟩
  have hb : decide (-(2 ^ 63) ≤ i ∧ i < 2 ^ 63) = true := decide_eq_true (by omega)
  simp only [popF]
  rw [if_pos hb]
  have e : seqIndex? i (l.map enc).length = some i.toNat := by
    have := (ixN_seq (n := (l.map enc).length) (i := i) (j := i.toNat) (by unfold ixN; rw [if_pos h0, if_pos (by simpa using h)])).1
    exact this
  rw [e]
  simp [List.getElem?_eq_getElem hn, eraseIdx_map']
@[simp] theorem smI_lit {i : Int} (h0 : -(2 ^ 62) ≤ i) (h : i < 2 ^ 62) : smI i = true := decide_eq_true ⟨h0, h⟩
theorem rngD_eq {lo : Int} {n : Nat} : rngD lo n = (List.range n).map fun i : Nat => .int (lo + i) := rfl
/-! lists that stand for lists -/
section
variable {α β γ : Type}
theorem zipD_map {f : α → D} {g : β → D} : ∀ (l : List α) (m : List β), zipD (l.map f) (m.map g) = (l.zip m).map fun p => .tup [f p.1, g p.2]
  | [], m => by cases m <;> rfl
  | x :: l, [] => rfl
  | x :: l, y :: m => congrArg (D.tup [f x, g y] :: ·) (zipD_map l m)
@[simp] theorem cutL_map {f : α → β} {l : List α} {lo hi : Option Int} : cutL (l.map f) lo hi = (cutL l lo hi).map f := by
  unfold cutL
  rw [List.length_map, ← List.map_drop, ← List.map_take]
theorem cutL_from {l : List α} {i : Int} (h : 0 ≤ i) : cutL l (some i) none = l.drop i.toNat := by
  unfold cutL
  have e : HT.sIx l.length 0 (some i) = min i.toNat l.length := by
    show (if i < 0 then _ else _) = _
    rw [if_neg (by omega)]
  rw [e, HT.sIx_none]
  rcases Nat.le_total i.toNat l.length with h2 | h2
  · rw [Nat.min_eq_left h2]
    exact List.take_of_length_le (by rw [List.length_drop]; omega)
  · rw [Nat.min_eq_right h2, List.drop_eq_nil_of_le (Nat.le_refl _), List.drop_eq_nil_of_le h2]
    simp
theorem cutL_to {l : List α} {i : Int} (h : 0 ≤ i) : cutL l none (some i) = l.take i.toNat := by
  unfold cutL
  have e : HT.sIx l.length l.length (some i) = min i.toNat l.length := by
    show (if i < 0 then _ else _) = _
    rw [if_neg (by omega)]
  rw [e, HT.sIx_none, List.drop_zero, Nat.sub_zero]
  rcases Nat.le_total i.toNat l.length with h2 | h2
  · rw [Nat.min_eq_left h2]
  · rw [Nat.min_eq_right h2, List.take_of_length_le (Nat.le_refl _), List.take_of_length_le h2]
@[simp] theorem cutL_1 {l : List α} : cutL l (some 1) none = l.drop 1 := cutL_from (by decide)
@[simp] theorem cutL_t1 {l : List α} : cutL l none (some 1) = l.take 1 := cutL_to (by decide)
theorem perm_nodup {r rest l : List α} (h : (r ++ rest).Perm l) (nd : l.Nodup) : r.Nodup := (List.nodup_append.mp (h.nodup_iff.mpr nd)).1
theorem perm_mem {r rest l : List α} (h : (r ++ rest).Perm l) {x : α} (hx : x ∈ r) : x ∈ l := h.mem_iff.mp (List.mem_append_left _ hx)
theorem perm_whole {r rest l : List α} (h : (r ++ rest).Perm l) (hl : r.length = l.length) : r.Perm l := by
  have := h.length_eq
  rw [List.length_append] at this
  have e : rest = [] := List.eq_nil_of_length_eq_zero (by omega)
  subst e
  simpa using h
end
def prD (p : Str × Str) : D := .tup [.str p.1, .str p.2]
/-- two unlike places -/
def PairOk (pl : List Str) (p : Str × Str) : Prop := p.1 ∈ pl ∧ p.2 ∈ pl ∧ p.1 ≠ p.2
/-- a ring through places -/
theorem ring_ok {pl : List Str} (nd : pl.Nodup) (h : 2 ≤ pl.length) : ∀ p ∈ pl.zip (pl.drop 1 ++ pl.take 1), PairOk pl p := by
  intro p hp
  obtain ⟨i, hi, e⟩ := List.mem_iff_getElem.mp hp
  rw [List.getElem_zip] at e
  have hi1 : i < pl.length := by rw [List.length_zip] at hi; omega
  subst e
  by_cases hl : i + 1 < pl.length
  · have e2 : (pl.drop 1 ++ pl.take 1)[i]'(by rw [List.length_zip] at hi; omega) = pl[i + 1] := by
      rw [List.getElem_append_left (by rw [List.length_drop]; omega), List.getElem_drop]
      congr 1
      omega
    refine ⟨List.getElem_mem _, ?_, ?_⟩
    · show (pl.drop 1 ++ pl.take 1)[i]'_ ∈ pl
      rw [e2]; exact List.getElem_mem _
    · show pl[i] ≠ (pl.drop 1 ++ pl.take 1)[i]'_
      rw [e2]
      intro z
      have := (List.getElem_inj nd).mp z
      omega
  · have e2 : (pl.drop 1 ++ pl.take 1)[i]'(by rw [List.length_zip] at hi; omega) = pl[0] := by
      rw [List.getElem_append_right (by rw [List.length_drop]; omega), List.getElem_take]
      congr 1
      rw [List.length_drop]
      omega
    refine ⟨List.getElem_mem _, ?_, ?_⟩
    · show (pl.drop 1 ++ pl.take 1)[i]'_ ∈ pl
      rw [e2]; exact List.getElem_mem _
    · show pl[i] ≠ (pl.drop 1 ++ pl.take 1)[i]'_
      rw [e2]
      intro z
      have := (List.getElem_inj nd).mp z
      omega
end Dx

set_option Elab.async false
set_option linter.all false
set_option autoImplicit false
set_option maxRecDepth 100000
set_option maxHeartbeats 1000000
/-! DxMd: texts, lists of texts, repr. -/
namespace Dx
open PySem PySem.Spec PyProof.Rows L2 TL
section
variable {x y : Str} {l m : List Str} {Q : D → Prop}
@[simp] theorem strsD_map : ∀ l : List Str, strsD (l.map .str) = some l
  | [] => rfl
  | x :: l => by show (strsD (l.map .str)).map _ = _; rw [strsD_map l]; rfl
@[simp] theorem split_s : (ofO (splitO (.str x) (.str y))).sat Q = ((y.length ≠ 0 ∧ x.length + 2 ≤ sizeLine) ∧ Q (.lst ((Txt.split x y).map .str))) := by
  unfold splitO
  by_cases h : y.length = 0 <;> by_cases h2 : x.length + 2 ≤ sizeLine <;> simp [h, h2]
@[simp] theorem join_l : (ofO (joinO (.str x) (.lst (l.map .str)))).sat Q = ((l.map (·.length)).sum + l.length * x.length ≤ 16777216 ∧ Q (.str (Txt.join x l))) := by
  unfold joinO
  by_cases h : (l.map (·.length)).sum + l.length * x.length ≤ 16777216 <;> simp [h]
@[simp] theorem join_t : (ofO (joinO (.str x) (.tup (l.map .str)))).sat Q = ((l.map (·.length)).sum + l.length * x.length ≤ 16777216 ∧ Q (.str (Txt.join x l))) := by
  unfold joinO
  by_cases h : (l.map (·.length)).sum + l.length * x.length ≤ 16777216 <;> simp [h]
@[simp] theorem join_c {z : Str} : (ofO (joinO (.str x) (.lst (.str z :: l.map .str)))).sat Q = (((z :: l).map (·.length)).sum + (z :: l).length * x.length ≤ 16777216 ∧ Q (.str (Txt.join x (z :: l)))) := join_l (l := z :: l)
@[simp] theorem join_t4 {a b c d : Str} : (ofO (joinO (.str x) (.tup [.str a, .str b, .str c, .str d]))).sat Q = (([a, b, c, d].map (·.length)).sum + [a, b, c, d].length * x.length ≤ 16777216 ∧ Q (.str (Txt.join x [a, b, c, d]))) := join_t (l := [a, b, c, d])
@[simp] theorem flatL_str : ∀ l : List Str, flatL (l.map .str) = true
  | [] => rfl
  | x :: l => by show (flatD (.str x) && flatL (l.map .str)) = true; rw [flatL_str l]; rfl
@[simp] theorem depL_str : ∀ l : List Str, depL (l.map .str) = 0
  | [] => rfl
  | x :: l => by show max (depD (.str x)) (depL (l.map .str)) = 0; rw [depL_str l]; rfl
@[simp] theorem inD_str : inD (.str x) (l.map .str) = decide (x ∈ l) := by
  unfold inD
  rw [List.any_map]
  induction l with
  | nil => rfl
  | cons y l ih =>
    rw [List.any_cons, ih]
    show ((y == x) || decide (x ∈ l)) = decide (x ∈ y :: l)
    by_cases h : y = x
    · subst h; simp
    · have h' : ¬ x = y := fun e => h e.symm
      rw [beq_eq_false_iff_ne.mpr h, Bool.false_or]
      simp [h']
theorem inO_str : inO (.str x) (.tup (l.map .str)) = some (.bl (decide (x ∈ l))) := by
  show (if flatD (.str x) && flatL (l.map .str) && decide (depL (l.map .str) ≤ maxDep) then some (D.bl (inD (.str x) (l.map .str))) else none) = _
  rw [flatL_str, depL_str, inD_str]; rfl
theorem inO_strL : inO (.str x) (.lst (l.map .str)) = some (.bl (decide (x ∈ l))) := by
  show (if flatD (.str x) && flatL (l.map .str) && decide (depL (l.map .str) ≤ maxDep) then some (D.bl (inD (.str x) (l.map .str))) else none) = _
  rw [flatL_str, depL_str, inD_str]; rfl
@[simp] theorem in2_t : inO2 (.str x) (.tup (l.map .str)) = some (.bl (decide (x ∈ l))) := inO_str
@[simp] theorem in2_l : inO2 (.str x) (.lst (l.map .str)) = some (.bl (decide (x ∈ l))) := inO_strL
@[simp] theorem nin2_t : ninO2 (.str x) (.tup (l.map .str)) = some (.bl (!decide (x ∈ l))) := by unfold ninO2; rw [in2_t]; rfl
@[simp] theorem nin2_l : ninO2 (.str x) (.lst (l.map .str)) = some (.bl (!decide (x ∈ l))) := by unfold ninO2; rw [in2_l]; rfl
@[simp] theorem in2_d {f : List (Str × D)} : inO2 (.str x) (.dic f) = some (.bl (f.lookup x).isSome) := rfl
@[simp] theorem nin2_d {f : List (Str × D)} : ninO2 (.str x) (.dic f) = some (.bl (!(f.lookup x).isSome)) := rfl
@[simp] theorem eqL_str : ∀ l m : List Str, eqL (l.map .str) (m.map .str) = decide (l = m)
  | [], [] => rfl
  | [], _ :: _ => by simp [eqL]
  | _ :: _, [] => by simp [eqL]
  | x :: l, y :: m => by
    show (eqD (.str x) (.str y) && eqL (l.map .str) (m.map .str)) = _
    rw [eqL_str l m]
    show ((x == y) && decide (l = m)) = decide (x :: l = y :: m)
    rw [Bool.eq_iff_iff]
    simp
theorem okS {l m : List Str} {b : D} : (if flatD (.tup (l.map .str)) && flatD (.tup (m.map .str)) && decide (depD (.tup (l.map .str)) ≤ maxDep) then some b else none) = some b := by
  have h1 : ∀ l : List Str, flatD (.tup (l.map .str)) = true := flatL_str
  have h2 : depD (.tup (l.map .str)) = 1 := by show depL (l.map .str) + 1 = 1; rw [depL_str]
  rw [h1, h1, h2]; rfl
@[simp] theorem eq_tS : eqO (.tup (l.map .str)) (.tup (m.map .str)) = some (.bl (decide (l = m))) := by
  unfold eqO
  rw [okS]
  show some (D.bl (eqL _ _)) = _
  rw [eqL_str]
@[simp] theorem ne_tS : neO (.tup (l.map .str)) (.tup (m.map .str)) = some (.bl (!decide (l = m))) := by
  unfold neO
  rw [okS]
  show some (D.bl (!eqL _ _)) = _
  rw [eqL_str]
/-- data that is flat and not deep -/
def Flt (n : Nat) (d : D) : Prop := flatD d = true ∧ depD d ≤ n
theorem flt_map {α : Type} {f : α → D} {n : Nat} : ∀ {l : List α}, (∀ x ∈ l, Flt n (f x)) → flatL (l.map f) = true ∧ depL (l.map f) ≤ n
  | [], _ => ⟨rfl, Nat.zero_le _⟩
  | x :: l, h => by
    have h1 := h x (List.mem_cons_self ..)
    have h2 := flt_map (l := l) fun y hy => h y (List.mem_cons_of_mem _ hy)
    refine ⟨?_, ?_⟩
    · show (flatD (f x) && flatL (l.map f)) = true
      rw [h1.1, h2.1]; rfl
    · show max (depD (f x)) (depL (l.map f)) ≤ n
      have := h1.2
      have := h2.2
      omega
/-- whether a list is empty -/
def nilB {α : Type} (l : List α) : Bool := l.isEmpty
@[simp] theorem nilB_map {α β : Type} {f : α → β} {l : List α} : nilB (l.map f) = nilB l := by cases l <;> rfl
theorem eq_nilL {α : Type} {f : α → D} {l : List α} (h : ∀ x ∈ l, Flt 50 (f x)) : eqO (.lst (l.map f)) (.lst []) = some (.bl (nilB l)) := by
  obtain ⟨h1, h2⟩ := flt_map h
  unfold eqO
  have e1 : flatD (.lst (l.map f)) = true := h1
  have e2 : depD (.lst (l.map f)) ≤ maxDep := by show depL (l.map f) + 1 ≤ 60; omega
  rw [e1, decide_eq_true e2]
  cases l <;> rfl
end
theorem boolsD_map {α : Type} {p : α → Bool} : ∀ l : List α, boolsD (l.map fun x => .bl (p x)) = some (l.map p)
  | [] => rfl
  | x :: l => by show (boolsD (l.map fun x => .bl (p x))).map _ = _; rw [boolsD_map l]; rfl
@[simp] theorem all_map {α : Type} {p : α → Bool} {l : List α} : allO [.lst (l.map fun x => .bl (p x))] = some (.bl (l.all p)) := by
  show (boolsD (l.map fun x => .bl (p x))).map _ = _
  rw [boolsD_map]
  simp
@[simp] theorem any_map {α : Type} {p : α → Bool} {l : List α} : anyO [.lst (l.map fun x => .bl (p x))] = some (.bl (l.any p)) := by
  show (boolsD (l.map fun x => .bl (p x))).map _ = _
  rw [boolsD_map]
  simp
/-! names -/
theorem letter_in : ∀ c : Nat, 97 ≤ c → c ≤ 122 → inO2 (.str ⟨#[c]⟩) (.str ("abcdefghijklmnopqrstuvwxyz" : Str)) = some (.bl true) := by
  have key : ∀ k : Fin 26, (!(Builtin.Str.occurrences ("abcdefghijklmnopqrstuvwxyz" : Str) ⟨#[97 + k.val]⟩ 0 ("abcdefghijklmnopqrstuvwxyz" : Str).length 1).isEmpty) = true := by decide +kernel
  intro c h1 h2
  have := key ⟨c - 97, by omega⟩
  show some (D.bl _) = _
  rw [show (97 + (⟨c - 97, by omega⟩ : Fin 26).val) = c by show 97 + (c - 97) = c; omega] at this
  rw [this]
/-! lengths of texts -/
theorem sum_le {l : List Str} {B : Nat} (h : ∀ x ∈ l, x.length ≤ B) : (l.map (·.length)).sum ≤ l.length * B := by
  induction l with
  | nil => exact Nat.zero_le _
  | cons x l ih =>
    have h1 := h x (List.mem_cons_self ..)
    have h2 := ih fun y hy => h y (List.mem_cons_of_mem _ hy)
    simp only [List.map_cons, List.sum_cons, List.length_cons, Nat.succ_mul]
    omega
theorem join_len {a : Str} {l : List Str} {B n : Nat} (h : ∀ x ∈ l, x.length ≤ B) (hn : l.length ≤ n) : (l.map (·.length)).sum + l.length * a.length ≤ n * (B + a.length) ∧ (Txt.join a l).length ≤ n * (B + a.length) := by
  have h1 := sum_le h
  have h2 := StrLaws.join_length_le a l
  rw [join_eq]
  have h3 : l.length * B + l.length * a.length ≤ n * (B + a.length) := by
    rw [← Nat.mul_add]; exact Nat.mul_le_mul_right _ hn
  omega
theorem mem_join {a : Str} {c : Nat} : ∀ {l : List Str}, c ∈ tl (Txt.join a l) → c ∈ tl a ∨ ∃ x ∈ l, c ∈ tl x := by
  intro l
  rw [join_eq, tl_join]
  induction l with
  | nil => intro h; exact absurd h (by simp [joinL])
  | cons x l ih =>
    cases l with
    | nil => intro h; exact .inr ⟨x, by simp, by simpa [joinL] using h⟩
    | cons y l =>
      intro h
      have h : c ∈ tl x ++ (tl a ++ joinL (tl a) ((y :: l).map tl)) := h
      rw [List.mem_append, List.mem_append] at h
      rcases h with h | h | h
      · exact .inr ⟨x, by simp, h⟩
      · exact .inl h
      · rcases ih h with h | ⟨z, hz, h⟩
        · exact .inl h
        · exact .inr ⟨z, List.mem_cons_of_mem _ hz, h⟩
/-! a dict's keys -/
theorem lookup_dic {rows : List Row} {x : Str} : (rows.map Row.dic).lookup x = (rows.find? fun r => x == r.nm).map fun r => .tup [.str r.kd, .str r.a, .str r.b] := by
  induction rows with
  | nil => rfl
  | cons r rows ih =>
    rw [List.map_cons, List.find?_cons]
    show ((r.nm, _) :: _ : List (Str × D)).lookup x = _
    rw [List.lookup_cons]
    cases h : x == r.nm with
    | true => rfl
    | false => exact ih
theorem lookup_none_of {rows : List Row} {x : Str} (h : x ∉ rows.map Row.nm) : (rows.map Row.dic).lookup x = none := by
  rw [lookup_dic, List.find?_eq_none.mpr]
  · rfl
  · intro r hr z
    rw [beq_iff_eq] at z
    exact h (z ▸ List.mem_map_of_mem hr)
theorem lookup_some_of {rows : List Row} (nd : (rows.map Row.nm).Nodup) {r : Row} (h : r ∈ rows) : (rows.map Row.dic).lookup r.nm = some (.tup [.str r.kd, .str r.a, .str r.b]) := by
  induction rows with
  | nil => cases h
  | cons q rows ih =>
    rw [List.map_cons, List.nodup_cons] at nd
    rw [List.map_cons]
    show ((q.nm, _) :: _ : List (Str × D)).lookup r.nm = _
    rw [List.lookup_cons]
    rcases List.mem_cons.mp h with h | h
    · subst h; rw [beq_self_eq_true]
    · have : r.nm ≠ q.nm := fun e => nd.1 (e ▸ List.mem_map_of_mem h)
      rw [beq_eq_false_iff_ne.mpr this]
      exact ih nd.2 h
theorem putD_new {l : List (Str × D)} {k : Str} {v : D} (h : l.lookup k = none) : putD l k v = l ++ [(k, v)] := by
  unfold putD
  rw [if_neg]
  intro z
  rw [List.any_eq_true] at z
  obtain ⟨p, hp, e⟩ := z
  have e := of_decide_eq_true e
  induction l with
  | nil => cases hp
  | cons q l ih =>
    obtain ⟨qk, qv⟩ := q
    rw [List.lookup_cons] at h
    cases h2 : k == qk with
    | true => rw [h2] at h; cases h
    | false =>
      rw [h2] at h
      rcases List.mem_cons.mp hp with rfl | hp
      · rw [beq_eq_false_iff_ne] at h2; exact h2 e.symm
      · exact ih h hp
/-! repr -/
theorem toPL_str : ∀ l : List Str, toPL (l.map .str) = some (l.map PyData.str)
  | [] => rfl
  | x :: l => by
    show ((toP (.str x)).bind fun p => (toPL (l.map .str)).map (p :: ·)) = _
    rw [toPL_str l]; rfl
theorem showAll_str : ∀ l : List Str, PyData.showableAll (l.map PyData.str) = true
  | [] => by simp [PyData.showableAll]
  | x :: l => by simp [PyData.showableAll, PyData.showable, showAll_str l]
theorem shortAll_str {l : List Str} (h : ∀ x ∈ l, NameOk x) : PyData.leavesShortAll 13 (l.map PyData.str) = true := by
  induction l with
  | nil => simp [PyData.leavesShortAll]
  | cons x l ih =>
    have h1 := h x (List.mem_cons_self ..)
    rw [List.map_cons, PyData.leavesShortAll, ih fun y hy => h y (List.mem_cons_of_mem _ hy), PyData.leavesShort, Bool.and_true, List.all_eq_true]
    intro c hc
    have := h1.2.2 c hc
    exact decide_eq_true (by omega)
theorem weight_str {l : List Str} (h : ∀ x ∈ l, x.length ≤ 8) : PyData.weightAll (l.map PyData.str) ≤ l.length * 9 := by
  induction l with
  | nil => simp [PyData.weightAll]
  | cons x l ih =>
    have h1 := h x (List.mem_cons_self ..)
    have h2 := ih fun y hy => h y (List.mem_cons_of_mem _ hy)
    rw [List.map_cons, PyData.weightAll, PyData.weight, List.length_cons]
    have : x.cps.size = x.length := rfl
    omega
theorem depthAll_str : ∀ l : List Str, PyData.depthAll (l.map PyData.str) = 0
  | [] => by simp [PyData.depthAll]
  | x :: l => by simp [PyData.depthAll, PyData.depth, depthAll_str l]
theorem repr_names {l : List Str} (h : ∀ x ∈ l, NameOk x) (hl : l.length ≤ 1000) : ∃ x, reprO [.tup (l.map .str)] = some (.str x) := by
  have e : toP (.tup (l.map .str)) = some (.tuple (l.map PyData.str)) := by
    show (toPL (l.map .str)).map _ = _
    rw [toPL_str]; rfl
  have s : (PyData.tuple (l.map PyData.str)).showable = true := by rw [PyData.showable]; exact showAll_str l
  have f : (PyData.tuple (l.map PyData.str)).shown.length ≤ sizeLine := by
    refine PyData.shown_fits (B := 13) (by decide) (by decide) (by rw [PyData.leavesShort]; exact shortAll_str h) ?_
    rw [PyData.weight]
    have := weight_str fun x hx => (h x hx).2.1
    omega
  have d : (PyData.tuple (l.map PyData.str)).depth ≤ maxDep := by
    rw [PyData.depth, depthAll_str]; decide
  refine ⟨(PyData.tuple (l.map PyData.str)).shown, ?_⟩
  show (reprD (.tup (l.map .str))).map D.str = _
  unfold reprD
  rw [e]
  show (if _ then _ else _ : Option Str).map D.str = _
  rw [s, show okLen _ = true from decide_eq_true f, decide_eq_true d]
  rfl
theorem repr_bool (b : Bool) : ∃ x, reprO [.bl b] = some (.str x) := by
  have f : (PyData.bool b).shown.length ≤ sizeLine := PyData.shown_fits (B := 13) (by decide) (by decide) (by rw [PyData.leavesShort]) (by rw [PyData.weight]; decide)
  refine ⟨(PyData.bool b).shown, ?_⟩
  show (reprD (.bl b)).map D.str = _
  unfold reprD
  show (if _ then _ else _ : Option Str).map D.str = _
  rw [show PyData.showable (.bool b) = true by rw [PyData.showable], show okLen _ = true from decide_eq_true f, show decide (PyData.depth (.bool b) ≤ maxDep) = true by rw [PyData.depth]; decide]
  rfl
@[simp] theorem len_blank : (Str.ofString " ").length = 1 := by decide +kernel
@[simp] theorem len_feed : (Str.ofString "\n").length = 1 := by decide +kernel
/-- words with blanks between them, cut again -/
theorem split_words {ws : List Str} (h0 : ws ≠ []) (h : ∀ x ∈ ws, NameOk x) : Txt.split (Txt.join " " ws) " " = ws := split_join tl_blank (by decide +kernel) h0 fun p hp => (h p hp).blank
theorem words_feed {ws : List Str} (h : ∀ x ∈ ws, NameOk x) : 10 ∉ tl (Txt.join " " ws) := by
  intro z
  rcases mem_join z with z | ⟨x, hx, z⟩
  · rw [tl_blank] at z; simp at z
  · exact (h x hx).feed z
theorem split_lines {ls : List Str} (h0 : ls ≠ []) (h : ∀ x ∈ ls, 10 ∉ tl x) : Txt.split (Txt.join "\n" ls) "\n" = ls := split_join tl_feed (by decide +kernel) h0 h
theorem kinds_ok : ∀ x ∈ kinds, NameOk x := by decide +kernel
theorem places_ok : NameOk "places" := by decide +kernel
def Lore.words0 (l : Lore) : List Str := ("places" : Str) :: l.pl
def Lore.line0 (l : Lore) : Str := Txt.join " " l.words0
def Row.line (r : Row) : Str := Txt.join " " r.words
theorem LoreOk.words0 {l : Lore} (h : LoreOk l) : ∀ x ∈ l.words0, NameOk x := by
  intro x hx
  rcases List.mem_cons.mp hx with rfl | hx
  · exact places_ok
  · exact h.nm x hx
theorem RowOk.words {pl : List Str} {r : Row} (h : RowOk pl r) (hp : ∀ p ∈ pl, NameOk p) : ∀ x ∈ r.words, NameOk x := by
  intro x hx
  simp only [Row.words, List.mem_cons, List.not_mem_nil, or_false] at hx
  rcases hx with rfl | rfl | rfl | rfl
  · exact kinds_ok _ h.kd
  · exact h.nm
  · exact hp _ h.a
  · exact hp _ h.b
theorem LoreOk.len0 {l : Lore} (h : LoreOk l) : l.line0.length ≤ 90 := (join_len (a := " ") (B := 8) (n := 10) (fun x hx => (h.words0 x hx).2.1) (by have := h.hi; show l.pl.length + 1 ≤ 10; omega)).2
theorem RowOk.len {pl : List Str} {r : Row} (h : RowOk pl r) (hp : ∀ p ∈ pl, NameOk p) : r.line.length ≤ 36 := (join_len (a := " ") (B := 8) (n := 4) (fun x hx => (h.words hp x hx).2.1) (Nat.le_refl _)).2
def Lore.lines (l : Lore) : List Str := l.line0 :: l.rows.map Row.line
theorem Lore.text_eq (l : Lore) : l.text = Txt.join "\n" l.lines := rfl
theorem LoreOk.lines {l : Lore} (h : LoreOk l) : (∀ x ∈ l.lines, x.length ≤ 90) ∧ l.lines.length ≤ 21 ∧ ∀ x ∈ l.lines, 10 ∉ tl x := by
  refine ⟨?_, ?_, ?_⟩
  · intro x hx
    rcases List.mem_cons.mp hx with rfl | hx
    · exact h.len0
    · obtain ⟨r, hr, rfl⟩ := List.mem_map.mp hx
      have := (h.ok r hr).len h.nm
      omega
  · have := h.few
    show (l.rows.map Row.line).length + 1 ≤ 21
    rw [List.length_map]; omega
  · intro x hx
    rcases List.mem_cons.mp hx with rfl | hx
    · exact words_feed h.words0
    · obtain ⟨r, hr, rfl⟩ := List.mem_map.mp hx
      exact words_feed ((h.ok r hr).words h.nm)
theorem LoreOk.text {l : Lore} (h : LoreOk l) : l.text.length ≤ 2000 ∧ (l.lines.map (·.length)).sum + l.lines.length * 1 ≤ 2000 ∧ Txt.split l.text "\n" = l.lines := by
  have h1 := h.lines
  have h2 := join_len (a := "\n") h1.1 h1.2.1
  rw [len_feed] at h2
  exact ⟨by rw [Lore.text_eq]; omega, by omega, by rw [Lore.text_eq]; exact split_lines (by simp [Lore.lines]) h1.2.2⟩
theorem kind_nin {x : Str} (h : x ∈ kinds) : ninO2 (.str x) (.tup [.str (Str.ofString "unread"), .str (Str.ofString "known"), .str (Str.ofString "both")]) = some (.bl false) := by
  have := nin2_t (x := x) (l := kinds)
  rw [decide_eq_true h] at this
  exact this
theorem enuD_map {α : Type} {f : α → D} : ∀ (l : List α) (c : Int) (k : Nat), enuD (c + k) (l.map f) = (l.zipIdx k).map fun p => .tup [.int (c + p.2), f p.1]
  | [], _, _ => rfl
  | x :: l, c, k => by
    show D.tup [.int (c + k), f x] :: enuD (c + k + 1) (l.map f) = _
    rw [List.zipIdx_cons, List.map_cons]
    congr 1
    have := enuD_map (f := f) l c (k + 1)
    rw [← this]
    congr 1
    omega
theorem enu2_map {α : Type} {f : α → D} {l : List α} {c : Int} (h : -(2 ^ 63) ≤ c) (h2 : c < 2 ^ 63) : enu2O [.lst (l.map f), .int c] = some (l.zipIdx.map fun p => .tup [.int (c + p.2), f p.1]) := by
  have e := enuD_map (f := f) l c 0
  show (if decide (-(2 ^ 63) ≤ c ∧ c < 2 ^ 63) then some (enuD c (l.map f)) else none) = _
  rw [if_pos (decide_eq_true ⟨h, h2⟩)]
  congr 1
  simpa using e
theorem mem_zipIdx_pre {α : Type} {l : List α} {pre : List (α × Nat)} {x : α × Nat} {post : List (α × Nat)} (h : l.zipIdx = pre ++ x :: post) : l = pre.map (·.1) ++ x.1 :: post.map (·.1) := by
  have : l = l.zipIdx.map (·.1) := by simp
  rw [this, h]
  simp
@[simp] theorem newF_s {c : Str} {fs : List (Str × D)} : newF c (.non, [.ins c fs]) = some (.ins c fs) := by simp [newF]
@[simp] theorem newF_t {c t : Str} {l : Lore} : newF c (.non, [townD c t l]) = some (townD c t l) := newF_s
end Dx

set_option Elab.async false
set_option linter.all false
set_option autoImplicit false
set_option maxRecDepth 100000
set_option maxHeartbeats 1000000
/-! DxMe: streets and signs: sets that bar, and maps. -/
namespace Dx
open PySem
abbrev Arr := Str × Str × Str
inductive Rch (A : List Arr) (p : Str) : Str → Prop
  | refl : Rch A p p
  | step {s o t : Str} : Rch A p o → (s, o, t) ∈ A → Rch A p t
theorem Rch.head {A : List Arr} {s p q x : Str} (h : (s, p, q) ∈ A) (r : Rch A q x) : Rch A p x := by
  induction r with
  | refl => exact .step .refl h
  | step _ e ih => exact .step ih e
/-- a way from within a set to the outside has a street that leads out -/
theorem Rch.leave {A : List Arr} {p x : Str} (r : Rch A p x) (X : Str → Bool) (hp : X p = true) (hx : X x = false) : ∃ s o t, (s, o, t) ∈ A ∧ X o = true ∧ X t = false := by
  induction r with
  | refl => rw [hp] at hx; cases hx
  | @step s o t r e ih =>
    cases q : X o with
    | false => exact ih q
    | true => exact ⟨s, o, t, e, q, hx⟩
theorem len_sub {α : Type} [DecidableEq α] : ∀ {K l : List α}, K.Nodup → (∀ x ∈ K, x ∈ l) → K.length ≤ l.length
  | [], _, _, _ => Nat.zero_le _
  | x :: K, l, nd, h => by
    rw [List.nodup_cons] at nd
    have hx : x ∈ l := h x (by simp)
    have := len_sub (l := l.erase x) nd.2 fun y hy => (List.mem_erase_of_ne (fun e => by subst e; exact nd.1 hy)).mpr (h y (by simp [hy]))
    rw [List.length_erase_of_mem hx] at this
    have : 0 < l.length := List.length_pos_of_mem hx
    simp; omega
/-! rims and bars, for any set of places -/
def rimX (X : Str → Bool) (r : Row) : Bool := X r.a != X r.b
def outX (X : Str → Bool) (r : Row) : Bool := !decide (r.kd = "known") || X r.a
def barX (rows : List Row) (X : Str → Bool) : Bool := nilB ((rows.filter (rimX X)).filter (outX X)) || match rows.filter (rimX X) with
  | [r] => decide (r.kd = "unread")
  | _ => false
theorem barX_iff {rows : List Row} {X : Str → Bool} : barX rows X = true ↔ (∀ r ∈ rows, X r.a ≠ X r.b → r.kd = "known" ∧ X r.a = false) ∨ ∃ r, rows.filter (rimX X) = [r] ∧ r.kd = "unread" := by
  unfold barX
  rw [Bool.or_eq_true]
  refine or_congr ?_ ?_
  · unfold nilB
    rw [List.isEmpty_iff, List.filter_eq_nil_iff]
    refine ⟨fun h r hr hx => ?_, fun h r hr => ?_⟩
    · have := h r (List.mem_filter.mpr ⟨hr, by simpa [rimX] using hx⟩)
      simpa [outX] using this
    · obtain ⟨hr, hx⟩ := List.mem_filter.mp hr
      simpa [outX] using h r hr (by simpa [rimX] using hx)
  · match rows.filter (rimX X) with
    | [] => simp
    | [r] => simp
    | _ :: _ :: _ => simp
def NB (pl : List Str) (rows : List Row) : Prop := ∀ X : Str → Bool, (∃ p ∈ pl, X p = true) → (∃ p ∈ pl, X p = false) → barX rows X = false
def fwd (r : Row) : Row := ⟨r.nm, "known", r.a, r.b⟩
def bwd (r : Row) : Row := ⟨r.nm, "known", r.b, r.a⟩
/-- what a set that bars behind a street was told says -/
theorem bar_told {L R : List Row} {r r1 : Row} {X : Str → Bool} (hu : r.kd = "unread") (h1 : r1.kd = "known") (he : rimX X r1 = rimX X r) (hb : barX (L ++ r1 :: R) X = true) (hn : barX (L ++ r :: R) X = false) :
    rimX X r = true ∧ X r1.a = false ∧ (∀ q ∈ L ++ R, X q.a ≠ X q.b → q.kd = "known" ∧ X q.a = false) ∧ ∃ q ∈ L ++ R, X q.a ≠ X q.b := by
  have hn2 : ¬ barX (L ++ r :: R) X = true := by rw [hn]; simp
  rw [barX_iff] at hb hn2
  simp only [not_or] at hn2
  have uk : ("unread" : Str) ≠ "known" := by decide +kernel
  cases hr : rimX X r with
  | false =>
    refine absurd ?_ (not_or.mpr hn2)
    rcases hb with hb | ⟨q, e, hq⟩
    · refine .inl fun q hq hx => ?_
      rcases List.mem_append.mp hq with h | h
      · exact hb q (by simp [h]) hx
      · rcases List.mem_cons.mp h with rfl | h
        · unfold rimX at hr; simp at hr; exact absurd hr hx
        · exact hb q (by simp [h]) hx
    · refine .inr ⟨q, ?_, hq⟩
      rw [← e, List.filter_append, List.filter_append, List.filter_cons, List.filter_cons, he]
      simp [hr]
  | true =>
    have hr1 : rimX X r1 = true := by rw [he, hr]
    rcases hb with hb | ⟨q, e, hq⟩
    · have ha := (hb r1 (by simp) (by simpa [rimX] using hr1)).2
      refine ⟨rfl, ha, fun q hq => hb q (by rcases List.mem_append.mp hq with h | h <;> simp [h]), ?_⟩
      by_cases w : ∃ q ∈ L ++ R, X q.a ≠ X q.b
      · exact w
      · refine absurd ⟨r, ?_, hu⟩ hn2.2
        have none : ∀ M : List Row, (∀ q ∈ M, q ∈ L ++ R) → M.filter (rimX X) = [] := fun M hM => by
          rw [List.filter_eq_nil_iff]
          intro q hq z
          exact w ⟨q, hM q hq, by simpa [rimX] using z⟩
        rw [List.filter_append, List.filter_cons, if_pos hr, none L (fun q h => by simp [h]), none R (fun q h => by simp [h])]
        rfl
    · have : r1 ∈ (L ++ r1 :: R).filter (rimX X) := List.mem_filter.mpr ⟨by simp, hr1⟩
      rw [e] at this
      rw [List.mem_singleton.mp this] at h1
      rw [h1] at hq
      exact absurd hq.symm uk
/-- one street more is told, and still no set bars -/
theorem nb_step {pl : List Str} {L R : List Row} {r : Row} (hp : ∀ q ∈ L ++ r :: R, q.a ∈ pl ∧ q.b ∈ pl) (hu : r.kd = "unread") (h : NB pl (L ++ r :: R)) : NB pl (L ++ fwd r :: R) ∨ NB pl (L ++ bwd r :: R) := by
  by_cases hX : NB pl (L ++ fwd r :: R)
  · exact .inl hX
  by_cases hY : NB pl (L ++ bwd r :: R)
  · exact .inr hY
  exfalso
  simp only [NB, Classical.not_forall] at hX hY
  obtain ⟨X, x1, x0, hX⟩ := hX
  obtain ⟨Y, y1, y0, hY⟩ := hY
  rw [Bool.not_eq_false] at hX hY
  obtain ⟨xr, xa, xq, q, hq, hqx⟩ := bar_told hu rfl (by rfl) hX (h X x1 x0)
  obtain ⟨yr, ya, yq, _⟩ := bar_told hu rfl (by show (Y r.b != Y r.a) = (Y r.a != Y r.b); exact bne_comm) hY (h Y y1 y0)
  have xb : X r.b = true := by unfold rimX at xr; have xa : X r.a = false := xa; rw [xa] at xr; simpa using xr
  have yb : Y r.a = true := by unfold rimX at yr; have ya : Y r.b = false := ya; rw [ya] at yr; simpa using yr
  have xa : X r.a = false := xa
  have ya : Y r.b = false := ya
  have hra := hp r (by simp)
  -- the common part, and the whole
  have inter : ∀ p ∈ pl, (X p && Y p) = false := by
    intro p hpp
    cases e : (X p && Y p) with
    | false => rfl
    | true =>
      have := h (fun z => X z && Y z) ⟨p, hpp, e⟩ ⟨r.a, hra.1, by simp [xa]⟩
      rw [← Bool.not_eq_true, barX_iff] at this
      refine absurd (.inl fun t ht hx => ?_) this
      rcases List.mem_append.mp ht with ht | ht
      · have m : t ∈ L ++ R := by simp [ht]
        have a1 := xq t m
        have a2 := yq t m
        cases e1 : X t.a <;> cases e2 : X t.b <;> cases e3 : Y t.a <;> cases e4 : Y t.b <;> simp_all
      · rcases List.mem_cons.mp ht with rfl | ht
        · simp [xa, xb, ya, yb] at hx
        · have m : t ∈ L ++ R := by simp [ht]
          have a1 := xq t m
          have a2 := yq t m
          cases e1 : X t.a <;> cases e2 : X t.b <;> cases e3 : Y t.a <;> cases e4 : Y t.b <;> simp_all
  have union : ∀ p ∈ pl, (X p || Y p) = true := by
    intro p hpp
    cases e : (X p || Y p) with
    | true => rfl
    | false =>
      have := h (fun z => X z || Y z) ⟨r.a, hra.1, by simp [yb]⟩ ⟨p, hpp, e⟩
      rw [← Bool.not_eq_true, barX_iff] at this
      refine absurd (.inl fun t ht hx => ?_) this
      rcases List.mem_append.mp ht with ht | ht
      · have m : t ∈ L ++ R := by simp [ht]
        have a1 := xq t m
        have a2 := yq t m
        cases e1 : X t.a <;> cases e2 : X t.b <;> cases e3 : Y t.a <;> cases e4 : Y t.b <;> simp_all
      · rcases List.mem_cons.mp ht with rfl | ht
        · simp [xa, xb, ya, yb] at hx
        · have m : t ∈ L ++ R := by simp [ht]
          have a1 := xq t m
          have a2 := yq t m
          cases e1 : X t.a <;> cases e2 : X t.b <;> cases e3 : Y t.a <;> cases e4 : Y t.b <;> simp_all
  have hqp := hp q (by rcases List.mem_append.mp hq with z | z <;> simp [z])
  have b1 := xq q hq
  have b2 := yq q hq
  have i1 := inter _ hqp.1
  have i2 := inter _ hqp.2
  have u1 := union _ hqp.1
  have u2 := union _ hqp.2
  cases e1 : X q.a <;> cases e2 : X q.b <;> cases e3 : Y q.a <;> cases e4 : Y q.b <;> simp_all
/-- a street by its sign -/
def ori (f : Str → Bool) (r : Row) : Row := if r.kd = "unread" then (if f r.nm then fwd r else bwd r) else r
theorem ori_nm {f : Str → Bool} {r : Row} : (ori f r).nm = r.nm := by unfold ori; split <;> (try split) <;> rfl
theorem ori_ends {f : Str → Bool} {r : Row} {pl : List Str} (h : r.a ∈ pl ∧ r.b ∈ pl) : (ori f r).a ∈ pl ∧ (ori f r).b ∈ pl := by
  unfold ori
  split
  · split
    · exact h
    · exact ⟨h.2, h.1⟩
  · exact h
theorem nb_all {pl : List Str} : ∀ (rest D : List Row), (∀ q ∈ D ++ rest, q.a ∈ pl ∧ q.b ∈ pl) → (rest.map Row.nm).Nodup → NB pl (D ++ rest) → ∃ f, NB pl (D ++ rest.map (ori f))
  | [], D, _, _, h => ⟨fun _ => true, h⟩
  | r :: rs, D, hp, nd, h => by
    rw [List.map_cons, List.nodup_cons] at nd
    have key : ∀ r' : Row, (r'.a ∈ pl ∧ r'.b ∈ pl) → NB pl (D ++ r' :: rs) → ∃ f, NB pl (D ++ r' :: rs.map (ori f)) := fun r' hr' h' => by
      obtain ⟨f, hf⟩ := nb_all rs (D ++ [r']) (fun q hq => by
        simp at hq
        rcases hq with hq | rfl | hq
        · exact hp q (by simp [hq])
        · exact hr'
        · exact hp q (by simp [hq])) nd.2 (by simpa using h')
      exact ⟨f, by simpa using hf⟩
    have hr := hp r (by simp)
    by_cases hu : r.kd = "unread"
    · have fin : ∀ (b : Bool) (f : Str → Bool), NB pl (D ++ (if b then fwd r else bwd r) :: rs.map (ori f)) → ∃ f, NB pl (D ++ (r :: rs).map (ori f)) := fun b f hf => by
        refine ⟨fun x => if x = r.nm then b else f x, ?_⟩
        have e : rs.map (ori fun x => if x = r.nm then b else f x) = rs.map (ori f) := by
          refine List.map_congr_left fun q hq => ?_
          have : q.nm ≠ r.nm := fun e => nd.1 (e ▸ List.mem_map_of_mem hq)
          simp [ori, this]
        rw [List.map_cons, e]
        simpa [ori, hu] using hf
      rcases nb_step hp hu h with h | h
      · obtain ⟨f, hf⟩ := key (fwd r) hr h
        exact fin true f hf
      · obtain ⟨f, hf⟩ := key (bwd r) ⟨hr.2, hr.1⟩ h
        exact fin false f hf
    · obtain ⟨f, hf⟩ := key r hr h
      refine ⟨f, ?_⟩
      rw [List.map_cons, show ori f r = r by simp [ori, hu]]
      exact hf
/-- the arrows by signs -/
def arr1 (r : Row) : List Arr := if r.kd = "both" then [(r.nm, r.a, r.b), (r.nm, r.b, r.a)] else [(r.nm, r.a, r.b)]
def arrs (rows : List Row) (f : Str → Bool) : List Arr := rows.flatMap fun r => arr1 (ori f r)
def Strong (pl : List Str) (A : List Arr) : Prop := ∀ p ∈ pl, ∀ x ∈ pl, Rch A p x
theorem arrs_mem {rows : List Row} {f : Str → Bool} {pl : List Str} (hp : ∀ q ∈ rows, q.a ∈ pl ∧ q.b ∈ pl) {s o t : Str} (h : (s, o, t) ∈ arrs rows f) : o ∈ pl ∧ t ∈ pl := by
  unfold arrs at h
  obtain ⟨r, hr, h⟩ := List.mem_flatMap.mp h
  have := ori_ends (f := f) (hp r hr)
  unfold arr1 at h
  split at h <;> simp at h
  · rcases h with ⟨_, rfl, rfl⟩ | ⟨_, rfl, rfl⟩
    · exact this
    · exact ⟨this.2, this.1⟩
  · obtain ⟨_, rfl, rfl⟩ := h
    exact this
theorem ori_kd {pl : List Str} {f : Str → Bool} {r : Row} (h : RowOk pl r) : (ori f r).kd = "known" ∨ (ori f r).kd = "both" := by
  have hk := h.kd
  unfold ori
  split
  · left; split <;> rfl
  · rename_i hu
    simp [kinds] at hk
    rcases hk with hk | hk | hk
    · exact absurd hk hu
    · exact .inl hk
    · exact .inr hk
theorem strong_of {pl : List Str} {rows : List Row} {f : Str → Bool} (ok : ∀ r ∈ rows, RowOk pl r) (h : NB pl (rows.map (ori f))) : Strong pl (arrs rows f) := by
  intro p hp x hx
  by_cases hr : Rch (arrs rows f) p x
  · exact hr
  exfalso
  have kb : ("both" : Str) ≠ "known" := by decide +kernel
  let X : Str → Bool := fun z => @decide (Rch (arrs rows f) p z) (Classical.propDecidable _)
  have X1 : ∀ z, X z = true → Rch (arrs rows f) p z := fun z hz => @of_decide_eq_true _ (Classical.propDecidable _) hz
  have X0 : ∀ z, Rch (arrs rows f) p z → X z = true := fun z hz => @decide_eq_true _ (Classical.propDecidable _) hz
  have := h X ⟨p, hp, X0 _ .refl⟩ ⟨x, hx, by rw [← Bool.not_eq_true]; exact fun z => hr (X1 x z)⟩
  rw [← Bool.not_eq_true, barX_iff] at this
  refine absurd (.inl fun q hq hne => ?_) this
  obtain ⟨r, hrr, rfl⟩ := List.mem_map.mp hq
  have mem : ∀ t ∈ arr1 (ori f r), t ∈ arrs rows f := fun t ht => List.mem_flatMap.mpr ⟨r, hrr, ht⟩
  rcases ori_kd (f := f) (ok r hrr) with hk | hk
  · refine ⟨hk, ?_⟩
    cases e : X (ori f r).a with
    | false => rfl
    | true =>
      refine absurd ?_ hne
      rw [e]
      refine (X0 _ (.step (s := (ori f r).nm) (X1 _ e) (mem _ ?_))).symm
      simp [arr1, hk, kb.symm]
  · exfalso
    apply hne
    cases e : X (ori f r).a with
    | true =>
      refine (X0 _ (.step (s := (ori f r).nm) (X1 _ e) (mem _ ?_))).symm
      simp [arr1, hk]
    | false =>
      cases e2 : X (ori f r).b with
      | false => rfl
      | true =>
        rw [X0 _ (.step (s := (ori f r).nm) (o := (ori f r).b) (X1 _ e2) (mem _ (by simp [arr1, hk])))] at e
        cases e
/-- by a map some street leads out of each set; the rim is there, and the set does not bar -/
theorem arr_row {rows : List Row} {f : Str → Bool} {pl : List Str} (ok : ∀ r ∈ rows, RowOk pl r) {s o t : Str} (h : (s, o, t) ∈ arrs rows f) {X : Str → Bool} (ho : X o = true) (ht : X t = false) :
    ∃ r ∈ rows, X r.a ≠ X r.b ∧ (r.kd = "known" → X r.a = true) ∧ (r.kd = "unread" → X (ori f r).a = true) := by
  unfold arrs at h
  obtain ⟨r, hr, h⟩ := List.mem_flatMap.mp h
  refine ⟨r, hr, ?_⟩
  have uk : ("unread" : Str) ≠ "known" := by decide +kernel
  have ub : ("unread" : Str) ≠ "both" := by decide +kernel
  have kb : ("known" : Str) ≠ "both" := by decide +kernel
  have hk := (ok r hr).kd
  simp [kinds] at hk
  rcases hk with hk | hk | hk
  · unfold arr1 ori at h
    rw [if_pos hk] at h
    cases e : f r.nm with
    | true =>
      rw [e] at h
      simp [fwd, kb] at h
      obtain ⟨_, rfl, rfl⟩ := h
      refine ⟨by rw [ho, ht]; simp, fun z => absurd (hk.symm.trans z) uk, fun _ => by simp [ori, hk, e, fwd, ho]⟩
    | false =>
      rw [e] at h
      simp [bwd, kb] at h
      obtain ⟨_, rfl, rfl⟩ := h
      refine ⟨by rw [ho, ht]; simp, fun z => absurd (hk.symm.trans z) uk, fun _ => by simp [ori, hk, e, bwd, ho]⟩
  · rw [show ori f r = r by simp [ori, hk, uk.symm]] at h
    unfold arr1 at h
    rw [if_neg (by rw [hk]; exact kb)] at h
    simp at h
    obtain ⟨_, rfl, rfl⟩ := h
    exact ⟨by rw [ho, ht]; simp, fun _ => ho, fun z => absurd (z.symm.trans hk) uk⟩
  · rw [show ori f r = r by simp [ori, hk, ub.symm]] at h
    unfold arr1 at h
    rw [if_pos hk] at h
    simp at h
    refine ⟨?_, fun z => absurd (z.symm.trans hk) kb, fun z => absurd (z.symm.trans hk) ub⟩
    rcases h with ⟨_, rfl, rfl⟩ | ⟨_, rfl, rfl⟩ <;> rw [ho, ht] <;> simp
theorem out_of {rows : List Row} {f : Str → Bool} {pl : List Str} (ok : ∀ r ∈ rows, RowOk pl r) (h : Strong pl (arrs rows f)) {X : Str → Bool} (h1 : ∃ p ∈ pl, X p = true) (h0 : ∃ p ∈ pl, X p = false) :
    (∃ s o t, (s, o, t) ∈ arrs rows f ∧ X o = true ∧ X t = false) ∧ rows.filter (rimX X) ≠ [] ∧ barX rows X = false := by
  obtain ⟨p, hp, p1⟩ := h1
  obtain ⟨x, hx, x0⟩ := h0
  obtain ⟨s, o, t, hm, ho, ht⟩ := (h p hp x hx).leave X p1 x0
  obtain ⟨r, hr, hne, hk, hun⟩ := arr_row ok hm ho ht
  refine ⟨⟨s, o, t, hm, ho, ht⟩, fun e => ?_, ?_⟩
  · rw [List.filter_eq_nil_iff] at e
    exact e r hr (by simpa [rimX] using hne)
  · rw [← Bool.not_eq_true, barX_iff]
    rintro (hb | ⟨q, e, hq⟩)
    · have := hb r hr hne
      rw [hk this.1] at this
      exact absurd this.2 (by simp)
    · have hrq : r = q := by
        have : r ∈ rows.filter (rimX X) := List.mem_filter.mpr ⟨hr, by simpa [rimX] using hne⟩
        rw [e] at this
        exact List.mem_singleton.mp this
      subst hrq
      obtain ⟨s', o', t', hm', ho', ht'⟩ := (h x hx p hp).leave (fun z => !X z) (by simp [x0]) (by simp [p1])
      obtain ⟨r', hr', hne', _, hun'⟩ := arr_row (X := fun z => !X z) ok hm' ho' ht'
      have : r' ∈ rows.filter (rimX X) := List.mem_filter.mpr ⟨hr', by simp [rimX] at hne' ⊢; exact hne'⟩
      rw [e] at this
      rw [List.mem_singleton.mp this] at hun'
      have a := hun hq
      have b := hun' hq
      rw [a] at b
      exact absurd b (by simp)
/-- a town has a map just if no set bars it -/
theorem map_iff {pl : List Str} {rows : List Row} (ok : ∀ r ∈ rows, RowOk pl r) (nd : (rows.map Row.nm).Nodup) : (∃ f, Strong pl (arrs rows f)) ↔ NB pl rows := by
  refine ⟨fun ⟨f, h⟩ X h1 h0 => (out_of ok h h1 h0).2.2, fun h => ?_⟩
  obtain ⟨f, hf⟩ := nb_all rows [] (fun q hq => ⟨(ok q (by simpa using hq)).a, (ok q (by simpa using hq)).b⟩) nd (by simpa using h)
  exact ⟨f, strong_of ok (by simpa using hf)⟩
end Dx

set_option Elab.async false
set_option linter.all false
set_option autoImplicit false
set_option maxRecDepth 100000
set_option maxHeartbeats 1000000
/-! DxMf: simp rules for the newer constructs. -/
namespace Dx
open PySem PySem.Spec PyProof.Rows L2 TL
section
variable {s0 : Sl} {ρ : List Sl} {f g h : List Sl → R (D × List Sl)} {l : List Sl → R (List D × List Sl)} {u : List Sl → R (Bool × List Sl)} {i : Nat} {Q : D × List Sl → Prop} {QL : List D × List Sl → Prop} {N : List Sl → Prop} {T : Bool → D → List Sl → Prop}
@[simp ↓] theorem evStar_s : (evStar f l (s0 :: ρ)).sat QL = (f (s0 :: ρ)).sat fun p => (ofO (starO p.1)).sat fun xs => (l p.2).sat fun q => QL (xs ++ q.1, q.2) := by simp [evStar]
@[simp] theorem starO_l {x : List D} : starO (.lst x) = some x := rfl
@[simp] theorem starO_t {x : List D} : starO (.tup x) = some x := rfl
@[simp ↓] theorem evAug_s {F : Int → Int → Int} : (evAug F i f (s0 :: ρ)).sat Q = ∃ m, (s0 :: ρ)[i]? = some (.sh (.int m)) ∧ (f (s0 :: ρ)).sat fun p => (toI p).sat fun k => Q (.int (F m k.1), k.2) := by
  unfold evAug
  split
  · rename_i m e
    rw [R.sat_bind]
    refine propext ⟨fun z => ⟨m, e, ?_⟩, fun ⟨m', e', z⟩ => ?_⟩
    · refine z.mono fun p hp => ?_
      obtain ⟨d, ρ'⟩ := p
      cases d <;> simp at hp
      simpa using hp
    · rw [e] at e'; cases e'
      refine z.mono fun p hp => ?_
      obtain ⟨d, ρ'⟩ := p
      cases d <;> simp [toI] at hp
      simpa using hp
  · rename_i e
    rw [R.sat_bad]
    exact propext ⟨fun z => z.elim, fun ⟨m, e', _⟩ => e m e'⟩
@[simp ↓] theorem evPs_nil {QP : List (D × D) × List Sl → Prop} : (evPs [] (s0 :: ρ)).sat QP = QP ([], s0 :: ρ) := R.sat_ok _
@[simp ↓] theorem evPs_cons {fg : EvD × EvD} {r : List (EvD × EvD)} {QP : List (D × D) × List Sl → Prop} : (evPs (fg :: r) (s0 :: ρ)).sat QP = (fg.1 (s0 :: ρ)).sat fun p => (fg.2 p.2).sat fun q => (evPs r q.2).sat fun s => QP ((p.1, q.1) :: s.1, s.2) := by simp [evPs]
@[simp ↓] theorem evDisp_s {r : List (EvD × EvD)} : (evDisp r (s0 :: ρ)).sat Q = (evPs r (s0 :: ρ)).sat fun p => (ofO (strKs p.1)).sat fun l => l.length ≤ 15 ∧ Q (.dic (dicOf l), p.2) := by simp [evDisp, ifR_s]
@[simp] theorem strKs_nil : strKs [] = some [] := rfl
@[simp] theorem strKs_cons {k : Str} {d : D} {r : List (D × D)} : strKs ((.str k, d) :: r) = (strKs r).map fun l => (k, d) :: l := rfl
@[simp] theorem dicOf_one {k : Str} {d : D} : dicOf [(k, d)] = [(k, d)] := rfl
@[simp ↓] theorem evGet2_s : (evGet2 f g h (s0 :: ρ)).sat Q = (f (s0 :: ρ)).sat fun p => isDic p.1 = true ∧ (g p.2).sat fun q => (h q.2).sat fun r => (ofO (getO p.1 q.1)).sat fun z => Q (z.getD r.1, r.2) := by simp [evGet2, ifR_s]
@[simp ↓] theorem evGet1_s : (evGet1 f g (s0 :: ρ)).sat Q = (f (s0 :: ρ)).sat fun p => isDic p.1 = true ∧ (g p.2).sat fun q => (ofO (getO p.1 q.1)).sat fun z => Q (z.getD .non, q.2) := by simp [evGet1, ifR_s]
@[simp ↓] theorem evGet2V_s : (evGet2V i g h (s0 :: ρ)).sat Q = (ofO (viewD (s0 :: ρ) i)).sat fun d0 => isDic d0 = true ∧ (g (s0 :: ρ)).sat fun q => (h q.2).sat fun r => (ofO (viewD r.2 i)).sat fun d => (ofO (getO d q.1)).sat fun z => Q (z.getD r.1, r.2) := by simp [evGet2V, ifR_s]
@[simp] theorem isDic_d {l : List (Str × D)} : isDic (.dic l) = true := rfl
@[simp] theorem getO_s {l : List (Str × D)} {k : Str} : getO (.dic l) (.str k) = some (l.lookup k) := rfl
@[simp ↓] theorem evListIt_s : (evListIt f (s0 :: ρ)).sat Q = (f (s0 :: ρ)).sat fun p => (ofO (litO p.1)).sat fun z => Q (z, p.2) := by simp [evListIt]
@[simp] theorem litO_d {l : List (Str × D)} {Q : D → Prop} : (ofO (litO (.dic l))).sat Q = (l.length ≤ sizeLine ∧ Q (.lst (itemD l))) := by by_cases e : l.length ≤ sizeLine <;> simp [litO, e]
@[simp ↓] theorem evCallT_s {F : Fd} : (evCallT F g (s0 :: ρ)).sat Q = (g (s0 :: ρ)).sat fun p => (F.sem [p.1]).sat fun q => Q (q.1, p.2) := by simp [evCallT]
@[simp ↓] theorem stWhile_s {g : List Sl → RS} : (stWhile u g (s0 :: ρ)).sat N T = (whF u g fuel0 (s0 :: ρ)).sat N T := rfl
/-! list(zip(l, x)) of names and signs, dict of it -/
@[simp] theorem zsO_l {x : List D} : zsO (.lst x) = some x := rfl
@[simp] theorem zsO_t {x : List D} : zsO (.tup x) = some x := rfl
@[simp] theorem zsO_s {x : Str} : zsO (.str x) = some (chrD x) := rfl
theorem lzO_s {a b : D} : lzO [a, b] = (zsO a).bind fun l => (zsO b).bind fun m => if min l.length m.length ≤ sizeLine then some (.lst (zipD l m)) else none := by simp [lzO]
end
theorem pairsD_map {α : Type} {k : α → Str} {d : α → D} : ∀ l : List α, pairsD (l.map fun x => .tup [.str (k x), d x]) = some (l.map fun x => (k x, d x))
  | [] => rfl
  | x :: l => by
    show (pairsD (l.map fun x => .tup [.str (k x), d x])).map _ = _
    rw [pairsD_map l]; rfl
theorem putD_out {l : List (Str × D)} {k : Str} {v : D} (h : k ∉ l.map (·.1)) : putD l k v = l ++ [(k, v)] := by
  refine putD_new ?_
  induction l with
  | nil => rfl
  | cons x l ih =>
    obtain ⟨a, b⟩ := x
    simp at h
    rw [List.lookup_cons]
    have : (k == a) = false := by simpa using h.1
    rw [this]
    exact ih (by simpa using h.2)
theorem dicOf_nd {l : List (Str × D)} (nd : (l.map (·.1)).Nodup) : dicOf l = l := by
  have gen : ∀ (l acc : List (Str × D)), ((acc ++ l).map (·.1)).Nodup → l.foldl (fun acc p => putD acc p.1 p.2) acc = acc ++ l := by
    intro l
    induction l with
    | nil => intro acc _; simp
    | cons x l ih =>
      intro acc nd
      rw [List.foldl_cons, putD_out]
      · rw [ih _ (by simpa using nd)]; simp
      · rw [List.map_append, List.nodup_append] at nd
        exact fun z => nd.2.2 x.1 z x.1 (by simp) rfl
  have := gen l [] (by simpa using nd)
  simpa [dicOf] using this
/-! rows of signs -/
def sgD (b : Bool) : Str := if b then ">" else "<"
def sgS (w : List Bool) : Str := ⟨(w.map fun b => if b then 62 else 60).toArray⟩
theorem sg_1 : (">" : Str) = ⟨#[62]⟩ := by decide +kernel
theorem sg_0 : ("<" : Str) = ⟨#[60]⟩ := by decide +kernel
theorem sgS_nil : sgS [] = ("" : Str) := by decide +kernel
theorem str_add (x y : List Nat) : (⟨x.toArray⟩ : Str) ++ (⟨y.toArray⟩ : Str) = ⟨(x ++ y).toArray⟩ := by
  show (⟨x.toArray ++ y.toArray⟩ : Str) = _
  simp
theorem sgS_f (w : List Bool) : sgS w ++ ("<" : Str) = sgS (w ++ [false]) := by rw [sg_0]; unfold sgS; rw [show (#[60] : Array Nat) = [60].toArray from rfl, str_add]; simp
theorem sgS_t (w : List Bool) : sgS w ++ (">" : Str) = sgS (w ++ [true]) := by rw [sg_1]; unfold sgS; rw [show (#[62] : Array Nat) = [62].toArray from rfl, str_add]; simp
theorem sgS_len (w : List Bool) : (sgS w).length = w.length := by simp [sgS, Str.length]
theorem sgS_chr (w : List Bool) : chrD (sgS w) = w.map fun b => .str (sgD b) := by
  unfold chrD sgS
  simp [List.map_map]
  exact ⟨fun _ => by simp [sgD, sg_0], fun _ => by simp [sgD, sg_1]⟩
end Dx

set_option Elab.async false
set_option linter.all false
set_option autoImplicit false
set_option maxRecDepth 100000
set_option maxHeartbeats 1000000
/-! DxMg: rows of signs, arrows, as data. -/
namespace Dx
open PySem PySem.Spec PyProof.Rows L2 TL
def arD (a : Arr) : D := .tup [.str a.1, .str a.2.1, .str a.2.2]
def rowsOf : Nat → List (List Bool)
  | 0 => [[]]
  | n + 1 => (rowsOf n).flatMap fun w => [w ++ [false], w ++ [true]]
theorem rowsOf_len : ∀ n, (rowsOf n).length = 2 ^ n
  | 0 => rfl
  | n + 1 => by
    have : ∀ l : List (List Bool), (l.flatMap fun w => [w ++ [false], w ++ [true]]).length = 2 * l.length := by
      intro l
      induction l with
      | nil => rfl
      | cons x l ih => simp [List.flatMap_cons, ih]; omega
    show ((rowsOf n).flatMap _).length = _
    rw [this, rowsOf_len n, Nat.pow_succ]; omega
theorem rowsOf_mem : ∀ {n : Nat} {w : List Bool}, w ∈ rowsOf n ↔ w.length = n
  | 0, w => by simp [rowsOf]
  | n + 1, w => by
    show w ∈ (rowsOf n).flatMap _ ↔ _
    rw [List.mem_flatMap]
    refine ⟨fun ⟨v, hv, h⟩ => ?_, fun h => ?_⟩
    · have := rowsOf_mem.mp hv
      simp at h
      rcases h with rfl | rfl <;> simp [this]
    · have hne : w ≠ [] := fun e => by rw [e] at h; simp at h
      refine ⟨w.dropLast, rowsOf_mem.mpr (by simp [h]), ?_⟩
      have e := List.dropLast_concat_getLast hne
      cases q : w.getLast hne
      · rw [q] at e; exact List.mem_cons.mpr (.inl e.symm)
      · rw [q] at e; exact List.mem_cons.mpr (.inr (List.mem_singleton.mpr e.symm))
def unrB (r : Row) : Bool := decide (r.kd = "unread")
def Lore.unr (l : Lore) : List Str := (l.rows.filter unrB).map Row.nm
def sgn (l : Lore) (w : List Bool) (x : Str) : Bool := ((l.unr.zip w).lookup x).getD true
theorem unr_len (l : Lore) : l.unr.length ≤ l.rows.length := by unfold Lore.unr; rw [List.length_map]; exact List.length_filter_le _ _
theorem unr_nd {l : Lore} (h : LoreOk l) : l.unr.Nodup := (List.filter_sublist.map Row.nm).nodup h.rnd
theorem lk_map {α β : Type} {g : α → β} : ∀ (l : List (Str × α)) (x : Str), (l.map fun p => (p.1, g p.2)).lookup x = (l.lookup x).map g
  | [], _ => rfl
  | (k, v) :: l, x => by
    rw [List.map_cons, List.lookup_cons, List.lookup_cons]
    cases h : x == k
    · exact lk_map l x
    · rfl
theorem lk_mem {α : Type} : ∀ {l : List (Str × α)} {x : Str}, (l.lookup x).isSome = decide (x ∈ l.map (·.1))
  | [], _ => rfl
  | (k, v) :: l, x => by
    rw [List.lookup_cons]
    cases h : x == k
    · have : x ≠ k := by simpa using h
      have ih := lk_mem (l := l) (x := x)
      show (l.lookup x).isSome = _
      rw [ih]
      simp [this]
    · have : x = k := by simpa using h
      simp [this]
theorem zip_fst_sub {α β : Type} : ∀ {l : List α} {m : List β} {x : α}, x ∈ (l.zip m).map (·.1) → x ∈ l
  | [], _, _, h => by simp at h
  | _ :: _, [], _, h => by simp at h
  | a :: l, b :: m, x, h => by
    rw [List.zip_cons_cons, List.map_cons, List.mem_cons] at h
    rcases h with rfl | h
    · simp
    · simp [zip_fst_sub h]
theorem sgn_out {l : Lore} {w : List Bool} {x : Str} (h : x ∉ l.unr) : sgn l w x = true := by
  unfold sgn
  have : ((l.unr.zip w).lookup x).isSome = false := by
    rw [lk_mem]
    exact decide_eq_false fun z => h (zip_fst_sub z)
  cases e : (l.unr.zip w).lookup x with
  | none => rfl
  | some b => rw [e] at this; cases this
/-- the sign of the street at a place -/
theorem sgn_at {l : Lore} {w : List Bool} (h : LoreOk l) {pre post : List Row} {r : Row} (e : l.rows = pre ++ r :: post) (hr : unrB r = true) {b : Bool} (hb : w[(pre.filter unrB).length]? = some b) : sgn l w r.nm = b := by
  have hn : r.nm ∉ pre.map Row.nm := by
    have := h.rnd
    rw [e, List.map_append, List.nodup_append] at this
    exact fun z => this.2.2 _ z r.nm (by simp) rfl
  have eu : l.unr = (pre.filter unrB).map Row.nm ++ r.nm :: (post.filter unrB).map Row.nm := by
    unfold Lore.unr; rw [e]; simp [hr]
  have gen : ∀ (xs : List Str) (w : List Bool) (y : Str) (ys : List Str), y ∉ xs → w[xs.length]? = some b → ((xs ++ y :: ys).zip w).lookup y = some b := by
    intro xs
    induction xs with
    | nil =>
      intro w y ys _ hb
      cases w with
      | nil => simp at hb
      | cons c w => simp at hb; subst hb; simp
    | cons x xs ih =>
      intro w y ys hy hb
      cases w with
      | nil => simp at hb
      | cons c w =>
        simp at hb hy
        rw [List.cons_append, List.zip_cons_cons, List.lookup_cons]
        have : (y == x) = false := by simpa using hy.1
        rw [this]
        exact ih w y ys hy.2 hb
  unfold sgn
  rw [eu, gen _ w r.nm _ (fun z => hn (by
    obtain ⟨q, hq, e⟩ := List.mem_map.mp z
    exact e ▸ List.mem_map_of_mem (List.mem_filter.mp hq).1)) (by rw [List.length_map]; exact hb)]
  rfl
theorem sgn_of {l : Lore} (f : Str → Bool) : ∀ r ∈ l.rows, unrB r = true → sgn l (l.unr.map f) r.nm = f r.nm := by
  intro r hr hu
  have hm : r.nm ∈ l.unr := List.mem_map_of_mem (List.mem_filter.mpr ⟨hr, hu⟩)
  have gen : ∀ (xs : List Str) (x : Str), x ∈ xs → ((xs.zip (xs.map f)).lookup x) = some (f x) := by
    intro xs
    induction xs with
    | nil => intro x h; simp at h
    | cons y xs ih =>
      intro x h
      rw [List.map_cons, List.zip_cons_cons, List.lookup_cons]
      cases q : x == y
      · have : x ≠ y := by simpa using q
        exact ih x (by simpa [this] using h)
      · have : x = y := by simpa using q
        rw [this]
  unfold sgn
  rw [gen _ _ hm]
  rfl
theorem arrs_congr {rows : List Row} {f g : Str → Bool} (h : ∀ r ∈ rows, unrB r = true → f r.nm = g r.nm) : arrs rows f = arrs rows g := by
  have : ∀ r ∈ rows, ori f r = ori g r := fun r hr => by
    unfold ori
    split
    · rename_i hu
      rw [h r hr (by simp [unrB, hu])]
    · rfl
  unfold arrs
  induction rows with
  | nil => rfl
  | cons r rows ih =>
    rw [List.flatMap_cons, List.flatMap_cons, this r (by simp), ih (fun r hr => h r (by simp [hr])) fun r hr => this r (by simp [hr])]
/-- the law's maps: rows of signs by which everybody gets everywhere -/
noncomputable def mapB (l : Lore) (w : List Bool) : Bool := @decide (Strong l.pl (arrs l.rows (sgn l w))) (Classical.propDecidable _)
theorem mapB_iff {l : Lore} {w : List Bool} : mapB l w = true ↔ Strong l.pl (arrs l.rows (sgn l w)) := ⟨fun h => @of_decide_eq_true _ (Classical.propDecidable _) h, fun h => @decide_eq_true _ (Classical.propDecidable _) h⟩
theorem arrs_ends {l : Lore} (h : LoreOk l) {f : Str → Bool} {a : Arr} (ha : a ∈ arrs l.rows f) : a.2.1 ∈ l.pl ∧ a.2.2 ∈ l.pl :=
  arrs_mem (fun q hq => ⟨(h.ok q hq).a, (h.ok q hq).b⟩) (s := a.1) ha
theorem rch_in {pl : List Str} {A : List Arr} (h : ∀ a ∈ A, a.2.1 ∈ pl ∧ a.2.2 ∈ pl) {p x : Str} (hp : p ∈ pl) (r : Rch A p x) : x ∈ pl := by
  cases r with
  | refl => exact hp
  | step _ e => exact (h _ e).2
theorem nes_nil {l : List Str} : neO (.lst (l.map .str)) (.lst []) = some (.bl (!nilB l)) := by
  unfold neO
  have e1 : flatD (.lst (l.map .str)) = true := flatL_str l
  have e2 : depD (.lst (l.map .str)) ≤ maxDep := by show depL (l.map .str) + 1 ≤ 60; rw [depL_str]; decide
  rw [e1, decide_eq_true e2]
  cases l <;> rfl
/-- the length of what is come to -/
theorem come_all {pl : List Str} {A : List Arr} {p : Str} {K : List Str} (nd : K.Nodup) (hpl : pl.Nodup) (h : ∀ a ∈ A, a.2.1 ∈ pl ∧ a.2.2 ∈ pl) (hp : p ∈ pl) (hK : ∀ x, x ∈ K ↔ Rch A p x) : (K.length < pl.length) ↔ ¬ ∀ x ∈ pl, Rch A p x := by
  have sub : ∀ x ∈ K, x ∈ pl := fun x hx => rch_in h hp ((hK x).mp hx)
  refine ⟨fun hl z => ?_, fun z => ?_⟩
  · have := len_sub hpl (fun x hx => (hK x).mpr (z x hx))
    omega
  · rw [Classical.not_forall] at z
    obtain ⟨x, hx⟩ := z
    rw [Classical.not_imp] at hx
    have := len_sub (K := x :: K) (l := pl) (List.nodup_cons.mpr ⟨fun y => hx.2 ((hK x).mp y), nd⟩) (by
      intro y hy
      rcases List.mem_cons.mp hy with rfl | hy
      · exact hx.1
      · exact sub y hy)
    simp at this
    omega
end Dx
namespace Dx
open PySem
@[simp] theorem len_lt : (Str.ofString "<").length = 1 := by decide +kernel
@[simp] theorem len_gt : (Str.ofString ">").length = 1 := by decide +kernel
@[simp] theorem sum_two {α : Type} : ∀ l : List α, (l.map fun _ => 2).sum = 2 * l.length
  | [] => rfl
  | _ :: l => by rw [List.map_cons, List.sum_cons, sum_two l, List.length_cons]; omega
end Dx
namespace Dx
open PySem
abbrev ks (f : List (Str × D)) : List Str := f.map (·.1)
/-- places that were come to so far; those of the last level -/
structure CmI (A : List Arr) (p : Str) (f : List (Str × D)) (L : List Str) : Prop where
  nd : (ks f).Nodup
  hp : p ∈ ks f
  rch : ∀ x ∈ ks f, Rch A p x
  hL : ∀ x ∈ L, x ∈ ks f
  cl : ∀ a ∈ A, a.2.1 ∈ ks f → a.2.1 ∉ L → a.2.2 ∈ ks f
structure CmJ (A : List Arr) (p : Str) (f : List (Str × D)) (L : List Str) (pre : List Arr) (f' : List (Str × D)) (lat : List Str) : Prop where
  e : ks f' = ks f ++ lat
  nd : (ks f').Nodup
  rch : ∀ x ∈ ks f', Rch A p x
  cl : ∀ a ∈ pre, a.2.1 ∈ L → a.2.2 ∈ ks f'
theorem CmI.init {A : List Arr} {p : Str} {d : D} : CmI A p [(p, d)] [p] :=
  ⟨by simp, by simp, by simp; exact .refl, by simp, fun a _ h1 h2 => (h2 (by simpa using h1)).elim⟩
theorem CmI.len {A : List Arr} {p : Str} {f : List (Str × D)} {L pl : List Str} (h : CmI A p f L) (hA : ∀ a ∈ A, a.2.1 ∈ pl ∧ a.2.2 ∈ pl) (hp : p ∈ pl) : f.length ≤ pl.length := by
  have := len_sub h.nd (fun x hx => rch_in hA hp (h.rch x hx))
  rwa [List.length_map] at this
theorem CmJ.len {A : List Arr} {p : Str} {f f' : List (Str × D)} {L lat pl : List Str} {pre : List Arr} (h : CmJ A p f L pre f' lat) (hA : ∀ a ∈ A, a.2.1 ∈ pl ∧ a.2.2 ∈ pl) (hp : p ∈ pl) : f'.length ≤ pl.length ∧ f'.length = f.length + lat.length := by
  have := len_sub h.nd (fun x hx => rch_in hA hp (h.rch x hx))
  rw [List.length_map] at this
  have e := congrArg List.length h.e
  simp at e
  exact ⟨this, e⟩
theorem CmI.fin {A : List Arr} {p : Str} {f : List (Str × D)} (h : CmI A p f []) (x : Str) : x ∈ ks f ↔ Rch A p x := by
  refine ⟨h.rch x, fun r => ?_⟩
  induction r with
  | refl => exact h.hp
  | step _ e2 ih => exact h.cl _ e2 ih (by simp)
theorem CmI.start {A : List Arr} {p : Str} {f : List (Str × D)} {L : List Str} (h : CmI A p f L) : CmJ A p f L [] f [] := ⟨by simp, h.nd, h.rch, by simp⟩
theorem CmJ.skip {A : List Arr} {p : Str} {f f' : List (Str × D)} {L lat : List Str} {pre : List Arr} {a : Arr} (h : CmJ A p f L pre f' lat) (w : a.2.1 ∈ L → a.2.2 ∈ ks f') : CmJ A p f L (pre ++ [a]) f' lat :=
  ⟨h.e, h.nd, h.rch, fun b hb hl => by
    rcases List.mem_append.mp hb with hb | hb
    · exact h.cl b hb hl
    · rw [List.mem_singleton.mp hb] at hl ⊢; exact w hl⟩
theorem CmJ.add {A : List Arr} {p : Str} {f f' : List (Str × D)} {L lat : List Str} {pre : List Arr} {s o t : Str} {d : D} (h : CmJ A p f L pre f' lat) (ho : o ∈ ks f') (hm : (s, o, t) ∈ A) (ht : t ∉ ks f') : CmJ A p f L (pre ++ [(s, o, t)]) (putD f' t d) (lat ++ [t]) := by
  have e1 : ks (putD f' t d) = ks f' ++ [t] := by rw [putD_out ht]; simp [ks]
  refine ⟨by rw [e1, h.e]; simp, ?_, ?_, ?_⟩
  · rw [e1, List.nodup_append]
    refine ⟨h.nd, by simp, fun x hx y hy e => ?_⟩
    simp at hy
    subst hy
    exact ht (e ▸ hx)
  · intro x hx
    rw [e1] at hx
    rcases List.mem_append.mp hx with hx | hx
    · exact h.rch x hx
    · rw [List.mem_singleton.mp hx]; exact .step (h.rch o ho) hm
  · intro a ha hal
    rw [e1, List.mem_append]
    rcases List.mem_append.mp ha with ha | ha
    · exact .inl (h.cl a ha hal)
    · rw [List.mem_singleton.mp ha]; exact .inr (by simp)
theorem CmJ.done {A : List Arr} {p : Str} {f f' : List (Str × D)} {L lat : List Str} (h0 : CmI A p f L) (h : CmJ A p f L A f' lat) : CmI A p f' lat := by
  have hsub : ∀ x ∈ ks f, x ∈ ks f' := fun x hx => by rw [h.e]; exact List.mem_append_left _ hx
  refine ⟨h.nd, hsub p h0.hp, h.rch, fun x hx => by rw [h.e]; exact List.mem_append_right _ hx, fun a ha h1 h2 => ?_⟩
  rw [h.e] at h1
  rcases List.mem_append.mp h1 with h1 | h1
  · by_cases q : a.2.1 ∈ L
    · exact h.cl a ha q
    · exact hsub _ (h0.cl a ha h1 q)
  · exact absurd h1 h2
end Dx
namespace Dx
open PySem L2
/-- the signs, as a dict -/
def toldD (l : Lore) (w : List Bool) : List (Str × D) := (l.unr.zip w).map fun p => (p.1, .str (sgD p.2))
theorem told_get (l : Lore) (w : List Bool) (x : Str) : ((toldD l w).lookup x).getD (.str ">") = .str (sgD (sgn l w x)) := by
  unfold toldD sgn
  rw [lk_map (g := fun b => D.str (sgD b))]
  cases (l.unr.zip w).lookup x <;> rfl
theorem told_dict {l : Lore} (h : LoreOk l) (w : List Bool) : (lzO [strL l.unr, .str (sgS w)]).bind (fun z => dictO [z]) = some (.dic (toldD l w)) := by
  have hf := h.few
  have hu := unr_len l
  rw [lzO_s]
  show (if min (l.unr.map D.str).length (chrD (sgS w)).length ≤ sizeLine then some (D.lst (zipD (l.unr.map D.str) (chrD (sgS w)))) else none).bind _ = _
  rw [if_pos (by rw [List.length_map]; unfold sizeLine; omega), Option.bind_some, sgS_chr, zipD_map]
  show (pairsD _).map _ = _
  rw [pairsD_map (k := fun p : Str × Bool => p.1) (d := fun p => .str (sgD p.2))]
  show some (D.dic (dicOf (toldD l w))) = _
  rw [dicOf_nd]
  show ((toldD l w).map (·.1)).Nodup
  have e : (toldD l w).map (·.1) = (l.unr.zip w).map (·.1) := by unfold toldD; rw [List.map_map]; rfl
  rw [e]
  have sub : ∀ (xs : List Str) (w : List Bool), ((xs.zip w).map (·.1)).Sublist xs := by
    intro xs
    induction xs with
    | nil => intro w; simp
    | cons x xs ih =>
      intro w
      cases w with
      | nil => simp
      | cons b w => simpa using ih w
  exact (sub _ _).nodup (unr_nd h)
@[simp] theorem sgD_gt (b : Bool) : decide (sgD b = ">") = b := by cases b <;> decide +kernel
@[simp] theorem sgD_lt (b : Bool) : decide (sgD b = "<") = !b := by cases b <;> decide +kernel
theorem kd_uk : ("unread" : Str) ≠ "known" := by decide +kernel
theorem kd_ub : ("unread" : Str) ≠ "both" := by decide +kernel
theorem kd_kb : ("known" : Str) ≠ "both" := by decide +kernel
theorem sgn_known {l : Lore} {w : List Bool} (h : LoreOk l) {r : Row} (hr : r ∈ l.rows) (hu : unrB r = false) : sgn l w r.nm = true := by
  refine sgn_out fun z => ?_
  unfold Lore.unr at z
  obtain ⟨q, hq, e⟩ := List.mem_map.mp z
  obtain ⟨hq1, hq2⟩ := List.mem_filter.mp hq
  have : q = r := by
    have nd := h.rnd
    obtain ⟨i, hi, e1⟩ := List.mem_iff_getElem.mp hq1
    obtain ⟨j, hj, e2⟩ := List.mem_iff_getElem.mp hr
    have : i = j := by
      refine (List.getElem_inj (xs := l.rows.map Row.nm) (h₀ := by simpa using hi) (h₁ := by simpa using hj) nd).mp ?_
      simp [e1, e2, e]
    subst this
    rw [← e1, ← e2]
  subst this
  rw [hq2] at hu
  cases hu
/-- the arrows of a row, by its kind -/
theorem arr_both {f : Str → Bool} {r : Row} (h : r.kd = "both") : arr1 (ori f r) = [(r.nm, r.a, r.b), (r.nm, r.b, r.a)] := by simp [arr1, ori, h, kd_ub.symm]
theorem arr_known {f : Str → Bool} {r : Row} (h : r.kd = "known") : arr1 (ori f r) = [(r.nm, r.a, r.b)] := by simp [arr1, ori, h, kd_uk.symm, kd_kb]
theorem arr_t {f : Str → Bool} {r : Row} (h : r.kd = "unread") (e : f r.nm = true) : arr1 (ori f r) = [(r.nm, r.a, r.b)] := by simp [arr1, ori, h, e, fwd, kd_kb]
theorem arr_f {f : Str → Bool} {r : Row} (h : r.kd = "unread") (e : f r.nm = false) : arr1 (ori f r) = [(r.nm, r.b, r.a)] := by simp [arr1, ori, h, e, bwd, kd_kb]
theorem arrs_add (pre : List Row) (r : Row) (f : Str → Bool) : arrs (pre ++ [r]) f = arrs pre f ++ arr1 (ori f r) := by simp [arrs]
theorem arrs_len (rows : List Row) (f : Str → Bool) : (arrs rows f).length ≤ 2 * rows.length := by
  induction rows with
  | nil => simp [arrs]
  | cons r rows ih =>
    have : (arr1 (ori f r)).length ≤ 2 := by unfold arr1; split <;> simp
    have e : arrs (r :: rows) f = arr1 (ori f r) ++ arrs rows f := by simp [arrs]
    rw [e, List.length_append, List.length_cons]
    omega
end Dx
namespace Dx
open PySem L2
theorem told_two {l : Lore} (h : LoreOk l) (w : List Bool) : ∃ m, lzO [strL l.unr, .str (sgS w)] = some (.lst m) ∧ dictO [.lst m] = some (.dic (toldD l w)) := by
  have ht := told_dict h w
  rw [Option.bind_eq_some_iff] at ht
  obtain ⟨z, e1, e2⟩ := ht
  rw [lzO_s] at e1 ⊢
  have e3 : zsO (strL l.unr) = some (l.unr.map .str) := rfl
  have e4 : zsO (.str (sgS w)) = some (chrD (sgS w)) := rfl
  rw [e3, e4, Option.bind_some, Option.bind_some] at e1 ⊢
  split at e1
  · cases e1
    exact ⟨_, by rw [if_pos (by assumption)], e2⟩
  · cases e1
end Dx

set_option Elab.async false
set_option linter.all false
set_option autoImplicit false
set_option maxRecDepth 100000
set_option maxHeartbeats 1000000
/-! DxMh: roads from a place. -/
namespace Dx
open PySem L2
theorem lk_get {α : Type} : ∀ {l : List (Str × α)} {x : Str} {v : α}, l.lookup x = some v → (x, v) ∈ l
  | [], _, _, h => by cases h
  | (k, w) :: l, x, v, h => by
    rw [List.lookup_cons] at h
    cases e : x == k
    · rw [e] at h; exact List.mem_cons_of_mem _ (lk_get h)
    · rw [e] at h; cases h
      have : x = k := by simpa using e
      rw [this]; simp
structure RdI (A : List Arr) (p : Str) (f : List (Str × D)) (n : Nat) : Prop where
  nd : (ks f).Nodup
  hp : p ∈ ks f
  rch : ∀ x ∈ ks f, Rch A p x
  le : n ≤ f.length
  cl : ∀ a ∈ A, a.2.1 ∈ (ks f).take n → a.2.2 ∈ ks f
  rd : ∀ x ∈ f, ∃ r : List Str, x.2 = strL r ∧ r.length < f.length
structure RdJ (A : List Arr) (p : Str) (f : List (Str × D)) (c : Str) (pre : List Arr) (f' : List (Str × D)) : Prop where
  e : ∃ lat, ks f' = ks f ++ lat
  nd : (ks f').Nodup
  rch : ∀ x ∈ ks f', Rch A p x
  cl : ∀ a ∈ pre, a.2.1 = c → a.2.2 ∈ ks f'
  rd : ∀ x ∈ f', ∃ r : List Str, x.2 = strL r ∧ r.length < f'.length
section
variable {A : List Arr} {p c : Str} {f f' : List (Str × D)} {n : Nat} {pre : List Arr} {pl : List Str}
theorem RdI.init : RdI A p [(p, strL [])] 0 := ⟨by simp, by simp, by simp; exact .refl, by simp, by simp, fun x hx => ⟨[], by rw [List.mem_singleton.mp hx], by simp⟩⟩
theorem RdI.len (h : RdI A p f n) (hA : ∀ a ∈ A, a.2.1 ∈ pl ∧ a.2.2 ∈ pl) (hp : p ∈ pl) : f.length ≤ pl.length := by
  have := len_sub h.nd (fun x hx => rch_in hA hp (h.rch x hx))
  rwa [List.length_map] at this
theorem RdJ.len (h : RdJ A p f c pre f') (hA : ∀ a ∈ A, a.2.1 ∈ pl ∧ a.2.2 ∈ pl) (hp : p ∈ pl) : f'.length ≤ pl.length := by
  have := len_sub h.nd (fun x hx => rch_in hA hp (h.rch x hx))
  rwa [List.length_map] at this
theorem RdI.start (h : RdI A p f n) : RdJ A p f c [] f := ⟨⟨[], by simp⟩, h.nd, h.rch, by simp, h.rd⟩
theorem RdJ.skip {a : Arr} (h : RdJ A p f c pre f') (w : a.2.1 = c → a.2.2 ∈ ks f') : RdJ A p f c (pre ++ [a]) f' :=
  ⟨h.e, h.nd, h.rch, fun b hb hl => by
    rcases List.mem_append.mp hb with hb | hb
    · exact h.cl b hb hl
    · rw [List.mem_singleton.mp hb] at hl ⊢; exact w hl, h.rd⟩
/-- the road to a place that was come to -/
theorem RdJ.road (h : RdJ A p f c pre f') {o : Str} (ho : o ∈ ks f') : ∃ r : List Str, f'.lookup o = some (strL r) ∧ r.length < f'.length := by
  have : (f'.lookup o).isSome = true := by rw [lk_mem]; exact decide_eq_true ho
  obtain ⟨v, e⟩ := Option.isSome_iff_exists.mp this
  obtain ⟨r, e2, hl⟩ := h.rd _ (lk_get e)
  exact ⟨r, by rw [e]; exact congrArg some e2, hl⟩
theorem RdJ.add {s o t : Str} {r : List Str} (h : RdJ A p f c pre f') (ho : o ∈ ks f') (hm : (s, o, t) ∈ A) (ht : t ∉ ks f') (hl : r.length < f'.length) : RdJ A p f c (pre ++ [(s, o, t)]) (putD f' t (strL (r ++ [s]))) := by
  have e0 : putD f' t (strL (r ++ [s])) = f' ++ [(t, strL (r ++ [s]))] := putD_out ht
  have e1 : ks (putD f' t (strL (r ++ [s]))) = ks f' ++ [t] := by rw [e0]; simp [ks]
  obtain ⟨lat, el⟩ := h.e
  refine ⟨⟨lat ++ [t], by rw [e1, el]; simp⟩, ?_, ?_, ?_, ?_⟩
  · rw [e1, List.nodup_append]
    refine ⟨h.nd, by simp, fun x hx y hy e => ?_⟩
    simp at hy
    subst hy
    exact ht (e ▸ hx)
  · intro x hx
    rw [e1] at hx
    rcases List.mem_append.mp hx with hx | hx
    · exact h.rch x hx
    · rw [List.mem_singleton.mp hx]; exact .step (h.rch o ho) hm
  · intro a ha hal
    rw [e1, List.mem_append]
    rcases List.mem_append.mp ha with ha | ha
    · exact .inl (h.cl a ha hal)
    · rw [List.mem_singleton.mp ha]; exact .inr (by simp)
  · intro x hx
    rw [e0] at hx ⊢
    rw [List.length_append]
    rcases List.mem_append.mp hx with hx | hx
    · obtain ⟨r', e2, h2⟩ := h.rd x hx
      exact ⟨r', e2, by omega⟩
    · rw [List.mem_singleton.mp hx]
      exact ⟨r ++ [s], rfl, by simp; omega⟩
theorem RdJ.done (h0 : RdI A p f n) (hc : (ks f)[n]? = some c) (h : RdJ A p f c A f') : RdI A p f' (n + 1) := by
  obtain ⟨lat, el⟩ := h.e
  have hsub : ∀ x ∈ ks f, x ∈ ks f' := fun x hx => by rw [el]; exact List.mem_append_left _ hx
  have hn : n < (ks f).length := by
    rw [List.getElem?_eq_some_iff] at hc
    exact hc.1
  have e1 := congrArg List.length el
  simp at e1 hn
  refine ⟨h.nd, hsub p h0.hp, h.rch, by omega, fun a ha h1 => ?_, h.rd⟩
  rw [el, List.take_append_of_le_length (by simp; omega), List.take_add_one, hc] at h1
  rcases List.mem_append.mp h1 with h1 | h1
  · exact hsub _ (h0.cl a ha h1)
  · exact h.cl a ha (by simpa using h1)
theorem RdI.fin (h : RdI A p f n) (hn : ¬ n < f.length) (x : Str) : x ∈ ks f ↔ Rch A p x := by
  have e : (ks f).take n = ks f := List.take_of_length_le (by simp; omega)
  refine ⟨h.rch x, fun r => ?_⟩
  induction r with
  | refl => exact h.hp
  | step _ e2 ih => exact h.cl _ e2 (by rw [e]; exact ih)
end
end Dx
namespace Dx
open PySem L2
theorem sgS_ix {w : List Bool} {n : Nat} {b : Bool} (hl : w.length ≤ 1000) (h : w[n]? = some b) : ixO (.str (sgS w)) (.int n) = some (.str (sgD b)) := by
  show (if okLen (sgS w).length then (atI (sgS w).cps.toList n).map fun c => D.str ⟨#[c]⟩ else none) = _
  rw [if_pos (okLen_lit (by rw [sgS_len]; omega))]
  have hn := (List.getElem?_eq_some_iff.mp h).1
  have e : (sgS w).cps.toList = w.map fun b => if b then 62 else 60 := by simp [sgS]
  rw [e, atI_nat (n := n) rfl (by simpa using hn), List.getElem?_map, h]
  cases b <;> simp [sgD, sg_1, sg_0]
end Dx

set_option Elab.async false
set_option linter.all false
set_option maxRecDepth 100000
set_option maxHeartbeats 1000000
/-! DxMi: sets of places; which set bars a town that has no map. -/
namespace Dx
open PySem L2 TL
/-- a street with just one end in a set -/
def rimB (s : List Str) (r : Row) : Bool := !(decide (r.a ∈ s) == decide (r.b ∈ s))
/-- it can lead out -/
def outB (s : List Str) (r : Row) : Bool := !decide (r.kd = "known") || decide (r.a ∈ s)
/-- the rows of a set's rim, and what bars -/
def barB (l : Lore) (s : List Str) : Bool := nilB ((l.rows.filter (rimB s)).filter (outB s)) || match l.rows.filter (rimB s) with
  | [r] => decide (r.kd = "unread")
  | _ => false
theorem barB_X (l : Lore) (s : List Str) : barB l s = barX l.rows fun x => decide (x ∈ s) := rfl
/-- all parts of a list, in the law's sequence -/
def parts (pl : List Str) : List (List Str) := pl.foldl (fun acc p => acc ++ acc.map (· ++ [p])) [[]]
theorem parts_add (pre : List Str) (p : Str) : parts (pre ++ [p]) = parts pre ++ (parts pre).map (· ++ [p]) := by simp [parts]
theorem rev_ind {α : Type} {P : List α → Prop} (h0 : P []) (h1 : ∀ l x, P l → P (l ++ [x])) (l : List α) : P l := by
  have : ∀ m : List α, P m.reverse := by
    intro m
    induction m with
    | nil => exact h0
    | cons x m ih => rw [List.reverse_cons]; exact h1 _ _ ih
  have h := this l.reverse
  rwa [List.reverse_reverse] at h
theorem parts_ok (pl : List Str) : (parts pl).length = 2 ^ pl.length ∧ (∀ s ∈ parts pl, s.Sublist pl) ∧ (∃ M, parts pl = [] :: M ∧ ∀ s ∈ M, 1 ≤ s.length) ∧ ∃ M, parts pl = M ++ [pl] ∧ ∀ s ∈ M, s.length < pl.length := by
  refine rev_ind (P := fun pl => (parts pl).length = 2 ^ pl.length ∧ (∀ s ∈ parts pl, s.Sublist pl) ∧ (∃ M, parts pl = [] :: M ∧ ∀ s ∈ M, 1 ≤ s.length) ∧ ∃ M, parts pl = M ++ [pl] ∧ ∀ s ∈ M, s.length < pl.length) ?_ ?_ pl
  · exact ⟨rfl, by simp [parts], ⟨[], rfl, by simp⟩, [], rfl, by simp⟩
  · rintro l x ⟨h1, h2, ⟨M, e, hM⟩, M2, e2, hM2⟩
    rw [parts_add]
    refine ⟨by simp [h1, Nat.pow_succ]; omega, ?_, ⟨M ++ (parts l).map (· ++ [x]), by rw [e]; rfl, ?_⟩, parts l ++ M2.map (· ++ [x]), by rw [e2]; simp, ?_⟩
    · intro s hs
      rcases List.mem_append.mp hs with hs | hs
      · exact (h2 s hs).trans (List.sublist_append_left ..)
      · obtain ⟨t, ht, rfl⟩ := List.mem_map.mp hs
        exact (h2 t ht).append (List.Sublist.refl _)
    · intro s hs
      rcases List.mem_append.mp hs with hs | hs
      · exact hM s hs
      · obtain ⟨t, ht, rfl⟩ := List.mem_map.mp hs
        simp
    · intro s hs
      rcases List.mem_append.mp hs with hs | hs
      · have := (h2 s hs).length_le
        simp; omega
      · obtain ⟨t, ht, rfl⟩ := List.mem_map.mp hs
        have := hM2 t ht
        simp; omega
theorem cut_mid {α : Type} {l : List α} {s : α} (h : s ∈ cutL l (some 1) (some (-1))) : s ∈ l.drop 1 ∧ s ∈ l.take (l.length - 1) := by
  unfold cutL at h
  have e1 : HT.sIx l.length 0 (some 1) = min 1 l.length := rfl
  have e2 : HT.sIx l.length l.length (some (-1)) = l.length - 1 := by
    show (if (-1 : Int) < 0 then ((-1 : Int) + (l.length : Int)).toNat else min ((-1 : Int)).toNat l.length) = _
    rw [if_pos (by decide)]
    omega
  rw [e1, e2] at h
  cases l with
  | nil => simp at h
  | cons x l =>
    rw [show min 1 (x :: l).length = 1 by simp] at h
    refine ⟨List.mem_of_mem_take h, ?_⟩
    simp at h ⊢
    rw [List.mem_iff_getElem?] at h ⊢
    obtain ⟨n, hn⟩ := h
    refine ⟨n + 1, ?_⟩
    rw [List.getElem?_take] at hn ⊢
    split at hn
    · rw [if_pos (by omega)]; simpa using hn
    · cases hn
theorem mid_ok {pl s : List Str} (h : s ∈ cutL (parts pl) (some 1) (some (-1))) : IsSet pl s := by
  obtain ⟨h1, h2⟩ := cut_mid h
  obtain ⟨_, p2, ⟨M, e, hM⟩, M2, e2, hM2⟩ := parts_ok pl
  refine ⟨p2 s (List.mem_of_mem_drop h1), hM s (by rw [e] at h1; simpa using h1), hM2 s ?_⟩
  rw [e2] at h2
  simpa using h2
/-- each part of a list is among its parts -/
theorem parts_all (pl : List Str) : ∀ s : List Str, s.Sublist pl → s ∈ parts pl := by
  refine rev_ind (P := fun pl => ∀ s : List Str, s.Sublist pl → s ∈ parts pl) ?_ ?_ pl
  · intro s hs
    rw [List.sublist_nil.mp hs]
    simp [parts]
  · intro l x ih s hs
    rw [parts_add]
    obtain ⟨s1, s2, rfl, h1, h2⟩ := List.sublist_append_iff.mp hs
    have : s2 = [] ∨ s2 = [x] := by
      cases s2 with
      | nil => exact .inl rfl
      | cons y t =>
        have hl := h2.length_le
        simp at hl
        subst hl
        have := h2.subset (List.mem_singleton.mpr rfl)
        rw [List.mem_singleton.mp this]
        exact .inr rfl
    rcases this with rfl | rfl
    · exact List.mem_append_left _ (by simpa using ih s1 h1)
    · exact List.mem_append_right _ (List.mem_map_of_mem (ih s1 h1))
theorem mid_all {pl s : List Str} (hs : IsSet pl s) : s ∈ cutL (parts pl) (some 1) (some (-1)) := by
  obtain ⟨h1, h2, h3⟩ := hs
  have hm := parts_all pl s h1
  obtain ⟨_, p2, ⟨M, e, hM⟩, M2, e2, hM2⟩ := parts_ok pl
  obtain ⟨i, hi, ei⟩ := List.mem_iff_getElem.mp hm
  have i0 : i ≠ 0 := by
    intro z
    subst z
    simp [e] at ei
    rw [ei] at h2
    simp at h2
  have i1 : i ≠ (parts pl).length - 1 := by
    intro z
    have : (parts pl)[(parts pl).length - 1]? = some pl := by rw [e2]; simp
    rw [← z, List.getElem?_eq_getElem hi, ei] at this
    cases this
    omega
  unfold cutL
  have e1 : HT.sIx (parts pl).length 0 (some 1) = min 1 (parts pl).length := rfl
  have e3 : HT.sIx (parts pl).length (parts pl).length (some (-1)) = (parts pl).length - 1 := by
    show (if (-1 : Int) < 0 then ((-1 : Int) + ((parts pl).length : Int)).toNat else min ((-1 : Int)).toNat (parts pl).length) = _
    rw [if_pos (by decide)]
    omega
  rw [e1, e3, show min 1 (parts pl).length = 1 by omega]
  refine List.mem_iff_getElem?.mpr ⟨i - 1, ?_⟩
  rw [List.getElem?_take, if_pos (by omega), List.getElem?_drop, show 1 + (i - 1) = i by omega, List.getElem?_eq_getElem hi, ei]
theorem barX_congr {rows : List Row} {X Y : Str → Bool} (h : ∀ r ∈ rows, X r.a = Y r.a ∧ X r.b = Y r.b) : barX rows X = barX rows Y := by
  have e : rows.filter (rimX X) = rows.filter (rimX Y) := List.filter_congr fun r hr => by unfold rimX; rw [(h r hr).1, (h r hr).2]
  unfold barX
  rw [e]
  congr 2
  exact List.filter_congr fun r hr => by
    have := (List.mem_filter.mp hr).1
    unfold outX; rw [(h r this).1]
theorem nb_sets {l : Lore} (h : LoreOk l) : (∀ s ∈ cutL (parts l.pl) (some 1) (some (-1)), barB l s = false) ↔ NB l.pl l.rows := by
  refine ⟨fun hs X ⟨p, hp, p1⟩ ⟨q, hq, q0⟩ => ?_, fun hn s hs => ?_⟩
  · have e : ∀ x ∈ l.pl, X x = decide (x ∈ l.pl.filter X) := fun x hx => by
      cases q : X x
      · exact (decide_eq_false fun z => by rw [(List.mem_filter.mp z).2] at q; cases q).symm
      · exact (decide_eq_true (List.mem_filter.mpr ⟨hx, q⟩)).symm
    have := hs (l.pl.filter X) (mid_all ⟨List.filter_sublist, List.length_pos_of_mem (List.mem_filter.mpr ⟨hp, p1⟩), ?_⟩)
    · rw [← this]
      exact barX_congr (Y := fun x => decide (x ∈ l.pl.filter X)) fun r hr => ⟨e _ (h.ok r hr).a, e _ (h.ok r hr).b⟩
    · refine Nat.lt_of_le_of_ne (List.length_filter_le _ _) fun z => ?_
      have := List.filter_eq_self.mp (List.filter_sublist.eq_of_length z) q hq
      rw [q0] at this
      cases this
  · obtain ⟨h1, h2, h3⟩ := mid_ok hs
    obtain ⟨x, hx⟩ : ∃ x, x ∈ s := by
      cases s with
      | nil => simp at h2
      | cons x _ => exact ⟨x, by simp⟩
    obtain ⟨y, hy, hys⟩ : ∃ y ∈ l.pl, y ∉ s := by
      refine Classical.byContradiction fun z => ?_
      have : ∀ y ∈ l.pl, y ∈ s := fun y hy => Classical.byContradiction fun w => z ⟨y, hy, w⟩
      have := len_sub h.nd this
      omega
    exact hn (fun x => decide (x ∈ s)) ⟨x, h1.subset hx, decide_eq_true hx⟩ ⟨y, hy, decide_eq_false hys⟩
/-- by a map each set has a street that leads out -/
theorem set_out {l : Lore} {f : Str → Bool} (h : LoreOk l) (hs : Strong l.pl (arrs l.rows f)) {s : List Str} (hset : IsSet l.pl s) : ((arrs l.rows f).any fun a => decide (a.2.1 ∈ s) && !decide (a.2.2 ∈ s)) = true ∧ l.rows.filter (rimB s) ≠ [] ∧ barB l s = false := by
  obtain ⟨h1, h2, h3⟩ := hset
  obtain ⟨x, hx⟩ : ∃ x, x ∈ s := by
    cases s with
    | nil => simp at h2
    | cons x _ => exact ⟨x, by simp⟩
  obtain ⟨y, hy, hys⟩ : ∃ y ∈ l.pl, y ∉ s := by
    refine Classical.byContradiction fun z => ?_
    have : ∀ y ∈ l.pl, y ∈ s := fun y hy => Classical.byContradiction fun w => z ⟨y, hy, w⟩
    have := len_sub h.nd this
    omega
  obtain ⟨⟨st, o, t, hm, ho, ht⟩, h5, h6⟩ := out_of (X := fun x => decide (x ∈ s)) h.ok hs ⟨x, h1.subset hx, decide_eq_true hx⟩ ⟨y, hy, decide_eq_false hys⟩
  refine ⟨List.any_eq_true.mpr ⟨_, hm, ?_⟩, h5, h6⟩
  simp at ho ht ⊢
  exact ⟨ho, ht⟩
/-- there are maps just if no set bars -/
theorem maps_iff {l : Lore} (h : LoreOk l) : (rowsOf l.unr.length).filter (mapB l) ≠ [] ↔ NB l.pl l.rows := by
  rw [← map_iff h.ok h.rnd]
  refine ⟨fun hne => ?_, fun ⟨f, hf⟩ => ?_⟩
  · obtain ⟨w, hw⟩ := List.exists_mem_of_ne_nil _ hne
    exact ⟨_, mapB_iff.mp (List.mem_filter.mp hw).2⟩
  · refine List.ne_nil_of_mem (a := l.unr.map f) (List.mem_filter.mpr ⟨rowsOf_mem.mpr (by simp), mapB_iff.mpr ?_⟩)
    rw [arrs_congr (g := f) fun r hr hu => sgn_of f r hr hu]
    exact hf

/-! ### what a town without a map is told by -/
/-- all ways in which streets can go -/
def wayA (r : Row) : List Arr := if r.kd = "known" then [(r.nm, r.a, r.b)] else [(r.nm, r.a, r.b), (r.nm, r.b, r.a)]
def waysA (rows : List Row) : List Arr := rows.flatMap wayA
def revA (A : List Arr) : List Arr := A.map fun a => (a.1, a.2.2, a.2.1)
def bothA (rows : List Row) : List Arr := rows.flatMap fun r => [(r.nm, r.a, r.b), (r.nm, r.b, r.a)]
def woA (rows : List Row) (s : Str) : List Arr := (bothA rows).filter fun a => !decide (a.1 = s)
theorem way_row {rows : List Row} {s o t : Str} (h : (s, o, t) ∈ waysA rows) : ∃ r ∈ rows, r.nm = s ∧ ((o = r.a ∧ t = r.b) ∨ (r.kd ≠ "known" ∧ o = r.b ∧ t = r.a)) := by
  obtain ⟨r, hr, h⟩ := List.mem_flatMap.mp h
  refine ⟨r, hr, ?_⟩
  unfold wayA at h
  split at h
  · simp at h; obtain ⟨rfl, rfl, rfl⟩ := h; exact ⟨rfl, .inl ⟨rfl, rfl⟩⟩
  · rename_i hk
    simp at h
    rcases h with ⟨rfl, rfl, rfl⟩ | ⟨rfl, rfl, rfl⟩
    · exact ⟨rfl, .inl ⟨rfl, rfl⟩⟩
    · exact ⟨rfl, .inr ⟨hk, rfl, rfl⟩⟩
theorem both_row {rows : List Row} {s o t : Str} (h : (s, o, t) ∈ bothA rows) : ∃ r ∈ rows, r.nm = s ∧ ((o = r.a ∧ t = r.b) ∨ (o = r.b ∧ t = r.a)) := by
  obtain ⟨r, hr, h⟩ := List.mem_flatMap.mp h
  refine ⟨r, hr, ?_⟩
  simp at h
  rcases h with ⟨rfl, rfl, rfl⟩ | ⟨rfl, rfl, rfl⟩
  · exact ⟨rfl, .inl ⟨rfl, rfl⟩⟩
  · exact ⟨rfl, .inr ⟨rfl, rfl⟩⟩
theorem both_in {rows : List Row} {r : Row} (h : r ∈ rows) : (r.nm, r.a, r.b) ∈ bothA rows ∧ (r.nm, r.b, r.a) ∈ bothA rows := ⟨List.mem_flatMap.mpr ⟨r, h, by simp⟩, List.mem_flatMap.mpr ⟨r, h, by simp⟩⟩
theorem way_in {rows : List Row} {r : Row} (h : r ∈ rows) : (r.nm, r.a, r.b) ∈ waysA rows ∧ (r.kd ≠ "known" → (r.nm, r.b, r.a) ∈ waysA rows) := by
  refine ⟨List.mem_flatMap.mpr ⟨r, h, ?_⟩, fun hk => List.mem_flatMap.mpr ⟨r, h, ?_⟩⟩
  · unfold wayA; split <;> simp
  · unfold wayA; rw [if_neg hk]; simp
theorem rev_mem {A : List Arr} {s o t : Str} : (s, o, t) ∈ revA A ↔ (s, t, o) ∈ A := by
  unfold revA
  rw [List.mem_map]
  refine ⟨fun ⟨⟨a, b, c⟩, h, e⟩ => ?_, fun h => ⟨_, h, rfl⟩⟩
  simp at e
  obtain ⟨rfl, rfl, rfl⟩ := e
  exact h
theorem wo_mem {rows : List Row} {s n o t : Str} : (n, o, t) ∈ woA rows s ↔ (n, o, t) ∈ bothA rows ∧ n ≠ s := by
  unfold woA
  rw [List.mem_filter]
  simp
/-- nothing that can go leads out of it -/
theorem closed_bars {rows : List Row} {X : Str → Bool} (h : ∀ s o t, (s, o, t) ∈ waysA rows → X o = true → X t = true) : barX rows X = true := by
  refine barX_iff.mpr (.inl fun r hr ne => ?_)
  have hw := way_in hr
  have h1 := h _ _ _ hw.1
  by_cases hk : r.kd = "known"
  · refine ⟨hk, ?_⟩
    cases e : X r.a with
    | false => rfl
    | true => rw [h1 e, e] at ne; exact (ne rfl).elim
  · have h2 := h _ _ _ (hw.2 hk)
    exfalso
    apply ne
    cases e : X r.a with
    | true => rw [h1 e]
    | false => cases e2 : X r.b with
      | false => rfl
      | true => rw [h2 e2] at e; cases e
/-- one unread street alone is at its rim, or none -/
theorem alone_bars {rows : List Row} {X : Str → Bool} {s : Str} (nd : (rows.map Row.nm).Nodup) (hu : s ∈ (rows.filter unrB).map Row.nm) (h : ∀ r ∈ rows, r.nm ≠ s → X r.a = X r.b) : barX rows X = true := by
  obtain ⟨r0, h0, e0⟩ := List.mem_map.mp hu
  obtain ⟨hr0, hk⟩ := List.mem_filter.mp h0
  have hk : r0.kd = "unread" := by simpa [unrB] using hk
  have uniq : ∀ r ∈ rows, r.nm = s → r = r0 := by
    intro r hr e
    rw [← e0] at e
    obtain ⟨i, hi, ei⟩ := List.mem_iff_getElem.mp hr
    obtain ⟨j, hj, ej⟩ := List.mem_iff_getElem.mp hr0
    have : i = j := by
      have e2 : (rows.map Row.nm)[i]'(by simpa using hi) = (rows.map Row.nm)[j]'(by simpa using hj) := by simp [ei, ej, e]
      exact (List.getElem_inj nd).mp e2
    subst this
    rw [← ei, ← ej]
  have sub : ∀ r ∈ rows.filter (rimX X), r = r0 := by
    intro r hr
    obtain ⟨h1, h2⟩ := List.mem_filter.mp hr
    by_cases e : r.nm = s
    · exact uniq r h1 e
    · have := h r h1 e
      unfold rimX at h2
      rw [this] at h2
      simp at h2
  have ndr : rows.Nodup := by
    rw [List.nodup_iff_pairwise_ne] at nd ⊢
    exact (List.pairwise_map.mp nd).imp fun h e => h (congrArg Row.nm e)
  have ndf : (rows.filter (rimX X)).Nodup := ndr.filter _
  match e : rows.filter (rimX X) with
  | [] => exact barX_iff.mpr (.inl fun r hr ne => absurd (show r ∈ rows.filter (rimX X) from List.mem_filter.mpr ⟨hr, by unfold rimX; simpa using ne⟩) (by rw [e]; simp))
  | [r] => exact barX_iff.mpr (.inr ⟨r, e, by rw [sub r (by rw [e]; simp)]; exact hk⟩)
  | r :: q :: m =>
    rw [e] at ndf
    have e1 := sub r (by rw [e]; simp)
    have e2 := sub q (by rw [e]; simp)
    rw [e1, e2] at ndf
    simp at ndf
/-- no set bars -/
theorem none_bars {pl : List Str} {rows : List Row} {p0 : Str} (h1 : ∀ x ∈ pl, Rch (waysA rows) p0 x) (h2 : ∀ x ∈ pl, Rch (revA (waysA rows)) p0 x) (h3 : ∀ s ∈ (rows.filter unrB).map Row.nm, ∀ x ∈ pl, Rch (woA rows s) p0 x) : NB pl rows := by
  intro X ⟨p, hp, Xp⟩ ⟨q, hq, Xq⟩
  cases hb : barX rows X with
  | false => rfl
  | true =>
    exfalso
    rcases barX_iff.mp hb with h | ⟨r, e, hk⟩
    · have key : ∀ s o t, (s, o, t) ∈ waysA rows → X o = true → X t = false → False := by
        intro s o t hm ho ht
        obtain ⟨r, hr, _, ⟨rfl, rfl⟩ | ⟨hk, rfl, rfl⟩⟩ := way_row hm
        · have := (h r hr (by rw [ho, ht]; simp)).2
          rw [ho] at this; cases this
        · exact hk (h r hr (by rw [ho, ht]; simp)).1
      cases e0 : X p0 with
      | true =>
        obtain ⟨s, o, t, hm, ho, ht⟩ := (h1 q hq).leave X e0 Xq
        exact key s o t hm ho ht
      | false =>
        obtain ⟨s, o, t, hm, ho, ht⟩ := (h2 p hp).leave (fun x => !X x) (by rw [e0]; rfl) (by rw [Xp]; rfl)
        exact key s t o (rev_mem.mp hm) (by simpa using ht) (by simpa using ho)
    · have hr : r ∈ rows.filter (rimX X) := by rw [e]; simp
      have hu : r.nm ∈ (rows.filter unrB).map Row.nm := List.mem_map_of_mem (List.mem_filter.mpr ⟨(List.mem_filter.mp hr).1, by simp [unrB, hk]⟩)
      have key : ∀ n o t, (n, o, t) ∈ woA rows r.nm → X o ≠ X t → False := by
        intro n o t hm hne
        obtain ⟨hb, hn⟩ := wo_mem.mp hm
        obtain ⟨r', hr', en, hx⟩ := both_row hb
        have : r' ∈ rows.filter (rimX X) := List.mem_filter.mpr ⟨hr', by
          unfold rimX
          rcases hx with ⟨rfl, rfl⟩ | ⟨rfl, rfl⟩
          · simpa using hne
          · simpa using fun z => hne (Eq.symm z)⟩
        rw [e] at this
        rw [List.mem_singleton.mp this] at en
        exact hn en.symm
      cases e0 : X p0 with
      | true =>
        obtain ⟨n, o, t, hm, ho, ht⟩ := (h3 _ hu q hq).leave X e0 Xq
        exact key n o t hm (by rw [ho, ht]; simp)
      | false =>
        obtain ⟨n, o, t, hm, ho, ht⟩ := (h3 _ hu p hp).leave (fun x => !X x) (by rw [e0]; rfl) (by rw [Xp]; rfl)
        exact key n o t hm fun z => by simp at ho ht; rw [ho, ht] at z; cases z
/-- what is told of a set is enough to know that it bars -/
theorem bars_of {l : Lore} (h : LoreOk l) {X : Str → Bool} (hb : barX l.rows X = true) : barB l (l.pl.filter X) = true := by
  rw [barB_X, ← hb]
  refine barX_congr fun r hr => ?_
  have e : ∀ x ∈ l.pl, decide (x ∈ l.pl.filter X) = X x := fun x hx => by
    cases q : X x
    · exact decide_eq_false fun z => by rw [(List.mem_filter.mp z).2] at q; cases q
    · exact decide_eq_true (List.mem_filter.mpr ⟨hx, q⟩)
  exact ⟨e _ (h.ok r hr).a, e _ (h.ok r hr).b⟩
theorem set_of {pl : List Str} {X : Str → Bool} (h1 : ∃ p ∈ pl, X p = true) (h0 : ∃ p ∈ pl, X p = false) : IsSet pl (pl.filter X) := by
  obtain ⟨p, hp, e1⟩ := h1
  obtain ⟨q, hq, e0⟩ := h0
  refine ⟨List.filter_sublist, List.length_pos_of_mem (List.mem_filter.mpr ⟨hp, e1⟩), Nat.lt_of_le_of_ne (List.length_filter_le _ _) fun z => ?_⟩
  have := List.filter_eq_self.mp (List.filter_sublist.eq_of_length z) q hq
  rw [e0] at this; cases this
theorem bar_nb {l : Lore} (h : LoreOk l) {s : List Str} (hs : IsSet l.pl s) (hb : barB l s = true) : ¬ NB l.pl l.rows := fun z => by
  have := (nb_sets h).mpr z s (mid_all hs)
  rw [hb] at this; cases this
end Dx

set_option Elab.async false
set_option linter.all false
set_option maxRecDepth 100000
set_option maxHeartbeats 1000000
/-! DxMj: towns of either class; lore as a dict; more simp rules. -/
namespace Dx
open PySem PySem.Spec PyProof.Rows L2 TL
def TC (c : Str) : Prop := c = "Town" ∨ c = "MadeTown"
theorem TC.t : TC "Town" := .inl rfl
theorem TC.m : TC "MadeTown" := .inr rfl
abbrev T (c : Str) (l : Lore) : D := townD c l.text l
/-- lore as a dict -/
def Lore.dd (l : Lore) : D := .dic [("places", .lst (l.pl.map .str)), ("streets", .lst (l.rows.map Row.tup))]
theorem kp_ne : ("streets" == ("places" : Str)) = false := by decide +kernel
theorem dd_pl {p s : D} : List.lookup ("places" : Str) [(("places" : Str), p), ("streets", s)] = some p := by simp
theorem dd_st {p s : D} : List.lookup ("streets" : Str) [(("places" : Str), p), ("streets", s)] = some s := by rw [List.lookup_cons, kp_ne]; simp
section
variable {s0 : Sl} {ρ : List Sl} {f g h : List Sl → R (D × List Sl)} {l : List Sl → R (List D × List Sl)} {i : Nat} {Q : D × List Sl → Prop} {QL : List D × List Sl → Prop} {N : List Sl → Prop} {T : Bool → D → List Sl → Prop}
@[simp ↓] theorem evDst_s : (evDst f g h (s0 :: ρ)).sat Q = (f (s0 :: ρ)).sat fun p => (ofO (dicL p.1)).sat fun l => l.length < sizeLine ∧ (g p.2).sat fun q => (h q.2).sat fun r => (ofO (strK q.1)).sat fun k => Q (.dic (putD l k r.1), r.2) := by simp [evDst, ifR_s]
@[simp] theorem dicL_d {l : List (Str × D)} : dicL (.dic l) = some l := rfl
@[simp] theorem strK_s {x : Str} : strK (.str x) = some x := rfl
@[simp ↓] theorem evCallO_s {sem : List D → R (List D)} : (evCallO sem l (s0 :: ρ)).sat QL = (l (s0 :: ρ)).sat fun p => (sem p.1).sat fun q => QL (q, p.2) := by simp [evCallO]
@[simp ↓] theorem stForO_s {F : List Sl → R (List D × List Sl)} {k : List Sl → RS} : (stForO i F k (s0 :: ρ)).sat N T = (F (s0 :: ρ)).sat fun p => (forL (fun d ρ => putSl ρ i (.ow d)) k p.1 p.2).sat N T := by simp [stForO]
@[simp ↓] theorem evLcO_s {vs : List Nat} {s : List Sl → R (List D × List Sl)} {t : D → List Sl → Option (List Sl)} {u : List Sl → R (Bool × List Sl)} : (evLcO vs s t u f (s0 :: ρ)).sat QL = (s (s0 :: ρ)).sat fun p => (lcL vs t u (chkL f) [] p.1 (wipeR p.2 vs)).sat QL := by simp [evLcO]
@[simp ↓] theorem chkL_s : (chkL f (s0 :: ρ)).sat Q = (f (s0 :: ρ)).sat fun q => isLst q.1 = true ∧ Q q := by simp [chkL, ifR_s]
@[simp ↓] theorem evRep_s : (evRep f g (s0 :: ρ)).sat Q = (f (s0 :: ρ)).sat fun p => isLst p.1 = true ∧ (g p.2).sat fun q => (ofO (repF p.1 q.1)).sat fun z => Q (z, q.2) := by simp [evRep, ifR_s]
@[simp] theorem isLst_l {l : List D} : isLst (.lst l) = true := rfl
end
end Dx
namespace Dx
open PySem
def knB (r : Row) : Bool := decide (r.kd = "known")
noncomputable def nbB (pl : List Str) (rows : List Row) : Bool := @decide (NB pl rows) (Classical.propDecidable _)
theorem nbB_iff {pl : List Str} {rows : List Row} : nbB pl rows = true ↔ NB pl rows := by unfold nbB; exact @decide_eq_true_iff _ (Classical.propDecidable _)
theorem ways_len (rows : List Row) : (waysA rows).length ≤ 2 * rows.length := by
  induction rows with
  | nil => simp [waysA]
  | cons r l ih =>
    have : (wayA r).length ≤ 2 := by unfold wayA; split <;> simp
    show (wayA r ++ waysA l).length ≤ _
    rw [List.length_append, List.length_cons]; omega
theorem both_len (rows : List Row) : (bothA rows).length = 2 * rows.length := by
  induction rows with
  | nil => rfl
  | cons r l ih =>
    show ([(r.nm, r.a, r.b), (r.nm, r.b, r.a)] ++ bothA l).length = _
    rw [List.length_append, List.length_cons, ih]; simp; omega
theorem ways_add (pre : List Row) (r : Row) : waysA (pre ++ [r]) = waysA pre ++ wayA r := by simp [waysA]
theorem both_add (pre : List Row) (r : Row) : bothA (pre ++ [r]) = bothA pre ++ [(r.nm, r.a, r.b), (r.nm, r.b, r.a)] := by simp [bothA]
theorem way_one {r : Row} (h : r.kd = "known") : wayA r = [(r.nm, r.a, r.b)] := if_pos h
theorem way_two {r : Row} (h : r.kd ≠ "known") : wayA r = [(r.nm, r.a, r.b), (r.nm, r.b, r.a)] := if_neg h
theorem ways_ends {l : Lore} (h : LoreOk l) : ∀ a ∈ waysA l.rows, a.2.1 ∈ l.pl ∧ a.2.2 ∈ l.pl := fun ⟨s, o, t⟩ ha => by
  obtain ⟨r, hr, _, ⟨rfl, rfl⟩ | ⟨_, rfl, rfl⟩⟩ := way_row ha
  · exact ⟨(h.ok r hr).a, (h.ok r hr).b⟩
  · exact ⟨(h.ok r hr).b, (h.ok r hr).a⟩
theorem rev_ends {A : List Arr} {pl : List Str} (h : ∀ a ∈ A, a.2.1 ∈ pl ∧ a.2.2 ∈ pl) : ∀ a ∈ revA A, a.2.1 ∈ pl ∧ a.2.2 ∈ pl := fun ⟨s, o, t⟩ ha => by
  have := h _ (rev_mem.mp ha)
  exact ⟨this.2, this.1⟩
theorem wo_ends {l : Lore} (h : LoreOk l) {n : Str} : ∀ a ∈ woA l.rows n, a.2.1 ∈ l.pl ∧ a.2.2 ∈ l.pl := fun ⟨s, o, t⟩ ha => by
  obtain ⟨r, hr, _, ⟨rfl, rfl⟩ | ⟨rfl, rfl⟩⟩ := both_row (wo_mem.mp ha).1
  · exact ⟨(h.ok r hr).a, (h.ok r hr).b⟩
  · exact ⟨(h.ok r hr).b, (h.ok r hr).a⟩
/-- a street about -/
def turnR (rows : List Row) (s : Str) : List Row := rows.map fun r => if r.nm = s then ⟨r.nm, r.kd, r.b, r.a⟩ else r
theorem row_uniq {rows : List Row} (nd : (rows.map Row.nm).Nodup) {r q : Row} (hr : r ∈ rows) (hq : q ∈ rows) (e : r.nm = q.nm) : r = q := by
  obtain ⟨i, hi, ei⟩ := List.mem_iff_getElem.mp hr
  obtain ⟨j, hj, ej⟩ := List.mem_iff_getElem.mp hq
  have : i = j := by
    have e2 : (rows.map Row.nm)[i]'(by simpa using hi) = (rows.map Row.nm)[j]'(by simpa using hj) := by simp [ei, ej, e]
    exact (List.getElem_inj nd).mp e2
  subst this
  rw [← ei, ← ej]
theorem putD_row {rows : List Row} (nd : (rows.map Row.nm).Nodup) {r q : Row} (hr : r ∈ rows) (e : q.nm = r.nm) : putD (rows.map Row.dic) r.nm (.tup [.str q.kd, .str q.a, .str q.b]) = (rows.map fun x => if x.nm = r.nm then q else x).map Row.dic := by
  unfold putD
  rw [if_pos]
  · rw [List.map_map, List.map_map]
    refine List.map_congr_left fun x hx => ?_
    show (if (Row.dic x).1 = r.nm then _ else _) = Row.dic (if x.nm = r.nm then q else x)
    by_cases c : x.nm = r.nm
    · rw [if_pos (show (Row.dic x).1 = r.nm from c), if_pos c]
      show (x.nm, _) = (q.nm, _)
      rw [c, e]
    · rw [if_neg (show ¬ (Row.dic x).1 = r.nm from c), if_neg c]
  · rw [List.any_map, List.any_eq_true]
    exact ⟨r, hr, decide_eq_true rfl⟩
theorem putD_turn {rows : List Row} (nd : (rows.map Row.nm).Nodup) {r : Row} (hr : r ∈ rows) : putD (rows.map Row.dic) r.nm (.tup [.str r.kd, .str r.b, .str r.a]) = (turnR rows r.nm).map Row.dic := by
  rw [putD_row nd hr (q := ⟨r.nm, r.kd, r.b, r.a⟩) rfl]
  unfold turnR
  congr 1
  refine List.map_congr_left fun x hx => ?_
  by_cases c : x.nm = r.nm
  · rw [if_pos c, if_pos c, row_uniq nd hx hr c]
  · rw [if_neg c, if_neg c]
theorem LoreOk.rows {l : Lore} (h : LoreOk l) {f : Row → Row} (hn : ∀ r ∈ l.rows, (f r).nm = r.nm) (ho : ∀ r ∈ l.rows, RowOk l.pl (f r)) : LoreOk ⟨l.pl, l.rows.map f⟩ where
  nd := h.nd
  lo := h.lo
  hi := h.hi
  nm := h.nm
  rnd := by
    show ((l.rows.map f).map Row.nm).Nodup
    rw [List.map_map]
    rw [show l.rows.map (Row.nm ∘ f) = l.rows.map Row.nm from List.map_congr_left fun r hr => hn r hr]
    exact h.rnd
  few := by show (l.rows.map f).length ≤ 20; rw [List.length_map]; exact h.few
  ok := fun r hr => by
    obtain ⟨q, hq, rfl⟩ := List.mem_map.mp hr
    exact ho q hq
theorem RowOk.turn {pl : List Str} {r : Row} (h : RowOk pl r) : RowOk pl ⟨r.nm, r.kd, r.b, r.a⟩ := ⟨h.nm, h.kd, h.b, h.a, fun z => h.ne z.symm⟩
theorem LoreOk.turn {l : Lore} (h : LoreOk l) {s : Str} : LoreOk ⟨l.pl, turnR l.rows s⟩ :=
  h.rows (fun r _ => by split <;> rfl) fun r hr => by split; exact (h.ok r hr).turn; exact h.ok r hr
end Dx
namespace Dx
open PySem L2 TL
@[simp] theorem join_l4 {x a b c d : Str} {Q : D → Prop} : (ofO (joinO (.str x) (.lst [.str a, .str b, .str c, .str d]))).sat Q = (([a, b, c, d].map (·.length)).sum + [a, b, c, d].length * x.length ≤ 16777216 ∧ Q (.str (Txt.join x [a, b, c, d]))) := join_l (l := [a, b, c, d])
end Dx
namespace Dx
open PySem L2 TL
theorem semO_sat {n N : Nat} {ms : List Md} {f : List Sl → R (List D × List Sl)} {ds : List D} {Q : List D → Prop} (hms : shs n = ms) (hl : ds.length = n) (h : (f (iniS ms ds N)).sat fun p => Q p.1) : (semO n N f ds).sat Q := by
  subst hms
  unfold semO
  rw [if_pos hl]
  simpa using h
theorem dicOf_ps {p s : D} : dicOf [(("places" : Str), p), ("streets", s)] = [(("places" : Str), p), ("streets", s)] := dicOf_nd (by simp; decide +kernel)
end Dx
namespace Dx
open PySem L2 TL
theorem lz_str {l m : List Str} (h : l.length ≤ sizeLine) : lzO [.lst (l.map .str), .lst (m.map .str)] = some (.lst ((l.zip m).map prD)) := by
  rw [lzO_s]
  show (if min (l.map D.str).length (m.map D.str).length ≤ sizeLine then _ else _) = _
  rw [if_pos (by rw [List.length_map]; omega), zipD_map]
  rfl
theorem cutL_mid {α : Type} {l : List α} {m k : Nat} : cutL l (some (m : Int)) (some (k : Int)) = (l.drop m).take (k - m) := by
  unfold cutL
  rw [HT.sIx_nat, HT.sIx_nat]
  by_cases h : m ≤ l.length
  · rw [Nat.min_eq_left h]
    by_cases h2 : k ≤ l.length
    · rw [Nat.min_eq_left h2]
    · rw [Nat.min_eq_right (by omega), List.take_of_length_le (by simp), List.take_of_length_le (by simp; omega)]
  · rw [show min m l.length = l.length by omega, List.drop_of_length_le (Nat.le_refl _), List.drop_of_length_le (by omega)]
    simp
/-- a road over new places -/
theorem road_ok {P : List Str} {one other : Str} {I : List Str} (h2 : I.length ≤ 2) (nd : (P ++ I).Nodup) (h1 : one ∈ P) (ho : other ∈ P) (hne : I ≠ [] ∨ one ≠ other) : ∀ z ∈ (one :: (I ++ [other])).zip (I ++ [other]), PairOk (P ++ I) z := by
  rw [List.nodup_append] at nd
  obtain ⟨_, ndI, nd3⟩ := nd
  match I, h2 with
  | [], _ =>
    have hne : one ≠ other := by rcases hne with z | z; exact (z rfl).elim; exact z
    intro z hz
    simp at hz
    subst hz
    exact ⟨by simp [h1], by simp [ho], hne⟩
  | [a], _ =>
    intro z hz
    simp at hz
    rcases hz with rfl | rfl
    · exact ⟨by simp [h1], by simp, nd3 _ h1 a (by simp)⟩
    · exact ⟨by simp, by simp [ho], fun e => nd3 _ ho a (by simp) e.symm⟩
  | [a, b], _ =>
    intro z hz
    simp at hz
    rcases hz with rfl | rfl | rfl
    · exact ⟨by simp [h1], by simp, nd3 _ h1 a (by simp)⟩
    · exact ⟨by simp, by simp, by simpa using ndI⟩
    · exact ⟨by simp, by simp [ho], fun e => nd3 _ ho b (by simp) e.symm⟩
  | a :: b :: c :: t, h => simp at h
theorem PairOk.more {P I : List Str} {z : Str × Str} (h : PairOk P z) : PairOk (P ++ I) z := ⟨List.mem_append_left _ h.1, List.mem_append_left _ h.2.1, h.2.2⟩
end Dx
namespace Dx
open PySem L2 TL
@[simp] theorem ne_nn : neO (.lst []) (.lst []) = some (.bl false) := nes_nil (l := [])
theorem nilB_f {α : Type} {l : List α} (h : l ≠ []) : nilB l = false := by cases l with
  | nil => exact (h rfl).elim
  | cons => rfl
end Dx
namespace Dx
open PySem L2 TL
theorem row_flt (l : List Row) : ∀ r ∈ l, Flt 50 r.tup := fun r _ => ⟨rfl, (by decide : 1 ≤ 50)⟩
theorem cutL_len {α : Type} {l : List α} {lo hi : Option Int} : (cutL l lo hi).length ≤ l.length := by
  unfold cutL
  simp
  omega
theorem cutL_sub {α : Type} {l : List α} {lo hi : Option Int} {x : α} (h : x ∈ cutL l lo hi) : x ∈ l := by
  unfold cutL at h
  exact List.mem_of_mem_drop (List.mem_of_mem_take h)
theorem cutL_two {α : Type} {a b : α} {l : List α} : cutL (a :: b :: l) none (some 2) = [a, b] := by rw [cutL_to (by decide)]; rfl
end Dx
namespace Dx
open PySem L2 TL
/-! places come to, as a list -/
structure LsI (A : List Arr) (p : Str) (K : List Str) (n : Nat) : Prop where
  nd : K.Nodup
  hp : p ∈ K
  rch : ∀ x ∈ K, Rch A p x
  le : n ≤ K.length
  cl : ∀ a ∈ A, a.2.1 ∈ K.take n → a.2.2 ∈ K
structure LsJ (A : List Arr) (p : Str) (K : List Str) (c : Str) (pre : List Arr) (K' : List Str) : Prop where
  e : ∃ lat, K' = K ++ lat
  nd : K'.Nodup
  rch : ∀ x ∈ K', Rch A p x
  cl : ∀ a ∈ pre, a.2.1 = c → a.2.2 ∈ K'
section
variable {A : List Arr} {p c : Str} {K K' : List Str} {n : Nat} {pre : List Arr} {pl : List Str}
theorem LsI.init : LsI A p [p] 0 := ⟨by simp, by simp, by simp; exact .refl, by simp, by simp⟩
theorem LsI.len (h : LsI A p K n) (hA : ∀ a ∈ A, a.2.1 ∈ pl ∧ a.2.2 ∈ pl) (hp : p ∈ pl) : K.length ≤ pl.length := len_sub h.nd (fun x hx => rch_in hA hp (h.rch x hx))
theorem LsJ.len (h : LsJ A p K c pre K') (hA : ∀ a ∈ A, a.2.1 ∈ pl ∧ a.2.2 ∈ pl) (hp : p ∈ pl) : K'.length ≤ pl.length := len_sub h.nd (fun x hx => rch_in hA hp (h.rch x hx))
theorem LsI.start (h : LsI A p K n) : LsJ A p K c [] K := ⟨⟨[], by simp⟩, h.nd, h.rch, by simp⟩
theorem LsJ.skip {a : Arr} (h : LsJ A p K c pre K') (w : a.2.1 = c → a.2.2 ∈ K') : LsJ A p K c (pre ++ [a]) K' :=
  ⟨h.e, h.nd, h.rch, fun b hb hl => by
    rcases List.mem_append.mp hb with hb | hb
    · exact h.cl b hb hl
    · rw [List.mem_singleton.mp hb] at hl ⊢; exact w hl⟩
theorem LsJ.add {s o t : Str} (h : LsJ A p K c pre K') (ho : o ∈ K') (hm : (s, o, t) ∈ A) (ht : t ∉ K') : LsJ A p K c (pre ++ [(s, o, t)]) (K' ++ [t]) := by
  obtain ⟨lat, el⟩ := h.e
  refine ⟨⟨lat ++ [t], by rw [el]; simp⟩, ?_, ?_, ?_⟩
  · rw [List.nodup_append]
    refine ⟨h.nd, by simp, fun x hx y hy e => ?_⟩
    simp at hy
    subst hy
    exact ht (e ▸ hx)
  · intro x hx
    rcases List.mem_append.mp hx with hx | hx
    · exact h.rch x hx
    · rw [List.mem_singleton.mp hx]; exact .step (h.rch o ho) hm
  · intro a ha hal
    rw [List.mem_append]
    rcases List.mem_append.mp ha with ha | ha
    · exact .inl (h.cl a ha hal)
    · rw [List.mem_singleton.mp ha]; exact .inr (by simp)
theorem LsJ.done (h : LsJ A p K c A K') (h0 : LsI A p K n) (hc : K[n]? = some c) : LsI A p K' (n + 1) := by
  obtain ⟨lat, el⟩ := h.e
  have hn : n < K.length := (List.getElem?_eq_some_iff.mp hc).1
  refine ⟨h.nd, by rw [el]; exact List.mem_append_left _ h0.hp, h.rch, by rw [el, List.length_append]; omega, fun a ha hl => ?_⟩
  have et : K'.take (n + 1) = K.take n ++ [c] := by
    rw [el, List.take_append_of_le_length (by omega), List.take_add_one, hc]
    rfl
  rw [et, List.mem_append] at hl
  rcases hl with hl | hl
  · rw [el]; exact List.mem_append_left _ (h0.cl a ha hl)
  · exact h.cl a ha (List.mem_singleton.mp hl)
theorem LsI.fin (h : LsI A p K n) (hn : ¬ n < K.length) (x : Str) : x ∈ K ↔ Rch A p x := by
  have e : n = K.length := by have := h.le; omega
  refine ⟨h.rch x, fun r => ?_⟩
  induction r with
  | refl => exact h.hp
  | step r hm ih => exact h.cl _ hm (by rw [e, List.take_length]; exact ih)
end
theorem Rch.trans {A : List Arr} {p q x : Str} (a : Rch A p q) (b : Rch A q x) : Rch A p x := by
  induction b with
  | refl => exact a
  | step r hm ih => exact .step ih hm
theorem rch_rev {A : List Arr} {p x : Str} (h : Rch (revA A) p x) : Rch A x p := by
  induction h with
  | refl => exact .refl
  | step r hm ih => exact Rch.trans (.step .refl (rev_mem.mp hm)) ih
theorem rch_rev' {A : List Arr} {p x : Str} (h : Rch A x p) : Rch (revA A) p x := by
  induction h with
  | refl => exact .refl
  | step r hm ih => exact Rch.trans (.step .refl (rev_mem.mpr hm)) ih
/-- from one place all, and to it from all -/
theorem strong_two {pl : List Str} {A : List Arr} {p0 : Str} (hp : p0 ∈ pl) : Strong pl A ↔ (∀ x ∈ pl, Rch A p0 x) ∧ ∀ x ∈ pl, Rch (revA A) p0 x :=
  ⟨fun h => ⟨h p0 hp, fun x hx => rch_rev' (h x hx p0 hp)⟩, fun ⟨h1, h2⟩ p hpp x hx => (rch_rev (h2 p hpp)).trans (h1 x hx)⟩
theorem all_len {pl : List Str} {A : List Arr} {p : Str} {K : List Str} (nd : K.Nodup) (hpl : pl.Nodup) (h : ∀ a ∈ A, a.2.1 ∈ pl ∧ a.2.2 ∈ pl) (hp : p ∈ pl) (hK : ∀ x, x ∈ K ↔ Rch A p x) : (K.length = pl.length) ↔ ∀ x ∈ pl, Rch A p x := by
  have h1 := come_all nd hpl h hp hK
  have h2 : K.length ≤ pl.length := len_sub nd fun x hx => rch_in h hp ((hK x).mp hx)
  refine ⟨fun e => Classical.not_not.mp fun z => ?_, fun z => ?_⟩
  · have := h1.mpr z; omega
  · have : ¬ K.length < pl.length := fun w => h1.mp w z
    omega
end Dx
namespace Dx
open PySem L2 TL
theorem pop_0 {d : D} {l : List D} : popF (.lst (d :: l)) [.int 0] = some (d, .lst l) := by
  simp [popF, seqIndex?]
theorem eq_ii {a b c d : Int} : eqO (.lst [.int a, .int b]) (.lst [.int c, .int d]) = some (.bl (decide (a = c) && decide (b = d))) := by
  have h : eqD (.lst [.int a, .int b]) (.lst [.int c, .int d]) = (decide (a = c) && decide (b = d)) := by
    show ((a == c) && ((b == d) && true)) = _
    by_cases h1 : a = c <;> by_cases h2 : b = d <;> simp [h1, h2]
  rw [← h]
  rfl
end Dx

set_option Elab.async false
set_option linter.all false
set_option maxRecDepth 100000
set_option maxHeartbeats 4000000
namespace K95
open PySem Spec PyProof.Rows L2 Dx
abbrev prog : Program := PySem.Challenge.pw_signsunread_k95_whole_what_is_wrong_in_g
def st (i : Nat) : Stmt := (prog.main.body[i]?).getD (.Pass ⟨0, 0, 0, 0⟩)
def ms (i j : Nat) : Stmt := ((C8.clsBody (st i))[j]?).getD (.Pass ⟨0, 0, 0, 0⟩)
def c_BLANK : D := .str (" " : Str)
def c_FEED : D := .str ("\n" : Str)
def c_LETTERS : D := .str ("abcdefghijklmnopqrstuvwxyz" : Str)
def c_MOST_LETTERS : D := .int 8
def c_AS_WRITTEN : D := .str (">" : Str)
def c_PLACES : D := .str ("places" : Str)
def c_UNREAD : D := .str ("unread" : Str)
def c_KNOWN : D := .str ("known" : Str)
def c_BOTH : D := .str ("both" : Str)
def c_KINDS : D := .tup [c_UNREAD, c_KNOWN, c_BOTH]
def c_LEAST_PLACES : D := .int 2
def c_MOST_PLACES : D := .int 9
def c_MOST_STREETS : D := .int 20
def c_STREET_WORDS : D := .int 4
def cls_own_places : List Str := [("Town" : Str), ("MadeTown" : Str)]
def cls_own_rows : List Str := [("Town" : Str), ("MadeTown" : Str)]
def cls_own_text : List Str := [("Town" : Str), ("MadeTown" : Str)]
def is_str : IsiT := ⟨[("NoneType", false), ("bool", false), ("int", false), ("str", true), ("tuple", false), ("list", false), ("dict", false)], [(("Town" : Str), false), (("MadeTown" : Str), false)]⟩
structure Facts (W : Wd) : Prop where
  bn : ∀ x : Str, ([("abs" : Str), ("all" : Str), ("any" : Str), ("enumerate" : Str), ("int" : Str), ("isinstance" : Str), ("len" : Str), ("list" : Str), ("max" : Str), ("min" : Str), ("property" : Str), ("range" : Str), ("repr" : Str), ("set" : Str), ("str" : Str), ("tuple" : Str), ("zip" : Str)] : List Str).contains x = true → W.mg x = none
  sys : ∃ o, W.K.lookup sysModules = some o
  c_BLANK : GC W ("BLANK" : Str) c_BLANK
  c_FEED : GC W ("FEED" : Str) c_FEED
  c_LETTERS : GC W ("LETTERS" : Str) c_LETTERS
  c_MOST_LETTERS : GC W ("MOST_LETTERS" : Str) c_MOST_LETTERS
  c_AS_WRITTEN : GC W ("AS_WRITTEN" : Str) c_AS_WRITTEN
  c_PLACES : GC W ("PLACES" : Str) c_PLACES
  c_UNREAD : GC W ("UNREAD" : Str) c_UNREAD
  c_KNOWN : GC W ("KNOWN" : Str) c_KNOWN
  c_BOTH : GC W ("BOTH" : Str) c_BOTH
  c_KINDS : GC W ("KINDS" : Str) c_KINDS
  c_LEAST_PLACES : GC W ("LEAST_PLACES" : Str) c_LEAST_PLACES
  c_MOST_PLACES : GC W ("MOST_PLACES" : Str) c_MOST_PLACES
  c_MOST_STREETS : GC W ("MOST_STREETS" : Str) c_MOST_STREETS
  c_STREET_WORDS : GC W ("STREET_WORDS" : Str) c_STREET_WORDS
  fld_own_places : ∀ c ∈ cls_own_places, FldOk W c ("own_places" : Str)
  fld_own_rows : ∀ c ∈ cls_own_rows, FldOk W c ("own_rows" : Str)
  fld_own_text : ∀ c ∈ cls_own_text, FldOk W c ("own_text" : Str)
  is_str : IsiOk W is_str (.type "str")
  fn_f_law_pot : ∃ f, FnAt W ("_law_pot" : Str) ("_law_pot" : Str) (st 58) f ∧ W.mg ("_law_pot" : Str) = some (.ref f)
  fn_f_law_pots : ∃ f, FnAt W ("_law_pots" : Str) ("_law_pots" : Str) (st 62) f ∧ W.mg ("_law_pots" : Str) = some (.ref f)
  fn_f_law_with : ∃ f, FnAt W ("_law_with" : Str) ("_law_with" : Str) (st 68) f ∧ W.mg ("_law_with" : Str) = some (.ref f)
  fn_f_law_take : ∃ f, FnAt W ("_law_take" : Str) ("_law_take" : Str) (st 59) f ∧ W.mg ("_law_take" : Str) = some (.ref f)
  fn_f_law_against : ∃ f, FnAt W ("_law_against" : Str) ("_law_against" : Str) (st 73) f ∧ W.mg ("_law_against" : Str) = some (.ref f)
  fn_f_law_some : ∃ f, FnAt W ("_law_some" : Str) ("_law_some" : Str) (st 61) f ∧ W.mg ("_law_some" : Str) = some (.ref f)
  fn_f_law_names : ∃ f, FnAt W ("_law_names" : Str) ("_law_names" : Str) (st 63) f ∧ W.mg ("_law_names" : Str) = some (.ref f)
  fn_f_law_of : ∃ f, FnAt W ("_law_of" : Str) ("_law_of" : Str) (st 60) f ∧ W.mg ("_law_of" : Str) = some (.ref f)
  fn_f_law_roads : ∃ f, FnAt W ("_law_roads" : Str) ("_law_roads" : Str) (st 64) f ∧ W.mg ("_law_roads" : Str) = some (.ref f)
  fn_f_law_town : ∃ f, FnAt W ("_law_town" : Str) ("_law_town" : Str) (st 65) f ∧ W.mg ("_law_town" : Str) = some (.ref f)
  fn_f_law_rim : ∃ f, FnAt W ("_law_rim" : Str) ("_law_rim" : Str) (st 70) f ∧ W.mg ("_law_rim" : Str) = some (.ref f)
  fn_f_law_does_bar : ∃ f, FnAt W ("_law_does_bar" : Str) ("_law_does_bar" : Str) (st 71) f ∧ W.mg ("_law_does_bar" : Str) = some (.ref f)
  fn_f_law_sets : ∃ f, FnAt W ("_law_sets" : Str) ("_law_sets" : Str) (st 69) f ∧ W.mg ("_law_sets" : Str) = some (.ref f)
  fn_f_law_has_map : ∃ f, FnAt W ("_law_has_map" : Str) ("_law_has_map" : Str) (st 72) f ∧ W.mg ("_law_has_map" : Str) = some (.ref f)
  fn_f_known_streets : ∃ f, FnAt W ("known_streets" : Str) ("known_streets" : Str) (st 54) f ∧ W.mg ("known_streets" : Str) = some (.ref f)
  fn_f_roads_from : ∃ f, FnAt W ("roads_from" : Str) ("roads_from" : Str) (st 47) f ∧ W.mg ("roads_from" : Str) = some (.ref f)
  fn_f_ends_by : ∃ f, FnAt W ("ends_by" : Str) ("ends_by" : Str) (st 42) f ∧ W.mg ("ends_by" : Str) = some (.ref f)
  fn_f_arrows : ∃ f, FnAt W ("arrows" : Str) ("arrows" : Str) (st 46) f ∧ W.mg ("arrows" : Str) = some (.ref f)
  fn_f_in_sequence : ∃ f, FnAt W ("in_sequence" : Str) ("in_sequence" : Str) (st 44) f ∧ W.mg ("in_sequence" : Str) = some (.ref f)
  fn_f_both_ways : ∃ f, FnAt W ("both_ways" : Str) ("both_ways" : Str) (st 50) f ∧ W.mg ("both_ways" : Str) = some (.ref f)
  fn_f_barred : ∃ f, FnAt W ("barred" : Str) ("barred" : Str) (st 49) f ∧ W.mg ("barred" : Str) = some (.ref f)
  fn_f_has_map : ∃ f, FnAt W ("has_map" : Str) ("has_map" : Str) (st 52) f ∧ W.mg ("has_map" : Str) = some (.ref f)
  fn_f_text_of : ∃ f, FnAt W ("text_of" : Str) ("text_of" : Str) (st 33) f ∧ W.mg ("text_of" : Str) = some (.ref f)
  fn_f_town_of : ∃ f, FnAt W ("town_of" : Str) ("town_of" : Str) (st 36) f ∧ W.mg ("town_of" : Str) = some (.ref f)
  fn_f_known_turned : ∃ f, FnAt W ("known_turned" : Str) ("known_turned" : Str) (st 55) f ∧ W.mg ("known_turned" : Str) = some (.ref f)
  fn_f_wrong : ∃ f, FnAt W ("wrong" : Str) ("wrong" : Str) (st 56) f ∧ W.mg ("wrong" : Str) = some (.ref f)
  fn_f_law_turned_lore : ∃ f, FnAt W ("_law_turned_lore" : Str) ("_law_turned_lore" : Str) (st 74) f ∧ W.mg ("_law_turned_lore" : Str) = some (.ref f)
  fn_f_are_unlike : ∃ f, FnAt W ("are_unlike" : Str) ("are_unlike" : Str) (st 18) f ∧ W.mg ("are_unlike" : Str) = some (.ref f)
  fn_f_is_name : ∃ f, FnAt W ("is_name" : Str) ("is_name" : Str) (st 17) f ∧ W.mg ("is_name" : Str) = some (.ref f)
  fn_f_places_in : ∃ f, FnAt W ("places_in" : Str) ("places_in" : Str) (st 30) f ∧ W.mg ("places_in" : Str) = some (.ref f)
  fn_f_street_in : ∃ f, FnAt W ("street_in" : Str) ("street_in" : Str) (st 31) f ∧ W.mg ("street_in" : Str) = some (.ref f)
  fn_f_read_text : ∃ f, FnAt W ("read_text" : Str) ("read_text" : Str) (st 32) f ∧ W.mg ("read_text" : Str) = some (.ref f)
  fn_f_law_street_line : ∃ f, FnAt W ("_law_street_line" : Str) ("_law_street_line" : Str) (st 66) f ∧ W.mg ("_law_street_line" : Str) = some (.ref f)
  fn_f_law_text : ∃ f, FnAt W ("_law_text" : Str) ("_law_text" : Str) (st 67) f ∧ W.mg ("_law_text" : Str) = some (.ref f)
  fn_f_law_right : ∃ f, FnAt W ("_law_right" : Str) ("_law_right" : Str) (st 75) f ∧ W.mg ("_law_right" : Str) = some (.ref f)
  fn_f_law : ∃ f, FnAt W ("law" : Str) ("law" : Str) (st 76) f ∧ W.mg ("law" : Str) = some (.ref f)
  cls_Town : Cls W.K (He.ga W.K ("Town" : Str))
  cls_MadeTown : Cls W.K (He.ga W.K ("MadeTown" : Str))
  pr_Town_unread : ∃ q f, PropOf W.K (He.ga W.K ("Town" : Str)) ("unread" : Str) q f ∧ FnAt W ("unread" : Str) ("Town.unread" : Str) (ms 34 4) f
  pr_MadeTown_unread : ∃ q f, PropOf W.K (He.ga W.K ("MadeTown" : Str)) ("unread" : Str) q f ∧ FnAt W ("unread" : Str) ("Town.unread" : Str) (ms 34 4) f
  mk_Town : ∃ f, Mk W.K (He.ga W.K ("Town" : Str)) f ∧ W.mg ("Town" : Str) = some (.ref (He.ga W.K ("Town" : Str))) ∧ FnAt W "__init__" ("Town.__init__" : Str) (ms 34 0) f
  mk_MadeTown : ∃ f, Mk W.K (He.ga W.K ("MadeTown" : Str)) f ∧ W.mg ("MadeTown" : Str) = some (.ref (He.ga W.K ("MadeTown" : Str))) ∧ FnAt W "__init__" ("MadeTown.__init__" : Str) (ms 35 0) f
variable {W : Wd}
def g_f_law_pot : List Sl → RS := fun ρ => ((stSet 2 (evIf (evB (ev2 ltO (evV 1) (evLenV 0))) (evIxV 0 (evV 1)) (ev2 add2O (ev2 mulO (evLit (.int 43)) (evV 1)) (evLit (.int 31))))) ρ).bind (fun ρ => ((stSet 3 (ev2 mulO (ev2 modO (evL intF (evCons (evL absO (evCons (evV 2) evNil)) evNil)) (ev2 powO (ev2 powO (evLit (.int 10)) (evLit (.int 60))) (evLit (.int 5)))) (evL intF (evCons (ev2 geO (evL absO (evCons (evV 2) evNil)) (ev2 powO (evLit (.int 10)) (evLit (.int 18)))) evNil)))) ρ).bind (fun ρ => ((stSet 4 (ev2 modO (evL intF (evCons (evV 2) evNil)) (evLit (.int 2305843009213693951)))) ρ).bind (fun ρ => ((stRetO (evLst (evCons (evV 3) (evCons (ev2 modO (evL intF (evCons (ev2 add2O (ev2 add2O (ev2 mulO (evV 4) (evLit (.int 73013))) (ev2 mulO (ev2 mulO (evLit (.int 8429)) (evV 1)) (evV 1))) (evLit (.int 137))) evNil)) (evLit (.int 2305843009213693921))) (evCons (evLit (.int 0)) (evNil)))))) ρ).bind .nx)))
def F_f_law_pot : Fd := ⟨[.sh, .sh], true, semOf 5 [.sh, .sh] true g_f_law_pot⟩
@[simp] theorem F_f_law_pot_md : F_f_law_pot.md = [.sh, .sh] := rfl
@[simp] theorem F_f_law_pot_own : F_f_law_pot.own = true := rfl
theorem F_f_law_pot_sem : F_f_law_pot.sem = semOf 5 [.sh, .sh] true g_f_law_pot := rfl
theorem k_f_law_pot (wo : WOk W) (wf : Facts W) : Cal W 1 ("_law_pot" : Str) F_f_law_pot := cal_of (k := 0) (N := [("_law_script" : Str), ("_law_k" : Str), ("_law_cell" : Str), ("_law_own" : Str), ("_law_small" : Str)]) (ps := [("_law_script" : Str), ("_law_k" : Str)]) wo wf.fn_f_law_pot (by decide +kernel) rfl (fun _ _ _ _ _ _ us hl => match us, hl with | [_, _], _ => rfl) rfl fun X E hS B hB => have hX := hS.toXIs; dss_cons (ds_set hX.nN (hX.nm (by decide +kernel)) (hX.loc (by decide +kernel)) (.inl (hS.fn _)) (de_if (q_tlt hX hB (q_v (hX.vo (by decide +kernel))) (q_lenv hX hB (wf.bn ("len" : Str) (by decide +kernel)) (hX.go (by decide +kernel)) (hX.vo (by decide +kernel)))) (q_ixv hX hB (hX.vo (by decide +kernel)) rfl (q_v (hX.vo (by decide +kernel)))) (q_add hX hB (q_mul hX hB (q_int) (q_v (hX.vo (by decide +kernel)))) (q_int))) rfl) (dss_cons (ds_set hX.nN (hX.nm (by decide +kernel)) (hX.loc (by decide +kernel)) (.inl (hS.fn _)) (q_mul hX hB (q_mod hX hB (q_intf hX hB (wf.bn ("int" : Str) (by decide +kernel)) (hX.go (by decide +kernel)) rfl (q_abs hX hB (wf.bn ("abs" : Str) (by decide +kernel)) (hX.go (by decide +kernel)) rfl (q_v (hX.vo (by decide +kernel))))) (q_pow hX hB (q_pow hX hB (q_int) (q_int)) (q_int))) (q_intf hX hB (wf.bn ("int" : Str) (by decide +kernel)) (hX.go (by decide +kernel)) rfl (q_ge hX hB (q_abs hX hB (wf.bn ("abs" : Str) (by decide +kernel)) (hX.go (by decide +kernel)) rfl (q_v (hX.vo (by decide +kernel)))) (q_pow hX hB (q_int) (q_int))))) rfl) (dss_cons (ds_set hX.nN (hX.nm (by decide +kernel)) (hX.loc (by decide +kernel)) (.inl (hS.fn _)) (q_mod hX hB (q_intf hX hB (wf.bn ("int" : Str) (by decide +kernel)) (hX.go (by decide +kernel)) rfl (q_v (hX.vo (by decide +kernel)))) (q_int)) rfl) (dss_cons (ds_retO (do_lst (da_cons rfl (q_v (hX.vo (by decide +kernel))) (da_cons rfl (q_mod hX hB (q_intf hX hB (wf.bn ("int" : Str) (by decide +kernel)) (hX.go (by decide +kernel)) rfl (q_add hX hB (q_add hX hB (q_mul hX hB (q_v (hX.vo (by decide +kernel))) (q_int)) (q_mul hX hB (q_mul hX hB (q_int) (q_v (hX.vo (by decide +kernel)))) (q_v (hX.vo (by decide +kernel))))) (q_int))) (q_int)) (da_cons rfl (q_int) (da_nil)))))) (dss_nil))))
def e_f_law_pots : List Sl → R (List D × List Sl) := evLcO [2] (srcL rng1O (evCons (evL maxO (evCons (evLit (.int 1)) (evCons (evL minO (evCons (evV 1) (evCons (evLenV 0) evNil))) evNil))) (evNil))) (tgN 2) (evYes) (evCall F_f_law_pot (asD (evV 0) (asD (evV 2) (asNil))))
def F_f_law_pots : List D → R (List D) := semO 2 3 e_f_law_pots
theorem k_f_law_pots (wo : WOk W) (wf : Facts W) : CalO W 3 ("_law_pots" : Str) 2 F_f_law_pots := calO_of (k := 2) (N := [("_law_script" : Str), ("_law_limit" : Str), ("_law_k" : Str)]) (ps := [("_law_script" : Str), ("_law_limit" : Str)]) wo wf.fn_f_law_pots (by decide +kernel) (fun _ _ _ _ _ _ us hl => match us, hl with | [_, _], _ => rfl) rfl fun X E hS B hB => have hX := hS.toXIs; q_lcO (own := [(("_law_k" : Str), 2)]) wo hX hB (di_rng1 (hX.go (by decide +kernel)).g (hX.noName (wf.bn ("range" : Str) (by decide +kernel))) rfl  (da_cons rfl (q_max hX hB (wf.bn ("max" : Str) (by decide +kernel)) (hX.go (by decide +kernel)) rfl rfl (q_int) (q_min hX hB (wf.bn ("min" : Str) (by decide +kernel)) (hX.go (by decide +kernel)) rfl rfl (q_v (hX.vo (by decide +kernel))) (q_lenv hX hB (wf.bn ("len" : Str) (by decide +kernel)) (hX.go (by decide +kernel)) (hX.vo (by decide +kernel))))) (da_nil))) (by decide +kernel) (by decide +kernel) (fun B1 hB1 Y1 hS1 => have hX1 := hS1.toXIs; dg_n hX1.nN (hX1.nm (by decide +kernel)) (hX1.loc (by decide +kernel)) (hS1.bf _ (by decide +kernel))) (fun B1 hB1 Y1 hS1 => have hX1 := hS1.toXIs; dts_nil) (fun B1 hB1 Y1 hS1 => have hX1 := hS1.toXIs; do_call wo hX1 hB1 (k_f_law_pot wo wf) (by decide) rfl (hX1.go (by decide +kernel)).l rfl rfl rfl (das_d rfl (q_v (hX1.vo (by decide +kernel))) (das_d rfl (q_v (hX1.vo (by decide +kernel))) (das_nil)))) (fun _ => rfl)
def g_f_law_with : List Sl → RS := fun ρ => ((stRet (frzE (evDisp [(evLit (.str ("places" : Str)), evIxV 0 (evLit (.str ("places" : Str)))), (evLit (.str ("streets" : Str)), evV 1)]))) ρ).bind .nx
def F_f_law_with : Fd := ⟨[.sh, .sh], false, semOf 2 [.sh, .sh] false g_f_law_with⟩
@[simp] theorem F_f_law_with_md : F_f_law_with.md = [.sh, .sh] := rfl
@[simp] theorem F_f_law_with_own : F_f_law_with.own = false := rfl
theorem F_f_law_with_sem : F_f_law_with.sem = semOf 2 [.sh, .sh] false g_f_law_with := rfl
theorem k_f_law_with (wo : WOk W) (wf : Facts W) : Cal W 1 ("_law_with" : Str) F_f_law_with := cal_of (k := 0) (N := [("_law_lore" : Str), ("_law_rows" : Str)]) (ps := [("_law_lore" : Str), ("_law_rows" : Str)]) wo wf.fn_f_law_with (by decide +kernel) rfl (fun _ _ _ _ _ _ us hl => match us, hl with | [_, _], _ => rfl) rfl fun X E hS B hB => have hX := hS.toXIs; dss_cons (ds_ret (q_own (q_disp rfl (q_dps wo hX hB (fun _ hB' hX' => q_str) (fun _ hB' hX' => q_ixv hX' hB' (hX'.vo (by decide +kernel)) rfl (q_str)) (q_dps wo hX hB (fun _ hB' hX' => q_str) (fun _ hB' hX' => q_v (hX'.vo (by decide +kernel))) (dps_nil)))))) (dss_nil)
def g_f_law_take : List Sl → RS := fun ρ => ((stIf (evB (ev2 gtO (evIxV 0 (evLit (.int 0))) (evLit (.int 0)))) (fun ρ => ((stSet 4 (ev2 modO (evL intF (evCons (evIxV 0 (evLit (.int 0))) evNil)) (evV 1))) ρ).bind (fun ρ => ((stPut 0 (ev2 divO (evIxV 0 (evLit (.int 0))) (evV 1)) (evLit (.int 0))) ρ).bind (fun ρ => ((stRet (evV 4)) ρ).bind .nx))) (.nx)) ρ).bind (fun ρ => ((stPut 0 (ev2 add2O (evIxV 0 (evLit (.int 2))) (evLit (.int 1))) (evLit (.int 2))) ρ).bind (fun ρ => ((stSet 2 (ev2 ixO (frzE (evLst (evCons (evLit (.int 2147483647)) (evCons (evLit (.int 2147483629)) (evCons (evLit (.int 2147483587)) (evCons (evLit (.int 2147483579)) (evCons (evLit (.int 2147483563)) (evNil)))))))) (ev2 modO (evL intF (evCons (evIxV 0 (evLit (.int 2))) evNil)) (evLit (.int 5))))) ρ).bind (fun ρ => ((stSet 3 (ev2 modO (evL intF (evCons (ev2 powO (evL intF (evCons (ev2 add2O (ev2 add2O (evIxV 0 (evLit (.int 1))) (ev2 mulO (ev2 mulO (evLit (.int 101161)) (evIxV 0 (evLit (.int 2)))) (evIxV 0 (evLit (.int 2))))) (evLit (.int 79))) evNil)) (evLit (.int 3))) evNil)) (evV 2))) ρ).bind (fun ρ => ((stSet 3 (ev2 modO (evL intF (evCons (ev2 mulO (evV 3) (ev2 add2O (ev2 modO (evL intF (evCons (evV 3) evNil)) (evLit (.int 10093))) (ev2 mulO (evLit (.int 103)) (evIxV 0 (evLit (.int 2)))))) evNil)) (evLit (.int 2305843009213693907)))) ρ).bind (fun ρ => ((stRet (ev2 modO (evL intF (evCons (ev2 divO (evV 3) (evLit (.int 139))) evNil)) (evV 1))) ρ).bind .nx)))))
def F_f_law_take : Fd := ⟨[.mt, .sh], false, semOf 5 [.mt, .sh] false g_f_law_take⟩
@[simp] theorem F_f_law_take_md : F_f_law_take.md = [.mt, .sh] := rfl
@[simp] theorem F_f_law_take_own : F_f_law_take.own = false := rfl
theorem F_f_law_take_sem : F_f_law_take.sem = semOf 5 [.mt, .sh] false g_f_law_take := rfl
theorem k_f_law_take (wo : WOk W) (wf : Facts W) : Cal W 1 ("_law_take" : Str) F_f_law_take := cal_of (k := 0) (N := [("_law_pot_here" : Str), ("_law_upto" : Str), ("_law_prime" : Str), ("_law_mixed" : Str), ("_law_digit" : Str)]) (ps := [("_law_pot_here" : Str), ("_law_upto" : Str)]) wo wf.fn_f_law_take (by decide +kernel) rfl (fun _ _ _ _ _ _ us hl => match us, hl with | [_, _], _ => rfl) rfl fun X E hS B hB => have hX := hS.toXIs; dss_cons (ds_if (q_tgt hX hB (q_ixv hX hB (hX.vo (by decide +kernel)) rfl (q_int)) (q_int)) (dss_cons (ds_set hX.nN (hX.nm (by decide +kernel)) (hX.loc (by decide +kernel)) (.inl (hS.fn _)) (q_mod hX hB (q_intf hX hB (wf.bn ("int" : Str) (by decide +kernel)) (hX.go (by decide +kernel)) rfl (q_ixv hX hB (hX.vo (by decide +kernel)) rfl (q_int))) (q_v (hX.vo (by decide +kernel)))) rfl) (dss_cons (q_put hX (hX.vo (by decide +kernel)) (q_div hX hB (q_ixv hX hB (hX.vo (by decide +kernel)) rfl (q_int)) (q_v (hX.vo (by decide +kernel)))) (q_int) rfl rfl rfl (fun _ => rfl)) (dss_cons (ds_ret (q_v (hX.vo (by decide +kernel)))) (dss_nil)))) (dss_nil)) (dss_cons (q_put hX (hX.vo (by decide +kernel)) (q_add hX hB (q_ixv hX hB (hX.vo (by decide +kernel)) rfl (q_int)) (q_int)) (q_int) rfl rfl rfl (fun _ => rfl)) (dss_cons (ds_set hX.nN (hX.nm (by decide +kernel)) (hX.loc (by decide +kernel)) (.inl (hS.fn _)) (q_ix hX hB rfl (q_own (do_lst (da_cons rfl (q_int) (da_cons rfl (q_int) (da_cons rfl (q_int) (da_cons rfl (q_int) (da_cons rfl (q_int) (da_nil)))))))) (q_mod hX hB (q_intf hX hB (wf.bn ("int" : Str) (by decide +kernel)) (hX.go (by decide +kernel)) rfl (q_ixv hX hB (hX.vo (by decide +kernel)) rfl (q_int))) (q_int))) rfl) (dss_cons (ds_set hX.nN (hX.nm (by decide +kernel)) (hX.loc (by decide +kernel)) (.inl (hS.fn _)) (q_mod hX hB (q_intf hX hB (wf.bn ("int" : Str) (by decide +kernel)) (hX.go (by decide +kernel)) rfl (q_pow hX hB (q_intf hX hB (wf.bn ("int" : Str) (by decide +kernel)) (hX.go (by decide +kernel)) rfl (q_add hX hB (q_add hX hB (q_ixv hX hB (hX.vo (by decide +kernel)) rfl (q_int)) (q_mul hX hB (q_mul hX hB (q_int) (q_ixv hX hB (hX.vo (by decide +kernel)) rfl (q_int))) (q_ixv hX hB (hX.vo (by decide +kernel)) rfl (q_int)))) (q_int))) (q_int))) (q_v (hX.vo (by decide +kernel)))) rfl) (dss_cons (ds_set hX.nN (hX.nm (by decide +kernel)) (hX.loc (by decide +kernel)) (.inl (hS.fn _)) (q_mod hX hB (q_intf hX hB (wf.bn ("int" : Str) (by decide +kernel)) (hX.go (by decide +kernel)) rfl (q_mul hX hB (q_v (hX.vo (by decide +kernel))) (q_add hX hB (q_mod hX hB (q_intf hX hB (wf.bn ("int" : Str) (by decide +kernel)) (hX.go (by decide +kernel)) rfl (q_v (hX.vo (by decide +kernel)))) (q_int)) (q_mul hX hB (q_int) (q_ixv hX hB (hX.vo (by decide +kernel)) rfl (q_int)))))) (q_int)) rfl) (dss_cons (ds_ret (q_mod hX hB (q_intf hX hB (wf.bn ("int" : Str) (by decide +kernel)) (hX.go (by decide +kernel)) rfl (q_div hX hB (q_v (hX.vo (by decide +kernel))) (q_int))) (q_v (hX.vo (by decide +kernel))))) (dss_nil))))))
def g_f_law_against : List Sl → RS := fun ρ => ((stOwn 2 (evLst (evNil))) ρ).bind (fun ρ => ((stFor (srcD (evIxV 1 (evLit (.str ("streets" : Str))))) (tgT 4 (tgCons (tgN 3) (tgCons (tgN 4) (tgCons (tgN 5) (tgCons (tgN 6) (tgNil)))))) (fun ρ => ((stSet 3 (evIf (evAnd (evB (ev2 eqO (evV 3) (evLit (.str ("unread" : Str))))) (evB (ev2 eqO (evCall F_f_law_take (asS 0 (asD (evLit (.int 2)) (asNil)))) (evLit (.int 0))))) (evLit (.str ("known" : Str))) (evV 3))) ρ).bind (fun ρ => ((stSet 7 (evAndV (ev2 eqO (evV 3) (evLit (.str ("known" : Str)))) (ev2 eqO (evCall F_f_law_take (asS 0 (asD (evLit (.int 9)) (asNil)))) (evLit (.int 0))))) ρ).bind (fun ρ => ((stExp (evMt appF 2 (evCons (evIf (evT (evV 7)) (evTup (evCons (evV 3) (evCons (evV 4) (evCons (evV 6) (evCons (evV 5) (evNil)))))) (evTup (evCons (evV 3) (evCons (evV 4) (evCons (evV 5) (evCons (evV 6) (evNil))))))) (evNil)))) ρ).bind .nx)))) ρ).bind (fun ρ => ((stRet (evCall F_f_law_with (asD (evV 1) (asD (evV 2) (asNil))))) ρ).bind .nx))
def F_f_law_against : Fd := ⟨[.mt, .sh], false, semOf 8 [.mt, .sh] false g_f_law_against⟩
@[simp] theorem F_f_law_against_md : F_f_law_against.md = [.mt, .sh] := rfl
@[simp] theorem F_f_law_against_own : F_f_law_against.own = false := rfl
theorem F_f_law_against_sem : F_f_law_against.sem = semOf 8 [.mt, .sh] false g_f_law_against := rfl
theorem k_f_law_against (wo : WOk W) (wf : Facts W) : Cal W 3 ("_law_against" : Str) F_f_law_against := cal_of (k := 2) (N := [("_law_pot_here" : Str), ("_law_lore" : Str), ("_law_rows" : Str), ("_law_kind" : Str), ("_law_name" : Str), ("_law_one" : Str), ("_law_other" : Str), ("_law_is_turned" : Str)]) (ps := [("_law_pot_here" : Str), ("_law_lore" : Str)]) wo wf.fn_f_law_against (by decide +kernel) rfl (fun _ _ _ _ _ _ us hl => match us, hl with | [_, _], _ => rfl) rfl fun X E hS B hB => have hX := hS.toXIs; dss_cons (ds_own hX.nN (hX.nm (by decide +kernel)) (hX.loc (by decide +kernel)) (.inl (hS.fn _)) (do_lst (da_nil)) rfl) (dss_cons (ds_for hS.owns hX.calm (di_any (hX.kk hB) (q_ixv hX hB (hX.vo (by decide +kernel)) rfl (q_str))) (dg_t (hX.kk hB) hX.calm (dgs_cons (dg_n hX.nN (hX.nm (by decide +kernel)) (hX.loc (by decide +kernel)) (.inl (hS.fn _))) (dgs_cons (dg_n hX.nN (hX.nm (by decide +kernel)) (hX.loc (by decide +kernel)) (.inl (hS.fn _))) (dgs_cons (dg_n hX.nN (hX.nm (by decide +kernel)) (hX.loc (by decide +kernel)) (.inl (hS.fn _))) (dgs_cons (dg_n hX.nN (hX.nm (by decide +kernel)) (hX.loc (by decide +kernel)) (.inl (hS.fn _))) (dgs_nil) rfl) rfl) rfl) rfl) rfl rfl) (dss_cons (ds_set hX.nN (hX.nm (by decide +kernel)) (hX.loc (by decide +kernel)) (.inl (hS.fn _)) (de_if ((dw_and (q_teq hX hB (q_v (hX.vo (by decide +kernel))) (q_str)) (pw_and1 (q_teq hX hB (de_call wo hX hB (k_f_law_take wo wf) (by decide) rfl (hX.go (by decide +kernel)).l rfl rfl rfl (q_asS (hX.vo (by decide +kernel)) (das_d rfl (q_int) (das_nil)))) (q_int)))).pt) (q_str) (q_v (hX.vo (by decide +kernel)))) rfl) (dss_cons (ds_set hX.nN (hX.nm (by decide +kernel)) (hX.loc (by decide +kernel)) (.inl (hS.fn _)) (de_and (q_eq hX hB (q_v (hX.vo (by decide +kernel))) (q_str)) (pe_one (q_eq hX hB (de_call wo hX hB (k_f_law_take wo wf) (by decide) rfl (hX.go (by decide +kernel)).l rfl rfl rfl (q_asS (hX.vo (by decide +kernel)) (das_d rfl (q_int) (das_nil)))) (q_int)))) rfl) (dss_cons (ds_exp (q_append hX hB (hX.vo (by decide +kernel)) rfl rfl rfl rfl rfl (da_cons rfl (de_if (dt_truth (hX.kk hB) (q_v (hX.vo (by decide +kernel))) (fun _ => rfl)) (de_tup (da_cons rfl (q_v (hX.vo (by decide +kernel))) (da_cons rfl (q_v (hX.vo (by decide +kernel))) (da_cons rfl (q_v (hX.vo (by decide +kernel))) (da_cons rfl (q_v (hX.vo (by decide +kernel))) (da_nil)))))) (de_tup (da_cons rfl (q_v (hX.vo (by decide +kernel))) (da_cons rfl (q_v (hX.vo (by decide +kernel))) (da_cons rfl (q_v (hX.vo (by decide +kernel))) (da_cons rfl (q_v (hX.vo (by decide +kernel))) (da_nil))))))) (da_nil))) rfl) (dss_nil)))) (fun _ => rfl)) (dss_cons (ds_ret (de_call wo hX hB (k_f_law_with wo wf) (by decide) rfl (hX.go (by decide +kernel)).l rfl rfl rfl (das_d rfl (q_v (hX.vo (by decide +kernel))) (das_d rfl (q_v (hX.vo (by decide +kernel))) (das_nil))))) (dss_nil)))
def g_f_law_some : List Sl → RS := fun ρ => ((stPar [4, 5] (mxC true (evListV 1) (mxC true (evLst (evNil)) (mxNil)))) ρ).bind (fun ρ => ((stFor (srcL rng1O (evCons (evV 2) (evNil))) (tgN 3) (fun ρ => ((stExp (evMt appF 5 (evCons (evMt popF 4 (evCons (evCall F_f_law_take (asS 0 (asD (evLenV 4) (asNil)))) (evNil))) (evNil)))) ρ).bind .nx)) ρ).bind (fun ρ => ((stRet (evV 5)) ρ).bind .nx))
def F_f_law_some : Fd := ⟨[.mt, .br, .sh], false, semOf 6 [.mt, .br, .sh] false g_f_law_some⟩
@[simp] theorem F_f_law_some_md : F_f_law_some.md = [.mt, .br, .sh] := rfl
@[simp] theorem F_f_law_some_own : F_f_law_some.own = false := rfl
theorem F_f_law_some_sem : F_f_law_some.sem = semOf 6 [.mt, .br, .sh] false g_f_law_some := rfl
theorem k_f_law_some (wo : WOk W) (wf : Facts W) : Cal W 3 ("_law_some" : Str) F_f_law_some := cal_of (k := 2) (N := [("_law_pot_here" : Str), ("_law_pool" : Str), ("_law_amount" : Str), ("_law_lap" : Str), ("_law_rest" : Str), ("_law_found" : Str)]) (ps := [("_law_pot_here" : Str), ("_law_pool" : Str), ("_law_amount" : Str)]) wo wf.fn_f_law_some (by decide +kernel) rfl (fun _ _ _ _ _ _ us hl => match us, hl with | [_, _, _], _ => rfl) rfl fun X E hS B hB => have hX := hS.toXIs; dss_cons (q_par hX (by decide +kernel) (by decide +kernel) (fun _ => rfl) rfl (dmx_ow rfl (q_listv hX hB (wf.bn ("list" : Str) (by decide +kernel)) (hX.go (by decide +kernel)) (hX.vo (by decide +kernel))) (fun B''' bl => have hB' := hB.le wo bl; dmx_ow rfl (do_lst (da_nil)) (fun B'''' bl => have hB'' := hB'.le wo bl; dmx_nil)))) (dss_cons (ds_for hS.owns hX.calm (di_rng1 (hX.go (by decide +kernel)).g (hX.noName (wf.bn ("range" : Str) (by decide +kernel))) rfl  (da_cons rfl (q_v (hX.vo (by decide +kernel))) (da_nil))) (dg_n hX.nN (hX.nm (by decide +kernel)) (hX.loc (by decide +kernel)) (.inl (hS.fn _))) (dss_cons (ds_exp (q_append hX hB (hX.vo (by decide +kernel)) rfl rfl rfl rfl rfl (da_cons rfl (q_pop hX hB (hX.vo (by decide +kernel)) rfl rfl rfl rfl rfl (da_cons rfl (de_call wo hX hB (k_f_law_take wo wf) (by decide) rfl (hX.go (by decide +kernel)).l rfl rfl rfl (q_asS (hX.vo (by decide +kernel)) (das_d rfl (q_lenv hX hB (wf.bn ("len" : Str) (by decide +kernel)) (hX.go (by decide +kernel)) (hX.vo (by decide +kernel))) (das_nil)))) (da_nil))) (da_nil))) rfl) (dss_nil)) (fun _ => rfl)) (dss_cons (ds_ret (q_v (hX.vo (by decide +kernel)))) (dss_nil)))
def g_f_law_names : List Sl → RS := fun ρ => ((stSet 2 (frzE (evLst (evCons (evLit (.str ("a" : Str))) (evCons (evLit (.str ("b" : Str))) (evCons (evLit (.str ("c" : Str))) (evCons (evLit (.str ("d" : Str))) (evCons (evLit (.str ("e" : Str))) (evCons (evLit (.str ("f" : Str))) (evCons (evLit (.str ("places" : Str))) (evCons (evLit (.str ("unread" : Str))) (evCons (evLit (.str ("known" : Str))) (evCons (evLit (.str ("both" : Str))) (evCons (evLit (.str ("book" : Str))) (evCons (evLit (.str ("read" : Str))) (evCons (evLit (.str ("drive" : Str))) (evCons (evLit (.str ("strike" : Str))) (evNil)))))))))))))))))) ρ).bind (fun ρ => ((stSet 3 (frzE (evLst (evCons (evLit (.str ("many" : Str))) (evCons (evLit (.str ("sure" : Str))) (evCons (evLit (.str ("shut" : Str))) (evCons (evLit (.str ("closed" : Str))) (evCons (evLit (.str ("ask" : Str))) (evCons (evLit (.str ("undo" : Str))) (evCons (evLit (.str ("zzzzzzzz" : Str))) (evCons (evLit (.str ("x" : Str))) (evCons (evLit (.str ("y" : Str))) (evCons (evLit (.str ("z" : Str))) (evCons (evLit (.str ("go" : Str))) (evCons (evLit (.str ("st" : Str))) (evCons (evLit (.str ("alley" : Str))) (evCons (evLit (.str ("lane" : Str))) (evNil)))))))))))))))))) ρ).bind (fun ρ => ((stRet (evCall F_f_law_some (asS 0 (asD (ev2 add2O (evV 2) (evV 3)) (asD (evV 1) (asNil)))))) ρ).bind .nx))
def F_f_law_names : Fd := ⟨[.mt, .sh], false, semOf 4 [.mt, .sh] false g_f_law_names⟩
@[simp] theorem F_f_law_names_md : F_f_law_names.md = [.mt, .sh] := rfl
@[simp] theorem F_f_law_names_own : F_f_law_names.own = false := rfl
theorem F_f_law_names_sem : F_f_law_names.sem = semOf 4 [.mt, .sh] false g_f_law_names := rfl
theorem k_f_law_names (wo : WOk W) (wf : Facts W) : Cal W 5 ("_law_names" : Str) F_f_law_names := cal_of (k := 4) (N := [("_law_pot_here" : Str), ("_law_amount" : Str), ("_law_pool" : Str), ("_law_more" : Str)]) (ps := [("_law_pot_here" : Str), ("_law_amount" : Str)]) wo wf.fn_f_law_names (by decide +kernel) rfl (fun _ _ _ _ _ _ us hl => match us, hl with | [_, _], _ => rfl) rfl fun X E hS B hB => have hX := hS.toXIs; dss_cons (ds_set hX.nN (hX.nm (by decide +kernel)) (hX.loc (by decide +kernel)) (.inl (hS.fn _)) (q_own (do_lst (da_cons rfl (q_str) (da_cons rfl (q_str) (da_cons rfl (q_str) (da_cons rfl (q_str) (da_cons rfl (q_str) (da_cons rfl (q_str) (da_cons rfl (q_str) (da_cons rfl (q_str) (da_cons rfl (q_str) (da_cons rfl (q_str) (da_cons rfl (q_str) (da_cons rfl (q_str) (da_cons rfl (q_str) (da_cons rfl (q_str) (da_nil))))))))))))))))) rfl) (dss_cons (ds_set hX.nN (hX.nm (by decide +kernel)) (hX.loc (by decide +kernel)) (.inl (hS.fn _)) (q_own (do_lst (da_cons rfl (q_str) (da_cons rfl (q_str) (da_cons rfl (q_str) (da_cons rfl (q_str) (da_cons rfl (q_str) (da_cons rfl (q_str) (da_cons rfl (q_str) (da_cons rfl (q_str) (da_cons rfl (q_str) (da_cons rfl (q_str) (da_cons rfl (q_str) (da_cons rfl (q_str) (da_cons rfl (q_str) (da_cons rfl (q_str) (da_nil))))))))))))))))) rfl) (dss_cons (ds_ret (de_call wo hX hB (k_f_law_some wo wf) (by decide) rfl (hX.go (by decide +kernel)).l rfl rfl rfl (q_asS (hX.vo (by decide +kernel)) (das_d rfl (q_add hX hB (q_v (hX.vo (by decide +kernel))) (q_v (hX.vo (by decide +kernel)))) (das_d rfl (q_v (hX.vo (by decide +kernel))) (das_nil)))))) (dss_nil)))
def g_f_law_of : List Sl → RS := fun ρ => ((stRet (evIxV 1 (evCall F_f_law_take (asS 0 (asD (evLenV 1) (asNil)))))) ρ).bind .nx
def F_f_law_of : Fd := ⟨[.mt, .sh], false, semOf 2 [.mt, .sh] false g_f_law_of⟩
@[simp] theorem F_f_law_of_md : F_f_law_of.md = [.mt, .sh] := rfl
@[simp] theorem F_f_law_of_own : F_f_law_of.own = false := rfl
theorem F_f_law_of_sem : F_f_law_of.sem = semOf 2 [.mt, .sh] false g_f_law_of := rfl
theorem k_f_law_of (wo : WOk W) (wf : Facts W) : Cal W 3 ("_law_of" : Str) F_f_law_of := cal_of (k := 2) (N := [("_law_pot_here" : Str), ("_law_some_here" : Str)]) (ps := [("_law_pot_here" : Str), ("_law_some_here" : Str)]) wo wf.fn_f_law_of (by decide +kernel) rfl (fun _ _ _ _ _ _ us hl => match us, hl with | [_, _], _ => rfl) rfl fun X E hS B hB => have hX := hS.toXIs; dss_cons (ds_ret (q_ixv hX hB (hX.vo (by decide +kernel)) rfl (de_call wo hX hB (k_f_law_take wo wf) (by decide) rfl (hX.go (by decide +kernel)).l rfl rfl rfl (q_asS (hX.vo (by decide +kernel)) (das_d rfl (q_lenv hX hB (wf.bn ("len" : Str) (by decide +kernel)) (hX.go (by decide +kernel)) (hX.vo (by decide +kernel))) (das_nil)))))) (dss_nil)
def g_f_law_roads : List Sl → RS := fun ρ => ((stSet 3 (evCall F_f_law_names (asS 0 (asD (evV 1) (asNil))))) ρ).bind (fun ρ => ((stSet 4 (ev2 add2O (evLit (.int 2)) (evCall F_f_law_take (asS 0 (asD (evL minO (evCons (evLit (.int 3)) (evCons (ev2 subO (evV 1) (evLit (.int 1))) evNil))) (asNil)))))) ρ).bind (fun ρ => ((stSet 5 (evSl3 (evV 3) none (some (evV 4)))) ρ).bind (fun ρ => ((stSet 6 (frzE (evL lzO (evCons (evV 5) (evCons (ev2 add2O (evSl3 (evV 5) (some (evLit (.int 1))) none) (evSl3 (evV 5) none (some (evLit (.int 1))))) (evNil)))))) ρ).bind (fun ρ => ((stFor (srcL rng1O (evCons (evCall F_f_law_take (asS 0 (asD (ev2 add2O (evV 2) (evLit (.int 1))) (asNil)))) (evNil))) (tgN 7) (fun ρ => ((stPar [9, 10] (mxC false (evCall F_f_law_of (asS 0 (asD (evV 5) (asNil)))) (mxC false (evCall F_f_law_of (asS 0 (asD (evV 5) (asNil)))) (mxNil)))) ρ).bind (fun ρ => ((stSet 8 (evSl3 (evV 3) (some (evLenV 5)) (some (ev2 add2O (evLenV 5) (evCall F_f_law_of (asS 0 (asD (frzE (evLst (evCons (evLit (.int 0)) (evCons (evLit (.int 0)) (evCons (evLit (.int 1)) (evCons (evLit (.int 1)) (evCons (evLit (.int 2)) (evNil)))))))) (asNil)))))))) ρ).bind (fun ρ => ((stIf (evOr (evB (ev2 neO (evV 8) (frzE (evLst (evNil))))) (evB (ev2 neO (evV 9) (evV 10)))) (fun ρ => ((stSet 11 (ev2 add2O (ev2 add2O (frzE (evLst (evCons (evV 9) (evNil)))) (evV 8)) (frzE (evLst (evCons (evV 10) (evNil)))))) ρ).bind (fun ρ => ((stPar [5, 6] (mxC false (ev2 add2O (evV 5) (evV 8)) (mxC false (ev2 add2O (evV 6) (frzE (evL lzO (evCons (evV 11) (evCons (evSl3 (evV 11) (some (evLit (.int 1))) none) (evNil)))))) (mxNil)))) ρ).bind .nx)) (.nx)) ρ).bind .nx)))) ρ).bind (fun ρ => ((stRet (evTup (evCons (evV 5) (evCons (evV 6) (evNil))))) ρ).bind .nx)))))
def F_f_law_roads : Fd := ⟨[.mt, .sh, .sh], false, semOf 12 [.mt, .sh, .sh] false g_f_law_roads⟩
@[simp] theorem F_f_law_roads_md : F_f_law_roads.md = [.mt, .sh, .sh] := rfl
@[simp] theorem F_f_law_roads_own : F_f_law_roads.own = false := rfl
theorem F_f_law_roads_sem : F_f_law_roads.sem = semOf 12 [.mt, .sh, .sh] false g_f_law_roads := rfl
theorem k_f_law_roads (wo : WOk W) (wf : Facts W) : Cal W 7 ("_law_roads" : Str) F_f_law_roads := cal_of (k := 6) (N := [("_law_pot_here" : Str), ("_law_most" : Str), ("_law_more" : Str), ("_law_names_here" : Str), ("_law_amount" : Str), ("_law_places" : Str), ("_law_streets" : Str), ("_law_lap" : Str), ("_law_inner" : Str), ("_law_one" : Str), ("_law_other" : Str), ("_law_road" : Str)]) (ps := [("_law_pot_here" : Str), ("_law_most" : Str), ("_law_more" : Str)]) wo wf.fn_f_law_roads (by decide +kernel) rfl (fun _ _ _ _ _ _ us hl => match us, hl with | [_, _, _], _ => rfl) rfl fun X E hS B hB => have hX := hS.toXIs; dss_cons (ds_set hX.nN (hX.nm (by decide +kernel)) (hX.loc (by decide +kernel)) (.inl (hS.fn _)) (de_call wo hX hB (k_f_law_names wo wf) (by decide) rfl (hX.go (by decide +kernel)).l rfl rfl rfl (q_asS (hX.vo (by decide +kernel)) (das_d rfl (q_v (hX.vo (by decide +kernel))) (das_nil)))) rfl) (dss_cons (ds_set hX.nN (hX.nm (by decide +kernel)) (hX.loc (by decide +kernel)) (.inl (hS.fn _)) (q_add hX hB (q_int) (de_call wo hX hB (k_f_law_take wo wf) (by decide) rfl (hX.go (by decide +kernel)).l rfl rfl rfl (q_asS (hX.vo (by decide +kernel)) (das_d rfl (q_min hX hB (wf.bn ("min" : Str) (by decide +kernel)) (hX.go (by decide +kernel)) rfl rfl (q_int) (q_sub hX hB (q_v (hX.vo (by decide +kernel))) (q_int))) (das_nil))))) rfl) (dss_cons (ds_set hX.nN (hX.nm (by decide +kernel)) (hX.loc (by decide +kernel)) (.inl (hS.fn _)) (q_sl hX hB (q_v (hX.vo (by decide +kernel))) .none (.some (q_v (hX.vo (by decide +kernel))))) rfl) (dss_cons (ds_set hX.nN (hX.nm (by decide +kernel)) (hX.loc (by decide +kernel)) (.inl (hS.fn _)) (q_own (q_listzip hX hB (wf.bn ("list" : Str) (by decide +kernel)) (hX.go (by decide +kernel)) (wf.bn ("zip" : Str) (by decide +kernel)) (hX.go (by decide +kernel)) rfl rfl (da_cons rfl (q_v (hX.vo (by decide +kernel))) (da_cons rfl (q_add hX hB (q_sl hX hB (q_v (hX.vo (by decide +kernel))) (.some (q_int)) .none) (q_sl hX hB (q_v (hX.vo (by decide +kernel))) .none (.some (q_int)))) (da_nil))))) rfl) (dss_cons (ds_for hS.owns hX.calm (di_rng1 (hX.go (by decide +kernel)).g (hX.noName (wf.bn ("range" : Str) (by decide +kernel))) rfl  (da_cons rfl (de_call wo hX hB (k_f_law_take wo wf) (by decide) rfl (hX.go (by decide +kernel)).l rfl rfl rfl (q_asS (hX.vo (by decide +kernel)) (das_d rfl (q_add hX hB (q_v (hX.vo (by decide +kernel))) (q_int)) (das_nil)))) (da_nil))) (dg_n hX.nN (hX.nm (by decide +kernel)) (hX.loc (by decide +kernel)) (.inl (hS.fn _))) (dss_cons (q_par hX (by decide +kernel) (by decide +kernel) (fun _ => rfl) rfl (dmx_sh rfl (de_call wo hX hB (k_f_law_of wo wf) (by decide) rfl (hX.go (by decide +kernel)).l rfl rfl rfl (q_asS (hX.vo (by decide +kernel)) (das_d rfl (q_v (hX.vo (by decide +kernel))) (das_nil)))) (dmx_sh rfl (de_call wo hX hB (k_f_law_of wo wf) (by decide) rfl (hX.go (by decide +kernel)).l rfl rfl rfl (q_asS (hX.vo (by decide +kernel)) (das_d rfl (q_v (hX.vo (by decide +kernel))) (das_nil)))) (dmx_nil)))) (dss_cons (ds_set hX.nN (hX.nm (by decide +kernel)) (hX.loc (by decide +kernel)) (.inl (hS.fn _)) (q_sl hX hB (q_v (hX.vo (by decide +kernel))) (.some (q_lenv hX hB (wf.bn ("len" : Str) (by decide +kernel)) (hX.go (by decide +kernel)) (hX.vo (by decide +kernel)))) (.some (q_add hX hB (q_lenv hX hB (wf.bn ("len" : Str) (by decide +kernel)) (hX.go (by decide +kernel)) (hX.vo (by decide +kernel))) (de_call wo hX hB (k_f_law_of wo wf) (by decide) rfl (hX.go (by decide +kernel)).l rfl rfl rfl (q_asS (hX.vo (by decide +kernel)) (das_d rfl (q_own (do_lst (da_cons rfl (q_int) (da_cons rfl (q_int) (da_cons rfl (q_int) (da_cons rfl (q_int) (da_cons rfl (q_int) (da_nil)))))))) (das_nil))))))) rfl) (dss_cons (ds_if ((dw_or (q_tne hX hB (q_v (hX.vo (by decide +kernel))) (q_own (do_lst (da_nil)))) (pw_or1 (q_tne hX hB (q_v (hX.vo (by decide +kernel))) (q_v (hX.vo (by decide +kernel)))))).pt) (dss_cons (ds_set hX.nN (hX.nm (by decide +kernel)) (hX.loc (by decide +kernel)) (.inl (hS.fn _)) (q_add hX hB (q_add hX hB (q_own (do_lst (da_cons rfl (q_v (hX.vo (by decide +kernel))) (da_nil)))) (q_v (hX.vo (by decide +kernel)))) (q_own (do_lst (da_cons rfl (q_v (hX.vo (by decide +kernel))) (da_nil))))) rfl) (dss_cons (q_par hX (by decide +kernel) (by decide +kernel) (fun _ => rfl) rfl (dmx_sh rfl (q_add hX hB (q_v (hX.vo (by decide +kernel))) (q_v (hX.vo (by decide +kernel)))) (dmx_sh rfl (q_add hX hB (q_v (hX.vo (by decide +kernel))) (q_own (q_listzip hX hB (wf.bn ("list" : Str) (by decide +kernel)) (hX.go (by decide +kernel)) (wf.bn ("zip" : Str) (by decide +kernel)) (hX.go (by decide +kernel)) rfl rfl (da_cons rfl (q_v (hX.vo (by decide +kernel))) (da_cons rfl (q_sl hX hB (q_v (hX.vo (by decide +kernel))) (.some (q_int)) .none) (da_nil)))))) (dmx_nil)))) (dss_nil))) (dss_nil)) (dss_nil)))) (fun _ => rfl)) (dss_cons (ds_ret (de_tup (da_cons rfl (q_v (hX.vo (by decide +kernel))) (da_cons rfl (q_v (hX.vo (by decide +kernel))) (da_nil))))) (dss_nil))))))
def g_f_law_town : List Sl → RS := fun ρ => ((stAsg (tgT 2 (tgCons (tgN 4) (tgCons (tgN 5) (tgNil)))) (evCall F_f_law_roads (asS 0 (asD (evV 1) (asD (evV 2) (asNil)))))) ρ).bind (fun ρ => ((stPar [6, 7] (mxC false (evCall F_f_law_names (asS 0 (asD (evL minO (evCons (evLit (.int 20)) (evCons (evLenV 5) evNil))) (asNil)))) (mxC true (evLst (evNil)) (mxNil)))) ρ).bind (fun ρ => ((stFor (srcL zipO (evCons (evV 6) (evCons (evV 5) (evNil)))) (tgT 2 (tgCons (tgN 8) (tgCons (tgT 2 (tgCons (tgN 11) (tgCons (tgN 12) (tgNil)))) (tgNil)))) (fun ρ => ((stSet 9 (evCall F_f_law_of (asS 0 (asD (evV 3) (asNil))))) ρ).bind (fun ρ => ((stSet 10 (evOrV (evAndV (ev2 neO (evV 9) (evLit (.str ("known" : Str)))) (ev2 eqO (evCall F_f_law_take (asS 0 (asD (evLit (.int 2)) (asNil)))) (evLit (.int 0)))) (evAndV (ev2 eqO (evV 9) (evLit (.str ("known" : Str)))) (ev2 eqO (evCall F_f_law_take (asS 0 (asD (evLit (.int 9)) (asNil)))) (evLit (.int 0)))))) ρ).bind (fun ρ => ((stExp (evMt appF 7 (evCons (evIf (evT (evV 10)) (evTup (evCons (evV 9) (evCons (evV 8) (evCons (evV 12) (evCons (evV 11) (evNil)))))) (evTup (evCons (evV 9) (evCons (evV 8) (evCons (evV 11) (evCons (evV 12) (evNil))))))) (evNil)))) ρ).bind .nx)))) ρ).bind (fun ρ => ((stRet (frzE (evDisp [(evLit (.str ("places" : Str)), evCall F_f_law_some (asS 0 (asD (evV 4) (asD (evLenV 4) (asNil))))), (evLit (.str ("streets" : Str)), evCall F_f_law_some (asS 0 (asS 7 (asD (evLenV 7) (asNil)))))]))) ρ).bind .nx)))
def F_f_law_town : Fd := ⟨[.mt, .sh, .sh, .sh], false, semOf 13 [.mt, .sh, .sh, .sh] false g_f_law_town⟩
@[simp] theorem F_f_law_town_md : F_f_law_town.md = [.mt, .sh, .sh, .sh] := rfl
@[simp] theorem F_f_law_town_own : F_f_law_town.own = false := rfl
theorem F_f_law_town_sem : F_f_law_town.sem = semOf 13 [.mt, .sh, .sh, .sh] false g_f_law_town := rfl
theorem k_f_law_town (wo : WOk W) (wf : Facts W) : Cal W 9 ("_law_town" : Str) F_f_law_town := cal_of (k := 8) (N := [("_law_pot_here" : Str), ("_law_most" : Str), ("_law_more" : Str), ("_law_kinds" : Str), ("_law_places" : Str), ("_law_ways" : Str), ("_law_names_here" : Str), ("_law_rows" : Str), ("_law_name" : Str), ("_law_kind" : Str), ("_law_is_turned" : Str), ("_law_one" : Str), ("_law_other" : Str)]) (ps := [("_law_pot_here" : Str), ("_law_most" : Str), ("_law_more" : Str), ("_law_kinds" : Str)]) wo wf.fn_f_law_town (by decide +kernel) rfl (fun _ _ _ _ _ _ us hl => match us, hl with | [_, _, _, _], _ => rfl) rfl fun X E hS B hB => have hX := hS.toXIs; dss_cons (q_asg hX (de_call wo hX hB (k_f_law_roads wo wf) (by decide) rfl (hX.go (by decide +kernel)).l rfl rfl rfl (q_asS (hX.vo (by decide +kernel)) (das_d rfl (q_v (hX.vo (by decide +kernel))) (das_d rfl (q_v (hX.vo (by decide +kernel))) (das_nil))))) (dg_t (hX.kk hB) hX.calm (dgs_cons (dg_n hX.nN (hX.nm (by decide +kernel)) (hX.loc (by decide +kernel)) (.inl (hS.fn _))) (dgs_cons (dg_n hX.nN (hX.nm (by decide +kernel)) (hX.loc (by decide +kernel)) (.inl (hS.fn _))) (dgs_nil) rfl) rfl) rfl rfl) rfl (fun _ => rfl) rfl) (dss_cons (q_par hX (by decide +kernel) (by decide +kernel) (fun _ => rfl) rfl (dmx_sh rfl (de_call wo hX hB (k_f_law_names wo wf) (by decide) rfl (hX.go (by decide +kernel)).l rfl rfl rfl (q_asS (hX.vo (by decide +kernel)) (das_d rfl (q_min hX hB (wf.bn ("min" : Str) (by decide +kernel)) (hX.go (by decide +kernel)) rfl rfl (q_int) (q_lenv hX hB (wf.bn ("len" : Str) (by decide +kernel)) (hX.go (by decide +kernel)) (hX.vo (by decide +kernel)))) (das_nil)))) (dmx_ow rfl (do_lst (da_nil)) (fun B''' bl => have hB' := hB.le wo bl; dmx_nil)))) (dss_cons (ds_for hS.owns hX.calm (di_zip (hX.kk hB) (hX.go (by decide +kernel)).g (hX.noName (wf.bn ("zip" : Str) (by decide +kernel))) rfl rfl (da_cons rfl (q_v (hX.vo (by decide +kernel))) (da_cons rfl (q_v (hX.vo (by decide +kernel))) (da_nil)))) (dg_t (hX.kk hB) hX.calm (dgs_cons (dg_n hX.nN (hX.nm (by decide +kernel)) (hX.loc (by decide +kernel)) (.inl (hS.fn _))) (dgs_cons (dg_t (hX.kk hB) hX.calm (dgs_cons (dg_n hX.nN (hX.nm (by decide +kernel)) (hX.loc (by decide +kernel)) (.inl (hS.fn _))) (dgs_cons (dg_n hX.nN (hX.nm (by decide +kernel)) (hX.loc (by decide +kernel)) (.inl (hS.fn _))) (dgs_nil) rfl) rfl) rfl rfl) (dgs_nil) rfl) rfl) rfl rfl) (dss_cons (ds_set hX.nN (hX.nm (by decide +kernel)) (hX.loc (by decide +kernel)) (.inl (hS.fn _)) (de_call wo hX hB (k_f_law_of wo wf) (by decide) rfl (hX.go (by decide +kernel)).l rfl rfl rfl (q_asS (hX.vo (by decide +kernel)) (das_d rfl (q_v (hX.vo (by decide +kernel))) (das_nil)))) rfl) (dss_cons (ds_set hX.nN (hX.nm (by decide +kernel)) (hX.loc (by decide +kernel)) (.inl (hS.fn _)) (de_or (de_and (q_ne hX hB (q_v (hX.vo (by decide +kernel))) (q_str)) (pe_one (q_eq hX hB (de_call wo hX hB (k_f_law_take wo wf) (by decide) rfl (hX.go (by decide +kernel)).l rfl rfl rfl (q_asS (hX.vo (by decide +kernel)) (das_d rfl (q_int) (das_nil)))) (q_int)))) (pe_one (de_and (q_eq hX hB (q_v (hX.vo (by decide +kernel))) (q_str)) (pe_one (q_eq hX hB (de_call wo hX hB (k_f_law_take wo wf) (by decide) rfl (hX.go (by decide +kernel)).l rfl rfl rfl (q_asS (hX.vo (by decide +kernel)) (das_d rfl (q_int) (das_nil)))) (q_int)))))) rfl) (dss_cons (ds_exp (q_append hX hB (hX.vo (by decide +kernel)) rfl rfl rfl rfl rfl (da_cons rfl (de_if (dt_truth (hX.kk hB) (q_v (hX.vo (by decide +kernel))) (fun _ => rfl)) (de_tup (da_cons rfl (q_v (hX.vo (by decide +kernel))) (da_cons rfl (q_v (hX.vo (by decide +kernel))) (da_cons rfl (q_v (hX.vo (by decide +kernel))) (da_cons rfl (q_v (hX.vo (by decide +kernel))) (da_nil)))))) (de_tup (da_cons rfl (q_v (hX.vo (by decide +kernel))) (da_cons rfl (q_v (hX.vo (by decide +kernel))) (da_cons rfl (q_v (hX.vo (by decide +kernel))) (da_cons rfl (q_v (hX.vo (by decide +kernel))) (da_nil))))))) (da_nil))) rfl) (dss_nil)))) (fun _ => rfl)) (dss_cons (ds_ret (q_own (q_disp rfl (q_dps wo hX hB (fun _ hB' hX' => q_str) (fun _ hB' hX' => de_call wo hX' hB' (k_f_law_some wo wf) (by decide) rfl (hX'.go (by decide +kernel)).l rfl rfl rfl (q_asS (hX'.vo (by decide +kernel)) (das_d rfl (q_v (hX'.vo (by decide +kernel))) (das_d rfl (q_lenv hX' hB' (wf.bn ("len" : Str) (by decide +kernel)) (hX'.go (by decide +kernel)) (hX'.vo (by decide +kernel))) (das_nil))))) (q_dps wo hX hB (fun _ hB' hX' => q_str) (fun _ hB' hX' => de_call wo hX' hB' (k_f_law_some wo wf) (by decide) rfl (hX'.go (by decide +kernel)).l rfl rfl rfl (q_asS (hX'.vo (by decide +kernel)) (q_asS (hX'.vo (by decide +kernel)) (das_d rfl (q_lenv hX' hB' (wf.bn ("len" : Str) (by decide +kernel)) (hX'.go (by decide +kernel)) (hX'.vo (by decide +kernel))) (das_nil))))) (dps_nil)))))) (dss_nil))))
def g_f_law_rim : List Sl → RS := fun ρ => ((stRet (frzE (evLc [2] (srcD (evIxV 0 (evLit (.str ("streets" : Str))))) (tgN 2) (evB (ev2 neO (ev2 inO2 (evIxV 2 (evLit (.int 2))) (evV 1)) (ev2 inO2 (evIxV 2 (evLit (.int 3))) (evV 1)))) (evV 2)))) ρ).bind .nx
def F_f_law_rim : Fd := ⟨[.sh, .sh], false, semOf 3 [.sh, .sh] false g_f_law_rim⟩
@[simp] theorem F_f_law_rim_md : F_f_law_rim.md = [.sh, .sh] := rfl
@[simp] theorem F_f_law_rim_own : F_f_law_rim.own = false := rfl
theorem F_f_law_rim_sem : F_f_law_rim.sem = semOf 3 [.sh, .sh] false g_f_law_rim := rfl
theorem k_f_law_rim (wo : WOk W) (wf : Facts W) : Cal W 1 ("_law_rim" : Str) F_f_law_rim := cal_of (k := 0) (N := [("_law_lore" : Str), ("_law_some_here" : Str), ("_law_row" : Str)]) (ps := [("_law_lore" : Str), ("_law_some_here" : Str)]) wo wf.fn_f_law_rim (by decide +kernel) rfl (fun _ _ _ _ _ _ us hl => match us, hl with | [_, _], _ => rfl) rfl fun X E hS B hB => have hX := hS.toXIs; dss_cons (ds_ret (q_own (q_lc (own := [(("_law_row" : Str), 2)]) wo hX hB (di_any (hX.kk hB) (q_ixv hX hB (hX.vo (by decide +kernel)) rfl (q_str))) (by decide +kernel) (by decide +kernel) (fun B1 hB1 Y1 hS1 => have hX1 := hS1.toXIs; dg_n hX1.nN (hX1.nm (by decide +kernel)) (hX1.loc (by decide +kernel)) (hS1.bf _ (by decide +kernel))) (fun B1 hB1 Y1 hS1 => have hX1 := hS1.toXIs; dts_one (q_tne hX1 hB1 (q_in hX1 hB1 rfl (q_ixv hX1 hB1 (hX1.vo (by decide +kernel)) rfl (q_int)) (q_v (hX1.vo (by decide +kernel)))) (q_in hX1 hB1 rfl (q_ixv hX1 hB1 (hX1.vo (by decide +kernel)) rfl (q_int)) (q_v (hX1.vo (by decide +kernel)))))) (fun B1 hB1 Y1 hS1 => have hX1 := hS1.toXIs; q_v (hX1.vo (by decide +kernel))) (fun _ => rfl)))) (dss_nil)
def g_f_law_does_bar : List Sl → RS := fun ρ => ((stSet 2 (evCall F_f_law_rim (asD (evV 0) (asD (evV 1) (asNil))))) ρ).bind (fun ρ => ((stOwn 3 (evLc [4] (srcD (evV 2)) (tgN 4) (evOr (evB (ev2 neO (evIxV 4 (evLit (.int 0))) (evLit (.str ("known" : Str))))) (evB (ev2 inO2 (evIxV 4 (evLit (.int 2))) (evV 1)))) (evV 4))) ρ).bind (fun ρ => ((stRet (evOrV (ev2 eqO (evV 3) (frzE (evLst (evNil)))) (evAndV (ev2 eqO (evLenV 2) (evLit (.int 1))) (ev2 eqO (ev2 ixO (evIxV 2 (evLit (.int 0))) (evLit (.int 0))) (evLit (.str ("unread" : Str))))))) ρ).bind .nx))
def F_f_law_does_bar : Fd := ⟨[.sh, .sh], false, semOf 5 [.sh, .sh] false g_f_law_does_bar⟩
@[simp] theorem F_f_law_does_bar_md : F_f_law_does_bar.md = [.sh, .sh] := rfl
@[simp] theorem F_f_law_does_bar_own : F_f_law_does_bar.own = false := rfl
theorem F_f_law_does_bar_sem : F_f_law_does_bar.sem = semOf 5 [.sh, .sh] false g_f_law_does_bar := rfl
theorem k_f_law_does_bar (wo : WOk W) (wf : Facts W) : Cal W 3 ("_law_does_bar" : Str) F_f_law_does_bar := cal_of (k := 2) (N := [("_law_lore" : Str), ("_law_some_here" : Str), ("_law_rows" : Str), ("_law_can_lead" : Str), ("_law_row" : Str)]) (ps := [("_law_lore" : Str), ("_law_some_here" : Str)]) wo wf.fn_f_law_does_bar (by decide +kernel) rfl (fun _ _ _ _ _ _ us hl => match us, hl with | [_, _], _ => rfl) rfl fun X E hS B hB => have hX := hS.toXIs; dss_cons (ds_set hX.nN (hX.nm (by decide +kernel)) (hX.loc (by decide +kernel)) (.inl (hS.fn _)) (de_call wo hX hB (k_f_law_rim wo wf) (by decide) rfl (hX.go (by decide +kernel)).l rfl rfl rfl (das_d rfl (q_v (hX.vo (by decide +kernel))) (das_d rfl (q_v (hX.vo (by decide +kernel))) (das_nil)))) rfl) (dss_cons (q_ownLc (by decide +kernel) (by decide +kernel) rfl (by decide +kernel) (by decide +kernel) (own := [(("_law_row" : Str), 4)]) wo hX hB (di_any (hX.kk hB) (q_v (hX.vo (by decide +kernel)))) (by decide +kernel) (by decide +kernel) (fun B1 hB1 Y1 hS1 => have hX1 := hS1.toXIs; dg_n hX1.nN (hX1.nm (by decide +kernel)) (hX1.loc (by decide +kernel)) (hS1.bf _ (by decide +kernel))) (fun B1 hB1 Y1 hS1 => have hX1 := hS1.toXIs; dts_one ((dw_or (q_tne hX1 hB1 (q_ixv hX1 hB1 (hX1.vo (by decide +kernel)) rfl (q_int)) (q_str)) (pw_or1 (q_tin hX1 hB1 rfl (q_ixv hX1 hB1 (hX1.vo (by decide +kernel)) rfl (q_int)) (q_v (hX1.vo (by decide +kernel)))))).pt)) (fun B1 hB1 Y1 hS1 => have hX1 := hS1.toXIs; q_v (hX1.vo (by decide +kernel))) (fun _ => rfl)) (dss_cons (ds_ret (de_or (q_eq hX hB (q_v (hX.vo (by decide +kernel))) (q_own (do_lst (da_nil)))) (pe_one (de_and (q_eq hX hB (q_lenv hX hB (wf.bn ("len" : Str) (by decide +kernel)) (hX.go (by decide +kernel)) (hX.vo (by decide +kernel))) (q_int)) (pe_one (q_eq hX hB (q_ix hX hB rfl (q_ixv hX hB (hX.vo (by decide +kernel)) rfl (q_int)) (q_int)) (q_str))))))) (dss_nil)))
def g_f_law_sets : List Sl → RS := fun ρ => ((stSet 1 (frzE (evLst (evCons (evTup (evNil)) (evNil))))) ρ).bind (fun ρ => ((stFor (srcD (evIxV 0 (evLit (.str ("places" : Str))))) (tgN 2) (fun ρ => ((stSet 1 (ev2 add2O (evV 1) (frzE (evLc [3] (srcD (evV 1)) (tgN 3) (evYes) (ev2 add2O (evV 3) (evTup (evCons (evV 2) (evNil)))))))) ρ).bind .nx)) ρ).bind (fun ρ => ((stRet (evSl3 (evV 1) (some (evLit (.int 1))) (some (evNeg (evLit (.int 1)))))) ρ).bind .nx))
def F_f_law_sets : Fd := ⟨[.sh], false, semOf 4 [.sh] false g_f_law_sets⟩
@[simp] theorem F_f_law_sets_md : F_f_law_sets.md = [.sh] := rfl
@[simp] theorem F_f_law_sets_own : F_f_law_sets.own = false := rfl
theorem F_f_law_sets_sem : F_f_law_sets.sem = semOf 4 [.sh] false g_f_law_sets := rfl
theorem k_f_law_sets (wo : WOk W) (wf : Facts W) : Cal W 1 ("_law_sets" : Str) F_f_law_sets := cal_of (k := 0) (N := [("_law_lore" : Str), ("_law_found" : Str), ("_law_place" : Str), ("_law_some_here" : Str)]) (ps := [("_law_lore" : Str)]) wo wf.fn_f_law_sets (by decide +kernel) rfl (fun _ _ _ _ _ _ us hl => match us, hl with | [_], _ => rfl) rfl fun X E hS B hB => have hX := hS.toXIs; dss_cons (ds_set hX.nN (hX.nm (by decide +kernel)) (hX.loc (by decide +kernel)) (.inl (hS.fn _)) (q_own (do_lst (da_cons rfl (de_tup (da_nil)) (da_nil)))) rfl) (dss_cons (ds_for hS.owns hX.calm (di_any (hX.kk hB) (q_ixv hX hB (hX.vo (by decide +kernel)) rfl (q_str))) (dg_n hX.nN (hX.nm (by decide +kernel)) (hX.loc (by decide +kernel)) (.inl (hS.fn _))) (dss_cons (ds_set hX.nN (hX.nm (by decide +kernel)) (hX.loc (by decide +kernel)) (.inl (hS.fn _)) (q_add hX hB (q_v (hX.vo (by decide +kernel))) (q_own (q_lc (own := [(("_law_some_here" : Str), 3)]) wo hX hB (di_any (hX.kk hB) (q_v (hX.vo (by decide +kernel)))) (by decide +kernel) (by decide +kernel) (fun B1 hB1 Y1 hS1 => have hX1 := hS1.toXIs; dg_n hX1.nN (hX1.nm (by decide +kernel)) (hX1.loc (by decide +kernel)) (hS1.bf _ (by decide +kernel))) (fun B1 hB1 Y1 hS1 => have hX1 := hS1.toXIs; dts_nil) (fun B1 hB1 Y1 hS1 => have hX1 := hS1.toXIs; q_add hX1 hB1 (q_v (hX1.vo (by decide +kernel))) (de_tup (da_cons rfl (q_v (hX1.vo (by decide +kernel))) (da_nil)))) (fun _ => rfl)))) rfl) (dss_nil)) (fun _ => rfl)) (dss_cons (ds_ret (q_sl hX hB (q_v (hX.vo (by decide +kernel))) (.some (q_int)) (.some (q_neg (q_int))))) (dss_nil)))
def g_f_law_has_map : List Sl → RS := fun ρ => ((stRet (evNotV (evL anyO (evCons (frzE (evLc [1] (srcD (evCall F_f_law_sets (asD (evV 0) (asNil)))) (tgN 1) (evYes) (evCall F_f_law_does_bar (asD (evV 0) (asD (evV 1) (asNil)))))) evNil)))) ρ).bind .nx
def F_f_law_has_map : Fd := ⟨[.sh], false, semOf 2 [.sh] false g_f_law_has_map⟩
@[simp] theorem F_f_law_has_map_md : F_f_law_has_map.md = [.sh] := rfl
@[simp] theorem F_f_law_has_map_own : F_f_law_has_map.own = false := rfl
theorem F_f_law_has_map_sem : F_f_law_has_map.sem = semOf 2 [.sh] false g_f_law_has_map := rfl
theorem k_f_law_has_map (wo : WOk W) (wf : Facts W) : Cal W 5 ("_law_has_map" : Str) F_f_law_has_map := cal_of (k := 4) (N := [("_law_lore" : Str), ("_law_some_here" : Str)]) (ps := [("_law_lore" : Str)]) wo wf.fn_f_law_has_map (by decide +kernel) rfl (fun _ _ _ _ _ _ us hl => match us, hl with | [_], _ => rfl) rfl fun X E hS B hB => have hX := hS.toXIs; dss_cons (ds_ret (de_not (q_any hX hB (wf.bn ("any" : Str) (by decide +kernel)) (hX.go (by decide +kernel)) rfl (q_own (q_lc (own := [(("_law_some_here" : Str), 1)]) wo hX hB (di_any (hX.kk hB) (de_call wo hX hB (k_f_law_sets wo wf) (by decide) rfl (hX.go (by decide +kernel)).l rfl rfl rfl (das_d rfl (q_v (hX.vo (by decide +kernel))) (das_nil)))) (by decide +kernel) (by decide +kernel) (fun B1 hB1 Y1 hS1 => have hX1 := hS1.toXIs; dg_n hX1.nN (hX1.nm (by decide +kernel)) (hX1.loc (by decide +kernel)) (hS1.bf _ (by decide +kernel))) (fun B1 hB1 Y1 hS1 => have hX1 := hS1.toXIs; dts_nil) (fun B1 hB1 Y1 hS1 => have hX1 := hS1.toXIs; de_call wo hX1 hB1 (k_f_law_does_bar wo wf) (by decide) rfl (hX1.go (by decide +kernel)).l rfl rfl rfl (das_d rfl (q_v (hX1.vo (by decide +kernel))) (das_d rfl (q_v (hX1.vo (by decide +kernel))) (das_nil)))) (fun _ => rfl)))))) (dss_nil)
def g_f_known_streets : List Sl → RS := fun ρ => ((stRet (frzE (evLc [1, 2] (srcI itmO (evFld cls_own_rows ("own_rows" : Str) (evV 0))) (tgT 2 (tgCons (tgN 1) (tgCons (tgN 2) (tgNil)))) (evB (ev2 eqO (evIxV 2 (evLit (.int 0))) (evLit c_KNOWN))) (evV 1)))) ρ).bind .nx
def F_f_known_streets : Fd := ⟨[.sh], false, semOf 3 [.sh] false g_f_known_streets⟩
@[simp] theorem F_f_known_streets_md : F_f_known_streets.md = [.sh] := rfl
@[simp] theorem F_f_known_streets_own : F_f_known_streets.own = false := rfl
theorem F_f_known_streets_sem : F_f_known_streets.sem = semOf 3 [.sh] false g_f_known_streets := rfl
theorem k_f_known_streets (wo : WOk W) (wf : Facts W) : Cal W 1 ("known_streets" : Str) F_f_known_streets := cal_of (k := 0) (N := [("town" : Str), ("street" : Str), ("row" : Str)]) (ps := [("town" : Str)]) wo wf.fn_f_known_streets (by decide +kernel) rfl (fun _ _ _ _ _ _ us hl => match us, hl with | [_], _ => rfl) rfl fun X E hS B hB => have hX := hS.toXIs; dss_cons (ds_ret (q_own (q_lc (own := [(("street" : Str), 1), (("row" : Str), 2)]) wo hX hB (di_items (hX.kk hB) (de_fld hX hB wf.fld_own_rows (q_v (hX.vo (by decide +kernel))) rfl) rfl rfl) (by decide +kernel) (by decide +kernel) (fun B1 hB1 Y1 hS1 => have hX1 := hS1.toXIs; dg_t (hX1.kk hB1) hX1.calm (dgs_cons (dg_n hX1.nN (hX1.nm (by decide +kernel)) (hX1.loc (by decide +kernel)) (hS1.bf _ (by decide +kernel))) (dgs_cons (dg_n hX1.nN (hX1.nm (by decide +kernel)) (hX1.loc (by decide +kernel)) (hS1.bf _ (by decide +kernel))) (dgs_nil) rfl) rfl) rfl rfl) (fun B1 hB1 Y1 hS1 => have hX1 := hS1.toXIs; dts_one (q_teq hX1 hB1 (q_ixv hX1 hB1 (hX1.vo (by decide +kernel)) rfl (q_int)) (q_glob wo hX1 hB1 wf.c_KNOWN (hX1.go (by decide +kernel))))) (fun B1 hB1 Y1 hS1 => have hX1 := hS1.toXIs; q_v (hX1.vo (by decide +kernel))) (fun _ => rfl)))) (dss_nil)
def g_m_Town_unread : List Sl → RS := fun ρ => ((stRet (evL tupO (evCons (frzE (evLc [1, 2] (srcI itmO (evFld cls_own_rows ("own_rows" : Str) (evV 0))) (tgT 2 (tgCons (tgN 1) (tgCons (tgN 2) (tgNil)))) (evB (ev2 eqO (evIxV 2 (evLit (.int 0))) (evLit c_UNREAD))) (evV 1))) evNil))) ρ).bind .nx
def F_m_Town_unread : Fd := ⟨[.sh], false, semOf 3 [.sh] false g_m_Town_unread⟩
@[simp] theorem F_m_Town_unread_md : F_m_Town_unread.md = [.sh] := rfl
@[simp] theorem F_m_Town_unread_own : F_m_Town_unread.own = false := rfl
theorem F_m_Town_unread_sem : F_m_Town_unread.sem = semOf 3 [.sh] false g_m_Town_unread := rfl
theorem s_m_Town_unread (wo : WOk W) (wf : Facts W) (f : Addr) (D : FnAt W ("unread" : Str) ("Town.unread" : Str) (ms 34 4) f) : ∃ fd, FnG W 1 f fd [("self" : Str)] (spF W.K W.gs F_m_Town_unread) ∧ Binds W.K fd [("self" : Str)] [] := fn_sem (k := 0) (N := [("self" : Str), ("name" : Str), ("row" : Str)]) (ps := [("self" : Str)]) wo D (by decide +kernel) rfl (fun _ _ _ _ _ _ us hl => match us, hl with | [_], _ => rfl) rfl fun X E hS B hB => have hX := hS.toXIs; dss_cons (ds_ret (q_tuple hX hB (wf.bn ("tuple" : Str) (by decide +kernel)) (hX.go (by decide +kernel)) rfl (q_own (q_lc (own := [(("name" : Str), 1), (("row" : Str), 2)]) wo hX hB (di_items (hX.kk hB) (de_fld hX hB wf.fld_own_rows (q_v (hX.vo (by decide +kernel))) rfl) rfl rfl) (by decide +kernel) (by decide +kernel) (fun B1 hB1 Y1 hS1 => have hX1 := hS1.toXIs; dg_t (hX1.kk hB1) hX1.calm (dgs_cons (dg_n hX1.nN (hX1.nm (by decide +kernel)) (hX1.loc (by decide +kernel)) (hS1.bf _ (by decide +kernel))) (dgs_cons (dg_n hX1.nN (hX1.nm (by decide +kernel)) (hX1.loc (by decide +kernel)) (hS1.bf _ (by decide +kernel))) (dgs_nil) rfl) rfl) rfl rfl) (fun B1 hB1 Y1 hS1 => have hX1 := hS1.toXIs; dts_one (q_teq hX1 hB1 (q_ixv hX1 hB1 (hX1.vo (by decide +kernel)) rfl (q_int)) (q_glob wo hX1 hB1 wf.c_UNREAD (hX1.go (by decide +kernel))))) (fun B1 hB1 Y1 hS1 => have hX1 := hS1.toXIs; q_v (hX1.vo (by decide +kernel))) (fun _ => rfl))))) (dss_nil)
def g_f_roads_from : List Sl → RS := fun ρ => ((stPar [2, 3, 4] (mxC true (evDisp [(evV 1, frzE (evLst (evNil)))]) (mxC true (evLst (evCons (evV 1) (evNil))) (mxC false (evLit (.int 0)) (mxNil))))) ρ).bind (fun ρ => ((stWhile (evB (ev2 ltO (evV 4) (evLenV 3))) (fun ρ => ((stFor (srcD (evV 0)) (tgT 3 (tgCons (tgN 5) (tgCons (tgN 6) (tgCons (tgN 7) (tgNil))))) (fun ρ => ((stIf (evAnd (evB (ev2 eqO (evV 6) (evIxV 3 (evV 4)))) (evB (evInV ninO2 2 (evV 7)))) (fun ρ => ((stPut 2 (frzE (evLst (evStar (evIxV 2 (evV 6)) (evCons (evV 5) (evNil))))) (evV 7)) ρ).bind (fun ρ => ((stExp (evMt appF 3 (evCons (evV 7) (evNil)))) ρ).bind .nx)) (.nx)) ρ).bind .nx)) ρ).bind (fun ρ => ((stSet 4 (evAug (· + ·) 4 (evLit (.int 1)))) ρ).bind .nx))) ρ).bind (fun ρ => ((stRet (evV 2)) ρ).bind .nx))
def F_f_roads_from : Fd := ⟨[.sh, .sh], false, semOf 8 [.sh, .sh] false g_f_roads_from⟩
@[simp] theorem F_f_roads_from_md : F_f_roads_from.md = [.sh, .sh] := rfl
@[simp] theorem F_f_roads_from_own : F_f_roads_from.own = false := rfl
theorem F_f_roads_from_sem : F_f_roads_from.sem = semOf 8 [.sh, .sh] false g_f_roads_from := rfl
theorem k_f_roads_from (wo : WOk W) (wf : Facts W) : Cal W 1 ("roads_from" : Str) F_f_roads_from := cal_of (k := 0) (N := [("some" : Str), ("place" : Str), ("found" : Str), ("waiting" : Str), ("at" : Str), ("street" : Str), ("one" : Str), ("other" : Str)]) (ps := [("some" : Str), ("place" : Str)]) wo wf.fn_f_roads_from (by decide +kernel) rfl (fun _ _ _ _ _ _ us hl => match us, hl with | [_, _], _ => rfl) rfl fun X E hS B hB => have hX := hS.toXIs; dss_cons (q_par3 hX (by decide +kernel) (by decide +kernel) (fun _ => rfl) rfl (dmx_ow rfl (q_disp rfl (q_dps wo hX hB (fun _ hB' hX' => q_v (hX'.vo (by decide +kernel))) (fun _ hB' hX' => q_own (do_lst (da_nil))) (dps_nil))) (fun B''' bl => have hB' := hB.le wo bl; dmx_ow rfl (do_lst (da_cons rfl (q_v (hX.vo (by decide +kernel))) (da_nil))) (fun B'''' bl => have hB'' := hB'.le wo bl; dmx_sh rfl (q_int) (dmx_nil))))) (dss_cons (ds_while hS.owns (q_tlt hX hB (q_v (hX.vo (by decide +kernel))) (q_lenv hX hB (wf.bn ("len" : Str) (by decide +kernel)) (hX.go (by decide +kernel)) (hX.vo (by decide +kernel)))) (dss_cons (ds_for hS.owns hX.calm (di_any (hX.kk hB) (q_v (hX.vo (by decide +kernel)))) (dg_t (hX.kk hB) hX.calm (dgs_cons (dg_n hX.nN (hX.nm (by decide +kernel)) (hX.loc (by decide +kernel)) (.inl (hS.fn _))) (dgs_cons (dg_n hX.nN (hX.nm (by decide +kernel)) (hX.loc (by decide +kernel)) (.inl (hS.fn _))) (dgs_cons (dg_n hX.nN (hX.nm (by decide +kernel)) (hX.loc (by decide +kernel)) (.inl (hS.fn _))) (dgs_nil) rfl) rfl) rfl) rfl rfl) (dss_cons (ds_if ((dw_and (q_teq hX hB (q_v (hX.vo (by decide +kernel))) (q_ixv hX hB (hX.vo (by decide +kernel)) rfl (q_v (hX.vo (by decide +kernel))))) (pw_and1 (q_tninv hX hB (hX.vo (by decide +kernel)) (q_v (hX.vo (by decide +kernel)))))).pt) (dss_cons (q_put hX (hX.vo (by decide +kernel)) (q_own (do_lst (q_star hX hB (q_ixv hX hB (hX.vo (by decide +kernel)) rfl (q_v (hX.vo (by decide +kernel)))) (da_cons rfl (q_v (hX.vo (by decide +kernel))) (da_nil))))) (q_v (hX.vo (by decide +kernel))) rfl rfl rfl (fun _ => rfl)) (dss_cons (ds_exp (q_append hX hB (hX.vo (by decide +kernel)) rfl rfl rfl rfl rfl (da_cons rfl (q_v (hX.vo (by decide +kernel))) (da_nil))) rfl) (dss_nil))) (dss_nil)) (dss_nil)) (fun _ => rfl)) (dss_cons (q_augadd hX (by decide +kernel) (by decide +kernel) (.inl (hS.fn _)) (q_int)) (dss_nil)))) (dss_cons (ds_ret (q_v (hX.vo (by decide +kernel)))) (dss_nil)))
def g_f_ends_by : List Sl → RS := fun ρ => ((stAsg (tgT 3 (tgCons (tgN 3) (tgCons (tgN 4) (tgCons (tgN 5) (tgNil))))) (ev2 ixO (evFld cls_own_rows ("own_rows" : Str) (evV 0)) (evV 1))) ρ).bind (fun ρ => ((stRet (evIf (evB (ev2 eqO (evV 2) (evLit c_AS_WRITTEN))) (evTup (evCons (evV 4) (evCons (evV 5) (evNil)))) (evTup (evCons (evV 5) (evCons (evV 4) (evNil)))))) ρ).bind .nx)
def F_f_ends_by : Fd := ⟨[.sh, .sh, .sh], false, semOf 6 [.sh, .sh, .sh] false g_f_ends_by⟩
@[simp] theorem F_f_ends_by_md : F_f_ends_by.md = [.sh, .sh, .sh] := rfl
@[simp] theorem F_f_ends_by_own : F_f_ends_by.own = false := rfl
theorem F_f_ends_by_sem : F_f_ends_by.sem = semOf 6 [.sh, .sh, .sh] false g_f_ends_by := rfl
theorem k_f_ends_by (wo : WOk W) (wf : Facts W) : Cal W 1 ("ends_by" : Str) F_f_ends_by := cal_of (k := 0) (N := [("town" : Str), ("street" : Str), ("sign" : Str), ("kind" : Str), ("one" : Str), ("other" : Str)]) (ps := [("town" : Str), ("street" : Str), ("sign" : Str)]) wo wf.fn_f_ends_by (by decide +kernel) rfl (fun _ _ _ _ _ _ us hl => match us, hl with | [_, _, _], _ => rfl) rfl fun X E hS B hB => have hX := hS.toXIs; dss_cons (q_asg hX (q_ix hX hB rfl (de_fld hX hB wf.fld_own_rows (q_v (hX.vo (by decide +kernel))) rfl) (q_v (hX.vo (by decide +kernel)))) (dg_t (hX.kk hB) hX.calm (dgs_cons (dg_n hX.nN (hX.nm (by decide +kernel)) (hX.loc (by decide +kernel)) (.inl (hS.fn _))) (dgs_cons (dg_n hX.nN (hX.nm (by decide +kernel)) (hX.loc (by decide +kernel)) (.inl (hS.fn _))) (dgs_cons (dg_n hX.nN (hX.nm (by decide +kernel)) (hX.loc (by decide +kernel)) (.inl (hS.fn _))) (dgs_nil) rfl) rfl) rfl) rfl rfl) rfl (fun _ => rfl) rfl) (dss_cons (ds_ret (de_if (q_teq hX hB (q_v (hX.vo (by decide +kernel))) (q_glob wo hX hB wf.c_AS_WRITTEN (hX.go (by decide +kernel)))) (de_tup (da_cons rfl (q_v (hX.vo (by decide +kernel))) (da_cons rfl (q_v (hX.vo (by decide +kernel))) (da_nil)))) (de_tup (da_cons rfl (q_v (hX.vo (by decide +kernel))) (da_cons rfl (q_v (hX.vo (by decide +kernel))) (da_nil)))))) (dss_nil))
def g_f_arrows : List Sl → RS := fun ρ => ((stPar [2, 3] (mxC true (evLst (evNil)) (mxC false (evLit (.int 0)) (mxNil)))) ρ).bind (fun ρ => ((stFor (srcI itmO (evFld cls_own_rows ("own_rows" : Str) (evV 0))) (tgT 2 (tgCons (tgN 4) (tgCons (tgT 3 (tgCons (tgN 5) (tgCons (tgN 6) (tgCons (tgN 7) (tgNil))))) (tgNil)))) (fun ρ => ((stIf (evOr (evB (ev2 eqO (evV 5) (evLit c_KNOWN))) (evAnd (evB (ev2 eqO (evV 5) (evLit c_UNREAD))) (evB (ev2 notNO (evV 1) (evLit .non))))) (fun ρ => ((stSet 8 (evIf (evB (ev2 eqO (evV 5) (evLit c_KNOWN))) (evLit c_AS_WRITTEN) (evIxV 1 (evV 3)))) ρ).bind (fun ρ => ((stExp (evMt appF 2 (evCons (evTup (evCons (evV 4) (evStar (evCall F_f_ends_by (asD (evV 0) (asD (evV 4) (asD (evV 8) (asNil))))) (evNil)))) (evNil)))) ρ).bind .nx)) (fun ρ => ((stExp (evMt extF 2 (evCons (frzE (evLst (evCons (evTup (evCons (evV 4) (evCons (evV 6) (evCons (evV 7) (evNil))))) (evCons (evTup (evCons (evV 4) (evCons (evV 7) (evCons (evV 6) (evNil))))) (evNil))))) (evNil)))) ρ).bind .nx)) ρ).bind (fun ρ => ((stSet 3 (evAug (· + ·) 3 (evL intF (evCons (ev2 eqO (evV 5) (evLit c_UNREAD)) evNil)))) ρ).bind .nx))) ρ).bind (fun ρ => ((stRet (evV 2)) ρ).bind .nx))
def F_f_arrows : Fd := ⟨[.sh, .sh], false, semOf 9 [.sh, .sh] false g_f_arrows⟩
@[simp] theorem F_f_arrows_md : F_f_arrows.md = [.sh, .sh] := rfl
@[simp] theorem F_f_arrows_own : F_f_arrows.own = false := rfl
theorem F_f_arrows_sem : F_f_arrows.sem = semOf 9 [.sh, .sh] false g_f_arrows := rfl
theorem k_f_arrows (wo : WOk W) (wf : Facts W) : Cal W 3 ("arrows" : Str) F_f_arrows := cal_of (k := 2) (N := [("town" : Str), ("signs" : Str), ("found" : Str), ("at" : Str), ("street" : Str), ("kind" : Str), ("one" : Str), ("other" : Str), ("sign" : Str)]) (ps := [("town" : Str), ("signs" : Str)]) wo wf.fn_f_arrows (by decide +kernel) rfl (fun _ _ _ _ _ _ us hl => match us, hl with | [_, _], _ => rfl) rfl fun X E hS B hB => have hX := hS.toXIs; dss_cons (q_par hX (by decide +kernel) (by decide +kernel) (fun _ => rfl) rfl (dmx_ow rfl (do_lst (da_nil)) (fun B''' bl => have hB' := hB.le wo bl; dmx_sh rfl (q_int) (dmx_nil)))) (dss_cons (ds_for hS.owns hX.calm (di_items (hX.kk hB) (de_fld hX hB wf.fld_own_rows (q_v (hX.vo (by decide +kernel))) rfl) rfl rfl) (dg_t (hX.kk hB) hX.calm (dgs_cons (dg_n hX.nN (hX.nm (by decide +kernel)) (hX.loc (by decide +kernel)) (.inl (hS.fn _))) (dgs_cons (dg_t (hX.kk hB) hX.calm (dgs_cons (dg_n hX.nN (hX.nm (by decide +kernel)) (hX.loc (by decide +kernel)) (.inl (hS.fn _))) (dgs_cons (dg_n hX.nN (hX.nm (by decide +kernel)) (hX.loc (by decide +kernel)) (.inl (hS.fn _))) (dgs_cons (dg_n hX.nN (hX.nm (by decide +kernel)) (hX.loc (by decide +kernel)) (.inl (hS.fn _))) (dgs_nil) rfl) rfl) rfl) rfl rfl) (dgs_nil) rfl) rfl) rfl rfl) (dss_cons (ds_if ((dw_or (q_teq hX hB (q_v (hX.vo (by decide +kernel))) (q_glob wo hX hB wf.c_KNOWN (hX.go (by decide +kernel)))) (pw_or1 ((dw_and (q_teq hX hB (q_v (hX.vo (by decide +kernel))) (q_glob wo hX hB wf.c_UNREAD (hX.go (by decide +kernel)))) (pw_and1 (q_tnotN hX hB (q_v (hX.vo (by decide +kernel))) (q_non)))).pt))).pt) (dss_cons (ds_set hX.nN (hX.nm (by decide +kernel)) (hX.loc (by decide +kernel)) (.inl (hS.fn _)) (de_if (q_teq hX hB (q_v (hX.vo (by decide +kernel))) (q_glob wo hX hB wf.c_KNOWN (hX.go (by decide +kernel)))) (q_glob wo hX hB wf.c_AS_WRITTEN (hX.go (by decide +kernel))) (q_ixv hX hB (hX.vo (by decide +kernel)) rfl (q_v (hX.vo (by decide +kernel))))) rfl) (dss_cons (ds_exp (q_append hX hB (hX.vo (by decide +kernel)) rfl rfl rfl rfl rfl (da_cons rfl (de_tup (da_cons rfl (q_v (hX.vo (by decide +kernel))) (q_star hX hB (de_call wo hX hB (k_f_ends_by wo wf) (by decide) rfl (hX.go (by decide +kernel)).l rfl rfl rfl (das_d rfl (q_v (hX.vo (by decide +kernel))) (das_d rfl (q_v (hX.vo (by decide +kernel))) (das_d rfl (q_v (hX.vo (by decide +kernel))) (das_nil))))) (da_nil)))) (da_nil))) rfl) (dss_nil))) (dss_cons (ds_exp (q_extend hX hB (hX.vo (by decide +kernel)) rfl rfl rfl rfl rfl (da_cons rfl (q_own (do_lst (da_cons rfl (de_tup (da_cons rfl (q_v (hX.vo (by decide +kernel))) (da_cons rfl (q_v (hX.vo (by decide +kernel))) (da_cons rfl (q_v (hX.vo (by decide +kernel))) (da_nil))))) (da_cons rfl (de_tup (da_cons rfl (q_v (hX.vo (by decide +kernel))) (da_cons rfl (q_v (hX.vo (by decide +kernel))) (da_cons rfl (q_v (hX.vo (by decide +kernel))) (da_nil))))) (da_nil))))) (da_nil))) rfl) (dss_nil))) (dss_cons (q_augadd hX (by decide +kernel) (by decide +kernel) (.inl (hS.fn _)) (q_intf hX hB (wf.bn ("int" : Str) (by decide +kernel)) (hX.go (by decide +kernel)) rfl (q_eq hX hB (q_v (hX.vo (by decide +kernel))) (q_glob wo hX hB wf.c_UNREAD (hX.go (by decide +kernel)))))) (dss_nil))) (fun _ => rfl)) (dss_cons (ds_ret (q_v (hX.vo (by decide +kernel)))) (dss_nil)))
def g_f_in_sequence : List Sl → RS := fun ρ => ((stRet (evL tupO (evCons (frzE (evLc [2] (srcD (evFld cls_own_places ("own_places" : Str) (evV 0))) (tgN 2) (evB (ev2 inO2 (evV 2) (evV 1))) (evV 2))) evNil))) ρ).bind .nx
def F_f_in_sequence : Fd := ⟨[.sh, .sh], false, semOf 3 [.sh, .sh] false g_f_in_sequence⟩
@[simp] theorem F_f_in_sequence_md : F_f_in_sequence.md = [.sh, .sh] := rfl
@[simp] theorem F_f_in_sequence_own : F_f_in_sequence.own = false := rfl
theorem F_f_in_sequence_sem : F_f_in_sequence.sem = semOf 3 [.sh, .sh] false g_f_in_sequence := rfl
theorem k_f_in_sequence (wo : WOk W) (wf : Facts W) : Cal W 1 ("in_sequence" : Str) F_f_in_sequence := cal_of (k := 0) (N := [("town" : Str), ("some" : Str), ("place" : Str)]) (ps := [("town" : Str), ("some" : Str)]) wo wf.fn_f_in_sequence (by decide +kernel) rfl (fun _ _ _ _ _ _ us hl => match us, hl with | [_, _], _ => rfl) rfl fun X E hS B hB => have hX := hS.toXIs; dss_cons (ds_ret (q_tuple hX hB (wf.bn ("tuple" : Str) (by decide +kernel)) (hX.go (by decide +kernel)) rfl (q_own (q_lc (own := [(("place" : Str), 2)]) wo hX hB (di_any (hX.kk hB) (de_fld hX hB wf.fld_own_places (q_v (hX.vo (by decide +kernel))) rfl)) (by decide +kernel) (by decide +kernel) (fun B1 hB1 Y1 hS1 => have hX1 := hS1.toXIs; dg_n hX1.nN (hX1.nm (by decide +kernel)) (hX1.loc (by decide +kernel)) (hS1.bf _ (by decide +kernel))) (fun B1 hB1 Y1 hS1 => have hX1 := hS1.toXIs; dts_one (q_tin hX1 hB1 rfl (q_v (hX1.vo (by decide +kernel))) (q_v (hX1.vo (by decide +kernel))))) (fun B1 hB1 Y1 hS1 => have hX1 := hS1.toXIs; q_v (hX1.vo (by decide +kernel))) (fun _ => rfl))))) (dss_nil)
def g_f_both_ways : List Sl → RS := fun ρ => ((stOwn 1 (evLst (evNil))) ρ).bind (fun ρ => ((stFor (srcI itmO (evFld cls_own_rows ("own_rows" : Str) (evV 0))) (tgT 2 (tgCons (tgN 2) (tgCons (tgT 3 (tgCons (tgN 3) (tgCons (tgN 4) (tgCons (tgN 5) (tgNil))))) (tgNil)))) (fun ρ => ((stExp (evMt extF 1 (evCons (frzE (evLst (evCons (evTup (evCons (evV 2) (evCons (evV 4) (evCons (evV 5) (evNil))))) (evCons (evTup (evCons (evV 2) (evCons (evV 5) (evCons (evV 4) (evNil))))) (evNil))))) (evNil)))) ρ).bind .nx)) ρ).bind (fun ρ => ((stRet (evV 1)) ρ).bind .nx))
def F_f_both_ways : Fd := ⟨[.sh], false, semOf 6 [.sh] false g_f_both_ways⟩
@[simp] theorem F_f_both_ways_md : F_f_both_ways.md = [.sh] := rfl
@[simp] theorem F_f_both_ways_own : F_f_both_ways.own = false := rfl
theorem F_f_both_ways_sem : F_f_both_ways.sem = semOf 6 [.sh] false g_f_both_ways := rfl
theorem k_f_both_ways (wo : WOk W) (wf : Facts W) : Cal W 1 ("both_ways" : Str) F_f_both_ways := cal_of (k := 0) (N := [("town" : Str), ("found" : Str), ("street" : Str), ("kind" : Str), ("one" : Str), ("other" : Str)]) (ps := [("town" : Str)]) wo wf.fn_f_both_ways (by decide +kernel) rfl (fun _ _ _ _ _ _ us hl => match us, hl with | [_], _ => rfl) rfl fun X E hS B hB => have hX := hS.toXIs; dss_cons (ds_own hX.nN (hX.nm (by decide +kernel)) (hX.loc (by decide +kernel)) (.inl (hS.fn _)) (do_lst (da_nil)) rfl) (dss_cons (ds_for hS.owns hX.calm (di_items (hX.kk hB) (de_fld hX hB wf.fld_own_rows (q_v (hX.vo (by decide +kernel))) rfl) rfl rfl) (dg_t (hX.kk hB) hX.calm (dgs_cons (dg_n hX.nN (hX.nm (by decide +kernel)) (hX.loc (by decide +kernel)) (.inl (hS.fn _))) (dgs_cons (dg_t (hX.kk hB) hX.calm (dgs_cons (dg_n hX.nN (hX.nm (by decide +kernel)) (hX.loc (by decide +kernel)) (.inl (hS.fn _))) (dgs_cons (dg_n hX.nN (hX.nm (by decide +kernel)) (hX.loc (by decide +kernel)) (.inl (hS.fn _))) (dgs_cons (dg_n hX.nN (hX.nm (by decide +kernel)) (hX.loc (by decide +kernel)) (.inl (hS.fn _))) (dgs_nil) rfl) rfl) rfl) rfl rfl) (dgs_nil) rfl) rfl) rfl rfl) (dss_cons (ds_exp (q_extend hX hB (hX.vo (by decide +kernel)) rfl rfl rfl rfl rfl (da_cons rfl (q_own (do_lst (da_cons rfl (de_tup (da_cons rfl (q_v (hX.vo (by decide +kernel))) (da_cons rfl (q_v (hX.vo (by decide +kernel))) (da_cons rfl (q_v (hX.vo (by decide +kernel))) (da_nil))))) (da_cons rfl (de_tup (da_cons rfl (q_v (hX.vo (by decide +kernel))) (da_cons rfl (q_v (hX.vo (by decide +kernel))) (da_cons rfl (q_v (hX.vo (by decide +kernel))) (da_nil))))) (da_nil))))) (da_nil))) rfl) (dss_nil)) (fun _ => rfl)) (dss_cons (ds_ret (q_v (hX.vo (by decide +kernel)))) (dss_nil)))
def t_unread : List (Str × Fd) := [(("Town" : Str), F_m_Town_unread), (("MadeTown" : Str), F_m_Town_unread)]
theorem tp_unread (wo : WOk W) (wf : Facts W) : ∀ p ∈ t_unread, PropG W 1 p.1 ("unread" : Str) p.2 := List.forall_mem_cons.2 ⟨(PropG.mono (j := 1) (k := 1) (c := ("Town" : Str)) ⟨wf.cls_Town, let ⟨q, g, h1, D⟩ := wf.pr_Town_unread; let ⟨fd, a, b⟩ := s_m_Town_unread wo wf g D; ⟨q, g, fd, _, h1, a, b⟩⟩ (by decide)), List.forall_mem_cons.2 ⟨(PropG.mono (j := 1) (k := 1) (c := ("MadeTown" : Str)) ⟨wf.cls_MadeTown, let ⟨q, g, h1, D⟩ := wf.pr_MadeTown_unread; let ⟨fd, a, b⟩ := s_m_Town_unread wo wf g D; ⟨q, g, fd, _, h1, a, b⟩⟩ (by decide)), fun _ h => nomatch h⟩⟩
def g_f_barred : List Sl → RS := fun ρ => ((stPar [4, 5] (mxC false (evCall F_f_arrows (asD (evV 0) (asD (evLit .non) (asNil)))) (mxC false (evFld cls_own_places ("own_places" : Str) (evV 0)) (mxNil)))) ρ).bind (fun ρ => ((stSet 1 (evCall F_f_roads_from (asD (evV 4) (asD (evIxV 5 (evLit (.int 0))) (asNil))))) ρ).bind (fun ρ => ((stIf (evB (ev2 ltO (evLenV 1) (evLenV 5))) (fun ρ => ((stRet (evCall F_f_in_sequence (asD (evV 0) (asD (evV 1) (asNil))))) ρ).bind .nx) (.nx)) ρ).bind (fun ρ => ((stSet 2 (evCall F_f_roads_from (asD (frzE (evLc [3, 7, 8] (srcD (evV 4)) (tgT 3 (tgCons (tgN 3) (tgCons (tgN 7) (tgCons (tgN 8) (tgNil))))) (evYes) (evTup (evCons (evV 3) (evCons (evV 8) (evCons (evV 7) (evNil))))))) (asD (evIxV 5 (evLit (.int 0))) (asNil))))) ρ).bind (fun ρ => ((stIf (evB (ev2 ltO (evLenV 2) (evLenV 5))) (fun ρ => ((stRet (evL tupO (evCons (frzE (evLc [9] (srcD (evV 5)) (tgN 9) (evB (ev2 ninO2 (evV 9) (evV 2))) (evV 9))) evNil))) ρ).bind .nx) (.nx)) ρ).bind (fun ρ => ((stFor (srcD (evProp t_unread (evV 0))) (tgN 3) (fun ρ => ((stSet 6 (evCall F_f_roads_from (asD (frzE (evLc [10] (srcD (evCall F_f_both_ways (asD (evV 0) (asNil)))) (tgN 10) (evB (ev2 neO (evIxV 10 (evLit (.int 0))) (evV 3))) (evV 10))) (asD (evIxV 5 (evLit (.int 0))) (asNil))))) ρ).bind (fun ρ => ((stIf (evB (ev2 ltO (evLenV 6) (evLenV 5))) (fun ρ => ((stRet (evCall F_f_in_sequence (asD (evV 0) (asD (evV 6) (asNil))))) ρ).bind .nx) (.nx)) ρ).bind .nx))) ρ).bind (fun ρ => ((stRet (evLit .non)) ρ).bind .nx))))))
def F_f_barred : Fd := ⟨[.sh], false, semOf 11 [.sh] false g_f_barred⟩
@[simp] theorem F_f_barred_md : F_f_barred.md = [.sh] := rfl
@[simp] theorem F_f_barred_own : F_f_barred.own = false := rfl
theorem F_f_barred_sem : F_f_barred.sem = semOf 11 [.sh] false g_f_barred := rfl
theorem k_f_barred (wo : WOk W) (wf : Facts W) : Cal W 5 ("barred" : Str) F_f_barred := cal_of (k := 4) (N := [("town" : Str), ("ahead" : Str), ("back" : Str), ("street" : Str), ("some" : Str), ("places" : Str), ("rest" : Str), ("one" : Str), ("other" : Str), ("place" : Str), ("row" : Str)]) (ps := [("town" : Str)]) wo wf.fn_f_barred (by decide +kernel) rfl (fun _ _ _ _ _ _ us hl => match us, hl with | [_], _ => rfl) rfl fun X E hS B hB => have hX := hS.toXIs; dss_cons (q_par hX (by decide +kernel) (by decide +kernel) (fun _ => rfl) rfl (dmx_sh rfl (de_call wo hX hB (k_f_arrows wo wf) (by decide) rfl (hX.go (by decide +kernel)).l rfl rfl rfl (das_d rfl (q_v (hX.vo (by decide +kernel))) (das_d rfl (q_non) (das_nil)))) (dmx_sh rfl (de_fld hX hB wf.fld_own_places (q_v (hX.vo (by decide +kernel))) rfl) (dmx_nil)))) (dss_cons (ds_set hX.nN (hX.nm (by decide +kernel)) (hX.loc (by decide +kernel)) (.inl (hS.fn _)) (de_call wo hX hB (k_f_roads_from wo wf) (by decide) rfl (hX.go (by decide +kernel)).l rfl rfl rfl (das_d rfl (q_v (hX.vo (by decide +kernel))) (das_d rfl (q_ixv hX hB (hX.vo (by decide +kernel)) rfl (q_int)) (das_nil)))) rfl) (dss_cons (ds_if (q_tlt hX hB (q_lenv hX hB (wf.bn ("len" : Str) (by decide +kernel)) (hX.go (by decide +kernel)) (hX.vo (by decide +kernel))) (q_lenv hX hB (wf.bn ("len" : Str) (by decide +kernel)) (hX.go (by decide +kernel)) (hX.vo (by decide +kernel)))) (dss_cons (ds_ret (de_call wo hX hB (k_f_in_sequence wo wf) (by decide) rfl (hX.go (by decide +kernel)).l rfl rfl rfl (das_d rfl (q_v (hX.vo (by decide +kernel))) (das_d rfl (q_v (hX.vo (by decide +kernel))) (das_nil))))) (dss_nil)) (dss_nil)) (dss_cons (ds_set hX.nN (hX.nm (by decide +kernel)) (hX.loc (by decide +kernel)) (.inl (hS.fn _)) (de_call wo hX hB (k_f_roads_from wo wf) (by decide) rfl (hX.go (by decide +kernel)).l rfl rfl rfl (das_d rfl (q_own (q_lc (own := [(("street" : Str), 3), (("one" : Str), 7), (("other" : Str), 8)]) wo hX hB (di_any (hX.kk hB) (q_v (hX.vo (by decide +kernel)))) (by decide +kernel) (by decide +kernel) (fun B1 hB1 Y1 hS1 => have hX1 := hS1.toXIs; dg_t (hX1.kk hB1) hX1.calm (dgs_cons (dg_n hX1.nN (hX1.nm (by decide +kernel)) (hX1.loc (by decide +kernel)) (hS1.bf _ (by decide +kernel))) (dgs_cons (dg_n hX1.nN (hX1.nm (by decide +kernel)) (hX1.loc (by decide +kernel)) (hS1.bf _ (by decide +kernel))) (dgs_cons (dg_n hX1.nN (hX1.nm (by decide +kernel)) (hX1.loc (by decide +kernel)) (hS1.bf _ (by decide +kernel))) (dgs_nil) rfl) rfl) rfl) rfl rfl) (fun B1 hB1 Y1 hS1 => have hX1 := hS1.toXIs; dts_nil) (fun B1 hB1 Y1 hS1 => have hX1 := hS1.toXIs; de_tup (da_cons rfl (q_v (hX1.vo (by decide +kernel))) (da_cons rfl (q_v (hX1.vo (by decide +kernel))) (da_cons rfl (q_v (hX1.vo (by decide +kernel))) (da_nil))))) (fun _ => rfl))) (das_d rfl (q_ixv hX hB (hX.vo (by decide +kernel)) rfl (q_int)) (das_nil)))) rfl) (dss_cons (ds_if (q_tlt hX hB (q_lenv hX hB (wf.bn ("len" : Str) (by decide +kernel)) (hX.go (by decide +kernel)) (hX.vo (by decide +kernel))) (q_lenv hX hB (wf.bn ("len" : Str) (by decide +kernel)) (hX.go (by decide +kernel)) (hX.vo (by decide +kernel)))) (dss_cons (ds_ret (q_tuple hX hB (wf.bn ("tuple" : Str) (by decide +kernel)) (hX.go (by decide +kernel)) rfl (q_own (q_lc (own := [(("place" : Str), 9)]) wo hX hB (di_any (hX.kk hB) (q_v (hX.vo (by decide +kernel)))) (by decide +kernel) (by decide +kernel) (fun B1 hB1 Y1 hS1 => have hX1 := hS1.toXIs; dg_n hX1.nN (hX1.nm (by decide +kernel)) (hX1.loc (by decide +kernel)) (hS1.bf _ (by decide +kernel))) (fun B1 hB1 Y1 hS1 => have hX1 := hS1.toXIs; dts_one (q_tnin hX1 hB1 rfl (q_v (hX1.vo (by decide +kernel))) (q_v (hX1.vo (by decide +kernel))))) (fun B1 hB1 Y1 hS1 => have hX1 := hS1.toXIs; q_v (hX1.vo (by decide +kernel))) (fun _ => rfl))))) (dss_nil)) (dss_nil)) (dss_cons (ds_for hS.owns hX.calm (di_any (hX.kk hB) (de_prop wo hX hB (tp_unread wo wf) (by decide) (q_v (hX.vo (by decide +kernel))) rfl)) (dg_n hX.nN (hX.nm (by decide +kernel)) (hX.loc (by decide +kernel)) (.inl (hS.fn _))) (dss_cons (ds_set hX.nN (hX.nm (by decide +kernel)) (hX.loc (by decide +kernel)) (.inl (hS.fn _)) (de_call wo hX hB (k_f_roads_from wo wf) (by decide) rfl (hX.go (by decide +kernel)).l rfl rfl rfl (das_d rfl (q_own (q_lc (own := [(("row" : Str), 10)]) wo hX hB (di_any (hX.kk hB) (de_call wo hX hB (k_f_both_ways wo wf) (by decide) rfl (hX.go (by decide +kernel)).l rfl rfl rfl (das_d rfl (q_v (hX.vo (by decide +kernel))) (das_nil)))) (by decide +kernel) (by decide +kernel) (fun B1 hB1 Y1 hS1 => have hX1 := hS1.toXIs; dg_n hX1.nN (hX1.nm (by decide +kernel)) (hX1.loc (by decide +kernel)) (hS1.bf _ (by decide +kernel))) (fun B1 hB1 Y1 hS1 => have hX1 := hS1.toXIs; dts_one (q_tne hX1 hB1 (q_ixv hX1 hB1 (hX1.vo (by decide +kernel)) rfl (q_int)) (q_v (hX1.vo (by decide +kernel))))) (fun B1 hB1 Y1 hS1 => have hX1 := hS1.toXIs; q_v (hX1.vo (by decide +kernel))) (fun _ => rfl))) (das_d rfl (q_ixv hX hB (hX.vo (by decide +kernel)) rfl (q_int)) (das_nil)))) rfl) (dss_cons (ds_if (q_tlt hX hB (q_lenv hX hB (wf.bn ("len" : Str) (by decide +kernel)) (hX.go (by decide +kernel)) (hX.vo (by decide +kernel))) (q_lenv hX hB (wf.bn ("len" : Str) (by decide +kernel)) (hX.go (by decide +kernel)) (hX.vo (by decide +kernel)))) (dss_cons (ds_ret (de_call wo hX hB (k_f_in_sequence wo wf) (by decide) rfl (hX.go (by decide +kernel)).l rfl rfl rfl (das_d rfl (q_v (hX.vo (by decide +kernel))) (das_d rfl (q_v (hX.vo (by decide +kernel))) (das_nil))))) (dss_nil)) (dss_nil)) (dss_nil))) (fun _ => rfl)) (dss_cons (ds_ret (q_non)) (dss_nil)))))))
def g_f_has_map : List Sl → RS := fun ρ => ((stRet (ev2 isNO (evCall F_f_barred (asD (evV 0) (asNil))) (evLit .non))) ρ).bind .nx
def F_f_has_map : Fd := ⟨[.sh], false, semOf 1 [.sh] false g_f_has_map⟩
@[simp] theorem F_f_has_map_md : F_f_has_map.md = [.sh] := rfl
@[simp] theorem F_f_has_map_own : F_f_has_map.own = false := rfl
theorem F_f_has_map_sem : F_f_has_map.sem = semOf 1 [.sh] false g_f_has_map := rfl
theorem k_f_has_map (wo : WOk W) (wf : Facts W) : Cal W 7 ("has_map" : Str) F_f_has_map := cal_of (k := 6) (N := [("town" : Str)]) (ps := [("town" : Str)]) wo wf.fn_f_has_map (by decide +kernel) rfl (fun _ _ _ _ _ _ us hl => match us, hl with | [_], _ => rfl) rfl fun X E hS B hB => have hX := hS.toXIs; dss_cons (ds_ret (q_isN hX hB (de_call wo hX hB (k_f_barred wo wf) (by decide) rfl (hX.go (by decide +kernel)).l rfl rfl rfl (das_d rfl (q_v (hX.vo (by decide +kernel))) (das_nil))) (q_non))) (dss_nil)
def g_f_text_of : List Sl → RS := fun ρ => ((stOwn 2 (evLc [3, 4, 5, 6] (srcI itmO (evV 1)) (tgT 2 (tgCons (tgN 3) (tgCons (tgT 3 (tgCons (tgN 4) (tgCons (tgN 5) (tgCons (tgN 6) (tgNil))))) (tgNil)))) (evYes) (evJoin (evLit c_BLANK) (frzE (evLst (evCons (evV 4) (evCons (evV 3) (evCons (evV 5) (evCons (evV 6) (evNil)))))))))) ρ).bind (fun ρ => ((stRet (evJoin (evLit c_FEED) (frzE (evLst (evCons (evJoin (evLit c_BLANK) (frzE (evLst (evCons (evLit c_PLACES) (evStar (evV 0) (evNil)))))) (evStar (evV 2) (evNil))))))) ρ).bind .nx)
def F_f_text_of : Fd := ⟨[.sh, .sh], false, semOf 7 [.sh, .sh] false g_f_text_of⟩
@[simp] theorem F_f_text_of_md : F_f_text_of.md = [.sh, .sh] := rfl
@[simp] theorem F_f_text_of_own : F_f_text_of.own = false := rfl
theorem F_f_text_of_sem : F_f_text_of.sem = semOf 7 [.sh, .sh] false g_f_text_of := rfl
theorem k_f_text_of (wo : WOk W) (wf : Facts W) : Cal W 1 ("text_of" : Str) F_f_text_of := cal_of (k := 0) (N := [("places" : Str), ("rows" : Str), ("lines" : Str), ("name" : Str), ("kind" : Str), ("one" : Str), ("other" : Str)]) (ps := [("places" : Str), ("rows" : Str)]) wo wf.fn_f_text_of (by decide +kernel) rfl (fun _ _ _ _ _ _ us hl => match us, hl with | [_, _], _ => rfl) rfl fun X E hS B hB => have hX := hS.toXIs; dss_cons (q_ownLc (by decide +kernel) (by decide +kernel) rfl (by decide +kernel) (by decide +kernel) (own := [(("name" : Str), 3), (("kind" : Str), 4), (("one" : Str), 5), (("other" : Str), 6)]) wo hX hB (di_items (hX.kk hB) (q_v (hX.vo (by decide +kernel))) rfl rfl) (by decide +kernel) (by decide +kernel) (fun B1 hB1 Y1 hS1 => have hX1 := hS1.toXIs; dg_t (hX1.kk hB1) hX1.calm (dgs_cons (dg_n hX1.nN (hX1.nm (by decide +kernel)) (hX1.loc (by decide +kernel)) (hS1.bf _ (by decide +kernel))) (dgs_cons (dg_t (hX1.kk hB1) hX1.calm (dgs_cons (dg_n hX1.nN (hX1.nm (by decide +kernel)) (hX1.loc (by decide +kernel)) (hS1.bf _ (by decide +kernel))) (dgs_cons (dg_n hX1.nN (hX1.nm (by decide +kernel)) (hX1.loc (by decide +kernel)) (hS1.bf _ (by decide +kernel))) (dgs_cons (dg_n hX1.nN (hX1.nm (by decide +kernel)) (hX1.loc (by decide +kernel)) (hS1.bf _ (by decide +kernel))) (dgs_nil) rfl) rfl) rfl) rfl rfl) (dgs_nil) rfl) rfl) rfl rfl) (fun B1 hB1 Y1 hS1 => have hX1 := hS1.toXIs; dts_nil) (fun B1 hB1 Y1 hS1 => have hX1 := hS1.toXIs; q_join hX1 hB1 rfl rfl rfl rfl (q_glob wo hX1 hB1 wf.c_BLANK (hX1.go (by decide +kernel))) (q_own (do_lst (da_cons rfl (q_v (hX1.vo (by decide +kernel))) (da_cons rfl (q_v (hX1.vo (by decide +kernel))) (da_cons rfl (q_v (hX1.vo (by decide +kernel))) (da_cons rfl (q_v (hX1.vo (by decide +kernel))) (da_nil)))))))) (fun _ => rfl)) (dss_cons (ds_ret (q_join hX hB rfl rfl rfl rfl (q_glob wo hX hB wf.c_FEED (hX.go (by decide +kernel))) (q_own (do_lst (da_cons rfl (q_join hX hB rfl rfl rfl rfl (q_glob wo hX hB wf.c_BLANK (hX.go (by decide +kernel))) (q_own (do_lst (da_cons rfl (q_glob wo hX hB wf.c_PLACES (hX.go (by decide +kernel))) (q_star hX hB (q_v (hX.vo (by decide +kernel))) (da_nil)))))) (q_star hX hB (q_v (hX.vo (by decide +kernel))) (da_nil))))))) (dss_nil))
def g_m_MadeTown_init : List Sl → RS := fun ρ => ((stFld cls_own_text ("own_text" : Str) 0 (evCall F_f_text_of (asD (evV 1) (asD (evV 2) (asNil))))) ρ).bind (fun ρ => ((stFld cls_own_places ("own_places" : Str) 0 (evL tupO (evCons (evV 1) evNil))) ρ).bind (fun ρ => ((stFld cls_own_rows ("own_rows" : Str) 0 (evV 2)) ρ).bind .nx))
def F_m_MadeTown_init : Fd := ⟨[.mt, .sh, .sh], false, semOf 3 [.mt, .sh, .sh] false g_m_MadeTown_init⟩
@[simp] theorem F_m_MadeTown_init_md : F_m_MadeTown_init.md = [.mt, .sh, .sh] := rfl
@[simp] theorem F_m_MadeTown_init_own : F_m_MadeTown_init.own = false := rfl
theorem F_m_MadeTown_init_sem : F_m_MadeTown_init.sem = semOf 3 [.mt, .sh, .sh] false g_m_MadeTown_init := rfl
theorem s_m_MadeTown_init (wo : WOk W) (wf : Facts W) (f : Addr) (D : FnAt W ("__init__" : Str) ("MadeTown.__init__" : Str) (ms 35 0) f) : ∃ fd, FnG W 3 f fd [("self" : Str), ("places" : Str), ("rows" : Str)] (spF W.K W.gs F_m_MadeTown_init) ∧ Binds W.K fd [("self" : Str), ("places" : Str), ("rows" : Str)] [] := fn_sem (k := 2) (N := [("self" : Str), ("places" : Str), ("rows" : Str)]) (ps := [("self" : Str), ("places" : Str), ("rows" : Str)]) wo D (by decide +kernel) rfl (fun _ _ _ _ _ _ us hl => match us, hl with | [_, _, _], _ => rfl) rfl fun X E hS B hB => have hX := hS.toXIs; dss_cons (q_stfld hX hB wf.fld_own_text (hX.vo (by decide +kernel)) (de_call wo hX hB (k_f_text_of wo wf) (by decide) rfl (hX.go (by decide +kernel)).l rfl rfl rfl (das_d rfl (q_v (hX.vo (by decide +kernel))) (das_d rfl (q_v (hX.vo (by decide +kernel))) (das_nil)))) rfl) (dss_cons (q_stfld hX hB wf.fld_own_places (hX.vo (by decide +kernel)) (q_tuple hX hB (wf.bn ("tuple" : Str) (by decide +kernel)) (hX.go (by decide +kernel)) rfl (q_v (hX.vo (by decide +kernel)))) rfl) (dss_cons (q_stfld hX hB wf.fld_own_rows (hX.vo (by decide +kernel)) (q_v (hX.vo (by decide +kernel))) rfl) (dss_nil)))
theorem k_MadeTown (wo : WOk W) (wf : Facts W) : MakG W 3 ("MadeTown" : Str) F_m_MadeTown_init := ⟨let ⟨_, _, h, _⟩ := wf.mk_MadeTown; h, let ⟨g, h1, _, D⟩ := wf.mk_MadeTown; let ⟨fd, a, b⟩ := s_m_MadeTown_init wo wf g D; ⟨g, fd, _, h1, a, b⟩⟩
def g_f_town_of : List Sl → RS := fun ρ => ((stRet (evMake ("MadeTown" : Str) F_m_MadeTown_init (asD (evV 0) (asD (evV 1) (asNil))))) ρ).bind .nx
def F_f_town_of : Fd := ⟨[.sh, .sh], false, semOf 2 [.sh, .sh] false g_f_town_of⟩
@[simp] theorem F_f_town_of_md : F_f_town_of.md = [.sh, .sh] := rfl
@[simp] theorem F_f_town_of_own : F_f_town_of.own = false := rfl
theorem F_f_town_of_sem : F_f_town_of.sem = semOf 2 [.sh, .sh] false g_f_town_of := rfl
theorem k_f_town_of (wo : WOk W) (wf : Facts W) : Cal W 5 ("town_of" : Str) F_f_town_of := cal_of (k := 4) (N := [("places" : Str), ("rows" : Str)]) (ps := [("places" : Str), ("rows" : Str)]) wo wf.fn_f_town_of (by decide +kernel) rfl (fun _ _ _ _ _ _ us hl => match us, hl with | [_, _], _ => rfl) rfl fun X E hS B hB => have hX := hS.toXIs; dss_cons (ds_ret (de_make wo hX hB (k_MadeTown wo wf) (by decide) (hX.go (by decide +kernel)).l rfl rfl rfl (das_d rfl (q_v (hX.vo (by decide +kernel))) (das_d rfl (q_v (hX.vo (by decide +kernel))) (das_nil))))) (dss_nil)
def g_f_known_turned : List Sl → RS := fun ρ => ((stAsg (tgT 3 (tgCons (tgN 2) (tgCons (tgN 3) (tgCons (tgN 4) (tgNil))))) (ev2 ixO (evFld cls_own_rows ("own_rows" : Str) (evV 0)) (evV 1))) ρ).bind (fun ρ => ((stRet (evCall F_f_town_of (asD (evFld cls_own_places ("own_places" : Str) (evV 0)) (asD (frzE (evDst (evFld cls_own_rows ("own_rows" : Str) (evV 0)) (evV 1) (evTup (evCons (evV 2) (evCons (evV 4) (evCons (evV 3) (evNil))))))) (asNil))))) ρ).bind .nx)
def F_f_known_turned : Fd := ⟨[.sh, .sh], false, semOf 5 [.sh, .sh] false g_f_known_turned⟩
@[simp] theorem F_f_known_turned_md : F_f_known_turned.md = [.sh, .sh] := rfl
@[simp] theorem F_f_known_turned_own : F_f_known_turned.own = false := rfl
theorem F_f_known_turned_sem : F_f_known_turned.sem = semOf 5 [.sh, .sh] false g_f_known_turned := rfl
theorem k_f_known_turned (wo : WOk W) (wf : Facts W) : Cal W 7 ("known_turned" : Str) F_f_known_turned := cal_of (k := 6) (N := [("town" : Str), ("street" : Str), ("kind" : Str), ("one" : Str), ("other" : Str)]) (ps := [("town" : Str), ("street" : Str)]) wo wf.fn_f_known_turned (by decide +kernel) rfl (fun _ _ _ _ _ _ us hl => match us, hl with | [_, _], _ => rfl) rfl fun X E hS B hB => have hX := hS.toXIs; dss_cons (q_asg hX (q_ix hX hB rfl (de_fld hX hB wf.fld_own_rows (q_v (hX.vo (by decide +kernel))) rfl) (q_v (hX.vo (by decide +kernel)))) (dg_t (hX.kk hB) hX.calm (dgs_cons (dg_n hX.nN (hX.nm (by decide +kernel)) (hX.loc (by decide +kernel)) (.inl (hS.fn _))) (dgs_cons (dg_n hX.nN (hX.nm (by decide +kernel)) (hX.loc (by decide +kernel)) (.inl (hS.fn _))) (dgs_cons (dg_n hX.nN (hX.nm (by decide +kernel)) (hX.loc (by decide +kernel)) (.inl (hS.fn _))) (dgs_nil) rfl) rfl) rfl) rfl rfl) rfl (fun _ => rfl) rfl) (dss_cons (ds_ret (de_call wo hX hB (k_f_town_of wo wf) (by decide) rfl (hX.go (by decide +kernel)).l rfl rfl rfl (das_d rfl (de_fld hX hB wf.fld_own_places (q_v (hX.vo (by decide +kernel))) rfl) (das_d rfl (q_own (q_dst wo hX hB (fun _ hB' hX' => de_fld hX' hB' wf.fld_own_rows (q_v (hX'.vo (by decide +kernel))) rfl) (fun _ hB' hX' => q_v (hX'.vo (by decide +kernel))) (fun _ hB' hX' => de_tup (da_cons rfl (q_v (hX'.vo (by decide +kernel))) (da_cons rfl (q_v (hX'.vo (by decide +kernel))) (da_cons rfl (q_v (hX'.vo (by decide +kernel))) (da_nil))))))) (das_nil))))) (dss_nil))
def g_f_wrong : List Sl → RS := fun ρ => ((stRet (evL tupO (evCons (frzE (evLc [1] (srcD (evCall F_f_known_streets (asD (evV 0) (asNil)))) (tgN 1) (evT (evCall F_f_has_map (asD (evCall F_f_known_turned (asD (evV 0) (asD (evV 1) (asNil)))) (asNil)))) (evV 1))) evNil))) ρ).bind .nx
def F_f_wrong : Fd := ⟨[.sh], false, semOf 2 [.sh] false g_f_wrong⟩
@[simp] theorem F_f_wrong_md : F_f_wrong.md = [.sh] := rfl
@[simp] theorem F_f_wrong_own : F_f_wrong.own = false := rfl
theorem F_f_wrong_sem : F_f_wrong.sem = semOf 2 [.sh] false g_f_wrong := rfl
theorem k_f_wrong (wo : WOk W) (wf : Facts W) : Cal W 9 ("wrong" : Str) F_f_wrong := cal_of (k := 8) (N := [("town" : Str), ("street" : Str)]) (ps := [("town" : Str)]) wo wf.fn_f_wrong (by decide +kernel) rfl (fun _ _ _ _ _ _ us hl => match us, hl with | [_], _ => rfl) rfl fun X E hS B hB => have hX := hS.toXIs; dss_cons (ds_ret (q_tuple hX hB (wf.bn ("tuple" : Str) (by decide +kernel)) (hX.go (by decide +kernel)) rfl (q_own (q_lc (own := [(("street" : Str), 1)]) wo hX hB (di_any (hX.kk hB) (de_call wo hX hB (k_f_known_streets wo wf) (by decide) rfl (hX.go (by decide +kernel)).l rfl rfl rfl (das_d rfl (q_v (hX.vo (by decide +kernel))) (das_nil)))) (by decide +kernel) (by decide +kernel) (fun B1 hB1 Y1 hS1 => have hX1 := hS1.toXIs; dg_n hX1.nN (hX1.nm (by decide +kernel)) (hX1.loc (by decide +kernel)) (hS1.bf _ (by decide +kernel))) (fun B1 hB1 Y1 hS1 => have hX1 := hS1.toXIs; dts_one (dt_truth (hX1.kk hB1) (de_call wo hX1 hB1 (k_f_has_map wo wf) (by decide) rfl (hX1.go (by decide +kernel)).l rfl rfl rfl (das_d rfl (de_call wo hX1 hB1 (k_f_known_turned wo wf) (by decide) rfl (hX1.go (by decide +kernel)).l rfl rfl rfl (das_d rfl (q_v (hX1.vo (by decide +kernel))) (das_d rfl (q_v (hX1.vo (by decide +kernel))) (das_nil)))) (das_nil))) (fun _ => rfl))) (fun B1 hB1 Y1 hS1 => have hX1 := hS1.toXIs; q_v (hX1.vo (by decide +kernel))) (fun _ => rfl))))) (dss_nil)
def g_f_law_turned_lore : List Sl → RS := fun ρ => ((stOwn 2 (evLc [3] (srcD (evIxV 0 (evLit (.str ("streets" : Str))))) (tgN 3) (evYes) (evIf (evB (ev2 eqO (evIxV 3 (evLit (.int 1))) (evV 1))) (ev2 add2O (evSl3 (evV 3) none (some (evLit (.int 2)))) (evTup (evCons (evIxV 3 (evLit (.int 3))) (evCons (evIxV 3 (evLit (.int 2))) (evNil))))) (evV 3)))) ρ).bind (fun ρ => ((stRet (evCall F_f_law_with (asD (evV 0) (asD (evV 2) (asNil))))) ρ).bind .nx)
def F_f_law_turned_lore : Fd := ⟨[.sh, .sh], false, semOf 4 [.sh, .sh] false g_f_law_turned_lore⟩
@[simp] theorem F_f_law_turned_lore_md : F_f_law_turned_lore.md = [.sh, .sh] := rfl
@[simp] theorem F_f_law_turned_lore_own : F_f_law_turned_lore.own = false := rfl
theorem F_f_law_turned_lore_sem : F_f_law_turned_lore.sem = semOf 4 [.sh, .sh] false g_f_law_turned_lore := rfl
theorem k_f_law_turned_lore (wo : WOk W) (wf : Facts W) : Cal W 3 ("_law_turned_lore" : Str) F_f_law_turned_lore := cal_of (k := 2) (N := [("_law_lore" : Str), ("_law_street" : Str), ("_law_rows" : Str), ("_law_row" : Str)]) (ps := [("_law_lore" : Str), ("_law_street" : Str)]) wo wf.fn_f_law_turned_lore (by decide +kernel) rfl (fun _ _ _ _ _ _ us hl => match us, hl with | [_, _], _ => rfl) rfl fun X E hS B hB => have hX := hS.toXIs; dss_cons (q_ownLc (by decide +kernel) (by decide +kernel) rfl (by decide +kernel) (by decide +kernel) (own := [(("_law_row" : Str), 3)]) wo hX hB (di_any (hX.kk hB) (q_ixv hX hB (hX.vo (by decide +kernel)) rfl (q_str))) (by decide +kernel) (by decide +kernel) (fun B1 hB1 Y1 hS1 => have hX1 := hS1.toXIs; dg_n hX1.nN (hX1.nm (by decide +kernel)) (hX1.loc (by decide +kernel)) (hS1.bf _ (by decide +kernel))) (fun B1 hB1 Y1 hS1 => have hX1 := hS1.toXIs; dts_nil) (fun B1 hB1 Y1 hS1 => have hX1 := hS1.toXIs; de_if (q_teq hX1 hB1 (q_ixv hX1 hB1 (hX1.vo (by decide +kernel)) rfl (q_int)) (q_v (hX1.vo (by decide +kernel)))) (q_add hX1 hB1 (q_sl hX1 hB1 (q_v (hX1.vo (by decide +kernel))) .none (.some (q_int))) (de_tup (da_cons rfl (q_ixv hX1 hB1 (hX1.vo (by decide +kernel)) rfl (q_int)) (da_cons rfl (q_ixv hX1 hB1 (hX1.vo (by decide +kernel)) rfl (q_int)) (da_nil))))) (q_v (hX1.vo (by decide +kernel)))) (fun _ => rfl)) (dss_cons (ds_ret (de_call wo hX hB (k_f_law_with wo wf) (by decide) rfl (hX.go (by decide +kernel)).l rfl rfl rfl (das_d rfl (q_v (hX.vo (by decide +kernel))) (das_d rfl (q_v (hX.vo (by decide +kernel))) (das_nil))))) (dss_nil))
def g_f_are_unlike : List Sl → RS := fun ρ => ((stRet (ev2 eqO (evLenSet (evV 0)) (evLenV 0))) ρ).bind .nx
def F_f_are_unlike : Fd := ⟨[.sh], false, semOf 1 [.sh] false g_f_are_unlike⟩
@[simp] theorem F_f_are_unlike_md : F_f_are_unlike.md = [.sh] := rfl
@[simp] theorem F_f_are_unlike_own : F_f_are_unlike.own = false := rfl
theorem F_f_are_unlike_sem : F_f_are_unlike.sem = semOf 1 [.sh] false g_f_are_unlike := rfl
theorem k_f_are_unlike (wo : WOk W) (wf : Facts W) : Cal W 1 ("are_unlike" : Str) F_f_are_unlike := cal_of (k := 0) (N := [("words" : Str)]) (ps := [("words" : Str)]) wo wf.fn_f_are_unlike (by decide +kernel) rfl (fun _ _ _ _ _ _ us hl => match us, hl with | [_], _ => rfl) rfl fun X E hS B hB => have hX := hS.toXIs; dss_cons (ds_ret (q_eq hX hB (q_lenset hX hB (wf.bn ("len" : Str) (by decide +kernel)) (hX.go (by decide +kernel)) (wf.bn ("set" : Str) (by decide +kernel)) (hX.go (by decide +kernel)) rfl (q_v (hX.vo (by decide +kernel)))) (q_lenv hX hB (wf.bn ("len" : Str) (by decide +kernel)) (hX.go (by decide +kernel)) (hX.vo (by decide +kernel))))) (dss_nil)
def g_f_is_name : List Sl → RS := fun ρ => ((stRet (evAndV (evChn leO leO (evLit (.int 1)) (evLenV 0) (evLit c_MOST_LETTERS)) (evL allO (evCons (frzE (evLc [1] (srcD (evV 0)) (tgN 1) (evYes) (ev2 inO2 (evV 1) (evLit c_LETTERS)))) evNil)))) ρ).bind .nx
def F_f_is_name : Fd := ⟨[.sh], false, semOf 2 [.sh] false g_f_is_name⟩
@[simp] theorem F_f_is_name_md : F_f_is_name.md = [.sh] := rfl
@[simp] theorem F_f_is_name_own : F_f_is_name.own = false := rfl
theorem F_f_is_name_sem : F_f_is_name.sem = semOf 2 [.sh] false g_f_is_name := rfl
theorem k_f_is_name (wo : WOk W) (wf : Facts W) : Cal W 1 ("is_name" : Str) F_f_is_name := cal_of (k := 0) (N := [("word" : Str), ("letter" : Str)]) (ps := [("word" : Str)]) wo wf.fn_f_is_name (by decide +kernel) rfl (fun _ _ _ _ _ _ us hl => match us, hl with | [_], _ => rfl) rfl fun X E hS B hB => have hX := hS.toXIs; dss_cons (ds_ret (de_and (q_chn hX hB op_le op_le r_le r_le rfl (q_int) (q_lenv hX hB (wf.bn ("len" : Str) (by decide +kernel)) (hX.go (by decide +kernel)) (hX.vo (by decide +kernel))) (q_glob wo hX hB wf.c_MOST_LETTERS (hX.go (by decide +kernel)))) (pe_one (q_all hX hB (wf.bn ("all" : Str) (by decide +kernel)) (hX.go (by decide +kernel)) rfl (q_own (q_lc (own := [(("letter" : Str), 1)]) wo hX hB (di_any (hX.kk hB) (q_v (hX.vo (by decide +kernel)))) (by decide +kernel) (by decide +kernel) (fun B1 hB1 Y1 hS1 => have hX1 := hS1.toXIs; dg_n hX1.nN (hX1.nm (by decide +kernel)) (hX1.loc (by decide +kernel)) (hS1.bf _ (by decide +kernel))) (fun B1 hB1 Y1 hS1 => have hX1 := hS1.toXIs; dts_nil) (fun B1 hB1 Y1 hS1 => have hX1 := hS1.toXIs; q_in hX1 hB1 rfl (q_v (hX1.vo (by decide +kernel))) (q_glob wo hX1 hB1 wf.c_LETTERS (hX1.go (by decide +kernel)))) (fun _ => rfl))))))) (dss_nil)
def g_f_places_in : List Sl → RS := fun ρ => ((stSet 1 (frzE (evSplit (evV 0) (evLit c_BLANK)))) ρ).bind (fun ρ => ((stSet 2 (evSl3 (evV 1) (some (evLit (.int 1))) none)) ρ).bind (fun ρ => ((stIf (evOr (evB (ev2 neO (evIxV 1 (evLit (.int 0))) (evLit c_PLACES))) (evNot (evB (evChn leO leO (evLit c_LEAST_PLACES) (evLenV 2) (evLit c_MOST_PLACES))))) (fun ρ => ((stRet (evLit .non)) ρ).bind .nx) (.nx)) ρ).bind (fun ρ => ((stRet (evIf (evAnd (evT (evL allO (evCons (frzE (evLc [3] (srcD (evV 2)) (tgN 3) (evYes) (evCall F_f_is_name (asD (evV 3) (asNil))))) evNil))) (evT (evCall F_f_are_unlike (asD (evV 2) (asNil))))) (evL tupO (evCons (evV 2) evNil)) (evLit .non))) ρ).bind .nx)))
def F_f_places_in : Fd := ⟨[.sh], false, semOf 4 [.sh] false g_f_places_in⟩
@[simp] theorem F_f_places_in_md : F_f_places_in.md = [.sh] := rfl
@[simp] theorem F_f_places_in_own : F_f_places_in.own = false := rfl
theorem F_f_places_in_sem : F_f_places_in.sem = semOf 4 [.sh] false g_f_places_in := rfl
theorem k_f_places_in (wo : WOk W) (wf : Facts W) : Cal W 3 ("places_in" : Str) F_f_places_in := cal_of (k := 2) (N := [("line" : Str), ("words" : Str), ("names" : Str), ("name" : Str)]) (ps := [("line" : Str)]) wo wf.fn_f_places_in (by decide +kernel) rfl (fun _ _ _ _ _ _ us hl => match us, hl with | [_], _ => rfl) rfl fun X E hS B hB => have hX := hS.toXIs; dss_cons (ds_set hX.nN (hX.nm (by decide +kernel)) (hX.loc (by decide +kernel)) (.inl (hS.fn _)) (q_own (q_split hX hB rfl rfl rfl rfl (q_v (hX.vo (by decide +kernel))) (q_glob wo hX hB wf.c_BLANK (hX.go (by decide +kernel))))) rfl) (dss_cons (ds_set hX.nN (hX.nm (by decide +kernel)) (hX.loc (by decide +kernel)) (.inl (hS.fn _)) (q_sl hX hB (q_v (hX.vo (by decide +kernel))) (.some (q_int)) .none) rfl) (dss_cons (ds_if ((dw_or (q_tne hX hB (q_ixv hX hB (hX.vo (by decide +kernel)) rfl (q_int)) (q_glob wo hX hB wf.c_PLACES (hX.go (by decide +kernel)))) (pw_or1 (dt_not (q_tchn hX hB op_le op_le r_le r_le rfl (q_glob wo hX hB wf.c_LEAST_PLACES (hX.go (by decide +kernel))) (q_lenv hX hB (wf.bn ("len" : Str) (by decide +kernel)) (hX.go (by decide +kernel)) (hX.vo (by decide +kernel))) (q_glob wo hX hB wf.c_MOST_PLACES (hX.go (by decide +kernel))))))).pt) (dss_cons (ds_ret (q_non)) (dss_nil)) (dss_nil)) (dss_cons (ds_ret (de_if ((dw_and (dt_truth (hX.kk hB) (q_all hX hB (wf.bn ("all" : Str) (by decide +kernel)) (hX.go (by decide +kernel)) rfl (q_own (q_lc (own := [(("name" : Str), 3)]) wo hX hB (di_any (hX.kk hB) (q_v (hX.vo (by decide +kernel)))) (by decide +kernel) (by decide +kernel) (fun B1 hB1 Y1 hS1 => have hX1 := hS1.toXIs; dg_n hX1.nN (hX1.nm (by decide +kernel)) (hX1.loc (by decide +kernel)) (hS1.bf _ (by decide +kernel))) (fun B1 hB1 Y1 hS1 => have hX1 := hS1.toXIs; dts_nil) (fun B1 hB1 Y1 hS1 => have hX1 := hS1.toXIs; de_call wo hX1 hB1 (k_f_is_name wo wf) (by decide) rfl (hX1.go (by decide +kernel)).l rfl rfl rfl (das_d rfl (q_v (hX1.vo (by decide +kernel))) (das_nil))) (fun _ => rfl)))) (fun _ => rfl)) (pw_and1 (dt_truth (hX.kk hB) (de_call wo hX hB (k_f_are_unlike wo wf) (by decide) rfl (hX.go (by decide +kernel)).l rfl rfl rfl (das_d rfl (q_v (hX.vo (by decide +kernel))) (das_nil))) (fun _ => rfl)))).pt) (q_tuple hX hB (wf.bn ("tuple" : Str) (by decide +kernel)) (hX.go (by decide +kernel)) rfl (q_v (hX.vo (by decide +kernel)))) (q_non))) (dss_nil))))
def g_f_street_in : List Sl → RS := fun ρ => ((stSet 3 (frzE (evSplit (evV 0) (evLit c_BLANK)))) ρ).bind (fun ρ => ((stIf (evOr (evB (ev2 neO (evLenV 3) (evLit c_STREET_WORDS))) (evB (ev2 ninO2 (evIxV 3 (evLit (.int 0))) (evLit c_KINDS)))) (fun ρ => ((stRet (evLit .non)) ρ).bind .nx) (.nx)) ρ).bind (fun ρ => ((stAsg (tgT 4 (tgCons (tgN 4) (tgCons (tgN 5) (tgCons (tgN 6) (tgCons (tgN 7) (tgNil)))))) (evV 3)) ρ).bind (fun ρ => ((stIf (evOr (evNot (evT (evCall F_f_is_name (asD (evV 5) (asNil))))) (evOr (evB (evInV inO2 2 (evV 5))) (evOr (evB (ev2 ninO2 (evV 6) (evV 1))) (evOr (evB (ev2 ninO2 (evV 7) (evV 1))) (evB (ev2 eqO (evV 6) (evV 7))))))) (fun ρ => ((stRet (evLit .non)) ρ).bind .nx) (.nx)) ρ).bind (fun ρ => ((stRet (evTup (evCons (evV 5) (evCons (evTup (evCons (evV 4) (evCons (evV 6) (evCons (evV 7) (evNil))))) (evNil))))) ρ).bind .nx))))
def F_f_street_in : Fd := ⟨[.sh, .sh, .br], false, semOf 8 [.sh, .sh, .br] false g_f_street_in⟩
@[simp] theorem F_f_street_in_md : F_f_street_in.md = [.sh, .sh, .br] := rfl
@[simp] theorem F_f_street_in_own : F_f_street_in.own = false := rfl
theorem F_f_street_in_sem : F_f_street_in.sem = semOf 8 [.sh, .sh, .br] false g_f_street_in := rfl
theorem k_f_street_in (wo : WOk W) (wf : Facts W) : Cal W 3 ("street_in" : Str) F_f_street_in := cal_of (k := 2) (N := [("line" : Str), ("places" : Str), ("rows" : Str), ("words" : Str), ("kind" : Str), ("name" : Str), ("one" : Str), ("other" : Str)]) (ps := [("line" : Str), ("places" : Str), ("rows" : Str)]) wo wf.fn_f_street_in (by decide +kernel) rfl (fun _ _ _ _ _ _ us hl => match us, hl with | [_, _, _], _ => rfl) rfl fun X E hS B hB => have hX := hS.toXIs; dss_cons (ds_set hX.nN (hX.nm (by decide +kernel)) (hX.loc (by decide +kernel)) (.inl (hS.fn _)) (q_own (q_split hX hB rfl rfl rfl rfl (q_v (hX.vo (by decide +kernel))) (q_glob wo hX hB wf.c_BLANK (hX.go (by decide +kernel))))) rfl) (dss_cons (ds_if ((dw_or (q_tne hX hB (q_lenv hX hB (wf.bn ("len" : Str) (by decide +kernel)) (hX.go (by decide +kernel)) (hX.vo (by decide +kernel))) (q_glob wo hX hB wf.c_STREET_WORDS (hX.go (by decide +kernel)))) (pw_or1 (q_tnin hX hB rfl (q_ixv hX hB (hX.vo (by decide +kernel)) rfl (q_int)) (q_glob wo hX hB wf.c_KINDS (hX.go (by decide +kernel)))))).pt) (dss_cons (ds_ret (q_non)) (dss_nil)) (dss_nil)) (dss_cons (q_asg hX (q_v (hX.vo (by decide +kernel))) (dg_t (hX.kk hB) hX.calm (dgs_cons (dg_n hX.nN (hX.nm (by decide +kernel)) (hX.loc (by decide +kernel)) (.inl (hS.fn _))) (dgs_cons (dg_n hX.nN (hX.nm (by decide +kernel)) (hX.loc (by decide +kernel)) (.inl (hS.fn _))) (dgs_cons (dg_n hX.nN (hX.nm (by decide +kernel)) (hX.loc (by decide +kernel)) (.inl (hS.fn _))) (dgs_cons (dg_n hX.nN (hX.nm (by decide +kernel)) (hX.loc (by decide +kernel)) (.inl (hS.fn _))) (dgs_nil) rfl) rfl) rfl) rfl) rfl rfl) rfl (fun _ => rfl) rfl) (dss_cons (ds_if ((dw_or (dt_not (dt_truth (hX.kk hB) (de_call wo hX hB (k_f_is_name wo wf) (by decide) rfl (hX.go (by decide +kernel)).l rfl rfl rfl (das_d rfl (q_v (hX.vo (by decide +kernel))) (das_nil))) (fun _ => rfl))) (dw_or (q_tinv hX hB (hX.vo (by decide +kernel)) (q_v (hX.vo (by decide +kernel)))) (dw_or (q_tnin hX hB rfl (q_v (hX.vo (by decide +kernel))) (q_v (hX.vo (by decide +kernel)))) (dw_or (q_tnin hX hB rfl (q_v (hX.vo (by decide +kernel))) (q_v (hX.vo (by decide +kernel)))) (pw_or1 (q_teq hX hB (q_v (hX.vo (by decide +kernel))) (q_v (hX.vo (by decide +kernel))))))))).pt) (dss_cons (ds_ret (q_non)) (dss_nil)) (dss_nil)) (dss_cons (ds_ret (de_tup (da_cons rfl (q_v (hX.vo (by decide +kernel))) (da_cons rfl (de_tup (da_cons rfl (q_v (hX.vo (by decide +kernel))) (da_cons rfl (q_v (hX.vo (by decide +kernel))) (da_cons rfl (q_v (hX.vo (by decide +kernel))) (da_nil))))) (da_nil))))) (dss_nil)))))
def g_f_read_text : List Sl → RS := fun ρ => ((stIf (evNot (evT (evIsi is_str (evV 0)))) (fun ρ => (((fun _ => RS.bad)) ρ).bind .nx) (.nx)) ρ).bind (fun ρ => ((stPar [2, 3] (mxC false (frzE (evSplit (evV 0) (evLit c_FEED))) (mxC true (evDic0) (mxNil)))) ρ).bind (fun ρ => ((stSet 1 (evCall F_f_places_in (asD (evIxV 2 (evLit (.int 0))) (asNil)))) ρ).bind (fun ρ => ((stIf (evB (ev2 isNO (evV 1) (evLit .non))) (fun ρ => (((fun _ => RS.bad)) ρ).bind .nx) (.nx)) ρ).bind (fun ρ => ((stFor (srcL enu2O (evCons (evSl3 (evV 2) (some (evLit (.int 1))) none) (evCons (evLit (.int 2)) (evNil)))) (tgT 2 (tgCons (tgN 4) (tgCons (tgN 5) (tgNil)))) (fun ρ => ((stSet 6 (evCall F_f_street_in (asD (evV 5) (asD (evV 1) (asS 3 (asNil)))))) ρ).bind (fun ρ => ((stIf (evOr (evB (ev2 isNO (evV 6) (evLit .non))) (evB (ev2 eqO (evLenV 3) (evLit c_MOST_STREETS)))) (fun ρ => (((fun _ => RS.bad)) ρ).bind .nx) (.nx)) ρ).bind (fun ρ => ((stPut 3 (evIxV 6 (evLit (.int 1))) (evIxV 6 (evLit (.int 0)))) ρ).bind .nx)))) ρ).bind (fun ρ => ((stRet (evTup (evCons (evV 1) (evCons (evV 3) (evNil))))) ρ).bind .nx)))))
def F_f_read_text : Fd := ⟨[.sh], false, semOf 7 [.sh] false g_f_read_text⟩
@[simp] theorem F_f_read_text_md : F_f_read_text.md = [.sh] := rfl
@[simp] theorem F_f_read_text_own : F_f_read_text.own = false := rfl
theorem F_f_read_text_sem : F_f_read_text.sem = semOf 7 [.sh] false g_f_read_text := rfl
theorem k_f_read_text (wo : WOk W) (wf : Facts W) : Cal W 5 ("read_text" : Str) F_f_read_text := cal_of (k := 4) (N := [("text" : Str), ("places" : Str), ("lines" : Str), ("rows" : Str), ("number" : Str), ("line" : Str), ("found" : Str)]) (ps := [("text" : Str)]) wo wf.fn_f_read_text (by decide +kernel) rfl (fun _ _ _ _ _ _ us hl => match us, hl with | [_], _ => rfl) rfl fun X E hS B hB => have hX := hS.toXIs; dss_cons (ds_if (dt_not (dt_truth (hX.kk hB) (q_isiB hX hB (wf.bn ("isinstance" : Str) (by decide +kernel)) (hX.go (by decide +kernel)) wf.is_str (wf.bn ("str" : Str) (by decide +kernel)) (hX.go (by decide +kernel)) rfl rfl (q_v (hX.vo (by decide +kernel)))) (fun _ => rfl))) (dss_cons (ds_never) (dss_nil)) (dss_nil)) (dss_cons (q_par hX (by decide +kernel) (by decide +kernel) (fun _ => rfl) rfl (dmx_sh rfl (q_own (q_split hX hB rfl rfl rfl rfl (q_v (hX.vo (by decide +kernel))) (q_glob wo hX hB wf.c_FEED (hX.go (by decide +kernel))))) (dmx_ow rfl (do_dic0) (fun B''' bl => have hB' := hB.le wo bl; dmx_nil)))) (dss_cons (ds_set hX.nN (hX.nm (by decide +kernel)) (hX.loc (by decide +kernel)) (.inl (hS.fn _)) (de_call wo hX hB (k_f_places_in wo wf) (by decide) rfl (hX.go (by decide +kernel)).l rfl rfl rfl (das_d rfl (q_ixv hX hB (hX.vo (by decide +kernel)) rfl (q_int)) (das_nil))) rfl) (dss_cons (ds_if (q_tisN hX hB (q_v (hX.vo (by decide +kernel))) (q_non)) (dss_cons (ds_never) (dss_nil)) (dss_nil)) (dss_cons (ds_for hS.owns hX.calm (di_from (hX.kk hB) (hX.go (by decide +kernel)).g (hX.noName (wf.bn ("enumerate" : Str) (by decide +kernel))) rfl rfl (da_cons rfl (q_sl hX hB (q_v (hX.vo (by decide +kernel))) (.some (q_int)) .none) (da_cons rfl (q_int) (da_nil)))) (dg_t (hX.kk hB) hX.calm (dgs_cons (dg_n hX.nN (hX.nm (by decide +kernel)) (hX.loc (by decide +kernel)) (.inl (hS.fn _))) (dgs_cons (dg_n hX.nN (hX.nm (by decide +kernel)) (hX.loc (by decide +kernel)) (.inl (hS.fn _))) (dgs_nil) rfl) rfl) rfl rfl) (dss_cons (ds_set hX.nN (hX.nm (by decide +kernel)) (hX.loc (by decide +kernel)) (.inl (hS.fn _)) (de_call wo hX hB (k_f_street_in wo wf) (by decide) rfl (hX.go (by decide +kernel)).l rfl rfl rfl (das_d rfl (q_v (hX.vo (by decide +kernel))) (das_d rfl (q_v (hX.vo (by decide +kernel))) (q_asS (hX.vo (by decide +kernel)) (das_nil))))) rfl) (dss_cons (ds_if ((dw_or (q_tisN hX hB (q_v (hX.vo (by decide +kernel))) (q_non)) (pw_or1 (q_teq hX hB (q_lenv hX hB (wf.bn ("len" : Str) (by decide +kernel)) (hX.go (by decide +kernel)) (hX.vo (by decide +kernel))) (q_glob wo hX hB wf.c_MOST_STREETS (hX.go (by decide +kernel)))))).pt) (dss_cons (ds_never) (dss_nil)) (dss_nil)) (dss_cons (q_put hX (hX.vo (by decide +kernel)) (q_ixv hX hB (hX.vo (by decide +kernel)) rfl (q_int)) (q_ixv hX hB (hX.vo (by decide +kernel)) rfl (q_int)) rfl rfl rfl (fun _ => rfl)) (dss_nil)))) (fun _ => rfl)) (dss_cons (ds_ret (de_tup (da_cons rfl (q_v (hX.vo (by decide +kernel))) (da_cons rfl (q_v (hX.vo (by decide +kernel))) (da_nil))))) (dss_nil))))))
def g_m_Town_init : List Sl → RS := fun ρ => ((stAsg (tgT 2 (tgCons (tgN 2) (tgCons (tgN 3) (tgNil)))) (evCall F_f_read_text (asD (evV 1) (asNil)))) ρ).bind (fun ρ => ((stFld cls_own_text ("own_text" : Str) 0 (evV 1)) ρ).bind (fun ρ => ((stFld cls_own_places ("own_places" : Str) 0 (evV 2)) ρ).bind (fun ρ => ((stFld cls_own_rows ("own_rows" : Str) 0 (evV 3)) ρ).bind .nx)))
def F_m_Town_init : Fd := ⟨[.mt, .sh], false, semOf 4 [.mt, .sh] false g_m_Town_init⟩
@[simp] theorem F_m_Town_init_md : F_m_Town_init.md = [.mt, .sh] := rfl
@[simp] theorem F_m_Town_init_own : F_m_Town_init.own = false := rfl
theorem F_m_Town_init_sem : F_m_Town_init.sem = semOf 4 [.mt, .sh] false g_m_Town_init := rfl
theorem s_m_Town_init (wo : WOk W) (wf : Facts W) (f : Addr) (D : FnAt W ("__init__" : Str) ("Town.__init__" : Str) (ms 34 0) f) : ∃ fd, FnG W 7 f fd [("self" : Str), ("text" : Str)] (spF W.K W.gs F_m_Town_init) ∧ Binds W.K fd [("self" : Str), ("text" : Str)] [] := fn_sem (k := 6) (N := [("self" : Str), ("text" : Str), ("places" : Str), ("rows" : Str)]) (ps := [("self" : Str), ("text" : Str)]) wo D (by decide +kernel) rfl (fun _ _ _ _ _ _ us hl => match us, hl with | [_, _], _ => rfl) rfl fun X E hS B hB => have hX := hS.toXIs; dss_cons (q_asg hX (de_call wo hX hB (k_f_read_text wo wf) (by decide) rfl (hX.go (by decide +kernel)).l rfl rfl rfl (das_d rfl (q_v (hX.vo (by decide +kernel))) (das_nil))) (dg_t (hX.kk hB) hX.calm (dgs_cons (dg_n hX.nN (hX.nm (by decide +kernel)) (hX.loc (by decide +kernel)) (.inl (hS.fn _))) (dgs_cons (dg_n hX.nN (hX.nm (by decide +kernel)) (hX.loc (by decide +kernel)) (.inl (hS.fn _))) (dgs_nil) rfl) rfl) rfl rfl) rfl (fun _ => rfl) rfl) (dss_cons (q_stfld hX hB wf.fld_own_text (hX.vo (by decide +kernel)) (q_v (hX.vo (by decide +kernel))) rfl) (dss_cons (q_stfld hX hB wf.fld_own_places (hX.vo (by decide +kernel)) (q_v (hX.vo (by decide +kernel))) rfl) (dss_cons (q_stfld hX hB wf.fld_own_rows (hX.vo (by decide +kernel)) (q_v (hX.vo (by decide +kernel))) rfl) (dss_nil))))
theorem k_Town (wo : WOk W) (wf : Facts W) : MakG W 7 ("Town" : Str) F_m_Town_init := ⟨let ⟨_, _, h, _⟩ := wf.mk_Town; h, let ⟨g, h1, _, D⟩ := wf.mk_Town; let ⟨fd, a, b⟩ := s_m_Town_init wo wf g D; ⟨g, fd, _, h1, a, b⟩⟩
def g_f_law_street_line : List Sl → RS := fun ρ => ((stRet (evJoin (evLit (.str (" " : Str))) (evV 0))) ρ).bind .nx
def F_f_law_street_line : Fd := ⟨[.sh], false, semOf 1 [.sh] false g_f_law_street_line⟩
@[simp] theorem F_f_law_street_line_md : F_f_law_street_line.md = [.sh] := rfl
@[simp] theorem F_f_law_street_line_own : F_f_law_street_line.own = false := rfl
theorem F_f_law_street_line_sem : F_f_law_street_line.sem = semOf 1 [.sh] false g_f_law_street_line := rfl
theorem k_f_law_street_line (wo : WOk W) (wf : Facts W) : Cal W 1 ("_law_street_line" : Str) F_f_law_street_line := cal_of (k := 0) (N := [("_law_row" : Str)]) (ps := [("_law_row" : Str)]) wo wf.fn_f_law_street_line (by decide +kernel) rfl (fun _ _ _ _ _ _ us hl => match us, hl with | [_], _ => rfl) rfl fun X E hS B hB => have hX := hS.toXIs; dss_cons (ds_ret (q_join hX hB rfl rfl rfl rfl (q_str) (q_v (hX.vo (by decide +kernel))))) (dss_nil)
def g_f_law_text : List Sl → RS := fun ρ => ((stRet (evJoin (evLit (.str ("\n" : Str))) (ev2 add2O (frzE (evLst (evCons (evJoin (evLit (.str (" " : Str))) (ev2 add2O (frzE (evLst (evCons (evLit (.str ("places" : Str))) (evNil)))) (evIxV 0 (evLit (.str ("places" : Str)))))) (evNil)))) (frzE (evLc [1] (srcD (evIxV 0 (evLit (.str ("streets" : Str))))) (tgN 1) (evYes) (evCall F_f_law_street_line (asD (evV 1) (asNil)))))))) ρ).bind .nx
def F_f_law_text : Fd := ⟨[.sh], false, semOf 2 [.sh] false g_f_law_text⟩
@[simp] theorem F_f_law_text_md : F_f_law_text.md = [.sh] := rfl
@[simp] theorem F_f_law_text_own : F_f_law_text.own = false := rfl
theorem F_f_law_text_sem : F_f_law_text.sem = semOf 2 [.sh] false g_f_law_text := rfl
theorem k_f_law_text (wo : WOk W) (wf : Facts W) : Cal W 3 ("_law_text" : Str) F_f_law_text := cal_of (k := 2) (N := [("_law_lore" : Str), ("_law_row" : Str)]) (ps := [("_law_lore" : Str)]) wo wf.fn_f_law_text (by decide +kernel) rfl (fun _ _ _ _ _ _ us hl => match us, hl with | [_], _ => rfl) rfl fun X E hS B hB => have hX := hS.toXIs; dss_cons (ds_ret (q_join hX hB rfl rfl rfl rfl (q_str) (q_add hX hB (q_own (do_lst (da_cons rfl (q_join hX hB rfl rfl rfl rfl (q_str) (q_add hX hB (q_own (do_lst (da_cons rfl (q_str) (da_nil)))) (q_ixv hX hB (hX.vo (by decide +kernel)) rfl (q_str)))) (da_nil)))) (q_own (q_lc (own := [(("_law_row" : Str), 1)]) wo hX hB (di_any (hX.kk hB) (q_ixv hX hB (hX.vo (by decide +kernel)) rfl (q_str))) (by decide +kernel) (by decide +kernel) (fun B1 hB1 Y1 hS1 => have hX1 := hS1.toXIs; dg_n hX1.nN (hX1.nm (by decide +kernel)) (hX1.loc (by decide +kernel)) (hS1.bf _ (by decide +kernel))) (fun B1 hB1 Y1 hS1 => have hX1 := hS1.toXIs; dts_nil) (fun B1 hB1 Y1 hS1 => have hX1 := hS1.toXIs; de_call wo hX1 hB1 (k_f_law_street_line wo wf) (by decide) rfl (hX1.go (by decide +kernel)).l rfl rfl rfl (das_d rfl (q_v (hX1.vo (by decide +kernel))) (das_nil))) (fun _ => rfl)))))) (dss_nil)
def g_f_law_right : List Sl → RS := fun ρ => ((stSet 1 (evCall F_f_law_against (asS 0 (asD (evCall F_f_law_town (asS 0 (asD (evLit (.int 9)) (asD (evLit (.int 7)) (asD (ev2 add2O (ev2 add2O (frzE (evRep (evLst (evCons (evLit (.str ("unread" : Str))) (evNil))) (evLit (.int 2)))) (frzE (evRep (evLst (evCons (evLit (.str ("known" : Str))) (evNil))) (evLit (.int 3))))) (frzE (evLst (evCons (evLit (.str ("both" : Str))) (evNil))))) (asNil)))))) (asNil))))) ρ).bind (fun ρ => ((stOwn 2 (evLst (evNil))) ρ).bind (fun ρ => ((stFor (srcD (evIxV 1 (evLit (.str ("streets" : Str))))) (tgT 4 (tgCons (tgN 3) (tgCons (tgN 4) (tgCons (tgN 5) (tgCons (tgN 6) (tgNil)))))) (fun ρ => ((stIf (evAnd (evB (ev2 eqO (evV 3) (evLit (.str ("known" : Str))))) (evT (evCall F_f_law_has_map (asD (evCall F_f_law_turned_lore (asD (evV 1) (asD (evV 4) (asNil)))) (asNil))))) (fun ρ => ((stExp (evMt appF 2 (evCons (evV 4) (evNil)))) ρ).bind .nx) (.nx)) ρ).bind .nx)) ρ).bind (fun ρ => ((stRet (ev2 eqO (evL reprO (evCons (evCall F_f_wrong (asD (evMake ("Town" : Str) F_m_Town_init (asD (evCall F_f_law_text (asD (evV 1) (asNil))) (asNil))) (asNil))) evNil)) (evL reprO (evCons (evL tupO (evCons (evV 2) evNil)) evNil)))) ρ).bind .nx)))
def F_f_law_right : Fd := ⟨[.mt], false, semOf 7 [.mt] false g_f_law_right⟩
@[simp] theorem F_f_law_right_md : F_f_law_right.md = [.mt] := rfl
@[simp] theorem F_f_law_right_own : F_f_law_right.own = false := rfl
theorem F_f_law_right_sem : F_f_law_right.sem = semOf 7 [.mt] false g_f_law_right := rfl
theorem k_f_law_right (wo : WOk W) (wf : Facts W) : Cal W 11 ("_law_right" : Str) F_f_law_right := cal_of (k := 10) (N := [("_law_pot_here" : Str), ("_law_lore" : Str), ("_law_due" : Str), ("_law_kind" : Str), ("_law_name" : Str), ("_law_one" : Str), ("_law_other" : Str)]) (ps := [("_law_pot_here" : Str)]) wo wf.fn_f_law_right (by decide +kernel) rfl (fun _ _ _ _ _ _ us hl => match us, hl with | [_], _ => rfl) rfl fun X E hS B hB => have hX := hS.toXIs; dss_cons (ds_set hX.nN (hX.nm (by decide +kernel)) (hX.loc (by decide +kernel)) (.inl (hS.fn _)) (de_call wo hX hB (k_f_law_against wo wf) (by decide) rfl (hX.go (by decide +kernel)).l rfl rfl rfl (q_asS (hX.vo (by decide +kernel)) (das_d rfl (de_call wo hX hB (k_f_law_town wo wf) (by decide) rfl (hX.go (by decide +kernel)).l rfl rfl rfl (q_asS (hX.vo (by decide +kernel)) (das_d rfl (q_int) (das_d rfl (q_int) (das_d rfl (q_add hX hB (q_add hX hB (q_own (q_rep wo hX hB (do_lst (da_cons rfl (q_str) (da_nil))) (fun _ hB' hX' => q_int))) (q_own (q_rep wo hX hB (do_lst (da_cons rfl (q_str) (da_nil))) (fun _ hB' hX' => q_int)))) (q_own (do_lst (da_cons rfl (q_str) (da_nil))))) (das_nil)))))) (das_nil)))) rfl) (dss_cons (ds_own hX.nN (hX.nm (by decide +kernel)) (hX.loc (by decide +kernel)) (.inl (hS.fn _)) (do_lst (da_nil)) rfl) (dss_cons (ds_for hS.owns hX.calm (di_any (hX.kk hB) (q_ixv hX hB (hX.vo (by decide +kernel)) rfl (q_str))) (dg_t (hX.kk hB) hX.calm (dgs_cons (dg_n hX.nN (hX.nm (by decide +kernel)) (hX.loc (by decide +kernel)) (.inl (hS.fn _))) (dgs_cons (dg_n hX.nN (hX.nm (by decide +kernel)) (hX.loc (by decide +kernel)) (.inl (hS.fn _))) (dgs_cons (dg_n hX.nN (hX.nm (by decide +kernel)) (hX.loc (by decide +kernel)) (.inl (hS.fn _))) (dgs_cons (dg_n hX.nN (hX.nm (by decide +kernel)) (hX.loc (by decide +kernel)) (.inl (hS.fn _))) (dgs_nil) rfl) rfl) rfl) rfl) rfl rfl) (dss_cons (ds_if ((dw_and (q_teq hX hB (q_v (hX.vo (by decide +kernel))) (q_str)) (pw_and1 (dt_truth (hX.kk hB) (de_call wo hX hB (k_f_law_has_map wo wf) (by decide) rfl (hX.go (by decide +kernel)).l rfl rfl rfl (das_d rfl (de_call wo hX hB (k_f_law_turned_lore wo wf) (by decide) rfl (hX.go (by decide +kernel)).l rfl rfl rfl (das_d rfl (q_v (hX.vo (by decide +kernel))) (das_d rfl (q_v (hX.vo (by decide +kernel))) (das_nil)))) (das_nil))) (fun _ => rfl)))).pt) (dss_cons (ds_exp (q_append hX hB (hX.vo (by decide +kernel)) rfl rfl rfl rfl rfl (da_cons rfl (q_v (hX.vo (by decide +kernel))) (da_nil))) rfl) (dss_nil)) (dss_nil)) (dss_nil)) (fun _ => rfl)) (dss_cons (ds_ret (q_eq hX hB (q_repr hX hB wf.sys (wf.bn ("repr" : Str) (by decide +kernel)) (hX.go (by decide +kernel)) rfl (de_call wo hX hB (k_f_wrong wo wf) (by decide) rfl (hX.go (by decide +kernel)).l rfl rfl rfl (das_d rfl (de_make wo hX hB (k_Town wo wf) (by decide) (hX.go (by decide +kernel)).l rfl rfl rfl (das_d rfl (de_call wo hX hB (k_f_law_text wo wf) (by decide) rfl (hX.go (by decide +kernel)).l rfl rfl rfl (das_d rfl (q_v (hX.vo (by decide +kernel))) (das_nil))) (das_nil))) (das_nil)))) (q_repr hX hB wf.sys (wf.bn ("repr" : Str) (by decide +kernel)) (hX.go (by decide +kernel)) rfl (q_tuple hX hB (wf.bn ("tuple" : Str) (by decide +kernel)) (hX.go (by decide +kernel)) rfl (q_v (hX.vo (by decide +kernel))))))) (dss_nil))))
def g_f_law : List Sl → RS := fun ρ => ((stForO 1 (evCallO F_f_law_pots (evCons (evV 0) (evCons (evLit (.int 3)) (evNil)))) (fun ρ => ((stIf (evNot (evT (evL allO (evCons (frzE (evLc [2] (srcL rng1O (evCons (evLit (.int 2)) (evNil))) (tgN 2) (evYes) (evCall F_f_law_right (asS 1 (asNil))))) evNil)))) (fun ρ => ((stRet (evLit (.bl false))) ρ).bind .nx) (.nx)) ρ).bind .nx)) ρ).bind (fun ρ => ((stRet (evLit (.bl true))) ρ).bind .nx)
def F_f_law : Fd := ⟨[.sh], false, semOf 3 [.sh] false g_f_law⟩
@[simp] theorem F_f_law_md : F_f_law.md = [.sh] := rfl
@[simp] theorem F_f_law_own : F_f_law.own = false := rfl
theorem F_f_law_sem : F_f_law.sem = semOf 3 [.sh] false g_f_law := rfl
theorem k_f_law (wo : WOk W) (wf : Facts W) : Cal W 13 ("law" : Str) F_f_law := cal_of (k := 12) (N := [("_law_script" : Str), ("_law_pot_here" : Str), ("_law_lap" : Str)]) (ps := [("_law_script" : Str)]) wo wf.fn_f_law (by decide +kernel) rfl (fun _ _ _ _ _ _ us hl => match us, hl with | [_], _ => rfl) rfl fun X E hS B hB => have hX := hS.toXIs; dss_cons (q_forO wo hS hB (by decide +kernel) (by decide +kernel) (doo_call wo hX hB (k_f_law_pots wo wf) (by decide) rfl (hX.go (by decide +kernel)).l rfl rfl rfl (ln_cons (ln_cons (ln_nil))) (da_cons rfl (q_v (hX.vo (by decide +kernel))) (da_cons rfl (q_int) (da_nil)))) (fun _ hBf => dss_cons (ds_if (dt_not (dt_truth (hX.kk hBf) (q_all hX hBf (wf.bn ("all" : Str) (by decide +kernel)) (hX.go (by decide +kernel)) rfl (q_own (q_lc (own := [(("_law_lap" : Str), 2)]) wo hX hBf (di_rng1 (hX.go (by decide +kernel)).g (hX.noName (wf.bn ("range" : Str) (by decide +kernel))) rfl  (da_cons rfl (q_int) (da_nil))) (by decide +kernel) (by decide +kernel) (fun B1 hB1 Y1 hS1 => have hX1 := hS1.toXIs; dg_n hX1.nN (hX1.nm (by decide +kernel)) (hX1.loc (by decide +kernel)) (hS1.bf _ (by decide +kernel))) (fun B1 hB1 Y1 hS1 => have hX1 := hS1.toXIs; dts_nil) (fun B1 hB1 Y1 hS1 => have hX1 := hS1.toXIs; de_call wo hX1 hB1 (k_f_law_right wo wf) (by decide) rfl (hX1.go (by decide +kernel)).l rfl rfl rfl (q_asS (hX1.vo (by decide +kernel)) (das_nil))) (fun _ => rfl)))) (fun _ => rfl))) (dss_cons (ds_ret (q_bl)) (dss_nil)) (dss_nil)) (dss_nil)) (fun _ => rfl)) (dss_cons (ds_ret (q_bl)) (dss_nil))
end K95

set_option Elab.async false
set_option linter.all false
set_option maxRecDepth 100000
set_option maxHeartbeats 1000000
namespace K95
open PySem L2 Dx TL
theorem fp {l : Lore} {c : Str} (hc : TC c) : fldF cls_own_places "own_places" (T c l) = some (strT l.pl) := by rcases hc with rfl | rfl <;> kernel_rfl
theorem fr {l : Lore} {c : Str} (hc : TC c) : fldF cls_own_rows "own_rows" (T c l) = some (.dic (l.rows.map Row.dic)) := by rcases hc with rfl | rfl <;> kernel_rfl
theorem ft {l : Lore} {c : Str} (hc : TC c) : fldF cls_own_text "own_text" (T c l) = some (.str l.text) := by rcases hc with rfl | rfl <;> kernel_rfl
/-! _law_pot -/
theorem law_pot_sem {ns : List Int} {i : Nat} {Q : D × List D → Prop} (hi : i < 100) (k : ∀ p, Pk 0 p → Q (p.d, [])) : (F_f_law_pot.sem [.lst (ns.map .int), .int i]).sat Q := by
  rw [F_f_law_pot_sem]
  refine semOf_sat (by rfl) ?_
  have bi : Bd 64 (i : Int) := by unfold Bd; omega
  by_cases h : i < ns.length
  · obtain ⟨x, e, _⟩ := atI_mem (l := ns) (i := i) (by omega) (by omega)
    simp (implicitDefEqProofs := false) [-List.map_drop, -List.map_take, -List.map_tail, -List.drop_one, -List.map_map, -List.filter_filter, g_f_law_pot, h, e]
    refine ⟨by (repeat' (first | assumption | exact Bd.lit (by decide) | exact Bd.lit2 (by decide) | apply Bd.emod | apply Bd.mul | apply Bd.add | apply Bd.ite | apply Bd.two | apply Bd.pow | decide | omega)), by (repeat' (first | assumption | exact Bd.lit (by decide) | exact Bd.lit2 (by decide) | apply Bd.emod | apply Bd.mul | apply Bd.add | apply Bd.ite | apply Bd.two | apply Bd.pow | decide | omega)), by (repeat' (first | assumption | exact Bd.lit (by decide) | exact Bd.lit2 (by decide) | apply Bd.emod | apply Bd.mul | apply Bd.add | apply Bd.ite | apply Bd.two | apply Bd.pow | decide | omega)), by (repeat' (first | assumption | exact Bd.lit (by decide) | exact Bd.lit2 (by decide) | apply Bd.emod | apply Bd.mul | apply Bd.add | apply Bd.ite | apply Bd.two | apply Bd.pow | decide | omega)), by (repeat' (first | assumption | exact Bd.lit (by decide) | exact Bd.lit2 (by decide) | apply Bd.emod | apply Bd.mul | apply Bd.add | apply Bd.ite | apply Bd.two | apply Bd.pow | decide | omega)), by (repeat' (first | assumption | exact Bd.lit (by decide) | exact Bd.lit2 (by decide) | apply Bd.emod | apply Bd.mul | apply Bd.add | apply Bd.ite | apply Bd.two | apply Bd.pow | decide | omega)), by (repeat' (first | assumption | exact Bd.lit (by decide) | exact Bd.lit2 (by decide) | apply Bd.emod | apply Bd.mul | apply Bd.add | apply Bd.ite | apply Bd.two | apply Bd.pow | decide | omega)), ?_⟩
    exact k ⟨_, _, 0⟩ ⟨Int.emod_nonneg _ (by decide), Int.lt_trans (Int.emod_lt_of_pos _ (by decide)) (by decide), Int.le_refl _, Int.le_refl _⟩
  · simp (implicitDefEqProofs := false) [-List.map_drop, -List.map_take, -List.map_tail, -List.drop_one, -List.map_map, -List.filter_filter, g_f_law_pot, h]
    refine ⟨by (repeat' (first | assumption | exact Bd.lit (by decide) | exact Bd.lit2 (by decide) | apply Bd.emod | apply Bd.mul | apply Bd.add | apply Bd.ite | apply Bd.two | apply Bd.pow | decide | omega)), by (repeat' (first | assumption | exact Bd.lit (by decide) | exact Bd.lit2 (by decide) | apply Bd.emod | apply Bd.mul | apply Bd.add | apply Bd.ite | apply Bd.two | apply Bd.pow | decide | omega)), by (repeat' (first | assumption | exact Bd.lit (by decide) | exact Bd.lit2 (by decide) | apply Bd.emod | apply Bd.mul | apply Bd.add | apply Bd.ite | apply Bd.two | apply Bd.pow | decide | omega)), by (repeat' (first | assumption | exact Bd.lit (by decide) | exact Bd.lit2 (by decide) | apply Bd.emod | apply Bd.mul | apply Bd.add | apply Bd.ite | apply Bd.two | apply Bd.pow | decide | omega)), by (repeat' (first | assumption | exact Bd.lit (by decide) | exact Bd.lit2 (by decide) | apply Bd.emod | apply Bd.mul | apply Bd.add | apply Bd.ite | apply Bd.two | apply Bd.pow | decide | omega)), by (repeat' (first | assumption | exact Bd.lit (by decide) | exact Bd.lit2 (by decide) | apply Bd.emod | apply Bd.mul | apply Bd.add | apply Bd.ite | apply Bd.two | apply Bd.pow | decide | omega)), by (repeat' (first | assumption | exact Bd.lit (by decide) | exact Bd.lit2 (by decide) | apply Bd.emod | apply Bd.mul | apply Bd.add | apply Bd.ite | apply Bd.two | apply Bd.pow | decide | omega)), by (repeat' (first | assumption | exact Bd.lit (by decide) | exact Bd.lit2 (by decide) | apply Bd.emod | apply Bd.mul | apply Bd.add | apply Bd.ite | apply Bd.two | apply Bd.pow | decide | omega)), ?_⟩
    exact k ⟨_, _, 0⟩ ⟨Int.emod_nonneg _ (by decide), Int.lt_trans (Int.emod_lt_of_pos _ (by decide)) (by decide), Int.le_refl _, Int.le_refl _⟩
/-! _law_pots -/
theorem law_pots_sem {ns : List Int} {m : Nat} {Q : List D → Prop} (hm : m ≤ 60) (k : ∀ ps : List Pot, ps.length ≤ 60 → (∀ p ∈ ps, Pk 0 p) → Q (ps.map Pot.d)) : (F_f_law_pots [.lst (ns.map .int), .int m]).sat Q := by
  refine semO_sat (ms := [.sh, .sh]) rfl rfl ?_
  simp (implicitDefEqProofs := false) [-List.map_drop, -List.map_take, -List.map_tail, -List.drop_one, -List.map_map, -List.filter_filter, e_f_law_pots]
  rw [rngD_eq]
  obtain ⟨c, ec, hc⟩ : ∃ c : Nat, (if (1 : Int) < (if ns.length < m then (ns.length : Int) else m) then (if ns.length < m then (ns.length : Int) else m) else 1) = c ∧ c ≤ 60 := by
    split <;> split <;> first | exact ⟨ns.length, rfl, by omega⟩ | exact ⟨m, rfl, by omega⟩ | exact ⟨1, rfl, by omega⟩
  simp (implicitDefEqProofs := false) [-List.map_drop, -List.map_take, -List.map_tail, -List.drop_one, -List.map_map, -List.filter_filter, ec]
  refine ⟨smI_lit (by omega) (by omega), ?_⟩
  refine lcL_sat _ (fun pre acc ρ => ∃ ps : List Pot, ρ = [.sh (.lst (ns.map .int)), .sh (.int m), .un] ∧ acc = ps.map Pot.d ∧ ps.length = pre.length ∧ ∀ p ∈ ps, Pk 0 p) _ ?_ ?_ ⟨[], rfl, rfl, rfl, by simp⟩
  · rintro pre i post e acc _ ⟨ps, rfl, rfl, hl, hp⟩
    have hi : i < c := by
      have : i ∈ List.range c := by rw [e]; simp
      simpa using this
    have hlen := congrArg List.length e
    simp at hlen
    refine ⟨_, by simp (implicitDefEqProofs := false) [-List.map_drop, -List.map_take, -List.map_tail, -List.drop_one, -List.map_map, -List.filter_filter]; rfl, ?_⟩
    simp (implicitDefEqProofs := false) [-List.map_drop, -List.map_take, -List.map_tail, -List.drop_one, -List.map_map, -List.filter_filter]
    refine law_pot_sem (i := i) (by omega) fun p hp' => ?_
    simp (implicitDefEqProofs := false) [-List.map_drop, -List.map_take, -List.map_tail, -List.drop_one, -List.map_map, -List.filter_filter, Pot.d]
    refine ⟨by unfold sizeLine; omega, ps ++ [p], by simp [Pot.d], by simp [hl], ?_⟩
    intro q hq
    rcases List.mem_append.mp hq with hq | hq
    · exact hp q hq
    · rw [List.mem_singleton.mp hq]; exact hp'
  · rintro acc _ ⟨ps, rfl, rfl, hl, hp⟩
    simp at hl
    exact k ps (by omega) hp
/-! _law_with -/
theorem law_with_sem {l : Lore} {rows : List Row} {Q : D × List D → Prop} (k : Q (Lore.dd ⟨l.pl, rows⟩, [])) : (F_f_law_with.sem [l.dd, .lst (rows.map Row.tup)]).sat Q := by
  rw [F_f_law_with_sem]
  refine semOf_sat (by rfl) ?_
  simp (implicitDefEqProofs := false) [-List.map_drop, -List.map_take, -List.map_tail, -List.drop_one, -List.map_map, -List.filter_filter, g_f_law_with, Lore.dd, dd_pl, strKs_cons, dicOf_ps]
  exact k
/-! _law_take -/
theorem prime5 (i : Int) (a b c d e : Int) : ∃ q : Int, atI [D.int a, D.int b, D.int c, D.int d, D.int e] (i % 5) = some (.int q) ∧ (q = a ∨ q = b ∨ q = c ∨ q = d ∨ q = e) := by
  have : i % 5 = 0 ∨ i % 5 = 1 ∨ i % 5 = 2 ∨ i % 5 = 3 ∨ i % 5 = 4 := by omega
  rcases this with h | h | h | h | h <;> rw [h] <;> simp
theorem law_take_sem {p : Pot} {n : Nat} {u : Int} {Q : D × List D → Prop} (h : Pk n p) (hn : n ≤ 2 ^ 100) (h0 : 0 < u) (hu : u < 2 ^ 100)
    (k : ∀ r p', 0 ≤ r → r < u → Pk (n + 1) p' → Q (.int r, [p'.d])) : (F_f_law_take.sem [p.d, .int u]).sat Q := by
  rw [F_f_law_take_sem]
  refine semOf_sat (by rfl) ?_
  simp (implicitDefEqProofs := false) [-List.map_drop, -List.map_take, -List.map_tail, -List.drop_one, -List.map_map, -List.filter_filter, g_f_law_take, Pot.d]
  have hu2 : bitsOf u < 9000 := bitsOf_lt (by omega) (by decide)
  split
  · exact ⟨h0, ⟨h0, hu2⟩, k _ ⟨p.a / u, p.b, p.c⟩ (Int.emod_nonneg _ (by omega)) (Int.emod_lt_of_pos _ h0) (h.mono (Nat.le_succ n))⟩
  · obtain ⟨q, e, hq⟩ := prime5 (p.c + 1) 2147483647 2147483629 2147483587 2147483579 2147483563
    have q0 : 0 < q := by omega
    have q1 : q < 2 ^ 40 := by omega
    simp (implicitDefEqProofs := false) [-List.map_drop, -List.map_take, -List.map_tail, -List.drop_one, -List.map_map, -List.filter_filter, e, q0]
    obtain ⟨hb0, hb1, hc0, hc1⟩ := h
    generalize hc : p.c + 1 = c at *
    have c0 : 0 < c := by omega
    have bc : Bd 102 c := by unfold Bd; omega
    have bp : Bd 64 p.b := by unfold Bd; omega
    have bq : Bd 64 q := by unfold Bd; omega
    have b1 : ∀ z : Int, decide (z.natAbs < 2 ^ 64) = true → Bd 64 z := fun z h => Bd.lit h
    generalize hm : (p.b + 101161 * c * c + 79) ^ 3 % q = m at *
    have bm : Bd 64 m := by rw [← hm]; exact Bd.emod q0 bq
    refine ⟨by (repeat' (first | assumption | exact Bd.lit (by decide) | exact Bd.lit2 (by decide) | apply Bd.emod | apply Bd.mul | apply Bd.add | apply Bd.ite | apply Bd.two | apply Bd.pow | decide | omega)), by (repeat' (first | assumption | exact Bd.lit (by decide) | exact Bd.lit2 (by decide) | apply Bd.emod | apply Bd.mul | apply Bd.add | apply Bd.ite | apply Bd.two | apply Bd.pow | decide | omega)), by (repeat' (first | assumption | exact Bd.lit (by decide) | exact Bd.lit2 (by decide) | apply Bd.emod | apply Bd.mul | apply Bd.add | apply Bd.ite | apply Bd.two | apply Bd.pow | decide | omega)), by (repeat' (first | assumption | exact Bd.lit (by decide) | exact Bd.lit2 (by decide) | apply Bd.emod | apply Bd.mul | apply Bd.add | apply Bd.ite | apply Bd.two | apply Bd.pow | decide | omega)), by (repeat' (first | assumption | exact Bd.lit (by decide) | exact Bd.lit2 (by decide) | apply Bd.emod | apply Bd.mul | apply Bd.add | apply Bd.ite | apply Bd.two | apply Bd.pow | decide | omega)), by (repeat' (first | assumption | exact Bd.lit (by decide) | exact Bd.lit2 (by decide) | apply Bd.emod | apply Bd.mul | apply Bd.add | apply Bd.ite | apply Bd.two | apply Bd.pow | decide | omega)), h0, ?_⟩
    exact k _ ⟨p.a, p.b, c⟩ (Int.emod_nonneg _ (by omega)) (Int.emod_lt_of_pos _ h0) ⟨hb0, hb1, by show 0 ≤ c; omega, by show c ≤ _; omega⟩
/-! _law_against -/
theorem law_against_sem {p : Pot} {n : Nat} {l : Lore} {Q : D × List D → Prop} (h : Pk n p) (hn : n + 200 ≤ 2 ^ 100) (hl : LoreOk l)
    (k : ∀ (p' : Pot) (l' : Lore), Pk (n + 200) p' → LoreOk l' → Q (l'.dd, [p'.d])) : (F_f_law_against.sem [p.d, l.dd]).sat Q := by
  rw [F_f_law_against_sem]
  refine semOf_sat (by rfl) ?_
  have hfew := hl.few
  have uk := kd_uk
  simp (implicitDefEqProofs := false) [-List.map_drop, -List.map_take, -List.map_tail, -List.drop_one, -List.map_map, -List.filter_filter, g_f_law_against, Lore.dd, dd_st]
  refine forL_sat Row.tup (fun pre ρ => ∃ (p' : Pot) (f : Row → Row) (s3 s4 s5 s6 s7 : Sl), ρ = [.mt p'.d, .sh l.dd, .ow (.lst ((pre.map f).map Row.tup)), s3, s4, s5, s6, s7] ∧ (s3.free = true ∧ s4.free = true ∧ s5.free = true ∧ s6.free = true ∧ s7.free = true) ∧ Pk (n + 2 * pre.length) p' ∧ (∀ r ∈ pre, (f r).nm = r.nm) ∧ (∀ r ∈ pre, RowOk l.pl (f r))) _ ?_ ?_ ⟨p, id, .un, .un, .un, .un, .un, by simp (implicitDefEqProofs := false) [-List.map_drop, -List.map_take, -List.map_tail, -List.drop_one, -List.map_map, -List.filter_filter, Lore.dd], ⟨rfl, rfl, rfl, rfl, rfl⟩, h, by simp, by simp⟩
  · rintro pre r post e _ ⟨p', f, s3, s4, s5, s6, s7, rfl, ⟨h3, h4, h5, h6, h7⟩, hp, hnm, hok⟩
    have hr : r ∈ l.rows := by rw [e]; simp
    have ro := hl.ok r hr
    have hlen := congrArg List.length e
    simp at hlen
    have rn : ∀ x ∈ pre, x.nm ≠ r.nm := fun x hx ex => by
      have nd := hl.rnd
      rw [e, List.map_append, List.map_cons, List.nodup_append] at nd
      exact nd.2.2 _ (List.mem_map_of_mem hx) _ (List.mem_cons_self ..) ex
    -- the row that comes of it
    have fin : ∀ (p2 : Pot) (q : Row) (s3 s4 s5 s6 s7 : Sl), Pk (n + 2 * (pre.length + 1)) p2 → q.nm = r.nm → RowOk l.pl q → s3.free = true → s4.free = true → s5.free = true → s6.free = true → s7.free = true →
        pre.length < sizeLine ∧ ∃ (p' : Pot) (f' : Row → Row) (t3 t4 t5 t6 t7 : Sl), [Sl.mt p2.d, .sh l.dd, .ow (.lst ((pre.map f).map Row.tup ++ [q.tup])), s3, s4, s5, s6, s7] = [Sl.mt p'.d, .sh l.dd, .ow (.lst (((pre ++ [r]).map f').map Row.tup)), t3, t4, t5, t6, t7] ∧ (t3.free = true ∧ t4.free = true ∧ t5.free = true ∧ t6.free = true ∧ t7.free = true) ∧ Pk (n + 2 * (pre ++ [r]).length) p' ∧ (∀ x ∈ pre ++ [r], (f' x).nm = x.nm) ∧ (∀ x ∈ pre ++ [r], RowOk l.pl (f' x)) := by
      intro p2 q s3 s4 s5 s6 s7 hp2 hq1 hq2 h3 h4 h5 h6 h7
      have ef : ∀ x ∈ pre, (fun x => if x.nm = r.nm then q else f x) x = f x := fun x hx => if_neg (rn x hx)
      refine ⟨by unfold sizeLine; omega, p2, fun x => if x.nm = r.nm then q else f x, s3, s4, s5, s6, s7, ?_, ⟨h3, h4, h5, h6, h7⟩, by simpa using hp2, ?_, ?_⟩
      · rw [List.map_append, List.map_congr_left ef]
        simp
      · intro x hx
        rcases List.mem_append.mp hx with hx | hx
        · rw [ef x hx]; exact hnm x hx
        · rw [List.mem_singleton.mp hx]; simpa using hq1
      · intro x hx
        rcases List.mem_append.mp hx with hx | hx
        · rw [ef x hx]; exact hok x hx
        · rw [List.mem_singleton.mp hx]; simpa using hq2
    have kkn : ("known" : Str) ∈ kinds := by decide +kernel
    refine ⟨_, by simp (implicitDefEqProofs := false) [-List.map_drop, -List.map_take, -List.map_tail, -List.drop_one, -List.map_map, -List.filter_filter, h3, h4, h5, h6, h7, Row.tup]; rfl, ?_⟩
    by_cases c1 : r.kd = "unread"
    · simp (implicitDefEqProofs := false) [-List.map_drop, -List.map_take, -List.map_tail, -List.drop_one, -List.map_map, -List.filter_filter, c1]
      refine law_take_sem hp (by omega) (by omega) (by omega) fun i1 p1 a0 a1 hp1 => ?_
      by_cases c2 : i1 = 0
      · simp (implicitDefEqProofs := false) [-List.map_drop, -List.map_take, -List.map_tail, -List.drop_one, -List.map_map, -List.filter_filter, c2]
        refine law_take_sem hp1 (by omega) (by omega) (by omega) fun i2 p2 b0 b1 hp2 => ?_
        by_cases c3 : i2 = 0
        · simp (implicitDefEqProofs := false) [-List.map_drop, -List.map_take, -List.map_tail, -List.drop_one, -List.map_map, -List.filter_filter, c3, h3, h7]
          simpa [Row.tup] using fin p2 ⟨r.nm, "known", r.b, r.a⟩ (.sh (.str "known")) (.sh (.str r.nm)) (.sh (.str r.a)) (.sh (.str r.b)) (.sh (.bl true)) (hp2.mono (by omega)) rfl ⟨ro.nm, kkn, ro.b, ro.a, fun z => ro.ne z.symm⟩ rfl rfl rfl rfl rfl
        · simp (implicitDefEqProofs := false) [-List.map_drop, -List.map_take, -List.map_tail, -List.drop_one, -List.map_map, -List.filter_filter, c3, h3, h7]
          simpa [Row.tup] using fin p2 ⟨r.nm, "known", r.a, r.b⟩ (.sh (.str "known")) (.sh (.str r.nm)) (.sh (.str r.a)) (.sh (.str r.b)) (.sh (.bl false)) (hp2.mono (by omega)) rfl ⟨ro.nm, kkn, ro.a, ro.b, ro.ne⟩ rfl rfl rfl rfl rfl
      · simp (implicitDefEqProofs := false) [-List.map_drop, -List.map_take, -List.map_tail, -List.drop_one, -List.map_map, -List.filter_filter, c2, uk, h3, h7]
        simpa [Row.tup, c1] using fin p1 r (.sh (.str r.kd)) (.sh (.str r.nm)) (.sh (.str r.a)) (.sh (.str r.b)) (.sh (.bl false)) (hp1.mono (by omega)) rfl ro rfl rfl rfl rfl rfl
    · by_cases c4 : r.kd = "known"
      · simp (implicitDefEqProofs := false) [-List.map_drop, -List.map_take, -List.map_tail, -List.drop_one, -List.map_map, -List.filter_filter, c1, c4, uk.symm]
        refine law_take_sem hp (by omega) (by omega) (by omega) fun i2 p2 b0 b1 hp2 => ?_
        by_cases c3 : i2 = 0
        · simp (implicitDefEqProofs := false) [-List.map_drop, -List.map_take, -List.map_tail, -List.drop_one, -List.map_map, -List.filter_filter, c3, h3, h7]
          simpa [Row.tup, c4] using fin p2 ⟨r.nm, r.kd, r.b, r.a⟩ (.sh (.str r.kd)) (.sh (.str r.nm)) (.sh (.str r.a)) (.sh (.str r.b)) (.sh (.bl true)) (hp2.mono (by omega)) rfl ro.turn rfl rfl rfl rfl rfl
        · simp (implicitDefEqProofs := false) [-List.map_drop, -List.map_take, -List.map_tail, -List.drop_one, -List.map_map, -List.filter_filter, c3, h3, h7]
          simpa [Row.tup, c4] using fin p2 r (.sh (.str r.kd)) (.sh (.str r.nm)) (.sh (.str r.a)) (.sh (.str r.b)) (.sh (.bl false)) (hp2.mono (by omega)) rfl ro rfl rfl rfl rfl rfl
      · simp (implicitDefEqProofs := false) [-List.map_drop, -List.map_take, -List.map_tail, -List.drop_one, -List.map_map, -List.filter_filter, c1, c4, h3, h7]
        simpa [Row.tup] using fin p' r (.sh (.str r.kd)) (.sh (.str r.nm)) (.sh (.str r.a)) (.sh (.str r.b)) (.sh (.bl false)) (hp.mono (by omega)) rfl ro rfl rfl rfl rfl rfl
  · rintro _ ⟨p', f, s3, s4, s5, s6, s7, rfl, _, hp, hnm, hok⟩
    simp (implicitDefEqProofs := false) [-List.map_drop, -List.map_take, -List.map_tail, -List.drop_one, -List.map_map, -List.filter_filter]
    refine law_with_sem ?_
    simp (implicitDefEqProofs := false) [-List.map_drop, -List.map_take, -List.map_tail, -List.drop_one, -List.map_map, -List.filter_filter]
    exact k p' ⟨l.pl, l.rows.map f⟩ (hp.mono (by omega)) (hl.rows hnm hok)
/-! _law_some -/
theorem law_some_sem {α : Type} {enc : α → D} {p : Pot} {n w : Nat} {l : List α} {Q : D × List D → Prop} (h : Pk n p) (hn : n + w ≤ 2 ^ 100) (hw : w ≤ l.length) (hl : l.length ≤ 10000)
    (k : ∀ (p' : Pot) (r rest : List α), Pk (n + w) p' → (r ++ rest).Perm l → r.length = w → Q (.lst (r.map enc), [p'.d])) : (F_f_law_some.sem [p.d, .lst (l.map enc), .int w]).sat Q := by
  rw [F_f_law_some_sem]
  refine semOf_sat (by rfl) ?_
  simp (implicitDefEqProofs := false) [-List.map_drop, -List.map_take, -List.map_tail, -List.drop_one, -List.map_map, -List.filter_filter, g_f_law_some]
  refine ⟨smI_lit (by omega) (by omega), ?_⟩
  rw [rngD_eq]
  refine forL_sat _ (fun pre ρ => ∃ (p' : Pot) (r rest : List α) (s3 : Sl), ρ = [.mt p'.d, .br (.lst (l.map enc)), .sh (.int w), s3, .ow (.lst (rest.map enc)), .ow (.lst (r.map enc))] ∧ s3.free = true ∧ Pk (n + pre.length) p' ∧ (r ++ rest).Perm l ∧ r.length = pre.length) _ ?_ ?_ ⟨p, [], l, .un, rfl, rfl, h, by simp, rfl⟩
  · rintro pre x post e _ ⟨p', r, rest, s3, rfl, hs, hp, hr, hl2⟩
    have hlen := congrArg List.length e
    have hlen2 := hr.length_eq
    simp at hlen hlen2
    refine ⟨_, by simp (implicitDefEqProofs := false) [-List.map_drop, -List.map_take, -List.map_tail, -List.drop_one, -List.map_map, -List.filter_filter, hs]; rfl, ?_⟩
    simp (implicitDefEqProofs := false) [-List.map_drop, -List.map_take, -List.map_tail, -List.drop_one, -List.map_map, -List.filter_filter]
    refine law_take_sem hp (by omega) (by omega) (by omega) fun i p2 h0 h1 hp2 => ?_
    obtain ⟨y, e1, e2⟩ := pop_map (enc := enc) (l := rest) h0 (by omega) (by omega)
    simp (implicitDefEqProofs := false) [-List.map_drop, -List.map_take, -List.map_tail, -List.drop_one, -List.map_map, -List.filter_filter, e2]
    refine ⟨by unfold sizeLine; omega, p2, r ++ [y], rest.eraseIdx i.toNat, .sh (.int x), ⟨rfl, by simp⟩, rfl, by simpa [Nat.add_assoc] using hp2, ?_, by simp [hl2]⟩
    refine List.Perm.trans ?_ hr
    rw [List.append_assoc]
    exact List.Perm.append_left _ (erase_perm e1)
  · rintro _ ⟨p', r, rest, s3, rfl, hs, hp, hr, hl2⟩
    simp (implicitDefEqProofs := false) [-List.map_drop, -List.map_take, -List.map_tail, -List.drop_one, -List.map_map, -List.filter_filter]
    simp at hp hl2
    exact k p' r rest hp hr hl2
end K95

set_option Elab.async false
set_option linter.all false
set_option maxRecDepth 100000
set_option maxHeartbeats 1000000
namespace K95
open PySem L2 Dx TL
/-! _law_names -/
def namePool : List Str := (["a", "b", "c", "d", "e", "f", "places", "unread", "known", "both", "book", "read", "drive", "strike"] : List Str) ++ (["many", "sure", "shut", "closed", "ask", "undo", "zzzzzzzz", "x", "y", "z", "go", "st", "alley", "lane"] : List Str)
theorem namePool_nd : namePool.Nodup := by decide +kernel
theorem namePool_ok : ∀ x ∈ namePool, NameOk x := by decide +kernel
theorem law_names_sem {p : Pot} {n w : Nat} {Q : D × List D → Prop} (h : Pk n p) (hn : n + w ≤ 2 ^ 100) (hw : w ≤ 28)
    (k : ∀ (p' : Pot) (r : List Str), Pk (n + w) p' → r.Nodup → (∀ x ∈ r, NameOk x) → r.length = w → Q (.lst (r.map .str), [p'.d])) : (F_f_law_names.sem [p.d, .int w]).sat Q := by
  rw [F_f_law_names_sem]
  refine semOf_sat (by rfl) ?_
  simp (implicitDefEqProofs := false) [-List.map_drop, -List.map_take, -List.map_tail, -List.drop_one, -List.map_map, -List.filter_filter, g_f_law_names]
  refine law_some_sem (enc := D.str) (l := namePool) h hn hw (by decide) fun p' r rest hp hr hl => ?_
  simp (implicitDefEqProofs := false) [-List.map_drop, -List.map_take, -List.map_tail, -List.drop_one, -List.map_map, -List.filter_filter]
  exact k p' r hp (perm_nodup hr namePool_nd) (fun x hx => namePool_ok x (perm_mem hr hx)) hl
/-! _law_of -/
theorem law_of_sem {α : Type} {enc : α → D} {p : Pot} {n : Nat} {l : List α} {Q : D × List D → Prop} (h : Pk n p) (hn : n + 1 ≤ 2 ^ 100) (h0 : 0 < l.length) (hl : l.length ≤ 10000)
    (k : ∀ (p' : Pot) (x : α), Pk (n + 1) p' → x ∈ l → Q (enc x, [p'.d])) : (F_f_law_of.sem [p.d, .lst (l.map enc)]).sat Q := by
  rw [F_f_law_of_sem]
  refine semOf_sat (by rfl) ?_
  simp (implicitDefEqProofs := false) [-List.map_drop, -List.map_take, -List.map_tail, -List.drop_one, -List.map_map, -List.filter_filter, g_f_law_of]
  refine law_take_sem h (by omega) (by omega) (by omega) fun i p' h0 h1 hp => ?_
  obtain ⟨y, e1, e2⟩ := atI_mem h0 h1
  simp (implicitDefEqProofs := false) [-List.map_drop, -List.map_take, -List.map_tail, -List.drop_one, -List.map_map, -List.filter_filter, e1]
  exact k p' y hp (List.mem_of_getElem? e2)
/-! _law_roads -/
theorem law_roads_sem {p : Pot} {n most more : Nat} {Q : D × List D → Prop} (h : Pk n p) (hn : n + 200 ≤ 2 ^ 100) (h2 : 2 ≤ most) (h9 : most ≤ 9) (h5 : more ≤ 30)
    (k : ∀ (p' : Pot) (P : List Str) (Z : List (Str × Str)), Pk (n + 200) p' → P.Nodup → (∀ x ∈ P, NameOk x) → 2 ≤ P.length → P.length ≤ most → (∀ z ∈ Z, PairOk P z) → Z.length ≤ 100 → Q (.tup [.lst (P.map .str), .lst (Z.map prD)], [p'.d])) : (F_f_law_roads.sem [p.d, .int most, .int more]).sat Q := by
  rw [F_f_law_roads_sem]
  refine semOf_sat (by rfl) ?_
  simp (implicitDefEqProofs := false) [-List.map_drop, -List.map_take, -List.map_tail, -List.drop_one, -List.map_map, -List.filter_filter, g_f_law_roads]
  refine law_names_sem (w := most) h (by omega) (by omega) fun p1 N hp1 Nnd Nok Nlen => ?_
  simp (implicitDefEqProofs := false) [-List.map_drop, -List.map_take, -List.map_tail, -List.drop_one, -List.map_map, -List.filter_filter]
  obtain ⟨u, eu, u1, u2⟩ : ∃ u : Int, (if (most : Int) - 1 < 3 then (most : Int) - 1 else 3) = u ∧ 0 < u ∧ u ≤ most - 1 ∧ u ≤ 3 := by
    split <;> exact ⟨_, rfl, by omega, by omega, by omega⟩
  simp (implicitDefEqProofs := false) [-List.map_drop, -List.map_take, -List.map_tail, -List.drop_one, -List.map_map, -List.filter_filter, eu]
  refine law_take_sem hp1 (by omega) (by omega) (by omega) fun i0 p2 a0 a1 hp2 => ?_
  obtain ⟨m0, rfl⟩ := Int.eq_ofNat_of_zero_le a0
  simp (implicitDefEqProofs := false) [-List.map_drop, -List.map_take, -List.map_tail, -List.drop_one, -List.map_map, -List.filter_filter]
  rw [cutL_to (by omega), show ((2 : Int) + (m0 : Int)).toNat = 2 + m0 by omega]
  have hP0 : (N.take (2 + m0)).length = 2 + m0 := by rw [List.length_take]; omega
  refine ⟨okLen_lit (by omega), ?_⟩
  rw [← List.map_append, lz_str (by rw [hP0]; unfold sizeLine; omega)]
  have R0 := ring_ok (pl := N.take (2 + m0)) (Nnd.sublist (List.take_sublist ..)) (by omega)
  have L0 : ((N.take (2 + m0)).zip ((N.take (2 + m0)).drop 1 ++ (N.take (2 + m0)).take 1)).length ≤ 9 := by simp; omega
  generalize (N.take (2 + m0)).zip ((N.take (2 + m0)).drop 1 ++ (N.take (2 + m0)).take 1) = Z0 at R0 L0 ⊢
  simp (implicitDefEqProofs := false) [-List.map_drop, -List.map_take, -List.map_tail, -List.drop_one, -List.map_map, -List.filter_filter]
  refine law_take_sem hp2 (by omega) (by omega) (by omega) fun i2 p4 c0 c1 hp4 => ?_
  obtain ⟨m2, rfl⟩ := Int.eq_ofNat_of_zero_le c0
  simp (implicitDefEqProofs := false) [-List.map_drop, -List.map_take, -List.map_tail, -List.drop_one, -List.map_map, -List.filter_filter]
  refine ⟨smI_lit (by omega) (by omega), ?_⟩
  rw [rngD_eq]
  refine forL_sat _ (fun pre ρ => ∃ (p' : Pot) (m : Nat) (Z : List (Str × Str)) (s7 s8 s9 s10 s11 : Sl), ρ = [.mt p'.d, .sh (.int most), .sh (.int more), .sh (.lst (N.map .str)), .sh (.int (2 + m0)), .sh (.lst ((N.take m).map .str)), .sh (.lst (Z.map prD)), s7, s8, s9, s10, s11] ∧ (s7.free = true ∧ s8.free = true ∧ s9.free = true ∧ s10.free = true ∧ s11.free = true) ∧ Pk (n + 20 + 3 * pre.length) p' ∧ 2 ≤ m ∧ m ≤ most ∧ (∀ z ∈ Z, PairOk (N.take m) z) ∧ Z.length ≤ 9 + 3 * pre.length) _ ?_ ?_ ⟨p4, 2 + m0, Z0, .un, .un, .un, .un, .un, rfl, ⟨rfl, rfl, rfl, rfl, rfl⟩, hp4.mono (by simp; omega), by omega, by omega, R0, by simpa using L0⟩
  · rintro pre x post e _ ⟨p', m, Z, s7, s8, s9, s10, s11, rfl, ⟨h7, h8, h9', h10, h11⟩, hp, hm2, hm9, hz, hzl⟩
    have hlen := congrArg List.length e
    simp at hlen
    have hPm : (N.take m).length = m := by rw [List.length_take]; omega
    refine ⟨_, by simp (implicitDefEqProofs := false) [-List.map_drop, -List.map_take, -List.map_tail, -List.drop_one, -List.map_map, -List.filter_filter, h7]; rfl, ?_⟩
    simp (implicitDefEqProofs := false) [-List.map_drop, -List.map_take, -List.map_tail, -List.drop_one, -List.map_map, -List.filter_filter]
    refine law_of_sem (enc := D.str) (l := N.take m) hp (by omega) (by omega) (by omega) fun p2 one hp2 hone => ?_
    simp (implicitDefEqProofs := false) [-List.map_drop, -List.map_take, -List.map_tail, -List.drop_one, -List.map_map, -List.filter_filter]
    refine law_of_sem (enc := D.str) (l := N.take m) hp2 (by omega) (by omega) (by omega) fun p3 other hp3 hother => ?_
    simp (implicitDefEqProofs := false) [-List.map_drop, -List.map_take, -List.map_tail, -List.drop_one, -List.map_map, -List.filter_filter, h9', h10]
    refine law_of_sem (enc := fun i : Nat => D.int i) (l := [0, 0, 1, 1, 2]) hp3 (by omega) (by decide) (by decide) fun p4 j hp4 hj => ?_
    have hj2 : j ≤ 2 := by simp at hj; omega
    rw [show min m N.length = m by omega]
    have hcut : cutL N (some (m : Int)) (some ((m : Int) + (j : Int))) = (N.drop m).take j := by
      rw [show (m : Int) + (j : Int) = ((m + j : Nat) : Int) by omega, cutL_mid, show m + j - m = j by omega]
    have eI : N.take (m + j) = N.take m ++ (N.drop m).take j := by rw [List.take_add]
    have eI2 : N.take m ++ (N.drop m).take j = N.take (m + ((N.drop m).take j).length) := by rw [← eI, List.length_take, List.length_drop, List.take_eq_take_iff]; omega
    have hIl : ((N.drop m).take j).length ≤ 2 := by rw [List.length_take]; omega
    have mI : m + ((N.drop m).take j).length ≤ most := by rw [List.length_take, List.length_drop]; omega
    generalize (N.drop m).take j = I at eI eI2 hIl mI hcut
    have nd2 : (N.take m ++ I).Nodup := by rw [← eI]; exact Nnd.sublist (List.take_sublist ..)
    by_cases c1 : I = []
    · subst c1
      by_cases c2 : one = other
      · subst c2
        simp (implicitDefEqProofs := false) [-List.map_drop, -List.map_take, -List.map_tail, -List.drop_one, -List.map_map, -List.filter_filter, hcut, h8, nes_nil]
        exact ⟨p4, m, Z, _, _, _, _, _, ⟨rfl, rfl, rfl, rfl, rfl, rfl, rfl, rfl⟩, ⟨rfl, rfl, rfl, rfl, h11⟩, hp4.mono (by omega), hm2, hm9, fun a b => hz (a, b), by omega⟩
      · have RR := road_ok (P := N.take m) (I := []) (by decide) (by simpa using nd2) hone hother (.inr c2)
        simp (implicitDefEqProofs := false) [-List.map_drop, -List.map_take, -List.map_tail, -List.drop_one, -List.map_map, -List.filter_filter, hcut, h8, c2, h11]
        refine ⟨okLen_lit (by omega), ?_⟩
        rw [show lzO [D.lst [D.str one, D.str other], D.lst [D.str other]] = some (.lst (([one, other].zip [other]).map prD)) from lz_str (l := [one, other]) (m := [other]) (by unfold sizeLine; simp), ofO_some, R.sat_ok]
        refine ⟨rfl, ?_⟩
        rw [add_l]
        refine ⟨okLen_lit (by simp; omega), p4, m, Z ++ [one, other].zip [other], _, _, _, _, _, ⟨rfl, rfl, by rw [List.map_append], rfl, rfl, rfl, rfl, rfl⟩, ⟨rfl, rfl, rfl, rfl, rfl⟩, hp4.mono (by omega), hm2, hm9, fun a b hab => ?_, by simp; omega⟩
        rcases List.mem_append.mp hab with z | z
        · exact hz (a, b) z
        · have := RR (a, b) z
          rwa [List.append_nil] at this
    · have RR := road_ok (P := N.take m) hIl nd2 hone hother (.inl c1)
      simp (implicitDefEqProofs := false) [-List.map_drop, -List.map_take, -List.map_tail, -List.drop_one, -List.map_map, -List.filter_filter, hcut, h8, nes_nil, nilB_f c1, h11]
      refine ⟨okLen_lit (by omega), okLen_lit (by omega), okLen_lit (by omega), ?_⟩
      have e1 : D.str one :: (I.map D.str ++ [D.str other]) = (one :: (I ++ [other])).map .str := by simp
      have e2 : I.map D.str ++ [D.str other] = (I ++ [other]).map .str := by simp
      rw [e1, e2, lz_str (by unfold sizeLine; simp; omega), ofO_some, R.sat_ok]
      refine ⟨rfl, ?_⟩
      rw [add_l]
      refine ⟨okLen_lit (by simp; omega), p4, m + I.length, Z ++ (one :: (I ++ [other])).zip (I ++ [other]), _, _, _, _, _, ⟨rfl, by rw [← eI2]; simp, by rw [List.map_append], rfl, rfl, rfl, rfl, rfl⟩, ⟨rfl, rfl, rfl, rfl, rfl⟩, hp4.mono (by omega), by omega, mI, fun a b hab => ?_, by simp; omega⟩
      rw [← eI2]
      rcases List.mem_append.mp hab with z | z
      · exact (hz (a, b) z).more
      · exact RR (a, b) z
  · rintro _ ⟨p', m, Z, s7, s8, s9, s10, s11, rfl, _, hp, hm2, hm9, hz, hzl⟩
    simp at hp hzl
    simp (implicitDefEqProofs := false) [-List.map_drop, -List.map_take, -List.map_tail, -List.drop_one, -List.map_map, -List.filter_filter]
    exact k p' (N.take m) Z (hp.mono (by omega)) (Nnd.sublist (List.take_sublist ..)) (fun x hx => Nok x (List.mem_of_mem_take hx)) (by rw [List.length_take]; omega) (by rw [List.length_take]; omega) hz (by omega)
/-! _law_town -/
theorem law_town_sem {p : Pot} {n most more : Nat} {ks : List Str} {Q : D × List D → Prop} (h : Pk n p) (hn : n + 400 ≤ 2 ^ 100) (h2 : 2 ≤ most) (h9 : most ≤ 9) (h5 : more ≤ 30) (hk0 : 0 < ks.length) (hk1 : ks.length ≤ 100) (hks : ∀ x ∈ ks, x ∈ kinds)
    (k : ∀ (p' : Pot) (l : Lore), Pk (n + 400) p' → LoreOk l → l.pl.length ≤ most → Q (l.dd, [p'.d])) : (F_f_law_town.sem [p.d, .int most, .int more, .lst (ks.map .str)]).sat Q := by
  rw [F_f_law_town_sem]
  refine semOf_sat (by rfl) ?_
  simp (implicitDefEqProofs := false) [-List.map_drop, -List.map_take, -List.map_tail, -List.drop_one, -List.map_map, -List.filter_filter, g_f_law_town]
  refine law_roads_sem h (by omega) h2 h9 h5 fun p1 P Z hp1 Pnd Pok P2 P9 hZ hZl => ?_
  simp (implicitDefEqProofs := false) [-List.map_drop, -List.map_take, -List.map_tail, -List.drop_one, -List.map_map, -List.filter_filter]
  obtain ⟨w, ew, hw⟩ : ∃ w : Nat, (if (Z.length : Int) < 20 then (Z.length : Int) else 20) = w ∧ w = min 20 Z.length := by
    split
    · exact ⟨Z.length, rfl, by omega⟩
    · exact ⟨20, rfl, by omega⟩
  simp (implicitDefEqProofs := false) [-List.map_drop, -List.map_take, -List.map_tail, -List.drop_one, -List.map_map, -List.filter_filter, ew]
  refine law_names_sem (w := w) hp1 (by omega) (by omega) fun p2 S hp2 Snd Sok Slen => ?_
  simp (implicitDefEqProofs := false) [-List.map_drop, -List.map_take, -List.map_tail, -List.drop_one, -List.map_map, -List.filter_filter]
  rw [zipD_map]
  refine forL_sat _ (fun pre ρ => ∃ (p' : Pot) (rs : List Row) (s8 s9 s10 s11 s12 : Sl), ρ = [.mt p'.d, .sh (.int most), .sh (.int more), .sh (.lst (ks.map .str)), .sh (.lst (P.map .str)), .sh (.lst (Z.map prD)), .sh (.lst (S.map .str)), .ow (.lst (rs.map Row.tup)), s8, s9, s10, s11, s12] ∧ (s8.free = true ∧ s9.free = true ∧ s10.free = true ∧ s11.free = true ∧ s12.free = true) ∧ Pk (n + 230 + 2 * pre.length) p' ∧ rs.map Row.nm = pre.map (·.1) ∧ ∀ r ∈ rs, RowOk P r) _ ?_ ?_ ⟨p2, [], .un, .un, .un, .un, .un, rfl, ⟨rfl, rfl, rfl, rfl, rfl⟩, hp2.mono (by simp; omega), rfl, by simp⟩
  · rintro pre ⟨nm, a, b⟩ post e _ ⟨p', rs, s8, s9, s10, s11, s12, rfl, ⟨h8, h9', h10, h11, h12⟩, hp, hnm, hok⟩
    have hlen := congrArg List.length e
    simp at hlen
    have hrl := congrArg List.length hnm
    simp at hrl
    have hm : (nm, (a, b)) ∈ S.zip Z := by rw [e]; simp
    have hnmS : nm ∈ S := (List.of_mem_zip hm).1
    have hab := hZ _ (List.of_mem_zip hm).2
    have fin : ∀ (p2 : Pot) (q : Row), Pk (n + 230 + 2 * (pre.length + 1)) p2 → q.nm = nm → RowOk P q → Pk (n + 230 + 2 * (pre.length + 1)) p2 ∧ (rs ++ [q]).map Row.nm = (pre ++ [(nm, a, b)]).map (·.1) ∧ ∀ r ∈ rs ++ [q], RowOk P r := by
      intro p2 q hp2 h1 h2
      refine ⟨hp2, by simp [hnm, h1], fun r hr => ?_⟩
      rcases List.mem_append.mp hr with hr | hr
      · exact hok r hr
      · rw [List.mem_singleton.mp hr]; exact h2
    refine ⟨_, by simp (implicitDefEqProofs := false) [-List.map_drop, -List.map_take, -List.map_tail, -List.drop_one, -List.map_map, -List.filter_filter, h8, h9', h10, h11, h12, prD]; rfl, ?_⟩
    simp (implicitDefEqProofs := false) [-List.map_drop, -List.map_take, -List.map_tail, -List.drop_one, -List.map_map, -List.filter_filter, h9', h10]
    refine law_of_sem (enc := D.str) (l := ks) hp (by omega) hk0 (by omega) fun p3 kd hp3 hkd => ?_
    have o1 : ∀ b' : Bool, RowOk P (if b' then ⟨nm, kd, b, a⟩ else ⟨nm, kd, a, b⟩) := fun b' => by
      cases b'
      · exact ⟨Sok _ hnmS, hks _ hkd, hab.1, hab.2.1, hab.2.2⟩
      · exact ⟨Sok _ hnmS, hks _ hkd, hab.2.1, hab.1, fun z => hab.2.2 z.symm⟩
    by_cases c1 : kd = "known"
    · simp (implicitDefEqProofs := false) [-List.map_drop, -List.map_take, -List.map_tail, -List.drop_one, -List.map_map, -List.filter_filter, c1, h9', h10]
      refine law_take_sem hp3 (by omega) (by omega) (by omega) fun i p4 a0 a1 hp4 => ?_
      by_cases c2 : i = 0
      · simp (implicitDefEqProofs := false) [-List.map_drop, -List.map_take, -List.map_tail, -List.drop_one, -List.map_map, -List.filter_filter, c2, h9', h10]
        refine ⟨by unfold sizeLine; omega, p4, rs ++ [⟨nm, "known", b, a⟩], _, _, _, _, _, ⟨rfl, by simp [Row.tup], rfl, rfl, rfl, rfl, rfl⟩, ⟨rfl, rfl, rfl, rfl, rfl⟩, ?_⟩
        simpa using fin p4 ⟨nm, "known", b, a⟩ (hp4.mono (by omega)) rfl (c1 ▸ o1 true)
      · simp (implicitDefEqProofs := false) [-List.map_drop, -List.map_take, -List.map_tail, -List.drop_one, -List.map_map, -List.filter_filter, c2, h9', h10]
        refine ⟨by unfold sizeLine; omega, p4, rs ++ [⟨nm, "known", a, b⟩], _, _, _, _, _, ⟨rfl, by simp [Row.tup], rfl, rfl, rfl, rfl, rfl⟩, ⟨rfl, rfl, rfl, rfl, rfl⟩, ?_⟩
        simpa using fin p4 ⟨nm, "known", a, b⟩ (hp4.mono (by omega)) rfl (c1 ▸ o1 false)
    · simp (implicitDefEqProofs := false) [-List.map_drop, -List.map_take, -List.map_tail, -List.drop_one, -List.map_map, -List.filter_filter, c1, h9', h10]
      refine law_take_sem hp3 (by omega) (by omega) (by omega) fun i p4 a0 a1 hp4 => ?_
      by_cases c2 : i = 0
      · simp (implicitDefEqProofs := false) [-List.map_drop, -List.map_take, -List.map_tail, -List.drop_one, -List.map_map, -List.filter_filter, c1, c2, h9', h10]
        refine ⟨by unfold sizeLine; omega, p4, rs ++ [⟨nm, kd, b, a⟩], _, _, _, _, _, ⟨rfl, by simp [Row.tup], rfl, rfl, rfl, rfl, rfl⟩, ⟨rfl, rfl, rfl, rfl, rfl⟩, ?_⟩
        simpa using fin p4 ⟨nm, kd, b, a⟩ (hp4.mono (by omega)) rfl (o1 true)
      · simp (implicitDefEqProofs := false) [-List.map_drop, -List.map_take, -List.map_tail, -List.drop_one, -List.map_map, -List.filter_filter, c1, c2, h9', h10]
        refine ⟨by unfold sizeLine; omega, p4, rs ++ [⟨nm, kd, a, b⟩], _, _, _, _, _, ⟨rfl, by simp [Row.tup], rfl, rfl, rfl, rfl, rfl⟩, ⟨rfl, rfl, rfl, rfl, rfl⟩, ?_⟩
        simpa using fin p4 ⟨nm, kd, a, b⟩ (hp4.mono (by omega)) rfl (o1 false)
  · rintro _ ⟨p9, rs, s8, s9, s10, s11, s12, rfl, _, hp9, hnm, hok⟩
    have hrl := congrArg List.length hnm
    simp at hrl hp9
    simp (implicitDefEqProofs := false) [-List.map_drop, -List.map_take, -List.map_tail, -List.drop_one, -List.map_map, -List.filter_filter]
    refine law_some_sem (enc := D.str) (l := P) (w := P.length) hp9 (by omega) (Nat.le_refl _) (by omega) fun p10 r1 rest1 hp10 hr1 hl1 => ?_
    simp (implicitDefEqProofs := false) [-List.map_drop, -List.map_take, -List.map_tail, -List.drop_one, -List.map_map, -List.filter_filter]
    refine law_some_sem (enc := Row.tup) (l := rs) (w := rs.length) hp10 (by omega) (Nat.le_refl _) (by omega) fun p11 r2 rest2 hp11 hr2 hl2 => ?_
    simp (implicitDefEqProofs := false) [-List.map_drop, -List.map_take, -List.map_tail, -List.drop_one, -List.map_map, -List.filter_filter, strKs_cons, dicOf_ps]
    have q1 := perm_whole hr1 hl1
    have q2 := perm_whole hr2 hl2
    refine k p11 ⟨r1, r2⟩ (hp11.mono (by omega)) ⟨q1.nodup_iff.mpr Pnd, by show 2 ≤ r1.length; omega, by show r1.length ≤ 9; omega, fun x hx => Pok x (q1.mem_iff.mp hx), ?_, by show r2.length ≤ 20; omega, ?_⟩ (by show r1.length ≤ most; omega)
    · refine (q2.map Row.nm).nodup_iff.mpr ?_
      rw [hnm, List.map_fst_zip (by omega)]
      exact Snd
    · intro r hr
      have := hok r (q2.mem_iff.mp hr)
      exact ⟨this.nm, this.kd, q1.mem_iff.mpr this.a, q1.mem_iff.mpr this.b, this.ne⟩
/-! _law_rim -/
theorem law_rim_sem {l : Lore} {s : List Str} {Q : D × List D → Prop} (h : LoreOk l) (k : Q (.lst ((l.rows.filter (rimB s)).map Row.tup), [])) : (F_f_law_rim.sem [l.dd, strT s]).sat Q := by
  rw [F_f_law_rim_sem]
  refine semOf_sat (by rfl) ?_
  have hfew := h.few
  simp (implicitDefEqProofs := false) [-List.map_drop, -List.map_take, -List.map_tail, -List.drop_one, -List.map_map, -List.filter_filter, g_f_law_rim, Lore.dd, dd_st, strT]
  refine lcL_pure Row.tup (rimB s) Row.tup l.rows ?_ (by unfold sizeLine; omega) ?_
  · intro x hx
    refine ⟨_, by simp (implicitDefEqProofs := false) [-List.map_drop, -List.map_take, -List.map_tail, -List.drop_one, -List.map_map, -List.filter_filter, Row.tup]; rfl, ?_⟩
    cases e : rimB s x <;> (unfold rimB at e; simp (implicitDefEqProofs := false) [-List.map_drop, -List.map_take, -List.map_tail, -List.drop_one, -List.map_map, -List.filter_filter, e, Row.tup])
  · simp (implicitDefEqProofs := false) [-List.map_drop, -List.map_take, -List.map_tail, -List.drop_one, -List.map_map, -List.filter_filter]
    exact k
/-! _law_does_bar -/
theorem law_does_bar_sem {l : Lore} {s : List Str} {Q : D × List D → Prop} (h : LoreOk l) (k : Q (.bl (barB l s), [])) : (F_f_law_does_bar.sem [l.dd, strT s]).sat Q := by
  rw [F_f_law_does_bar_sem]
  refine semOf_sat (by rfl) ?_
  have hfew := h.few
  simp (implicitDefEqProofs := false) [-List.map_drop, -List.map_take, -List.map_tail, -List.drop_one, -List.map_map, -List.filter_filter, g_f_law_does_bar]
  refine law_rim_sem h ?_
  have hfl := List.length_filter_le (rimB s) l.rows
  simp (implicitDefEqProofs := false) [-List.map_drop, -List.map_take, -List.map_tail, -List.drop_one, -List.map_map, -List.filter_filter]
  refine lcL_pure Row.tup (outB s) Row.tup (l.rows.filter (rimB s)) ?_ (by unfold sizeLine; omega) ?_
  · intro x hx
    refine ⟨_, by simp (implicitDefEqProofs := false) [-List.map_drop, -List.map_take, -List.map_tail, -List.drop_one, -List.map_map, -List.filter_filter, Row.tup]; rfl, ?_⟩
    by_cases c1 : x.kd = "known"
    · by_cases c2 : x.a ∈ s
      · simp (implicitDefEqProofs := false) [-List.map_drop, -List.map_take, -List.map_tail, -List.drop_one, -List.map_map, -List.filter_filter, outB, c1, c2, Row.tup, strT]
      · simp (implicitDefEqProofs := false) [-List.map_drop, -List.map_take, -List.map_tail, -List.drop_one, -List.map_map, -List.filter_filter, outB, c1, c2, Row.tup, strT]
    · simp (implicitDefEqProofs := false) [-List.map_drop, -List.map_take, -List.map_tail, -List.drop_one, -List.map_map, -List.filter_filter, outB, c1, Row.tup]
  · have en : eqO (.lst (((l.rows.filter (rimB s)).filter (outB s)).map Row.tup)) (.lst []) = some (.bl (nilB ((l.rows.filter (rimB s)).filter (outB s)))) := eq_nilL (row_flt _)
    simp (implicitDefEqProofs := false) [-List.map_drop, -List.map_take, -List.map_tail, -List.drop_one, -List.map_map, -List.filter_filter, en]
    unfold barB at k
    cases e : nilB ((l.rows.filter (rimB s)).filter (outB s)) with
    | true => rw [e] at k; simp (implicitDefEqProofs := false) [-List.map_drop, -List.map_take, -List.map_tail, -List.drop_one, -List.map_map, -List.filter_filter, e]; exact k
    | false =>
      rw [e] at k
      match e2 : l.rows.filter (rimB s), k with
      | [], k => rw [e2] at e; exact absurd e (by simp [nilB])
      | [r], k =>
        rw [e2] at e
        simp (implicitDefEqProofs := false) [-List.map_drop, -List.map_take, -List.map_tail, -List.drop_one, -List.map_map, -List.filter_filter, e, Row.tup]
        simpa using k
      | r :: q :: rest, k =>
        rw [e2] at e
        simp (implicitDefEqProofs := false) [-List.map_drop, -List.map_take, -List.map_tail, -List.drop_one, -List.map_map, -List.filter_filter, e, show ¬((rest.length : Int) + 1 + 1 = 1) by omega]
        simpa using k
end K95

set_option Elab.async false
set_option linter.all false
set_option maxRecDepth 100000
set_option maxHeartbeats 1000000
namespace K95
open PySem L2 Dx TL
/-! _law_sets -/
theorem law_sets_sem {l : Lore} {Q : D × List D → Prop} (h : LoreOk l) (k : Q (.lst ((cutL (parts l.pl) (some 1) (some (-1))).map strT), [])) : (F_f_law_sets.sem [l.dd]).sat Q := by
  rw [F_f_law_sets_sem]
  refine semOf_sat (by rfl) ?_
  have hhi := h.hi
  simp (implicitDefEqProofs := false) [-List.map_drop, -List.map_take, -List.map_tail, -List.drop_one, -List.map_map, -List.filter_filter, g_f_law_sets, Lore.dd, dd_pl]
  refine forL_sat _ (fun pre ρ => ∃ s2 : Sl, ρ = [.sh l.dd, .sh (.lst ((parts pre).map strT)), s2, .un] ∧ s2.free = true) _ ?_ ?_ ⟨.un, rfl, rfl⟩
  · rintro pre x post e _ ⟨s2, rfl, h2⟩
    have hp := congrArg List.length e
    simp at hp
    have hq : (parts pre).length ≤ 2 ^ 9 := by rw [(parts_ok pre).1]; exact Nat.pow_le_pow_right (by decide) (by omega)
    refine ⟨_, by simp (implicitDefEqProofs := false) [-List.map_drop, -List.map_take, -List.map_tail, -List.drop_one, -List.map_map, -List.filter_filter, h2]; rfl, ?_⟩
    simp (implicitDefEqProofs := false) [-List.map_drop, -List.map_take, -List.map_tail, -List.drop_one, -List.map_map, -List.filter_filter, h2]
    refine lcL_map strT (fun s => strT (s ++ [x])) _ ?_ (by unfold sizeLine; omega) ?_
    · intro s hs
      have hsl : s.length ≤ pre.length := ((parts_ok pre).2.1 s hs).length_le
      refine ⟨_, by simp (implicitDefEqProofs := false) [-List.map_drop, -List.map_take, -List.map_tail, -List.drop_one, -List.map_map, -List.filter_filter]; rfl, ?_⟩
      simp (implicitDefEqProofs := false) [-List.map_drop, -List.map_take, -List.map_tail, -List.drop_one, -List.map_map, -List.filter_filter, strT]
      exact okLen_lit (by omega)
    · try simp (implicitDefEqProofs := false) [-List.map_drop, -List.map_take, -List.map_tail, -List.drop_one, -List.map_map, -List.filter_filter]
      refine ⟨okLen_lit (by omega), ?_⟩
      rw [parts_add]
      exact ⟨_, ⟨by rw [List.map_append, List.map_map]; rfl, rfl⟩, rfl⟩
  · rintro _ ⟨s2, rfl, h2⟩
    try simp (implicitDefEqProofs := false) [-List.map_drop, -List.map_take, -List.map_tail, -List.drop_one, -List.map_map, -List.filter_filter]
    exact k
/-! _law_has_map -/
theorem law_has_map_sem {l : Lore} {Q : D × List D → Prop} (h : LoreOk l) (k : Q (.bl (nbB l.pl l.rows), [])) : (F_f_law_has_map.sem [l.dd]).sat Q := by
  rw [F_f_law_has_map_sem]
  refine semOf_sat (by rfl) ?_
  have hhi := h.hi
  simp (implicitDefEqProofs := false) [-List.map_drop, -List.map_take, -List.map_tail, -List.drop_one, -List.map_map, -List.filter_filter, g_f_law_has_map]
  refine law_sets_sem h ?_
  have hln : (cutL (parts l.pl) (some 1) (some (-1))).length ≤ 512 := by
    have e1 : (cutL (parts l.pl) (some 1) (some (-1))).length ≤ (parts l.pl).length := cutL_len
    have e2 := (parts_ok l.pl).1
    have : 2 ^ l.pl.length ≤ 2 ^ 9 := Nat.pow_le_pow_right (by decide) hhi
    omega
  have hany : (cutL (parts l.pl) (some 1) (some (-1))).any (barB l) = !nbB l.pl l.rows := by
    have e := nb_sets h
    cases q : nbB l.pl l.rows with
    | true =>
      rw [Bool.not_true, List.any_eq_false]
      intro s hs
      rw [e.mpr (nbB_iff.mp q) s hs]
      simp
    | false =>
      rw [Bool.not_false]
      cases q2 : (cutL (parts l.pl) (some 1) (some (-1))).any (barB l) with
      | true => rfl
      | false =>
        rw [List.any_eq_false] at q2
        have := nbB_iff.mpr (e.mp fun s hs => by simpa using q2 s hs)
        rw [q] at this; cases this
  generalize cutL (parts l.pl) (some 1) (some (-1)) = ST at hln hany ⊢
  simp (implicitDefEqProofs := false) [-List.map_drop, -List.map_take, -List.map_tail, -List.drop_one, -List.map_map, -List.filter_filter]
  refine lcL_map strT (fun s => .bl (barB l s)) ST ?_ (by unfold sizeLine; omega) ?_
  · intro s hs
    refine ⟨_, by simp (implicitDefEqProofs := false) [-List.map_drop, -List.map_take, -List.map_tail, -List.drop_one, -List.map_map, -List.filter_filter]; rfl, ?_⟩
    simp (implicitDefEqProofs := false) [-List.map_drop, -List.map_take, -List.map_tail, -List.drop_one, -List.map_map, -List.filter_filter]
    refine law_does_bar_sem h ?_
    simp (implicitDefEqProofs := false) [-List.map_drop, -List.map_take, -List.map_tail, -List.drop_one, -List.map_map, -List.filter_filter]
  simp (implicitDefEqProofs := false) [-List.map_drop, -List.map_take, -List.map_tail, -List.drop_one, -List.map_map, -List.filter_filter, any_map, hany]
  simpa using k
/-! known_streets -/
theorem known_streets_sem {l : Lore} {c : Str} {Q : D × List D → Prop} (h : LoreOk l) (hc : TC c) (k : Q (strL ((l.rows.filter knB).map Row.nm), [])) : (F_f_known_streets.sem [T c l]).sat Q := by
  rw [F_f_known_streets_sem]
  refine semOf_sat (by rfl) ?_
  have hfew := h.few
  simp (implicitDefEqProofs := false) [-List.map_drop, -List.map_take, -List.map_tail, -List.drop_one, -List.map_map, -List.filter_filter, g_f_known_streets, fr hc, itemD, List.map_map]
  refine lcL_pure _ knB (fun r => .str r.nm) l.rows ?_ (by unfold sizeLine; omega) ?_
  · intro x hx
    refine ⟨_, by simp (implicitDefEqProofs := false) [-List.map_drop, -List.map_take, -List.map_tail, -List.drop_one, -List.map_map, -List.filter_filter, Row.dic]; rfl, ?_⟩
    cases e : knB x <;> (unfold knB at e; simp (implicitDefEqProofs := false) [-List.map_drop, -List.map_take, -List.map_tail, -List.drop_one, -List.map_map, -List.filter_filter, e, c_KNOWN])
  · try simp (implicitDefEqProofs := false) [-List.map_drop, -List.map_take, -List.map_tail, -List.drop_one, -List.map_map, -List.filter_filter]
    unfold strL at k
    rw [List.map_map] at k
    exact k
/-! Town.unread -/
theorem unread_sem {l : Lore} {c : Str} {Q : D × List D → Prop} (h : LoreOk l) (hc : TC c) (k : Q (strT l.unr, [])) : (F_m_Town_unread.sem [T c l]).sat Q := by
  rw [F_m_Town_unread_sem]
  refine semOf_sat (by rfl) ?_
  have hfew := h.few
  simp (implicitDefEqProofs := false) [-List.map_drop, -List.map_take, -List.map_tail, -List.drop_one, -List.map_map, -List.filter_filter, g_m_Town_unread, fr hc, itemD, List.map_map]
  refine lcL_pure _ unrB (fun r => .str r.nm) l.rows ?_ (by unfold sizeLine; omega) ?_
  · intro x hx
    refine ⟨_, by simp (implicitDefEqProofs := false) [-List.map_drop, -List.map_take, -List.map_tail, -List.drop_one, -List.map_map, -List.filter_filter, Row.dic]; rfl, ?_⟩
    cases e : unrB x <;> (unfold unrB at e; simp (implicitDefEqProofs := false) [-List.map_drop, -List.map_take, -List.map_tail, -List.drop_one, -List.map_map, -List.filter_filter, e, c_UNREAD])
  · try simp (implicitDefEqProofs := false) [-List.map_drop, -List.map_take, -List.map_tail, -List.drop_one, -List.map_map, -List.filter_filter]
    unfold Lore.unr strT at k
    rw [List.map_map] at k
    exact k
theorem tun {l : Lore} {c : Str} (hc : TC c) : ((insC (T c l)).bind fun c => t_unread.lookup c) = some F_m_Town_unread := by rcases hc with rfl | rfl <;> kernel_rfl
/-! roads_from -/
theorem roads_from_sem {A : List Arr} {p : Str} {pl : List Str} {Q : D × List D → Prop} (hA : ∀ a ∈ A, a.2.1 ∈ pl ∧ a.2.2 ∈ pl) (hp : p ∈ pl) (h9 : pl.length ≤ 9)
    (k : ∀ f : List (Str × D), (ks f).Nodup → (∀ x, x ∈ ks f ↔ Rch A p x) → Q (.dic f, [])) : (F_f_roads_from.sem [.lst (A.map arD), .str p]).sat Q := by
  rw [F_f_roads_from_sem]
  refine semOf_sat (by rfl) ?_
  simp (implicitDefEqProofs := false) [-List.map_drop, -List.map_take, -List.map_tail, -List.drop_one, -List.map_map, -List.filter_filter, g_f_roads_from]
  refine whF_sat (fun m ρ => ∃ (f : List (Str × D)) (n : Nat) (s5 s6 s7 : Sl), ρ = [.sh (.lst (A.map arD)), .sh (.str p), .ow (.dic f), .ow (.lst ((ks f).map .str)), .sh (.int n), s5, s6, s7] ∧ (s5.free = true ∧ s6.free = true ∧ s7.free = true) ∧ RdI A p f n ∧ 9 - n = m) ?_ fuel0 9 _ (by decide)
    ⟨[(p, strL [])], 0, .un, .un, .un, rfl, ⟨rfl, rfl, rfl⟩, .init, by omega⟩
  rintro m _ ⟨f, n, s5, s6, s7, rfl, ⟨h5, h6, h7⟩, hI, hm⟩
  have hf9 := hI.len hA hp
  have hle := hI.le
  have hkl : (ks f).length = f.length := by simp [ks]
  by_cases hn : n < f.length
  · simp (implicitDefEqProofs := false) [-List.map_drop, -List.map_take, -List.map_tail, -List.drop_one, -List.map_map, -List.filter_filter, hn]
    obtain ⟨c, hc⟩ : ∃ c, (ks f)[n]? = some c := ⟨_, List.getElem?_eq_getElem (by simpa using hn)⟩
    refine forL_sat arD (fun pre ρ => ∃ (f' : List (Str × D)) (s5 s6 s7 : Sl), ρ = [.sh (.lst (A.map arD)), .sh (.str p), .ow (.dic f'), .ow (.lst ((ks f').map .str)), .sh (.int n), s5, s6, s7] ∧ (s5.free = true ∧ s6.free = true ∧ s7.free = true) ∧ RdJ A p f c pre f') _ ?_ ?_ ⟨f, s5, s6, s7, rfl, ⟨h5, h6, h7⟩, hI.start⟩
    · rintro pre ⟨s, o, t⟩ post ea _ ⟨f', s5, s6, s7, rfl, ⟨h5, h6, h7⟩, hJ⟩
      have hm1 : (s, o, t) ∈ A := by rw [ea]; simp
      have hlk : (f'.lookup t).isSome = decide (t ∈ ks f') := lk_mem
      have hl := hJ.len hA hp
      obtain ⟨lat, el⟩ := hJ.e
      have hc' : (ks f')[n]? = some c := by rw [el, List.getElem?_append_left (by simpa using hn)]; exact hc
      have hat : atI (ks f') (n : Int) = some c := by rw [atI_nat (n := n) rfl (by rw [List.getElem?_eq_some_iff] at hc'; exact hc'.1)]; exact hc'
      refine ⟨_, by simp (implicitDefEqProofs := false) [-List.map_drop, -List.map_take, -List.map_tail, -List.drop_one, -List.map_map, -List.filter_filter, h5, h6, h7, arD]; rfl, ?_⟩
      by_cases c1 : o = c
      · by_cases c2 : t ∈ ks f'
        · simp (implicitDefEqProofs := false) [-List.map_drop, -List.map_take, -List.map_tail, -List.drop_one, -List.map_map, -List.filter_filter, c1, hlk, c2, -List.mem_map, hat]
          exact ⟨f', _, _, _, ⟨rfl, rfl, rfl, rfl, rfl⟩, ⟨rfl, rfl, rfl⟩, hJ.skip fun _ => c2⟩
        · have ho : o ∈ ks f' := by rw [c1]; exact List.mem_of_getElem? hc'
          obtain ⟨r, er, hr⟩ := hJ.road ho
          rw [c1] at er ho hm1
          simp (implicitDefEqProofs := false) [-List.map_drop, -List.map_take, -List.map_tail, -List.drop_one, -List.map_map, -List.filter_filter, c1, hlk, c2, -List.mem_map, hat, er, strL]
          refine ⟨okLen_lit (by omega), by unfold sizeLine; omega, _, _, _, _, ⟨rfl, by rw [putD_out c2]; simp, rfl, rfl, rfl⟩, ⟨rfl, rfl, rfl⟩, ?_⟩
          have := hJ.add ho hm1 c2 hr
          simpa [strL] using this
      · simp (implicitDefEqProofs := false) [-List.map_drop, -List.map_take, -List.map_tail, -List.drop_one, -List.map_map, -List.filter_filter, c1, hat]
        exact ⟨f', _, _, _, ⟨rfl, rfl, rfl, rfl, rfl⟩, ⟨rfl, rfl, rfl⟩, hJ.skip fun z => absurd z c1⟩
    · rintro _ ⟨f', s5, s6, s7, rfl, ⟨h5, h6, h7⟩, hJ⟩
      simp (implicitDefEqProofs := false) [-List.map_drop, -List.map_take, -List.map_tail, -List.drop_one, -List.map_map, -List.filter_filter]
      exact ⟨9 - (n + 1), by omega, f', n + 1, s5, s6, s7, ⟨rfl, rfl, by omega, rfl, rfl, rfl⟩, ⟨h5, h6, h7⟩, hJ.done hI hc, rfl⟩
  · simp (implicitDefEqProofs := false) [-List.map_drop, -List.map_take, -List.map_tail, -List.drop_one, -List.map_map, -List.filter_filter, hn]
    exact k f hI.nd (hI.fin hn)
/-! ends_by -/
theorem ends_by_sem {l : Lore} {c : Str} {r : Row} {b : Bool} {Q : D × List D → Prop} (h : LoreOk l) (hc : TC c) (hr : r ∈ l.rows) (k : Q (if b then .tup [.str r.a, .str r.b] else .tup [.str r.b, .str r.a], [])) : (F_f_ends_by.sem [T c l, .str r.nm, .str (sgD b)]).sat Q := by
  rw [F_f_ends_by_sem]
  refine semOf_sat (by rfl) ?_
  simp (implicitDefEqProofs := false) [-List.map_drop, -List.map_take, -List.map_tail, -List.drop_one, -List.map_map, -List.filter_filter, g_f_ends_by, fr hc, lookup_some_of h.rnd hr, c_AS_WRITTEN]
  cases b with
  | true => simpa [sgD] using k
  | false => simp (implicitDefEqProofs := false) [-List.map_drop, -List.map_take, -List.map_tail, -List.drop_one, -List.map_map, -List.filter_filter, show sgD false = Str.ofString "<" from rfl, show ¬ (Str.ofString "<" = Str.ofString ">") by decide +kernel]; simpa using k
end K95

set_option Elab.async false
set_option linter.all false
set_option maxRecDepth 100000
set_option maxHeartbeats 1000000
namespace K95
open PySem L2 Dx TL
/-! arrows -/
theorem arrows_none_sem {l : Lore} {c : Str} {Q : D × List D → Prop} (h : LoreOk l) (hc : TC c) (k : Q (.lst ((waysA l.rows).map arD), [])) : (F_f_arrows.sem [T c l, .non]).sat Q := by
  rw [F_f_arrows_sem]
  refine semOf_sat (by rfl) ?_
  have hfew := h.few
  simp (implicitDefEqProofs := false) [-List.map_drop, -List.map_take, -List.map_tail, -List.drop_one, -List.map_map, -List.filter_filter, g_f_arrows, fr hc, itemD, List.map_map]
  refine forL_sat _ (fun pre ρ => ∃ (n : Int) (s4 s5 s6 s7 s8 : Sl), ρ = [.sh (T c l), .sh .non, .ow (.lst ((waysA pre).map arD)), .sh (.int n), s4, s5, s6, s7, s8] ∧ s4.free = true ∧ s5.free = true ∧ s6.free = true ∧ s7.free = true ∧ s8.free = true ∧ 0 ≤ n ∧ n ≤ pre.length) _ ?_ ?_ ⟨0, .un, .un, .un, .un, .un, rfl, rfl, rfl, rfl, rfl, rfl, by decide, by decide⟩
  · rintro pre r post e _ ⟨n, s4, s5, s6, s7, s8, rfl, h4, h5, h6, h7, h8, n0, n1⟩
    have hr : r ∈ l.rows := by rw [e]; simp
    have hal := ways_len pre
    have hpl := congrArg List.length e
    simp at hpl
    refine ⟨_, by simp (implicitDefEqProofs := false) [-List.map_drop, -List.map_take, -List.map_tail, -List.drop_one, -List.map_map, -List.filter_filter, h4, h5, h6, h7, Row.dic]; rfl, ?_⟩
    have hk : r.kd = "unread" ∨ r.kd = "known" ∨ r.kd = "both" := by have := (h.ok r hr).kd; simpa [kinds] using this
    have ub := kd_ub
    have kb := kd_kb
    have uk := kd_uk
    rcases hk with hk | hk | hk
    · simp (implicitDefEqProofs := false) [-List.map_drop, -List.map_take, -List.map_tail, -List.drop_one, -List.map_map, -List.filter_filter, hk, ub, uk, c_KNOWN, c_UNREAD, c_AS_WRITTEN, h8]
      refine ⟨by unfold sizeLine; omega, _, _, _, _, _, _, ⟨by rw [ways_add, way_two (by rw [hk]; exact uk)]; simp [arD], rfl, rfl, rfl, rfl, rfl, rfl⟩, rfl, rfl, rfl, rfl, h8, by omega, by omega⟩
    · simp (implicitDefEqProofs := false) [-List.map_drop, -List.map_take, -List.map_tail, -List.drop_one, -List.map_map, -List.filter_filter, hk, kb, uk.symm, c_KNOWN, c_UNREAD, c_AS_WRITTEN, h8]
      refine ends_by_sem (b := true) h hc hr ?_
      simp (implicitDefEqProofs := false) [-List.map_drop, -List.map_take, -List.map_tail, -List.drop_one, -List.map_map, -List.filter_filter]
      refine ⟨by unfold sizeLine; omega, _, _, _, _, _, _, ⟨by rw [ways_add, way_one hk]; simp [arD], rfl, rfl, rfl, rfl, rfl, rfl⟩, rfl, rfl, rfl, rfl, rfl, by omega, by omega⟩
    · simp (implicitDefEqProofs := false) [-List.map_drop, -List.map_take, -List.map_tail, -List.drop_one, -List.map_map, -List.filter_filter, hk, ub.symm, kb.symm, c_KNOWN, c_UNREAD, c_AS_WRITTEN, h8]
      refine ⟨by unfold sizeLine; omega, _, _, _, _, _, _, ⟨by rw [ways_add, way_two (by rw [hk]; exact kb.symm)]; simp [arD], rfl, rfl, rfl, rfl, rfl, rfl⟩, rfl, rfl, rfl, rfl, h8, by omega, by omega⟩
  · rintro _ ⟨n, s4, s5, s6, s7, s8, rfl, _⟩
    simp (implicitDefEqProofs := false) [-List.map_drop, -List.map_take, -List.map_tail, -List.drop_one, -List.map_map, -List.filter_filter]
    exact k
/-! in_sequence -/
theorem in_sequence_gen {l : Lore} {c : Str} {d : D} {p : Str → Bool} {Q : D × List D → Prop} (h : LoreOk l) (hc : TC c) (hd : ∀ x, inO2 (.str x) d = some (.bl (p x))) (k : Q (strT (l.pl.filter p), [])) : (F_f_in_sequence.sem [T c l, d]).sat Q := by
  rw [F_f_in_sequence_sem]
  refine semOf_sat (by rfl) ?_
  have hhi := h.hi
  simp (implicitDefEqProofs := false) [-List.map_drop, -List.map_take, -List.map_tail, -List.drop_one, -List.map_map, -List.filter_filter, g_f_in_sequence, fp hc, strT]
  refine lcL_pure D.str p D.str l.pl ?_ (by unfold sizeLine; omega) ?_
  · intro x hx
    refine ⟨_, by simp (implicitDefEqProofs := false) [-List.map_drop, -List.map_take, -List.map_tail, -List.drop_one, -List.map_map, -List.filter_filter]; rfl, ?_⟩
    cases hm : p x <;> simp (implicitDefEqProofs := false) [-List.map_drop, -List.map_take, -List.map_tail, -List.drop_one, -List.map_map, -List.filter_filter, hd, hm]
  · simp (implicitDefEqProofs := false) [-List.map_drop, -List.map_take, -List.map_tail, -List.drop_one, -List.map_map, -List.filter_filter]; exact k
theorem in_sequence_sem {l : Lore} {c : Str} {s : List Str} {Q : D × List D → Prop} (h : LoreOk l) (hc : TC c) (k : Q (strT (l.pl.filter fun p => decide (p ∈ s)), [])) : (F_f_in_sequence.sem [T c l, strT s]).sat Q :=
  in_sequence_gen h hc (fun x => by simp [strT]) k
/-! both_ways -/
theorem both_ways_sem {l : Lore} {c : Str} {Q : D × List D → Prop} (h : LoreOk l) (hc : TC c) (k : Q (.lst ((bothA l.rows).map arD), [])) : (F_f_both_ways.sem [T c l]).sat Q := by
  rw [F_f_both_ways_sem]
  refine semOf_sat (by rfl) ?_
  have hfew := h.few
  simp (implicitDefEqProofs := false) [-List.map_drop, -List.map_take, -List.map_tail, -List.drop_one, -List.map_map, -List.filter_filter, g_f_both_ways, fr hc, itemD, List.map_map]
  refine forL_sat _ (fun pre ρ => ∃ (s2 s3 s4 s5 : Sl), ρ = [.sh (T c l), .ow (.lst ((bothA pre).map arD)), s2, s3, s4, s5] ∧ s2.free = true ∧ s3.free = true ∧ s4.free = true ∧ s5.free = true) _ ?_ ?_ ⟨.un, .un, .un, .un, rfl, rfl, rfl, rfl, rfl⟩
  · rintro pre r post e _ ⟨s2, s3, s4, s5, rfl, h2, h3, h4, h5⟩
    have hal := both_len pre
    have hpl := congrArg List.length e
    simp at hpl
    refine ⟨_, by simp (implicitDefEqProofs := false) [-List.map_drop, -List.map_take, -List.map_tail, -List.drop_one, -List.map_map, -List.filter_filter, h2, h3, h4, h5, Row.dic]; rfl, ?_⟩
    simp (implicitDefEqProofs := false) [-List.map_drop, -List.map_take, -List.map_tail, -List.drop_one, -List.map_map, -List.filter_filter]
    exact ⟨by unfold sizeLine; omega, _, _, _, _, ⟨by rw [both_add]; simp [arD], rfl, rfl, rfl, rfl⟩, rfl, rfl, rfl, rfl⟩
  · rintro _ ⟨s2, s3, s4, s5, rfl, _⟩
    simp (implicitDefEqProofs := false) [-List.map_drop, -List.map_take, -List.map_tail, -List.drop_one, -List.map_map, -List.filter_filter]
    exact k
/-! barred -/
theorem barred_sem {l : Lore} {c : Str} {Q : D × List D → Prop} (h : LoreOk l) (hc : TC c) (k1 : NB l.pl l.rows → Q (.non, [])) (k2 : ∀ s, IsSet l.pl s → barB l s = true → Q (strT s, [])) : (F_f_barred.sem [T c l]).sat Q := by
  rw [F_f_barred_sem]
  refine semOf_sat (by rfl) ?_
  have hfew := h.few
  have hlo := h.lo
  have hhi := h.hi
  obtain ⟨p0, rest, epl⟩ : ∃ p0 rest, l.pl = p0 :: rest := by
    cases e : l.pl with
    | nil => rw [e] at hlo; simp at hlo
    | cons p r => exact ⟨p, r, rfl⟩
  have hp0 : p0 ∈ l.pl := by rw [epl]; simp
  have at0 : atI l.pl 0 = some p0 := by rw [epl]; exact atI_0
  have hA : ∀ a ∈ waysA l.rows, a.2.1 ∈ l.pl ∧ a.2.2 ∈ l.pl := ways_ends h
  have hB : ∀ a ∈ revA (waysA l.rows), a.2.1 ∈ l.pl ∧ a.2.2 ∈ l.pl := rev_ends hA
  have hwl := ways_len l.rows
  have hbl := both_len l.rows
  simp (implicitDefEqProofs := false) [-List.map_drop, -List.map_take, -List.map_tail, -List.drop_one, -List.map_map, -List.filter_filter, g_f_barred]
  refine arrows_none_sem h hc ?_
  simp (implicitDefEqProofs := false) [-List.map_drop, -List.map_take, -List.map_tail, -List.drop_one, -List.map_map, -List.filter_filter, fp hc, strT, at0]
  refine roads_from_sem hA hp0 hhi fun f1 nd1 hf1 => ?_
  have hc1 := come_all nd1 h.nd hA hp0 hf1
  rw [show (ks f1).length = f1.length by simp [ks]] at hc1
  have hlk1 : ∀ t, (f1.lookup t).isSome = decide (t ∈ ks f1) := fun t => lk_mem
  simp (implicitDefEqProofs := false) [-List.map_drop, -List.map_take, -List.map_tail, -List.drop_one, -List.map_map, -List.filter_filter]
  by_cases c1 : f1.length < l.pl.length
  · simp (implicitDefEqProofs := false) [-List.map_drop, -List.map_take, -List.map_tail, -List.drop_one, -List.map_map, -List.filter_filter, c1]
    refine in_sequence_gen (p := fun x => decide (x ∈ ks f1)) h hc (fun x => by simp [inO2, hlk1, -List.mem_map]) ?_
    simp (implicitDefEqProofs := false) [-List.map_drop, -List.map_take, -List.map_tail, -List.drop_one, -List.map_map, -List.filter_filter]
    obtain ⟨x, hx, hxn⟩ : ∃ x ∈ l.pl, x ∉ ks f1 := Classical.byContradiction fun z => hc1.mp c1 fun x hx => (hf1 x).mp (Classical.byContradiction fun w => z ⟨x, hx, w⟩)
    refine k2 _ (set_of ⟨p0, hp0, decide_eq_true ((hf1 p0).mpr .refl)⟩ ⟨x, hx, decide_eq_false hxn⟩) (bars_of h (closed_bars fun s o t hm ho => ?_))
    exact decide_eq_true ((hf1 t).mpr (((hf1 o).mp (of_decide_eq_true ho)).step hm))
  have all1 := Classical.not_not.mp fun z => c1 (hc1.mpr z)
  simp (implicitDefEqProofs := false) [-List.map_drop, -List.map_take, -List.map_tail, -List.drop_one, -List.map_map, -List.filter_filter, c1]
  refine lcL_map arD (fun a => arD (a.1, a.2.2, a.2.1)) (waysA l.rows) ?_ (by unfold sizeLine; omega) ?_
  · intro a ha
    exact ⟨_, by simp (implicitDefEqProofs := false) [-List.map_drop, -List.map_take, -List.map_tail, -List.drop_one, -List.map_map, -List.filter_filter, arD]; rfl, by simp (implicitDefEqProofs := false) [-List.map_drop, -List.map_take, -List.map_tail, -List.drop_one, -List.map_map, -List.filter_filter, arD]⟩
  simp (implicitDefEqProofs := false) [-List.map_drop, -List.map_take, -List.map_tail, -List.drop_one, -List.map_map, -List.filter_filter, at0]
  have er : (waysA l.rows).map (fun a => arD (a.1, a.2.2, a.2.1)) = (revA (waysA l.rows)).map arD := by unfold revA; rw [List.map_map]; rfl
  rw [er]
  refine roads_from_sem hB hp0 hhi fun f2 nd2 hf2 => ?_
  have hc2 := come_all nd2 h.nd hB hp0 hf2
  rw [show (ks f2).length = f2.length by simp [ks]] at hc2
  have hlk2 : ∀ t, (f2.lookup t).isSome = decide (t ∈ ks f2) := fun t => lk_mem
  simp (implicitDefEqProofs := false) [-List.map_drop, -List.map_take, -List.map_tail, -List.drop_one, -List.map_map, -List.filter_filter]
  by_cases c2 : f2.length < l.pl.length
  · simp (implicitDefEqProofs := false) [-List.map_drop, -List.map_take, -List.map_tail, -List.drop_one, -List.map_map, -List.filter_filter, c2]
    refine lcL_pure D.str (fun x => !decide (x ∈ ks f2)) D.str l.pl ?_ (by unfold sizeLine; omega) ?_
    · intro x hx
      refine ⟨_, by simp (implicitDefEqProofs := false) [-List.map_drop, -List.map_take, -List.map_tail, -List.drop_one, -List.map_map, -List.filter_filter]; rfl, ?_⟩
      by_cases hm : x ∈ ks f2 <;> simp (implicitDefEqProofs := false) [-List.map_drop, -List.map_take, -List.map_tail, -List.drop_one, -List.map_map, -List.filter_filter, hlk2, hm, -List.mem_map]
    simp (implicitDefEqProofs := false) [-List.map_drop, -List.map_take, -List.map_tail, -List.drop_one, -List.map_map, -List.filter_filter]
    obtain ⟨x, hx, hxn⟩ : ∃ x ∈ l.pl, x ∉ ks f2 := Classical.byContradiction fun z => hc2.mp c2 fun x hx => (hf2 x).mp (Classical.byContradiction fun w => z ⟨x, hx, w⟩)
    refine k2 _ (set_of (X := fun x => !decide (x ∈ ks f2)) ⟨x, hx, by simp [hxn, -List.mem_map]⟩ ⟨p0, hp0, by simp [(hf2 p0).mpr .refl, -List.mem_map]⟩) (bars_of h (closed_bars fun s o t hm ho => ?_))
    have ho : o ∉ ks f2 := by simpa [-List.mem_map] using ho
    have : t ∉ ks f2 := fun z => ho ((hf2 o).mpr (((hf2 t).mp z).step (rev_mem.mpr hm)))
    simp [this, -List.mem_map]
  have all2 := Classical.not_not.mp fun z => c2 (hc2.mpr z)
  simp (implicitDefEqProofs := false) [-List.map_drop, -List.map_take, -List.map_tail, -List.drop_one, -List.map_map, -List.filter_filter, c2, tun hc]
  refine unread_sem h hc ?_
  simp (implicitDefEqProofs := false) [-List.map_drop, -List.map_take, -List.map_tail, -List.drop_one, -List.map_map, -List.filter_filter, strT]
  refine forL_sat D.str (fun pre ρ => ∃ s3 s6 : Sl, ρ = [.sh (T c l), .sh (.dic f1), .sh (.dic f2), s3, .sh (.lst ((waysA l.rows).map arD)), .sh (.tup (l.pl.map .str)), s6, .un, .un, .un, .un] ∧ s3.free = true ∧ s6.free = true ∧ ∀ s ∈ pre, ∀ x ∈ l.pl, Rch (woA l.rows s) p0 x) _ ?_ ?_ ⟨.un, .un, rfl, rfl, rfl, by simp⟩
  · rintro pre s post e _ ⟨s3, s6, rfl, h3, h6, hpre⟩
    have hs : s ∈ l.unr := by rw [e]; simp
    have hW : ∀ a ∈ woA l.rows s, a.2.1 ∈ l.pl ∧ a.2.2 ∈ l.pl := wo_ends h
    refine ⟨_, by simp (implicitDefEqProofs := false) [-List.map_drop, -List.map_take, -List.map_tail, -List.drop_one, -List.map_map, -List.filter_filter, h3]; rfl, ?_⟩
    simp (implicitDefEqProofs := false) [-List.map_drop, -List.map_take, -List.map_tail, -List.drop_one, -List.map_map, -List.filter_filter]
    refine both_ways_sem h hc ?_
    simp (implicitDefEqProofs := false) [-List.map_drop, -List.map_take, -List.map_tail, -List.drop_one, -List.map_map, -List.filter_filter]
    refine lcL_pure arD (fun a => !decide (a.1 = s)) arD (bothA l.rows) ?_ (by unfold sizeLine; omega) ?_
    · intro a ha
      refine ⟨_, by simp (implicitDefEqProofs := false) [-List.map_drop, -List.map_take, -List.map_tail, -List.drop_one, -List.map_map, -List.filter_filter]; rfl, ?_⟩
      by_cases hm : a.1 = s <;> simp (implicitDefEqProofs := false) [-List.map_drop, -List.map_take, -List.map_tail, -List.drop_one, -List.map_map, -List.filter_filter, arD, hm]
    simp (implicitDefEqProofs := false) [-List.map_drop, -List.map_take, -List.map_tail, -List.drop_one, -List.map_map, -List.filter_filter, at0]
    refine roads_from_sem (A := woA l.rows s) hW hp0 hhi fun f3 nd3 hf3 => ?_
    have hc3 := come_all nd3 h.nd hW hp0 hf3
    rw [show (ks f3).length = f3.length by simp [ks]] at hc3
    have hlk3 : ∀ t, (f3.lookup t).isSome = decide (t ∈ ks f3) := fun t => lk_mem
    simp (implicitDefEqProofs := false) [-List.map_drop, -List.map_take, -List.map_tail, -List.drop_one, -List.map_map, -List.filter_filter, h6]
    by_cases c3 : f3.length < l.pl.length
    · simp (implicitDefEqProofs := false) [-List.map_drop, -List.map_take, -List.map_tail, -List.drop_one, -List.map_map, -List.filter_filter, c3]
      refine in_sequence_gen (p := fun x => decide (x ∈ ks f3)) h hc (fun x => by simp [inO2, hlk3, -List.mem_map]) ?_
      simp (implicitDefEqProofs := false) [-List.map_drop, -List.map_take, -List.map_tail, -List.drop_one, -List.map_map, -List.filter_filter]
      obtain ⟨x, hx, hxn⟩ : ∃ x ∈ l.pl, x ∉ ks f3 := Classical.byContradiction fun z => hc3.mp c3 fun x hx => (hf3 x).mp (Classical.byContradiction fun w => z ⟨x, hx, w⟩)
      refine k2 _ (set_of ⟨p0, hp0, decide_eq_true ((hf3 p0).mpr .refl)⟩ ⟨x, hx, decide_eq_false hxn⟩) (bars_of h (alone_bars h.rnd hs fun r hr hne => ?_))
      have m1 := wo_mem.mpr ⟨(both_in hr).1, hne⟩
      have m2 := wo_mem.mpr ⟨(both_in hr).2, hne⟩
      by_cases ea : r.a ∈ ks f3
      · rw [decide_eq_true ea, decide_eq_true ((hf3 r.b).mpr (((hf3 r.a).mp ea).step m1))]
      · have eb : r.b ∉ ks f3 := fun z => ea ((hf3 r.a).mpr (((hf3 r.b).mp z).step m2))
        rw [decide_eq_false ea, decide_eq_false eb]
    · have all3 := Classical.not_not.mp fun z => c3 (hc3.mpr z)
      simp (implicitDefEqProofs := false) [-List.map_drop, -List.map_take, -List.map_tail, -List.drop_one, -List.map_map, -List.filter_filter, c3]
      refine ⟨_, _, ⟨rfl, rfl⟩, rfl, rfl, fun q hq => ?_⟩
      rcases hq with hq | hq
      · exact hpre q hq
      · rw [hq]; exact all3
  · rintro _ ⟨s3, s6, rfl, h3, h6, hpre⟩
    simp (implicitDefEqProofs := false) [-List.map_drop, -List.map_take, -List.map_tail, -List.drop_one, -List.map_map, -List.filter_filter]
    exact k1 (none_bars all1 all2 hpre)
/-! has_map -/
theorem has_map_sem {l : Lore} {c : Str} {Q : D × List D → Prop} (h : LoreOk l) (hc : TC c) (k : Q (.bl (nbB l.pl l.rows), [])) : (F_f_has_map.sem [T c l]).sat Q := by
  rw [F_f_has_map_sem]
  refine semOf_sat (by rfl) ?_
  simp (implicitDefEqProofs := false) [-List.map_drop, -List.map_take, -List.map_tail, -List.drop_one, -List.map_map, -List.filter_filter, g_f_has_map]
  refine barred_sem h hc (fun hn => ?_) fun s hs hb => ?_
  · have e : nbB l.pl l.rows = true := nbB_iff.mpr hn
    simp (implicitDefEqProofs := false) [-List.map_drop, -List.map_take, -List.map_tail, -List.drop_one, -List.map_map, -List.filter_filter, strT]; rw [e] at k; exact k
  · have e : nbB l.pl l.rows = false := by rw [← Bool.not_eq_true]; exact fun z => bar_nb h hs hb (nbB_iff.mp z)
    simp (implicitDefEqProofs := false) [-List.map_drop, -List.map_take, -List.map_tail, -List.drop_one, -List.map_map, -List.filter_filter, strT]; rw [e] at k; exact k
/-! text_of -/
theorem text_of_sem {l : Lore} {d : D} {Q : D × List D → Prop} (h : LoreOk l) (hd : d = strT l.pl ∨ d = strL l.pl) (k : Q (.str l.text, [])) : (F_f_text_of.sem [d, .dic (l.rows.map Row.dic)]).sat Q := by
  rw [F_f_text_of_sem]
  refine semOf_sat (by rfl) ?_
  have hhi := h.hi
  have hfew := h.few
  have hw := join_len (a := " ") (B := 8) (n := 10) (fun x hx => (h.words0 x hx).2.1) (by show l.pl.length + 1 ≤ 10; omega)
  have ht := h.text
  have hst : (ofO (starO d)) = R.ok (l.pl.map .str) := by rcases hd with rfl | rfl <;> rfl
  rw [len_blank] at hw
  have hw1 := hw.1
  simp [Lore.words0] at hw1
  simp (implicitDefEqProofs := false) [-List.map_drop, -List.map_take, -List.map_tail, -List.drop_one, -List.map_map, -List.filter_filter, g_f_text_of, itemD, List.map_map, c_BLANK, c_FEED, c_PLACES]
  refine lcL_map _ (fun r => .str r.line) l.rows ?_ (by unfold sizeLine; omega) ?_
  · intro r hr
    have hr4 := (join_len (a := " ") (B := 8) (n := 4) (fun x hx => ((h.ok r hr).words h.nm x hx).2.1) (Nat.le_refl _)).1
    simp [Row.words] at hr4
    refine ⟨_, by simp (implicitDefEqProofs := false) [-List.map_drop, -List.map_take, -List.map_tail, -List.drop_one, -List.map_map, -List.filter_filter, Row.dic]; rfl, ?_⟩
    simp (implicitDefEqProofs := false) [-List.map_drop, -List.map_take, -List.map_tail, -List.drop_one, -List.map_map, -List.filter_filter]
    exact ⟨by omega, rfl⟩
  · have e : l.rows.map (fun r => D.str r.line) = (l.rows.map Row.line).map .str := by rw [List.map_map]; rfl
    have ht1 := ht.2.1
    simp [Lore.lines] at ht1
    rw [e]
    simp (implicitDefEqProofs := false) [-List.map_drop, -List.map_take, -List.map_tail, -List.drop_one, -List.map_map, -List.filter_filter, hst]
    refine ⟨okLen_lit (by omega), by omega, okLen_lit (by omega), ?_, k⟩
    rw [List.map_map]
    show l.line0.length + _ + _ ≤ _
    omega
end K95

set_option Elab.async false
set_option linter.all false
set_option maxRecDepth 100000
set_option maxHeartbeats 1000000
namespace K95
open PySem L2 Dx TL
/-! MadeTown.__init__ -/
theorem MadeTown_init_sem {l : Lore} {d : D} {Q : D × List D → Prop} (h : LoreOk l) (hd : d = strT l.pl ∨ d = strL l.pl) (k : Q (.non, [T "MadeTown" l])) : (F_m_MadeTown_init.sem [.ins "MadeTown" [], d, .dic (l.rows.map Row.dic)]).sat Q := by
  rw [F_m_MadeTown_init_sem]
  refine semOf_sat (by rfl) ?_
  simp (implicitDefEqProofs := false) [-List.map_drop, -List.map_take, -List.map_tail, -List.drop_one, -List.map_map, -List.filter_filter, g_m_MadeTown_init]
  refine text_of_sem h hd ?_
  have e0 : tupO [d] = some (strT l.pl) := by rcases hd with rfl | rfl <;> rfl
  have e1 : ∀ v, setFld cls_own_text "own_text" (.ins "MadeTown" []) v = some (.ins "MadeTown" [("own_text", v)]) := fun v => by kernel_rfl
  have e2 : ∀ v w, setFld cls_own_places "own_places" (.ins "MadeTown" [("own_text", v)]) w = some (.ins "MadeTown" [("own_text", v), ("own_places", w)]) := fun v w => by kernel_rfl
  have e3 : ∀ v w z, setFld cls_own_rows "own_rows" (.ins "MadeTown" [("own_text", v), ("own_places", w)]) z = some (.ins "MadeTown" [("own_text", v), ("own_places", w), ("own_rows", z)]) := fun v w z => by kernel_rfl
  simp (implicitDefEqProofs := false) [-List.map_drop, -List.map_take, -List.map_tail, -List.drop_one, -List.map_map, -List.filter_filter, e0, e1, e2, e3]
  exact k
/-! town_of -/
theorem town_of_sem {l : Lore} {d : D} {Q : D × List D → Prop} (h : LoreOk l) (hd : d = strT l.pl ∨ d = strL l.pl) (k : Q (T "MadeTown" l, [])) : (F_f_town_of.sem [d, .dic (l.rows.map Row.dic)]).sat Q := by
  rw [F_f_town_of_sem]
  refine semOf_sat (by rfl) ?_
  simp (implicitDefEqProofs := false) [-List.map_drop, -List.map_take, -List.map_tail, -List.drop_one, -List.map_map, -List.filter_filter, g_f_town_of, mkTail, allSh]
  refine MadeTown_init_sem h hd ?_
  have hsig : newF "MadeTown" (.non, [T "MadeTown" l]) = some (T "MadeTown" l) := newF_s
  simp (implicitDefEqProofs := false) [-List.map_drop, -List.map_take, -List.map_tail, -List.drop_one, -List.map_map, -List.filter_filter, hsig]
  exact k
/-! known_turned -/
theorem known_turned_sem {l : Lore} {c : Str} {r : Row} {Q : D × List D → Prop} (h : LoreOk l) (hc : TC c) (hr : r ∈ l.rows) (k : Q (T "MadeTown" ⟨l.pl, turnR l.rows r.nm⟩, [])) : (F_f_known_turned.sem [T c l, .str r.nm]).sat Q := by
  rw [F_f_known_turned_sem]
  refine semOf_sat (by rfl) ?_
  have hfew := h.few
  have e : putD (l.rows.map Row.dic) r.nm (.tup [.str r.kd, .str r.b, .str r.a]) = (turnR l.rows r.nm).map Row.dic := putD_turn h.rnd hr
  simp (implicitDefEqProofs := false) [-List.map_drop, -List.map_take, -List.map_tail, -List.drop_one, -List.map_map, -List.filter_filter, g_f_known_turned, fr hc, fp hc, lookup_some_of h.rnd hr, e]
  refine ⟨by unfold sizeLine; omega, ?_⟩
  refine town_of_sem (l := ⟨l.pl, turnR l.rows r.nm⟩) h.turn (.inl rfl) ?_
  simp (implicitDefEqProofs := false) [-List.map_drop, -List.map_take, -List.map_tail, -List.drop_one, -List.map_map, -List.filter_filter]
  exact k
/-! wrong -/
theorem wrong_sem {l : Lore} {c : Str} {Q : D × List D → Prop} (h : LoreOk l) (hc : TC c) (k : Q (strT ((l.rows.filter fun r => nbB l.pl (turnR l.rows r.nm) && knB r).map Row.nm), [])) : (F_f_wrong.sem [T c l]).sat Q := by
  rw [F_f_wrong_sem]
  refine semOf_sat (by rfl) ?_
  have hfew := h.few
  simp (implicitDefEqProofs := false) [-List.map_drop, -List.map_take, -List.map_tail, -List.drop_one, -List.map_map, -List.filter_filter, g_f_wrong]
  refine known_streets_sem h hc ?_
  have hfl := List.length_filter_le knB l.rows
  simp (implicitDefEqProofs := false) [-List.map_drop, -List.map_take, -List.map_tail, -List.drop_one, -List.map_map, -List.filter_filter, strL, List.map_map]
  refine lcL_pure _ (fun r => nbB l.pl (turnR l.rows r.nm)) (fun r => .str r.nm) (l.rows.filter knB) ?_ (by unfold sizeLine; omega) ?_
  · intro r hr
    refine ⟨_, by simp (implicitDefEqProofs := false) [-List.map_drop, -List.map_take, -List.map_tail, -List.drop_one, -List.map_map, -List.filter_filter]; rfl, ?_⟩
    simp (implicitDefEqProofs := false) [-List.map_drop, -List.map_take, -List.map_tail, -List.drop_one, -List.map_map, -List.filter_filter]
    refine known_turned_sem h hc (List.mem_filter.mp hr).1 ?_
    simp (implicitDefEqProofs := false) [-List.map_drop, -List.map_take, -List.map_tail, -List.drop_one, -List.map_map, -List.filter_filter]
    refine has_map_sem (l := ⟨l.pl, turnR l.rows r.nm⟩) h.turn .m ?_
    cases e : nbB l.pl (turnR l.rows r.nm) <;> simp (implicitDefEqProofs := false) [-List.map_drop, -List.map_take, -List.map_tail, -List.drop_one, -List.map_map, -List.filter_filter, e]
  · try simp (implicitDefEqProofs := false) [-List.map_drop, -List.map_take, -List.map_tail, -List.drop_one, -List.map_map, -List.filter_filter]
    unfold strT at k
    rw [List.map_map] at k
    rw [List.filter_filter]
    exact k
/-! _law_turned_lore -/
theorem law_turned_lore_sem {l : Lore} {s : Str} {Q : D × List D → Prop} (h : LoreOk l) (k : Q (Lore.dd ⟨l.pl, turnR l.rows s⟩, [])) : (F_f_law_turned_lore.sem [l.dd, .str s]).sat Q := by
  rw [F_f_law_turned_lore_sem]
  refine semOf_sat (by rfl) ?_
  have hfew := h.few
  simp (implicitDefEqProofs := false) [-List.map_drop, -List.map_take, -List.map_tail, -List.drop_one, -List.map_map, -List.filter_filter, g_f_law_turned_lore, Lore.dd, dd_st]
  refine lcL_map Row.tup (fun r => Row.tup (if r.nm = s then ⟨r.nm, r.kd, r.b, r.a⟩ else r)) l.rows ?_ (by unfold sizeLine; omega) ?_
  · intro r hr
    refine ⟨_, by simp (implicitDefEqProofs := false) [-List.map_drop, -List.map_take, -List.map_tail, -List.drop_one, -List.map_map, -List.filter_filter]; rfl, ?_⟩
    by_cases c : r.nm = s
    · simp (implicitDefEqProofs := false) [-List.map_drop, -List.map_take, -List.map_tail, -List.drop_one, -List.map_map, -List.filter_filter, Row.tup, c, cutL_two]
    · simp (implicitDefEqProofs := false) [-List.map_drop, -List.map_take, -List.map_tail, -List.drop_one, -List.map_map, -List.filter_filter, Row.tup, c]
  simp (implicitDefEqProofs := false) [-List.map_drop, -List.map_take, -List.map_tail, -List.drop_one, -List.map_map, -List.filter_filter]
  have e : l.rows.map (fun r => Row.tup (if r.nm = s then ⟨r.nm, r.kd, r.b, r.a⟩ else r)) = (turnR l.rows s).map Row.tup := by unfold turnR; rw [List.map_map]; rfl
  rw [e]
  refine law_with_sem ?_
  simp (implicitDefEqProofs := false) [-List.map_drop, -List.map_take, -List.map_tail, -List.drop_one, -List.map_map, -List.filter_filter]
  exact k
/-! are_unlike -/
theorem are_unlike_sem {f : List D → D} {ys : List Str} {Q : D × List D → Prop} (h : ys.Nodup) (hl : ys.length ≤ 4000) (hf : f = .lst ∨ f = .tup) (k : Q (.bl true, [])) : (F_f_are_unlike.sem [f (ys.map .str)]).sat Q := by
  rw [F_f_are_unlike_sem]
  refine semOf_sat (by rfl) ?_
  have e : ∀ g : List D → D, g = .lst ∨ g = .tup → lenSetO (g (ys.map .str)) = some (.int ys.length) := by
    rintro g (rfl | rfl) <;> (show ((strsD (ys.map .str)).bind fun ys => if decide (ys.length ≤ 4000) then some (D.int (cntS ys ys.length)) else none) = _) <;> (rw [strsD_map]; show (if decide (ys.length ≤ 4000) then some (D.int (cntS ys ys.length)) else none) = _; rw [if_pos (decide_eq_true hl), cntS_nodup h])
  rcases hf with rfl | rfl
  · simp (implicitDefEqProofs := false) [-List.map_drop, -List.map_take, -List.map_tail, -List.drop_one, -List.map_map, -List.filter_filter, g_f_are_unlike, e .lst (.inl rfl)]; exact k
  · simp (implicitDefEqProofs := false) [-List.map_drop, -List.map_take, -List.map_tail, -List.drop_one, -List.map_map, -List.filter_filter, g_f_are_unlike, e .tup (.inr rfl)]; exact k
end K95

set_option Elab.async false
set_option linter.all false
set_option maxRecDepth 100000
set_option maxHeartbeats 1000000
namespace K95
open PySem L2 Dx TL
/-! is_name -/
theorem is_name_sem {x : Str} {Q : D × List D → Prop} (h : NameOk x) (k : Q (.bl true, [])) : (F_f_is_name.sem [.str x]).sat Q := by
  rw [F_f_is_name_sem]
  refine semOf_sat (by rfl) ?_
  have h1 := h.1
  have h2 := h.2.1
  simp (implicitDefEqProofs := false) [-List.map_drop, -List.map_take, -List.map_tail, -List.drop_one, -List.map_map, -List.filter_filter, g_f_is_name, c_MOST_LETTERS, c_LETTERS, okLen_lit (show x.length ≤ 16777216 by omega), show (1 : Int) ≤ x.length by omega, show (x.length : Int) ≤ 8 by omega]
  show (lcL _ _ _ _ _ ((tl x).map fun c => D.str ⟨#[c]⟩) _).sat _
  refine lcL_map (fun c => D.str ⟨#[c]⟩) (fun _ => .bl true) (tl x) ?_ (by rw [← len_tl]; unfold sizeLine; omega) ?_
  · intro c hc
    have := h.2.2 c hc
    exact ⟨_, by simp (implicitDefEqProofs := false) [-List.map_drop, -List.map_take, -List.map_tail, -List.drop_one, -List.map_map, -List.filter_filter]; rfl, by simp (implicitDefEqProofs := false) [-List.map_drop, -List.map_take, -List.map_tail, -List.drop_one, -List.map_map, -List.filter_filter, letter_in c this.1 this.2]⟩
  · simp (implicitDefEqProofs := false) [-List.map_drop, -List.map_take, -List.map_tail, -List.drop_one, -List.map_map, -List.filter_filter, all_map (p := fun _ => true)]
    rw [show (x.cps.all fun _ => true) = true by simp]
    exact k
/-! places_in -/
theorem places_in_sem {l : Lore} {Q : D × List D → Prop} (h : LoreOk l) (k : Q (strT l.pl, [])) : (F_f_places_in.sem [.str l.line0]).sat Q := by
  rw [F_f_places_in_sem]
  refine semOf_sat (by rfl) ?_
  have hsp : Txt.split l.line0 " " = ("places" : Str) :: l.pl := split_words (by simp [Lore.words0]) h.words0
  have hlen := h.len0
  have hlo := h.lo
  have hhi := h.hi
  simp (implicitDefEqProofs := false) [-List.map_drop, -List.map_take, -List.map_tail, -List.drop_one, -List.map_map, -List.filter_filter, g_f_places_in, c_BLANK, c_PLACES, c_LEAST_PLACES, c_MOST_PLACES, hsp, show (2 : Int) ≤ l.pl.length by omega, show (l.pl.length : Int) ≤ 9 by omega]
  refine ⟨by unfold sizeLine; omega, ?_⟩
  refine lcL_map D.str (fun _ => .bl true) l.pl ?_ (by unfold sizeLine; omega) ?_
  · intro x hx
    exact ⟨_, by simp (implicitDefEqProofs := false) [-List.map_drop, -List.map_take, -List.map_tail, -List.drop_one, -List.map_map, -List.filter_filter]; rfl, by simp (implicitDefEqProofs := false) [-List.map_drop, -List.map_take, -List.map_tail, -List.drop_one, -List.map_map, -List.filter_filter]; exact is_name_sem (h.nm x hx) (by simp (implicitDefEqProofs := false) [-List.map_drop, -List.map_take, -List.map_tail, -List.drop_one, -List.map_map, -List.filter_filter])⟩
  · simp (implicitDefEqProofs := false) [-List.map_drop, -List.map_take, -List.map_tail, -List.drop_one, -List.map_map, -List.filter_filter, all_map (p := fun _ => true)]
    exact are_unlike_sem (f := .lst) h.nd (by omega) (.inl rfl) (by simp (implicitDefEqProofs := false) [-List.map_drop, -List.map_take, -List.map_tail, -List.drop_one, -List.map_map, -List.filter_filter]; exact k)
/-! street_in -/
theorem street_in_sem {pl : List Str} {rows : List Row} {r : Row} {Q : D × List D → Prop} (ho : RowOk pl r) (hp : ∀ p ∈ pl, NameOk p) (hn : r.nm ∉ rows.map Row.nm)
    (k : Q (.tup [.str r.nm, .tup [.str r.kd, .str r.a, .str r.b]], [])) : (F_f_street_in.sem [.str r.line, strT pl, .dic (rows.map Row.dic)]).sat Q := by
  rw [F_f_street_in_sem]
  refine semOf_sat (by rfl) ?_
  have hsp : Txt.split r.line " " = [r.kd, r.nm, r.a, r.b] := split_words (by simp [Row.words]) (ho.words hp)
  have hlen := ho.len hp
  have hk : r.kd ∈ [("unread" : Str), "known", "both"] := ho.kd
  simp (implicitDefEqProofs := false) [-List.map_drop, -List.map_take, -List.map_tail, -List.drop_one, -List.map_map, -List.filter_filter, g_f_street_in, c_BLANK, c_STREET_WORDS, c_KINDS, c_UNREAD, c_KNOWN, c_BOTH, hsp, strT, kind_nin ho.kd]
  refine ⟨by unfold sizeLine; omega, is_name_sem ho.nm ?_⟩
  simp (implicitDefEqProofs := false) [-List.map_drop, -List.map_take, -List.map_tail, -List.drop_one, -List.map_map, -List.filter_filter, lookup_none_of hn, ho.a, ho.b, ho.ne]
  exact k
/-! read_text -/
theorem read_text_sem {l : Lore} {Q : D × List D → Prop} (h : LoreOk l) (k : Q (.tup [strT l.pl, .dic (l.rows.map Row.dic)], [])) : (F_f_read_text.sem [.str l.text]).sat Q := by
  rw [F_f_read_text_sem]
  refine semOf_sat (by rfl) ?_
  have ht := h.text
  have hsp : Txt.split l.text "\n" = l.line0 :: l.rows.map Row.line := ht.2.2
  have e1 : isiF is_str (.str l.text) = some (.bl true) := rfl
  simp (implicitDefEqProofs := false) [-List.map_drop, -List.map_take, -List.map_tail, -List.drop_one, -List.map_map, -List.filter_filter, g_f_read_text, e1, c_FEED, hsp, c_MOST_STREETS]
  refine ⟨by unfold sizeLine; omega, ?_⟩
  refine places_in_sem h ?_
  simp (implicitDefEqProofs := false) [-List.map_drop, -List.map_take, -List.map_tail, -List.drop_one, -List.map_map, -List.filter_filter, strT]
  rw [List.map_map, enu2_map (by decide) (by decide), ofO_some, R.sat_ok]
  refine forL_sat _ (fun pre ρ => ∃ s4 s5 s6 : Sl, ρ = [.sh (.str l.text), .sh (.tup (l.pl.map .str)), .sh (.lst (.str l.line0 :: l.rows.map (D.str ∘ Row.line))), .ow (.dic ((pre.map (·.1)).map Row.dic)), s4, s5, s6] ∧ s4.free = true ∧ s5.free = true ∧ s6.free = true) _ ?_ ?_ ⟨.un, .un, .un, rfl, rfl, rfl, rfl⟩
  · rintro pre ⟨r, i⟩ post e _ ⟨s4, s5, s6, rfl, h4, h5, h6⟩
    have e2 := mem_zipIdx_pre e
    have hm : r ∈ l.rows := by rw [e2]; simp
    have hnd := h.rnd
    rw [e2, List.map_append, List.map_cons, List.nodup_append] at hnd
    have hnew : r.nm ∉ (pre.map (·.1)).map Row.nm := fun z => hnd.2.2 _ z _ (List.mem_cons_self ..) rfl
    have hfew := h.few
    have hlen := congrArg List.length e2
    simp at hlen
    refine ⟨_, by simp (implicitDefEqProofs := false) [-List.map_drop, -List.map_take, -List.map_tail, -List.drop_one, -List.map_map, -List.filter_filter, h4, h5, h6]; rfl, ?_⟩
    simp (implicitDefEqProofs := false) [-List.map_drop, -List.map_take, -List.map_tail, -List.drop_one, -List.map_map, -List.filter_filter, h4, h5, h6]
    refine street_in_sem (h.ok r hm) h.nm hnew ?_
    simp (implicitDefEqProofs := false) [-List.map_drop, -List.map_take, -List.map_tail, -List.drop_one, -List.map_map, -List.filter_filter, h4, h5, h6, putD_new (lookup_none_of hnew)]
    refine ⟨by omega, by unfold sizeLine; omega, _, _, _, ⟨rfl, rfl, rfl, rfl⟩, rfl, rfl, rfl⟩
  · rintro _ ⟨s4, s5, s6, rfl, h4, h5, h6⟩
    simp (implicitDefEqProofs := false) [-List.map_drop, -List.map_take, -List.map_tail, -List.drop_one, -List.map_map, -List.filter_filter]
    exact k
/-! Town.__init__ -/
theorem Town_init_sem {l : Lore} {Q : D × List D → Prop} (h : LoreOk l) (k : Q (.non, [T "Town" l])) : (F_m_Town_init.sem [.ins "Town" [], .str l.text]).sat Q := by
  rw [F_m_Town_init_sem]
  refine semOf_sat (by rfl) ?_
  simp (implicitDefEqProofs := false) [-List.map_drop, -List.map_take, -List.map_tail, -List.drop_one, -List.map_map, -List.filter_filter, g_m_Town_init]
  refine read_text_sem h ?_
  have e1 : ∀ v, setFld cls_own_text "own_text" (.ins "Town" []) v = some (.ins "Town" [("own_text", v)]) := fun v => by kernel_rfl
  have e2 : ∀ v w, setFld cls_own_places "own_places" (.ins "Town" [("own_text", v)]) w = some (.ins "Town" [("own_text", v), ("own_places", w)]) := fun v w => by kernel_rfl
  have e3 : ∀ v w z, setFld cls_own_rows "own_rows" (.ins "Town" [("own_text", v), ("own_places", w)]) z = some (.ins "Town" [("own_text", v), ("own_places", w), ("own_rows", z)]) := fun v w z => by kernel_rfl
  simp (implicitDefEqProofs := false) [-List.map_drop, -List.map_take, -List.map_tail, -List.drop_one, -List.map_map, -List.filter_filter, e1, e2, e3]
  exact k
/-! _law_street_line -/
theorem law_street_line_sem {pl : List Str} {r : Row} {Q : D × List D → Prop} (h : RowOk pl r) (hn : ∀ p ∈ pl, NameOk p) (k : Q (.str r.line, [])) : (F_f_law_street_line.sem [r.tup]).sat Q := by
  rw [F_f_law_street_line_sem]
  refine semOf_sat (by rfl) ?_
  have hr4 := (join_len (a := " ") (B := 8) (n := 4) (fun x hx => (h.words hn x hx).2.1) (Nat.le_refl _)).1
  simp [Row.words] at hr4
  simp (implicitDefEqProofs := false) [-List.map_drop, -List.map_take, -List.map_tail, -List.drop_one, -List.map_map, -List.filter_filter, g_f_law_street_line, Row.tup]
  exact ⟨by omega, k⟩
end K95

set_option Elab.async false
set_option linter.all false
set_option maxRecDepth 100000
set_option maxHeartbeats 1000000
namespace K95
open PySem L2 Dx TL
/-! _law_text -/
theorem law_text_sem {l : Lore} {Q : D × List D → Prop} (h : LoreOk l) (k : Q (.str l.text, [])) : (F_f_law_text.sem [l.dd]).sat Q := by
  rw [F_f_law_text_sem]
  refine semOf_sat (by rfl) ?_
  have hhi := h.hi
  have hfew := h.few
  have hw := join_len (a := " ") (B := 8) (n := 10) (fun x hx => (h.words0 x hx).2.1) (by show l.pl.length + 1 ≤ 10; omega)
  have ht := h.text
  simp (implicitDefEqProofs := false) [-List.map_drop, -List.map_take, -List.map_tail, -List.drop_one, -List.map_map, -List.filter_filter, g_f_law_text, Lore.dd, dd_pl, dd_st]
  rw [len_blank] at hw
  have hw1 := hw.1
  simp [Lore.words0] at hw1
  refine ⟨okLen_lit (by omega), by omega, ?_⟩
  refine lcL_map Row.tup (fun r => .str r.line) l.rows ?_ (by unfold sizeLine; omega) ?_
  · intro r hr
    refine ⟨_, by simp (implicitDefEqProofs := false) [-List.map_drop, -List.map_take, -List.map_tail, -List.drop_one, -List.map_map, -List.filter_filter]; rfl, ?_⟩
    simp (implicitDefEqProofs := false) [-List.map_drop, -List.map_take, -List.map_tail, -List.drop_one, -List.map_map, -List.filter_filter]
    exact law_street_line_sem (h.ok r hr) h.nm (by simp (implicitDefEqProofs := false) [-List.map_drop, -List.map_take, -List.map_tail, -List.drop_one, -List.map_map, -List.filter_filter])
  · have e : l.rows.map (fun r => D.str r.line) = (l.rows.map Row.line).map .str := by rw [List.map_map]; rfl
    have ht1 := ht.2.1
    simp [Lore.lines] at ht1
    rw [e]
    simp (implicitDefEqProofs := false) [-List.map_drop, -List.map_take, -List.map_tail, -List.drop_one, -List.map_map, -List.filter_filter]
    refine ⟨okLen_lit (by omega), ?_, k⟩
    rw [List.map_map]
    show l.line0.length + _ + _ ≤ _
    omega
/-! _law_right -/
theorem law_right_sem {p : Pot} {n : Nat} {Q : D × List D → Prop} (h : Pk n p) (hn : n + 1000 ≤ 2 ^ 100) (k : ∀ p', Pk (n + 1000) p' → Q (.bl true, [p'.d])) : (F_f_law_right.sem [p.d]).sat Q := by
  rw [F_f_law_right_sem]
  refine semOf_sat (by rfl) ?_
  have m1 : repF (.lst [.str "unread"]) (.int 2) = some (.lst [.str "unread", .str "unread"]) := by rfl
  have m2 : repF (.lst [.str "known"]) (.int 3) = some (.lst [.str "known", .str "known", .str "known"]) := by rfl
  simp (implicitDefEqProofs := false) [-List.map_drop, -List.map_take, -List.map_tail, -List.drop_one, -List.map_map, -List.filter_filter, g_f_law_right, m1, m2]
  refine law_town_sem (most := 9) (more := 7) (ks := ["unread", "unread", "known", "known", "known", "both"]) h (by omega) (by decide) (by decide) (by decide) (by decide) (by decide) (by decide +kernel) fun p1 l1 hp1 hl1 _ => ?_
  simp (implicitDefEqProofs := false) [-List.map_drop, -List.map_take, -List.map_tail, -List.drop_one, -List.map_map, -List.filter_filter]
  refine law_against_sem hp1 (by omega) hl1 fun p2 l hp2 hl => ?_
  have hfew := hl.few
  simp (implicitDefEqProofs := false) [-List.map_drop, -List.map_take, -List.map_tail, -List.drop_one, -List.map_map, -List.filter_filter, Lore.dd, dd_st]
  refine forL_sat Row.tup (fun pre ρ => ∃ (s3 s4 s5 s6 : Sl), ρ = [.mt p2.d, .sh l.dd, .ow (.lst (((pre.filter fun r => nbB l.pl (turnR l.rows r.nm) && knB r).map Row.nm).map .str)), s3, s4, s5, s6] ∧ s3.free = true ∧ s4.free = true ∧ s5.free = true ∧ s6.free = true) _ ?_ ?_ ⟨.un, .un, .un, .un, by simp (implicitDefEqProofs := false) [-List.map_drop, -List.map_take, -List.map_tail, -List.drop_one, -List.map_map, -List.filter_filter, Lore.dd], rfl, rfl, rfl, rfl⟩
  · rintro pre r post e _ ⟨s3, s4, s5, s6, rfl, h3, h4, h5, h6⟩
    have hr : r ∈ l.rows := by rw [e]; simp
    have hlen := congrArg List.length e
    simp at hlen
    have hfl : (pre.filter fun r => nbB l.pl (turnR l.rows r.nm) && knB r).length < sizeLine := by
      have := List.length_filter_le (fun r => nbB l.pl (turnR l.rows r.nm) && knB r) pre
      unfold sizeLine; omega
    refine ⟨_, by simp (implicitDefEqProofs := false) [-List.map_drop, -List.map_take, -List.map_tail, -List.drop_one, -List.map_map, -List.filter_filter, h3, h4, h5, h6, Row.tup]; rfl, ?_⟩
    by_cases c1 : r.kd = "known"
    · simp (implicitDefEqProofs := false) [-List.map_drop, -List.map_take, -List.map_tail, -List.drop_one, -List.map_map, -List.filter_filter, c1]
      refine law_turned_lore_sem hl ?_
      simp (implicitDefEqProofs := false) [-List.map_drop, -List.map_take, -List.map_tail, -List.drop_one, -List.map_map, -List.filter_filter]
      refine law_has_map_sem (l := ⟨l.pl, turnR l.rows r.nm⟩) hl.turn ?_
      cases c2 : nbB l.pl (turnR l.rows r.nm) with
      | true =>
        simp (implicitDefEqProofs := false) [-List.map_drop, -List.map_take, -List.map_tail, -List.drop_one, -List.map_map, -List.filter_filter, c2, knB, c1]
        exact ⟨by simpa [knB] using hfl, _, _, _, _, ⟨rfl, rfl, rfl, rfl⟩, rfl, rfl, rfl, rfl⟩
      | false =>
        simp (implicitDefEqProofs := false) [-List.map_drop, -List.map_take, -List.map_tail, -List.drop_one, -List.map_map, -List.filter_filter, c2, knB, c1]
        exact ⟨_, _, _, _, ⟨rfl, rfl, rfl, rfl⟩, rfl, rfl, rfl, rfl⟩
    · simp (implicitDefEqProofs := false) [-List.map_drop, -List.map_take, -List.map_tail, -List.drop_one, -List.map_map, -List.filter_filter, c1, knB]
      exact ⟨_, _, _, _, ⟨rfl, rfl, rfl, rfl⟩, rfl, rfl, rfl, rfl⟩
  · rintro _ ⟨s3, s4, s5, s6, rfl, h3, h4, h5, h6⟩
    have hfl := List.length_filter_le (fun r => nbB l.pl (turnR l.rows r.nm) && knB r) l.rows
    simp (implicitDefEqProofs := false) [-List.map_drop, -List.map_take, -List.map_tail, -List.drop_one, -List.map_map, -List.filter_filter]
    refine law_text_sem hl ?_
    simp (implicitDefEqProofs := false) [-List.map_drop, -List.map_take, -List.map_tail, -List.drop_one, -List.map_map, -List.filter_filter, mkTail, allSh]
    refine Town_init_sem hl ?_
    have hsig : newF "Town" (.non, [T "Town" l]) = some (T "Town" l) := newF_s
    simp (implicitDefEqProofs := false) [-List.map_drop, -List.map_take, -List.map_tail, -List.drop_one, -List.map_map, -List.filter_filter, hsig]
    refine wrong_sem hl .t ?_
    obtain ⟨x, ex⟩ := repr_names (l := (l.rows.filter fun r => nbB l.pl (turnR l.rows r.nm) && knB r).map Row.nm) (fun x hx => by
      obtain ⟨r, hr, rfl⟩ := List.mem_map.mp hx
      exact (hl.ok r (List.mem_filter.mp hr).1).nm) (by rw [List.length_map]; omega)
    simp (implicitDefEqProofs := false) [-List.map_drop, -List.map_take, -List.map_tail, -List.drop_one, -List.map_map, -List.filter_filter, strT, ex]
    exact k p2 (hp2.mono (by omega))
/-! law -/
theorem law_sem (ns : List Int) : (F_f_law.sem [.lst (ns.map .int)]).sat fun q => q.1 = .bl true := by
  rw [F_f_law_sem]
  refine semOf_sat (by rfl) ?_
  simp (implicitDefEqProofs := false) [-List.map_drop, -List.map_take, -List.map_tail, -List.drop_one, -List.map_map, -List.filter_filter, g_f_law]
  refine law_pots_sem (m := 3) (by decide) fun ps hl hps => ?_
  try simp (implicitDefEqProofs := false) [-List.map_drop, -List.map_take, -List.map_tail, -List.drop_one, -List.map_map, -List.filter_filter]
  refine forL_sat Pot.d (fun pre ρ => ∃ s1 : Sl, ρ = [.sh (.lst (ns.map .int)), s1, .un] ∧ s1.free = true) _ ?_ ?_ ⟨.un, rfl, rfl⟩
  · rintro pre p post e _ ⟨s1, rfl, h1⟩
    have hp := hps p (by rw [e]; simp)
    refine ⟨_, by simp (implicitDefEqProofs := false) [-List.map_drop, -List.map_take, -List.map_tail, -List.drop_one, -List.map_map, -List.filter_filter, h1]; rfl, ?_⟩
    simp (implicitDefEqProofs := false) [-List.map_drop, -List.map_take, -List.map_tail, -List.drop_one, -List.map_map, -List.filter_filter, rngD_eq]
    refine lcL_sat _ (fun pre acc ρ => ∃ p' : Pot, ρ = [.sh (.lst (ns.map .int)), .ow p'.d, .un] ∧ Pk (1000 * pre.length) p' ∧ acc = pre.map fun _ => .bl true) _ ?_ ?_ ⟨p, rfl, hp.mono (Nat.zero_le _), rfl⟩
    · rintro pre2 j post2 e2 acc _ ⟨p', rfl, hp', rfl⟩
      have hlen := congrArg List.length e2
      simp at hlen
      refine ⟨_, by simp (implicitDefEqProofs := false) [-List.map_drop, -List.map_take, -List.map_tail, -List.drop_one, -List.map_map, -List.filter_filter]; rfl, ?_⟩
      simp (implicitDefEqProofs := false) [-List.map_drop, -List.map_take, -List.map_tail, -List.drop_one, -List.map_map, -List.filter_filter]
      refine law_right_sem hp' (by omega) fun p2 hp2 => ?_
      simp (implicitDefEqProofs := false) [-List.map_drop, -List.map_take, -List.map_tail, -List.drop_one, -List.map_map, -List.filter_filter]
      exact ⟨by unfold sizeLine; omega, _, rfl, hp2.mono (by omega)⟩
    · rintro acc _ ⟨p', rfl, hp', rfl⟩
      simp (implicitDefEqProofs := false) [-List.map_drop, -List.map_take, -List.map_tail, -List.drop_one, -List.map_map, -List.filter_filter]
  · rintro _ ⟨s1, rfl, _⟩
    simp (implicitDefEqProofs := false) [-List.map_drop, -List.map_take, -List.map_tail, -List.drop_one, -List.map_map, -List.filter_filter]
end K95

set_option Elab.async false
set_option linter.all false
set_option maxRecDepth 100000
set_option maxHeartbeats 0
namespace K95
open PySem Spec PyProof.Rows L2 Dx
abbrev R : PySem.W.OpenRow := PySem.W.OpenLaw.row PySem.Challenge.rw_signsunread_k95_whole_what_is_wrong_in_g
def as : List Addr := sysModules :: [3, 6, 4, 21, 40, 53, 65, 77, 89, 92, 99, 106, 111, 118, 119, 124, 131, 138, 143, 270, 291, 300, 305, 312, 319, 326, 333, 340, 347, 352, 359, 366, 371, 378, 385, 390, 397, 402, 409, 416, 423, 430, 435, 442, 449, 456, 463, 468, 475, 480, 485, 490, 495, 502, 507, 514, 519, 0, 20, 39, 52, 64, 76, 88, 98, 105, 110, 117, 123, 130, 137, 142, 269, 290, 299, 304, 311, 318, 325, 332, 339, 346, 351, 358, 365, 370, 377, 384, 389, 396, 401, 408, 415, 422, 429, 434, 441, 448, 455, 462, 467, 474, 479, 484, 489, 494, 501, 506, 513, 518, 15, 16, 17, 18, 19, 37, 38, 41, 51, 63, 75, 87, 93, 94, 95, 96, 97, 100, 101, 102, 103, 104, 107, 108, 109, 112, 113, 114, 115, 116, 120, 121, 122, 125, 126, 127, 128, 129, 132, 133, 134, 135, 136, 139, 140, 141, 157, 165, 173, 181, 187, 194, 201, 208, 215, 222, 229, 234, 241, 248, 255, 260, 267, 268, 271, 272, 288, 289, 294, 295, 296, 297, 298, 301, 302, 303, 306, 307, 308, 309, 310, 313, 314, 315, 316, 317, 320, 321, 322, 323, 324, 327, 328, 329, 330, 331, 334, 335, 336, 337, 338, 341, 342, 343, 344, 345, 348, 349, 350, 353, 354, 355, 356, 357, 360, 361, 362, 363, 364, 367, 368, 369, 372, 373, 374, 375, 376, 379, 380, 381, 382, 383, 386, 387, 388, 391, 392, 393, 394, 395, 398, 399, 400, 403, 404, 405, 406, 407, 410, 411, 412, 413, 414, 417, 418, 419, 420, 421, 424, 425, 426, 427, 428, 431, 432, 433, 436, 437, 438, 439, 440, 443, 444, 445, 446, 447, 450, 451, 452, 453, 454, 457, 458, 459, 460, 461, 464, 465, 466, 469, 470, 471, 472, 473, 476, 477, 478, 481, 482, 483, 486, 487, 488, 491, 492, 493, 496, 497, 498, 499, 500, 503, 504, 505, 508, 509, 510, 511, 512, 515, 516, 517, 36, 25, 156, 164, 172, 180, 186, 193, 200, 207, 214, 221, 228, 233, 240, 247, 254, 259, 266, 287, 31, 32, 33, 34, 35, 151, 152, 153, 154, 155, 163, 171, 179, 185, 188, 189, 190, 191, 192, 195, 196, 197, 198, 199, 202, 203, 204, 205, 206, 209, 210, 211, 212, 213, 216, 217, 218, 219, 220, 223, 224, 225, 226, 227, 230, 231, 232, 235, 236, 237, 238, 239, 242, 243, 244, 245, 246, 249, 250, 251, 252, 253, 256, 257, 258, 261, 262, 263, 264, 265, 282, 283, 284, 285, 286]
def nm0 : List Str := ["_wall", "SignError", "BadTown", "NoStreet", "NoPlace", "BadClaim", "BLANK", "FEED", "LETTERS", "MOST_LETTERS", "AS_WRITTEN", "TURNED", "SIGNS", "is_tuple", "is_word", "is_name", "are_unlike", "PLACES", "UNREAD", "KNOWN", "BOTH", "KINDS", "LEAST_PLACES", "MOST_PLACES", "MOST_STREETS"]
def nm1 : List Str := ["STREET_WORDS", "PAIR", "places_in", "street_in", "read_text", "text_of", "Town", "MadeTown", "town_of", "turned_about", "checked_street", "check_place", "is_claim", "check_claim", "ends_by", "read_all", "in_sequence", "arrows", "roads_from", "barred", "both_ways", "has_map", "known_streets", "known_turned", "wrong"]
def nm2 : List Str := ["_law_pot", "_law_take", "_law_of", "_law_some", "_law_pots", "_law_names", "_law_roads", "_law_town", "_law_street_line", "_law_text", "_law_with", "_law_sets", "_law_rim", "_law_does_bar", "_law_has_map", "_law_against", "_law_turned_lore", "_law_right"]
def names : List Str := nm0 ++ nm1 ++ nm2
abbrev vw : Program := PySem.W.view R.prog [76]
def gr0 : Grp := ⟨[fun K => nolB K,
 fun K => freB [("abs" : Str), ("all" : Str), ("any" : Str), ("enumerate" : Str), ("int" : Str), ("isinstance" : Str), ("len" : Str), ("list" : Str), ("max" : Str), ("min" : Str), ("property" : Str), ("range" : Str), ("repr" : Str), ("set" : Str), ("str" : Str), ("tuple" : Str), ("zip" : Str)] K,
 fun K => sysB K,
 fun K => gcB ("BLANK" : Str) c_BLANK K,
 fun K => gcB ("FEED" : Str) c_FEED K,
 fun K => gcB ("LETTERS" : Str) c_LETTERS K,
 fun K => gcB ("MOST_LETTERS" : Str) c_MOST_LETTERS K,
 fun K => gcB ("AS_WRITTEN" : Str) c_AS_WRITTEN K,
 fun K => gcB ("PLACES" : Str) c_PLACES K,
 fun K => gcB ("UNREAD" : Str) c_UNREAD K,
 fun K => gcB ("KNOWN" : Str) c_KNOWN K,
 fun K => gcB ("BOTH" : Str) c_BOTH K,
 fun K => gcB ("KINDS" : Str) c_KINDS K,
 fun K => gcB ("LEAST_PLACES" : Str) c_LEAST_PLACES K,
 fun K => gcB ("MOST_PLACES" : Str) c_MOST_PLACES K,
 fun K => gcB ("MOST_STREETS" : Str) c_MOST_STREETS K,
 fun K => gcB ("STREET_WORDS" : Str) c_STREET_WORDS K,
 fun K => cls_own_places.all fun c => fldB c ("own_places" : Str) K,
 fun K => cls_own_rows.all fun c => fldB c ("own_rows" : Str) K,
 fun K => cls_own_text.all fun c => fldB c ("own_text" : Str) K,
 fun K => isiB is_str (fun _ => .type "str") K,
 fun K => (He.Fa.glo ("_law_pot" : Str)).ok K,
 fun K => (He.Fa.glo ("_law_pots" : Str)).ok K,
 fun K => (He.Fa.glo ("_law_with" : Str)).ok K,
 fun K => (He.Fa.glo ("_law_take" : Str)).ok K,
 fun K => (He.Fa.glo ("_law_against" : Str)).ok K,
 fun K => (He.Fa.glo ("_law_some" : Str)).ok K,
 fun K => (He.Fa.glo ("_law_names" : Str)).ok K,
 fun K => (He.Fa.glo ("_law_of" : Str)).ok K,
 fun K => (He.Fa.glo ("_law_roads" : Str)).ok K,
 fun K => (He.Fa.glo ("_law_town" : Str)).ok K,
 fun K => (He.Fa.glo ("_law_rim" : Str)).ok K,
 fun K => (He.Fa.glo ("_law_does_bar" : Str)).ok K,
 fun K => (He.Fa.glo ("_law_sets" : Str)).ok K,
 fun K => (He.Fa.glo ("_law_has_map" : Str)).ok K,
 fun K => (He.Fa.glo ("known_streets" : Str)).ok K,
 fun K => (He.Fa.glo ("roads_from" : Str)).ok K,
 fun K => (He.Fa.glo ("ends_by" : Str)).ok K,
 fun K => (He.Fa.glo ("arrows" : Str)).ok K,
 fun K => (He.Fa.glo ("in_sequence" : Str)).ok K,
 fun K => (He.Fa.glo ("both_ways" : Str)).ok K,
 fun K => (He.Fa.glo ("barred" : Str)).ok K,
 fun K => (He.Fa.glo ("has_map" : Str)).ok K,
 fun K => (He.Fa.glo ("text_of" : Str)).ok K,
 fun K => (He.Fa.glo ("town_of" : Str)).ok K,
 fun K => (He.Fa.glo ("known_turned" : Str)).ok K,
 fun K => (He.Fa.glo ("wrong" : Str)).ok K,
 fun K => (He.Fa.glo ("_law_turned_lore" : Str)).ok K,
 fun K => (He.Fa.glo ("are_unlike" : Str)).ok K,
 fun K => (He.Fa.glo ("is_name" : Str)).ok K,
 fun K => (He.Fa.glo ("places_in" : Str)).ok K,
 fun K => (He.Fa.glo ("street_in" : Str)).ok K,
 fun K => (He.Fa.glo ("read_text" : Str)).ok K,
 fun K => (He.Fa.glo ("_law_street_line" : Str)).ok K,
 fun K => (He.Fa.glo ("_law_text" : Str)).ok K,
 fun K => (He.Fa.glo ("_law_right" : Str)).ok K,
 fun K => (He.Fa.glo ("law" : Str)).ok K,
 fun K => (He.Fa.cls ("Town" : Str)).ok K,
 fun K => (He.Fa.cls ("MadeTown" : Str)).ok K,
 fun K => prpB ("Town" : Str) ("unread" : Str) K], []⟩
def gr1 : Grp := ⟨[fun K => prpB ("MadeTown" : Str) ("unread" : Str) K,
 fun K => (He.Fa.mkr ("Town" : Str)).ok K,
 fun K => (He.Fa.glo ("Town" : Str)).ok K,
 fun K => (He.Fa.mkr ("MadeTown" : Str)).ok K,
 fun K => (He.Fa.glo ("MadeTown" : Str)).ok K], []⟩
def gr2 : Grp := ⟨[fun K => (fnD (fun K => He.ga K ("_law_pot" : Str)) ("_law_pot" : Str) ("_law_pot" : Str) (st 58)).ok K,
 fun K => (fnD (fun K => He.ga K ("_law_pots" : Str)) ("_law_pots" : Str) ("_law_pots" : Str) (st 62)).ok K,
 fun K => (fnD (fun K => He.ga K ("_law_with" : Str)) ("_law_with" : Str) ("_law_with" : Str) (st 68)).ok K,
 fun K => (fnD (fun K => He.ga K ("_law_take" : Str)) ("_law_take" : Str) ("_law_take" : Str) (st 59)).ok K,
 fun K => (fnD (fun K => He.ga K ("_law_against" : Str)) ("_law_against" : Str) ("_law_against" : Str) (st 73)).ok K,
 fun K => (fnD (fun K => He.ga K ("_law_some" : Str)) ("_law_some" : Str) ("_law_some" : Str) (st 61)).ok K,
 fun K => (fnD (fun K => He.ga K ("_law_names" : Str)) ("_law_names" : Str) ("_law_names" : Str) (st 63)).ok K,
 fun K => (fnD (fun K => He.ga K ("_law_of" : Str)) ("_law_of" : Str) ("_law_of" : Str) (st 60)).ok K,
 fun K => (fnD (fun K => He.ga K ("_law_roads" : Str)) ("_law_roads" : Str) ("_law_roads" : Str) (st 64)).ok K,
 fun K => (fnD (fun K => He.ga K ("_law_town" : Str)) ("_law_town" : Str) ("_law_town" : Str) (st 65)).ok K], [fnD (fun K => He.ga K ("_law_pot" : Str)) ("_law_pot" : Str) ("_law_pot" : Str) (st 58),
 fnD (fun K => He.ga K ("_law_pots" : Str)) ("_law_pots" : Str) ("_law_pots" : Str) (st 62),
 fnD (fun K => He.ga K ("_law_with" : Str)) ("_law_with" : Str) ("_law_with" : Str) (st 68),
 fnD (fun K => He.ga K ("_law_take" : Str)) ("_law_take" : Str) ("_law_take" : Str) (st 59),
 fnD (fun K => He.ga K ("_law_against" : Str)) ("_law_against" : Str) ("_law_against" : Str) (st 73),
 fnD (fun K => He.ga K ("_law_some" : Str)) ("_law_some" : Str) ("_law_some" : Str) (st 61),
 fnD (fun K => He.ga K ("_law_names" : Str)) ("_law_names" : Str) ("_law_names" : Str) (st 63),
 fnD (fun K => He.ga K ("_law_of" : Str)) ("_law_of" : Str) ("_law_of" : Str) (st 60),
 fnD (fun K => He.ga K ("_law_roads" : Str)) ("_law_roads" : Str) ("_law_roads" : Str) (st 64),
 fnD (fun K => He.ga K ("_law_town" : Str)) ("_law_town" : Str) ("_law_town" : Str) (st 65)]⟩
def gr3 : Grp := ⟨[fun K => (fnD (fun K => He.ga K ("_law_rim" : Str)) ("_law_rim" : Str) ("_law_rim" : Str) (st 70)).ok K,
 fun K => (fnD (fun K => He.ga K ("_law_does_bar" : Str)) ("_law_does_bar" : Str) ("_law_does_bar" : Str) (st 71)).ok K,
 fun K => (fnD (fun K => He.ga K ("_law_sets" : Str)) ("_law_sets" : Str) ("_law_sets" : Str) (st 69)).ok K,
 fun K => (fnD (fun K => He.ga K ("_law_has_map" : Str)) ("_law_has_map" : Str) ("_law_has_map" : Str) (st 72)).ok K,
 fun K => (fnD (fun K => He.ga K ("known_streets" : Str)) ("known_streets" : Str) ("known_streets" : Str) (st 54)).ok K,
 fun K => (fnD (fun K => He.ga K ("roads_from" : Str)) ("roads_from" : Str) ("roads_from" : Str) (st 47)).ok K,
 fun K => (fnD (fun K => He.ga K ("ends_by" : Str)) ("ends_by" : Str) ("ends_by" : Str) (st 42)).ok K,
 fun K => (fnD (fun K => He.ga K ("arrows" : Str)) ("arrows" : Str) ("arrows" : Str) (st 46)).ok K,
 fun K => (fnD (fun K => He.ga K ("in_sequence" : Str)) ("in_sequence" : Str) ("in_sequence" : Str) (st 44)).ok K,
 fun K => (fnD (fun K => He.ga K ("both_ways" : Str)) ("both_ways" : Str) ("both_ways" : Str) (st 50)).ok K], [fnD (fun K => He.ga K ("_law_rim" : Str)) ("_law_rim" : Str) ("_law_rim" : Str) (st 70),
 fnD (fun K => He.ga K ("_law_does_bar" : Str)) ("_law_does_bar" : Str) ("_law_does_bar" : Str) (st 71),
 fnD (fun K => He.ga K ("_law_sets" : Str)) ("_law_sets" : Str) ("_law_sets" : Str) (st 69),
 fnD (fun K => He.ga K ("_law_has_map" : Str)) ("_law_has_map" : Str) ("_law_has_map" : Str) (st 72),
 fnD (fun K => He.ga K ("known_streets" : Str)) ("known_streets" : Str) ("known_streets" : Str) (st 54),
 fnD (fun K => He.ga K ("roads_from" : Str)) ("roads_from" : Str) ("roads_from" : Str) (st 47),
 fnD (fun K => He.ga K ("ends_by" : Str)) ("ends_by" : Str) ("ends_by" : Str) (st 42),
 fnD (fun K => He.ga K ("arrows" : Str)) ("arrows" : Str) ("arrows" : Str) (st 46),
 fnD (fun K => He.ga K ("in_sequence" : Str)) ("in_sequence" : Str) ("in_sequence" : Str) (st 44),
 fnD (fun K => He.ga K ("both_ways" : Str)) ("both_ways" : Str) ("both_ways" : Str) (st 50)]⟩
def gr4 : Grp := ⟨[fun K => (fnD (fun K => He.ga K ("barred" : Str)) ("barred" : Str) ("barred" : Str) (st 49)).ok K,
 fun K => (fnD (fun K => He.ga K ("has_map" : Str)) ("has_map" : Str) ("has_map" : Str) (st 52)).ok K,
 fun K => (fnD (fun K => He.ga K ("text_of" : Str)) ("text_of" : Str) ("text_of" : Str) (st 33)).ok K,
 fun K => (fnD (fun K => He.ga K ("town_of" : Str)) ("town_of" : Str) ("town_of" : Str) (st 36)).ok K,
 fun K => (fnD (fun K => He.ga K ("known_turned" : Str)) ("known_turned" : Str) ("known_turned" : Str) (st 55)).ok K,
 fun K => (fnD (fun K => He.ga K ("wrong" : Str)) ("wrong" : Str) ("wrong" : Str) (st 56)).ok K,
 fun K => (fnD (fun K => He.ga K ("_law_turned_lore" : Str)) ("_law_turned_lore" : Str) ("_law_turned_lore" : Str) (st 74)).ok K,
 fun K => (fnD (fun K => He.ga K ("are_unlike" : Str)) ("are_unlike" : Str) ("are_unlike" : Str) (st 18)).ok K,
 fun K => (fnD (fun K => He.ga K ("is_name" : Str)) ("is_name" : Str) ("is_name" : Str) (st 17)).ok K,
 fun K => (fnD (fun K => He.ga K ("places_in" : Str)) ("places_in" : Str) ("places_in" : Str) (st 30)).ok K], [fnD (fun K => He.ga K ("barred" : Str)) ("barred" : Str) ("barred" : Str) (st 49),
 fnD (fun K => He.ga K ("has_map" : Str)) ("has_map" : Str) ("has_map" : Str) (st 52),
 fnD (fun K => He.ga K ("text_of" : Str)) ("text_of" : Str) ("text_of" : Str) (st 33),
 fnD (fun K => He.ga K ("town_of" : Str)) ("town_of" : Str) ("town_of" : Str) (st 36),
 fnD (fun K => He.ga K ("known_turned" : Str)) ("known_turned" : Str) ("known_turned" : Str) (st 55),
 fnD (fun K => He.ga K ("wrong" : Str)) ("wrong" : Str) ("wrong" : Str) (st 56),
 fnD (fun K => He.ga K ("_law_turned_lore" : Str)) ("_law_turned_lore" : Str) ("_law_turned_lore" : Str) (st 74),
 fnD (fun K => He.ga K ("are_unlike" : Str)) ("are_unlike" : Str) ("are_unlike" : Str) (st 18),
 fnD (fun K => He.ga K ("is_name" : Str)) ("is_name" : Str) ("is_name" : Str) (st 17),
 fnD (fun K => He.ga K ("places_in" : Str)) ("places_in" : Str) ("places_in" : Str) (st 30)]⟩
def gr5 : Grp := ⟨[fun K => (fnD (fun K => He.ga K ("street_in" : Str)) ("street_in" : Str) ("street_in" : Str) (st 31)).ok K,
 fun K => (fnD (fun K => He.ga K ("read_text" : Str)) ("read_text" : Str) ("read_text" : Str) (st 32)).ok K,
 fun K => (fnD (fun K => He.ga K ("_law_street_line" : Str)) ("_law_street_line" : Str) ("_law_street_line" : Str) (st 66)).ok K,
 fun K => (fnD (fun K => He.ga K ("_law_text" : Str)) ("_law_text" : Str) ("_law_text" : Str) (st 67)).ok K,
 fun K => (fnD (fun K => He.ga K ("_law_right" : Str)) ("_law_right" : Str) ("_law_right" : Str) (st 75)).ok K,
 fun K => (fnD (fun K => He.ga K ("law" : Str)) ("law" : Str) ("law" : Str) (st 76)).ok K,
 fun K => (fnD (pgA ("Town" : Str) ("unread" : Str)) ("unread" : Str) ("Town.unread" : Str) (ms 34 4)).ok K,
 fun K => (fnD (pgA ("MadeTown" : Str) ("unread" : Str)) ("unread" : Str) ("Town.unread" : Str) (ms 34 4)).ok K,
 fun K => (fnD (pmA ("Town" : Str) "__init__") "__init__" ("Town.__init__" : Str) (ms 34 0)).ok K,
 fun K => (fnD (pmA ("MadeTown" : Str) "__init__") "__init__" ("MadeTown.__init__" : Str) (ms 35 0)).ok K], [fnD (fun K => He.ga K ("street_in" : Str)) ("street_in" : Str) ("street_in" : Str) (st 31),
 fnD (fun K => He.ga K ("read_text" : Str)) ("read_text" : Str) ("read_text" : Str) (st 32),
 fnD (fun K => He.ga K ("_law_street_line" : Str)) ("_law_street_line" : Str) ("_law_street_line" : Str) (st 66),
 fnD (fun K => He.ga K ("_law_text" : Str)) ("_law_text" : Str) ("_law_text" : Str) (st 67),
 fnD (fun K => He.ga K ("_law_right" : Str)) ("_law_right" : Str) ("_law_right" : Str) (st 75),
 fnD (fun K => He.ga K ("law" : Str)) ("law" : Str) ("law" : Str) (st 76),
 fnD (pgA ("Town" : Str) ("unread" : Str)) ("unread" : Str) ("Town.unread" : Str) (ms 34 4),
 fnD (pgA ("MadeTown" : Str) ("unread" : Str)) ("unread" : Str) ("Town.unread" : Str) (ms 34 4),
 fnD (pmA ("Town" : Str) "__init__") "__init__" ("Town.__init__" : Str) (ms 34 0),
 fnD (pmA ("MadeTown" : Str) "__init__") "__init__" ("MadeTown.__init__" : Str) (ms 35 0)]⟩
def grs : List Grp := [gr0, gr1, gr2, gr3, gr4, gr5]
theorem facts_of {W : Wd} {h : Heap} (X : W.K.In h) (G : h.Ns mainGlobals W.mg) (cc : grs.map (fun p => p.obs W.K) = grs.map Grp.val) : Facts W := by
  have p0 := says_at cc (i := 0) (p := gr0) rfl
  have p1 := says_at cc (i := 1) (p := gr1) rfl
  have p2 := says_at cc (i := 2) (p := gr2) rfl
  have p3 := says_at cc (i := 3) (p := gr3) rfl
  have p4 := says_at cc (i := 4) (p := gr4) rfl
  have p5 := says_at cc (i := 5) (p := gr5) rfl
  exact {
    bn := freB_ok X G (obs_fb p0 (f := fun K => freB [("abs" : Str), ("all" : Str), ("any" : Str), ("enumerate" : Str), ("int" : Str), ("isinstance" : Str), ("len" : Str), ("list" : Str), ("max" : Str), ("min" : Str), ("property" : Str), ("range" : Str), ("repr" : Str), ("set" : Str), ("str" : Str), ("tuple" : Str), ("zip" : Str)] K) 1 rfl),
    sys := sysB_ok (obs_fb p0 (f := fun K => sysB K) 2 rfl),
    c_BLANK := gcB_ok X G (obs_fb p0 (f := fun K => gcB ("BLANK" : Str) c_BLANK K) 3 rfl),
    c_FEED := gcB_ok X G (obs_fb p0 (f := fun K => gcB ("FEED" : Str) c_FEED K) 4 rfl),
    c_LETTERS := gcB_ok X G (obs_fb p0 (f := fun K => gcB ("LETTERS" : Str) c_LETTERS K) 5 rfl),
    c_MOST_LETTERS := gcB_ok X G (obs_fb p0 (f := fun K => gcB ("MOST_LETTERS" : Str) c_MOST_LETTERS K) 6 rfl),
    c_AS_WRITTEN := gcB_ok X G (obs_fb p0 (f := fun K => gcB ("AS_WRITTEN" : Str) c_AS_WRITTEN K) 7 rfl),
    c_PLACES := gcB_ok X G (obs_fb p0 (f := fun K => gcB ("PLACES" : Str) c_PLACES K) 8 rfl),
    c_UNREAD := gcB_ok X G (obs_fb p0 (f := fun K => gcB ("UNREAD" : Str) c_UNREAD K) 9 rfl),
    c_KNOWN := gcB_ok X G (obs_fb p0 (f := fun K => gcB ("KNOWN" : Str) c_KNOWN K) 10 rfl),
    c_BOTH := gcB_ok X G (obs_fb p0 (f := fun K => gcB ("BOTH" : Str) c_BOTH K) 11 rfl),
    c_KINDS := gcB_ok X G (obs_fb p0 (f := fun K => gcB ("KINDS" : Str) c_KINDS K) 12 rfl),
    c_LEAST_PLACES := gcB_ok X G (obs_fb p0 (f := fun K => gcB ("LEAST_PLACES" : Str) c_LEAST_PLACES K) 13 rfl),
    c_MOST_PLACES := gcB_ok X G (obs_fb p0 (f := fun K => gcB ("MOST_PLACES" : Str) c_MOST_PLACES K) 14 rfl),
    c_MOST_STREETS := gcB_ok X G (obs_fb p0 (f := fun K => gcB ("MOST_STREETS" : Str) c_MOST_STREETS K) 15 rfl),
    c_STREET_WORDS := gcB_ok X G (obs_fb p0 (f := fun K => gcB ("STREET_WORDS" : Str) c_STREET_WORDS K) 16 rfl),
    fld_own_places := fun c hc => fldB_ok (List.all_eq_true.mp (obs_fb p0 (f := fun K => cls_own_places.all fun c => fldB c ("own_places" : Str) K) 17 rfl) c hc),
    fld_own_rows := fun c hc => fldB_ok (List.all_eq_true.mp (obs_fb p0 (f := fun K => cls_own_rows.all fun c => fldB c ("own_rows" : Str) K) 18 rfl) c hc),
    fld_own_text := fun c hc => fldB_ok (List.all_eq_true.mp (obs_fb p0 (f := fun K => cls_own_text.all fun c => fldB c ("own_text" : Str) K) 19 rfl) c hc),
    is_str := isiB_ok (u := fun _ => .type "str") (obs_fb p0 (f := fun K => isiB is_str (fun _ => .type "str") K) 20 rfl),
    fn_f_law_pot := ⟨He.ga W.K ("_law_pot" : Str), (fnAt_of (at_ := fun K => He.ga K ("_law_pot" : Str)) (obs_fn p2 (d := fnD (fun K => He.ga K ("_law_pot" : Str)) ("_law_pot" : Str) ("_law_pot" : Str) (st 58)) 0 rfl) (obs_fb p2 (f := fun K => (fnD (fun K => He.ga K ("_law_pot" : Str)) ("_law_pot" : Str) ("_law_pot" : Str) (st 58)).ok K) 0 rfl)), He.glo_ok X G (obs_fb p0 (f := fun K => (He.Fa.glo ("_law_pot" : Str)).ok K) 21 rfl)⟩,
    fn_f_law_pots := ⟨He.ga W.K ("_law_pots" : Str), (fnAt_of (at_ := fun K => He.ga K ("_law_pots" : Str)) (obs_fn p2 (d := fnD (fun K => He.ga K ("_law_pots" : Str)) ("_law_pots" : Str) ("_law_pots" : Str) (st 62)) 1 rfl) (obs_fb p2 (f := fun K => (fnD (fun K => He.ga K ("_law_pots" : Str)) ("_law_pots" : Str) ("_law_pots" : Str) (st 62)).ok K) 1 rfl)), He.glo_ok X G (obs_fb p0 (f := fun K => (He.Fa.glo ("_law_pots" : Str)).ok K) 22 rfl)⟩,
    fn_f_law_with := ⟨He.ga W.K ("_law_with" : Str), (fnAt_of (at_ := fun K => He.ga K ("_law_with" : Str)) (obs_fn p2 (d := fnD (fun K => He.ga K ("_law_with" : Str)) ("_law_with" : Str) ("_law_with" : Str) (st 68)) 2 rfl) (obs_fb p2 (f := fun K => (fnD (fun K => He.ga K ("_law_with" : Str)) ("_law_with" : Str) ("_law_with" : Str) (st 68)).ok K) 2 rfl)), He.glo_ok X G (obs_fb p0 (f := fun K => (He.Fa.glo ("_law_with" : Str)).ok K) 23 rfl)⟩,
    fn_f_law_take := ⟨He.ga W.K ("_law_take" : Str), (fnAt_of (at_ := fun K => He.ga K ("_law_take" : Str)) (obs_fn p2 (d := fnD (fun K => He.ga K ("_law_take" : Str)) ("_law_take" : Str) ("_law_take" : Str) (st 59)) 3 rfl) (obs_fb p2 (f := fun K => (fnD (fun K => He.ga K ("_law_take" : Str)) ("_law_take" : Str) ("_law_take" : Str) (st 59)).ok K) 3 rfl)), He.glo_ok X G (obs_fb p0 (f := fun K => (He.Fa.glo ("_law_take" : Str)).ok K) 24 rfl)⟩,
    fn_f_law_against := ⟨He.ga W.K ("_law_against" : Str), (fnAt_of (at_ := fun K => He.ga K ("_law_against" : Str)) (obs_fn p2 (d := fnD (fun K => He.ga K ("_law_against" : Str)) ("_law_against" : Str) ("_law_against" : Str) (st 73)) 4 rfl) (obs_fb p2 (f := fun K => (fnD (fun K => He.ga K ("_law_against" : Str)) ("_law_against" : Str) ("_law_against" : Str) (st 73)).ok K) 4 rfl)), He.glo_ok X G (obs_fb p0 (f := fun K => (He.Fa.glo ("_law_against" : Str)).ok K) 25 rfl)⟩,
    fn_f_law_some := ⟨He.ga W.K ("_law_some" : Str), (fnAt_of (at_ := fun K => He.ga K ("_law_some" : Str)) (obs_fn p2 (d := fnD (fun K => He.ga K ("_law_some" : Str)) ("_law_some" : Str) ("_law_some" : Str) (st 61)) 5 rfl) (obs_fb p2 (f := fun K => (fnD (fun K => He.ga K ("_law_some" : Str)) ("_law_some" : Str) ("_law_some" : Str) (st 61)).ok K) 5 rfl)), He.glo_ok X G (obs_fb p0 (f := fun K => (He.Fa.glo ("_law_some" : Str)).ok K) 26 rfl)⟩,
    fn_f_law_names := ⟨He.ga W.K ("_law_names" : Str), (fnAt_of (at_ := fun K => He.ga K ("_law_names" : Str)) (obs_fn p2 (d := fnD (fun K => He.ga K ("_law_names" : Str)) ("_law_names" : Str) ("_law_names" : Str) (st 63)) 6 rfl) (obs_fb p2 (f := fun K => (fnD (fun K => He.ga K ("_law_names" : Str)) ("_law_names" : Str) ("_law_names" : Str) (st 63)).ok K) 6 rfl)), He.glo_ok X G (obs_fb p0 (f := fun K => (He.Fa.glo ("_law_names" : Str)).ok K) 27 rfl)⟩,
    fn_f_law_of := ⟨He.ga W.K ("_law_of" : Str), (fnAt_of (at_ := fun K => He.ga K ("_law_of" : Str)) (obs_fn p2 (d := fnD (fun K => He.ga K ("_law_of" : Str)) ("_law_of" : Str) ("_law_of" : Str) (st 60)) 7 rfl) (obs_fb p2 (f := fun K => (fnD (fun K => He.ga K ("_law_of" : Str)) ("_law_of" : Str) ("_law_of" : Str) (st 60)).ok K) 7 rfl)), He.glo_ok X G (obs_fb p0 (f := fun K => (He.Fa.glo ("_law_of" : Str)).ok K) 28 rfl)⟩,
    fn_f_law_roads := ⟨He.ga W.K ("_law_roads" : Str), (fnAt_of (at_ := fun K => He.ga K ("_law_roads" : Str)) (obs_fn p2 (d := fnD (fun K => He.ga K ("_law_roads" : Str)) ("_law_roads" : Str) ("_law_roads" : Str) (st 64)) 8 rfl) (obs_fb p2 (f := fun K => (fnD (fun K => He.ga K ("_law_roads" : Str)) ("_law_roads" : Str) ("_law_roads" : Str) (st 64)).ok K) 8 rfl)), He.glo_ok X G (obs_fb p0 (f := fun K => (He.Fa.glo ("_law_roads" : Str)).ok K) 29 rfl)⟩,
    fn_f_law_town := ⟨He.ga W.K ("_law_town" : Str), (fnAt_of (at_ := fun K => He.ga K ("_law_town" : Str)) (obs_fn p2 (d := fnD (fun K => He.ga K ("_law_town" : Str)) ("_law_town" : Str) ("_law_town" : Str) (st 65)) 9 rfl) (obs_fb p2 (f := fun K => (fnD (fun K => He.ga K ("_law_town" : Str)) ("_law_town" : Str) ("_law_town" : Str) (st 65)).ok K) 9 rfl)), He.glo_ok X G (obs_fb p0 (f := fun K => (He.Fa.glo ("_law_town" : Str)).ok K) 30 rfl)⟩,
    fn_f_law_rim := ⟨He.ga W.K ("_law_rim" : Str), (fnAt_of (at_ := fun K => He.ga K ("_law_rim" : Str)) (obs_fn p3 (d := fnD (fun K => He.ga K ("_law_rim" : Str)) ("_law_rim" : Str) ("_law_rim" : Str) (st 70)) 0 rfl) (obs_fb p3 (f := fun K => (fnD (fun K => He.ga K ("_law_rim" : Str)) ("_law_rim" : Str) ("_law_rim" : Str) (st 70)).ok K) 0 rfl)), He.glo_ok X G (obs_fb p0 (f := fun K => (He.Fa.glo ("_law_rim" : Str)).ok K) 31 rfl)⟩,
    fn_f_law_does_bar := ⟨He.ga W.K ("_law_does_bar" : Str), (fnAt_of (at_ := fun K => He.ga K ("_law_does_bar" : Str)) (obs_fn p3 (d := fnD (fun K => He.ga K ("_law_does_bar" : Str)) ("_law_does_bar" : Str) ("_law_does_bar" : Str) (st 71)) 1 rfl) (obs_fb p3 (f := fun K => (fnD (fun K => He.ga K ("_law_does_bar" : Str)) ("_law_does_bar" : Str) ("_law_does_bar" : Str) (st 71)).ok K) 1 rfl)), He.glo_ok X G (obs_fb p0 (f := fun K => (He.Fa.glo ("_law_does_bar" : Str)).ok K) 32 rfl)⟩,
    fn_f_law_sets := ⟨He.ga W.K ("_law_sets" : Str), (fnAt_of (at_ := fun K => He.ga K ("_law_sets" : Str)) (obs_fn p3 (d := fnD (fun K => He.ga K ("_law_sets" : Str)) ("_law_sets" : Str) ("_law_sets" : Str) (st 69)) 2 rfl) (obs_fb p3 (f := fun K => (fnD (fun K => He.ga K ("_law_sets" : Str)) ("_law_sets" : Str) ("_law_sets" : Str) (st 69)).ok K) 2 rfl)), He.glo_ok X G (obs_fb p0 (f := fun K => (He.Fa.glo ("_law_sets" : Str)).ok K) 33 rfl)⟩,
    fn_f_law_has_map := ⟨He.ga W.K ("_law_has_map" : Str), (fnAt_of (at_ := fun K => He.ga K ("_law_has_map" : Str)) (obs_fn p3 (d := fnD (fun K => He.ga K ("_law_has_map" : Str)) ("_law_has_map" : Str) ("_law_has_map" : Str) (st 72)) 3 rfl) (obs_fb p3 (f := fun K => (fnD (fun K => He.ga K ("_law_has_map" : Str)) ("_law_has_map" : Str) ("_law_has_map" : Str) (st 72)).ok K) 3 rfl)), He.glo_ok X G (obs_fb p0 (f := fun K => (He.Fa.glo ("_law_has_map" : Str)).ok K) 34 rfl)⟩,
    fn_f_known_streets := ⟨He.ga W.K ("known_streets" : Str), (fnAt_of (at_ := fun K => He.ga K ("known_streets" : Str)) (obs_fn p3 (d := fnD (fun K => He.ga K ("known_streets" : Str)) ("known_streets" : Str) ("known_streets" : Str) (st 54)) 4 rfl) (obs_fb p3 (f := fun K => (fnD (fun K => He.ga K ("known_streets" : Str)) ("known_streets" : Str) ("known_streets" : Str) (st 54)).ok K) 4 rfl)), He.glo_ok X G (obs_fb p0 (f := fun K => (He.Fa.glo ("known_streets" : Str)).ok K) 35 rfl)⟩,
    fn_f_roads_from := ⟨He.ga W.K ("roads_from" : Str), (fnAt_of (at_ := fun K => He.ga K ("roads_from" : Str)) (obs_fn p3 (d := fnD (fun K => He.ga K ("roads_from" : Str)) ("roads_from" : Str) ("roads_from" : Str) (st 47)) 5 rfl) (obs_fb p3 (f := fun K => (fnD (fun K => He.ga K ("roads_from" : Str)) ("roads_from" : Str) ("roads_from" : Str) (st 47)).ok K) 5 rfl)), He.glo_ok X G (obs_fb p0 (f := fun K => (He.Fa.glo ("roads_from" : Str)).ok K) 36 rfl)⟩,
    fn_f_ends_by := ⟨He.ga W.K ("ends_by" : Str), (fnAt_of (at_ := fun K => He.ga K ("ends_by" : Str)) (obs_fn p3 (d := fnD (fun K => He.ga K ("ends_by" : Str)) ("ends_by" : Str) ("ends_by" : Str) (st 42)) 6 rfl) (obs_fb p3 (f := fun K => (fnD (fun K => He.ga K ("ends_by" : Str)) ("ends_by" : Str) ("ends_by" : Str) (st 42)).ok K) 6 rfl)), He.glo_ok X G (obs_fb p0 (f := fun K => (He.Fa.glo ("ends_by" : Str)).ok K) 37 rfl)⟩,
    fn_f_arrows := ⟨He.ga W.K ("arrows" : Str), (fnAt_of (at_ := fun K => He.ga K ("arrows" : Str)) (obs_fn p3 (d := fnD (fun K => He.ga K ("arrows" : Str)) ("arrows" : Str) ("arrows" : Str) (st 46)) 7 rfl) (obs_fb p3 (f := fun K => (fnD (fun K => He.ga K ("arrows" : Str)) ("arrows" : Str) ("arrows" : Str) (st 46)).ok K) 7 rfl)), He.glo_ok X G (obs_fb p0 (f := fun K => (He.Fa.glo ("arrows" : Str)).ok K) 38 rfl)⟩,
    fn_f_in_sequence := ⟨He.ga W.K ("in_sequence" : Str), (fnAt_of (at_ := fun K => He.ga K ("in_sequence" : Str)) (obs_fn p3 (d := fnD (fun K => He.ga K ("in_sequence" : Str)) ("in_sequence" : Str) ("in_sequence" : Str) (st 44)) 8 rfl) (obs_fb p3 (f := fun K => (fnD (fun K => He.ga K ("in_sequence" : Str)) ("in_sequence" : Str) ("in_sequence" : Str) (st 44)).ok K) 8 rfl)), He.glo_ok X G (obs_fb p0 (f := fun K => (He.Fa.glo ("in_sequence" : Str)).ok K) 39 rfl)⟩,
    fn_f_both_ways := ⟨He.ga W.K ("both_ways" : Str), (fnAt_of (at_ := fun K => He.ga K ("both_ways" : Str)) (obs_fn p3 (d := fnD (fun K => He.ga K ("both_ways" : Str)) ("both_ways" : Str) ("both_ways" : Str) (st 50)) 9 rfl) (obs_fb p3 (f := fun K => (fnD (fun K => He.ga K ("both_ways" : Str)) ("both_ways" : Str) ("both_ways" : Str) (st 50)).ok K) 9 rfl)), He.glo_ok X G (obs_fb p0 (f := fun K => (He.Fa.glo ("both_ways" : Str)).ok K) 40 rfl)⟩,
    fn_f_barred := ⟨He.ga W.K ("barred" : Str), (fnAt_of (at_ := fun K => He.ga K ("barred" : Str)) (obs_fn p4 (d := fnD (fun K => He.ga K ("barred" : Str)) ("barred" : Str) ("barred" : Str) (st 49)) 0 rfl) (obs_fb p4 (f := fun K => (fnD (fun K => He.ga K ("barred" : Str)) ("barred" : Str) ("barred" : Str) (st 49)).ok K) 0 rfl)), He.glo_ok X G (obs_fb p0 (f := fun K => (He.Fa.glo ("barred" : Str)).ok K) 41 rfl)⟩,
    fn_f_has_map := ⟨He.ga W.K ("has_map" : Str), (fnAt_of (at_ := fun K => He.ga K ("has_map" : Str)) (obs_fn p4 (d := fnD (fun K => He.ga K ("has_map" : Str)) ("has_map" : Str) ("has_map" : Str) (st 52)) 1 rfl) (obs_fb p4 (f := fun K => (fnD (fun K => He.ga K ("has_map" : Str)) ("has_map" : Str) ("has_map" : Str) (st 52)).ok K) 1 rfl)), He.glo_ok X G (obs_fb p0 (f := fun K => (He.Fa.glo ("has_map" : Str)).ok K) 42 rfl)⟩,
    fn_f_text_of := ⟨He.ga W.K ("text_of" : Str), (fnAt_of (at_ := fun K => He.ga K ("text_of" : Str)) (obs_fn p4 (d := fnD (fun K => He.ga K ("text_of" : Str)) ("text_of" : Str) ("text_of" : Str) (st 33)) 2 rfl) (obs_fb p4 (f := fun K => (fnD (fun K => He.ga K ("text_of" : Str)) ("text_of" : Str) ("text_of" : Str) (st 33)).ok K) 2 rfl)), He.glo_ok X G (obs_fb p0 (f := fun K => (He.Fa.glo ("text_of" : Str)).ok K) 43 rfl)⟩,
    fn_f_town_of := ⟨He.ga W.K ("town_of" : Str), (fnAt_of (at_ := fun K => He.ga K ("town_of" : Str)) (obs_fn p4 (d := fnD (fun K => He.ga K ("town_of" : Str)) ("town_of" : Str) ("town_of" : Str) (st 36)) 3 rfl) (obs_fb p4 (f := fun K => (fnD (fun K => He.ga K ("town_of" : Str)) ("town_of" : Str) ("town_of" : Str) (st 36)).ok K) 3 rfl)), He.glo_ok X G (obs_fb p0 (f := fun K => (He.Fa.glo ("town_of" : Str)).ok K) 44 rfl)⟩,
    fn_f_known_turned := ⟨He.ga W.K ("known_turned" : Str), (fnAt_of (at_ := fun K => He.ga K ("known_turned" : Str)) (obs_fn p4 (d := fnD (fun K => He.ga K ("known_turned" : Str)) ("known_turned" : Str) ("known_turned" : Str) (st 55)) 4 rfl) (obs_fb p4 (f := fun K => (fnD (fun K => He.ga K ("known_turned" : Str)) ("known_turned" : Str) ("known_turned" : Str) (st 55)).ok K) 4 rfl)), He.glo_ok X G (obs_fb p0 (f := fun K => (He.Fa.glo ("known_turned" : Str)).ok K) 45 rfl)⟩,
    fn_f_wrong := ⟨He.ga W.K ("wrong" : Str), (fnAt_of (at_ := fun K => He.ga K ("wrong" : Str)) (obs_fn p4 (d := fnD (fun K => He.ga K ("wrong" : Str)) ("wrong" : Str) ("wrong" : Str) (st 56)) 5 rfl) (obs_fb p4 (f := fun K => (fnD (fun K => He.ga K ("wrong" : Str)) ("wrong" : Str) ("wrong" : Str) (st 56)).ok K) 5 rfl)), He.glo_ok X G (obs_fb p0 (f := fun K => (He.Fa.glo ("wrong" : Str)).ok K) 46 rfl)⟩,
    fn_f_law_turned_lore := ⟨He.ga W.K ("_law_turned_lore" : Str), (fnAt_of (at_ := fun K => He.ga K ("_law_turned_lore" : Str)) (obs_fn p4 (d := fnD (fun K => He.ga K ("_law_turned_lore" : Str)) ("_law_turned_lore" : Str) ("_law_turned_lore" : Str) (st 74)) 6 rfl) (obs_fb p4 (f := fun K => (fnD (fun K => He.ga K ("_law_turned_lore" : Str)) ("_law_turned_lore" : Str) ("_law_turned_lore" : Str) (st 74)).ok K) 6 rfl)), He.glo_ok X G (obs_fb p0 (f := fun K => (He.Fa.glo ("_law_turned_lore" : Str)).ok K) 47 rfl)⟩,
    fn_f_are_unlike := ⟨He.ga W.K ("are_unlike" : Str), (fnAt_of (at_ := fun K => He.ga K ("are_unlike" : Str)) (obs_fn p4 (d := fnD (fun K => He.ga K ("are_unlike" : Str)) ("are_unlike" : Str) ("are_unlike" : Str) (st 18)) 7 rfl) (obs_fb p4 (f := fun K => (fnD (fun K => He.ga K ("are_unlike" : Str)) ("are_unlike" : Str) ("are_unlike" : Str) (st 18)).ok K) 7 rfl)), He.glo_ok X G (obs_fb p0 (f := fun K => (He.Fa.glo ("are_unlike" : Str)).ok K) 48 rfl)⟩,
    fn_f_is_name := ⟨He.ga W.K ("is_name" : Str), (fnAt_of (at_ := fun K => He.ga K ("is_name" : Str)) (obs_fn p4 (d := fnD (fun K => He.ga K ("is_name" : Str)) ("is_name" : Str) ("is_name" : Str) (st 17)) 8 rfl) (obs_fb p4 (f := fun K => (fnD (fun K => He.ga K ("is_name" : Str)) ("is_name" : Str) ("is_name" : Str) (st 17)).ok K) 8 rfl)), He.glo_ok X G (obs_fb p0 (f := fun K => (He.Fa.glo ("is_name" : Str)).ok K) 49 rfl)⟩,
    fn_f_places_in := ⟨He.ga W.K ("places_in" : Str), (fnAt_of (at_ := fun K => He.ga K ("places_in" : Str)) (obs_fn p4 (d := fnD (fun K => He.ga K ("places_in" : Str)) ("places_in" : Str) ("places_in" : Str) (st 30)) 9 rfl) (obs_fb p4 (f := fun K => (fnD (fun K => He.ga K ("places_in" : Str)) ("places_in" : Str) ("places_in" : Str) (st 30)).ok K) 9 rfl)), He.glo_ok X G (obs_fb p0 (f := fun K => (He.Fa.glo ("places_in" : Str)).ok K) 50 rfl)⟩,
    fn_f_street_in := ⟨He.ga W.K ("street_in" : Str), (fnAt_of (at_ := fun K => He.ga K ("street_in" : Str)) (obs_fn p5 (d := fnD (fun K => He.ga K ("street_in" : Str)) ("street_in" : Str) ("street_in" : Str) (st 31)) 0 rfl) (obs_fb p5 (f := fun K => (fnD (fun K => He.ga K ("street_in" : Str)) ("street_in" : Str) ("street_in" : Str) (st 31)).ok K) 0 rfl)), He.glo_ok X G (obs_fb p0 (f := fun K => (He.Fa.glo ("street_in" : Str)).ok K) 51 rfl)⟩,
    fn_f_read_text := ⟨He.ga W.K ("read_text" : Str), (fnAt_of (at_ := fun K => He.ga K ("read_text" : Str)) (obs_fn p5 (d := fnD (fun K => He.ga K ("read_text" : Str)) ("read_text" : Str) ("read_text" : Str) (st 32)) 1 rfl) (obs_fb p5 (f := fun K => (fnD (fun K => He.ga K ("read_text" : Str)) ("read_text" : Str) ("read_text" : Str) (st 32)).ok K) 1 rfl)), He.glo_ok X G (obs_fb p0 (f := fun K => (He.Fa.glo ("read_text" : Str)).ok K) 52 rfl)⟩,
    fn_f_law_street_line := ⟨He.ga W.K ("_law_street_line" : Str), (fnAt_of (at_ := fun K => He.ga K ("_law_street_line" : Str)) (obs_fn p5 (d := fnD (fun K => He.ga K ("_law_street_line" : Str)) ("_law_street_line" : Str) ("_law_street_line" : Str) (st 66)) 2 rfl) (obs_fb p5 (f := fun K => (fnD (fun K => He.ga K ("_law_street_line" : Str)) ("_law_street_line" : Str) ("_law_street_line" : Str) (st 66)).ok K) 2 rfl)), He.glo_ok X G (obs_fb p0 (f := fun K => (He.Fa.glo ("_law_street_line" : Str)).ok K) 53 rfl)⟩,
    fn_f_law_text := ⟨He.ga W.K ("_law_text" : Str), (fnAt_of (at_ := fun K => He.ga K ("_law_text" : Str)) (obs_fn p5 (d := fnD (fun K => He.ga K ("_law_text" : Str)) ("_law_text" : Str) ("_law_text" : Str) (st 67)) 3 rfl) (obs_fb p5 (f := fun K => (fnD (fun K => He.ga K ("_law_text" : Str)) ("_law_text" : Str) ("_law_text" : Str) (st 67)).ok K) 3 rfl)), He.glo_ok X G (obs_fb p0 (f := fun K => (He.Fa.glo ("_law_text" : Str)).ok K) 54 rfl)⟩,
    fn_f_law_right := ⟨He.ga W.K ("_law_right" : Str), (fnAt_of (at_ := fun K => He.ga K ("_law_right" : Str)) (obs_fn p5 (d := fnD (fun K => He.ga K ("_law_right" : Str)) ("_law_right" : Str) ("_law_right" : Str) (st 75)) 4 rfl) (obs_fb p5 (f := fun K => (fnD (fun K => He.ga K ("_law_right" : Str)) ("_law_right" : Str) ("_law_right" : Str) (st 75)).ok K) 4 rfl)), He.glo_ok X G (obs_fb p0 (f := fun K => (He.Fa.glo ("_law_right" : Str)).ok K) 55 rfl)⟩,
    fn_f_law := ⟨He.ga W.K ("law" : Str), (fnAt_of (at_ := fun K => He.ga K ("law" : Str)) (obs_fn p5 (d := fnD (fun K => He.ga K ("law" : Str)) ("law" : Str) ("law" : Str) (st 76)) 5 rfl) (obs_fb p5 (f := fun K => (fnD (fun K => He.ga K ("law" : Str)) ("law" : Str) ("law" : Str) (st 76)).ok K) 5 rfl)), He.glo_ok X G (obs_fb p0 (f := fun K => (He.Fa.glo ("law" : Str)).ok K) 56 rfl)⟩,
    cls_Town := He.cls_ok (obs_fb p0 (f := fun K => (He.Fa.cls ("Town" : Str)).ok K) 57 rfl),
    cls_MadeTown := He.cls_ok (obs_fb p0 (f := fun K => (He.Fa.cls ("MadeTown" : Str)).ok K) 58 rfl),
    pr_Town_unread := ⟨_, _, prpB_ok (obs_fb p0 (f := fun K => prpB ("Town" : Str) ("unread" : Str) K) 59 rfl), (fnAt_of (at_ := pgA ("Town" : Str) ("unread" : Str)) (obs_fn p5 (d := fnD (pgA ("Town" : Str) ("unread" : Str)) ("unread" : Str) ("Town.unread" : Str) (ms 34 4)) 6 rfl) (obs_fb p5 (f := fun K => (fnD (pgA ("Town" : Str) ("unread" : Str)) ("unread" : Str) ("Town.unread" : Str) (ms 34 4)).ok K) 6 rfl))⟩,
    pr_MadeTown_unread := ⟨_, _, prpB_ok (obs_fb p1 (f := fun K => prpB ("MadeTown" : Str) ("unread" : Str) K) 0 rfl), (fnAt_of (at_ := pgA ("MadeTown" : Str) ("unread" : Str)) (obs_fn p5 (d := fnD (pgA ("MadeTown" : Str) ("unread" : Str)) ("unread" : Str) ("Town.unread" : Str) (ms 34 4)) 7 rfl) (obs_fb p5 (f := fun K => (fnD (pgA ("MadeTown" : Str) ("unread" : Str)) ("unread" : Str) ("Town.unread" : Str) (ms 34 4)).ok K) 7 rfl))⟩,
    mk_Town := ⟨_, He.mkr_ok (obs_fb p1 (f := fun K => (He.Fa.mkr ("Town" : Str)).ok K) 1 rfl), He.glo_ok X G (obs_fb p1 (f := fun K => (He.Fa.glo ("Town" : Str)).ok K) 2 rfl), (fnAt_of (at_ := pmA ("Town" : Str) "__init__") (obs_fn p5 (d := fnD (pmA ("Town" : Str) "__init__") "__init__" ("Town.__init__" : Str) (ms 34 0)) 8 rfl) (obs_fb p5 (f := fun K => (fnD (pmA ("Town" : Str) "__init__") "__init__" ("Town.__init__" : Str) (ms 34 0)).ok K) 8 rfl))⟩,
    mk_MadeTown := ⟨_, He.mkr_ok (obs_fb p1 (f := fun K => (He.Fa.mkr ("MadeTown" : Str)).ok K) 3 rfl), He.glo_ok X G (obs_fb p1 (f := fun K => (He.Fa.glo ("MadeTown" : Str)).ok K) 4 rfl), (fnAt_of (at_ := pmA ("MadeTown" : Str) "__init__") (obs_fn p5 (d := fnD (pmA ("MadeTown" : Str) "__init__") "__init__" ("MadeTown.__init__" : Str) (ms 35 0)) 9 rfl) (obs_fb p5 (f := fun K => (fnD (pmA ("MadeTown" : Str) "__init__") "__init__" ("MadeTown.__init__" : Str) (ms 35 0)).ok K) 9 rfl))⟩ }
theorem base (w : World) : BasEq R vw 80000 names w := PySem.W.byRow2 "special-get-raises" (P := fun w => BasEq R vw 80000 names w) (fun w os => by kernel_rfl) (fun w os => by kernel_rfl) w
theorem par0 (w : World) : ParEq R 80000 as w gr0 := PySem.W.byRow2 "special-get-raises" (P := fun w => ParEq R 80000 as w gr0) (fun w os => by kernel_rfl) (fun w os => by kernel_rfl) w
theorem par1 (w : World) : ParEq R 80000 as w gr1 := PySem.W.byRow2 "special-get-raises" (P := fun w => ParEq R 80000 as w gr1) (fun w os => by kernel_rfl) (fun w os => by kernel_rfl) w
theorem par2 (w : World) : ParEq R 80000 as w gr2 := PySem.W.byRow2 "special-get-raises" (P := fun w => ParEq R 80000 as w gr2) (fun w os => by kernel_rfl) (fun w os => by kernel_rfl) w
theorem par3 (w : World) : ParEq R 80000 as w gr3 := PySem.W.byRow2 "special-get-raises" (P := fun w => ParEq R 80000 as w gr3) (fun w os => by kernel_rfl) (fun w os => by kernel_rfl) w
theorem par4 (w : World) : ParEq R 80000 as w gr4 := PySem.W.byRow2 "special-get-raises" (P := fun w => ParEq R 80000 as w gr4) (fun w os => by kernel_rfl) (fun w os => by kernel_rfl) w
theorem par5 (w : World) : ParEq R 80000 as w gr5 := PySem.W.byRow2 "special-get-raises" (P := fun w => ParEq R 80000 as w gr5) (fun w os => by kernel_rfl) (fun w os => by kernel_rfl) w
theorem holds (hs : ∀ ns : List Int, ns.length ≤ 63 → ∃ o, F_f_law.sem [.lst (ns.map .int)] = .ok (.bl true, o)) : PySem.Challenge.rw_signsunread_k95_whole_what_is_wrong_in_g.Holds := by
  w_on; o_law
  refine HandSHeadRun.head_any (r := R) (q := vw) (H := hookX as grs) (ob := obX as grs) (M := 80000) (loose := names) (d := HandSHeadRun.topDef R.prog 76) (kwd := []) (obX_eq as grs)
    (by kernel_rfl) (fun s => by kernel_rfl) (fun w => runEq_of (base w) (List.forall_mem_cons.2 ⟨par0 w, List.forall_mem_cons.2 ⟨par1 w, List.forall_mem_cons.2 ⟨par2 w, List.forall_mem_cons.2 ⟨par3 w, List.forall_mem_cons.2 ⟨par4 w, List.forall_mem_cons.2 ⟨par5 w, fun _ h => (nomatch h)⟩⟩⟩⟩⟩⟩)) (by kernel_rfl) (by kernel_rfl) (by kernel_rfl) (by rfl) (by first | assumption | decide +kernel) (by decide +kernel) ⟨rfl, rfl, rfl, rfl, rfl, by decide +kernel⟩ ?hw ?hc
  case hw => w_witness2
  case hc =>
    refine walkX (l := PySem.Challenge.rw_signsunread_k95_whole_what_is_wrong_in_g) (n := 63) (k := 13) (F := F_f_law) rfl (by decide) (by kernel_rfl) ⟨rfl, by decide, by decide⟩ ?C rfl rfl hs
    intro w mg h Y G
    obtain ⟨K, KX, c⟩ := Y
    have e : (HandSHeadRun.topDef R.prog 76).name = ("law" : PySem.Str) := by kernel_rfl
    rw [e]
    have p0 := says_at c (i := 0) (p := gr0) rfl
    exact ⟨K, KX, obs_fb p0 (f := nolB) 0 rfl, fun base' X' G' => k_f_law (W := ⟨_, w, K, mg, base', L2.CX0, []⟩) wok0 (facts_of X' G' c)⟩
end K95
theorem PySem.Challenge.cw_signsunread_k95_whole_what_is_wrong_in_g_holds : PySem.Challenge.rw_signsunread_k95_whole_what_is_wrong_in_g.Holds := by
  refine K95.holds fun ns _ => ?_
  obtain ⟨⟨z, o⟩, e, h⟩ := K95.law_sem ns
  exact ⟨o, by rw [e]; exact congrArg (fun z => Dx.R.ok (z, o)) h⟩
