import PyProof.Rows.All
import Wide.All
import OpenK.AllK
import Wide.FinOn
import HandS.ForMost
import HandS.Flow
import HandS.Style
import HandS.TupAny
import HandS.IsInst
import HandS.Wide
import KE.LtData
import KE.SortData
import KE.DataCmp
import KE.DataEq
import HandS.TupLen
import HandS.Conv
import KE.DataMinMax
import HandS.ForExc
import HandS.TryOnly
import HandS.WordsExc
import HandS.TryMany
import HandS.Defaults
import HandS.Iter
import HandS.Zip
import HandS.Comp
import KE.GoesEnum
import HandS.DictComp
import HandS.Text
import HandS.List
import HandS.Small
import KE.KStateDown
import HandS.Ends
import HandS.HeadEnd
import HandS.HeadHook1
import HandS.HeadHook2
import KE.KDictSum
import PyProof.TupleOfSeq
import PyProof.Transfer
import PySem.Challenge.RW_windowwright_k70_whole_closing
import HandS.Head0
import HandS.Head1
import HandS.Head2
set_option Elab.async false
set_option linter.all false
set_option maxRecDepth 100000
set_option maxHeartbeats 4000000
section
/-! VS: pure values over the hand layer. Every expression gets a reading over PyData; lists and dicts are values, frozen (F) or owned by one slot. -/
namespace VS
open PySem L2

abbrev D := PyData

/-! ### outcomes -/
/-- an own exception: its class's name, its fields -/
inductive Xn where
  | mk (nm : Str) (fs : List (Str × D))
inductive Re (α : Type) where
  | ok (a : α)
  | ex (x : Xn)
  | no
def Re.bnd {α β : Type} (r : Re α) (f : α → Re β) : Re β := match r with
  | .ok a => f a
  | .ex x => .ex x
  | .no => .no
@[simp] theorem bnd_ok {α β : Type} (a : α) (f : α → Re β) : (Re.ok a).bnd f = f a := Eq.trans rfl (Eq.refl _)
@[simp] theorem bnd_ex {α β : Type} (x : Xn) (f : α → Re β) : (Re.ex x : Re α).bnd f = .ex x := Eq.trans rfl (Eq.refl _)
@[simp] theorem bnd_no {α β : Type} (f : α → Re β) : (Re.no : Re α).bnd f = .no := Eq.trans rfl (Eq.refl _)
def ofO {α : Type} : Option α → Re α
  | some a => .ok a
  | none => .no
@[simp] theorem ofO_some {α : Type} (a : α) : ofO (some a) = .ok a := Eq.trans rfl (Eq.refl _)
@[simp] theorem ofO_none {α : Type} : ofO (none : Option α) = .no := Eq.trans rfl (Eq.refl _)

/-! ### what stands for a value -/
def kD : Key → D
  | .inl i => .int i
  | .inr x => .str x
def DRd (H : Hp) (a : Addr) (kvs : List (D × V)) : Prop :=
  (∃ m : List (Key × V), Rd H a (.dK m) ∧ kvs = m.map fun p => (kD p.1, p.2)) ∨
  (∃ m : List (List Key × V), Rd H a (.dT m) ∧ kvs = m.map fun p => (PyData.tuple (p.1.map kD), p.2))

/-- the module's own tuples that are handed about (never keys of a dict) -/
def esc : List D → Bool
  | [.str x] => decide (x = "form") || decide (x = "start") || decide (x = "end") || decide (x = "ends")
  | [.int 0, .int 0, .int 1000, .int 1000] => true
  | _ => false
/-- a tuple's object -/
def TupR (K : PySem.W.Frag) (H : Hp) (a : Addr) (xs : List V) (ds : List D) : Prop := H a = some (.tup xs) ∨ (esc ds = true ∧ SqT K H a xs)
theorem TupR.sq {K : PySem.W.Frag} {H : Hp} {a : Addr} {xs : List V} {ds : List D} (h : TupR K H a xs ds) : SqT K H a xs := h.elim (fun e => .inl (.inl e)) fun e => e.2

mutual
inductive Rp (K : PySem.W.Frag) (F : Addr → Prop) (H : Hp) : V → D → Prop
  | non : Rp K F H .non .none
  | bl (b : Bool) : Rp K F H (.bl b) (.bool b)
  | int (i : Int) : Rp K F H (.int i) (.int i)
  | str (x : Str) : Rp K F H (.str x) (.str x)
  | lst {a : Addr} {xs : List V} {ds : List D} : Rd H a (.lst xs) → F a → RpA K F H xs ds → Rp K F H (.ref a) (.list ds)
  | tup {a : Addr} {xs : List V} {ds : List D} : TupR K H a xs ds → RpA K F H xs ds → Rp K F H (.ref a) (.tuple ds)
  | dic {a : Addr} {kvs : List (D × V)} {ds : List (D × D)} : DRd H a kvs → F a → RpK K F H kvs ds → Rp K F H (.ref a) (.dict ds)
inductive RpA (K : PySem.W.Frag) (F : Addr → Prop) (H : Hp) : List V → List D → Prop
  | nil : RpA K F H [] []
  | cons {v : V} {vs : List V} {d : D} {ds : List D} : Rp K F H v d → RpA K F H vs ds → RpA K F H (v :: vs) (d :: ds)
inductive RpK (K : PySem.W.Frag) (F : Addr → Prop) (H : Hp) : List (D × V) → List (D × D) → Prop
  | nil : RpK K F H [] []
  | cons {k : D} {v : V} {vs : List (D × V)} {d : D} {ds : List (D × D)} : Rp K F H v d → RpK K F H vs ds → RpK K F H ((k, v) :: vs) ((k, d) :: ds)
end

/-- what a step keeps: the frozen things, the things that nobody can write -/
def Kept (P : Addr → Prop) (H H' : Hp) : Prop := ∀ a o, H a = some o → (P a ∨ ¬ Mut (some o)) → H' a = some o
theorem Kept.refl {P : Addr → Prop} {H : Hp} : Kept P H H := fun _ _ h _ => h
theorem Kept.of {P : Addr → Prop} {H H' : Hp} (s : Same H H') : Kept P H H' := fun a o h _ => s a o h
theorem Kept.trans {P P' : Addr → Prop} {H H1 H2 : Hp} (a : Kept P H H1) (b : Kept P' H1 H2) (s : ∀ x, P x → P' x) : Kept P H H2 := fun x o h c =>
  b x o (a x o h c) (c.imp (s x) id)
theorem Kept.less {P P' : Addr → Prop} {H H' : Hp} (a : Kept P H H') (s : ∀ x, P' x → P x) : Kept P' H H' := fun x o h c => a x o h (c.imp (s x) id)

theorem mut_frz {o : Obj} {u : HO} : ¬ Mut (some (.frz o u)) := fun h => h
theorem mut_tup {xs : List V} : ¬ Mut (some (.tup xs)) := fun h => h

theorem Kept.rd {P : Addr → Prop} {H H' : Hp} {a : Addr} {u : HO} (k : Kept P H H') (r : Rd H a u) (c : P a ∨ ¬ Mut (some u)) : Rd H' a u := by
  rcases r with r | ⟨o, r⟩
  · exact .inl (k a u r c)
  · exact .inr ⟨o, k a _ r (.inr mut_frz)⟩
theorem Kept.sqT {P : Addr → Prop} {K : PySem.W.Frag} {H H' : Hp} {a : Addr} {xs : List V} (k : Kept P H H') (r : SqT K H a xs) : SqT K H' a xs := by
  rcases r with r | r
  · exact .inl (k.rd r (.inr mut_tup))
  · exact .inr r
theorem Kept.tupR {P : Addr → Prop} {K : PySem.W.Frag} {H H' : Hp} {a : Addr} {xs : List V} {ds : List D} (k : Kept P H H') (r : TupR K H a xs ds) : TupR K H' a xs ds :=
  r.imp (fun e => k _ _ e (.inr mut_tup)) fun e => ⟨e.1, k.sqT e.2⟩
theorem Kept.drd {P : Addr → Prop} {H H' : Hp} {a : Addr} {kvs : List (D × V)} (k : Kept P H H') (r : DRd H a kvs) (c : P a) : DRd H' a kvs := by
  rcases r with ⟨m, r, e⟩ | ⟨m, r, e⟩
  · exact .inl ⟨m, k.rd r (.inl c), e⟩
  · exact .inr ⟨m, k.rd r (.inl c), e⟩

section
variable {K : PySem.W.Frag} {F F' : Addr → Prop} {H H' : Hp}
mutual
theorem Rp.mono (hF : ∀ a, F a → F' a) (k : Kept F H H') : ∀ {v : V} {d : D}, Rp K F H v d → Rp K F' H' v d
  | _, _, .non => .non
  | _, _, .bl b => .bl b
  | _, _, .int i => .int i
  | _, _, .str x => .str x
  | _, _, .lst r f t => .lst (k.rd r (.inl f)) (hF _ f) (RpA.mono hF k t)
  | _, _, .tup r t => .tup (k.tupR r) (RpA.mono hF k t)
  | _, _, .dic r f t => .dic (k.drd r f) (hF _ f) (RpK.mono hF k t)
theorem RpA.mono (hF : ∀ a, F a → F' a) (k : Kept F H H') : ∀ {vs : List V} {ds : List D}, RpA K F H vs ds → RpA K F' H' vs ds
  | _, _, .nil => .nil
  | _, _, .cons h t => .cons (Rp.mono hF k h) (RpA.mono hF k t)
theorem RpK.mono (hF : ∀ a, F a → F' a) (k : Kept F H H') : ∀ {vs : List (D × V)} {ds : List (D × D)}, RpK K F H vs ds → RpK K F' H' vs ds
  | _, _, .nil => .nil
  | _, _, .cons h t => .cons (Rp.mono hF k h) (RpK.mono hF k t)
end
end

theorem RpA.length {K : PySem.W.Frag} {F : Addr → Prop} {H : Hp} : ∀ {vs : List V} {ds : List D}, RpA K F H vs ds → vs.length = ds.length
  | _, _, .nil => rfl
  | _, _, .cons _ t => congrArg (· + 1) t.length
theorem RpA.get {K : PySem.W.Frag} {F : Addr → Prop} {H : Hp} : ∀ {vs : List V} {ds : List D} {i : Nat} {d : D}, RpA K F H vs ds → ds[i]? = some d → ∃ v, vs[i]? = some v ∧ Rp K F H v d
  | _, _, _, _, .nil, e => by simp at e
  | _, _, 0, _, .cons h _, e => by simp at e; subst e; exact ⟨_, rfl, h⟩
  | _, _, i + 1, _, .cons _ t, e => by
    obtain ⟨v, e1, r⟩ := RpA.get (i := i) t (by simpa using e)
    exact ⟨v, by simpa using e1, r⟩
theorem RpA.getV {K : PySem.W.Frag} {F : Addr → Prop} {H : Hp} : ∀ {vs : List V} {ds : List D} {i : Nat} {v : V}, RpA K F H vs ds → vs[i]? = some v → ∃ d, ds[i]? = some d ∧ Rp K F H v d
  | _, _, _, _, .nil, e => by simp at e
  | _, _, 0, _, .cons h _, e => by simp at e; subst e; exact ⟨_, rfl, h⟩
  | _, _, i + 1, _, .cons _ t, e => by
    obtain ⟨v, e1, r⟩ := RpA.getV (i := i) t (by simpa using e)
    exact ⟨v, by simpa using e1, r⟩
theorem RpA.append {K : PySem.W.Frag} {F : Addr → Prop} {H : Hp} : ∀ {vs ws : List V} {ds es : List D}, RpA K F H vs ds → RpA K F H ws es → RpA K F H (vs ++ ws) (ds ++ es)
  | _, _, _, _, .nil, s => s
  | _, _, _, _, .cons h t, s => .cons h (RpA.append t s)
theorem RpA.set {K : PySem.W.Frag} {F : Addr → Prop} {H : Hp} : ∀ {vs : List V} {ds : List D} (i : Nat) {v : V} {d : D}, RpA K F H vs ds → Rp K F H v d → RpA K F H (vs.set i v) (ds.set i d)
  | _, _, _, _, _, .nil, _ => .nil
  | _, _, 0, _, _, .cons _ t, r => .cons r t
  | _, _, i + 1, _, _, .cons h t, r => .cons h (RpA.set i t r)
theorem RpA.take {K : PySem.W.Frag} {F : Addr → Prop} {H : Hp} : ∀ {vs : List V} {ds : List D} (n : Nat), RpA K F H vs ds → RpA K F H (vs.take n) (ds.take n)
  | _, _, 0, _ => .nil
  | _, _, _ + 1, .nil => .nil
  | _, _, n + 1, .cons h t => .cons h (RpA.take n t)
theorem RpA.drop {K : PySem.W.Frag} {F : Addr → Prop} {H : Hp} : ∀ {vs : List V} {ds : List D} (n : Nat), RpA K F H vs ds → RpA K F H (vs.drop n) (ds.drop n)
  | _, _, 0, r => r
  | _, _, _ + 1, .nil => .nil
  | _, _, n + 1, .cons _ t => RpA.drop n t
theorem RpA.reverse {K : PySem.W.Frag} {F : Addr → Prop} {H : Hp} : ∀ {vs : List V} {ds : List D}, RpA K F H vs ds → RpA K F H vs.reverse ds.reverse
  | _, _, .nil => .nil
  | _, _, .cons h t => by
    rw [List.reverse_cons, List.reverse_cons]
    exact RpA.append (RpA.reverse t) (.cons h .nil)
theorem RpA.ints {K : PySem.W.Frag} {F : Addr → Prop} {H : Hp} : ∀ {vs : List V} {ns : List Int}, RpA K F H vs (ns.map PyData.int) → vs = ns.map V.int
  | _, [], h => by cases h; rfl
  | _, n :: ns, h => by
    cases h with
    | cons a t =>
      cases a
      rw [RpA.ints t]
      rfl
theorem RpA.ofInts {K : PySem.W.Frag} {F : Addr → Prop} {H : Hp} : ∀ (ns : List Int), RpA K F H (ns.map V.int) (ns.map PyData.int)
  | [] => .nil
  | n :: ns => .cons (.int n) (RpA.ofInts ns)
theorem RpA.bools {K : PySem.W.Frag} {F : Addr → Prop} {H : Hp} : ∀ {vs : List V} {ns : List Bool}, RpA K F H vs (ns.map PyData.bool) → vs = ns.map V.bl
  | _, [], h => by cases h; rfl
  | _, n :: ns, h => by
    cases h with
    | cons a t =>
      cases a
      rw [RpA.bools t]
      rfl

/-! ### growth: what an expression leaves -/
structure Grow (F : Addr → Prop) (H : Hp) (F' : Addr → Prop) (H' : Hp) : Prop where
  sub : ∀ a, F a → F' a
  new : ∀ a, F' a → F a ∨ H a = none
  same : Same H H'
  dom : (∀ a, F a → H a ≠ none) → ∀ a, F' a → H' a ≠ none
theorem Grow.refl {F : Addr → Prop} {H : Hp} : Grow F H F H := ⟨fun _ h => h, fun _ h => .inl h, Same.refl H, fun h => h⟩
theorem Grow.trans {F F1 F2 : Addr → Prop} {H H1 H2 : Hp} (a : Grow F H F1 H1) (b : Grow F1 H1 F2 H2) : Grow F H F2 H2 where
  sub := fun x h => b.sub x (a.sub x h)
  new := fun x h => by
    rcases b.new x h with h | h
    · exact a.new x h
    · exact .inr (a.same.free h)
  same := a.same.trans b.same
  dom := fun h => b.dom (a.dom h)
theorem Grow.kept {F F' : Addr → Prop} {H H' : Hp} (g : Grow F H F' H') {P : Addr → Prop} : Kept P H H' := Kept.of g.same
theorem Grow.rp {K : PySem.W.Frag} {F F' : Addr → Prop} {H H' : Hp} (g : Grow F H F' H') {v : V} {d : D} (r : Rp K F H v d) : Rp K F' H' v d := r.mono g.sub g.kept
theorem Grow.rpA {K : PySem.W.Frag} {F F' : Addr → Prop} {H H' : Hp} (g : Grow F H F' H') {v : List V} {d : List D} (r : RpA K F H v d) : RpA K F' H' v d := r.mono g.sub g.kept
theorem Grow.rpK {K : PySem.W.Frag} {F F' : Addr → Prop} {H H' : Hp} (g : Grow F H F' H') {v : List (D × V)} {d : List (D × D)} (r : RpK K F H v d) : RpK K F' H' v d := r.mono g.sub g.kept
theorem same_upd {H : Hp} {p : Addr} {o : HO} (h : H p = none) : Same H (upd H p o) := fun b u e => by rw [upd_ne (ne_of_none e h)]; exact e
/-- a new object that is not frozen -/
theorem Grow.upd0 {F : Addr → Prop} {H : Hp} {p : Addr} {o : HO} (h : H p = none) : Grow F H F (upd H p o) :=
  ⟨fun _ x => x, fun _ x => .inl x, same_upd h, fun dm a fa => by
    by_cases e : a = p
    · subst e; rw [upd_same]; exact fun z => nomatch z
    · rw [upd_ne e]; exact dm a fa⟩
def plus (F : Addr → Prop) (p : Addr) : Addr → Prop := fun a => F a ∨ a = p
/-- a new object is frozen -/
theorem Grow.freeze {F F' : Addr → Prop} {H H' : Hp} {p : Addr} (g : Grow F H F' H') (h : H p = none) (h' : H' p ≠ none) : Grow F H (plus F' p) H' :=
  ⟨fun a x => .inl (g.sub a x), fun a x => by
    rcases x with x | x
    · exact g.new a x
    · subst x; exact .inr h, g.same, fun dm a x => by
    rcases x with x | x
    · exact g.dom dm a x
    · subst x; exact h'⟩

/-! ### looser readings -/
/-- the top list or dict may be anyone's -/
def RpB (K : PySem.W.Frag) (F : Addr → Prop) (H : Hp) (v : V) : D → Prop
  | .list ds => ∃ a xs, v = .ref a ∧ Rd H a (.lst xs) ∧ RpA K F H xs ds
  | .dict ds => ∃ a kvs, v = .ref a ∧ DRd H a kvs ∧ RpK K F H kvs ds
  | .tuple ds => ∃ a xs, v = .ref a ∧ SqT K H a xs ∧ RpA K F H xs ds
  | d => Rp K F H v d
theorem Rp.b {K : PySem.W.Frag} {F : Addr → Prop} {H : Hp} {v : V} : ∀ {d : D}, Rp K F H v d → RpB K F H v d
  | .list _, r => by cases r with | lst h _ t => exact ⟨_, _, rfl, h, t⟩
  | .dict _, r => by cases r with | dic h _ t => exact ⟨_, _, rfl, h, t⟩
  | .none, r => r
  | .bool _, r => r
  | .int _, r => r
  | .str _, r => r
  | .tuple _, r => by cases r with | tup h t => exact ⟨_, _, rfl, h.sq, t⟩
theorem same_rd {H H' : Hp} {a : Addr} {u : HO} (s : Same H H') (r : Rd H a u) : Rd H' a u := by
  rcases r with r | ⟨o, r⟩
  · exact .inl (s a u r)
  · exact .inr ⟨o, s a _ r⟩
theorem same_drd {H H' : Hp} {a : Addr} {kvs : List (D × V)} (s : Same H H') (r : DRd H a kvs) : DRd H' a kvs := by
  rcases r with ⟨m, r, e⟩ | ⟨m, r, e⟩
  · exact .inl ⟨m, same_rd s r, e⟩
  · exact .inr ⟨m, same_rd s r, e⟩
theorem Grow.rpB {K : PySem.W.Frag} {F F' : Addr → Prop} {H H' : Hp} (g : Grow F H F' H') {v : V} : ∀ {d : D}, RpB K F H v d → RpB K F' H' v d
  | .list _, ⟨a, xs, e, h, t⟩ => ⟨a, xs, e, same_rd g.same h, g.rpA t⟩
  | .dict _, ⟨a, xs, e, h, t⟩ => ⟨a, xs, e, same_drd g.same h, g.rpK t⟩
  | .none, r => g.rp (show Rp K F H v .none from r)
  | .bool _, r => g.rp (show Rp K F H v (.bool _) from r)
  | .int _, r => g.rp (show Rp K F H v (.int _) from r)
  | .str _, r => g.rp (show Rp K F H v (.str _) from r)
  | .tuple _, ⟨a, xs, e, h, t⟩ => ⟨a, xs, e, (g.kept (P := fun _ => True)).sqT h, g.rpA t⟩
/-- a new list or dict that nobody else has -/
def RpO (K : PySem.W.Frag) (F : Addr → Prop) (H : Hp) (a : Addr) : D → Prop
  | .list ds => ∃ xs, H a = some (.lst xs) ∧ RpA K F H xs ds
  | .dict ds => (∃ m : List (Key × V), H a = some (.dK m) ∧ RpK K F H (m.map fun p => (kD p.1, p.2)) ds) ∨
      ∃ m : List (List Key × V), H a = some (.dT m) ∧ RpK K F H (m.map fun p => (PyData.tuple (p.1.map kD), p.2)) ds
  | _ => False
theorem RpO.b {K : PySem.W.Frag} {F : Addr → Prop} {H : Hp} {a : Addr} : ∀ {d : D}, RpO K F H a d → RpB K F H (.ref a) d
  | .list _, ⟨xs, h, t⟩ => ⟨a, xs, rfl, .inl h, t⟩
  | .dict _, .inl ⟨m, h, t⟩ => ⟨a, _, rfl, .inl ⟨m, .inl h, rfl⟩, t⟩
  | .dict _, .inr ⟨m, h, t⟩ => ⟨a, _, rfl, .inr ⟨m, .inl h, rfl⟩, t⟩
  | .none, h => h.elim
  | .bool _, h => h.elim
  | .int _, h => h.elim
  | .str _, h => h.elim
  | .tuple _, h => h.elim
theorem RpO.there {K : PySem.W.Frag} {F : Addr → Prop} {H : Hp} {a : Addr} : ∀ {d : D}, RpO K F H a d → ∃ o, H a = some o ∧ Mut (some o)
  | .list _, ⟨xs, h, _⟩ => ⟨_, h, trivial⟩
  | .dict _, .inl ⟨m, h, _⟩ => ⟨_, h, trivial⟩
  | .dict _, .inr ⟨m, h, _⟩ => ⟨_, h, trivial⟩
  | .none, h => h.elim
  | .bool _, h => h.elim
  | .int _, h => h.elim
  | .str _, h => h.elim
  | .tuple _, h => h.elim
/-- .. and frozen from here on -/
theorem RpO.froz {K : PySem.W.Frag} {F : Addr → Prop} {H : Hp} {a : Addr} : ∀ {d : D}, RpO K F H a d → Rp K (plus F a) H (.ref a) d
  | .list _, ⟨xs, h, t⟩ => .lst (.inl h) (.inr rfl) (t.mono (fun _ x => .inl x) Kept.refl)
  | .dict _, .inl ⟨m, h, t⟩ => .dic (.inl ⟨m, .inl h, rfl⟩) (.inr rfl) (t.mono (fun _ x => .inl x) Kept.refl)
  | .dict _, .inr ⟨m, h, t⟩ => .dic (.inr ⟨m, .inl h, rfl⟩) (.inr rfl) (t.mono (fun _ x => .inl x) Kept.refl)
  | .none, h => h.elim
  | .bool _, h => h.elim
  | .int _, h => h.elim
  | .str _, h => h.elim
  | .tuple _, h => h.elim
theorem RpO.kept {K : PySem.W.Frag} {F F' : Addr → Prop} {H H' : Hp} {a : Addr} (hF : ∀ x, F x → F' x) (k : Kept F H H') (e : H' a = H a) : ∀ {d : D}, RpO K F H a d → RpO K F' H' a d
  | .list _, ⟨xs, h, t⟩ => ⟨xs, e.trans h, t.mono hF k⟩
  | .dict _, .inl ⟨m, h, t⟩ => .inl ⟨m, e.trans h, t.mono hF k⟩
  | .dict _, .inr ⟨m, h, t⟩ => .inr ⟨m, e.trans h, t.mono hF k⟩
  | .none, h => h.elim
  | .bool _, h => h.elim
  | .int _, h => h.elim
  | .str _, h => h.elim
  | .tuple _, h => h.elim

/-! ### slots -/
inductive Sl where
  | no
  | sh (d : D)
  | ow (d : D)
  /-- the script -/
  | br (ns : List Int)
abbrev Dl := List Sl
/-- the script's list: known to the object, or an object of the module -/
def ScrR (K : PySem.W.Frag) (H : Hp) (a : Addr) (ns : List Int) : Prop := SqL K H a (ns.map V.int) ∧ ∀ H', (∀ b o, H b = some o → ¬ Mut (some o) → H' b = some o) → SqL K H' a (ns.map V.int)
theorem ScrR.keep {K : PySem.W.Frag} {H H' : Hp} {a : Addr} {ns : List Int} (r : ScrR K H a ns) (k : ∀ b o, H b = some o → ¬ Mut (some o) → H' b = some o) : ScrR K H' a ns :=
  ⟨r.2 H' k, fun H2 k2 => r.2 H2 fun b o e m => k2 b o (k b o e m) m⟩
/-- slot i as an expression sees it -/
def SlR (K : PySem.W.Frag) (F : Addr → Prop) (H : Hp) (σ : L2.St) (i : Nat) : Sl → Prop
  | .no => True
  | .sh d => ∃ v, σ[i]? = some (some v) ∧ Rp K F H v d
  | .ow d => ∃ v, σ[i]? = some (some v) ∧ RpB K F H v d
  | .br ns => ∃ a, σ[i]? = some (some (.ref a)) ∧ ScrR K H a ns
structure SokE (K : PySem.W.Frag) (F : Addr → Prop) (H : Hp) (σ : L2.St) (δ : Dl) : Prop where
  len : δ.length = σ.length
  dom : ∀ a, F a → H a ≠ none
  sl : ∀ i s, δ[i]? = some s → SlR K F H σ i s
theorem SokE.grow {K : PySem.W.Frag} {F F' : Addr → Prop} {H H' : Hp} {σ : L2.St} {δ : Dl} (s : SokE K F H σ δ) (g : Grow F H F' H') : SokE K F' H' σ δ where
  len := s.len
  dom := g.dom s.dom
  sl := fun i x e => by
    have h := s.sl i x e
    cases x with
    | no => trivial
    | sh d => obtain ⟨v, e, r⟩ := h; exact ⟨v, e, g.rp r⟩
    | ow d => obtain ⟨v, e, r⟩ := h; exact ⟨v, e, g.rpB r⟩
    | br ns => obtain ⟨v, e, r⟩ := h; exact ⟨v, e, r.keep fun b o e _ => g.same b o e⟩

/-- what an exception's way out wants, by the exception and the heap -/
abbrev XW := Xn → Hp → Prop
abbrev XW0 : XW := fun _ _ => False
/-- an outcome: P of a value, or the exception's wish -/
def ReW {α : Type} (W : XW) (F : Addr → Prop) (H : Hp) (r : Re α) (N : α → Prop) : Prop := match r with
  | .ok a => N a
  | .ex x => ∀ F' H', Grow F H F' H' → W x H'
  | .no => False

/-- what may be said of a result -/
abbrev PP := (Addr → Prop) → Hp → (Addr → Prop) → Hp → V → D → Prop
abbrev pS (K : PySem.W.Frag) : PP := fun _ _ F' H' v d => Rp K F' H' v d
abbrev pB (K : PySem.W.Frag) : PP := fun _ _ F' H' v d => RpB K F' H' v d
abbrev pF (K : PySem.W.Frag) : PP := fun _ H F' H' v d => ∃ a, v = .ref a ∧ H a = none ∧ ¬ F' a ∧ RpO K F' H' a d
def tP (K : PySem.W.Frag) (W : XW) (P : PP) (f : Dl → Re D) : TE := fun σ H Q => ∃ F δ, SokE K F H σ δ ∧ ReW W F H (f δ) fun d => ∀ v F' H', Grow F H F' H' → P F H F' H' v d → Q v H'
def tT (K : PySem.W.Frag) (W : XW) (f : Dl → Re Bool) : TT := fun σ H Q => ∃ F δ, SokE K F H σ δ ∧ ReW W F H (f δ) fun b => ∀ F' H', Grow F H F' H' → Q b H'
abbrev VP (X : Cx) (W : XW) (P : PP) (e : Expr) (f : Dl → Re D) : Prop := PE X e (tP X.K W P f)
/-- an expression: its value, frozen; maybe anyone's; new -/
abbrev VE (X : Cx) (W : XW) (e : Expr) (f : Dl → Re D) : Prop := VP X W (pS X.K) e f
abbrev VB (X : Cx) (W : XW) (e : Expr) (f : Dl → Re D) : Prop := VP X W (pB X.K) e f
abbrev VF (X : Cx) (W : XW) (e : Expr) (f : Dl → Re D) : Prop := VP X W (pF X.K) e f
abbrev VT (X : Cx) (W : XW) (e : Expr) (f : Dl → Re Bool) : Prop := PT X e (tT X.K W f)

/-- readings weaken -/
theorem PE.imp {X : Cx} {e : Expr} {t t' : TE} (h : PE X e t) (w : ∀ σ H Q, t' σ H Q → t σ H Q) : PE X e t' := ⟨fun pins s σ H Q I q => h.run pins s σ H Q I (w _ _ _ q)⟩
theorem PT.imp {X : Cx} {e : Expr} {t t' : TT} (h : PT X e t) (w : ∀ σ H Q, t' σ H Q → t σ H Q) : PT X e t' := ⟨fun pins s σ H Q I q => h.run pins s σ H Q I (w _ _ _ q)⟩
theorem PA.imp {X : Cx} {e : List Expr} {t t' : TA} (h : PA X e t) (w : ∀ σ H Q, t' σ H Q → t σ H Q) : PA X e t' := ⟨fun pos pins s σ H Q I q => h.run pos pins s σ H Q I (w _ _ _ q)⟩
theorem PS.imp {X : Cx} {e : Stmt} {t t' : TS} (h : PS X e t) (w : ∀ D σ H, t' D σ H → t D σ H) : PS X e t' := ⟨fun pins s σ H D I q => h.run pins s σ H D I (w _ _ _ q)⟩
theorem PSs.imp {X : Cx} {e : List Stmt} {t t' : TS} (h : PSs X e t) (w : ∀ D σ H, t' D σ H → t D σ H) : PSs X e t' := ⟨fun pins s σ H D I q => h.run pins s σ H D I (w _ _ _ q)⟩

theorem ReW.imp {α : Type} {W : XW} {F : Addr → Prop} {H : Hp} {r : Re α} {N N' : α → Prop} (h : ReW W F H r N) (i : ∀ a, r = .ok a → N a → N' a) : ReW W F H r N' := by
  cases r with
  | ok a => exact i a rfl h
  | ex x => exact h
  | no => exact h
theorem ReW.grow {α : Type} {W : XW} {F F' : Addr → Prop} {H H' : Hp} {r : Re α} {N N' : α → Prop} (h : ReW W F H r N) (g : Grow F H F' H') (i : ∀ a, N a → N' a) : ReW W F' H' r N' := by
  cases r with
  | ok a => exact i a h
  | ex x => exact fun F2 H2 g2 => h F2 H2 (g.trans g2)
  | no => exact h
theorem VE.b {X : Cx} {W : XW} {e : Expr} {f : Dl → Re D} (h : VE X W e f) : VB X W e f := PE.imp h fun σ H Q ⟨F, δ, s, r⟩ => ⟨F, δ, s, r.imp fun d _ q v F' H' g p => q v F' H' g p.b⟩
theorem VF.b {X : Cx} {W : XW} {e : Expr} {f : Dl → Re D} (h : VF X W e f) : VB X W e f := PE.imp h fun σ H Q ⟨F, δ, s, r⟩ => ⟨F, δ, s, r.imp fun d _ q v F' H' g ⟨a, e, _, _, o⟩ => q v F' H' g (by subst e; exact o.b)⟩
theorem VF.e {X : Cx} {W : XW} {e : Expr} {f : Dl → Re D} (h : VF X W e f) : VE X W e f := PE.imp h fun σ H Q ⟨F, δ, s, r⟩ => ⟨F, δ, s, r.imp fun d _ q v F' H' g ⟨a, e, h0, _, o⟩ => by
  subst e
  obtain ⟨u, hu, _⟩ := o.there
  exact q _ _ H' (g.freeze h0 (by rw [hu]; exact fun z => nomatch z)) o.froz⟩
end VS
end
section
namespace VS
open PySem L2

/-! ### chains of readings -/
/-- a result at (F, H): its wish -/
def Go (W : XW) (P : PP) (F : Addr → Prop) (H : Hp) (r : Re D) (Q : VK) : Prop := ReW W F H r fun d => ∀ v F' H', Grow F H F' H' → P F H F' H' v d → Q v H'
def GoT (W : XW) (F : Addr → Prop) (H : Hp) (r : Re Bool) (Q : Bool → Hp → Prop) : Prop := ReW W F H r fun b => ∀ F' H', Grow F H F' H' → Q b H'
structure PMon (P : PP) : Prop where
  mon : ∀ {F H F1 H1 F' H' v d}, Grow F H F1 H1 → P F1 H1 F' H' v d → P F H F' H' v d
theorem pS_mon {K : PySem.W.Frag} : PMon (pS K) := ⟨fun _ p => p⟩
theorem pB_mon {K : PySem.W.Frag} : PMon (pB K) := ⟨fun _ p => p⟩
theorem pF_mon {K : PySem.W.Frag} : PMon (pF K) := ⟨fun g ⟨a, e, h, f, o⟩ => ⟨a, e, g.same.free h, f, o⟩⟩
theorem Go.grow {W : XW} {P : PP} {F F1 : Addr → Prop} {H H1 : Hp} {r : Re D} {Q : VK} (hp : PMon P) (h : Go W P F H r Q) (g : Grow F H F1 H1) : Go W P F1 H1 r Q :=
  ReW.grow h g fun d q v F' H' g' p => q v F' H' (g.trans g') (hp.mon g p)
theorem GoT.grow {W : XW} {F F1 : Addr → Prop} {H H1 : Hp} {r : Re Bool} {Q : Bool → Hp → Prop} (h : GoT W F H r Q) (g : Grow F H F1 H1) : GoT W F1 H1 r Q :=
  ReW.grow h g fun d q F' H' g' => q F' H' (g.trans g')
theorem Go.at {W : XW} {P : PP} {F : Addr → Prop} {H : Hp} {r : Re D} {Q : VK} {d : D} (h : Go W P F H r Q) (e : r = .ok d) {v : V} {F' : Addr → Prop} {H' : Hp} (g : Grow F H F' H') (p : P F H F' H' v d) : Q v H' := by
  subst e; exact h v F' H' g p
theorem GoT.at {W : XW} {F : Addr → Prop} {H : Hp} {r : Re Bool} {Q : Bool → Hp → Prop} {b : Bool} (h : GoT W F H r Q) (e : r = .ok b) {F' : Addr → Prop} {H' : Hp} (g : Grow F H F' H') : Q b H' := by
  subst e; exact h F' H' g
/-- the first of two -/
theorem Go.bnd {W : XW} {P P' : PP} {F : Addr → Prop} {H : Hp} {ra : Re D} {k : D → Re D} {Q Q' : VK} (hp : PMon P) (h : Go W P F H (ra.bnd k) Q)
    (q : ∀ d v F1 H1, ra = .ok d → Grow F H F1 H1 → P' F H F1 H1 v d → Go W P F1 H1 (k d) Q → Q' v H1) : Go W P' F H ra Q' := by
  cases ra with
  | ok d => exact fun v F1 H1 g p => q d v F1 H1 rfl g p (Go.grow hp h g)
  | ex x => exact h
  | no => exact h
theorem Go.bndT {W : XW} {P' : PP} {F : Addr → Prop} {H : Hp} {ra : Re D} {k : D → Re Bool} {Q : Bool → Hp → Prop} {Q' : VK} (h : GoT W F H (ra.bnd k) Q)
    (q : ∀ d v F1 H1, ra = .ok d → Grow F H F1 H1 → P' F H F1 H1 v d → GoT W F1 H1 (k d) Q → Q' v H1) : Go W P' F H ra Q' := by
  cases ra with
  | ok d => exact fun v F1 H1 g p => q d v F1 H1 rfl g p (GoT.grow h g)
  | ex x => exact h
  | no => exact h
theorem GoT.bnd {W : XW} {P : PP} {F : Addr → Prop} {H : Hp} {ra : Re Bool} {k : Bool → Re D} {Q : VK} {Q' : Bool → Hp → Prop} (hp : PMon P) (h : Go W P F H (ra.bnd k) Q)
    (q : ∀ b F1 H1, ra = .ok b → Grow F H F1 H1 → Go W P F1 H1 (k b) Q → Q' b H1) : GoT W F H ra Q' := by
  cases ra with
  | ok d => exact fun F1 H1 g => q d F1 H1 rfl g (Go.grow hp h g)
  | ex x => exact h
  | no => exact h
theorem GoT.bndT {W : XW} {F : Addr → Prop} {H : Hp} {ra : Re Bool} {k : Bool → Re Bool} {Q : Bool → Hp → Prop} {Q' : Bool → Hp → Prop} (h : GoT W F H (ra.bnd k) Q)
    (q : ∀ b F1 H1, ra = .ok b → Grow F H F1 H1 → GoT W F1 H1 (k b) Q → Q' b H1) : GoT W F H ra Q' := by
  cases ra with
  | ok d => exact fun F1 H1 g => q d F1 H1 rfl g (GoT.grow h g)
  | ex x => exact h
  | no => exact h

section
variable {X : Cx} {W : XW} {P : PP} {e a b c : Expr} {pos : Pos} {f fa fb fc : Dl → Re D} {g : D → D → Re D}

/-! ### names, constants -/
def gS (i : Nat) (δ : Dl) : Re D := match δ[i]? with
  | some (.sh d) => .ok d
  | _ => .no
def gB (i : Nat) (δ : Dl) : Re D := match δ[i]? with
  | some (.sh d) => .ok d
  | some (.ow d) => .ok d
  | _ => .no
theorem ve_var (i : Nat) {x : Str} (h : PE X (.Name x pos) (tVar i)) : VE X W (.Name x pos) (gS i) := PE.imp h fun σ H Q ⟨F, δ, s, r⟩ => by
  unfold gS at r
  split at r
  · rename_i d e
    obtain ⟨v, ev, rv⟩ := s.sl i _ e
    exact ⟨v, ev, r v F H Grow.refl rv⟩
  · exact r.elim
theorem vb_var (i : Nat) {x : Str} (h : PE X (.Name x pos) (tVar i)) : VB X W (.Name x pos) (gB i) := PE.imp h fun σ H Q ⟨F, δ, s, r⟩ => by
  unfold gB at r
  split at r
  · rename_i d e
    obtain ⟨v, ev, rv⟩ := s.sl i _ e
    exact ⟨v, ev, r v F H Grow.refl rv.b⟩
  · rename_i d e
    obtain ⟨v, ev, rv⟩ := s.sl i _ e
    exact ⟨v, ev, r v F H Grow.refl rv⟩
  · exact r.elim
def kC (d : D) (_ : Dl) : Re D := .ok d
/-- a constant, by any value that stands for it wherever it is read -/
theorem ve_c {v : V} {d : D} (h : PE X e (tC v)) (hv : ∀ F H, Rp X.K F H v d) : VE X W e (kC d) := PE.imp h fun σ H Q ⟨F, δ, s, r⟩ => r v F H Grow.refl (hv F H)
theorem ve_int {i j} : VE X W (.Constant (.int i) j pos) (kC (.int i)) := ve_c pe_int fun _ _ => .int i
theorem ve_bl {v j} : VE X W (.Constant (.bool v) j pos) (kC (.bool v)) := ve_c pe_bl fun _ _ => .bl v
theorem ve_non {j} : VE X W (.Constant .none j pos) (kC .none) := ve_c pe_non fun _ _ => .non
theorem ve_str {x j} : VE X W (.Constant (.str x) j pos) (kC (.str x)) := ve_c pe_str fun _ _ => .str x
/-- a module's int, text -/
theorem ve_gint {x : Str} {i : Int} (hg : Gl X x) (hm : ∃ t, X.mg x = some (.int i t)) (hd : (x == ("__debug__" : Str)) = false := by decide) : VE X W (.Name x pos) (kC (.int i)) := by
  obtain ⟨t, hm⟩ := hm
  exact ve_c (pe_glob (v := .int i) hg hm ⟨t, rfl⟩ hd) fun _ _ => .int i
theorem ve_gstr {x z : Str} (hg : Gl X x) (hm : ∃ t, X.mg x = some (.str z t)) (hd : (x == ("__debug__" : Str)) = false := by decide) : VE X W (.Name x pos) (kC (.str z)) := by
  obtain ⟨t, hm⟩ := hm
  exact ve_c (pe_glob (v := .str z) hg hm ⟨t, rfl⟩ hd) fun _ _ => .str z
theorem vb_c {v : V} {d : D} (h : PE X e (tC v)) (hv : ∀ F H, RpB X.K F H v d) : VB X W e (kC d) := PE.imp h fun σ H Q ⟨F, δ, s, r⟩ => r v F H Grow.refl (hv F H)
/-- a module's tuple -/
theorem vb_gtup {x : Str} {p : Addr} {xs : List V} {ds : List D} (hg : Gl X x) (hm : X.mg x = some (.ref p)) (hv : ∀ H, SqT X.K H p xs) (hr : ∀ F H, RpA X.K F H xs ds) (hd : (x == ("__debug__" : Str)) = false := by decide) : VB X W (.Name x pos) (kC (.tuple ds)) :=
  vb_c (pe_glob (v := .ref p) hg hm rfl hd) fun F H => ⟨p, xs, rfl, hv H, hr F H⟩
theorem ve_gtup {x : Str} {p : Addr} {xs : List V} {ds : List D} (he : esc ds = true) (hg : Gl X x) (hm : X.mg x = some (.ref p)) (hv : ∀ H, SqT X.K H p xs) (hr : ∀ F H, RpA X.K F H xs ds) (hd : (x == ("__debug__" : Str)) = false := by decide) : VE X W (.Name x pos) (kC (.tuple ds)) :=
  ve_c (pe_glob (v := .ref p) hg hm rfl hd) fun F H => .tup (.inr ⟨he, hv H⟩) (hr F H)

/-! ### operators on two values -/
/-- what a two-place rule must give -/
def OpG (X : Cx) (W : XW) (P : PP) (r : R2) (g : D → D → Re D) : Prop :=
  ∀ (F : Addr → Prop) (H : Hp) (x y : V) (dx dy : D) (Q : VK), (∀ a, F a → H a ≠ none) → RpB X.K F H x dx → RpB X.K F H y dy → Go W P F H (g dx dy) Q → r x y H Q
def OpGS (X : Cx) (W : XW) (P : PP) (r : R2) (g : D → D → Re D) : Prop :=
  ∀ (F : Addr → Prop) (H : Hp) (x y : V) (dx dy : D) (Q : VK), (∀ a, F a → H a ≠ none) → Rp X.K F H x dx → Rp X.K F H y dy → Go W P F H (g dx dy) Q → r x y H Q
def d2 (g : D → D → Re D) (fa fb : Dl → Re D) (δ : Dl) : Re D := (fa δ).bnd fun x => (fb δ).bnd fun y => g x y
theorem t_op {r : R2} (hp : PMon P) (hg : OpG X W P r g) (σ : L2.St) (H : Hp) (Q : VK) (h : tP X.K W P (d2 g fa fb) σ H Q) : tOp r (tP X.K W (pB X.K) fa) (tP X.K W (pB X.K) fb) σ H Q := by
  obtain ⟨F, δ, s, h⟩ := h
  refine ⟨F, δ, s, Go.bnd hp h fun dx x F1 H1 ex g1 px h1 => ?_⟩
  refine ⟨F1, δ, s.grow g1, Go.bnd hp h1 fun dy y F2 H2 ey g2 py h2 => ?_⟩
  exact hg F2 H2 x y dx dy Q (g2.dom (g1.dom s.dom)) (g2.rpB px) py h2
theorem t_opS {r : R2} (hp : PMon P) (hg : OpGS X W P r g) (σ : L2.St) (H : Hp) (Q : VK) (h : tP X.K W P (d2 g fa fb) σ H Q) : tOp r (tP X.K W (pS X.K) fa) (tP X.K W (pS X.K) fb) σ H Q := by
  obtain ⟨F, δ, s, h⟩ := h
  refine ⟨F, δ, s, Go.bnd hp h fun dx x F1 H1 ex g1 px h1 => ?_⟩
  refine ⟨F1, δ, s.grow g1, Go.bnd hp h1 fun dy y F2 H2 ey g2 py h2 => ?_⟩
  exact hg F2 H2 x y dx dy Q (g2.dom (g1.dom s.dom)) (g2.rp px) py h2
abbrev Rel := PySem.W.Frag → (Addr → Prop) → Hp → V → D → Prop
abbrev pp (K : PySem.W.Frag) (R : Rel) : PP := fun _ _ F' H' v d => R K F' H' v d
structure RKeep (R : Rel) : Prop where
  k : ∀ {K F H F' H' v d}, Grow F H F' H' → R K F H v d → R K F' H' v d
theorem kS : RKeep Rp := ⟨fun g r => g.rp r⟩
theorem kB : RKeep RpB := ⟨fun g r => g.rpB r⟩
def OpGG (X : Cx) (W : XW) (P : PP) (RA RB : Rel) (r : R2) (g : D → D → Re D) : Prop :=
  ∀ (F : Addr → Prop) (H : Hp) (x y : V) (dx dy : D) (Q : VK), (∀ a, F a → H a ≠ none) → RA X.K F H x dx → RB X.K F H y dy → Go W P F H (g dx dy) Q → r x y H Q
theorem t_opG {RA RB : Rel} {r : R2} (hp : PMon P) (ka : RKeep RA) (hg : OpGG X W P RA RB r g) (σ : L2.St) (H : Hp) (Q : VK) (h : tP X.K W P (d2 g fa fb) σ H Q) : tOp r (tP X.K W (pp X.K RA) fa) (tP X.K W (pp X.K RB) fb) σ H Q := by
  obtain ⟨F, δ, s, h⟩ := h
  refine ⟨F, δ, s, Go.bnd hp h fun dx x F1 H1 ex g1 px h1 => ?_⟩
  refine ⟨F1, δ, s.grow g1, Go.bnd hp h1 fun dy y F2 H2 ey g2 py h2 => ?_⟩
  exact hg F2 H2 x y dx dy Q (g2.dom (g1.dom s.dom)) (ka.k g2 px) py h2
theorem vp_bin {op : Operator} {r : R2} (ho : OpR X (binaryOp op) r) (hp : PMon P) (hg : OpG X W P r g) (ha : VB X W a fa) (hb : VB X W b fb) : VP X W P (.BinOp a op b pos) (d2 g fa fb) :=
  PE.imp (pe_op ho ha hb) (t_op hp hg)
theorem vp_cmp {op : CmpOp} {r : R2} (ho : OpR X (compareOp op) r) (hp : PMon P) (hg : OpG X W P r g) (ha : VB X W a fa) (hb : VB X W b fb) (hm : behindInMarks op b = false) : VP X W P (.Compare a [op] [b] pos) (d2 g fa fb) :=
  PE.imp (pe_cmpR ho ha hb hm) (t_op hp hg)
end

/-! ### ints -/
def addI : D → D → Re D
  | .int i, .int j => .ok (.int (i + j))
  | _, _ => .no
def subI : D → D → Re D
  | .int i, .int j => .ok (.int (i - j))
  | _, _ => .no
section
variable {X : Cx} {W : XW} {F : Addr → Prop} {H : Hp} {K : PySem.W.Frag}
theorem rp_int {x : V} {i : Int} (r : RpB K F H x (.int i)) : x = .int i := by
  have r' : Rp K F H x (.int i) := r
  cases r'; rfl
theorem rp_bl {x : V} {i : Bool} (r : RpB K F H x (.bool i)) : x = .bl i := by
  have r' : Rp K F H x (.bool i) := r
  cases r'; rfl
theorem rp_str {x : V} {i : Str} (r : RpB K F H x (.str i)) : x = .str i := by
  have r' : Rp K F H x (.str i) := r
  cases r'; rfl
theorem rp_non {x : V} (r : RpB K F H x .none) : x = .non := by
  have r' : Rp K F H x .none := r
  cases r'; rfl
theorem rp_tup {x : V} {ds : List D} (r : RpB K F H x (.tuple ds)) : ∃ a xs, x = .ref a ∧ SqT K H a xs ∧ RpA K F H xs ds := r
theorem rp_tupS {x : V} {ds : List D} (r : Rp K F H x (.tuple ds)) : ∃ a xs, x = .ref a ∧ TupR K H a xs ds ∧ RpA K F H xs ds := by
  cases r with
  | tup h t => exact ⟨_, _, rfl, h, t⟩
theorem rp_lstS {x : V} {ds : List D} (r : Rp K F H x (.list ds)) : ∃ a xs, x = .ref a ∧ Rd H a (.lst xs) ∧ RpA K F H xs ds := by
  cases r with
  | lst h _ t => exact ⟨_, _, rfl, h, t⟩
end
end VS
end
section
namespace VS
open PySem L2

/-! ### new objects -/
abbrev Dom (F : Addr → Prop) (H : Hp) : Prop := ∀ a, F a → H a ≠ none
structure PNew (K : PySem.W.Frag) (P : PP) : Prop extends PMon P where
  lst : ∀ {F H p xs ds}, Dom F H → H p = none → RpA K F H xs ds → ∃ F', Grow F H F' (upd H p (.lst xs)) ∧ P F H F' (upd H p (.lst xs)) (.ref p) (.list ds)
  dK : ∀ {F : Addr → Prop} {H : Hp} {p : Addr} {m : List (Key × V)} {ds : List (D × D)}, Dom F H → H p = none → RpK K F H (m.map fun p => (kD p.1, p.2)) ds → ∃ F', Grow F H F' (upd H p (.dK m)) ∧ P F H F' (upd H p (.dK m)) (.ref p) (.dict ds)
  dT : ∀ {F : Addr → Prop} {H : Hp} {p : Addr} {m : List (List Key × V)} {ds : List (D × D)}, Dom F H → H p = none → RpK K F H (m.map fun p => (PyData.tuple (p.1.map kD), p.2)) ds → ∃ F', Grow F H F' (upd H p (.dT m)) ∧ P F H F' (upd H p (.dT m)) (.ref p) (.dict ds)
theorem notF {F : Addr → Prop} {H : Hp} {p : Addr} (dm : Dom F H) (h : H p = none) : ¬ F p := fun f => dm p f h
theorem RpO.ofL {K : PySem.W.Frag} {F : Addr → Prop} {H : Hp} {p : Addr} {xs : List V} {ds : List D} (h : H p = none) (r : RpA K F H xs ds) : RpO K F (upd H p (.lst xs)) p (.list ds) :=
  ⟨xs, upd_same, r.mono (fun _ x => x) (Kept.of (same_upd h))⟩
theorem RpO.ofK {K : PySem.W.Frag} {F : Addr → Prop} {H : Hp} {p : Addr} {m : List (Key × V)} {ds : List (D × D)} (h : H p = none) (r : RpK K F H (m.map fun p => (kD p.1, p.2)) ds) : RpO K F (upd H p (.dK m)) p (.dict ds) :=
  .inl ⟨m, upd_same, r.mono (fun _ x => x) (Kept.of (same_upd h))⟩
theorem RpO.ofT {K : PySem.W.Frag} {F : Addr → Prop} {H : Hp} {p : Addr} {m : List (List Key × V)} {ds : List (D × D)} (h : H p = none) (r : RpK K F H (m.map fun p => (PyData.tuple (p.1.map kD), p.2)) ds) : RpO K F (upd H p (.dT m)) p (.dict ds) :=
  .inr ⟨m, upd_same, r.mono (fun _ x => x) (Kept.of (same_upd h))⟩
theorem upd_some {H : Hp} {p : Addr} {o : HO} : upd H p o p ≠ none := by rw [upd_same]; exact fun z => nomatch z
theorem pS_new {K : PySem.W.Frag} : PNew K (pS K) where
  toPMon := pS_mon
  lst := fun _ h r => ⟨_, (Grow.upd0 h).freeze h upd_some, (RpO.ofL h r).froz⟩
  dK := fun _ h r => ⟨_, (Grow.upd0 h).freeze h upd_some, (RpO.ofK h r).froz⟩
  dT := fun _ h r => ⟨_, (Grow.upd0 h).freeze h upd_some, (RpO.ofT h r).froz⟩
theorem pB_new {K : PySem.W.Frag} : PNew K (pB K) where
  toPMon := pB_mon
  lst := fun _ h r => ⟨_, (Grow.upd0 h).freeze h upd_some, (RpO.ofL h r).froz.b⟩
  dK := fun _ h r => ⟨_, (Grow.upd0 h).freeze h upd_some, (RpO.ofK h r).froz.b⟩
  dT := fun _ h r => ⟨_, (Grow.upd0 h).freeze h upd_some, (RpO.ofT h r).froz.b⟩
theorem pF_new {K : PySem.W.Frag} : PNew K (pF K) where
  toPMon := pF_mon
  lst := fun dm h r => ⟨_, Grow.upd0 h, _, rfl, h, notF dm h, RpO.ofL h r⟩
  dK := fun dm h r => ⟨_, Grow.upd0 h, _, rfl, h, notF dm h, RpO.ofK h r⟩
  dT := fun dm h r => ⟨_, Grow.upd0 h, _, rfl, h, notF dm h, RpO.ofT h r⟩
section
variable {X : Cx} {W : XW} {P : PP} {F : Addr → Prop} {H : Hp} {Q : VK} {K : PySem.W.Frag}
theorem Go.newL {ds : List D} {xs : List V} {p : Addr} (hp : PNew K P) (dm : Dom F H) (h : Go W P F H (.ok (.list ds)) Q) (hn : H p = none) (r : RpA K F H xs ds) : Q (.ref p) (upd H p (.lst xs)) := by
  obtain ⟨F', g, q⟩ := hp.lst dm hn r
  exact h _ _ _ g q
theorem Go.newT {ds : List D} {xs : List V} {p : Addr} (h : Go W (pS K) F H (.ok (.tuple ds)) Q) (hn : H p = none) (r : RpA K F H xs ds) : Q (.ref p) (upd H p (.tup xs)) :=
  h _ _ _ (Grow.upd0 hn) (.tup (.inl upd_same) (r.mono (fun _ x => x) (Kept.of (same_upd hn))))
theorem Go.val {d : D} {v : V} (h : Go W (pS K) F H (.ok d) Q) (r : Rp K F H v d) : Q v H := h v F H Grow.refl r
end

/-! ### list objects, read -/
theorem lstR {X : Cx} {pins : List (Addr × Obj)} {σ : L2.St} {H : Hp} {s : Shared} {l : Addr} {xs : List V} (I : Inv X pins σ H s) (h : Rd H l (.lst xs)) :
    xs.length ≤ sizeLine ∧ ∃ (its : List Value) (n : Nat), Vals xs its ∧ xs.length = its.length ∧ s.heap.get? l = some { cls := .type "list", data := .seq its.toArray n } := by
  obtain ⟨z, its, n, r, e⟩ := h.ok I.hok
  exact ⟨z, its, n, r, r.length, e⟩
def rCatR : R2 := fun x y H Q => ∃ l b xs zs, x = .ref l ∧ y = .ref b ∧ Rd H l (.lst xs) ∧ Rd H b (.lst zs) ∧ xs.length + zs.length ≤ sizeLine ∧ ∀ p, H p = none → Q (.ref p) (upd H p (.lst (xs ++ zs)))
section
variable {X : Cx}
theorem op_catR : OpR X (binaryOp .Add) rCatR := by
  intro pins s σ H x y v u Q I rx ry h
  obtain ⟨l, b, xs, zs, rfl, rfl, hH, hB, hz, q⟩ := h
  cases rx; cases ry
  obtain ⟨_, i1, n1, r1, l1, e1⟩ := lstR I hH
  obtain ⟨_, i2, n2, r2, l2, e2⟩ := lstR I hB
  refine PySem.P.add_list e1 e2 ?_ (by rw [List.size_toArray, List.size_toArray]; omega)
  rw [show i1.toArray ++ i2.toArray = (i1 ++ i2).toArray by simp]
  exact ⟨.ref _, _, I.lnew (t' := s.toks) (r1.append r2) (by rw [List.length_append]; omega), rfl, q _ I.fresh⟩
end

/-! ### + - * // % ** -/
def fits (n : Nat) : Bool := decide (n ≤ sizeLine)
def addD : D → D → Re D
  | .int i, .int j => .ok (.int (i + j))
  | .str x, .str y => if x.length + y.length ≤ sizeLine then .ok (.str (x ++ y)) else .no
  | .tuple xs, .tuple ys => if xs.length + ys.length ≤ sizeLine then .ok (.tuple (xs ++ ys)) else .no
  | .list xs, .list ys => if xs.length + ys.length ≤ sizeLine then .ok (.list (xs ++ ys)) else .no
  | _, _ => .no
def catL : D → D → Re D
  | .list xs, .list ys => if xs.length + ys.length ≤ sizeLine then .ok (.list (xs ++ ys)) else .no
  | _, _ => .no
def subD : D → D → Re D
  | .int i, .int j => .ok (.int (i - j))
  | _, _ => .no
instance (i j : Int) : Decidable (CMul i j) := inferInstanceAs (Decidable ((_ ∧ _) ∨ (_ ∧ _)))
instance (i j : Int) : Decidable (CDiv i j) := inferInstanceAs (Decidable (_ ∧ _))
instance (i j : Int) : Decidable (CPow i j) := inferInstanceAs (Decidable (_ ∧ _ ∧ _))
instance (i j : Int) : Decidable (CMulW i j) := inferInstanceAs (Decidable (_ < _))
def mulI : D → D → Re D
  | .int i, .int j => if CMul i j ∨ CMulW i j then .ok (.int (i * j)) else .no
  | _, _ => .no
/-- list * int -/
def repL : D → D → Re D
  | .list xs, .int k => if -(2 ^ 63) ≤ k ∧ k < 2 ^ 63 ∧ xs.length * k.toNat ≤ sizeLine then .ok (.list (List.replicate k.toNat xs).flatten) else .no
  | _, _ => .no
def fdivI : D → D → Re D
  | .int i, .int j => if CDiv i j then .ok (.int (i / j)) else .no
  | _, _ => .no
def modI : D → D → Re D
  | .int i, .int j => if 0 < j then .ok (.int (i % j)) else .no
  | _, _ => .no
def powI : D → D → Re D
  | .int i, .int j => if CPow i j then .ok (.int (i ^ j.toNat)) else .no
  | _, _ => .no
def negI : D → Re D
  | .int i => .ok (.int (-i))
  | _ => .no

def rAddAll (K : PySem.W.Frag) : R2 := fun x y H Q => ((∃ i j, x = .int i ∧ y = .int j ∧ Q (.int (i + j)) H) ∨ (∃ i j, x = .str i ∧ y = .str j ∧ i.length + j.length ≤ sizeLine ∧ Q (.str (i ++ j)) H)) ∨ rCatA K x y H Q ∨ rCatR x y H Q
section
variable {X : Cx} {W : XW} {P : PP} {a b : Expr} {pos : Pos} {fa fb : Dl → Re D}
theorem op_addAll : OpR X (binaryOp .Add) (rAddAll X.K) := OpR.or (OpR.or op_add op_add_str) (OpR.or op_catA op_catR)

theorem og_add : OpGS X W (pS X.K) (rAddAll X.K) addD := by
  intro F H x y dx dy Q dm rx ry h
  unfold addD at h
  split at h
  · exact .inl (.inl ⟨_, _, rp_int (Rp.b rx), rp_int (Rp.b ry), h.val (.int _)⟩)
  · split at h
    · rename_i hz
      exact .inl (.inr ⟨_, _, rp_str (Rp.b rx), rp_str (Rp.b ry), hz, h.val (.str _)⟩)
    · exact h.elim
  · split at h
    · rename_i xs ys hz
      obtain ⟨p, us, rfl, hp, ru⟩ := rp_tupS rx
      obtain ⟨q, ws, rfl, hq, rw'⟩ := rp_tupS ry
      have l1 := ru.length
      have l2 := rw'.length
      refine .inr (.inl ⟨p, q, us, ws, rfl, rfl, hp.sq, hq.sq, by omega, fun e => ?_, fun e e2 => ?_, fun e e2 z hz => ?_⟩)
      · subst e
        have : xs = [] := by cases ru; rfl
        subst this
        exact h.val (.tup hq rw')
      · subst e2
        have : ys = [] := by cases rw'; rfl
        subst this
        rw [List.append_nil] at h
        exact h.val (.tup hp ru)
      · exact h.newT hz (ru.append rw')
    · exact h.elim
  · split at h
    · rename_i xs ys hz
      obtain ⟨p, us, rfl, hp, ru⟩ := rp_lstS rx
      obtain ⟨q, ws, rfl, hq, rw'⟩ := rp_lstS ry
      have l1 := ru.length
      have l2 := rw'.length
      exact .inr (.inr ⟨p, q, us, ws, rfl, rfl, hp, hq, by omega, fun z hz => h.newL pS_new dm hz (ru.append rw')⟩)
    · exact h.elim
  · exact h.elim
theorem og_catL (hP : PNew X.K P) : OpG X W P rCatR catL := by
  intro F H x y dx dy Q dm rx ry h
  unfold catL at h
  split at h
  · split at h
    · rename_i xs ys hz
      obtain ⟨p, us, rfl, hp, ru⟩ := rx
      obtain ⟨q, ws, rfl, hq, rw'⟩ := ry
      have l1 := ru.length
      have l2 := rw'.length
      exact ⟨p, q, us, ws, rfl, rfl, hp, hq, by omega, fun z hz => h.newL hP dm hz (ru.append rw')⟩
    · exact h.elim
  · exact h.elim
/-- ints in, under a condition that is decided -/
theorem og_int {C : Int → Int → Prop} {k : Int → Int → Int} {g : D → D → Re D} (hg : ∀ dx dy d, g dx dy = .ok d → ∃ i j, dx = .int i ∧ dy = .int j ∧ C i j ∧ d = .int (k i j)) (hx : ∀ dx dy x, g dx dy ≠ .ex x) :
    OpG X W (pS X.K) (rI C fun i j => .int (k i j)) g := by
  intro F H x y dx dy Q dm rx ry h
  cases e : g dx dy with
  | ok d =>
    obtain ⟨i, j, rfl, rfl, c, rfl⟩ := hg _ _ _ e
    rw [e] at h
    exact ⟨i, j, rp_int rx, rp_int ry, c, h.val (.int _)⟩
  | ex z => exact (hx _ _ _ e).elim
  | no => rw [e] at h; exact h.elim
theorem ve_add (ha : VE X W a fa) (hb : VE X W b fb) : VE X W (.BinOp a .Add b pos) (d2 addD fa fb) := PE.imp (pe_op op_addAll ha hb) (t_opS pS_mon og_add)
theorem vp_catL (hP : PNew X.K P) (ha : VB X W a fa) (hb : VB X W b fb) : VP X W P (.BinOp a .Add b pos) (d2 catL fa fb) := vp_bin op_catR hP.toPMon (og_catL hP) ha hb
theorem ve_sub (ha : VB X W a fa) (hb : VB X W b fb) : VE X W (.BinOp a .Sub b pos) (d2 subD fa fb) := by
  refine vp_bin (r := rI (fun _ _ => True) fun i j => .int (i - j)) (fun pins s σ H x y v u Q I rx ry ⟨i, j, e1, e2, _, q⟩ => op_sub pins s σ H x y v u Q I rx ry ⟨i, j, e1, e2, q⟩) pS_mon (og_int (fun dx dy d e => ?_) fun dx dy x e => ?_) ha hb
  · unfold subD at e
    split at e
    · cases e; exact ⟨_, _, rfl, rfl, trivial, rfl⟩
    · cases e
  · unfold subD at e
    split at e <;> cases e
theorem op_mul2 : OpR X (binaryOp .Mult) (rI (fun i j => CMul i j ∨ CMulW i j) fun i j => .int (i * j)) := by
  intro pins s σ H x y v u Q I rx ry ⟨i, j, e1, e2, c, q⟩
  rcases c with c | c
  · exact op_mul pins s σ H x y v u Q I rx ry ⟨i, j, e1, e2, c, q⟩
  · exact op_mulW pins s σ H x y v u Q I rx ry ⟨i, j, e1, e2, c, q⟩
theorem ve_mul (ha : VB X W a fa) (hb : VB X W b fb) : VE X W (.BinOp a .Mult b pos) (d2 mulI fa fb) := by
  refine vp_bin op_mul2 pS_mon (og_int (fun dx dy d e => ?_) fun dx dy x e => ?_) ha hb
  · unfold mulI at e
    split at e
    · split at e
      · rename_i c; cases e; exact ⟨_, _, rfl, rfl, c, rfl⟩
      · cases e
    · cases e
  · unfold mulI at e
    split at e
    · split at e <;> cases e
    · cases e
theorem ve_fdiv (ha : VB X W a fa) (hb : VB X W b fb) : VE X W (.BinOp a .FloorDiv b pos) (d2 fdivI fa fb) := by
  refine vp_bin op_fdiv pS_mon (og_int (fun dx dy d e => ?_) fun dx dy x e => ?_) ha hb
  · unfold fdivI at e
    split at e
    · split at e
      · rename_i c; cases e; exact ⟨_, _, rfl, rfl, c, rfl⟩
      · cases e
    · cases e
  · unfold fdivI at e
    split at e
    · split at e <;> cases e
    · cases e
theorem ve_mod (ha : VB X W a fa) (hb : VB X W b fb) : VE X W (.BinOp a .Mod b pos) (d2 modI fa fb) := by
  refine vp_bin op_mod pS_mon (og_int (fun dx dy d e => ?_) fun dx dy x e => ?_) ha hb
  · unfold modI at e
    split at e
    · split at e
      · rename_i c; cases e; exact ⟨_, _, rfl, rfl, c, rfl⟩
      · cases e
    · cases e
  · unfold modI at e
    split at e
    · split at e <;> cases e
    · cases e
theorem ve_pow (ha : VB X W a fa) (hb : VB X W b fb) : VE X W (.BinOp a .Pow b pos) (d2 powI fa fb) := by
  refine vp_bin op_pow pS_mon (og_int (fun dx dy d e => ?_) fun dx dy x e => ?_) ha hb
  · unfold powI at e
    split at e
    · split at e
      · rename_i c; cases e; exact ⟨_, _, rfl, rfl, c, rfl⟩
      · cases e
    · cases e
  · unfold powI at e
    split at e
    · split at e <;> cases e
    · cases e
def d1 (g : D → Re D) (fa : Dl → Re D) (δ : Dl) : Re D := (fa δ).bnd g
theorem ve_neg (ha : VB X W a fa) : VE X W (.UnaryOp .USub a pos) (d1 negI fa) := PE.imp (pe_un un_neg ha) fun σ H Q ⟨F, δ, s, h⟩ => by
  refine ⟨F, δ, s, Go.bnd pS_mon h fun d v F1 H1 e g p h1 => ?_⟩
  unfold negI at h1
  split at h1
  · exact ⟨_, rp_int p, h1.val (.int _)⟩
  · exact h1.elim
end
end VS
end
section
namespace VS
open PySem L2

/-! ### reading as data -/
mutual
/-- no dict within, nested at most n deep -/
def dn : Nat → D → Bool
  | _, .dict _ => false
  | 0, .list _ => false
  | n + 1, .list xs => dnA n xs
  | 0, .tuple _ => false
  | n + 1, .tuple xs => dnA n xs
  | _, .none => true
  | _, .bool _ => true
  | _, .int _ => true
  | _, .str _ => true
def dnA : Nat → List D → Bool
  | _, [] => true
  | n, x :: xs => dn n x && dnA n xs
end
@[simp] theorem dnA_all (n : Nat) : ∀ xs : List D, dnA n xs = xs.all (dn n)
  | [] => by simp [dnA]
  | x :: xs => by simp [dnA, dnA_all n xs]
@[simp] theorem dn_int (n : Nat) (i : Int) : dn n (.int i) = true := by cases n <;> simp [dn]
@[simp] theorem dn_str (n : Nat) (i : Str) : dn n (.str i) = true := by cases n <;> simp [dn]
@[simp] theorem dn_bool (n : Nat) (i : Bool) : dn n (.bool i) = true := by cases n <;> simp [dn]
@[simp] theorem dn_none (n : Nat) : dn n .none = true := by cases n <;> simp [dn]
@[simp] theorem dn_tup (n : Nat) (xs : List D) : dn (n + 1) (.tuple xs) = xs.all (dn n) := by simp [dn]
@[simp] theorem dn_lst (n : Nat) (xs : List D) : dn (n + 1) (.list xs) = xs.all (dn n) := by simp [dn]
mutual
theorem dn_plain : ∀ (d : D) (n : Nat), dn n d = true → d.plain = true ∧ d.depth ≤ n
  | .none, n, _ => ⟨by simp [PyData.plain], by simp [PyData.depth]⟩
  | .bool _, n, _ => ⟨by simp [PyData.plain], by simp [PyData.depth]⟩
  | .int _, n, _ => ⟨by simp [PyData.plain], by simp [PyData.depth]⟩
  | .str _, n, _ => ⟨by simp [PyData.plain], by simp [PyData.depth]⟩
  | .dict _, n, h => by cases n <;> simp [dn] at h
  | .list xs, 0, h => by simp [dn] at h
  | .list xs, n + 1, h => by
    have q := dnA_plain xs n (by simpa [dn] using h)
    exact ⟨by simpa [PyData.plain] using q.1, by simp only [PyData.depth]; omega⟩
  | .tuple xs, 0, h => by simp [dn] at h
  | .tuple xs, n + 1, h => by
    have q := dnA_plain xs n (by simpa [dn] using h)
    exact ⟨by simpa [PyData.plain] using q.1, by simp only [PyData.depth]; omega⟩
theorem dnA_plain : ∀ (ds : List D) (n : Nat), dnA n ds = true → PyData.plainAll ds = true ∧ PyData.depthAll ds ≤ n
  | [], n, _ => ⟨by simp [PyData.plainAll], by simp [PyData.depthAll]⟩
  | d :: ds, n, h => by
    simp only [dnA, Bool.and_eq_true] at h
    have q1 := dn_plain d n h.1
    have q2 := dnA_plain ds n h.2
    refine ⟨by simp only [PyData.plainAll, q1.1, q2.1, Bool.and_self], ?_⟩
    simp only [PyData.depthAll]
    exact Nat.max_le.mpr ⟨q1.2, q2.2⟩
end
section
variable {K : PySem.W.Frag} {F : Addr → Prop} {H : Hp}
theorem sqL_rd {a : Addr} {xs : List V} (h : Rd H a (.lst xs)) : SqL K H a xs := .inl h
mutual
theorem Rp.dp : ∀ {v : V} {d : D}, Rp K F H v d → d.plain = true → Dp K H v d
  | _, _, .non, _ => .non
  | _, _, .bl b, _ => .bl b
  | _, _, .int i, _ => .int i
  | _, _, .str x, _ => .str x
  | _, _, .lst r _ t, h => .lst (sqL_rd r) (RpA.dp t (by simpa [PyData.plain] using h))
  | _, _, .tup r t, h => .tup r.sq (RpA.dp t (by simpa [PyData.plain] using h))
  | _, _, .dic _ _ _, h => by simp [PyData.plain] at h
theorem RpA.dp : ∀ {vs : List V} {ds : List D}, RpA K F H vs ds → PyData.plainAll ds = true → DpAll K H vs ds
  | _, _, .nil, _ => .nil
  | _, _, .cons h t, e => by
    simp only [PyData.plainAll, Bool.and_eq_true] at e
    exact .cons (Rp.dp h e.1) (RpA.dp t e.2)
end
theorem RpB.dp {v : V} : ∀ {d : D}, RpB K F H v d → d.plain = true → Dp K H v d
  | .list _, ⟨a, xs, e, h, t⟩, z => by subst e; exact .lst (sqL_rd h) (t.dp (by simpa [PyData.plain] using z))
  | .dict _, _, z => by simp [PyData.plain] at z
  | .none, r, z => Rp.dp (show Rp K F H v .none from r) z
  | .bool _, r, z => Rp.dp (show Rp K F H v (.bool _) from r) z
  | .int _, r, z => Rp.dp (show Rp K F H v (.int _) from r) z
  | .str _, r, z => Rp.dp (show Rp K F H v (.str _) from r) z
  | .tuple _, ⟨a, xs, e, h, t⟩, z => by subst e; exact .tup h (t.dp (by simpa [PyData.plain] using z))
end

/-! ### == != < -/
def eqD (x y : D) : Re D := if dn 60 x = true ∧ dn 60 y = true then .ok (.bool (PyData.eqv x y)) else .no
def neD (x y : D) : Re D := if dn 60 x = true ∧ dn 60 y = true then .ok (.bool (!PyData.eqv x y)) else .no
def isN : D → Bool
  | .none => true
  | _ => false
/-- Python's < for data alike, not None -/
def ltOk (x y : D) : Bool := dn 60 x && dn 60 y && PySem.W.alike x y && !isN x
def ltD (x y : D) : Re D := if ltOk x y = true then .ok (.bool (PySem.W.dataLt x y)) else .no
def leD (x y : D) : Re D := if ltOk x y = true then .ok (.bool (!PySem.W.dataLt y x)) else .no
def gtD (x y : D) : Re D := if ltOk x y = true then .ok (.bool (PySem.W.dataLt y x)) else .no
def geD (x y : D) : Re D := if ltOk x y = true then .ok (.bool (!PySem.W.dataLt x y)) else .no
def isND : D → Re D := fun x => .ok (.bool (isN x))
def notND : D → Re D := fun x => .ok (.bool (!isN x))

/-- a comparison of data that may be asked, by what it answers -/
def rCmpD (K : PySem.W.Frag) (ok : D → D → Bool) (k : D → D → Bool) : R2 := fun x y H Q => ∃ d e, Dp K H x d ∧ Dp K H y e ∧ ok d e = true ∧ Q (.bl (k d e)) H
def okEq (x y : D) : Bool := dn 60 x && dn 60 y
section
variable {X : Cx} {W : XW} {P : PP} {a b : Expr} {pos : Pos} {fa fb : Dl → Re D}
theorem ltOk_ok {x y : D} (h : ltOk x y = true) : x.plain = true ∧ y.plain = true ∧ PySem.W.alike x y = true ∧ x ≠ .none ∧ x.depth ≤ 60 := by
  unfold ltOk at h
  simp only [Bool.and_eq_true] at h
  obtain ⟨⟨⟨h1, h2⟩, h3⟩, h4⟩ := h
  exact ⟨(dn_plain x _ h1).1, (dn_plain y _ h2).1, h3, fun e => by subst e; simp [isN] at h4, (dn_plain x _ h1).2⟩
theorem op_data {op : CmpOp} {ok k : D → D → Bool} (rule : ∀ (s : Shared) (a b : Value) (da db : D) (as bs : List Addr) (Q : Value → Shared → Prop), Reads s.heap a da as → Reads s.heap b db bs → ok da db = true → Q (.bool (k da db)) s → wpAny (model X.prog X.w) X.A (compareOp op a b) Q X.xe s) :
    OpR X (compareOp op) (rCmpD X.K ok k) := by
  intro pins s σ H x y v u Q I rx ry ⟨d, e, hd, he, c, q⟩
  obtain ⟨as, r1⟩ := Dp.reads I d x v hd rx
  obtain ⟨bs, r2⟩ := Dp.reads I e y u he ry
  exact rule s v u d e as bs _ r1 r2 c ⟨.bl _, H, I, rfl, q⟩
theorem min60 {A : Around} {x y : D} (hu : A.units + 64 < cLine) (h : x.depth ≤ 60) : A.units + min x.depth y.depth < cLine := by
  have := Nat.min_le_left x.depth y.depth
  omega
theorem op_eqP (hu : X.A.units + 64 < cLine) : OpR X (compareOp .Eq) (rCmpD X.K okEq PyData.eqv) := op_data fun s a b da db as bs Q r1 r2 c q => by
  unfold okEq at c
  rw [Bool.and_eq_true] at c
  exact PySem.SeqAt.eq_plain r1 r2 (dn_plain _ _ c.1).1 (dn_plain _ _ c.2).1 (min60 hu (dn_plain _ _ c.1).2) q
theorem op_neP (hu : X.A.units + 64 < cLine) : OpR X (compareOp .NotEq) (rCmpD X.K okEq fun x y => !PyData.eqv x y) := op_data fun s a b da db as bs Q r1 r2 c q => by
  unfold okEq at c
  rw [Bool.and_eq_true] at c
  exact PySem.SeqAt.ne_plain r1 r2 (dn_plain _ _ c.1).1 (dn_plain _ _ c.2).1 (min60 hu (dn_plain _ _ c.1).2) q
theorem op_ltP (hu : X.A.units + 64 < cLine) : OpR X (compareOp .Lt) (rCmpD X.K ltOk PySem.W.dataLt) := op_data fun s a b da db as bs Q r1 r2 c q => by
  obtain ⟨_, _, c3, c4, c5⟩ := ltOk_ok c
  exact PySem.W.lt_data r1 r2 c3 c4 (min60 hu c5) q
theorem op_gtP (hu : X.A.units + 64 < cLine) : OpR X (compareOp .Gt) (rCmpD X.K ltOk fun x y => PySem.W.dataLt y x) := op_data fun s a b da db as bs Q r1 r2 c q => by
  obtain ⟨_, _, c3, c4, c5⟩ := ltOk_ok c
  exact PySem.W.gt_data r1 r2 c3 c4 (min60 hu c5) q
theorem op_leP (hu : X.A.units + 64 < cLine) : OpR X (compareOp .LtE) (rCmpD X.K ltOk fun x y => !PySem.W.dataLt y x) := op_data fun s a b da db as bs Q r1 r2 c q => by
  obtain ⟨_, _, c3, c4, c5⟩ := ltOk_ok c
  exact PySem.W.le_data r1 r2 c3 c4 (min60 hu c5) q
theorem op_geP (hu : X.A.units + 64 < cLine) : OpR X (compareOp .GtE) (rCmpD X.K ltOk fun x y => !PySem.W.dataLt x y) := op_data fun s a b da db as bs Q r1 r2 c q => by
  obtain ⟨_, _, c3, c4, c5⟩ := ltOk_ok c
  exact PySem.W.ge_data r1 r2 c3 c4 (min60 hu c5) q
theorem og_cmpD {ok k : D → D → Bool} {g : D → D → Re D} (hg : ∀ x y, g x y = if ok x y = true then .ok (.bool (k x y)) else .no) (hok : ∀ x y, ok x y = true → x.plain = true ∧ y.plain = true) : OpG X W (pS X.K) (rCmpD X.K ok k) g := by
  intro F H x y dx dy Q dm rx ry h
  rw [hg] at h
  split at h
  · rename_i c
    exact ⟨dx, dy, rx.dp (hok _ _ c).1, ry.dp (hok _ _ c).2, c, h.val (.bl _)⟩
  · exact h.elim
theorem okEq_plain (x y : D) (h : okEq x y = true) : x.plain = true ∧ y.plain = true := by
  unfold okEq at h
  rw [Bool.and_eq_true] at h
  exact ⟨(dn_plain _ _ h.1).1, (dn_plain _ _ h.2).1⟩
theorem okLt_plain (x y : D) (h : ltOk x y = true) : x.plain = true ∧ y.plain = true := ⟨(ltOk_ok h).1, (ltOk_ok h).2.1⟩
theorem isN_v {K : PySem.W.Frag} {F : Addr → Prop} {H : Hp} {v : V} : ∀ {d : D}, RpB K F H v d → decide (v = .non) = isN d
  | .none, r => by rw [rp_non r]; rfl
  | .bool _, r => by rw [rp_bl r]; rfl
  | .int _, r => by rw [rp_int r]; rfl
  | .str _, r => by rw [rp_str r]; rfl
  | .tuple _, r => by obtain ⟨a, _, e, _⟩ := rp_tup r; rw [e]; rfl
  | .list _, ⟨a, _, e, _⟩ => by rw [e]; rfl
  | .dict _, ⟨a, _, e, _⟩ => by rw [e]; rfl
/-- a comparison op, given the pair (rule, denotation) -/
structure CmpR (X : Cx) (W : XW) (op : CmpOp) (g : D → D → Re D) where
  r : R2
  o : OpR X (compareOp op) r
  g : OpG X W (pS X.K) r g
theorem okEq_if (x y : D) {α : Type} (a b : α) : (if dn 60 x = true ∧ dn 60 y = true then a else b) = if okEq x y = true then a else b := by
  unfold okEq
  simp only [Bool.and_eq_true]
def c_eq (hu : X.A.units + 64 < cLine) : CmpR X W .Eq eqD := ⟨_, op_eqP hu, og_cmpD (fun x y => okEq_if x y _ _) okEq_plain⟩
def c_ne (hu : X.A.units + 64 < cLine) : CmpR X W .NotEq neD := ⟨_, op_neP hu, og_cmpD (fun x y => okEq_if x y _ _) okEq_plain⟩
def c_lt (hu : X.A.units + 64 < cLine) : CmpR X W .Lt ltD := ⟨_, op_ltP hu, og_cmpD (fun x y => rfl) okLt_plain⟩
def c_le (hu : X.A.units + 64 < cLine) : CmpR X W .LtE leD := ⟨_, op_leP hu, og_cmpD (fun x y => rfl) okLt_plain⟩
def c_gt (hu : X.A.units + 64 < cLine) : CmpR X W .Gt gtD := ⟨_, op_gtP hu, og_cmpD (fun x y => rfl) okLt_plain⟩
def c_ge (hu : X.A.units + 64 < cLine) : CmpR X W .GtE geD := ⟨_, op_geP hu, og_cmpD (fun x y => rfl) okLt_plain⟩
theorem ve_cmp {op : CmpOp} {g : D → D → Re D} (c : CmpR X W op g) (ha : VB X W a fa) (hb : VB X W b fb) (hm : behindInMarks op b = false) : VE X W (.Compare a [op] [b] pos) (d2 g fa fb) := vp_cmp c.o pS_mon c.g ha hb hm
theorem ve_isN {j pos'} (ha : VB X W a fa) : VE X W (.Compare a [.Is] [.Constant .none j pos'] pos) (d1 isND fa) := PE.imp (pe_cmp (pc_isN ha) (by rfl)) fun σ H Q ⟨F, δ, s, h⟩ =>
  ⟨F, δ, s, Go.bnd pS_mon h fun d v F1 H1 e g p h1 => by rw [isN_v p]; exact h1.val (.bl _)⟩
theorem ve_notN {j pos'} (ha : VB X W a fa) : VE X W (.Compare a [.IsNot] [.Constant .none j pos'] pos) (d1 notND fa) := PE.imp (pe_cmp (pc_notN ha) (by rfl)) fun σ H Q ⟨F, δ, s, h⟩ =>
  ⟨F, δ, s, Go.bnd pS_mon h fun d v F1 H1 e g p h1 => by rw [isN_v p]; exact h1.val (.bl _)⟩

/-! ### a op b op' c -/
def asB : D → Re Bool
  | .bool b => .ok b
  | _ => .no
def chn (g g' : D → D → Re D) (fa fb fc : Dl → Re D) (δ : Dl) : Re D := (fa δ).bnd fun x => (fb δ).bnd fun y => (g x y).bnd fun z => match z with
  | .bool true => (fc δ).bnd fun w => g' y w
  | .bool false => .ok (.bool false)
  | _ => .no
theorem ve_chain {op op' : CmpOp} {g g' : D → D → Re D} {c : Expr} {fc : Dl → Re D} (k : CmpR X W op g) (k' : CmpR X W op' g') (ha : VB X W a fa) (hb : VB X W b fb) (hc : VB X W c fc)
    (hm : lastMarks [op, op'] [b, c] = false := by with_unfolding_all rfl) : VE X W (.Compare a [op, op'] [b, c] pos) (chn g g' fa fb fc) := PE.imp (pe_chain k.o k'.o ha hb hc hm) fun σ H Q ⟨F, δ, s, h⟩ => by
  refine ⟨F, δ, s, Go.bnd pS_mon h fun dx x F1 H1 ex g1 px h1 => ?_⟩
  refine ⟨F1, δ, s.grow g1, Go.bnd pS_mon h1 fun dy y F2 H2 ey g2 py h2 => ?_⟩
  have s2 := (s.grow g1).grow g2
  refine k.g F2 H2 x y dx dy _ s2.dom (g2.rpB px) py (Go.bnd pS_mon h2 fun dz z F3 H3 ez g3 pz h3 => ?_)
  cases dz with
  | bool b =>
    have e : z = .bl b := rp_bl (Rp.b pz)
    refine ⟨b, e, ?_⟩
    cases b with
    | true =>
      rw [if_pos rfl]
      refine ⟨F3, δ, s2.grow g3, Go.bnd pS_mon h3 fun dw w F4 H4 ew g4 pw h4 => ?_⟩
      exact k'.g F4 H4 y w dy dw Q ((s2.grow g3).grow g4).dom (g4.rpB (g3.rpB py)) pw h4
    | false =>
      rw [if_neg Bool.false_ne_true]
      exact h3.val (.bl false)
  | _ => exact h3.elim

/-! ### tests -/
def tB1 (fa : Dl → Re D) (δ : Dl) : Re Bool := (fa δ).bnd asB
theorem asB_ok {P : PP} {F : Addr → Prop} {H : Hp} {d : D} {W : XW} {Q : Bool → Hp → Prop} (h : GoT W F H (asB d) Q) : ∃ b, d = .bool b ∧ Q b H := by
  cases d with
  | bool b => exact ⟨b, rfl, h F H Grow.refl⟩
  | _ => exact h.elim
/-- a comparison as a test -/
theorem vt_cmp {op : CmpOp} {g : D → D → Re D} (c : CmpR X W op g) (ha : VB X W a fa) (hb : VB X W b fb) (hm : behindInMarks op b = false) : VT X W (.Compare a [op] [b] pos) (tB1 (d2 g fa fb)) := PT.imp (pt_cmpR c.o ha hb hm) fun σ H Q ⟨F, δ, s, h⟩ => by
  refine t_op pS_mon c.g σ H _ ⟨F, δ, s, ?_⟩
  refine Go.bndT h fun d v F1 H1 e g p h1 => ?_
  obtain ⟨b, rfl, q⟩ := asB_ok (P := pS X.K) h1
  exact ⟨b, rp_bl (Rp.b p), q⟩
/-- an expression whose value is a bool, as a test (he: by intro _; rfl) -/
theorem vt_val (ha : VE X W a fa) (he : ∀ whole, isTrue a X.env whole = (do let v ← whole; standAt a.pos; holding [v] (truthy v))) : VT X W a (tB1 fa) := PT.imp (pt_val ha he) fun σ H Q ⟨F, δ, s, h⟩ =>
  ⟨F, δ, s, Go.bndT h fun d v F1 H1 e g p h1 => by
    obtain ⟨b, rfl, q⟩ := asB_ok (P := pS X.K) h1
    exact ⟨b, rp_bl (Rp.b p), q⟩⟩
theorem vt_isN {j pos'} (ha : VB X W a fa) : VT X W (.Compare a [.Is] [.Constant .none j pos'] pos) (tB1 (d1 isND fa)) := PT.imp (pt_cmp (pc_isN ha) (by rfl)) fun σ H Q ⟨F, δ, s, h⟩ =>
  ⟨F, δ, s, by
    refine Go.bndT (k := fun x => asB (.bool (isN x))) (by unfold tB1 d1 at h; cases e : fa δ <;> rw [e] at h <;> exact h) fun d v F1 H1 e g p h1 => ?_
    rw [isN_v p]
    exact ⟨_, rfl, h1.at rfl Grow.refl⟩⟩
theorem vt_notN {j pos'} (ha : VB X W a fa) : VT X W (.Compare a [.IsNot] [.Constant .none j pos'] pos) (tB1 (d1 notND fa)) := PT.imp (pt_cmp (pc_notN ha) (by rfl)) fun σ H Q ⟨F, δ, s, h⟩ =>
  ⟨F, δ, s, by
    refine Go.bndT (k := fun x => asB (.bool (!isN x))) (by unfold tB1 d1 at h; cases e : fa δ <;> rw [e] at h <;> exact h) fun d v F1 H1 e g p h1 => ?_
    rw [isN_v p]
    exact ⟨_, rfl, h1.at rfl Grow.refl⟩⟩
/-- chain as a test -/
theorem vt_chain {op op' : CmpOp} {g g' : D → D → Re D} {c : Expr} {fc : Dl → Re D} (k : CmpR X W op g) (k' : CmpR X W op' g') (ha : VB X W a fa) (hb : VB X W b fb) (hc : VB X W c fc)
    (hm : lastMarks [op, op'] [b, c] = false := by with_unfolding_all rfl) : VT X W (.Compare a [op, op'] [b, c] pos) (tB1 (chn g g' fa fb fc)) := PT.imp (pt_chain k.o k'.o ha hb hc hm) fun σ H Q ⟨F, δ, s, h⟩ => by
  have h0 : Go W (pS X.K) F H (chn g g' fa fb fc δ) (fun x H' => ∃ k, x = .bl k ∧ Q k H') := Go.bndT h fun d v F1 H1 e g p h1 => by
    obtain ⟨b, rfl, q⟩ := asB_ok (P := pS X.K) h1
    exact ⟨b, rp_bl (Rp.b p), q⟩
  refine ⟨F, δ, s, Go.bnd pS_mon h0 fun dx x F1 H1 ex g1 px h1 => ?_⟩
  refine ⟨F1, δ, s.grow g1, Go.bnd pS_mon h1 fun dy y F2 H2 ey g2 py h2 => ?_⟩
  have s2 := (s.grow g1).grow g2
  refine k.g F2 H2 x y dx dy _ s2.dom (g2.rpB px) py (Go.bnd pS_mon h2 fun dz z F3 H3 ez g3 pz h3 => ?_)
  cases dz with
  | bool b =>
    have e : z = .bl b := rp_bl (Rp.b pz)
    refine ⟨b, e, ?_⟩
    cases b with
    | true =>
      rw [if_pos rfl]
      refine ⟨F3, δ, s2.grow g3, Go.bnd pS_mon h3 fun dw w F4 H4 ew g4 pw h4 => ?_⟩
      exact k'.g F4 H4 y w dy dw _ ((s2.grow g3).grow g4).dom (g4.rpB (g3.rpB py)) pw h4
    | false =>
      rw [if_neg Bool.false_ne_true]
      exact h3.val (.bl false)
  | _ => exact h3.elim

/-! ### and, or, not -/
def tAnd2 (f g : Dl → Re Bool) (δ : Dl) : Re Bool := (f δ).bnd fun b => if b = true then g δ else .ok false
def tOr2 (f g : Dl → Re Bool) (δ : Dl) : Re Bool := (f δ).bnd fun b => if b = true then .ok true else g δ
def tNot1 (f : Dl → Re Bool) (δ : Dl) : Re Bool := (f δ).bnd fun b => .ok (!b)
variable {f g : Dl → Re Bool} {rest : List Expr}
abbrev VW (X : Cx) (W : XW) (e : Expr) (f : Dl → Re Bool) : Prop := PW X e (tT X.K W f)
theorem PW.imp {e : Expr} {t t' : TT} (h : PW X e t) (w : ∀ σ H Q, t' σ H Q → t σ H Q) : PW X e t' := ⟨fun wh pins s σ H Q I q => h.run wh pins s σ H Q I (w _ _ _ q)⟩
theorem vw_and1 (h : VT X W a f) : VW X W (.BoolOp .And [a] pos) f := pw_and1 h
theorem vw_or1 (h : VT X W a f) : VW X W (.BoolOp .Or [a] pos) f := pw_or1 h
theorem vw_and (h : VT X W a f) (h' : VW X W (.BoolOp .And (b :: rest) pos) g) : VW X W (.BoolOp .And (a :: b :: rest) pos) (tAnd2 f g) := PW.imp (pw_and h h') fun σ H Q ⟨F, δ, s, q⟩ =>
  ⟨F, δ, s, GoT.bndT q fun c F1 H1 e g1 h1 => by
    cases c with
    | true => rw [if_pos rfl] at h1 ⊢; exact ⟨F1, δ, s.grow g1, h1⟩
    | false => rw [if_neg Bool.false_ne_true] at h1 ⊢; exact h1.at rfl Grow.refl⟩
theorem vw_or (h : VT X W a f) (h' : VW X W (.BoolOp .Or (b :: rest) pos) g) : VW X W (.BoolOp .Or (a :: b :: rest) pos) (tOr2 f g) := PW.imp (pw_or h h') fun σ H Q ⟨F, δ, s, q⟩ =>
  ⟨F, δ, s, GoT.bndT q fun c F1 H1 e g1 h1 => by
    cases c with
    | true => rw [if_pos rfl] at h1 ⊢; exact h1.at rfl Grow.refl
    | false => rw [if_neg Bool.false_ne_true] at h1 ⊢; exact ⟨F1, δ, s.grow g1, h1⟩⟩
theorem vt_w {e : Expr} (h : VW X W e f) : VT X W e f := h.pt
theorem vt_not (h : VT X W a f) : VT X W (.UnaryOp .Not a pos) (tNot1 f) := PT.imp (pt_not h) fun σ H Q ⟨F, δ, s, q⟩ =>
  ⟨F, δ, s, GoT.bndT q fun c F1 H1 e g1 h1 => h1.at rfl Grow.refl⟩
/-- .. as values -/
def dAnd (fa fb : Dl → Re D) (δ : Dl) : Re D := (fa δ).bnd fun x => (asB x).bnd fun b => if b = true then fb δ else .ok (.bool false)
def dOr (fa fb : Dl → Re D) (δ : Dl) : Re D := (fa δ).bnd fun x => (asB x).bnd fun b => if b = true then .ok (.bool true) else fb δ
def dNot : D → Re D := fun x => (asB x).bnd fun b => .ok (.bool (!b))
theorem ve_one {op : BoolOp} (h : VE X W a fa) : VE X W (.BoolOp op [a] pos) fa := pe_one h
theorem ve_and (h : VE X W a fa) (h' : VE X W (.BoolOp .And (b :: rest) pos) fb) : VE X W (.BoolOp .And (a :: b :: rest) pos) (dAnd fa fb) := PE.imp (pe_and h h') fun σ H Q ⟨F, δ, s, q⟩ =>
  ⟨F, δ, s, Go.bnd pS_mon q fun d v F1 H1 e g1 p h1 => by
    cases d with
    | bool c =>
      refine ⟨c, rp_bl (Rp.b p), ?_⟩
      cases c with
      | true => rw [if_pos rfl]; exact ⟨F1, δ, s.grow g1, h1⟩
      | false => rw [if_neg Bool.false_ne_true]; exact h1.val (.bl false)
    | _ => exact h1.elim⟩
theorem ve_or (h : VE X W a fa) (h' : VE X W (.BoolOp .Or (b :: rest) pos) fb) : VE X W (.BoolOp .Or (a :: b :: rest) pos) (dOr fa fb) := PE.imp (pe_or h h') fun σ H Q ⟨F, δ, s, q⟩ =>
  ⟨F, δ, s, Go.bnd pS_mon q fun d v F1 H1 e g1 p h1 => by
    cases d with
    | bool c =>
      refine ⟨c, rp_bl (Rp.b p), ?_⟩
      cases c with
      | true => rw [if_pos rfl]; exact h1.val (.bl true)
      | false => rw [if_neg Bool.false_ne_true]; exact ⟨F1, δ, s.grow g1, h1⟩
    | _ => exact h1.elim⟩
theorem ve_not (h : VE X W a fa) : VE X W (.UnaryOp .Not a pos) (d1 dNot fa) := PE.imp (pe_not h) fun σ H Q ⟨F, δ, s, q⟩ =>
  ⟨F, δ, s, Go.bnd pS_mon q fun d v F1 H1 e g1 p h1 => by
    cases d with
    | bool c => exact ⟨c, rp_bl (Rp.b p), h1.val (.bl _)⟩
    | _ => exact h1.elim⟩
/-- a if t else b -/
def dIf (f : Dl → Re Bool) (fa fb : Dl → Re D) (δ : Dl) : Re D := (f δ).bnd fun b => if b = true then fa δ else fb δ
theorem vp_if {c : Expr} (hP : PMon P) (hc : VT X W c f) (ha : VP X W P a fa) (hb : VP X W P b fb) : VP X W P (.IfExp c a b pos) (dIf f fa fb) := PE.imp (pe_ifExp hc ha hb) fun σ H Q ⟨F, δ, s, q⟩ =>
  ⟨F, δ, s, GoT.bnd hP q fun c F1 H1 e g1 h1 => by
    cases c with
    | true => rw [if_pos rfl] at h1 ⊢; exact ⟨F1, δ, s.grow g1, h1⟩
    | false => rw [if_neg Bool.false_ne_true] at h1 ⊢; exact ⟨F1, δ, s.grow g1, h1⟩⟩
end
end VS
end
section
namespace VS
open PySem L2

/-! ### keys -/
def keyOf : D → Option Key
  | .int i => some (.inl i)
  | .str x => some (.inr x)
  | _ => none
def keysOf : List D → Option (List Key)
  | [] => some []
  | d :: ds => match keyOf d, keysOf ds with
    | some k, some ks => some (k :: ks)
    | _, _ => none
/-- an int or a text: false; a flat tuple of such (not one of the module's own): true -/
def kindK : D → Option Bool
  | .int _ => some false
  | .str _ => some false
  | .tuple ks => if (keysOf ks).isSome = true ∧ esc ks = false then some true else none
  | _ => none
/-- the key goes with the dict's keys -/
def kfit (kvs : List (D × D)) (k : D) : Bool := match kvs with
  | [] => (kindK k).isSome
  | (j, _) :: _ => (kindK k).isSome && kindK j == kindK k
def lkD (kvs : List (D × D)) (k : D) : Option D := (kvs.find? fun p => PyData.eqv p.1 k).map (·.2)
theorem keyOf_kD {d : D} {k : Key} (h : keyOf d = some k) : d = kD k := by
  cases d <;> simp [keyOf] at h <;> subst h <;> rfl
theorem keyOf_kD' (k : Key) : keyOf (kD k) = some k := by cases k <;> rfl
theorem keysOf_map : ∀ {ds : List D} {ks : List Key}, keysOf ds = some ks → ds = ks.map kD
  | [], ks, h => by simp [keysOf] at h; subst h; rfl
  | d :: ds, ks, h => by
    unfold keysOf at h
    cases e1 : keyOf d with
    | none => rw [e1] at h; simp at h
    | some k =>
      cases e2 : keysOf ds with
      | none => rw [e1, e2] at h; simp at h
      | some ks' =>
        rw [e1, e2] at h
        simp at h
        subst h
        rw [keyOf_kD e1, keysOf_map e2]
        rfl
theorem keysOf_kD : ∀ (ks : List Key), keysOf (ks.map kD) = some ks
  | [] => rfl
  | k :: ks => by
    show keysOf (kD k :: ks.map kD) = _
    unfold keysOf
    rw [keyOf_kD', keysOf_kD ks]
theorem eqv_kD (j k : Key) : PyData.eqv (kD j) (kD k) = decide (j = k) := by
  cases j with
  | inl i =>
    cases k with
    | inl i' =>
      show PyData.eqv (.int i) (.int i') = _
      simp [PyData.eqv]
      rw [Bool.eq_iff_iff]
      simp
    | inr x =>
      show PyData.eqv (.int i) (.str x) = _
      simp [PyData.eqv]
  | inr y =>
    cases k with
    | inl i' =>
      show PyData.eqv (.str y) (.int i') = _
      simp [PyData.eqv]
    | inr x =>
      show PyData.eqv (.str y) (.str x) = _
      simp [PyData.eqv]
      rw [Bool.eq_iff_iff]
      simp
theorem eqvAll_kD : ∀ (js ks : List Key), PyData.eqvAll (js.map kD) (ks.map kD) = decide (js = ks)
  | [], [] => by simp [PyData.eqvAll]
  | [], _ :: _ => by simp [PyData.eqvAll]
  | _ :: _, [] => by simp [PyData.eqvAll]
  | j :: js, k :: ks => by
    simp only [List.map_cons, PyData.eqvAll, eqv_kD, eqvAll_kD js ks]
    rw [Bool.eq_iff_iff]
    simp
theorem eqv_tup (js ks : List Key) : PyData.eqv (.tuple (js.map kD)) (.tuple (ks.map kD)) = decide (js = ks) := by
  simp only [PyData.eqv, eqvAll_kD]

section
variable {K : PySem.W.Frag} {F : Addr → Prop} {H : Hp}
/-- an optional value stands for an optional datum -/
def OptR (K : PySem.W.Frag) (F : Addr → Prop) (H : Hp) : Option V → Option D → Prop
  | some v, some d => Rp K F H v d
  | none, none => True
  | _, _ => False
theorem lk_K : ∀ {m : List (Key × V)} {ds : List (D × D)} (k : Key), RpK K F H (m.map fun p => (kD p.1, p.2)) ds → OptR K F H (valV m k) (lkD ds (kD k))
  | [], ds, k, r => by
    cases r
    trivial
  | (j, v) :: m, ds, k, r => by
    cases r with
    | cons h t =>
      unfold lkD
      rw [List.find?_cons]
      dsimp only
      rw [eqv_kD]
      by_cases e : j = k
      · rw [valV_pos (p := (j, v)) e, decide_eq_true e]
        exact h
      · rw [valV_neg (p := (j, v)) e, decide_eq_false e]
        exact lk_K k t
theorem lk_T : ∀ {m : List (List Key × V)} {ds : List (D × D)} (k : List Key), RpK K F H (m.map fun p => (PyData.tuple (p.1.map kD), p.2)) ds → OptR K F H (valV m k) (lkD ds (.tuple (k.map kD)))
  | [], ds, k, r => by
    cases r
    trivial
  | (j, v) :: m, ds, k, r => by
    cases r with
    | cons h t =>
      unfold lkD
      rw [List.find?_cons]
      dsimp only
      rw [eqv_tup]
      by_cases e : j = k
      · rw [valV_pos (p := (j, v)) e, decide_eq_true e]
        exact h
      · rw [valV_neg (p := (j, v)) e, decide_eq_false e]
        exact lk_T k t
theorem kindK_tup (ks : List D) : kindK (.tuple ks) = if (keysOf ks).isSome = true ∧ esc ks = false then some true else none := rfl
/-- what stands for a key -/
theorem key_K {y : V} {d : D} (r : Rp K F H y d) (h : kindK d = some false) : ∃ k, y = kV k ∧ d = kD k := by
  cases r with
  | int i => exact ⟨.inl i, rfl, rfl⟩
  | str x => exact ⟨.inr x, rfl, rfl⟩
  | tup _ _ => simp [kindK] at h
  | _ => simp [kindK] at h
theorem rpA_kV : ∀ {xs : List V} {ks : List Key}, RpA K F H xs (ks.map kD) → xs = ks.map kV
  | _, [], r => by cases r; rfl
  | _, .inl i :: ks, r => by
    cases r with
    | cons h t =>
      have h' : Rp K F H _ (.int i) := h
      cases h'
      rw [rpA_kV t]
      rfl
  | _, .inr x :: ks, r => by
    cases r with
    | cons h t =>
      have h' : Rp K F H _ (.str x) := h
      cases h'
      rw [rpA_kV t]
      rfl
theorem rpA_ofK : ∀ (ks : List Key), RpA K F H (ks.map kV) (ks.map kD)
  | [] => .nil
  | .inl i :: ks => .cons (.int i) (rpA_ofK ks)
  | .inr x :: ks => .cons (.str x) (rpA_ofK ks)
theorem key_T {y : V} {d : D} (r : Rp K F H y d) (h : kindK d = some true) : ∃ (a : Addr) (ks : List Key), y = .ref a ∧ H a = some (.tup (ks.map kV)) ∧ d = .tuple (ks.map kD) := by
  cases r with
  | @tup a xs ds t ra =>
    rw [kindK_tup] at h
    split at h
    · rename_i c
      obtain ⟨c1, c2⟩ := c
      obtain ⟨ks, e⟩ := Option.isSome_iff_exists.mp c1
      have em := keysOf_map e
      subst em
      rcases t with t | t
      · exact ⟨a, ks, rfl, by rw [t, rpA_kV ra], rfl⟩
      · rw [c2] at t; exact absurd t.1 Bool.false_ne_true
    · cases h
  | _ => simp [kindK] at h
theorem kindK_K (k : Key) : kindK (kD k) = some false := by cases k <;> rfl
/-- an empty dict, asked by a key of the other sort -/
def Mism (H : Hp) (a : Addr) (y : V) : Prop := (Rd H a (.dT []) ∧ ∃ k : Key, y = kV k) ∨ (Rd H a (.dK []) ∧ ∃ (b : Addr) (ks : List Key), y = .ref b ∧ H b = some (.tup (ks.map kV)))
theorem kfit_kind {ds : List (D × D)} {k : D} (hf : kfit ds k = true) : ∃ b, kindK k = some b := by
  unfold kfit at hf
  split at hf
  · exact Option.isSome_iff_exists.mp hf
  · rw [Bool.and_eq_true] at hf
    exact Option.isSome_iff_exists.mp hf.1
theorem kindK_notF (ks : List D) : kindK (.tuple ks) ≠ some false := by
  rw [kindK_tup]
  split <;> simp
/-- the look-up by the hand layer -/
theorem dget_of {a : Addr} {kvs : List (D × V)} {ds : List (D × D)} {y : V} {k : D} (hd : DRd H a kvs) (rk : RpK K F H kvs ds) (ry : Rp K F H y k) (hf : kfit ds k = true) :
    (∃ o, DGet H a y o ∧ OptR K F H o (lkD ds k)) ∨ (ds = [] ∧ Mism H a y) := by
  obtain ⟨b, hb⟩ := kfit_kind hf
  rcases hd with ⟨m, hr, rfl⟩ | ⟨m, hr, rfl⟩
  · cases b with
    | false =>
      obtain ⟨k', rfl, rfl⟩ := key_K ry hb
      exact .inl ⟨_, .inl ⟨m, k', hr, rfl, rfl⟩, lk_K k' rk⟩
    | true =>
      right
      cases m with
      | nil =>
        cases rk
        obtain ⟨c, ks, e, hc, _⟩ := key_T ry hb
        exact ⟨rfl, .inr ⟨hr, c, ks, e, hc⟩⟩
      | cons p m =>
        exfalso
        cases rk with
        | cons h t =>
          unfold kfit at hf
          rw [Bool.and_eq_true, hb, kindK_K] at hf
          exact absurd hf.2 (by decide)
  · cases b with
    | true =>
      obtain ⟨c, ks, rfl, hc, rfl⟩ := key_T ry hb
      exact .inl ⟨_, .inr ⟨m, ks, c, hr, rfl, hc, rfl⟩, lk_T ks rk⟩
    | false =>
      right
      cases m with
      | nil =>
        cases rk
        obtain ⟨k', e, _⟩ := key_K ry hb
        exact ⟨rfl, .inl ⟨hr, k', e⟩⟩
      | cons p m =>
        exfalso
        cases rk with
        | cons h t =>
          unfold kfit at hf
          rw [Bool.and_eq_true, hb] at hf
          exact kindK_notF _ (eq_of_beq hf.2)
end

/-! ### a[i] -/
def ixD : D → D → Re D
  | .list xs, .int i => ofO (atI xs i)
  | .tuple xs, .int i => ofO (atI xs i)
  | .str z, .int i => if z.length ≤ sizeLine then (match atI z.cps.toList i with | some c => .ok (.str ⟨#[c]⟩) | none => .no) else .no
  | .dict kvs, k => if kfit kvs k = true then ofO (lkD kvs k) else .no
  | _, _ => .no
def rIxDict : R2 := fun x y H Q => ∃ a v, x = .ref a ∧ DGet H a y (some v) ∧ Q v H
def rIxAll (K : PySem.W.Frag) : R2 := fun x y H Q => rIx K x y H Q ∨ rIxDict x y H Q
section
variable {X : Cx} {W : XW} {P : PP} {a b : Expr} {pos : Pos} {fa fb : Dl → Re D}
theorem ix_dict (hu : X.A.units + 1 < cLine) : IxR X rIxDict := by
  intro value slice pins s σ H x y v u Q I rx ry ⟨a, w, ex, g, q⟩ hs
  subst ex
  cases rx
  exact PyProof.Rows.tail_any (dict_typeIs I g) PySem.F.slot_dict_getitem.lookup (d_getItem hu I g ry fun w' s' I' r' => ⟨w, H, I', r', q⟩) hs
theorem ix_all (hu : X.A.units + 1 < cLine) : IxR X (rIxAll X.K) := ix_seq.or (ix_dict hu)
theorem at_rp {K : PySem.W.Frag} {F : Addr → Prop} {H : Hp} {vs : List V} {ds : List D} {i : Int} {d : D} (r : RpA K F H vs ds) (h : atI ds i = some d) : ∃ v, atI vs i = some v ∧ Rp K F H v d := by
  unfold atI at h ⊢
  rw [r.length]
  cases e : ixN ds.length i with
  | none => rw [e] at h; cases h
  | some j =>
    rw [e] at h
    obtain ⟨v, ev, rv⟩ := r.get (show ds[j]? = some d from h)
    exact ⟨v, ev, rv⟩
theorem og_ix : OpGG X W (pS X.K) RpB Rp (rIxAll X.K) ixD := by
  intro F H x y dx dy Q dm rx ry h
  unfold ixD at h
  split at h
  · rename_i xs i
    obtain ⟨a, vs, rfl, hr, ra⟩ := rx
    cases e : atI xs i with
    | none => rw [e] at h; exact h.elim
    | some d =>
      rw [e] at h
      obtain ⟨v, ev, rv⟩ := at_rp ra e
      exact .inl (.inl ⟨a, vs, i, v, rfl, rp_int (Rp.b ry), sqL_rd hr, ev, Go.val h rv⟩)
  · rename_i xs i
    obtain ⟨a, vs, rfl, hr, ra⟩ := rx
    cases e : atI xs i with
    | none => rw [e] at h; exact h.elim
    | some d =>
      rw [e] at h
      obtain ⟨v, ev, rv⟩ := at_rp ra e
      exact .inl (.inr (.inl ⟨a, vs, i, v, rfl, rp_int (Rp.b ry), hr, ev, Go.val h rv⟩))
  · rename_i z i
    split at h
    · rename_i hz
      split at h
      · rename_i c ec
        exact .inl (.inr (.inr ⟨z, i, c, rp_str rx, rp_int (Rp.b ry), hz, ec, h.val (.str _)⟩))
      · exact h.elim
    · exact h.elim
  · rename_i kvs
    split at h
    · rename_i hf
      obtain ⟨a, m, rfl, hd, rk⟩ := rx
      rcases dget_of hd rk ry hf with ⟨o, g, ro⟩ | e
      · cases e : lkD kvs dy with
        | none => rw [e] at h; exact h.elim
        | some d =>
          rw [e] at h ro
          cases o with
          | none => exact ro.elim
          | some v => exact .inr ⟨a, v, rfl, g, Go.val h ro⟩
      · rw [e.1] at h
        exact h.elim
    · exact h.elim
  · exact h.elim
theorem ve_ix (hu : X.A.units + 1 < cLine) (ha : VB X W a fa) (hb : VE X W b fb) (hs : PlainIx b) : VE X W (.Subscript a b pos) (d2 ixD fa fb) := PE.imp (pe_ix (ix_all hu) ha hb hs) (t_opG pS_mon kB og_ix)
end

/-! ### lists of arguments -/
def argsF : List (Dl → Re D) → Dl → Re (List D)
  | [], _ => .ok []
  | f :: fs, δ => (f δ).bnd fun d => (argsF fs δ).bnd fun ds => .ok (d :: ds)
inductive RA (R : Rel) (K : PySem.W.Frag) (F : Addr → Prop) (H : Hp) : List V → List D → Prop
  | nil : RA R K F H [] []
  | cons {v vs d ds} : R K F H v d → RA R K F H vs ds → RA R K F H (v :: vs) (d :: ds)
theorem RA.a {K : PySem.W.Frag} {F : Addr → Prop} {H : Hp} : ∀ {vs : List V} {ds : List D}, RA Rp K F H vs ds → RpA K F H vs ds
  | _, _, .nil => .nil
  | _, _, .cons h t => .cons h t.a
/-- the wish behind a list of arguments -/
def GoA (W : XW) (R : Rel) (K : PySem.W.Frag) (F : Addr → Prop) (H : Hp) (r : Re (List D)) (Q : List V → Hp → Prop) : Prop := ReW W F H r fun ds => ∀ vs F' H', Grow F H F' H' → RA R K F' H' vs ds → Q vs H'
def tAs (K : PySem.W.Frag) (W : XW) (R : Rel) (f : Dl → Re (List D)) : TA := fun σ H Q => ∃ F δ, SokE K F H σ δ ∧ GoA W R K F H (f δ) Q
abbrev VA (X : Cx) (W : XW) (R : Rel) (es : List Expr) (f : Dl → Re (List D)) : Prop := PA X es (tAs X.K W R f)
section
variable {X : Cx} {W : XW} {P : PP} {R : Rel} {e : Expr} {es : List Expr} {pos : Pos} {f : Dl → Re D} {fs : List (Dl → Re D)}
theorem va_nil : VA X W R [] (argsF []) := PA.imp pa_nil fun σ H Q ⟨F, δ, s, h⟩ => h [] F H Grow.refl .nil
theorem va_cons (kR : RKeep R) (h : VP X W (pp X.K R) e f) (hr : VA X W R es (argsF fs)) (hs : starEach (e :: es) X.env = (false, eval e X.env) :: starEach es X.env := by rfl) : VA X W R (e :: es) (argsF (f :: fs)) :=
  PA.imp (pa_cons h hr hs) fun σ H Q ⟨F, δ, s, q⟩ => by
    refine ⟨F, δ, s, ?_⟩
    change GoA W R X.K F H ((f δ).bnd fun d => (argsF fs δ).bnd fun ds => .ok (d :: ds)) Q at q
    cases ef : f δ with
    | no => rw [ef] at q; exact q
    | ex x => rw [ef] at q; exact q
    | ok d =>
      rw [ef] at q
      intro v F1 H1 g1 rv
      refine ⟨F1, δ, s.grow g1, ?_⟩
      change GoA W R X.K F H ((argsF fs δ).bnd fun ds => .ok (d :: ds)) Q at q
      cases eg : argsF fs δ with
      | no => rw [eg] at q; exact q
      | ex x => rw [eg] at q; exact fun F2 H2 g2 => q F2 H2 (g1.trans g2)
      | ok ds =>
        rw [eg] at q
        intro vs F2 H2 g2 ra
        exact q (v :: vs) F2 H2 (g1.trans g2) (.cons (kR.k g2 rv) ra)
/-- what follows a list of arguments -/
theorem GoA.bnd {F : Addr → Prop} {H : Hp} {ra : Re (List D)} {k : List D → Re D} {Q : VK} {Q' : List V → Hp → Prop} (hp : PMon P) (h : Go W P F H (ra.bnd k) Q)
    (q : ∀ ds vs F1 H1, ra = .ok ds → Grow F H F1 H1 → RA R X.K F1 H1 vs ds → Go W P F1 H1 (k ds) Q → Q' vs H1) : GoA W R X.K F H ra Q' := by
  cases ra with
  | ok d => exact fun v F1 H1 g p => q d v F1 H1 rfl g p (Go.grow hp h g)
  | ex x => exact h
  | no => exact h

/-! ### displays -/
def tupD (ds : List D) : Re D := if ds.length ≤ sizeLine then .ok (.tuple ds) else .no
def lstD (ds : List D) : Re D := if ds.length ≤ sizeLine then .ok (.list ds) else .no
def dA (fs : Dl → Re (List D)) (g : List D → Re D) (δ : Dl) : Re D := (fs δ).bnd g
theorem ve_tup {x1} {fs : Dl → Re (List D)} (h : VA X W Rp es fs) : VE X W (.Tuple es x1 pos) (dA fs tupD) := PE.imp (pe_tup h) fun σ H Q ⟨F, δ, s, q⟩ =>
  ⟨F, δ, s, GoA.bnd (X := X) pS_mon q fun ds vs F1 H1 e g r h1 => by
    unfold tupD at h1
    split at h1
    · rename_i hz
      exact ⟨by rw [r.a.length]; exact hz, fun p hn => h1.newT hn r.a⟩
    · exact h1.elim⟩
theorem vp_lst {fs : Dl → Re (List D)} (hP : PNew X.K P) (h : VA X W Rp es fs) : VP X W P (.List es pos) (dA fs lstD) := PE.imp (pe_lst h) fun σ H Q ⟨F, δ, s, q⟩ =>
  ⟨F, δ, s, GoA.bnd (X := X) hP.toPMon q fun ds vs F1 H1 e g r h1 => by
    unfold lstD at h1
    split at h1
    · rename_i hz
      exact ⟨by rw [r.a.length]; exact hz, fun p hn => h1.newL hP (g.dom s.dom) hn r.a⟩
    · exact h1.elim⟩
theorem vp_dict (hP : PNew X.K P) : VP X W P (.Dict [] [] pos) (kC (.dict [])) := PE.imp pe_dnewK fun σ H Q ⟨F, δ, s, q⟩ p hn => by
  obtain ⟨F', g, pp⟩ := hP.dK (m := []) s.dom hn .nil
  exact q _ _ _ g pp

/-! ### calls of builtins -/
/-- a builtin by values: what it must give -/
def CallG (X : Cx) (W : XW) (P : PP) (R : Rel) (r : List V → Hp → VK → Prop) (g : List D → Re D) : Prop :=
  ∀ (F : Addr → Prop) (H : Hp) (vs : List V) (ds : List D) (Q : VK), Dom F H → RA R X.K F H vs ds → Go W P F H (g ds) Q → r vs H Q
theorem t_call {r : List V → Hp → VK → Prop} {g : List D → Re D} {fs : Dl → Re (List D)} (hp : PMon P) (hg : CallG X W P R r g) (σ : L2.St) (H : Hp) (Q : VK) (h : tP X.K W P (dA fs g) σ H Q) : tCB r (tAs X.K W R fs) σ H Q := by
  obtain ⟨F, δ, s, q⟩ := h
  exact ⟨F, δ, s, GoA.bnd (X := X) hp q fun ds vs F1 H1 e g1 r1 h1 => hg F1 H1 vs ds Q (g1.dom s.dom) r1 h1⟩
end
end VS
end
section
namespace VS
open PySem L2

/-! ### isinstance -/
inductive Ty where
  | tInt | tBool | tStr | tTuple | tList | tDict
def Ty.nm : Ty → String
  | .tInt => "int" | .tBool => "bool" | .tStr => "str" | .tTuple => "tuple" | .tList => "list" | .tDict => "dict"
def tyN : D → String
  | .none => "NoneType" | .bool _ => "bool" | .int _ => "int" | .str _ => "str" | .tuple _ => "tuple" | .list _ => "list" | .dict _ => "dict"
def isT : Ty → D → Bool
  | .tInt, .int _ => true
  | .tInt, .bool _ => true
  | .tBool, .bool _ => true
  | .tStr, .str _ => true
  | .tTuple, .tuple _ => true
  | .tList, .list _ => true
  | .tDict, .dict _ => true
  | _, _ => false
def isiD (T : Ty) (d : D) : Re D := .ok (.bool (isT T d))
theorem kitB_all : (["NoneType", "bool", "int", "str", "tuple", "list", "dict"].map fun a => ["int", "bool", "str", "tuple", "list", "dict"].map fun b => kitB a b) =
    [[some false, some false, some false, some false, some false, some false], [some true, some true, some false, some false, some false, some false], [some true, some false, some false, some false, some false, some false],
     [some false, some false, some true, some false, some false, some false], [some false, some false, some false, some true, some false, some false], [some false, some false, some false, some false, some true, some false],
     [some false, some false, some false, some false, some false, some true]] := by decide +kernel
theorem kitB_isT (T : Ty) (d : D) : kitB (tyN d) T.nm = some (isT T d) := by
  have h := kitB_all
  simp only [List.map_cons, List.map_nil, List.cons.injEq, and_true] at h
  cases T <;> cases d <;> simp only [tyN, Ty.nm, isT, h]
section
variable {X : Cx} {pins : List (Addr × Obj)} {σ : L2.St} {H : Hp} {s : Shared} {F : Addr → Prop}
theorem kit_rp {v : V} {u : Value} {d : D} (I : Inv X pins σ H s) (r : RelV v u) (rp : RpB X.K F H v d) : ∃ P : Heap → Prop, PySem.W.KitX X.K u (.type (tyN d)) P ∧ P s.heap ∧ u ≠ .builtin "__main__.__loader__#opaque" := by
  cases d with
  | none => rw [rp_non rp] at r; exact kit_of I r (.base .non)
  | bool b => rw [rp_bl rp] at r; exact kit_of I r (.base (.bl b))
  | int i => rw [rp_int rp] at r; exact kit_of I r (.base (.int i))
  | str x => rw [rp_str rp] at r; exact kit_of I r (.base (.str x))
  | list ds =>
    obtain ⟨a, xs, rfl, h, _⟩ := rp
    rcases h with h | ⟨o, h⟩
    · exact kit_of I r (.base (.lst h))
    · exact kit_of I r (.base (.frz h))
  | tuple ds =>
    obtain ⟨a, xs, rfl, h, _⟩ := rp
    rcases h with (h | ⟨o, h⟩) | ⟨o, _, _, hk, hc, _⟩
    · exact kit_of I r (.base (.tup h))
    · exact kit_of I r (.fTuple h)
    · exact kit_of I r (.kTuple hk hc)
  | dict ds =>
    obtain ⟨a, kvs, rfl, h, _⟩ := rp
    rcases h with ⟨m, h | ⟨o, h⟩, _⟩ | ⟨m, h | ⟨o, h⟩, _⟩
    · exact kit_of I r (.base (.dK h))
    · exact kit_of I r (.fDict h)
    · exact kit_of I r (.base (.dT h))
    · cases (show u = Value.ref a from r)
      obtain ⟨_, _, xs, _, o', es, ep, h1, h2, _⟩ := (show ObjOk X.prog X.w H s.heap a (.frz o (.dT m)) from I.hok a _ h).2
      exact ⟨_, PySem.W.kitx_dict, ⟨o', h1, h2.1⟩, fun z => nomatch z⟩
end
section
variable {X : Cx} {W : XW} {P : PP} {e : Expr} {pos p p2 : Pos} {f : Dl → Re D}
/-- isinstance by a value and a type -/
theorem call_isi1 {T : Ty} : CallR X (.builtin "isinstance") (fun vs H Q => ∃ (F : Addr → Prop) (v : V) (d : D), vs = [v, .ty T.nm] ∧ RpB X.K F H v d ∧ Q (.bl (isT T d)) H) := by
  intro pins s σ H xs us Q I r ⟨F, v, d, e, rp, q⟩
  subst e
  obtain ⟨u1, u2, rfl, r1, r2⟩ := vals2 r
  cases (show u2 = Value.type T.nm from r2)
  obtain ⟨P, Z, hp, hx⟩ := kit_rp I r1 rp
  exact PySem.W.kia_one Z I.kIn hp (kit_ty (kitB_isT T d)) hx fun tk => ⟨.bl _, H, I.tok tk, rfl, q⟩
theorem ve_isi (T : Ty) {x : Str} (he : VB X W e f) (hg : Gl X "isinstance") (hm : X.mg "isinstance" = none) (hg2 : Gl X x) (hm2 : X.mg x = none) (hv2 : bootBuiltins x = some (.type T.nm))
    (hn : x ≠ "__name__" := by decide) (hd : (x == ("__debug__" : Str)) = false := by decide)
    (hs : starEach [e, .Name x p2] X.env = (false, eval e X.env) :: starEach [.Name x p2] X.env := by rfl) (hs2 : starEach [.Name x p2] X.env = (false, eval (.Name x p2) X.env) :: starEach [] X.env := by rfl)
    (hpl : (backTo pos (starEach [.Name x p2] X.env)).any (·.1) = false := by rfl) : VE X W (.Call (.Name "isinstance" p) [e, .Name x p2] [] pos) (d1 (isiD T) f) :=
  PE.imp (pe_callB (call_isi1 (T := T)) hg hm (by decide +kernel) (pa_cons he (pa_cons (pe_bltn (v := .ty T.nm) hg2 hm2 hv2 rfl hn hd) pa_nil hs2) hs) (by decide) (by decide) hs hpl) fun σ H Q ⟨F, δ, s, h⟩ =>
    ⟨F, δ, s, Go.bnd pS_mon h fun d v F1 H1 e g p h1 => ⟨F1, v, d, rfl, p, h1.val (.bl _)⟩⟩
end

/-! ### len -/
def lenD : List D → Re D
  | [.list xs] => .ok (.int xs.length)
  | [.tuple xs] => .ok (.int xs.length)
  | [.dict xs] => .ok (.int xs.length)
  | [.str x] => if x.length ≤ sizeLine then .ok (.int x.length) else .no
  | _ => .no
theorem rpK_len {K : PySem.W.Frag} {F : Addr → Prop} {H : Hp} : ∀ {kvs : List (D × V)} {ds : List (D × D)}, RpK K F H kvs ds → kvs.length = ds.length
  | _, _, .nil => rfl
  | _, _, .cons _ t => congrArg (· + 1) (rpK_len t)
def rLenDR : List V → Hp → VK → Prop := fun xs H Q => ∃ (a : Addr) (kvs : List (D × V)), xs = [.ref a] ∧ DRd H a kvs ∧ Q (.int kvs.length) H
def rLenAll (K : PySem.W.Frag) : List V → Hp → VK → Prop := fun xs H Q => (∃ x n, xs = [x] ∧ LenV K x H n ∧ Q (.int n) H) ∨ rLenDR xs H Q
section
variable {X : Cx} {W : XW} {P : PP} {e : Expr} {es : List Expr} {pos p p2 : Pos} {f : Dl → Re D} {fs : Dl → Re (List D)} {R : Rel}
theorem call_lenDR : CallR X (.builtin "len") rLenDR := by
  intro pins s σ H xs us Q I r ⟨a, kvs, e, hd, q⟩
  subst e
  obtain ⟨u, rfl, ru⟩ := vals1 r
  cases ru
  rcases hd with ⟨m, hr, rfl⟩ | ⟨m, hr, rfl⟩
  · refine d_len I hr fun t s' I' => ⟨.int m.length, H, I', ⟨t, rfl⟩, ?_⟩
    rw [List.length_map] at q
    exact q
  · obtain ⟨z, hs, ys, rel, dd⟩ := dt_rd I.hok hr
    have hl : m.length = ys.length := Paired.length rel
    refine call_len_dictH hs dd (by rw [← hl]; rw [sizeLine_eq] at z; omega) ?_
    rw [← hl]
    rw [List.length_map] at q
    exact ⟨.int m.length, H, I.tok _, ⟨_, rfl⟩, q⟩
theorem call_lenAll : CallR X (.builtin "len") (rLenAll X.K) := CallR.or call_len call_lenDR
theorem ra1 {K : PySem.W.Frag} {F : Addr → Prop} {H : Hp} {vs : List V} {d : D} (r : RA R K F H vs [d]) : ∃ v, vs = [v] ∧ R K F H v d := by
  cases r with
  | cons h t => cases t; exact ⟨_, rfl, h⟩
theorem ra2 {K : PySem.W.Frag} {F : Addr → Prop} {H : Hp} {vs : List V} {d e : D} (r : RA R K F H vs [d, e]) : ∃ v w, vs = [v, w] ∧ R K F H v d ∧ R K F H w e := by
  cases r with
  | cons h t =>
    obtain ⟨w, rfl, hw⟩ := ra1 t
    exact ⟨_, w, rfl, h, hw⟩
theorem cg_len : CallG X W (pS X.K) RpB (rLenAll X.K) lenD := by
  intro F H vs ds Q dm r h
  unfold lenD at h
  split at h
  · obtain ⟨v, rfl, a, xs, rfl, hr, ra⟩ := ra1 r
    refine .inl ⟨_, _, rfl, .inl ⟨xs, sqL_rd hr, rfl⟩, ?_⟩
    rw [ra.length]
    exact h.val (.int _)
  · obtain ⟨v, rfl, a, xs, rfl, hr, ra⟩ := ra1 r
    refine .inl ⟨_, _, rfl, .inr ⟨xs, hr, rfl⟩, ?_⟩
    rw [ra.length]
    exact h.val (.int _)
  · obtain ⟨v, rfl, a, xs, rfl, hr, ra⟩ := ra1 r
    refine .inr ⟨a, xs, rfl, hr, ?_⟩
    rw [rpK_len ra]
    exact h.val (.int _)
  · split at h
    · rename_i hz
      obtain ⟨v, rfl, rv⟩ := ra1 r
      rw [rp_str rv]
      exact .inl ⟨_, _, rfl, ⟨hz, rfl⟩, h.val (.int _)⟩
    · exact h.elim
  · exact h.elim
/-- the call of a builtin function, by a rule -/
theorem vp_callB {id : String} {x : Str} {r : List V → Hp → VK → Prop} {g : List D → Re D} (hp : PMon P) (hc : CallR X (.builtin id) r) (hgv : CallG X W P R r g) (hg : Gl X x) (hm : X.mg x = none) (hv : bootBuiltins x = some (.builtin id)) (ha : VA X W R (e :: es) fs)
    (hn : x ≠ "__name__" := by decide) (hdb : (x == ("__debug__" : Str)) = false := by decide) (he : starEach (e :: es) X.env = (false, eval e X.env) :: starEach es X.env := by rfl) (hpl : (backTo pos (starEach es X.env)).any (·.1) = false := by rfl) :
    VP X W P (.Call (.Name x p) (e :: es) [] pos) (dA fs g) := PE.imp (pe_callB hc hg hm hv ha hn hdb he hpl) (t_call hp hgv)
theorem vp_callTy {T : String} {x : Str} {r : List V → Hp → VK → Prop} {g : List D → Re D} (hp : PMon P) (hc : CallR X (.type T) r) (hgv : CallG X W P R r g) (hg : Gl X x) (hm : X.mg x = none) (hv : bootBuiltins x = some (.type T)) (ha : VA X W R (e :: es) fs)
    (hn : x ≠ "__name__" := by decide) (hdb : (x == ("__debug__" : Str)) = false := by decide) (he : starEach (e :: es) X.env = (false, eval e X.env) :: starEach es X.env := by rfl) (hpl : (backTo pos (starEach es X.env)).any (·.1) = false := by rfl) :
    VP X W P (.Call (.Name x p) (e :: es) [] pos) (dA fs g) := PE.imp (pe_callTy hc hg hm hv ha hn hdb he hpl) (t_call hp hgv)
end

/-! ### any, all -/
def blsOf : List D → Option (List Bool)
  | [] => some []
  | .bool b :: r => (blsOf r).map (b :: ·)
  | _ :: _ => none
theorem blsOf_map : ∀ {ds : List D} {bs : List Bool}, blsOf ds = some bs → ds = bs.map PyData.bool
  | [], _, h => by simp [blsOf] at h; subst h; rfl
  | .bool b :: r, bs, h => by
    unfold blsOf at h
    cases e : blsOf r with
    | none => rw [e] at h; simp at h
    | some cs => rw [e] at h; simp at h; subst h; rw [blsOf_map e]; rfl
  | .none :: _, _, h => by simp [blsOf] at h
  | .int _ :: _, _, h => by simp [blsOf] at h
  | .str _ :: _, _, h => by simp [blsOf] at h
  | .list _ :: _, _, h => by simp [blsOf] at h
  | .tuple _ :: _, _, h => by simp [blsOf] at h
  | .dict _ :: _, _, h => by simp [blsOf] at h
@[simp] theorem blsOf_bools : ∀ bs : List Bool, blsOf (bs.map PyData.bool) = some bs
  | [] => rfl
  | b :: bs => by simp [blsOf, blsOf_bools bs]
@[simp] theorem blsOf_fn {α : Type} (f : α → Bool) : ∀ xs : List α, blsOf (xs.map fun x => PyData.bool (f x)) = some (xs.map f)
  | [] => rfl
  | x :: xs => by simp [blsOf, blsOf_fn f xs]
def anyD : List D → Re D
  | [.list xs] => (ofO (blsOf xs)).bnd fun bs => .ok (.bool (bs.any id))
  | _ => .no
def allD : List D → Re D
  | [.list xs] => (ofO (blsOf xs)).bnd fun bs => .ok (.bool (bs.all id))
  | _ => .no
/-! ### ints of a list -/
def intsOf : List D → Option (List Int)
  | [] => some []
  | .int b :: r => (intsOf r).map (b :: ·)
  | _ :: _ => none
theorem intsOf_map : ∀ {ds : List D} {bs : List Int}, intsOf ds = some bs → ds = bs.map PyData.int
  | [], _, h => by simp [intsOf] at h; subst h; rfl
  | .int b :: r, bs, h => by
    unfold intsOf at h
    cases e : intsOf r with
    | none => rw [e] at h; simp at h
    | some cs => rw [e] at h; simp at h; subst h; rw [intsOf_map e]; rfl
  | .none :: _, _, h => by simp [intsOf] at h
  | .bool _ :: _, _, h => by simp [intsOf] at h
  | .str _ :: _, _, h => by simp [intsOf] at h
  | .list _ :: _, _, h => by simp [intsOf] at h
  | .tuple _ :: _, _, h => by simp [intsOf] at h
  | .dict _ :: _, _, h => by simp [intsOf] at h
@[simp] theorem intsOf_ints : ∀ bs : List Int, intsOf (bs.map PyData.int) = some bs
  | [] => rfl
  | b :: bs => by simp [intsOf, intsOf_ints bs]
@[simp] theorem intsOf_fn {α : Type} (f : α → Int) : ∀ xs : List α, intsOf (xs.map fun x => PyData.int (f x)) = some (xs.map f)
  | [] => rfl
  | x :: xs => by simp [intsOf, intsOf_fn f xs]
def sumD : List D → Re D
  | [.list xs] => (ofO (intsOf xs)).bnd fun bs => .ok (.int bs.sum)
  | _ => .no
def absD : List D → Re D
  | [.int i] => .ok (.int (if i < 0 then -i else i))
  | _ => .no
def intD : List D → Re D
  | [.int i] => .ok (.int i)
  | [.bool k] => .ok (.int (if k then 1 else 0))
  | _ => .no
section
variable {X : Cx} {W : XW} {P : PP} {e : Expr} {es : List Expr} {pos p p2 : Pos} {f : Dl → Re D} {fs : Dl → Re (List D)}
theorem cg_any : CallG X W (pS X.K) RpB (rAny X.K) anyD := by
  intro F H vs ds Q dm r h
  unfold anyD at h
  split at h
  · rename_i xs
    obtain ⟨v, rfl, a, ws, rfl, hr, ra⟩ := ra1 r
    cases e : blsOf xs with
    | none => rw [e] at h; exact h.elim
    | some bs =>
      rw [e] at h
      rw [blsOf_map e] at ra
      refine ⟨a, bs, rfl, ?_, Go.val h (.bl _)⟩
      rw [← ra.bools]; exact sqL_rd hr
  · exact h.elim
theorem cg_all : CallG X W (pS X.K) RpB (rAll X.K) allD := by
  intro F H vs ds Q dm r h
  unfold allD at h
  split at h
  · rename_i xs
    obtain ⟨v, rfl, a, ws, rfl, hr, ra⟩ := ra1 r
    cases e : blsOf xs with
    | none => rw [e] at h; exact h.elim
    | some bs =>
      rw [e] at h
      rw [blsOf_map e] at ra
      refine ⟨a, bs, rfl, ?_, Go.val h (.bl _)⟩
      rw [← ra.bools]; exact sqL_rd hr
  · exact h.elim
theorem cg_sum : CallG X W (pS X.K) RpB (rSum X.K) sumD := by
  intro F H vs ds Q dm r h
  unfold sumD at h
  split at h
  · rename_i xs
    obtain ⟨v, rfl, a, ws, rfl, hr, ra⟩ := ra1 r
    cases e : intsOf xs with
    | none => rw [e] at h; exact h.elim
    | some bs =>
      rw [e] at h
      rw [intsOf_map e] at ra
      refine ⟨a, bs, rfl, ?_, Go.val h (.int _)⟩
      rw [← ra.ints]; exact sqL_rd hr
  · exact h.elim
theorem cg_abs : CallG X W (pS X.K) RpB (fun xs H Q => ∃ i, xs = [.int i] ∧ Q (.int (if i < 0 then -i else i)) H) absD := by
  intro F H vs ds Q dm r h
  unfold absD at h
  split at h
  · obtain ⟨v, rfl, rv⟩ := ra1 r
    rw [rp_int rv]
    exact ⟨_, rfl, h.val (.int _)⟩
  · exact h.elim
theorem cg_int : CallG X W (pS X.K) RpB (fun xs H Q => (∃ i, xs = [.int i] ∧ Q (.int i) H) ∨ ∃ k, xs = [.bl k] ∧ Q (.int (if k then 1 else 0)) H) intD := by
  intro F H vs ds Q dm r h
  unfold intD at h
  split at h
  · obtain ⟨v, rfl, rv⟩ := ra1 r
    rw [rp_int rv]
    exact .inl ⟨_, rfl, h.val (.int _)⟩
  · obtain ⟨v, rfl, rv⟩ := ra1 r
    rw [rp_bl rv]
    exact .inr ⟨_, rfl, h.val (.int _)⟩
  · exact h.elim
end

/-! ### max, min of two ints; of a list or tuple of data -/
def max2D : List D → Re D
  | [.int i, .int j] => .ok (.int (if j > i then j else i))
  | _ => .no
def min2D : List D → Re D
  | [.int i, .int j] => .ok (.int (if j < i then j else i))
  | _ => .no
def okMM (ds : List D) : Bool := (ds.all fun x => ds.all fun y => PySem.W.alike x y) && ds.all (fun x => !isN x) && ds.all (dn 60)
def minS (ds : List D) : Re D := match ds with
  | [] => .no
  | x :: xs => if okMM (x :: xs) = true then .ok (PySem.W.minD x xs) else .no
def maxS (ds : List D) : Re D := match ds with
  | [] => .no
  | x :: xs => if okMM (x :: xs) = true then .ok (PySem.W.maxD x xs) else .no
def minL : List D → Re D
  | [.list ds] => minS ds
  | [.tuple ds] => minS ds
  | _ => .no
def maxL : List D → Re D
  | [.list ds] => maxS ds
  | [.tuple ds] => maxS ds
  | _ => .no
theorem okMM_ok {ds : List D} (h : okMM ds = true) : PySem.W.AlikeAll ds ∧ PyData.plainAll ds = true ∧ PyData.depthAll ds ≤ 60 := by
  unfold okMM at h
  simp only [Bool.and_eq_true, List.all_eq_true] at h
  obtain ⟨⟨h1, h2⟩, h3⟩ := h
  refine ⟨⟨h1, fun x hx e => ?_⟩, ?_⟩
  · have := h2 x hx
    subst e
    simp [isN] at this
  · exact dnA_plain ds 60 (by rw [dnA_all]; exact List.all_eq_true.mpr h3)
/-- the datum that a value of the list reads as -/
def rPick (K : PySem.W.Frag) (pick : D → List D → D) : List V → Hp → VK → Prop := fun vs H Q => ∃ (a : Addr) (xs : List V) (d : D) (ds : List D), vs = [.ref a] ∧ (SqL K H a xs ∨ SqT K H a xs) ∧ DpAll K H xs (d :: ds) ∧ okMM (d :: ds) = true ∧
  ∀ (i : Nat) (v : V) (e : D), xs[i]? = some v → (d :: ds)[i]? = some e → e = pick d ds → Q v H
section
variable {X : Cx} {W : XW} {P : PP} {e : Expr} {es : List Expr} {pos p p2 : Pos} {f : Dl → Re D} {fs : Dl → Re (List D)}
theorem dpAll_get {K : PySem.W.Frag} {H : Hp} : ∀ {vs : List V} {ds : List D} {i : Nat} {v : V}, DpAll K H vs ds → vs[i]? = some v → ∃ d, ds[i]? = some d ∧ Dp K H v d
  | _, _, _, _, .nil, e => by simp at e
  | _, _, 0, _, .cons h _, e => by simp at e; subst e; exact ⟨_, rfl, h⟩
  | _, _, i + 1, _, .cons _ t, e => by
    obtain ⟨v, e1, r⟩ := dpAll_get (i := i) t (by simpa using e)
    exact ⟨v, by simpa using e1, r⟩
theorem vals_getV : ∀ {xs : List V} {us : List Value} {i : Nat} {u : Value}, Vals xs us → us[i]? = some u → ∃ x, xs[i]? = some x ∧ RelV x u
  | _, _, _, _, .nil, e => by simp at e
  | _, _, 0, _, .cons r _, e => by simp at e; subst e; exact ⟨_, rfl, r⟩
  | _, _, i + 1, _, .cons _ t, e => by
    obtain ⟨v, e1, r⟩ := vals_getV (i := i) t (by simpa using e)
    exact ⟨v, by simpa using e1, r⟩
theorem plain_get {ds : List D} {i : Nat} {d : D} (h : PyData.plainAll ds = true) (e : ds[i]? = some d) : d.plain = true := by
  induction ds generalizing i with
  | nil => simp at e
  | cons x xs ih =>
    simp only [PyData.plainAll, Bool.and_eq_true] at h
    cases i with
    | zero => simp at e; subst e; exact h.1
    | succ i => exact ih h.2 (by simpa using e)
theorem pick_fin {pins : List (Addr × Obj)} {σ : L2.St} {H : Hp} {s : Shared} {Q : VK} {xs : List V} {its : List Value} {ds : List D} {m : D} (I : Inv X pins σ H s) (rv : Vals xs its) (hd : DpAll X.K H xs ds) (hp : PyData.plainAll ds = true)
    (hq : ∀ (i : Nat) (v : V) (e : D), xs[i]? = some v → ds[i]? = some e → e = m → Q v H) {i : Nat} {v : Value} {h' : Heap} {tk : Nat} {bs : List Addr} (hv : its.toArray[i]? = some v) (hr : Reads h' v m bs) (hk : ∀ b o, s.heap.get? b = some o → h'.get? b = some o) :
    EP X pins σ Q v { s with heap := h', toks := tk } := by
  obtain ⟨x, ex, rx⟩ := vals_getV rv (show its[i]? = some v by simpa using hv)
  obtain ⟨d, ed, dd⟩ := dpAll_get hd ex
  obtain ⟨as, r⟩ := Dp.reads I d x v dd rx
  have e : d = m := PySem.SeqAt.plain_unique d m v _ _ (plain_get hp ed) (PyProof.Rows.Reads.keeps hk r) hr
  exact ⟨x, H, I.kept hk, rx, hq i x d ex ed e⟩
theorem call_minP (hc : X.calm = true) (hu : X.A.units + 64 < cLine) : CallR X (.builtin "min") (rPick X.K PySem.W.minD) := by
  intro pins s σ H vs us Q I r ⟨a, xs, d, ds, e, hq, hd, ok, q⟩
  subst e
  rw [Vals.ref1 r]
  obtain ⟨al, hp, hdep⟩ := okMM_ok ok
  rcases hq with hq | hq
  · obtain ⟨its, rv, pl, _⟩ := I.list hq
    obtain ⟨as, ra⟩ := Dp.readsAll I (d :: ds) xs its hd rv
    exact PySem.W.min_list_data (I.ok.hd hc) pl.isList (by simpa using ra) al (by omega) fun i v h' tk bs hv hr hk => pick_fin I rv hd hp q hv hr hk
  · obtain ⟨its, rv, pl, _⟩ := I.tuple hq
    obtain ⟨as, ra⟩ := Dp.readsAll I (d :: ds) xs its hd rv
    exact PySem.W.min_tuple_data (I.ok.hd hc) pl (by simpa using ra) al (by omega) fun i v h' tk bs hv hr hk => pick_fin I rv hd hp q hv hr hk
theorem call_maxP (hc : X.calm = true) (hu : X.A.units + 64 < cLine) : CallR X (.builtin "max") (rPick X.K PySem.W.maxD) := by
  intro pins s σ H vs us Q I r ⟨a, xs, d, ds, e, hq, hd, ok, q⟩
  subst e
  rw [Vals.ref1 r]
  obtain ⟨al, hp, hdep⟩ := okMM_ok ok
  rcases hq with hq | hq
  · obtain ⟨its, rv, pl, _⟩ := I.list hq
    obtain ⟨as, ra⟩ := Dp.readsAll I (d :: ds) xs its hd rv
    exact PySem.W.max_list_data (I.ok.hd hc) pl.isList (by simpa using ra) al (by omega) fun i v h' tk bs hv hr hk => pick_fin I rv hd hp q hv hr hk
  · obtain ⟨its, rv, pl, _⟩ := I.tuple hq
    obtain ⟨as, ra⟩ := Dp.readsAll I (d :: ds) xs its hd rv
    exact PySem.W.max_tuple_data (I.ok.hd hc) pl (by simpa using ra) al (by omega) fun i v h' tk bs hv hr hk => pick_fin I rv hd hp q hv hr hk
theorem cg_pick {pick : D → List D → D} {g : List D → Re D} (hg : ∀ ds d, g ds = .ok d → ∃ x xs, (ds = [.list (x :: xs)] ∨ ds = [.tuple (x :: xs)]) ∧ okMM (x :: xs) = true ∧ d = pick x xs) (hx : ∀ ds z, g ds ≠ .ex z) : CallG X W (pS X.K) RpB (rPick X.K pick) g := by
  intro F H vs ds Q dm r h
  cases e : g ds with
  | ex z => exact (hx _ _ e).elim
  | no => rw [e] at h; exact h.elim
  | ok d =>
    rw [e] at h
    obtain ⟨x, xs, e2, ok, rfl⟩ := hg _ _ e
    obtain ⟨_, hp, _⟩ := okMM_ok ok
    rcases e2 with rfl | rfl
    · obtain ⟨v, rfl, a, ws, rfl, hr, ra⟩ := ra1 r
      refine ⟨a, ws, x, xs, rfl, .inl (sqL_rd hr), ra.dp hp, ok, fun i v e h1 h2 h3 => ?_⟩
      obtain ⟨w, e1, rw'⟩ := ra.get h2
      rw [h1] at e1; cases e1
      exact h.val (h3 ▸ rw')
    · obtain ⟨v, rfl, a, ws, rfl, hr, ra⟩ := ra1 r
      refine ⟨a, ws, x, xs, rfl, .inr hr, ra.dp hp, ok, fun i v e h1 h2 h3 => ?_⟩
      obtain ⟨w, e1, rw'⟩ := ra.get h2
      rw [h1] at e1; cases e1
      exact h.val (h3 ▸ rw')
theorem cg_minL : CallG X W (pS X.K) RpB (rPick X.K PySem.W.minD) minL := cg_pick (fun ds d e => by
  unfold minL minS at e
  split at e
  · split at e
    · cases e
    · split at e
      · rename_i ok; cases e; exact ⟨_, _, .inl rfl, ok, rfl⟩
      · cases e
  · split at e
    · cases e
    · split at e
      · rename_i ok; cases e; exact ⟨_, _, .inr rfl, ok, rfl⟩
      · cases e
  · cases e) fun ds z e => by
  unfold minL minS at e
  split at e
  · split at e
    · cases e
    · split at e <;> cases e
  · split at e
    · cases e
    · split at e <;> cases e
  · cases e
theorem cg_maxL : CallG X W (pS X.K) RpB (rPick X.K PySem.W.maxD) maxL := cg_pick (fun ds d e => by
  unfold maxL maxS at e
  split at e
  · split at e
    · cases e
    · split at e
      · rename_i ok; cases e; exact ⟨_, _, .inl rfl, ok, rfl⟩
      · cases e
  · split at e
    · cases e
    · split at e
      · rename_i ok; cases e; exact ⟨_, _, .inr rfl, ok, rfl⟩
      · cases e
  · cases e) fun ds z e => by
  unfold maxL maxS at e
  split at e
  · split at e
    · cases e
    · split at e <;> cases e
  · split at e
    · cases e
    · split at e <;> cases e
  · cases e
theorem cg_max2 : CallG X W (pS X.K) RpB (fun xs H Q => ∃ i j, xs = [.int i, .int j] ∧ Q (.int (if j > i then j else i)) H) max2D := by
  intro F H vs ds Q dm r h
  unfold max2D at h
  split at h
  · obtain ⟨v, w, rfl, r1, r2⟩ := ra2 r
    rw [rp_int r1, rp_int r2]
    exact ⟨_, _, rfl, h.val (.int _)⟩
  · exact h.elim
theorem cg_min2 : CallG X W (pS X.K) RpB (fun xs H Q => ∃ i j, xs = [.int i, .int j] ∧ Q (.int (if j < i then j else i)) H) min2D := by
  intro F H vs ds Q dm r h
  unfold min2D at h
  split at h
  · obtain ⟨v, w, rfl, r1, r2⟩ := ra2 r
    rw [rp_int r1, rp_int r2]
    exact ⟨_, _, rfl, h.val (.int _)⟩
  · exact h.elim
end
end VS
end
section
namespace VS
open PySem L2

/-! ### an empty dict is of both sorts -/
section
variable {X : Cx} {pins : List (Addr × Obj)} {σ : L2.St} {H : Hp} {s : Shared} {a : Addr} {y d : V} {u r : Value} {A : Around} {E : Value → Shared → Prop}
theorem emptyK (I : Inv X pins σ H s) (h : Rd H a (.dT [])) : (a == sysModules) = false ∧ s.heap.DictOf (mixKind X.prog X.w) a [] := by
  obtain ⟨_, hd, xs, rel, o, es, ep, h1, h2, h3, h4, _⟩ := dt_rd I.hok h
  cases rel
  have e : es = #[] := by
    have : es.toList = [] := h4
    exact Array.toList_inj.mp this
  subst e
  exact ⟨hd, o, #[], ep, h1, h2, h3, (fun x hx => absurd hx (by simp)), .nil, List.nodup_nil⟩
theorem emptyT (I : Inv X pins σ H s) (h : Rd H a (.dK [])) : (a == sysModules) = false ∧ s.heap.DictOfH (tupleKind (mixKind X.prog X.w)) a [] := by
  obtain ⟨_, hd, vs, rel, o, es, ep, h1, h2, h3, _, h4, _⟩ := dk_rd I.hok h
  cases rel
  have e : es = #[] := by
    have : es.toList = [] := by
      generalize es.toList = l at h4
      cases h4
      rfl
    exact Array.toList_inj.mp this
  subst e
  exact ⟨hd, o, #[], ep, h1, h2, h3, rfl, (fun x hx => absurd hx (by simp)), List.nodup_nil⟩
theorem mis_in {Q : Value → Shared → Prop} (hu : A.units + 1 < cLine) (I : Inv X pins σ H s) (g : Mism H a y) (ry : RelV y u) (h : ∀ s', Inv X pins σ H s' → Q (.bool false) s') :
    wpAny (model X.prog X.w) A (compareOp .In u (.ref a)) Q E s := by
  rcases g with ⟨e, k, ey⟩ | ⟨e, b, ks, ey, eb⟩
  · subst ey
    obtain ⟨hd, dd⟩ := emptyK I e
    exact wpAny_in_of (kV_is ry) hd dd.mapOf (h _ (I.tok _))
  · subst ey
    cases (show u = Value.ref b from ry)
    obtain ⟨hd, dd⟩ := emptyT I e
    exact wpAny_in_heap (tupleKind_room_in1 hu) (key_of I.hok eb) hd dd (h _ (I.tok _))
theorem mis_notIn {Q : Value → Shared → Prop} (hu : A.units + 1 < cLine) (I : Inv X pins σ H s) (g : Mism H a y) (ry : RelV y u) (h : ∀ s', Inv X pins σ H s' → Q (.bool true) s') :
    wpAny (model X.prog X.w) A (compareOp .NotIn u (.ref a)) Q E s := by
  rcases g with ⟨e, k, ey⟩ | ⟨e, b, ks, ey, eb⟩
  · subst ey
    obtain ⟨hd, dd⟩ := emptyK I e
    exact wpAny_notIn_of (kV_is ry) hd dd.mapOf (h _ (I.tok _))
  · subst ey
    cases (show u = Value.ref b from ry)
    obtain ⟨hd, dd⟩ := emptyT I e
    exact PyProof.Rows.wpAny_notIn_heap (tupleKind_room_in1 hu) (key_of I.hok eb) hd dd (h _ (I.tok _))
theorem mis_get1 {Q : Value → Shared → Prop} (hu : A.units + 1 < cLine) (I : Inv X pins σ H s) (g : Mism H a y) (ry : RelV y u) (h : ∀ s', Inv X pins σ H s' → Q .none s') :
    wpAny (model X.prog X.w) A (call (.builtin "dict.get") [.ref a, u]) Q E s := by
  rcases g with ⟨e, k, ey⟩ | ⟨e, b, ks, ey, eb⟩
  · subst ey
    obtain ⟨hd, dd⟩ := emptyK I e
    exact call_meetsIn PySem.F.slot_dict_get dd.typeIs PySem.F.entry_dict_get (PySem.F.args_dict_get_2 _ _) (meets_dict_get (mixKind X.prog X.w) a (kV_is ry) hd) ⟨_, dd.mapOf, h _ (I.tok _)⟩
  · subst ey
    cases (show u = Value.ref b from ry)
    obtain ⟨hd, dd⟩ := emptyT I e
    exact call_meetsIn PySem.F.slot_dict_get dd.typeIs PySem.F.entry_dict_get (PySem.F.args_dict_get_2 _ _) (meetsH_dict_get (tupleKind (mixKind X.prog X.w)) a b hd) ⟨tupleKind_room_in1 hu, ks, [], key_of I.hok eb, dd, h _ (I.tok _)⟩
theorem mis_get2 {Q : Value → Shared → Prop} (hu : A.units + 1 < cLine) (I : Inv X pins σ H s) (g : Mism H a y) (ry : RelV y u) (h : ∀ s', Inv X pins σ H s' → Q r s') :
    wpAny (model X.prog X.w) A (call (.builtin "dict.get") [.ref a, u, r]) Q E s := by
  rcases g with ⟨e, k, ey⟩ | ⟨e, b, ks, ey, eb⟩
  · subst ey
    obtain ⟨hd, dd⟩ := emptyK I e
    exact call_meetsIn PySem.F.slot_dict_get dd.typeIs PySem.F.entry_dict_get (PySem.F.args_dict_get_3 _ _ _) (meets_dict_get_default (mixKind X.prog X.w) a (kV_is ry) hd r) ⟨_, dd.mapOf, h _ (I.tok _)⟩
  · subst ey
    cases (show u = Value.ref b from ry)
    obtain ⟨hd, dd⟩ := emptyT I e
    exact call_meetsIn PySem.F.slot_dict_get dd.typeIs PySem.F.entry_dict_get (PySem.F.args_dict_get_3 _ _ _) (meetsH_dict_get_default (tupleKind (mixKind X.prog X.w)) a b hd r) ⟨tupleKind_room_in1 hu, ks, [], key_of I.hok eb, dd, h _ (I.tok _)⟩
/-- d[y] = v -/
theorem mis_set {v : V} {Q : Unit → Shared → Prop} (hu : A.units + 1 < cLine) (I : Inv X pins σ H s) (rv : RelV v r) (ry : RelV y u)
    (g : (∃ k : Key, H a = some (.dT []) ∧ y = kV k ∧ ∀ s', Inv X pins σ (upd H a (.dK [(k, v)])) s' → Q () s') ∨
      (∃ (b : Addr) (ks : List Key), H a = some (.dK []) ∧ y = .ref b ∧ H b = some (.tup (ks.map kV)) ∧ ∀ s', Inv X pins σ (upd H a (.dT [(ks, v)])) s' → Q () s')) :
    wpAny (model X.prog X.w) A (setItem (.ref a) u r) Q E s := by
  have l1 : 1 ≤ sizeLine := by rw [sizeLine_eq]; decide
  rcases g with ⟨k, e, ey, h⟩ | ⟨b, ks, e, ey, eb, h⟩
  · subst ey
    obtain ⟨hd, dd⟩ := emptyK I (.inl e)
    refine wpAny_setItem_pairs (hsz := Nat.zero_le _) (kV_is ry) dd fun h' dd' hs => h _ ?_
    have he : ∃ q, h'.get? a = some q := let ⟨q, _, _, hq, _⟩ := dd'; ⟨q, hq⟩
    exact d_write I (by rw [e]; exact True.intro) hs he (dk_new (kvs := [(k, v)]) l1 hd (KV.put .nil k rv) dd')
  · subst ey
    cases (show u = Value.ref b from ry)
    obtain ⟨hd, dd⟩ := emptyT I (.inl e)
    refine wpAny_setItem_heap (hsz := Nat.zero_le _) (tupleKind_room_in1 hu) (key_of I.hok eb) dd fun h' dd' hs => h _ ?_
    obtain ⟨q, es, ep, hq, h2, h3, h4, _, h5⟩ := dd'
    have r0 : KT H [] [] := .nil
    refine d_write I (by rw [e]; exact True.intro) hs ⟨q, hq⟩ (show ObjOk X.prog X.w _ h' a (.dT [(ks, v)]) from ⟨l1, hd, _, (r0.put ks eb rv).keeps fun c ys ec => ?_, q, es, ep, hq, h2, h3, h4, h5⟩)
    rw [upd_ne (ne_of ec e (fun z => nomatch z))]
    exact ec
end

/-! ### x in c -/
def inD : D → D → Re D
  | x, .list ys => if dn 60 x = true ∧ dnA 60 ys = true then .ok (.bool (ys.any fun y => PyData.eqv y x)) else .no
  | x, .tuple ys => if dn 60 x = true ∧ dnA 60 ys = true then .ok (.bool (ys.any fun y => PyData.eqv y x)) else .no
  | .str z, .str t => (match z.cps.toList with | [c] => .ok (.bool (decide (c ∈ t.cps.toList))) | _ => .no)
  | k, .dict kvs => if kfit kvs k = true then .ok (.bool (lkD kvs k).isSome) else .no
  | _, _ => .no
def neg1 : D → D
  | .bool b => .bool (!b)
  | d => d
def notInD (x c : D) : Re D := (inD x c).bnd fun d => .ok (neg1 d)
/-- by values: n: not in -/
def rInAll (K : PySem.W.Frag) (n : Bool) : R2 := fun x y H Q => ∃ b : Bool, Q (.bl (b ^^ n)) H ∧
  ((∃ d ds, Dp K H x d ∧ (Dp K H y (.list ds) ∨ Dp K H y (.tuple ds)) ∧ d.plain = true ∧ PyData.plainAll ds = true ∧ d.depth ≤ 60 ∧ b = ds.any fun e => PyData.eqv e d) ∨
   (∃ (c : Nat) (t : Str), x = .str ⟨#[c]⟩ ∧ y = .str t ∧ b = decide (c ∈ t.cps.toList)) ∨
   (∃ a, y = .ref a ∧ ((∃ o, DGet H a x o ∧ b = o.isSome) ∨ (Mism H a x ∧ b = false))))
section
variable {X : Cx} {W : XW} {P : PP} {a b : Expr} {pos : Pos} {fa fb : Dl → Re D}
theorem op_inAll (hu : X.A.units + 64 < cLine) : OpR X (compareOp .In) (rInAll X.K false) := by
  intro pins s σ H x y v u Q I rx ry ⟨b, q, c⟩
  rw [Bool.xor_false] at q
  rcases c with ⟨d, ds, hd, hc, p1, p2, dp, e⟩ | ⟨c, t, e1, e2, e⟩ | ⟨a, ea, c⟩
  · obtain ⟨as, r1⟩ := Dp.reads I d x v hd rx
    have hm : X.A.units + 1 + min (PyData.depthAll ds) d.depth < cLine := by have := Nat.min_le_right (PyData.depthAll ds) d.depth; omega
    have fin : EP X pins σ Q (.bool (ds.any fun y => PyData.eqv y d)) s := ⟨.bl _, H, I, rfl, e ▸ q⟩
    rcases hc with hc | hc
    · obtain ⟨bs, r2⟩ := Dp.reads I _ y u hc ry
      exact PySem.SeqAt.in_list_data r2 r1 p2 p1 hm fin
    · obtain ⟨bs, r2⟩ := Dp.reads I _ y u hc ry
      exact PySem.SeqAt.in_tuple_data r2 r1 p2 p1 hm fin
  · exact op_in_sign pins s σ H x y v u Q I rx ry ⟨c, t, e1, e2, e ▸ q⟩
  · subst ea
    cases (show u = Value.ref a from ry)
    rcases c with ⟨o, g, e⟩ | ⟨g, e⟩
    · subst e
      exact d_in (by omega) I g rx fun s' I' => ⟨.bl _, H, I', rfl, q⟩
    · subst e
      exact mis_in (by omega) I g rx fun s' I' => ⟨.bl _, H, I', rfl, q⟩
theorem op_notInAll (hu : X.A.units + 64 < cLine) : OpR X (compareOp .NotIn) (rInAll X.K true) := by
  intro pins s σ H x y v u Q I rx ry ⟨b, q, c⟩
  rw [Bool.xor_true] at q
  rcases c with ⟨d, ds, hd, hc, p1, p2, dp, e⟩ | ⟨c, t, e1, e2, e⟩ | ⟨a, ea, c⟩
  · obtain ⟨as, r1⟩ := Dp.reads I d x v hd rx
    have hm : X.A.units + 1 + min (PyData.depthAll ds) d.depth < cLine := by have := Nat.min_le_right (PyData.depthAll ds) d.depth; omega
    have fin : EP X pins σ Q (.bool (!ds.any fun y => PyData.eqv y d)) s := ⟨.bl _, H, I, rfl, e ▸ q⟩
    rcases hc with hc | hc
    · obtain ⟨bs, r2⟩ := Dp.reads I _ y u hc ry
      exact PySem.SeqAt.notIn_list_data r2 r1 p2 p1 hm fin
    · obtain ⟨bs, r2⟩ := Dp.reads I _ y u hc ry
      exact PySem.SeqAt.notIn_tuple_data r2 r1 p2 p1 hm fin
  · exact op_notIn_sign pins s σ H x y v u Q I rx ry ⟨c, t, e1, e2, e ▸ q⟩
  · subst ea
    cases (show u = Value.ref a from ry)
    rcases c with ⟨o, g, e⟩ | ⟨g, e⟩
    · subst e
      exact d_notIn (by omega) I g rx fun s' I' => ⟨.bl _, H, I', rfl, q⟩
    · subst e
      exact mis_notIn (by omega) I g rx fun s' I' => ⟨.bl _, H, I', rfl, q⟩
theorem optR_some {K : PySem.W.Frag} {F : Addr → Prop} {H : Hp} {o : Option V} {p : Option D} (h : OptR K F H o p) : o.isSome = p.isSome := by
  cases o <;> cases p <;> first | rfl | exact h.elim
/-- what «in» answers, and why -/
theorem in_why {K : PySem.W.Frag} {F : Addr → Prop} {H : Hp} {x y : V} {dx dy d : D} (rx : Rp K F H x dx) (ry : RpB K F H y dy) (h : inD dx dy = .ok d) : ∃ b, d = .bool b ∧
  ((∃ d ds, Dp K H x d ∧ (Dp K H y (.list ds) ∨ Dp K H y (.tuple ds)) ∧ d.plain = true ∧ PyData.plainAll ds = true ∧ d.depth ≤ 60 ∧ b = ds.any fun e => PyData.eqv e d) ∨
   (∃ (c : Nat) (t : Str), x = .str ⟨#[c]⟩ ∧ y = .str t ∧ b = decide (c ∈ t.cps.toList)) ∨
   (∃ a, y = .ref a ∧ ((∃ o, DGet H a x o ∧ b = o.isSome) ∨ (Mism H a x ∧ b = false)))) := by
  unfold inD at h
  split at h
  · rename_i ys
    split at h
    · rename_i c
      cases h
      have q1 := dn_plain _ _ c.1
      have q2 := dnA_plain _ _ c.2
      exact ⟨_, rfl, .inl ⟨dx, ys, rx.dp q1.1, .inl (ry.dp (by simpa [PyData.plain] using q2.1)), q1.1, q2.1, q1.2, rfl⟩⟩
    · cases h
  · rename_i ys
    split at h
    · rename_i c
      cases h
      have q1 := dn_plain _ _ c.1
      have q2 := dnA_plain _ _ c.2
      exact ⟨_, rfl, .inl ⟨dx, ys, rx.dp q1.1, .inr (ry.dp (by simpa [PyData.plain] using q2.1)), q1.1, q2.1, q1.2, rfl⟩⟩
    · cases h
  · rename_i z t
    split at h
    · rename_i c ec
      cases h
      refine ⟨_, rfl, .inr (.inl ⟨c, t, ?_, rp_str ry, rfl⟩)⟩
      rw [rp_str (Rp.b rx)]
      have : z = ⟨#[c]⟩ := by
        cases z with
        | mk cps =>
          have e : cps.toList = [c] := ec
          have : cps = #[c] := by rw [← Array.toList_inj, e]
          rw [this]
      rw [this]
    · cases h
  · split at h
    · rename_i hf
      cases h
      obtain ⟨a, m, rfl, hd, rk⟩ := ry
      rcases dget_of hd rk rx hf with ⟨o, g, ro⟩ | ⟨e, g⟩
      · exact ⟨_, rfl, .inr (.inr ⟨a, rfl, .inl ⟨o, g, (optR_some ro).symm⟩⟩)⟩
      · subst e
        exact ⟨_, rfl, .inr (.inr ⟨a, rfl, .inr ⟨g, rfl⟩⟩)⟩
    · cases h
  · cases h
theorem inD_ex {x y : D} {z : Xn} : inD x y ≠ .ex z := by
  intro h
  unfold inD at h
  split at h
  · split at h <;> cases h
  · split at h <;> cases h
  · split at h <;> cases h
  · split at h <;> cases h
  · cases h
theorem og_in : OpGG X W (pS X.K) Rp RpB (rInAll X.K false) inD := by
  intro F H x y dx dy Q dm rx ry h
  cases e : inD dx dy with
  | no => rw [e] at h; exact h.elim
  | ex z => exact (inD_ex e).elim
  | ok d =>
    rw [e] at h
    obtain ⟨b, rfl, c⟩ := in_why rx ry e
    exact ⟨b, by rw [Bool.xor_false]; exact h.val (.bl _), c⟩
theorem og_notIn : OpGG X W (pS X.K) Rp RpB (rInAll X.K true) notInD := by
  intro F H x y dx dy Q dm rx ry h
  unfold notInD at h
  cases e : inD dx dy with
  | no => rw [e] at h; exact h.elim
  | ex z => exact (inD_ex e).elim
  | ok d =>
    rw [e] at h
    obtain ⟨b, rfl, c⟩ := in_why rx ry e
    exact ⟨b, by rw [Bool.xor_true]; exact Go.val h (.bl _), c⟩
theorem ve_in (hu : X.A.units + 64 < cLine) (ha : VE X W a fa) (hb : VB X W b fb) (hm : behindInMarks .In b = false) : VE X W (.Compare a [.In] [b] pos) (d2 inD fa fb) := PE.imp (pe_cmpR (op_inAll hu) ha hb hm) (t_opG pS_mon kS og_in)
theorem ve_notIn (hu : X.A.units + 64 < cLine) (ha : VE X W a fa) (hb : VB X W b fb) (hm : behindInMarks .NotIn b = false) : VE X W (.Compare a [.NotIn] [b] pos) (d2 notInD fa fb) := PE.imp (pe_cmpR (op_notInAll hu) ha hb hm) (t_opG pS_mon kS og_notIn)
theorem vt_in (hu : X.A.units + 64 < cLine) (ha : VE X W a fa) (hb : VB X W b fb) (hm : behindInMarks .In b = false) : VT X W (.Compare a [.In] [b] pos) (tB1 (d2 inD fa fb)) := PT.imp (pt_cmpR (op_inAll hu) ha hb hm) fun σ H Q ⟨F, δ, s, h⟩ => by
  refine t_opG pS_mon kS og_in σ H _ ⟨F, δ, s, ?_⟩
  refine Go.bndT h fun d v F1 H1 e g p h1 => ?_
  obtain ⟨b, rfl, q⟩ := asB_ok (P := pS X.K) h1
  exact ⟨b, rp_bl (Rp.b p), q⟩
theorem vt_notIn (hu : X.A.units + 64 < cLine) (ha : VE X W a fa) (hb : VB X W b fb) (hm : behindInMarks .NotIn b = false) : VT X W (.Compare a [.NotIn] [b] pos) (tB1 (d2 notInD fa fb)) := PT.imp (pt_cmpR (op_notInAll hu) ha hb hm) fun σ H Q ⟨F, δ, s, h⟩ => by
  refine t_opG pS_mon kS og_notIn σ H _ ⟨F, δ, s, ?_⟩
  refine Go.bndT h fun d v F1 H1 e g p h1 => ?_
  obtain ⟨b, rfl, q⟩ := asB_ok (P := pS X.K) h1
  exact ⟨b, rp_bl (Rp.b p), q⟩
end

/-! ### d.get(k), d.get(k, x) -/
def dGet1 (fa fb : Dl → Re D) (δ : Dl) : Re D := (fa δ).bnd fun x => match x with
  | .dict kvs => (fb δ).bnd fun k => if kfit kvs k = true then .ok ((lkD kvs k).getD .none) else .no
  | _ => .no
def dGet2 (fa fb fc : Dl → Re D) (δ : Dl) : Re D := (fa δ).bnd fun x => match x with
  | .dict kvs => (fb δ).bnd fun k => (fc δ).bnd fun z => if kfit kvs k = true then .ok ((lkD kvs k).getD z) else .no
  | _ => .no
theorem isD_of {H : Hp} {a : Addr} {kvs : List (D × V)} (h : DRd H a kvs) : IsD H a := by
  rcases h with ⟨m, h, _⟩ | ⟨m, h, _⟩
  · exact .inl ⟨m, h⟩
  · exact .inr ⟨m, h⟩
/-- o.get(e), o.get(e, f): readings -/
def tGet1 (td ty : TE) : TE := fun σ H Q => td σ H fun x H1 => ∃ a, x = .ref a ∧ IsD H1 a ∧ ty σ H1 fun y H2 => (∃ o, DGet H2 a y o ∧ Q (o.getD .non) H2) ∨ (Mism H2 a y ∧ Q .non H2)
def tGet2 (td ty tx : TE) : TE := fun σ H Q => td σ H fun x H1 => ∃ a, x = .ref a ∧ IsD H1 a ∧ ty σ H1 fun y H2 => tx σ H2 fun z H3 => (∃ o, DGet H3 a y o ∧ Q (o.getD z) H3) ∨ (Mism H3 a y ∧ Q z H3)
section
variable {X : Cx} {W : XW} {P : PP} {o e f : Expr} {apos cpos : Pos} {td ty tx : TE} {fa fb fc : Dl → Re D}
theorem pe_get1 (hu : X.A.units + 1 < cLine) (ho : PE X o td) (he : PE X e ty) (m : M1 X o "get" apos e cpos) : PE X (.Call (.Attribute o "get" apos) [e] [] cpos) (tGet1 td ty) := by
  refine ⟨fun pins s σ H Q I h => ?_⟩
  refine PySem.wpAny_Call_method m.base m.few m.line PySem.F.plainAttrs_dict PySem.F.slot_dict_get PySem.F.type_dict_get (thn (ho.run pins s σ H _ I h) fun u s1 ⟨x, H1, I1, rx, a, ex, d, q1⟩ => ?_)
  subst ex
  cases (show u = Value.ref a from rx)
  have t := isD_at I1 d
  refine ⟨t.1, t.2.1, ?_⟩
  rw [m.trees]
  refine Calls.callWith_builtin rfl (Calls.evalArgs_plain (Calls.spliced_cons (thn (he.run pins s1 σ H1 _ I1 q1) fun iv s2 ⟨y, H2, I2, ry, q2⟩ => Calls.spliced_nil ?_)))
  rcases q2 with ⟨ov, g, q2⟩ | ⟨g, q2⟩
  · exact d_get1 hu I2 g ry fun w' s3 I3 rw' => ⟨_, H2, I3, rw', q2⟩
  · exact mis_get1 hu I2 g ry fun s3 I3 => ⟨.non, H2, I3, rfl, q2⟩
theorem pe_get2 (hu : X.A.units + 1 < cLine) (ho : PE X o td) (he : PE X e ty) (hf : PE X f tx) (m : M2 X o "get" apos e f cpos) : PE X (.Call (.Attribute o "get" apos) [e, f] [] cpos) (tGet2 td ty tx) := by
  refine ⟨fun pins s σ H Q I h => ?_⟩
  refine PySem.wpAny_Call_method m.base m.few m.line PySem.F.plainAttrs_dict PySem.F.slot_dict_get PySem.F.type_dict_get (thn (ho.run pins s σ H _ I h) fun u s1 ⟨x, H1, I1, rx, a, ex, d, q1⟩ => ?_)
  subst ex
  cases (show u = Value.ref a from rx)
  have t := isD_at I1 d
  refine ⟨t.1, t.2.1, ?_⟩
  rw [m.trees]
  refine Calls.callWith_builtin rfl (Calls.evalArgs_plain (Calls.spliced_cons (thn (he.run pins s1 σ H1 _ I1 q1) fun iv s2 ⟨y, H2, I2, ry, q2⟩ =>
    Calls.spliced_cons (thn (hf.run pins s2 σ H2 _ I2 q2) fun fv s3 ⟨z, H3, I3, rz, q3⟩ => Calls.spliced_nil ?_))))
  rcases q3 with ⟨ov, g, q3⟩ | ⟨g, q3⟩
  · exact d_get2 hu I3 g ry rz fun w' s4 I4 rw' => ⟨_, H3, I4, rw', q3⟩
  · exact mis_get2 hu I3 g ry fun s4 I4 => ⟨z, H3, I4, rz, q3⟩
theorem optR_getD {K : PySem.W.Frag} {F : Addr → Prop} {H : Hp} {v : V} {d : D} {o : Option V} {p : Option D} (h : OptR K F H o p) (r : Rp K F H v d) : Rp K F H (o.getD v) (p.getD d) := by
  cases o <;> cases p <;> first | exact r | exact h | exact h.elim
theorem ve_get1 (hu : X.A.units + 1 < cLine) (ho : VB X W o fa) (he : VE X W e fb) (m : M1 X o "get" apos e cpos) : VE X W (.Call (.Attribute o "get" apos) [e] [] cpos) (dGet1 fa fb) := PE.imp (pe_get1 hu ho he m) fun σ H Q ⟨F, δ, s, h⟩ => by
  refine ⟨F, δ, s, Go.bnd pS_mon h fun dx x F1 H1 ex g1 px h1 => ?_⟩
  cases dx with
  | dict kvs =>
    obtain ⟨a, m, rfl, hd, rk⟩ := px
    refine ⟨a, rfl, isD_of hd, F1, δ, s.grow g1, Go.bnd pS_mon h1 fun dy y F2 H2 ey g2 py h2 => ?_⟩
    split at h2
    · rename_i hf
      rcases dget_of (same_drd g2.same hd) (g2.rpK rk) py hf with ⟨o, g, ro⟩ | ⟨e, g⟩
      · exact .inl ⟨o, g, h2.val (optR_getD ro .non)⟩
      · subst e
        exact .inr ⟨g, h2.val .non⟩
    · exact h2.elim
  | _ => exact h1.elim
theorem ve_get2 (hu : X.A.units + 1 < cLine) (ho : VB X W o fa) (he : VE X W e fb) (hf : VE X W f fc) (m : M2 X o "get" apos e f cpos) : VE X W (.Call (.Attribute o "get" apos) [e, f] [] cpos) (dGet2 fa fb fc) := PE.imp (pe_get2 hu ho he hf m) fun σ H Q ⟨F, δ, s, h⟩ => by
  refine ⟨F, δ, s, Go.bnd pS_mon h fun dx x F1 H1 ex g1 px h1 => ?_⟩
  cases dx with
  | dict kvs =>
    obtain ⟨a, m, rfl, hd, rk⟩ := px
    refine ⟨a, rfl, isD_of hd, F1, δ, s.grow g1, Go.bnd pS_mon h1 fun dy y F2 H2 ey g2 py h2 => ?_⟩
    refine ⟨F2, δ, (s.grow g1).grow g2, Go.bnd pS_mon h2 fun dz z F3 H3 ez g3 pz h3 => ?_⟩
    split at h3
    · rename_i hf
      rcases dget_of (same_drd (g2.trans g3).same hd) ((g2.trans g3).rpK rk) (g3.rp py) hf with ⟨o, g, ro⟩ | ⟨e, g⟩
      · exact .inl ⟨o, g, h3.val (optR_getD ro pz)⟩
      · subst e
        exact .inr ⟨g, h3.val pz⟩
    · exact h3.elim
  | _ => exact h1.elim
end
end VS
end
section
namespace VS
open PySem L2

/-! ### the state of a def's body -/
structure Sok (K : PySem.W.Frag) (F0 : Addr → Prop) (H0 : Hp) (F : Addr → Prop) (H : Hp) (σ : L2.St) (δ : Dl) : Prop where
  len : δ.length = σ.length
  g : Grow F0 H0 F H
  d0 : Dom F0 H0
  dom : Dom F H
  sh : ∀ (i : Nat) (d : PyData), δ[i]? = some (Sl.sh d) → ∃ v, σ[i]? = some (some v) ∧ Rp K F H v d
  ow : ∀ (i : Nat) (d : PyData), δ[i]? = some (Sl.ow d) → ∃ a, σ[i]? = some (some (.ref a)) ∧ RpO K F H a d ∧ ¬ F a ∧ H0 a = none
  br : ∀ (i : Nat) (ns : List Int), δ[i]? = some (Sl.br ns) → ∃ a, σ[i]? = some (some (V.ref a)) ∧ ScrR K H a ns
  ne : ∀ (i j : Nat) (d e : PyData) (a : Addr), δ[i]? = some (Sl.ow d) → δ[j]? = some (Sl.ow e) → σ[i]? = some (some (.ref a)) → σ[j]? = some (some (.ref a)) → i = j
theorem Sok.e {K : PySem.W.Frag} {F0 : Addr → Prop} {H0 : Hp} {F : Addr → Prop} {H : Hp} {σ : L2.St} {δ : Dl} (s : Sok K F0 H0 F H σ δ) : SokE K F H σ δ where
  len := s.len
  dom := s.dom
  sl := fun i x e => by
    cases x with
    | no => trivial
    | sh d => exact s.sh i d e
    | ow d => obtain ⟨a, e1, o, _⟩ := s.ow i d e; exact ⟨_, e1, o.b⟩
    | br ns => exact s.br i ns e
theorem Sok.grow {K : PySem.W.Frag} {F0 : Addr → Prop} {H0 : Hp} {F F' : Addr → Prop} {H H' : Hp} {σ : L2.St} {δ : Dl} (s : Sok K F0 H0 F H σ δ) (g : Grow F H F' H') : Sok K F0 H0 F' H' σ δ where
  len := s.len
  g := s.g.trans g
  d0 := s.d0
  dom := g.dom s.dom
  sh := fun i d e => by obtain ⟨v, e, r⟩ := s.sh i d e; exact ⟨v, e, g.rp r⟩
  ow := fun i d e => by
    obtain ⟨a, e, o, nf, n0⟩ := s.ow i d e
    obtain ⟨u, hu, _⟩ := o.there
    refine ⟨a, e, o.kept g.sub g.kept ((g.same a u hu).trans hu.symm), fun f => ?_, n0⟩
    rcases g.new a f with f | f
    · exact nf f
    · rw [hu] at f; cases f
  br := fun i ns e => by obtain ⟨a, e, r⟩ := s.br i ns e; exact ⟨a, e, r.keep fun b o e _ => g.same b o e⟩
  ne := s.ne

/-- what stays from one state of the body to a later one: the frozen things -/
structure Stay (F : Addr → Prop) (H : Hp) (F' : Addr → Prop) (H' : Hp) : Prop where
  sub : ∀ a, F a → F' a
  kept : Kept F H H'
theorem Stay.refl {F : Addr → Prop} {H : Hp} : Stay F H F H := ⟨fun _ h => h, Kept.refl⟩
theorem Stay.trans {F F1 F2 : Addr → Prop} {H H1 H2 : Hp} (a : Stay F H F1 H1) (b : Stay F1 H1 F2 H2) : Stay F H F2 H2 := ⟨fun x h => b.sub x (a.sub x h), a.kept.trans b.kept a.sub⟩
theorem Grow.stay {F F' : Addr → Prop} {H H' : Hp} (g : Grow F H F' H') : Stay F H F' H' := ⟨g.sub, g.kept⟩
theorem Stay.rp {K : PySem.W.Frag} {F F' : Addr → Prop} {H H' : Hp} (g : Stay F H F' H') {v : V} {d : D} (r : Rp K F H v d) : Rp K F' H' v d := r.mono g.sub g.kept

/-- what a statement does -/
inductive RS where
  | nx (δ : Dl)
  | rt (d : D)
  | bk (δ : Dl)
  | ct (δ : Dl)
  | ex (x : Xn)
  | no
def RS.bnd (r : RS) (f : Dl → RS) : RS := match r with
  | .nx δ => f δ
  | r => r
@[simp] theorem rsb_nx (δ : Dl) (f : Dl → RS) : (RS.nx δ).bnd f = f δ := Eq.trans rfl (Eq.refl _)
@[simp] theorem rsb_rt (δ : D) (f : Dl → RS) : (RS.rt δ).bnd f = .rt δ := Eq.trans rfl (Eq.refl _)
@[simp] theorem rsb_bk (δ : Dl) (f : Dl → RS) : (RS.bk δ).bnd f = .bk δ := Eq.trans rfl (Eq.refl _)
@[simp] theorem rsb_ct (δ : Dl) (f : Dl → RS) : (RS.ct δ).bnd f = .ct δ := Eq.trans rfl (Eq.refl _)
@[simp] theorem rsb_ex (x : Xn) (f : Dl → RS) : (RS.ex x).bnd f = .ex x := Eq.trans rfl (Eq.refl _)
@[simp] theorem rsb_no (f : Dl → RS) : RS.no.bnd f = .no := Eq.trans rfl (Eq.refl _)
/-- from an expression's outcome -/
def toS {α : Type} (r : Re α) (f : α → RS) : RS := match r with
  | .ok a => f a
  | .ex x => .ex x
  | .no => .no
@[simp] theorem toS_ok {α : Type} (a : α) (f : α → RS) : toS (.ok a) f = f a := Eq.trans rfl (Eq.refl _)
@[simp] theorem toS_ex {α : Type} (x : Xn) (f : α → RS) : toS (.ex x) f = .ex x := Eq.trans rfl (Eq.refl _)
@[simp] theorem toS_no {α : Type} (f : α → RS) : toS (.no : Re α) f = .no := Eq.trans rfl (Eq.refl _)

def SO (K : PySem.W.Frag) (W : XW) (F0 : Addr → Prop) (H0 : Hp) (F : Addr → Prop) (H : Hp) (D : Ends) : RS → Prop
  | .nx δ => ∀ F' H' σ', Stay F H F' H' → Sok K F0 H0 F' H' σ' δ → D.nx σ' H'
  | .bk δ => ∀ F' H' σ', Stay F H F' H' → Sok K F0 H0 F' H' σ' δ → D.bk σ' H'
  | .ct δ => ∀ F' H' σ', Stay F H F' H' → Sok K F0 H0 F' H' σ' δ → D.ct σ' H'
  | .rt d => ∀ v F' H', Stay F H F' H' → Grow F0 H0 F' H' → Rp K F' H' v d → D.rt v H'
  | .ex x => ∀ F' H', Stay F H F' H' → Grow F0 H0 F' H' → W x H'
  | .no => False
theorem SO.stay {K : PySem.W.Frag} {W : XW} {F0 : Addr → Prop} {H0 : Hp} {F F1 : Addr → Prop} {H H1 : Hp} {D : Ends} {r : RS} (h : SO K W F0 H0 F H D r) (g : Stay F H F1 H1) : SO K W F0 H0 F1 H1 D r := by
  cases r with
  | nx δ => exact fun F' H' σ' s k => h F' H' σ' (g.trans s) k
  | bk δ => exact fun F' H' σ' s k => h F' H' σ' (g.trans s) k
  | ct δ => exact fun F' H' σ' s k => h F' H' σ' (g.trans s) k
  | rt d => exact fun v F' H' s k => h v F' H' (g.trans s) k
  | ex x => exact fun F' H' s k => h F' H' (g.trans s) k
  | no => exact h
/-- a statement's reading -/
def tS (K : PySem.W.Frag) (W : XW) (f : Dl → RS) : TS := fun D σ H => ∃ F0 H0 F δ, Sok K F0 H0 F H σ δ ∧ SO K W F0 H0 F H D (f δ)
abbrev VSt (X : Cx) (W : XW) (st : Stmt) (f : Dl → RS) : Prop := PS X st (tS X.K W f)
abbrev VSs (X : Cx) (W : XW) (st : List Stmt) (f : Dl → RS) : Prop := PSs X st (tS X.K W f)

section
variable {X : Cx} {W : XW} {K : PySem.W.Frag} {F0 : Addr → Prop} {H0 : Hp} {F : Addr → Prop} {H : Hp} {σ : L2.St} {δ : Dl} {D : Ends}
/-- an expression within a statement -/
theorem SO.go {P : PP} {r : Re PyData} {f : PyData → RS} {Q : VK} (s : Sok K F0 H0 F H σ δ) (h : SO K W F0 H0 F H D (toS r f))
    (q : ∀ d v F1 H1, r = .ok d → Grow F H F1 H1 → P F H F1 H1 v d → SO K W F0 H0 F1 H1 D (f d) → Q v H1) : Go W P F H r Q := by
  cases r with
  | ok d => exact fun v F1 H1 g p => q d v F1 H1 rfl g p (SO.stay h g.stay)
  | ex x => exact fun F' H' g => h F' H' g.stay (s.g.trans g)
  | no => exact h
theorem SO.goT {r : Re Bool} {f : Bool → RS} {Q : Bool → Hp → Prop} (s : Sok K F0 H0 F H σ δ) (h : SO K W F0 H0 F H D (toS r f))
    (q : ∀ d F1 H1, r = .ok d → Grow F H F1 H1 → SO K W F0 H0 F1 H1 D (f d) → Q d H1) : GoT W F H r Q := by
  cases r with
  | ok d => exact fun F1 H1 g => q d F1 H1 rfl g (SO.stay h g.stay)
  | ex x => exact fun F' H' g => h F' H' g.stay (s.g.trans g)
  | no => exact h
theorem SO.goA {R : Rel} {r : Re (List PyData)} {f : List PyData → RS} {Q : List V → Hp → Prop} (s : Sok K F0 H0 F H σ δ) (h : SO K W F0 H0 F H D (toS r f))
    (q : ∀ ds vs F1 H1, r = .ok ds → Grow F H F1 H1 → RA R K F1 H1 vs ds → SO K W F0 H0 F1 H1 D (f ds) → Q vs H1) : GoA W R K F H r Q := by
  cases r with
  | ok d => exact fun v F1 H1 g p => q d v F1 H1 rfl g p (SO.stay h g.stay)
  | ex x => exact fun F' H' g => h F' H' g.stay (s.g.trans g)
  | no => exact h

/-! ### slots set -/
theorem set_len {i : Nat} {v : Option V} {x : Sl} (h : δ.length = σ.length) : (δ.set i x).length = (σ.set i v).length := by rw [List.length_set, List.length_set]; exact h
theorem get_set_ne {α : Type} {l : List α} {i j : Nat} {x y : α} (h : (l.set i x)[j]? = some y) (n : i ≠ j) : l[j]? = some y := by rw [List.getElem?_set_ne n] at h; exact h
theorem get_set_eq {α : Type} {l : List α} {i : Nat} {x y : α} (h : (l.set i x)[i]? = some y) : y = x ∧ i < l.length := by
  by_cases hi : i < l.length
  · rw [List.getElem?_set_self hi] at h; exact ⟨(Option.some.inj h).symm, hi⟩
  · rw [List.getElem?_eq_none (by simpa using hi)] at h; cases h
theorem Sok.setSh {i : Nat} {v : V} {d : PyData} (s : Sok K F0 H0 F H σ δ) (r : Rp K F H v d) : Sok K F0 H0 F H (σ.set i (some v)) (δ.set i (.sh d)) where
  len := set_len s.len
  g := s.g
  d0 := s.d0
  dom := s.dom
  sh := fun j e h => by
    by_cases n : i = j
    · subst n
      obtain ⟨q, hi⟩ := get_set_eq h
      cases q
      exact ⟨v, by rw [List.getElem?_set_self (by rw [← s.len]; exact hi)], r⟩
    · rw [List.getElem?_set_ne n]
      exact s.sh j e (get_set_ne h n)
  ow := fun j e h => by
    by_cases n : i = j
    · subst n
      obtain ⟨q, hi⟩ := get_set_eq h
      cases q
    · rw [List.getElem?_set_ne n]
      exact s.ow j e (get_set_ne h n)
  br := fun j e h => by
    by_cases n : i = j
    · subst n
      obtain ⟨q, hi⟩ := get_set_eq h
      cases q
    · rw [List.getElem?_set_ne n]
      exact s.br j e (get_set_ne h n)
  ne := fun j k d e a h1 h2 h3 h4 => by
    by_cases n : i = j
    · subst n; obtain ⟨q, _⟩ := get_set_eq h1; cases q
    · by_cases m : i = k
      · subst m; obtain ⟨q, _⟩ := get_set_eq h2; cases q
      · rw [List.getElem?_set_ne n] at h3
        rw [List.getElem?_set_ne m] at h4
        exact s.ne j k d e a (get_set_ne h1 n) (get_set_ne h2 m) h3 h4
/-- slot i holds a new object of its own -/
theorem Sok.setOw {i : Nat} {a : Addr} {d : PyData} (s : Sok K F0 H0 F H σ δ) (r : RpO K F H a d) (nf : ¬ F a) (n0 : H0 a = none) (hn : ∀ (j : Nat) (e : PyData), δ[j]? = some (Sl.ow e) → j ≠ i → σ[j]? ≠ some (some (.ref a))) : Sok K F0 H0 F H (σ.set i (some (.ref a))) (δ.set i (.ow d)) where
  len := set_len s.len
  g := s.g
  d0 := s.d0
  dom := s.dom
  sh := fun j e h => by
    by_cases n : i = j
    · subst n
      obtain ⟨q, hi⟩ := get_set_eq h
      cases q
    · rw [List.getElem?_set_ne n]
      exact s.sh j e (get_set_ne h n)
  ow := fun j e h => by
    by_cases n : i = j
    · subst n
      obtain ⟨q, hi⟩ := get_set_eq h
      cases q
      exact ⟨a, by rw [List.getElem?_set_self (by rw [← s.len]; exact hi)], r, nf, n0⟩
    · rw [List.getElem?_set_ne n]
      exact s.ow j e (get_set_ne h n)
  br := fun j e h => by
    by_cases n : i = j
    · subst n
      obtain ⟨q, hi⟩ := get_set_eq h
      cases q
    · rw [List.getElem?_set_ne n]
      exact s.br j e (get_set_ne h n)
  ne := fun j k d e b h1 h2 h3 h4 => by
    by_cases n : i = j
    · subst n
      by_cases m : i = k
      · exact m
      · exfalso
        obtain ⟨_, hi⟩ := get_set_eq h1
        rw [List.getElem?_set_self (by rw [← s.len]; exact hi)] at h3
        rw [List.getElem?_set_ne m] at h4
        cases h3
        exact hn k e (get_set_ne h2 m) (Ne.symm m) h4
    · by_cases m : i = k
      · subst m
        exfalso
        obtain ⟨_, hi⟩ := get_set_eq h2
        rw [List.getElem?_set_self (by rw [← s.len]; exact hi)] at h4
        rw [List.getElem?_set_ne n] at h3
        cases h4
        exact hn j d (get_set_ne h1 n) (Ne.symm n) h3
      · rw [List.getElem?_set_ne n] at h3
        rw [List.getElem?_set_ne m] at h4
        exact s.ne j k d e b (get_set_ne h1 n) (get_set_ne h2 m) h3 h4
/-- the object of slot i is frozen -/
def frzD (i : Nat) (δ : Dl) : Dl := match δ[i]? with
  | some (.ow d) => δ.set i (.sh d)
  | _ => δ
theorem Sok.frz (i : Nat) (s : Sok K F0 H0 F H σ δ) : ∃ F', Stay F H F' H ∧ Sok K F0 H0 F' H σ (frzD i δ) := by
  unfold frzD
  split
  · rename_i d e
    obtain ⟨a, ea, o, nf, n0⟩ := s.ow i d e
    obtain ⟨u, hu, _⟩ := o.there
    have g : Grow F0 H0 (plus F a) H := s.g.freeze n0 (by rw [hu]; exact fun z => nomatch z)
    refine ⟨plus F a, ⟨fun _ h => .inl h, Kept.refl⟩, ⟨by rw [List.length_set]; exact s.len, g, s.d0, fun x hx => ?_, fun j e' h => ?_, fun j e' h => ?_, fun j e' h => ?_, fun j k d1 e1 b h1 h2 h3 h4 => ?_⟩⟩
    · rcases hx with hx | hx
      · exact s.dom x hx
      · rw [hx, hu]; exact fun z => nomatch z
    · by_cases n : i = j
      · subst n
        obtain ⟨q, hi⟩ := get_set_eq h
        cases q
        exact ⟨_, ea, o.froz⟩
      · obtain ⟨v, e1, r⟩ := s.sh j e' (get_set_ne h n)
        exact ⟨v, e1, r.mono (fun _ x => .inl x) Kept.refl⟩
    · by_cases n : i = j
      · subst n
        obtain ⟨q, _⟩ := get_set_eq h
        cases q
      · obtain ⟨b, e1, ob, nb, nb0⟩ := s.ow j e' (get_set_ne h n)
        refine ⟨b, e1, ob.kept (fun _ x => .inl x) Kept.refl rfl, fun f => ?_, nb0⟩
        rcases f with f | f
        · exact nb f
        · subst f
          exact n (s.ne i j d e' b e (get_set_ne h n) ea e1)
    · by_cases n : i = j
      · subst n
        obtain ⟨q, _⟩ := get_set_eq h
        cases q
      · exact s.br j e' (get_set_ne h n)
    · by_cases n : i = j
      · subst n; obtain ⟨q, _⟩ := get_set_eq h1; cases q
      · by_cases m : i = k
        · subst m; obtain ⟨q, _⟩ := get_set_eq h2; cases q
        · exact s.ne j k d1 e1 b (get_set_ne h1 n) (get_set_ne h2 m) h3 h4
  · exact ⟨F, Stay.refl, s⟩

/-! ### small statements -/
variable {st : Stmt} {rest sts : List Stmt} {e : Expr} {pos : Pos} {f g : Dl → RS} {fe : Dl → Re PyData} {ft : Dl → Re Bool}
theorem vs_frz (i : Nat) (h : VSt X W st f) : VSt X W st (fun δ => f (frzD i δ)) := PS.imp h fun D σ H ⟨F0, H0, F, δ, s, q⟩ => by
  obtain ⟨F', g, s'⟩ := s.frz i
  exact ⟨F0, H0, F', _, s', q.stay g⟩
def seqS (f g : Dl → RS) (δ : Dl) : RS := (f δ).bnd g
theorem SO.seq {r : RS} (h : SO K W F0 H0 F H D (r.bnd g)) : SO K W F0 H0 F H { D with nx := tS K W g D } r := by
  cases r with
  | nx δ => exact fun F' H' σ' st s => ⟨F0, H0, F', δ, s, SO.stay (r := g δ) h st⟩
  | bk δ => exact h
  | ct δ => exact h
  | rt d => exact h
  | ex x => exact h
  | no => exact h
def nxS : Dl → RS := fun δ => .nx δ
theorem vss_nil : VSs X W [] nxS := PSs.imp pss_nil fun D σ H ⟨F0, H0, F, δ, s, q⟩ => q F H σ Stay.refl s
theorem vss_cons (h1 : VSt X W st f) (h2 : VSs X W rest g) : VSs X W (st :: rest) (seqS f g) := PSs.imp (pss_cons h1 h2) fun D σ H ⟨F0, H0, F, δ, s, q⟩ => ⟨F0, H0, F, δ, s, SO.seq q⟩
theorem vss_one (h1 : VSt X W st f) : VSs X W [st] f := pss_one h1
def bkS : Dl → RS := fun δ => .bk δ
def ctS : Dl → RS := fun δ => .ct δ
theorem vs_pass : VSt X W (.Pass pos) nxS := PS.imp ps_pass fun D σ H ⟨F0, H0, F, δ, s, q⟩ => q F H σ Stay.refl s
theorem vs_break : VSt X W (.Break pos) bkS := PS.imp ps_break fun D σ H ⟨F0, H0, F, δ, s, q⟩ => q F H σ Stay.refl s
theorem vs_continue : VSt X W (.Continue pos) ctS := PS.imp ps_continue fun D σ H ⟨F0, H0, F, δ, s, q⟩ => q F H σ Stay.refl s
def noS : Dl → RS := fun _ => .no
theorem vs_never : VSt X W st noS := PS.imp ps_never fun D σ H ⟨F0, H0, F, δ, s, q⟩ => q
theorem vss_never : VSs X W sts noS := PSs.imp pss_never fun D σ H ⟨F0, H0, F, δ, s, q⟩ => q
def retS (f : Dl → Re PyData) (δ : Dl) : RS := toS (f δ) .rt
theorem vs_ret (h : VE X W e fe) : VSt X W (.Return (some e) pos) (retS fe) := PS.imp (ps_ret h) fun D σ H ⟨F0, H0, F, δ, s, q⟩ =>
  ⟨F, δ, s.e, SO.go (P := pS X.K) s q fun d v F1 H1 e g p h1 => h1 v F1 H1 Stay.refl (s.g.trans g) p⟩
def retN : Dl → RS := fun _ => .rt .none
theorem vs_retN : VSt X W (.Return none pos) retN := PS.imp ps_retN fun D σ H ⟨F0, H0, F, δ, s, q⟩ => q _ F H Stay.refl s.g .non
/-- an expression whose value is dropped -/
def dropS (f : Dl → Re PyData) (δ : Dl) : RS := toS (f δ) fun _ => .nx δ
theorem vs_expr {P : PP} (h : VP X W P e fe) (hs : swapsWith e none pos.line X.env = pure false := by rfl) : VSt X W (.Expr e pos) (dropS fe) := PS.imp (ps_expr h hs) fun D σ H ⟨F0, H0, F, δ, s, q⟩ =>
  ⟨F, δ, s.e, SO.go (P := P) s q fun d v F1 H1 e g p h1 => h1 F1 H1 σ Stay.refl (s.grow g)⟩
def ifS (t : Dl → Re Bool) (f g : Dl → RS) (δ : Dl) : RS := toS (t δ) fun b => if b = true then f δ else g δ
theorem vs_if {c : Expr} {p q : List Stmt} (hc : VT X W c ft) (ha : VSs X W p f) (hb : VSs X W q g) : VSt X W (.If c p q pos) (ifS ft f g) := PS.imp (ps_if hc ha hb) fun D σ H ⟨F0, H0, F, δ, s, q⟩ =>
  ⟨F, δ, s.e, SO.goT s q fun b F1 H1 e g h1 => by
    cases b with
    | true => rw [if_pos rfl] at h1 ⊢; exact ⟨F0, H0, F1, δ, s.grow g, h1⟩
    | false => rw [if_neg Bool.false_ne_true] at h1 ⊢; exact ⟨F0, H0, F1, δ, s.grow g, h1⟩⟩
/-- x = e, the value shared; the new object its own -/
def setS (i : Nat) (f : Dl → Re PyData) (δ : Dl) : RS := toS (f δ) fun d => .nx (δ.set i (.sh d))
def setO (i : Nat) (f : Dl → Re PyData) (δ : Dl) : RS := toS (f δ) fun d => .nx (δ.set i (.ow d))
theorem Sok.notOwn {i : Nat} {a : Addr} (s : Sok K F0 H0 F H σ δ) (h : H a = none) : ∀ (j : Nat) (e : PyData), δ[j]? = some (Sl.ow e) → j ≠ i → σ[j]? ≠ some (some (.ref a)) := fun j e q _ z => by
  obtain ⟨b, e1, o, _⟩ := s.ow j e q
  rw [e1] at z
  cases z
  obtain ⟨u, hu, _⟩ := o.there
  rw [h] at hu; cases hu
theorem t_setS {i : Nat} {σ : L2.St} {H : Hp} (h : tS X.K W (setS i fe) D σ H) : tAsg (tP X.K W (pS X.K) fe) (gName i) D σ H := by
  obtain ⟨F0, H0, F, δ, s, q⟩ := h
  exact ⟨F, δ, s.e, SO.go (P := pS X.K) s q fun d v F1 H1 e g p h1 => h1 F1 H1 _ Stay.refl ((s.grow g).setSh p)⟩
theorem t_setO {i : Nat} {σ : L2.St} {H : Hp} (h : tS X.K W (setO i fe) D σ H) : tAsg (tP X.K W (pF X.K) fe) (gName i) D σ H := by
  obtain ⟨F0, H0, F, δ, s, q⟩ := h
  refine ⟨F, δ, s.e, SO.go (P := pF X.K) s q fun d v F1 H1 e g p h1 => ?_⟩
  obtain ⟨a, ea, hn, nf, o⟩ := p
  subst ea
  exact h1 F1 H1 _ Stay.refl ((s.grow g).setOw o nf (s.g.same.free hn) fun j e' q' nj => s.notOwn hn j e' q' nj)
theorem vs_set {i : Nat} {x : Str} {pos' : Pos} (hN : X.N.Nodup) (hi : X.N[i]? = some x) (hx : Loc X.env.scope x) (he : VE X W e fe) (hf : X.fn x = true ∨ X.env.scope.names.lookup x = some .local := by first | exact .inl rfl | exact .inr rfl) (hs : swapsWith e (some (.Name x pos')) pos.line X.env = pure false := by rfl) :
    VSt X W (.Assign [.Name x pos'] e pos) (setS i fe) := PS.imp (ps_set hN hi hx he hs hf) fun D σ H h => t_setS h
theorem vs_setO {i : Nat} {x : Str} {pos' : Pos} (hN : X.N.Nodup) (hi : X.N[i]? = some x) (hx : Loc X.env.scope x) (he : VF X W e fe) (hf : X.fn x = true ∨ X.env.scope.names.lookup x = some .local := by first | exact .inl rfl | exact .inr rfl) (hs : swapsWith e (some (.Name x pos')) pos.line X.env = pure false := by rfl) :
    VSt X W (.Assign [.Name x pos'] e pos) (setO i fe) := PS.imp (ps_set hN hi hx he hs hf) fun D σ H h => t_setO h
end
end VS
end
section
namespace VS
open PySem PySem.Spec PyProof.Rows L2

/-! ### exceptions -/
def EW (mg : Str → Option Value) (W : XW) : XK := fun cls d H => d = none ∧ ∃ nm, mg nm = some cls ∧ W (.mk nm []) H
def XOk (X : Cx) (W : XW) : Prop := Takes X fun cls d _ H => EW X.mg W cls d H
theorem xok0 {X : Cx} : XOk X XW0 := takes0.imp fun _ _ _ _ h => by obtain ⟨_, _, _, z⟩ := h; exact z
/-- the other way: what a def's caller wants -/
def EWI (mg : Str → Option Value) (E : XK) : XW := fun x H => match x with
  | .mk nm fs => fs = [] → ∀ cls, mg nm = some cls → E cls none H
theorem ewi_ew {mg : Str → Option Value} {W : XW} {x : Xn} {H : Hp} (h : W x H) : EWI mg (EW mg W) x H := by
  obtain ⟨nm, fs⟩ := x
  intro e cls hm
  subst e
  exact ⟨rfl, nm, hm, h⟩
theorem Go.ewi {mg : Str → Option Value} {W : XW} {P : PP} {F : Addr → Prop} {H : Hp} {r : Re D} {Q : VK} (h : Go W P F H r Q) : Go (EWI mg (EW mg W)) P F H r Q := by
  cases r with
  | ok d => exact h
  | ex x => exact fun F' H' g => ewi_ew (h F' H' g)
  | no => exact h

/-! ### a def -/
inductive ArgsR (K : PySem.W.Frag) (F : Addr → Prop) (H : Hp) : List V → List Sl → Prop
  | nil : ArgsR K F H [] []
  | sh {v : V} {vs : List V} {d : D} {δ : List Sl} : Rp K F H v d → ArgsR K F H vs δ → ArgsR K F H (v :: vs) (.sh d :: δ)
  | br {a : Addr} {vs : List V} {ns : List Int} {δ : List Sl} : ScrR K H a ns → ArgsR K F H vs δ → ArgsR K F H (.ref a :: vs) (.br ns :: δ)
theorem ArgsR.of {K : PySem.W.Frag} {F : Addr → Prop} {H : Hp} : ∀ {vs : List V} {ds : List D}, RpA K F H vs ds → ArgsR K F H vs (ds.map .sh)
  | _, _, .nil => .nil
  | _, _, .cons h t => .sh h (ArgsR.of t)
theorem ArgsR.length {K : PySem.W.Frag} {F : Addr → Prop} {H : Hp} : ∀ {vs : List V} {δ : List Sl}, ArgsR K F H vs δ → vs.length = δ.length
  | _, _, .nil => rfl
  | _, _, .sh _ t => congrArg (· + 1) t.length
  | _, _, .br _ t => congrArg (· + 1) t.length
theorem ArgsR.at {K : PySem.W.Frag} {F : Addr → Prop} {H : Hp} : ∀ {vs : List V} {δ : List Sl}, ArgsR K F H vs δ → ∀ (i : Nat) (s : Sl), δ[i]? = some s → ∃ v, vs[i]? = some v ∧ ((∃ d, s = .sh d ∧ Rp K F H v d) ∨ ∃ ns a, s = .br ns ∧ v = .ref a ∧ ScrR K H a ns)
  | _, _, .nil, i, s, e => by simp at e
  | _, _, .sh h t, 0, s, e => by simp at e; subst e; exact ⟨_, rfl, .inl ⟨_, rfl, h⟩⟩
  | _, _, .br h t, 0, s, e => by simp at e; subst e; exact ⟨_, rfl, .inr ⟨_, _, rfl, rfl, h⟩⟩
  | _, _, .sh h t, i + 1, s, e => by
    obtain ⟨v, e1, q⟩ := ArgsR.at t i s (by simpa using e)
    exact ⟨v, by simpa using e1, q⟩
  | _, _, .br h t, i + 1, s, e => by
    obtain ⟨v, e1, q⟩ := ArgsR.at t i s (by simpa using e)
    exact ⟨v, by simpa using e1, q⟩
/-- a def's promise -/
def SpG (K : PySem.W.Frag) (mg : Str → Option Value) (n : Nat) (f : List Sl → Re D) : Sp := fun vs H Q E => vs.length = n ∧ ∃ F δ, Dom F H ∧ ArgsR K F H vs δ ∧ Go (EWI mg E) (pS K) F H (f δ) Q
/-- a body's outcome as a call's -/
def outR : RS → Re D
  | .nx _ => .ok .none
  | .rt d => .ok d
  | .ex x => .ex x
  | _ => .no
@[simp] theorem outR_nx (δ : Dl) : outR (.nx δ) = .ok .none := Eq.trans rfl (Eq.refl _)
@[simp] theorem outR_rt (d : D) : outR (.rt d) = .ok d := Eq.trans rfl (Eq.refl _)
@[simp] theorem outR_ex (x : Xn) : outR (.ex x) = .ex x := Eq.trans rfl (Eq.refl _)
def fnR (b : Dl → RS) (m : Nat) (δ : List Sl) : Re D := outR (b (δ ++ List.replicate m .no))
theorem start_sok {K : PySem.W.Frag} {F : Addr → Prop} {H : Hp} {N : List Str} {vs : List V} {δ : List Sl} {n m : Nat} (dm : Dom F H) (r : ArgsR K F H vs δ) (hl : vs.length = n) (hN : N.length = n + m) : Sok K F H F H (L2.start N vs) (δ ++ List.replicate m .no) := by
  have e1 := r.length
  have fst : ∀ (i : Nat) (s : Sl), (δ ++ List.replicate m Sl.no)[i]? = some s → s ≠ .no → ∃ v, (L2.start N vs)[i]? = some (some v) ∧ ((∃ d, s = .sh d ∧ Rp K F H v d) ∨ ∃ ns a, s = .br ns ∧ v = .ref a ∧ ScrR K H a ns) := fun i s e hs => by
    have hi : i < δ.length := by
      by_cases hi : i < δ.length
      · exact hi
      · rw [List.getElem?_append_right (by omega), List.getElem?_replicate] at e
        split at e
        · exact (hs (Option.some.inj e).symm).elim
        · cases e
    rw [List.getElem?_append_left hi] at e
    obtain ⟨v, ev, q⟩ := r.at i s e
    refine ⟨v, ?_, q⟩
    unfold L2.start
    rw [List.getElem?_append_left (by rw [List.length_map]; omega), List.getElem?_map, ev]
    rfl
  refine ⟨?_, Grow.refl, dm, dm, fun i d e => ?_, fun i d e => ?_, fun i ns e => ?_, fun i j d e a h _ _ _ => ?_⟩
  · unfold L2.start
    rw [List.length_append, List.length_append, List.length_map, List.length_replicate, List.length_replicate]
    omega
  · obtain ⟨v, ev, q⟩ := fst i _ e (fun z => nomatch z)
    rcases q with ⟨d', z, r⟩ | ⟨_, _, z, _⟩
    · cases z; exact ⟨v, ev, r⟩
    · cases z
  · obtain ⟨v, ev, q⟩ := fst i _ e (fun z => nomatch z)
    rcases q with ⟨d', z, r⟩ | ⟨_, _, z, _⟩ <;> cases z
  · obtain ⟨v, ev, q⟩ := fst i _ e (fun z => nomatch z)
    rcases q with ⟨d', z, r⟩ | ⟨ns', a, z, ez, r⟩
    · cases z
    · cases z; subst ez; exact ⟨a, ev, r⟩
  · obtain ⟨v, ev, q⟩ := fst i _ h (fun z => nomatch z)
    rcases q with ⟨d', z, r⟩ | ⟨_, _, z, _⟩ <;> cases z
section
variable {P : Program} {w : World} {K : PySem.W.Frag} {mg : Str → Option Value} {base : Heap} {x qual : Str} {params : Arguments} {body : List Stmt} {scope : Scope} {f : Addr} {fd : FuncData} {N ps : List Str} {k m : Nat} {b : Dl → RS}
theorem fn_vs (F : FunD K x qual params body scope [] [] f fd) (S : FnScope N ps scope) (hm : N.length = ps.length + m)
    (hb : ∀ (cdv : Value) (A : Around) (outer : List Env) (s : Shared) (H : Hp) (E : XK) (W : XW), Room k (A.deeper (envOfC qual scope s.heap.objs.size f cdv)) → XOk (cxOf (L2.CX P w) P w K mg base N qual scope f cdv A outer s H E) W →
      VSs (cxOf (L2.CX P w) P w K mg base N qual scope f cdv A outer s H E) W body b) :
    FnOk P w K mg base (L2.CX P w) (k + 1) f fd ps (SpG K mg ps.length (fnR b m)) := by
  refine F.ok S (fun vs H Q E h => h.1) fun cdv A outer s H vs Q E hr h => ?_
  have tk : XOk (cxOf (L2.CX P w) P w K mg base N qual scope f cdv A outer s H E) (EWI mg E) :=
    (takes_of (X := cxOf (L2.CX P w) P w K mg base N qual scope f cdv A outer s H E) rfl rfl rfl rfl).imp fun cls d _ H' ⟨ed, nm, em, q⟩ => by
      subst ed
      exact q rfl cls em
  refine ⟨_, hb cdv A outer s H E _ hr tk, ?_⟩
  obtain ⟨hl, F1, δ, dm, r, g⟩ := h
  refine ⟨F1, H, F1, _, start_sok dm r hl hm, ?_⟩
  unfold fnR at g
  generalize b (δ ++ List.replicate m .no) = o at g ⊢
  cases o with
  | nx δ' => exact fun F' H' σ' _ s => g .non F' H' s.g .non
  | rt d => exact fun v F' H' _ g' r => g v F' H' g' r
  | ex x => exact fun F' H' _ g' => g F' H' g'
  | bk δ' => exact g.elim
  | ct δ' => exact g.elim
  | no => exact g.elim
theorem fn_zero {k : Nat} {ps : List Str} (n : Nat) (hn : ∀ vs : List V, vs.length = n → vs.length = ps.length) : FnOk P w K mg base (L2.CX P w) k f fd ps (SpG K mg n fun _ => .no) :=
  ⟨fun vs H Q E h => hn vs h.1, fun A outer s H args us vs Q E _ _ _ _ h => by obtain ⟨_, _, _, _, _, z⟩ := h; exact z.elim⟩
end

/-! ### a call -/
section
variable {X : Cx} {W : XW} {k : Nat} {f : Addr} {fd : FuncData} {ps : List Str} {g : List Sl → Re D} {x : Str} {p pos : Pos} {e : Expr} {es : List Expr} {fl : List (Dl → Re D)}
theorem passesW (tk : XOk X W) : Passes (L2.CX X.prog X.w) X (EW X.mg W) := passes_call tk fun _ _ _ _ h => h
theorem argsF_len : ∀ {fl : List (Dl → Re D)} {δ : Dl} {ds : List D}, argsF fl δ = .ok ds → ds.length = fl.length
  | [], δ, ds, h => by
    unfold argsF at h
    cases h; rfl
  | f :: fl, δ, ds, h => by
    unfold argsF at h
    cases e1 : f δ with
    | no => rw [e1] at h; cases h
    | ex x => rw [e1] at h; cases h
    | ok d =>
      rw [e1] at h
      change ((argsF fl δ).bnd fun ds => .ok (d :: ds)) = _ at h
      cases e2 : argsF fl δ with
      | no => rw [e2] at h; cases h
      | ex x => rw [e2] at h; cases h
      | ok ds' =>
        rw [e2] at h
        cases h
        show ds'.length + 1 = fl.length + 1
        rw [argsF_len e2]
def cD (g : List Sl → Re D) (ds : List D) : Re D := g (ds.map .sh)
/-- what a def of ours is to a caller -/
structure FnE (P : Program) (w : World) (K : PySem.W.Frag) (mg : Str → Option Value) (base : Heap) (k : Nat) (x : Str) (n : Nat) (g : List Sl → Re D) : Prop where
  ex : ∃ f fd ps, FnOk P w K mg base (L2.CX P w) k f fd ps (SpG K mg n g) ∧ mg x = some (.ref f) ∧ PySem.W.keepIn K (.ref f) = true ∧ Binds K fd ps []
abbrev Fn (X : Cx) (k : Nat) (x : Str) (n : Nat) (g : List Sl → Re D) : Prop := FnE X.prog X.w X.K X.mg X.base k x n g
theorem ve_call (FN : Fn X k x fl.length g) (hr : Room k X.A) (tk : XOk X W) (hg : Gl X x) (ha : VA X W Rp (e :: es) (argsF fl))
    (hdb : (x == ("__debug__" : Str)) = false := by decide) (he : starEach (e :: es) X.env = (false, eval e X.env) :: starEach es X.env := by rfl) (hpl : (backTo pos (starEach es X.env)).any (·.1) = false := by rfl) :
    VE X W (.Call (.Name x p) (e :: es) [] pos) (dA (argsF fl) (cD g)) := by
  obtain ⟨f, fd, ps, F, hm, hk, hb⟩ := FN.ex
  refine PE.imp (pe_call F hr hg hm hk hb .nil (passesW tk) ha hdb he hpl) fun σ H Q ⟨F1, δ, s, h⟩ => ⟨F1, δ, s, GoA.bnd (X := X) pS_mon h fun ds vs F2 H2 eq g2 r h1 => ?_⟩
  rw [List.append_nil]
  exact ⟨by rw [r.a.length, argsF_len eq], F2, _, g2.dom s.dom, ArgsR.of r.a, Go.ewi h1⟩
/-- f(script, n) -/
def dScr (i : Nat) (fb : Dl → Re D) (g : List Sl → Re D) (δ : Dl) : Re D := match δ[i]? with
  | some (.br ns) => (fb δ).bnd fun d => g [.br ns, .sh d]
  | _ => .no
theorem ve_callScr {i : Nat} {y : Str} {py : Pos} {e2 : Expr} {fb : Dl → Re D} (FN : Fn X k x 2 g) (hr : Room k X.A) (tk : XOk X W) (hg : Gl X x) (hy : PE X (.Name y py) (tVar i)) (h2 : VE X W e2 fb)
    (hdb : (x == ("__debug__" : Str)) = false := by decide) (he : starEach [.Name y py, e2] X.env = (false, eval (.Name y py) X.env) :: starEach [e2] X.env := by rfl) (he2 : starEach [e2] X.env = (false, eval e2 X.env) :: starEach [] X.env := by rfl) (hpl : (backTo pos (starEach [e2] X.env)).any (·.1) = false := by rfl) :
    VE X W (.Call (.Name x p) [.Name y py, e2] [] pos) (dScr i fb g) := by
  obtain ⟨f, fd, ps, F, hm, hk, hb⟩ := FN.ex
  refine PE.imp (pe_call F hr hg hm hk hb .nil (passesW tk) (pa_cons hy (pa_cons h2 pa_nil he2) he) hdb he hpl) fun σ H Q ⟨F1, δ, s, h⟩ => ?_
  unfold dScr at h
  split at h
  · rename_i ns en
    obtain ⟨a, ea, ra⟩ := s.sl i _ en
    refine ⟨_, ea, F1, δ, s, Go.bnd pS_mon h fun d v F2 H2 eq g2 r h1 => ?_⟩
    exact ⟨rfl, F2, _, g2.dom s.dom, .br (ra.keep fun b o e _ => g2.same b o e) (.sh r .nil), Go.ewi h1⟩
  · exact h.elim
end

/-! ### raise, try -/
section
variable {X : Cx} {W : XW} {F0 : Addr → Prop} {H0 : Hp} {F : Addr → Prop} {H : Hp} {D : Ends}
def raiS (nm : Str) (_ : Dl) : RS := .ex (.mk nm [])
theorem vs_raise {C : Addr} {bmB : List Value} {B newId initId : String} {x m : Str} {j : Nat} {p p2 pos pos' : Pos} (hc : X.calm = true) (tk : XOk X W) (Fb : ExcBaseFacts B newId initId bmB) (q : PySem.W.excIn X.K C bmB newId = true) (gC : X.mg x = some (.ref C)) (kC : PySem.W.keepIn X.K (.ref C) = true)
    (r : Raises X (.ref C)) (hg : Gl X x) (hdb : (x == ("__debug__" : Str)) = false := by decide) : VSt X W (.Raise (some (.Call (.Name x p) [.Constant (.str m) j p2] [] pos')) none pos) (raiS x) :=
  PS.imp (ps_raise hc tk (pmk_own Fb q gC kC r hg hdb)) fun D σ H ⟨F0, H0, F, δ, s, q⟩ => ⟨rfl, x, gC, q F H Stay.refl s.g⟩
/-- the clauses: which exceptions each takes, what it returns -/
def tryH : List (List (Str × Bool) × PyData) → Xn → RS
  | [], x => .ex x
  | (t, d) :: r, .mk nm fs => if fs = [] then (match t.lookup nm with
    | some true => .rt d
    | some false => tryH r (.mk nm fs)
    | none => .no) else .no
def tryS (f : Dl → RS) (hs : List (List (Str × Bool) × PyData)) (δ : Dl) : RS := match f δ with
  | .ex x => tryH hs x
  | r => r
/-- the clauses as they stand -/
inductive HdV (X : Cx) : List ExceptHandler → List (List (Str × Bool) × PyData) → List (Value × (Addr → Value → Option Addr → TS)) → Prop
  | nil : HdV X [] [] []
  | cons {x : Str} {c : Value} {b₀ : Stmt} {suite : List Stmt} {np pos' : Pos} {hds : List ExceptHandler} {t : List (Str × Bool)} {d : PyData} {h : Dl → RS} {r l} (hc : Names X x c)
      (ht : ∀ nm b, t.lookup nm = some b → ∀ cls, X.mg nm = some cls → PySem.W.exmOne X.K cls c = some b) (hd : ∀ n, h (List.replicate n Sl.no) = .rt d)
      (hsu : ∀ (a : Addr) (pn : List (Addr × Obj)), VSs (X.suite a pn) XW0 (b₀ :: suite) h) (hr : HdV X hds r l) :
      HdV X (.ExceptHandler (some (.Name x np)) none (b₀ :: suite) pos' :: hds) ((t, d) :: r) ((c, fun _ _ _ => tS X.K XW0 h) :: l)
theorem HdV.ok {hds : List ExceptHandler} {hs l} (h : HdV X hds hs l) : HdsOk X hds l := by
  induction h with
  | nil => exact .nil
  | cons hc ht hd hsu hr ih => exact .cons hc (fun a oe cls d pn _ _ => hsu a _) ih
theorem wish_ok {hds : List ExceptHandler} {hs l} (h : HdV X hds hs l) (d0 : Dom F0 H0) {x : Xn} : SO X.K W F0 H0 F H D (tryH hs x) → ∀ F' H', Stay F H F' H' → Grow F0 H0 F' H' → ∀ nm, x = .mk nm [] → ∀ cls σ, X.mg nm = some cls → wMany X.K (fun cls d _ H => EW X.mg W cls d H) D l cls none σ H' := by
  induction h with
  | nil =>
    intro q F' H' st g nm e cls σ hm
    subst e
    exact ⟨rfl, nm, hm, q F' H' st g⟩
  | cons hc ht hd hsu hr ih =>
    rename_i t d h r l
    intro q F' H' st g nm e cls σ hm
    subst e
    unfold tryH at q
    rw [if_pos rfl] at q
    cases el : t.lookup nm with
    | none => rw [el] at q; exact q.elim
    | some b =>
      rw [el] at q
      refine ⟨b, ht nm b el cls hm, fun hb a na => ?_, fun hb => ?_⟩
      · subst hb
        refine ⟨F0, H0, F', List.replicate σ.length .no, ⟨by rw [List.length_replicate], g, d0, g.dom d0, fun i d e => ?_, fun i d e => ?_, fun i d e => ?_, fun i j d e a h _ _ _ => ?_⟩, ?_⟩
        · rw [List.getElem?_replicate] at e; split at e <;> cases e
        · rw [List.getElem?_replicate] at e; split at e <;> cases e
        · rw [List.getElem?_replicate] at e; split at e <;> cases e
        · rw [List.getElem?_replicate] at h; split at h <;> cases h
        · rw [hd]
          exact fun v F2 H2 st2 g2 rv => q v F2 H2 (st.trans st2) g2 rv
      · subst hb
        exact ih q F' H' st g nm rfl cls σ hm
def WB (mg : Str → Option Value) (W : WX) : XW := fun x H => ∀ nm, x = .mk nm [] → ∀ cls σ, mg nm = some cls → W cls none σ H
theorem vs_try {body : List Stmt} {h₀ : ExceptHandler} {hds : List ExceptHandler} {pos : Pos} {f : Dl → RS} {hs l} (hst : X.stack = X.env :: X.outer) (hf : X.env.frame = some X.env.locals) (tk : XOk X W)
    (hb : ∀ (pn : List (Addr × Obj)) (xe : Value → Shared → Prop) (W' : XW), XOk (X.tr pn xe) W' → PassesOwn (model X.prog X.w) X.A X.env xe → VSs (X.tr pn xe) W' body f) (hh : HdV X (h₀ :: hds) hs l) : VSt X W (.Try body (h₀ :: hds) [] [] pos) (tryS f hs) := by
  refine PS.imp (ps_try_many hst hf tk (tb := fun W' => tS X.K (WB X.mg W') f) (fun W' pn xe tk' hp => hb pn xe _ (tk'.imp fun cls d σ H ⟨ed, nm, hm, q⟩ => by subst ed; exact q nm rfl cls σ hm) hp) hh.ok) fun D σ H ⟨F0, H0, F, δ, s, q⟩ => ⟨F0, H0, F, δ, s, ?_⟩
  unfold tryS at q
  generalize f δ = o at q ⊢
  cases o with
  | nx δ' => exact q
  | rt d => exact q
  | bk d => exact q
  | ct d => exact q
  | no => exact q
  | ex x => exact fun F' H' st g nm e cls σ' hm => wish_ok hh s.d0 q F' H' st g nm e cls σ' hm
end
end VS
end
section
namespace VS
open PySem PySem.Spec PyProof.Rows L2 RZ

/-! ### enumerate over a tuple -/
set_option maxHeartbeats 1000000 in
theorem enumNew1 {v : Value} {ob : Obj} {Hc : Heap → Prop} (B : Begins v ob Hc) :
    Meets (Builtin.«enumerate.__new__» ⟨[.type "enumerate", v], []⟩) (fun _ R s => Hc s.heap ∧
      R (.ok (.ret (.ref (s.heap.push ob).objs.size))) { s with heap := (s.heap.push ob).push { cls := .type "enumerate", data := .fields #[.none, .bool false, .ref s.heap.objs.size, rawInt 0, .none, .none] } }) :=
  .of_wp fun prog w A R s hall => by
    obtain ⟨hp, g, d, tk, os⟩ := s; obtain ⟨hv, hall⟩ := hall
    have en := sub_enumerate
    have step : ∀ {A' : Around} {E : Value → Shared → Prop} {Q : Value → Shared → Prop}, Q (.ref hp.objs.size) ⟨hp.push ob, g, d, tk, os⟩ → wpAny (model prog w) A' (pyIter v) Q E ⟨hp, g, d, tk, os⟩ :=
      fun q => B.iter prog w _ _ ⟨hp, g, d, tk, os⟩ _ hv q
    wp_walk using step
    refine wpAny_stack_any fun stk => wpAny_pure ?_
    split
    · rename_i cc _ _ _ _ _
      cases (cc == Value.type "enumerate")
      · wp_walk using step
        exact ⟨_, rfl, hall⟩
      · wp_walk using step
        exact ⟨_, rfl, hall⟩
    · wp_walk using step
      exact ⟨_, rfl, hall⟩
theorem enumBegin1 {prog : Program} {w : World} {A : Around} {E : Value → Shared → Prop} {s : Shared} {v : Value} {ob : Obj} {Hc : Heap → Prop} {Q : Value → Shared → Prop} (B : Begins v ob Hc) (hv : Hc s.heap)
    (fin : ∀ h', IsEnum h' (s.heap.objs.size + 1) s.heap.objs.size 0 .none → h'.get? s.heap.objs.size = some ob → (∀ b o, s.heap.get? b = some o → h'.get? b = some o) → Q (.ref (s.heap.objs.size + 1)) { s with heap := h' }) :
    wpAny (model prog w) A (call (.type "enumerate") [v]) Q E s := by
  refine callType_new F.called_enumerate (by decide) (F.typeCall_enumerate_1 _) (F.newCall_enumerate_1 _) (fun o => F.args_object_init_2 o _) F.entry_enumerate_new (enumNew1 B) ⟨hv, ?_⟩
  have sz : (s.heap.push ob).objs.size = s.heap.objs.size + 1 := Heap.size_push ..
  show _ ∧ _
  rw [sz]
  have ie : IsEnum ((s.heap.push ob).push { cls := .type "enumerate", data := .fields #[.none, .bool false, .ref s.heap.objs.size, rawInt 0, .none, .none] }) (s.heap.objs.size + 1) s.heap.objs.size 0 .none := by
    have q := Heap.get?_push_size (s.heap.push ob) (o := { cls := .type "enumerate", data := .fields #[.none, .bool false, .ref s.heap.objs.size, rawInt 0, .none, .none] }) rfl
    rw [sz] at q; exact q
  exact ⟨⟨_, ie, rfl⟩, fin _ ie (Heap.get?_push_of_some _ (Heap.get?_push_size _ B.free)) fun b o x => Heap.get?_push_of_some _ (Heap.get?_push_of_some _ x)⟩
/-- the tuple at a, each item in a new pair -/
def IteT (K : PySem.W.Frag) (a : Addr) : It :=
  ⟨fun i H => ∃ (xs : List V) (x : V), SqT K H a xs ∧ xs[i]? = some x, fun i H v H' => ∃ T x, v = .ref T ∧ H T = none ∧ H' = upd H T (.tup [.int (i : Nat), x]) ∧ ∀ xs, SqT K H a xs → xs[i]? = some x, fun i H => ∃ xs : List V, SqT K H a xs ∧ xs.length = i⟩
theorem turn_enumT {P : Program} {w : World} {K : PySem.W.Frag} {elts : List Expr} {kk : Nat} {tpos : Pos} (a e it : Addr) :
    Turn P w K (.Tuple elts kk tpos) (IteT K a) [e, it] e (fun i h => (∃ old, IsEnum h e it ((i : Nat) : Int) old) ∧ h.IsTupleIter it a i ∧ e ≠ it) where
  mem := by simp
  obj := fun i h st b hb => by
    obtain ⟨⟨old, he⟩, ⟨o, ho, hc, hd⟩, _⟩ := st
    have eb : b = e ∨ b = it := by simpa using hb
    rcases eb with z | z
    · rw [z]; exact ⟨_, he, fun v q => nomatch q⟩
    · rw [z]; exact ⟨o, ho, fun v q => by rw [hd] at q; cases q⟩
  keep := fun i h h' st k => let ⟨⟨old, he⟩, hi, hne⟩ := st; ⟨⟨old, k e (by simp) _ he⟩, hi.at fun o q => k it (by simp) o q, hne⟩
  item := by
    intro X hP hw hK hc i pins s σ H E I hf st hg
    subst hP hw hK
    obtain ⟨⟨old, he⟩, hit, hne⟩ := st
    obtain ⟨xs, x, hq, hx⟩ := hg
    obtain ⟨its, rv, p, hz⟩ := I.tuple hq
    obtain ⟨u, hu, ru⟩ := rv.get hx
    have pT : s.heap.IsTuple a its.toArray := p
    have hel : e < s.heap.objs.size := Heap.lt_size he
    have hil : it < s.heap.objs.size := by obtain ⟨_, q, _⟩ := hit; exact Heap.lt_size q
    have ait : a ≠ it := fun z => by
      obtain ⟨o1, q1, c1, _⟩ := hit
      obtain ⟨o2, q2, c2, _⟩ := p
      rw [z, q1] at q2
      cases q2
      rw [c1] at c2
      exact absurd c2 (by decide)
    have ae : e ≠ a := fun z => by
      obtain ⟨o2, q2, c2, _⟩ := p
      rw [← z, he] at q2
      cases q2
      have c3 : Value.type "enumerate" = Value.type "tuple" := c2
      exact absurd c3 (by decide)
    have hil2 : i < its.toArray.size := by
      have := (List.getElem?_eq_some_iff.mp hu).1
      simpa using this
    have D := Draws.tuple (prog := X.prog) (w := X.w) (A := X.A.in1) (I.ok.hd hc) it a ait its.toArray
    refine wpAny_pyNext_enum_itemD D he ⟨hit, pT⟩ hil2 hne (by simp [hne, ae]) fun x' h' tk hP' ho hst' hT hsz hk => ?_
    have ex : x' = u := by
      have : its[i]? = some x' := by simpa using hP'
      rw [hu] at this
      exact (Option.some.inj this).symm
    subst ex
    refine ⟨_, rfl, wpAny_letOwnedTupleGo_enum (s := { s with heap := h', toks := tk + 1 }) ho fun h2 he' sb => ?_⟩
    have hT2 : h2.get? s.heap.objs.size = some { cls := .type "tuple", data := .seq #[.int i tk, x'] } := (sb.2 _ (Nat.ne_of_gt hel)).trans hT
    have new : ObjOk X.prog X.w (upd H s.heap.objs.size (.tup [.int (i : Nat), x])) h2 s.heap.objs.size (.tup [.int (i : Nat), x]) :=
      ⟨by show 2 ≤ sizeLine; decide, [.int i tk, x'], .cons ⟨_, rfl⟩ (.cons ru .nil), ⟨_, hT2, rfl, _, rfl⟩⟩
    have I1 : Inv X pins σ (upd H s.heap.objs.size (.tup [.int (i : Nat), x])) { s with heap := h2, toks := tk + 1 } :=
      I.turnedNew (ch := [e, it]) (fun b ob hb q => (sb.2 b (fun z => hb (by simp [z]))).trans (hk b ob (fun z => hb (by simp [z])) (fun z => hb (by simp [z])) q)) hf (Nat.le_refl _) new
    refine ⟨.ref s.heap.objs.size, _, I1, rfl, ⟨_, x, rfl, I.hok.fresh (Nat.le_refl _), rfl, fun ys hy => by rw [I.tuple_inj hy hq]; exact hx⟩, ⟨⟨x', ?_⟩, hst'.1.at fun o q => (sb.2 it (Ne.symm hne)).trans q, hne⟩, fun b hb => ?_⟩
    · have e1 : ((i + 1 : Nat) : Int) = (i : Int) + 1 := by omega
      rw [e1]; exact he'
    · have hb' : b < s.heap.objs.size := by
        have eb : b = e ∨ b = it := by simpa using hb
        rcases eb with z | z
        · rw [z]; exact hel
        · rw [z]; exact hil
      rw [upd_ne (Nat.ne_of_lt hb')]
      exact (hf b hb).1
  done := by
    intro X hP hw hK hc i pins s σ H E I hf st hg
    subst hP hw hK
    obtain ⟨⟨old, he⟩, hit, hne⟩ := st
    obtain ⟨xs, hq, hx⟩ := hg
    obtain ⟨its, rv, p, hz⟩ := I.tuple hq
    have pT : s.heap.IsTuple a its.toArray := p
    obtain ⟨f0, f1, f2, f3, f4, f5⟩ := hf it (by simp)
    have hl := rv.length
    have ait : a ≠ it := fun z => by
      obtain ⟨o1, q1, c1, _⟩ := hit
      obtain ⟨o2, q2, c2, _⟩ := p
      rw [z, q1] at q2
      cases q2
      rw [c1] at c2
      exact absurd c2 (by decide)
    have D := Draws.tuple (prog := X.prog) (w := X.w) (A := X.A.in1) (I.ok.hd hc) it a ait its.toArray
    have ei : i = its.toArray.size := by simp; omega
    exact wpAny_pyNext_enum_endD D he ⟨ei ▸ hit, pT⟩ fun h' eb => ⟨rfl, I.turned (t' := s.toks) (fun b o hb q => eb b o hb q) f0 f1 f3 f4 f5⟩
  self := fun A i s Q E st h => let ⟨⟨_, he⟩, _⟩ := st; wpAny_pyIter_enum he h
def iEnumA (K : PySem.W.Frag) (ta : TA) : TI := fun σ H R => ta σ H fun vs H1 => ∃ a xs, vs = [.ref a] ∧ ((SqL K H1 a xs ∧ R (Ite K a) H1) ∨ (SqT K H1 a xs ∧ R (IteT K a) H1))
theorem pi_enumA {X : Cx} {e : Expr} {ta : TA} {p pos tpos : Pos} {elts : List Expr} {kk : Nat} (hg : Gl X "enumerate") (hm : X.mg "enumerate" = none) (ha : PA X [e] ta) (hs : starEach [e] X.env = [(false, eval e X.env)] := by rfl) :
    PI X (.Tuple elts kk tpos) (.Call (.Name "enumerate" p) [e] [] pos) (iEnumA X.K ta) := by
  refine ⟨fun pins s σ H R I h => ?_⟩
  refine Call_ (ld_blt I hg hm boot_enumerate (PyProof.Rows.callWith_type1 (thn (ha.run pos pins s σ H _ I h) fun us s1 ⟨vs, H1, I1, r1, q1⟩ => ?_) hs rfl))
  obtain ⟨a, xs, ex, q⟩ := q1
  subst ex
  cases r1 with
  | cons r rr =>
    cases rr
    cases r
    have fp : ∀ b ∈ [s1.heap.objs.size + 1, s1.heap.objs.size], FpOk X pins H1 b := fun b hb => by
      have eb : b = s1.heap.objs.size + 1 ∨ b = s1.heap.objs.size := by simpa using hb
      have hle : s1.heap.objs.size ≤ b := by
        rcases eb with z | z
        · rw [z]; exact Nat.le_add_right _ _
        · rw [z]; exact Nat.le_refl _
      exact I1.fpOk hle (I1.hok.fresh hle)
    rcases q with ⟨hq, q⟩ | ⟨hq, q⟩
    · obtain ⟨its, rv, pl, hz⟩ := I1.list hq
      refine enumBegin1 (begins_list a its.toArray) pl.isList fun h' he hit hk => wpAny_pyIter_enum he ?_
      have I2 : Inv X pins σ H1 { s1 with heap := h' } := I1.kept (t' := s1.toks) hk
      exact ⟨s1.heap.objs.size + 1, [s1.heap.objs.size + 1, s1.heap.objs.size], _, _, H1, rfl, I2, turn_enum a (s1.heap.objs.size + 1) s1.heap.objs.size, ⟨⟨.none, he⟩, ⟨_, hit, rfl, rfl⟩, Nat.succ_ne_self _⟩, fp, q⟩
    · obtain ⟨its, rv, pl, hz⟩ := I1.tuple hq
      refine enumBegin1 (begins_tuple a its.toArray) (show s1.heap.IsTuple a its.toArray from pl) fun h' he hit hk => wpAny_pyIter_enum he ?_
      have I2 : Inv X pins σ H1 { s1 with heap := h' } := I1.kept (t' := s1.toks) hk
      exact ⟨s1.heap.objs.size + 1, [s1.heap.objs.size + 1, s1.heap.objs.size], _, _, H1, rfl, I2, turn_enumT a (s1.heap.objs.size + 1) s1.heap.objs.size, ⟨⟨.none, he⟩, ⟨_, hit, rfl, rfl⟩, Nat.succ_ne_self _⟩, fp, q⟩

/-! ### a list, a tuple, a text -/
theorem pi_any {X : Cx} {tg l : Expr} {tl : TE} (hl : PE X l tl) : PI X tg l (fun σ H R => tl σ H fun x H1 => (∃ a xs, x = .ref a ∧ SqL X.K H1 a xs ∧ R (Itl X.K a) H1) ∨ (∃ a xs, x = .ref a ∧ SqT X.K H1 a xs ∧ R (Itt X.K a) H1) ∨ ∃ z, x = .str z ∧ R (Its z) H1) := by
  refine ⟨fun pins s σ H R I h => ?_⟩
  refine thn (hl.run pins s σ H _ I h) fun v s1 ⟨x, H1, I1, r1, q1⟩ => ?_
  rcases q1 with ⟨a, xs, ea, hq, q⟩ | ⟨a, xs, ea, hq, q⟩ | ⟨z, ez, q⟩
  · subst ea
    cases r1
    obtain ⟨its, rv, p, hz⟩ := I1.list hq
    exact wpAny_pyIter_list p.isList (pi_one (tk := s1.toks) I1 _ (turn_list a _) ⟨_, Heap.get?_push_size _ rfl, rfl, rfl⟩ q)
  · subst ea
    cases r1
    obtain ⟨its, rv, p, hz⟩ := I1.tuple hq
    exact wpAny_pyIter_tuple (show s1.heap.IsTuple a its.toArray from p) (pi_one (tk := s1.toks) I1 _ (turn_tuple a _) ⟨_, Heap.get?_push_size _ rfl, rfl, rfl⟩ q)
  · subst ez
    obtain ⟨t, rfl⟩ := r1
    cases ha : z.cps.all (· < 128)
    · exact wpAny_pyIter_wide ha (pi_one (tk := s1.toks) I1 _ (turn_str _ z t "str_iterator" (.inr rfl)) ⟨_, Heap.get?_push_size _ rfl, rfl, rfl⟩ q)
    · exact wpAny_pyIter_ascii ha (pi_one (tk := s1.toks) I1 _ (turn_str _ z t "str_ascii_iterator" (.inl rfl)) ⟨_, Heap.get?_push_size _ rfl, rfl, rfl⟩ q)

/-! ### what a loop walks, by values -/
structure Walk (K : PySem.W.Frag) (F : Addr → Prop) (H : Hp) (J : It) (ds : List D) : Prop where
  go : ∀ F' H' i, Stay F H F' H' → i < ds.length → J.go i H'
  stop : ∀ F' H', Stay F H F' H' → J.stop ds.length H'
  yld : ∀ F' H' i x H2 d, Stay F H F' H' → Dom F' H' → ds[i]? = some d → J.yld i H' x H2 → ∃ F2, Grow F' H' F2 H2 ∧ Rp K F2 H2 x d
def tI (K : PySem.W.Frag) (W : XW) (f : Dl → Re (List D)) : TI := fun σ H R => ∃ F δ, SokE K F H σ δ ∧ ReW W F H (f δ) fun ds => ∀ J F' H', Grow F H F' H' → Walk K F' H' J ds → R J H'
abbrev VI (X : Cx) (W : XW) (tg it : Expr) (f : Dl → Re (List D)) : Prop := PI X tg it (tI X.K W f)
theorem PI.imp {X : Cx} {tg e : Expr} {t t' : TI} (h : PI X tg e t) (w : ∀ σ H Q, t' σ H Q → t σ H Q) : PI X tg e t' := ⟨fun pins s σ H Q I q => h.run pins s σ H Q I (w _ _ _ q)⟩
/-- a chain to a list of items -/
theorem ReW.bndL {W : XW} {P' : PP} {F : Addr → Prop} {H : Hp} {ra : Re D} {k : D → Re (List D)} {N : List D → (Addr → Prop) → Hp → Prop} {Q' : VK} (h : ReW W F H (ra.bnd k) fun ds => ∀ F' H', Grow F H F' H' → N ds F' H')
    (q : ∀ d v F1 H1, ra = .ok d → Grow F H F1 H1 → P' F H F1 H1 v d → ReW W F1 H1 (k d) (fun ds => ∀ F' H', Grow F1 H1 F' H' → N ds F' H') → Q' v H1) : Go W P' F H ra Q' := by
  cases ra with
  | ok d => exact fun v F1 H1 g p => q d v F1 H1 rfl g p (ReW.grow h g fun ds n F' H' g' => n F' H' (g.trans g'))
  | ex x => exact h
  | no => exact h
def d1L (g : D → Re (List D)) (fa : Dl → Re D) (δ : Dl) : Re (List D) := (fa δ).bnd g
def signs (z : Str) : List D := z.cps.toList.map fun c => .str ⟨#[c]⟩
def itemsD : D → Re (List D)
  | .list ds => .ok ds
  | .tuple ds => .ok ds
  | .str z => .ok (signs z)
  | _ => .no
section
variable {K : PySem.W.Frag} {F : Addr → Prop} {H : Hp}
theorem walk_list {a : Addr} {xs : List V} {ds : List D} (h : Rd H a (.lst xs)) (f : F a) (r : RpA K F H xs ds) : Walk K F H (Itl K a) ds where
  go := fun F' H' i st hi => by
    obtain ⟨v, ev, _⟩ := r.get (List.getElem?_eq_getElem hi)
    exact ⟨xs, v, .inl (st.kept.rd h (.inl f)), ev⟩
  stop := fun F' H' st => ⟨xs, .inl (st.kept.rd h (.inl f)), Nat.le_of_eq r.length⟩
  yld := fun F' H' i x H2 d st _ e y => by
    obtain ⟨e1, y⟩ := y
    subst e1
    obtain ⟨v, ev, rv⟩ := r.get e
    have q := y xs (.inl (st.kept.rd h (.inl f)))
    rw [ev] at q
    cases q
    exact ⟨F', Grow.refl, st.rp rv⟩
theorem walk_tup {a : Addr} {xs : List V} {ds : List D} (h : SqT K H a xs) (r : RpA K F H xs ds) : Walk K F H (Itt K a) ds where
  go := fun F' H' i st hi => by
    obtain ⟨v, ev, _⟩ := r.get (List.getElem?_eq_getElem hi)
    exact ⟨xs, v, st.kept.sqT h, ev⟩
  stop := fun F' H' st => ⟨xs, st.kept.sqT h, Nat.le_of_eq r.length⟩
  yld := fun F' H' i x H2 d st _ e y => by
    obtain ⟨e1, y⟩ := y
    subst e1
    obtain ⟨v, ev, rv⟩ := r.get e
    have q := y xs (st.kept.sqT h)
    rw [ev] at q
    cases q
    exact ⟨F', Grow.refl, st.rp rv⟩
theorem signs_len (z : Str) : (signs z).length = z.cps.size := by unfold signs; simp
theorem walk_str {z : Str} : Walk K F H (Its z) (signs z) where
  go := fun F' H' i st hi => by rw [signs_len] at hi; exact hi
  stop := fun F' H' st => by show z.cps.size ≤ (signs z).length; rw [signs_len]; exact Nat.le_refl _
  yld := fun F' H' i x H2 d st _ e y => by
    obtain ⟨e1, c, ec, ex⟩ := y
    subst e1 ex
    refine ⟨F', Grow.refl, ?_⟩
    unfold signs at e
    rw [List.getElem?_map, Array.getElem?_toList, ec] at e
    cases e
    exact .str _
theorem walk_range (lo : Int) (n : Nat) : Walk K F H (Itr lo n) ((List.range n).map fun k => PyData.int (lo + (k : Nat))) where
  go := fun F' H' i st hi => by show i < n; simpa using hi
  stop := fun F' H' st => by show n ≤ _; simp
  yld := fun F' H' i x H2 d st _ e y => by
    obtain ⟨e1, ex⟩ := y
    subst e1 ex
    refine ⟨F', Grow.refl, ?_⟩
    rw [List.getElem?_map] at e
    by_cases hi : i < n
    · rw [List.getElem?_range hi] at e
      cases e
      exact .int _
    · rw [List.getElem?_eq_none (by simpa using hi)] at e
      cases e
def pairUp (i : Nat) : List D → List D
  | [] => []
  | d :: ds => .tuple [.int (i : Nat), d] :: pairUp (i + 1) ds
theorem pairUp_len : ∀ (ds : List D) (k : Nat), (pairUp k ds).length = ds.length
  | [], _ => rfl
  | d :: ds, k => congrArg (· + 1) (pairUp_len ds (k + 1))
theorem pairUp_get : ∀ (ds : List D) (k i : Nat), (pairUp k ds)[i]? = (ds[i]?).map fun d => .tuple [.int ((k + i : Nat) : Int), d]
  | [], _, _ => by simp [pairUp]
  | d :: ds, k, 0 => by simp [pairUp]
  | d :: ds, k, i + 1 => by
    show (pairUp (k + 1) ds)[i]? = _
    rw [pairUp_get ds (k + 1) i]
    simp only [List.getElem?_cons_succ]
    rw [show k + 1 + i = k + (i + 1) by omega]
theorem rp_pair {F' : Addr → Prop} {H' : Hp} {T : Addr} {x y : V} {d e : D} (hn : H' T = none) (rx : Rp K F' H' x d) (ry : Rp K F' H' y e) : Rp K F' (upd H' T (.tup [x, y])) (.ref T) (.tuple [d, e]) :=
  .tup (.inl upd_same) (.cons ((Grow.upd0 hn).rp rx) (.cons ((Grow.upd0 hn).rp ry) .nil))
theorem walk_enum {a : Addr} {xs : List V} {ds : List D} (h : Rd H a (.lst xs)) (f : F a) (r : RpA K F H xs ds) : Walk K F H (Ite K a) (pairUp 0 ds) where
  go := fun F' H' i st hi => by
    rw [pairUp_len] at hi
    obtain ⟨v, ev, _⟩ := r.get (List.getElem?_eq_getElem hi)
    exact ⟨xs, v, .inl (st.kept.rd h (.inl f)), ev⟩
  stop := fun F' H' st => ⟨xs, .inl (st.kept.rd h (.inl f)), by rw [pairUp_len]; exact Nat.le_of_eq r.length⟩
  yld := fun F' H' i x H2 d st _ e y => by
    obtain ⟨T, v, ex, hn, e1, y⟩ := y
    subst e1 ex
    rw [pairUp_get] at e
    cases ed : ds[i]? with
    | none => rw [ed] at e; cases e
    | some d' =>
      rw [ed] at e
      cases e
      obtain ⟨v', ev, rv⟩ := r.get ed
      have q := y xs (.inl (st.kept.rd h (.inl f)))
      rw [ev] at q
      cases q
      rw [Nat.zero_add]
      exact ⟨F', Grow.upd0 hn, rp_pair hn (.int _) (st.rp rv)⟩
theorem walk_enumT {a : Addr} {xs : List V} {ds : List D} (h : SqT K H a xs) (r : RpA K F H xs ds) : Walk K F H (IteT K a) (pairUp 0 ds) where
  go := fun F' H' i st hi => by
    rw [pairUp_len] at hi
    obtain ⟨v, ev, _⟩ := r.get (List.getElem?_eq_getElem hi)
    exact ⟨xs, v, st.kept.sqT h, ev⟩
  stop := fun F' H' st => ⟨xs, st.kept.sqT h, by rw [pairUp_len]; exact r.length⟩
  yld := fun F' H' i x H2 d st _ e y => by
    obtain ⟨T, v, ex, hn, e1, y⟩ := y
    subst e1 ex
    rw [pairUp_get] at e
    cases ed : ds[i]? with
    | none => rw [ed] at e; cases e
    | some d' =>
      rw [ed] at e
      cases e
      obtain ⟨v', ev, rv⟩ := r.get ed
      have q := y xs (st.kept.sqT h)
      rw [ev] at q
      cases q
      rw [Nat.zero_add]
      exact ⟨F', Grow.upd0 hn, rp_pair hn (.int _) (st.rp rv)⟩
def zipUp : List D → List D → List D
  | d :: ds, e :: es => .tuple [d, e] :: zipUp ds es
  | _, _ => []
theorem zipUp_len : ∀ (ds es : List D), (zipUp ds es).length = min ds.length es.length
  | [], _ => by simp [zipUp]
  | _ :: _, [] => by simp [zipUp]
  | d :: ds, e :: es => by simp [zipUp, zipUp_len ds es]
theorem zipUp_get : ∀ (ds es : List D) (i : Nat) (x : D), (zipUp ds es)[i]? = some x → ∃ d e, ds[i]? = some d ∧ es[i]? = some e ∧ x = .tuple [d, e]
  | [], _, _, _, h => by simp [zipUp] at h
  | _ :: _, [], _, _, h => by simp [zipUp] at h
  | d :: ds, e :: es, 0, x, h => by simp [zipUp] at h; exact ⟨d, e, rfl, rfl, h.symm⟩
  | d :: ds, e :: es, i + 1, x, h => by
    have h' : (zipUp ds es)[i]? = some x := by simpa [zipUp] using h
    obtain ⟨d', e', a, b, c⟩ := zipUp_get ds es i x h'
    exact ⟨d', e', by simpa using a, by simpa using b, c⟩
theorem walk_zip {a b : Addr} {xs ys : List V} {ds es : List D} (h : Rd H a (.lst xs)) (f : F a) (r : RpA K F H xs ds) (h2 : Rd H b (.lst ys)) (f2 : F b) (r2 : RpA K F H ys es) : Walk K F H (Itz K a b) (zipUp ds es) where
  go := fun F' H' i st hi => by
    rw [zipUp_len] at hi
    obtain ⟨v, ev, _⟩ := r.get (List.getElem?_eq_getElem (show i < ds.length by omega))
    obtain ⟨v2, ev2, _⟩ := r2.get (List.getElem?_eq_getElem (show i < es.length by omega))
    exact ⟨xs, ys, v, v2, .inl (st.kept.rd h (.inl f)), .inl (st.kept.rd h2 (.inl f2)), ev, ev2⟩
  stop := fun F' H' st => ⟨xs, ys, .inl (st.kept.rd h (.inl f)), .inl (st.kept.rd h2 (.inl f2)), by have := r.length; have := r2.length; rw [zipUp_len]; omega⟩
  yld := fun F' H' i x H2 d st _ e y => by
    obtain ⟨T, v, v2, ex, hn, e1, y1, y2⟩ := y
    subst e1 ex
    obtain ⟨d', e', a1, a2, a3⟩ := zipUp_get _ _ _ _ e
    subst a3
    obtain ⟨w1, ew1, rw1⟩ := r.get a1
    obtain ⟨w2, ew2, rw2⟩ := r2.get a2
    have q1 := y1 xs (.inl (st.kept.rd h (.inl f)))
    have q2 := y2 ys (.inl (st.kept.rd h2 (.inl f2)))
    rw [ew1] at q1
    rw [ew2] at q2
    cases q1
    cases q2
    exact ⟨F', Grow.upd0 hn, rp_pair hn (st.rp rw1) (st.rp rw2)⟩
theorem walk_zipT {a b : Addr} {xs ys : List V} {ds es : List D} (h : SqT K H a xs) (r : RpA K F H xs ds) (h2 : SqT K H b ys) (r2 : RpA K F H ys es) : Walk K F H (ItzT K a b) (zipUp ds es) where
  go := fun F' H' i st hi => by
    rw [zipUp_len] at hi
    obtain ⟨v, ev, _⟩ := r.get (List.getElem?_eq_getElem (show i < ds.length by omega))
    obtain ⟨v2, ev2, _⟩ := r2.get (List.getElem?_eq_getElem (show i < es.length by omega))
    exact ⟨xs, ys, v, v2, st.kept.sqT h, st.kept.sqT h2, ev, ev2⟩
  stop := fun F' H' st => ⟨xs, ys, st.kept.sqT h, st.kept.sqT h2, by have := r.length; have := r2.length; rw [zipUp_len]; omega⟩
  yld := fun F' H' i x H2 d st _ e y => by
    obtain ⟨T, v, v2, ex, hn, e1, y1, y2⟩ := y
    subst e1 ex
    obtain ⟨d', e', a1, a2, a3⟩ := zipUp_get _ _ _ _ e
    subst a3
    obtain ⟨w1, ew1, rw1⟩ := r.get a1
    obtain ⟨w2, ew2, rw2⟩ := r2.get a2
    have q1 := y1 xs (st.kept.sqT h)
    have q2 := y2 ys (st.kept.sqT h2)
    rw [ew1] at q1
    rw [ew2] at q2
    cases q1
    cases q2
    exact ⟨F', Grow.upd0 hn, rp_pair hn (st.rp rw1) (st.rp rw2)⟩
end
section
variable {X : Cx} {W : XW} {tg e e2 : Expr} {fa fb : Dl → Re D} {fs : Dl → Re (List D)} {p pos tpos : Pos} {elts : List Expr} {kk : Nat}
theorem vi_any (h : VE X W e fa) : VI X W tg e (d1L itemsD fa) := PI.imp (pi_any h) fun σ H R ⟨F, δ, s, q⟩ => ⟨F, δ, s, ReW.bndL (N := fun ds F' H' => ∀ J, Walk X.K F' H' J ds → R J H') (q.imp fun ds _ n F' H' g J w => n J F' H' g w) fun d v F1 H1 _ g r n => by
  cases d with
  | list ds =>
    cases r with
    | lst a f t => exact .inl ⟨_, _, rfl, .inl a, n _ _ Grow.refl _ (walk_list a f t)⟩
  | tuple ds =>
    cases r with
    | tup a t => exact .inr (.inl ⟨_, _, rfl, a.sq, n _ _ Grow.refl _ (walk_tup a.sq t)⟩)
  | str z =>
    cases r
    exact .inr (.inr ⟨_, rfl, n _ _ Grow.refl _ walk_str⟩)
  | _ => exact n.elim⟩
def rng1D : List D → Re (List D)
  | [.int j] => if -(2 ^ 62) ≤ j ∧ j < 2 ^ 62 then .ok ((List.range j.toNat).map fun k => .int (0 + (k : Nat))) else .no
  | _ => .no
def rng2D : List D → Re (List D)
  | [.int i, .int j] => if -(2 ^ 62) ≤ i ∧ i < 2 ^ 62 ∧ -(2 ^ 62) ≤ j ∧ j < 2 ^ 62 then .ok ((List.range (j - i).toNat).map fun k => .int (i + (k : Nat))) else .no
  | _ => .no
def dAL (fs : Dl → Re (List D)) (g : List D → Re (List D)) (δ : Dl) : Re (List D) := (fs δ).bnd g
theorem ReW.bndA {R : Rel} {K : PySem.W.Frag} {F : Addr → Prop} {H : Hp} {ra : Re (List D)} {k : List D → Re (List D)} {N : List D → (Addr → Prop) → Hp → Prop} {Q' : List V → Hp → Prop} (h : ReW W F H (ra.bnd k) fun ds => ∀ F' H', Grow F H F' H' → N ds F' H')
    (q : ∀ d v F1 H1, ra = .ok d → Grow F H F1 H1 → RA R K F1 H1 v d → ReW W F1 H1 (k d) (fun ds => ∀ F' H', Grow F1 H1 F' H' → N ds F' H') → Q' v H1) : GoA W R K F H ra Q' := by
  cases ra with
  | ok d => exact fun v F1 H1 g p => q d v F1 H1 rfl g p (ReW.grow h g fun ds n F' H' g' => n F' H' (g.trans g'))
  | ex x => exact h
  | no => exact h
theorem vi_rng1 (hg : Gl X "range") (hm : X.mg "range" = none) (ha : VA X W Rp [e] fs) (hs : starEach [e] X.env = [(false, eval e X.env)] := by rfl) : VI X W tg (.Call (.Name "range" p) [e] [] pos) (dAL fs rng1D) := PI.imp (pi_range1 hg hm ha hs) fun σ H R ⟨F, δ, s, q⟩ => ⟨F, δ, s, ReW.bndA (N := fun ds F' H' => ∀ J, Walk X.K F' H' J ds → R J H') (q.imp fun ds _ n F' H' g J w => n J F' H' g w) fun d v F1 H1 _ g r n => by
  unfold rng1D at n
  split at n
  · rename_i j _
    split at n
    · rename_i c
      cases r with
      | cons r rr =>
        cases rr
        cases r
        exact ⟨j, rfl, c.1, c.2, n _ _ Grow.refl _ (walk_range 0 _)⟩
    · exact n.elim
  · exact n.elim⟩
theorem vi_rng2 (hg : Gl X "range") (hm : X.mg "range" = none) (ha : VA X W Rp [e, e2] fs) (hs : starEach [e, e2] X.env = [(false, eval e X.env), (false, eval e2 X.env)] := by rfl) (hs2 : starEach [e2] X.env = [(false, eval e2 X.env)] := by rfl) : VI X W tg (.Call (.Name "range" p) [e, e2] [] pos) (dAL fs rng2D) := PI.imp (pi_range2 hg hm ha hs hs2) fun σ H R ⟨F, δ, s, q⟩ => ⟨F, δ, s, ReW.bndA (N := fun ds F' H' => ∀ J, Walk X.K F' H' J ds → R J H') (q.imp fun ds _ n F' H' g J w => n J F' H' g w) fun d v F1 H1 _ g r n => by
  unfold rng2D at n
  split at n
  · rename_i i j _
    split at n
    · rename_i c
      cases r with
      | cons r rr =>
        cases rr with
        | cons r' rr =>
          cases rr
          cases r
          cases r'
          exact ⟨i, j, rfl, c, n _ _ Grow.refl _ (walk_range i _)⟩
    · exact n.elim
  · exact n.elim⟩
def enumD : List D → Re (List D)
  | [.list ds] => .ok (pairUp 0 ds)
  | [.tuple ds] => .ok (pairUp 0 ds)
  | _ => .no
theorem vi_enum (hg : Gl X "enumerate") (hm : X.mg "enumerate" = none) (ha : VA X W Rp [e] fs) (hs : starEach [e] X.env = [(false, eval e X.env)] := by rfl) : VI X W (.Tuple elts kk tpos) (.Call (.Name "enumerate" p) [e] [] pos) (dAL fs enumD) := PI.imp (pi_enumA hg hm ha hs) fun σ H R ⟨F, δ, s, q⟩ => ⟨F, δ, s, ReW.bndA (N := fun ds F' H' => ∀ J, Walk X.K F' H' J ds → R J H') (q.imp fun ds _ n F' H' g J w => n J F' H' g w) fun d v F1 H1 _ g r n => by
  unfold enumD at n
  split at n
  · cases r with
    | cons r rr =>
      cases rr
      cases r with
      | lst a f t => exact ⟨_, _, rfl, .inl ⟨.inl a, n _ _ Grow.refl _ (walk_enum a f t)⟩⟩
  · cases r with
    | cons r rr =>
      cases rr
      cases r with
      | tup a t => exact ⟨_, _, rfl, .inr ⟨a.sq, n _ _ Grow.refl _ (walk_enumT a.sq t)⟩⟩
  · exact n.elim⟩
def zipD : List D → Re (List D)
  | [.list ds, .list es] => .ok (zipUp ds es)
  | [.tuple ds, .tuple es] => .ok (zipUp ds es)
  | _ => .no
theorem vi_zip (hg : Gl X "zip") (hm : X.mg "zip" = none) (ha : VA X W Rp [e, e2] fs) (hs : starEach [e, e2] X.env = (false, eval e X.env) :: starEach [e2] X.env := by rfl) (hpl : (backTo pos (starEach [e2] X.env)).any (·.1) = false := by rfl) : VI X W (.Tuple elts kk tpos) (.Call (.Name "zip" p) [e, e2] [] pos) (dAL fs zipD) := PI.imp (pi_zipA hg hm ha hs hpl) fun σ H R ⟨F, δ, s, q⟩ => ⟨F, δ, s, ReW.bndA (N := fun ds F' H' => ∀ J, Walk X.K F' H' J ds → R J H') (q.imp fun ds _ n F' H' g J w => n J F' H' g w) fun d v F1 H1 _ g r n => by
  unfold zipD at n
  split at n
  · cases r with
    | cons r rr =>
      cases rr with
      | cons r' rr =>
        cases rr
        cases r with
        | lst a f t =>
          cases r' with
          | lst a2 f2 t2 => exact ⟨_, _, _, _, rfl, .inl ⟨.inl a, .inl a2, n _ _ Grow.refl _ (walk_zip a f t a2 f2 t2)⟩⟩
  · cases r with
    | cons r rr =>
      cases rr with
      | cons r' rr =>
        cases rr
        cases r with
        | tup a t =>
          cases r' with
          | tup a2 t2 => exact ⟨_, _, _, _, rfl, .inr ⟨a.sq, a2.sq, n _ _ Grow.refl _ (walk_zipT a.sq t a2.sq t2)⟩⟩
  · exact n.elim⟩
end
end VS
end
section
namespace VS
open PySem PySem.Spec PyProof.Rows L2

/-! ### targets -/
structure Upd (K : PySem.W.Frag) (F : Addr → Prop) (H : Hp) (ts : List Nat) (σ : L2.St) (δ : Dl) (σ' : L2.St) (δ' : Dl) : Prop where
  lσ : σ'.length = σ.length
  lδ : δ'.length = δ.length
  out : ∀ j : Nat, j ∉ ts → σ'[j]? = σ[j]? ∧ δ'[j]? = δ[j]?
  into : ∀ j : Nat, j ∈ ts → ∀ s, δ'[j]? = some s → ∃ d v, s = Sl.sh d ∧ σ'[j]? = some (some v) ∧ Rp K F H v d
theorem Upd.refl {K : PySem.W.Frag} {F : Addr → Prop} {H : Hp} {σ : L2.St} {δ : Dl} : Upd K F H [] σ δ σ δ := ⟨rfl, rfl, fun _ _ => ⟨rfl, rfl⟩, fun _ h => nomatch h⟩
theorem Upd.trans {K : PySem.W.Frag} {F : Addr → Prop} {H : Hp} {t1 t2 : List Nat} {σ σ1 σ2 : L2.St} {δ δ1 δ2 : Dl} (a : Upd K F H t1 σ δ σ1 δ1) (b : Upd K F H t2 σ1 δ1 σ2 δ2) : Upd K F H (t1 ++ t2) σ δ σ2 δ2 where
  lσ := b.lσ.trans a.lσ
  lδ := b.lδ.trans a.lδ
  out := fun j h => by
    rw [List.mem_append, not_or] at h
    exact ⟨(b.out j h.2).1.trans (a.out j h.1).1, (b.out j h.2).2.trans (a.out j h.1).2⟩
  into := fun j h s e => by
    by_cases h2 : j ∈ t2
    · exact b.into j h2 s e
    · rw [(b.out j h2).2] at e
      rw [(b.out j h2).1]
      exact a.into j ((List.mem_append.mp h).elim id fun z => (h2 z).elim) s e
theorem Sok.upd {K : PySem.W.Frag} {F0 : Addr → Prop} {H0 : Hp} {F : Addr → Prop} {H : Hp} {ts : List Nat} {σ σ' : L2.St} {δ δ' : Dl} (s : Sok K F0 H0 F H σ δ) (u : Upd K F H ts σ δ σ' δ') : Sok K F0 H0 F H σ' δ' where
  len := u.lδ.trans (s.len.trans u.lσ.symm)
  g := s.g
  d0 := s.d0
  dom := s.dom
  sh := fun i d e => by
    by_cases h : i ∈ ts
    · obtain ⟨d', v, e1, e2, r⟩ := u.into i h _ e
      cases e1
      exact ⟨v, e2, r⟩
    · rw [(u.out i h).2] at e
      rw [(u.out i h).1]
      exact s.sh i d e
  ow := fun i d e => by
    by_cases h : i ∈ ts
    · obtain ⟨d', v, e1, e2, r⟩ := u.into i h _ e
      cases e1
    · rw [(u.out i h).2] at e
      rw [(u.out i h).1]
      exact s.ow i d e
  br := fun i d e => by
    by_cases h : i ∈ ts
    · obtain ⟨d', v, e1, e2, r⟩ := u.into i h _ e
      cases e1
    · rw [(u.out i h).2] at e
      rw [(u.out i h).1]
      exact s.br i d e
  ne := fun i j d e a h1 h2 h3 h4 => by
    by_cases hi : i ∈ ts
    · obtain ⟨_, _, e1, _⟩ := u.into i hi _ h1
      cases e1
    · by_cases hj : j ∈ ts
      · obtain ⟨_, _, e1, _⟩ := u.into j hj _ h2
        cases e1
      · rw [(u.out i hi).2] at h1
        rw [(u.out j hj).2] at h2
        rw [(u.out i hi).1] at h3
        rw [(u.out j hj).1] at h4
        exact s.ne i j d e a h1 h2 h3 h4
theorem SokE.upd {K : PySem.W.Frag} {F : Addr → Prop} {H : Hp} {ts : List Nat} {σ σ' : L2.St} {δ δ' : Dl} (s : SokE K F H σ δ) (u : Upd K F H ts σ δ σ' δ') : SokE K F H σ' δ' where
  len := u.lδ.trans (s.len.trans u.lσ.symm)
  dom := s.dom
  sl := fun i x e => by
    by_cases h : i ∈ ts
    · obtain ⟨d', v, e1, e2, r⟩ := u.into i h _ e
      subst e1
      exact ⟨v, e2, r⟩
    · rw [(u.out i h).2] at e
      have q := s.sl i x e
      have eo := (u.out i h).1
      cases x with
      | no => trivial
      | sh d => obtain ⟨v, e1, r⟩ := q; exact ⟨v, eo.trans e1, r⟩
      | ow d => obtain ⟨v, e1, r⟩ := q; exact ⟨v, eo.trans e1, r⟩
      | br d => obtain ⟨v, e1, r⟩ := q; exact ⟨v, eo.trans e1, r⟩
abbrev Bd := D → Dl → Option Dl
abbrev Bds := List D → Dl → Option Dl
def tG (K : PySem.W.Frag) (ts : List Nat) (b : Bd) : TG := fun v σ H Q => ∃ F δ d δ', δ.length = σ.length ∧ Rp K F H v d ∧ b d δ = some δ' ∧ ∀ σ', Upd K F H ts σ δ σ' δ' → Q σ' H
def tGs (K : PySem.W.Frag) (ts : List Nat) (b : Bds) : TGs := fun vs σ H Q => ∃ F δ ds δ', δ.length = σ.length ∧ RpA K F H vs ds ∧ b ds δ = some δ' ∧ ∀ σ', Upd K F H ts σ δ σ' δ' → Q σ' H
abbrev VG (X : Cx) (tg : Expr) (ts : List Nat) (b : Bd) : Prop := PG X tg (tG X.K ts b)
abbrev VGs (X : Cx) (tgs : List Expr) (ts : List Nat) (b : Bds) : Prop := PGs X tgs (tGs X.K ts b)
theorem PG.imp {X : Cx} {tg : Expr} {t t' : TG} (h : PG X tg t) (w : ∀ v σ H Q, t' v σ H Q → t v σ H Q) : PG X tg t' := ⟨fun pins s σ H v u Q I r q => h.run pins s σ H v u Q I r (w _ _ _ _ q)⟩
theorem PGs.imp {X : Cx} {tg : List Expr} {t t' : TGs} (h : PGs X tg t) (w : ∀ v σ H Q, t' v σ H Q → t v σ H Q) : PGs X tg t' := ⟨fun pins s σ H v u Q I r q => h.run pins s σ H v u Q I r (w _ _ _ _ q)⟩
theorem PG.or {X : Cx} {tg : Expr} {t t' : TG} (h : PG X tg t) (h' : PG X tg t') : PG X tg (fun v σ H Q => t v σ H Q ∨ t' v σ H Q) := ⟨fun pins s σ H v u Q I r q => q.elim (h.run pins s σ H v u Q I r) (h'.run pins s σ H v u Q I r)⟩
section
variable {X : Cx} {pos : Pos}
def bN (i : Nat) : Bd := fun d δ => some (δ.set i (.sh d))
theorem vg_name {i : Nat} {x : Str} (hN : X.N.Nodup) (hi : X.N[i]? = some x) (hx : Loc X.env.scope x) (hf : X.fn x = true ∨ X.env.scope.names.lookup x = some .local := by first | exact .inl rfl | exact .inr rfl) : VG X (.Name x pos) [i] (bN i) :=
  PG.imp (pg_name hN hi hx hf) fun v σ H Q ⟨F, δ, d, δ', hl, r, e, q⟩ => by
    cases e
    refine q _ ⟨by rw [List.length_set], by rw [List.length_set], fun j hj => ?_, fun j hj s es => ?_⟩
    · have n : i ≠ j := fun z => hj (by simp [z])
      exact ⟨List.getElem?_set_ne n, List.getElem?_set_ne n⟩
    · have n : j = i := by simpa using hj
      subst n
      obtain ⟨e1, hlt⟩ := get_set_eq es
      exact ⟨d, v, e1, by rw [List.getElem?_set_self (by rw [← hl]; exact hlt)], r⟩
def bNil : Bds := fun ds δ => match ds with
  | [] => some δ
  | _ => none
def bCons (b : Bd) (bs : Bds) : Bds := fun ds δ => match ds with
  | d :: ds => (b d δ).bind (bs ds)
  | [] => none
theorem vgs_nil : VGs X [] [] bNil := PGs.imp pgs_nil fun vs σ H Q ⟨F, δ, ds, δ', hl, r, e, q⟩ => by
  cases r with
  | nil => cases e; exact ⟨rfl, q σ .refl⟩
  | cons _ _ => cases e
theorem vgs_cons {e : Expr} {es : List Expr} {t1 t2 : List Nat} {b : Bd} {bs : Bds} (h1 : VG X e t1 b) (h2 : VGs X es t2 bs)
    (hs : (assignEach (e :: es) X.env).map (·.2) = assign e X.env :: (assignEach es X.env).map (·.2) := by rfl) : VGs X (e :: es) (t1 ++ t2) (bCons b bs) := PGs.imp (pgs_cons h1 h2 hs) fun vs0 σ H Q ⟨F, δ, ds0, δ', hl, r, e, q⟩ => by
  cases r with
  | nil => cases e
  | @cons v vs d ds r rr =>
    have e : (b d δ).bind (bs ds) = some δ' := e
    cases eb : b d δ with
    | none => rw [eb] at e; cases e
    | some δ1 =>
      rw [eb] at e
      refine ⟨v, vs, rfl, F, δ, d, δ1, hl, r, eb, fun σ1 u1 => ⟨F, δ1, ds, δ', u1.lδ.trans (hl.trans u1.lσ.symm), rr, e, fun σ2 u2 => q σ2 (u1.trans u2)⟩⟩
def bT (n : Nat) (bs : Bds) : Bd := fun d δ => match d with
  | .tuple ds => if ds.length = n then bs ds δ else none
  | .list ds => if ds.length = n then bs ds δ else none
  | _ => none
theorem vg_tup {es : List Expr} {k : Nat} {ts : List Nat} {bs : Bds} {n : Nat} (hc : X.calm = true) (h : VGs X es ts bs)
    (hn : (assignEach es X.env).length = n := by rfl) (hst : (assignEach es X.env).findIdx? (·.1) = none := by rfl) : VG X (.Tuple es k pos) ts (bT n bs) := PG.imp (VS.PG.or (pg_tup hc h hn hst) (pg_lst hc h hn hst)) fun v σ H Q ⟨F, δ, d, δ', hl, r, e, q⟩ => by
  unfold bT at e
  split at e
  · split at e
    · rename_i en
      cases r with
      | tup a t => exact .inl ⟨_, _, rfl, a.sq, by rw [t.length]; exact en, F, δ, _, δ', hl, t, e, q⟩
    · cases e
  · split at e
    · rename_i en
      cases r with
      | lst a f t => exact .inr ⟨_, _, rfl, .inl a, by rw [t.length]; exact en, F, δ, _, δ', hl, t, e, q⟩
    · cases e
  · cases e
end

/-! ### for, while -/
def goS (b : Bd) (body : Dl → RS) : List D → Dl → RS
  | [], δ => .nx δ
  | d :: ds, δ => match b d δ with
    | none => .no
    | some δ1 => match body δ1 with
      | .nx δ2 => goS b body ds δ2
      | .ct δ2 => goS b body ds δ2
      | .bk δ2 => .nx δ2
      | .rt r => .rt r
      | .ex x => .ex x
      | .no => .no
def forS (items : Dl → Re (List D)) (b : Bd) (body : Dl → RS) (δ : Dl) : RS := toS (items δ) fun ds => goS b body ds δ
def whileS (t : Dl → Re Bool) (body : Dl → RS) : Nat → Dl → RS
  | 0, _ => .no
  | n + 1, δ => toS (t δ) fun c => if c = true then (match body δ with
      | .nx δ2 => whileS t body n δ2
      | .ct δ2 => whileS t body n δ2
      | .bk δ2 => .nx δ2
      | .rt r => .rt r
      | .ex x => .ex x
      | .no => .no) else .nx δ
section
variable {X : Cx} {W : XW} {pos : Pos} {body : List Stmt} {f : Dl → RS}
theorem SO.goL {K : PySem.W.Frag} {F0 : Addr → Prop} {H0 : Hp} {F : Addr → Prop} {H : Hp} {σ : L2.St} {δ : Dl} {D' : Ends} {r : Re (List PyData)} {k : List PyData → RS} {N : List PyData → (Addr → Prop) → Hp → Prop} (s : Sok K F0 H0 F H σ δ) (h : SO K W F0 H0 F H D' (toS r k))
    (q : ∀ ds, r = .ok ds → ∀ F' H', Grow F H F' H' → SO K W F0 H0 F' H' D' (k ds) → N ds F' H') : ReW W F H r fun ds => ∀ F' H', Grow F H F' H' → N ds F' H' := by
  cases r with
  | ok ds => exact fun F' H' g => q ds rfl F' H' g (SO.stay h g.stay)
  | ex x => exact fun F' H' g => h F' H' g.stay (s.g.trans g)
  | no => exact h
theorem vs_for {tg iter : Expr} {ts : List Nat} {b : Bd} {fi : Dl → Re (List D)} (hp : PassesOwn (model X.prog X.w) X.A X.env X.xe) (hc : X.calm = true) (hi : VI X W tg iter fi) (hg : VG X tg ts b) (hb : VSs X W body f)
    (hs : ∀ x, foldedSetIterable iter X.env x = pure x := by intro _; rfl) : VSt X W (.For tg iter body [] pos) (forS fi b f) := PS.imp (ps_for hp hc hi hg hb hs) fun D σ H ⟨F0, H0, F, δ, s, q⟩ => by
  refine ⟨F, δ, s.e, ReW.imp (SO.goL (N := fun ds F' H' => ∀ J, Walk X.K F' H' J ds → ∃ V : Nat → Nat → L2.St → Hp → Prop, (∃ m, V 0 m σ H') ∧ ∀ i m σ H, V i m σ H →
    (J.stop i H ∧ D.nx σ H) ∨ (J.go i H ∧ ∃ N : L2.St → Hp → Prop, (∀ σ' H', N σ' H' → ∃ m', m' < m ∧ V (i + 1) m' σ' H') ∧ ∀ x H', J.yld i H x H' → tG X.K ts b x σ H' fun σ2 H2 => tS X.K W f { D with nx := N, ct := N, bk := D.nx } σ2 H2)) s q fun ds e F1 H1 g1 h1 J w => ?_) fun ds _ n J F' H' g w => n F' H' g J w⟩
  refine ⟨fun i m σ' H' => m = ds.length - i ∧ i ≤ ds.length ∧ ∃ F' δ', Stay F1 H1 F' H' ∧ Sok X.K F0 H0 F' H' σ' δ' ∧ SO X.K W F0 H0 F' H' D (goS b f (ds.drop i) δ'), ⟨ds.length, by simp, Nat.zero_le _, F1, δ, Stay.refl, s.grow g1, by simpa using h1⟩, ?_⟩
  rintro i m σ' H' ⟨rfl, hle, F', δ', st, so, w'⟩
  by_cases hlt : i < ds.length
  · refine .inr ⟨w.go F' H' i st hlt, fun σ3 H3 => i + 1 ≤ ds.length ∧ ∃ F3 δ3, Stay F1 H1 F3 H3 ∧ Sok X.K F0 H0 F3 H3 σ3 δ3 ∧ SO X.K W F0 H0 F3 H3 D (goS b f (ds.drop (i + 1)) δ3), fun σ3 H3 ⟨a, c⟩ => ⟨ds.length - (i + 1), by omega, rfl, a, c⟩, fun x H2 y => ?_⟩
    obtain ⟨F2, g2, rx⟩ := w.yld F' H' i x H2 ds[i] st so.dom (List.getElem?_eq_getElem hlt) y
    rw [List.drop_eq_getElem_cons hlt] at w'
    unfold goS at w'
    cases eb : b ds[i] δ' with
    | none => rw [eb] at w'; exact w'.elim
    | some δ1 =>
      rw [eb] at w'
      refine ⟨F2, δ', ds[i], δ1, so.len, rx, eb, fun σ2 u2 => ?_⟩
      refine ⟨F0, H0, F2, δ1, (so.grow g2).upd u2, ?_⟩
      have w2 := SO.stay w' g2.stay
      have st2 := st.trans g2.stay
      simp only at w2
      generalize f δ1 = o at w2 ⊢
      cases o with
      | nx δ2 => exact fun F3 H3 σ3 st3 s3 => ⟨hlt, F3, δ2, st2.trans st3, s3, SO.stay w2 st3⟩
      | ct δ2 => exact fun F3 H3 σ3 st3 s3 => ⟨hlt, F3, δ2, st2.trans st3, s3, SO.stay w2 st3⟩
      | bk δ2 => exact w2
      | rt r => exact w2
      | ex x => exact w2
      | no => exact w2
  · have e : i = ds.length := by omega
    subst e
    rw [List.drop_length] at w'
    exact .inl ⟨w.stop F' H' st, w' F' H' σ' Stay.refl so⟩
theorem vs_while {c : Expr} {t : Dl → Re Bool} (n : Nat) (hp : PassesOwn (model X.prog X.w) X.A X.env X.xe) (hc : VT X W c t) (hb : VSs X W body f) : VSt X W (.While c body [] pos) (whileS t f n) := PS.imp (ps_while hp hc hb) fun D σ H ⟨F0, H0, F, δ, s, q⟩ => by
  refine ⟨fun m σ' H' => ∃ F' δ', Sok X.K F0 H0 F' H' σ' δ' ∧ SO X.K W F0 H0 F' H' D (whileS t f m δ'), ⟨n, F, δ, s, q⟩, ?_⟩
  rintro m σ' H' ⟨F', δ', so, w'⟩
  cases m with
  | zero => exact w'.elim
  | succ m =>
    unfold whileS at w'
    refine ⟨F', δ', so.e, SO.goT so w' fun c F1 H1 e g h1 => ?_⟩
    cases c with
    | false =>
      rw [if_neg Bool.false_ne_true] at h1 ⊢
      exact h1 F1 H1 σ' Stay.refl (so.grow g)
    | true =>
      rw [if_pos rfl] at h1 ⊢
      refine ⟨fun σ3 H3 => ∃ F3 δ3, Sok X.K F0 H0 F3 H3 σ3 δ3 ∧ SO X.K W F0 H0 F3 H3 D (whileS t f m δ3), fun σ3 H3 h => ⟨m, Nat.lt_succ_self _, h⟩, F0, H0, F1, δ', so.grow g, ?_⟩
      generalize f δ' = o at h1 ⊢
      cases o with
      | nx δ2 => exact fun F3 H3 σ3 st3 s3 => ⟨F3, δ2, s3, SO.stay h1 st3⟩
      | ct δ2 => exact fun F3 H3 σ3 st3 s3 => ⟨F3, δ2, s3, SO.stay h1 st3⟩
      | bk δ2 => exact h1
      | rt r => exact h1
      | ex x => exact h1
      | no => exact h1
end

/-! ### list comprehensions -/
def nxR {α : Type} : Re α → Re α
  | .ok a => .ok a
  | _ => .no
@[simp] theorem nxR_ok {α : Type} (a : α) : nxR (.ok a) = .ok a := Eq.trans rfl (Eq.refl _)
@[simp] theorem nxR_no {α : Type} : nxR (.no : Re α) = .no := Eq.trans rfl (Eq.refl _)
def wipeD (δ : Dl) : List Nat → Dl
  | [] => δ
  | v :: vs => (wipeD δ vs).set v .no
theorem wipeD_length (δ : Dl) : ∀ vs : List Nat, (wipeD δ vs).length = δ.length
  | [] => rfl
  | v :: vs => by unfold wipeD; rw [List.length_set, wipeD_length δ vs]
theorem wipeD_some {δ : Dl} {i : Nat} {s : Sl} : ∀ {vs : List Nat}, (wipeD δ vs)[i]? = some s → s ≠ .no → δ[i]? = some s ∧ i ∉ vs
  | [], h, _ => ⟨h, by simp⟩
  | v :: vs, h, ns => by
    unfold wipeD at h
    by_cases hi : v = i
    · subst hi
      exact (ns (get_set_eq h).1).elim
    · obtain ⟨h1, h2⟩ := wipeD_some (get_set_ne h hi) ns
      exact ⟨h1, by simp only [List.mem_cons, not_or]; exact ⟨fun e => hi e.symm, h2⟩⟩
theorem wipe_get {σ : L2.St} {i : Nat} : ∀ {vs : List Nat}, i ∉ vs → (wipe σ vs)[i]? = σ[i]? := fun h => wipe_out h
theorem SokE.wipe {K : PySem.W.Frag} {F : Addr → Prop} {H : Hp} {σ : L2.St} {δ : Dl} (s : SokE K F H σ δ) (vs : List Nat) : SokE K F H (L2.wipe σ vs) (wipeD δ vs) where
  len := by rw [wipeD_length, wipe_length]; exact s.len
  dom := s.dom
  sl := fun i x e => by
    cases x with
    | no => trivial
    | sh d =>
      obtain ⟨e1, e2⟩ := wipeD_some e (fun z => nomatch z)
      obtain ⟨v, ev, r⟩ := s.sl i _ e1
      exact ⟨v, (wipe_out e2).trans ev, r⟩
    | ow d =>
      obtain ⟨e1, e2⟩ := wipeD_some e (fun z => nomatch z)
      obtain ⟨v, ev, r⟩ := s.sl i _ e1
      exact ⟨v, (wipe_out e2).trans ev, r⟩
    | br d =>
      obtain ⟨e1, e2⟩ := wipeD_some e (fun z => nomatch z)
      obtain ⟨v, ev, r⟩ := s.sl i _ e1
      exact ⟨v, (wipe_out e2).trans ev, r⟩
theorem wipe_in {σ : L2.St} {i : Nat} : ∀ {vs : List Nat}, i ∈ vs → (wipe σ vs)[i]? = none ∨ (wipe σ vs)[i]? = some none
  | v :: vs, h => by
    unfold wipe
    by_cases e : v = i
    · subst e
      by_cases hl : v < (wipe σ vs).length
      · exact .inr (List.getElem?_set_self hl)
      · exact .inl (List.getElem?_eq_none (by simpa using hl))
    · rw [List.getElem?_set_ne e]
      exact wipe_in ((List.mem_cons.mp h).elim (fun z => (e z.symm).elim) id)
theorem wipe_same {σ σ' : L2.St} {vs : List Nat} (hl : σ'.length = σ.length) (h : ∀ j, j ∉ vs → σ'[j]? = σ[j]?) : wipe σ' vs = wipe σ vs := by
  apply List.ext_getElem?
  intro i
  by_cases hi : i ∈ vs
  · have l1 := wipe_length σ' vs
    have l2 := wipe_length σ vs
    rcases wipe_in (σ := σ') hi with e1 | e1 <;> rcases wipe_in (σ := σ) hi with e2 | e2
    · rw [e1, e2]
    · have a := List.getElem?_eq_none_iff.mp e1
      have b := (List.getElem?_eq_some_iff.mp e2).1
      omega
    · have a := List.getElem?_eq_none_iff.mp e2
      have b := (List.getElem?_eq_some_iff.mp e1).1
      omega
    · rw [e1, e2]
  · rw [wipe_out hi, wipe_out hi, h i hi]
theorem wipe_wipe {σ : L2.St} {vs : List Nat} : wipe (wipe σ vs) vs = wipe σ vs := wipe_same (wipe_length _ _) fun j hj => wipe_out hj
theorem Upd.wipe {K : PySem.W.Frag} {F : Addr → Prop} {H : Hp} {ts vs : List Nat} {σ σ' : L2.St} {δ δ' : Dl} (u : Upd K F H ts (L2.wipe σ vs) δ σ' δ') (h : ∀ j ∈ ts, j ∈ vs) : L2.wipe σ' vs = L2.wipe σ vs := by
  rw [← wipe_wipe (σ := σ)]
  exact wipe_same u.lσ fun j hj => (u.out j fun z => hj (h j z)).1
/-- a new object that was filled on the way -/
structure POwn (K : PySem.W.Frag) (P : PP) : Prop extends PNew K P where
  own : ∀ {F H F' H' p d}, Grow F H F' H' → H p = none → ¬ F' p → RpO K F' H' p d → ∃ F2, Grow F H F2 H' ∧ P F H F2 H' (.ref p) d
theorem RpO.some {K : PySem.W.Frag} {F : Addr → Prop} {H : Hp} {a : Addr} {d : D} (o : RpO K F H a d) : H a ≠ none := by
  obtain ⟨u, hu, _⟩ := o.there
  rw [hu]
  exact fun z => nomatch z
theorem pS_own {K : PySem.W.Frag} : POwn K (pS K) where
  toPNew := pS_new
  own := fun g h nf o => ⟨_, g.freeze h o.some, o.froz⟩
theorem pB_own {K : PySem.W.Frag} : POwn K (pB K) where
  toPNew := pB_new
  own := fun g h nf o => ⟨_, g.freeze h o.some, o.froz.b⟩
theorem pF_own {K : PySem.W.Frag} : POwn K (pF K) where
  toPNew := pF_new
  own := fun g h nf o => ⟨_, g, _, rfl, h, nf, o⟩
theorem kept_upd {F : Addr → Prop} {H : Hp} {p : Addr} {o o' : HO} (nf : ¬ F p) (h : H p = some o) (m : Mut (some o)) : Kept F H (upd H p o') := fun a u e c => by
  have n : a ≠ p := fun z => by
    subst z
    rcases c with c | c
    · exact nf c
    · rw [h] at e; cases e; exact c m
  rw [upd_ne n]; exact e
/-- growth, then the new object at p is written -/
theorem Grow.wrote {F F' : Addr → Prop} {H H' : Hp} {p : Addr} {o' : HO} (g : Grow F H F' H') (h : H p = none) : Grow F H F' (upd H' p o') where
  sub := g.sub
  new := g.new
  same := fun a u e => by rw [upd_ne (ne_of_none e h)]; exact g.same a u e
  dom := fun dm a fa => by
    by_cases e : a = p
    · subst e; exact upd_some
    · rw [upd_ne e]; exact g.dom dm a fa
theorem Grow.notF {F F' : Addr → Prop} {H H' : Hp} {p : Addr} (g : Grow F H F' H') (nf : ¬ F p) (h : H p ≠ none) : ¬ F' p := fun f => (g.new p f).elim nf h
def lcL (b : Bd) (t : Dl → Re Bool) (e : Dl → Re D) (δ : Dl) : List D → Re (List D)
  | [] => .ok []
  | d :: ds => match b d δ with
    | none => .no
    | some δ1 => (nxR (t δ1)).bnd fun c => if c = true then (nxR (e δ1)).bnd fun y => (lcL b t e δ ds).bnd fun ys => .ok (y :: ys) else lcL b t e δ ds
def lcD (vs : List Nat) (items : Dl → Re (List D)) (b : Bd) (t : Dl → Re Bool) (e : Dl → Re D) (δ : Dl) : Re D :=
  (items δ).bnd fun ds => if ds.length ≤ sizeLine then (lcL b t e (wipeD δ vs) ds).bnd fun ys => .ok (.list ys) else .no
def yesT : Dl → Re Bool := fun _ => .ok true
abbrev VTs (X : Cx) (ifs : List Expr) (t : Dl → Re Bool) : Prop := PTs X ifs (tT X.K XW0 t)
theorem PTs.imp {X : Cx} {ifs : List Expr} {t t' : TT} (h : PTs X ifs t) (w : ∀ σ H Q, t' σ H Q → t σ H Q) : PTs X ifs t' := ⟨fun pins s σ H Q I q => h.run pins s σ H Q I (w _ _ _ q)⟩
theorem vts_nil {X : Cx} : VTs X [] yesT := PTs.imp pts_nil fun σ H Q ⟨F, δ, s, q⟩ => q F H Grow.refl
theorem vts_one {X : Cx} {c : Expr} {t : Dl → Re Bool} (h : VT X XW0 c t) : VTs X [c] t := pts_one h
theorem lcL_ok {b : Bd} {t : Dl → Re Bool} {e : Dl → Re D} {δ : Dl} {d : D} {ds zs : List D} (h : lcL b t e δ (d :: ds) = .ok zs) : ∃ δ1 c, b d δ = some δ1 ∧ t δ1 = .ok c ∧ ((c = true ∧ ∃ y ys, e δ1 = .ok y ∧ lcL b t e δ ds = .ok ys ∧ zs = y :: ys) ∨ (c = false ∧ lcL b t e δ ds = .ok zs)) := by
  unfold lcL at h
  cases eb : b d δ with
  | none => rw [eb] at h; cases h
  | some δ1 =>
    rw [eb] at h
    cases et : t δ1 with
    | ex x => simp only [et, nxR, bnd_no] at h; cases h
    | no => simp only [et, nxR, bnd_no] at h; cases h
    | ok c =>
      simp only [et, nxR, bnd_ok] at h
      refine ⟨δ1, c, rfl, et, ?_⟩
      cases c with
      | false => rw [if_neg Bool.false_ne_true] at h; exact .inr ⟨rfl, h⟩
      | true =>
        rw [if_pos rfl] at h
        cases ee : e δ1 with
        | ex x => simp only [ee, nxR, bnd_no] at h; cases h
        | no => simp only [ee, nxR, bnd_no] at h; cases h
        | ok y =>
          simp only [ee, nxR, bnd_ok] at h
          cases er : lcL b t e δ ds with
          | ex x => rw [er] at h; cases h
          | no => rw [er] at h; cases h
          | ok ys => rw [er] at h; cases h; exact .inl ⟨rfl, y, ys, rfl, rfl, rfl⟩
section
variable {X : Cx} {W : XW} {P : PP} {pos : Pos}
theorem Go.lcEx {F : Addr → Prop} {H : Hp} {r : Re (List D)} {Q : VK} (h : Go W P F H (r.bnd fun ys => .ok (PyData.list ys)) Q) (nx : ∀ x, r ≠ .ex x) : ∃ ys, r = .ok ys ∧ Go W P F H (.ok (.list ys)) Q := by
  cases r with
  | ok ys => exact ⟨ys, rfl, h⟩
  | ex x => exact (nx x rfl).elim
  | no => exact h.elim
theorem lcL_ex {b : Bd} {t : Dl → Re Bool} {e : Dl → Re D} {δ : Dl} {x : Xn} : ∀ ds : List D, lcL b t e δ ds ≠ .ex x
  | [] => fun h => nomatch h
  | d :: ds => fun h => by
    unfold lcL at h
    cases eb : b d δ with
    | none => rw [eb] at h; cases h
    | some δ1 =>
      rw [eb] at h
      cases et : t δ1 with
      | ex x => simp only [et, nxR, bnd_no] at h; cases h
      | no => simp only [et, nxR, bnd_no] at h; cases h
      | ok c =>
        simp only [et, nxR, bnd_ok] at h
        cases c with
        | false => rw [if_neg Bool.false_ne_true] at h; exact lcL_ex ds h
        | true =>
          rw [if_pos rfl] at h
          cases ee : e δ1 with
          | ex x => simp only [ee, nxR, bnd_no] at h; cases h
          | no => simp only [ee, nxR, bnd_no] at h; cases h
          | ok y =>
            simp only [ee, nxR, bnd_ok] at h
            cases er : lcL b t e δ ds with
            | ex x' => exact (lcL_ex ds er).elim
            | no => rw [er] at h; cases h
            | ok ys => rw [er] at h; cases h
/-- the comprehension's reading, from the values -/
theorem t_lc {ts vs : List Nat} {fi : Dl → Re (List D)} {b : Bd} {t : Dl → Re Bool} {e : Dl → Re D} {K : PySem.W.Frag} (hP : POwn K P) (hts : ∀ j ∈ ts, j ∈ vs) {σ : L2.St} {H : Hp} {Q : VK} (h : tP K W P (lcD vs fi b t e) σ H Q) :
    tLc (tI K W fi) (tG K ts b) (tT K XW0 t) (tP K XW0 (pS K) e) vs σ H Q := by
  obtain ⟨F, δ, s, h⟩ := h
  refine ⟨F, δ, s, ?_⟩
  change ReW W F H ((fi δ).bnd _) _ at h
  cases ef : fi δ with
  | no => rw [ef] at h; exact h
  | ex x => rw [ef] at h; exact h
  | ok ds =>
    rw [ef] at h
    rw [bnd_ok] at h
    intro J F1 H1 g1 w D0 hD
    split at h
    · rename_i hsz
      obtain ⟨all, eall, h⟩ := Go.lcEx (P := P) h (fun x => lcL_ex ds)
      refine ⟨fun i m H' => m = ds.length - i ∧ i ≤ ds.length ∧ ∃ F' acc ys zs, Grow F1 H1 F' H' ∧ H' D0 = some (.lst acc) ∧ ¬ F' D0 ∧ RpA K F' H' acc ys ∧ acc.length ≤ i ∧ lcL b t e (wipeD δ vs) (ds.drop i) = .ok zs ∧ all = ys ++ zs, ⟨ds.length, by simp, Nat.zero_le _, F1, [], [], all, Grow.upd0 hD, upd_same, fun f => g1.dom s.dom _ f hD, .nil, Nat.le_refl _, by simpa using eall, rfl⟩, ?_⟩
      rintro i m H' ⟨rfl, hle, F', acc, ys, zs, g2, hacc, nf, ra, hl, ez, ea⟩
      have s1 := ((s.grow g1).grow g2)
      by_cases hlt : i < ds.length
      · refine .inr ⟨w.go F' H' i g2.stay hlt, fun H3 => i + 1 ≤ ds.length ∧ ∃ F' acc ys zs, Grow F1 H1 F' H3 ∧ H3 D0 = some (.lst acc) ∧ ¬ F' D0 ∧ RpA K F' H3 acc ys ∧ acc.length ≤ i + 1 ∧ lcL b t e (wipeD δ vs) (ds.drop (i + 1)) = .ok zs ∧ all = ys ++ zs, fun H3 ⟨a, c⟩ => ⟨ds.length - (i + 1), by omega, rfl, a, c⟩, fun x H2 y => ?_⟩
        obtain ⟨F2, g3, rx⟩ := w.yld F' H' i x H2 ds[i] g2.stay s1.dom (List.getElem?_eq_getElem hlt) y
        rw [List.drop_eq_getElem_cons hlt] at ez
        obtain ⟨δ1, c, eb, et, rest⟩ := lcL_ok ez
        have s2 := (s1.grow g3).wipe vs
        have nfD : ∀ {F3 H3}, Grow F' H' F3 H3 → ¬ F3 D0 := fun g => g.notF nf (by rw [hacc]; exact fun z => nomatch z)
        refine ⟨F2, wipeD δ vs, ds[i], δ1, s2.len, rx, eb, fun σ2 u2 => ⟨u2.wipe hts, ?_⟩⟩
        refine ⟨F2, δ1, s2.upd u2, ?_⟩
        rw [et]
        intro F3 H3 g4
        rcases rest with ⟨ec, yv, ys', ey, er, ezs⟩ | ⟨ec, er⟩
        · subst ec
          rw [if_pos rfl]
          refine ⟨F3, δ1, (s2.upd u2).grow g4, ?_⟩
          rw [ey]
          intro v F4 H4 g5 rv
          have gg := (g3.trans g4).trans g5
          have hacc4 : H4 D0 = some (.lst acc) := gg.same _ _ hacc
          refine ⟨acc, hacc4, by omega, hlt, F4, acc ++ [v], ys ++ [yv], ys', (g2.trans gg).wrote hD, upd_same, nfD gg, ?_, by rw [List.length_append]; exact Nat.succ_le_succ hl, er, by rw [ea, ezs]; simp⟩
          have kk : Kept F4 H4 (upd H4 D0 (.lst (acc ++ [v]))) := kept_upd (nfD gg) hacc4 trivial
          exact ((gg.rpA ra).append (.cons rv .nil)).mono (fun _ x => x) kk
        · subst ec
          rw [if_neg Bool.false_ne_true]
          have gg := g3.trans g4
          exact ⟨hlt, F3, acc, ys, zs, g2.trans gg, gg.same _ _ hacc, nfD gg, gg.rpA ra, by omega, er, ea⟩
      · have ei : i = ds.length := by omega
        subst ei
        rw [List.drop_length] at ez
        cases ez
        rw [List.append_nil] at ea
        subst ea
        obtain ⟨F2, g3, p⟩ := hP.own (g1.trans g2) (by
          cases e0 : H D0 with
          | none => rfl
          | some o => have := g1.same _ _ e0; rw [hD] at this; cases this) nf (show RpO K F' H' D0 (.list all) from ⟨acc, hacc, ra⟩)
        exact .inl ⟨w.stop F' H' g2.stay, h _ _ _ g3 p⟩
    · exact h.elim
theorem vp_lc {elt tg iter : Expr} {ifs : List Expr} {scope : Scope} {own : List (Str × Nat)} {ts : List Nat} {fi : Dl → Re (List D)} {b : Bd} {t : Dl → Re Bool} {e : Dl → Re D} (hP : POwn X.K P) (hc : X.calm = true) (hN : X.N.Nodup) (hi : VI X W tg iter fi) (ok : BlkOk X.N X.env.scope scope own)
    (hg : ∀ (s : Shared) (H : Hp) (C : Addr) (cl : List (Str × Addr)) (fp : List Addr), VG (X.blk s H scope (compEnvC scope cl C X.env) fp) tg ts b) (ht : ∀ (s : Shared) (H : Hp) (C : Addr) (cl : List (Str × Addr)) (fp : List Addr), VTs (X.blk s H scope (compEnvC scope cl C X.env) fp) ifs t)
    (he : ∀ (s : Shared) (H : Hp) (C : Addr) (cl : List (Str × Addr)) (fp : List Addr), VE (X.blk s H scope (compEnvC scope cl C X.env) fp) XW0 elt e) (hts : ∀ j ∈ ts, j ∈ own.map (·.2)) (hs : ∀ x, foldedSetIterable iter X.env x = pure x := by intro _; rfl) :
    VP X W P (.ListComp elt [⟨tg, iter, ifs, 0⟩] scope pos) (lcD (own.map (·.2)) fi b t e) := PE.imp (pe_lc hc hN hi ok hg ht he hs) fun σ H Q h => t_lc hP hts h
theorem vs_setLc {i : Nat} {y : Str} {py spos : Pos} {elt tg iter : Expr} {ifs : List Expr} {scope : Scope} {own : List (Str × Nat)} {ts : List Nat} {fi : Dl → Re (List D)} {b : Bd} {t : Dl → Re Bool} {e : Dl → Re D} (hc : X.calm = true) (hN : X.N.Nodup) (hy : X.N[i]? = some y) (hyl : X.env.scope.names.lookup y = some .local)
    (hsw : swapsWith (.ListComp elt [⟨tg, iter, ifs, 0⟩] scope pos) (some (.Name y py)) spos.line X.env = pure true) (hi : VI X W tg iter fi) (ok : BlkOk X.N X.env.scope scope own)
    (hg : ∀ (s : Shared) (H : Hp) (C : Addr) (cl : List (Str × Addr)) (fp : List Addr), VG (X.blk s H scope (compEnvC scope cl C X.env) fp) tg ts b) (ht : ∀ (s : Shared) (H : Hp) (C : Addr) (cl : List (Str × Addr)) (fp : List Addr), VTs (X.blk s H scope (compEnvC scope cl C X.env) fp) ifs t)
    (he : ∀ (s : Shared) (H : Hp) (C : Addr) (cl : List (Str × Addr)) (fp : List Addr), VE (X.blk s H scope (compEnvC scope cl C X.env) fp) XW0 elt e) (hts : ∀ j ∈ ts, j ∈ own.map (·.2)) (hs : ∀ x, foldedSetIterable iter X.env x = pure x := by intro _; rfl) :
    VSt X W (.Assign [.Name y py] (.ListComp elt [⟨tg, iter, ifs, 0⟩] scope pos) spos) (setS i (lcD (own.map (·.2)) fi b t e)) := PS.imp (ps_setLc hc hN hy hyl hsw hi ok hg ht he hs) fun D σ H h => t_lc pS_own hts (t_setS h)
theorem vs_setLcO {i : Nat} {y : Str} {py spos : Pos} {elt tg iter : Expr} {ifs : List Expr} {scope : Scope} {own : List (Str × Nat)} {ts : List Nat} {fi : Dl → Re (List D)} {b : Bd} {t : Dl → Re Bool} {e : Dl → Re D} (hc : X.calm = true) (hN : X.N.Nodup) (hy : X.N[i]? = some y) (hyl : X.env.scope.names.lookup y = some .local)
    (hsw : swapsWith (.ListComp elt [⟨tg, iter, ifs, 0⟩] scope pos) (some (.Name y py)) spos.line X.env = pure true) (hi : VI X W tg iter fi) (ok : BlkOk X.N X.env.scope scope own)
    (hg : ∀ (s : Shared) (H : Hp) (C : Addr) (cl : List (Str × Addr)) (fp : List Addr), VG (X.blk s H scope (compEnvC scope cl C X.env) fp) tg ts b) (ht : ∀ (s : Shared) (H : Hp) (C : Addr) (cl : List (Str × Addr)) (fp : List Addr), VTs (X.blk s H scope (compEnvC scope cl C X.env) fp) ifs t)
    (he : ∀ (s : Shared) (H : Hp) (C : Addr) (cl : List (Str × Addr)) (fp : List Addr), VE (X.blk s H scope (compEnvC scope cl C X.env) fp) XW0 elt e) (hts : ∀ j ∈ ts, j ∈ own.map (·.2)) (hs : ∀ x, foldedSetIterable iter X.env x = pure x := by intro _; rfl) :
    VSt X W (.Assign [.Name y py] (.ListComp elt [⟨tg, iter, ifs, 0⟩] scope pos) spos) (setO i (lcD (own.map (·.2)) fi b t e)) := PS.imp (ps_setLc hc hN hy hyl hsw hi ok hg ht he hs) fun D σ H h => t_lc pF_own hts (t_setO h)
end
end VS
end
section
namespace VS
open PySem PySem.Spec PyProof.Rows L2

/-! ### list(x), tuple(x) -/
def lstOfD : List D → Re D
  | [.list ds] => .ok (.list ds)
  | [.tuple ds] => .ok (.list ds)
  | _ => .no
def tupOfD : List D → Re D
  | [.list ds] => .ok (.tuple ds)
  | _ => .no
section
variable {X : Cx} {W : XW} {P : PP} {F : Addr → Prop} {H : Hp} {K : PySem.W.Frag}
theorem cg_list (hP : PNew X.K P) : CallG X W P RpB (fun xs H Q => ∃ p ys, xs = [.ref p] ∧ (SqL X.K H p ys ∨ SqT X.K H p ys) ∧ ∀ l, H l = none → Q (.ref l) (upd H l (.lst ys))) lstOfD := by
  intro F H vs ds Q dm r h
  unfold lstOfD at h
  split at h
  · cases r with
    | cons r rr =>
      cases rr
      obtain ⟨a, xs, e, ha, t⟩ := r
      subst e
      exact ⟨a, xs, rfl, .inl (.inl ha), fun l hn => h.newL hP dm hn t⟩
  · cases r with
    | cons r rr =>
      cases rr
      obtain ⟨a, xs, e, ha, t⟩ := r
      subst e
      exact ⟨a, xs, rfl, .inr ha, fun l hn => h.newL hP dm hn t⟩
  · exact h.elim
theorem cg_tuple : CallG X W (pS X.K) RpB (fun xs H Q => ∃ p ys, xs = [.ref p] ∧ ((SqL X.K H p ys ∧ ∀ l, H l = none → Q (.ref l) (upd H l (.tup ys))) ∨ (SqT X.K H p ys ∧ Q (.ref p) H))) tupOfD := by
  intro F H vs ds Q dm r h
  unfold tupOfD at h
  split at h
  · cases r with
    | cons r rr =>
      cases rr
      obtain ⟨a, xs, e, ha, t⟩ := r
      subst e
      exact ⟨a, xs, rfl, .inl ⟨.inl ha, fun l hn => h.newT hn t⟩⟩
  · exact h.elim
/-- tuple(x) where x may be a tuple -/
def tupAnyD : List D → Re D
  | [.list ds] => .ok (.tuple ds)
  | [.tuple ds] => .ok (.tuple ds)
  | _ => .no
theorem cg_tupAny : CallG X W (pS X.K) Rp (fun xs H Q => ∃ p ys, xs = [.ref p] ∧ ((SqL X.K H p ys ∧ ∀ l, H l = none → Q (.ref l) (upd H l (.tup ys))) ∨ (SqT X.K H p ys ∧ Q (.ref p) H))) tupAnyD := by
  intro F H vs ds Q dm r h
  unfold tupAnyD at h
  split at h
  · cases r with
    | cons r rr =>
      cases rr
      cases r with
      | lst a f t => exact ⟨_, _, rfl, .inl ⟨.inl a, fun l hn => h.newT hn t⟩⟩
  · cases r with
    | cons r rr =>
      cases rr
      cases r with
      | tup a t => exact ⟨_, _, rfl, .inr ⟨a.sq, h.val (.tup a t)⟩⟩
  · exact h.elim

/-! ### sorted(list) -/
def isTup1 : D → Bool
  | .tuple (_ :: _) => true
  | _ => false
def notTN : D → Bool
  | .none => false
  | .tuple _ => false
  | _ => true
def sortOk (xs : List D) : Bool := xs.all (dn 60) && xs.all (fun d => xs.all fun e => PySem.W.alike d e) && (xs.all isTup1 || xs.all notTN) && decide (xs.length ≤ sizeLine)
def sortL (xs : List D) : List D := xs.mergeSort (PySem.W.dataLe false id)
def sortedD : List D → Re D
  | [.list xs] => if sortOk xs = true then .ok (.list (sortL xs)) else .no
  | _ => .no
theorem sortOk_s {xs : List D} (h : sortOk xs = true) : (∀ d ∈ xs, dn 60 d = true) ∧ PySem.W.AllAlike xs ∧ PySem.W.Sortable xs ∧ xs.length ≤ sizeLine := by
  unfold sortOk at h
  simp only [Bool.and_eq_true, Bool.or_eq_true, List.all_eq_true, decide_eq_true_eq] at h
  obtain ⟨⟨⟨h1, h2⟩, h3⟩, h4⟩ := h
  refine ⟨h1, h2, ?_, h4⟩
  rcases h3 with h3 | h3
  · refine .inl fun d hd => ?_
    have q := h3 d hd
    unfold isTup1 at q
    split at q
    · exact ⟨_, _, rfl⟩
    · cases q
  · refine .inr fun d hd => ?_
    have q := h3 d hd
    refine ⟨fun e => ?_, fun ys e => ?_⟩ <;> (subst e; unfold notTN at q; cases q)
def rSortV (K : PySem.W.Frag) : List V → Hp → VK → Prop := fun vs H Q => ∃ (a : Addr) (bs : List (V × D)), vs = [.ref a] ∧ SqL K H a (bs.map (·.1)) ∧ (∀ b ∈ bs, Dp K H b.1 b.2) ∧ sortOk (bs.map (·.2)) = true ∧
  ∀ p, H p = none → Q (.ref p) (upd H p (.lst ((bs.mergeSort (PySem.W.dataLe false (·.2))).map (·.1))))
theorem call_sortV (hu : X.A.units + 64 < cLine) : CallR X (.builtin "sorted") (rSortV X.K) := by
  intro pins s σ H vs us Q I r h
  obtain ⟨a, bs, rfl, hs, hb, hk, q⟩ := h
  obtain ⟨its, rv, hl, hz⟩ := I.list hs
  rw [Vals.ref1 r]
  obtain ⟨k1, k2, k3, k4⟩ := sortOk_s hk
  have e1 : ∀ (bs : List (V × D)) (its : List Value), Vals (bs.map (·.1)) its → PySem.W.EachIs (fun v b => RelV b.1 v) its bs := fun bs => by
    induction bs with
    | nil => intro its r; cases r; exact .nil
    | cons b bs ih => intro its r; cases r with | cons r rr => exact .cons r (ih _ rr)
  have e2 : ∀ (bs : List (V × D)) (its : List Value), Vals (bs.map (·.1)) its → (∀ b ∈ bs, Dp X.K H b.1 b.2) → PySem.W.EachIs (fun v b => ∃ as, Reads s.heap v b.2 as) its bs := fun bs => by
    induction bs with
    | nil => intro its r _; cases r; exact .nil
    | cons b bs ih =>
      intro its r hb
      cases r with
      | cons r rr =>
        refine .cons ?_ (ih _ rr fun b hb' => hb b (List.mem_cons_of_mem _ hb'))
        exact Dp.reads I b.2 b.1 _ (hb b List.mem_cons_self) r
  refine PySem.W.sorted_data (R := fun (v : Value) (b : V × D) => RelV b.1 v) (enc := fun b : V × D => b.2) hl.isList (e1 bs its rv) (e2 bs its rv hb) k2 k3 (by rw [List.length_map] at k4; exact k4) (fun b hb => ?_) fun out ho eo => ?_
  · have := (dn_plain b.2 60 (k1 b.2 (List.mem_map.mpr ⟨b, hb, rfl⟩))).2
    omega
  · obtain ⟨c, hc⟩ := PyProof.Rows.sortedAll_at s.heap its out.toArray
    have e3 : ∀ (bs : List (V × D)) (out : List Value), PySem.W.EachIs (fun v b => RelV b.1 v) out bs → Vals (bs.map (·.1)) out := fun bs => by
      induction bs with
      | nil => intro out r; cases r; exact .nil
      | cons b bs ih => intro out r; cases r with | cons r rr => exact .cons r (ih _ rr)
    have hlen : ((bs.mergeSort (PySem.W.dataLe false (·.2))).map (·.1)).length ≤ sizeLine := by rw [List.length_map, List.length_mergeSort]; rw [List.length_map] at k4; exact k4
    exact ⟨.ref _, upd H (s.heap.objs.size + 1) (.lst _), I.laid (t' := s.toks) (fun _ _ => PyProof.Rows.sortedAll_old) (Nat.le_succ _) ⟨hlen, out, c, e3 _ _ eo, hc⟩, rfl, q _ (I.hok.fresh (Nat.le_succ _))⟩
theorem rpA_zip : ∀ {vs : List V} {ds : List D}, RpA K F H vs ds → ∃ bs : List (V × D), vs = bs.map (·.1) ∧ ds = bs.map (·.2) ∧ ∀ b ∈ bs, Rp K F H b.1 b.2
  | _, _, .nil => ⟨[], rfl, rfl, fun _ h => nomatch h⟩
  | _, _, .cons h t => by
    obtain ⟨bs, e1, e2, r⟩ := rpA_zip t
    refine ⟨(_, _) :: bs, by rw [e1]; rfl, by rw [e2]; rfl, fun b hb => ?_⟩
    rcases List.mem_cons.mp hb with e | hb
    · rw [e]; exact h
    · exact r b hb
theorem rpA_of : ∀ {bs : List (V × D)}, (∀ b ∈ bs, Rp K F H b.1 b.2) → RpA K F H (bs.map (·.1)) (bs.map (·.2))
  | [], _ => .nil
  | b :: bs, h => .cons (h b List.mem_cons_self) (rpA_of fun c hc => h c (List.mem_cons_of_mem _ hc))
theorem sort_snd (bs : List (V × D)) : (bs.mergeSort (PySem.W.dataLe false (·.2))).map (·.2) = sortL (bs.map (·.2)) := by
  unfold sortL
  exact List.map_mergeSort (fun a _ b _ => rfl)
theorem rp_sort {bs : List (V × D)} (h : ∀ b ∈ bs, Rp K F H b.1 b.2) : RpA K F H ((bs.mergeSort (PySem.W.dataLe false (fun b : V × D => b.2))).map (fun b : V × D => b.1)) (sortL (bs.map (·.2))) := by
  rw [← sort_snd]
  exact rpA_of fun b hb => h b (List.mem_mergeSort.mp hb)
theorem cg_sorted (hP : PNew X.K P) : CallG X W P RpB (rSortV X.K) sortedD := by
  intro F H vs ds Q dm r h
  unfold sortedD at h
  split at h
  · split at h
    · rename_i xs hk
      cases r with
      | cons r rr =>
        cases rr
        obtain ⟨a, ys, e, ha, t⟩ := r
        subst e
        obtain ⟨bs, e1, e2, rb⟩ := rpA_zip t
        subst e1 e2
        have k1 := (sortOk_s hk).1
        exact ⟨a, bs, rfl, .inl ha, fun b hb => (rb b hb).dp (dn_plain _ 60 (k1 b.2 (List.mem_map.mpr ⟨b, hb, rfl⟩))).1, hk, fun p hn => h.newL hP dm hn (rp_sort rb)⟩
    · exact h.elim
  · exact h.elim
end

/-! ### slices -/
def cutD (xs : List D) (lo hi : Option Int) : List D := (xs.drop (HT.sIx xs.length 0 lo)).take (HT.sIx xs.length xs.length hi - HT.sIx xs.length 0 lo)
theorem rp_cut {K : PySem.W.Frag} {F : Addr → Prop} {H : Hp} {vs : List V} {ds : List D} (r : RpA K F H vs ds) (lo hi : Option Int) : RpA K F H (cutV vs lo hi) (cutD ds lo hi) := by
  unfold cutV cutD
  rw [r.length]
  exact (r.drop _).take _
/-- a slice's part -/
abbrev Pd := Dl → Re (Option Int)
def noP : Pd := fun _ => .ok none
def asI : D → Re (Option Int)
  | .int i => .ok (some i)
  | _ => .no
def someP (f : Dl → Re D) : Pd := fun δ => (f δ).bnd asI
def tPt (K : PySem.W.Frag) (W : XW) (f : Pd) : TO := fun σ H Q => ∃ F δ, SokE K F H σ δ ∧ ReW W F H (f δ) fun o => ∀ F' H', Grow F H F' H' → Q o H'
abbrev VPt (X : Cx) (W : XW) (o : Option Expr) (f : Pd) : Prop := PO X o (tPt X.K W f)
theorem PO.imp {X : Cx} {o : Option Expr} {t t' : TO} (h : PO X o t) (w : ∀ σ H Q, t' σ H Q → t σ H Q) : PO X o t' := ⟨fun pins s σ H Q I q => h.run pins s σ H Q I (w _ _ _ q)⟩
section
variable {X : Cx} {W : XW} {P : PP} {e : Expr} {lo hi : Option Expr} {fa : Dl → Re D} {fl fh : Pd} {p2 pos : Pos}
theorem vpt_no : VPt X W none noP := PO.imp po_none fun σ H Q ⟨F, δ, s, q⟩ => q F H Grow.refl
theorem vpt_some (h : VE X W e fa) : VPt X W (some e) (someP fa) := PO.imp (po_some h) fun σ H Q ⟨F, δ, s, q⟩ => ⟨F, δ, s, by
  unfold someP at q
  cases ef : fa δ with
  | no => rw [ef] at q; exact q
  | ex x => rw [ef] at q; exact q
  | ok d =>
    rw [ef] at q
    intro v F1 H1 g r
    cases d with
    | int i => cases r; exact ⟨i, rfl, q F1 H1 g⟩
    | _ => exact q.elim⟩
def dSl (g : D → Option Int → Option Int → Re D) (fa : Dl → Re D) (fl fh : Pd) (δ : Dl) : Re D := (fa δ).bnd fun x => (fl δ).bnd fun l => (fh δ).bnd fun u => g x l u
def SlG (X : Cx) (W : XW) (P : PP) (R : Rel) (r : V → Option Int → Option Int → Hp → VK → Prop) (g : D → Option Int → Option Int → Re D) : Prop :=
  ∀ (F : Addr → Prop) (H : Hp) (x : V) (d : D) (l u : Option Int) (Q : VK), Dom F H → R X.K F H x d → Go W P F H (g d l u) Q → r x l u H Q
theorem t_sl {R : Rel} {r : V → Option Int → Option Int → Hp → VK → Prop} {g : D → Option Int → Option Int → Re D} (hp : PMon P) (kR : RKeep R) (hg : SlG X W P R r g) (σ : L2.St) (H : Hp) (Q : VK) (h : tP X.K W P (dSl g fa fl fh) σ H Q) : tSl r (tP X.K W (pp X.K R) fa) (tPt X.K W fl) (tPt X.K W fh) σ H Q := by
  obtain ⟨F, δ, s, h⟩ := h
  refine ⟨F, δ, s, Go.bnd hp h fun d x F1 H1 e1 g1 px h1 => ⟨F1, δ, s.grow g1, ?_⟩⟩
  cases el : fl δ with
  | no => rw [el] at h1; exact h1
  | ex z => rw [el] at h1; exact h1
  | ok l =>
    rw [el] at h1
    intro F2 H2 g2
    refine ⟨F2, δ, (s.grow g1).grow g2, ?_⟩
    have h2 := Go.grow hp h1 g2
    simp only [bnd_ok] at h2
    cases eh : fh δ with
    | no => rw [eh] at h2; exact h2
    | ex z => rw [eh] at h2; exact h2
    | ok u =>
      rw [eh] at h2
      intro F3 H3 g3
      exact hg F3 H3 x d l u Q (g3.dom (g2.dom (g1.dom s.dom))) (kR.k (g2.trans g3) px) (Go.grow hp h2 g3)
/-- a slice of a list: a new list -/
def slL (d : D) (l u : Option Int) : Re D := match d with
  | .list xs => .ok (.list (cutD xs l u))
  | _ => .no
theorem slg_list (hP : PNew X.K P) : SlG X W P RpB (rSlL X.K) slL := by
  intro F H x d l u Q dm r h
  unfold slL at h
  split at h
  · obtain ⟨a, xs, e, ha, t⟩ := r
    exact ⟨a, xs, e, .inl ha, fun p hn => h.newL hP dm hn (rp_cut t l u)⟩
  · exact h.elim
theorem vp_slL (hP : PNew X.K P) (he : VB X W e fa) (hl : VPt X W lo fl) (hh : VPt X W hi fh) : VP X W P (.Subscript e (.Slice lo hi none p2) pos) (dSl slL fa fl fh) := PE.imp (pe_slice sl_list he hl hh) (t_sl hP.toPMon kB (slg_list hP))
/-- a slice of a tuple, a text, a list -/
def slA (d : D) (l u : Option Int) : Re D := match d with
  | .list xs => .ok (.list (cutD xs l u))
  | .tuple xs => .ok (.tuple (cutD xs l u))
  | _ => .no
theorem slg_any : SlG X W (pS X.K) Rp (fun x lo hi H Q => rSlL X.K x lo hi H Q ∨ rSlA X.K x lo hi H Q) slA := by
  intro F H x d l u Q dm r h
  unfold slA at h
  split at h
  · cases r with
    | lst a f t => exact .inl ⟨_, _, rfl, .inl a, fun p hn => h.newL pS_new dm hn (rp_cut t l u)⟩
  · cases r with
    | tup a t =>
      refine .inr ⟨_, _, rfl, a.sq, fun q => ?_, fun _ p hn => h.newT hn (rp_cut t l u)⟩
      refine h.val ?_
      have lt := t.length
      unfold cutD
      rw [← lt, q.1, q.2, Nat.sub_zero, List.drop_zero, List.take_of_length_le (by omega)]
      exact .tup a t
  · exact h.elim
theorem ve_sl (he : VE X W e fa) (hl : VPt X W lo fl) (hh : VPt X W hi fh) : VE X W (.Subscript e (.Slice lo hi none p2) pos) (dSl slA fa fl fh) := PE.imp (pe_slice (SlR.or sl_list sl_tupA) he hl hh) (t_sl pS_mon kS slg_any)
/-- xs[::-1] of a list -/
def revL : D → Re D
  | .list xs => .ok (.list xs.reverse)
  | _ => .no
theorem vp_revL {k : Nat} {p1 p3 : Pos} (hP : PNew X.K P) (he : VB X W e fa) : VP X W P (.Subscript e (.Slice none none (some (.UnaryOp .USub (.Constant (.int 1) k p1) p2)) p3) pos) (d1 revL fa) := PE.imp (pe_revL he) fun σ H Q ⟨F, δ, s, h⟩ =>
  ⟨F, δ, s, Go.bnd hP.toPMon h fun d x F1 H1 e1 g1 px h1 => by
    unfold revL at h1
    split at h1
    · obtain ⟨a, xs, ex, ha, t⟩ := px
      exact ⟨a, xs, ex, .inl ha, fun p hn => h1.newL hP (g1.dom s.dom) hn t.reverse⟩
    · exact h1.elim⟩
/-- script[:n] -/
def dScrSl (i : Nat) (n : Int) (δ : Dl) : Re D := match δ[i]? with
  | some (.br ns) => .ok (.list ((cutD (ns.map .int) none (some n))))
  | _ => .no
theorem vp_scrSl {i : Nat} {y : Str} {py p1 : Pos} {n : Int} {j : Nat} (hP : PNew X.K P) (hy : PE X (.Name y py) (tVar i)) : VP X W P (.Subscript (.Name y py) (.Slice none (some (.Constant (.int n) j p1)) none p2) pos) (dScrSl i n) := PE.imp (pe_slice sl_list hy po_none (po_some pe_int)) fun σ H Q ⟨F, δ, s, h⟩ => by
  unfold dScrSl at h
  split at h
  · rename_i ns en
    obtain ⟨a, ea, ra⟩ := s.sl i _ en
    exact ⟨_, ea, n, rfl, a, _, rfl, ra.1, fun p hn => Go.newL hP s.dom h hn (rp_cut (RpA.ofInts ns) none (some n))⟩
  · exact h.elim
end

/-! ### own lists written -/
theorem sok_write {K : PySem.W.Frag} {F0 : Addr → Prop} {H0 : Hp} {F : Addr → Prop} {H : Hp} {σ : L2.St} {δ : Dl} {i : Nat} {a : Addr} {d d' : D} {o' : HO} (s : Sok K F0 H0 F H σ δ) (ei : δ[i]? = some (.ow d)) (ea : σ[i]? = some (some (.ref a)))
    (hd : RpO K F (upd H a o') a d') : Stay F H F (upd H a o') ∧ Sok K F0 H0 F (upd H a o') σ (δ.set i (.ow d')) := by
  obtain ⟨a', ea', o, nf, n0⟩ := s.ow i d ei
  rw [ea] at ea'
  cases ea'
  obtain ⟨u, hu, mu⟩ := o.there
  have kk : Kept F H (upd H a o') := kept_upd nf hu mu
  refine ⟨⟨fun _ x => x, kk⟩, ⟨by rw [List.length_set]; exact s.len, ⟨s.g.sub, s.g.new, fun b x e => ?_, fun dm b fb => ?_⟩, s.d0, fun b fb => ?_, fun j e h => ?_, fun j e h => ?_, fun j e h => ?_, fun j k e1 e2 b h1 h2 h3 h4 => ?_⟩⟩
  · rw [upd_ne (ne_of_none e n0)]; exact s.g.same b x e
  · by_cases e : b = a
    · subst e; exact upd_some
    · rw [upd_ne e]; exact s.dom b fb
  · by_cases e : b = a
    · subst e; exact upd_some
    · rw [upd_ne e]; exact s.dom b fb
  · by_cases n : i = j
    · subst n; obtain ⟨q, _⟩ := get_set_eq h; cases q
    · obtain ⟨v, ev, r⟩ := s.sh j e (get_set_ne h n)
      exact ⟨v, ev, r.mono (fun _ x => x) kk⟩
  · by_cases n : i = j
    · subst n
      obtain ⟨q, _⟩ := get_set_eq h
      cases q
      exact ⟨a, ea, hd, nf, n0⟩
    · obtain ⟨b, eb, ob, nb, nb0⟩ := s.ow j e (get_set_ne h n)
      have ne : b ≠ a := fun z => by
        subst z
        exact n (s.ne i j d e b ei (get_set_ne h n) ea eb)
      exact ⟨b, eb, ob.kept (fun _ x => x) kk (upd_ne ne), nb, nb0⟩
  · by_cases n : i = j
    · subst n; obtain ⟨q, _⟩ := get_set_eq h; cases q
    · obtain ⟨b, eb, r⟩ := s.br j e (get_set_ne h n)
      refine ⟨b, eb, r.keep fun c x ec nm => ?_⟩
      have ne : c ≠ a := fun z => by
        subst z
        rw [hu] at ec; cases ec
        exact nm mu
      rw [upd_ne ne]; exact ec
  · have f : ∀ (j : Nat) (x : D), (δ.set i (.ow d'))[j]? = some (.ow x) → ∃ y, δ[j]? = some (.ow y) := fun j x h => by
      by_cases n : i = j
      · subst n; exact ⟨d, ei⟩
      · exact ⟨x, get_set_ne h n⟩
    obtain ⟨y1, q1⟩ := f j _ h1
    obtain ⟨y2, q2⟩ := f k _ h2
    exact s.ne j k y1 y2 b q1 q2 h3 h4
section
variable {X : Cx} {W : XW} {pos apos cpos py : Pos} {i : Nat} {y : Str} {e : Expr} {fe : Dl → Re D}
/-- x.append(e) -/
def appS (i : Nat) (f : Dl → Re D) (δ : Dl) : RS := match δ[i]? with
  | some (.ow (.list xs)) => toS (f δ) fun d => if xs.length < sizeLine then .nx (δ.set i (.ow (.list (xs ++ [d])))) else .no
  | _ => .no
theorem vs_append (hy : PE X (.Name y py) (tVar i)) (he : VE X W e fe) (hs : swapsWith (.Call (.Attribute (.Name y py) "append" apos) [e] [] cpos) none pos.line X.env = pure false := by rfl)
    (hbase : attributeBase (.Name y py) "append" X.env (eval (.Name y py) X.env) = eval (.Name y py) X.env := by rfl)
    (hfew : ((backTo cpos (starEach [e] X.env)).all (fun x => !x.1) && (backToKw cpos (keywordEach [] X.env)).all (fun x => x.1.isSome)
      && decide (([e] : List Expr).length + ([] : List Keyword).length + (if ([] : List Keyword).isEmpty then 0 else 1) < 30)) = true := by rfl)
    (hline : (apos.endLine == cpos.line) = true := by rfl) (hst : starEach [e] X.env = (false, eval e X.env) :: starEach [] X.env := by rfl) (hplain : (backTo cpos (starEach [] X.env)).any (·.1) = false := by rfl) :
    VSt X W (.Expr (.Call (.Attribute (.Name y py) "append" apos) [e] [] cpos) pos) (appS i fe) :=
  PS.imp (ps_expr (pe_bm F.plainAttrs_list F.slot_list_append F.type_list_append mt_append hy (pa_cons he pa_nil hst) hbase hfew hline hst hplain) hs) fun D σ H ⟨F0, H0, F, δ, s, q⟩ => by
    unfold appS at q
    split at q
    · rename_i xs ei
      obtain ⟨a, ea, ⟨vs, ha, ra⟩, nf, n0⟩ := s.ow i _ ei
      refine ⟨_, ea, .inl ⟨rfl, _, .inl (.inl ha)⟩, F, δ, s.e, SO.go (P := pS X.K) s q fun d v F1 H1 e1 g1 r h1 => ?_⟩
      split at h1
      · rename_i hz
        have ha1 := g1.same _ _ ha
        refine ⟨a, vs, v, rfl, rfl, ha1, by rw [ra.length]; exact hz, ?_⟩
        have nf1 : ¬ F1 a := g1.notF nf (by rw [ha]; exact fun z => nomatch z)
        have kk : Kept F1 H1 (upd H1 a (.lst (vs ++ [v]))) := kept_upd nf1 ha1 trivial
        obtain ⟨st, s2⟩ := sok_write (s.grow g1) (d' := .list (xs ++ [d])) (o' := .lst (vs ++ [v])) ei ea ⟨_, upd_same, ((g1.rpA ra).append (.cons r .nil)).mono (fun _ x => x) kk⟩
        exact h1 _ _ _ st s2
      · exact h1.elim
    · exact q.elim
end
end VS
end
section
namespace VS
open PySem PySem.Spec PyProof.Rows L2

/-! ### x.extend(..) of a list, of a tuple -/
theorem ext_tup (l : Addr) (its : Array Value) (n : Nat) (b : Addr) (more : Array Value) (n2 : Nat) (dd : Option Addr) (sl : Array (Option Value)) (h0 : ¬(!its.isEmpty && Builtin.List.listTooLong (its.size + more.size)) = true) (h1 : its.size ≤ sizeLine) (h2 : its.size + more.size ≤ sizeLine + 1) :
    Meets (Builtin.«list.extend» ⟨[.ref l, .ref b], []⟩) (fun _ R s => s.heap.get? l = some { cls := .type "list", dict := none, data := .seq its n, slots := #[] } ∧ s.heap.get? b = some { cls := .type "tuple", dict := dd, data := .seq more n2, slots := sl } ∧
      R (.ok (.ret Value.none)) { s with heap := s.heap.update l (Obj.mapSeq fun x => x ++ more), toks := s.toks }) :=
  .of_wp fun prog w A R s h => by
    obtain ⟨hp, g, d, tk, os⟩ := s
    obtain ⟨hl, hb, h⟩ := h
    have f1 := AutoSeq1.idx_int
    have f2 := AutoSeq1.sub_tuple_tuple
    have f3 := AutoSeq1.sub_list_list
    have f4 := AutoSeq1.sub_tuple_list
    have f5 := AutoSeq1.sub_list_tuple
    have z : (its ++ more).size ≤ sizeLine + 1 := by rw [Array.size_append]; exact h2
    wp_walk using (wpAny_updateSeq hl rfl (hz := h1) (_hz' := z)), AutoSeq1.wpAny_loadPart' hl, AutoSeq1.wpAny_loadPart' hb
    exact ⟨_, rfl, h⟩
def rExtA (K : PySem.W.Frag) : V → List V → Hp → VK → Prop := fun x vs H Q => ∃ l b xs zs, x = .ref l ∧ vs = [.ref b] ∧ H l = some (.lst xs) ∧ (Rd H b (.lst zs) ∨ SqT K H b zs) ∧ xs.length + zs.length ≤ sizeLine ∧ Q .non (upd H l (.lst (xs ++ zs)))
theorem mt_extA {X : Cx} : MtR X "list.extend" (rExtA X.K) := by
  intro pins s σ H x vs v us Q I rx rv h
  obtain ⟨l, b, xs, zs, rfl, rfl, hH, hB, hz, q⟩ := h
  cases rx
  obtain ⟨u, rfl, ru⟩ := rv.one
  cases ru
  obtain ⟨z, its, n, r, hl, e⟩ := I.lstM hH
  have fin : ∀ its2 : List Value, Vals zs its2 → zs.length = its2.length → EP X pins σ Q .none { s with heap := s.heap.update l (Obj.mapSeq fun x => x ++ its2.toArray), toks := s.toks } := fun its2 r2 hl2 =>
    ⟨.non, _, I.lset (its' := its ++ its2) hH e (by simp) (r.append r2) (by rw [List.length_append]; omega), rfl, q⟩
  rcases hB with hB | hB
  · obtain ⟨_, its2, n2, r2, hl2, e2⟩ := lstR I hB
    have hsz : its.toArray.size + its2.toArray.size ≤ sizeLine := by rw [List.size_toArray, List.size_toArray]; omega
    have hlong : ¬ (!its.toArray.isEmpty && Builtin.List.listTooLong (its.toArray.size + its2.toArray.size)) = true := by
      rw [notLongL hsz, Bool.and_false]
      exact Bool.false_ne_true
    exact call_meets F.slot_list_extend ⟨_, e, rfl⟩ F.entry_list_extend (F.args_list_extend_2 _ _) (AutoSeq1.list_extend_list_list_0 l its.toArray n b its2.toArray n2 hlong (by rw [List.size_toArray]; omega) (by omega)) ⟨e, e2, fin its2 r2 hl2⟩
  · obtain ⟨its2, r2, ⟨⟨c, dd, dt, sl⟩, e2, ec, n2, ed⟩, _⟩ := I.tuple hB
    have hl2 := r2.length
    have hsz : its.toArray.size + its2.toArray.size ≤ sizeLine := by rw [List.size_toArray, List.size_toArray]; omega
    have hlong : ¬ (!its.toArray.isEmpty && Builtin.List.listTooLong (its.toArray.size + its2.toArray.size)) = true := by
      rw [notLongL hsz, Bool.and_false]
      exact Bool.false_ne_true
    have ec : c = .type "tuple" := ec
    have ed : dt = .seq its2.toArray n2 := ed
    subst ec ed
    exact call_meets F.slot_list_extend ⟨_, e, rfl⟩ F.entry_list_extend (F.args_list_extend_2 _ _) (ext_tup l its.toArray n b its2.toArray n2 dd sl hlong (by rw [List.size_toArray]; omega) (by omega)) ⟨e, e2, fin its2 r2 hl2⟩
def seqD : D → Re (List D)
  | .list ds => .ok ds
  | .tuple ds => .ok ds
  | _ => .no
section
variable {X : Cx} {W : XW} {pos apos cpos py : Pos} {i : Nat} {y : Str} {e e2 : Expr} {fe fk : Dl → Re D}
def extS (i : Nat) (f : Dl → Re D) (δ : Dl) : RS := match δ[i]? with
  | some (.ow (.list xs)) => toS ((f δ).bnd seqD) fun ds => if xs.length + ds.length ≤ sizeLine then .nx (δ.set i (.ow (.list (xs ++ ds)))) else .no
  | _ => .no
theorem vs_extend (hy : PE X (.Name y py) (tVar i)) (he : VE X W e fe) (hs : swapsWith (.Call (.Attribute (.Name y py) "extend" apos) [e] [] cpos) none pos.line X.env = pure false := by rfl)
    (hbase : attributeBase (.Name y py) "extend" X.env (eval (.Name y py) X.env) = eval (.Name y py) X.env := by rfl)
    (hfew : ((backTo cpos (starEach [e] X.env)).all (fun x => !x.1) && (backToKw cpos (keywordEach [] X.env)).all (fun x => x.1.isSome)
      && decide (([e] : List Expr).length + ([] : List Keyword).length + (if ([] : List Keyword).isEmpty then 0 else 1) < 30)) = true := by rfl)
    (hline : (apos.endLine == cpos.line) = true := by rfl) (hst : starEach [e] X.env = (false, eval e X.env) :: starEach [] X.env := by rfl) (hplain : (backTo cpos (starEach [] X.env)).any (·.1) = false := by rfl) :
    VSt X W (.Expr (.Call (.Attribute (.Name y py) "extend" apos) [e] [] cpos) pos) (extS i fe) :=
  PS.imp (ps_expr (pe_bm F.plainAttrs_list F.slot_list_extend F.type_list_extend mt_extA hy (pa_cons he pa_nil hst) hbase hfew hline hst hplain) hs) fun D σ H ⟨F0, H0, F, δ, s, q⟩ => by
    unfold extS at q
    split at q
    · rename_i xs ei
      obtain ⟨a, ea, ⟨vs, ha, ra⟩, nf, n0⟩ := s.ow i _ ei
      refine ⟨_, ea, .inl ⟨rfl, _, .inl (.inl ha)⟩, F, δ, s.e, ?_⟩
      have fin : ∀ (F1 : Addr → Prop) (H1 : Hp) (b : Addr) (zs : List V) (ds : List PyData), Grow F H F1 H1 → RpA X.K F1 H1 zs ds → (Rd H1 b (.lst zs) ∨ SqT X.K H1 b zs) →
          SO X.K W F0 H0 F1 H1 D (if xs.length + ds.length ≤ sizeLine then .nx (δ.set i (.ow (.list (xs ++ ds)))) else .no) → rExtA X.K (.ref a) [.ref b] H1 (fun _ H => D.nx σ H) := fun F1 H1 b zs ds g1 r hb h1 => by
        split at h1
        · rename_i hz
          have ha1 := g1.same _ _ ha
          refine ⟨a, b, vs, zs, rfl, rfl, ha1, hb, by rw [ra.length, r.length]; exact hz, ?_⟩
          have nf1 : ¬ F1 a := g1.notF nf (by rw [ha]; exact fun z => nomatch z)
          have kk : Kept F1 H1 (upd H1 a (.lst (vs ++ zs))) := kept_upd nf1 ha1 trivial
          obtain ⟨st, s2⟩ := sok_write (s.grow g1) (d' := .list (xs ++ ds)) (o' := .lst (vs ++ zs)) ei ea ⟨_, upd_same, ((g1.rpA ra).append r).mono (fun _ x => x) kk⟩
          exact h1 _ _ _ st s2
        · exact h1.elim
      cases ef : fe δ with
      | no => rw [ef] at q; exact q
      | ex x => rw [ef] at q; exact fun F' H' g => q F' H' g.stay (s.g.trans g)
      | ok d =>
        rw [ef] at q
        intro v F1 H1 g1 r
        cases d with
        | list ds =>
          cases r with
          | lst hb f t => exact fin F1 H1 _ _ ds g1 t (.inl hb) (SO.stay q g1.stay)
        | tuple ds =>
          cases r with
          | tup hb t => exact fin F1 H1 _ _ ds g1 t (.inr hb.sq) (SO.stay q g1.stay)
        | _ => exact q.elim
    · exact q.elim
/-- x[k] = e of an own list -/
def stlS (i : Nat) (fk f : Dl → Re D) (δ : Dl) : RS := match δ[i]? with
  | some (.ow (.list xs)) => toS (f δ) fun d => toS (fk δ) fun k => match k with
    | .int j => (match ixN xs.length j with
      | some m => .nx (δ.set i (.ow (.list (xs.set m d))))
      | none => .no)
    | _ => .no
  | _ => .no
theorem vs_setIx {spos : Pos} (hy : PE X (.Name y py) (tVar i)) (hk : VE X W e2 fk) (he : VE X W e fe)
    (ha : ∀ v, assign (.Subscript (.Name y py) e2 pos) X.env v = (do
      let ov ← holding [v] (eval (.Name y py) X.env)
      let iv ← holding [v, ov] (eval e2 X.env)
      standAt pos
      holding [v, ov, iv] (setItem ov iv v)
      release [v, ov, iv] []) := by intro _; rfl)
    (hs : swapsWithSole [.Subscript (.Name y py) e2 pos] e spos.line X.env = pure false := by rfl) (hw : swappedStores [.Subscript (.Name y py) e2 pos] e X.env = pure none := by rfl) (h1 : (assignEach [.Subscript (.Name y py) e2 pos] X.env).map (·.2) = [assign (.Subscript (.Name y py) e2 pos) X.env] := by rfl) :
    VSt X W (.Assign [.Subscript (.Name y py) e2 pos] e spos) (stlS i fk fe) :=
  PS.imp (ps_asg he (pg_sub hy hk set_list ha) hs hw h1) fun D σ H ⟨F0, H0, F, δ, s, q⟩ => by
    unfold stlS at q
    split at q
    · rename_i xs ei
      obtain ⟨a, ea, ⟨vs, hH, ra⟩, nf, n0⟩ := s.ow i _ ei
      refine ⟨F, δ, s.e, SO.go (P := pS X.K) s q fun d v F1 H1 e1 g1 r h2 => ?_⟩
      refine ⟨_, ea, F1, δ, (s.grow g1).e, SO.go (P := pS X.K) (s.grow g1) h2 fun k u F2 H2 e3 g2 ru h3 => ?_⟩
      cases k with
      | int j =>
        cases ru
        simp only at h3
        split at h3
        · rename_i m em
          have gg := g1.trans g2
          have ha2 := gg.same _ _ hH
          refine ⟨a, vs, j, m, rfl, rfl, ha2, by rw [ra.length]; exact em, ?_⟩
          have nf2 : ¬ F2 a := gg.notF nf (by rw [hH]; exact fun z => nomatch z)
          have kk : Kept F2 H2 (upd H2 a (.lst (vs.set m v))) := kept_upd nf2 ha2 trivial
          obtain ⟨st, s2⟩ := sok_write (s.grow gg) (d' := .list (xs.set m d)) (o' := .lst (vs.set m v)) ei ea ⟨_, upd_same, ((gg.rpA ra).set m (g2.rp r)).mono (fun _ x => x) kk⟩
          exact h3 _ _ _ st s2
        · exact h3.elim
      | _ => exact h3.elim
    · exact q.elim
end

/-! ### dicts written -/
/-- in its place, or at the end -/
def putD (kvs : List (D × D)) (k v : D) : List (D × D) :=
  if (kvs.any fun p => PyData.eqv p.1 k) = true then kvs.map (fun p => if PyData.eqv p.1 k = true then (p.1, v) else p) else kvs ++ [(k, v)]
section
variable {K : PySem.W.Frag} {F : Addr → Prop} {H : Hp}
theorem rpK_keys : ∀ {m : List (D × V)} {ds : List (D × D)}, RpK K F H m ds → m.map (·.1) = ds.map (·.1)
  | _, _, .nil => rfl
  | _, _, .cons _ t => by simp [rpK_keys t]
theorem rpK_app : ∀ {m n : List (D × V)} {ds es : List (D × D)}, RpK K F H m ds → RpK K F H n es → RpK K F H (m ++ n) (ds ++ es)
  | _, _, _, _, .nil, s => s
  | _, _, _, _, .cons h t, s => .cons h (rpK_app t s)
theorem rpK_upd {k : D} {v : V} {d : D} (rv : Rp K F H v d) : ∀ {m : List (D × V)} {ds : List (D × D)}, RpK K F H m ds → RpK K F H (m.map fun p => if PyData.eqv p.1 k = true then (p.1, v) else p) (ds.map fun p => if PyData.eqv p.1 k = true then (p.1, d) else p)
  | _, _, .nil => .nil
  | _, _, @RpK.cons _ _ _ j w vs x ds h t => by
    rw [List.map_cons, List.map_cons]
    by_cases e : PyData.eqv j k = true
    · rw [if_pos e, if_pos e]
      exact .cons rv (rpK_upd rv t)
    · rw [if_neg e, if_neg e]
      exact .cons h (rpK_upd rv t)
theorem any_keys {α : Type} (f : D → Bool) : ∀ {m : List (D × α)} {β : Type} {ds : List (D × β)}, m.map (·.1) = ds.map (·.1) → (m.any fun p => f p.1) = ds.any fun p => f p.1
  | [], _, [], _ => rfl
  | [], _, _ :: _, h => by cases h
  | _ :: _, _, [], h => by cases h
  | p :: m, _, q :: ds, h => by
    simp only [List.map_cons, List.cons.injEq] at h
    rw [List.any_cons, List.any_cons, h.1, any_keys f h.2]
/-- an int or a text as key -/
theorem rp_putK {m : List (Key × V)} {ds : List (D × D)} {v : V} {d : D} (k : Key) (r : RpK K F H (m.map fun p => (kD p.1, p.2)) ds) (rv : Rp K F H v d) : RpK K F H ((putK m k v).map fun p => (kD p.1, p.2)) (putD ds (kD k) d) := by
  unfold putK putD
  have ea : (m.any fun p => decide (p.1 = k)) = ds.any fun p => PyData.eqv p.1 (kD k) := by
    rw [← any_keys (fun x => PyData.eqv x (kD k)) (rpK_keys r), List.any_map]
    congr 1
    funext p
    simp only [Function.comp, eqv_kD]
  rw [ea]
  split
  · have q := rpK_upd (k := kD k) rv r
    rw [List.map_map] at q ⊢
    have : ((fun p : D × V => if PyData.eqv p.1 (kD k) = true then (p.1, v) else p) ∘ fun p : Key × V => (kD p.1, p.2)) = ((fun p : Key × V => (kD p.1, p.2)) ∘ fun p : Key × V => if p.1 = k then (p.1, v) else p) := by
      funext p
      simp only [Function.comp, eqv_kD]
      by_cases e : p.1 = k
      · rw [if_pos (decide_eq_true e), if_pos e]
      · rw [if_neg (by simpa using e), if_neg e]
    rw [← this]
    exact q
  · rw [List.map_append]
    exact rpK_app r (.cons rv .nil)
theorem rp_putT {m : List (List Key × V)} {ds : List (D × D)} {v : V} {d : D} (k : List Key) (r : RpK K F H (m.map fun p => (PyData.tuple (p.1.map kD), p.2)) ds) (rv : Rp K F H v d) : RpK K F H ((putK m k v).map fun p => (PyData.tuple (p.1.map kD), p.2)) (putD ds (.tuple (k.map kD)) d) := by
  unfold putK putD
  have ea : (m.any fun p => decide (p.1 = k)) = ds.any fun p => PyData.eqv p.1 (.tuple (k.map kD)) := by
    rw [← any_keys (fun x => PyData.eqv x (.tuple (k.map kD))) (rpK_keys r), List.any_map]
    congr 1
    funext p
    simp only [Function.comp, eqv_tup]
  rw [ea]
  split
  · have q := rpK_upd (k := .tuple (k.map kD)) rv r
    rw [List.map_map] at q ⊢
    have : ((fun p : D × V => if PyData.eqv p.1 (.tuple (k.map kD)) = true then (p.1, v) else p) ∘ fun p : List Key × V => (PyData.tuple (p.1.map kD), p.2)) = ((fun p : List Key × V => (PyData.tuple (p.1.map kD), p.2)) ∘ fun p : List Key × V => if p.1 = k then (p.1, v) else p) := by
      funext p
      simp only [Function.comp, eqv_tup]
      by_cases e : p.1 = k
      · rw [if_pos (decide_eq_true e), if_pos e]
      · rw [if_neg (by simpa using e), if_neg e]
    rw [← this]
    exact q
  · rw [List.map_append]
    exact rpK_app r (.cons rv .nil)
end

/-! ### {k: v for ..}, the keys ints or texts -/
def dcL (b : Bd) (t : Dl → Re Bool) (fk fv : Dl → Re D) (δ : Dl) : List D → List (D × D) → Re (List (D × D))
  | [], acc => .ok acc
  | d :: ds, acc => match b d δ with
    | none => .no
    | some δ1 => (nxR (t δ1)).bnd fun c => if c = true then (nxR (fk δ1)).bnd fun k => (nxR (fv δ1)).bnd fun v => if kindK k = some false then dcL b t fk fv δ ds (putD acc k v) else .no else dcL b t fk fv δ ds acc
def dcD (vs : List Nat) (items : Dl → Re (List D)) (b : Bd) (t : Dl → Re Bool) (fk fv : Dl → Re D) (δ : Dl) : Re D :=
  (items δ).bnd fun ds => if ds.length ≤ sizeLine then (dcL b t fk fv (wipeD δ vs) ds []).bnd fun m => .ok (.dict m) else .no
theorem dcL_ok {b : Bd} {t : Dl → Re Bool} {fk fv : Dl → Re D} {δ : Dl} {d : D} {ds : List D} {acc : List (D × D)} {r : Re (List (D × D))} (h : dcL b t fk fv δ (d :: ds) acc = r) (nn : r ≠ .no) : ∃ δ1 c, b d δ = some δ1 ∧ t δ1 = .ok c ∧
    ((c = true ∧ ∃ k v, fk δ1 = .ok k ∧ fv δ1 = .ok v ∧ kindK k = some false ∧ dcL b t fk fv δ ds (putD acc k v) = r) ∨ (c = false ∧ dcL b t fk fv δ ds acc = r)) := by
  unfold dcL at h
  cases eb : b d δ with
  | none => rw [eb] at h; exact (nn h.symm).elim
  | some δ1 =>
    rw [eb] at h
    cases et : t δ1 with
    | ex x => simp only [et, nxR, bnd_no] at h; exact (nn h.symm).elim
    | no => simp only [et, nxR, bnd_no] at h; exact (nn h.symm).elim
    | ok c =>
      simp only [et, nxR, bnd_ok] at h
      refine ⟨δ1, c, rfl, et, ?_⟩
      cases c with
      | false => rw [if_neg Bool.false_ne_true] at h; exact .inr ⟨rfl, h⟩
      | true =>
        rw [if_pos rfl] at h
        cases ek : fk δ1 with
        | ex x => simp only [ek, nxR, bnd_no] at h; exact (nn h.symm).elim
        | no => simp only [ek, nxR, bnd_no] at h; exact (nn h.symm).elim
        | ok k =>
          simp only [ek, nxR, bnd_ok] at h
          cases ev : fv δ1 with
          | ex x => simp only [ev, nxR, bnd_no] at h; exact (nn h.symm).elim
          | no => simp only [ev, nxR, bnd_no] at h; exact (nn h.symm).elim
          | ok v =>
            simp only [ev, nxR, bnd_ok] at h
            split at h
            · rename_i kk
              exact .inl ⟨rfl, k, v, rfl, rfl, kk, h⟩
            · exact (nn h.symm).elim
theorem dcL_ex {b : Bd} {t : Dl → Re Bool} {fk fv : Dl → Re D} {δ : Dl} {x : Xn} : ∀ (ds : List D) (acc : List (D × D)), dcL b t fk fv δ ds acc ≠ .ex x
  | [], acc => fun h => nomatch h
  | d :: ds, acc => fun h => by
    obtain ⟨δ1, c, _, _, q⟩ := dcL_ok h (fun z => nomatch z)
    rcases q with ⟨_, k, v, _, _, _, q⟩ | ⟨_, q⟩
    · exact dcL_ex ds _ q
    · exact dcL_ex ds _ q
theorem putK_len {κ : Type} [DecidableEq κ] (m : List (κ × V)) (k : κ) (v : V) : (putK m k v).length ≤ m.length + 1 := length_putK m k v
section
variable {X : Cx} {W : XW} {P : PP} {pos : Pos}
theorem t_dc {ts vs : List Nat} {fi : Dl → Re (List D)} {b : Bd} {t : Dl → Re Bool} {fk fv : Dl → Re D} {K : PySem.W.Frag} (hP : POwn K P) (hts : ∀ j ∈ ts, j ∈ vs) {σ : L2.St} {H : Hp} {Q : VK} (h : tP K W P (dcD vs fi b t fk fv) σ H Q) :
    tDc (tI K W fi) (tG K ts b) (tT K XW0 t) (tP K XW0 (pS K) fk) (tP K XW0 (pS K) fv) vs σ H Q := by
  obtain ⟨F, δ, s, h⟩ := h
  refine ⟨F, δ, s, ?_⟩
  change ReW W F H ((fi δ).bnd _) _ at h
  cases ef : fi δ with
  | no => rw [ef] at h; exact h
  | ex x => rw [ef] at h; exact h
  | ok ds =>
    rw [ef] at h
    rw [bnd_ok] at h
    intro J F1 H1 g1 w D0 hD
    split at h
    · rename_i hsz
      cases eall : dcL b t fk fv (wipeD δ vs) ds [] with
      | no => rw [eall] at h; exact h.elim
      | ex x => exact (dcL_ex ds [] eall).elim
      | ok all =>
        rw [eall] at h
        rw [bnd_ok] at h
        refine ⟨fun i m H' => m = ds.length - i ∧ i ≤ ds.length ∧ ∃ F' acc ys, Grow F1 H1 F' H' ∧ H' D0 = some (.dK acc) ∧ ¬ F' D0 ∧ RpK K F' H' (acc.map fun p => (kD p.1, p.2)) ys ∧ acc.length ≤ i ∧ dcL b t fk fv (wipeD δ vs) (ds.drop i) ys = .ok all, ⟨ds.length, by simp, Nat.zero_le _, F1, [], [], Grow.upd0 hD, upd_same, fun f => g1.dom s.dom _ f hD, .nil, Nat.le_refl _, by simpa using eall⟩, ?_⟩
        rintro i m H' ⟨rfl, hle, F', acc, ys, g2, hacc, nf, ra, hl, ez⟩
        have s1 := ((s.grow g1).grow g2)
        by_cases hlt : i < ds.length
        · refine .inr ⟨w.go F' H' i g2.stay hlt, fun H3 => i + 1 ≤ ds.length ∧ ∃ F' acc ys, Grow F1 H1 F' H3 ∧ H3 D0 = some (.dK acc) ∧ ¬ F' D0 ∧ RpK K F' H3 (acc.map fun p => (kD p.1, p.2)) ys ∧ acc.length ≤ i + 1 ∧ dcL b t fk fv (wipeD δ vs) (ds.drop (i + 1)) ys = .ok all, fun H3 ⟨a, c⟩ => ⟨ds.length - (i + 1), by omega, rfl, a, c⟩, fun x H2 y => ?_⟩
          obtain ⟨F2, g3, rx⟩ := w.yld F' H' i x H2 ds[i] g2.stay s1.dom (List.getElem?_eq_getElem hlt) y
          rw [List.drop_eq_getElem_cons hlt] at ez
          obtain ⟨δ1, c, eb, et, rest⟩ := dcL_ok ez (fun z => nomatch z)
          have s2 := (s1.grow g3).wipe vs
          have nfD : ∀ {F3 H3}, Grow F' H' F3 H3 → ¬ F3 D0 := fun g => g.notF nf (by rw [hacc]; exact fun z => nomatch z)
          refine ⟨F2, wipeD δ vs, ds[i], δ1, s2.len, rx, eb, fun σ2 u2 => ⟨u2.wipe hts, ?_⟩⟩
          refine ⟨F2, δ1, s2.upd u2, ?_⟩
          rw [et]
          intro F3 H3 g4
          rcases rest with ⟨ec, kx, vx, ek, ev, kk, er⟩ | ⟨ec, er⟩
          · subst ec
            rw [if_pos rfl]
            refine ⟨F3, δ1, (s2.upd u2).grow g4, ?_⟩
            rw [ek]
            intro ku F4 H4 g5 rk
            refine ⟨F4, δ1, ((s2.upd u2).grow g4).grow g5, ?_⟩
            rw [ev]
            intro vu F5 H5 g6 rv
            have gg := ((g3.trans g4).trans g5).trans g6
            have hacc5 : H5 D0 = some (.dK acc) := gg.same _ _ hacc
            obtain ⟨k', eku, ekx⟩ := key_K rk kk
            subst ekx
            refine ⟨acc, k', eku, hacc5, by omega, hlt, F5, putK acc k' vu, putD ys (kD k') vx, (g2.trans gg).wrote hD, upd_same, nfD gg, ?_, Nat.le_trans (length_putK acc k' vu) (Nat.succ_le_succ hl), er⟩
            have ku' : Kept F5 H5 (upd H5 D0 (.dK (putK acc k' vu))) := kept_upd (nfD gg) hacc5 trivial
            exact (rp_putK k' (gg.rpK ra) rv).mono (fun _ x => x) ku'
          · subst ec
            rw [if_neg Bool.false_ne_true]
            have gg := g3.trans g4
            exact ⟨hlt, F3, acc, ys, g2.trans gg, gg.same _ _ hacc, nfD gg, gg.rpK ra, by omega, er⟩
        · have ei : i = ds.length := by omega
          subst ei
          rw [List.drop_length] at ez
          cases ez
          obtain ⟨F2, g3, p⟩ := hP.own (g1.trans g2) (by
            cases e0 : H D0 with
            | none => rfl
            | some o => have := g1.same _ _ e0; rw [hD] at this; cases this) nf (show RpO K F' H' D0 (.dict all) from Or.inl ⟨acc, hacc, ra⟩)
          exact .inl ⟨w.stop F' H' g2.stay, h _ _ _ g3 p⟩
    · exact h.elim
theorem vp_dc {kx vx tg iter : Expr} {ifs : List Expr} {scope : Scope} {own : List (Str × Nat)} {ts : List Nat} {fi : Dl → Re (List D)} {b : Bd} {t : Dl → Re Bool} {fk fv : Dl → Re D} (hP : POwn X.K P) (hc : X.calm = true) (hN : X.N.Nodup) (hi : VI X W tg iter fi) (ok : BlkOk X.N X.env.scope scope own)
    (hg : ∀ (s : Shared) (H : Hp) (C : Addr) (cl : List (Str × Addr)) (fp : List Addr), VG (X.blk s H scope (compEnvC scope cl C X.env) fp) tg ts b) (ht : ∀ (s : Shared) (H : Hp) (C : Addr) (cl : List (Str × Addr)) (fp : List Addr), VTs (X.blk s H scope (compEnvC scope cl C X.env) fp) ifs t)
    (hk : ∀ (s : Shared) (H : Hp) (C : Addr) (cl : List (Str × Addr)) (fp : List Addr), VE (X.blk s H scope (compEnvC scope cl C X.env) fp) XW0 kx fk)
    (he : ∀ (s : Shared) (H : Hp) (C : Addr) (cl : List (Str × Addr)) (fp : List Addr), VE (X.blk s H scope (compEnvC scope cl C X.env) fp) XW0 vx fv) (hts : ∀ j ∈ ts, j ∈ own.map (·.2)) (hs : ∀ x, foldedSetIterable iter X.env x = pure x := by intro _; rfl) :
    VP X W P (.DictComp kx vx [⟨tg, iter, ifs, 0⟩] scope pos) (dcD (own.map (·.2)) fi b t fk fv) := PE.imp (pe_dc hc hN hi ok hg ht hk he hs) fun σ H Q h => t_dc hP hts h
end

/-! ### a, b, .. = x, y, .. -/
/-- values and what they are to their slots: shared, or new ones of their own -/
inductive MR (K : PySem.W.Frag) (F : Addr → Prop) (H Hs : Hp) : List V → List Sl → List Addr → Prop
  | nil : MR K F H Hs [] [] []
  | sh {v vs d ss as} : Rp K F H v d → MR K F H Hs vs ss as → MR K F H Hs (v :: vs) (.sh d :: ss) as
  | ow {a vs d ss as} : RpO K F H a d → ¬ F a → Hs a = none → a ∉ as → MR K F H Hs vs ss as → MR K F H Hs (.ref a :: vs) (.ow d :: ss) (a :: as)
theorem MR.old {K : PySem.W.Frag} {F : Addr → Prop} {H Hs Hs' : Hp} (s : Same Hs' Hs) : ∀ {vs : List V} {ss : List Sl} {as : List Addr}, MR K F H Hs vs ss as → MR K F H Hs' vs ss as
  | _, _, _, .nil => .nil
  | _, _, _, .sh r t => .sh r (t.old s)
  | _, _, _, .ow o n h q t => .ow o n (s.free h) q (t.old s)
theorem MR.new {K : PySem.W.Frag} {F : Addr → Prop} {H Hs : Hp} : ∀ {vs : List V} {ss : List Sl} {as : List Addr}, MR K F H Hs vs ss as → ∀ a ∈ as, Hs a = none
  | _, _, _, .nil, _, h => nomatch h
  | _, _, _, .sh r t, a, h => t.new a h
  | _, _, _, .ow o n q _ t, a, h => (List.mem_cons.mp h).elim (fun e => e ▸ q) (t.new a)
def argsM : List (Bool × (Dl → Re D)) → Dl → Re (List Sl)
  | [], _ => .ok []
  | (w, f) :: r, δ => (f δ).bnd fun d => (argsM r δ).bnd fun ss => .ok ((if w = true then Sl.ow d else .sh d) :: ss)
def tAm (K : PySem.W.Frag) (W : XW) (f : Dl → Re (List Sl)) : TA := fun σ H Q => ∃ F δ, SokE K F H σ δ ∧ ReW W F H (f δ) fun ss => ∀ vs as F' H', Grow F H F' H' → MR K F' H' H vs ss as → Q vs H'
abbrev VM (X : Cx) (W : XW) (es : List Expr) (f : Dl → Re (List Sl)) : Prop := PA X es (tAm X.K W f)
section
variable {X : Cx} {W : XW} {e : Expr} {es : List Expr} {f : Dl → Re D} {fm : List (Bool × (Dl → Re D))}
theorem vm_nil : VM X W [] (argsM []) := PA.imp pa_nil fun σ H Q ⟨F, δ, s, h⟩ => h [] [] F H Grow.refl .nil
theorem vm_sh (h : VE X W e f) (hr : VM X W es (argsM fm)) (hs : starEach (e :: es) X.env = (false, eval e X.env) :: starEach es X.env := by rfl) : VM X W (e :: es) (argsM ((false, f) :: fm)) :=
  PA.imp (pa_cons h hr hs) fun σ H Q ⟨F, δ, s, q⟩ => by
    refine ⟨F, δ, s, ?_⟩
    change ReW W F H ((f δ).bnd fun d => (argsM fm δ).bnd fun ss => .ok (Sl.sh d :: ss)) _ at q
    cases ef : f δ with
    | no => rw [ef] at q; exact q
    | ex x => rw [ef] at q; exact q
    | ok d =>
      rw [ef] at q
      intro v F1 H1 g1 rv
      refine ⟨F1, δ, s.grow g1, ?_⟩
      simp only [bnd_ok] at q
      cases eg : argsM fm δ with
      | no => rw [eg] at q; exact q
      | ex x => rw [eg] at q; exact fun F2 H2 g2 => q F2 H2 (g1.trans g2)
      | ok ss =>
        rw [eg] at q
        exact fun vs as F2 H2 g2 m => q (v :: vs) as F2 H2 (g1.trans g2) (.sh (g2.rp rv) (m.old g1.same))
theorem vm_ow (h : VF X W e f) (hr : VM X W es (argsM fm)) (hs : starEach (e :: es) X.env = (false, eval e X.env) :: starEach es X.env := by rfl) : VM X W (e :: es) (argsM ((true, f) :: fm)) :=
  PA.imp (pa_cons h hr hs) fun σ H Q ⟨F, δ, s, q⟩ => by
    refine ⟨F, δ, s, ?_⟩
    change ReW W F H ((f δ).bnd fun d => (argsM fm δ).bnd fun ss => .ok (Sl.ow d :: ss)) _ at q
    cases ef : f δ with
    | no => rw [ef] at q; exact q
    | ex x => rw [ef] at q; exact q
    | ok d =>
      rw [ef] at q
      rintro v F1 H1 g1 ⟨a, ev, hn, nf, o⟩
      subst ev
      refine ⟨F1, δ, s.grow g1, ?_⟩
      simp only [bnd_ok] at q
      cases eg : argsM fm δ with
      | no => rw [eg] at q; exact q
      | ex x => rw [eg] at q; exact fun F2 H2 g2 => q F2 H2 (g1.trans g2)
      | ok ss =>
        rw [eg] at q
        intro vs as F2 H2 g2 m
        obtain ⟨u, hu, _⟩ := o.there
        refine q (.ref a :: vs) (a :: as) F2 H2 (g1.trans g2) (.ow (o.kept g2.sub g2.kept ((g2.same a u hu).trans hu.symm)) (g2.notF nf o.some) hn (fun z => ?_) (m.old g1.same))
        have := m.new a z
        rw [hu] at this
        cases this
end
def bindM : List Nat → List Sl → Dl → Dl
  | i :: is, s :: ss, δ => bindM is ss (δ.set i s)
  | _, _, δ => δ
def bindV : List Nat → List V → L2.St → L2.St
  | i :: is, v :: vs, σ => bindV is vs (σ.set i (some v))
  | _, _, σ => σ
theorem sok_bind {K : PySem.W.Frag} {F0 : Addr → Prop} {H0 : Hp} {F : Addr → Prop} {H Hs : Hp} (h0 : ∀ a, Hs a = none → H0 a = none) : ∀ {vs : List V} {ss : List Sl} {as : List Addr} (is : List Nat) {σ : L2.St} {δ : Dl}, MR K F H Hs vs ss as → Sok K F0 H0 F H σ δ →
    (∀ (j : Nat) (e : D), δ[j]? = some (Sl.ow e) → ∀ a ∈ as, σ[j]? ≠ some (some (.ref a))) → Sok K F0 H0 F H (bindV is vs σ) (bindM is ss δ)
  | _, _, _, is, σ, δ, .nil, s, _ => by
    cases is with
    | nil => exact s
    | cons _ _ => exact s
  | _, _, _, [], σ, δ, .sh _ _, s, _ => s
  | _, _, _, [], σ, δ, .ow _ _ _ _ _, s, _ => s
  | _, _, _, i :: is, σ, δ, .sh r t, s, hn => by
    refine sok_bind h0 is t (s.setSh r) fun j e h a ha => ?_
    by_cases n : i = j
    · subst n
      obtain ⟨q, _⟩ := get_set_eq h
      cases q
    · rw [List.getElem?_set_ne n]
      exact hn j e (get_set_ne h n) a ha
  | _, _, _, i :: is, σ, δ, .ow (a := a) o nf ho na t, s, hn => by
    refine sok_bind h0 is t (s.setOw o nf (h0 a ho) fun j e h _ => hn j e h a List.mem_cons_self) fun j e h b hb => ?_
    by_cases n : i = j
    · subst n
      obtain ⟨q, hi⟩ := get_set_eq h
      rw [List.getElem?_set_self (by rw [← s.len]; exact hi)]
      intro z
      cases z
      exact na hb
    · rw [List.getElem?_set_ne n]
      exact hn j e (get_set_ne h n) b (List.mem_cons_of_mem _ hb)
def parS (is : List Nat) (fm : Dl → Re (List Sl)) (δ : Dl) : RS := toS (fm δ) fun ss => if ss.length = is.length then .nx (bindM is ss δ) else .no
theorem MR.length {K : PySem.W.Frag} {F : Addr → Prop} {H Hs : Hp} : ∀ {vs : List V} {ss : List Sl} {as : List Addr}, MR K F H Hs vs ss as → vs.length = ss.length
  | _, _, _, .nil => rfl
  | _, _, _, .sh _ t => congrArg (· + 1) t.length
  | _, _, _, .ow _ _ _ _ t => congrArg (· + 1) t.length
section
variable {X : Cx} {W : XW} {is : List Nat} {fm : Dl → Re (List Sl)} {pos : Pos} {K : PySem.W.Frag} {F0 : Addr → Prop} {H0 : Hp} {F : Addr → Prop} {H : Hp} {σ : L2.St} {δ : Dl} {D : Ends}
theorem SO.goM {r : Re (List Sl)} {k : List Sl → RS} {Q : List V → Hp → Prop} (s : Sok K F0 H0 F H σ δ) (h : SO K W F0 H0 F H D (toS r k))
    (q : ∀ ss vs as F1 H1, r = .ok ss → Grow F H F1 H1 → MR K F1 H1 H vs ss as → SO K W F0 H0 F1 H1 D (k ss) → Q vs H1) : ReW W F H r fun ss => ∀ vs as F' H', Grow F H F' H' → MR K F' H' H vs ss as → Q vs H' := by
  cases r with
  | ok ss => exact fun vs as F' H' g m => q ss vs as F' H' rfl g m (SO.stay h g.stay)
  | ex x => exact fun F' H' g => h F' H' g.stay (s.g.trans g)
  | no => exact h
theorem par_core {H1 : Hp} {F1 : Addr → Prop} {vs : List V} {ss : List Sl} {as : List Addr} (s : Sok K F0 H0 F H σ δ) (g : Grow F H F1 H1) (m : MR K F1 H1 H vs ss as) : Sok K F0 H0 F1 H1 (bindV is vs σ) (bindM is ss δ) :=
  sok_bind (fun a h => s.g.same.free h) is m (s.grow g) fun j e h a ha z => by
    obtain ⟨b, eb, o, _⟩ := s.ow j e h
    rw [eb] at z
    cases z
    obtain ⟨u, hu, _⟩ := o.there
    rw [m.new _ ha] at hu
    cases hu
theorem vs_par2 {i j : Nat} {x y : Str} {a b : Expr} {px py pt : Pos} {kt k2 pt2} (hc : X.calm = true) (hN : X.N.Nodup) (hi : X.N[i]? = some x) (hj : X.N[j]? = some y) (hij : i ≠ j)
    (hx : X.env.scope.names.lookup x = some .local) (hy : X.env.scope.names.lookup y = some .local) (ha : VM X W [a, b] fm)
    (hw : swappedStores [.Tuple [.Name x px, .Name y py] kt pt] (.Tuple [a, b] k2 pt2) X.env = pure (some [x, y]))
    (hs : swapsWithSole [.Tuple [.Name x px, .Name y py] kt pt] (.Tuple [a, b] k2 pt2) pos.line X.env = pure false := by rfl) :
    VSt X W (.Assign [.Tuple [.Name x px, .Name y py] kt pt] (.Tuple [a, b] k2 pt2) pos) (parS [i, j] fm) := PS.imp (ps_par hc hN hi hj hij hx hy ha hw hs) fun D σ H ⟨F0, H0, F, δ, s, q⟩ =>
  ⟨F, δ, s.e, SO.goM s q fun ss vs as F1 H1 e g m h1 => by
    split at h1
    · rename_i hl
      have hv := m.length.trans hl
      have hvs : ∃ v w, vs = [v, w] := match vs, hv with
        | [v, w], _ => ⟨v, w, rfl⟩
      obtain ⟨v, w, ev⟩ := hvs
      subst ev
      exact ⟨v, w, rfl, h1 F1 H1 _ Stay.refl (par_core (is := [i, j]) s g m)⟩
    · exact h1.elim⟩
theorem vs_par3 {i j l : Nat} {x y z : Str} {a b c : Expr} {px py pz pt : Pos} {kt k2 pt2} (hc : X.calm = true) (hN : X.N.Nodup) (hi : X.N[i]? = some x) (hj : X.N[j]? = some y) (hl : X.N[l]? = some z) (hij : i ≠ j) (hil : i ≠ l) (hjl : j ≠ l)
    (hx : X.env.scope.names.lookup x = some .local) (hy : X.env.scope.names.lookup y = some .local) (hz : X.env.scope.names.lookup z = some .local) (ha : VM X W [a, b, c] fm)
    (hw : swappedStores [.Tuple [.Name x px, .Name y py, .Name z pz] kt pt] (.Tuple [a, b, c] k2 pt2) X.env = pure (some [x, y, z]))
    (hs : swapsWithSole [.Tuple [.Name x px, .Name y py, .Name z pz] kt pt] (.Tuple [a, b, c] k2 pt2) pos.line X.env = pure false := by rfl) :
    VSt X W (.Assign [.Tuple [.Name x px, .Name y py, .Name z pz] kt pt] (.Tuple [a, b, c] k2 pt2) pos) (parS [i, j, l] fm) := PS.imp (ps_par3 hc hN hi hj hl hij hil hjl hx hy hz ha hw hs) fun D σ H ⟨F0, H0, F, δ, s, q⟩ =>
  ⟨F, δ, s.e, SO.goM s q fun ss vs as F1 H1 e g m h1 => by
    split at h1
    · rename_i hl
      have hv := m.length.trans hl
      have hvs : ∃ u v w, vs = [u, v, w] := match vs, hv with
        | [u, v, w], _ => ⟨u, v, w, rfl⟩
      obtain ⟨u, v, w, ev⟩ := hvs
      subst ev
      exact ⟨u, v, w, rfl, h1 F1 H1 _ Stay.refl (par_core (is := [i, j, l]) s g m)⟩
    · exact h1.elim⟩
/-- several names, in order -/
def gNames : List Nat → TGs
  | [] => gNil
  | i :: is => gCons (gName i) (gNames is)
theorem gNames_run : ∀ (is : List Nat) (vs : List V) (σ : L2.St) (H : Hp) (Q : L2.St → Hp → Prop), vs.length = is.length → Q (bindV is vs σ) H → gNames is vs σ H Q
  | [], [], σ, H, Q, _, q => ⟨rfl, q⟩
  | i :: is, v :: vs, σ, H, Q, hl, q => ⟨v, vs, rfl, gNames_run is vs _ H Q (by simpa using hl) q⟩
  | [], _ :: _, _, _, _, hl, _ => by simp at hl
  | _ :: _, [], _, _, _, hl, _ => by simp at hl
theorem pgs_name {i : Nat} {x : Str} {p : Pos} {es : List Expr} (hN : X.N.Nodup) (hi : X.N[i]? = some x) (hx : Loc X.env.scope x) (hr : PGs X es (gNames is)) (hf : X.fn x = true ∨ X.env.scope.names.lookup x = some .local := by first | exact .inl rfl | exact .inr rfl)
    (hs : (assignEach (.Name x p :: es) X.env).map (·.2) = assign (.Name x p) X.env :: (assignEach es X.env).map (·.2) := by rfl) : PGs X (.Name x p :: es) (gNames (i :: is)) := pgs_cons (pg_name hN hi hx hf) hr hs
/-- .. by a tuple that is made and taken apart -/
theorem vs_parG {es ts : List Expr} {n : Nat} {kt k2 pt pt2} (hc : X.calm = true) (ha : VM X W es fm) (hg : PGs X ts (gNames is)) (hn : (assignEach ts X.env).length = n) (hst : (assignEach ts X.env).findIdx? (·.1) = none) (hl : is.length = n) (h8 : n ≤ sizeLine)
    (hs : swapsWithSole [.Tuple ts kt pt] (.Tuple es k2 pt2) pos.line X.env = pure false := by rfl) (hw : swappedStores [.Tuple ts kt pt] (.Tuple es k2 pt2) X.env = pure none := by rfl)
    (h1 : (assignEach [.Tuple ts kt pt] X.env).map (·.2) = [assign (.Tuple ts kt pt) X.env] := by rfl) : VSt X W (.Assign [.Tuple ts kt pt] (.Tuple es k2 pt2) pos) (parS is fm) := PS.imp (ps_asg (pe_tup ha) (pg_tup hc hg hn hst) hs hw h1) fun D σ H ⟨F0, H0, F, δ, s, q⟩ =>
  ⟨F, δ, s.e, SO.goM s q fun ss vs as F1 H1 e g m h1 => by
    split at h1
    · rename_i hl2
      have hv := m.length.trans hl2
      refine ⟨by omega, fun p hp => ⟨p, vs, rfl, .inl (.inl upd_same), by omega, gNames_run is vs σ _ _ hv ?_⟩⟩
      have g2 : Grow F1 H1 F1 (upd H1 p (.tup vs)) := Grow.upd0 hp
      have m2 : ∀ {vs : List V} {ss : List Sl} {as : List Addr}, MR X.K F1 H1 H vs ss as → ∀ o, MR X.K F1 (upd H1 p o) H vs ss as := fun {vs ss as} m o => by
        induction m with
        | nil => exact .nil
        | sh r t ih => exact .sh (r.mono (fun _ x => x) (Kept.of (same_upd hp))) ih
        | ow ro nf ho na t ih =>
          refine .ow (ro.kept (fun _ x => x) (Kept.of (same_upd hp)) (upd_ne fun z => ?_)) nf ho na ih
          exact ro.some (z ▸ hp)
      exact h1 _ _ _ g2.stay (par_core (is := is) s (g.trans g2) (m2 m _))
    · exact h1.elim⟩
/-- targets = e -/
def asgS (b : Bd) (f : Dl → Re PyData) (δ : Dl) : RS := toS (f δ) fun d => match b d δ with
  | some δ' => .nx δ'
  | none => .no
theorem vs_asg {tg e : Expr} {ts : List Nat} {b : Bd} {f : Dl → Re PyData} (he : VE X W e f) (hg : VG X tg ts b) (hs : swapsWithSole [tg] e pos.line X.env = pure false := by rfl) (hw : swappedStores [tg] e X.env = pure none := by rfl)
    (h1 : (assignEach [tg] X.env).map (·.2) = [assign tg X.env] := by rfl) : VSt X W (.Assign [tg] e pos) (asgS b f) := PS.imp (ps_asg he hg hs hw h1) fun D σ H ⟨F0, H0, F, δ, s, q⟩ =>
  ⟨F, δ, s.e, SO.go (P := pS X.K) s q fun d v F1 H1 e g r h1 => by
    cases eb : b d δ with
    | none => rw [eb] at h1; exact h1.elim
    | some δ' =>
      rw [eb] at h1
      exact ⟨F1, δ, d, δ', s.len, r, eb, fun σ' u => h1 F1 H1 σ' Stay.refl ((s.grow g).upd u)⟩⟩
end
end VS
end
section
namespace VS
open PySem PySem.Spec PyProof.Rows L2

/-! ### built-ins by their names -/
section
variable {X : Cx} {W : XW} {P : PP} {e e2 : Expr} {fs : Dl → Re (List D)} {pos p : Pos}
theorem ve_len (hg : Gl X "len") (hm : X.mg "len" = none) (ha : VA X W RpB [e] fs) (he : starEach [e] X.env = (false, eval e X.env) :: starEach [] X.env := by rfl) : VE X W (.Call (.Name "len" p) [e] [] pos) (dA fs lenD) := vp_callB pS_mon call_lenAll cg_len hg hm (by decide +kernel) ha (by decide) (by decide) he
theorem ve_all (hc : X.calm = true) (hg : Gl X "all") (hm : X.mg "all" = none) (ha : VA X W RpB [e] fs) (he : starEach [e] X.env = (false, eval e X.env) :: starEach [] X.env := by rfl) : VE X W (.Call (.Name "all" p) [e] [] pos) (dA fs allD) := vp_callB pS_mon (cr_all hc) cg_all hg hm (by decide +kernel) ha (by decide) (by decide) he
theorem ve_any (hc : X.calm = true) (hg : Gl X "any") (hm : X.mg "any" = none) (ha : VA X W RpB [e] fs) (he : starEach [e] X.env = (false, eval e X.env) :: starEach [] X.env := by rfl) : VE X W (.Call (.Name "any" p) [e] [] pos) (dA fs anyD) := vp_callB pS_mon (cr_any hc) cg_any hg hm (by decide +kernel) ha (by decide) (by decide) he
theorem ve_sum (hc : X.calm = true) (hg : Gl X "sum") (hm : X.mg "sum" = none) (ha : VA X W RpB [e] fs) (he : starEach [e] X.env = (false, eval e X.env) :: starEach [] X.env := by rfl) : VE X W (.Call (.Name "sum" p) [e] [] pos) (dA fs sumD) := vp_callB pS_mon (cr_sum hc) cg_sum hg hm (by decide +kernel) ha (by decide) (by decide) he
theorem ve_abs (hg : Gl X "abs") (hm : X.mg "abs" = none) (ha : VA X W RpB [e] fs) (he : starEach [e] X.env = (false, eval e X.env) :: starEach [] X.env := by rfl) : VE X W (.Call (.Name "abs" p) [e] [] pos) (dA fs absD) := vp_callB pS_mon call_abs cg_abs hg hm (by decide +kernel) ha (by decide) (by decide) he
theorem ve_intC (hg : Gl X "int") (hm : X.mg "int" = none) (ha : VA X W RpB [e] fs) (he : starEach [e] X.env = (false, eval e X.env) :: starEach [] X.env := by rfl) : VE X W (.Call (.Name "int" p) [e] [] pos) (dA fs intD) := vp_callTy pS_mon call_int1 cg_int hg hm (by decide +kernel) ha (by decide) (by decide) he
theorem ve_min2 (hc : X.calm = true) (hg : Gl X "min") (hm : X.mg "min" = none) (ha : VA X W RpB [e, e2] fs) (he : starEach (e :: [e2]) X.env = (false, eval e X.env) :: starEach [e2] X.env := by rfl) (hpl : (backTo pos (starEach [e2] X.env)).any (·.1) = false := by rfl) : VE X W (.Call (.Name "min" p) [e, e2] [] pos) (dA fs min2D) := vp_callB pS_mon (call_min2 hc) cg_min2 hg hm (by decide +kernel) ha (by decide) (by decide) he hpl
theorem ve_max2 (hc : X.calm = true) (hg : Gl X "max") (hm : X.mg "max" = none) (ha : VA X W RpB [e, e2] fs) (he : starEach (e :: [e2]) X.env = (false, eval e X.env) :: starEach [e2] X.env := by rfl) (hpl : (backTo pos (starEach [e2] X.env)).any (·.1) = false := by rfl) : VE X W (.Call (.Name "max" p) [e, e2] [] pos) (dA fs max2D) := vp_callB pS_mon (call_max2 hc) cg_max2 hg hm (by decide +kernel) ha (by decide) (by decide) he hpl
theorem ve_minL (hc : X.calm = true) (hu : X.A.units + 64 < cLine) (hg : Gl X "min") (hm : X.mg "min" = none) (ha : VA X W RpB [e] fs) (he : starEach [e] X.env = (false, eval e X.env) :: starEach [] X.env := by rfl) : VE X W (.Call (.Name "min" p) [e] [] pos) (dA fs minL) := vp_callB pS_mon (call_minP hc hu) cg_minL hg hm (by decide +kernel) ha (by decide) (by decide) he
theorem ve_maxL (hc : X.calm = true) (hu : X.A.units + 64 < cLine) (hg : Gl X "max") (hm : X.mg "max" = none) (ha : VA X W RpB [e] fs) (he : starEach [e] X.env = (false, eval e X.env) :: starEach [] X.env := by rfl) : VE X W (.Call (.Name "max" p) [e] [] pos) (dA fs maxL) := vp_callB pS_mon (call_maxP hc hu) cg_maxL hg hm (by decide +kernel) ha (by decide) (by decide) he
theorem vp_sorted (hP : PNew X.K P) (hu : X.A.units + 64 < cLine) (hg : Gl X "sorted") (hm : X.mg "sorted" = none) (ha : VA X W RpB [e] fs) (he : starEach [e] X.env = (false, eval e X.env) :: starEach [] X.env := by rfl) : VP X W P (.Call (.Name "sorted" p) [e] [] pos) (dA fs sortedD) := vp_callB hP.toPMon (call_sortV hu) (cg_sorted hP) hg hm (by decide +kernel) ha (by decide) (by decide) he
theorem vp_list (hP : PNew X.K P) (hg : Gl X "list") (hm : X.mg "list" = none) (ha : VA X W RpB [e] fs) (he : starEach [e] X.env = (false, eval e X.env) :: starEach [] X.env := by rfl) : VP X W P (.Call (.Name "list" p) [e] [] pos) (dA fs lstOfD) := vp_callTy hP.toPMon call_list_of (cg_list hP) hg hm (by decide +kernel) ha (by decide) (by decide) he
theorem ve_tupB (hg : Gl X "tuple") (hm : X.mg "tuple" = none) (ha : VA X W RpB [e] fs) (he : starEach [e] X.env = (false, eval e X.env) :: starEach [] X.env := by rfl) : VE X W (.Call (.Name "tuple" p) [e] [] pos) (dA fs tupOfD) := vp_callTy pS_mon call_tuple_of cg_tuple hg hm (by decide +kernel) ha (by decide) (by decide) he
theorem ve_tupA (hg : Gl X "tuple") (hm : X.mg "tuple" = none) (ha : VA X W Rp [e] fs) (he : starEach [e] X.env = (false, eval e X.env) :: starEach [] X.env := by rfl) : VE X W (.Call (.Name "tuple" p) [e] [] pos) (dA fs tupAnyD) := vp_callTy pS_mon call_tuple_of cg_tupAny hg hm (by decide +kernel) ha (by decide) (by decide) he
end
theorem va1 {X : Cx} {W : XW} {R : Rel} {e : Expr} {f : Dl → Re D} (kR : RKeep R) (h : VP X W (pp X.K R) e f) (hs : starEach [e] X.env = (false, eval e X.env) :: starEach [] X.env := by rfl) : VA X W R [e] (argsF [f]) := va_cons kR h va_nil hs
end VS
end
section
namespace VS
open PySem PySem.Spec PyProof.Rows L2

theorem hu1 {A : Around} (h : A.units + 64 < cLine) : A.units + 1 < cLine := by omega
/-! ### own exceptions by their facts -/
structure ExcF (K : PySem.W.Frag) (mg : Str → Option Value) (x : Str) : Prop where
  g : mg x = some (.ref (He.ga K x))
  e : PySem.W.excIn K (He.ga K x) He.veBase "ValueError.__new__" = true
  k : PySem.W.keepIn K (.ref (He.ga K x)) = true
  s : PySem.W.subIn K (.ref (He.ga K x)) (.type "BaseException") = some true
  t : PySem.W.typeIn K (.ref (He.ga K x)) = some (.type "type")
theorem excF_of {K : PySem.W.Frag} {mg : Str → Option Value} {x : Str} (g : mg x = some (.ref (He.ga K x)))
    (h : PySem.W.excIn K (He.ga K x) He.veBase "ValueError.__new__" = true ∧ PySem.W.keepIn K (.ref (He.ga K x)) = true ∧ PySem.W.subIn K (.ref (He.ga K x)) (.type "BaseException") = some true ∧ PySem.W.typeIn K (.ref (He.ga K x)) = some (.type "type")) : ExcF K mg x :=
  ⟨g, h.1, h.2.1, h.2.2.1, h.2.2.2⟩
theorem vs_raiseF {X : Cx} {W : XW} {x m : Str} {j : Nat} {p p2 pos pos' : Pos} (hc : X.calm = true) (tk : XOk X W) (h : ExcF X.K X.mg x) (hg : Gl X x) (hdb : (x == ("__debug__" : Str)) = false := by decide) :
    VSt X W (.Raise (some (.Call (.Name x p) [.Constant (.str m) j p2] [] pos')) none pos) (raiS x) := vs_raise hc tk F.excBase_ValueError h.e h.g h.k (raises_own h.s h.t) hg hdb
def HtOk (K : PySem.W.Frag) (mg : Str → Option Value) (c : Value) (t : List (Str × Bool)) : Prop := ∀ nm b, t.lookup nm = some b → ∀ cls, mg nm = some cls → PySem.W.exmOne K cls c = some b
theorem htOk_nil {K : PySem.W.Frag} {mg : Str → Option Value} {c : Value} : HtOk K mg c [] := fun nm b h => by cases h
theorem htOk_cons {K : PySem.W.Frag} {mg : Str → Option Value} {c : Value} {t : List (Str × Bool)} {x : Str} {b : Bool} (g : mg x = some (.ref (He.ga K x))) (e : PySem.W.exmOne K (.ref (He.ga K x)) c = some b) (r : HtOk K mg c t) : HtOk K mg c ((x, b) :: t) := fun nm b' h cls hm => by
  rw [List.lookup_cons] at h
  cases en : nm == x with
  | true =>
    rw [en] at h
    cases h
    have : nm = x := eq_of_beq en
    subst this
    rw [g] at hm
    cases hm
    exact e
  | false =>
    rw [en] at h
    exact r nm b' h cls hm

/-! ### the law -/
theorem scrR_of {K : PySem.W.Frag} {H : Hp} {a : Addr} {ns : List Int} (hO : Only H) (h : SqL K H a (ns.map V.int)) : ScrR K H a ns := by
  refine ⟨h, fun H' k => ?_⟩
  rcases h with h | h
  · rcases h with h | ⟨o, h⟩
    · rcases hO a with z | ⟨o, xs, z⟩
      · rw [h] at z; cases z
      · rw [h] at z; cases z
    · exact .inl (.inr ⟨o, k a _ h mut_frz⟩)
  · exact .inr h
theorem walk_law {l : PySem.W.OpenLaw} {k : Nat} {q : Program} {loose : List Str} {XP : (Str → Option Value) → Heap → Prop} {YP : World → Heap → Prop} {d : DefRec} {x : Str}
    (hn : l.most = some 63) (hdf : d.params.defaults = []) (hr : Room k callerA)
    (F : ∀ (w : World) (mg : Str → Option Value) (fa : Addr) (h : Heap), YP w h → h.Ns mainGlobals mg → mg d.name = some (.ref fa) →
      ∃ (K : PySem.W.Frag) (fd : FuncData) (g : List Sl → Re D), K.In h ∧ (∀ (s : Shared) (u : Value), BindsTo s fd ⟨[u], []⟩ [(x, u)]) ∧
        (∀ base : Heap, K.In base → base.Ns mainGlobals mg → FnOk l.prog w K mg base (L2.CX l.prog w) k fa fd [x] (SpG K mg 1 g)) ∧ ∀ ns : List Int, ns.length ≤ 63 → g [.br ns] = .ok (.bool true)) :
    PySem.W.WalkO q loose XP YP l.row.toRowW d [] (fun f vs => PySem.call f vs) := by
  refine Att.attach_call hn hdf fun w s₀ s₁ mg mb fa o pm cd doc a vs ns G Y ho hd hcd hmg hobj hints hlen hg => ?_
  obtain ⟨K, fd, g, KX, hb, hF, good⟩ := F w mg fa _ Y G.T.g hmg
  have hz : ns.length ≤ sizeLine := Nat.le_trans hlen (by rw [sizeLine_eq]; decide)
  refine law_call KX G.T.g G.T.b G.T.builtins G.T.nolimit hg hobj hints hz hr hF hb (fun H hO hS => ⟨rfl, fun _ => False, [.br ns], fun _ f => f.elim, .br (scrR_of hO hS) .nil, ?_⟩) fun H e s' h => ?_
  · rw [good ns hlen]
    exact fun v F' H' _ r => rp_bl (Rp.b r)
  · obtain ⟨_, _, _, _, _, _, _, _, _, _, _, _, z⟩ := h
    exact z
end VS
end
section
namespace VS
open PySem PySem.Spec PyProof.Rows L2

/-! ### is, is not of bools -/
def isBD : D → D → Re D
  | .bool a, .bool b => .ok (.bool (decide (a = b)))
  | _, _ => .no
def notBD : D → D → Re D
  | .bool a, .bool b => .ok (.bool (!decide (a = b)))
  | _, _ => .no
theorem og_isB {X : Cx} {W : XW} : OpG X W (pS X.K) rIsB isBD := by
  intro F H x y dx dy Q dm rx ry h
  unfold isBD at h
  split at h
  · exact ⟨_, _, rp_bl rx, rp_bl ry, h.val (.bl _)⟩
  · exact h.elim
theorem og_notB {X : Cx} {W : XW} : OpG X W (pS X.K) rNotB notBD := by
  intro F H x y dx dy Q dm rx ry h
  unfold notBD at h
  split at h
  · exact ⟨_, _, rp_bl rx, rp_bl ry, h.val (.bl _)⟩
  · exact h.elim
def c_isB {X : Cx} {W : XW} (hu : X.A.units + 64 < cLine) : CmpR X W .Is isBD := ⟨_, op_isBl, og_isB⟩
def c_notB {X : Cx} {W : XW} (hu : X.A.units + 64 < cLine) : CmpR X W .IsNot notBD := ⟨_, op_notBl, og_notB⟩
end VS
end
section
namespace VS
open PySem PySem.Spec PyProof.Rows L2

/-! ### [e for x in xs if .. for y in ys if ..] -/
theorem Upd.stay {K : PySem.W.Frag} {F F' : Addr → Prop} {H H' : Hp} {ts : List Nat} {σ σ' : L2.St} {δ δ' : Dl} (u : Upd K F H ts σ δ σ' δ') (s : Stay F H F' H') : Upd K F' H' ts σ δ σ' δ' := ⟨u.lσ, u.lδ, u.out, fun i h x e => by
  obtain ⟨d, v, e1, e2, r⟩ := u.into i h x e
  exact ⟨d, v, e1, e2, s.rp r⟩⟩
def lc1L (vs1 : List Nat) (fi1 : Dl → Re (List D)) (b1 : Bd) (t1 : Dl → Re Bool) (e : Dl → Re D) (δ1 : Dl) : Re (List D) := (nxR (fi1 δ1)).bnd fun es => lcL b1 t1 e (wipeD δ1 vs1) es
def lc2L (b : Bd) (t : Dl → Re Bool) (g : Dl → Re (List D)) (δ : Dl) : List D → Re (List D)
  | [] => .ok []
  | d :: ds => match b d δ with
    | none => .no
    | some δ1 => (nxR (t δ1)).bnd fun c => if c = true then (nxR (g δ1)).bnd fun y => (lc2L b t g δ ds).bnd fun ys => .ok (y ++ ys) else lc2L b t g δ ds
def lc2D (vs vs1 : List Nat) (fi : Dl → Re (List D)) (b : Bd) (t : Dl → Re Bool) (fi1 : Dl → Re (List D)) (b1 : Bd) (t1 : Dl → Re Bool) (e : Dl → Re D) (δ : Dl) : Re D :=
  (fi δ).bnd fun ds => (lc2L b t (lc1L vs1 fi1 b1 t1 e) (wipeD δ vs) ds).bnd fun ys => if ys.length ≤ sizeLine then .ok (.list ys) else .no
theorem lc2L_ok {b : Bd} {t : Dl → Re Bool} {g : Dl → Re (List D)} {δ : Dl} {d : D} {ds zs : List D} (h : lc2L b t g δ (d :: ds) = .ok zs) : ∃ δ1 c, b d δ = some δ1 ∧ t δ1 = .ok c ∧ ((c = true ∧ ∃ y ys, g δ1 = .ok y ∧ lc2L b t g δ ds = .ok ys ∧ zs = y ++ ys) ∨ (c = false ∧ lc2L b t g δ ds = .ok zs)) := by
  unfold lc2L at h
  cases eb : b d δ with
  | none => rw [eb] at h; cases h
  | some δ1 =>
    rw [eb] at h
    cases et : t δ1 with
    | ex x => simp only [et, nxR, bnd_no] at h; cases h
    | no => simp only [et, nxR, bnd_no] at h; cases h
    | ok c =>
      simp only [et, nxR, bnd_ok] at h
      refine ⟨δ1, c, rfl, et, ?_⟩
      cases c with
      | false => rw [if_neg Bool.false_ne_true] at h; exact .inr ⟨rfl, h⟩
      | true =>
        rw [if_pos rfl] at h
        cases ee : g δ1 with
        | ex x => simp only [ee, nxR, bnd_no] at h; cases h
        | no => simp only [ee, nxR, bnd_no] at h; cases h
        | ok y =>
          simp only [ee, nxR, bnd_ok] at h
          cases er : lc2L b t g δ ds with
          | ex x => rw [er] at h; cases h
          | no => rw [er] at h; cases h
          | ok ys => rw [er] at h; cases h; exact .inl ⟨rfl, y, ys, rfl, rfl, rfl⟩
theorem lc2L_ex {b : Bd} {t : Dl → Re Bool} {g : Dl → Re (List D)} {δ : Dl} {x : Xn} : ∀ ds : List D, lc2L b t g δ ds ≠ .ex x
  | [] => fun h => nomatch h
  | d :: ds => fun h => by
    unfold lc2L at h
    cases eb : b d δ with
    | none => rw [eb] at h; cases h
    | some δ1 =>
      rw [eb] at h
      cases et : t δ1 with
      | ex x => simp only [et, nxR, bnd_no] at h; cases h
      | no => simp only [et, nxR, bnd_no] at h; cases h
      | ok c =>
        simp only [et, nxR, bnd_ok] at h
        cases c with
        | false => rw [if_neg Bool.false_ne_true] at h; exact lc2L_ex ds h
        | true =>
          rw [if_pos rfl] at h
          cases ee : g δ1 with
          | ex x => simp only [ee, nxR, bnd_no] at h; cases h
          | no => simp only [ee, nxR, bnd_no] at h; cases h
          | ok y =>
            simp only [ee, nxR, bnd_ok] at h
            cases er : lc2L b t g δ ds with
            | ex x' => exact (lc2L_ex ds er).elim
            | no => rw [er] at h; cases h
            | ok ys => rw [er] at h; cases h
theorem lc1L_ok {vs1 : List Nat} {fi1 : Dl → Re (List D)} {b1 : Bd} {t1 : Dl → Re Bool} {e : Dl → Re D} {δ1 : Dl} {ys : List D} (h : lc1L vs1 fi1 b1 t1 e δ1 = .ok ys) : ∃ es, fi1 δ1 = .ok es ∧ lcL b1 t1 e (wipeD δ1 vs1) es = .ok ys := by
  unfold lc1L at h
  cases ef : fi1 δ1 with
  | no => rw [ef] at h; cases h
  | ex x => rw [ef] at h; cases h
  | ok es => rw [ef] at h; exact ⟨es, rfl, h⟩
section
variable {X : Cx} {W : XW} {P : PP} {pos : Pos}
theorem t_lc2 {ts ts1 vs vs1 : List Nat} {fi fi1 : Dl → Re (List D)} {b b1 : Bd} {t t1 : Dl → Re Bool} {e : Dl → Re D} {K : PySem.W.Frag} (hP : POwn K P) (hts : ∀ j ∈ ts, j ∈ vs) (hts1 : ∀ j ∈ ts1, j ∈ vs1) {σ : L2.St} {H : Hp} {Q : VK} (h : tP K W P (lc2D vs vs1 fi b t fi1 b1 t1 e) σ H Q) :
    tLc2 (tI K W fi) (tG K ts b) (tT K XW0 t) (tI K XW0 fi1) (tG K ts1 b1) (tT K XW0 t1) (tP K XW0 (pS K) e) vs vs1 σ H Q := by
  obtain ⟨F, δ, s, h⟩ := h
  refine ⟨F, δ, s, ?_⟩
  change ReW W F H ((fi δ).bnd _) _ at h
  cases ef : fi δ with
  | no => rw [ef] at h; exact h
  | ex x => rw [ef] at h; exact h
  | ok ds =>
    rw [ef] at h
    rw [bnd_ok] at h
    intro J F1 H1 g1 w D0 hD
    cases eall : lc2L b t (lc1L vs1 fi1 b1 t1 e) (wipeD δ vs) ds with
    | no => rw [eall] at h; exact h.elim
    | ex x => exact (lc2L_ex ds eall).elim
    | ok all =>
      rw [eall] at h
      rw [bnd_ok] at h
      split at h
      · rename_i hsz
        refine ⟨fun i m H' => m = ds.length - i ∧ i ≤ ds.length ∧ ∃ F' acc ys zs, Grow F1 H1 F' H' ∧ H' D0 = some (.lst acc) ∧ ¬ F' D0 ∧ RpA K F' H' acc ys ∧ lc2L b t (lc1L vs1 fi1 b1 t1 e) (wipeD δ vs) (ds.drop i) = .ok zs ∧ all = ys ++ zs, ⟨ds.length, by simp, Nat.zero_le _, F1, [], [], all, Grow.upd0 hD, upd_same, fun f => g1.dom s.dom _ f hD, .nil, by simpa using eall, rfl⟩, ?_⟩
        rintro i m H' ⟨rfl, hle, F', acc, ys, zs, g2, hacc, nf, ra, ez, ea⟩
        have s1 := ((s.grow g1).grow g2)
        by_cases hlt : i < ds.length
        · refine .inr ⟨w.go F' H' i g2.stay hlt, fun H3 => i + 1 ≤ ds.length ∧ ∃ F' acc ys zs, Grow F1 H1 F' H3 ∧ H3 D0 = some (.lst acc) ∧ ¬ F' D0 ∧ RpA K F' H3 acc ys ∧ lc2L b t (lc1L vs1 fi1 b1 t1 e) (wipeD δ vs) (ds.drop (i + 1)) = .ok zs ∧ all = ys ++ zs, fun H3 ⟨a, c⟩ => ⟨ds.length - (i + 1), by omega, rfl, a, c⟩, fun x H2 y => ?_⟩
          obtain ⟨F2, g3, rx⟩ := w.yld F' H' i x H2 ds[i] g2.stay s1.dom (List.getElem?_eq_getElem hlt) y
          rw [List.drop_eq_getElem_cons hlt] at ez
          obtain ⟨δ1, c, eb, et, rest⟩ := lc2L_ok ez
          have s2 := (s1.grow g3).wipe vs
          have nfD : ∀ {F3 H3}, Grow F' H' F3 H3 → ¬ F3 D0 := fun g => g.notF nf (by rw [hacc]; exact fun z => nomatch z)
          refine ⟨F2, wipeD δ vs, ds[i], δ1, s2.len, rx, eb, fun σ2 u2 => ⟨u2.wipe hts, ?_⟩⟩
          refine ⟨F2, δ1, s2.upd u2, ?_⟩
          rw [et]
          intro F3 H3 g4
          rcases rest with ⟨ec, yv, ys', ey, er, ezs⟩ | ⟨ec, er⟩
          · subst ec
            rw [if_pos rfl]
            obtain ⟨es, efi, eys⟩ := lc1L_ok ey
            refine ⟨F3, δ1, (s2.upd u2).grow g4, ?_⟩
            rw [efi]
            intro J1 F4 H4 g5 w1
            have gg := (g3.trans g4).trans g5
            have hacc4 : H4 D0 = some (.lst acc) := gg.same _ _ hacc
            refine ⟨fun j k H' => k = es.length - j ∧ j ≤ es.length ∧ ∃ F' acc ys ws, Grow F1 H1 F' H' ∧ Stay F4 H4 F' H' ∧ H' D0 = some (.lst acc) ∧ ¬ F' D0 ∧ RpA K F' H' acc ys ∧ lcL b1 t1 e (wipeD δ1 vs1) (es.drop j) = .ok ws ∧ all = ys ++ (ws ++ ys'), ⟨es.length, by simp, Nat.zero_le _, F4, acc, ys, yv, g2.trans gg, Stay.refl, hacc4, nfD gg, gg.rpA ra, by simpa using eys, by rw [ea, ezs]⟩, ?_⟩
            rintro j k H5 ⟨rfl, hjle, F5, acc5, ys5, ws, q2, st5, hacc5, nf5, ra5, ew, ea5⟩
            have sb5 := (((s.grow g1).grow q2).wipe vs).upd (u2.stay ((g4.trans g5).stay.trans st5))
            by_cases hjlt : j < es.length
            · refine .inr ⟨w1.go F5 H5 j st5 hjlt, fun H' => j + 1 ≤ es.length ∧ ∃ F' acc ys ws, Grow F1 H1 F' H' ∧ Stay F4 H4 F' H' ∧ H' D0 = some (.lst acc) ∧ ¬ F' D0 ∧ RpA K F' H' acc ys ∧ lcL b1 t1 e (wipeD δ1 vs1) (es.drop (j + 1)) = .ok ws ∧ all = ys ++ (ws ++ ys'), fun H3 ⟨a, c⟩ => ⟨es.length - (j + 1), by omega, rfl, a, c⟩, fun x1 H6 y1 => ?_⟩
              obtain ⟨F6, h3, rx1⟩ := w1.yld F5 H5 j x1 H6 es[j] st5 sb5.dom (List.getElem?_eq_getElem hjlt) y1
              rw [List.drop_eq_getElem_cons hjlt] at ew
              obtain ⟨δ3, c3, eb3, et3, rest3⟩ := lcL_ok ew
              have s6 := (sb5.grow h3).wipe vs1
              have nf6 : ∀ {F3 H3}, Grow F5 H5 F3 H3 → ¬ F3 D0 := fun g => g.notF nf5 (by rw [hacc5]; exact fun z => nomatch z)
              refine ⟨F6, wipeD δ1 vs1, es[j], δ3, s6.len, rx1, eb3, fun σ3 u3 => ⟨u3.wipe hts1, ?_⟩⟩
              refine ⟨F6, δ3, s6.upd u3, ?_⟩
              rw [et3]
              intro F7 H7 h4
              rcases rest3 with ⟨ec, v3, ws', ev3, er3, ews⟩ | ⟨ec, er3⟩
              · subst ec
                rw [if_pos rfl]
                refine ⟨F7, δ3, (s6.upd u3).grow h4, ?_⟩
                rw [ev3]
                intro v F8 H8 h5 rv
                have hh := (h3.trans h4).trans h5
                have hacc8 : H8 D0 = some (.lst acc5) := hh.same _ _ hacc5
                have kk : Kept F8 H8 (upd H8 D0 (.lst (acc5 ++ [v]))) := kept_upd (nf6 hh) hacc8 trivial
                have hlen : acc5.length < sizeLine := by
                  have l1 := ra5.length
                  have l2 := congrArg List.length ea5
                  rw [ews] at l2
                  simp at l2
                  omega
                refine ⟨acc5, hacc8, hlen, hjlt, F8, acc5 ++ [v], ys5 ++ [v3], ws', (q2.trans hh).wrote hD, (st5.trans hh.stay).trans ⟨fun _ x => x, kk⟩, upd_same, nf6 hh, ?_, er3, by rw [ea5, ews]; simp⟩
                exact ((hh.rpA ra5).append (.cons rv .nil)).mono (fun _ x => x) kk
              · subst ec
                rw [if_neg Bool.false_ne_true]
                have hh := h3.trans h4
                exact ⟨hjlt, F7, acc5, ys5, ws, q2.trans hh, st5.trans hh.stay, hh.same _ _ hacc5, nf6 hh, hh.rpA ra5, er3, ea5⟩
            · have ei : j = es.length := by omega
              subst ei
              rw [List.drop_length] at ew
              cases ew
              exact .inl ⟨w1.stop F5 H5 st5, hlt, F5, acc5, ys5, ys', q2, hacc5, nf5, ra5, er, ea5⟩
          · subst ec
            rw [if_neg Bool.false_ne_true]
            have gg := g3.trans g4
            exact ⟨hlt, F3, acc, ys, zs, g2.trans gg, gg.same _ _ hacc, nfD gg, gg.rpA ra, er, ea⟩
        · have ei : i = ds.length := by omega
          subst ei
          rw [List.drop_length] at ez
          cases ez
          rw [List.append_nil] at ea
          subst ea
          obtain ⟨F2, g3, p⟩ := hP.own (g1.trans g2) (by
            cases e0 : H D0 with
            | none => rfl
            | some o => have := g1.same _ _ e0; rw [hD] at this; cases this) nf (show RpO K F' H' D0 (.list all) from ⟨acc, hacc, ra⟩)
          exact .inl ⟨w.stop F' H' g2.stay, h _ _ _ g3 p⟩
      · exact h.elim
theorem vp_lc2 {elt tg iter tg1 iter1 : Expr} {ifs ifs1 : List Expr} {scope : Scope} {own : List (Str × Nat)} {ts ts1 vs1 : List Nat} {fi fi1 : Dl → Re (List D)} {b b1 : Bd} {t t1 : Dl → Re Bool} {e : Dl → Re D} (hP : POwn X.K P) (hc : X.calm = true) (hN : X.N.Nodup) (hi : VI X W tg iter fi) (ok : BlkOk X.N X.env.scope scope own) (hv : ∀ i ∈ vs1, i ∈ own.map (·.2))
    (hg : ∀ (s : Shared) (H : Hp) (C : Addr) (cl : List (Str × Addr)) (fp : List Addr), VG (X.blk s H scope (compEnvC scope cl C X.env) fp) tg ts b) (ht : ∀ (s : Shared) (H : Hp) (C : Addr) (cl : List (Str × Addr)) (fp : List Addr), VTs (X.blk s H scope (compEnvC scope cl C X.env) fp) ifs t)
    (hi1 : ∀ (s : Shared) (H : Hp) (C : Addr) (cl : List (Str × Addr)) (fp : List Addr), VI (X.blk s H scope (compEnvC scope cl C X.env) fp) XW0 tg1 iter1 fi1)
    (hg1 : ∀ (s : Shared) (H : Hp) (C : Addr) (cl : List (Str × Addr)) (fp : List Addr), VG (X.blk s H scope (compEnvC scope cl C X.env) fp) tg1 ts1 b1) (ht1 : ∀ (s : Shared) (H : Hp) (C : Addr) (cl : List (Str × Addr)) (fp : List Addr), VTs (X.blk s H scope (compEnvC scope cl C X.env) fp) ifs1 t1)
    (he : ∀ (s : Shared) (H : Hp) (C : Addr) (cl : List (Str × Addr)) (fp : List Addr), VE (X.blk s H scope (compEnvC scope cl C X.env) fp) XW0 elt e) (hts : ∀ j ∈ ts, j ∈ own.map (·.2)) (hts1 : ∀ j ∈ ts1, j ∈ vs1) (hs : ∀ x, foldedSetIterable iter X.env x = pure x := by intro _; rfl) (hs1 : ∀ env x, foldedSetIterable iter1 env x = pure x := by intro _ _; rfl) :
    VP X W P (.ListComp elt [⟨tg, iter, ifs, 0⟩, ⟨tg1, iter1, ifs1, 0⟩] scope pos) (lc2D (own.map (·.2)) vs1 fi b t fi1 b1 t1 e) := PE.imp (pe_lc2 hc hN hi ok hv hg ht hi1 hg1 ht1 he hs hs1) fun σ H Q h => t_lc2 hP hts hts1 h
theorem vs_setLc2 {i : Nat} {y : Str} {py spos : Pos} {elt tg iter tg1 iter1 : Expr} {ifs ifs1 : List Expr} {scope : Scope} {own : List (Str × Nat)} {ts ts1 vs1 : List Nat} {fi fi1 : Dl → Re (List D)} {b b1 : Bd} {t t1 : Dl → Re Bool} {e : Dl → Re D} (hc : X.calm = true) (hN : X.N.Nodup) (hy : X.N[i]? = some y) (hyl : X.env.scope.names.lookup y = some .local)
    (hsw : swapsWith (.ListComp elt [⟨tg, iter, ifs, 0⟩, ⟨tg1, iter1, ifs1, 0⟩] scope pos) (some (.Name y py)) spos.line X.env = pure true) (hi : VI X W tg iter fi) (ok : BlkOk X.N X.env.scope scope own) (hv : ∀ i ∈ vs1, i ∈ own.map (·.2))
    (hg : ∀ (s : Shared) (H : Hp) (C : Addr) (cl : List (Str × Addr)) (fp : List Addr), VG (X.blk s H scope (compEnvC scope cl C X.env) fp) tg ts b) (ht : ∀ (s : Shared) (H : Hp) (C : Addr) (cl : List (Str × Addr)) (fp : List Addr), VTs (X.blk s H scope (compEnvC scope cl C X.env) fp) ifs t)
    (hi1 : ∀ (s : Shared) (H : Hp) (C : Addr) (cl : List (Str × Addr)) (fp : List Addr), VI (X.blk s H scope (compEnvC scope cl C X.env) fp) XW0 tg1 iter1 fi1)
    (hg1 : ∀ (s : Shared) (H : Hp) (C : Addr) (cl : List (Str × Addr)) (fp : List Addr), VG (X.blk s H scope (compEnvC scope cl C X.env) fp) tg1 ts1 b1) (ht1 : ∀ (s : Shared) (H : Hp) (C : Addr) (cl : List (Str × Addr)) (fp : List Addr), VTs (X.blk s H scope (compEnvC scope cl C X.env) fp) ifs1 t1)
    (he : ∀ (s : Shared) (H : Hp) (C : Addr) (cl : List (Str × Addr)) (fp : List Addr), VE (X.blk s H scope (compEnvC scope cl C X.env) fp) XW0 elt e) (hts : ∀ j ∈ ts, j ∈ own.map (·.2)) (hts1 : ∀ j ∈ ts1, j ∈ vs1) (hs : ∀ x, foldedSetIterable iter X.env x = pure x := by intro _; rfl) (hs1 : ∀ env x, foldedSetIterable iter1 env x = pure x := by intro _ _; rfl) :
    VSt X W (.Assign [.Name y py] (.ListComp elt [⟨tg, iter, ifs, 0⟩, ⟨tg1, iter1, ifs1, 0⟩] scope pos) spos) (setS i (lc2D (own.map (·.2)) vs1 fi b t fi1 b1 t1 e)) := PS.imp (ps_setLc2 hc hN hy hyl hsw hi ok hv hg ht hi1 hg1 ht1 he hs hs1) fun D σ H h => t_lc2 pS_own hts hts1 (t_setS h)
theorem vs_setLc2O {i : Nat} {y : Str} {py spos : Pos} {elt tg iter tg1 iter1 : Expr} {ifs ifs1 : List Expr} {scope : Scope} {own : List (Str × Nat)} {ts ts1 vs1 : List Nat} {fi fi1 : Dl → Re (List D)} {b b1 : Bd} {t t1 : Dl → Re Bool} {e : Dl → Re D} (hc : X.calm = true) (hN : X.N.Nodup) (hy : X.N[i]? = some y) (hyl : X.env.scope.names.lookup y = some .local)
    (hsw : swapsWith (.ListComp elt [⟨tg, iter, ifs, 0⟩, ⟨tg1, iter1, ifs1, 0⟩] scope pos) (some (.Name y py)) spos.line X.env = pure true) (hi : VI X W tg iter fi) (ok : BlkOk X.N X.env.scope scope own) (hv : ∀ i ∈ vs1, i ∈ own.map (·.2))
    (hg : ∀ (s : Shared) (H : Hp) (C : Addr) (cl : List (Str × Addr)) (fp : List Addr), VG (X.blk s H scope (compEnvC scope cl C X.env) fp) tg ts b) (ht : ∀ (s : Shared) (H : Hp) (C : Addr) (cl : List (Str × Addr)) (fp : List Addr), VTs (X.blk s H scope (compEnvC scope cl C X.env) fp) ifs t)
    (hi1 : ∀ (s : Shared) (H : Hp) (C : Addr) (cl : List (Str × Addr)) (fp : List Addr), VI (X.blk s H scope (compEnvC scope cl C X.env) fp) XW0 tg1 iter1 fi1)
    (hg1 : ∀ (s : Shared) (H : Hp) (C : Addr) (cl : List (Str × Addr)) (fp : List Addr), VG (X.blk s H scope (compEnvC scope cl C X.env) fp) tg1 ts1 b1) (ht1 : ∀ (s : Shared) (H : Hp) (C : Addr) (cl : List (Str × Addr)) (fp : List Addr), VTs (X.blk s H scope (compEnvC scope cl C X.env) fp) ifs1 t1)
    (he : ∀ (s : Shared) (H : Hp) (C : Addr) (cl : List (Str × Addr)) (fp : List Addr), VE (X.blk s H scope (compEnvC scope cl C X.env) fp) XW0 elt e) (hts : ∀ j ∈ ts, j ∈ own.map (·.2)) (hts1 : ∀ j ∈ ts1, j ∈ vs1) (hs : ∀ x, foldedSetIterable iter X.env x = pure x := by intro _; rfl) (hs1 : ∀ env x, foldedSetIterable iter1 env x = pure x := by intro _ _; rfl) :
    VSt X W (.Assign [.Name y py] (.ListComp elt [⟨tg, iter, ifs, 0⟩, ⟨tg1, iter1, ifs1, 0⟩] scope pos) spos) (setO i (lc2D (own.map (·.2)) vs1 fi b t fi1 b1 t1 e)) := PS.imp (ps_setLc2 hc hN hy hyl hsw hi ok hv hg ht hi1 hg1 ht1 he hs hs1) fun D σ H h => t_lc2 pF_own hts hts1 (t_setO h)
end
end VS
end
section
namespace VS
open PySem PySem.Spec PyProof.Rows L2

/-! ### xs * k -/
def rRepR : R2 := fun x y H Q => ∃ l k xs, x = .ref l ∧ y = .int k ∧ Rd H l (.lst xs) ∧ -(2 ^ 63) ≤ k ∧ k < 2 ^ 63 ∧ xs.length * k.toNat ≤ sizeLine ∧
  ∀ p, H p = none → Q (.ref p) (upd H p (.lst (List.replicate k.toNat xs).flatten))
section
variable {X : Cx} {W : XW} {P : PP} {a b : Expr} {fa fb : Dl → Re D} {pos : Pos}
theorem op_repR : OpR X (binaryOp .Mult) rRepR := by
  intro pins s σ H x y v u Q I rx ry h
  obtain ⟨l, k, xs, rfl, rfl, hH, h1, h2, hz, q⟩ := h
  cases rx
  obtain ⟨t, rfl⟩ := ry
  obtain ⟨z, its, n, r, hl, e⟩ := lstR I hH
  have hlen : its.toArray.size * k.toNat ≤ sizeLine := by rw [List.size_toArray, ← hl]; exact hz
  have hcap : ¬ its.toArray.size * k.toNat > (2 ^ 63 - 1) / 8 := by
    have : (sizeLine : Nat) ≤ (2 ^ 63 - 1) / 8 := by decide
    omega
  have hfit : ¬ (!Builtin.List.listFitsIndex k) = true := by
    rw [fitsIndex_both h1 h2]
    exact Bool.false_ne_true
  have hlong : ¬ Builtin.List.listTooLong (its.toArray.size * k.toNat) = true := by
    rw [notLongL hlen]
    exact Bool.false_ne_true
  have hnew : List.foldl (fun x1 x2 => x1 ++ x2) #[] (List.replicate (if its.toArray.isEmpty = true then 0 else k.toNat) its.toArray) = (List.replicate k.toNat its).flatten.toArray := by
    have f0 : ∀ m : Nat, List.foldl (fun x1 x2 => x1 ++ x2) #[] (List.replicate m its.toArray) = (List.replicate m its).flatten.toArray := fun m => by
      have := foldl_rep its m []
      rw [List.nil_append] at this
      exact this
    rw [f0]
    cases its with
    | nil => simp
    | cons a r' => rw [if_neg (by simp)]
  refine wpAny_binaryOp_repeat_ref (T := "list") (U := "int") (by decide) ⟨_, e, rfl⟩ (fun s' => typeIs_int s' k t) noFill_list_mul F.fills_int_mul F.slot_int_rmul repeat_list F.slot_int_index.lookup
    (call_meets F.slot_int_rmul (typeIs_int s k t) F.entry_int_rmul (F.args_int_rmul_2 _ _) (int___rmul___int_list k t l its.toArray n)
      ⟨e, rfl, ⟨_, e, rfl⟩, call_meets F.slot_list_mul ⟨_, e, rfl⟩ F.entry_list_mul (F.args_list_mul_2 _ _) (AutoListH.list___mul___list_int_3 l its.toArray n k t hfit hcap hlong) ⟨e, ?_⟩⟩)
  rw [hnew]
  exact ⟨.ref _, _, I.lnew (t' := s.toks) (r.rep k.toNat) (by rw [PyProof.Rows.lm_len_rep_flat, Nat.mul_comm]; exact hz), rfl, q _ I.fresh⟩
theorem rpA_rep {K : PySem.W.Frag} {F : Addr → Prop} {H : Hp} {vs : List V} {ds : List D} (r : RpA K F H vs ds) : ∀ n : Nat, RpA K F H (List.replicate n vs).flatten (List.replicate n ds).flatten
  | 0 => .nil
  | n + 1 => by
    rw [List.replicate_succ, List.replicate_succ, List.flatten_cons, List.flatten_cons]
    exact r.append (rpA_rep r n)
theorem og_repL (hP : PNew X.K P) : OpG X W P rRepR repL := by
  intro F H x y dx dy Q dm rx ry h
  unfold repL at h
  split at h
  · split at h
    · rename_i xs k hz
      obtain ⟨p, us, rfl, hp, ru⟩ := rx
      have l1 := ru.length
      exact ⟨p, k, us, rfl, rp_int ry, hp, hz.1, hz.2.1, by rw [l1]; exact hz.2.2, fun z hn => h.newL hP dm hn (rpA_rep ru _)⟩
    · exact h.elim
  · exact h.elim
theorem vp_repL (hP : PNew X.K P) (ha : VB X W a fa) (hb : VB X W b fb) : VP X W P (.BinOp a .Mult b pos) (d2 repL fa fb) := vp_bin op_repR hP.toPMon (og_repL hP) ha hb
end
end VS
end
section
namespace VS
open PySem PySem.Spec PySem.Calls PyProof.Rows PyProof.V L2

/-! ### sorted of a tuple, of a dict's keys -/
section
variable {prog : Program} {w : World} {A : Around} {E : Value → Shared → Prop} {s : Shared} {β : Type}
theorem sorted_coll {x : Value} {Q : Value → Shared → Prop} {G : List Value → Prop} {bs : List β} {R : Value → β → Prop} {enc : β → PyData}
    (coll : ∀ (P : List Value → Shared → Prop), (∀ (h' : Heap) (tk : Nat) (vs : List Value), (∀ b o, s.heap.get? b = some o → h'.get? b = some o) → G vs → P vs { s with heap := h', toks := tk }) → wpAny (model prog w) A.in1 (collect x) P E s)
    (e : ∀ vs, G vs → PySem.W.EachIs R vs bs) (er : ∀ vs, G vs → PySem.W.EachIs (fun v b => ∃ as, Reads s.heap v (enc b) as) vs bs) (hal : PySem.W.AllAlike (bs.map enc)) (hk : PySem.W.Sortable (bs.map enc)) (hL : bs.length ≤ sizeLine)
    (hu : ∀ b, b ∈ bs → A.units + 2 + (enc b).depth < cLine)
    (h : ∀ (h1 h' : Heap) (tk : Nat) (D : Addr) (c : Nat) (out : List Value), (∀ b o, s.heap.get? b = some o → h1.get? b = some o) → (∀ b o, h1.get? b = some o → h'.get? b = some o) → h1.objs.size ≤ D → h'.get? D = some (PyProof.Rows.seqObj "list" out.toArray c) → PySem.W.EachIs R out (bs.mergeSort (PySem.W.dataLe false enc)) → Q (.ref D) { s with heap := h', toks := tk }) :
    wpAny (model prog w) A (call (.builtin "sorted") [x]) Q E s := by
  refine call_function_entry kind_sorted plain_sorted entry_sorted (args_sorted1 _) ?_
  unfold Builtin.«sorted»
  refine wpAny_bind (m := checkCount "sorted" 1 1 _) (wpAny_pure ?_)
  refine wpAny_bind (coll _ fun h' tk vs kp g => ?_)
  have hl := (e vs g).length
  refine wpAny_bind (wpAny_newList ?_ (by rw [hl]; exact hL))
  have ho : (h'.push { cls := .type "list", data := .seq vs.toArray }).get? h'.objs.size = some (PyProof.Rows.seqObj "list" vs.toArray 0) := Heap.get?_push_size _ rfl
  have kp' : ∀ b o, s.heap.get? b = some o → (h'.push { cls := .type "list", data := .seq vs.toArray }).get? b = some o := fun b o q => Heap.get?_push_of_some _ (kp b o q)
  have er' : PySem.W.EachIs (fun v b => ∃ as, Reads (h'.push { cls := .type "list", data := .seq vs.toArray }) v (enc b) as ∧ h'.objs.size ∉ as) vs bs := (er vs g).mono fun v b ⟨as, r⟩ => ⟨as, PyProof.Rows.Reads.keeps kp' r, fun m => by
    obtain ⟨o, ho⟩ := PyProof.On.reads_mem_get r _ m
    exact absurd (Heap.lt_size (kp _ _ ho)) (Nat.lt_irrefl _)⟩
  refine wpAny_bind (wpAny_holding (wpAny_mono (PySem.W.list_sort_data (A := A.in1) (s := { s with heap := h'.push { cls := .type "list", data := .seq vs.toArray }, toks := tk }) (a := h'.objs.size) (n := 0) (R := R) (enc := enc) (Q := fun v s' => v = .none ∧ Q (.ref h'.objs.size) s') ho (e vs g) er' hal hk hL (fun b hb => ?_) fun out ho' eo => ⟨rfl, ?_⟩) (fun v s' x => ?_) fun _ _ e => e))
  · have := hu b hb
    show A.in1.units + 1 + (enc b).depth < cLine
    have e1 : A.in1.units = A.units + 1 := rfl
    omega
  · obtain ⟨c, hc⟩ := PyProof.Rows.sortedHeap_at (vs := vs) (out := out.toArray) ho
    refine h h' _ tk h'.objs.size c out kp (fun b o q => ?_) (Nat.le_refl _) hc eo
    have hlt := Heap.lt_size q
    rw [PyProof.Rows.sortedHeap_old (Nat.ne_of_lt hlt) (Heap.lt_size (Heap.get?_push_of_some _ q))]
    exact Heap.get?_push_of_some _ q
  · obtain ⟨rfl, q⟩ := x
    exact wpAny_pure ⟨_, rfl, q⟩
end
/-- a key's value is a sort key -/
theorem dp_key {K : PySem.W.Frag} {H : Hp} (k : Key) : Dp K H (kV k) (kD k) := by
  cases k with
  | inl i => exact .int i
  | inr x => exact .str x
theorem dpA_keys {K : PySem.W.Frag} {H : Hp} : ∀ ks : List Key, DpAll K H (ks.map kV) (ks.map kD)
  | [] => .nil
  | k :: ks => .cons (dp_key k) (dpA_keys ks)
theorem each_rel : ∀ {bs : List (V × D)} {its : List Value}, Vals (bs.map (·.1)) its → PySem.W.EachIs (fun v b => RelV b.1 v) its bs
  | [], _, r => by cases r; exact .nil
  | b :: bs, _, r => by cases r with | cons r rr => exact .cons r (each_rel rr)
theorem rel_each : ∀ {bs : List (V × D)} {its : List Value}, PySem.W.EachIs (fun v b => RelV b.1 v) its bs → Vals (bs.map (·.1)) its
  | [], _, r => by cases r; exact .nil
  | b :: bs, _, r => by cases r with | cons r rr => exact .cons r (rel_each rr)
section
variable {X : Cx} {W : XW} {P : PP}
theorem sort_fin {pins : List (Addr × Obj)} {σ : L2.St} {H : Hp} {s : Shared} {E : Value → Shared → Prop} {x : Value} {Q : VK} (hu : X.A.units + 64 < cLine) (I : Inv X pins σ H s) (bs : List (V × D))
    (coll : ∀ (P : List Value → Shared → Prop), (∀ (h' : Heap) (tk : Nat) (vs : List Value), (∀ b o, s.heap.get? b = some o → h'.get? b = some o) → Vals (bs.map (·.1)) vs → P vs { s with heap := h', toks := tk }) → wpAny (model X.prog X.w) X.A.in1 (collect x) P E s)
    (hb : ∀ b ∈ bs, Dp X.K H b.1 b.2) (hk : sortOk (bs.map (·.2)) = true) (q : ∀ p, H p = none → Q (.ref p) (upd H p (.lst ((bs.mergeSort (PySem.W.dataLe false (·.2))).map (·.1))))) :
    wpAny (model X.prog X.w) X.A (call (.builtin "sorted") [x]) (fun v s' => ∃ y H', Inv X pins σ H' s' ∧ RelV y v ∧ Q y H') E s := by
  obtain ⟨k1, k2, k3, k4⟩ := sortOk_s hk
  have e2 : ∀ (bs : List (V × D)) (its : List Value), Vals (bs.map (·.1)) its → (∀ b ∈ bs, Dp X.K H b.1 b.2) → PySem.W.EachIs (fun v b => ∃ as, Reads s.heap v b.2 as) its bs := fun bs => by
    induction bs with
    | nil => intro its r _; cases r; exact .nil
    | cons b bs ih =>
      intro its r hb
      cases r with
      | cons r rr =>
        refine .cons ?_ (ih _ rr fun b hb' => hb b (List.mem_cons_of_mem _ hb'))
        exact Dp.reads I b.2 b.1 _ (hb b List.mem_cons_self) r
  refine sorted_coll (G := fun vs => Vals (bs.map (·.1)) vs) (R := fun (v : Value) (b : V × D) => RelV b.1 v) (enc := fun b : V × D => b.2) coll (fun vs g => each_rel g) (fun vs g => e2 bs vs g hb) k2 k3 (by rw [List.length_map] at k4; exact k4) (fun b hb' => ?_) fun h1 h' tk D c out kp1 kp2 hD e eo => ?_
  · have := (dn_plain b.2 60 (k1 b.2 (List.mem_map.mpr ⟨b, hb', rfl⟩))).2
    show X.A.units + 2 + b.2.depth < cLine
    omega
  · have hlen : ((bs.mergeSort (PySem.W.dataLe false (·.2))).map (·.1)).length ≤ sizeLine := by rw [List.length_map, List.length_mergeSort]; rw [List.length_map] at k4; exact k4
    have I2 : Inv X pins σ H { s with heap := h1, toks := tk } := I.kept kp1
    exact ⟨.ref D, upd H D (.lst _), I2.laid (t' := tk) kp2 hD ⟨hlen, out, c, rel_each eo, e⟩, rfl, q _ (I2.hok.fresh hD)⟩
def rSortT (K : PySem.W.Frag) : List V → Hp → VK → Prop := fun vs H Q => ∃ (a : Addr) (bs : List (V × D)), vs = [.ref a] ∧ SqT K H a (bs.map (·.1)) ∧ (∀ b ∈ bs, Dp K H b.1 b.2) ∧ sortOk (bs.map (·.2)) = true ∧
  ∀ p, H p = none → Q (.ref p) (upd H p (.lst ((bs.mergeSort (PySem.W.dataLe false (·.2))).map (·.1))))
theorem call_sortT (hu : X.A.units + 64 < cLine) : CallR X (.builtin "sorted") (rSortT X.K) := by
  intro pins s σ H vs us Q I r h
  obtain ⟨a, bs, rfl, hs, hb, hk, q⟩ := h
  obtain ⟨its, rv, ⟨o, ho, hc, n, hd⟩, hz⟩ := I.tuple hs
  rw [Vals.ref1 r]
  refine sort_fin hu I bs (fun P g => PySem.wpAny_collect_seq a (.inr rfl) ho hc hd (fun h' kp => ?_) (by rw [List.size_toArray, ← rv.length]; exact hz)) hb hk q
  have e : its.toArray.toList = its := by simp
  rw [e]
  exact g h' s.toks its kp rv
def rSortK : List V → Hp → VK → Prop := fun vs H Q => ∃ (a : Addr) (m : List (Key × V)), vs = [.ref a] ∧ Rd H a (.dK m) ∧ sortOk (m.map fun p => kD p.1) = true ∧
  ∀ p, H p = none → Q (.ref p) (upd H p (.lst (((m.map fun p => (kV p.1, kD p.1)).mergeSort (PySem.W.dataLe false (·.2))).map (·.1))))
theorem call_sortK (hcalm : X.calm = true) (hu : X.A.units + 64 < cLine) : CallR X (.builtin "sorted") rSortK := by
  intro pins s σ H vs us Q I r h
  obtain ⟨a, m, rfl, hm, hk, q⟩ := h
  rw [Vals.ref1 r]
  obtain ⟨z, lo, ys, rk, hd⟩ := dk_rd I.hok hm
  obtain ⟨ep, hat⟩ := hd.dictAt
  have hl : m.length = ys.length := Paired.length rk
  have e2 : (m.map fun p => (kV p.1, kD p.1)).map (·.2) = m.map fun p => kD p.1 := by rw [List.map_map]; rfl
  refine sort_fin hu I (m.map fun p => (kV p.1, kD p.1)) (fun P g => PySem.W.kdu_collect (A := X.A.in1) (PySem.W.kdl_dict (knd := mixKind X.prog X.w) (kvs := ys) (ep := ep) lo) (I.ok.hd hcalm) hat (by rw [← hl]; exact z) fun h' tk acc kp hacc => ?_) (fun b hb => ?_) (by rw [e2]; exact hk) q
  · refine g h' tk acc.toList kp ?_
    have el : acc.toList.length = acc.size := by simp
    refine vals_of_at (by rw [List.length_map, List.length_map, el, hacc.1, hl]) fun j x w h1 h2 => ?_
    obtain ⟨k, y, hky, hi⟩ := hacc.2 j w (by rw [← Array.getElem?_toList]; exact h2)
    have e1 : (m.map (·.1))[j]? = some k := by
      rw [KV.keys rk, List.getElem?_map, hky] <;> rfl
    have e3 : ((m.map fun p => (kV p.1, kD p.1)).map (·.1))[j]? = some (kV k) := by
      have e4 : (m.map fun p => (kV p.1, kD p.1)).map (·.1) = (m.map (·.1)).map kV := by rw [List.map_map, List.map_map] <;> rfl
      rw [e4, List.getElem?_map, e1] <;> rfl
    rw [e3] at h1
    cases h1
    exact keyIs_rel hi
  · obtain ⟨p, _, rfl⟩ := List.mem_map.mp hb
    exact dp_key p.1
/-- a dict with tuple keys -/
def bsT (m : List (List Key × V)) (as : List Addr) : List (V × D) := (as.zip m).map fun q => (V.ref q.1, PyData.tuple (q.2.1.map kD))
theorem isKeys_len {H : Hp} {m : List (List Key × V)} {as : List Addr} (h : IsKeys H m as) : m.length = as.length := Paired.length h
theorem bsT_1 : ∀ {H : Hp} {m : List (List Key × V)} {as : List Addr}, IsKeys H m as → (bsT m as).map (·.1) = as.map V.ref
  | _, _, _, .nil => rfl
  | _, _, _, .cons _ t => by
    have := bsT_1 t
    unfold bsT at this ⊢
    simp only [List.zip_cons_cons, List.map_cons, this]
theorem bsT_2 : ∀ {H : Hp} {m : List (List Key × V)} {as : List Addr}, IsKeys H m as → (bsT m as).map (·.2) = m.map fun p => PyData.tuple (p.1.map kD)
  | _, _, _, .nil => rfl
  | _, _, _, .cons _ t => by
    have := bsT_2 t
    unfold bsT at this ⊢
    simp only [List.zip_cons_cons, List.map_cons, this]
theorem bsT_mem : ∀ {H : Hp} {m : List (List Key × V)} {as : List Addr}, IsKeys H m as → ∀ b ∈ bsT m as, ∃ (a : Addr) (ks : List Key), b = (V.ref a, PyData.tuple (ks.map kD)) ∧ H a = some (.tup (ks.map kV))
  | _, _, _, .nil, b, h => nomatch h
  | _, _, _, .cons (a := p) (b := c) e t, b, h => by
    have h' : b ∈ (V.ref c, PyData.tuple (p.1.map kD)) :: bsT _ _ := h
    rcases List.mem_cons.mp h' with z | h'
    · exact ⟨c, p.1, z, e⟩
    · exact bsT_mem t b h'
def rSortKT : List V → Hp → VK → Prop := fun vs H Q => ∃ (a : Addr) (m : List (List Key × V)), vs = [.ref a] ∧ Rd H a (.dT m) ∧ sortOk (m.map fun p => PyData.tuple (p.1.map kD)) = true ∧
  ∀ p as, H p = none → IsKeys H m as → Q (.ref p) (upd H p (.lst (((bsT m as).mergeSort (PySem.W.dataLe false (·.2))).map (·.1))))
theorem call_sortKT (hcalm : X.calm = true) (hu : X.A.units + 64 < cLine) : CallR X (.builtin "sorted") rSortKT := by
  intro pins s σ H vs us Q I r h
  obtain ⟨a, m, rfl, hm, hkk, q⟩ := h
  rw [Vals.ref1 r]
  obtain ⟨z, hs, ks, pr, o, es, ep, ho, hx, hdt, he, hn⟩ := (show ObjOk X.prog X.w H s.heap a (.dT m) from rd_of I.hok hm)
  have l1 : es.size = ks.length := size_of_entries he
  have l2 : m.length = ks.length := Paired.length pr
  have hK := isKeys_of pr
  refine sort_fin hu I (bsT m (ks.map fun x => x.2.1)) (fun P g => PySem.W.kdu_collect (A := X.A.in1) (kdl_raw hs hx hdt) (I.ok.hd hcalm) ho (by omega) fun h' tk acc kp hacc => ?_) (fun b hb => ?_) (by rw [bsT_2 hK]; exact hkk) fun p hp => q p _ hp hK
  · refine g h' tk acc.toList kp ?_
    rw [bsT_1 hK]
    have ea : acc.toList = ks.map fun x => Value.ref x.2.1 := by
      have hl : acc.toList.length = ks.length := by rw [Array.length_toList, hacc.1]; exact l1
      apply List.ext_getElem?
      intro j
      rw [List.getElem?_map]
      cases hj : acc.toList[j]? with
      | none =>
        have h1 := List.getElem?_eq_none_iff.mp hj
        rw [List.getElem?_eq_none (by omega)]
        all_goals rfl
      | some v =>
        obtain ⟨en, hen, hv⟩ := hacc.2 j v (by rw [← Array.getElem?_toList]; exact hj)
        have qe := entry_at he j
        rw [hen] at qe
        cases hb : ks[j]? with
        | none =>
          rw [hb] at qe
          exact nomatch (show some en = none from qe)
        | some b =>
          rw [hb] at qe
          have e2 : en = entryOfKey (tupleKind (mixKind X.prog X.w)) b := Option.some.inj qe
          rw [hv, e2]
          all_goals rfl
    have eb : acc.toList = (ks.map fun x => x.2.1).map Value.ref := by rw [ea, List.map_map]; all_goals rfl
    rw [eb]
    exact vals_refs _
  · obtain ⟨c, kk, rfl, e⟩ := bsT_mem hK b hb
    exact .tup (.inl (.inl e)) (dpA_keys kk)
/-- sorted(x): a list, a tuple, a dict by its keys -/
def sortedA : List D → Re D
  | [.list xs] => sortedD [.list xs]
  | [.tuple xs] => if sortOk xs = true then .ok (.list (sortL xs)) else .no
  | [.dict kvs] => if sortOk (kvs.map (·.1)) = true then .ok (.list (sortL (kvs.map (·.1)))) else .no
  | _ => .no
theorem rp_kV {K : PySem.W.Frag} {F : Addr → Prop} {H : Hp} (k : Key) : Rp K F H (kV k) (kD k) := by
  cases k with
  | inl i => exact .int i
  | inr x => exact .str x
def rSortA (K : PySem.W.Frag) : List V → Hp → VK → Prop := fun vs H Q => rSortV K vs H Q ∨ rSortT K vs H Q ∨ rSortK vs H Q ∨ rSortKT vs H Q
theorem call_sortA (hcalm : X.calm = true) (hu : X.A.units + 64 < cLine) : CallR X (.builtin "sorted") (rSortA X.K) := CallR.or (call_sortV hu) (CallR.or (call_sortT hu) (CallR.or (call_sortK hcalm hu) (call_sortKT hcalm hu)))
theorem cg_sortedA (hP : PNew X.K P) : CallG X W P RpB (rSortA X.K) sortedA := by
  intro F H vs ds Q dm r h
  unfold sortedA at h
  split at h
  · exact .inl (cg_sorted hP F H vs _ Q dm r h)
  · refine .inr (.inl ?_)
    split at h
    · rename_i xs hk
      cases r with
      | cons r rr =>
        cases rr
        obtain ⟨a, ys, e, ha, t⟩ := r
        subst e
        obtain ⟨bs, e1, e2, rb⟩ := rpA_zip t
        subst e1 e2
        have k1 := (sortOk_s hk).1
        exact ⟨a, bs, rfl, ha, fun b hb => (rb b hb).dp (dn_plain _ 60 (k1 b.2 (List.mem_map.mpr ⟨b, hb, rfl⟩))).1, hk, fun p hn => h.newL hP dm hn (rp_sort rb)⟩
    · exact h.elim
  · split at h
    · rename_i kvs hk
      cases r with
      | cons r rr =>
        cases rr
        obtain ⟨a, kx, e, ha, t⟩ := r
        subst e
        have ek := rpK_keys t
        rcases ha with ⟨m, hm, e2⟩ | ⟨m, hm, e2⟩
        · subst e2
          have e3 : (kvs.map (·.1)) = m.map fun p => kD p.1 := by rw [← ek, List.map_map]; rfl
          rw [e3] at hk h
          have rb : ∀ b ∈ (m.map fun p => (kV p.1, kD p.1)), Rp X.K F H b.1 b.2 := fun b hb => by
            obtain ⟨p, _, rfl⟩ := List.mem_map.mp hb
            exact rp_kV p.1
          refine .inr (.inr (.inl ⟨a, m, rfl, hm, hk, fun p hn => h.newL hP dm hn ?_⟩))
          have := rp_sort rb
          rw [List.map_map] at this
          exact this
        · subst e2
          have e3 : (kvs.map (·.1)) = m.map fun p => PyData.tuple (p.1.map kD) := by rw [← ek, List.map_map]; rfl
          rw [e3] at hk h
          refine .inr (.inr (.inr ⟨a, m, rfl, hm, hk, fun p as hn hK => h.newL hP dm hn ?_⟩))
          have rb : ∀ b ∈ bsT m as, Rp X.K F H b.1 b.2 := fun b hb => by
            obtain ⟨c, ks, rfl, e⟩ := bsT_mem hK b hb
            exact .tup (.inl e) (rpA_ofK ks)
          have := rp_sort rb
          rw [bsT_2 hK] at this
          exact this
    · exact h.elim
  · exact h.elim
section
variable {e : Expr} {fs : Dl → Re (List D)} {pos p : Pos}
theorem vp_sortedA (hP : PNew X.K P) (hcalm : X.calm = true) (hu : X.A.units + 64 < cLine) (hg : Gl X "sorted") (hm : X.mg "sorted" = none) (ha : VA X W RpB [e] fs) (he : starEach [e] X.env = (false, eval e X.env) :: starEach [] X.env := by rfl) : VP X W P (.Call (.Name "sorted" p) [e] [] pos) (dA fs sortedA) := vp_callB hP.toPMon (call_sortA hcalm hu) (cg_sortedA hP) hg hm (by decide +kernel) ha (by decide) (by decide) he
end
end
@[simp] theorem ev_sortA_l (xs : List D) : sortedA [.list xs] = sortedD [.list xs] := Eq.trans rfl (Eq.refl _)
theorem ev_sortA_t (xs : List D) : sortedA [.tuple xs] = sortedD [.list xs] := Eq.trans rfl (Eq.refl _)
theorem ev_sortA_d (xs : List (D × D)) : sortedA [.dict xs] = sortedD [.list (xs.map (·.1))] := Eq.trans rfl (Eq.refl _)
end VS
end
section
open PySem PySem.Spec PyProof.Rows L2 VS
namespace KL
/-- the turns that a while is given -/
def fuel : Nat := 1000000
abbrev I_is_whole : Nat := 0
abbrev I_ascends : Nat := 1
abbrev I_is_name : Nat := 2
abbrev I__is_part : Nat := 3
abbrev I__is_tree : Nat := 4
abbrev I_inner_trees : Nat := 5
abbrev I_names_of : Nat := 6
abbrev I_is_layout : Nat := 7
abbrev I_check_layout : Nat := 8
abbrev I_windows_of : Nat := 9
abbrev I_shown_names : Nat := 10
abbrev I_shown_windows : Nat := 11
abbrev I_all_places : Nat := 12
abbrev I_tree_in : Nat := 13
abbrev I_check_names : Nat := 14
abbrev I__left_tabs : Nat := 15
abbrev I_left_of : Nat := 16
abbrev I_gathered : Nat := 17
abbrev I_without : Nat := 18
abbrev I__holds : Nat := 19
abbrev I__common : Nat := 20
abbrev I_common_tree : Nat := 21
abbrev I_together : Nat := 22
abbrev I__law_draws : Nat := 23
abbrev I__law_tree : Nat := 24
abbrev I__law_layout : Nat := 25
abbrev I__law_inner : Nat := 26
abbrev I__law_wins : Nat := 27
abbrev I__law_without : Nat := 28
abbrev I__law_trees : Nat := 29
abbrev I__law_common : Nat := 30
abbrev I__law_error : Nat := 31
abbrev I_law : Nat := 32
/-- is_whole -/
def b_0 (c : Nat → List Sl → Re PyData) : Dl → RS := (retS (dAnd (d1 (isiD .tInt) (gS 0)) (dAnd (d1 dNot (d1 (isiD .tBool) (gS 0))) (chn leD leD (gS 1) (gS 0) (gS 2)))))
/-- ascends -/
def b_1 (c : Nat → List Sl → Re PyData) : Dl → RS := (retS (dA (argsF [(lcD ([1, 2]) (dAL (argsF [(gS 0), (dSl slA (gS 0) (someP (kC (.int 1))) noP)]) zipD) (bT 2 (bCons (bN 1) (bCons (bN 2) bNil))) yesT (d2 ltD (gS 1) (gS 2)))]) allD))
/-- is_name -/
def b_2 (c : Nat → List Sl → Re PyData) : Dl → RS := (retS (dAnd (d1 (isiD .tStr) (gS 0)) (dAnd (chn leD leD (kC (.int 1)) (dA (argsF [(gS 0)]) lenD) (kC (.int 8))) (dA (argsF [(lcD ([1]) (d1L itemsD (gS 0)) (bN 1) yesT (d2 inD (gS 1) (kC (.str "abcdefghijklmnopqrstuvwxyz"))))]) allD))))
/-- _is_part -/
def b_3 (c : Nat → List Sl → Re PyData) : Dl → RS := (seqS (ifS (tOr2 (tNot1 (tB1 (d1 (isiD .tTuple) (gS 0)))) (tOr2 (tB1 (d2 neD (dA (argsF [(gS 0)]) lenD) (kC (.int 2)))) (tNot1 (tB1 (dA (argsF [(d2 ixD (gS 0) (kC (.int 0))), (kC (.int 1)), (kC (.int 12))]) (cD (c I_is_whole))))))) (retS (kC (.bool false))) nxS) (retS (dAnd (dA (argsF [(d2 ixD (gS 0) (kC (.int 1))), (gS 2)]) (cD (c I__is_tree))) (d2 neD (d2 ixD (d2 ixD (gS 0) (kC (.int 1))) (kC (.int 0))) (gS 1)))))
/-- _is_tree -/
def b_4 (c : Nat → List Sl → Re PyData) : Dl → RS := (seqS (ifS (tOr2 (tB1 (d2 eqD (gS 1) (kC (.int 0)))) (tOr2 (tNot1 (tB1 (d1 (isiD .tTuple) (gS 0)))) (tOr2 (tB1 (d2 ltD (dA (argsF [(gS 0)]) lenD) (kC (.int 2)))) (tNot1 (tB1 (d1 (isiD .tStr) (d2 ixD (gS 0) (kC (.int 0))))))))) (retS (kC (.bool false))) nxS) (seqS (ifS (tB1 (d2 eqD (d2 ixD (gS 0) (kC (.int 0))) (kC (.str "win")))) (retS (dAnd (d2 eqD (dA (argsF [(gS 0)]) lenD) (kC (.int 2))) (dA (argsF [(d2 ixD (gS 0) (kC (.int 1)))]) (cD (c I_is_name))))) nxS) (seqS (ifS (tB1 (d2 inD (d2 ixD (gS 0) (kC (.int 0))) (dA (argsF [(kC (.str "row")), (kC (.str "col"))]) tupD))) (seqS (ifS (tOr2 (tB1 (d2 neD (dA (argsF [(gS 0)]) lenD) (kC (.int 2)))) (tOr2 (tNot1 (tB1 (d1 (isiD .tTuple) (d2 ixD (gS 0) (kC (.int 1)))))) (tB1 (d2 ltD (dA (argsF [(d2 ixD (gS 0) (kC (.int 1)))]) lenD) (kC (.int 2)))))) (retS (kC (.bool false))) nxS) (retS (dA (argsF [(lcD ([2]) (d1L itemsD (d2 ixD (gS 0) (kC (.int 1)))) (bN 2) yesT (dA (argsF [(gS 2), (d2 ixD (gS 0) (kC (.int 0))), (d2 subD (gS 1) (kC (.int 1)))]) (cD (c I__is_part))))]) allD))) nxS) (seqS (ifS (tOr2 (tB1 (d2 neD (d2 ixD (gS 0) (kC (.int 0))) (kC (.str "tabs")))) (tOr2 (tB1 (d2 neD (dA (argsF [(gS 0)]) lenD) (kC (.int 3)))) (tOr2 (tNot1 (tB1 (d1 (isiD .tTuple) (d2 ixD (gS 0) (kC (.int 2)))))) (tB1 (d2 eqD (dA (argsF [(d2 ixD (gS 0) (kC (.int 2)))]) lenD) (kC (.int 0))))))) (retS (kC (.bool false))) nxS) (seqS (ifS (tNot1 (tB1 (dA (argsF [(d2 ixD (gS 0) (kC (.int 1))), (kC (.int 0)), (d2 subD (dA (argsF [(d2 ixD (gS 0) (kC (.int 2)))]) lenD) (kC (.int 1)))]) (cD (c I_is_whole))))) (retS (kC (.bool false))) nxS) (retS (dA (argsF [(lcD ([2]) (d1L itemsD (d2 ixD (gS 0) (kC (.int 2)))) (bN 2) yesT (dAnd (dA (argsF [(gS 2), (d2 subD (gS 1) (kC (.int 1)))]) (cD (c I__is_tree))) (d2 neD (d2 ixD (gS 2) (kC (.int 0))) (kC (.str "tabs")))))]) allD)))))))
/-- inner_trees -/
def b_5 (c : Nat → List Sl → Re PyData) : Dl → RS := (seqS (ifS (tB1 (d2 eqD (d2 ixD (gS 0) (kC (.int 0))) (kC (.str "win")))) (retS (dA (argsF []) lstD)) nxS) (retS (dIf (tB1 (d2 eqD (d2 ixD (gS 0) (kC (.int 0))) (kC (.str "tabs")))) (dA (argsF [(d2 ixD (gS 0) (kC (.int 2)))]) lstOfD) (lcD ([1]) (d1L itemsD (d2 ixD (gS 0) (kC (.int 1)))) (bN 1) yesT (d2 ixD (gS 1) (kC (.int 1)))))))
/-- names_of -/
def b_6 (c : Nat → List Sl → Re PyData) : Dl → RS := (seqS (ifS (tB1 (d2 eqD (d2 ixD (gS 0) (kC (.int 0))) (kC (.str "win")))) (retS (dA (argsF [(d2 ixD (gS 0) (kC (.int 1)))]) lstD)) nxS) (seqS (setO 1 (dA (argsF []) lstD)) (seqS (forS (d1L itemsD (dA (argsF [(gS 0)]) (cD (c I_inner_trees)))) (bN 2) (extS 1 (dA (argsF [(gS 2)]) (cD (c I_names_of))))) (fun δ => (retS (gS 1)) (frzD 1 δ)))))
/-- is_layout -/
def b_7 (c : Nat → List Sl → Re PyData) : Dl → RS := (seqS (ifS (tNot1 (tB1 (dA (argsF [(gS 0), (kC (.int 8))]) (cD (c I__is_tree))))) (retS (kC (.bool false))) nxS) (seqS (setS 1 (dA (argsF [(gS 0)]) (cD (c I_names_of)))) (retS (dAnd (d2 leD (dA (argsF [(gS 1)]) lenD) (kC (.int 16))) (d2 eqD (dA (argsF [(dcD ([2]) (d1L itemsD (gS 1)) (bN 2) yesT (gS 2) (kC (.bool true)))]) lenD) (dA (argsF [(gS 1)]) lenD))))))
/-- check_layout -/
def b_8 (c : Nat → List Sl → Re PyData) : Dl → RS := (ifS (tNot1 (tB1 (dA (argsF [(gS 0)]) (cD (c I_is_layout))))) (raiS "BadLayout") nxS)
/-- windows_of -/
def b_9 (c : Nat → List Sl → Re PyData) : Dl → RS := (seqS (dropS (dA (argsF [(gS 0)]) (cD (c I_check_layout)))) (retS (dA (argsF [(dA (argsF [(gS 0)]) (cD (c I_names_of)))]) tupAnyD)))
/-- shown_names -/
def b_10 (c : Nat → List Sl → Re PyData) : Dl → RS := (seqS (ifS (tB1 (d2 eqD (d2 ixD (gS 0) (kC (.int 0))) (kC (.str "win")))) (retS (dA (argsF [(d2 ixD (gS 0) (kC (.int 1)))]) lstD)) nxS) (seqS (setS 1 (dIf (tB1 (d2 eqD (d2 ixD (gS 0) (kC (.int 0))) (kC (.str "tabs")))) (dA (argsF [(d2 ixD (d2 ixD (gS 0) (kC (.int 2))) (d2 ixD (gS 0) (kC (.int 1))))]) lstD) (dA (argsF [(gS 0)]) (cD (c I_inner_trees))))) (seqS (setO 2 (dA (argsF []) lstD)) (seqS (forS (d1L itemsD (gS 1)) (bN 3) (extS 2 (dA (argsF [(gS 3)]) (cD (c I_shown_names))))) (fun δ => (retS (gS 2)) (frzD 2 δ))))))
/-- shown_windows -/
def b_11 (c : Nat → List Sl → Re PyData) : Dl → RS := (seqS (dropS (dA (argsF [(gS 0)]) (cD (c I_check_layout)))) (retS (dA (argsF [(dA (argsF [(gS 0)]) (cD (c I_shown_names)))]) tupAnyD)))
/-- all_places -/
def b_12 (c : Nat → List Sl → Re PyData) : Dl → RS := (seqS (setO 1 (dA (argsF [(dA (argsF []) tupD)]) lstD)) (seqS (forS (dAL (argsF [(dA (argsF [(gS 0)]) (cD (c I_inner_trees)))]) enumD) (bT 2 (bCons (bN 2) (bCons (bN 3) bNil))) (extS 1 (lcD ([4]) (d1L itemsD (dA (argsF [(gS 3)]) (cD (c I_all_places)))) (bN 4) yesT (d2 addD (dA (argsF [(gS 2)]) tupD) (gS 4))))) (fun δ => (retS (gS 1)) (frzD 1 δ))))
/-- tree_in -/
def b_13 (c : Nat → List Sl → Re PyData) : Dl → RS := (seqS (forS (d1L itemsD (gS 1)) (bN 2) (setS 0 (d2 ixD (dA (argsF [(gS 0)]) (cD (c I_inner_trees))) (gS 2)))) (retS (gS 0)))
/-- check_names -/
def b_14 (c : Nat → List Sl → Re PyData) : Dl → RS := (ifS (tOr2 (tNot1 (tB1 (d1 (isiD .tTuple) (gS 0)))) (tOr2 (tNot1 (tB1 (dA (argsF [(lcD ([1]) (d1L itemsD (gS 0)) (bN 1) yesT (d1 (isiD .tStr) (gS 1)))]) allD))) (tNot1 (tB1 (dA (argsF [(gS 0)]) (cD (c I_ascends))))))) (raiS "BadNames") nxS)
/-- _left_tabs -/
def b_15 (c : Nat → List Sl → Re PyData) : Dl → RS := (seqS (setO 2 (dA (argsF []) lstD)) (seqS (setS 3 (kC .none)) (seqS (forS (dAL (argsF [(d2 ixD (gS 0) (kC (.int 2)))]) enumD) (bT 2 (bCons (bN 4) (bCons (bN 5) bNil))) (seqS (setS 6 (dA (argsF [(gS 5), (gS 1)]) (cD (c I_left_of)))) (ifS (tB1 (d1 notND (gS 6))) (seqS (setS 7 (dA (argsF [(gB 2)]) lenD)) (seqS (extS 2 (dIf (tB1 (d2 eqD (d2 ixD (gS 6) (kC (.int 0))) (kC (.str "tabs")))) (dA (argsF [(d2 ixD (gS 6) (kC (.int 2)))]) lstOfD) (dA (argsF [(gS 6)]) lstD))) (ifS (tAnd2 (tB1 (d2 geD (gS 4) (d2 ixD (gS 0) (kC (.int 1))))) (tB1 (d1 isND (gS 3)))) (setS 3 (d2 addD (gS 7) (dIf (tB1 (d2 eqD (d2 ixD (gS 6) (kC (.int 0))) (kC (.str "tabs")))) (d2 ixD (gS 6) (kC (.int 1))) (kC (.int 0))))) nxS))) nxS))) (seqS (ifS (tB1 (d2 eqD (dA (argsF [(gB 2)]) lenD) (kC (.int 0)))) (retS (kC .none)) nxS) (retS (dA (argsF [(kC (.str "tabs")), (dIf (tB1 (d1 isND (gS 3))) (d2 subD (dA (argsF [(gB 2)]) lenD) (kC (.int 1))) (gS 3)), (dA (argsF [(gB 2)]) tupOfD)]) tupD))))))
/-- left_of -/
def b_16 (c : Nat → List Sl → Re PyData) : Dl → RS := (seqS (ifS (tB1 (d2 eqD (d2 ixD (gS 0) (kC (.int 0))) (kC (.str "win")))) (retS (dIf (tB1 (d2 inD (d2 ixD (gS 0) (kC (.int 1))) (gS 1))) (kC .none) (gS 0))) nxS) (seqS (ifS (tB1 (d2 eqD (d2 ixD (gS 0) (kC (.int 0))) (kC (.str "tabs")))) (retS (dA (argsF [(gS 0), (gS 1)]) (cD (c I__left_tabs)))) nxS) (seqS (setO 2 (dA (argsF []) lstD)) (seqS (forS (d1L itemsD (d2 ixD (gS 0) (kC (.int 1)))) (bT 2 (bCons (bN 3) (bCons (bN 4) bNil))) (seqS (setS 5 (dA (argsF [(gS 4), (gS 1)]) (cD (c I_left_of)))) (ifS (tB1 (d1 notND (gS 5))) (appS 2 (dA (argsF [(gS 3), (gS 5)]) tupD)) nxS))) (fun δ => (retS (dA (argsF [(d2 ixD (gS 0) (kC (.int 0))), (gS 2)]) (cD (c I_gathered)))) (frzD 2 δ))))))
/-- gathered -/
def b_17 (c : Nat → List Sl → Re PyData) : Dl → RS := (seqS (setO 2 (dA (argsF []) lstD)) (seqS (forS (d1L itemsD (gS 1)) (bT 2 (bCons (bN 3) (bCons (bN 4) bNil))) (extS 2 (dIf (tB1 (d2 eqD (d2 ixD (gS 4) (kC (.int 0))) (gS 0))) (lcD ([5]) (d1L itemsD (d2 ixD (gS 4) (kC (.int 1)))) (bN 5) yesT (dA (argsF [(gS 3), (d2 ixD (gS 5) (kC (.int 1)))]) tupD)) (dA (argsF [(dA (argsF [(gS 3), (gS 4)]) tupD)]) lstD)))) (seqS (ifS (tB1 (d2 eqD (dA (argsF [(gB 2)]) lenD) (kC (.int 0)))) (retS (kC .none)) nxS) (retS (dIf (tB1 (d2 eqD (dA (argsF [(gB 2)]) lenD) (kC (.int 1)))) (d2 ixD (d2 ixD (gB 2) (kC (.int 0))) (kC (.int 1))) (dA (argsF [(gS 0), (dA (argsF [(gB 2)]) tupOfD)]) tupD))))))
/-- without -/
def b_18 (c : Nat → List Sl → Re PyData) : Dl → RS := (seqS (dropS (dA (argsF [(gS 0)]) (cD (c I_check_layout)))) (seqS (dropS (dA (argsF [(gS 1)]) (cD (c I_check_names)))) (retS (dA (argsF [(gS 0), (gS 1)]) (cD (c I_left_of))))))
/-- _holds -/
def b_19 (c : Nat → List Sl → Re PyData) : Dl → RS := (seqS (setS 2 (dA (argsF [(gS 0)]) (cD (c I_names_of)))) (retS (dA (argsF [(lcD ([3]) (d1L itemsD (gS 1)) (bN 3) yesT (d2 inD (gS 3) (gS 2)))]) allD)))
/-- _common -/
def b_20 (c : Nat → List Sl → Re PyData) : Dl → RS := (retS (dA (argsF [(lcD ([2]) (d1L itemsD (dA (argsF [(gS 0)]) (cD (c I_all_places)))) (bN 2) (tB1 (dA (argsF [(dA (argsF [(gS 0), (gS 2)]) (cD (c I_tree_in))), (gS 1)]) (cD (c I__holds)))) (gS 2))]) maxL))
/-- common_tree -/
def b_21 (c : Nat → List Sl → Re PyData) : Dl → RS := (seqS (dropS (dA (argsF [(gS 0)]) (cD (c I_check_layout)))) (seqS (dropS (dA (argsF [(gS 1)]) (cD (c I_check_names)))) (seqS (ifS (tOr2 (tB1 (d2 eqD (dA (argsF [(gS 1)]) lenD) (kC (.int 0)))) (tNot1 (tB1 (dA (argsF [(gS 0), (gS 1)]) (cD (c I__holds)))))) (raiS "BadNames") nxS) (retS (dA (argsF [(gS 0), (gS 1)]) (cD (c I__common)))))))
/-- together -/
def b_22 (c : Nat → List Sl → Re PyData) : Dl → RS := (seqS (dropS (dA (argsF [(gS 0)]) (cD (c I_check_layout)))) (seqS (forS (d1L itemsD (dA (argsF [(gS 1), (gS 2)]) tupD)) (bN 3) (ifS (tOr2 (tNot1 (tB1 (dA (argsF [(gS 3)]) (cD (c I_is_name))))) (tB1 (d2 notInD (gS 3) (dA (argsF [(gS 0)]) (cD (c I_names_of)))))) (raiS "NoWindow") nxS)) (seqS (ifS (tB1 (d2 eqD (gS 1) (gS 2))) (raiS "BadNames") nxS) (retS (d2 ixD (dA (argsF [(gS 0), (dA (argsF [(gS 0), (dA (argsF [(gS 1), (gS 2)]) tupD)]) (cD (c I__common)))]) (cD (c I_tree_in))) (kC (.int 0)))))))
/-- _law_draws -/
def b_23 (c : Nat → List Sl → Re PyData) : Dl → RS := (seqS (setO 2 (dA (argsF []) lstD)) (seqS (setS 3 (kC (.int 7))) (seqS (forS (d1L itemsD (dScrSl 0 63)) (bN 4) (seqS (setS 5 (dA (argsF [(gS 4)]) absD)) (seqS (setS 3 (d2 modI (dA (argsF [(d2 addD (d2 addD (d2 mulI (gS 3) (kC (.int 48271))) (gS 5)) (kC (.int 11)))]) intD) (kC (.int 2147483647)))) (ifS (tB1 (d2 geD (gS 5) (d2 powI (kC (.int 10)) (kC (.int 18))))) (forS (dAL (argsF [(kC (.int 60))]) rng1D) (bN 6) (ifS (tB1 (d2 gtD (gS 5) (kC (.int 0)))) (seqS (appS 2 (d2 modI (dA (argsF [(gS 5)]) intD) (kC (.int 1009)))) (setS 5 (d2 fdivI (gS 5) (kC (.int 1009))))) nxS)) (appS 2 (d2 modI (d2 fdivI (dA (argsF [(d2 addD (d2 mulI (gS 3) (kC (.int 16807))) (kC (.int 5)))]) intD) (kC (.int 3))) (kC (.int 65521)))))))) (seqS (forS (dAL (argsF [(gS 1)]) rng1D) (bN 6) (ifS (tB1 (d2 ltD (dA (argsF [(gB 2)]) lenD) (gS 1))) (seqS (setS 3 (d2 modI (dA (argsF [(d2 addD (d2 addD (d2 mulI (gS 3) (kC (.int 69621))) (gS 6)) (kC (.int 1)))]) intD) (kC (.int 2147483647)))) (appS 2 (d2 modI (d2 fdivI (dA (argsF [(gS 3)]) intD) (kC (.int 7))) (kC (.int 65521))))) nxS)) (retS (dSl slL (gB 2) noP (someP (gS 1))))))))
/-- _law_tree -/
def b_24 (c : Nat → List Sl → Re PyData) : Dl → RS := (seqS (setS 5 (dA (argsF [(gS 0)]) lenD)) (seqS (parS [6, 7] (argsM [(false, (dA (argsF [(d2 ixD (gS 0) (d2 modI (gS 1) (gS 5)))]) intD)), (false, (dA (argsF [(d2 ixD (gS 0) (d2 modI (d2 addD (gS 1) (kC (.int 1))) (gS 5)))]) intD))])) (seqS (setS 8 (lcD ([14]) (d1L itemsD (dA (argsF [(kC (.str "row")), (kC (.str "col")), (kC (.str "tabs"))]) tupD)) (bN 14) (tB1 (d2 neD (gS 14) (gS 3))) (gS 14))) (seqS (ifS (tOr2 (tB1 (d2 ltD (gS 2) (kC (.int 2)))) (tOr2 (tB1 (d2 ltD (dA (argsF [(gS 4)]) lenD) (kC (.int 2)))) (tB1 (d2 eqD (d2 modI (gS 6) (kC (.int 5))) (kC (.int 0)))))) (retS (dA (argsF [(kC (.str "win")), (d2 ixD (gS 4) (kC (.int 0)))]) tupD)) nxS) (seqS (setS 9 (d2 ixD (gS 8) (d2 modI (d2 fdivI (gS 6) (kC (.int 4))) (dA (argsF [(gS 8)]) lenD)))) (seqS (setS 10 (dA (argsF [(dA (argsF [(gS 4)]) lenD), (d2 addD (d2 addD (dA (argsF [(d2 neD (gS 9) (kC (.str "tabs")))]) intD) (kC (.int 1))) (d2 modI (gS 7) (kC (.int 3))))]) min2D)) (seqS (setO 11 (dA (argsF []) lstD)) (seqS (forS (dAL (argsF [(gS 10)]) rng1D) (bN 12) (seqS (setS 13 (dSl slA (gS 4) (someP (d2 fdivI (d2 mulI (gS 12) (dA (argsF [(gS 4)]) lenD)) (gS 10))) (someP (d2 fdivI (d2 mulI (d2 addD (gS 12) (kC (.int 1))) (dA (argsF [(gS 4)]) lenD)) (gS 10))))) (appS 11 (dA (argsF [(gS 0), (d2 addD (d2 addD (gS 1) (kC (.int 2))) (d2 mulI (kC (.int 5)) (gS 12))), (d2 subD (gS 2) (kC (.int 1))), (gS 9), (gS 13)]) (cD (c I__law_tree)))))) (seqS (ifS (tB1 (d2 eqD (gS 9) (kC (.str "tabs")))) (retS (dA (argsF [(kC (.str "tabs")), (d2 modI (d2 fdivI (gS 7) (kC (.int 8))) (gS 10)), (dA (argsF [(gB 11)]) tupOfD)]) tupD)) nxS) (retS (dA (argsF [(gS 9), (dA (argsF [(lcD ([12]) (dAL (argsF [(gS 10)]) rng1D) (bN 12) yesT (dA (argsF [(d2 addD (kC (.int 1)) (d2 modI (dA (argsF [(d2 ixD (gS 0) (d2 modI (d2 addD (d2 addD (gS 1) (kC (.int 3))) (gS 12)) (gS 5)))]) intD) (d2 ixD (dA (argsF [(kC (.int 3)), (kC (.int 12))]) lstD) (d2 modI (d2 fdivI (gS 7) (kC (.int 4))) (kC (.int 2)))))), (d2 ixD (gB 11) (gS 12))]) tupD))]) tupOfD)]) tupD)))))))))))
/-- _law_layout -/
def b_25 (c : Nat → List Sl → Re PyData) : Dl → RS := (seqS (setS 1 (dSl slA (dA (argsF [(kC (.str "a")), (kC (.str "bb")), (kC (.str "c")), (kC (.str "d")), (kC (.str "e")), (kC (.str "f")), (kC (.str "g")), (kC (.str "h"))]) lstD) noP (someP (d2 addD (kC (.int 1)) (d2 modI (dA (argsF [(d2 ixD (gS 0) (kC (.int 0)))]) intD) (kC (.int 8))))))) (retS (dA (argsF [(gS 0), (kC (.int 1)), (kC (.int 4)), (kC (.str "")), (gS 1)]) (cD (c I__law_tree)))))
/-- _law_inner -/
def b_26 (c : Nat → List Sl → Re PyData) : Dl → RS := (retS (dIf (tB1 (d2 eqD (d2 ixD (gS 0) (kC (.int 0))) (kC (.str "win")))) (dA (argsF []) lstD) (dIf (tB1 (d2 eqD (d2 ixD (gS 0) (kC (.int 0))) (kC (.str "tabs")))) (dA (argsF [(d2 ixD (gS 0) (kC (.int 2)))]) lstOfD) (lcD ([1]) (d1L itemsD (d2 ixD (gS 0) (kC (.int 1)))) (bN 1) yesT (d2 ixD (gS 1) (kC (.int 1)))))))
/-- _law_wins -/
def b_27 (c : Nat → List Sl → Re PyData) : Dl → RS := (seqS (setS 1 (dIf (tB1 (d2 eqD (d2 ixD (gS 0) (kC (.int 0))) (kC (.str "win")))) (dA (argsF [(d2 ixD (gS 0) (kC (.int 1)))]) lstD) (dA (argsF []) lstD))) (seqS (forS (d1L itemsD (dA (argsF [(gS 0)]) (cD (c I__law_inner)))) (bN 2) (setS 1 (d2 addD (gS 1) (dA (argsF [(gS 2)]) (cD (c I__law_wins)))))) (retS (gS 1))))
/-- _law_without -/
def b_28 (c : Nat → List Sl → Re PyData) : Dl → RS := (seqS (ifS (tB1 (d2 eqD (d2 ixD (gS 0) (kC (.int 0))) (kC (.str "win")))) (retS (dIf (tB1 (d2 inD (d2 ixD (gS 0) (kC (.int 1))) (gS 1))) (kC .none) (gS 0))) nxS) (seqS (setS 2 (lcD ([11]) (d1L itemsD (dA (argsF [(gS 0)]) (cD (c I__law_inner)))) (bN 11) yesT (dA (argsF [(gS 11), (gS 1)]) (cD (c I__law_without))))) (seqS (ifS (tB1 (d2 eqD (d2 ixD (gS 0) (kC (.int 0))) (kC (.str "tabs")))) (seqS (parS [3, 4] (argsM [(false, (dA (argsF []) lstD)), (false, (dA (argsF []) lstD))])) (seqS (forS (dAL (argsF [(dA (argsF [(gS 2)]) lenD)]) rng1D) (bN 5) (ifS (tB1 (d1 notND (d2 ixD (gS 2) (gS 5)))) (seqS (setS 6 (dIf (tB1 (d2 eqD (d2 ixD (d2 ixD (gS 2) (gS 5)) (kC (.int 0))) (kC (.str "tabs")))) (dA (argsF [(d2 ixD (d2 ixD (gS 2) (gS 5)) (kC (.int 2)))]) lstOfD) (dA (argsF [(d2 ixD (gS 2) (gS 5))]) lstD))) (seqS (setS 7 (d2 addD (dA (argsF [(gS 3)]) lenD) (dIf (tB1 (d2 eqD (d2 ixD (d2 ixD (gS 2) (gS 5)) (kC (.int 0))) (kC (.str "tabs")))) (d2 ixD (d2 ixD (gS 2) (gS 5)) (kC (.int 1))) (kC (.int 0))))) (parS [3, 4] (argsM [(false, (d2 addD (gS 3) (gS 6))), (false, (d2 addD (gS 4) (dA (argsF [(dA (argsF [(gS 5), (gS 7)]) tupD)]) lstD)))])))) nxS)) (seqS (setS 8 (lcD ([5, 7]) (d1L itemsD (gS 4)) (bT 2 (bCons (bN 5) (bCons (bN 7) bNil))) (tB1 (d2 geD (gS 5) (d2 ixD (gS 0) (kC (.int 1))))) (gS 7))) (retS (dIf (tB1 (d2 gtD (dA (argsF [(gS 3)]) lenD) (kC (.int 0)))) (dA (argsF [(kC (.str "tabs")), (dIf (tB1 (d2 gtD (dA (argsF [(gS 8)]) lenD) (kC (.int 0)))) (d2 ixD (gS 8) (kC (.int 0))) (d2 subD (dA (argsF [(gS 3)]) lenD) (kC (.int 1)))), (dA (argsF [(gS 3)]) tupAnyD)]) tupD) (kC .none)))))) nxS) (seqS (setS 9 (dA (argsF []) lstD)) (seqS (forS (dAL (argsF [(dA (argsF [(gS 2)]) lenD)]) rng1D) (bN 5) (ifS (tB1 (d1 notND (d2 ixD (gS 2) (gS 5)))) (seqS (setS 10 (d2 ixD (d2 ixD (d2 ixD (gS 0) (kC (.int 1))) (gS 5)) (kC (.int 0)))) (setS 9 (d2 addD (gS 9) (dIf (tB1 (d2 eqD (d2 ixD (d2 ixD (gS 2) (gS 5)) (kC (.int 0))) (d2 ixD (gS 0) (kC (.int 0))))) (lcD ([12]) (d1L itemsD (d2 ixD (d2 ixD (gS 2) (gS 5)) (kC (.int 1)))) (bN 12) yesT (dA (argsF [(gS 10), (d2 ixD (gS 12) (kC (.int 1)))]) tupD)) (dA (argsF [(dA (argsF [(gS 10), (d2 ixD (gS 2) (gS 5))]) tupD)]) lstD))))) nxS)) (retS (dIf (tB1 (d2 eqD (dA (argsF [(gS 9)]) lenD) (kC (.int 0)))) (kC .none) (dIf (tB1 (d2 eqD (dA (argsF [(gS 9)]) lenD) (kC (.int 1)))) (d2 ixD (d2 ixD (gS 9) (kC (.int 0))) (kC (.int 1))) (dA (argsF [(d2 ixD (gS 0) (kC (.int 0))), (dA (argsF [(gS 9)]) tupAnyD)]) tupD)))))))))
/-- _law_trees -/
def b_29 (c : Nat → List Sl → Re PyData) : Dl → RS := (seqS (parS [2, 3] (argsM [(false, (dA (argsF [(dA (argsF [(gS 1), (gS 0)]) tupD)]) lstD)), (false, (dA (argsF [(gS 0)]) (cD (c I__law_inner))))])) (seqS (forS (dAL (argsF [(dA (argsF [(gS 3)]) lenD)]) rng1D) (bN 4) (setS 2 (d2 addD (gS 2) (dA (argsF [(d2 ixD (gS 3) (gS 4)), (d2 addD (gS 1) (dA (argsF [(gS 4)]) tupD))]) (cD (c I__law_trees)))))) (retS (gS 2))))
/-- _law_common -/
def b_30 (c : Nat → List Sl → Re PyData) : Dl → RS := (seqS (setS 2 (dA (argsF [(lcD ([3, 4]) (d1L itemsD (dA (argsF [(gS 0), (dA (argsF []) tupD)]) (cD (c I__law_trees)))) (bT 2 (bCons (bN 3) (bCons (bN 4) bNil))) (tB1 (dA (argsF [(lcD ([5]) (d1L itemsD (gS 1)) (bN 5) yesT (d2 inD (gS 5) (dA (argsF [(gS 4)]) (cD (c I__law_wins)))))]) allD)) (dA (argsF [(dA (argsF [(gS 3)]) lenD), (gS 3)]) tupD))]) sortedA)) (retS (d2 ixD (d2 ixD (gS 2) (d1 negI (kC (.int 1)))) (kC (.int 1)))))
/-- _law_error -/
def b_31 (c : Nat → List Sl → Re PyData) : Dl → RS := (seqS (tryS (ifS (tB1 (d2 eqD (gS 0) (kC (.int 0)))) (dropS (dA (argsF [(gS 1), (gS 2)]) (cD (c I_without)))) (ifS (tB1 (d2 eqD (gS 0) (kC (.int 1)))) (dropS (dA (argsF [(gS 1), (gS 2)]) (cD (c I_common_tree)))) (dropS (dA (argsF [(gS 1), (gS 2), (gS 3)]) (cD (c I_together)))))) [([("BadLayout", true), ("BadNames", false), ("NoWindow", false)], (.str "layout")), ([("BadLayout", false), ("BadNames", true), ("NoWindow", false)], (.str "names")), ([("BadLayout", false), ("BadNames", false), ("NoWindow", true)], (.str "window"))]) (retS (kC (.str "none"))))
/-- law -/
def b_32 (c : Nat → List Sl → Re PyData) : Dl → RS := (seqS (setS 1 (dScr 0 (kC (.int 70)) (c I__law_draws))) (seqS (setS 2 (dA (argsF [(dSl slA (gS 1) noP (someP (kC (.int 45))))]) (cD (c I__law_layout)))) (seqS (setS 3 (dA (argsF [(gS 2)]) (cD (c I__law_wins)))) (seqS (ifS (tNot1 (tB1 (dA (argsF [(gS 2)]) (cD (c I_is_layout))))) (retS (kC (.bool false))) nxS) (seqS (forS (dAL (argsF [(kC (.int 10))]) rng1D) (bN 4) (seqS (setS 5 (dA (argsF [(d2 ixD (gS 1) (d2 addD (kC (.int 45)) (gS 4)))]) intD)) (seqS (setS 6 (dA (argsF [(dA (argsF [(d2 addD (lcD ([17]) (dAL (argsF [(dA (argsF [(gS 3)]) lenD)]) rng1D) (bN 17) (tB1 (d2 eqD (d2 modI (d2 fdivI (gS 5) (d2 ixD (dA (argsF [(kC (.int 1)), (kC (.int 2)), (kC (.int 4)), (kC (.int 8)), (kC (.int 16)), (kC (.int 32)), (kC (.int 64)), (kC (.int 128))]) lstD) (gS 17))) (kC (.int 2))) (kC (.int 1)))) (d2 ixD (gS 3) (gS 17))) (dIf (tB1 (d2 eqD (d2 modI (d2 fdivI (gS 5) (kC (.int 256))) (kC (.int 3))) (kC (.int 0)))) (dA (argsF [(kC (.str "zz")), (kC (.str "A b"))]) lstD) (dA (argsF []) lstD)))]) sortedA)]) tupOfD)) (seqS (setS 6 (dA (argsF [(dA (argsF [(gS 6)]) sortedA)]) tupOfD)) (seqS (setS 7 (dA (argsF [(gS 2), (gS 6)]) (cD (c I_without)))) (seqS (ifS (tOr2 (tB1 (d2 neD (gS 7) (dA (argsF [(gS 2), (gS 6)]) (cD (c I__law_without))))) (tB1 (d2 neD (d1 isND (gS 7)) (dA (argsF [(lcD ([16]) (d1L itemsD (gS 3)) (bN 16) yesT (d2 inD (gS 16) (gS 6)))]) allD)))) (retS (kC (.bool false))) nxS) (seqS (ifS (tB1 (d1 notND (gS 7))) (seqS (ifS (tOr2 (tB1 (d2 notBD (dA (argsF [(gS 7)]) (cD (c I_is_layout))) (kC (.bool true)))) (tB1 (d2 neD (dA (argsF [(gS 7)]) (cD (c I_windows_of))) (dA (argsF [(lcD ([16]) (d1L itemsD (gS 3)) (bN 16) (tB1 (d2 notInD (gS 16) (gS 6))) (gS 16))]) tupOfD)))) (retS (kC (.bool false))) nxS) (seqS (setS 8 (lcD ([16]) (d1L itemsD (dA (argsF [(gS 2)]) (cD (c I_shown_windows)))) (bN 16) (tB1 (d2 notInD (gS 16) (gS 6))) (gS 16))) (seqS (ifS (tNot1 (tB1 (dA (argsF [(lcD ([16]) (d1L itemsD (gS 8)) (bN 16) yesT (d2 inD (gS 16) (dA (argsF [(gS 7)]) (cD (c I_shown_windows)))))]) allD))) (retS (kC (.bool false))) nxS) (seqS (setS 9 (dIf (tB1 (d2 gtD (dA (argsF [(gS 6)]) lenD) (kC (.int 0)))) (dA (argsF [(gS 7), (dSl slA (gS 6) noP (someP (kC (.int 1))))]) (cD (c I_without))) (gS 7))) (ifS (tOr2 (tB1 (d2 neD (gS 9) (gS 7))) (tB1 (d1 isND (dA (argsF [(dA (argsF [(gS 2), (dSl slA (gS 6) noP (someP (kC (.int 1))))]) (cD (c I_without))), (dSl slA (gS 6) (someP (kC (.int 1))) noP)]) (cD (c I_without)))))) (retS (kC (.bool false))) nxS))))) nxS) (seqS (setS 10 (dA (argsF [(lcD ([16]) (d1L itemsD (dA (argsF [(gS 3)]) sortedA)) (bN 16) (tB1 (d2 inD (gS 16) (gS 6))) (gS 16))]) tupOfD)) (seqS (ifS (tB1 (d2 gtD (dA (argsF [(gS 10)]) lenD) (kC (.int 0)))) (seqS (setS 11 (dA (argsF [(gS 2), (gS 10)]) (cD (c I__law_common)))) (ifS (tB1 (d2 neD (dA (argsF [(gS 2), (gS 10)]) (cD (c I_common_tree))) (gS 11))) (retS (kC (.bool false))) nxS)) nxS) (seqS (parS [12, 13] (argsM [(false, (d2 ixD (gS 3) (d2 modI (gS 5) (dA (argsF [(gS 3)]) lenD)))), (false, (d2 ixD (gS 3) (d2 modI (d2 fdivI (gS 5) (kC (.int 16))) (dA (argsF [(gS 3)]) lenD))))])) (ifS (tB1 (d2 neD (gS 12) (gS 13))) (seqS (setS 14 (d2 ixD (d2 ixD (lcD ([11, 18]) (d1L itemsD (dA (argsF [(gS 2), (dA (argsF []) tupD)]) (cD (c I__law_trees)))) (bT 2 (bCons (bN 11) (bCons (bN 18) bNil))) (tB1 (d2 eqD (gS 11) (dA (argsF [(gS 2), (dA (argsF [(gS 12), (gS 13)]) lstD)]) (cD (c I__law_common))))) (gS 18)) (kC (.int 0))) (kC (.int 0)))) (ifS (tOr2 (tB1 (d2 neD (dA (argsF [(gS 2), (gS 12), (gS 13)]) (cD (c I_together))) (gS 14))) (tB1 (d2 neD (dA (argsF [(gS 2), (gS 13), (gS 12)]) (cD (c I_together))) (gS 14)))) (retS (kC (.bool false))) nxS)) (ifS (tB1 (d2 neD (dA (argsF [(kC (.int 2)), (gS 2), (gS 12), (gS 13)]) (cD (c I__law_error))) (kC (.str "names")))) (retS (kC (.bool false))) nxS)))))))))))) (seqS (ifS (tOr2 (tB1 (d2 neD (dA (argsF [(gS 2), (dA (argsF []) tupD)]) (cD (c I_without))) (gS 2))) (tB1 (d1 notND (dA (argsF [(gS 2), (dA (argsF [(dA (argsF [(gS 3)]) sortedA)]) tupOfD)]) (cD (c I_without)))))) (retS (kC (.bool false))) nxS) (seqS (forS (d1L itemsD (dA (argsF [(kC .none), (dA (argsF []) lstD), (dA (argsF [(kC (.str "win")), (kC (.str "A"))]) tupD), (dA (argsF [(kC (.str "row")), (dA (argsF []) tupD)]) tupD)]) tupD)) (bN 15) (ifS (tB1 (d2 neD (dA (argsF [(dA (argsF [(kC (.int 0)), (gS 15), (dA (argsF []) tupD), (kC .none)]) (cD (c I__law_error))), (dA (argsF [(kC (.int 1)), (gS 15), (dA (argsF [(kC (.str "a"))]) tupD), (kC .none)]) (cD (c I__law_error))), (dA (argsF [(kC (.int 2)), (gS 15), (kC (.str "a")), (kC (.str "bb"))]) (cD (c I__law_error)))]) lstD) (d2 repL (dA (argsF [(kC (.str "layout"))]) lstD) (kC (.int 3))))) (retS (kC (.bool false))) nxS)) (seqS (ifS (tB1 (d2 neD (lcD ([15]) (d1L itemsD (dA (argsF [(kC .none), (dA (argsF [(kC (.str "a"))]) lstD), (dA (argsF [(kC (.str "b")), (kC (.str "a"))]) tupD), (dA (argsF [(kC (.str "a")), (kC (.str "a"))]) tupD), (dA (argsF [(kC (.int 5))]) tupD)]) tupD)) (bN 15) yesT (dA (argsF [(kC (.int 0)), (gS 2), (gS 15), (kC .none)]) (cD (c I__law_error)))) (d2 repL (dA (argsF [(kC (.str "names"))]) lstD) (kC (.int 5))))) (retS (kC (.bool false))) nxS) (seqS (ifS (tB1 (d2 neD (lcD ([15]) (d1L itemsD (dA (argsF [(kC .none), (dA (argsF []) tupD), (dA (argsF [(kC (.str "a"))]) lstD), (dA (argsF [(kC (.str "zz"))]) tupD), (dA (argsF [(kC (.str "a")), (kC (.str "zz"))]) tupD), (dA (argsF [(kC (.int 5))]) tupD)]) tupD)) (bN 15) yesT (dA (argsF [(kC (.int 1)), (gS 2), (gS 15), (kC .none)]) (cD (c I__law_error)))) (d2 repL (dA (argsF [(kC (.str "names"))]) lstD) (kC (.int 6))))) (retS (kC (.bool false))) nxS) (retS (dAnd (d2 eqD (lcD ([15]) (d1L itemsD (dA (argsF [(kC .none), (kC (.str "zz")), (kC (.int 5)), (kC (.str ""))]) tupD)) (bN 15) yesT (dA (argsF [(kC (.int 2)), (gS 2), (gS 15), (d2 ixD (gS 3) (kC (.int 0)))]) (cD (c I__law_error)))) (d2 repL (dA (argsF [(kC (.str "window"))]) lstD) (kC (.int 4)))) (d2 eqD (lcD ([15]) (d1L itemsD (dA (argsF [(kC .none), (kC (.str "zz")), (kC (.int 5))]) tupD)) (bN 15) yesT (dA (argsF [(kC (.int 2)), (gS 2), (d2 ixD (gS 3) (kC (.int 0))), (gS 15)]) (cD (c I__law_error)))) (d2 repL (dA (argsF [(kC (.str "window"))]) lstD) (kC (.int 3)))))))))))))))
/-- the defs, by their places; by the room that is left for calls -/
def den : Nat → Nat → List Sl → Re PyData
  | 0, _ => fun _ => .no
  | k + 1, i => match i with
    | 0 => fnR (b_0 (den k)) 0
    | 1 => fnR (b_1 (den k)) 2
    | 2 => fnR (b_2 (den k)) 1
    | 3 => fnR (b_3 (den k)) 0
    | 4 => fnR (b_4 (den k)) 1
    | 5 => fnR (b_5 (den k)) 1
    | 6 => fnR (b_6 (den k)) 2
    | 7 => fnR (b_7 (den k)) 2
    | 8 => fnR (b_8 (den k)) 0
    | 9 => fnR (b_9 (den k)) 0
    | 10 => fnR (b_10 (den k)) 3
    | 11 => fnR (b_11 (den k)) 0
    | 12 => fnR (b_12 (den k)) 4
    | 13 => fnR (b_13 (den k)) 1
    | 14 => fnR (b_14 (den k)) 1
    | 15 => fnR (b_15 (den k)) 6
    | 16 => fnR (b_16 (den k)) 4
    | 17 => fnR (b_17 (den k)) 4
    | 18 => fnR (b_18 (den k)) 0
    | 19 => fnR (b_19 (den k)) 2
    | 20 => fnR (b_20 (den k)) 1
    | 21 => fnR (b_21 (den k)) 0
    | 22 => fnR (b_22 (den k)) 1
    | 23 => fnR (b_23 (den k)) 5
    | 24 => fnR (b_24 (den k)) 10
    | 25 => fnR (b_25 (den k)) 1
    | 26 => fnR (b_26 (den k)) 1
    | 27 => fnR (b_27 (den k)) 2
    | 28 => fnR (b_28 (den k)) 11
    | 29 => fnR (b_29 (den k)) 3
    | 30 => fnR (b_30 (den k)) 4
    | 31 => fnR (b_31 (den k)) 0
    | 32 => fnR (b_32 (den k)) 18
    | _ => fun _ => .no
theorem den_is_whole (k : Nat) (δ : List Sl) : den (k + 1) I_is_whole δ = outR (b_0 (den k) (δ ++ List.replicate 0 .no)) := rfl
theorem den_ascends (k : Nat) (δ : List Sl) : den (k + 1) I_ascends δ = outR (b_1 (den k) (δ ++ List.replicate 2 .no)) := rfl
theorem den_is_name (k : Nat) (δ : List Sl) : den (k + 1) I_is_name δ = outR (b_2 (den k) (δ ++ List.replicate 1 .no)) := rfl
theorem den__is_part (k : Nat) (δ : List Sl) : den (k + 1) I__is_part δ = outR (b_3 (den k) (δ ++ List.replicate 0 .no)) := rfl
theorem den__is_tree (k : Nat) (δ : List Sl) : den (k + 1) I__is_tree δ = outR (b_4 (den k) (δ ++ List.replicate 1 .no)) := rfl
theorem den_inner_trees (k : Nat) (δ : List Sl) : den (k + 1) I_inner_trees δ = outR (b_5 (den k) (δ ++ List.replicate 1 .no)) := rfl
theorem den_names_of (k : Nat) (δ : List Sl) : den (k + 1) I_names_of δ = outR (b_6 (den k) (δ ++ List.replicate 2 .no)) := rfl
theorem den_is_layout (k : Nat) (δ : List Sl) : den (k + 1) I_is_layout δ = outR (b_7 (den k) (δ ++ List.replicate 2 .no)) := rfl
theorem den_check_layout (k : Nat) (δ : List Sl) : den (k + 1) I_check_layout δ = outR (b_8 (den k) (δ ++ List.replicate 0 .no)) := rfl
theorem den_windows_of (k : Nat) (δ : List Sl) : den (k + 1) I_windows_of δ = outR (b_9 (den k) (δ ++ List.replicate 0 .no)) := rfl
theorem den_shown_names (k : Nat) (δ : List Sl) : den (k + 1) I_shown_names δ = outR (b_10 (den k) (δ ++ List.replicate 3 .no)) := rfl
theorem den_shown_windows (k : Nat) (δ : List Sl) : den (k + 1) I_shown_windows δ = outR (b_11 (den k) (δ ++ List.replicate 0 .no)) := rfl
theorem den_all_places (k : Nat) (δ : List Sl) : den (k + 1) I_all_places δ = outR (b_12 (den k) (δ ++ List.replicate 4 .no)) := rfl
theorem den_tree_in (k : Nat) (δ : List Sl) : den (k + 1) I_tree_in δ = outR (b_13 (den k) (δ ++ List.replicate 1 .no)) := rfl
theorem den_check_names (k : Nat) (δ : List Sl) : den (k + 1) I_check_names δ = outR (b_14 (den k) (δ ++ List.replicate 1 .no)) := rfl
theorem den__left_tabs (k : Nat) (δ : List Sl) : den (k + 1) I__left_tabs δ = outR (b_15 (den k) (δ ++ List.replicate 6 .no)) := rfl
theorem den_left_of (k : Nat) (δ : List Sl) : den (k + 1) I_left_of δ = outR (b_16 (den k) (δ ++ List.replicate 4 .no)) := rfl
theorem den_gathered (k : Nat) (δ : List Sl) : den (k + 1) I_gathered δ = outR (b_17 (den k) (δ ++ List.replicate 4 .no)) := rfl
theorem den_without (k : Nat) (δ : List Sl) : den (k + 1) I_without δ = outR (b_18 (den k) (δ ++ List.replicate 0 .no)) := rfl
theorem den__holds (k : Nat) (δ : List Sl) : den (k + 1) I__holds δ = outR (b_19 (den k) (δ ++ List.replicate 2 .no)) := rfl
theorem den__common (k : Nat) (δ : List Sl) : den (k + 1) I__common δ = outR (b_20 (den k) (δ ++ List.replicate 1 .no)) := rfl
theorem den_common_tree (k : Nat) (δ : List Sl) : den (k + 1) I_common_tree δ = outR (b_21 (den k) (δ ++ List.replicate 0 .no)) := rfl
theorem den_together (k : Nat) (δ : List Sl) : den (k + 1) I_together δ = outR (b_22 (den k) (δ ++ List.replicate 1 .no)) := rfl
theorem den__law_draws (k : Nat) (δ : List Sl) : den (k + 1) I__law_draws δ = outR (b_23 (den k) (δ ++ List.replicate 5 .no)) := rfl
theorem den__law_tree (k : Nat) (δ : List Sl) : den (k + 1) I__law_tree δ = outR (b_24 (den k) (δ ++ List.replicate 10 .no)) := rfl
theorem den__law_layout (k : Nat) (δ : List Sl) : den (k + 1) I__law_layout δ = outR (b_25 (den k) (δ ++ List.replicate 1 .no)) := rfl
theorem den__law_inner (k : Nat) (δ : List Sl) : den (k + 1) I__law_inner δ = outR (b_26 (den k) (δ ++ List.replicate 1 .no)) := rfl
theorem den__law_wins (k : Nat) (δ : List Sl) : den (k + 1) I__law_wins δ = outR (b_27 (den k) (δ ++ List.replicate 2 .no)) := rfl
theorem den__law_without (k : Nat) (δ : List Sl) : den (k + 1) I__law_without δ = outR (b_28 (den k) (δ ++ List.replicate 11 .no)) := rfl
theorem den__law_trees (k : Nat) (δ : List Sl) : den (k + 1) I__law_trees δ = outR (b_29 (den k) (δ ++ List.replicate 3 .no)) := rfl
theorem den__law_common (k : Nat) (δ : List Sl) : den (k + 1) I__law_common δ = outR (b_30 (den k) (δ ++ List.replicate 4 .no)) := rfl
theorem den__law_error (k : Nat) (δ : List Sl) : den (k + 1) I__law_error δ = outR (b_31 (den k) (δ ++ List.replicate 0 .no)) := rfl
theorem den_law (k : Nat) (δ : List Sl) : den (k + 1) I_law δ = outR (b_32 (den k) (δ ++ List.replicate 18 .no)) := rfl
end KL
end
section
open PySem PySem.Spec PyProof.Rows L2 VS
namespace KL
/-- what the written part says -/
structure Fx (K : PySem.W.Frag) (mg : Str → Option Value) : Prop where
  b_abs : mg "abs" = none
  b_all : mg "all" = none
  b_bool : mg "bool" = none
  b_enumerate : mg "enumerate" = none
  b_int : mg "int" = none
  b_isinstance : mg "isinstance" = none
  b_len : mg "len" = none
  b_list : mg "list" = none
  b_max : mg "max" = none
  b_min : mg "min" = none
  b_range : mg "range" = none
  b_sorted : mg "sorted" = none
  b_str : mg "str" = none
  b_tuple : mg "tuple" = none
  b_zip : mg "zip" = none
  s_COL : ∃ t, mg "COL" = some (.str "col" t)
  s_LETTERS : ∃ t, mg "LETTERS" = some (.str "abcdefghijklmnopqrstuvwxyz" t)
  i_MOST_DEPTH : ∃ t, mg "MOST_DEPTH" = some (.int 8 t)
  i_MOST_SIGNS : ∃ t, mg "MOST_SIGNS" = some (.int 8 t)
  i_MOST_WEIGHT : ∃ t, mg "MOST_WEIGHT" = some (.int 12 t)
  i_MOST_WINDOWS : ∃ t, mg "MOST_WINDOWS" = some (.int 16 t)
  s_ROW : ∃ t, mg "ROW" = some (.str "row" t)
  s_TABS : ∃ t, mg "TABS" = some (.str "tabs" t)
  s_WIN : ∃ t, mg "WIN" = some (.str "win" t)
  g_BadLayout : mg "BadLayout" = some (.ref (He.ga K "BadLayout"))
  g_BadNames : mg "BadNames" = some (.ref (He.ga K "BadNames"))
  g_NoWindow : mg "NoWindow" = some (.ref (He.ga K "NoWindow"))
  e_BadLayout : ExcF K mg "BadLayout"
  e_BadNames : ExcF K mg "BadNames"
  e_NoWindow : ExcF K mg "NoWindow"
  m_BadLayout_BadLayout : PySem.W.exmOne K (.ref (He.ga K "BadLayout")) (.ref (He.ga K "BadLayout")) = some true
  m_BadLayout_BadNames : PySem.W.exmOne K (.ref (He.ga K "BadLayout")) (.ref (He.ga K "BadNames")) = some false
  m_BadLayout_NoWindow : PySem.W.exmOne K (.ref (He.ga K "BadLayout")) (.ref (He.ga K "NoWindow")) = some false
  m_BadNames_BadLayout : PySem.W.exmOne K (.ref (He.ga K "BadNames")) (.ref (He.ga K "BadLayout")) = some false
  m_BadNames_BadNames : PySem.W.exmOne K (.ref (He.ga K "BadNames")) (.ref (He.ga K "BadNames")) = some true
  m_BadNames_NoWindow : PySem.W.exmOne K (.ref (He.ga K "BadNames")) (.ref (He.ga K "NoWindow")) = some false
  m_NoWindow_BadLayout : PySem.W.exmOne K (.ref (He.ga K "NoWindow")) (.ref (He.ga K "BadLayout")) = some false
  m_NoWindow_BadNames : PySem.W.exmOne K (.ref (He.ga K "NoWindow")) (.ref (He.ga K "BadNames")) = some false
  m_NoWindow_NoWindow : PySem.W.exmOne K (.ref (He.ga K "NoWindow")) (.ref (He.ga K "NoWindow")) = some true
/-- the defs that are called -/
structure En (P : Program) (w : World) (K : PySem.W.Frag) (mg : Str → Option Value) (base : Heap) (k : Nat) (c : Nat → List Sl → Re PyData) : Prop where
  f__common : FnE P w K mg base k "_common" 2 (c 20)
  f__holds : FnE P w K mg base k "_holds" 2 (c 19)
  f__is_part : FnE P w K mg base k "_is_part" 3 (c 3)
  f__is_tree : FnE P w K mg base k "_is_tree" 2 (c 4)
  f__law_common : FnE P w K mg base k "_law_common" 2 (c 30)
  f__law_draws : FnE P w K mg base k "_law_draws" 2 (c 23)
  f__law_error : FnE P w K mg base k "_law_error" 4 (c 31)
  f__law_inner : FnE P w K mg base k "_law_inner" 1 (c 26)
  f__law_layout : FnE P w K mg base k "_law_layout" 1 (c 25)
  f__law_tree : FnE P w K mg base k "_law_tree" 5 (c 24)
  f__law_trees : FnE P w K mg base k "_law_trees" 2 (c 29)
  f__law_wins : FnE P w K mg base k "_law_wins" 1 (c 27)
  f__law_without : FnE P w K mg base k "_law_without" 2 (c 28)
  f__left_tabs : FnE P w K mg base k "_left_tabs" 2 (c 15)
  f_all_places : FnE P w K mg base k "all_places" 1 (c 12)
  f_ascends : FnE P w K mg base k "ascends" 1 (c 1)
  f_check_layout : FnE P w K mg base k "check_layout" 1 (c 8)
  f_check_names : FnE P w K mg base k "check_names" 1 (c 14)
  f_common_tree : FnE P w K mg base k "common_tree" 2 (c 21)
  f_gathered : FnE P w K mg base k "gathered" 2 (c 17)
  f_inner_trees : FnE P w K mg base k "inner_trees" 1 (c 5)
  f_is_layout : FnE P w K mg base k "is_layout" 1 (c 7)
  f_is_name : FnE P w K mg base k "is_name" 1 (c 2)
  f_is_whole : FnE P w K mg base k "is_whole" 3 (c 0)
  f_left_of : FnE P w K mg base k "left_of" 2 (c 16)
  f_names_of : FnE P w K mg base k "names_of" 1 (c 6)
  f_shown_names : FnE P w K mg base k "shown_names" 1 (c 10)
  f_shown_windows : FnE P w K mg base k "shown_windows" 1 (c 11)
  f_together : FnE P w K mg base k "together" 3 (c 22)
  f_tree_in : FnE P w K mg base k "tree_in" 2 (c 13)
  f_windows_of : FnE P w K mg base k "windows_of" 1 (c 9)
  f_without : FnE P w K mg base k "without" 2 (c 18)
abbrev top (i : Nat) : Stmt := PySem.Challenge.pw_windowwright_k70_whole_closing.main.body.getD i (.Pass ⟨0, 0, 0, 0⟩)
section
variable {P : Program} {w : World} {K : PySem.W.Frag} {mg : Str → Option Value} {base : Heap} {k : Nat} {c : Nat → List Sl → Re PyData}
theorem sc_0 : FnScope ["value", "least", "most"] ["value", "least", "most"] (defScope (top 15)) := ⟨rfl, rfl, rfl, by decide +kernel, rfl, by decide +kernel, by decide +kernel⟩
theorem w_0 (fx : Fx K mg) (E : En P w K mg base k c) (f : Addr) (cdv : Value) (A : Around) (outer : List Env) (s : Shared) (H : Hp) (Ex : XK) (W : XW) (hr : Room k (A.deeper (envOfC "is_whole" (defScope (top 15)) s.heap.objs.size f cdv)))
    (tk : XOk (cxOf (L2.CX P w) P w K mg base ["value", "least", "most"] "is_whole" (defScope (top 15)) f cdv A outer s H Ex) W) : VSs (cxOf (L2.CX P w) P w K mg base ["value", "least", "most"] "is_whole" (defScope (top 15)) f cdv A outer s H Ex) W (defBody (top 15)) (b_0 c) := by
  have hu : (A.deeper (envOfC "is_whole" (defScope (top 15)) s.heap.objs.size f cdv)).units + 64 < cLine := hr.units
  have nd : (["value", "least", "most"] : List Str).Nodup := sc_0.nd
  exact (vss_one (vs_ret (ve_and (ve_isi .tInt (VE.b (ve_var 0 (pv 0))) rfl fx.b_isinstance rfl fx.b_int (by decide +kernel)) (ve_and (ve_not (ve_isi .tBool (VE.b (ve_var 0 (pv 0))) rfl fx.b_isinstance rfl fx.b_bool (by decide +kernel))) (ve_one (ve_chain (c_le hu) (c_le hu) (VE.b (ve_var 1 (pv 1))) (VE.b (ve_var 0 (pv 0))) (VE.b (ve_var 2 (pv 2)))))))))
theorem sc_1 : FnScope ["values", "one", "later"] ["values"] (defScope (top 16)) := ⟨rfl, rfl, rfl, by decide +kernel, rfl, by decide +kernel, by decide +kernel⟩
theorem w_1 (fx : Fx K mg) (E : En P w K mg base k c) (f : Addr) (cdv : Value) (A : Around) (outer : List Env) (s : Shared) (H : Hp) (Ex : XK) (W : XW) (hr : Room k (A.deeper (envOfC "ascends" (defScope (top 16)) s.heap.objs.size f cdv)))
    (tk : XOk (cxOf (L2.CX P w) P w K mg base ["values", "one", "later"] "ascends" (defScope (top 16)) f cdv A outer s H Ex) W) : VSs (cxOf (L2.CX P w) P w K mg base ["values", "one", "later"] "ascends" (defScope (top 16)) f cdv A outer s H Ex) W (defBody (top 16)) (b_1 c) := by
  have hu : (A.deeper (envOfC "ascends" (defScope (top 16)) s.heap.objs.size f cdv)).units + 64 < cLine := hr.units
  have nd : (["values", "one", "later"] : List Str).Nodup := sc_1.nd
  exact (vss_one (vs_ret (ve_all rfl rfl fx.b_all (va_cons kB (vp_lc (own := [("one", 1), ("later", 2)]) pB_own rfl nd (vi_zip rfl fx.b_zip (va_cons kS (ve_var 0 (pv 0)) (va_cons kS (ve_sl (ve_var 0 (pv 0)) (vpt_some ve_int) vpt_no) va_nil))) (blkOk_by (by kernel_rfl)) (fun _ _ _ _ _ => (vg_tup rfl (vgs_cons (vg_name nd rfl (by first | exact .inl rfl | exact .inr rfl)) (vgs_cons (vg_name nd rfl (by first | exact .inl rfl | exact .inr rfl)) vgs_nil)))) (fun _ _ _ _ _ => vts_nil) (fun _ _ _ _ _ => (ve_cmp (c_lt hu) (VE.b (ve_var 1 (pv 1))) (VE.b (ve_var 2 (pv 2))) rfl)) (by decide)) va_nil))))
theorem sc_2 : FnScope ["value", "sign"] ["value"] (defScope (top 17)) := ⟨rfl, rfl, rfl, by decide +kernel, rfl, by decide +kernel, by decide +kernel⟩
theorem w_2 (fx : Fx K mg) (E : En P w K mg base k c) (f : Addr) (cdv : Value) (A : Around) (outer : List Env) (s : Shared) (H : Hp) (Ex : XK) (W : XW) (hr : Room k (A.deeper (envOfC "is_name" (defScope (top 17)) s.heap.objs.size f cdv)))
    (tk : XOk (cxOf (L2.CX P w) P w K mg base ["value", "sign"] "is_name" (defScope (top 17)) f cdv A outer s H Ex) W) : VSs (cxOf (L2.CX P w) P w K mg base ["value", "sign"] "is_name" (defScope (top 17)) f cdv A outer s H Ex) W (defBody (top 17)) (b_2 c) := by
  have hu : (A.deeper (envOfC "is_name" (defScope (top 17)) s.heap.objs.size f cdv)).units + 64 < cLine := hr.units
  have nd : (["value", "sign"] : List Str).Nodup := sc_2.nd
  exact (vss_one (vs_ret (ve_and (ve_isi .tStr (VE.b (ve_var 0 (pv 0))) rfl fx.b_isinstance rfl fx.b_str (by decide +kernel)) (ve_and (ve_chain (c_le hu) (c_le hu) (VE.b ve_int) (VE.b (ve_len  rfl fx.b_len (va_cons kB (VE.b (ve_var 0 (pv 0))) va_nil))) (VE.b (ve_gint rfl fx.i_MOST_SIGNS))) (ve_one (ve_all rfl rfl fx.b_all (va_cons kB (vp_lc (own := [("sign", 1)]) pB_own rfl nd (vi_any (ve_var 0 (pv 0))) (blkOk_by (by kernel_rfl)) (fun _ _ _ _ _ => (vg_name nd rfl (by first | exact .inl rfl | exact .inr rfl))) (fun _ _ _ _ _ => vts_nil) (fun _ _ _ _ _ => (ve_in hu (ve_var 1 (pv 1)) (VE.b (ve_gstr rfl fx.s_LETTERS)) rfl)) (by decide)) va_nil)))))))
theorem sc_3 : FnScope ["value", "kind", "room"] ["value", "kind", "room"] (defScope (top 18)) := ⟨rfl, rfl, rfl, by decide +kernel, rfl, by decide +kernel, by decide +kernel⟩
theorem w_3 (fx : Fx K mg) (E : En P w K mg base k c) (f : Addr) (cdv : Value) (A : Around) (outer : List Env) (s : Shared) (H : Hp) (Ex : XK) (W : XW) (hr : Room k (A.deeper (envOfC "_is_part" (defScope (top 18)) s.heap.objs.size f cdv)))
    (tk : XOk (cxOf (L2.CX P w) P w K mg base ["value", "kind", "room"] "_is_part" (defScope (top 18)) f cdv A outer s H Ex) W) : VSs (cxOf (L2.CX P w) P w K mg base ["value", "kind", "room"] "_is_part" (defScope (top 18)) f cdv A outer s H Ex) W (defBody (top 18)) (b_3 c) := by
  have hu : (A.deeper (envOfC "_is_part" (defScope (top 18)) s.heap.objs.size f cdv)).units + 64 < cLine := hr.units
  have nd : (["value", "kind", "room"] : List Str).Nodup := sc_3.nd
  exact (vss_cons (vs_if (vt_w (vw_or (vt_not (vt_val (ve_isi .tTuple (VE.b (ve_var 0 (pv 0))) rfl fx.b_isinstance rfl fx.b_tuple (by decide +kernel)) (by intro _; rfl))) (vw_or (vt_cmp (c_ne hu) (VE.b (ve_len  rfl fx.b_len (va_cons kB (VE.b (ve_var 0 (pv 0))) va_nil))) (VE.b ve_int) rfl) (vw_or1 (vt_not (vt_val (ve_call E.f_is_whole hr tk rfl (va_cons kS (ve_ix (hu1 hu) (VE.b (ve_var 0 (pv 0))) ve_int (fun _ _ => rfl)) (va_cons kS ve_int (va_cons kS (ve_gint rfl fx.i_MOST_WEIGHT) va_nil)))) (by intro _; rfl))))))) (vss_one (vs_ret ve_bl)) vss_nil) (vss_one (vs_ret (ve_and (ve_call E.f__is_tree hr tk rfl (va_cons kS (ve_ix (hu1 hu) (VE.b (ve_var 0 (pv 0))) ve_int (fun _ _ => rfl)) (va_cons kS (ve_var 2 (pv 2)) va_nil))) (ve_one (ve_cmp (c_ne hu) (VE.b (ve_ix (hu1 hu) (VE.b (ve_ix (hu1 hu) (VE.b (ve_var 0 (pv 0))) ve_int (fun _ _ => rfl))) ve_int (fun _ _ => rfl))) (VE.b (ve_var 1 (pv 1))) rfl))))))
theorem sc_4 : FnScope ["value", "room", "one"] ["value", "room"] (defScope (top 19)) := ⟨rfl, rfl, rfl, by decide +kernel, rfl, by decide +kernel, by decide +kernel⟩
theorem w_4 (fx : Fx K mg) (E : En P w K mg base k c) (f : Addr) (cdv : Value) (A : Around) (outer : List Env) (s : Shared) (H : Hp) (Ex : XK) (W : XW) (hr : Room k (A.deeper (envOfC "_is_tree" (defScope (top 19)) s.heap.objs.size f cdv)))
    (tk : XOk (cxOf (L2.CX P w) P w K mg base ["value", "room", "one"] "_is_tree" (defScope (top 19)) f cdv A outer s H Ex) W) : VSs (cxOf (L2.CX P w) P w K mg base ["value", "room", "one"] "_is_tree" (defScope (top 19)) f cdv A outer s H Ex) W (defBody (top 19)) (b_4 c) := by
  have hu : (A.deeper (envOfC "_is_tree" (defScope (top 19)) s.heap.objs.size f cdv)).units + 64 < cLine := hr.units
  have nd : (["value", "room", "one"] : List Str).Nodup := sc_4.nd
  exact (vss_cons (vs_if (vt_w (vw_or (vt_cmp (c_eq hu) (VE.b (ve_var 1 (pv 1))) (VE.b ve_int) rfl) (vw_or (vt_not (vt_val (ve_isi .tTuple (VE.b (ve_var 0 (pv 0))) rfl fx.b_isinstance rfl fx.b_tuple (by decide +kernel)) (by intro _; rfl))) (vw_or (vt_cmp (c_lt hu) (VE.b (ve_len  rfl fx.b_len (va_cons kB (VE.b (ve_var 0 (pv 0))) va_nil))) (VE.b ve_int) rfl) (vw_or1 (vt_not (vt_val (ve_isi .tStr (VE.b (ve_ix (hu1 hu) (VE.b (ve_var 0 (pv 0))) ve_int (fun _ _ => rfl))) rfl fx.b_isinstance rfl fx.b_str (by decide +kernel)) (by intro _; rfl)))))))) (vss_one (vs_ret ve_bl)) vss_nil) (vss_cons (vs_if (vt_cmp (c_eq hu) (VE.b (ve_ix (hu1 hu) (VE.b (ve_var 0 (pv 0))) ve_int (fun _ _ => rfl))) (VE.b (ve_gstr rfl fx.s_WIN)) rfl) (vss_one (vs_ret (ve_and (ve_cmp (c_eq hu) (VE.b (ve_len  rfl fx.b_len (va_cons kB (VE.b (ve_var 0 (pv 0))) va_nil))) (VE.b ve_int) rfl) (ve_one (ve_call E.f_is_name hr tk rfl (va_cons kS (ve_ix (hu1 hu) (VE.b (ve_var 0 (pv 0))) ve_int (fun _ _ => rfl)) va_nil)))))) vss_nil) (vss_cons (vs_if (vt_in hu (ve_ix (hu1 hu) (VE.b (ve_var 0 (pv 0))) ve_int (fun _ _ => rfl)) (VE.b (ve_tup (va_cons kS (ve_gstr rfl fx.s_ROW) (va_cons kS (ve_gstr rfl fx.s_COL) va_nil)))) rfl) (vss_cons (vs_if (vt_w (vw_or (vt_cmp (c_ne hu) (VE.b (ve_len  rfl fx.b_len (va_cons kB (VE.b (ve_var 0 (pv 0))) va_nil))) (VE.b ve_int) rfl) (vw_or (vt_not (vt_val (ve_isi .tTuple (VE.b (ve_ix (hu1 hu) (VE.b (ve_var 0 (pv 0))) ve_int (fun _ _ => rfl))) rfl fx.b_isinstance rfl fx.b_tuple (by decide +kernel)) (by intro _; rfl))) (vw_or1 (vt_cmp (c_lt hu) (VE.b (ve_len  rfl fx.b_len (va_cons kB (VE.b (ve_ix (hu1 hu) (VE.b (ve_var 0 (pv 0))) ve_int (fun _ _ => rfl))) va_nil))) (VE.b ve_int) rfl))))) (vss_one (vs_ret ve_bl)) vss_nil) (vss_one (vs_ret (ve_all rfl rfl fx.b_all (va_cons kB (vp_lc (own := [("one", 2)]) pB_own rfl nd (vi_any (ve_ix (hu1 hu) (VE.b (ve_var 0 (pv 0))) ve_int (fun _ _ => rfl))) (blkOk_by (by kernel_rfl)) (fun _ _ _ _ _ => (vg_name nd rfl (by first | exact .inl rfl | exact .inr rfl))) (fun _ _ _ _ _ => vts_nil) (fun _ _ _ _ _ => (ve_call E.f__is_part hr xok0 rfl (va_cons kS (ve_var 2 (pv 2)) (va_cons kS (ve_ix (hu1 hu) (VE.b (ve_var 0 (pv 0))) ve_int (fun _ _ => rfl)) (va_cons kS (ve_sub (VE.b (ve_var 1 (pv 1))) (VE.b ve_int)) va_nil))))) (by decide)) va_nil))))) vss_nil) (vss_cons (vs_if (vt_w (vw_or (vt_cmp (c_ne hu) (VE.b (ve_ix (hu1 hu) (VE.b (ve_var 0 (pv 0))) ve_int (fun _ _ => rfl))) (VE.b (ve_gstr rfl fx.s_TABS)) rfl) (vw_or (vt_cmp (c_ne hu) (VE.b (ve_len  rfl fx.b_len (va_cons kB (VE.b (ve_var 0 (pv 0))) va_nil))) (VE.b ve_int) rfl) (vw_or (vt_not (vt_val (ve_isi .tTuple (VE.b (ve_ix (hu1 hu) (VE.b (ve_var 0 (pv 0))) ve_int (fun _ _ => rfl))) rfl fx.b_isinstance rfl fx.b_tuple (by decide +kernel)) (by intro _; rfl))) (vw_or1 (vt_cmp (c_eq hu) (VE.b (ve_len  rfl fx.b_len (va_cons kB (VE.b (ve_ix (hu1 hu) (VE.b (ve_var 0 (pv 0))) ve_int (fun _ _ => rfl))) va_nil))) (VE.b ve_int) rfl)))))) (vss_one (vs_ret ve_bl)) vss_nil) (vss_cons (vs_if (vt_not (vt_val (ve_call E.f_is_whole hr tk rfl (va_cons kS (ve_ix (hu1 hu) (VE.b (ve_var 0 (pv 0))) ve_int (fun _ _ => rfl)) (va_cons kS ve_int (va_cons kS (ve_sub (VE.b (ve_len  rfl fx.b_len (va_cons kB (VE.b (ve_ix (hu1 hu) (VE.b (ve_var 0 (pv 0))) ve_int (fun _ _ => rfl))) va_nil))) (VE.b ve_int)) va_nil)))) (by intro _; rfl))) (vss_one (vs_ret ve_bl)) vss_nil) (vss_one (vs_ret (ve_all rfl rfl fx.b_all (va_cons kB (vp_lc (own := [("one", 2)]) pB_own rfl nd (vi_any (ve_ix (hu1 hu) (VE.b (ve_var 0 (pv 0))) ve_int (fun _ _ => rfl))) (blkOk_by (by kernel_rfl)) (fun _ _ _ _ _ => (vg_name nd rfl (by first | exact .inl rfl | exact .inr rfl))) (fun _ _ _ _ _ => vts_nil) (fun _ _ _ _ _ => (ve_and (ve_call E.f__is_tree hr xok0 rfl (va_cons kS (ve_var 2 (pv 2)) (va_cons kS (ve_sub (VE.b (ve_var 1 (pv 1))) (VE.b ve_int)) va_nil))) (ve_one (ve_cmp (c_ne hu) (VE.b (ve_ix (hu1 hu) (VE.b (ve_var 2 (pv 2))) ve_int (fun _ _ => rfl))) (VE.b (ve_gstr rfl fx.s_TABS)) rfl)))) (by decide)) va_nil)))))))))
theorem sc_5 : FnScope ["tree", "part"] ["tree"] (defScope (top 20)) := ⟨rfl, rfl, rfl, by decide +kernel, rfl, by decide +kernel, by decide +kernel⟩
theorem w_5 (fx : Fx K mg) (E : En P w K mg base k c) (f : Addr) (cdv : Value) (A : Around) (outer : List Env) (s : Shared) (H : Hp) (Ex : XK) (W : XW) (hr : Room k (A.deeper (envOfC "inner_trees" (defScope (top 20)) s.heap.objs.size f cdv)))
    (tk : XOk (cxOf (L2.CX P w) P w K mg base ["tree", "part"] "inner_trees" (defScope (top 20)) f cdv A outer s H Ex) W) : VSs (cxOf (L2.CX P w) P w K mg base ["tree", "part"] "inner_trees" (defScope (top 20)) f cdv A outer s H Ex) W (defBody (top 20)) (b_5 c) := by
  have hu : (A.deeper (envOfC "inner_trees" (defScope (top 20)) s.heap.objs.size f cdv)).units + 64 < cLine := hr.units
  have nd : (["tree", "part"] : List Str).Nodup := sc_5.nd
  exact (vss_cons (vs_if (vt_cmp (c_eq hu) (VE.b (ve_ix (hu1 hu) (VE.b (ve_var 0 (pv 0))) ve_int (fun _ _ => rfl))) (VE.b (ve_gstr rfl fx.s_WIN)) rfl) (vss_one (vs_ret (vp_lst pS_new va_nil))) vss_nil) (vss_one (vs_ret (vp_if pS_mon (vt_cmp (c_eq hu) (VE.b (ve_ix (hu1 hu) (VE.b (ve_var 0 (pv 0))) ve_int (fun _ _ => rfl))) (VE.b (ve_gstr rfl fx.s_TABS)) rfl) (vp_list pS_new rfl fx.b_list (va_cons kB (VE.b (ve_ix (hu1 hu) (VE.b (ve_var 0 (pv 0))) ve_int (fun _ _ => rfl))) va_nil)) (vp_lc (own := [("part", 1)]) pS_own rfl nd (vi_any (ve_ix (hu1 hu) (VE.b (ve_var 0 (pv 0))) ve_int (fun _ _ => rfl))) (blkOk_by (by kernel_rfl)) (fun _ _ _ _ _ => (vg_name nd rfl (by first | exact .inl rfl | exact .inr rfl))) (fun _ _ _ _ _ => vts_nil) (fun _ _ _ _ _ => (ve_ix (hu1 hu) (VE.b (ve_var 1 (pv 1))) ve_int (fun _ _ => rfl))) (by decide))))))
theorem sc_6 : FnScope ["tree", "names", "inner"] ["tree"] (defScope (top 21)) := ⟨rfl, rfl, rfl, by decide +kernel, rfl, by decide +kernel, by decide +kernel⟩
theorem w_6 (fx : Fx K mg) (E : En P w K mg base k c) (f : Addr) (cdv : Value) (A : Around) (outer : List Env) (s : Shared) (H : Hp) (Ex : XK) (W : XW) (hr : Room k (A.deeper (envOfC "names_of" (defScope (top 21)) s.heap.objs.size f cdv)))
    (tk : XOk (cxOf (L2.CX P w) P w K mg base ["tree", "names", "inner"] "names_of" (defScope (top 21)) f cdv A outer s H Ex) W) : VSs (cxOf (L2.CX P w) P w K mg base ["tree", "names", "inner"] "names_of" (defScope (top 21)) f cdv A outer s H Ex) W (defBody (top 21)) (b_6 c) := by
  have hu : (A.deeper (envOfC "names_of" (defScope (top 21)) s.heap.objs.size f cdv)).units + 64 < cLine := hr.units
  have nd : (["tree", "names", "inner"] : List Str).Nodup := sc_6.nd
  have hp : PassesOwn (model P w) (A.deeper (envOfC "names_of" (defScope (top 21)) s.heap.objs.size f cdv)) (envOfC "names_of" (defScope (top 21)) s.heap.objs.size f cdv) (cxOf (L2.CX P w) P w K mg base ["tree", "names", "inner"] "names_of" (defScope (top 21)) f cdv A outer s H Ex).xe := passes_of (X := (cxOf (L2.CX P w) P w K mg base ["tree", "names", "inner"] "names_of" (defScope (top 21)) f cdv A outer s H Ex)) rfl
  exact (vss_cons (vs_if (vt_cmp (c_eq hu) (VE.b (ve_ix (hu1 hu) (VE.b (ve_var 0 (pv 0))) ve_int (fun _ _ => rfl))) (VE.b (ve_gstr rfl fx.s_WIN)) rfl) (vss_one (vs_ret (vp_lst pS_new (va_cons kS (ve_ix (hu1 hu) (VE.b (ve_var 0 (pv 0))) ve_int (fun _ _ => rfl)) va_nil)))) vss_nil) (vss_cons (vs_setO nd rfl (.inl rfl) (vp_lst pF_new va_nil)) (vss_cons (vs_for hp rfl (vi_any (ve_call E.f_inner_trees hr tk rfl (va_cons kS (ve_var 0 (pv 0)) va_nil))) (vg_name nd rfl (by first | exact .inl rfl | exact .inr rfl)) (vss_one (vs_extend (pv 1) (ve_call E.f_names_of hr tk rfl (va_cons kS (ve_var 2 (pv 2)) va_nil))))) (vss_one (vs_frz 1 (vs_ret (ve_var 1 (pv 1))))))))
theorem sc_7 : FnScope ["value", "names", "name"] ["value"] (defScope (top 22)) := ⟨rfl, rfl, rfl, by decide +kernel, rfl, by decide +kernel, by decide +kernel⟩
theorem w_7 (fx : Fx K mg) (E : En P w K mg base k c) (f : Addr) (cdv : Value) (A : Around) (outer : List Env) (s : Shared) (H : Hp) (Ex : XK) (W : XW) (hr : Room k (A.deeper (envOfC "is_layout" (defScope (top 22)) s.heap.objs.size f cdv)))
    (tk : XOk (cxOf (L2.CX P w) P w K mg base ["value", "names", "name"] "is_layout" (defScope (top 22)) f cdv A outer s H Ex) W) : VSs (cxOf (L2.CX P w) P w K mg base ["value", "names", "name"] "is_layout" (defScope (top 22)) f cdv A outer s H Ex) W (defBody (top 22)) (b_7 c) := by
  have hu : (A.deeper (envOfC "is_layout" (defScope (top 22)) s.heap.objs.size f cdv)).units + 64 < cLine := hr.units
  have nd : (["value", "names", "name"] : List Str).Nodup := sc_7.nd
  exact (vss_cons (vs_if (vt_not (vt_val (ve_call E.f__is_tree hr tk rfl (va_cons kS (ve_var 0 (pv 0)) (va_cons kS (ve_gint rfl fx.i_MOST_DEPTH) va_nil))) (by intro _; rfl))) (vss_one (vs_ret ve_bl)) vss_nil) (vss_cons (vs_set nd rfl (.inl rfl) (ve_call E.f_names_of hr tk rfl (va_cons kS (ve_var 0 (pv 0)) va_nil))) (vss_one (vs_ret (ve_and (ve_cmp (c_le hu) (VE.b (ve_len  rfl fx.b_len (va_cons kB (VE.b (ve_var 1 (pv 1))) va_nil))) (VE.b (ve_gint rfl fx.i_MOST_WINDOWS)) rfl) (ve_one (ve_cmp (c_eq hu) (VE.b (ve_len  rfl fx.b_len (va_cons kB (vp_dc (own := [("name", 2)]) pB_own rfl nd (vi_any (ve_var 1 (pv 1))) (blkOk_by (by kernel_rfl)) (fun _ _ _ _ _ => (vg_name nd rfl (by first | exact .inl rfl | exact .inr rfl))) (fun _ _ _ _ _ => vts_nil) (fun _ _ _ _ _ => (ve_var 2 (pv 2))) (fun _ _ _ _ _ => ve_bl) (by decide)) va_nil))) (VE.b (ve_len  rfl fx.b_len (va_cons kB (VE.b (ve_var 1 (pv 1))) va_nil))) rfl)))))))
theorem sc_8 : FnScope ["layout"] ["layout"] (defScope (top 23)) := ⟨rfl, rfl, rfl, by decide +kernel, rfl, by decide +kernel, by decide +kernel⟩
theorem w_8 (fx : Fx K mg) (E : En P w K mg base k c) (f : Addr) (cdv : Value) (A : Around) (outer : List Env) (s : Shared) (H : Hp) (Ex : XK) (W : XW) (hr : Room k (A.deeper (envOfC "check_layout" (defScope (top 23)) s.heap.objs.size f cdv)))
    (tk : XOk (cxOf (L2.CX P w) P w K mg base ["layout"] "check_layout" (defScope (top 23)) f cdv A outer s H Ex) W) : VSs (cxOf (L2.CX P w) P w K mg base ["layout"] "check_layout" (defScope (top 23)) f cdv A outer s H Ex) W (defBody (top 23)) (b_8 c) := by
  have hu : (A.deeper (envOfC "check_layout" (defScope (top 23)) s.heap.objs.size f cdv)).units + 64 < cLine := hr.units
  have nd : (["layout"] : List Str).Nodup := sc_8.nd
  exact (vss_one (vs_if (vt_not (vt_val (ve_call E.f_is_layout hr tk rfl (va_cons kS (ve_var 0 (pv 0)) va_nil)) (by intro _; rfl))) (vss_one (vs_raiseF rfl tk fx.e_BadLayout rfl)) vss_nil))
theorem sc_9 : FnScope ["layout"] ["layout"] (defScope (top 24)) := ⟨rfl, rfl, rfl, by decide +kernel, rfl, by decide +kernel, by decide +kernel⟩
theorem w_9 (fx : Fx K mg) (E : En P w K mg base k c) (f : Addr) (cdv : Value) (A : Around) (outer : List Env) (s : Shared) (H : Hp) (Ex : XK) (W : XW) (hr : Room k (A.deeper (envOfC "windows_of" (defScope (top 24)) s.heap.objs.size f cdv)))
    (tk : XOk (cxOf (L2.CX P w) P w K mg base ["layout"] "windows_of" (defScope (top 24)) f cdv A outer s H Ex) W) : VSs (cxOf (L2.CX P w) P w K mg base ["layout"] "windows_of" (defScope (top 24)) f cdv A outer s H Ex) W (defBody (top 24)) (b_9 c) := by
  have hu : (A.deeper (envOfC "windows_of" (defScope (top 24)) s.heap.objs.size f cdv)).units + 64 < cLine := hr.units
  have nd : (["layout"] : List Str).Nodup := sc_9.nd
  exact (vss_cons (vs_expr (P := pS _) (ve_call E.f_check_layout hr tk rfl (va_cons kS (ve_var 0 (pv 0)) va_nil))) (vss_one (vs_ret (ve_tupA rfl fx.b_tuple (va_cons kS (ve_call E.f_names_of hr tk rfl (va_cons kS (ve_var 0 (pv 0)) va_nil)) va_nil)))))
theorem sc_10 : FnScope ["tree", "inner", "names", "one"] ["tree"] (defScope (top 25)) := ⟨rfl, rfl, rfl, by decide +kernel, rfl, by decide +kernel, by decide +kernel⟩
theorem w_10 (fx : Fx K mg) (E : En P w K mg base k c) (f : Addr) (cdv : Value) (A : Around) (outer : List Env) (s : Shared) (H : Hp) (Ex : XK) (W : XW) (hr : Room k (A.deeper (envOfC "shown_names" (defScope (top 25)) s.heap.objs.size f cdv)))
    (tk : XOk (cxOf (L2.CX P w) P w K mg base ["tree", "inner", "names", "one"] "shown_names" (defScope (top 25)) f cdv A outer s H Ex) W) : VSs (cxOf (L2.CX P w) P w K mg base ["tree", "inner", "names", "one"] "shown_names" (defScope (top 25)) f cdv A outer s H Ex) W (defBody (top 25)) (b_10 c) := by
  have hu : (A.deeper (envOfC "shown_names" (defScope (top 25)) s.heap.objs.size f cdv)).units + 64 < cLine := hr.units
  have nd : (["tree", "inner", "names", "one"] : List Str).Nodup := sc_10.nd
  have hp : PassesOwn (model P w) (A.deeper (envOfC "shown_names" (defScope (top 25)) s.heap.objs.size f cdv)) (envOfC "shown_names" (defScope (top 25)) s.heap.objs.size f cdv) (cxOf (L2.CX P w) P w K mg base ["tree", "inner", "names", "one"] "shown_names" (defScope (top 25)) f cdv A outer s H Ex).xe := passes_of (X := (cxOf (L2.CX P w) P w K mg base ["tree", "inner", "names", "one"] "shown_names" (defScope (top 25)) f cdv A outer s H Ex)) rfl
  exact (vss_cons (vs_if (vt_cmp (c_eq hu) (VE.b (ve_ix (hu1 hu) (VE.b (ve_var 0 (pv 0))) ve_int (fun _ _ => rfl))) (VE.b (ve_gstr rfl fx.s_WIN)) rfl) (vss_one (vs_ret (vp_lst pS_new (va_cons kS (ve_ix (hu1 hu) (VE.b (ve_var 0 (pv 0))) ve_int (fun _ _ => rfl)) va_nil)))) vss_nil) (vss_cons (vs_set nd rfl (.inl rfl) (vp_if pS_mon (vt_cmp (c_eq hu) (VE.b (ve_ix (hu1 hu) (VE.b (ve_var 0 (pv 0))) ve_int (fun _ _ => rfl))) (VE.b (ve_gstr rfl fx.s_TABS)) rfl) (vp_lst pS_new (va_cons kS (ve_ix (hu1 hu) (VE.b (ve_ix (hu1 hu) (VE.b (ve_var 0 (pv 0))) ve_int (fun _ _ => rfl))) (ve_ix (hu1 hu) (VE.b (ve_var 0 (pv 0))) ve_int (fun _ _ => rfl)) (fun _ _ => rfl)) va_nil)) (ve_call E.f_inner_trees hr tk rfl (va_cons kS (ve_var 0 (pv 0)) va_nil)))) (vss_cons (vs_setO nd rfl (.inl rfl) (vp_lst pF_new va_nil)) (vss_cons (vs_for hp rfl (vi_any (ve_var 1 (pv 1))) (vg_name nd rfl (by first | exact .inl rfl | exact .inr rfl)) (vss_one (vs_extend (pv 2) (ve_call E.f_shown_names hr tk rfl (va_cons kS (ve_var 3 (pv 3)) va_nil))))) (vss_one (vs_frz 2 (vs_ret (ve_var 2 (pv 2)))))))))
theorem sc_11 : FnScope ["layout"] ["layout"] (defScope (top 26)) := ⟨rfl, rfl, rfl, by decide +kernel, rfl, by decide +kernel, by decide +kernel⟩
theorem w_11 (fx : Fx K mg) (E : En P w K mg base k c) (f : Addr) (cdv : Value) (A : Around) (outer : List Env) (s : Shared) (H : Hp) (Ex : XK) (W : XW) (hr : Room k (A.deeper (envOfC "shown_windows" (defScope (top 26)) s.heap.objs.size f cdv)))
    (tk : XOk (cxOf (L2.CX P w) P w K mg base ["layout"] "shown_windows" (defScope (top 26)) f cdv A outer s H Ex) W) : VSs (cxOf (L2.CX P w) P w K mg base ["layout"] "shown_windows" (defScope (top 26)) f cdv A outer s H Ex) W (defBody (top 26)) (b_11 c) := by
  have hu : (A.deeper (envOfC "shown_windows" (defScope (top 26)) s.heap.objs.size f cdv)).units + 64 < cLine := hr.units
  have nd : (["layout"] : List Str).Nodup := sc_11.nd
  exact (vss_cons (vs_expr (P := pS _) (ve_call E.f_check_layout hr tk rfl (va_cons kS (ve_var 0 (pv 0)) va_nil))) (vss_one (vs_ret (ve_tupA rfl fx.b_tuple (va_cons kS (ve_call E.f_shown_names hr tk rfl (va_cons kS (ve_var 0 (pv 0)) va_nil)) va_nil)))))
theorem sc_12 : FnScope ["tree", "places", "number", "inner", "place"] ["tree"] (defScope (top 27)) := ⟨rfl, rfl, rfl, by decide +kernel, rfl, by decide +kernel, by decide +kernel⟩
theorem w_12 (fx : Fx K mg) (E : En P w K mg base k c) (f : Addr) (cdv : Value) (A : Around) (outer : List Env) (s : Shared) (H : Hp) (Ex : XK) (W : XW) (hr : Room k (A.deeper (envOfC "all_places" (defScope (top 27)) s.heap.objs.size f cdv)))
    (tk : XOk (cxOf (L2.CX P w) P w K mg base ["tree", "places", "number", "inner", "place"] "all_places" (defScope (top 27)) f cdv A outer s H Ex) W) : VSs (cxOf (L2.CX P w) P w K mg base ["tree", "places", "number", "inner", "place"] "all_places" (defScope (top 27)) f cdv A outer s H Ex) W (defBody (top 27)) (b_12 c) := by
  have hu : (A.deeper (envOfC "all_places" (defScope (top 27)) s.heap.objs.size f cdv)).units + 64 < cLine := hr.units
  have nd : (["tree", "places", "number", "inner", "place"] : List Str).Nodup := sc_12.nd
  have hp : PassesOwn (model P w) (A.deeper (envOfC "all_places" (defScope (top 27)) s.heap.objs.size f cdv)) (envOfC "all_places" (defScope (top 27)) s.heap.objs.size f cdv) (cxOf (L2.CX P w) P w K mg base ["tree", "places", "number", "inner", "place"] "all_places" (defScope (top 27)) f cdv A outer s H Ex).xe := passes_of (X := (cxOf (L2.CX P w) P w K mg base ["tree", "places", "number", "inner", "place"] "all_places" (defScope (top 27)) f cdv A outer s H Ex)) rfl
  exact (vss_cons (vs_setO nd rfl (.inl rfl) (vp_lst pF_new (va_cons kS (ve_tup va_nil) va_nil))) (vss_cons (vs_for hp rfl (vi_enum rfl fx.b_enumerate (va_cons kS (ve_call E.f_inner_trees hr tk rfl (va_cons kS (ve_var 0 (pv 0)) va_nil)) va_nil)) (vg_tup rfl (vgs_cons (vg_name nd rfl (by first | exact .inl rfl | exact .inr rfl)) (vgs_cons (vg_name nd rfl (by first | exact .inl rfl | exact .inr rfl)) vgs_nil))) (vss_one (vs_extend (pv 1) (vp_lc (own := [("place", 4)]) pS_own rfl nd (vi_any (ve_call E.f_all_places hr tk rfl (va_cons kS (ve_var 3 (pv 3)) va_nil))) (blkOk_by (by kernel_rfl)) (fun _ _ _ _ _ => (vg_name nd rfl (by first | exact .inl rfl | exact .inr rfl))) (fun _ _ _ _ _ => vts_nil) (fun _ _ _ _ _ => (ve_add (ve_tup (va_cons kS (ve_var 2 (pv 2)) va_nil)) (ve_var 4 (pv 4)))) (by decide))))) (vss_one (vs_frz 1 (vs_ret (ve_var 1 (pv 1)))))))
theorem sc_13 : FnScope ["tree", "place", "number"] ["tree", "place"] (defScope (top 28)) := ⟨rfl, rfl, rfl, by decide +kernel, rfl, by decide +kernel, by decide +kernel⟩
theorem w_13 (fx : Fx K mg) (E : En P w K mg base k c) (f : Addr) (cdv : Value) (A : Around) (outer : List Env) (s : Shared) (H : Hp) (Ex : XK) (W : XW) (hr : Room k (A.deeper (envOfC "tree_in" (defScope (top 28)) s.heap.objs.size f cdv)))
    (tk : XOk (cxOf (L2.CX P w) P w K mg base ["tree", "place", "number"] "tree_in" (defScope (top 28)) f cdv A outer s H Ex) W) : VSs (cxOf (L2.CX P w) P w K mg base ["tree", "place", "number"] "tree_in" (defScope (top 28)) f cdv A outer s H Ex) W (defBody (top 28)) (b_13 c) := by
  have hu : (A.deeper (envOfC "tree_in" (defScope (top 28)) s.heap.objs.size f cdv)).units + 64 < cLine := hr.units
  have nd : (["tree", "place", "number"] : List Str).Nodup := sc_13.nd
  have hp : PassesOwn (model P w) (A.deeper (envOfC "tree_in" (defScope (top 28)) s.heap.objs.size f cdv)) (envOfC "tree_in" (defScope (top 28)) s.heap.objs.size f cdv) (cxOf (L2.CX P w) P w K mg base ["tree", "place", "number"] "tree_in" (defScope (top 28)) f cdv A outer s H Ex).xe := passes_of (X := (cxOf (L2.CX P w) P w K mg base ["tree", "place", "number"] "tree_in" (defScope (top 28)) f cdv A outer s H Ex)) rfl
  exact (vss_cons (vs_for hp rfl (vi_any (ve_var 1 (pv 1))) (vg_name nd rfl (by first | exact .inl rfl | exact .inr rfl)) (vss_one (vs_set nd rfl (.inl rfl) (ve_ix (hu1 hu) (VE.b (ve_call E.f_inner_trees hr tk rfl (va_cons kS (ve_var 0 (pv 0)) va_nil))) (ve_var 2 (pv 2)) (fun _ _ => rfl))))) (vss_one (vs_ret (ve_var 0 (pv 0)))))
theorem sc_14 : FnScope ["names", "one"] ["names"] (defScope (top 30)) := ⟨rfl, rfl, rfl, by decide +kernel, rfl, by decide +kernel, by decide +kernel⟩
theorem w_14 (fx : Fx K mg) (E : En P w K mg base k c) (f : Addr) (cdv : Value) (A : Around) (outer : List Env) (s : Shared) (H : Hp) (Ex : XK) (W : XW) (hr : Room k (A.deeper (envOfC "check_names" (defScope (top 30)) s.heap.objs.size f cdv)))
    (tk : XOk (cxOf (L2.CX P w) P w K mg base ["names", "one"] "check_names" (defScope (top 30)) f cdv A outer s H Ex) W) : VSs (cxOf (L2.CX P w) P w K mg base ["names", "one"] "check_names" (defScope (top 30)) f cdv A outer s H Ex) W (defBody (top 30)) (b_14 c) := by
  have hu : (A.deeper (envOfC "check_names" (defScope (top 30)) s.heap.objs.size f cdv)).units + 64 < cLine := hr.units
  have nd : (["names", "one"] : List Str).Nodup := sc_14.nd
  exact (vss_one (vs_if (vt_w (vw_or (vt_not (vt_val (ve_isi .tTuple (VE.b (ve_var 0 (pv 0))) rfl fx.b_isinstance rfl fx.b_tuple (by decide +kernel)) (by intro _; rfl))) (vw_or (vt_not (vt_val (ve_all rfl rfl fx.b_all (va_cons kB (vp_lc (own := [("one", 1)]) pB_own rfl nd (vi_any (ve_var 0 (pv 0))) (blkOk_by (by kernel_rfl)) (fun _ _ _ _ _ => (vg_name nd rfl (by first | exact .inl rfl | exact .inr rfl))) (fun _ _ _ _ _ => vts_nil) (fun _ _ _ _ _ => (ve_isi .tStr (VE.b (ve_var 1 (pv 1))) rfl fx.b_isinstance rfl fx.b_str (by decide +kernel))) (by decide)) va_nil)) (by intro _; rfl))) (vw_or1 (vt_not (vt_val (ve_call E.f_ascends hr tk rfl (va_cons kS (ve_var 0 (pv 0)) va_nil)) (by intro _; rfl))))))) (vss_one (vs_raiseF rfl tk fx.e_BadNames rfl)) vss_nil))
theorem sc_15 : FnScope ["tree", "names", "trees", "shown", "number", "inner", "left", "begin"] ["tree", "names"] (defScope (top 31)) := ⟨rfl, rfl, rfl, by decide +kernel, rfl, by decide +kernel, by decide +kernel⟩
theorem w_15 (fx : Fx K mg) (E : En P w K mg base k c) (f : Addr) (cdv : Value) (A : Around) (outer : List Env) (s : Shared) (H : Hp) (Ex : XK) (W : XW) (hr : Room k (A.deeper (envOfC "_left_tabs" (defScope (top 31)) s.heap.objs.size f cdv)))
    (tk : XOk (cxOf (L2.CX P w) P w K mg base ["tree", "names", "trees", "shown", "number", "inner", "left", "begin"] "_left_tabs" (defScope (top 31)) f cdv A outer s H Ex) W) : VSs (cxOf (L2.CX P w) P w K mg base ["tree", "names", "trees", "shown", "number", "inner", "left", "begin"] "_left_tabs" (defScope (top 31)) f cdv A outer s H Ex) W (defBody (top 31)) (b_15 c) := by
  have hu : (A.deeper (envOfC "_left_tabs" (defScope (top 31)) s.heap.objs.size f cdv)).units + 64 < cLine := hr.units
  have nd : (["tree", "names", "trees", "shown", "number", "inner", "left", "begin"] : List Str).Nodup := sc_15.nd
  have hp : PassesOwn (model P w) (A.deeper (envOfC "_left_tabs" (defScope (top 31)) s.heap.objs.size f cdv)) (envOfC "_left_tabs" (defScope (top 31)) s.heap.objs.size f cdv) (cxOf (L2.CX P w) P w K mg base ["tree", "names", "trees", "shown", "number", "inner", "left", "begin"] "_left_tabs" (defScope (top 31)) f cdv A outer s H Ex).xe := passes_of (X := (cxOf (L2.CX P w) P w K mg base ["tree", "names", "trees", "shown", "number", "inner", "left", "begin"] "_left_tabs" (defScope (top 31)) f cdv A outer s H Ex)) rfl
  exact (vss_cons (vs_setO nd rfl (.inl rfl) (vp_lst pF_new va_nil)) (vss_cons (vs_set nd rfl (.inl rfl) ve_non) (vss_cons (vs_for hp rfl (vi_enum rfl fx.b_enumerate (va_cons kS (ve_ix (hu1 hu) (VE.b (ve_var 0 (pv 0))) ve_int (fun _ _ => rfl)) va_nil)) (vg_tup rfl (vgs_cons (vg_name nd rfl (by first | exact .inl rfl | exact .inr rfl)) (vgs_cons (vg_name nd rfl (by first | exact .inl rfl | exact .inr rfl)) vgs_nil))) (vss_cons (vs_set nd rfl (.inl rfl) (ve_call E.f_left_of hr tk rfl (va_cons kS (ve_var 5 (pv 5)) (va_cons kS (ve_var 1 (pv 1)) va_nil)))) (vss_one (vs_if (vt_notN (VE.b (ve_var 6 (pv 6)))) (vss_cons (vs_set nd rfl (.inl rfl) (ve_len  rfl fx.b_len (va_cons kB (vb_var 2 (pv 2)) va_nil))) (vss_cons (vs_extend (pv 2) (vp_if pS_mon (vt_cmp (c_eq hu) (VE.b (ve_ix (hu1 hu) (VE.b (ve_var 6 (pv 6))) ve_int (fun _ _ => rfl))) (VE.b (ve_gstr rfl fx.s_TABS)) rfl) (vp_list pS_new rfl fx.b_list (va_cons kB (VE.b (ve_ix (hu1 hu) (VE.b (ve_var 6 (pv 6))) ve_int (fun _ _ => rfl))) va_nil)) (vp_lst pS_new (va_cons kS (ve_var 6 (pv 6)) va_nil)))) (vss_one (vs_if (vt_w (vw_and (vt_cmp (c_ge hu) (VE.b (ve_var 4 (pv 4))) (VE.b (ve_ix (hu1 hu) (VE.b (ve_var 0 (pv 0))) ve_int (fun _ _ => rfl))) rfl) (vw_and1 (vt_isN (VE.b (ve_var 3 (pv 3))))))) (vss_one (vs_set nd rfl (.inl rfl) (ve_add (ve_var 7 (pv 7)) (vp_if pS_mon (vt_cmp (c_eq hu) (VE.b (ve_ix (hu1 hu) (VE.b (ve_var 6 (pv 6))) ve_int (fun _ _ => rfl))) (VE.b (ve_gstr rfl fx.s_TABS)) rfl) (ve_ix (hu1 hu) (VE.b (ve_var 6 (pv 6))) ve_int (fun _ _ => rfl)) ve_int)))) vss_nil)))) vss_nil)))) (vss_cons (vs_if (vt_cmp (c_eq hu) (VE.b (ve_len  rfl fx.b_len (va_cons kB (vb_var 2 (pv 2)) va_nil))) (VE.b ve_int) rfl) (vss_one (vs_ret ve_non)) vss_nil) (vss_one (vs_ret (ve_tup (va_cons kS (ve_gstr rfl fx.s_TABS) (va_cons kS (vp_if pS_mon (vt_isN (VE.b (ve_var 3 (pv 3)))) (ve_sub (VE.b (ve_len  rfl fx.b_len (va_cons kB (vb_var 2 (pv 2)) va_nil))) (VE.b ve_int)) (ve_var 3 (pv 3))) (va_cons kS (ve_tupB rfl fx.b_tuple (va_cons kB (vb_var 2 (pv 2)) va_nil)) va_nil))))))))))
theorem sc_16 : FnScope ["tree", "names", "parts", "weight", "inner", "left"] ["tree", "names"] (defScope (top 32)) := ⟨rfl, rfl, rfl, by decide +kernel, rfl, by decide +kernel, by decide +kernel⟩
theorem w_16 (fx : Fx K mg) (E : En P w K mg base k c) (f : Addr) (cdv : Value) (A : Around) (outer : List Env) (s : Shared) (H : Hp) (Ex : XK) (W : XW) (hr : Room k (A.deeper (envOfC "left_of" (defScope (top 32)) s.heap.objs.size f cdv)))
    (tk : XOk (cxOf (L2.CX P w) P w K mg base ["tree", "names", "parts", "weight", "inner", "left"] "left_of" (defScope (top 32)) f cdv A outer s H Ex) W) : VSs (cxOf (L2.CX P w) P w K mg base ["tree", "names", "parts", "weight", "inner", "left"] "left_of" (defScope (top 32)) f cdv A outer s H Ex) W (defBody (top 32)) (b_16 c) := by
  have hu : (A.deeper (envOfC "left_of" (defScope (top 32)) s.heap.objs.size f cdv)).units + 64 < cLine := hr.units
  have nd : (["tree", "names", "parts", "weight", "inner", "left"] : List Str).Nodup := sc_16.nd
  have hp : PassesOwn (model P w) (A.deeper (envOfC "left_of" (defScope (top 32)) s.heap.objs.size f cdv)) (envOfC "left_of" (defScope (top 32)) s.heap.objs.size f cdv) (cxOf (L2.CX P w) P w K mg base ["tree", "names", "parts", "weight", "inner", "left"] "left_of" (defScope (top 32)) f cdv A outer s H Ex).xe := passes_of (X := (cxOf (L2.CX P w) P w K mg base ["tree", "names", "parts", "weight", "inner", "left"] "left_of" (defScope (top 32)) f cdv A outer s H Ex)) rfl
  exact (vss_cons (vs_if (vt_cmp (c_eq hu) (VE.b (ve_ix (hu1 hu) (VE.b (ve_var 0 (pv 0))) ve_int (fun _ _ => rfl))) (VE.b (ve_gstr rfl fx.s_WIN)) rfl) (vss_one (vs_ret (vp_if pS_mon (vt_in hu (ve_ix (hu1 hu) (VE.b (ve_var 0 (pv 0))) ve_int (fun _ _ => rfl)) (VE.b (ve_var 1 (pv 1))) rfl) ve_non (ve_var 0 (pv 0))))) vss_nil) (vss_cons (vs_if (vt_cmp (c_eq hu) (VE.b (ve_ix (hu1 hu) (VE.b (ve_var 0 (pv 0))) ve_int (fun _ _ => rfl))) (VE.b (ve_gstr rfl fx.s_TABS)) rfl) (vss_one (vs_ret (ve_call E.f__left_tabs hr tk rfl (va_cons kS (ve_var 0 (pv 0)) (va_cons kS (ve_var 1 (pv 1)) va_nil))))) vss_nil) (vss_cons (vs_setO nd rfl (.inl rfl) (vp_lst pF_new va_nil)) (vss_cons (vs_for hp rfl (vi_any (ve_ix (hu1 hu) (VE.b (ve_var 0 (pv 0))) ve_int (fun _ _ => rfl))) (vg_tup rfl (vgs_cons (vg_name nd rfl (by first | exact .inl rfl | exact .inr rfl)) (vgs_cons (vg_name nd rfl (by first | exact .inl rfl | exact .inr rfl)) vgs_nil))) (vss_cons (vs_set nd rfl (.inl rfl) (ve_call E.f_left_of hr tk rfl (va_cons kS (ve_var 4 (pv 4)) (va_cons kS (ve_var 1 (pv 1)) va_nil)))) (vss_one (vs_if (vt_notN (VE.b (ve_var 5 (pv 5)))) (vss_one (vs_append (pv 2) (ve_tup (va_cons kS (ve_var 3 (pv 3)) (va_cons kS (ve_var 5 (pv 5)) va_nil))))) vss_nil)))) (vss_one (vs_frz 2 (vs_ret (ve_call E.f_gathered hr tk rfl (va_cons kS (ve_ix (hu1 hu) (VE.b (ve_var 0 (pv 0))) ve_int (fun _ _ => rfl)) (va_cons kS (ve_var 2 (pv 2)) va_nil))))))))))
theorem sc_17 : FnScope ["kind", "parts", "flat", "weight", "tree", "one"] ["kind", "parts"] (defScope (top 33)) := ⟨rfl, rfl, rfl, by decide +kernel, rfl, by decide +kernel, by decide +kernel⟩
theorem w_17 (fx : Fx K mg) (E : En P w K mg base k c) (f : Addr) (cdv : Value) (A : Around) (outer : List Env) (s : Shared) (H : Hp) (Ex : XK) (W : XW) (hr : Room k (A.deeper (envOfC "gathered" (defScope (top 33)) s.heap.objs.size f cdv)))
    (tk : XOk (cxOf (L2.CX P w) P w K mg base ["kind", "parts", "flat", "weight", "tree", "one"] "gathered" (defScope (top 33)) f cdv A outer s H Ex) W) : VSs (cxOf (L2.CX P w) P w K mg base ["kind", "parts", "flat", "weight", "tree", "one"] "gathered" (defScope (top 33)) f cdv A outer s H Ex) W (defBody (top 33)) (b_17 c) := by
  have hu : (A.deeper (envOfC "gathered" (defScope (top 33)) s.heap.objs.size f cdv)).units + 64 < cLine := hr.units
  have nd : (["kind", "parts", "flat", "weight", "tree", "one"] : List Str).Nodup := sc_17.nd
  have hp : PassesOwn (model P w) (A.deeper (envOfC "gathered" (defScope (top 33)) s.heap.objs.size f cdv)) (envOfC "gathered" (defScope (top 33)) s.heap.objs.size f cdv) (cxOf (L2.CX P w) P w K mg base ["kind", "parts", "flat", "weight", "tree", "one"] "gathered" (defScope (top 33)) f cdv A outer s H Ex).xe := passes_of (X := (cxOf (L2.CX P w) P w K mg base ["kind", "parts", "flat", "weight", "tree", "one"] "gathered" (defScope (top 33)) f cdv A outer s H Ex)) rfl
  exact (vss_cons (vs_setO nd rfl (.inl rfl) (vp_lst pF_new va_nil)) (vss_cons (vs_for hp rfl (vi_any (ve_var 1 (pv 1))) (vg_tup rfl (vgs_cons (vg_name nd rfl (by first | exact .inl rfl | exact .inr rfl)) (vgs_cons (vg_name nd rfl (by first | exact .inl rfl | exact .inr rfl)) vgs_nil))) (vss_one (vs_extend (pv 2) (vp_if pS_mon (vt_cmp (c_eq hu) (VE.b (ve_ix (hu1 hu) (VE.b (ve_var 4 (pv 4))) ve_int (fun _ _ => rfl))) (VE.b (ve_var 0 (pv 0))) rfl) (vp_lc (own := [("one", 5)]) pS_own rfl nd (vi_any (ve_ix (hu1 hu) (VE.b (ve_var 4 (pv 4))) ve_int (fun _ _ => rfl))) (blkOk_by (by kernel_rfl)) (fun _ _ _ _ _ => (vg_name nd rfl (by first | exact .inl rfl | exact .inr rfl))) (fun _ _ _ _ _ => vts_nil) (fun _ _ _ _ _ => (ve_tup (va_cons kS (ve_var 3 (pv 3)) (va_cons kS (ve_ix (hu1 hu) (VE.b (ve_var 5 (pv 5))) ve_int (fun _ _ => rfl)) va_nil)))) (by decide)) (vp_lst pS_new (va_cons kS (ve_tup (va_cons kS (ve_var 3 (pv 3)) (va_cons kS (ve_var 4 (pv 4)) va_nil))) va_nil)))))) (vss_cons (vs_if (vt_cmp (c_eq hu) (VE.b (ve_len  rfl fx.b_len (va_cons kB (vb_var 2 (pv 2)) va_nil))) (VE.b ve_int) rfl) (vss_one (vs_ret ve_non)) vss_nil) (vss_one (vs_ret (vp_if pS_mon (vt_cmp (c_eq hu) (VE.b (ve_len  rfl fx.b_len (va_cons kB (vb_var 2 (pv 2)) va_nil))) (VE.b ve_int) rfl) (ve_ix (hu1 hu) (VE.b (ve_ix (hu1 hu) (vb_var 2 (pv 2)) ve_int (fun _ _ => rfl))) ve_int (fun _ _ => rfl)) (ve_tup (va_cons kS (ve_var 0 (pv 0)) (va_cons kS (ve_tupB rfl fx.b_tuple (va_cons kB (vb_var 2 (pv 2)) va_nil)) va_nil)))))))))
theorem sc_18 : FnScope ["layout", "names"] ["layout", "names"] (defScope (top 34)) := ⟨rfl, rfl, rfl, by decide +kernel, rfl, by decide +kernel, by decide +kernel⟩
theorem w_18 (fx : Fx K mg) (E : En P w K mg base k c) (f : Addr) (cdv : Value) (A : Around) (outer : List Env) (s : Shared) (H : Hp) (Ex : XK) (W : XW) (hr : Room k (A.deeper (envOfC "without" (defScope (top 34)) s.heap.objs.size f cdv)))
    (tk : XOk (cxOf (L2.CX P w) P w K mg base ["layout", "names"] "without" (defScope (top 34)) f cdv A outer s H Ex) W) : VSs (cxOf (L2.CX P w) P w K mg base ["layout", "names"] "without" (defScope (top 34)) f cdv A outer s H Ex) W (defBody (top 34)) (b_18 c) := by
  have hu : (A.deeper (envOfC "without" (defScope (top 34)) s.heap.objs.size f cdv)).units + 64 < cLine := hr.units
  have nd : (["layout", "names"] : List Str).Nodup := sc_18.nd
  exact (vss_cons (vs_expr (P := pS _) (ve_call E.f_check_layout hr tk rfl (va_cons kS (ve_var 0 (pv 0)) va_nil))) (vss_cons (vs_expr (P := pS _) (ve_call E.f_check_names hr tk rfl (va_cons kS (ve_var 1 (pv 1)) va_nil))) (vss_one (vs_ret (ve_call E.f_left_of hr tk rfl (va_cons kS (ve_var 0 (pv 0)) (va_cons kS (ve_var 1 (pv 1)) va_nil)))))))
theorem sc_19 : FnScope ["tree", "names", "own", "name"] ["tree", "names"] (defScope (top 35)) := ⟨rfl, rfl, rfl, by decide +kernel, rfl, by decide +kernel, by decide +kernel⟩
theorem w_19 (fx : Fx K mg) (E : En P w K mg base k c) (f : Addr) (cdv : Value) (A : Around) (outer : List Env) (s : Shared) (H : Hp) (Ex : XK) (W : XW) (hr : Room k (A.deeper (envOfC "_holds" (defScope (top 35)) s.heap.objs.size f cdv)))
    (tk : XOk (cxOf (L2.CX P w) P w K mg base ["tree", "names", "own", "name"] "_holds" (defScope (top 35)) f cdv A outer s H Ex) W) : VSs (cxOf (L2.CX P w) P w K mg base ["tree", "names", "own", "name"] "_holds" (defScope (top 35)) f cdv A outer s H Ex) W (defBody (top 35)) (b_19 c) := by
  have hu : (A.deeper (envOfC "_holds" (defScope (top 35)) s.heap.objs.size f cdv)).units + 64 < cLine := hr.units
  have nd : (["tree", "names", "own", "name"] : List Str).Nodup := sc_19.nd
  exact (vss_cons (vs_set nd rfl (.inr rfl) (ve_call E.f_names_of hr tk rfl (va_cons kS (ve_var 0 (pv 0)) va_nil))) (vss_one (vs_ret (ve_all rfl rfl fx.b_all (va_cons kB (vp_lc (own := [("name", 3)]) pB_own rfl nd (vi_any (ve_var 1 (pv 1))) (blkOk_by (by kernel_rfl)) (fun _ _ _ _ _ => (vg_name nd rfl (by first | exact .inl rfl | exact .inr rfl))) (fun _ _ _ _ _ => vts_nil) (fun _ _ _ _ _ => (ve_in hu (ve_var 3 (pv 3)) (VE.b (ve_var 2 (pv 2))) rfl)) (by decide)) va_nil)))))
theorem sc_20 : FnScope ["layout", "names", "place"] ["layout", "names"] (defScope (top 36)) := ⟨rfl, rfl, rfl, by decide +kernel, rfl, by decide +kernel, by decide +kernel⟩
theorem w_20 (fx : Fx K mg) (E : En P w K mg base k c) (f : Addr) (cdv : Value) (A : Around) (outer : List Env) (s : Shared) (H : Hp) (Ex : XK) (W : XW) (hr : Room k (A.deeper (envOfC "_common" (defScope (top 36)) s.heap.objs.size f cdv)))
    (tk : XOk (cxOf (L2.CX P w) P w K mg base ["layout", "names", "place"] "_common" (defScope (top 36)) f cdv A outer s H Ex) W) : VSs (cxOf (L2.CX P w) P w K mg base ["layout", "names", "place"] "_common" (defScope (top 36)) f cdv A outer s H Ex) W (defBody (top 36)) (b_20 c) := by
  have hu : (A.deeper (envOfC "_common" (defScope (top 36)) s.heap.objs.size f cdv)).units + 64 < cLine := hr.units
  have nd : (["layout", "names", "place"] : List Str).Nodup := sc_20.nd
  exact (vss_one (vs_ret (ve_maxL rfl hu rfl fx.b_max (va_cons kB (vp_lc (own := [("place", 2)]) pB_own rfl nd (vi_any (ve_call E.f_all_places hr tk rfl (va_cons kS (ve_var 0 (pv 0)) va_nil))) (blkOk_by (by kernel_rfl)) (fun _ _ _ _ _ => (vg_name nd rfl (by first | exact .inl rfl | exact .inr rfl))) (fun _ _ _ _ _ => (vts_one (vt_val (ve_call E.f__holds hr xok0 rfl (va_cons kS (ve_call E.f_tree_in hr xok0 rfl (va_cons kS (ve_var 0 (pv 0)) (va_cons kS (ve_var 2 (pv 2)) va_nil))) (va_cons kS (ve_var 1 (pv 1)) va_nil))) (by intro _; rfl)))) (fun _ _ _ _ _ => (ve_var 2 (pv 2))) (by decide)) va_nil))))
theorem sc_21 : FnScope ["layout", "names"] ["layout", "names"] (defScope (top 37)) := ⟨rfl, rfl, rfl, by decide +kernel, rfl, by decide +kernel, by decide +kernel⟩
theorem w_21 (fx : Fx K mg) (E : En P w K mg base k c) (f : Addr) (cdv : Value) (A : Around) (outer : List Env) (s : Shared) (H : Hp) (Ex : XK) (W : XW) (hr : Room k (A.deeper (envOfC "common_tree" (defScope (top 37)) s.heap.objs.size f cdv)))
    (tk : XOk (cxOf (L2.CX P w) P w K mg base ["layout", "names"] "common_tree" (defScope (top 37)) f cdv A outer s H Ex) W) : VSs (cxOf (L2.CX P w) P w K mg base ["layout", "names"] "common_tree" (defScope (top 37)) f cdv A outer s H Ex) W (defBody (top 37)) (b_21 c) := by
  have hu : (A.deeper (envOfC "common_tree" (defScope (top 37)) s.heap.objs.size f cdv)).units + 64 < cLine := hr.units
  have nd : (["layout", "names"] : List Str).Nodup := sc_21.nd
  exact (vss_cons (vs_expr (P := pS _) (ve_call E.f_check_layout hr tk rfl (va_cons kS (ve_var 0 (pv 0)) va_nil))) (vss_cons (vs_expr (P := pS _) (ve_call E.f_check_names hr tk rfl (va_cons kS (ve_var 1 (pv 1)) va_nil))) (vss_cons (vs_if (vt_w (vw_or (vt_cmp (c_eq hu) (VE.b (ve_len  rfl fx.b_len (va_cons kB (VE.b (ve_var 1 (pv 1))) va_nil))) (VE.b ve_int) rfl) (vw_or1 (vt_not (vt_val (ve_call E.f__holds hr tk rfl (va_cons kS (ve_var 0 (pv 0)) (va_cons kS (ve_var 1 (pv 1)) va_nil))) (by intro _; rfl)))))) (vss_one (vs_raiseF rfl tk fx.e_BadNames rfl)) vss_nil) (vss_one (vs_ret (ve_call E.f__common hr tk rfl (va_cons kS (ve_var 0 (pv 0)) (va_cons kS (ve_var 1 (pv 1)) va_nil))))))))
theorem sc_22 : FnScope ["layout", "name", "other", "one"] ["layout", "name", "other"] (defScope (top 38)) := ⟨rfl, rfl, rfl, by decide +kernel, rfl, by decide +kernel, by decide +kernel⟩
theorem w_22 (fx : Fx K mg) (E : En P w K mg base k c) (f : Addr) (cdv : Value) (A : Around) (outer : List Env) (s : Shared) (H : Hp) (Ex : XK) (W : XW) (hr : Room k (A.deeper (envOfC "together" (defScope (top 38)) s.heap.objs.size f cdv)))
    (tk : XOk (cxOf (L2.CX P w) P w K mg base ["layout", "name", "other", "one"] "together" (defScope (top 38)) f cdv A outer s H Ex) W) : VSs (cxOf (L2.CX P w) P w K mg base ["layout", "name", "other", "one"] "together" (defScope (top 38)) f cdv A outer s H Ex) W (defBody (top 38)) (b_22 c) := by
  have hu : (A.deeper (envOfC "together" (defScope (top 38)) s.heap.objs.size f cdv)).units + 64 < cLine := hr.units
  have nd : (["layout", "name", "other", "one"] : List Str).Nodup := sc_22.nd
  have hp : PassesOwn (model P w) (A.deeper (envOfC "together" (defScope (top 38)) s.heap.objs.size f cdv)) (envOfC "together" (defScope (top 38)) s.heap.objs.size f cdv) (cxOf (L2.CX P w) P w K mg base ["layout", "name", "other", "one"] "together" (defScope (top 38)) f cdv A outer s H Ex).xe := passes_of (X := (cxOf (L2.CX P w) P w K mg base ["layout", "name", "other", "one"] "together" (defScope (top 38)) f cdv A outer s H Ex)) rfl
  exact (vss_cons (vs_expr (P := pS _) (ve_call E.f_check_layout hr tk rfl (va_cons kS (ve_var 0 (pv 0)) va_nil))) (vss_cons (vs_for hp rfl (vi_any (ve_tup (va_cons kS (ve_var 1 (pv 1)) (va_cons kS (ve_var 2 (pv 2)) va_nil)))) (vg_name nd rfl (by first | exact .inl rfl | exact .inr rfl)) (vss_one (vs_if (vt_w (vw_or (vt_not (vt_val (ve_call E.f_is_name hr tk rfl (va_cons kS (ve_var 3 (pv 3)) va_nil)) (by intro _; rfl))) (vw_or1 (vt_notIn hu (ve_var 3 (pv 3)) (VE.b (ve_call E.f_names_of hr tk rfl (va_cons kS (ve_var 0 (pv 0)) va_nil))) rfl)))) (vss_one (vs_raiseF rfl tk fx.e_NoWindow rfl)) vss_nil))) (vss_cons (vs_if (vt_cmp (c_eq hu) (VE.b (ve_var 1 (pv 1))) (VE.b (ve_var 2 (pv 2))) rfl) (vss_one (vs_raiseF rfl tk fx.e_BadNames rfl)) vss_nil) (vss_one (vs_ret (ve_ix (hu1 hu) (VE.b (ve_call E.f_tree_in hr tk rfl (va_cons kS (ve_var 0 (pv 0)) (va_cons kS (ve_call E.f__common hr tk rfl (va_cons kS (ve_var 0 (pv 0)) (va_cons kS (ve_tup (va_cons kS (ve_var 1 (pv 1)) (va_cons kS (ve_var 2 (pv 2)) va_nil))) va_nil))) va_nil)))) ve_int (fun _ _ => rfl)))))))
theorem sc_23 : FnScope ["script", "many", "draws", "seed", "cell", "number", "k"] ["script", "many"] (defScope (top 40)) := ⟨rfl, rfl, rfl, by decide +kernel, rfl, by decide +kernel, by decide +kernel⟩
theorem w_23 (fx : Fx K mg) (E : En P w K mg base k c) (f : Addr) (cdv : Value) (A : Around) (outer : List Env) (s : Shared) (H : Hp) (Ex : XK) (W : XW) (hr : Room k (A.deeper (envOfC "_law_draws" (defScope (top 40)) s.heap.objs.size f cdv)))
    (tk : XOk (cxOf (L2.CX P w) P w K mg base ["script", "many", "draws", "seed", "cell", "number", "k"] "_law_draws" (defScope (top 40)) f cdv A outer s H Ex) W) : VSs (cxOf (L2.CX P w) P w K mg base ["script", "many", "draws", "seed", "cell", "number", "k"] "_law_draws" (defScope (top 40)) f cdv A outer s H Ex) W (defBody (top 40)) (b_23 c) := by
  have hu : (A.deeper (envOfC "_law_draws" (defScope (top 40)) s.heap.objs.size f cdv)).units + 64 < cLine := hr.units
  have nd : (["script", "many", "draws", "seed", "cell", "number", "k"] : List Str).Nodup := sc_23.nd
  have hp : PassesOwn (model P w) (A.deeper (envOfC "_law_draws" (defScope (top 40)) s.heap.objs.size f cdv)) (envOfC "_law_draws" (defScope (top 40)) s.heap.objs.size f cdv) (cxOf (L2.CX P w) P w K mg base ["script", "many", "draws", "seed", "cell", "number", "k"] "_law_draws" (defScope (top 40)) f cdv A outer s H Ex).xe := passes_of (X := (cxOf (L2.CX P w) P w K mg base ["script", "many", "draws", "seed", "cell", "number", "k"] "_law_draws" (defScope (top 40)) f cdv A outer s H Ex)) rfl
  exact (vss_cons (vs_setO nd rfl (.inl rfl) (vp_lst pF_new va_nil)) (vss_cons (vs_set nd rfl (.inl rfl) ve_int) (vss_cons (vs_for hp rfl (vi_any (vp_scrSl pS_new (pv 0))) (vg_name nd rfl (by first | exact .inl rfl | exact .inr rfl)) (vss_cons (vs_set nd rfl (.inl rfl) (ve_abs  rfl fx.b_abs (va_cons kB (VE.b (ve_var 4 (pv 4))) va_nil))) (vss_cons (vs_set nd rfl (.inl rfl) (ve_mod (VE.b (ve_intC  rfl fx.b_int (va_cons kB (VE.b (ve_add (ve_add (ve_mul (VE.b (ve_var 3 (pv 3))) (VE.b ve_int)) (ve_var 5 (pv 5))) ve_int)) va_nil))) (VE.b ve_int))) (vss_one (vs_if (vt_cmp (c_ge hu) (VE.b (ve_var 5 (pv 5))) (VE.b (ve_pow (VE.b ve_int) (VE.b ve_int))) rfl) (vss_one (vs_for hp rfl (vi_rng1 rfl fx.b_range (va_cons kS ve_int va_nil)) (vg_name nd rfl (by first | exact .inl rfl | exact .inr rfl)) (vss_one (vs_if (vt_cmp (c_gt hu) (VE.b (ve_var 5 (pv 5))) (VE.b ve_int) rfl) (vss_cons (vs_append (pv 2) (ve_mod (VE.b (ve_intC  rfl fx.b_int (va_cons kB (VE.b (ve_var 5 (pv 5))) va_nil))) (VE.b ve_int))) (vss_one (vs_set nd rfl (.inl rfl) (ve_fdiv (VE.b (ve_var 5 (pv 5))) (VE.b ve_int))))) vss_nil)))) (vss_one (vs_append (pv 2) (ve_mod (VE.b (ve_fdiv (VE.b (ve_intC  rfl fx.b_int (va_cons kB (VE.b (ve_add (ve_mul (VE.b (ve_var 3 (pv 3))) (VE.b ve_int)) ve_int)) va_nil))) (VE.b ve_int))) (VE.b ve_int))))))))) (vss_cons (vs_for hp rfl (vi_rng1 rfl fx.b_range (va_cons kS (ve_var 1 (pv 1)) va_nil)) (vg_name nd rfl (by first | exact .inl rfl | exact .inr rfl)) (vss_one (vs_if (vt_cmp (c_lt hu) (VE.b (ve_len  rfl fx.b_len (va_cons kB (vb_var 2 (pv 2)) va_nil))) (VE.b (ve_var 1 (pv 1))) rfl) (vss_cons (vs_set nd rfl (.inl rfl) (ve_mod (VE.b (ve_intC  rfl fx.b_int (va_cons kB (VE.b (ve_add (ve_add (ve_mul (VE.b (ve_var 3 (pv 3))) (VE.b ve_int)) (ve_var 6 (pv 6))) ve_int)) va_nil))) (VE.b ve_int))) (vss_one (vs_append (pv 2) (ve_mod (VE.b (ve_fdiv (VE.b (ve_intC  rfl fx.b_int (va_cons kB (VE.b (ve_var 3 (pv 3))) va_nil))) (VE.b ve_int))) (VE.b ve_int))))) vss_nil))) (vss_one (vs_ret (vp_slL pS_new (vb_var 2 (pv 2)) vpt_no (vpt_some (ve_var 1 (pv 1))))))))))
theorem sc_24 : FnScope ["draws", "at", "room", "kind", "names", "size", "number", "more", "ways", "way", "many", "trees", "k", "own", "one"] ["draws", "at", "room", "kind", "names"] (defScope (top 41)) := ⟨rfl, rfl, rfl, by decide +kernel, rfl, by decide +kernel, by decide +kernel⟩
theorem w_24 (fx : Fx K mg) (E : En P w K mg base k c) (f : Addr) (cdv : Value) (A : Around) (outer : List Env) (s : Shared) (H : Hp) (Ex : XK) (W : XW) (hr : Room k (A.deeper (envOfC "_law_tree" (defScope (top 41)) s.heap.objs.size f cdv)))
    (tk : XOk (cxOf (L2.CX P w) P w K mg base ["draws", "at", "room", "kind", "names", "size", "number", "more", "ways", "way", "many", "trees", "k", "own", "one"] "_law_tree" (defScope (top 41)) f cdv A outer s H Ex) W) : VSs (cxOf (L2.CX P w) P w K mg base ["draws", "at", "room", "kind", "names", "size", "number", "more", "ways", "way", "many", "trees", "k", "own", "one"] "_law_tree" (defScope (top 41)) f cdv A outer s H Ex) W (defBody (top 41)) (b_24 c) := by
  have hu : (A.deeper (envOfC "_law_tree" (defScope (top 41)) s.heap.objs.size f cdv)).units + 64 < cLine := hr.units
  have nd : (["draws", "at", "room", "kind", "names", "size", "number", "more", "ways", "way", "many", "trees", "k", "own", "one"] : List Str).Nodup := sc_24.nd
  have hp : PassesOwn (model P w) (A.deeper (envOfC "_law_tree" (defScope (top 41)) s.heap.objs.size f cdv)) (envOfC "_law_tree" (defScope (top 41)) s.heap.objs.size f cdv) (cxOf (L2.CX P w) P w K mg base ["draws", "at", "room", "kind", "names", "size", "number", "more", "ways", "way", "many", "trees", "k", "own", "one"] "_law_tree" (defScope (top 41)) f cdv A outer s H Ex).xe := passes_of (X := (cxOf (L2.CX P w) P w K mg base ["draws", "at", "room", "kind", "names", "size", "number", "more", "ways", "way", "many", "trees", "k", "own", "one"] "_law_tree" (defScope (top 41)) f cdv A outer s H Ex)) rfl
  exact (vss_cons (vs_set nd rfl (.inr rfl) (ve_len  rfl fx.b_len (va_cons kB (VE.b (ve_var 0 (pv 0))) va_nil))) (vss_cons (vs_parG (n := 2) rfl (vm_sh (ve_intC  rfl fx.b_int (va_cons kB (VE.b (ve_ix (hu1 hu) (VE.b (ve_var 0 (pv 0))) (ve_mod (VE.b (ve_var 1 (pv 1))) (VE.b (ve_var 5 (pv 5)))) (fun _ _ => rfl))) va_nil)) (vm_sh (ve_intC  rfl fx.b_int (va_cons kB (VE.b (ve_ix (hu1 hu) (VE.b (ve_var 0 (pv 0))) (ve_mod (VE.b (ve_add (ve_var 1 (pv 1)) ve_int)) (VE.b (ve_var 5 (pv 5)))) (fun _ _ => rfl))) va_nil)) vm_nil)) (pgs_name nd rfl (.inl rfl) (pgs_name nd rfl (.inr rfl) pgs_nil)) rfl rfl rfl (by decide)) (vss_cons (vs_setLc (own := [("one", 14)]) rfl nd rfl rfl (by kernel_rfl) (vi_any (ve_tup (va_cons kS ve_str (va_cons kS ve_str (va_cons kS ve_str va_nil))))) (blkOk_by (by kernel_rfl)) (fun _ _ _ _ _ => (vg_name nd rfl (by first | exact .inl rfl | exact .inr rfl))) (fun _ _ _ _ _ => (vts_one (vt_cmp (c_ne hu) (VE.b (ve_var 14 (pv 14))) (VE.b (ve_var 3 (pv 3))) rfl))) (fun _ _ _ _ _ => (ve_var 14 (pv 14))) (by decide)) (vss_cons (vs_if (vt_w (vw_or (vt_cmp (c_lt hu) (VE.b (ve_var 2 (pv 2))) (VE.b ve_int) rfl) (vw_or (vt_cmp (c_lt hu) (VE.b (ve_len  rfl fx.b_len (va_cons kB (VE.b (ve_var 4 (pv 4))) va_nil))) (VE.b ve_int) rfl) (vw_or1 (vt_cmp (c_eq hu) (VE.b (ve_mod (VE.b (ve_var 6 (pv 6))) (VE.b ve_int))) (VE.b ve_int) rfl))))) (vss_one (vs_ret (ve_tup (va_cons kS ve_str (va_cons kS (ve_ix (hu1 hu) (VE.b (ve_var 4 (pv 4))) ve_int (fun _ _ => rfl)) va_nil))))) vss_nil) (vss_cons (vs_set nd rfl (.inl rfl) (ve_ix (hu1 hu) (VE.b (ve_var 8 (pv 8))) (ve_mod (VE.b (ve_fdiv (VE.b (ve_var 6 (pv 6))) (VE.b ve_int))) (VE.b (ve_len  rfl fx.b_len (va_cons kB (VE.b (ve_var 8 (pv 8))) va_nil)))) (fun _ _ => rfl))) (vss_cons (vs_set nd rfl (.inl rfl) (ve_min2 rfl rfl fx.b_min (va_cons kB (VE.b (ve_len  rfl fx.b_len (va_cons kB (VE.b (ve_var 4 (pv 4))) va_nil))) (va_cons kB (VE.b (ve_add (ve_add (ve_intC  rfl fx.b_int (va_cons kB (VE.b (ve_cmp (c_ne hu) (VE.b (ve_var 9 (pv 9))) (VE.b ve_str) rfl)) va_nil)) ve_int) (ve_mod (VE.b (ve_var 7 (pv 7))) (VE.b ve_int)))) va_nil)))) (vss_cons (vs_setO nd rfl (.inr rfl) (vp_lst pF_new va_nil)) (vss_cons (vs_for hp rfl (vi_rng1 rfl fx.b_range (va_cons kS (ve_var 10 (pv 10)) va_nil)) (vg_name nd rfl (by first | exact .inl rfl | exact .inr rfl)) (vss_cons (vs_set nd rfl (.inl rfl) (ve_sl (ve_var 4 (pv 4)) (vpt_some (ve_fdiv (VE.b (ve_mul (VE.b (ve_var 12 (pv 12))) (VE.b (ve_len  rfl fx.b_len (va_cons kB (VE.b (ve_var 4 (pv 4))) va_nil))))) (VE.b (ve_var 10 (pv 10))))) (vpt_some (ve_fdiv (VE.b (ve_mul (VE.b (ve_add (ve_var 12 (pv 12)) ve_int)) (VE.b (ve_len  rfl fx.b_len (va_cons kB (VE.b (ve_var 4 (pv 4))) va_nil))))) (VE.b (ve_var 10 (pv 10))))))) (vss_one (vs_append (pv 11) (ve_call E.f__law_tree hr tk rfl (va_cons kS (ve_var 0 (pv 0)) (va_cons kS (ve_add (ve_add (ve_var 1 (pv 1)) ve_int) (ve_mul (VE.b ve_int) (VE.b (ve_var 12 (pv 12))))) (va_cons kS (ve_sub (VE.b (ve_var 2 (pv 2))) (VE.b ve_int)) (va_cons kS (ve_var 9 (pv 9)) (va_cons kS (ve_var 13 (pv 13)) va_nil)))))))))) (vss_cons (vs_if (vt_cmp (c_eq hu) (VE.b (ve_var 9 (pv 9))) (VE.b ve_str) rfl) (vss_one (vs_ret (ve_tup (va_cons kS ve_str (va_cons kS (ve_mod (VE.b (ve_fdiv (VE.b (ve_var 7 (pv 7))) (VE.b ve_int))) (VE.b (ve_var 10 (pv 10)))) (va_cons kS (ve_tupB rfl fx.b_tuple (va_cons kB (vb_var 11 (pv 11)) va_nil)) va_nil)))))) vss_nil) (vss_one (vs_ret (ve_tup (va_cons kS (ve_var 9 (pv 9)) (va_cons kS (ve_tupB rfl fx.b_tuple (va_cons kB (vp_lc (own := [("k", 12)]) pB_own rfl nd (vi_rng1 rfl fx.b_range (va_cons kS (ve_var 10 (pv 10)) va_nil)) (blkOk_by (by kernel_rfl)) (fun _ _ _ _ _ => (vg_name nd rfl (by first | exact .inl rfl | exact .inr rfl))) (fun _ _ _ _ _ => vts_nil) (fun _ _ _ _ _ => (ve_tup (va_cons kS (ve_add ve_int (ve_mod (VE.b (ve_intC  rfl fx.b_int (va_cons kB (VE.b (ve_ix (hu1 hu) (VE.b (ve_var 0 (pv 0))) (ve_mod (VE.b (ve_add (ve_add (ve_var 1 (pv 1)) ve_int) (ve_var 12 (pv 12)))) (VE.b (ve_var 5 (pv 5)))) (fun _ _ => rfl))) va_nil))) (VE.b (ve_ix (hu1 hu) (vp_lst pB_new (va_cons kS ve_int (va_cons kS ve_int va_nil))) (ve_mod (VE.b (ve_fdiv (VE.b (ve_var 7 (pv 7))) (VE.b ve_int))) (VE.b ve_int)) (fun _ _ => rfl))))) (va_cons kS (ve_ix (hu1 hu) (vb_var 11 (pv 11)) (ve_var 12 (pv 12)) (fun _ _ => rfl)) va_nil)))) (by decide)) va_nil)) va_nil))))))))))))))
theorem sc_25 : FnScope ["draws", "names"] ["draws"] (defScope (top 42)) := ⟨rfl, rfl, rfl, by decide +kernel, rfl, by decide +kernel, by decide +kernel⟩
theorem w_25 (fx : Fx K mg) (E : En P w K mg base k c) (f : Addr) (cdv : Value) (A : Around) (outer : List Env) (s : Shared) (H : Hp) (Ex : XK) (W : XW) (hr : Room k (A.deeper (envOfC "_law_layout" (defScope (top 42)) s.heap.objs.size f cdv)))
    (tk : XOk (cxOf (L2.CX P w) P w K mg base ["draws", "names"] "_law_layout" (defScope (top 42)) f cdv A outer s H Ex) W) : VSs (cxOf (L2.CX P w) P w K mg base ["draws", "names"] "_law_layout" (defScope (top 42)) f cdv A outer s H Ex) W (defBody (top 42)) (b_25 c) := by
  have hu : (A.deeper (envOfC "_law_layout" (defScope (top 42)) s.heap.objs.size f cdv)).units + 64 < cLine := hr.units
  have nd : (["draws", "names"] : List Str).Nodup := sc_25.nd
  exact (vss_cons (vs_set nd rfl (.inl rfl) (ve_sl (vp_lst pS_new (va_cons kS ve_str (va_cons kS ve_str (va_cons kS ve_str (va_cons kS ve_str (va_cons kS ve_str (va_cons kS ve_str (va_cons kS ve_str (va_cons kS ve_str va_nil))))))))) vpt_no (vpt_some (ve_add ve_int (ve_mod (VE.b (ve_intC  rfl fx.b_int (va_cons kB (VE.b (ve_ix (hu1 hu) (VE.b (ve_var 0 (pv 0))) ve_int (fun _ _ => rfl))) va_nil))) (VE.b ve_int)))))) (vss_one (vs_ret (ve_call E.f__law_tree hr tk rfl (va_cons kS (ve_var 0 (pv 0)) (va_cons kS ve_int (va_cons kS ve_int (va_cons kS ve_str (va_cons kS (ve_var 1 (pv 1)) va_nil)))))))))
theorem sc_26 : FnScope ["tree", "part"] ["tree"] (defScope (top 43)) := ⟨rfl, rfl, rfl, by decide +kernel, rfl, by decide +kernel, by decide +kernel⟩
theorem w_26 (fx : Fx K mg) (E : En P w K mg base k c) (f : Addr) (cdv : Value) (A : Around) (outer : List Env) (s : Shared) (H : Hp) (Ex : XK) (W : XW) (hr : Room k (A.deeper (envOfC "_law_inner" (defScope (top 43)) s.heap.objs.size f cdv)))
    (tk : XOk (cxOf (L2.CX P w) P w K mg base ["tree", "part"] "_law_inner" (defScope (top 43)) f cdv A outer s H Ex) W) : VSs (cxOf (L2.CX P w) P w K mg base ["tree", "part"] "_law_inner" (defScope (top 43)) f cdv A outer s H Ex) W (defBody (top 43)) (b_26 c) := by
  have hu : (A.deeper (envOfC "_law_inner" (defScope (top 43)) s.heap.objs.size f cdv)).units + 64 < cLine := hr.units
  have nd : (["tree", "part"] : List Str).Nodup := sc_26.nd
  exact (vss_one (vs_ret (vp_if pS_mon (vt_cmp (c_eq hu) (VE.b (ve_ix (hu1 hu) (VE.b (ve_var 0 (pv 0))) ve_int (fun _ _ => rfl))) (VE.b ve_str) rfl) (vp_lst pS_new va_nil) (vp_if pS_mon (vt_cmp (c_eq hu) (VE.b (ve_ix (hu1 hu) (VE.b (ve_var 0 (pv 0))) ve_int (fun _ _ => rfl))) (VE.b ve_str) rfl) (vp_list pS_new rfl fx.b_list (va_cons kB (VE.b (ve_ix (hu1 hu) (VE.b (ve_var 0 (pv 0))) ve_int (fun _ _ => rfl))) va_nil)) (vp_lc (own := [("part", 1)]) pS_own rfl nd (vi_any (ve_ix (hu1 hu) (VE.b (ve_var 0 (pv 0))) ve_int (fun _ _ => rfl))) (blkOk_by (by kernel_rfl)) (fun _ _ _ _ _ => (vg_name nd rfl (by first | exact .inl rfl | exact .inr rfl))) (fun _ _ _ _ _ => vts_nil) (fun _ _ _ _ _ => (ve_ix (hu1 hu) (VE.b (ve_var 1 (pv 1))) ve_int (fun _ _ => rfl))) (by decide))))))
theorem sc_27 : FnScope ["tree", "found", "one"] ["tree"] (defScope (top 47)) := ⟨rfl, rfl, rfl, by decide +kernel, rfl, by decide +kernel, by decide +kernel⟩
theorem w_27 (fx : Fx K mg) (E : En P w K mg base k c) (f : Addr) (cdv : Value) (A : Around) (outer : List Env) (s : Shared) (H : Hp) (Ex : XK) (W : XW) (hr : Room k (A.deeper (envOfC "_law_wins" (defScope (top 47)) s.heap.objs.size f cdv)))
    (tk : XOk (cxOf (L2.CX P w) P w K mg base ["tree", "found", "one"] "_law_wins" (defScope (top 47)) f cdv A outer s H Ex) W) : VSs (cxOf (L2.CX P w) P w K mg base ["tree", "found", "one"] "_law_wins" (defScope (top 47)) f cdv A outer s H Ex) W (defBody (top 47)) (b_27 c) := by
  have hu : (A.deeper (envOfC "_law_wins" (defScope (top 47)) s.heap.objs.size f cdv)).units + 64 < cLine := hr.units
  have nd : (["tree", "found", "one"] : List Str).Nodup := sc_27.nd
  have hp : PassesOwn (model P w) (A.deeper (envOfC "_law_wins" (defScope (top 47)) s.heap.objs.size f cdv)) (envOfC "_law_wins" (defScope (top 47)) s.heap.objs.size f cdv) (cxOf (L2.CX P w) P w K mg base ["tree", "found", "one"] "_law_wins" (defScope (top 47)) f cdv A outer s H Ex).xe := passes_of (X := (cxOf (L2.CX P w) P w K mg base ["tree", "found", "one"] "_law_wins" (defScope (top 47)) f cdv A outer s H Ex)) rfl
  exact (vss_cons (vs_set nd rfl (.inl rfl) (vp_if pS_mon (vt_cmp (c_eq hu) (VE.b (ve_ix (hu1 hu) (VE.b (ve_var 0 (pv 0))) ve_int (fun _ _ => rfl))) (VE.b ve_str) rfl) (vp_lst pS_new (va_cons kS (ve_ix (hu1 hu) (VE.b (ve_var 0 (pv 0))) ve_int (fun _ _ => rfl)) va_nil)) (vp_lst pS_new va_nil))) (vss_cons (vs_for hp rfl (vi_any (ve_call E.f__law_inner hr tk rfl (va_cons kS (ve_var 0 (pv 0)) va_nil))) (vg_name nd rfl (by first | exact .inl rfl | exact .inr rfl)) (vss_one (vs_set nd rfl (.inl rfl) (ve_add (ve_var 1 (pv 1)) (ve_call E.f__law_wins hr tk rfl (va_cons kS (ve_var 2 (pv 2)) va_nil)))))) (vss_one (vs_ret (ve_var 1 (pv 1))))))
theorem sc_28 : FnScope ["tree", "names", "inner", "trees", "marks", "k", "new", "first", "later", "parts", "weight", "one", "part"] ["tree", "names"] (defScope (top 48)) := ⟨rfl, rfl, rfl, by decide +kernel, rfl, by decide +kernel, by decide +kernel⟩
theorem w_28 (fx : Fx K mg) (E : En P w K mg base k c) (f : Addr) (cdv : Value) (A : Around) (outer : List Env) (s : Shared) (H : Hp) (Ex : XK) (W : XW) (hr : Room k (A.deeper (envOfC "_law_without" (defScope (top 48)) s.heap.objs.size f cdv)))
    (tk : XOk (cxOf (L2.CX P w) P w K mg base ["tree", "names", "inner", "trees", "marks", "k", "new", "first", "later", "parts", "weight", "one", "part"] "_law_without" (defScope (top 48)) f cdv A outer s H Ex) W) : VSs (cxOf (L2.CX P w) P w K mg base ["tree", "names", "inner", "trees", "marks", "k", "new", "first", "later", "parts", "weight", "one", "part"] "_law_without" (defScope (top 48)) f cdv A outer s H Ex) W (defBody (top 48)) (b_28 c) := by
  have hu : (A.deeper (envOfC "_law_without" (defScope (top 48)) s.heap.objs.size f cdv)).units + 64 < cLine := hr.units
  have nd : (["tree", "names", "inner", "trees", "marks", "k", "new", "first", "later", "parts", "weight", "one", "part"] : List Str).Nodup := sc_28.nd
  have hp : PassesOwn (model P w) (A.deeper (envOfC "_law_without" (defScope (top 48)) s.heap.objs.size f cdv)) (envOfC "_law_without" (defScope (top 48)) s.heap.objs.size f cdv) (cxOf (L2.CX P w) P w K mg base ["tree", "names", "inner", "trees", "marks", "k", "new", "first", "later", "parts", "weight", "one", "part"] "_law_without" (defScope (top 48)) f cdv A outer s H Ex).xe := passes_of (X := (cxOf (L2.CX P w) P w K mg base ["tree", "names", "inner", "trees", "marks", "k", "new", "first", "later", "parts", "weight", "one", "part"] "_law_without" (defScope (top 48)) f cdv A outer s H Ex)) rfl
  exact (vss_cons (vs_if (vt_cmp (c_eq hu) (VE.b (ve_ix (hu1 hu) (VE.b (ve_var 0 (pv 0))) ve_int (fun _ _ => rfl))) (VE.b ve_str) rfl) (vss_one (vs_ret (vp_if pS_mon (vt_in hu (ve_ix (hu1 hu) (VE.b (ve_var 0 (pv 0))) ve_int (fun _ _ => rfl)) (VE.b (ve_var 1 (pv 1))) rfl) ve_non (ve_var 0 (pv 0))))) vss_nil) (vss_cons (vs_setLc (own := [("one", 11)]) rfl nd rfl rfl (by kernel_rfl) (vi_any (ve_call E.f__law_inner hr tk rfl (va_cons kS (ve_var 0 (pv 0)) va_nil))) (blkOk_by (by kernel_rfl)) (fun _ _ _ _ _ => (vg_name nd rfl (by first | exact .inl rfl | exact .inr rfl))) (fun _ _ _ _ _ => vts_nil) (fun _ _ _ _ _ => (ve_call E.f__law_without hr xok0 rfl (va_cons kS (ve_var 11 (pv 11)) (va_cons kS (ve_var 1 (pv 1)) va_nil)))) (by decide)) (vss_cons (vs_if (vt_cmp (c_eq hu) (VE.b (ve_ix (hu1 hu) (VE.b (ve_var 0 (pv 0))) ve_int (fun _ _ => rfl))) (VE.b ve_str) rfl) (vss_cons (vs_par2 rfl nd rfl rfl (by decide) rfl rfl (vm_sh (vp_lst pS_new va_nil) (vm_sh (vp_lst pS_new va_nil) vm_nil)) rfl) (vss_cons (vs_for hp rfl (vi_rng1 rfl fx.b_range (va_cons kS (ve_len  rfl fx.b_len (va_cons kB (VE.b (ve_var 2 (pv 2))) va_nil)) va_nil)) (vg_name nd rfl (by first | exact .inl rfl | exact .inr rfl)) (vss_one (vs_if (vt_notN (VE.b (ve_ix (hu1 hu) (VE.b (ve_var 2 (pv 2))) (ve_var 5 (pv 5)) (fun _ _ => rfl)))) (vss_cons (vs_set nd rfl (.inl rfl) (vp_if pS_mon (vt_cmp (c_eq hu) (VE.b (ve_ix (hu1 hu) (VE.b (ve_ix (hu1 hu) (VE.b (ve_var 2 (pv 2))) (ve_var 5 (pv 5)) (fun _ _ => rfl))) ve_int (fun _ _ => rfl))) (VE.b ve_str) rfl) (vp_list pS_new rfl fx.b_list (va_cons kB (VE.b (ve_ix (hu1 hu) (VE.b (ve_ix (hu1 hu) (VE.b (ve_var 2 (pv 2))) (ve_var 5 (pv 5)) (fun _ _ => rfl))) ve_int (fun _ _ => rfl))) va_nil)) (vp_lst pS_new (va_cons kS (ve_ix (hu1 hu) (VE.b (ve_var 2 (pv 2))) (ve_var 5 (pv 5)) (fun _ _ => rfl)) va_nil)))) (vss_cons (vs_set nd rfl (.inl rfl) (ve_add (ve_len  rfl fx.b_len (va_cons kB (VE.b (ve_var 3 (pv 3))) va_nil)) (vp_if pS_mon (vt_cmp (c_eq hu) (VE.b (ve_ix (hu1 hu) (VE.b (ve_ix (hu1 hu) (VE.b (ve_var 2 (pv 2))) (ve_var 5 (pv 5)) (fun _ _ => rfl))) ve_int (fun _ _ => rfl))) (VE.b ve_str) rfl) (ve_ix (hu1 hu) (VE.b (ve_ix (hu1 hu) (VE.b (ve_var 2 (pv 2))) (ve_var 5 (pv 5)) (fun _ _ => rfl))) ve_int (fun _ _ => rfl)) ve_int))) (vss_one (vs_par2 rfl nd rfl rfl (by decide) rfl rfl (vm_sh (ve_add (ve_var 3 (pv 3)) (ve_var 6 (pv 6))) (vm_sh (ve_add (ve_var 4 (pv 4)) (vp_lst pS_new (va_cons kS (ve_tup (va_cons kS (ve_var 5 (pv 5)) (va_cons kS (ve_var 7 (pv 7)) va_nil))) va_nil))) vm_nil)) rfl)))) vss_nil))) (vss_cons (vs_setLc (own := [("k", 5), ("first", 7)]) rfl nd rfl rfl (by kernel_rfl) (vi_any (ve_var 4 (pv 4))) (blkOk_by (by kernel_rfl)) (fun _ _ _ _ _ => (vg_tup rfl (vgs_cons (vg_name nd rfl (by first | exact .inl rfl | exact .inr rfl)) (vgs_cons (vg_name nd rfl (by first | exact .inl rfl | exact .inr rfl)) vgs_nil)))) (fun _ _ _ _ _ => (vts_one (vt_cmp (c_ge hu) (VE.b (ve_var 5 (pv 5))) (VE.b (ve_ix (hu1 hu) (VE.b (ve_var 0 (pv 0))) ve_int (fun _ _ => rfl))) rfl))) (fun _ _ _ _ _ => (ve_var 7 (pv 7))) (by decide)) (vss_one (vs_ret (vp_if pS_mon (vt_cmp (c_gt hu) (VE.b (ve_len  rfl fx.b_len (va_cons kB (VE.b (ve_var 3 (pv 3))) va_nil))) (VE.b ve_int) rfl) (ve_tup (va_cons kS ve_str (va_cons kS (vp_if pS_mon (vt_cmp (c_gt hu) (VE.b (ve_len  rfl fx.b_len (va_cons kB (VE.b (ve_var 8 (pv 8))) va_nil))) (VE.b ve_int) rfl) (ve_ix (hu1 hu) (VE.b (ve_var 8 (pv 8))) ve_int (fun _ _ => rfl)) (ve_sub (VE.b (ve_len  rfl fx.b_len (va_cons kB (VE.b (ve_var 3 (pv 3))) va_nil))) (VE.b ve_int))) (va_cons kS (ve_tupA rfl fx.b_tuple (va_cons kS (ve_var 3 (pv 3)) va_nil)) va_nil)))) ve_non)))))) vss_nil) (vss_cons (vs_set nd rfl (.inl rfl) (vp_lst pS_new va_nil)) (vss_cons (vs_for hp rfl (vi_rng1 rfl fx.b_range (va_cons kS (ve_len  rfl fx.b_len (va_cons kB (VE.b (ve_var 2 (pv 2))) va_nil)) va_nil)) (vg_name nd rfl (by first | exact .inl rfl | exact .inr rfl)) (vss_one (vs_if (vt_notN (VE.b (ve_ix (hu1 hu) (VE.b (ve_var 2 (pv 2))) (ve_var 5 (pv 5)) (fun _ _ => rfl)))) (vss_cons (vs_set nd rfl (.inr rfl) (ve_ix (hu1 hu) (VE.b (ve_ix (hu1 hu) (VE.b (ve_ix (hu1 hu) (VE.b (ve_var 0 (pv 0))) ve_int (fun _ _ => rfl))) (ve_var 5 (pv 5)) (fun _ _ => rfl))) ve_int (fun _ _ => rfl))) (vss_one (vs_set nd rfl (.inl rfl) (ve_add (ve_var 9 (pv 9)) (vp_if pS_mon (vt_cmp (c_eq hu) (VE.b (ve_ix (hu1 hu) (VE.b (ve_ix (hu1 hu) (VE.b (ve_var 2 (pv 2))) (ve_var 5 (pv 5)) (fun _ _ => rfl))) ve_int (fun _ _ => rfl))) (VE.b (ve_ix (hu1 hu) (VE.b (ve_var 0 (pv 0))) ve_int (fun _ _ => rfl))) rfl) (vp_lc (own := [("part", 12)]) pS_own rfl nd (vi_any (ve_ix (hu1 hu) (VE.b (ve_ix (hu1 hu) (VE.b (ve_var 2 (pv 2))) (ve_var 5 (pv 5)) (fun _ _ => rfl))) ve_int (fun _ _ => rfl))) (blkOk_by (by kernel_rfl)) (fun _ _ _ _ _ => (vg_name nd rfl (by first | exact .inl rfl | exact .inr rfl))) (fun _ _ _ _ _ => vts_nil) (fun _ _ _ _ _ => (ve_tup (va_cons kS (ve_var 10 (pv 10)) (va_cons kS (ve_ix (hu1 hu) (VE.b (ve_var 12 (pv 12))) ve_int (fun _ _ => rfl)) va_nil)))) (by decide)) (vp_lst pS_new (va_cons kS (ve_tup (va_cons kS (ve_var 10 (pv 10)) (va_cons kS (ve_ix (hu1 hu) (VE.b (ve_var 2 (pv 2))) (ve_var 5 (pv 5)) (fun _ _ => rfl)) va_nil))) va_nil))))))) vss_nil))) (vss_one (vs_ret (vp_if pS_mon (vt_cmp (c_eq hu) (VE.b (ve_len  rfl fx.b_len (va_cons kB (VE.b (ve_var 9 (pv 9))) va_nil))) (VE.b ve_int) rfl) ve_non (vp_if pS_mon (vt_cmp (c_eq hu) (VE.b (ve_len  rfl fx.b_len (va_cons kB (VE.b (ve_var 9 (pv 9))) va_nil))) (VE.b ve_int) rfl) (ve_ix (hu1 hu) (VE.b (ve_ix (hu1 hu) (VE.b (ve_var 9 (pv 9))) ve_int (fun _ _ => rfl))) ve_int (fun _ _ => rfl)) (ve_tup (va_cons kS (ve_ix (hu1 hu) (VE.b (ve_var 0 (pv 0))) ve_int (fun _ _ => rfl)) (va_cons kS (ve_tupA rfl fx.b_tuple (va_cons kS (ve_var 9 (pv 9)) va_nil)) va_nil))))))))))))
theorem sc_29 : FnScope ["tree", "place", "rows", "inner", "k"] ["tree", "place"] (defScope (top 49)) := ⟨rfl, rfl, rfl, by decide +kernel, rfl, by decide +kernel, by decide +kernel⟩
theorem w_29 (fx : Fx K mg) (E : En P w K mg base k c) (f : Addr) (cdv : Value) (A : Around) (outer : List Env) (s : Shared) (H : Hp) (Ex : XK) (W : XW) (hr : Room k (A.deeper (envOfC "_law_trees" (defScope (top 49)) s.heap.objs.size f cdv)))
    (tk : XOk (cxOf (L2.CX P w) P w K mg base ["tree", "place", "rows", "inner", "k"] "_law_trees" (defScope (top 49)) f cdv A outer s H Ex) W) : VSs (cxOf (L2.CX P w) P w K mg base ["tree", "place", "rows", "inner", "k"] "_law_trees" (defScope (top 49)) f cdv A outer s H Ex) W (defBody (top 49)) (b_29 c) := by
  have hu : (A.deeper (envOfC "_law_trees" (defScope (top 49)) s.heap.objs.size f cdv)).units + 64 < cLine := hr.units
  have nd : (["tree", "place", "rows", "inner", "k"] : List Str).Nodup := sc_29.nd
  have hp : PassesOwn (model P w) (A.deeper (envOfC "_law_trees" (defScope (top 49)) s.heap.objs.size f cdv)) (envOfC "_law_trees" (defScope (top 49)) s.heap.objs.size f cdv) (cxOf (L2.CX P w) P w K mg base ["tree", "place", "rows", "inner", "k"] "_law_trees" (defScope (top 49)) f cdv A outer s H Ex).xe := passes_of (X := (cxOf (L2.CX P w) P w K mg base ["tree", "place", "rows", "inner", "k"] "_law_trees" (defScope (top 49)) f cdv A outer s H Ex)) rfl
  exact (vss_cons (vs_par2 rfl nd rfl rfl (by decide) rfl rfl (vm_sh (vp_lst pS_new (va_cons kS (ve_tup (va_cons kS (ve_var 1 (pv 1)) (va_cons kS (ve_var 0 (pv 0)) va_nil))) va_nil)) (vm_sh (ve_call E.f__law_inner hr tk rfl (va_cons kS (ve_var 0 (pv 0)) va_nil)) vm_nil)) rfl) (vss_cons (vs_for hp rfl (vi_rng1 rfl fx.b_range (va_cons kS (ve_len  rfl fx.b_len (va_cons kB (VE.b (ve_var 3 (pv 3))) va_nil)) va_nil)) (vg_name nd rfl (by first | exact .inl rfl | exact .inr rfl)) (vss_one (vs_set nd rfl (.inl rfl) (ve_add (ve_var 2 (pv 2)) (ve_call E.f__law_trees hr tk rfl (va_cons kS (ve_ix (hu1 hu) (VE.b (ve_var 3 (pv 3))) (ve_var 4 (pv 4)) (fun _ _ => rfl)) (va_cons kS (ve_add (ve_var 1 (pv 1)) (ve_tup (va_cons kS (ve_var 4 (pv 4)) va_nil))) va_nil))))))) (vss_one (vs_ret (ve_var 2 (pv 2))))))
theorem sc_30 : FnScope ["tree", "names", "good", "place", "one", "name"] ["tree", "names"] (defScope (top 50)) := ⟨rfl, rfl, rfl, by decide +kernel, rfl, by decide +kernel, by decide +kernel⟩
theorem w_30 (fx : Fx K mg) (E : En P w K mg base k c) (f : Addr) (cdv : Value) (A : Around) (outer : List Env) (s : Shared) (H : Hp) (Ex : XK) (W : XW) (hr : Room k (A.deeper (envOfC "_law_common" (defScope (top 50)) s.heap.objs.size f cdv)))
    (tk : XOk (cxOf (L2.CX P w) P w K mg base ["tree", "names", "good", "place", "one", "name"] "_law_common" (defScope (top 50)) f cdv A outer s H Ex) W) : VSs (cxOf (L2.CX P w) P w K mg base ["tree", "names", "good", "place", "one", "name"] "_law_common" (defScope (top 50)) f cdv A outer s H Ex) W (defBody (top 50)) (b_30 c) := by
  have hu : (A.deeper (envOfC "_law_common" (defScope (top 50)) s.heap.objs.size f cdv)).units + 64 < cLine := hr.units
  have nd : (["tree", "names", "good", "place", "one", "name"] : List Str).Nodup := sc_30.nd
  exact (vss_cons (vs_set nd rfl (.inl rfl) (vp_sortedA pS_new rfl hu rfl fx.b_sorted (va_cons kB (vp_lc (own := [("place", 3), ("one", 4)]) pB_own rfl nd (vi_any (ve_call E.f__law_trees hr tk rfl (va_cons kS (ve_var 0 (pv 0)) (va_cons kS (ve_tup va_nil) va_nil)))) (blkOk_by (by kernel_rfl)) (fun _ _ _ _ _ => (vg_tup rfl (vgs_cons (vg_name nd rfl (by first | exact .inl rfl | exact .inr rfl)) (vgs_cons (vg_name nd rfl (by first | exact .inl rfl | exact .inr rfl)) vgs_nil)))) (fun _ _ _ _ _ => (vts_one (vt_val (ve_all rfl rfl fx.b_all (va_cons kB (vp_lc (own := [("name", 5)]) pB_own rfl nd (vi_any (ve_var 1 (pv 1))) (blkOk_by (by kernel_rfl)) (fun _ _ _ _ _ => (vg_name nd rfl (by first | exact .inl rfl | exact .inr rfl))) (fun _ _ _ _ _ => vts_nil) (fun _ _ _ _ _ => (ve_in hu (ve_var 5 (pv 5)) (VE.b (ve_call E.f__law_wins hr xok0 rfl (va_cons kS (ve_var 4 (pv 4)) va_nil))) rfl)) (by decide)) va_nil)) (by intro _; rfl)))) (fun _ _ _ _ _ => (ve_tup (va_cons kS (ve_len  rfl fx.b_len (va_cons kB (VE.b (ve_var 3 (pv 3))) va_nil)) (va_cons kS (ve_var 3 (pv 3)) va_nil)))) (by decide)) va_nil))) (vss_one (vs_ret (ve_ix (hu1 hu) (VE.b (ve_ix (hu1 hu) (VE.b (ve_var 2 (pv 2))) (ve_neg (VE.b ve_int)) (fun _ _ => rfl))) ve_int (fun _ _ => rfl)))))
theorem sc_31 : FnScope ["call", "one", "two", "three"] ["call", "one", "two", "three"] (defScope (top 51)) := ⟨rfl, rfl, rfl, by decide +kernel, rfl, by decide +kernel, by decide +kernel⟩
theorem w_31 (fx : Fx K mg) (E : En P w K mg base k c) (f : Addr) (cdv : Value) (A : Around) (outer : List Env) (s : Shared) (H : Hp) (Ex : XK) (W : XW) (hr : Room k (A.deeper (envOfC "_law_error" (defScope (top 51)) s.heap.objs.size f cdv)))
    (tk : XOk (cxOf (L2.CX P w) P w K mg base ["call", "one", "two", "three"] "_law_error" (defScope (top 51)) f cdv A outer s H Ex) W) : VSs (cxOf (L2.CX P w) P w K mg base ["call", "one", "two", "three"] "_law_error" (defScope (top 51)) f cdv A outer s H Ex) W (defBody (top 51)) (b_31 c) := by
  have hu : (A.deeper (envOfC "_law_error" (defScope (top 51)) s.heap.objs.size f cdv)).units + 64 < cLine := hr.units
  have nd : (["call", "one", "two", "three"] : List Str).Nodup := sc_31.nd
  have hp : PassesOwn (model P w) (A.deeper (envOfC "_law_error" (defScope (top 51)) s.heap.objs.size f cdv)) (envOfC "_law_error" (defScope (top 51)) s.heap.objs.size f cdv) (cxOf (L2.CX P w) P w K mg base ["call", "one", "two", "three"] "_law_error" (defScope (top 51)) f cdv A outer s H Ex).xe := passes_of (X := (cxOf (L2.CX P w) P w K mg base ["call", "one", "two", "three"] "_law_error" (defScope (top 51)) f cdv A outer s H Ex)) rfl
  exact (vss_cons (vs_try rfl rfl tk (fun pn xe W' tk' hp' => (vss_one (vs_if (vt_cmp (c_eq hu) (VE.b (ve_var 0 (pv 0))) (VE.b ve_int) rfl) (vss_one (vs_expr (P := pS _) (ve_call E.f_without hr tk' rfl (va_cons kS (ve_var 1 (pv 1)) (va_cons kS (ve_var 2 (pv 2)) va_nil))))) (vss_one (vs_if (vt_cmp (c_eq hu) (VE.b (ve_var 0 (pv 0))) (VE.b ve_int) rfl) (vss_one (vs_expr (P := pS _) (ve_call E.f_common_tree hr tk' rfl (va_cons kS (ve_var 1 (pv 1)) (va_cons kS (ve_var 2 (pv 2)) va_nil))))) (vss_one (vs_expr (P := pS _) (ve_call E.f_together hr tk' rfl (va_cons kS (ve_var 1 (pv 1)) (va_cons kS (ve_var 2 (pv 2)) (va_cons kS (ve_var 3 (pv 3)) va_nil))))))))))) (.cons ⟨rfl, by decide, .inl fx.g_BadLayout⟩ (htOk_cons fx.g_BadLayout fx.m_BadLayout_BadLayout (htOk_cons fx.g_BadNames fx.m_BadNames_BadLayout (htOk_cons fx.g_NoWindow fx.m_NoWindow_BadLayout htOk_nil))) (fun _ => rfl) (fun a pn => vss_one (vs_ret ve_str)) (.cons ⟨rfl, by decide, .inl fx.g_BadNames⟩ (htOk_cons fx.g_BadLayout fx.m_BadLayout_BadNames (htOk_cons fx.g_BadNames fx.m_BadNames_BadNames (htOk_cons fx.g_NoWindow fx.m_NoWindow_BadNames htOk_nil))) (fun _ => rfl) (fun a pn => vss_one (vs_ret ve_str)) (.cons ⟨rfl, by decide, .inl fx.g_NoWindow⟩ (htOk_cons fx.g_BadLayout fx.m_BadLayout_NoWindow (htOk_cons fx.g_BadNames fx.m_BadNames_NoWindow (htOk_cons fx.g_NoWindow fx.m_NoWindow_NoWindow htOk_nil))) (fun _ => rfl) (fun a pn => vss_one (vs_ret ve_str)) .nil)))) (vss_one (vs_ret ve_str)))
theorem sc_32 : FnScope ["script", "draws", "layout", "names", "k", "number", "some", "left", "kept", "twice", "own", "place", "one", "two", "kind", "wrong", "name", "j", "tree"] ["script"] (defScope (top 52)) := ⟨rfl, rfl, rfl, by decide +kernel, rfl, by decide +kernel, by decide +kernel⟩
theorem w_32 (fx : Fx K mg) (E : En P w K mg base k c) (f : Addr) (cdv : Value) (A : Around) (outer : List Env) (s : Shared) (H : Hp) (Ex : XK) (W : XW) (hr : Room k (A.deeper (envOfC "law" (defScope (top 52)) s.heap.objs.size f cdv)))
    (tk : XOk (cxOf (L2.CX P w) P w K mg base ["script", "draws", "layout", "names", "k", "number", "some", "left", "kept", "twice", "own", "place", "one", "two", "kind", "wrong", "name", "j", "tree"] "law" (defScope (top 52)) f cdv A outer s H Ex) W) : VSs (cxOf (L2.CX P w) P w K mg base ["script", "draws", "layout", "names", "k", "number", "some", "left", "kept", "twice", "own", "place", "one", "two", "kind", "wrong", "name", "j", "tree"] "law" (defScope (top 52)) f cdv A outer s H Ex) W (defBody (top 52)) (b_32 c) := by
  have hu : (A.deeper (envOfC "law" (defScope (top 52)) s.heap.objs.size f cdv)).units + 64 < cLine := hr.units
  have nd : (["script", "draws", "layout", "names", "k", "number", "some", "left", "kept", "twice", "own", "place", "one", "two", "kind", "wrong", "name", "j", "tree"] : List Str).Nodup := sc_32.nd
  have hp : PassesOwn (model P w) (A.deeper (envOfC "law" (defScope (top 52)) s.heap.objs.size f cdv)) (envOfC "law" (defScope (top 52)) s.heap.objs.size f cdv) (cxOf (L2.CX P w) P w K mg base ["script", "draws", "layout", "names", "k", "number", "some", "left", "kept", "twice", "own", "place", "one", "two", "kind", "wrong", "name", "j", "tree"] "law" (defScope (top 52)) f cdv A outer s H Ex).xe := passes_of (X := (cxOf (L2.CX P w) P w K mg base ["script", "draws", "layout", "names", "k", "number", "some", "left", "kept", "twice", "own", "place", "one", "two", "kind", "wrong", "name", "j", "tree"] "law" (defScope (top 52)) f cdv A outer s H Ex)) rfl
  exact (vss_cons (vs_set nd rfl (.inl rfl) (ve_callScr E.f__law_draws hr tk rfl (pv 0) ve_int)) (vss_cons (vs_set nd rfl (.inr rfl) (ve_call E.f__law_layout hr tk rfl (va_cons kS (ve_sl (ve_var 1 (pv 1)) vpt_no (vpt_some ve_int)) va_nil))) (vss_cons (vs_set nd rfl (.inr rfl) (ve_call E.f__law_wins hr tk rfl (va_cons kS (ve_var 2 (pv 2)) va_nil))) (vss_cons (vs_if (vt_not (vt_val (ve_call E.f_is_layout hr tk rfl (va_cons kS (ve_var 2 (pv 2)) va_nil)) (by intro _; rfl))) (vss_one (vs_ret ve_bl)) vss_nil) (vss_cons (vs_for hp rfl (vi_rng1 rfl fx.b_range (va_cons kS ve_int va_nil)) (vg_name nd rfl (by first | exact .inl rfl | exact .inr rfl)) (vss_cons (vs_set nd rfl (.inr rfl) (ve_intC  rfl fx.b_int (va_cons kB (VE.b (ve_ix (hu1 hu) (VE.b (ve_var 1 (pv 1))) (ve_add ve_int (ve_var 4 (pv 4))) (fun _ _ => rfl))) va_nil))) (vss_cons (vs_set nd rfl (.inr rfl) (ve_tupB rfl fx.b_tuple (va_cons kB (vp_sortedA pB_new rfl hu rfl fx.b_sorted (va_cons kB (VE.b (ve_add (vp_lc (own := [("j", 17)]) pS_own rfl nd (vi_rng1 rfl fx.b_range (va_cons kS (ve_len  rfl fx.b_len (va_cons kB (VE.b (ve_var 3 (pv 3))) va_nil)) va_nil)) (blkOk_by (by kernel_rfl)) (fun _ _ _ _ _ => (vg_name nd rfl (by first | exact .inl rfl | exact .inr rfl))) (fun _ _ _ _ _ => (vts_one (vt_cmp (c_eq hu) (VE.b (ve_mod (VE.b (ve_fdiv (VE.b (ve_var 5 (pv 5))) (VE.b (ve_ix (hu1 hu) (vp_lst pB_new (va_cons kS ve_int (va_cons kS ve_int (va_cons kS ve_int (va_cons kS ve_int (va_cons kS ve_int (va_cons kS ve_int (va_cons kS ve_int (va_cons kS ve_int va_nil))))))))) (ve_var 17 (pv 17)) (fun _ _ => rfl))))) (VE.b ve_int))) (VE.b ve_int) rfl))) (fun _ _ _ _ _ => (ve_ix (hu1 hu) (VE.b (ve_var 3 (pv 3))) (ve_var 17 (pv 17)) (fun _ _ => rfl))) (by decide)) (vp_if pS_mon (vt_cmp (c_eq hu) (VE.b (ve_mod (VE.b (ve_fdiv (VE.b (ve_var 5 (pv 5))) (VE.b ve_int))) (VE.b ve_int))) (VE.b ve_int) rfl) (vp_lst pS_new (va_cons kS ve_str (va_cons kS ve_str va_nil))) (vp_lst pS_new va_nil)))) va_nil)) va_nil))) (vss_cons (vs_set nd rfl (.inr rfl) (ve_tupB rfl fx.b_tuple (va_cons kB (vp_sortedA pB_new rfl hu rfl fx.b_sorted (va_cons kB (VE.b (ve_var 6 (pv 6))) va_nil)) va_nil))) (vss_cons (vs_set nd rfl (.inr rfl) (ve_call E.f_without hr tk rfl (va_cons kS (ve_var 2 (pv 2)) (va_cons kS (ve_var 6 (pv 6)) va_nil)))) (vss_cons (vs_if (vt_w (vw_or (vt_cmp (c_ne hu) (VE.b (ve_var 7 (pv 7))) (VE.b (ve_call E.f__law_without hr tk rfl (va_cons kS (ve_var 2 (pv 2)) (va_cons kS (ve_var 6 (pv 6)) va_nil)))) rfl) (vw_or1 (vt_cmp (c_ne hu) (VE.b (ve_isN (VE.b (ve_var 7 (pv 7))))) (VE.b (ve_all rfl rfl fx.b_all (va_cons kB (vp_lc (own := [("name", 16)]) pB_own rfl nd (vi_any (ve_var 3 (pv 3))) (blkOk_by (by kernel_rfl)) (fun _ _ _ _ _ => (vg_name nd rfl (by first | exact .inl rfl | exact .inr rfl))) (fun _ _ _ _ _ => vts_nil) (fun _ _ _ _ _ => (ve_in hu (ve_var 16 (pv 16)) (VE.b (ve_var 6 (pv 6))) rfl)) (by decide)) va_nil))) rfl)))) (vss_one (vs_ret ve_bl)) vss_nil) (vss_cons (vs_if (vt_notN (VE.b (ve_var 7 (pv 7)))) (vss_cons (vs_if (vt_w (vw_or (vt_cmp (c_notB hu) (VE.b (ve_call E.f_is_layout hr tk rfl (va_cons kS (ve_var 7 (pv 7)) va_nil))) (VE.b ve_bl) rfl) (vw_or1 (vt_cmp (c_ne hu) (VE.b (ve_call E.f_windows_of hr tk rfl (va_cons kS (ve_var 7 (pv 7)) va_nil))) (VE.b (ve_tupB rfl fx.b_tuple (va_cons kB (vp_lc (own := [("name", 16)]) pB_own rfl nd (vi_any (ve_var 3 (pv 3))) (blkOk_by (by kernel_rfl)) (fun _ _ _ _ _ => (vg_name nd rfl (by first | exact .inl rfl | exact .inr rfl))) (fun _ _ _ _ _ => (vts_one (vt_notIn hu (ve_var 16 (pv 16)) (VE.b (ve_var 6 (pv 6))) rfl))) (fun _ _ _ _ _ => (ve_var 16 (pv 16))) (by decide)) va_nil))) rfl)))) (vss_one (vs_ret ve_bl)) vss_nil) (vss_cons (vs_setLc (own := [("name", 16)]) rfl nd rfl rfl (by kernel_rfl) (vi_any (ve_call E.f_shown_windows hr tk rfl (va_cons kS (ve_var 2 (pv 2)) va_nil))) (blkOk_by (by kernel_rfl)) (fun _ _ _ _ _ => (vg_name nd rfl (by first | exact .inl rfl | exact .inr rfl))) (fun _ _ _ _ _ => (vts_one (vt_notIn hu (ve_var 16 (pv 16)) (VE.b (ve_var 6 (pv 6))) rfl))) (fun _ _ _ _ _ => (ve_var 16 (pv 16))) (by decide)) (vss_cons (vs_if (vt_not (vt_val (ve_all rfl rfl fx.b_all (va_cons kB (vp_lc (own := [("name", 16)]) pB_own rfl nd (vi_any (ve_var 8 (pv 8))) (blkOk_by (by kernel_rfl)) (fun _ _ _ _ _ => (vg_name nd rfl (by first | exact .inl rfl | exact .inr rfl))) (fun _ _ _ _ _ => vts_nil) (fun _ _ _ _ _ => (ve_in hu (ve_var 16 (pv 16)) (VE.b (ve_call E.f_shown_windows hr xok0 rfl (va_cons kS (ve_var 7 (pv 7)) va_nil))) rfl)) (by decide)) va_nil)) (by intro _; rfl))) (vss_one (vs_ret ve_bl)) vss_nil) (vss_cons (vs_set nd rfl (.inl rfl) (vp_if pS_mon (vt_cmp (c_gt hu) (VE.b (ve_len  rfl fx.b_len (va_cons kB (VE.b (ve_var 6 (pv 6))) va_nil))) (VE.b ve_int) rfl) (ve_call E.f_without hr tk rfl (va_cons kS (ve_var 7 (pv 7)) (va_cons kS (ve_sl (ve_var 6 (pv 6)) vpt_no (vpt_some ve_int)) va_nil))) (ve_var 7 (pv 7)))) (vss_one (vs_if (vt_w (vw_or (vt_cmp (c_ne hu) (VE.b (ve_var 9 (pv 9))) (VE.b (ve_var 7 (pv 7))) rfl) (vw_or1 (vt_isN (VE.b (ve_call E.f_without hr tk rfl (va_cons kS (ve_call E.f_without hr tk rfl (va_cons kS (ve_var 2 (pv 2)) (va_cons kS (ve_sl (ve_var 6 (pv 6)) vpt_no (vpt_some ve_int)) va_nil))) (va_cons kS (ve_sl (ve_var 6 (pv 6)) (vpt_some ve_int) vpt_no) va_nil)))))))) (vss_one (vs_ret ve_bl)) vss_nil)))))) vss_nil) (vss_cons (vs_set nd rfl (.inl rfl) (ve_tupB rfl fx.b_tuple (va_cons kB (vp_lc (own := [("name", 16)]) pB_own rfl nd (vi_any (vp_sortedA pS_new rfl hu rfl fx.b_sorted (va_cons kB (VE.b (ve_var 3 (pv 3))) va_nil))) (blkOk_by (by kernel_rfl)) (fun _ _ _ _ _ => (vg_name nd rfl (by first | exact .inl rfl | exact .inr rfl))) (fun _ _ _ _ _ => (vts_one (vt_in hu (ve_var 16 (pv 16)) (VE.b (ve_var 6 (pv 6))) rfl))) (fun _ _ _ _ _ => (ve_var 16 (pv 16))) (by decide)) va_nil))) (vss_cons (vs_if (vt_cmp (c_gt hu) (VE.b (ve_len  rfl fx.b_len (va_cons kB (VE.b (ve_var 10 (pv 10))) va_nil))) (VE.b ve_int) rfl) (vss_cons (vs_set nd rfl (.inl rfl) (ve_call E.f__law_common hr tk rfl (va_cons kS (ve_var 2 (pv 2)) (va_cons kS (ve_var 10 (pv 10)) va_nil)))) (vss_one (vs_if (vt_cmp (c_ne hu) (VE.b (ve_call E.f_common_tree hr tk rfl (va_cons kS (ve_var 2 (pv 2)) (va_cons kS (ve_var 10 (pv 10)) va_nil)))) (VE.b (ve_var 11 (pv 11))) rfl) (vss_one (vs_ret ve_bl)) vss_nil))) vss_nil) (vss_cons (vs_parG (n := 2) rfl (vm_sh (ve_ix (hu1 hu) (VE.b (ve_var 3 (pv 3))) (ve_mod (VE.b (ve_var 5 (pv 5))) (VE.b (ve_len  rfl fx.b_len (va_cons kB (VE.b (ve_var 3 (pv 3))) va_nil)))) (fun _ _ => rfl)) (vm_sh (ve_ix (hu1 hu) (VE.b (ve_var 3 (pv 3))) (ve_mod (VE.b (ve_fdiv (VE.b (ve_var 5 (pv 5))) (VE.b ve_int))) (VE.b (ve_len  rfl fx.b_len (va_cons kB (VE.b (ve_var 3 (pv 3))) va_nil)))) (fun _ _ => rfl)) vm_nil)) (pgs_name nd rfl (.inr rfl) (pgs_name nd rfl (.inr rfl) pgs_nil)) rfl rfl rfl (by decide)) (vss_one (vs_if (vt_cmp (c_ne hu) (VE.b (ve_var 12 (pv 12))) (VE.b (ve_var 13 (pv 13))) rfl) (vss_cons (vs_set nd rfl (.inl rfl) (ve_ix (hu1 hu) (VE.b (ve_ix (hu1 hu) (vp_lc (own := [("place", 11), ("tree", 18)]) pB_own rfl nd (vi_any (ve_call E.f__law_trees hr tk rfl (va_cons kS (ve_var 2 (pv 2)) (va_cons kS (ve_tup va_nil) va_nil)))) (blkOk_by (by kernel_rfl)) (fun _ _ _ _ _ => (vg_tup rfl (vgs_cons (vg_name nd rfl (by first | exact .inl rfl | exact .inr rfl)) (vgs_cons (vg_name nd rfl (by first | exact .inl rfl | exact .inr rfl)) vgs_nil)))) (fun _ _ _ _ _ => (vts_one (vt_cmp (c_eq hu) (VE.b (ve_var 11 (pv 11))) (VE.b (ve_call E.f__law_common hr xok0 rfl (va_cons kS (ve_var 2 (pv 2)) (va_cons kS (vp_lst pS_new (va_cons kS (ve_var 12 (pv 12)) (va_cons kS (ve_var 13 (pv 13)) va_nil))) va_nil)))) rfl))) (fun _ _ _ _ _ => (ve_var 18 (pv 18))) (by decide)) ve_int (fun _ _ => rfl))) ve_int (fun _ _ => rfl))) (vss_one (vs_if (vt_w (vw_or (vt_cmp (c_ne hu) (VE.b (ve_call E.f_together hr tk rfl (va_cons kS (ve_var 2 (pv 2)) (va_cons kS (ve_var 12 (pv 12)) (va_cons kS (ve_var 13 (pv 13)) va_nil))))) (VE.b (ve_var 14 (pv 14))) rfl) (vw_or1 (vt_cmp (c_ne hu) (VE.b (ve_call E.f_together hr tk rfl (va_cons kS (ve_var 2 (pv 2)) (va_cons kS (ve_var 13 (pv 13)) (va_cons kS (ve_var 12 (pv 12)) va_nil))))) (VE.b (ve_var 14 (pv 14))) rfl)))) (vss_one (vs_ret ve_bl)) vss_nil))) (vss_one (vs_if (vt_cmp (c_ne hu) (VE.b (ve_call E.f__law_error hr tk rfl (va_cons kS ve_int (va_cons kS (ve_var 2 (pv 2)) (va_cons kS (ve_var 12 (pv 12)) (va_cons kS (ve_var 13 (pv 13)) va_nil)))))) (VE.b ve_str) rfl) (vss_one (vs_ret ve_bl)) vss_nil)))))))))))))) (vss_cons (vs_if (vt_w (vw_or (vt_cmp (c_ne hu) (VE.b (ve_call E.f_without hr tk rfl (va_cons kS (ve_var 2 (pv 2)) (va_cons kS (ve_tup va_nil) va_nil)))) (VE.b (ve_var 2 (pv 2))) rfl) (vw_or1 (vt_notN (VE.b (ve_call E.f_without hr tk rfl (va_cons kS (ve_var 2 (pv 2)) (va_cons kS (ve_tupB rfl fx.b_tuple (va_cons kB (vp_sortedA pB_new rfl hu rfl fx.b_sorted (va_cons kB (VE.b (ve_var 3 (pv 3))) va_nil)) va_nil)) va_nil)))))))) (vss_one (vs_ret ve_bl)) vss_nil) (vss_cons (vs_for hp rfl (vi_any (ve_tup (va_cons kS ve_non (va_cons kS (vp_lst pS_new va_nil) (va_cons kS (ve_tup (va_cons kS ve_str (va_cons kS ve_str va_nil))) (va_cons kS (ve_tup (va_cons kS ve_str (va_cons kS (ve_tup va_nil) va_nil))) va_nil)))))) (vg_name nd rfl (by first | exact .inl rfl | exact .inr rfl)) (vss_one (vs_if (vt_cmp (c_ne hu) (vp_lst pB_new (va_cons kS (ve_call E.f__law_error hr tk rfl (va_cons kS ve_int (va_cons kS (ve_var 15 (pv 15)) (va_cons kS (ve_tup va_nil) (va_cons kS ve_non va_nil))))) (va_cons kS (ve_call E.f__law_error hr tk rfl (va_cons kS ve_int (va_cons kS (ve_var 15 (pv 15)) (va_cons kS (ve_tup (va_cons kS ve_str va_nil)) (va_cons kS ve_non va_nil))))) (va_cons kS (ve_call E.f__law_error hr tk rfl (va_cons kS ve_int (va_cons kS (ve_var 15 (pv 15)) (va_cons kS ve_str (va_cons kS ve_str va_nil))))) va_nil)))) (vp_repL pB_new (vp_lst pB_new (va_cons kS ve_str va_nil)) (VE.b ve_int)) rfl) (vss_one (vs_ret ve_bl)) vss_nil))) (vss_cons (vs_if (vt_cmp (c_ne hu) (vp_lc (own := [("wrong", 15)]) pB_own rfl nd (vi_any (ve_tup (va_cons kS ve_non (va_cons kS (vp_lst pS_new (va_cons kS ve_str va_nil)) (va_cons kS (ve_tup (va_cons kS ve_str (va_cons kS ve_str va_nil))) (va_cons kS (ve_tup (va_cons kS ve_str (va_cons kS ve_str va_nil))) (va_cons kS (ve_tup (va_cons kS ve_int va_nil)) va_nil))))))) (blkOk_by (by kernel_rfl)) (fun _ _ _ _ _ => (vg_name nd rfl (by first | exact .inl rfl | exact .inr rfl))) (fun _ _ _ _ _ => vts_nil) (fun _ _ _ _ _ => (ve_call E.f__law_error hr xok0 rfl (va_cons kS ve_int (va_cons kS (ve_var 2 (pv 2)) (va_cons kS (ve_var 15 (pv 15)) (va_cons kS ve_non va_nil)))))) (by decide)) (vp_repL pB_new (vp_lst pB_new (va_cons kS ve_str va_nil)) (VE.b ve_int)) rfl) (vss_one (vs_ret ve_bl)) vss_nil) (vss_cons (vs_if (vt_cmp (c_ne hu) (vp_lc (own := [("wrong", 15)]) pB_own rfl nd (vi_any (ve_tup (va_cons kS ve_non (va_cons kS (ve_tup va_nil) (va_cons kS (vp_lst pS_new (va_cons kS ve_str va_nil)) (va_cons kS (ve_tup (va_cons kS ve_str va_nil)) (va_cons kS (ve_tup (va_cons kS ve_str (va_cons kS ve_str va_nil))) (va_cons kS (ve_tup (va_cons kS ve_int va_nil)) va_nil)))))))) (blkOk_by (by kernel_rfl)) (fun _ _ _ _ _ => (vg_name nd rfl (by first | exact .inl rfl | exact .inr rfl))) (fun _ _ _ _ _ => vts_nil) (fun _ _ _ _ _ => (ve_call E.f__law_error hr xok0 rfl (va_cons kS ve_int (va_cons kS (ve_var 2 (pv 2)) (va_cons kS (ve_var 15 (pv 15)) (va_cons kS ve_non va_nil)))))) (by decide)) (vp_repL pB_new (vp_lst pB_new (va_cons kS ve_str va_nil)) (VE.b ve_int)) rfl) (vss_one (vs_ret ve_bl)) vss_nil) (vss_one (vs_ret (ve_and (ve_cmp (c_eq hu) (vp_lc (own := [("wrong", 15)]) pB_own rfl nd (vi_any (ve_tup (va_cons kS ve_non (va_cons kS ve_str (va_cons kS ve_int (va_cons kS ve_str va_nil)))))) (blkOk_by (by kernel_rfl)) (fun _ _ _ _ _ => (vg_name nd rfl (by first | exact .inl rfl | exact .inr rfl))) (fun _ _ _ _ _ => vts_nil) (fun _ _ _ _ _ => (ve_call E.f__law_error hr xok0 rfl (va_cons kS ve_int (va_cons kS (ve_var 2 (pv 2)) (va_cons kS (ve_var 15 (pv 15)) (va_cons kS (ve_ix (hu1 hu) (VE.b (ve_var 3 (pv 3))) ve_int (fun _ _ => rfl)) va_nil)))))) (by decide)) (vp_repL pB_new (vp_lst pB_new (va_cons kS ve_str va_nil)) (VE.b ve_int)) rfl) (ve_one (ve_cmp (c_eq hu) (vp_lc (own := [("wrong", 15)]) pB_own rfl nd (vi_any (ve_tup (va_cons kS ve_non (va_cons kS ve_str (va_cons kS ve_int va_nil))))) (blkOk_by (by kernel_rfl)) (fun _ _ _ _ _ => (vg_name nd rfl (by first | exact .inl rfl | exact .inr rfl))) (fun _ _ _ _ _ => vts_nil) (fun _ _ _ _ _ => (ve_call E.f__law_error hr xok0 rfl (va_cons kS ve_int (va_cons kS (ve_var 2 (pv 2)) (va_cons kS (ve_ix (hu1 hu) (VE.b (ve_var 3 (pv 3))) ve_int (fun _ _ => rfl)) (va_cons kS (ve_var 15 (pv 15)) va_nil)))))) (by decide)) (vp_repL pB_new (vp_lst pB_new (va_cons kS ve_str va_nil)) (VE.b ve_int)) rfl))))))))))))))
end
end KL
end
section
open PySem PySem.Spec PyProof.Rows L2 VS
namespace KL
def d__common : He.DefD := ⟨("_common", none), "_common", "_common", defArgs (top 36), defBody (top 36), defScope (top 36), [], []⟩
def d__holds : He.DefD := ⟨("_holds", none), "_holds", "_holds", defArgs (top 35), defBody (top 35), defScope (top 35), [], []⟩
def d__is_part : He.DefD := ⟨("_is_part", none), "_is_part", "_is_part", defArgs (top 18), defBody (top 18), defScope (top 18), [], []⟩
def d__is_tree : He.DefD := ⟨("_is_tree", none), "_is_tree", "_is_tree", defArgs (top 19), defBody (top 19), defScope (top 19), [], []⟩
def d__law_common : He.DefD := ⟨("_law_common", none), "_law_common", "_law_common", defArgs (top 50), defBody (top 50), defScope (top 50), [], []⟩
def d__law_draws : He.DefD := ⟨("_law_draws", none), "_law_draws", "_law_draws", defArgs (top 40), defBody (top 40), defScope (top 40), [], []⟩
def d__law_error : He.DefD := ⟨("_law_error", none), "_law_error", "_law_error", defArgs (top 51), defBody (top 51), defScope (top 51), [], []⟩
def d__law_inner : He.DefD := ⟨("_law_inner", none), "_law_inner", "_law_inner", defArgs (top 43), defBody (top 43), defScope (top 43), [], []⟩
def d__law_layout : He.DefD := ⟨("_law_layout", none), "_law_layout", "_law_layout", defArgs (top 42), defBody (top 42), defScope (top 42), [], []⟩
def d__law_tree : He.DefD := ⟨("_law_tree", none), "_law_tree", "_law_tree", defArgs (top 41), defBody (top 41), defScope (top 41), [], []⟩
def d__law_trees : He.DefD := ⟨("_law_trees", none), "_law_trees", "_law_trees", defArgs (top 49), defBody (top 49), defScope (top 49), [], []⟩
def d__law_wins : He.DefD := ⟨("_law_wins", none), "_law_wins", "_law_wins", defArgs (top 47), defBody (top 47), defScope (top 47), [], []⟩
def d__law_without : He.DefD := ⟨("_law_without", none), "_law_without", "_law_without", defArgs (top 48), defBody (top 48), defScope (top 48), [], []⟩
def d__left_tabs : He.DefD := ⟨("_left_tabs", none), "_left_tabs", "_left_tabs", defArgs (top 31), defBody (top 31), defScope (top 31), [], []⟩
def d_all_places : He.DefD := ⟨("all_places", none), "all_places", "all_places", defArgs (top 27), defBody (top 27), defScope (top 27), [], []⟩
def d_ascends : He.DefD := ⟨("ascends", none), "ascends", "ascends", defArgs (top 16), defBody (top 16), defScope (top 16), [], []⟩
def d_check_layout : He.DefD := ⟨("check_layout", none), "check_layout", "check_layout", defArgs (top 23), defBody (top 23), defScope (top 23), [], []⟩
def d_check_names : He.DefD := ⟨("check_names", none), "check_names", "check_names", defArgs (top 30), defBody (top 30), defScope (top 30), [], []⟩
def d_common_tree : He.DefD := ⟨("common_tree", none), "common_tree", "common_tree", defArgs (top 37), defBody (top 37), defScope (top 37), [], []⟩
def d_gathered : He.DefD := ⟨("gathered", none), "gathered", "gathered", defArgs (top 33), defBody (top 33), defScope (top 33), [], []⟩
def d_inner_trees : He.DefD := ⟨("inner_trees", none), "inner_trees", "inner_trees", defArgs (top 20), defBody (top 20), defScope (top 20), [], []⟩
def d_is_layout : He.DefD := ⟨("is_layout", none), "is_layout", "is_layout", defArgs (top 22), defBody (top 22), defScope (top 22), [], []⟩
def d_is_name : He.DefD := ⟨("is_name", none), "is_name", "is_name", defArgs (top 17), defBody (top 17), defScope (top 17), [], []⟩
def d_is_whole : He.DefD := ⟨("is_whole", none), "is_whole", "is_whole", defArgs (top 15), defBody (top 15), defScope (top 15), [], []⟩
def d_law : He.DefD := ⟨("law", none), "law", "law", defArgs (top 52), defBody (top 52), defScope (top 52), [], []⟩
def d_left_of : He.DefD := ⟨("left_of", none), "left_of", "left_of", defArgs (top 32), defBody (top 32), defScope (top 32), [], []⟩
def d_names_of : He.DefD := ⟨("names_of", none), "names_of", "names_of", defArgs (top 21), defBody (top 21), defScope (top 21), [], []⟩
def d_shown_names : He.DefD := ⟨("shown_names", none), "shown_names", "shown_names", defArgs (top 25), defBody (top 25), defScope (top 25), [], []⟩
def d_shown_windows : He.DefD := ⟨("shown_windows", none), "shown_windows", "shown_windows", defArgs (top 26), defBody (top 26), defScope (top 26), [], []⟩
def d_together : He.DefD := ⟨("together", none), "together", "together", defArgs (top 38), defBody (top 38), defScope (top 38), [], []⟩
def d_tree_in : He.DefD := ⟨("tree_in", none), "tree_in", "tree_in", defArgs (top 28), defBody (top 28), defScope (top 28), [], []⟩
def d_windows_of : He.DefD := ⟨("windows_of", none), "windows_of", "windows_of", defArgs (top 24), defBody (top 24), defScope (top 24), [], []⟩
def d_without : He.DefD := ⟨("without", none), "without", "without", defArgs (top 34), defBody (top 34), defScope (top 34), [], []⟩
def fn : List He.DefD := [d__common, d__holds, d__is_part, d__is_tree, d__law_common, d__law_draws, d__law_error, d__law_inner, d__law_layout, d__law_tree, d__law_trees, d__law_wins, d__law_without, d__left_tabs, d_all_places, d_ascends, d_check_layout, d_check_names, d_common_tree, d_gathered, d_inner_trees, d_is_layout, d_is_name, d_is_whole, d_law, d_left_of, d_names_of, d_shown_names, d_shown_windows, d_together, d_tree_in, d_windows_of, d_without]
def fa : List He.Fa := [.free "abs", .free "all", .free "bool", .free "enumerate", .free "int", .free "isinstance", .free "len", .free "list", .free "max", .free "min", .free "range", .free "sorted", .free "str", .free "tuple", .free "zip", .str "COL" "col", .str "LETTERS" "abcdefghijklmnopqrstuvwxyz", .int "MOST_DEPTH" 8, .int "MOST_SIGNS" 8, .int "MOST_WEIGHT" 12, .int "MOST_WINDOWS" 16, .str "ROW" "row", .str "TABS" "tabs", .str "WIN" "win", .glo "BadLayout", .glo "BadNames", .glo "NoWindow", .exc "BadLayout", .exc "BadNames", .exc "NoWindow", .exm "BadLayout" "BadLayout" true, .exm "BadLayout" "BadNames" false, .exm "BadLayout" "NoWindow" false, .exm "BadNames" "BadLayout" false, .exm "BadNames" "BadNames" true, .exm "BadNames" "NoWindow" false, .exm "NoWindow" "BadLayout" false, .exm "NoWindow" "BadNames" false, .exm "NoWindow" "NoWindow" true, .glo "_common", .glo "_holds", .glo "_is_part", .glo "_is_tree", .glo "_law_common", .glo "_law_draws", .glo "_law_error", .glo "_law_inner", .glo "_law_layout", .glo "_law_tree", .glo "_law_trees", .glo "_law_wins", .glo "_law_without", .glo "_left_tabs", .glo "all_places", .glo "ascends", .glo "check_layout", .glo "check_names", .glo "common_tree", .glo "gathered", .glo "inner_trees", .glo "is_layout", .glo "is_name", .glo "is_whole", .glo "law", .glo "left_of", .glo "names_of", .glo "shown_names", .glo "shown_windows", .glo "together", .glo "tree_in", .glo "windows_of", .glo "without"]
theorem fx_of {K : PySem.W.Frag} {h : Heap} {mg : Str → Option Value} (X : K.In h) (G : h.Ns mainGlobals mg) (c : He.SaysD fa fn K) : Fx K mg :=
  ⟨He.free_ok X G (c.fact 0 (f := .free "abs") rfl), He.free_ok X G (c.fact 1 (f := .free "all") rfl), He.free_ok X G (c.fact 2 (f := .free "bool") rfl), He.free_ok X G (c.fact 3 (f := .free "enumerate") rfl), He.free_ok X G (c.fact 4 (f := .free "int") rfl), He.free_ok X G (c.fact 5 (f := .free "isinstance") rfl), He.free_ok X G (c.fact 6 (f := .free "len") rfl), He.free_ok X G (c.fact 7 (f := .free "list") rfl), He.free_ok X G (c.fact 8 (f := .free "max") rfl), He.free_ok X G (c.fact 9 (f := .free "min") rfl), He.free_ok X G (c.fact 10 (f := .free "range") rfl), He.free_ok X G (c.fact 11 (f := .free "sorted") rfl), He.free_ok X G (c.fact 12 (f := .free "str") rfl), He.free_ok X G (c.fact 13 (f := .free "tuple") rfl), He.free_ok X G (c.fact 14 (f := .free "zip") rfl), He.str_ok X G (c.fact 15 (f := .str "COL" "col") rfl), He.str_ok X G (c.fact 16 (f := .str "LETTERS" "abcdefghijklmnopqrstuvwxyz") rfl), He.int_ok X G (c.fact 17 (f := .int "MOST_DEPTH" 8) rfl), He.int_ok X G (c.fact 18 (f := .int "MOST_SIGNS" 8) rfl), He.int_ok X G (c.fact 19 (f := .int "MOST_WEIGHT" 12) rfl), He.int_ok X G (c.fact 20 (f := .int "MOST_WINDOWS" 16) rfl), He.str_ok X G (c.fact 21 (f := .str "ROW" "row") rfl), He.str_ok X G (c.fact 22 (f := .str "TABS" "tabs") rfl), He.str_ok X G (c.fact 23 (f := .str "WIN" "win") rfl), He.glo_ok X G (c.fact 24 (f := .glo "BadLayout") rfl), He.glo_ok X G (c.fact 25 (f := .glo "BadNames") rfl), He.glo_ok X G (c.fact 26 (f := .glo "NoWindow") rfl), excF_of (He.glo_ok X G (c.fact 24 (f := .glo "BadLayout") rfl)) (He.exc_ok (c.fact 27 (f := .exc "BadLayout") rfl)), excF_of (He.glo_ok X G (c.fact 25 (f := .glo "BadNames") rfl)) (He.exc_ok (c.fact 28 (f := .exc "BadNames") rfl)), excF_of (He.glo_ok X G (c.fact 26 (f := .glo "NoWindow") rfl)) (He.exc_ok (c.fact 29 (f := .exc "NoWindow") rfl)), He.exm_ok (c.fact 30 (f := .exm "BadLayout" "BadLayout" true) rfl), He.exm_ok (c.fact 31 (f := .exm "BadLayout" "BadNames" false) rfl), He.exm_ok (c.fact 32 (f := .exm "BadLayout" "NoWindow" false) rfl), He.exm_ok (c.fact 33 (f := .exm "BadNames" "BadLayout" false) rfl), He.exm_ok (c.fact 34 (f := .exm "BadNames" "BadNames" true) rfl), He.exm_ok (c.fact 35 (f := .exm "BadNames" "NoWindow" false) rfl), He.exm_ok (c.fact 36 (f := .exm "NoWindow" "BadLayout" false) rfl), He.exm_ok (c.fact 37 (f := .exm "NoWindow" "BadNames" false) rfl), He.exm_ok (c.fact 38 (f := .exm "NoWindow" "NoWindow" true) rfl)⟩
/-- every def at every level -/
structure All (P : Program) (w : World) (K : PySem.W.Frag) (mg : Str → Option Value) (base : Heap) (k : Nat) : Prop where
  a__common : FnE P w K mg base k "_common" 2 (den k 20)
  a__holds : FnE P w K mg base k "_holds" 2 (den k 19)
  a__is_part : FnE P w K mg base k "_is_part" 3 (den k 3)
  a__is_tree : FnE P w K mg base k "_is_tree" 2 (den k 4)
  a__law_common : FnE P w K mg base k "_law_common" 2 (den k 30)
  a__law_draws : FnE P w K mg base k "_law_draws" 2 (den k 23)
  a__law_error : FnE P w K mg base k "_law_error" 4 (den k 31)
  a__law_inner : FnE P w K mg base k "_law_inner" 1 (den k 26)
  a__law_layout : FnE P w K mg base k "_law_layout" 1 (den k 25)
  a__law_tree : FnE P w K mg base k "_law_tree" 5 (den k 24)
  a__law_trees : FnE P w K mg base k "_law_trees" 2 (den k 29)
  a__law_wins : FnE P w K mg base k "_law_wins" 1 (den k 27)
  a__law_without : FnE P w K mg base k "_law_without" 2 (den k 28)
  a__left_tabs : FnE P w K mg base k "_left_tabs" 2 (den k 15)
  a_all_places : FnE P w K mg base k "all_places" 1 (den k 12)
  a_ascends : FnE P w K mg base k "ascends" 1 (den k 1)
  a_check_layout : FnE P w K mg base k "check_layout" 1 (den k 8)
  a_check_names : FnE P w K mg base k "check_names" 1 (den k 14)
  a_common_tree : FnE P w K mg base k "common_tree" 2 (den k 21)
  a_gathered : FnE P w K mg base k "gathered" 2 (den k 17)
  a_inner_trees : FnE P w K mg base k "inner_trees" 1 (den k 5)
  a_is_layout : FnE P w K mg base k "is_layout" 1 (den k 7)
  a_is_name : FnE P w K mg base k "is_name" 1 (den k 2)
  a_is_whole : FnE P w K mg base k "is_whole" 3 (den k 0)
  a_law : FnE P w K mg base k "law" 1 (den k 32)
  a_left_of : FnE P w K mg base k "left_of" 2 (den k 16)
  a_names_of : FnE P w K mg base k "names_of" 1 (den k 6)
  a_shown_names : FnE P w K mg base k "shown_names" 1 (den k 10)
  a_shown_windows : FnE P w K mg base k "shown_windows" 1 (den k 11)
  a_together : FnE P w K mg base k "together" 3 (den k 22)
  a_tree_in : FnE P w K mg base k "tree_in" 2 (den k 13)
  a_windows_of : FnE P w K mg base k "windows_of" 1 (den k 9)
  a_without : FnE P w K mg base k "without" 2 (den k 18)
theorem all {P : Program} {w : World} {K : PySem.W.Frag} {h : Heap} {mg : Str → Option Value} (X : K.In h) (G : h.Ns mainGlobals mg) (c : He.SaysD fa fn K) (base : Heap) : ∀ k, All P w K mg base k := by
  have fx := fx_of X G c
  obtain ⟨fd__common, F__common⟩ := c.def_ 0 (d := d__common) rfl
  have B__common : Binds K fd__common ["layout", "names"] [] := FunD.bindsN F__common fun _ _ _ _ _ _ us hl => match us, hl with | [_, _], _ => rfl
  have g__common := He.glo_ok X G (c.fact 39 (f := .glo "_common") rfl)
  obtain ⟨fd__holds, F__holds⟩ := c.def_ 1 (d := d__holds) rfl
  have B__holds : Binds K fd__holds ["tree", "names"] [] := FunD.bindsN F__holds fun _ _ _ _ _ _ us hl => match us, hl with | [_, _], _ => rfl
  have g__holds := He.glo_ok X G (c.fact 40 (f := .glo "_holds") rfl)
  obtain ⟨fd__is_part, F__is_part⟩ := c.def_ 2 (d := d__is_part) rfl
  have B__is_part : Binds K fd__is_part ["value", "kind", "room"] [] := FunD.bindsN F__is_part fun _ _ _ _ _ _ us hl => match us, hl with | [_, _, _], _ => rfl
  have g__is_part := He.glo_ok X G (c.fact 41 (f := .glo "_is_part") rfl)
  obtain ⟨fd__is_tree, F__is_tree⟩ := c.def_ 3 (d := d__is_tree) rfl
  have B__is_tree : Binds K fd__is_tree ["value", "room"] [] := FunD.bindsN F__is_tree fun _ _ _ _ _ _ us hl => match us, hl with | [_, _], _ => rfl
  have g__is_tree := He.glo_ok X G (c.fact 42 (f := .glo "_is_tree") rfl)
  obtain ⟨fd__law_common, F__law_common⟩ := c.def_ 4 (d := d__law_common) rfl
  have B__law_common : Binds K fd__law_common ["tree", "names"] [] := FunD.bindsN F__law_common fun _ _ _ _ _ _ us hl => match us, hl with | [_, _], _ => rfl
  have g__law_common := He.glo_ok X G (c.fact 43 (f := .glo "_law_common") rfl)
  obtain ⟨fd__law_draws, F__law_draws⟩ := c.def_ 5 (d := d__law_draws) rfl
  have B__law_draws : Binds K fd__law_draws ["script", "many"] [] := FunD.bindsN F__law_draws fun _ _ _ _ _ _ us hl => match us, hl with | [_, _], _ => rfl
  have g__law_draws := He.glo_ok X G (c.fact 44 (f := .glo "_law_draws") rfl)
  obtain ⟨fd__law_error, F__law_error⟩ := c.def_ 6 (d := d__law_error) rfl
  have B__law_error : Binds K fd__law_error ["call", "one", "two", "three"] [] := FunD.bindsN F__law_error fun _ _ _ _ _ _ us hl => match us, hl with | [_, _, _, _], _ => rfl
  have g__law_error := He.glo_ok X G (c.fact 45 (f := .glo "_law_error") rfl)
  obtain ⟨fd__law_inner, F__law_inner⟩ := c.def_ 7 (d := d__law_inner) rfl
  have B__law_inner : Binds K fd__law_inner ["tree"] [] := FunD.bindsN F__law_inner fun _ _ _ _ _ _ us hl => match us, hl with | [_], _ => rfl
  have g__law_inner := He.glo_ok X G (c.fact 46 (f := .glo "_law_inner") rfl)
  obtain ⟨fd__law_layout, F__law_layout⟩ := c.def_ 8 (d := d__law_layout) rfl
  have B__law_layout : Binds K fd__law_layout ["draws"] [] := FunD.bindsN F__law_layout fun _ _ _ _ _ _ us hl => match us, hl with | [_], _ => rfl
  have g__law_layout := He.glo_ok X G (c.fact 47 (f := .glo "_law_layout") rfl)
  obtain ⟨fd__law_tree, F__law_tree⟩ := c.def_ 9 (d := d__law_tree) rfl
  have B__law_tree : Binds K fd__law_tree ["draws", "at", "room", "kind", "names"] [] := FunD.bindsN F__law_tree fun _ _ _ _ _ _ us hl => match us, hl with | [_, _, _, _, _], _ => rfl
  have g__law_tree := He.glo_ok X G (c.fact 48 (f := .glo "_law_tree") rfl)
  obtain ⟨fd__law_trees, F__law_trees⟩ := c.def_ 10 (d := d__law_trees) rfl
  have B__law_trees : Binds K fd__law_trees ["tree", "place"] [] := FunD.bindsN F__law_trees fun _ _ _ _ _ _ us hl => match us, hl with | [_, _], _ => rfl
  have g__law_trees := He.glo_ok X G (c.fact 49 (f := .glo "_law_trees") rfl)
  obtain ⟨fd__law_wins, F__law_wins⟩ := c.def_ 11 (d := d__law_wins) rfl
  have B__law_wins : Binds K fd__law_wins ["tree"] [] := FunD.bindsN F__law_wins fun _ _ _ _ _ _ us hl => match us, hl with | [_], _ => rfl
  have g__law_wins := He.glo_ok X G (c.fact 50 (f := .glo "_law_wins") rfl)
  obtain ⟨fd__law_without, F__law_without⟩ := c.def_ 12 (d := d__law_without) rfl
  have B__law_without : Binds K fd__law_without ["tree", "names"] [] := FunD.bindsN F__law_without fun _ _ _ _ _ _ us hl => match us, hl with | [_, _], _ => rfl
  have g__law_without := He.glo_ok X G (c.fact 51 (f := .glo "_law_without") rfl)
  obtain ⟨fd__left_tabs, F__left_tabs⟩ := c.def_ 13 (d := d__left_tabs) rfl
  have B__left_tabs : Binds K fd__left_tabs ["tree", "names"] [] := FunD.bindsN F__left_tabs fun _ _ _ _ _ _ us hl => match us, hl with | [_, _], _ => rfl
  have g__left_tabs := He.glo_ok X G (c.fact 52 (f := .glo "_left_tabs") rfl)
  obtain ⟨fd_all_places, F_all_places⟩ := c.def_ 14 (d := d_all_places) rfl
  have B_all_places : Binds K fd_all_places ["tree"] [] := FunD.bindsN F_all_places fun _ _ _ _ _ _ us hl => match us, hl with | [_], _ => rfl
  have g_all_places := He.glo_ok X G (c.fact 53 (f := .glo "all_places") rfl)
  obtain ⟨fd_ascends, F_ascends⟩ := c.def_ 15 (d := d_ascends) rfl
  have B_ascends : Binds K fd_ascends ["values"] [] := FunD.bindsN F_ascends fun _ _ _ _ _ _ us hl => match us, hl with | [_], _ => rfl
  have g_ascends := He.glo_ok X G (c.fact 54 (f := .glo "ascends") rfl)
  obtain ⟨fd_check_layout, F_check_layout⟩ := c.def_ 16 (d := d_check_layout) rfl
  have B_check_layout : Binds K fd_check_layout ["layout"] [] := FunD.bindsN F_check_layout fun _ _ _ _ _ _ us hl => match us, hl with | [_], _ => rfl
  have g_check_layout := He.glo_ok X G (c.fact 55 (f := .glo "check_layout") rfl)
  obtain ⟨fd_check_names, F_check_names⟩ := c.def_ 17 (d := d_check_names) rfl
  have B_check_names : Binds K fd_check_names ["names"] [] := FunD.bindsN F_check_names fun _ _ _ _ _ _ us hl => match us, hl with | [_], _ => rfl
  have g_check_names := He.glo_ok X G (c.fact 56 (f := .glo "check_names") rfl)
  obtain ⟨fd_common_tree, F_common_tree⟩ := c.def_ 18 (d := d_common_tree) rfl
  have B_common_tree : Binds K fd_common_tree ["layout", "names"] [] := FunD.bindsN F_common_tree fun _ _ _ _ _ _ us hl => match us, hl with | [_, _], _ => rfl
  have g_common_tree := He.glo_ok X G (c.fact 57 (f := .glo "common_tree") rfl)
  obtain ⟨fd_gathered, F_gathered⟩ := c.def_ 19 (d := d_gathered) rfl
  have B_gathered : Binds K fd_gathered ["kind", "parts"] [] := FunD.bindsN F_gathered fun _ _ _ _ _ _ us hl => match us, hl with | [_, _], _ => rfl
  have g_gathered := He.glo_ok X G (c.fact 58 (f := .glo "gathered") rfl)
  obtain ⟨fd_inner_trees, F_inner_trees⟩ := c.def_ 20 (d := d_inner_trees) rfl
  have B_inner_trees : Binds K fd_inner_trees ["tree"] [] := FunD.bindsN F_inner_trees fun _ _ _ _ _ _ us hl => match us, hl with | [_], _ => rfl
  have g_inner_trees := He.glo_ok X G (c.fact 59 (f := .glo "inner_trees") rfl)
  obtain ⟨fd_is_layout, F_is_layout⟩ := c.def_ 21 (d := d_is_layout) rfl
  have B_is_layout : Binds K fd_is_layout ["value"] [] := FunD.bindsN F_is_layout fun _ _ _ _ _ _ us hl => match us, hl with | [_], _ => rfl
  have g_is_layout := He.glo_ok X G (c.fact 60 (f := .glo "is_layout") rfl)
  obtain ⟨fd_is_name, F_is_name⟩ := c.def_ 22 (d := d_is_name) rfl
  have B_is_name : Binds K fd_is_name ["value"] [] := FunD.bindsN F_is_name fun _ _ _ _ _ _ us hl => match us, hl with | [_], _ => rfl
  have g_is_name := He.glo_ok X G (c.fact 61 (f := .glo "is_name") rfl)
  obtain ⟨fd_is_whole, F_is_whole⟩ := c.def_ 23 (d := d_is_whole) rfl
  have B_is_whole : Binds K fd_is_whole ["value", "least", "most"] [] := FunD.bindsN F_is_whole fun _ _ _ _ _ _ us hl => match us, hl with | [_, _, _], _ => rfl
  have g_is_whole := He.glo_ok X G (c.fact 62 (f := .glo "is_whole") rfl)
  obtain ⟨fd_law, F_law⟩ := c.def_ 24 (d := d_law) rfl
  have B_law : Binds K fd_law ["script"] [] := FunD.bindsN F_law fun _ _ _ _ _ _ us hl => match us, hl with | [_], _ => rfl
  have g_law := He.glo_ok X G (c.fact 63 (f := .glo "law") rfl)
  obtain ⟨fd_left_of, F_left_of⟩ := c.def_ 25 (d := d_left_of) rfl
  have B_left_of : Binds K fd_left_of ["tree", "names"] [] := FunD.bindsN F_left_of fun _ _ _ _ _ _ us hl => match us, hl with | [_, _], _ => rfl
  have g_left_of := He.glo_ok X G (c.fact 64 (f := .glo "left_of") rfl)
  obtain ⟨fd_names_of, F_names_of⟩ := c.def_ 26 (d := d_names_of) rfl
  have B_names_of : Binds K fd_names_of ["tree"] [] := FunD.bindsN F_names_of fun _ _ _ _ _ _ us hl => match us, hl with | [_], _ => rfl
  have g_names_of := He.glo_ok X G (c.fact 65 (f := .glo "names_of") rfl)
  obtain ⟨fd_shown_names, F_shown_names⟩ := c.def_ 27 (d := d_shown_names) rfl
  have B_shown_names : Binds K fd_shown_names ["tree"] [] := FunD.bindsN F_shown_names fun _ _ _ _ _ _ us hl => match us, hl with | [_], _ => rfl
  have g_shown_names := He.glo_ok X G (c.fact 66 (f := .glo "shown_names") rfl)
  obtain ⟨fd_shown_windows, F_shown_windows⟩ := c.def_ 28 (d := d_shown_windows) rfl
  have B_shown_windows : Binds K fd_shown_windows ["layout"] [] := FunD.bindsN F_shown_windows fun _ _ _ _ _ _ us hl => match us, hl with | [_], _ => rfl
  have g_shown_windows := He.glo_ok X G (c.fact 67 (f := .glo "shown_windows") rfl)
  obtain ⟨fd_together, F_together⟩ := c.def_ 29 (d := d_together) rfl
  have B_together : Binds K fd_together ["layout", "name", "other"] [] := FunD.bindsN F_together fun _ _ _ _ _ _ us hl => match us, hl with | [_, _, _], _ => rfl
  have g_together := He.glo_ok X G (c.fact 68 (f := .glo "together") rfl)
  obtain ⟨fd_tree_in, F_tree_in⟩ := c.def_ 30 (d := d_tree_in) rfl
  have B_tree_in : Binds K fd_tree_in ["tree", "place"] [] := FunD.bindsN F_tree_in fun _ _ _ _ _ _ us hl => match us, hl with | [_, _], _ => rfl
  have g_tree_in := He.glo_ok X G (c.fact 69 (f := .glo "tree_in") rfl)
  obtain ⟨fd_windows_of, F_windows_of⟩ := c.def_ 31 (d := d_windows_of) rfl
  have B_windows_of : Binds K fd_windows_of ["layout"] [] := FunD.bindsN F_windows_of fun _ _ _ _ _ _ us hl => match us, hl with | [_], _ => rfl
  have g_windows_of := He.glo_ok X G (c.fact 70 (f := .glo "windows_of") rfl)
  obtain ⟨fd_without, F_without⟩ := c.def_ 32 (d := d_without) rfl
  have B_without : Binds K fd_without ["layout", "names"] [] := FunD.bindsN F_without fun _ _ _ _ _ _ us hl => match us, hl with | [_, _], _ => rfl
  have g_without := He.glo_ok X G (c.fact 71 (f := .glo "without") rfl)
  intro k
  induction k with
  | zero => exact ⟨⟨_, fd__common, ["layout", "names"], fn_zero 2 (fun _ h => h), g__common, F__common.kp, B__common⟩, ⟨_, fd__holds, ["tree", "names"], fn_zero 2 (fun _ h => h), g__holds, F__holds.kp, B__holds⟩, ⟨_, fd__is_part, ["value", "kind", "room"], fn_zero 3 (fun _ h => h), g__is_part, F__is_part.kp, B__is_part⟩, ⟨_, fd__is_tree, ["value", "room"], fn_zero 2 (fun _ h => h), g__is_tree, F__is_tree.kp, B__is_tree⟩, ⟨_, fd__law_common, ["tree", "names"], fn_zero 2 (fun _ h => h), g__law_common, F__law_common.kp, B__law_common⟩, ⟨_, fd__law_draws, ["script", "many"], fn_zero 2 (fun _ h => h), g__law_draws, F__law_draws.kp, B__law_draws⟩, ⟨_, fd__law_error, ["call", "one", "two", "three"], fn_zero 4 (fun _ h => h), g__law_error, F__law_error.kp, B__law_error⟩, ⟨_, fd__law_inner, ["tree"], fn_zero 1 (fun _ h => h), g__law_inner, F__law_inner.kp, B__law_inner⟩, ⟨_, fd__law_layout, ["draws"], fn_zero 1 (fun _ h => h), g__law_layout, F__law_layout.kp, B__law_layout⟩, ⟨_, fd__law_tree, ["draws", "at", "room", "kind", "names"], fn_zero 5 (fun _ h => h), g__law_tree, F__law_tree.kp, B__law_tree⟩, ⟨_, fd__law_trees, ["tree", "place"], fn_zero 2 (fun _ h => h), g__law_trees, F__law_trees.kp, B__law_trees⟩, ⟨_, fd__law_wins, ["tree"], fn_zero 1 (fun _ h => h), g__law_wins, F__law_wins.kp, B__law_wins⟩, ⟨_, fd__law_without, ["tree", "names"], fn_zero 2 (fun _ h => h), g__law_without, F__law_without.kp, B__law_without⟩, ⟨_, fd__left_tabs, ["tree", "names"], fn_zero 2 (fun _ h => h), g__left_tabs, F__left_tabs.kp, B__left_tabs⟩, ⟨_, fd_all_places, ["tree"], fn_zero 1 (fun _ h => h), g_all_places, F_all_places.kp, B_all_places⟩, ⟨_, fd_ascends, ["values"], fn_zero 1 (fun _ h => h), g_ascends, F_ascends.kp, B_ascends⟩, ⟨_, fd_check_layout, ["layout"], fn_zero 1 (fun _ h => h), g_check_layout, F_check_layout.kp, B_check_layout⟩, ⟨_, fd_check_names, ["names"], fn_zero 1 (fun _ h => h), g_check_names, F_check_names.kp, B_check_names⟩, ⟨_, fd_common_tree, ["layout", "names"], fn_zero 2 (fun _ h => h), g_common_tree, F_common_tree.kp, B_common_tree⟩, ⟨_, fd_gathered, ["kind", "parts"], fn_zero 2 (fun _ h => h), g_gathered, F_gathered.kp, B_gathered⟩, ⟨_, fd_inner_trees, ["tree"], fn_zero 1 (fun _ h => h), g_inner_trees, F_inner_trees.kp, B_inner_trees⟩, ⟨_, fd_is_layout, ["value"], fn_zero 1 (fun _ h => h), g_is_layout, F_is_layout.kp, B_is_layout⟩, ⟨_, fd_is_name, ["value"], fn_zero 1 (fun _ h => h), g_is_name, F_is_name.kp, B_is_name⟩, ⟨_, fd_is_whole, ["value", "least", "most"], fn_zero 3 (fun _ h => h), g_is_whole, F_is_whole.kp, B_is_whole⟩, ⟨_, fd_law, ["script"], fn_zero 1 (fun _ h => h), g_law, F_law.kp, B_law⟩, ⟨_, fd_left_of, ["tree", "names"], fn_zero 2 (fun _ h => h), g_left_of, F_left_of.kp, B_left_of⟩, ⟨_, fd_names_of, ["tree"], fn_zero 1 (fun _ h => h), g_names_of, F_names_of.kp, B_names_of⟩, ⟨_, fd_shown_names, ["tree"], fn_zero 1 (fun _ h => h), g_shown_names, F_shown_names.kp, B_shown_names⟩, ⟨_, fd_shown_windows, ["layout"], fn_zero 1 (fun _ h => h), g_shown_windows, F_shown_windows.kp, B_shown_windows⟩, ⟨_, fd_together, ["layout", "name", "other"], fn_zero 3 (fun _ h => h), g_together, F_together.kp, B_together⟩, ⟨_, fd_tree_in, ["tree", "place"], fn_zero 2 (fun _ h => h), g_tree_in, F_tree_in.kp, B_tree_in⟩, ⟨_, fd_windows_of, ["layout"], fn_zero 1 (fun _ h => h), g_windows_of, F_windows_of.kp, B_windows_of⟩, ⟨_, fd_without, ["layout", "names"], fn_zero 2 (fun _ h => h), g_without, F_without.kp, B_without⟩⟩
  | succ k ih =>
    have E : En P w K mg base k (den k) := ⟨ih.a__common, ih.a__holds, ih.a__is_part, ih.a__is_tree, ih.a__law_common, ih.a__law_draws, ih.a__law_error, ih.a__law_inner, ih.a__law_layout, ih.a__law_tree, ih.a__law_trees, ih.a__law_wins, ih.a__law_without, ih.a__left_tabs, ih.a_all_places, ih.a_ascends, ih.a_check_layout, ih.a_check_names, ih.a_common_tree, ih.a_gathered, ih.a_inner_trees, ih.a_is_layout, ih.a_is_name, ih.a_is_whole, ih.a_left_of, ih.a_names_of, ih.a_shown_names, ih.a_shown_windows, ih.a_together, ih.a_tree_in, ih.a_windows_of, ih.a_without⟩
    exact ⟨⟨_, fd__common, _, fn_vs F__common sc_20 rfl (fun cdv A outer s H Ex W hr tk => w_20 fx E _ cdv A outer s H Ex W hr tk), g__common, F__common.kp, B__common⟩, ⟨_, fd__holds, _, fn_vs F__holds sc_19 rfl (fun cdv A outer s H Ex W hr tk => w_19 fx E _ cdv A outer s H Ex W hr tk), g__holds, F__holds.kp, B__holds⟩, ⟨_, fd__is_part, _, fn_vs F__is_part sc_3 rfl (fun cdv A outer s H Ex W hr tk => w_3 fx E _ cdv A outer s H Ex W hr tk), g__is_part, F__is_part.kp, B__is_part⟩, ⟨_, fd__is_tree, _, fn_vs F__is_tree sc_4 rfl (fun cdv A outer s H Ex W hr tk => w_4 fx E _ cdv A outer s H Ex W hr tk), g__is_tree, F__is_tree.kp, B__is_tree⟩, ⟨_, fd__law_common, _, fn_vs F__law_common sc_30 rfl (fun cdv A outer s H Ex W hr tk => w_30 fx E _ cdv A outer s H Ex W hr tk), g__law_common, F__law_common.kp, B__law_common⟩, ⟨_, fd__law_draws, _, fn_vs F__law_draws sc_23 rfl (fun cdv A outer s H Ex W hr tk => w_23 fx E _ cdv A outer s H Ex W hr tk), g__law_draws, F__law_draws.kp, B__law_draws⟩, ⟨_, fd__law_error, _, fn_vs F__law_error sc_31 rfl (fun cdv A outer s H Ex W hr tk => w_31 fx E _ cdv A outer s H Ex W hr tk), g__law_error, F__law_error.kp, B__law_error⟩, ⟨_, fd__law_inner, _, fn_vs F__law_inner sc_26 rfl (fun cdv A outer s H Ex W hr tk => w_26 fx E _ cdv A outer s H Ex W hr tk), g__law_inner, F__law_inner.kp, B__law_inner⟩, ⟨_, fd__law_layout, _, fn_vs F__law_layout sc_25 rfl (fun cdv A outer s H Ex W hr tk => w_25 fx E _ cdv A outer s H Ex W hr tk), g__law_layout, F__law_layout.kp, B__law_layout⟩, ⟨_, fd__law_tree, _, fn_vs F__law_tree sc_24 rfl (fun cdv A outer s H Ex W hr tk => w_24 fx E _ cdv A outer s H Ex W hr tk), g__law_tree, F__law_tree.kp, B__law_tree⟩, ⟨_, fd__law_trees, _, fn_vs F__law_trees sc_29 rfl (fun cdv A outer s H Ex W hr tk => w_29 fx E _ cdv A outer s H Ex W hr tk), g__law_trees, F__law_trees.kp, B__law_trees⟩, ⟨_, fd__law_wins, _, fn_vs F__law_wins sc_27 rfl (fun cdv A outer s H Ex W hr tk => w_27 fx E _ cdv A outer s H Ex W hr tk), g__law_wins, F__law_wins.kp, B__law_wins⟩, ⟨_, fd__law_without, _, fn_vs F__law_without sc_28 rfl (fun cdv A outer s H Ex W hr tk => w_28 fx E _ cdv A outer s H Ex W hr tk), g__law_without, F__law_without.kp, B__law_without⟩, ⟨_, fd__left_tabs, _, fn_vs F__left_tabs sc_15 rfl (fun cdv A outer s H Ex W hr tk => w_15 fx E _ cdv A outer s H Ex W hr tk), g__left_tabs, F__left_tabs.kp, B__left_tabs⟩, ⟨_, fd_all_places, _, fn_vs F_all_places sc_12 rfl (fun cdv A outer s H Ex W hr tk => w_12 fx E _ cdv A outer s H Ex W hr tk), g_all_places, F_all_places.kp, B_all_places⟩, ⟨_, fd_ascends, _, fn_vs F_ascends sc_1 rfl (fun cdv A outer s H Ex W hr tk => w_1 fx E _ cdv A outer s H Ex W hr tk), g_ascends, F_ascends.kp, B_ascends⟩, ⟨_, fd_check_layout, _, fn_vs F_check_layout sc_8 rfl (fun cdv A outer s H Ex W hr tk => w_8 fx E _ cdv A outer s H Ex W hr tk), g_check_layout, F_check_layout.kp, B_check_layout⟩, ⟨_, fd_check_names, _, fn_vs F_check_names sc_14 rfl (fun cdv A outer s H Ex W hr tk => w_14 fx E _ cdv A outer s H Ex W hr tk), g_check_names, F_check_names.kp, B_check_names⟩, ⟨_, fd_common_tree, _, fn_vs F_common_tree sc_21 rfl (fun cdv A outer s H Ex W hr tk => w_21 fx E _ cdv A outer s H Ex W hr tk), g_common_tree, F_common_tree.kp, B_common_tree⟩, ⟨_, fd_gathered, _, fn_vs F_gathered sc_17 rfl (fun cdv A outer s H Ex W hr tk => w_17 fx E _ cdv A outer s H Ex W hr tk), g_gathered, F_gathered.kp, B_gathered⟩, ⟨_, fd_inner_trees, _, fn_vs F_inner_trees sc_5 rfl (fun cdv A outer s H Ex W hr tk => w_5 fx E _ cdv A outer s H Ex W hr tk), g_inner_trees, F_inner_trees.kp, B_inner_trees⟩, ⟨_, fd_is_layout, _, fn_vs F_is_layout sc_7 rfl (fun cdv A outer s H Ex W hr tk => w_7 fx E _ cdv A outer s H Ex W hr tk), g_is_layout, F_is_layout.kp, B_is_layout⟩, ⟨_, fd_is_name, _, fn_vs F_is_name sc_2 rfl (fun cdv A outer s H Ex W hr tk => w_2 fx E _ cdv A outer s H Ex W hr tk), g_is_name, F_is_name.kp, B_is_name⟩, ⟨_, fd_is_whole, _, fn_vs F_is_whole sc_0 rfl (fun cdv A outer s H Ex W hr tk => w_0 fx E _ cdv A outer s H Ex W hr tk), g_is_whole, F_is_whole.kp, B_is_whole⟩, ⟨_, fd_law, _, fn_vs F_law sc_32 rfl (fun cdv A outer s H Ex W hr tk => w_32 fx E _ cdv A outer s H Ex W hr tk), g_law, F_law.kp, B_law⟩, ⟨_, fd_left_of, _, fn_vs F_left_of sc_16 rfl (fun cdv A outer s H Ex W hr tk => w_16 fx E _ cdv A outer s H Ex W hr tk), g_left_of, F_left_of.kp, B_left_of⟩, ⟨_, fd_names_of, _, fn_vs F_names_of sc_6 rfl (fun cdv A outer s H Ex W hr tk => w_6 fx E _ cdv A outer s H Ex W hr tk), g_names_of, F_names_of.kp, B_names_of⟩, ⟨_, fd_shown_names, _, fn_vs F_shown_names sc_10 rfl (fun cdv A outer s H Ex W hr tk => w_10 fx E _ cdv A outer s H Ex W hr tk), g_shown_names, F_shown_names.kp, B_shown_names⟩, ⟨_, fd_shown_windows, _, fn_vs F_shown_windows sc_11 rfl (fun cdv A outer s H Ex W hr tk => w_11 fx E _ cdv A outer s H Ex W hr tk), g_shown_windows, F_shown_windows.kp, B_shown_windows⟩, ⟨_, fd_together, _, fn_vs F_together sc_22 rfl (fun cdv A outer s H Ex W hr tk => w_22 fx E _ cdv A outer s H Ex W hr tk), g_together, F_together.kp, B_together⟩, ⟨_, fd_tree_in, _, fn_vs F_tree_in sc_13 rfl (fun cdv A outer s H Ex W hr tk => w_13 fx E _ cdv A outer s H Ex W hr tk), g_tree_in, F_tree_in.kp, B_tree_in⟩, ⟨_, fd_windows_of, _, fn_vs F_windows_of sc_9 rfl (fun cdv A outer s H Ex W hr tk => w_9 fx E _ cdv A outer s H Ex W hr tk), g_windows_of, F_windows_of.kp, B_windows_of⟩, ⟨_, fd_without, _, fn_vs F_without sc_18 rfl (fun cdv A outer s H Ex W hr tk => w_18 fx E _ cdv A outer s H Ex W hr tk), g_without, F_without.kp, B_without⟩⟩
theorem law_fn {P : Program} {w : World} {K : PySem.W.Frag} {h : Heap} {mg : Str → Option Value} {f : Addr} (X : K.In h) (G : h.Ns mainGlobals mg) (hfa : mg ("law" : Str) = some (.ref f)) (c : He.SaysD fa fn K) :
    ∃ fd : FuncData, (∀ (s : Shared) (v : Value), BindsTo s fd ⟨[v], []⟩ [("script", v)]) ∧ ∀ base : Heap, L2.FnOk P w K mg base (L2.CX P w) 60 f fd ["script"] (VS.SpG K mg 1 (den 60 32)) := by
  have fx := fx_of X G c
  obtain ⟨fd, Fl⟩ := c.def_ 24 (d := d_law) rfl
  have gl := He.glo_ok X G (c.fact 63 (f := .glo "law") rfl)
  have e := hfa.symm.trans gl
  cases e
  have b := FunD.bindsA (ps := ["script"]) Fl fun _ _ _ _ _ _ us hl => match us, hl with | [_], _ => rfl
  refine ⟨fd, fun s v => b s [v] rfl, fun base => ?_⟩
  have ih := all (P := P) (w := w) X G c base 59
  have E : En P w K mg base 59 (den 59) := ⟨ih.a__common, ih.a__holds, ih.a__is_part, ih.a__is_tree, ih.a__law_common, ih.a__law_draws, ih.a__law_error, ih.a__law_inner, ih.a__law_layout, ih.a__law_tree, ih.a__law_trees, ih.a__law_wins, ih.a__law_without, ih.a__left_tabs, ih.a_all_places, ih.a_ascends, ih.a_check_layout, ih.a_check_names, ih.a_common_tree, ih.a_gathered, ih.a_inner_trees, ih.a_is_layout, ih.a_is_name, ih.a_is_whole, ih.a_left_of, ih.a_names_of, ih.a_shown_names, ih.a_shown_windows, ih.a_together, ih.a_tree_in, ih.a_windows_of, ih.a_without⟩
  exact fn_vs Fl sc_32 rfl (fun cdv A outer s H Ex W hr tk => w_32 fx E _ cdv A outer s H Ex W hr tk)
abbrev R : PySem.W.OpenRow := PySem.W.OpenLaw.row PySem.Challenge.rw_windowwright_k70_whole_closing
abbrev hk : PySem.W.Hook := He.hookD 4 fa fn
def ob (s : PySem.W.SharedT) : He.AlD := He.obsDG 4 fa fn (HandSHeadRun.getT s)
theorem ob_eq (s : PySem.W.SharedT) : ob s = hk.obs s.abs := He.obsDG_eq (HandSHeadRun.getT_eq s)
def loose : List Str := [("WindowError" : Str), ("BadLayout" : Str), ("NoWindow" : Str), ("BadNames" : Str), ("LETTERS" : Str), ("MOST_SIGNS" : Str), ("MOST_WEIGHT" : Str), ("MOST_WINDOWS" : Str), ("MOST_DEPTH" : Str), ("WIN" : Str), ("ROW" : Str), ("COL" : Str), ("TABS" : Str), ("is_whole" : Str), ("ascends" : Str), ("is_name" : Str), ("_is_part" : Str), ("_is_tree" : Str), ("inner_trees" : Str), ("names_of" : Str)] ++ [("is_layout" : Str), ("check_layout" : Str), ("windows_of" : Str), ("shown_names" : Str), ("shown_windows" : Str), ("all_places" : Str), ("tree_in" : Str), ("check_names" : Str), ("_left_tabs" : Str), ("left_of" : Str), ("gathered" : Str), ("without" : Str), ("_holds" : Str), ("_common" : Str), ("common_tree" : Str), ("together" : Str), ("_law_draws" : Str), ("_law_tree" : Str), ("_law_layout" : Str), ("_law_inner" : Str)] ++ [("_law_text" : Str), ("_law_boxes" : Str), ("_law_all" : Str), ("_law_wins" : Str), ("_law_without" : Str), ("_law_trees" : Str), ("_law_common" : Str), ("_law_error" : Str)]
theorem run (w : World) : HandSHeadRun.RunEq R (PySem.W.view R.prog [52]) hk ob 6000 loose w := by
  intro os
  kernel_rfl
end KL
open PySem PySem.W PySem.Calls PyProof.Rows
theorem KL.holds (good : ∀ ns : List Int, ns.length ≤ 63 → KL.den 60 32 [.br ns] = .ok (.bool true)) : PySem.Challenge.rw_windowwright_k70_whole_closing.Holds := by
  w_on; o_law
  refine HandSHeadRun.head_any (r := OpenLaw.row PySem.Challenge.rw_windowwright_k70_whole_closing) (q := view (OpenLaw.row PySem.Challenge.rw_windowwright_k70_whole_closing).prog [52]) (H := KL.hk) (ob := KL.ob) (M := 6000) (loose := KL.loose) (d := HandSHeadRun.topDef (OpenLaw.row PySem.Challenge.rw_windowwright_k70_whole_closing).prog 52) (kwd := []) KL.ob_eq
    (by kernel_rfl) (fun s => by kernel_rfl) KL.run (by kernel_rfl) (by kernel_rfl) (by kernel_rfl) (by rfl) (by first | assumption | decide +kernel) (by decide +kernel) ⟨rfl, rfl, rfl, rfl, rfl, by decide +kernel⟩ ?hw ?hc
  case hw => w_witness2
  case hc =>
    refine VS.walk_law (l := PySem.Challenge.rw_windowwright_k70_whole_closing) (k := 60) (x := "script") rfl (by kernel_rfl) ⟨rfl, by decide, by decide⟩ ?F
    intro w mg fa h Y G hmg0
    obtain ⟨K, KX, c⟩ := Y
    have hmg : mg ("law" : PySem.Str) = some (.ref fa) := by
      have e : (HandSHeadRun.topDef (OpenLaw.row PySem.Challenge.rw_windowwright_k70_whole_closing).prog 52).name = ("law" : PySem.Str) := by kernel_rfl
      rw [← e]
      exact hmg0
    obtain ⟨fd, b, F⟩ : ∃ fd, (∀ (s : Shared) (v : Value), BindsTo s fd ⟨[v], []⟩ [("script", v)]) ∧ ∀ base : Heap, L2.FnOk PySem.Challenge.pw_windowwright_k70_whole_closing w K mg base (L2.CX PySem.Challenge.pw_windowwright_k70_whole_closing w) 60 fa fd ["script"] (VS.SpG K mg 1 (KL.den 60 32)) := KL.law_fn KX G hmg c
    exact ⟨K, fd, _, KX, b, fun base _ _ => F base, fun ns hl => good ns hl⟩
end
section
namespace VS
open PySem PySem.Spec PyProof.Rows L2

/-! ### evaluation by simp -/
@[simp] theorem ev_seq (f g : Dl → RS) (δ : Dl) : seqS f g δ = (f δ).bnd g := Eq.trans rfl (Eq.refl _)
@[simp] theorem ev_nx (δ : Dl) : nxS δ = .nx δ := Eq.trans rfl (Eq.refl _)
@[simp] theorem ev_bk (δ : Dl) : bkS δ = .bk δ := Eq.trans rfl (Eq.refl _)
@[simp] theorem ev_ct (δ : Dl) : ctS δ = .ct δ := Eq.trans rfl (Eq.refl _)
@[simp] theorem ev_ret (f : Dl → Re D) (δ : Dl) : retS f δ = toS (f δ) .rt := Eq.trans rfl (Eq.refl _)
@[simp] theorem ev_retN (δ : Dl) : retN δ = .rt .none := Eq.trans rfl (Eq.refl _)
@[simp] theorem ev_if (t : Dl → Re Bool) (f g : Dl → RS) (δ : Dl) : ifS t f g δ = toS (t δ) fun b => if b = true then f δ else g δ := Eq.trans rfl (Eq.refl _)
@[simp] theorem ev_set (i : Nat) (f : Dl → Re D) (δ : Dl) : setS i f δ = toS (f δ) fun d => .nx (δ.set i (.sh d)) := Eq.trans rfl (Eq.refl _)
@[simp] theorem ev_setO (i : Nat) (f : Dl → Re D) (δ : Dl) : setO i f δ = toS (f δ) fun d => .nx (δ.set i (.ow d)) := Eq.trans rfl (Eq.refl _)
@[simp] theorem ev_asg (b : Bd) (f : Dl → Re D) (δ : Dl) : asgS b f δ = toS (f δ) fun d => match b d δ with | some δ' => .nx δ' | none => .no := Eq.trans rfl (Eq.refl _)
@[simp] theorem ev_for (items : Dl → Re (List D)) (b : Bd) (body : Dl → RS) (δ : Dl) : forS items b body δ = toS (items δ) fun ds => goS b body ds δ := Eq.trans rfl (Eq.refl _)
@[simp] theorem ev_drop (f : Dl → Re D) (δ : Dl) : dropS f δ = toS (f δ) fun _ => .nx δ := Eq.trans rfl (Eq.refl _)
@[simp] theorem ev_rai (nm : Str) (δ : Dl) : raiS nm δ = .ex (.mk nm []) := Eq.trans rfl (Eq.refl _)
@[simp] theorem gS_zero (d : D) (r : Dl) : gS 0 (.sh d :: r) = .ok d := Eq.trans rfl (Eq.refl _)
@[simp] theorem gS_succ (i : Nat) (s : Sl) (r : Dl) : gS (i + 1) (s :: r) = gS i r := Eq.trans rfl (Eq.refl _)
@[simp] theorem gB_zero (d : D) (r : Dl) : gB 0 (.sh d :: r) = .ok d := Eq.trans rfl (Eq.refl _)
@[simp] theorem gB_zero' (d : D) (r : Dl) : gB 0 (.ow d :: r) = .ok d := Eq.trans rfl (Eq.refl _)
@[simp] theorem gB_succ (i : Nat) (s : Sl) (r : Dl) : gB (i + 1) (s :: r) = gB i r := Eq.trans rfl (Eq.refl _)
@[simp] theorem ev_k (d : D) (δ : Dl) : kC d δ = .ok d := Eq.trans rfl (Eq.refl _)
@[simp] theorem ev_d2 (g : D → D → Re D) (fa fb : Dl → Re D) (δ : Dl) : d2 g fa fb δ = (fa δ).bnd fun x => (fb δ).bnd fun y => g x y := Eq.trans rfl (Eq.refl _)
@[simp] theorem ev_d1 (g : D → Re D) (fa : Dl → Re D) (δ : Dl) : d1 g fa δ = (fa δ).bnd g := Eq.trans rfl (Eq.refl _)
@[simp] theorem ev_dA (fs : Dl → Re (List D)) (g : List D → Re D) (δ : Dl) : dA fs g δ = (fs δ).bnd g := Eq.trans rfl (Eq.refl _)
@[simp] theorem ev_dAL (fs : Dl → Re (List D)) (g : List D → Re (List D)) (δ : Dl) : dAL fs g δ = (fs δ).bnd g := Eq.trans rfl (Eq.refl _)
@[simp] theorem ev_d1L (g : D → Re (List D)) (fa : Dl → Re D) (δ : Dl) : d1L g fa δ = (fa δ).bnd g := Eq.trans rfl (Eq.refl _)
@[simp] theorem ev_args0 (δ : Dl) : argsF [] δ = .ok [] := Eq.trans rfl (Eq.refl _)
@[simp] theorem ev_args (f : Dl → Re D) (fs : List (Dl → Re D)) (δ : Dl) : argsF (f :: fs) δ = (f δ).bnd fun d => (argsF fs δ).bnd fun ds => .ok (d :: ds) := Eq.trans rfl (Eq.refl _)
@[simp] theorem ev_argsM0 (δ : Dl) : argsM [] δ = .ok [] := Eq.trans rfl (Eq.refl _)
@[simp] theorem ev_argsMf (f : Dl → Re D) (fs : List (Bool × (Dl → Re D))) (δ : Dl) : argsM ((false, f) :: fs) δ = (f δ).bnd fun d => (argsM fs δ).bnd fun ss => .ok (.sh d :: ss) := Eq.trans rfl (Eq.refl _)
@[simp] theorem ev_argsMt (f : Dl → Re D) (fs : List (Bool × (Dl → Re D))) (δ : Dl) : argsM ((true, f) :: fs) δ = (f δ).bnd fun d => (argsM fs δ).bnd fun ss => .ok (.ow d :: ss) := Eq.trans rfl (Eq.refl _)
@[simp] theorem ev_par (is : List Nat) (fm : Dl → Re (List Sl)) (δ : Dl) : parS is fm δ = toS (fm δ) fun ss => if ss.length = is.length then .nx (bindM is ss δ) else .no := Eq.trans rfl (Eq.refl _)
@[simp] theorem ev_bindM (i : Nat) (is : List Nat) (s : Sl) (ss : List Sl) (δ : Dl) : bindM (i :: is) (s :: ss) δ = bindM is ss (δ.set i s) := Eq.trans rfl (Eq.refl _)
@[simp] theorem ev_bindM0 (ss : List Sl) (δ : Dl) : bindM [] ss δ = δ := by cases ss <;> rfl
@[simp] theorem ev_cD (g : List Sl → Re D) (ds : List D) : cD g ds = g (ds.map .sh) := Eq.trans rfl (Eq.refl _)
@[simp] theorem ev_and (fa fb : Dl → Re D) (δ : Dl) : dAnd fa fb δ = (fa δ).bnd fun x => (asB x).bnd fun b => if b = true then fb δ else .ok (.bool false) := Eq.trans rfl (Eq.refl _)
@[simp] theorem ev_or (fa fb : Dl → Re D) (δ : Dl) : dOr fa fb δ = (fa δ).bnd fun x => (asB x).bnd fun b => if b = true then .ok (.bool true) else fb δ := Eq.trans rfl (Eq.refl _)
@[simp] theorem ev_asB (b : Bool) : asB (.bool b) = .ok b := Eq.trans rfl (Eq.refl _)
@[simp] theorem ev_dNot (b : Bool) : dNot (.bool b) = .ok (.bool (!b)) := Eq.trans rfl (Eq.refl _)
@[simp] theorem ev_dIf (f : Dl → Re Bool) (fa fb : Dl → Re D) (δ : Dl) : dIf f fa fb δ = (f δ).bnd fun b => if b = true then fa δ else fb δ := Eq.trans rfl (Eq.refl _)
@[simp] theorem ev_tB1 (fa : Dl → Re D) (δ : Dl) : tB1 fa δ = (fa δ).bnd asB := Eq.trans rfl (Eq.refl _)
@[simp] theorem ev_tAnd (f g : Dl → Re Bool) (δ : Dl) : tAnd2 f g δ = (f δ).bnd fun b => if b = true then g δ else .ok false := Eq.trans rfl (Eq.refl _)
@[simp] theorem ev_tOr (f g : Dl → Re Bool) (δ : Dl) : tOr2 f g δ = (f δ).bnd fun b => if b = true then .ok true else g δ := Eq.trans rfl (Eq.refl _)
@[simp] theorem ev_tNot (f : Dl → Re Bool) (δ : Dl) : tNot1 f δ = (f δ).bnd fun b => .ok (!b) := Eq.trans rfl (Eq.refl _)
@[simp] theorem ev_chn (g g' : D → D → Re D) (fa fb fc : Dl → Re D) (δ : Dl) : chn g g' fa fb fc δ = (fa δ).bnd fun x => (fb δ).bnd fun y => (g x y).bnd fun z => (asB z).bnd fun b => if b = true then (fc δ).bnd fun w => g' y w else .ok (.bool false) := by
  unfold chn
  cases fa δ <;> simp
  cases fb δ <;> simp
  rename_i x y
  cases g x y <;> simp
  rename_i z
  cases z <;> simp [asB]
  rename_i b
  cases b <;> simp
@[simp] theorem ev_isi (T : Ty) (d : D) : isiD T d = .ok (.bool (isT T d)) := Eq.trans rfl (Eq.refl _)
@[simp] theorem ev_yes (δ : Dl) : yesT δ = .ok true := Eq.trans rfl (Eq.refl _)
@[simp] theorem ev_bN (i : Nat) (d : D) (δ : Dl) : bN i d δ = some (δ.set i (.sh d)) := Eq.trans rfl (Eq.refl _)
@[simp] theorem ev_go0 (b : Bd) (body : Dl → RS) (δ : Dl) : goS b body [] δ = .nx δ := Eq.trans rfl (Eq.refl _)
@[simp] theorem ev_items_l (ds : List D) : itemsD (.list ds) = .ok ds := Eq.trans rfl (Eq.refl _)
@[simp] theorem ev_items_t (ds : List D) : itemsD (.tuple ds) = .ok ds := Eq.trans rfl (Eq.refl _)
@[simp] theorem ev_items_s (z : Str) : itemsD (.str z) = .ok (signs z) := Eq.trans rfl (Eq.refl _)
@[simp] theorem ev_lc (vs : List Nat) (items : Dl → Re (List D)) (b : Bd) (t : Dl → Re Bool) (e : Dl → Re D) (δ : Dl) : lcD vs items b t e δ =
  (items δ).bnd fun ds => if ds.length ≤ sizeLine then (lcL b t e (wipeD δ vs) ds).bnd fun ys => .ok (.list ys) else .no := Eq.trans rfl (Eq.refl _)
@[simp] theorem ev_lcL0 (b : Bd) (t : Dl → Re Bool) (e : Dl → Re D) (δ : Dl) : lcL b t e δ [] = .ok [] := Eq.trans rfl (Eq.refl _)
@[simp] theorem ev_wipe0 (δ : Dl) : wipeD δ [] = δ := Eq.trans rfl (Eq.refl _)
@[simp] theorem ev_wipe (δ : Dl) (v : Nat) (vs : List Nat) : wipeD δ (v :: vs) = (wipeD δ vs).set v .no := Eq.trans rfl (Eq.refl _)
/-! ### values -/
@[simp] theorem ev_lenL (xs : List D) : lenD [.list xs] = .ok (.int xs.length) := Eq.trans rfl (Eq.refl _)
@[simp] theorem ev_lenT (xs : List D) : lenD [.tuple xs] = .ok (.int xs.length) := Eq.trans rfl (Eq.refl _)
@[simp] theorem ev_lenD (xs : List (D × D)) : lenD [.dict xs] = .ok (.int xs.length) := Eq.trans rfl (Eq.refl _)
theorem sz_line : sizeLine = 16777216 := sizeLine_eq
@[simp] theorem ev_ltI (i j : Int) : ltD (.int i) (.int j) = .ok (.bool (decide (i < j))) := by
  unfold ltD ltOk
  simp [PySem.W.alike, isN, PySem.W.dataLt_int]
@[simp] theorem ev_gtI (i j : Int) : gtD (.int i) (.int j) = .ok (.bool (decide (j < i))) := by
  unfold gtD ltOk
  simp [PySem.W.alike, isN, PySem.W.dataLt_int]
@[simp] theorem ev_leI (i j : Int) : leD (.int i) (.int j) = .ok (.bool (decide (i ≤ j))) := by
  unfold leD ltOk
  simp [PySem.W.alike, isN, PySem.W.dataLt_int]
  rw [← decide_not]
  congr 1
  simp
@[simp] theorem ev_geI (i j : Int) : geD (.int i) (.int j) = .ok (.bool (decide (j ≤ i))) := by
  unfold geD ltOk
  simp [PySem.W.alike, isN, PySem.W.dataLt_int]
  rw [← decide_not]
  congr 1
  simp
end VS
namespace VS
open PySem PySem.Spec PyProof.Rows L2
theorem eqD_of {x y : D} (h : dn 60 x = true) (h' : dn 60 y = true) : eqD x y = .ok (.bool (PyData.eqv x y)) := by unfold eqD; rw [if_pos ⟨h, h'⟩]
theorem neD_of {x y : D} (h : dn 60 x = true) (h' : dn 60 y = true) : neD x y = .ok (.bool (!PyData.eqv x y)) := by unfold neD; rw [if_pos ⟨h, h'⟩]
theorem str_beq (a b : Str) : (a == b) = decide (a = b) := by rw [Bool.eq_iff_iff]; simp
@[simp] theorem ev_eqI (i j : Int) : eqD (.int i) (.int j) = .ok (.bool (decide (i = j))) := by rw [eqD_of (by simp) (by simp)]; simp [PyData.eqv]; rw [Bool.eq_iff_iff]; simp
@[simp] theorem ev_neI (i j : Int) : neD (.int i) (.int j) = .ok (.bool (!decide (i = j))) := by rw [neD_of (by simp) (by simp)]; simp [PyData.eqv]; rw [Bool.eq_iff_iff]; simp
@[simp] theorem ev_eqS (i j : Str) : eqD (.str i) (.str j) = .ok (.bool (decide (i = j))) := by rw [eqD_of (by simp) (by simp)]; simp [PyData.eqv, str_beq]
@[simp] theorem ev_neS (i j : Str) : neD (.str i) (.str j) = .ok (.bool (!decide (i = j))) := by rw [neD_of (by simp) (by simp)]; simp [PyData.eqv, str_beq]
@[simp] theorem ev_addI (i j : Int) : addD (.int i) (.int j) = .ok (.int (i + j)) := Eq.trans rfl (Eq.refl _)
@[simp] theorem ev_subI (i j : Int) : subD (.int i) (.int j) = .ok (.int (i - j)) := Eq.trans rfl (Eq.refl _)
@[simp] theorem ev_intI (i : Int) : intD [.int i] = .ok (.int i) := Eq.trans rfl (Eq.refl _)
@[simp] theorem ev_absI (i : Int) : absD [.int i] = .ok (.int (if i < 0 then -i else i)) := Eq.trans rfl (Eq.refl _)
theorem ev_tup {ds : List D} (h : ds.length ≤ sizeLine) : tupD ds = .ok (.tuple ds) := by unfold tupD; rw [if_pos h]
theorem ev_lst {ds : List D} (h : ds.length ≤ sizeLine) : lstD ds = .ok (.list ds) := by unfold lstD; rw [if_pos h]
@[simp] theorem ev_tup0 : tupD [] = .ok (.tuple []) := ev_tup (by rw [sz_line]; simp)
@[simp] theorem ev_tup1 (a : D) : tupD [a] = .ok (.tuple [a]) := ev_tup (by rw [sz_line]; simp)
@[simp] theorem ev_tup2 (a b : D) : tupD [a, b] = .ok (.tuple [a, b]) := ev_tup (by rw [sz_line]; simp)
@[simp] theorem ev_tup3 (a b c : D) : tupD [a, b, c] = .ok (.tuple [a, b, c]) := ev_tup (by rw [sz_line]; simp)
@[simp] theorem ev_tup4 (a b c d : D) : tupD [a, b, c, d] = .ok (.tuple [a, b, c, d]) := ev_tup (by rw [sz_line]; simp)
@[simp] theorem ev_lst0 : lstD [] = .ok (.list []) := ev_lst (by rw [sz_line]; simp)
@[simp] theorem ev_lst1 (a : D) : lstD [a] = .ok (.list [a]) := ev_lst (by rw [sz_line]; simp)
@[simp] theorem ev_lst2 (a b : D) : lstD [a, b] = .ok (.list [a, b]) := ev_lst (by rw [sz_line]; simp)
@[simp] theorem ev_lst3 (a b c : D) : lstD [a, b, c] = .ok (.list [a, b, c]) := ev_lst (by rw [sz_line]; simp)
@[simp] theorem ix_t (xs : List D) (i : Int) : ixD (.tuple xs) (.int i) = ofO (atI xs i) := Eq.trans rfl (Eq.refl _)
@[simp] theorem ix_l (xs : List D) (i : Int) : ixD (.list xs) (.int i) = ofO (atI xs i) := Eq.trans rfl (Eq.refl _)
@[simp] theorem at_0 (x : D) (xs : List D) : atI (x :: xs) 0 = some x := atI_nat (j := 0) rfl
@[simp] theorem at_1 (x y : D) (xs : List D) : atI (x :: y :: xs) 1 = some y := atI_nat (j := 1) rfl
@[simp] theorem at_2 (x y z : D) (xs : List D) : atI (x :: y :: z :: xs) 2 = some z := atI_nat (j := 2) rfl
@[simp] theorem at_3 (x y z w : D) (xs : List D) : atI (x :: y :: z :: w :: xs) 3 = some w := atI_nat (j := 3) rfl
theorem at_nat {xs : List D} {i : Nat} {x : D} (h : xs[i]? = some x) : atI xs (i : Int) = some x := atI_nat h
end VS
namespace VS
open PySem PySem.Spec PyProof.Rows L2
theorem ev_mul {i j : Int} (h : (-(2 ^ 64) < i ∧ i < 2 ^ 64) ∨ (-(2 ^ 64) < j ∧ j < 2 ^ 64)) : mulI (.int i) (.int j) = .ok (.int (i * j)) := by unfold mulI; simp only; rw [if_pos (.inl h)]
theorem ev_fdiv {i j : Int} (h : 0 < j ∧ j < 1073741824) : fdivI (.int i) (.int j) = .ok (.int (i / j)) := by unfold fdivI; simp only; rw [if_pos (show CDiv i j from h)]
theorem ev_mod {i j : Int} (h : 0 < j) : modI (.int i) (.int j) = .ok (.int (i % j)) := by unfold modI; simp only; rw [if_pos h]
theorem ev_app {i : Nat} {f : Dl → Re PyData} {δ : Dl} {xs : List PyData} {d : PyData} (h : δ[i]? = some (.ow (.list xs))) (hf : f δ = .ok d) (hz : xs.length < sizeLine) : appS i f δ = .nx (δ.set i (.ow (.list (xs ++ [d])))) := by
  unfold appS
  rw [h]
  simp [hf, hz]
theorem ev_ext {i : Nat} {f : Dl → Re PyData} {δ : Dl} {xs ds : List PyData} {d : PyData} (h : δ[i]? = some (.ow (.list xs))) (hf : f δ = .ok d) (hd : d = .list ds ∨ d = .tuple ds) (hz : xs.length + ds.length ≤ sizeLine) : extS i f δ = .nx (δ.set i (.ow (.list (xs ++ ds)))) := by
  unfold extS
  rw [h]
  rcases hd with e | e <;> subst e <;> simp [hf, hz, seqD]
end VS
namespace VS
open PySem PySem.Spec PyProof.Rows L2
@[simp] theorem ev_bT (n : Nat) (bs : Bds) (ds : List D) (δ : Dl) : bT n bs (.tuple ds) δ = if ds.length = n then bs ds δ else none := Eq.trans rfl (Eq.refl _)
@[simp] theorem ev_bTl (n : Nat) (bs : Bds) (ds : List D) (δ : Dl) : bT n bs (.list ds) δ = if ds.length = n then bs ds δ else none := Eq.trans rfl (Eq.refl _)
@[simp] theorem ev_bCons (b : Bd) (bs : Bds) (d : D) (ds : List D) (δ : Dl) : bCons b bs (d :: ds) δ = (b d δ).bind (bs ds) := Eq.trans rfl (Eq.refl _)
@[simp] theorem ev_bNil (δ : Dl) : bNil [] δ = some δ := Eq.trans rfl (Eq.refl _)
@[simp] theorem ev_isN (d : D) : isND d = .ok (.bool (isN d)) := Eq.trans rfl (Eq.refl _)
@[simp] theorem ev_notN (d : D) : notND d = .ok (.bool (!isN d)) := Eq.trans rfl (Eq.refl _)
@[simp] theorem isN_none : isN .none = true := Eq.trans rfl (Eq.refl _)
@[simp] theorem isN_tup (ds : List D) : isN (.tuple ds) = false := Eq.trans rfl (Eq.refl _)
@[simp] theorem isN_lst (ds : List D) : isN (.list ds) = false := Eq.trans rfl (Eq.refl _)
@[simp] theorem isN_int (ds : Int) : isN (.int ds) = false := Eq.trans rfl (Eq.refl _)
@[simp] theorem isN_str (ds : Str) : isN (.str ds) = false := Eq.trans rfl (Eq.refl _)
@[simp] theorem isN_bool (ds : Bool) : isN (.bool ds) = false := Eq.trans rfl (Eq.refl _)
@[simp] theorem ev_dc (vs : List Nat) (items : Dl → Re (List D)) (b : Bd) (t : Dl → Re Bool) (fk fv : Dl → Re D) (δ : Dl) : dcD vs items b t fk fv δ =
  (items δ).bnd fun ds => if ds.length ≤ sizeLine then (dcL b t fk fv (wipeD δ vs) ds []).bnd fun m => .ok (.dict m) else .no := Eq.trans rfl (Eq.refl _)
@[simp] theorem ev_tupOf (ds : List D) : tupOfD [.list ds] = .ok (.tuple ds) := Eq.trans rfl (Eq.refl _)
@[simp] theorem ev_tupAny (ds : List D) : tupAnyD [.list ds] = .ok (.tuple ds) := Eq.trans rfl (Eq.refl _)
@[simp] theorem ev_tupAny' (ds : List D) : tupAnyD [.tuple ds] = .ok (.tuple ds) := Eq.trans rfl (Eq.refl _)
@[simp] theorem ev_lstOf (ds : List D) : lstOfD [.list ds] = .ok (.list ds) := Eq.trans rfl (Eq.refl _)
@[simp] theorem ev_lstOf' (ds : List D) : lstOfD [.tuple ds] = .ok (.list ds) := Eq.trans rfl (Eq.refl _)
@[simp] theorem ev_enumT (ds : List D) : enumD [.tuple ds] = .ok (pairUp 0 ds) := Eq.trans rfl (Eq.refl _)
@[simp] theorem ev_enumL (ds : List D) : enumD [.list ds] = .ok (pairUp 0 ds) := Eq.trans rfl (Eq.refl _)
/-- a dict comprehension with new keys each time -/
theorem dcL_new {b : Bd} {fk fv : Dl → Re D} {δ : Dl} (f : D → D) : ∀ (xs ys : List Str), (∀ s ∈ xs, ∃ δ1, b (.str s) δ = some δ1 ∧ fk δ1 = .ok (.str s) ∧ fv δ1 = .ok (f (.str s))) → (ys ++ xs).Nodup →
    dcL b yesT fk fv δ (xs.map .str) (ys.map fun s => (PyData.str s, f (.str s))) = .ok ((ys ++ xs).map fun s => (PyData.str s, f (.str s)))
  | [], ys, _, _ => by simp [dcL]
  | x :: xs, ys, h, nd => by
    obtain ⟨δ1, e1, e2, e3⟩ := h x List.mem_cons_self
    have nx : x ∉ ys := fun m => by
      have := List.nodup_append.mp nd
      exact this.2.2 x m x List.mem_cons_self rfl
    have ep : putD (ys.map fun s => (PyData.str s, f (.str s))) (.str x) (f (.str x)) = (ys ++ [x]).map fun s => (PyData.str s, f (.str s)) := by
      unfold putD
      have : ((ys.map fun s => (PyData.str s, f (.str s))).any fun p => PyData.eqv p.1 (.str x)) = false := by
        rw [List.any_map, List.any_eq_false]
        intro y hy
        simp only [Function.comp, PyData.eqv, str_beq, decide_eq_true_eq]
        intro e
        exact nx (e ▸ hy)
      rw [this, if_neg Bool.false_ne_true, List.map_append]
      rfl
    have ih := dcL_new f xs (ys ++ [x]) (fun s hs => h s (List.mem_cons_of_mem _ hs)) (by simpa using nd)
    rw [List.map_cons]
    unfold dcL
    simp only [e1, ev_yes, nxR_ok, bnd_ok, if_true, e2, e3]
    rw [if_pos (by rfl), ep, ih]
    simp
end VS
end
section
open PySem PySem.Spec PyProof.Rows L2 VS
namespace KL
/-! ### trees -/
inductive Kd where
  | row | col | tabs
  deriving DecidableEq
def kdS : Kd → Str
  | .row => "row" | .col => "col" | .tabs => "tabs"
inductive T where
  | win (s : Str)
  | nd (k : Kd) (n : Int) (cs : List (Int × T))
abbrev Cs := List (Int × T)
mutual
def enc : T → PyData
  | .win s => .tuple [.str "win", .str s]
  | .nd k n cs => match k with
    | .tabs => .tuple [.str "tabs", .int n, .tuple (encT cs)]
    | k => .tuple [.str (kdS k), .tuple (encP cs)]
def encT : List (Int × T) → List PyData
  | [] => []
  | (_, t) :: r => enc t :: encT r
def encP : List (Int × T) → List PyData
  | [] => []
  | (w, t) :: r => .tuple [.int w, enc t] :: encP r
end
mutual
def hT : T → Nat
  | .win _ => 0
  | .nd _ _ cs => hC cs + 1
def hC : List (Int × T) → Nat
  | [] => 0
  | (_, t) :: r => max (hT t) (hC r)
end
mutual
def zT : T → Nat
  | .win _ => 1
  | .nd _ _ cs => zC cs + 1
def zC : List (Int × T) → Nat
  | [] => 0
  | (_, t) :: r => zT t + zC r
end
mutual
def nmT : T → List Str
  | .win s => [s]
  | .nd _ _ cs => nmC cs
def nmC : List (Int × T) → List Str
  | [] => []
  | (_, t) :: r => nmT t ++ nmC r
end
theorem zT_pos : ∀ t, 1 ≤ zT t
  | .win _ => by simp [zT]
  | .nd _ _ _ => by simp [zT]
theorem encT_len : ∀ cs : Cs, (encT cs).length = cs.length
  | [] => by simp [encT]
  | (_, t) :: r => by simp [encT, encT_len r]
theorem encP_len : ∀ cs : Cs, (encP cs).length = cs.length
  | [] => by simp [encP]
  | (_, t) :: r => by simp [encP, encP_len r]
theorem len_zC : ∀ cs : Cs, cs.length ≤ zC cs
  | [] => by simp [zC]
  | (_, t) :: r => by have := zT_pos t; have := len_zC r; simp [zC]; omega
mutual
theorem nm_z : ∀ t : T, (nmT t).length ≤ zT t
  | .win s => by simp [nmT, zT]
  | .nd k n cs => by have := nmC_z cs; simp [nmT, zT]; omega
theorem nmC_z : ∀ cs : List (Int × T), (nmC cs).length ≤ zC cs
  | [] => by simp [nmC]
  | (_, t) :: r => by have := nm_z t; have := nmC_z r; simp [nmC, zC]; omega
end
mutual
theorem dn_mono : ∀ (d : PyData) {n m : Nat}, dn n d = true → n ≤ m → dn m d = true
  | .none, _, _, _, _ => by simp
  | .bool _, _, _, _, _ => by simp
  | .int _, _, _, _, _ => by simp
  | .str _, _, _, _, _ => by simp
  | .dict _, n, m, h, _ => by cases n <;> simp [dn] at h
  | .list xs, 0, m, h, _ => by simp [dn] at h
  | .tuple xs, 0, m, h, _ => by simp [dn] at h
  | .list xs, n + 1, 0, h, l => by omega
  | .tuple xs, n + 1, 0, h, l => by omega
  | .list xs, n + 1, m + 1, h, l => by
    have h' : dnA n xs = true := by simpa [dn] using h
    have := dnA_mono xs h' (show n ≤ m by omega)
    simpa [dn] using this
  | .tuple xs, n + 1, m + 1, h, l => by
    have h' : dnA n xs = true := by simpa [dn] using h
    have := dnA_mono xs h' (show n ≤ m by omega)
    simpa [dn] using this
theorem dnA_mono : ∀ (ds : List PyData) {n m : Nat}, dnA n ds = true → n ≤ m → dnA m ds = true
  | [], _, _, _, _ => by simp [dnA]
  | d :: ds, n, m, h, l => by
    rw [dnA, Bool.and_eq_true] at h ⊢
    exact ⟨dn_mono d h.1 l, dnA_mono ds h.2 l⟩
end
mutual
theorem dnT : ∀ t : T, dn (3 * hT t + 1) (enc t) = true
  | .win s => by simp [enc, hT]
  | .nd k n cs => by
    have a := dnT_C cs
    have b := dnP_C cs
    have e : 3 * hT (.nd k n cs) + 1 = (3 * hC cs + 2) + 1 + 1 := by simp [hT]; omega
    rw [e]
    cases k
    · simp only [enc, dn_tup, List.all_cons, List.all_nil, dn_str, Bool.true_and, Bool.and_true]
      exact b
    · simp only [enc, dn_tup, List.all_cons, List.all_nil, dn_str, Bool.true_and, Bool.and_true]
      exact b
    · simp only [enc, dn_tup, List.all_cons, List.all_nil, dn_str, dn_int, Bool.true_and, Bool.and_true]
      rw [← dnA_all] at a ⊢
      exact dnA_mono _ a (by omega)
theorem dnT_C : ∀ cs : List (Int × T), (encT cs).all (dn (3 * hC cs + 1)) = true
  | [] => by simp [encT]
  | (_, t) :: r => by
    have a := dnT t
    have b := dnT_C r
    rw [← dnA_all] at b ⊢
    rw [encT, dnA, Bool.and_eq_true]
    have l1 : hT t ≤ hC ((‹Int›, t) :: r) := by simp [hC]; omega
    have l2 : hC r ≤ hC ((‹Int›, t) :: r) := by simp [hC]; omega
    exact ⟨dn_mono _ a (by omega), dnA_mono _ b (by omega)⟩
theorem dnP_C : ∀ cs : List (Int × T), (encP cs).all (dn (3 * hC cs + 2)) = true
  | [] => by simp [encP]
  | (w, t) :: r => by
    have a := dnT t
    have b := dnP_C r
    rw [← dnA_all] at b ⊢
    rw [encP, dnA, Bool.and_eq_true]
    have l1 : hT t ≤ hC ((w, t) :: r) := by simp [hC]; omega
    have l2 : hC r ≤ hC ((w, t) :: r) := by simp [hC]; omega
    refine ⟨?_, dnA_mono _ b (by omega)⟩
    have e : 3 * hC ((w, t) :: r) + 2 = (3 * hC ((w, t) :: r) + 1) + 1 := rfl
    rw [e]
    simp only [dn_tup, List.all_cons, List.all_nil, dn_int, Bool.true_and, Bool.and_true]
    exact dn_mono _ a (by omega)
end
theorem dn60 {t : T} (h : hT t ≤ 19) : dn 60 (enc t) = true := dn_mono _ (dnT t) (by omega)
/-! ### tools -/
theorem lcL_of {b : Bd} {t : Dl → Re Bool} {e : Dl → Re PyData} {δ : Dl} (p : PyData → Bool) (f : PyData → PyData) : ∀ ds : List PyData, (∀ d ∈ ds, ∃ δ1, b d δ = some δ1 ∧ t δ1 = .ok (p d) ∧ (p d = true → e δ1 = .ok (f d))) → lcL b t e δ ds = .ok ((ds.filter p).map f)
  | [], _ => by simp
  | d :: ds, h => by
    obtain ⟨δ1, e1, e2, e3⟩ := h d List.mem_cons_self
    have ih := lcL_of p f ds fun d' hd' => h d' (List.mem_cons_of_mem _ hd')
    unfold lcL
    simp only [e1, e2, nxR_ok, bnd_ok, ih]
    by_cases hp : p d = true
    · simp [hp, e3 hp]
    · simp [hp]
theorem lcL_map {b : Bd} {e : Dl → Re PyData} {δ : Dl} (f : PyData → PyData) (ds : List PyData) (h : ∀ d ∈ ds, ∃ δ1, b d δ = some δ1 ∧ e δ1 = .ok (f d)) : lcL b yesT e δ ds = .ok (ds.map f) := by
  rw [lcL_of (fun _ => true) f ds fun d hd => by
    obtain ⟨δ1, e1, e2⟩ := h d hd
    exact ⟨δ1, e1, rfl, fun _ => e2⟩]
  rw [List.filter_eq_self.mpr (fun _ _ => rfl)]
def csOf : T → Cs
  | .win _ => []
  | .nd _ _ cs => cs
theorem encP_get {cs : Cs} : ∀ {d : PyData}, d ∈ encP cs → ∃ w t, d = .tuple [.int w, enc t] ∧ (w, t) ∈ cs := by
  induction cs with
  | nil => intro d h; simp [encP] at h
  | cons p r ih =>
    obtain ⟨w, t⟩ := p
    intro d h
    rw [encP] at h
    rcases List.mem_cons.mp h with e | h
    · exact ⟨w, t, e, List.mem_cons_self⟩
    · obtain ⟨w', t', e, m⟩ := ih h
      exact ⟨w', t', e, List.mem_cons_of_mem _ m⟩
end KL
end
section
namespace VS
open PySem PySem.Spec PyProof.Rows L2
/-- a loop by its invariant -/
theorem goS_inv {b : Bd} {body : Dl → RS} (P : Nat → Dl → Prop) : ∀ (ds : List D) (i : Nat) (δ : Dl), P i δ → (∀ (j : Nat) (d : D) (δ : Dl), ds[j]? = some d → P (i + j) δ → ∃ δ1 δ2, b d δ = some δ1 ∧ (body δ1 = .nx δ2 ∨ body δ1 = .ct δ2) ∧ P (i + j + 1) δ2) →
    ∃ δ', goS b body ds δ = .nx δ' ∧ P (i + ds.length) δ'
  | [], i, δ, h, _ => ⟨δ, rfl, h⟩
  | d :: ds, i, δ, h, st => by
    obtain ⟨δ1, δ2, e1, e2, h2⟩ := st 0 d δ rfl h
    obtain ⟨δ', e3, h3⟩ := goS_inv P ds (i + 1) δ2 (by simpa using h2) fun j d' δ hj hp => by
      have := st (j + 1) d' δ (by simpa using hj) (by rw [show i + (j + 1) = i + 1 + j by omega]; exact hp)
      rw [show i + 1 + j + 1 = i + (j + 1) + 1 by omega]
      exact this
    refine ⟨δ', ?_, by rw [List.length_cons, show i + (ds.length + 1) = i + 1 + ds.length by omega]; exact h3⟩
    unfold goS
    rw [e1]
    rcases e2 with e2 | e2 <;> simp only [e2, e3]
theorem goS_inv0 {b : Bd} {body : Dl → RS} (P : Nat → Dl → Prop) {ds : List D} {δ : Dl} (h : P 0 δ) (st : ∀ (j : Nat) (d : D) (δ : Dl), ds[j]? = some d → P j δ → ∃ δ1 δ2, b d δ = some δ1 ∧ (body δ1 = .nx δ2 ∨ body δ1 = .ct δ2) ∧ P (j + 1) δ2) :
    ∃ δ', goS b body ds δ = .nx δ' ∧ P ds.length δ' := by
  have := goS_inv P ds 0 δ h fun j d δ hj hp => by
    have := st j d δ hj (by simpa using hp)
    simpa using this
  simpa using this
/-- items of a range -/
theorem rng_at {n j : Nat} {d : D} (h : ((List.range n).map fun k => (PyData.int (0 + (k : Nat)) : D))[j]? = some d) : j < n ∧ d = .int (j : Nat) := by
  by_cases hl : j < n
  · rw [List.getElem?_map, List.getElem?_eq_getElem (by simpa using hl)] at h
    simp at h
    exact ⟨hl, h.symm⟩
  · rw [List.getElem?_eq_none (by simp; omega)] at h
    cases h
/-! ### texts in order -/
abbrev sLt (a b : Str) : Prop := a.cps.toList < b.cps.toList
@[simp] theorem ev_ltS (i j : Str) : ltD (.str i) (.str j) = .ok (.bool (decide (sLt i j))) := by
  unfold ltD ltOk
  simp [PySem.W.alike, isN, PySem.W.dataLt_str]
theorem str_ext {a b : Str} (h : a.cps.toList = b.cps.toList) : a = b := by
  cases a; cases b
  congr 1
  exact Array.toList_inj.mp h
def sLe (a b : Str) : Bool := decide (a.cps.toList ≤ b.cps.toList)
def sortS (xs : List Str) : List Str := xs.mergeSort sLe
theorem sortS_perm (xs : List Str) : (sortS xs).Perm xs := List.mergeSort_perm _ _
theorem sLe_iff {a b : Str} : sLe a b = true ↔ ¬ sLt b a := by
  unfold sLe sLt
  rw [decide_eq_true_eq]
  exact Iff.rfl
theorem lst_antisymm {a b : List Nat} (h1 : ¬ a < b) (h2 : ¬ b < a) : a = b := List.le_antisymm (fun h => h2 h) (fun h => h1 h)
theorem sLt_of {a b : Str} (h : sLe a b = true) (n : a ≠ b) : sLt a b := by
  rw [sLe_iff] at h
  rcases Classical.em (sLt a b) with q | q
  · exact q
  · exact (n (str_ext (lst_antisymm q h))).elim
theorem sortS_pw (xs : List Str) : (sortS xs).Pairwise fun a b => sLe a b = true := by
  refine List.pairwise_mergeSort (le := sLe) (fun a b c => ?_) (fun a b => ?_) xs
  · unfold sLe
    simp only [decide_eq_true_eq]
    exact fun h1 h2 => List.le_trans h1 h2
  · unfold sLe
    rw [Bool.or_eq_true, decide_eq_true_eq, decide_eq_true_eq]
    exact List.le_total _ _
theorem sortL_str (xs : List Str) : sortL (xs.map .str) = (sortS xs).map .str := by
  unfold sortL sortS
  have := List.map_mergeSort (r := sLe) (s := PySem.W.dataLe false id) (f := fun s : Str => (PyData.str s : PyData)) (l := xs) fun a _ b _ => by
    have e := congrFun (congrFun (PySem.W.dataLe_str (fun s : Str => s)) a) b
    exact e.symm
  exact this.symm
theorem sortOk_str (xs : List Str) (h : xs.length ≤ sizeLine) : sortOk (xs.map .str) = true := by
  unfold sortOk
  simp [h, PySem.W.alike, notTN]
theorem ev_sortS (xs : List Str) (h : xs.length ≤ sizeLine) : sortedD [.list (xs.map .str)] = .ok (.list ((sortS xs).map .str)) := by
  unfold sortedD
  simp only
  rw [if_pos (sortOk_str xs h), sortL_str]
/-- two sorted rows of the same texts are one -/
theorem sortS_eq {xs ys : List Str} (p : ys.Perm xs) (s : ys.Pairwise fun a b => sLe a b = true) : sortS xs = ys := by
  refine List.Perm.eq_of_pairwise (le := fun a b => sLe a b = true) (fun a b _ _ h1 h2 => ?_) (sortS_pw xs) s ((sortS_perm xs).trans p.symm)
  rw [sLe_iff] at h1 h2
  exact str_ext (lst_antisymm h2 h1)
/-! ### a value is itself -/
mutual
theorem eqv_dn : ∀ (d : PyData) (n : Nat), dn n d = true → PyData.eqv d d = true
  | .none, _, _ => by simp [PyData.eqv]
  | .bool _, _, _ => by simp [PyData.eqv]
  | .int _, _, _ => by simp [PyData.eqv]
  | .str _, _, _ => by simp [PyData.eqv]
  | .dict _, n, h => by cases n <;> simp [dn] at h
  | .list xs, 0, h => by simp [dn] at h
  | .tuple xs, 0, h => by simp [dn] at h
  | .list xs, n + 1, h => by
    have h' : dnA n xs = true := by simpa [dn] using h
    have := eqvA_dn xs n h'
    simp [PyData.eqv, this]
  | .tuple xs, n + 1, h => by
    have h' : dnA n xs = true := by simpa [dn] using h
    have := eqvA_dn xs n h'
    simp [PyData.eqv, this]
theorem eqvA_dn : ∀ (ds : List PyData) (n : Nat), dnA n ds = true → PyData.eqvAll ds ds = true
  | [], _, _ => by simp [PyData.eqvAll]
  | d :: ds, n, h => by
    rw [dnA, Bool.and_eq_true] at h
    simp [PyData.eqvAll, eqv_dn d n h.1, eqvA_dn ds n h.2]
end
theorem ne_self {d : PyData} (h : dn 60 d = true) : neD d d = .ok (.bool false) := by rw [neD_of h h, eqv_dn d 60 h]; rfl
theorem eq_self {d : PyData} (h : dn 60 d = true) : eqD d d = .ok (.bool true) := by rw [eqD_of h h, eqv_dn d 60 h]
theorem dn_strs (ns : List Str) : dn 60 (.list (ns.map .str)) = true := by simp
theorem dn_strsT (ns : List Str) : dn 60 (.tuple (ns.map .str)) = true := by simp
end VS
end
section
namespace VS
open PySem PySem.Spec PyProof.Rows L2
/-- a comprehension over values that are made of others -/
theorem lcL_on {α : Type} {b : Bd} {t : Dl → Re Bool} {e : Dl → Re PyData} {δ : Dl} (g : α → PyData) (p : α → Bool) (f : α → PyData) : ∀ xs : List α, (∀ a ∈ xs, ∃ δ1, b (g a) δ = some δ1 ∧ t δ1 = .ok (p a) ∧ (p a = true → e δ1 = .ok (f a))) → lcL b t e δ (xs.map g) = .ok ((xs.filter p).map f)
  | [], _ => by simp
  | a :: xs, h => by
    obtain ⟨δ1, e1, e2, e3⟩ := h a List.mem_cons_self
    have ih := lcL_on g p f xs fun a' ha' => h a' (List.mem_cons_of_mem _ ha')
    rw [List.map_cons]
    unfold lcL
    simp only [e1, e2, nxR_ok, bnd_ok, ih]
    by_cases hp : p a = true
    · simp [hp, e3 hp]
    · simp [hp]
theorem lcL_all {α : Type} {b : Bd} {e : Dl → Re PyData} {δ : Dl} (g : α → PyData) (f : α → PyData) (xs : List α) (h : ∀ a ∈ xs, ∃ δ1, b (g a) δ = some δ1 ∧ e δ1 = .ok (f a)) : lcL b yesT e δ (xs.map g) = .ok (xs.map f) := by
  rw [lcL_on g (fun _ => true) f xs fun a ha => by
    obtain ⟨δ1, e1, e2⟩ := h a ha
    exact ⟨δ1, e1, rfl, fun _ => e2⟩]
  rw [List.filter_eq_self.mpr (fun _ _ => rfl)]
/-- a range's items, as numbers -/
def nums (n : Nat) : List PyData := (List.range n).map fun k => .int (0 + (k : Nat))
theorem rng1_n (m : Nat) (hm : m ≤ 100000) : rng1D [PyData.int (m : Nat)] = .ok (nums m) := by
  have h : -(2 ^ 62) ≤ ((m : Nat) : Int) ∧ ((m : Nat) : Int) < 2 ^ 62 := by omega
  unfold rng1D nums
  simp only
  rw [if_pos h, Int.toNat_natCast]
theorem nums_len (n : Nat) : (nums n).length = n := by simp [nums]
theorem nums_at {n j : Nat} {d : D} (h : (nums n)[j]? = some d) : j < n ∧ d = .int (j : Nat) := rng_at h
theorem in_strL (s : Str) (xs : List Str) : inD (.str s) (.list (xs.map .str)) = .ok (.bool (decide (s ∈ xs))) := by
  show (if dn 60 (.str s) = true ∧ dnA 60 (xs.map .str) = true then Re.ok (PyData.bool ((xs.map .str).any fun y => PyData.eqv y (.str s))) else .no) = _
  rw [if_pos (by simp [dnA_all])]
  congr 2
  rw [Bool.eq_iff_iff]
  simp [PyData.eqv, str_beq]
theorem in_strT (s : Str) (xs : List Str) : inD (.str s) (.tuple (xs.map .str)) = .ok (.bool (decide (s ∈ xs))) := by
  have := in_strL s xs
  exact this
theorem ev_addL {xs ys : List PyData} (h : xs.length + ys.length ≤ sizeLine) : addD (.list xs) (.list ys) = .ok (.list (xs ++ ys)) := by unfold addD; simp only; rw [if_pos h]
theorem ev_addT {xs ys : List PyData} (h : xs.length + ys.length ≤ sizeLine) : addD (.tuple xs) (.tuple ys) = .ok (.tuple (xs ++ ys)) := by unfold addD; simp only; rw [if_pos h]
end VS
end
section
open PySem PySem.Spec PyProof.Rows L2 VS
namespace KL
def wholeB : PyData → Int → Int → Bool
  | .int i, a, b => decide (a ≤ i) && decide (i ≤ b)
  | _, _, _ => false
theorem s_is_whole (k : Nat) (v : PyData) (a b : Int) : den (k + 1) I_is_whole [.sh v, .sh (.int a), .sh (.int b)] = .ok (.bool (wholeB v a b)) := by
  rw [den_is_whole]
  cases v <;> simp [b_0, isT, wholeB]
  split <;> simp [*]
/-! ### the draws -/
def okDr (ds : List Int) : Prop := ∀ d ∈ ds, 0 ≤ d ∧ d < 65521
abbrev I2 (ds : List Int) : PyData := .list (ds.map .int)
theorem okDr_app {ds : List Int} {d : Int} (h : okDr ds) (h0 : 0 ≤ d) (h1 : d < 65521) : okDr (ds ++ [d]) := fun x hx => by
  rcases List.mem_append.mp hx with hx | hx
  · exact h x hx
  · have : x = d := by simpa using hx
    subst this; exact ⟨h0, h1⟩
def inner60 : Dl → RS := (ifS (tB1 (d2 gtD (gS 5) (kC (.int 0)))) (seqS (appS 2 (d2 modI (dA (argsF [(gS 5)]) intD) (kC (.int 1009)))) (setS 5 (d2 fdivI (gS 5) (kC (.int 1009))))) nxS)
theorem inner60_go : ∀ (js : List PyData) (x0 x1 s3 s4 s6 : Sl) (ds : List Int) (num : Int), okDr ds → 0 ≤ num → ds.length + js.length < sizeLine →
    ∃ ds' num' s6', goS (bN 6) inner60 js [x0, x1, .ow (I2 ds), s3, s4, .sh (.int num), s6] = .nx [x0, x1, .ow (I2 ds'), s3, s4, .sh (.int num'), s6'] ∧ okDr ds' ∧ ds'.length ≤ ds.length + js.length
  | [], x0, x1, s3, s4, s6, ds, num, ok, _, _ => ⟨ds, num, s6, rfl, ok, Nat.le_refl _⟩
  | j :: js, x0, x1, s3, s4, s6, ds, num, ok, h0, hz => by
    have hz' : ds.length + 1 + js.length < sizeLine := by simpa [Nat.add_assoc, Nat.add_comm, Nat.add_left_comm] using hz
    unfold goS
    simp only [ev_bN]
    by_cases hp : 0 < num
    · have e1 : inner60 [x0, x1, .ow (I2 ds), s3, s4, .sh (.int num), .sh j] = .nx [x0, x1, .ow (I2 (ds ++ [num % 1009])), s3, s4, .sh (.int (num / 1009)), .sh j] := by
        unfold inner60
        simp [hp, ev_fdiv]
        rw [ev_app (xs := ds.map .int) (d := .int (num % 1009)) rfl (by simp [ev_mod]) (by rw [List.length_map]; omega)]
        simp [ev_fdiv]
      simp only [List.set_cons_succ, List.set_cons_zero]
      rw [e1]
      obtain ⟨ds', num', s6', e, ok', hl⟩ := inner60_go js x0 x1 s3 s4 (.sh j) (ds ++ [num % 1009]) (num / 1009) (okDr_app ok (by omega) (by omega)) (by omega) (by simp; omega)
      exact ⟨ds', num', s6', e, ok', by simp at hl ⊢; omega⟩
    · have e1 : inner60 [x0, x1, .ow (I2 ds), s3, s4, .sh (.int num), .sh j] = .nx [x0, x1, .ow (I2 ds), s3, s4, .sh (.int num), .sh j] := by
        unfold inner60
        simp [hp]
      simp only [List.set_cons_succ, List.set_cons_zero]
      rw [e1]
      obtain ⟨ds', num', s6', e, ok', hl⟩ := inner60_go js x0 x1 s3 s4 (.sh j) ds num ok h0 (by omega)
      exact ⟨ds', num', s6', e, ok', by simp; omega⟩

def bodyCell : Dl → RS := (seqS (setS 5 (dA (argsF [(gS 4)]) absD)) (seqS (setS 3 (d2 modI (dA (argsF [(d2 addD (d2 addD (d2 mulI (gS 3) (kC (.int 48271))) (gS 5)) (kC (.int 11)))]) intD) (kC (.int 2147483647)))) (ifS (tB1 (d2 geD (gS 5) (d2 powI (kC (.int 10)) (kC (.int 18))))) (forS (dAL (argsF [(kC (.int 60))]) rng1D) (bN 6) inner60) (appS 2 (d2 modI (d2 fdivI (dA (argsF [(d2 addD (d2 mulI (gS 3) (kC (.int 16807))) (kC (.int 5)))]) intD) (kC (.int 3))) (kC (.int 65521)))))))
theorem pow18 : powI (.int 10) (.int 18) = .ok (.int (10 ^ 18)) := by
  unfold powI
  simp only
  rw [if_pos (by unfold CPow; decide)]
  rfl
theorem cell_go : ∀ (cs : List Int) (x0 x1 s4 s5 s6 : Sl) (ds : List Int) (seed : Int), okDr ds → 0 ≤ seed → seed < 2147483647 → ds.length + 60 * cs.length < sizeLine →
    ∃ ds' seed' s4' s5' s6', goS (bN 4) bodyCell (cs.map .int) [x0, x1, .ow (I2 ds), .sh (.int seed), s4, s5, s6] = .nx [x0, x1, .ow (I2 ds'), .sh (.int seed'), s4', s5', s6'] ∧ okDr ds' ∧ ds'.length ≤ ds.length + 60 * cs.length ∧ 0 ≤ seed' ∧ seed' < 2147483647
  | [], x0, x1, s4, s5, s6, ds, seed, ok, h0, h1, _ => ⟨ds, seed, s4, s5, s6, rfl, ok, by simp, h0, h1⟩
  | c :: cs, x0, x1, s4, s5, s6, ds, seed, ok, h0, h1, hz => by
    rw [List.length_cons] at hz
    have hz' : ds.length + 60 + 60 * cs.length < sizeLine := by omega
    have step : ∃ ds1 seed1 s5' s6', bodyCell [x0, x1, .ow (I2 ds), .sh (.int seed), .sh (.int c), s5, s6] = .nx [x0, x1, .ow (I2 ds1), .sh (.int seed1), .sh (.int c), s5', s6'] ∧ okDr ds1 ∧ ds1.length ≤ ds.length + 60 ∧ 0 ≤ seed1 ∧ seed1 < 2147483647 := by
      generalize hn : (if c < 0 then -c else c) = num
      have hnum : 0 ≤ num := by split at hn <;> omega
      have e0 : (seed * 48271 + num + 11) % 2147483647 < 2147483647 := Int.emod_lt_of_pos _ (by decide)
      have e1 : 0 ≤ (seed * 48271 + num + 11) % 2147483647 := Int.emod_nonneg _ (by decide)
      unfold bodyCell
      simp only [ev_seq, ev_set, ev_dA, ev_args, ev_args0, gS_succ, gS_zero, bnd_ok, ev_absI, toS_ok, rsb_nx, List.set_cons_succ, List.set_cons_zero, hn, ev_d2, ev_k, ev_mul (.inl (show -(2 ^ 64) < seed ∧ seed < 2 ^ 64 by omega)), ev_addI, ev_intI, ev_mod (show (0 : Int) < 2147483647 by decide), ev_if, ev_tB1, pow18, ev_geI, ev_asB]
      generalize (seed * 48271 + num + 11) % 2147483647 = seed1 at e0 e1 ⊢
      by_cases hb : (10 : Int) ^ 18 ≤ num
      · rw [decide_eq_true hb, if_pos rfl]
        have er : rng1D [PyData.int 60] = .ok ((List.range 60).map fun k => .int (0 + (k : Nat))) := by
          unfold rng1D
          simp
        simp only [ev_for, ev_dAL, ev_args, ev_args0, ev_k, bnd_ok, er, toS_ok]
        obtain ⟨ds', num', s6', e, ok', hl⟩ := inner60_go ((List.range 60).map fun k => .int (0 + (k : Nat))) x0 x1 (.sh (.int seed1)) (.sh (.int c)) s6 ds num ok hnum (by simp; omega)
        exact ⟨ds', seed1, _, s6', e, ok', by simpa using hl, e1, e0⟩
      · rw [decide_eq_false hb, if_neg Bool.false_ne_true]
        rw [ev_app (xs := ds.map .int) (d := .int ((seed1 * 16807 + 5) / 3 % 65521)) rfl (by simp [ev_mul (.inl (show -(2 ^ 64) < seed1 ∧ seed1 < 2 ^ 64 by omega)), ev_fdiv, ev_mod]) (by rw [List.length_map]; omega)]
        refine ⟨ds ++ [(seed1 * 16807 + 5) / 3 % 65521], seed1, .sh (.int num), s6, ?_, okDr_app ok (Int.emod_nonneg _ (by decide)) (Int.emod_lt_of_pos _ (by decide)), by simp, e1, e0⟩
        simp
    obtain ⟨ds1, seed1, s5', s6', e, ok1, l1, h2, h3⟩ := step
    rw [List.map_cons]
    unfold goS
    simp only [ev_bN, List.set_cons_succ, List.set_cons_zero]
    rw [e]
    obtain ⟨ds', seed', t4, t5, t6, e', ok', hl, h4, h5⟩ := cell_go cs x0 x1 (.sh (.int c)) s5' s6' ds1 seed1 ok1 h2 h3 (by omega)
    exact ⟨ds', seed', t4, t5, t6, e', ok', by rw [List.length_cons]; omega, h4, h5⟩
def bodyMany : Dl → RS := (ifS (tB1 (d2 ltD (dA (argsF [(gB 2)]) lenD) (gS 1))) (seqS (setS 3 (d2 modI (dA (argsF [(d2 addD (d2 addD (d2 mulI (gS 3) (kC (.int 69621))) (gS 6)) (kC (.int 1)))]) intD) (kC (.int 2147483647)))) (appS 2 (d2 modI (d2 fdivI (dA (argsF [(gS 3)]) intD) (kC (.int 7))) (kC (.int 65521))))) nxS)
theorem many_go (m : Nat) : ∀ (js : List Nat) (x0 s4 s5 s6 : Sl) (ds : List Int) (seed : Int), okDr ds → 0 ≤ seed → seed < 2147483647 → ds.length + js.length < sizeLine →
    ∃ ds' seed' s6', goS (bN 6) bodyMany (js.map fun k => .int (0 + (k : Nat))) [x0, .sh (.int (m : Nat)), .ow (I2 ds), .sh (.int seed), s4, s5, s6] = .nx [x0, .sh (.int (m : Nat)), .ow (I2 ds'), .sh (.int seed'), s4, s5, s6'] ∧ okDr ds' ∧ min m (ds.length + js.length) ≤ ds'.length ∧ ds'.length ≤ ds.length + js.length
  | [], x0, s4, s5, s6, ds, seed, ok, h0, h1, _ => ⟨ds, seed, s6, rfl, ok, by simp; omega, by simp⟩
  | j :: js, x0, s4, s5, s6, ds, seed, ok, h0, h1, hz => by
    rw [List.length_cons] at hz
    rw [List.map_cons]
    unfold goS
    simp only [ev_bN, List.set_cons_succ, List.set_cons_zero]
    by_cases hl : (ds.length : Int) < (m : Nat)
    · have e0 : (seed * 69621 + (0 + (j : Nat)) + 1) % 2147483647 < 2147483647 := Int.emod_lt_of_pos _ (by decide)
      have e1 : 0 ≤ (seed * 69621 + (0 + (j : Nat)) + 1) % 2147483647 := Int.emod_nonneg _ (by decide)
      have e : bodyMany [x0, .sh (.int (m : Nat)), .ow (I2 ds), .sh (.int seed), s4, s5, .sh (.int (0 + (j : Nat)))] = .nx [x0, .sh (.int (m : Nat)), .ow (I2 (ds ++ [(seed * 69621 + (0 + (j : Nat)) + 1) % 2147483647 / 7 % 65521])), .sh (.int ((seed * 69621 + (0 + (j : Nat)) + 1) % 2147483647)), s4, s5, .sh (.int (0 + (j : Nat)))] := by
        unfold bodyMany
        simp only [ev_if, ev_tB1, ev_d2, ev_dA, ev_args, ev_args0, gB_succ, gB_zero', gS_succ, gS_zero, bnd_ok, ev_lenL, List.length_map, ev_ltI, ev_asB, toS_ok, decide_eq_true hl, if_true]
        simp only [ev_seq, ev_set, ev_dA, ev_args, ev_args0, gS_succ, gS_zero, bnd_ok, toS_ok, rsb_nx, List.set_cons_succ, List.set_cons_zero, ev_d2, ev_k, ev_mul (.inl (show -(2 ^ 64) < seed ∧ seed < 2 ^ 64 by omega)), ev_addI, ev_intI, ev_mod (show (0 : Int) < 2147483647 by decide)]
        generalize (seed * 69621 + (0 + (j : Nat)) + 1) % 2147483647 = seed1 at e0 e1 ⊢
        rw [ev_app (xs := ds.map .int) (d := .int (seed1 / 7 % 65521)) rfl (by simp [ev_fdiv, ev_mod]) (by rw [List.length_map]; omega)]
        simp
      rw [e]
      obtain ⟨ds', seed', s6', e', ok', l1, l2⟩ := many_go m js x0 s4 s5 (.sh (.int (0 + (j : Nat)))) _ _ (okDr_app ok (Int.emod_nonneg _ (by decide)) (Int.emod_lt_of_pos _ (by decide))) e1 e0 (by simp; omega)
      exact ⟨ds', seed', s6', e', ok', by simp at l1 ⊢; omega, by simp at l2 ⊢; omega⟩
    · have e : bodyMany [x0, .sh (.int (m : Nat)), .ow (I2 ds), .sh (.int seed), s4, s5, .sh (.int (0 + (j : Nat)))] = .nx [x0, .sh (.int (m : Nat)), .ow (I2 ds), .sh (.int seed), s4, s5, .sh (.int (0 + (j : Nat)))] := by
        unfold bodyMany
        simp only [ev_if, ev_tB1, ev_d2, ev_dA, ev_args, ev_args0, gB_succ, gB_zero', gS_succ, gS_zero, bnd_ok, ev_lenL, List.length_map, ev_ltI, ev_asB, toS_ok, decide_eq_false hl, if_neg Bool.false_ne_true, ev_nx]
      rw [e]
      obtain ⟨ds', seed', s6', e', ok', l1, l2⟩ := many_go m js x0 s4 s5 (.sh (.int (0 + (j : Nat)))) ds seed ok h0 h1 (by omega)
      exact ⟨ds', seed', s6', e', ok', by simp; omega, by simp; omega⟩
theorem cut_len (xs : List PyData) (n : Nat) : cutD xs none (some (n : Int)) = xs.take n := by
  unfold VS.cutD
  rw [HT.sIx_none, HT.sIx_nat, List.drop_zero, Nat.sub_zero, List.take_eq_take_iff]
  omega
theorem rng1_ok (m : Nat) (hm : m ≤ 100000) : rng1D [PyData.int (m : Nat)] = .ok ((List.range m).map fun k => .int (0 + (k : Nat))) := by
  have h : -(2 ^ 62) ≤ ((m : Nat) : Int) ∧ ((m : Nat) : Int) < 2 ^ 62 := by omega
  unfold rng1D
  simp only
  rw [if_pos h, Int.toNat_natCast]
theorem cut63 (ns : List Int) : VS.cutD (ns.map .int) none (some 63) = (ns.take 63).map .int := by
  have := cut_len (ns.map .int) 63
  rw [← List.map_take] at this
  exact this
theorem draws_body (c : Nat → List Sl → Re PyData) : b_23 c = (seqS (setO 2 (dA (argsF []) lstD)) (seqS (setS 3 (kC (.int 7))) (seqS (forS (d1L itemsD (dScrSl 0 63)) (bN 4) bodyCell) (seqS (forS (dAL (argsF [(gS 1)]) rng1D) (bN 6) bodyMany) (retS (dSl slL (gB 2) noP (someP (gS 1)))))))) := rfl
theorem draws_ret (m : Nat) (ds2 : List Int) (a b c d e : Sl) : outR (retS (dSl slL (gB 2) noP (someP (gS 1))) [a, .sh (.int (m : Nat)), .ow (I2 ds2), b, c, d, e]) = .ok (.list ((ds2.take m).map .int)) := by
  simp only [ev_ret]
  unfold dSl
  simp only [gB_succ, gB_zero', bnd_ok, noP, someP, gS_succ, gS_zero, asI]
  unfold slL
  simp only [bnd_ok, toS_ok, outR_rt, cut_len, List.map_take]
theorem s_draws (k : Nat) (ns : List Int) (m : Nat) (hm : m ≤ 100000) : ∃ ds : List Int, den (k + 1) I__law_draws [.br ns, .sh (.int (m : Nat))] = .ok (.list (ds.map .int)) ∧ ds.length = m ∧ okDr ds := by
  have hs : sizeLine = 16777216 := sz_line
  have lt := List.length_take_le 63 ns
  obtain ⟨ds1, seed1, t4, t5, t6, e1, ok1, l1, h1, h2⟩ := cell_go (ns.take 63) (.br ns) (.sh (.int (m : Nat))) .no .no .no [] 7 (fun _ h => nomatch h) (by decide) (by decide) (by rw [List.length_nil]; omega)
  have l1' : ds1.length ≤ 60 * 63 := by rw [List.length_nil] at l1; omega
  have lr : (List.range m).length = m := List.length_range
  obtain ⟨ds2, seed2, t6', e2, ok2, l2, l3⟩ := many_go m (List.range m) (.br ns) t4 t5 t6 ds1 seed1 ok1 h1 h2 (by omega)
  refine ⟨ds2.take m, ?_, by rw [List.length_take]; omega, fun d hd => ok2 d (List.mem_of_mem_take hd)⟩
  rw [den__law_draws, draws_body]
  have es : dScrSl 0 63 [Sl.br ns, .sh (.int (m : Nat)), .ow (.list []), .sh (.int 7), .no, .no, .no] = .ok (.list (VS.cutD (ns.map .int) none (some 63))) := rfl
  have e3 : forS (dAL (argsF [(gS 1)]) rng1D) (bN 6) bodyMany [Sl.br ns, .sh (.int (m : Nat)), .ow (I2 ds1), .sh (.int seed1), t4, t5, t6] = .nx [Sl.br ns, .sh (.int (m : Nat)), .ow (I2 ds2), .sh (.int seed2), t4, t5, t6'] := by
    simp only [ev_for, ev_dAL, ev_args, ev_args0, gS_succ, gS_zero, bnd_ok, rng1_ok m hm, toS_ok]
    exact e2
  have e4 : forS (d1L itemsD (dScrSl 0 63)) (bN 4) bodyCell [Sl.br ns, .sh (.int (m : Nat)), .ow (.list []), .sh (.int 7), .no, .no, .no] = .nx [Sl.br ns, .sh (.int (m : Nat)), .ow (I2 ds1), .sh (.int seed1), t4, t5, t6] := by
    simp only [ev_for, ev_d1L, es, cut63, bnd_ok, ev_items_l, toS_ok]
    exact e1
  have st : [Sl.br ns, Sl.sh (.int (m : Nat))] ++ List.replicate 5 Sl.no = [Sl.br ns, .sh (.int (m : Nat)), .no, .no, .no, .no, .no] := rfl
  rw [st]
  simp only [ev_seq, ev_setO, ev_set, ev_dA, ev_args0, bnd_ok, ev_lst0, toS_ok, rsb_nx, List.set_cons_succ, List.set_cons_zero, ev_k, e4, e3]
  exact draws_ret m ds2 _ _ _ _ _
end KL
end
section
open PySem PySem.Spec PyProof.Rows L2 VS
namespace KL
/-! ### trees taken apart -/
theorem lcP {δ : Dl} {i : Nat} (cs : Cs) (hi : ∀ d, gS i (δ.set i (.sh d)) = .ok d) : lcL (bN i) yesT (d2 ixD (gS i) (kC (.int 1))) δ (encP cs) = .ok (encT cs) := by
  rw [lcL_map (fun d => match d with | .tuple [_, e] => e | d => d) _ fun d hd => by
    obtain ⟨w, t, e, _⟩ := encP_get hd
    subst e
    exact ⟨_, rfl, by simp [hi]⟩]
  congr 1
  induction cs with
  | nil => rfl
  | cons p r ih =>
    obtain ⟨w, t⟩ := p
    rw [encP, encT, List.map_cons, ih]
theorem s_inner (k : Nat) (t : T) (hz : zT t ≤ 1000000) : den (k + 1) I_inner_trees [.sh (enc t)] = .ok (.list (encT (csOf t))) := by
  rw [den_inner_trees]
  have hs : sizeLine = 16777216 := sz_line
  cases t with
  | win s => simp [b_5, enc, csOf, encT]
  | nd kd n cs =>
    have l1 := encP_len cs
    have l2 := len_zC cs
    have l3 : zC cs + 1 ≤ 1000000 := by simpa [zT] using hz
    have e1 : encP cs = encP cs := rfl
    cases kd <;> simp (decide := true) [b_5, enc, csOf, kdS, lstOfD]
    · rw [if_pos (by omega), lcP cs (fun d => rfl)]
      simp
    · rw [if_pos (by omega), lcP cs (fun d => rfl)]
      simp

theorem s_linner (k : Nat) (t : T) (hz : zT t ≤ 1000000) : den (k + 1) I__law_inner [.sh (enc t)] = .ok (.list (encT (csOf t))) := by
  rw [den__law_inner]
  have hs : sizeLine = 16777216 := sz_line
  cases t with
  | win s => simp [b_26, enc, csOf, encT]
  | nd kd n cs =>
    have l1 := encP_len cs
    have l2 := len_zC cs
    have l3 : zC cs + 1 ≤ 1000000 := by simpa [zT] using hz
    cases kd <;> simp (decide := true) [b_26, enc, csOf, kdS, lstOfD]
    · rw [if_pos (by omega), lcP cs (fun d => rfl)]
      simp
    · rw [if_pos (by omega), lcP cs (fun d => rfl)]
      simp
theorem enc0 (t : T) : ∃ xs, enc t = .tuple (.str (match t with | .win _ => "win" | .nd k _ _ => kdS k) :: xs) := by
  cases t with
  | win s => exact ⟨_, by simp [enc]; rfl⟩
  | nd k n cs => cases k <;> exact ⟨_, by simp [enc, kdS]; rfl⟩
def nmBody (k : Nat) : Dl → RS := extS 1 (dA (argsF [(gS 2)]) (cD (den k I_names_of)))
theorem nd_ne_win (k : Kd) : (kdS k : Str) ≠ "win" := by cases k <;> decide
mutual
theorem s_names : ∀ (t : T) (k : Nat), hT t + 2 ≤ k → zT t ≤ 1000000 → den k I_names_of [.sh (enc t)] = .ok (.list ((nmT t).map .str))
  | t, 0, h, _ => by omega
  | .win s, k + 1, h, hz => by
    rw [den_names_of]
    simp [b_6, enc, nmT]
  | .nd kd n cs, k + 1, h, hz => by
    have h' : hC cs + 2 ≤ k := by simp [hT] at h; omega
    have hz' : zC cs ≤ 999999 := by simp [zT] at hz; omega
    obtain ⟨k', rfl⟩ : ∃ k', k = k' + 1 := ⟨k - 1, by omega⟩
    obtain ⟨xs, ex⟩ := enc0 (.nd kd n cs)
    obtain ⟨s2, e⟩ := s_namesC cs (k' + 1) [] (.sh (enc (.nd kd n cs))) .no h' (by simp; omega)
    have ei := s_inner k' (.nd kd n cs) hz
    have e0 : den (k' + 1 + 1) I_names_of [.sh (enc (.nd kd n cs))] = outR (b_6 (den (k' + 1)) [.sh (enc (.nd kd n cs)), .no, .no]) := den_names_of _ _
    rw [e0]
    have et : (tB1 (d2 eqD (d2 ixD (gS 0) (kC (.int 0))) (kC (.str "win")))) [.sh (enc (.nd kd n cs)), .no, .no] = .ok false := by
      rw [ex]
      simp [nd_ne_win]
    simp only [b_6, ev_seq, ev_if, et, toS_ok, if_neg Bool.false_ne_true, ev_nx, rsb_nx, ev_setO, ev_dA, ev_args0, bnd_ok, ev_lst0, List.set_cons_succ, List.set_cons_zero, ev_for, ev_d1L, ev_args, gS_zero, ev_cD, List.map_cons, List.map_nil, ei, ev_items_l, csOf]
    have e' : goS (bN 2) (extS 1 (dA (argsF [gS 2]) (cD (den (k' + 1) I_names_of)))) (encT cs) [.sh (enc (.nd kd n cs)), .ow (.list []), .no] = .nx [.sh (enc (.nd kd n cs)), .ow (.list (([] ++ nmC cs).map .str)), s2] := e
    rw [e']
    simp [frzD, nmT]
theorem s_namesC : ∀ (cs : List (Int × T)) (k : Nat) (acc : List Str) (x0 s2 : Sl), hC cs + 2 ≤ k → zC cs + acc.length ≤ 1000000 → ∃ s2', goS (bN 2) (nmBody k) (encT cs) [x0, .ow (.list (acc.map .str)), s2] = .nx [x0, .ow (.list ((acc ++ nmC cs).map .str)), s2']
  | [], k, acc, x0, s2, _, _ => ⟨s2, by simp [encT, nmC]⟩
  | (w, t) :: r, k, acc, x0, s2, h, hz => by
    have hs : sizeLine = 16777216 := sz_line
    have h1 : hT t + 2 ≤ k := by simp [hC] at h; omega
    have h2 : hC r + 2 ≤ k := by simp [hC] at h; omega
    have hz1 : zT t + zC r + acc.length ≤ 1000000 := by simpa [zC] using hz
    have hn := nm_z t
    have e1 := s_names t k h1 (by omega)
    have es : nmBody k [x0, .ow (.list (acc.map .str)), .sh (enc t)] = .nx [x0, .ow (.list ((acc ++ nmT t).map .str)), .sh (enc t)] := by
      unfold nmBody
      rw [ev_ext (xs := acc.map .str) (ds := (nmT t).map .str) (d := .list ((nmT t).map .str)) rfl (by simp [e1]) (.inl rfl) (by simp; omega)]
      simp
    obtain ⟨s2', e2⟩ := s_namesC r k (acc ++ nmT t) x0 (.sh (enc t)) h2 (by simp; omega)
    refine ⟨s2', ?_⟩
    rw [encT]
    unfold goS
    simp only [ev_bN, List.set_cons_succ, List.set_cons_zero]
    rw [es]
    simp only
    rw [e2, nmC, List.append_assoc]
end
def lnmBody (k : Nat) : Dl → RS := (setS 1 (d2 addD (gS 1) (dA (argsF [(gS 2)]) (cD (den k I__law_wins)))))
mutual
theorem s_lnames : ∀ (t : T) (k : Nat), hT t + 2 ≤ k → zT t ≤ 1000000 → den k I__law_wins [.sh (enc t)] = .ok (.list ((nmT t).map .str))
  | t, 0, h, _ => by omega
  | .win s, k + 1, h, hz => by
    obtain ⟨k', rfl⟩ : ∃ k', k = k' + 1 := ⟨k - 1, by simp [hT] at h; omega⟩
    have ei := s_linner k' (.win s) hz
    have e0 : den (k' + 1 + 1) I__law_wins [.sh (enc (.win s))] = outR (b_27 (den (k' + 1)) [.sh (enc (.win s)), .no, .no]) := den__law_wins _ _
    rw [e0]
    have ee : enc (.win s) = .tuple [.str "win", .str s] := by simp [enc]
    rw [ee] at ei ⊢
    simp [b_27, ei, csOf, encT, nmT]
  | .nd kd n cs, k + 1, h, hz => by
    have h' : hC cs + 2 ≤ k := by simp [hT] at h; omega
    have hz' : zC cs ≤ 999999 := by simp [zT] at hz; omega
    obtain ⟨k', rfl⟩ : ∃ k', k = k' + 1 := ⟨k - 1, by omega⟩
    obtain ⟨xs, ex⟩ := enc0 (.nd kd n cs)
    obtain ⟨s2, e⟩ := s_lnamesC cs (k' + 1) [] (.sh (enc (.nd kd n cs))) .no h' (by simp; omega)
    have ei := s_linner k' (.nd kd n cs) hz
    have e0 : den (k' + 1 + 1) I__law_wins [.sh (enc (.nd kd n cs))] = outR (b_27 (den (k' + 1)) [.sh (enc (.nd kd n cs)), .no, .no]) := den__law_wins _ _
    rw [e0]
    have et : (tB1 (d2 eqD (d2 ixD (gS 0) (kC (.int 0))) (kC (.str "win")))) [.sh (enc (.nd kd n cs)), .no, .no] = .ok false := by
      rw [ex]
      simp [nd_ne_win]
    simp only [b_27, ev_seq, ev_set, ev_dIf, et, bnd_ok, if_neg Bool.false_ne_true, toS_ok, rsb_nx, ev_dA, ev_args0, ev_lst0, List.set_cons_succ, List.set_cons_zero, ev_for, ev_d1L, ev_args, gS_zero, ev_cD, List.map_cons, List.map_nil, ei, ev_items_l, csOf]
    have e' : goS (bN 2) (setS 1 (d2 addD (gS 1) (dA (argsF [(gS 2)]) (cD (den (k' + 1) I__law_wins))))) (encT cs) [.sh (enc (.nd kd n cs)), .sh (.list []), .no] = .nx [.sh (enc (.nd kd n cs)), .sh (.list (([] ++ nmC cs).map .str)), s2] := e
    rw [e']
    simp [nmT]
theorem s_lnamesC : ∀ (cs : List (Int × T)) (k : Nat) (acc : List Str) (x0 s2 : Sl), hC cs + 2 ≤ k → zC cs + acc.length ≤ 1000000 → ∃ s2', goS (bN 2) (lnmBody k) (encT cs) [x0, .sh (.list (acc.map .str)), s2] = .nx [x0, .sh (.list ((acc ++ nmC cs).map .str)), s2']
  | [], k, acc, x0, s2, _, _ => ⟨s2, by simp [encT, nmC]⟩
  | (w, t) :: r, k, acc, x0, s2, h, hz => by
    have hs : sizeLine = 16777216 := sz_line
    have h1 : hT t + 2 ≤ k := by simp [hC] at h; omega
    have h2 : hC r + 2 ≤ k := by simp [hC] at h; omega
    have hz1 : zT t + zC r + acc.length ≤ 1000000 := by simpa [zC] using hz
    have hn := nm_z t
    have e1 := s_lnames t k h1 (by omega)
    have es : lnmBody k [x0, .sh (.list (acc.map .str)), .sh (enc t)] = .nx [x0, .sh (.list ((acc ++ nmT t).map .str)), .sh (enc t)] := by
      unfold lnmBody
      simp [e1, addD]
      rw [if_pos (by omega)]
      simp
    obtain ⟨s2', e2⟩ := s_lnamesC r k (acc ++ nmT t) x0 (.sh (enc t)) h2 (by simp; omega)
    refine ⟨s2', ?_⟩
    rw [encT]
    unfold goS
    simp only [ev_bN, List.set_cons_succ, List.set_cons_zero]
    rw [es]
    simp only
    rw [e2, nmC, List.append_assoc]
end
end KL
end
section
open PySem PySem.Spec PyProof.Rows L2 VS
namespace KL
/-! ### is_name, is_layout -/
def letters : Str := "abcdefghijklmnopqrstuvwxyz"
def okName (s : Str) : Bool := decide (1 ≤ s.length ∧ s.length ≤ 8) && s.cps.toList.all fun c => decide (c ∈ letters.cps.toList)
theorem all_true {α : Type} (ds : List α) : allD [.list (ds.map fun _ => PyData.bool true)] = .ok (.bool true) := by
  have e := blsOf_fn (fun _ : α => true) ds
  show (ofO (blsOf (ds.map fun _ => PyData.bool true))).bnd _ = _
  rw [e]
  simp
theorem s_is_name (k : Nat) (s : Str) (h : okName s = true) : den (k + 1) I_is_name [.sh (.str s)] = .ok (.bool true) := by
  rw [den_is_name]
  have hs : sizeLine = 16777216 := sz_line
  unfold okName at h
  rw [Bool.and_eq_true, decide_eq_true_eq, List.all_eq_true] at h
  obtain ⟨⟨h1, h2⟩, h3⟩ := h
  have el : lenD [PyData.str s] = .ok (.int s.length) := by
    unfold lenD
    simp only
    rw [if_pos (by omega)]
  have ec : ∀ δ : Dl, (∀ d, gS 1 (δ.set 1 (.sh d)) = .ok d) → lcL (bN 1) yesT (d2 inD (gS 1) (kC (.str "abcdefghijklmnopqrstuvwxyz"))) δ (VS.signs s) = .ok ((VS.signs s).map fun _ => PyData.bool true) := fun δ hδ => lcL_map (fun _ => .bool true) _ fun d hd => by
    unfold VS.signs at hd
    obtain ⟨c, hc, rfl⟩ := List.mem_map.mp hd
    refine ⟨_, rfl, ?_⟩
    simp only [ev_d2, hδ, bnd_ok, ev_k]
    have h4 : c ∈ (Str.ofString "abcdefghijklmnopqrstuvwxyz").cps.toList := of_decide_eq_true (h3 c hc)
    unfold inD
    simp only [decide_eq_true h4]
  have ls : (VS.signs s).length = s.length := signs_len s
  have hb1 : (1 : Int) ≤ (s.length : Nat) := by omega
  have hb2 : ((s.length : Nat) : Int) ≤ 8 := by omega
  simp [b_2, isT, el, hb1, hb2]
  rw [if_pos (by omega), ec _ (fun d => rfl)]
  simp only [bnd_ok, all_true]
  rfl
def kdO : T → Option Kd
  | .win _ => none
  | .nd k _ _ => some k
def vK : Kd → Int → Nat → Prop
  | .tabs, n, l => 1 ≤ l ∧ 0 ≤ n ∧ n < l
  | .row, _, l => 2 ≤ l
  | .col, _, l => 2 ≤ l
mutual
def vT : T → Prop
  | .win s => okName s = true
  | .nd k n cs => vC k cs ∧ vK k n cs.length
def vC (k : Kd) : List (Int × T) → Prop
  | [] => True
  | (w, t) :: r => vT t ∧ kdO t ≠ some k ∧ (k = .tabs ∨ (1 ≤ w ∧ w ≤ 12)) ∧ vC k r
end
theorem enc_row (n : Int) (cs : Cs) : enc (.nd .row n cs) = .tuple [.str "row", .tuple (encP cs)] := by simp [enc, kdS]
theorem enc_col (n : Int) (cs : Cs) : enc (.nd .col n cs) = .tuple [.str "col", .tuple (encP cs)] := by simp [enc, kdS]
theorem enc_tabs (n : Int) (cs : Cs) : enc (.nd .tabs n cs) = .tuple [.str "tabs", .int n, .tuple (encT cs)] := by simp [enc]
theorem enc_win (s : Str) : enc (.win s) = .tuple [.str "win", .str s] := by simp [enc]
/-- the word that a tree begins with -/
def wd : T → Str
  | .win _ => "win"
  | .nd k _ _ => kdS k
theorem enc_wd (t : T) : ∃ xs, enc t = .tuple (.str (wd t) :: xs) := by
  cases t with
  | win s => exact ⟨_, enc_win s⟩
  | nd k n cs => cases k <;> exact ⟨_, by simp [enc, kdS, wd]; rfl⟩
theorem kdS_inj {a b : Kd} (h : kdS a = kdS b) : a = b := by cases a <;> cases b <;> first | rfl | (exact absurd h (by decide))
theorem wd_eq {t : T} {k : Kd} : wd t = kdS k ↔ kdO t = some k := by
  cases t with
  | win s => cases k <;> simp (decide := true) [wd, kdO, kdS]
  | nd k' n cs =>
    simp only [wd, kdO, Option.some.injEq]
    exact ⟨kdS_inj, fun e => by rw [e]⟩
theorem ix0_enc (t : T) : (ixD (enc t) (.int 0)) = .ok (.str (wd t)) := by
  obtain ⟨xs, e⟩ := enc_wd t
  rw [e]
  simp
theorem in2 (a b c : Str) : inD (.str a) (.tuple [.str b, .str c]) = .ok (.bool (decide (b = a) || decide (c = a))) := by
  show (if dn 60 (.str a) = true ∧ dnA 60 [.str b, .str c] = true then Re.ok (PyData.bool ([PyData.str b, .str c].any fun y => PyData.eqv y (.str a))) else .no) = _
  rw [if_pos (by simp)]
  simp [PyData.eqv, str_beq]
theorem s_is_part (k : Nat) (w : Int) (t : T) (kd : Kd) (r : Int) (h1 : 1 ≤ w) (h2 : w ≤ 12) (hk : kdO t ≠ some kd) (ht : den (k + 1) I__is_tree [.sh (enc t), .sh (.int r)] = .ok (.bool true)) : den (k + 1 + 1) I__is_part [.sh (.tuple [.int w, enc t]), .sh (.str (kdS kd)), .sh (.int r)] = .ok (.bool true) := by
  have e : den (k + 1 + 1) I__is_part [.sh (.tuple [.int w, enc t]), .sh (.str (kdS kd)), .sh (.int r)] = outR (b_3 (den (k + 1)) [.sh (.tuple [.int w, enc t]), .sh (.str (kdS kd)), .sh (.int r)]) := den__is_part _ _
  rw [e]
  have ew := s_is_whole k (.int w) 1 12
  have hw : wholeB (.int w) 1 12 = true := by simp [wholeB, h1, h2]
  rw [hw] at ew
  have hne : ¬ wd t = kdS kd := fun z => hk (wd_eq.mp z)
  simp (decide := true) [b_3, isT, ew, ht, ix0_enc, hne]

theorem vC_mem {kd : Kd} : ∀ {cs : Cs} {w : Int} {t : T}, vC kd cs → (w, t) ∈ cs → vT t ∧ kdO t ≠ some kd ∧ (kd = .tabs ∨ (1 ≤ w ∧ w ≤ 12))
  | [], _, _, _, h => nomatch h
  | (w', t') :: r, w, t, v, h => by
    rw [vC] at v
    rcases List.mem_cons.mp h with e | h
    · cases e; exact ⟨v.1, v.2.1, v.2.2.1⟩
    · exact vC_mem v.2.2.2 h
theorem encT_get {cs : Cs} : ∀ {d : PyData}, d ∈ encT cs → ∃ w t, d = enc t ∧ (w, t) ∈ cs := by
  induction cs with
  | nil => intro d h; simp [encT] at h
  | cons p r ih =>
    obtain ⟨w, t⟩ := p
    intro d h
    rw [encT] at h
    rcases List.mem_cons.mp h with e | h
    · exact ⟨w, t, e, List.mem_cons_self⟩
    · obtain ⟨w', t', e, m⟩ := ih h
      exact ⟨w', t', e, List.mem_cons_of_mem _ m⟩
theorem len_lt {n : Nat} (h : 2 ≤ n) : ¬ (n : Int) < 2 := by omega
mutual
theorem s_is_tree : ∀ (t : T) (k : Nat) (r : Int), vT t → (hT t : Int) < r → 2 * hT t + 3 ≤ k → zT t ≤ 1000000 → den k I__is_tree [.sh (enc t), .sh (.int r)] = .ok (.bool true)
  | t, 0, r, _, _, h, _ => by omega
  | .win s, k + 1, r, v, hr, hk, hz => by
    obtain ⟨k', rfl⟩ : ∃ k', k = k' + 1 := ⟨k - 1, by simp [hT] at hk; omega⟩
    have e : den (k' + 1 + 1) I__is_tree [.sh (enc (.win s)), .sh (.int r)] = outR (b_4 (den (k' + 1)) [.sh (enc (.win s)), .sh (.int r), .no]) := den__is_tree _ _
    rw [e, enc_win]
    have hn := s_is_name k' s (by simpa [vT] using v)
    have r0 : ¬ r = 0 := by simp [hT] at hr; omega
    simp (decide := true) [b_4, isT, hn, r0]
  | .nd kd n cs, k + 1, r, v, hr, hk, hz => by
    have hs : sizeLine = 16777216 := sz_line
    have e : den (k + 1) I__is_tree [.sh (enc (.nd kd n cs)), .sh (.int r)] = outR (b_4 (den k) [.sh (enc (.nd kd n cs)), .sh (.int r), .no]) := den__is_tree _ _
    rw [e]
    have r0 : ¬ r = 0 := by simp [hT] at hr; omega
    have hk' : 2 * hC cs + 4 ≤ k := by simp [hT] at hk; omega
    have hr' : (hC cs : Int) < r - 1 := by simp [hT] at hr; omega
    have hz' : zC cs ≤ 1000000 := by simp [zT] at hz; omega
    have l1 := encP_len cs
    have l1' := encT_len cs
    have l2 := len_zC cs
    have v' : vC kd cs := by rw [vT] at v; exact v.1
    obtain ⟨k', rfl⟩ : ∃ k', k = k' + 1 := ⟨k - 1, by omega⟩
    obtain ⟨k2, rfl⟩ : ∃ k2, k' = k2 + 1 := ⟨k' - 1, by omega⟩
    have parts : ∀ kd', kd' = kd → kd ≠ .tabs → ∀ δ : Dl, gS 0 δ = .ok (enc (.nd kd n cs)) → gS 1 δ = .ok (.int r) → (∀ d, gS 0 (δ.set 2 (.sh d)) = gS 0 δ ∧ gS 1 (δ.set 2 (.sh d)) = gS 1 δ ∧ gS 2 (δ.set 2 (.sh d)) = .ok d) →
        lcL (bN 2) yesT (dA (argsF [(gS 2), (d2 ixD (gS 0) (kC (.int 0))), (d2 subD (gS 1) (kC (.int 1)))]) (cD (den (k2 + 1 + 1) I__is_part))) δ (encP cs) = .ok ((encP cs).map fun _ => PyData.bool true) := fun kd' _ ht δ h0 h1 hset => lcL_map (fun _ => .bool true) _ fun d hd => by
      obtain ⟨w, t, ed, m⟩ := encP_get hd
      subst ed
      refine ⟨_, rfl, ?_⟩
      obtain ⟨a1, a2, a3⟩ := hset (.tuple [.int w, enc t])
      obtain ⟨m1, m2, m3⟩ := vC_mem v' m
      have m3' := m3.resolve_left ht
      have ep := s_is_part k2 w t kd (r - 1) m3'.1 m3'.2 m2 (s_is_treeC cs (k2 + 1) kd (r - 1) v' hr' (by omega) hz' w t m)
      simp [a1, a2, a3, h0, h1, ix0_enc, wd, ep]
    cases kd with
    | row =>
      have v2 : 2 ≤ cs.length := by rw [vT] at v; exact v.2
      have pp := parts .row rfl (by decide) [.sh (enc (.nd .row n cs)), .sh (.int r), .no] rfl rfl (fun d => ⟨rfl, rfl, rfl⟩)
      rw [enc_row] at pp ⊢
      simp (decide := true) [b_4, isT, r0, in2, l1, len_lt v2]
      rw [if_pos (by omega), pp]
      simp only [bnd_ok, all_true]
      rfl
    | col =>
      have v2 : 2 ≤ cs.length := by rw [vT] at v; exact v.2
      have pp := parts .col rfl (by decide) [.sh (enc (.nd .col n cs)), .sh (.int r), .no] rfl rfl (fun d => ⟨rfl, rfl, rfl⟩)
      rw [enc_col] at pp ⊢
      simp (decide := true) [b_4, isT, r0, in2, l1, len_lt v2]
      rw [if_pos (by omega), pp]
      simp only [bnd_ok, all_true]
      rfl
    | tabs =>
      obtain ⟨v2, v3, v4⟩ : 1 ≤ cs.length ∧ 0 ≤ n ∧ n < cs.length := by rw [vT] at v; exact v.2
      have ew := s_is_whole (k2 + 1) (.int n) 0 ((cs.length : Nat) - 1)
      have hw : wholeB (.int n) 0 ((cs.length : Nat) - 1) = true := by simp [wholeB, v3]; omega
      rw [hw] at ew
      have n0 : ¬ ((cs.length : Nat) : Int) = 0 := by omega
      have n0' : ¬ cs = [] := fun z => by rw [z] at v2; simp at v2
      have pp : lcL (bN 2) yesT (dAnd (dA (argsF [(gS 2), (d2 subD (gS 1) (kC (.int 1)))]) (cD (den (k2 + 1 + 1) I__is_tree))) (d2 neD (d2 ixD (gS 2) (kC (.int 0))) (kC (.str "tabs")))) [.sh (.tuple [.str "tabs", .int n, .tuple (encT cs)]), .sh (.int r), .no] (encT cs) = .ok ((encT cs).map fun _ => PyData.bool true) := lcL_map (fun _ => .bool true) _ fun d hd => by
        obtain ⟨w, t, ed, m⟩ := encT_get hd
        subst ed
        refine ⟨_, rfl, ?_⟩
        obtain ⟨m1, m2, m3⟩ := vC_mem v' m
        have et := s_is_treeC cs (k2 + 1 + 1) .tabs (r - 1) v' hr' (by omega) hz' w t m
        have hne : ¬ wd t = "tabs" := fun z => m2 (wd_eq.mp z)
        simp [et, ix0_enc, hne]
      rw [enc_tabs]
      simp (decide := true) [b_4, isT, r0, in2, l1', ew, n0, n0']
      rw [if_pos (by omega), pp]
      simp only [bnd_ok, all_true]
      rfl
theorem s_is_treeC : ∀ (cs : List (Int × T)) (k : Nat) (kd : Kd) (r : Int), vC kd cs → (hC cs : Int) < r → 2 * hC cs + 3 ≤ k → zC cs ≤ 1000000 → ∀ w t, (w, t) ∈ cs → den k I__is_tree [.sh (enc t), .sh (.int r)] = .ok (.bool true)
  | [], k, kd, r, _, _, _, _, _, _, h => nomatch h
  | (w', t') :: c, k, kd, r, v, hr, hk, hz, w, t, h => by
    rw [vC] at v
    have l1 : hT t' ≤ hC ((w', t') :: c) := by simp [hC]; omega
    have l2 : hC c ≤ hC ((w', t') :: c) := by simp [hC]; omega
    have hz' : zT t' + zC c ≤ 1000000 := by simpa [zC] using hz
    rcases List.mem_cons.mp h with e | h
    · cases e
      exact s_is_tree t' k r v.1 (by omega) (by omega) (by omega)
    · exact s_is_treeC c k kd r v.2.2.2 (by omega) (by omega) (by omega) w t h
end
end KL
end
section
open PySem PySem.Spec PyProof.Rows L2 VS
namespace KL
theorem s_is_layout (t : T) (k : Nat) (v : vT t) (hh : hT t < 8) (hk : 2 * hT t + 3 ≤ k) (hz : zT t ≤ 1000000) (nd : (nmT t).Nodup) (hl : (nmT t).length ≤ 16) : den (k + 1) I_is_layout [.sh (enc t)] = .ok (.bool true) := by
  have hs : sizeLine = 16777216 := sz_line
  have e0 : den (k + 1) I_is_layout [.sh (enc t)] = outR (b_7 (den k) [.sh (enc t), .no, .no]) := den_is_layout _ _
  rw [e0]
  have e1 := s_is_tree t k 8 v (by omega) hk hz
  have e2 := s_names t k (by omega) hz
  have e3 := dcL_new (b := bN 2) (fk := gS 2) (fv := kC (.bool true)) (δ := [.sh (enc t), .sh (.list ((nmT t).map .str)), .no]) (fun _ => .bool true) (nmT t) [] (fun s _ => ⟨_, rfl, rfl, rfl⟩) (by simpa using nd)
  have hl' : ((nmT t).length : Int) ≤ 16 := by omega
  simp [b_7, e1, e2, hl']
  rw [if_pos (by omega)]
  have e3' : dcL (bN 2) yesT (gS 2) (kC (.bool true)) [.sh (enc t), .sh (.list ((nmT t).map .str)), .no] ((nmT t).map .str) [] = .ok ((nmT t).map fun s => (PyData.str s, .bool true)) := by simpa using e3
  rw [e3']
  simp
end KL
end
section
open PySem PySem.Spec PyProof.Rows L2 VS
namespace KL
/-! ### plain trees, without the program -/
def encO : Option T → PyData
  | none => .none
  | some t => enc t
abbrev Os := List (Int × Option T)
/-- what a part turns into, in a row or column -/
def blkP (k : Kd) (w : Int) : Option T → Cs
  | none => []
  | some (.win s) => [(w, .win s)]
  | some (.nd k' n cs) => if k' = k then cs else [(w, .nd k' n cs)]
def parts (k : Kd) : Os → Cs
  | [] => []
  | (w, o) :: r => blkP k w o ++ parts k r
/-- .. in tabs -/
def blkT : Option T → Cs
  | none => []
  | some (.win s) => [(0, .win s)]
  | some (.nd k n cs) => if k = .tabs then cs else [(0, .nd k n cs)]
def tabsP : Os → Cs
  | [] => []
  | (_, o) :: r => blkT o ++ tabsP r
def shOf : Option T → Int
  | some (.nd .tabs n _) => n
  | _ => 0
/-- the number of the tree that is shown, from the place p on, f trees found so far -/
def numP (sh : Int) : Nat → Nat → Os → Option Int
  | _, _, [] => none
  | p, f, (_, o) :: r => match o with
    | none => numP sh (p + 1) f r
    | some t => if sh ≤ (p : Int) then some ((f : Int) + (if (p : Int) = sh then shOf (some t) else 0)) else numP sh (p + 1) (f + (blkT (some t)).length) r
def shown (n : Int) (l : Nat) : Int := if 0 ≤ n ∧ n < l then n else (l : Int) - 1
def finT (n : Int) (os : Os) : Option T :=
  if (tabsP os).length = 0 then none else some (.nd .tabs ((numP (shown n os.length) 0 0 os).getD ((tabsP os).length - 1)) (tabsP os))
def finP (k : Kd) (ps : Cs) : Option T := match ps with
  | [] => none
  | [(_, t)] => some t
  | p :: q :: r => some (.nd k 0 (p :: q :: r))
def fin (k : Kd) (n : Int) (os : Os) : Option T := match k with
  | .tabs => finT n os
  | .row => finP .row (parts .row os)
  | .col => finP .col (parts .col os)
mutual
def plT : T → Option T
  | .win s => some (.win s)
  | .nd k n cs => fin k n (plC cs)
def plC : List (Int × T) → List (Int × Option T)
  | [] => []
  | (w, t) :: r => (w, plT t) :: plC r
end
theorem plC_len : ∀ cs : Cs, (plC cs).length = cs.length
  | [] => by simp [plC]
  | (w, t) :: r => by simp [plC, plC_len r]
/-! flat trees -/
def fK : Kd → Int → Cs → Prop
  | .tabs, n, cs => 0 ≤ n ∧ n < cs.length ∧ ∀ p ∈ cs, p.1 = 0
  | .row, n, cs => n = 0 ∧ 2 ≤ cs.length
  | .col, n, cs => n = 0 ∧ 2 ≤ cs.length
mutual
def flT : T → Prop
  | .win _ => True
  | .nd k n cs => fK k n cs ∧ flC k cs
def flC (k : Kd) : List (Int × T) → Prop
  | [] => True
  | (_, t) :: r => flT t ∧ kdO t ≠ some k ∧ flC k r
end
theorem flC_app (k : Kd) : ∀ (a b : Cs), flC k a → flC k b → flC k (a ++ b)
  | [], b, _, h => h
  | (w, t) :: r, b, h, h' => by
    rw [flC] at h
    rw [List.cons_append, flC]
    exact ⟨h.1, h.2.1, flC_app k r b h.2.2 h'⟩
theorem flC_mem {k : Kd} : ∀ {cs : Cs} {w : Int} {t : T}, flC k cs → (w, t) ∈ cs → flT t ∧ kdO t ≠ some k
  | [], _, _, _, h => nomatch h
  | (w', t') :: r, w, t, f, h => by
    rw [flC] at f
    rcases List.mem_cons.mp h with e | h
    · cases e; exact ⟨f.1, f.2.1⟩
    · exact flC_mem f.2.2 h
def flO : Option T → Prop
  | none => True
  | some t => flT t
theorem flC_blkP (k : Kd) (w : Int) : ∀ o : Option T, flO o → flC k (blkP k w o)
  | none, _ => by simp [blkP, flC]
  | some (.win s), h => by simp [blkP, flC, flT, kdO]
  | some (.nd k' n cs), h => by
    rw [blkP]
    split
    · rename_i e
      subst e
      have h' : flT (.nd k' n cs) := h
      rw [flT] at h'
      exact h'.2
    · rename_i e
      rw [flC]
      exact ⟨h, fun z => e (by simpa [kdO] using z), by simp [flC]⟩
theorem flC_blkT : ∀ o : Option T, flO o → flC .tabs (blkT o) ∧ ∀ p ∈ blkT o, p.1 = 0
  | none, _ => by simp [blkT, flC]
  | some (.win s), h => by simp [blkT, flC, flT, kdO]
  | some (.nd k' n cs), h => by
    rw [blkT]
    split
    · rename_i e
      subst e
      have h' : flT (.nd .tabs n cs) := h
      rw [flT] at h'
      exact ⟨h'.2, h'.1.2.2⟩
    · rename_i e
      rw [flC]
      refine ⟨⟨h, fun z => e (by simpa [kdO] using z), by simp [flC]⟩, fun p hp => ?_⟩
      have : p = (0, .nd k' n cs) := by simpa using hp
      rw [this]
/-- all parts are flat -/
def flOs : Os → Prop
  | [] => True
  | (_, o) :: r => flO o ∧ flOs r
theorem flC_parts (k : Kd) : ∀ os : Os, flOs os → flC k (parts k os)
  | [], _ => by simp [parts, flC]
  | (w, o) :: r, h => by
    rw [parts]
    exact flC_app k _ _ (flC_blkP k w o h.1) (flC_parts k r h.2)
theorem flC_tabsP : ∀ os : Os, flOs os → flC .tabs (tabsP os) ∧ ∀ p ∈ tabsP os, p.1 = 0
  | [], _ => by simp [tabsP, flC]
  | (w, o) :: r, h => by
    rw [tabsP]
    have a := flC_blkT o h.1
    have b := flC_tabsP r h.2
    refine ⟨flC_app .tabs _ _ a.1 b.1, fun p hp => ?_⟩
    rcases List.mem_append.mp hp with hp | hp
    · exact a.2 p hp
    · exact b.2 p hp
/-- what is shown of a flat tree is there -/
theorem sh_range : ∀ {o : Option T}, flO o → o ≠ none → 0 ≤ shOf o ∧ shOf o < (blkT o).length
  | none, _, h => (h rfl).elim
  | some (.win s), _, _ => by simp [shOf, blkT]
  | some (.nd .row n cs), _, _ => by simp [shOf, blkT]
  | some (.nd .col n cs), _, _ => by simp [shOf, blkT]
  | some (.nd .tabs n cs), h, _ => by
    have h' : flT (.nd .tabs n cs) := h
    rw [flT] at h'
    simp only [shOf, blkT, if_true]
    exact ⟨h'.1.1, h'.1.2.1⟩
theorem blkT_pos {t : T} (h : flT t) : 0 < (blkT (some t)).length := by
  have := sh_range (o := some t) h (by simp)
  omega
theorem num_range (sh : Int) : ∀ (os : Os) (p f : Nat) (n : Int), flOs os → numP sh p f os = some n → (f : Int) ≤ n ∧ n < f + (tabsP os).length
  | [], p, f, n, _, h => by simp [numP] at h
  | (w, none) :: r, p, f, n, fl, h => by
    have := num_range sh r (p + 1) f n fl.2 (by simpa [numP] using h)
    simpa [tabsP, blkT] using this
  | (w, some t) :: r, p, f, n, fl, h => by
    have pos := blkT_pos (t := t) fl.1
    have sr := sh_range (o := some t) fl.1 (by simp)
    unfold numP at h
    simp only at h
    rw [tabsP, List.length_append]
    split at h
    · cases h
      split <;> omega
    · have := num_range sh r (p + 1) _ n fl.2 h
      omega
theorem fl_finP (k : Kd) (hk : k ≠ .tabs) (ps : Cs) (h : flC k ps) : flO (finP k ps) := by
  match ps with
  | [] => trivial
  | [(w, t)] => rw [flC] at h; exact h.1
  | p :: q :: r =>
    show flT (.nd k 0 (p :: q :: r))
    rw [flT]
    refine ⟨?_, h⟩
    cases k with
    | row => exact ⟨rfl, by simp⟩
    | col => exact ⟨rfl, by simp⟩
    | tabs => exact (hk rfl).elim
theorem fl_fin (k : Kd) (n : Int) (os : Os) (h : flOs os) : flO (fin k n os) := by
  cases k with
  | row => exact fl_finP .row (by decide) _ (flC_parts .row os h)
  | col => exact fl_finP .col (by decide) _ (flC_parts .col os h)
  | tabs =>
    show flO (finT n os)
    unfold finT
    have ft := flC_tabsP os h
    split
    · trivial
    · rename_i hl
      show flT (.nd .tabs _ _)
      rw [flT]
      refine ⟨?_, ft.1⟩
      cases e : numP (shown n os.length) 0 0 os with
      | none =>
        simp only [Option.getD_none]
        exact ⟨by omega, by omega, ft.2⟩
      | some m =>
        have := num_range _ os 0 0 m h e
        simp only [Option.getD_some]
        exact ⟨by omega, by omega, ft.2⟩
mutual
theorem pl_flat : ∀ t : T, flO (plT t)
  | .win s => by simp [plT, flO, flT]
  | .nd k n cs => by
    rw [plT]
    exact fl_fin k n _ (pl_flatC cs)
theorem pl_flatC : ∀ cs : List (Int × T), flOs (plC cs)
  | [] => by simp [plC, flOs]
  | (w, t) :: r => by
    rw [plC]
    exact ⟨pl_flat t, pl_flatC r⟩
end
/-! flat trees stay -/
theorem parts_flat {k : Kd} (hk : k ≠ .tabs) : ∀ cs : Cs, flC k cs → (∀ w t, (w, t) ∈ cs → plT t = some t) → parts k (plC cs) = cs
  | [], _, _ => by simp [plC, parts]
  | (w, t) :: r, h, ih => by
    rw [flC] at h
    rw [plC, parts, ih w t List.mem_cons_self, parts_flat hk r h.2.2 fun w' t' m => ih w' t' (List.mem_cons_of_mem _ m)]
    cases t with
    | win s => rfl
    | nd k' n cs =>
      have : k' ≠ k := fun e => h.2.1 (by rw [e]; rfl)
      simp [blkP, this]
theorem tabs_flat : ∀ cs : Cs, flC .tabs cs → (∀ p ∈ cs, p.1 = 0) → (∀ w t, (w, t) ∈ cs → plT t = some t) → tabsP (plC cs) = cs
  | [], _, _, _ => by simp [plC, tabsP]
  | (w, t) :: r, h, z, ih => by
    rw [flC] at h
    have w0 : w = 0 := z (w, t) List.mem_cons_self
    rw [plC, tabsP, ih w t List.mem_cons_self, tabs_flat r h.2.2 (fun p hp => z p (List.mem_cons_of_mem _ hp)) fun w' t' m => ih w' t' (List.mem_cons_of_mem _ m)]
    subst w0
    cases t with
    | win s => rfl
    | nd k' n cs =>
      have : k' ≠ .tabs := fun e => h.2.1 (by rw [e]; rfl)
      simp [blkT, this]
theorem num_flat (n : Int) : ∀ (cs : Cs) (p : Nat), flC .tabs cs → (∀ w t, (w, t) ∈ cs → plT t = some t) → (p : Int) ≤ n → n < p + cs.length → numP n p p (plC cs) = some n
  | [], p, _, _, h1, h2 => by simp at h2; omega
  | (w, t) :: r, p, h, ih, h1, h2 => by
    rw [flC] at h
    rw [plC, ih w t List.mem_cons_self]
    unfold numP
    simp only
    have kt : kdO t ≠ some .tabs := h.2.1
    have sh0 : shOf (some t) = 0 := by
      cases t with
      | win s => rfl
      | nd k' m cs => cases k' <;> first | rfl | exact (kt rfl).elim
    have bl : (blkT (some t)).length = 1 := by
      cases t with
      | win s => rfl
      | nd k' m cs =>
        have : k' ≠ .tabs := fun e => kt (by rw [e]; rfl)
        simp [blkT, this]
    split
    · rw [sh0]
      simp
      omega
    · rw [bl]
      simp at h2
      exact num_flat n r (p + 1) h.2.2 (fun w' t' m => ih w' t' (List.mem_cons_of_mem _ m)) (by omega) (by omega)
mutual
theorem pl_stay : ∀ t : T, flT t → plT t = some t
  | .win s, _ => by simp [plT]
  | .nd k n cs, h => by
    rw [flT] at h
    have ih := pl_stayC cs k h.2
    rw [plT]
    cases k with
    | row =>
      obtain ⟨e, l⟩ := h.1
      show finP .row (parts .row (plC cs)) = _
      rw [parts_flat (by decide) cs h.2 ih, e]
      match cs, l with
      | p :: q :: r, _ => rfl
    | col =>
      obtain ⟨e, l⟩ := h.1
      show finP .col (parts .col (plC cs)) = _
      rw [parts_flat (by decide) cs h.2 ih, e]
      match cs, l with
      | p :: q :: r, _ => rfl
    | tabs =>
      obtain ⟨h0, h1, hz⟩ := h.1
      show finT n (plC cs) = _
      unfold finT
      rw [tabs_flat cs h.2 hz ih, plC_len]
      have es : shown n cs.length = n := by unfold shown; rw [if_pos ⟨h0, h1⟩]
      rw [es, num_flat n cs 0 h.2 ih (by simpa using h0) (by simpa using h1), if_neg (by omega)]
      rfl
theorem pl_stayC : ∀ (cs : List (Int × T)) (k : Kd), flC k cs → ∀ w t, (w, t) ∈ cs → plT t = some t
  | [], _, _, _, _, h => nomatch h
  | (w', t') :: r, k, f, w, t, h => by
    rw [flC] at f
    rcases List.mem_cons.mp h with e | h
    · cases e; exact pl_stay t' f.1
    · exact pl_stayC r k f.2.2 w t h
end
/-! names -/
def nmO : Option T → List Str
  | none => []
  | some t => nmT t
def nmOs : Os → List Str
  | [] => []
  | (_, o) :: r => nmO o ++ nmOs r
theorem nmC_app : ∀ a b : Cs, nmC (a ++ b) = nmC a ++ nmC b
  | [], b => by simp [nmC]
  | (w, t) :: r, b => by simp [nmC, nmC_app r b]
theorem nm_blkP (k : Kd) (w : Int) : ∀ o : Option T, nmC (blkP k w o) = nmO o
  | none => by simp [blkP, nmC, nmO]
  | some (.win s) => by simp [blkP, nmC, nmO]
  | some (.nd k' n cs) => by
    rw [blkP]
    split <;> simp [nmC, nmO, nmT]
theorem nm_blkT : ∀ o : Option T, nmC (blkT o) = nmO o
  | none => by simp [blkT, nmC, nmO]
  | some (.win s) => by simp [blkT, nmC, nmO]
  | some (.nd k' n cs) => by
    rw [blkT]
    split <;> simp [nmC, nmO, nmT]
theorem nm_parts (k : Kd) : ∀ os : Os, nmC (parts k os) = nmOs os
  | [] => by simp [parts, nmC, nmOs]
  | (w, o) :: r => by rw [parts, nmC_app, nm_blkP, nm_parts k r, nmOs]
theorem nm_tabsP : ∀ os : Os, nmC (tabsP os) = nmOs os
  | [] => by simp [tabsP, nmC, nmOs]
  | (w, o) :: r => by rw [tabsP, nmC_app, nm_blkT, nm_tabsP r, nmOs]
theorem nm_finP (k : Kd) (ps : Cs) : nmO (finP k ps) = nmC ps := by
  match ps with
  | [] => simp [finP, nmO, nmC]
  | [(w, t)] => simp [finP, nmO, nmC]
  | p :: q :: r => simp [finP, nmO, nmT]
theorem nm_fin (k : Kd) (n : Int) (os : Os) : nmO (fin k n os) = nmOs os := by
  cases k with
  | row => show nmO (finP .row (parts .row os)) = _; rw [nm_finP, nm_parts]
  | col => show nmO (finP .col (parts .col os)) = _; rw [nm_finP, nm_parts]
  | tabs =>
    show nmO (finT n os) = _
    unfold finT
    rw [← nm_tabsP]
    split
    · rename_i h
      have : tabsP os = [] := List.length_eq_zero_iff.mp h
      rw [this]; simp [nmO, nmC]
    · simp [nmO, nmT]
mutual
theorem nm_pl : ∀ t : T, nmO (plT t) = nmT t
  | .win s => by simp [plT, nmO]
  | .nd k n cs => by rw [plT, nm_fin, nm_plC cs, nmT]
theorem nm_plC : ∀ cs : List (Int × T), nmOs (plC cs) = nmC cs
  | [] => by simp [plC, nmOs, nmC]
  | (w, t) :: r => by rw [plC, nmOs, nm_pl t, nm_plC r, nmC]
end
/-! heights, sizes -/
def hO : Option T → Nat
  | none => 0
  | some t => hT t
def hOs : Os → Nat
  | [] => 0
  | (_, o) :: r => max (hO o) (hOs r)
def zO : Option T → Nat
  | none => 0
  | some t => zT t
def zOs : Os → Nat
  | [] => 0
  | (_, o) :: r => zO o + zOs r
theorem hC_app : ∀ a b : Cs, hC (a ++ b) = max (hC a) (hC b)
  | [], b => by simp [hC]
  | (w, t) :: r, b => by simp [hC, hC_app r b, Nat.max_assoc]
theorem zC_app : ∀ a b : Cs, zC (a ++ b) = zC a + zC b
  | [], b => by simp [zC]
  | (w, t) :: r, b => by simp [zC, zC_app r b, Nat.add_assoc]
theorem h_blkP (k : Kd) (w : Int) : ∀ o : Option T, hC (blkP k w o) ≤ hO o ∧ zC (blkP k w o) ≤ zO o
  | none => by simp [blkP, hC, zC]
  | some (.win s) => by simp [blkP, hC, zC, hO, zO]
  | some (.nd k' n cs) => by
    rw [blkP]
    split <;> simp [hC, zC, hO, zO, hT, zT]
theorem h_blkT : ∀ o : Option T, hC (blkT o) ≤ hO o ∧ zC (blkT o) ≤ zO o
  | none => by simp [blkT, hC, zC]
  | some (.win s) => by simp [blkT, hC, zC, hO, zO]
  | some (.nd k' n cs) => by
    rw [blkT]
    split <;> simp [hC, zC, hO, zO, hT, zT]
theorem h_parts (k : Kd) : ∀ os : Os, hC (parts k os) ≤ hOs os ∧ zC (parts k os) ≤ zOs os
  | [] => by simp [parts, hC, zC]
  | (w, o) :: r => by
    have a := h_blkP k w o
    have b := h_parts k r
    rw [parts, hC_app, zC_app, hOs, zOs]
    omega
theorem h_tabsP : ∀ os : Os, hC (tabsP os) ≤ hOs os ∧ zC (tabsP os) ≤ zOs os
  | [] => by simp [tabsP, hC, zC]
  | (w, o) :: r => by
    have a := h_blkT o
    have b := h_tabsP r
    rw [tabsP, hC_app, zC_app, hOs, zOs]
    omega
theorem h_finP (k : Kd) (ps : Cs) : hO (finP k ps) ≤ hC ps + 1 ∧ zO (finP k ps) ≤ zC ps + 1 := by
  match ps with
  | [] => simp [finP, hO, zO]
  | [(w, t)] => simp [finP, hO, zO, hC, zC]
  | p :: q :: r => simp [finP, hO, zO, hT, zT]
theorem h_fin (k : Kd) (n : Int) (os : Os) : hO (fin k n os) ≤ hOs os + 1 ∧ zO (fin k n os) ≤ zOs os + 1 := by
  cases k with
  | row =>
    have a := h_finP .row (parts .row os)
    have b := h_parts .row os
    show hO (finP .row (parts .row os)) ≤ _ ∧ zO (finP .row (parts .row os)) ≤ _
    omega
  | col =>
    have a := h_finP .col (parts .col os)
    have b := h_parts .col os
    show hO (finP .col (parts .col os)) ≤ _ ∧ zO (finP .col (parts .col os)) ≤ _
    omega
  | tabs =>
    have b := h_tabsP os
    show hO (finT n os) ≤ _ ∧ zO (finT n os) ≤ _
    unfold finT
    split
    · simp [hO, zO]
    · simp [hO, zO, hT, zT]
      omega
mutual
theorem h_pl : ∀ t : T, hO (plT t) ≤ hT t ∧ zO (plT t) ≤ zT t
  | .win s => by simp [plT, hO, zO]
  | .nd k n cs => by
    have a := h_fin k n (plC cs)
    have b := h_plC cs
    rw [plT, hT, zT]
    omega
theorem h_plC : ∀ cs : List (Int × T), hOs (plC cs) ≤ hC cs ∧ zOs (plC cs) ≤ zC cs
  | [] => by simp [plC, hOs, zOs]
  | (w, t) :: r => by
    have a := h_pl t
    have b := h_plC r
    rw [plC, hOs, zOs, hC, zC]
    omega
end
/-! what may stand in a loose tree -/
mutual
def lT : T → Prop
  | .win s => okName s = true
  | .nd k _ cs => lC k cs
def lC (k : Kd) : List (Int × T) → Prop
  | [] => True
  | (w, t) :: r => lT t ∧ (k = .tabs ∨ (1 ≤ w ∧ w ≤ 12)) ∧ lC k r
end
theorem lC_app (k : Kd) : ∀ a b : Cs, lC k a → lC k b → lC k (a ++ b)
  | [], b, _, h => h
  | (w, t) :: r, b, h, h' => by
    rw [lC] at h
    rw [List.cons_append, lC]
    exact ⟨h.1, h.2.1, lC_app k r b h.2.2 h'⟩
theorem lC_mem {k : Kd} : ∀ {cs : Cs} {w : Int} {t : T}, lC k cs → (w, t) ∈ cs → lT t ∧ (k = .tabs ∨ (1 ≤ w ∧ w ≤ 12))
  | [], _, _, _, h => nomatch h
  | (w', t') :: r, w, t, f, h => by
    rw [lC] at f
    rcases List.mem_cons.mp h with e | h
    · cases e; exact ⟨f.1, f.2.1⟩
    · exact lC_mem f.2.2 h
theorem lC_any {k k' : Kd} : ∀ {cs : Cs}, lC k' cs → (k = .tabs ∨ k' = k) → lC k cs
  | [], _, _ => by simp [lC]
  | (w, t) :: r, h, e => by
    rw [lC] at h ⊢
    refine ⟨h.1, ?_, lC_any h.2.2 e⟩
    rcases e with e | e
    · exact .inl e
    · rw [← e]; exact h.2.1
def lO : Option T → Prop
  | none => True
  | some t => lT t
def lOs (k : Kd) : Os → Prop
  | [] => True
  | (w, o) :: r => lO o ∧ (k = .tabs ∨ (1 ≤ w ∧ w ≤ 12)) ∧ lOs k r
theorem l_blkP {k : Kd} {w : Int} (hw : k = .tabs ∨ (1 ≤ w ∧ w ≤ 12)) : ∀ o : Option T, lO o → lC k (blkP k w o)
  | none, _ => by simp [blkP, lC]
  | some (.win s), h => by
    rw [blkP, lC]
    exact ⟨h, hw, by simp [lC]⟩
  | some (.nd k' n cs), h => by
    have h' : lT (.nd k' n cs) := h
    rw [blkP]
    split
    · rename_i e
      rw [lT] at h'
      rw [← e]; exact h'
    · rw [lC]
      exact ⟨h', hw, by simp [lC]⟩
theorem l_blkT : ∀ o : Option T, lO o → lC .tabs (blkT o)
  | none, _ => by simp [blkT, lC]
  | some (.win s), h => by
    rw [blkT, lC]
    exact ⟨h, .inl rfl, by simp [lC]⟩
  | some (.nd k' n cs), h => by
    have h' : lT (.nd k' n cs) := h
    rw [blkT]
    split
    · rename_i e
      rw [lT, e] at h'
      exact h'
    · rw [lC]
      exact ⟨h', .inl rfl, by simp [lC]⟩
theorem l_parts {k : Kd} : ∀ os : Os, lOs k os → lC k (parts k os)
  | [], _ => by simp [parts, lC]
  | (w, o) :: r, h => by
    rw [lOs] at h
    rw [parts]
    exact lC_app k _ _ (l_blkP h.2.1 o h.1) (l_parts r h.2.2)
theorem l_tabsP : ∀ os : Os, lOs .tabs os → lC .tabs (tabsP os)
  | [], _ => by simp [tabsP, lC]
  | (w, o) :: r, h => by
    rw [lOs] at h
    rw [tabsP]
    exact lC_app .tabs _ _ (l_blkT o h.1) (l_tabsP r h.2.2)
theorem l_finP {k : Kd} (ps : Cs) (h : lC k ps) : lO (finP k ps) := by
  match ps with
  | [] => trivial
  | [(w, t)] => rw [lC] at h; exact h.1
  | p :: q :: r => show lT (.nd k 0 (p :: q :: r)); rw [lT]; exact h
theorem l_fin (k : Kd) (n : Int) (os : Os) (h : lOs k os) : lO (fin k n os) := by
  cases k with
  | row => exact l_finP _ (l_parts os h)
  | col => exact l_finP _ (l_parts os h)
  | tabs =>
    show lO (finT n os)
    unfold finT
    split
    · trivial
    · have q : lT (.nd .tabs ((numP (shown n os.length) 0 0 os).getD ((tabsP os).length - 1)) (tabsP os)) := by
        rw [lT]
        exact l_tabsP os h
      exact q
mutual
theorem l_pl : ∀ t : T, lT t → lO (plT t)
  | .win s, h => by rw [plT]; exact h
  | .nd k n cs, h => by
    rw [lT] at h
    rw [plT]
    exact l_fin k n _ (l_plC cs k h)
theorem l_plC : ∀ (cs : List (Int × T)) (k : Kd), lC k cs → lOs k (plC cs)
  | [], _, _ => by simp [plC, lOs]
  | (w, t) :: r, k, h => by
    rw [lC] at h
    rw [plC, lOs]
    exact ⟨l_pl t h.1, h.2.1, l_plC r k h.2.2⟩
end
end KL
end
section
open PySem PySem.Spec PyProof.Rows L2 VS
namespace KL
/-! ### trees without some windows, without the program -/
def gW (k : Kd) (w : Int) : Prop := if k = .tabs then w = 0 else 1 ≤ w ∧ w ≤ 12
mutual
/-- layouts, each told in one way -/
def gT : T → Prop
  | .win s => okName s = true
  | .nd k n cs => gC k cs ∧ fK k n cs
def gC (k : Kd) : List (Int × T) → Prop
  | [] => True
  | (w, t) :: r => gT t ∧ kdO t ≠ some k ∧ gW k w ∧ gC k r
end
theorem gC_app (k : Kd) : ∀ a b : Cs, gC k a → gC k b → gC k (a ++ b)
  | [], b, _, h => h
  | (w, t) :: r, b, h, h' => by
    rw [gC] at h
    rw [List.cons_append, gC]
    exact ⟨h.1, h.2.1, h.2.2.1, gC_app k r b h.2.2.2 h'⟩
theorem gC_mem {k : Kd} : ∀ {cs : Cs} {w : Int} {t : T}, gC k cs → (w, t) ∈ cs → gT t ∧ kdO t ≠ some k ∧ gW k w
  | [], _, _, _, h => nomatch h
  | (w', t') :: r, w, t, f, h => by
    rw [gC] at f
    rcases List.mem_cons.mp h with e | h
    · cases e; exact ⟨f.1, f.2.1, f.2.2.1⟩
    · exact gC_mem f.2.2.2 h
theorem gC_of {k : Kd} : ∀ cs : Cs, (∀ p ∈ cs, gT p.2 ∧ kdO p.2 ≠ some k ∧ gW k p.1) → gC k cs
  | [], _ => by simp [gC]
  | (w, t) :: r, h => by
    rw [gC]
    have := h (w, t) List.mem_cons_self
    exact ⟨this.1, this.2.1, this.2.2, gC_of r fun p hp => h p (List.mem_cons_of_mem _ hp)⟩
mutual
theorem g_fl : ∀ t : T, gT t → flT t
  | .win s, _ => by simp [flT]
  | .nd k n cs, h => by
    rw [gT] at h
    rw [flT]
    exact ⟨h.2, g_flC k cs h.1⟩
theorem g_flC (k : Kd) : ∀ cs : List (Int × T), gC k cs → flC k cs
  | [], _ => by simp [flC]
  | (w, t) :: r, h => by
    rw [gC] at h
    rw [flC]
    exact ⟨g_fl t h.1, h.2.1, g_flC k r h.2.2.2⟩
end
mutual
theorem g_v : ∀ t : T, gT t → vT t
  | .win s, h => by rw [gT] at h; rw [vT]; exact h
  | .nd k n cs, h => by
    rw [gT] at h
    rw [vT]
    refine ⟨g_vC k cs h.1, ?_⟩
    cases k with
    | row => exact h.2.2
    | col => exact h.2.2
    | tabs => exact ⟨by have := h.2.1; have := h.2.2.1; omega, h.2.1, h.2.2.1⟩
theorem g_vC (k : Kd) : ∀ cs : List (Int × T), gC k cs → vC k cs
  | [], _ => by simp [vC]
  | (w, t) :: r, h => by
    rw [gC] at h
    rw [vC]
    refine ⟨g_v t h.1, h.2.1, ?_, g_vC k r h.2.2.2⟩
    have q := h.2.2.1
    unfold gW at q
    split at q
    · rename_i e; exact .inl e
    · exact .inr q
end
def gO : Option T → Prop
  | none => True
  | some t => gT t
def gOs : Os → Prop
  | [] => True
  | (_, o) :: r => gO o ∧ gOs r
/-- a part of a row or column with what is left of it -/
def blkL (k : Kd) (w : Int) : Option T → Cs
  | none => []
  | some (.win s) => [(w, .win s)]
  | some (.nd k' n cs) => if k' = k then cs.map fun p => (w, p.2) else [(w, .nd k' n cs)]
def partsL (k : Kd) : Os → Cs
  | [] => []
  | (w, o) :: r => blkL k w o ++ partsL k r
def numL (sh : Int) : Nat → Nat → Os → Option Int
  | _, _, [] => none
  | p, f, (_, o) :: r => match o with
    | none => numL sh (p + 1) f r
    | some t => if sh ≤ (p : Int) then some ((f : Int) + shOf (some t)) else numL sh (p + 1) (f + (blkT (some t)).length) r
def finTL (n : Int) (os : Os) : Option T :=
  if (tabsP os).length = 0 then none else some (.nd .tabs ((numL n 0 0 os).getD ((tabsP os).length - 1)) (tabsP os))
def finL (k : Kd) (n : Int) (os : Os) : Option T := match k with
  | .tabs => finTL n os
  | .row => finP .row (partsL .row os)
  | .col => finP .col (partsL .col os)
mutual
def lf (x : Str → Bool) : T → Option T
  | .win s => if x s = true then none else some (.win s)
  | .nd k n cs => finL k n (lfC x cs)
def lfC (x : Str → Bool) : List (Int × T) → List (Int × Option T)
  | [] => []
  | (w, t) :: r => (w, lf x t) :: lfC x r
end
theorem lfC_len (x : Str → Bool) : ∀ cs : Cs, (lfC x cs).length = cs.length
  | [] => by simp [lfC]
  | (w, t) :: r => by simp [lfC, lfC_len x r]
/-! what is left is a layout -/
theorem g_blkL {k : Kd} (hk : k ≠ .tabs) {w : Int} (hw : gW k w) : ∀ o : Option T, gO o → gC k (blkL k w o)
  | none, _ => by simp [blkL, gC]
  | some (.win s), h => by
    rw [blkL, gC]
    exact ⟨h, by simp [kdO], hw, by simp [gC]⟩
  | some (.nd k' n cs), h => by
    have h' : gT (.nd k' n cs) := h
    rw [blkL]
    split
    · rename_i e
      subst e
      rw [gT] at h'
      refine gC_of _ fun p hp => ?_
      obtain ⟨q, hq, e⟩ := List.mem_map.mp hp
      subst e
      have := gC_mem h'.1 (show (q.1, q.2) ∈ cs from hq)
      exact ⟨this.1, this.2.1, hw⟩
    · rename_i e
      rw [gC]
      exact ⟨h', fun z => e (by simpa [kdO] using z), hw, by simp [gC]⟩
theorem g_blkT : ∀ o : Option T, gO o → gC .tabs (blkT o)
  | none, _ => by simp [blkT, gC]
  | some (.win s), h => by
    rw [blkT, gC]
    exact ⟨h, by simp [kdO], by simp [gW], by simp [gC]⟩
  | some (.nd k' n cs), h => by
    have h' : gT (.nd k' n cs) := h
    rw [blkT]
    split
    · rename_i e
      subst e
      rw [gT] at h'
      exact h'.1
    · rename_i e
      rw [gC]
      exact ⟨h', fun z => e (by simpa [kdO] using z), by simp [gW], by simp [gC]⟩
/-- the parts have right weights -/
def wOs (k : Kd) : Os → Prop
  | [] => True
  | (w, _) :: r => gW k w ∧ wOs k r
theorem g_partsL {k : Kd} (hk : k ≠ .tabs) : ∀ os : Os, gOs os → wOs k os → gC k (partsL k os)
  | [], _, _ => by simp [partsL, gC]
  | (w, o) :: r, h, hw => by
    rw [partsL]
    exact gC_app k _ _ (g_blkL hk hw.1 o h.1) (g_partsL hk r h.2 hw.2)
theorem g_tabsP : ∀ os : Os, gOs os → gC .tabs (tabsP os)
  | [], _ => by simp [tabsP, gC]
  | (w, o) :: r, h => by
    rw [tabsP]
    exact gC_app .tabs _ _ (g_blkT o h.1) (g_tabsP r h.2)
theorem g_finP (k : Kd) (hk : k ≠ .tabs) (ps : Cs) (h : gC k ps) : gO (finP k ps) := by
  match ps with
  | [] => trivial
  | [(w, t)] => rw [gC] at h; exact h.1
  | p :: q :: r =>
    show gT (.nd k 0 (p :: q :: r))
    rw [gT]
    refine ⟨h, ?_⟩
    cases k with
    | row => exact ⟨rfl, by simp⟩
    | col => exact ⟨rfl, by simp⟩
    | tabs => exact (hk rfl).elim
theorem gO_fl : ∀ {o : Option T}, gO o → flO o
  | none, _ => trivial
  | some t, h => g_fl t h
theorem gOs_fl : ∀ {os : Os}, gOs os → flOs os
  | [], _ => trivial
  | (w, o) :: r, h => ⟨gO_fl h.1, gOs_fl h.2⟩
theorem numL_range (sh : Int) : ∀ (os : Os) (p f : Nat) (n : Int), flOs os → numL sh p f os = some n → (f : Int) ≤ n ∧ n < f + (tabsP os).length
  | [], p, f, n, _, h => by simp [numL] at h
  | (w, none) :: r, p, f, n, fl, h => by
    have := numL_range sh r (p + 1) f n fl.2 (by simpa [numL] using h)
    simpa [tabsP, blkT] using this
  | (w, some t) :: r, p, f, n, fl, h => by
    have pos := blkT_pos (t := t) fl.1
    have sr := sh_range (o := some t) fl.1 (by simp)
    unfold numL at h
    simp only at h
    rw [tabsP, List.length_append]
    split at h
    · cases h
      omega
    · have := numL_range sh r (p + 1) _ n fl.2 h
      omega
theorem g_finL (k : Kd) (n : Int) (os : Os) (h : gOs os) (hw : wOs k os) : gO (finL k n os) := by
  cases k with
  | row => exact g_finP .row (by decide) _ (g_partsL (by decide) os h hw)
  | col => exact g_finP .col (by decide) _ (g_partsL (by decide) os h hw)
  | tabs =>
    show gO (finTL n os)
    unfold finTL
    have ft := g_tabsP os h
    have fz := (flC_tabsP os (gOs_fl h)).2
    split
    · trivial
    · rename_i hl
      show gT (.nd .tabs _ _)
      rw [gT]
      refine ⟨ft, ?_⟩
      cases e : numL n 0 0 os with
      | none =>
        simp only [Option.getD_none]
        exact ⟨by omega, by omega, fz⟩
      | some m =>
        have := numL_range _ os 0 0 m (gOs_fl h) e
        simp only [Option.getD_some]
        exact ⟨by omega, by omega, fz⟩
mutual
theorem g_lf (x : Str → Bool) : ∀ t : T, gT t → gO (lf x t)
  | .win s, h => by
    rw [lf]
    split
    · trivial
    · exact h
  | .nd k n cs, h => by
    rw [gT] at h
    rw [lf]
    exact g_finL k n _ (g_lfC x k cs h.1).1 (g_lfC x k cs h.1).2
theorem g_lfC (x : Str → Bool) (k : Kd) : ∀ cs : List (Int × T), gC k cs → gOs (lfC x cs) ∧ wOs k (lfC x cs)
  | [], _ => by simp [lfC, gOs, wOs]
  | (w, t) :: r, h => by
    rw [gC] at h
    have a := g_lf x t h.1
    have b := g_lfC x k r h.2.2.2
    rw [lfC]
    exact ⟨⟨a, b.1⟩, h.2.2.1, b.2⟩
end
end KL
end
section
open PySem PySem.Spec PyProof.Rows L2 VS
namespace KL
/-! names -/
theorem nm_blkL (k : Kd) (w : Int) : ∀ o : Option T, nmC (blkL k w o) = nmO o
  | none => by simp [blkL, nmC, nmO]
  | some (.win s) => by simp [blkL, nmC, nmO]
  | some (.nd k' n cs) => by
    rw [blkL]
    split
    · have e : ∀ l : Cs, nmC (l.map fun p => (w, p.2)) = nmC l := fun l => by
        induction l with
        | nil => rfl
        | cons a r ih => obtain ⟨v, t⟩ := a; simp [nmC, ih]
      rw [e]; simp [nmO, nmT]
    · simp [nmC, nmO, nmT]
theorem nm_partsL (k : Kd) : ∀ os : Os, nmC (partsL k os) = nmOs os
  | [] => by simp [partsL, nmC, nmOs]
  | (w, o) :: r => by rw [partsL, nmC_app, nm_blkL, nm_partsL k r, nmOs]
theorem nm_finTL (n : Int) (os : Os) : nmO (finTL n os) = nmOs os := by
  rw [← nm_tabsP]
  unfold finTL
  split
  · rename_i h
    have : tabsP os = [] := List.eq_nil_of_length_eq_zero h
    rw [this]
    simp [nmO, nmC]
  · simp [nmO, nmT]
theorem nm_finL (k : Kd) (n : Int) (os : Os) : nmO (finL k n os) = nmOs os := by
  cases k with
  | row => show nmO (finP .row (partsL .row os)) = _; rw [nm_finP, nm_partsL]
  | col => show nmO (finP .col (partsL .col os)) = _; rw [nm_finP, nm_partsL]
  | tabs => exact nm_finTL n os
mutual
theorem nm_lf (x : Str → Bool) : ∀ t : T, nmO (lf x t) = (nmT t).filter fun s => !x s
  | .win s => by
    rw [lf, nmT]
    by_cases h : x s = true
    · simp [h, nmO]
    · simp [h, nmO, nmT]
  | .nd k n cs => by rw [lf, nm_finL, nm_lfC x cs, nmT]
theorem nm_lfC (x : Str → Bool) : ∀ cs : List (Int × T), nmOs (lfC x cs) = (nmC cs).filter fun s => !x s
  | [] => by simp [lfC, nmOs, nmC]
  | (w, t) :: r => by rw [lfC, nmOs, nm_lf x t, nm_lfC x r, nmC, List.filter_append]
end
mutual
theorem g_nm : ∀ t : T, gT t → 0 < (nmT t).length
  | .win s, _ => by simp [nmT]
  | .nd k n cs, h => by
    rw [gT] at h
    rw [nmT]
    refine g_nmC cs k h.1 ?_
    have := h.2
    intro z
    subst z
    cases k with
    | row => have := this.2; simp at this
    | col => have := this.2; simp at this
    | tabs => have h1 := this.1; have h2 := this.2.1; simp at h2; omega
theorem g_nmC : ∀ (cs : List (Int × T)) (k : Kd), gC k cs → cs ≠ [] → 0 < (nmC cs).length
  | [], _, _, h => (h rfl).elim
  | (w, t) :: r, k, h, _ => by
    rw [gC] at h
    have := g_nm t h.1
    rw [nmC, List.length_append]; omega
end
/-- nothing is left just where all windows are taken -/
theorem lf_none (x : Str → Bool) (t : T) (h : gT t) : lf x t = none ↔ ∀ s ∈ nmT t, x s = true := by
  have nm := nm_lf x t
  have g := g_lf x t h
  constructor
  · intro e s hs
    rw [e] at nm
    have nm' : (nmT t).filter (fun s => !x s) = [] := nm.symm
    rw [List.filter_eq_nil_iff] at nm'
    simpa using nm' s hs
  · intro a
    cases e : lf x t with
    | none => rfl
    | some u =>
      rw [e] at nm g
      have nm' : nmT u = (nmT t).filter fun s => !x s := nm
      have : (nmT t).filter (fun s => !x s) = [] := List.filter_eq_nil_iff.mpr fun s hs => by simp [a s hs]
      rw [this] at nm'
      have := g_nm u g
      rw [nm'] at this
      simp at this
/-! a tree none of whose windows is taken stays -/
theorem partsL_stay {k : Kd} : ∀ cs : Cs, flC k cs → ∀ f : T → Option T, (∀ w t, (w, t) ∈ cs → f t = some t) → partsL k (cs.map fun p => (p.1, f p.2)) = cs
  | [], _, _, _ => by simp [partsL]
  | (w, t) :: r, h, f, ih => by
    rw [flC] at h
    rw [List.map_cons, partsL, ih w t List.mem_cons_self, partsL_stay r h.2.2 f fun w' t' m => ih w' t' (List.mem_cons_of_mem _ m)]
    cases t with
    | win s => rfl
    | nd k' n cs =>
      have : k' ≠ k := fun e => h.2.1 (by rw [e]; rfl)
      simp [blkL, this]
theorem lfC_map (x : Str → Bool) : ∀ cs : Cs, lfC x cs = cs.map fun p => (p.1, lf x p.2)
  | [] => by simp [lfC]
  | (w, t) :: r => by simp [lfC, lfC_map x r]
theorem tabsL_stay : ∀ cs : Cs, flC .tabs cs → (∀ p ∈ cs, p.1 = 0) → ∀ f : T → Option T, (∀ w t, (w, t) ∈ cs → f t = some t) → tabsP (cs.map fun p => (p.1, f p.2)) = cs
  | [], _, _, _, _ => by simp [tabsP]
  | (w, t) :: r, h, z, f, ih => by
    rw [flC] at h
    have w0 : w = 0 := z (w, t) List.mem_cons_self
    rw [List.map_cons, tabsP, ih w t List.mem_cons_self, tabsL_stay r h.2.2 (fun p hp => z p (List.mem_cons_of_mem _ hp)) f fun w' t' m => ih w' t' (List.mem_cons_of_mem _ m)]
    subst w0
    cases t with
    | win s => rfl
    | nd k' n cs =>
      have : k' ≠ .tabs := fun e => h.2.1 (by rw [e]; rfl)
      simp [blkT, this]
theorem one_flat {t : T} (kt : kdO t ≠ some .tabs) : shOf (some t) = 0 ∧ (blkT (some t)).length = 1 := by
  cases t with
  | win s => exact ⟨rfl, rfl⟩
  | nd k' m cs =>
    have : k' ≠ .tabs := fun e => kt (by rw [e]; rfl)
    refine ⟨?_, by simp [blkT, this]⟩
    cases k' <;> first | rfl | exact (this rfl).elim
theorem numL_stay (n : Int) : ∀ (cs : Cs) (p : Nat), flC .tabs cs → ∀ f : T → Option T, (∀ w t, (w, t) ∈ cs → f t = some t) → (p : Int) ≤ n → n < p + cs.length → numL n p p (cs.map fun p => (p.1, f p.2)) = some n
  | [], p, _, _, _, h1, h2 => by simp at h2; omega
  | (w, t) :: r, p, h, f, ih, h1, h2 => by
    rw [flC] at h
    rw [List.map_cons, ih w t List.mem_cons_self]
    unfold numL
    simp only
    obtain ⟨sh0, bl⟩ := one_flat h.2.1
    split
    · rw [sh0]
      congr 1
      omega
    · rw [bl]
      simp at h2
      exact numL_stay n r (p + 1) h.2.2 f (fun w' t' m => ih w' t' (List.mem_cons_of_mem _ m)) (by omega) (by omega)
mutual
theorem lf_stay (x : Str → Bool) : ∀ t : T, flT t → (∀ s ∈ nmT t, x s = false) → lf x t = some t
  | .win s, _, h => by rw [lf, h s (by simp [nmT]), if_neg Bool.false_ne_true]
  | .nd k n cs, h, hx => by
    rw [flT] at h
    have ih := lf_stayC x cs k h.2 (by simpa [nmT] using hx)
    rw [lf, lfC_map]
    cases k with
    | row =>
      obtain ⟨e, l⟩ := h.1
      show finP .row (partsL .row _) = _
      rw [partsL_stay cs h.2 _ ih, e]
      match cs, l with
      | p :: q :: r, _ => rfl
    | col =>
      obtain ⟨e, l⟩ := h.1
      show finP .col (partsL .col _) = _
      rw [partsL_stay cs h.2 _ ih, e]
      match cs, l with
      | p :: q :: r, _ => rfl
    | tabs =>
      obtain ⟨h0, h1, hz⟩ := h.1
      show finTL n _ = _
      unfold finTL
      rw [tabsL_stay cs h.2 hz _ ih, numL_stay n cs 0 h.2 _ ih (by simpa using h0) (by simpa using h1), if_neg (by omega)]
      rfl
theorem lf_stayC (x : Str → Bool) : ∀ (cs : List (Int × T)) (k : Kd), flC k cs → (∀ s ∈ nmC cs, x s = false) → ∀ w t, (w, t) ∈ cs → lf x t = some t
  | [], _, _, _, _, _, h => nomatch h
  | (w', t') :: r, k, f, hx, w, t, h => by
    rw [flC] at f
    rcases List.mem_cons.mp h with e | h
    · cases e; exact lf_stay x t' f.1 fun s hs => hx s (by rw [nmC]; exact List.mem_append_left _ hs)
    · exact lf_stayC x r k f.2.2 (fun s hs => hx s (by rw [nmC]; exact List.mem_append_right _ hs)) w t h
end
/-! what is shown -/
mutual
def shT : T → List Str
  | .win s => [s]
  | .nd k n cs => shC (decide (k = .tabs)) n 0 cs
/-- of tabs just the one at n -/
def shC (b : Bool) (n : Int) (p : Nat) : List (Int × T) → List Str
  | [] => []
  | (_, t) :: r => (if b = true ∧ n ≠ (p : Int) then [] else shT t) ++ shC b n (p + 1) r
end
theorem shC_rows {n : Int} : ∀ (cs : Cs) (p : Nat), shC false n p cs = (cs.map fun q => shT q.2).flatten
  | [], p => by simp [shC]
  | (w, t) :: r, p => by rw [shC, shC_rows r (p + 1)]; simp
theorem shC_tabs {n : Int} : ∀ (cs : Cs) (p : Nat) (w : Int) (t : T) (i : Nat), n = p + i → cs[i]? = some (w, t) → shC true n p cs = shT t
  | [], p, w, t, i, _, h => by simp at h
  | (w', t') :: r, p, w, t, 0, hn, h => by
    simp at h
    obtain ⟨rfl, rfl⟩ := h
    rw [shC]
    have e : ∀ (cs : Cs) (q : Nat), n < q → shC true n q cs = [] := fun cs => by
      induction cs with
      | nil => intro q _; simp [shC]
      | cons a r ih =>
        intro q hq
        obtain ⟨v, u⟩ := a
        rw [shC, ih (q + 1) (by omega), if_pos ⟨rfl, by omega⟩]
        rfl
    rw [e r (p + 1) (by omega), if_neg (by rintro ⟨_, h⟩; omega)]
    simp
  | (w', t') :: r, p, w, t, i + 1, hn, h => by
    rw [shC, if_pos ⟨rfl, by omega⟩, shC_tabs r (p + 1) w t i (by omega) (by simpa using h)]
    rfl
end KL
end
section
open PySem PySem.Spec PyProof.Rows L2 VS
namespace KL
theorem tabs_at (n : Int) (v : T) : ∀ (os : Os) (i p f : Nat) (w : Int), flOs os → n = p + i → os[i]? = some (w, some v) → ∃ g : Nat, numL n p f os = some ((f : Int) + g + shOf (some v)) ∧ ∀ j, j < (blkT (some v)).length → (tabsP os)[g + j]? = (blkT (some v))[j]?
  | [], i, p, f, w, _, _, h => by simp at h
  | (w', o) :: r, 0, p, f, w, fl, hn, h => by
    simp at h
    obtain ⟨rfl, rfl⟩ := h
    refine ⟨0, ?_, fun j hj => ?_⟩
    · unfold numL
      simp only
      rw [if_pos (by omega)]
      simp
    · rw [tabsP, Nat.zero_add, List.getElem?_append_left hj]
  | (w', none) :: r, i + 1, p, f, w, fl, hn, h => by
    obtain ⟨g, e, q⟩ := tabs_at n v r i (p + 1) f w fl.2 (by omega) (by simpa using h)
    exact ⟨g, by simpa [numL] using e, fun j hj => by rw [tabsP]; simpa [blkT] using q j hj⟩
  | (w', some t) :: r, i + 1, p, f, w, fl, hn, h => by
    obtain ⟨g, e, q⟩ := tabs_at n v r i (p + 1) (f + (blkT (some t)).length) w fl.2 (by omega) (by simpa using h)
    refine ⟨(blkT (some t)).length + g, ?_, fun j hj => ?_⟩
    · unfold numL
      simp only
      rw [if_neg (by omega), e]
      congr 1
      omega
    · rw [tabsP, List.getElem?_append_right (by omega)]
      rw [show (blkT (some t)).length + g + j - (blkT (some t)).length = g + j by omega]
      exact q j hj
theorem lfC_at (x : Str → Bool) {cs : Cs} {i : Nat} {w : Int} {t : T} (h : cs[i]? = some (w, t)) : (lfC x cs)[i]? = some (w, lf x t) := by
  rw [lfC_map, List.getElem?_map, h]; rfl
theorem sh_finP (k : Kd) (hk : k ≠ .tabs) (ps : Cs) {s : Str} (h : ∃ p ∈ ps, s ∈ shT p.2) : ∃ u, finP k ps = some u ∧ s ∈ shT u := by
  obtain ⟨p, hp, hs⟩ := h
  match ps, hp with
  | [(w, t)], hp =>
    have : p = (w, t) := by simpa using hp
    subst this
    exact ⟨t, rfl, hs⟩
  | p1 :: q :: r, hp =>
    refine ⟨.nd k 0 (p1 :: q :: r), rfl, ?_⟩
    have e : decide (k = .tabs) = false := decide_eq_false hk
    rw [shT, e, shC_rows]
    exact List.mem_flatten.mpr ⟨shT p.2, List.mem_map.mpr ⟨p, hp, rfl⟩, hs⟩
theorem sh_blkL (k : Kd) (hk : k ≠ .tabs) (w : Int) (v : T) {s : Str} (h : s ∈ shT v) : ∃ p ∈ blkL k w (some v), s ∈ shT p.2 := by
  cases v with
  | win z => exact ⟨_, List.mem_singleton.mpr rfl, h⟩
  | nd k' n cs =>
    rw [blkL]
    split
    · rename_i e
      subst e
      have e : decide (k' = .tabs) = false := decide_eq_false hk
      rw [shT, e, shC_rows] at h
      obtain ⟨l, hl, hs⟩ := List.mem_flatten.mp h
      obtain ⟨q, hq, e⟩ := List.mem_map.mp hl
      subst e
      exact ⟨(w, q.2), List.mem_map.mpr ⟨q, hq, rfl⟩, hs⟩
    · exact ⟨_, List.mem_singleton.mpr rfl, h⟩
theorem sh_partsL (k : Kd) (hk : k ≠ .tabs) (v : T) {s : Str} (h : s ∈ shT v) : ∀ (os : Os) (w : Int), (w, some v) ∈ os → ∃ p ∈ partsL k os, s ∈ shT p.2
  | [], _, hm => nomatch hm
  | (w', o) :: r, w, hm => by
    rcases List.mem_cons.mp hm with e | hm
    · cases e
      obtain ⟨p, hp, hs⟩ := sh_blkL k hk _ v h
      exact ⟨p, by rw [partsL]; exact List.mem_append_left _ hp, hs⟩
    · obtain ⟨p, hp, hs⟩ := sh_partsL k hk v h r w hm
      exact ⟨p, by rw [partsL]; exact List.mem_append_right _ hp, hs⟩
/-- the tree that a tree shows, in its block -/
theorem sh_blkT (v : T) (fv : flT v) {s : Str} (h : s ∈ shT v) : ∃ (j : Nat) (q : Int × T), (j : Int) = shOf (some v) ∧ (blkT (some v))[j]? = some q ∧ s ∈ shT q.2 := by
  cases v with
  | win z => exact ⟨0, (0, .win z), rfl, rfl, h⟩
  | nd k n cs =>
    by_cases e : k = .tabs
    · subst e
      rw [flT] at fv
      obtain ⟨n0, n1, _⟩ := fv.1
      obtain ⟨i, rfl⟩ : ∃ i : Nat, n = i := ⟨n.toNat, by omega⟩
      have hi : i < cs.length := by omega
      obtain ⟨⟨w, t⟩, ht⟩ : ∃ q, cs[i]? = some q := ⟨_, List.getElem?_eq_getElem hi⟩
      rw [shT, decide_eq_true rfl, shC_tabs cs 0 w t i (by omega) ht] at h
      exact ⟨i, (w, t), rfl, by simp [blkT, ht], h⟩
    · refine ⟨0, (0, .nd k n cs), ?_, by simp [blkT, e], h⟩
      cases k <;> first | rfl | exact (e rfl).elim
mutual
theorem sh_lf (x : Str → Bool) {s : Str} (hx : x s = false) : ∀ t : T, gT t → s ∈ shT t → ∃ u, lf x t = some u ∧ s ∈ shT u
  | .win z, _, h => by
    have e : s = z := by simpa [shT] using h
    subst e
    exact ⟨.win s, by rw [lf, hx, if_neg Bool.false_ne_true], h⟩
  | .nd k n cs, g, h => by
    rw [gT] at g
    have fo := gOs_fl (g_lfC x k cs g.1).1
    rw [lf]
    by_cases ek : k = .tabs
    · subst ek
      obtain ⟨n0, n1, _⟩ := g.2
      obtain ⟨i, rfl⟩ : ∃ i : Nat, n = i := ⟨n.toNat, by omega⟩
      have hi : i < cs.length := by omega
      obtain ⟨⟨w, t⟩, ht⟩ : ∃ q, cs[i]? = some q := ⟨_, List.getElem?_eq_getElem hi⟩
      have hmem : (w, t) ∈ cs := List.mem_of_getElem? ht
      rw [shT, decide_eq_true rfl, shC_tabs cs 0 w t i (by omega) ht] at h
      obtain ⟨v, ev, hv⟩ := sh_lfC x hx cs .tabs g.1 w t hmem h
      have ea := lfC_at x ht
      rw [ev] at ea
      obtain ⟨m, em, q⟩ := tabs_at (i : Nat) v (lfC x cs) i 0 0 _ fo (by omega) ea
      have gv := g_lf x t (gC_mem g.1 hmem).1
      rw [ev] at gv
      have fv : flT v := g_fl v gv
      obtain ⟨j, r, ej, er, hr⟩ := sh_blkT v fv hv
      have hj : j < (blkT (some v)).length := (List.getElem?_eq_some_iff.mp er).1
      have eq := q j hj
      rw [er] at eq
      have hlen : m + j < (tabsP (lfC x cs)).length := (List.getElem?_eq_some_iff.mp eq).1
      show ∃ u, finTL (i : Nat) (lfC x cs) = some u ∧ s ∈ shT u
      unfold finTL
      rw [if_neg (by omega), em]
      refine ⟨_, rfl, ?_⟩
      simp only [Option.getD_some]
      obtain ⟨r1, r2⟩ := r
      rw [shT, decide_eq_true rfl, shC_tabs (tabsP (lfC x cs)) 0 r1 r2 (m + j) (by omega) eq]
      exact hr
    · have e : decide (k = .tabs) = false := decide_eq_false ek
      rw [shT, e, shC_rows] at h
      obtain ⟨l, hl, hs⟩ := List.mem_flatten.mp h
      obtain ⟨p, hp, e⟩ := List.mem_map.mp hl
      subst e
      obtain ⟨v, ev, hv⟩ := sh_lfC x hx cs k g.1 p.1 p.2 hp hs
      have hm : (p.1, some v) ∈ lfC x cs := by
        rw [lfC_map, ← ev]
        exact List.mem_map.mpr ⟨p, hp, rfl⟩
      have := sh_finP k ek _ (sh_partsL k ek v hv (lfC x cs) p.1 hm)
      cases k with
      | row => exact this
      | col => exact this
      | tabs => exact (ek rfl).elim
theorem sh_lfC (x : Str → Bool) {s : Str} (hx : x s = false) : ∀ (cs : List (Int × T)) (k : Kd), gC k cs → ∀ w t, (w, t) ∈ cs → s ∈ shT t → ∃ u, lf x t = some u ∧ s ∈ shT u
  | [], _, _, _, _, h, _ => nomatch h
  | (w', t') :: r, k, g, w, t, h, hs => by
    rw [gC] at g
    rcases List.mem_cons.mp h with e | h
    · cases e; exact sh_lf x hx t' g.1 hs
    · exact sh_lfC x hx r k g.2.2.2 w t h hs
end
end KL
end
section
open PySem PySem.Spec PyProof.Rows L2 VS
namespace KL
/-! places -/
mutual
def trs : T → List (List Nat × T)
  | .win s => [([], .win s)]
  | .nd k n cs => ([], .nd k n cs) :: trC 0 cs
def trC (p : Nat) : List (Int × T) → List (List Nat × T)
  | [] => []
  | (_, t) :: r => (trs t).map (fun q => (p :: q.1, q.2)) ++ trC (p + 1) r
end
def holdsB (ns : List Str) (t : T) : Bool := ns.all fun s => decide (s ∈ nmT t)
mutual
/-- the trees that hold some names, from a tree that does -/
def chT (ns : List Str) : T → List (List Nat × T)
  | .win s => [([], .win s)]
  | .nd k n cs => ([], .nd k n cs) :: chC ns 0 cs
def chC (ns : List Str) (p : Nat) : List (Int × T) → List (List Nat × T)
  | [] => []
  | (_, t) :: r => if holdsB ns t = true then (chT ns t).map (fun q => (p :: q.1, q.2)) else chC ns (p + 1) r
end
mutual
theorem trs_nm : ∀ (t : T), ∀ q ∈ trs t, ∀ s ∈ nmT q.2, s ∈ nmT t
  | .win z, q, hq, s, hs => by
    have : q = ([], .win z) := by simpa [trs] using hq
    subst this
    exact hs
  | .nd k n cs, q, hq, s, hs => by
    rw [trs] at hq
    rcases List.mem_cons.mp hq with e | hq
    · subst e; exact hs
    · rw [nmT]; exact trC_nm cs 0 q hq s hs
theorem trC_nm : ∀ (cs : List (Int × T)) (p : Nat), ∀ q ∈ trC p cs, ∀ s ∈ nmT q.2, s ∈ nmC cs
  | [], p, q, hq, s, hs => by simp [trC] at hq
  | (w, t) :: r, p, q, hq, s, hs => by
    rw [trC] at hq
    rw [nmC]
    rcases List.mem_append.mp hq with hq | hq
    · obtain ⟨q', hq', e⟩ := List.mem_map.mp hq
      subst e
      exact List.mem_append_left _ (trs_nm t q' hq' s hs)
    · exact List.mem_append_right _ (trC_nm r (p + 1) q hq s hs)
end
theorem holds_iff {ns : List Str} {t : T} : holdsB ns t = true ↔ ∀ s ∈ ns, s ∈ nmT t := by
  simp [holdsB]
theorem holds_up {ns : List Str} {t : T} {q : List Nat × T} (h : q ∈ trs t) (hh : holdsB ns q.2 = true) : holdsB ns t = true := by
  rw [holds_iff] at hh ⊢
  exact fun s hs => trs_nm t q h s (hh s hs)
theorem flt_none {ns : List Str} {t : T} (h : ¬ holdsB ns t = true) : (trs t).filter (fun q => holdsB ns q.2) = [] := by
  rw [List.filter_eq_nil_iff]
  intro q hq hh
  exact h (holds_up hq hh)
theorem flt_noneC {ns : List Str} : ∀ (cs : Cs) (p : Nat), (∀ w t, (w, t) ∈ cs → ¬ holdsB ns t = true) → (trC p cs).filter (fun q => holdsB ns q.2) = []
  | [], p, _ => by simp [trC]
  | (w, t) :: r, p, h => by
    rw [trC, List.filter_append, List.filter_map]
    have a := flt_none (h w t List.mem_cons_self)
    have b := flt_noneC r (p + 1) fun w' t' m => h w' t' (List.mem_cons_of_mem _ m)
    have : (fun q => holdsB ns q.2) ∘ (fun q : List Nat × T => (p :: q.1, q.2)) = fun q => holdsB ns q.2 := rfl
    rw [this, a, b]
    rfl
mutual
theorem flt_ch {ns : List Str} (hn : ns ≠ []) : ∀ (t : T), (nmT t).Nodup → holdsB ns t = true → (trs t).filter (fun q => holdsB ns q.2) = chT ns t
  | .win s, _, h => by rw [trs, chT, List.filter_cons, if_pos h]; rfl
  | .nd k n cs, nd, h => by
    rw [trs, chT, List.filter_cons, if_pos h, flt_chC hn cs 0 (by simpa [nmT] using nd)]
theorem flt_chC {ns : List Str} (hn : ns ≠ []) : ∀ (cs : List (Int × T)) (p : Nat), (nmC cs).Nodup → (trC p cs).filter (fun q => holdsB ns q.2) = chC ns p cs
  | [], p, _ => by simp [trC, chC]
  | (w, t) :: r, p, nd => by
    rw [nmC, List.nodup_append] at nd
    rw [trC, chC, List.filter_append, List.filter_map]
    have cmp : (fun q => holdsB ns q.2) ∘ (fun q : List Nat × T => (p :: q.1, q.2)) = fun q => holdsB ns q.2 := rfl
    rw [cmp]
    by_cases h : holdsB ns t = true
    · rw [if_pos h, flt_ch hn t nd.1 h]
      have : (trC (p + 1) r).filter (fun q => holdsB ns q.2) = [] := by
        rw [List.filter_eq_nil_iff]
        intro q hq hh
        obtain ⟨s, hs⟩ := List.exists_mem_of_ne_nil _ hn
        have a1 := holds_iff.mp h s hs
        have a2 := trC_nm r (p + 1) q hq s (holds_iff.mp hh s hs)
        exact nd.2.2 s a1 s a2 rfl
      rw [this, List.append_nil]
    · rw [if_neg h, flt_none h, flt_chC hn r (p + 1) nd.2.1]
      rfl
end
/-- a row of places each of which goes on the one before -/
def Chain (n : Nat) (l : List (List Nat)) : Prop := ∀ j (h : j < l.length), l[j].length = n + j ∧ ∀ i (h' : i < l.length), i < j → l[i] = l[j].take (n + i)
theorem chain_map {n : Nat} {p : Nat} {l : List (List Nat)} (h : Chain n l) : Chain (n + 1) (l.map (p :: ·)) := fun j hj => by
  rw [List.length_map] at hj
  obtain ⟨a, b⟩ := h j hj
  refine ⟨by simp [a]; omega, fun i hi hij => ?_⟩
  rw [List.length_map] at hi
  have := b i hi hij
  simp only [List.getElem_map]
  rw [show n + 1 + i = (n + i) + 1 by omega, List.take_succ_cons, ← this]
theorem chain_cons {l : List (List Nat)} (h : Chain 1 l) : Chain 0 ([] :: l) := fun j hj => by
  cases j with
  | zero => exact ⟨rfl, fun i _ h => by omega⟩
  | succ j =>
    rw [List.length_cons] at hj
    obtain ⟨a, b⟩ := h j (by omega)
    refine ⟨by simp [a]; omega, fun i hi hij => ?_⟩
    cases i with
    | zero => simp
    | succ i =>
      rw [List.length_cons] at hi
      have := b i (by omega) (by omega)
      simp only [List.getElem_cons_succ]
      rw [this]
      congr 1
      omega
mutual
theorem ch_chain (ns : List Str) : ∀ t : T, Chain 0 ((chT ns t).map (·.1))
  | .win s => fun j hj => by
    simp [chT] at hj
    subst hj
    exact ⟨by simp [chT], fun i _ h => by omega⟩
  | .nd k n cs => by
    rw [chT, List.map_cons]
    exact chain_cons (ch_chainC ns cs 0)
theorem ch_chainC (ns : List Str) : ∀ (cs : List (Int × T)) (p : Nat), Chain 1 ((chC ns p cs).map (·.1))
  | [], p => fun j hj => by simp [chC] at hj
  | (w, t) :: r, p => by
    rw [chC]
    split
    · have := chain_map (p := p) (ch_chain ns t)
      rw [List.map_map] at this ⊢
      exact this
    · exact ch_chainC ns r (p + 1)
end
end KL
end
section
open PySem PySem.Spec PyProof.Rows L2 VS
namespace KL
/-! ### ascending texts -/
def ascS : List Str → Bool
  | [] => true
  | [_] => true
  | a :: b :: r => decide (sLt a b) && ascS (b :: r)
theorem zip_asc : ∀ xs : List Str, (zipUp (xs.map .str) ((xs.drop 1).map .str)).map (fun d => match d with | .tuple [.str a, .str b] => (PyData.bool (decide (sLt a b)) : PyData) | d => d) = ((xs.zip (xs.drop 1)).map fun p => .bool (decide (sLt p.1 p.2)))
  | [] => rfl
  | [a] => rfl
  | a :: b :: r => by
    have := zip_asc (b :: r)
    simp only [List.drop_succ_cons, List.drop_zero, List.map_cons, zipUp, List.zip_cons_cons] at this ⊢
    rw [this]
theorem asc_all : ∀ xs : List Str, ((xs.zip (xs.drop 1)).all fun p => decide (sLt p.1 p.2)) = ascS xs
  | [] => rfl
  | [a] => rfl
  | a :: b :: r => by
    have := asc_all (b :: r)
    simp only [List.drop_succ_cons, List.drop_zero, List.zip_cons_cons, List.all_cons, ascS] at this ⊢
    rw [this]
theorem all_b {α : Type} (f : α → Bool) (ds : List α) : allD [.list (ds.map fun a => PyData.bool (f a))] = .ok (.bool (ds.all f)) := by
  have e := blsOf_fn f ds
  show (ofO (blsOf (ds.map fun a => PyData.bool (f a)))).bnd _ = _
  rw [e]
  simp [List.all_map]
theorem any_b {α : Type} (f : α → Bool) (ds : List α) : anyD [.list (ds.map fun a => PyData.bool (f a))] = .ok (.bool (ds.any f)) := by
  have e := blsOf_fn f ds
  show (ofO (blsOf (ds.map fun a => PyData.bool (f a)))).bnd _ = _
  rw [e]
  simp [List.any_map]
theorem cut_from (xs : List PyData) (n : Nat) (h : n ≤ xs.length) : cutD xs (some (n : Int)) none = xs.drop n := by
  unfold VS.cutD
  rw [HT.sIx_nat, Nat.min_eq_left h]
  refine List.take_of_length_le ?_
  rw [List.length_drop]
  show xs.length - n ≤ HT.sIx xs.length xs.length none - n
  simp [HT.sIx]
theorem cut_from1 (xs : List PyData) : cutD xs (some 1) none = xs.drop 1 := by
  cases xs with
  | nil => rfl
  | cons a r => exact cut_from (a :: r) 1 (by simp)
theorem s_ascends (k : Nat) (xs : List Str) (hz : xs.length ≤ 1000000) : den (k + 1) I_ascends [.sh (.tuple (xs.map .str))] = .ok (.bool (ascS xs)) := by
  have hs : sizeLine = 16777216 := sz_line
  have e0 : den (k + 1) I_ascends [.sh (.tuple (xs.map .str))] = outR (b_1 (den k) [.sh (.tuple (xs.map .str)), .no, .no]) := den_ascends _ _
  rw [e0]
  have e1 : lcL (bT 2 (bCons (bN 1) (bCons (bN 2) bNil))) yesT (d2 ltD (gS 1) (gS 2)) [.sh (.tuple (xs.map .str)), .no, .no] (zipUp (xs.map .str) ((xs.drop 1).map .str)) = .ok ((xs.zip (xs.drop 1)).map fun p => PyData.bool (decide (sLt p.1 p.2))) := by
    rw [← zip_asc]
    refine lcL_map _ _ fun d hd => ?_
    obtain ⟨i, hi⟩ := List.mem_iff_getElem?.mp hd
    obtain ⟨x, y, h1, h2, rfl⟩ := zipUp_get _ _ _ _ hi
    rw [List.getElem?_map] at h1 h2
    obtain ⟨a, _, rfl⟩ := Option.map_eq_some_iff.mp h1
    obtain ⟨b, _, rfl⟩ := Option.map_eq_some_iff.mp h2
    exact ⟨_, by simp; rfl, by simp⟩
  have ez : zipD [PyData.tuple (xs.map .str), PyData.tuple (List.drop 1 (xs.map .str))] = .ok (zipUp (xs.map .str) ((xs.drop 1).map .str)) := by
    rw [← List.map_drop]; rfl
  have el := zipUp_len (xs.map .str) ((xs.drop 1).map PyData.str)
  simp only [b_1, ev_ret, ev_dA, ev_args, ev_args0, ev_lc, ev_dAL, gS_zero, bnd_ok, dSl, someP, noP, asI, ev_k, slA, cut_from1, ez]
  rw [if_pos (by rw [el, List.length_map]; omega)]
  simp only [ev_wipe, ev_wipe0, List.set_cons_succ, List.set_cons_zero, e1, bnd_ok, all_b, toS_ok, outR_rt, asc_all]
/-! check_names -/
theorem s_check_names (k : Nat) (xs : List Str) (hz : xs.length ≤ 1000000) (ha : ascS xs = true) : den (k + 2) I_check_names [.sh (.tuple (xs.map .str))] = .ok .none := by
  have hs : sizeLine = 16777216 := sz_line
  have e0 : den (k + 1 + 1) I_check_names [.sh (.tuple (xs.map .str))] = outR (b_14 (den (k + 1)) [.sh (.tuple (xs.map .str)), .no]) := den_check_names _ _
  show den (k + 1 + 1) I_check_names [.sh (.tuple (xs.map .str))] = _
  rw [e0]
  have e1 : lcL (bN 1) yesT (d1 (isiD .tStr) (gS 1)) [.sh (.tuple (xs.map .str)), .no] (xs.map .str) = .ok ((xs.map PyData.str).map fun _ => PyData.bool true) := lcL_map (fun _ => .bool true) _ fun d hd => by
    obtain ⟨s, _, rfl⟩ := List.mem_map.mp hd
    exact ⟨_, rfl, by simp [isT]⟩
  have e2 := s_ascends k xs hz
  rw [ha] at e2
  simp only [b_14, ev_if, ev_tOr, ev_tNot, ev_tB1, ev_d1, gS_zero, bnd_ok, ev_isi, ev_asB, isT, Bool.not_true, if_neg Bool.false_ne_true, ev_dA, ev_args, ev_args0, ev_lc, ev_d1L, ev_items_t, ev_cD, List.map_cons, List.map_nil, e2, toS_ok]
  rw [if_pos (by rw [List.length_map]; omega)]
  simp only [ev_wipe, ev_wipe0, List.set_cons_succ, List.set_cons_zero, e1, bnd_ok, all_true, ev_asB, Bool.not_true, if_neg Bool.false_ne_true, toS_ok, ev_nx]
  rfl
/-- what is no row of names -/
def NN (k : Nat) (v : PyData) : Prop := den k I_check_names [.sh v] = .ex (.mk "BadNames" [])
theorem nn_notT {k : Nat} {v : PyData} (h : isT .tTuple v = false) : NN (k + 1) v := by
  have e0 : den (k + 1) I_check_names [.sh v] = outR (b_14 (den k) [.sh v, .no]) := den_check_names _ _
  unfold NN
  rw [e0]
  simp [b_14, h]
theorem nn_asc {k : Nat} {xs : List Str} (hz : xs.length ≤ 1000000) (h : ascS xs = false) : NN (k + 2) (.tuple (xs.map .str)) := by
  have hs : sizeLine = 16777216 := sz_line
  have e0 : den (k + 1 + 1) I_check_names [.sh (.tuple (xs.map .str))] = outR (b_14 (den (k + 1)) [.sh (.tuple (xs.map .str)), .no]) := den_check_names _ _
  show den (k + 1 + 1) I_check_names [.sh (.tuple (xs.map .str))] = _
  rw [e0]
  have e1 : lcL (bN 1) yesT (d1 (isiD .tStr) (gS 1)) [.sh (.tuple (xs.map .str)), .no] (xs.map .str) = .ok ((xs.map PyData.str).map fun _ => PyData.bool true) := lcL_map (fun _ => .bool true) _ fun d hd => by
    obtain ⟨s, _, rfl⟩ := List.mem_map.mp hd
    exact ⟨_, rfl, by simp [isT]⟩
  have e2 := s_ascends k xs hz
  rw [h] at e2
  simp only [b_14, ev_if, ev_tOr, ev_tNot, ev_tB1, ev_d1, gS_zero, bnd_ok, ev_isi, ev_asB, isT, Bool.not_true, if_neg Bool.false_ne_true, ev_dA, ev_args, ev_args0, ev_lc, ev_d1L, ev_items_t, ev_cD, List.map_cons, List.map_nil, e2, toS_ok]
  rw [if_pos (by rw [List.length_map]; omega)]
  simp only [ev_wipe, ev_wipe0, List.set_cons_succ, List.set_cons_zero, e1, bnd_ok, all_true, ev_asB, Bool.not_true, Bool.not_false, if_true, if_neg Bool.false_ne_true, toS_ok, ev_nx, ev_rai]
  rfl
theorem nn_5 {k : Nat} : NN (k + 1) (.tuple [.int 5]) := by
  have hs : sizeLine = 16777216 := sz_line
  have e0 : den (k + 1) I_check_names [.sh (.tuple [.int 5])] = outR (b_14 (den k) [.sh (.tuple [.int 5]), .no]) := den_check_names _ _
  unfold NN
  rw [e0]
  have e1 : lcL (bN 1) yesT (d1 (isiD .tStr) (gS 1)) [.sh (.tuple [.int 5]), .no] [.int 5] = .ok ([PyData.int 5].map fun _ => PyData.bool false) := lcL_map (fun _ => .bool false) _ fun d hd => by
    have : d = .int 5 := by simpa using hd
    subst this
    exact ⟨_, rfl, by simp [isT]⟩
  have e3 : allD [.list [PyData.bool false]] = .ok (.bool false) := all_b (fun b : Bool => b) [false]
  simp only [b_14, ev_if, ev_tOr, ev_tNot, ev_tB1, ev_d1, gS_zero, bnd_ok, ev_isi, ev_asB, isT, Bool.not_true, if_neg Bool.false_ne_true, ev_dA, ev_args, ev_args0, ev_lc, ev_d1L, ev_items_t, ev_cD, List.map_cons, List.map_nil, toS_ok]
  rw [if_pos (by simp; omega)]
  simp only [ev_wipe, ev_wipe0, List.set_cons_succ, List.set_cons_zero, e1, List.map_cons, List.map_nil, bnd_ok, e3, ev_asB, Bool.not_false, if_true, toS_ok, ev_rai]
  rfl
end KL
end
section
open PySem PySem.Spec PyProof.Rows L2 VS
namespace KL
/-! ### trees, sizes -/
theorem hC_mem : ∀ {cs : Cs} {w : Int} {t : T}, (w, t) ∈ cs → hT t ≤ hC cs ∧ zT t ≤ zC cs
  | [], _, _, h => nomatch h
  | (w', t') :: r, w, t, h => by
    rcases List.mem_cons.mp h with e | h
    · cases e; simp [hC, zC]; omega
    · have := hC_mem h; simp [hC, zC]; omega
theorem encT_map : ∀ cs : Cs, encT cs = cs.map fun p => enc p.2
  | [] => by simp [encT]
  | (w, t) :: r => by simp [encT, encT_map r]
theorem encP_map : ∀ cs : Cs, encP cs = cs.map fun p => .tuple [.int p.1, enc p.2]
  | [] => by simp [encP]
  | (w, t) :: r => by simp [encP, encP_map r]
mutual
theorem g_z : ∀ t : T, gT t → zT t ≤ (hT t + 1) * (nmT t).length
  | .win s, _ => by simp [zT, hT, nmT]
  | .nd k n cs, h => by
    have hp := g_nm _ h
    rw [gT] at h
    have := g_zC cs k h.1
    rw [nmT] at hp ⊢
    have e : (hC cs + 1 + 1) * (nmC cs).length = (hC cs + 1) * (nmC cs).length + (nmC cs).length := by rw [Nat.add_mul]; simp
    simp only [zT, hT]
    rw [e]
    omega
theorem g_zC : ∀ (cs : List (Int × T)) (k : Kd), gC k cs → zC cs ≤ (hC cs + 1) * (nmC cs).length
  | [], _, _ => by simp [zC]
  | (w, t) :: r, k, h => by
    rw [gC] at h
    have a := g_z t h.1
    have b := g_zC r k h.2.2.2
    simp only [zC, hC, nmC, List.length_append]
    have l1 : (hT t + 1) * (nmT t).length ≤ (max (hT t) (hC r) + 1) * (nmT t).length := Nat.mul_le_mul_right _ (by omega)
    have l2 : (hC r + 1) * (nmC r).length ≤ (max (hT t) (hC r) + 1) * (nmC r).length := Nat.mul_le_mul_right _ (by omega)
    rw [Nat.mul_add]
    omega
end
/-- a good layout -/
structure GL (t : T) : Prop where
  g : gT t
  h : hT t < 8
  nd : (nmT t).Nodup
  l : (nmT t).length ≤ 16
theorem GL.z {t : T} (G : GL t) : zT t ≤ 128 := by
  have a := g_z t G.g
  have b := G.h
  have c := G.l
  have : (hT t + 1) * (nmT t).length ≤ 8 * 16 := Nat.mul_le_mul (by omega) c
  omega
/-! what is left is no higher -/
def hO' : Option T → Nat
  | none => 0
  | some t => hT t
theorem h_blkL (k : Kd) (w : Int) : ∀ o : Option T, hC (blkL k w o) ≤ hO' o
  | none => by simp [blkL, hC]
  | some (.win s) => by simp [blkL, hC, hO']
  | some (.nd k' n cs) => by
    have e : ∀ l : Cs, hC (l.map fun p => (w, p.2)) = hC l := fun l => by
      induction l with
      | nil => rfl
      | cons a r ih => obtain ⟨v, t⟩ := a; simp [hC, ih]
    rw [blkL]
    split
    · rw [e]; simp [hO', hT]
    · simp [hC, hO']
theorem h_blkT' : ∀ o : Option T, hC (blkT o) ≤ hO' o
  | none => by simp [blkT, hC]
  | some (.win s) => by simp [blkT, hC, hO']
  | some (.nd k' n cs) => by
    rw [blkT]
    split
    · simp [hO', hT]
    · simp [hC, hO']
def hOs' : Os → Nat
  | [] => 0
  | (_, o) :: r => max (hO' o) (hOs' r)
theorem h_partsL (k : Kd) : ∀ os : Os, hC (partsL k os) ≤ hOs' os
  | [] => by simp [partsL, hC]
  | (w, o) :: r => by
    have a := h_blkL k w o
    have b := h_partsL k r
    rw [partsL, hC_app, hOs']
    omega
theorem h_tabsP' : ∀ os : Os, hC (tabsP os) ≤ hOs' os
  | [] => by simp [tabsP, hC]
  | (w, o) :: r => by
    have a := h_blkT' o
    have b := h_tabsP' r
    rw [tabsP, hC_app, hOs']
    omega
theorem h_finP' (k : Kd) (ps : Cs) : hO' (finP k ps) ≤ hC ps + 1 := by
  match ps with
  | [] => simp [finP, hO']
  | [(w, t)] => simp [finP, hO', hC]
  | p :: q :: r => simp [finP, hO', hT]
mutual
theorem h_lf (x : Str → Bool) : ∀ t : T, hO' (lf x t) ≤ hT t
  | .win s => by rw [lf]; split <;> simp [hO', hT]
  | .nd k n cs => by
    have ih := h_lfC x cs
    rw [lf, hT]
    cases k with
    | row =>
      have a := h_finP' .row (partsL .row (lfC x cs))
      have b := h_partsL .row (lfC x cs)
      show hO' (finP .row _) ≤ _
      omega
    | col =>
      have a := h_finP' .col (partsL .col (lfC x cs))
      have b := h_partsL .col (lfC x cs)
      show hO' (finP .col _) ≤ _
      omega
    | tabs =>
      have b := h_tabsP' (lfC x cs)
      show hO' (finTL n _) ≤ _
      unfold finTL
      split
      · simp [hO']
      · simp [hO', hT]; omega
theorem h_lfC (x : Str → Bool) : ∀ cs : List (Int × T), hOs' (lfC x cs) ≤ hC cs
  | [] => by simp [lfC, hOs', hC]
  | (w, t) :: r => by
    have a := h_lf x t
    have b := h_lfC x r
    rw [lfC, hOs', hC]
    omega
end
theorem GL.lf {t u : T} (x : Str → Bool) (G : GL t) (e : lf x t = some u) : GL u := by
  have a := g_lf x t G.g
  have b := h_lf x t
  have c := nm_lf x t
  rw [e] at a b c
  have c' : nmT u = (nmT t).filter fun s => !x s := c
  refine ⟨a, Nat.lt_of_le_of_lt b G.h, ?_, ?_⟩
  · rw [c']; exact G.nd.filter _
  · rw [c']; exact Nat.le_trans (List.length_filter_le _ _) G.l
/-! ### check_layout, windows_of -/
theorem s_lay {t : T} (G : GL t) (k : Nat) (hk : 20 ≤ k) : den k I_is_layout [.sh (enc t)] = .ok (.bool true) := by
  have := G.h
  have := G.z
  obtain ⟨k', rfl⟩ : ∃ k', k = k' + 1 := ⟨k - 1, by omega⟩
  exact s_is_layout t k' (g_v t G.g) G.h (by omega) (by omega) G.nd G.l
theorem s_chk {t : T} (G : GL t) (k : Nat) (hk : 21 ≤ k) : den k I_check_layout [.sh (enc t)] = .ok .none := by
  obtain ⟨k', rfl⟩ : ∃ k', k = k' + 1 := ⟨k - 1, by omega⟩
  rw [den_check_layout]
  have e := s_lay G k' (by omega)
  simp [b_8, e]
theorem s_nms {t : T} (G : GL t) (k : Nat) (hk : 20 ≤ k) : den k I_names_of [.sh (enc t)] = .ok (.list ((nmT t).map .str)) := by
  have := G.h
  have := G.z
  exact s_names t k (by omega) (by omega)
theorem s_windows {t : T} (G : GL t) (k : Nat) (hk : 22 ≤ k) : den k I_windows_of [.sh (enc t)] = .ok (.tuple ((nmT t).map .str)) := by
  obtain ⟨k', rfl⟩ : ∃ k', k = k' + 1 := ⟨k - 1, by omega⟩
  rw [den_windows_of]
  have e := s_chk G k' (by omega)
  have e2 := s_nms G k' (by omega)
  simp [b_9, e, e2]
/-! ### what is shown -/
theorem sh_rows {ds : List T} {k : Nat} {x0 x1 : Sl} (h : ∀ t ∈ ds, den k I_shown_names [.sh (enc t)] = .ok (.list ((shT t).map .str))) (hz : (ds.map fun t => (shT t).length).sum ≤ 1000000) :
    ∃ s3, goS (bN 3) (extS 2 (dA (argsF [(gS 3)]) (cD (den k I_shown_names)))) (ds.map enc) [x0, x1, .ow (.list []), .no] = .nx [x0, x1, .ow (.list (((ds.map shT).flatten).map .str)), s3] := by
  have hs : sizeLine = 16777216 := sz_line
  obtain ⟨δ', e, s3, rfl⟩ := goS_inv0 (b := bN 3) (body := extS 2 (dA (argsF [(gS 3)]) (cD (den k I_shown_names)))) (ds := ds.map enc) (δ := [x0, x1, .ow (.list []), .no])
    (fun j δ => ∃ s3, δ = [x0, x1, .ow (.list ((((ds.take j).map shT).flatten).map .str)), s3]) ⟨.no, by simp⟩ (by
    rintro j d δ hj ⟨s3, rfl⟩
    rw [List.getElem?_map] at hj
    obtain ⟨t, ht, rfl⟩ := Option.map_eq_some_iff.mp hj
    have hlt : j < ds.length := (List.getElem?_eq_some_iff.mp ht).1
    have e1 := h t (List.mem_of_getElem? ht)
    have et : ds.take (j + 1) = ds.take j ++ [t] := by rw [List.take_add_one, ht]; rfl
    refine ⟨_, _, rfl, .inl (ev_ext (xs := (((ds.take j).map shT).flatten).map .str) (ds := (shT t).map .str) (d := .list ((shT t).map .str)) rfl (by simp [e1]) (.inl rfl) ?_), .sh (enc t), ?_⟩
    · have l1 : ((ds.take (j + 1)).map fun t => (shT t).length).sum ≤ (ds.map fun t => (shT t).length).sum := by
        have : ds = ds.take (j + 1) ++ ds.drop (j + 1) := (List.take_append_drop _ _).symm
        conv => rhs; rw [this]
        rw [List.map_append, List.sum_append]; omega
      rw [et, List.map_append, List.sum_append] at l1
      have l2 : (((ds.take j).map shT).flatten).length = ((ds.take j).map fun t => (shT t).length).sum := by rw [List.length_flatten, List.map_map]; rfl
      simp only [List.length_map, l2]
      simp only [List.map_cons, List.map_nil, List.sum_cons, List.sum_nil] at l1
      omega
    · rw [et]
      simp)
  refine ⟨s3, ?_⟩
  rw [e, List.length_map, List.take_length]
theorem shC_len : ∀ (cs : Cs) (b : Bool) (n : Int) (p : Nat), (∀ w t, (w, t) ∈ cs → (shT t).length ≤ zT t) → (shC b n p cs).length ≤ zC cs
  | [], b, n, p, _ => by simp [shC]
  | (w, t) :: r, b, n, p, h => by
    have a := h w t List.mem_cons_self
    have c := shC_len r b n (p + 1) fun w' t' m => h w' t' (List.mem_cons_of_mem _ m)
    rw [shC, List.length_append, zC]
    split <;> simp <;> omega
mutual
theorem sh_z : ∀ t : T, (shT t).length ≤ zT t
  | .win s => by simp [shT, zT]
  | .nd k n cs => by
    have := shC_len cs (decide (k = .tabs)) n 0 (sh_zC cs)
    rw [shT, zT]; omega
theorem sh_zC : ∀ (cs : List (Int × T)), ∀ w t, (w, t) ∈ cs → (shT t).length ≤ zT t
  | [], _, _, h => nomatch h
  | (w', t') :: r, w, t, h => by
    rcases List.mem_cons.mp h with e | h
    · cases e; exact sh_z t'
    · exact sh_zC r w t h
end
theorem sum_z : ∀ cs : Cs, (cs.map fun p => (shT p.2).length).sum ≤ zC cs
  | [] => by simp
  | (w, t) :: r => by have := sh_z t; have := sum_z r; simp [zC]; omega
theorem s_shown : ∀ (k : Nat) (t : T), hT t + 2 ≤ k → gT t → zT t ≤ 1000000 → den k I_shown_names [.sh (enc t)] = .ok (.list ((shT t).map .str))
  | 0, t, h, _, _ => by omega
  | k + 1, .win s, h, g, hz => by
    have e0 : den (k + 1) I_shown_names [.sh (enc (.win s))] = outR (b_10 (den k) [.sh (enc (.win s)), .no, .no, .no]) := den_shown_names _ _
    rw [e0, enc_win]
    simp [b_10, shT]
  | k + 1, .nd kd n cs, h, g, hz => by
    have h' : hC cs + 2 ≤ k := by simp [hT] at h; omega
    have hz' : zC cs + 1 ≤ 1000000 := by simpa [zT] using hz
    have e0 : den (k + 1) I_shown_names [.sh (enc (.nd kd n cs))] = outR (b_10 (den k) [.sh (enc (.nd kd n cs)), .no, .no, .no]) := den_shown_names _ _
    rw [e0]
    rw [gT] at g
    have ih : ∀ w t, (w, t) ∈ cs → den k I_shown_names [.sh (enc t)] = .ok (.list ((shT t).map .str)) := fun w t m => by
      have a := hC_mem m
      exact s_shown k t (by omega) (gC_mem g.1 m).1 (by omega)
    have nw : ¬ kdS kd = "win" := nd_ne_win kd
    have et : (tB1 (d2 eqD (d2 ixD (gS 0) (kC (.int 0))) (kC (.str "win")))) [.sh (enc (.nd kd n cs)), .no, .no, .no] = .ok false := by
      simp [ix0_enc, wd, nw]
    by_cases ek : kd = .tabs
    · subst ek
      obtain ⟨n0, n1, _⟩ := g.2
      obtain ⟨i, rfl⟩ : ∃ i : Nat, n = i := ⟨n.toNat, by omega⟩
      have hi : i < cs.length := by omega
      obtain ⟨⟨w, t⟩, ht⟩ : ∃ q, cs[i]? = some q := ⟨_, List.getElem?_eq_getElem hi⟩
      have hm := List.mem_of_getElem? ht
      have e1 : atI (encT cs) (i : Int) = some (enc t) := at_nat (by rw [encT_map, List.getElem?_map, ht]; rfl)
      have zt := sh_z t
      have hzt := (hC_mem hm).2
      obtain ⟨s3, e2⟩ := sh_rows (ds := [t]) (k := k) (x0 := .sh (enc (.nd .tabs (i : Nat) cs))) (x1 := .sh (.list [enc t])) (fun u hu => by
        have : u = t := by simpa using hu
        subst this; exact ih w u hm) (by simp; omega)
      simp only [b_10, ev_seq, ev_if, et, toS_ok, if_neg Bool.false_ne_true, ev_nx, rsb_nx]
      have es : (setS 1 (dIf (tB1 (d2 eqD (d2 ixD (gS 0) (kC (.int 0))) (kC (.str "tabs")))) (dA (argsF [(d2 ixD (d2 ixD (gS 0) (kC (.int 2))) (d2 ixD (gS 0) (kC (.int 1))))]) lstD) (dA (argsF [(gS 0)]) (cD (den k I_inner_trees))))) [.sh (enc (.nd .tabs (i : Nat) cs)), .no, .no, .no] = .nx [.sh (enc (.nd .tabs (i : Nat) cs)), .sh (.list [enc t]), .no, .no] := by
        have ed : (tB1 (d2 eqD (d2 ixD (gS 0) (kC (.int 0))) (kC (.str "tabs")))) [.sh (enc (.nd .tabs (i : Nat) cs)), .no, .no, .no] = .ok true := by simp [ix0_enc, wd, kdS]
        simp only [ev_set, ev_dIf, ed, bnd_ok, if_true]
        rw [enc_tabs]
        simp [e1]
      rw [es]
      have e2' : goS (bN 3) (extS 2 (dA (argsF [(gS 3)]) (cD (den k I_shown_names)))) [enc t] [.sh (enc (.nd .tabs (i : Nat) cs)), .sh (.list [enc t]), .ow (.list []), .no] = .nx [.sh (enc (.nd .tabs (i : Nat) cs)), .sh (.list [enc t]), .ow (.list ((shT t).map .str)), s3] := by simpa using e2
      simp only [rsb_nx, ev_seq, ev_setO, ev_dA, ev_args0, bnd_ok, ev_lst0, toS_ok, List.set_cons_succ, List.set_cons_zero, ev_for, ev_d1L, gS_succ, gS_zero, ev_items_l]
      rw [e2']
      rw [shT, decide_eq_true rfl, shC_tabs cs 0 w t i (by omega) ht]
      simp [frzD]
    · obtain ⟨k', rfl⟩ : ∃ k', k = k' + 1 := ⟨k - 1, by omega⟩
      have ei := s_inner k' (.nd kd n cs) hz
      have sz := sum_z cs
      obtain ⟨s3, e2⟩ := sh_rows (ds := cs.map (·.2)) (k := k' + 1) (x0 := .sh (enc (.nd kd n cs))) (x1 := .sh (.list (encT cs))) (fun u hu => by
        obtain ⟨⟨w, t⟩, hm, rfl⟩ := List.mem_map.mp hu
        exact ih w t hm) (by rw [List.map_map]; exact Nat.le_trans sz (by omega))
      have nt : ¬ kdS kd = "tabs" := fun z => ek (kdS_inj (b := .tabs) z)
      simp only [b_10, ev_seq, ev_if, et, toS_ok, if_neg Bool.false_ne_true, ev_nx, rsb_nx]
      have es : (setS 1 (dIf (tB1 (d2 eqD (d2 ixD (gS 0) (kC (.int 0))) (kC (.str "tabs")))) (dA (argsF [(d2 ixD (d2 ixD (gS 0) (kC (.int 2))) (d2 ixD (gS 0) (kC (.int 1))))]) lstD) (dA (argsF [(gS 0)]) (cD (den (k' + 1) I_inner_trees))))) [.sh (enc (.nd kd n cs)), .no, .no, .no] = .nx [.sh (enc (.nd kd n cs)), .sh (.list (encT cs)), .no, .no] := by
        have ed : (tB1 (d2 eqD (d2 ixD (gS 0) (kC (.int 0))) (kC (.str "tabs")))) [.sh (enc (.nd kd n cs)), .no, .no, .no] = .ok false := by simp [ix0_enc, wd, nt]
        simp only [ev_set, ev_dIf, ed, bnd_ok, if_neg Bool.false_ne_true]
        simp [ei, csOf]
      rw [es]
      have em : (cs.map (·.2)).map enc = encT cs := by rw [encT_map, List.map_map]; rfl
      rw [em] at e2
      simp only [rsb_nx, ev_seq, ev_setO, ev_dA, ev_args0, bnd_ok, ev_lst0, toS_ok, List.set_cons_succ, List.set_cons_zero, ev_for, ev_d1L, gS_succ, gS_zero, ev_items_l, e2]
      have e : decide (kd = .tabs) = false := decide_eq_false ek
      rw [shT, e, shC_rows, List.map_map]
      simp [frzD]
      rfl
theorem s_shownW {t : T} (G : GL t) (k : Nat) (hk : 22 ≤ k) : den k I_shown_windows [.sh (enc t)] = .ok (.tuple ((shT t).map .str)) := by
  have := G.h
  have := G.z
  obtain ⟨k', rfl⟩ : ∃ k', k = k' + 1 := ⟨k - 1, by omega⟩
  rw [den_shown_windows]
  have e := s_chk G k' (by omega)
  have e2 := s_shown k' t (by omega) G.g (by omega)
  simp [b_11, e, e2]
end KL
end
section
open PySem PySem.Spec PyProof.Rows L2 VS
namespace KL
theorem tabsP_app : ∀ a b : Os, tabsP (a ++ b) = tabsP a ++ tabsP b
  | [], b => by simp [tabsP]
  | (w, o) :: r, b => by simp [tabsP, tabsP_app r b]
theorem encP_app : ∀ a b : Cs, encP (a ++ b) = encP a ++ encP b
  | [], b => by simp [encP]
  | (w, t) :: r, b => by simp [encP, encP_app r b]
theorem encT_app : ∀ a b : Cs, encT (a ++ b) = encT a ++ encT b
  | [], b => by simp [encT]
  | (w, t) :: r, b => by simp [encT, encT_app r b]
/-- what is left, with its weights -/
def somes : Os → Cs
  | [] => []
  | (_, none) :: r => somes r
  | (w, some t) :: r => (w, t) :: somes r
theorem somes_app : ∀ a b : Os, somes (a ++ b) = somes a ++ somes b
  | [], b => by simp [somes]
  | (w, none) :: r, b => by simp [somes, somes_app r b]
  | (w, some t) :: r, b => by simp [somes, somes_app r b]
theorem somes_len : ∀ a : Os, (somes a).length ≤ a.length
  | [] => by simp [somes]
  | (w, none) :: r => by have := somes_len r; simp [somes]; omega
  | (w, some t) :: r => by have := somes_len r; simp [somes]; omega
def flatL (k : Kd) (ps : Cs) : Cs := ps.flatMap fun p => blkL k p.1 (some p.2)
theorem flatL_somes (k : Kd) : ∀ os : Os, flatL k (somes os) = partsL k os
  | [] => by simp [flatL, somes, partsL]
  | (w, none) :: r => by simpa [somes, partsL, blkL] using flatL_somes k r
  | (w, some t) :: r => by
    have := flatL_somes k r
    simp only [flatL] at this
    simp [flatL, somes, partsL, this]
theorem isN_enc (t : T) : isN (enc t) = false := by
  obtain ⟨xs, e⟩ := enc_wd t
  rw [e]; simp
theorem ix1_row {kd : Kd} (hk : kd ≠ .tabs) (n : Int) (cs : Cs) : ixD (enc (.nd kd n cs)) (.int 1) = .ok (.tuple (encP cs)) := by
  cases kd with
  | row => rw [enc_row]; simp
  | col => rw [enc_col]; simp
  | tabs => exact (hk rfl).elim
def gaBody : Dl → RS := (extS 2 (dIf (tB1 (d2 eqD (d2 ixD (gS 4) (kC (.int 0))) (gS 0))) (lcD ([5]) (d1L itemsD (d2 ixD (gS 4) (kC (.int 1)))) (bN 5) yesT (dA (argsF [(gS 3), (d2 ixD (gS 5) (kC (.int 1)))]) tupD)) (dA (argsF [(dA (argsF [(gS 3), (gS 4)]) tupD)]) lstD)))
theorem gaBody_ev (kd : Kd) (hk : kd ≠ .tabs) (x1 : Sl) (acc : Cs) (w : Int) (t : T) (hz : acc.length + (blkL kd w (some t)).length ≤ 1000000) :
    gaBody [.sh (.str (kdS kd)), x1, .ow (.list (encP acc)), .sh (.int w), .sh (enc t), .no] = .nx [.sh (.str (kdS kd)), x1, .ow (.list (encP (acc ++ blkL kd w (some t)))), .sh (.int w), .sh (enc t), .no] := by
  have hs : sizeLine = 16777216 := sz_line
  have la := encP_len acc
  have lb := encP_len (blkL kd w (some t))
  unfold gaBody
  rw [ev_ext (xs := encP acc) (ds := encP (blkL kd w (some t))) (d := .list (encP (blkL kd w (some t)))) rfl ?_ (.inl rfl) (by omega)]
  · simp [encP_app]
  · cases t with
    | win s =>
      have e1 : ¬ wd (.win s) = kdS kd := fun z => nd_ne_win kd z.symm
      simp [ix0_enc, e1, blkL, encP]
    | nd k' n cs =>
      by_cases e : k' = kd
      · subst e
        have e1 : lcL (bN 5) yesT (dA (argsF [(gS 3), (d2 ixD (gS 5) (kC (.int 1)))]) tupD) [.sh (.str (kdS k')), x1, .ow (.list (encP acc)), .sh (.int w), .sh (enc (.nd k' n cs)), .no] (encP cs) = .ok (encP (cs.map fun p => (w, p.2))) := by
          rw [encP_map cs, encP_map (cs.map _), List.map_map, lcL_map (fun d => match d with | .tuple [_, e] => .tuple [.int w, e] | d => d) _ fun d hd => ?_]
          · rw [List.map_map]; rfl
          · obtain ⟨p, _, rfl⟩ := List.mem_map.mp hd
            exact ⟨_, rfl, by simp⟩
        simp only [blkL, if_true, List.length_map] at hz lb
        have lc := encP_len cs
        simp only [ev_dIf, ev_tB1, ev_d2, gS_succ, gS_zero, bnd_ok, ev_k, ix0_enc, wd, ev_eqS, ev_asB, decide_true, if_true, ev_lc, ev_d1L, ix1_row hk, ev_items_t]
        rw [if_pos (by omega)]
        simp only [ev_wipe, ev_wipe0, List.set_cons_succ, List.set_cons_zero, e1, bnd_ok, blkL, if_true]
      · have e1 : ¬ kdS k' = kdS kd := fun z => e (kdS_inj z)
        simp [ix0_enc, wd, e1, blkL, e, encP]
theorem flatL_len {k : Kd} {ps : Cs} {j : Nat} : (flatL k (ps.take j)).length ≤ (flatL k ps).length := by
  have : ps = ps.take j ++ ps.drop j := (List.take_append_drop _ _).symm
  conv => rhs; rw [this]
  unfold flatL
  rw [List.flatMap_append, List.length_append]; omega
theorem s_gathered (k : Nat) (kd : Kd) (hk : kd ≠ .tabs) (ps : Cs) (hz : (flatL kd ps).length ≤ 1000000) (hl : ps.length ≤ 1000000) : den (k + 1) I_gathered [.sh (.str (kdS kd)), .sh (.list (encP ps))] = .ok (encO (finP kd (flatL kd ps))) := by
  have e0 : den (k + 1) I_gathered [.sh (.str (kdS kd)), .sh (.list (encP ps))] = outR (b_17 (den k) [.sh (.str (kdS kd)), .sh (.list (encP ps)), .no, .no, .no, .no]) := den_gathered _ _
  rw [e0]
  obtain ⟨δ', e, s3, s4, rfl⟩ := goS_inv0 (b := bT 2 (bCons (bN 3) (bCons (bN 4) bNil))) (body := gaBody) (ds := encP ps) (δ := [.sh (.str (kdS kd)), .sh (.list (encP ps)), .ow (.list []), .no, .no, .no])
    (fun j δ => ∃ s3 s4, δ = [.sh (.str (kdS kd)), .sh (.list (encP ps)), .ow (.list (encP (flatL kd (ps.take j)))), s3, s4, .no]) ⟨.no, .no, by simp [flatL, encP]⟩ (by
    rintro j d δ hj ⟨s3, s4, rfl⟩
    rw [encP_map, List.getElem?_map] at hj
    obtain ⟨⟨w, t⟩, ht, rfl⟩ := Option.map_eq_some_iff.mp hj
    have et : ps.take (j + 1) = ps.take j ++ [(w, t)] := by rw [List.take_add_one, ht]; rfl
    have ef : flatL kd (ps.take (j + 1)) = flatL kd (ps.take j) ++ blkL kd w (some t) := by rw [et]; simp [flatL]
    have l1 := flatL_len (k := kd) (ps := ps) (j := j + 1)
    rw [ef, List.length_append] at l1
    refine ⟨[.sh (.str (kdS kd)), .sh (.list (encP ps)), .ow (.list (encP (flatL kd (ps.take j)))), .sh (.int w), .sh (enc t), .no], _, by simp, .inl (gaBody_ev kd hk _ (flatL kd (ps.take j)) w t (by omega)), .sh (.int w), .sh (enc t), by rw [ef]⟩)
  have eb : b_17 (den k) = (seqS (setO 2 (dA (argsF []) lstD)) (seqS (forS (d1L itemsD (gS 1)) (bT 2 (bCons (bN 3) (bCons (bN 4) bNil))) gaBody) (seqS (ifS (tB1 (d2 eqD (dA (argsF [(gB 2)]) lenD) (kC (.int 0)))) (retS (kC .none)) nxS) (retS (dIf (tB1 (d2 eqD (dA (argsF [(gB 2)]) lenD) (kC (.int 1)))) (d2 ixD (d2 ixD (gB 2) (kC (.int 0))) (kC (.int 1))) (dA (argsF [(gS 0), (dA (argsF [(gB 2)]) tupOfD)]) tupD)))))) := rfl
  rw [eb]
  have lp := encP_len ps
  simp only [ev_seq, ev_setO, ev_dA, ev_args0, bnd_ok, ev_lst0, toS_ok, rsb_nx, List.set_cons_succ, List.set_cons_zero, ev_for, ev_d1L, gS_succ, gS_zero, ev_items_l]
  rw [e, lp, List.take_length]
  match hq : flatL kd ps with
  | [] => simp [encP, finP, encO]
  | [(w, t)] => simp [encP, finP, encO]
  | p :: q :: r =>
    have l2 : (encP (p :: q :: r)).length = r.length + 2 := by rw [encP_len]; simp
    have hn0 : ¬ (((encP (p :: q :: r)).length : Nat) : Int) = 0 := by omega
    have hn1 : ¬ (((encP (p :: q :: r)).length : Nat) : Int) = 1 := by omega
    generalize hE : encP (p :: q :: r) = E at hn0 hn1
    have hE0 : E ≠ [] := fun z => hn0 (by rw [z]; rfl)
    cases kd with
    | row => simp [hE0, hn1, finP, encO, enc_row, kdS, hE]
    | col => simp [hE0, hn1, finP, encO, enc_col, kdS, hE]
    | tabs => exact (hk rfl).elim
/-! tabs -/
def encN : Option Int → PyData
  | none => .none
  | some m => .int m
theorem numL_snoc (sh : Int) (w : Int) (o : Option T) : ∀ (os : Os) (p f : Nat), numL sh p f (os ++ [(w, o)]) = (numL sh p f os).or (match o with | none => none | some t => if sh ≤ ((p + os.length : Nat) : Int) then some (((f + (tabsP os).length : Nat) : Int) + shOf (some t)) else none)
  | [], p, f => by
    cases o with
    | none => simp [numL, tabsP]
    | some t => simp [numL, tabsP]
  | (w', none) :: r, p, f => by
    have := numL_snoc sh w o r (p + 1) f
    rw [List.cons_append]
    unfold numL
    simp only
    rw [this]
    cases o with
    | none => rfl
    | some t =>
      simp only [tabsP, blkT, List.nil_append, List.length_cons]
      rw [show p + 1 + r.length = p + (r.length + 1) by omega]
  | (w', some u) :: r, p, f => by
    have := numL_snoc sh w o r (p + 1) (f + (blkT (some u)).length)
    rw [List.cons_append]
    unfold numL
    simp only
    rw [this]
    split
    · simp
    · cases o with
      | none => rfl
      | some t =>
        simp only [tabsP, List.length_append, List.length_cons]
        rw [show p + 1 + r.length = p + (r.length + 1) by omega, show f + (blkT (some u)).length + (tabsP r).length = f + ((blkT (some u)).length + (tabsP r).length) by omega]
def ltBody (k : Nat) : Dl → RS := (seqS (setS 6 (dA (argsF [(gS 5), (gS 1)]) (cD (den k I_left_of)))) (ifS (tB1 (d1 notND (gS 6))) (seqS (setS 7 (dA (argsF [(gB 2)]) lenD)) (seqS (extS 2 (dIf (tB1 (d2 eqD (d2 ixD (gS 6) (kC (.int 0))) (kC (.str "tabs")))) (dA (argsF [(d2 ixD (gS 6) (kC (.int 2)))]) lstOfD) (dA (argsF [(gS 6)]) lstD))) (ifS (tAnd2 (tB1 (d2 geD (gS 4) (d2 ixD (gS 0) (kC (.int 1))))) (tB1 (d1 isND (gS 3)))) (setS 3 (d2 addD (gS 7) (dIf (tB1 (d2 eqD (d2 ixD (gS 6) (kC (.int 0))) (kC (.str "tabs")))) (d2 ixD (gS 6) (kC (.int 1))) (kC (.int 0))))) nxS))) nxS))
theorem shOf_ev (u : T) (δ : Dl) (h : gS 6 δ = .ok (enc u)) : (dIf (tB1 (d2 eqD (d2 ixD (gS 6) (kC (.int 0))) (kC (.str "tabs")))) (d2 ixD (gS 6) (kC (.int 1))) (kC (.int 0))) δ = .ok (.int (shOf (some u))) := by
  cases u with
  | win s => simp (decide := true) [h, ix0_enc, wd, shOf]
  | nd k n cs =>
    cases k with
    | row => simp (decide := true) [h, ix0_enc, wd, shOf, kdS]
    | col => simp (decide := true) [h, ix0_enc, wd, shOf, kdS]
    | tabs => simp [h, ix0_enc, wd, shOf, kdS]; rw [enc_tabs]; simp
theorem blkT_ev (u : T) (hz : (blkT (some u)).length ≤ 1000000) (δ : Dl) (h : gS 6 δ = .ok (enc u)) : (dIf (tB1 (d2 eqD (d2 ixD (gS 6) (kC (.int 0))) (kC (.str "tabs")))) (dA (argsF [(d2 ixD (gS 6) (kC (.int 2)))]) lstOfD) (dA (argsF [(gS 6)]) lstD)) δ = .ok (.list (encT (blkT (some u)))) := by
  cases u with
  | win s => simp (decide := true) [h, ix0_enc, wd, blkT, encT]
  | nd k n cs =>
    cases k with
    | row => simp (decide := true) [h, ix0_enc, wd, blkT, kdS, encT]
    | col => simp (decide := true) [h, ix0_enc, wd, blkT, kdS, encT]
    | tabs => simp [h, ix0_enc, wd, blkT, kdS]; rw [enc_tabs]; simp
theorem ltBody_ev (k : Nat) (x0 x1 : PyData) (n : Int) (h0 : ixD x0 (.int 1) = .ok (.int n)) (acc : Cs) (m : Option Int) (p : Nat) (t : T) (o : Option T) (s6 s7 : Sl) (ho : den k I_left_of [.sh (enc t), .sh x1] = .ok (encO o)) (hz : acc.length + (blkT o).length ≤ 1000000) :
    ∃ s6' s7', ltBody k [.sh x0, .sh x1, .ow (.list (encT acc)), .sh (encN m), .sh (.int (p : Nat)), .sh (enc t), s6, s7] = .nx [.sh x0, .sh x1, .ow (.list (encT (acc ++ blkT o))), .sh (encN (m.or (match o with | none => none | some t => if n ≤ (p : Int) then some ((acc.length : Int) + shOf (some t)) else none))), .sh (.int (p : Nat)), .sh (enc t), s6', s7'] := by
  have hs : sizeLine = 16777216 := sz_line
  have la := encT_len acc
  match o with
  | none => exact ⟨.sh .none, s7, by simp [ltBody, ho, encO, blkT]⟩
  | some u =>
    refine ⟨.sh (enc u), .sh (.int (acc.length : Nat)), ?_⟩
    have lb := encT_len (blkT (some u))
    have es : (setS 6 (dA (argsF [(gS 5), (gS 1)]) (cD (den k I_left_of)))) [.sh x0, .sh x1, .ow (.list (encT acc)), .sh (encN m), .sh (.int (p : Nat)), .sh (enc t), s6, s7] = .nx [.sh x0, .sh x1, .ow (.list (encT acc)), .sh (encN m), .sh (.int (p : Nat)), .sh (enc t), .sh (enc u), s7] := by simp [ho, encO]
    have e7 : (setS 7 (dA (argsF [(gB 2)]) lenD)) [.sh x0, .sh x1, .ow (.list (encT acc)), .sh (encN m), .sh (.int (p : Nat)), .sh (enc t), .sh (enc u), s7] = .nx [.sh x0, .sh x1, .ow (.list (encT acc)), .sh (encN m), .sh (.int (p : Nat)), .sh (enc t), .sh (enc u), .sh (.int (acc.length : Nat))] := by simp [la]
    have ee := ev_ext (i := 2) (f := (dIf (tB1 (d2 eqD (d2 ixD (gS 6) (kC (.int 0))) (kC (.str "tabs")))) (dA (argsF [(d2 ixD (gS 6) (kC (.int 2)))]) lstOfD) (dA (argsF [(gS 6)]) lstD))) (δ := [.sh x0, .sh x1, .ow (.list (encT acc)), .sh (encN m), .sh (.int (p : Nat)), .sh (enc t), .sh (enc u), .sh (.int (acc.length : Nat))]) (xs := encT acc) (ds := encT (blkT (some u))) (d := .list (encT (blkT (some u)))) rfl (blkT_ev u (by omega) _ rfl) (.inl rfl) (by omega)
    have en : (tB1 (d1 notND (gS 6))) [.sh x0, .sh x1, .ow (.list (encT acc)), .sh (encN m), .sh (.int (p : Nat)), .sh (enc t), .sh (enc u), s7] = .ok true := by simp [isN_enc]
    unfold ltBody
    rw [ev_seq, es, rsb_nx, ev_if, en, toS_ok, if_pos rfl, ev_seq, e7, rsb_nx, ev_seq, ee, rsb_nx]
    rw [← encT_app]
    simp only [List.set_cons_succ, List.set_cons_zero]
    have e3 := shOf_ev u [.sh x0, .sh x1, .ow (.list (encT (acc ++ blkT (some u)))), .sh (encN m), .sh (.int (p : Nat)), .sh (enc t), .sh (enc u), .sh (.int (acc.length : Nat))] rfl
    cases m with
    | some y => by_cases hp : n ≤ (p : Int) <;> simp [h0, hp, encN]
    | none =>
      by_cases hp : n ≤ (p : Int)
      · have et : (tAnd2 (tB1 (d2 geD (gS 4) (d2 ixD (gS 0) (kC (.int 1))))) (tB1 (d1 isND (gS 3)))) [.sh x0, .sh x1, .ow (.list (encT (acc ++ blkT (some u)))), .sh (encN none), .sh (.int (p : Nat)), .sh (enc t), .sh (enc u), .sh (.int (acc.length : Nat))] = .ok true := by simp [h0, hp, encN]
        rw [ev_if, et, toS_ok, if_pos rfl, ev_set, ev_d2, e3]
        simp [hp, encN]
      · have et : (tAnd2 (tB1 (d2 geD (gS 4) (d2 ixD (gS 0) (kC (.int 1))))) (tB1 (d1 isND (gS 3)))) [.sh x0, .sh x1, .ow (.list (encT (acc ++ blkT (some u)))), .sh (encN none), .sh (.int (p : Nat)), .sh (enc t), .sh (enc u), .sh (.int (acc.length : Nat))] = .ok false := by simp [h0, hp, encN]
        rw [ev_if, et, toS_ok, if_neg Bool.false_ne_true]
        simp [hp, encN]
theorem tabsP_take {os : Os} {j : Nat} : (tabsP (os.take j)).length ≤ (tabsP os).length := by
  have : os = os.take j ++ os.drop j := (List.take_append_drop _ _).symm
  conv => rhs; rw [this]
  rw [tabsP_app, List.length_append]; omega
theorem s_ltabs (k : Nat) (x : Str → Bool) (nm : PyData) (n : Int) (cs : Cs) (ih : ∀ w t, (w, t) ∈ cs → den k I_left_of [.sh (enc t), .sh nm] = .ok (encO (lf x t))) (hz : (tabsP (lfC x cs)).length ≤ 1000000) : den (k + 1) I__left_tabs [.sh (enc (.nd .tabs n cs)), .sh nm] = .ok (encO (finTL n (lfC x cs))) := by
  have e0 : den (k + 1) I__left_tabs [.sh (enc (.nd .tabs n cs)), .sh nm] = outR (b_15 (den k) [.sh (enc (.nd .tabs n cs)), .sh nm, .no, .no, .no, .no, .no, .no]) := den__left_tabs _ _
  rw [e0]
  have ex1 : ixD (enc (.nd .tabs n cs)) (.int 1) = .ok (.int n) := by rw [enc_tabs]; simp
  have ex2 : ixD (enc (.nd .tabs n cs)) (.int 2) = .ok (.tuple (encT cs)) := by rw [enc_tabs]; simp
  obtain ⟨δ', e, s4, s5, s6, s7, rfl⟩ := goS_inv0 (b := bT 2 (bCons (bN 4) (bCons (bN 5) bNil))) (body := ltBody k) (ds := pairUp 0 (encT cs)) (δ := [.sh (enc (.nd .tabs n cs)), .sh nm, .ow (.list []), .sh .none, .no, .no, .no, .no])
    (fun j δ => ∃ s4 s5 s6 s7, δ = [.sh (enc (.nd .tabs n cs)), .sh nm, .ow (.list (encT (tabsP ((lfC x cs).take j)))), .sh (encN (numL n 0 0 ((lfC x cs).take j))), s4, s5, s6, s7]) ⟨.no, .no, .no, .no, by simp [tabsP, encT, numL, encN]⟩ (by
    rintro j d δ hj ⟨s4, s5, s6, s7, rfl⟩
    rw [pairUp_get, encT_map, List.getElem?_map] at hj
    obtain ⟨d', hj', rfl⟩ := Option.map_eq_some_iff.mp hj
    obtain ⟨⟨w, t⟩, ht, rfl⟩ := Option.map_eq_some_iff.mp hj'
    have el := lfC_at x ht
    have et : (lfC x cs).take (j + 1) = (lfC x cs).take j ++ [(w, lf x t)] := by rw [List.take_add_one, el]; rfl
    have l1 := tabsP_take (os := lfC x cs) (j := j + 1)
    have e2 : tabsP ((lfC x cs).take (j + 1)) = tabsP ((lfC x cs).take j) ++ blkT (lf x t) := by rw [et, tabsP_app]; simp [tabsP]
    rw [e2, List.length_append] at l1
    have hlt : j < cs.length := (List.getElem?_eq_some_iff.mp ht).1
    have lt : ((lfC x cs).take j).length = j := by rw [List.length_take, lfC_len]; omega
    obtain ⟨s6', s7', eb⟩ := ltBody_ev k (enc (.nd .tabs n cs)) nm n ex1 (tabsP ((lfC x cs).take j)) (numL n 0 0 ((lfC x cs).take j)) j t (lf x t) s6 s7 (ih w t (List.mem_of_getElem? ht)) (by omega)
    refine ⟨[.sh (enc (.nd .tabs n cs)), .sh nm, .ow (.list (encT (tabsP ((lfC x cs).take j)))), .sh (encN (numL n 0 0 ((lfC x cs).take j))), .sh (.int (j : Nat)), .sh (enc t), s6, s7], _, by simp, .inl eb, .sh (.int (j : Nat)), .sh (enc t), s6', s7', ?_⟩
    rw [e2, et, numL_snoc, lt]
    simp)
  have eb : b_15 (den k) = (seqS (setO 2 (dA (argsF []) lstD)) (seqS (setS 3 (kC .none)) (seqS (forS (dAL (argsF [(d2 ixD (gS 0) (kC (.int 2)))]) enumD) (bT 2 (bCons (bN 4) (bCons (bN 5) bNil))) (ltBody k)) (seqS (ifS (tB1 (d2 eqD (dA (argsF [(gB 2)]) lenD) (kC (.int 0)))) (retS (kC .none)) nxS) (retS (dA (argsF [(kC (.str "tabs")), (dIf (tB1 (d1 isND (gS 3))) (d2 subD (dA (argsF [(gB 2)]) lenD) (kC (.int 1))) (gS 3)), (dA (argsF [(gB 2)]) tupOfD)]) tupD)))))) := rfl
  have lt := encT_len (tabsP (lfC x cs))
  have l3 : (pairUp 0 (encT cs)).length = (lfC x cs).length := by rw [pairUp_len, encT_len, lfC_len]
  rw [eb]
  simp only [ev_seq, ev_setO, ev_dA, ev_args0, bnd_ok, ev_lst0, toS_ok, rsb_nx, List.set_cons_succ, List.set_cons_zero, ev_set, ev_k, ev_for, ev_dAL, ev_args, ev_d2, gS_zero, ex2, ev_enumT]
  rw [e, l3, List.take_length]
  unfold finTL
  simp only [rsb_nx, ev_seq, ev_if, ev_tB1, ev_d2, ev_dA, ev_args, ev_args0, gB_succ, gB_zero', bnd_ok, ev_lenL, lt, ev_k, ev_eqI, ev_asB, toS_ok]
  by_cases hl : (tabsP (lfC x cs)).length = 0
  · have hl' : (((tabsP (lfC x cs)).length : Nat) : Int) = 0 := by omega
    rw [if_pos hl, decide_eq_true hl', if_pos rfl]
    simp [encO]
  · have hl' : ¬ (((tabsP (lfC x cs)).length : Nat) : Int) = 0 := by omega
    rw [if_neg hl, decide_eq_false hl', if_neg Bool.false_ne_true]
    simp only [ev_nx, rsb_nx]
    cases hn : numL n 0 0 (lfC x cs) with
    | none => simp [encN, encO, enc_tabs, lt]
    | some x => simp [encN, encO, enc_tabs, lt]
end KL
end
section
open PySem PySem.Spec PyProof.Rows L2 VS
namespace KL
theorem g_len : ∀ {cs : Cs} {k : Kd}, gC k cs → cs.length ≤ (nmC cs).length
  | [], _, _ => by simp
  | (w, t) :: r, k, h => by
    rw [gC] at h
    have a := g_nm t h.1
    have b := g_len h.2.2.2
    simp [nmC]; omega
theorem parts_le (x : Str → Bool) {k : Kd} (hk : k ≠ .tabs) {cs : Cs} (h : gC k cs) : (partsL k (lfC x cs)).length ≤ zC cs := by
  have g := g_lfC x k cs h
  have a := g_len (g_partsL hk _ g.1 g.2)
  rw [nm_partsL, nm_lfC] at a
  have b := List.length_filter_le (fun s => !x s) (nmC cs)
  have c := nmC_z cs
  omega
theorem tabs_le (x : Str → Bool) {cs : Cs} (h : gC .tabs cs) : (tabsP (lfC x cs)).length ≤ zC cs := by
  have g := g_lfC x .tabs cs h
  have a := g_len (g_tabsP _ g.1)
  rw [nm_tabsP, nm_lfC] at a
  have b := List.length_filter_le (fun s => !x s) (nmC cs)
  have c := nmC_z cs
  omega
def loBody (k : Nat) : Dl → RS := (seqS (setS 5 (dA (argsF [(gS 4), (gS 1)]) (cD (den k I_left_of)))) (ifS (tB1 (d1 notND (gS 5))) (appS 2 (dA (argsF [(gS 3), (gS 5)]) tupD)) nxS))
section
variable (x : Str → Bool) (nm : PyData) (hx : ∀ s, inD (.str s) nm = .ok (.bool (x s)))
include hx
theorem s_left : ∀ (k : Nat) (t : T), 2 * hT t + 2 ≤ k → gT t → zT t ≤ 1000000 → den k I_left_of [.sh (enc t), .sh nm] = .ok (encO (lf x t))
  | 0, t, h, _, _ => by omega
  | k + 1, .win s, h, g, hz => by
    have e0 : den (k + 1) I_left_of [.sh (enc (.win s)), .sh nm] = outR (b_16 (den k) [.sh (enc (.win s)), .sh nm, .no, .no, .no, .no]) := den_left_of _ _
    rw [e0, enc_win, lf]
    by_cases hs : x s = true
    · simp [b_16, hx, hs, encO]
    · simp [b_16, hx, hs, encO, enc_win]
  | k + 1, .nd kd n cs, h, g, hz => by
    have hs : sizeLine = 16777216 := sz_line
    have h' : 2 * hC cs + 3 ≤ k := by simp [hT] at h; omega
    have hz' : zC cs + 1 ≤ 1000000 := by simpa [zT] using hz
    have e0 : den (k + 1) I_left_of [.sh (enc (.nd kd n cs)), .sh nm] = outR (b_16 (den k) [.sh (enc (.nd kd n cs)), .sh nm, .no, .no, .no, .no]) := den_left_of _ _
    rw [e0]
    rw [gT] at g
    obtain ⟨k', rfl⟩ : ∃ k', k = k' + 1 := ⟨k - 1, by omega⟩
    have ih : ∀ j, (j = k' + 1 ∨ j = k') → ∀ w t, (w, t) ∈ cs → den j I_left_of [.sh (enc t), .sh nm] = .ok (encO (lf x t)) := fun j hj w t m => by
      have a := hC_mem m
      rcases hj with ej | ej
      · rw [ej]; exact s_left (k' + 1) t (by omega) (gC_mem g.1 m).1 (by omega)
      · rw [ej]; exact s_left k' t (by omega) (gC_mem g.1 m).1 (by omega)
    have nw : ¬ kdS kd = "win" := nd_ne_win kd
    have et : (tB1 (d2 eqD (d2 ixD (gS 0) (kC (.int 0))) (kC (.str "win")))) [.sh (enc (.nd kd n cs)), .sh nm, .no, .no, .no, .no] = .ok false := by
      simp [ix0_enc, wd, nw]
    have eb : b_16 (den (k' + 1)) = (seqS (ifS (tB1 (d2 eqD (d2 ixD (gS 0) (kC (.int 0))) (kC (.str "win")))) (retS (dIf (tB1 (d2 inD (d2 ixD (gS 0) (kC (.int 1))) (gS 1))) (kC .none) (gS 0))) nxS) (seqS (ifS (tB1 (d2 eqD (d2 ixD (gS 0) (kC (.int 0))) (kC (.str "tabs")))) (retS (dA (argsF [(gS 0), (gS 1)]) (cD (den (k' + 1) I__left_tabs)))) nxS) (seqS (setO 2 (dA (argsF []) lstD)) (seqS (forS (d1L itemsD (d2 ixD (gS 0) (kC (.int 1)))) (bT 2 (bCons (bN 3) (bCons (bN 4) bNil))) (loBody (k' + 1))) (fun δ => (retS (dA (argsF [(d2 ixD (gS 0) (kC (.int 0))), (gS 2)]) (cD (den (k' + 1) I_gathered)))) (frzD 2 δ)))))) := rfl
    rw [eb, ev_seq, ev_if, et, toS_ok, if_neg Bool.false_ne_true, ev_nx, rsb_nx, ev_seq, ev_if]
    by_cases ek : kd = .tabs
    · subst ek
      have et2 : (tB1 (d2 eqD (d2 ixD (gS 0) (kC (.int 0))) (kC (.str "tabs")))) [.sh (enc (.nd .tabs n cs)), .sh nm, .no, .no, .no, .no] = .ok true := by simp [ix0_enc, wd, kdS]
      have tl := tabs_le x g.1
      have e3 := s_ltabs k' x nm n cs (ih k' (.inr rfl)) (by omega)
      rw [et2, toS_ok, if_pos rfl]
      simp [e3, lf, finL]
    · have nt : ¬ kdS kd = "tabs" := fun z => ek (kdS_inj (b := .tabs) z)
      have et2 : (tB1 (d2 eqD (d2 ixD (gS 0) (kC (.int 0))) (kC (.str "tabs")))) [.sh (enc (.nd kd n cs)), .sh nm, .no, .no, .no, .no] = .ok false := by simp [ix0_enc, wd, nt]
      have pl := parts_le x ek g.1
      have l2 := len_zC cs
      have sl : (somes (lfC x cs)).length ≤ cs.length := by have := somes_len (lfC x cs); rw [lfC_len] at this; exact this
      obtain ⟨δ', e, s3, s4, s5, rfl⟩ := goS_inv0 (b := bT 2 (bCons (bN 3) (bCons (bN 4) bNil))) (body := loBody (k' + 1)) (ds := encP cs) (δ := [.sh (enc (.nd kd n cs)), .sh nm, .ow (.list []), .no, .no, .no])
        (fun j δ => ∃ s3 s4 s5, δ = [.sh (enc (.nd kd n cs)), .sh nm, .ow (.list (encP (somes ((lfC x cs).take j)))), s3, s4, s5]) ⟨.no, .no, .no, by simp [somes, encP]⟩ (by
        rintro j d δ hj ⟨s3, s4, s5, rfl⟩
        rw [encP_map, List.getElem?_map] at hj
        obtain ⟨⟨w, t⟩, ht, rfl⟩ := Option.map_eq_some_iff.mp hj
        have el := lfC_at x ht
        have et : (lfC x cs).take (j + 1) = (lfC x cs).take j ++ [(w, lf x t)] := by rw [List.take_add_one, el]; rfl
        have e1 := ih (k' + 1) (.inl rfl) w t (List.mem_of_getElem? ht)
        have hlt : j < cs.length := (List.getElem?_eq_some_iff.mp ht).1
        have l1 : (somes ((lfC x cs).take j)).length ≤ j := by have := somes_len ((lfC x cs).take j); rw [List.length_take] at this; omega
        have le := encP_len (somes ((lfC x cs).take j))
        cases ho : lf x t with
        | none =>
          rw [ho] at e1 et
          refine ⟨[.sh (enc (.nd kd n cs)), .sh nm, .ow (.list (encP (somes ((lfC x cs).take j)))), .sh (.int w), .sh (enc t), s5], _, by simp, .inl (by simp [loBody, e1, encO]; rfl), .sh (.int w), .sh (enc t), .sh .none, ?_⟩
          rw [et, somes_app]
          simp [somes]
        | some u =>
          rw [ho] at e1 et
          have ea := ev_app (i := 2) (f := (dA (argsF [(gS 3), (gS 5)]) tupD)) (δ := [.sh (enc (.nd kd n cs)), .sh nm, .ow (.list (encP (somes ((lfC x cs).take j)))), .sh (.int w), .sh (enc t), .sh (enc u)]) (xs := encP (somes ((lfC x cs).take j))) (d := .tuple [.int w, enc u]) rfl (by simp) (by omega)
          refine ⟨[.sh (enc (.nd kd n cs)), .sh nm, .ow (.list (encP (somes ((lfC x cs).take j)))), .sh (.int w), .sh (enc t), s5], _, by simp, .inl (by simp [loBody, e1, encO, isN_enc]; rw [ea]), .sh (.int w), .sh (enc t), .sh (enc u), ?_⟩
          rw [et, somes_app, encP_app]
          simp [somes, encP])
      rw [et2, toS_ok, if_neg Bool.false_ne_true, ev_nx, rsb_nx]
      have lp := encP_len cs
      simp only [ev_seq, ev_setO, ev_dA, ev_args0, bnd_ok, ev_lst0, toS_ok, rsb_nx, List.set_cons_succ, List.set_cons_zero, ev_for, ev_d1L, ev_d2, gS_succ, gS_zero, ev_k, ix1_row ek, ev_items_t]
      rw [e, lp, show cs.length = (lfC x cs).length from (lfC_len x cs).symm, List.take_length]
      have eg := s_gathered k' kd ek (somes (lfC x cs)) (by rw [flatL_somes]; omega) (by omega)
      have ef : finL kd n (lfC x cs) = finP kd (partsL kd (lfC x cs)) := by
        cases kd with
        | row => rfl
        | col => rfl
        | tabs => exact (ek rfl).elim
      rw [flatL_somes] at eg
      simp [frzD, ix0_enc, wd, eg, lf, ef]
end
theorem s_without (xs : List Str) (ha : ascS xs = true) (hl : xs.length ≤ 1000) {t : T} (G : GL t) (k : Nat) (hk : 30 ≤ k) : den k I_without [.sh (enc t), .sh (.tuple (xs.map .str))] = .ok (encO (lf (fun s => decide (s ∈ xs)) t)) := by
  have := G.h
  have := G.z
  obtain ⟨k', rfl⟩ : ∃ k', k = k' + 1 := ⟨k - 1, by omega⟩
  rw [den_without]
  have e := s_chk G k' (by omega)
  obtain ⟨k2, rfl⟩ : ∃ k2, k' = k2 + 2 := ⟨k' - 2, by omega⟩
  have e2 := s_check_names k2 xs (by omega) ha
  have e3 := s_left (fun s => decide (s ∈ xs)) (.tuple (xs.map .str)) (fun s => in_strT s xs) (k2 + 2) t (by omega) G.g (by omega)
  simp [b_18, e, e2, e3]
end KL
end
section
open PySem PySem.Spec PyProof.Rows L2 VS
namespace KL
/-! ### the law's own taking away -/
def encOs (os : Os) : List PyData := os.map fun p => encO p.2
/-- the places of what is left, with the numbers that are shown of them -/
def marks : Nat → Nat → Os → List (Nat × Int)
  | _, _, [] => []
  | p, f, (_, o) :: r => match o with
    | none => marks (p + 1) f r
    | some t => (p, (f : Int) + shOf (some t)) :: marks (p + 1) (f + (blkT (some t)).length) r
def mark1 (p f : Nat) : Option T → List (Nat × Int)
  | none => []
  | some t => [(p, (f : Int) + shOf (some t))]
theorem marks_snoc (w : Int) (o : Option T) : ∀ (os : Os) (p f : Nat), marks p f (os ++ [(w, o)]) = marks p f os ++ mark1 (p + os.length) (f + (tabsP os).length) o
  | [], p, f => by
    cases o with
    | none => simp [marks, tabsP, mark1]
    | some t => simp [marks, tabsP, mark1]
  | (w', none) :: r, p, f => by
    have := marks_snoc w o r (p + 1) f
    rw [List.cons_append]
    unfold marks
    simp only
    rw [this]
    cases o with
    | none => rfl
    | some t =>
      simp only [mark1, tabsP, blkT, List.nil_append, List.length_cons]
      rw [show p + 1 + r.length = p + (r.length + 1) by omega]
  | (w', some u) :: r, p, f => by
    have := marks_snoc w o r (p + 1) (f + (blkT (some u)).length)
    rw [List.cons_append]
    unfold marks
    simp only
    rw [this]
    cases o with
    | none => simp [mark1]
    | some t =>
      simp only [mark1, tabsP, List.length_append, List.length_cons, List.cons_append]
      rw [show p + 1 + r.length = p + (r.length + 1) by omega, show f + (blkT (some u)).length + (tabsP r).length = f + ((blkT (some u)).length + (tabsP r).length) by omega]
theorem marks_len : ∀ (os : Os) (p f : Nat), (marks p f os).length ≤ os.length
  | [], p, f => by simp [marks]
  | (w, none) :: r, p, f => by have := marks_len r (p + 1) f; simp [marks]; omega
  | (w, some t) :: r, p, f => by have := marks_len r (p + 1) (f + (blkT (some t)).length); simp [marks]; omega
theorem marks_num (n : Int) : ∀ (os : Os) (p f : Nat), numL n p f os = (((marks p f os).filter fun q => decide (n ≤ (q.1 : Int))).head?).map (·.2)
  | [], p, f => by simp [marks, numL]
  | (w, none) :: r, p, f => by
    have := marks_num n r (p + 1) f
    simpa [marks, numL] using this
  | (w, some t) :: r, p, f => by
    have := marks_num n r (p + 1) (f + (blkT (some t)).length)
    unfold marks numL
    simp only
    by_cases h : n ≤ (p : Int)
    · simp [h]
    · simp [h, this]
def encM (m : List (Nat × Int)) : List PyData := m.map fun q => .tuple [.int q.1, .int q.2]
def xT1 : Dl → RS := (setS 6 (dIf (tB1 (d2 eqD (d2 ixD (d2 ixD (gS 2) (gS 5)) (kC (.int 0))) (kC (.str "tabs")))) (dA (argsF [(d2 ixD (d2 ixD (gS 2) (gS 5)) (kC (.int 2)))]) lstOfD) (dA (argsF [(d2 ixD (gS 2) (gS 5))]) lstD)))
def xT2 : Dl → RS := (setS 7 (d2 addD (dA (argsF [(gS 3)]) lenD) (dIf (tB1 (d2 eqD (d2 ixD (d2 ixD (gS 2) (gS 5)) (kC (.int 0))) (kC (.str "tabs")))) (d2 ixD (d2 ixD (gS 2) (gS 5)) (kC (.int 1))) (kC (.int 0)))))
def xT : Dl → RS := (ifS (tB1 (d1 notND (d2 ixD (gS 2) (gS 5)))) (seqS xT1 (seqS xT2 (parS [3, 4] (argsM [(false, (d2 addD (gS 3) (gS 6))), (false, (d2 addD (gS 4) (dA (argsF [(dA (argsF [(gS 5), (gS 7)]) tupD)]) lstD)))])))) nxS)
theorem xT_ev (x0 x1 x8 x9 x10 x11 x12 : Sl) (own : List PyData) (p : Nat) (o : Option T) (ho : own[p]? = some (encO o)) (acc : Cs) (m : List (Nat × Int)) (s6 s7 : Sl) (hz : acc.length + (blkT o).length ≤ 1000000) (hm : m.length ≤ 1000000) :
    ∃ s6' s7', xT [x0, x1, .sh (.list own), .sh (.list (encT acc)), .sh (.list (encM m)), .sh (.int (p : Nat)), s6, s7, x8, x9, x10, x11, x12] = .nx [x0, x1, .sh (.list own), .sh (.list (encT (acc ++ blkT o))), .sh (.list (encM (m ++ mark1 p acc.length o))), .sh (.int (p : Nat)), s6', s7', x8, x9, x10, x11, x12] := by
  have hs : sizeLine = 16777216 := sz_line
  have la := encT_len acc
  have a1 := at_nat ho
  match o with
  | none => exact ⟨s6, s7, by simp [xT, a1, encO, blkT, encM, mark1]⟩
  | some u =>
    refine ⟨.sh (.list (encT (blkT (some u)))), .sh (.int ((acc.length : Int) + shOf (some u))), ?_⟩
    have lb := encT_len (blkT (some u))
    have e1 : xT1 [x0, x1, .sh (.list own), .sh (.list (encT acc)), .sh (.list (encM m)), .sh (.int (p : Nat)), s6, s7, x8, x9, x10, x11, x12] = .nx [x0, x1, .sh (.list own), .sh (.list (encT acc)), .sh (.list (encM m)), .sh (.int (p : Nat)), .sh (.list (encT (blkT (some u)))), s7, x8, x9, x10, x11, x12] := by
      unfold xT1
      cases u with
      | win s => simp (decide := true) [a1, encO, ix0_enc, wd, blkT, encT]
      | nd k n cs =>
        cases k with
        | row => simp (decide := true) [a1, encO, ix0_enc, wd, blkT, kdS, encT]
        | col => simp (decide := true) [a1, encO, ix0_enc, wd, blkT, kdS, encT]
        | tabs => simp [a1, encO, ix0_enc, wd, blkT, kdS]; rw [enc_tabs]; simp
    have e2 : xT2 [x0, x1, .sh (.list own), .sh (.list (encT acc)), .sh (.list (encM m)), .sh (.int (p : Nat)), .sh (.list (encT (blkT (some u)))), s7, x8, x9, x10, x11, x12] = .nx [x0, x1, .sh (.list own), .sh (.list (encT acc)), .sh (.list (encM m)), .sh (.int (p : Nat)), .sh (.list (encT (blkT (some u)))), .sh (.int ((acc.length : Int) + shOf (some u))), x8, x9, x10, x11, x12] := by
      unfold xT2
      cases u with
      | win s => simp (decide := true) [a1, encO, ix0_enc, wd, shOf, la]
      | nd k n cs =>
        cases k with
        | row => simp (decide := true) [a1, encO, ix0_enc, wd, shOf, kdS, la]
        | col => simp (decide := true) [a1, encO, ix0_enc, wd, shOf, kdS, la]
        | tabs => simp [a1, encO, ix0_enc, wd, shOf, kdS, la]; rw [enc_tabs]; simp
    have en : (tB1 (d1 notND (d2 ixD (gS 2) (gS 5)))) [x0, x1, .sh (.list own), .sh (.list (encT acc)), .sh (.list (encM m)), .sh (.int (p : Nat)), s6, s7, x8, x9, x10, x11, x12] = .ok true := by simp [a1, encO, isN_enc]
    have lm : (encM m).length = m.length := by simp [encM]
    unfold xT
    rw [ev_if, en, toS_ok, if_pos rfl, ev_seq, e1, rsb_nx, ev_seq, e2, rsb_nx]
    have f1 : addD (.list (encT acc)) (.list (encT (blkT (some u)))) = _ := ev_addL (by omega)
    have f2 : addD (.list (encM m)) (.list [.tuple [.int (p : Nat), .int ((acc.length : Int) + shOf (some u))]]) = _ := ev_addL (by simp; omega)
    simp only [ev_par, ev_argsMf, ev_argsM0, ev_d2, gS_succ, gS_zero, bnd_ok, f1, ev_dA, ev_args, ev_args0, ev_tup2, ev_lst1, f2, toS_ok, List.length_cons, List.length_nil, if_true, ev_bindM, ev_bindM0, List.set_cons_succ, List.set_cons_zero]
    rw [encT_app]
    simp [encM, mark1]
theorem xT_eq (c : Nat → List Sl → Re PyData) : b_28 c = (seqS (ifS (tB1 (d2 eqD (d2 ixD (gS 0) (kC (.int 0))) (kC (.str "win")))) (retS (dIf (tB1 (d2 inD (d2 ixD (gS 0) (kC (.int 1))) (gS 1))) (kC .none) (gS 0))) nxS) (seqS (setS 2 (lcD ([11]) (d1L itemsD (dA (argsF [(gS 0)]) (cD (c I__law_inner)))) (bN 11) yesT (dA (argsF [(gS 11), (gS 1)]) (cD (c I__law_without))))) (seqS (ifS (tB1 (d2 eqD (d2 ixD (gS 0) (kC (.int 0))) (kC (.str "tabs")))) (seqS (parS [3, 4] (argsM [(false, (dA (argsF []) lstD)), (false, (dA (argsF []) lstD))])) (seqS (forS (dAL (argsF [(dA (argsF [(gS 2)]) lenD)]) rng1D) (bN 5) xT) (seqS (setS 8 (lcD ([5, 7]) (d1L itemsD (gS 4)) (bT 2 (bCons (bN 5) (bCons (bN 7) bNil))) (tB1 (d2 geD (gS 5) (d2 ixD (gS 0) (kC (.int 1))))) (gS 7))) (retS (dIf (tB1 (d2 gtD (dA (argsF [(gS 3)]) lenD) (kC (.int 0)))) (dA (argsF [(kC (.str "tabs")), (dIf (tB1 (d2 gtD (dA (argsF [(gS 8)]) lenD) (kC (.int 0)))) (d2 ixD (gS 8) (kC (.int 0))) (d2 subD (dA (argsF [(gS 3)]) lenD) (kC (.int 1)))), (dA (argsF [(gS 3)]) tupAnyD)]) tupD) (kC .none)))))) nxS)
  (seqS (setS 9 (dA (argsF []) lstD)) (seqS (forS (dAL (argsF [(dA (argsF [(gS 2)]) lenD)]) rng1D) (bN 5) (ifS (tB1 (d1 notND (d2 ixD (gS 2) (gS 5)))) (seqS (setS 10 (d2 ixD (d2 ixD (d2 ixD (gS 0) (kC (.int 1))) (gS 5)) (kC (.int 0)))) (setS 9 (d2 addD (gS 9) (dIf (tB1 (d2 eqD (d2 ixD (d2 ixD (gS 2) (gS 5)) (kC (.int 0))) (d2 ixD (gS 0) (kC (.int 0))))) (lcD ([12]) (d1L itemsD (d2 ixD (d2 ixD (gS 2) (gS 5)) (kC (.int 1)))) (bN 12) yesT (dA (argsF [(gS 10), (d2 ixD (gS 12) (kC (.int 1)))]) tupD)) (dA (argsF [(dA (argsF [(gS 10), (d2 ixD (gS 2) (gS 5))]) tupD)]) lstD))))) nxS)) (retS (dIf (tB1 (d2 eqD (dA (argsF [(gS 9)]) lenD) (kC (.int 0)))) (kC .none) (dIf (tB1 (d2 eqD (dA (argsF [(gS 9)]) lenD) (kC (.int 1)))) (d2 ixD (d2 ixD (gS 9) (kC (.int 0))) (kC (.int 1))) (dA (argsF [(d2 ixD (gS 0) (kC (.int 0))), (dA (argsF [(gS 9)]) tupAnyD)]) tupD))))))))) := rfl
def xP : Dl → RS := (ifS (tB1 (d1 notND (d2 ixD (gS 2) (gS 5)))) (seqS (setS 10 (d2 ixD (d2 ixD (d2 ixD (gS 0) (kC (.int 1))) (gS 5)) (kC (.int 0)))) (setS 9 (d2 addD (gS 9) (dIf (tB1 (d2 eqD (d2 ixD (d2 ixD (gS 2) (gS 5)) (kC (.int 0))) (d2 ixD (gS 0) (kC (.int 0))))) (lcD ([12]) (d1L itemsD (d2 ixD (d2 ixD (gS 2) (gS 5)) (kC (.int 1)))) (bN 12) yesT (dA (argsF [(gS 10), (d2 ixD (gS 12) (kC (.int 1)))]) tupD)) (dA (argsF [(dA (argsF [(gS 10), (d2 ixD (gS 2) (gS 5))]) tupD)]) lstD))))) nxS)
theorem xP_ev (kd : Kd) (hk : kd ≠ .tabs) (n : Int) (cs : Cs) (x1 x3 x4 x6 x7 x8 x11 : Sl) (own : List PyData) (p : Nat) (w : Int) (t : T) (hp : cs[p]? = some (w, t)) (o : Option T) (ho : own[p]? = some (encO o)) (acc : Cs) (s10 : Sl) (hz : acc.length + (blkL kd w o).length ≤ 1000000) :
    ∃ s10', xP [.sh (enc (.nd kd n cs)), x1, .sh (.list own), x3, x4, .sh (.int (p : Nat)), x6, x7, x8, .sh (.list (encP acc)), s10, x11, .no] = .nx [.sh (enc (.nd kd n cs)), x1, .sh (.list own), x3, x4, .sh (.int (p : Nat)), x6, x7, x8, .sh (.list (encP (acc ++ blkL kd w o))), s10', x11, .no] := by
  have hs : sizeLine = 16777216 := sz_line
  have la := encP_len acc
  have a1 := at_nat ho
  have a2 : atI (encP cs) (p : Int) = some (.tuple [.int w, enc t]) := at_nat (by rw [encP_map, List.getElem?_map, hp]; rfl)
  match o with
  | none => exact ⟨s10, by simp [xP, a1, encO, blkL]⟩
  | some u =>
    refine ⟨.sh (.int w), ?_⟩
    have lb := encP_len (blkL kd w (some u))
    have en : (tB1 (d1 notND (d2 ixD (gS 2) (gS 5)))) [.sh (enc (.nd kd n cs)), x1, .sh (.list own), x3, x4, .sh (.int (p : Nat)), x6, x7, x8, .sh (.list (encP acc)), s10, x11, .no] = .ok true := by simp [a1, encO, isN_enc]
    have e1 : (setS 10 (d2 ixD (d2 ixD (d2 ixD (gS 0) (kC (.int 1))) (gS 5)) (kC (.int 0)))) [.sh (enc (.nd kd n cs)), x1, .sh (.list own), x3, x4, .sh (.int (p : Nat)), x6, x7, x8, .sh (.list (encP acc)), s10, x11, .no] = .nx [.sh (enc (.nd kd n cs)), x1, .sh (.list own), x3, x4, .sh (.int (p : Nat)), x6, x7, x8, .sh (.list (encP acc)), .sh (.int w), x11, .no] := by simp [ix1_row hk, a2]
    have e2 : (dIf (tB1 (d2 eqD (d2 ixD (d2 ixD (gS 2) (gS 5)) (kC (.int 0))) (d2 ixD (gS 0) (kC (.int 0))))) (lcD ([12]) (d1L itemsD (d2 ixD (d2 ixD (gS 2) (gS 5)) (kC (.int 1)))) (bN 12) yesT (dA (argsF [(gS 10), (d2 ixD (gS 12) (kC (.int 1)))]) tupD)) (dA (argsF [(dA (argsF [(gS 10), (d2 ixD (gS 2) (gS 5))]) tupD)]) lstD)) [.sh (enc (.nd kd n cs)), x1, .sh (.list own), x3, x4, .sh (.int (p : Nat)), x6, x7, x8, .sh (.list (encP acc)), .sh (.int w), x11, .no] = .ok (.list (encP (blkL kd w (some u)))) := by
      cases u with
      | win s =>
        have e1 : ¬ wd (.win s) = kdS kd := fun z => nd_ne_win kd z.symm
        have e1' : ¬ (Str.ofString "win") = kdS kd := fun z => nd_ne_win kd z.symm
        simp [a1, encO, ix0_enc, wd, e1', blkL, encP]
      | nd k' n' cs' =>
        by_cases e : k' = kd
        · subst e
          simp only [blkL, if_true, List.length_map] at hz lb
          have lc := encP_len cs'
          have e5 : lcL (bN 12) yesT (dA (argsF [(gS 10), (d2 ixD (gS 12) (kC (.int 1)))]) tupD) [.sh (enc (.nd k' n cs)), x1, .sh (.list own), x3, x4, .sh (.int (p : Nat)), x6, x7, x8, .sh (.list (encP acc)), .sh (.int w), x11, .no] (encP cs') = .ok (encP (cs'.map fun p => (w, p.2))) := by
            rw [encP_map cs', encP_map (cs'.map _), List.map_map]
            exact lcL_all _ _ _ fun a _ => ⟨_, rfl, by simp⟩
          simp only [ev_dIf, ev_tB1, ev_d2, gS_succ, gS_zero, bnd_ok, ev_k, ix_l, a1, ofO_some, encO, ix0_enc, wd, ev_eqS, ev_asB, decide_true, if_true, ev_lc, ev_d1L, ix1_row hk, ev_items_t]
          rw [if_pos (by omega)]
          simp only [ev_wipe, ev_wipe0, List.set_cons_succ, List.set_cons_zero, e5, bnd_ok, blkL, if_true]
        · have e1 : ¬ kdS k' = kdS kd := fun z => e (kdS_inj z)
          simp [a1, encO, ix0_enc, wd, e1, blkL, e, encP]
    unfold xP
    rw [ev_if, en, toS_ok, if_pos rfl, ev_seq, e1, rsb_nx, ev_set, ev_d2, e2]
    have f1 : addD (.list (encP acc)) (.list (encP (blkL kd w (some u)))) = _ := ev_addL (by omega)
    simp [f1, encP_app]
end KL
end
section
open PySem PySem.Spec PyProof.Rows L2 VS
namespace KL
theorem encOs_at (x : Str → Bool) {cs : Cs} {j : Nat} {w : Int} {t : T} (h : cs[j]? = some (w, t)) : (encOs (lfC x cs))[j]? = some (encO (lf x t)) := by
  unfold encOs; rw [List.getElem?_map, lfC_at x h]; rfl
theorem encOs_len (os : Os) : (encOs os).length = os.length := by simp [encOs]
theorem partsL_app (k : Kd) : ∀ a b : Os, partsL k (a ++ b) = partsL k a ++ partsL k b
  | [], b => by simp [partsL]
  | (w, o) :: r, b => by simp [partsL, partsL_app k r b]
theorem partsL_take {k : Kd} {os : Os} {j : Nat} : (partsL k (os.take j)).length ≤ (partsL k os).length := by
  have : os = os.take j ++ os.drop j := (List.take_append_drop _ _).symm
  conv => rhs; rw [this]
  rw [partsL_app, List.length_append]; omega
section
variable (x : Str → Bool) (nm : PyData) (hx : ∀ s, inD (.str s) nm = .ok (.bool (x s)))
include hx
theorem s_lwithout : ∀ (k : Nat) (t : T), hT t + 2 ≤ k → gT t → zT t ≤ 100000 → den k I__law_without [.sh (enc t), .sh nm] = .ok (encO (lf x t))
  | 0, t, h, _, _ => by omega
  | k + 1, .win s, h, g, hz => by
    have e0 : den (k + 1) I__law_without [.sh (enc (.win s)), .sh nm] = outR (b_28 (den k) [.sh (enc (.win s)), .sh nm, .no, .no, .no, .no, .no, .no, .no, .no, .no, .no, .no]) := den__law_without _ _
    rw [e0, enc_win, lf, xT_eq]
    by_cases hs : x s = true
    · simp [hx, hs, encO]
    · simp [hx, hs, encO, enc_win]
  | k + 1, .nd kd n cs, h, g, hz => by
    have hs : sizeLine = 16777216 := sz_line
    have h' : hC cs + 2 ≤ k := by simp [hT] at h; omega
    have hz' : zC cs + 1 ≤ 100000 := by simpa [zT] using hz
    have e0 : den (k + 1) I__law_without [.sh (enc (.nd kd n cs)), .sh nm] = outR (b_28 (den k) [.sh (enc (.nd kd n cs)), .sh nm, .no, .no, .no, .no, .no, .no, .no, .no, .no, .no, .no]) := den__law_without _ _
    rw [e0]
    rw [gT] at g
    obtain ⟨k', rfl⟩ : ∃ k', k = k' + 1 := ⟨k - 1, by omega⟩
    have ih : ∀ w t, (w, t) ∈ cs → den (k' + 1) I__law_without [.sh (enc t), .sh nm] = .ok (encO (lf x t)) := fun w t m => by
      have a := hC_mem m
      exact s_lwithout (k' + 1) t (by omega) (gC_mem g.1 m).1 (by omega)
    have nw : ¬ kdS kd = "win" := nd_ne_win kd
    have lc := len_zC cs
    have ei := s_linner k' (.nd kd n cs) (by omega)
    have elc : lcL (bN 11) yesT (dA (argsF [(gS 11), (gS 1)]) (cD (den (k' + 1) I__law_without))) [.sh (enc (.nd kd n cs)), .sh nm, .no, .no, .no, .no, .no, .no, .no, .no, .no, .no, .no] (encT cs) = .ok (encOs (lfC x cs)) := by
      rw [encT_map, encOs, lfC_map, List.map_map]
      exact lcL_all _ _ _ fun p hp => ⟨_, rfl, by have := ih p.1 p.2 hp; simp [this]⟩
    have e1 : (setS 2 (lcD ([11]) (d1L itemsD (dA (argsF [(gS 0)]) (cD (den (k' + 1) I__law_inner)))) (bN 11) yesT (dA (argsF [(gS 11), (gS 1)]) (cD (den (k' + 1) I__law_without))))) [.sh (enc (.nd kd n cs)), .sh nm, .no, .no, .no, .no, .no, .no, .no, .no, .no, .no, .no] = .nx [.sh (enc (.nd kd n cs)), .sh nm, .sh (.list (encOs (lfC x cs))), .no, .no, .no, .no, .no, .no, .no, .no, .no, .no] := by
      simp only [ev_set, ev_lc, ev_d1L, ev_dA, ev_args, ev_args0, gS_zero, bnd_ok, ev_cD, List.map_cons, List.map_nil, ei, csOf, ev_items_l]
      rw [if_pos (by rw [encT_len]; omega)]
      simp only [ev_wipe, ev_wipe0, List.set_cons_succ, List.set_cons_zero, elc, bnd_ok, toS_ok]
    have et : (tB1 (d2 eqD (d2 ixD (gS 0) (kC (.int 0))) (kC (.str "win")))) [.sh (enc (.nd kd n cs)), .sh nm, .no, .no, .no, .no, .no, .no, .no, .no, .no, .no, .no] = .ok false := by
      simp [ix0_enc, wd, nw]
    have lo : (encOs (lfC x cs)).length = cs.length := by rw [encOs_len, lfC_len]
    rw [xT_eq, ev_seq, ev_if, et, toS_ok, if_neg Bool.false_ne_true, ev_nx, rsb_nx, ev_seq, e1, rsb_nx, ev_seq, ev_if]
    by_cases ek : kd = .tabs
    · subst ek
      have et2 : (tB1 (d2 eqD (d2 ixD (gS 0) (kC (.int 0))) (kC (.str "tabs")))) [.sh (enc (.nd .tabs n cs)), .sh nm, .sh (.list (encOs (lfC x cs))), .no, .no, .no, .no, .no, .no, .no, .no, .no, .no] = .ok true := by simp [ix0_enc, wd, kdS]
      have tl := tabs_le x g.1
      obtain ⟨δ', e, s5, s6, s7, rfl⟩ := goS_inv0 (b := bN 5) (body := xT) (ds := nums cs.length) (δ := [.sh (enc (.nd .tabs n cs)), .sh nm, .sh (.list (encOs (lfC x cs))), .sh (.list []), .sh (.list []), .no, .no, .no, .no, .no, .no, .no, .no])
        (fun j δ => ∃ s5 s6 s7, δ = [.sh (enc (.nd .tabs n cs)), .sh nm, .sh (.list (encOs (lfC x cs))), .sh (.list (encT (tabsP ((lfC x cs).take j)))), .sh (.list (encM (marks 0 0 ((lfC x cs).take j)))), s5, s6, s7, .no, .no, .no, .no, .no]) ⟨.no, .no, .no, by simp [tabsP, encT, marks, encM]⟩ (by
        rintro j d δ hj ⟨s5, s6, s7, rfl⟩
        obtain ⟨hlt, rfl⟩ := nums_at hj
        obtain ⟨⟨w, t⟩, ht⟩ : ∃ q, cs[j]? = some q := ⟨_, List.getElem?_eq_getElem hlt⟩
        have el := lfC_at x ht
        have et : (lfC x cs).take (j + 1) = (lfC x cs).take j ++ [(w, lf x t)] := by rw [List.take_add_one, el]; rfl
        have l1 := tabsP_take (os := lfC x cs) (j := j + 1)
        have e2 : tabsP ((lfC x cs).take (j + 1)) = tabsP ((lfC x cs).take j) ++ blkT (lf x t) := by rw [et, tabsP_app]; simp [tabsP]
        rw [e2, List.length_append] at l1
        have lt : ((lfC x cs).take j).length = j := by rw [List.length_take, lfC_len]; omega
        have lm := marks_len ((lfC x cs).take j) 0 0
        obtain ⟨s6', s7', eb⟩ := xT_ev (.sh (enc (.nd .tabs n cs))) (.sh nm) .no .no .no .no .no (encOs (lfC x cs)) j (lf x t) (encOs_at x ht) (tabsP ((lfC x cs).take j)) (marks 0 0 ((lfC x cs).take j)) s6 s7 (by omega) (by omega)
        refine ⟨_, _, rfl, .inl eb, .sh (.int (j : Nat)), s6', s7', ?_⟩
        rw [e2, et, marks_snoc, lt]
        simp)
      have lt := encT_len (tabsP (lfC x cs))
      have er : rng1D [PyData.int (cs.length : Nat)] = .ok (nums cs.length) := rng1_n _ (by omega)
      rw [et2, toS_ok, if_pos rfl]
      simp only [ev_seq, ev_par, ev_argsMf, ev_argsM0, ev_dA, ev_args, ev_args0, ev_lst0, bnd_ok, toS_ok, List.length_cons, List.length_nil, if_true, ev_bindM, ev_bindM0, List.set_cons_succ, List.set_cons_zero, rsb_nx, ev_for, ev_dAL, gS_succ, gS_zero, ev_lenL, lo, er]
      rw [e, nums_len, show cs.length = (lfC x cs).length from (lfC_len x cs).symm, List.take_length]
      have lm := marks_len (lfC x cs) 0 0
      rw [lfC_len] at lm
      have e8 : lcL (bT 2 (bCons (bN 5) (bCons (bN 7) bNil))) (tB1 (d2 geD (gS 5) (d2 ixD (gS 0) (kC (.int 1))))) (gS 7) [.sh (enc (.nd .tabs n cs)), .sh nm, .sh (.list (encOs (lfC x cs))), .sh (.list (encT (tabsP (lfC x cs)))), .sh (.list (encM (marks 0 0 (lfC x cs)))), .no, s6, .no, .no, .no, .no, .no, .no] (encM (marks 0 0 (lfC x cs))) = .ok ((((marks 0 0 (lfC x cs)).filter fun q => decide (n ≤ (q.1 : Int)))).map fun q => .int q.2) := by
        refine lcL_on _ _ _ _ fun q _ => ⟨_, by simp; rfl, ?_, fun _ => by simp⟩
        rw [enc_tabs]
        simp
      simp only [rsb_nx, ev_seq, ev_set, ev_lc, ev_d1L, gS_succ, gS_zero, bnd_ok, ev_items_l]
      rw [if_pos (by simp [encM]; omega)]
      simp only [ev_wipe, ev_wipe0, List.set_cons_succ, List.set_cons_zero, e8, bnd_ok, toS_ok, rsb_nx, ev_ret, ev_dIf, ev_tB1, ev_d2, ev_dA, ev_args, ev_args0, gS_succ, gS_zero, ev_lenL, lt, ev_k, ev_gtI, ev_asB]
      have hn := marks_num n (lfC x cs) 0 0
      show _ = Re.ok (encO (lf x (.nd .tabs n cs)))
      rw [lf]
      show _ = Re.ok (encO (finTL n (lfC x cs)))
      unfold finTL
      by_cases hl : (tabsP (lfC x cs)).length = 0
      · have hl' : ¬ (0 : Int) < ((tabsP (lfC x cs)).length : Nat) := by omega
        rw [decide_eq_false hl', if_neg Bool.false_ne_true, if_pos hl]
        simp [encO]
      · have hl' : (0 : Int) < ((tabsP (lfC x cs)).length : Nat) := by omega
        rw [decide_eq_true hl', if_pos rfl, if_neg hl, hn]
        cases hm : (marks 0 0 (lfC x cs)).filter (fun q => decide (n ≤ (q.1 : Int))) with
        | nil => simp [encO, enc_tabs, lt]
        | cons q r => simp [encO, enc_tabs]
    · have nt : ¬ kdS kd = "tabs" := fun z => ek (kdS_inj (b := .tabs) z)
      have et2 : (tB1 (d2 eqD (d2 ixD (gS 0) (kC (.int 0))) (kC (.str "tabs")))) [.sh (enc (.nd kd n cs)), .sh nm, .sh (.list (encOs (lfC x cs))), .no, .no, .no, .no, .no, .no, .no, .no, .no, .no] = .ok false := by simp [ix0_enc, wd, nt]
      have pl := parts_le x ek g.1
      obtain ⟨δ', e, s5, s10, rfl⟩ := goS_inv0 (b := bN 5) (body := xP) (ds := nums cs.length) (δ := [.sh (enc (.nd kd n cs)), .sh nm, .sh (.list (encOs (lfC x cs))), .no, .no, .no, .no, .no, .no, .sh (.list []), .no, .no, .no])
        (fun j δ => ∃ s5 s10, δ = [.sh (enc (.nd kd n cs)), .sh nm, .sh (.list (encOs (lfC x cs))), .no, .no, s5, .no, .no, .no, .sh (.list (encP (partsL kd ((lfC x cs).take j)))), s10, .no, .no]) ⟨.no, .no, by simp [partsL, encP]⟩ (by
        rintro j d δ hj ⟨s5, s10, rfl⟩
        obtain ⟨hlt, rfl⟩ := nums_at hj
        obtain ⟨⟨w, t⟩, ht⟩ : ∃ q, cs[j]? = some q := ⟨_, List.getElem?_eq_getElem hlt⟩
        have el := lfC_at x ht
        have et : (lfC x cs).take (j + 1) = (lfC x cs).take j ++ [(w, lf x t)] := by rw [List.take_add_one, el]; rfl
        have l1 := partsL_take (k := kd) (os := lfC x cs) (j := j + 1)
        have e2 : partsL kd ((lfC x cs).take (j + 1)) = partsL kd ((lfC x cs).take j) ++ blkL kd w (lf x t) := by rw [et, partsL_app]; simp [partsL]
        rw [e2, List.length_append] at l1
        obtain ⟨s10', eb⟩ := xP_ev kd ek n cs (.sh nm) .no .no .no .no .no .no (encOs (lfC x cs)) j w t ht (lf x t) (encOs_at x ht) (partsL kd ((lfC x cs).take j)) s10 (by omega)
        refine ⟨_, _, rfl, .inl eb, .sh (.int (j : Nat)), s10', ?_⟩
        rw [e2])
      have er : rng1D [PyData.int (cs.length : Nat)] = .ok (nums cs.length) := rng1_n _ (by omega)
      have exP : (ifS (tB1 (d1 notND (d2 ixD (gS 2) (gS 5)))) (seqS (setS 10 (d2 ixD (d2 ixD (d2 ixD (gS 0) (kC (.int 1))) (gS 5)) (kC (.int 0)))) (setS 9 (d2 addD (gS 9) (dIf (tB1 (d2 eqD (d2 ixD (d2 ixD (gS 2) (gS 5)) (kC (.int 0))) (d2 ixD (gS 0) (kC (.int 0))))) (lcD ([12]) (d1L itemsD (d2 ixD (d2 ixD (gS 2) (gS 5)) (kC (.int 1)))) (bN 12) yesT (dA (argsF [(gS 10), (d2 ixD (gS 12) (kC (.int 1)))]) tupD)) (dA (argsF [(dA (argsF [(gS 10), (d2 ixD (gS 2) (gS 5))]) tupD)]) lstD))))) nxS) = xP := rfl
      rw [et2, toS_ok, if_neg Bool.false_ne_true, ev_nx, rsb_nx, exP]
      simp only [ev_seq, ev_set, ev_dA, ev_args, ev_args0, ev_lst0, bnd_ok, toS_ok, List.set_cons_succ, List.set_cons_zero, rsb_nx, ev_for, ev_dAL, gS_succ, gS_zero, ev_lenL, lo, er]
      rw [e, nums_len, show cs.length = (lfC x cs).length from (lfC_len x cs).symm, List.take_length, rsb_nx]
      have ef : finL kd n (lfC x cs) = finP kd (partsL kd (lfC x cs)) := by
        cases kd with
        | row => rfl
        | col => rfl
        | tabs => exact (ek rfl).elim
      rw [lf, ef]
      match hq : partsL kd (lfC x cs) with
      | [] => simp [encP, finP, encO]
      | [(w, t)] => simp [encP, finP, encO]
      | p :: q :: r =>
        have l2 : (encP (p :: q :: r)).length = r.length + 2 := by rw [encP_len]; simp
        have hn0 : ¬ (((encP (p :: q :: r)).length : Nat) : Int) = 0 := by omega
        have hn1 : ¬ (((encP (p :: q :: r)).length : Nat) : Int) = 1 := by omega
        generalize hE : encP (p :: q :: r) = E at hn0 hn1
        have hE0 : E ≠ [] := fun z => hn0 (by rw [z]; rfl)
        cases kd with
        | row => simp [hE0, hn1, finP, encO, enc_row, kdS, hE]
        | col => simp [hE0, hn1, finP, encO, enc_col, kdS, hE]
        | tabs => exact (ek rfl).elim
end
end KL
end
section
open PySem PySem.Spec PyProof.Rows L2 VS
namespace KL
/-! ### places -/
def plD (p : List Nat) : PyData := .tuple (p.map fun n => .int (n : Nat))
mutual
theorem trs_len : ∀ t : T, (trs t).length = zT t
  | .win s => by simp [trs, zT]
  | .nd k n cs => by simp [trs, zT, trC_len cs 0]
theorem trC_len : ∀ (cs : List (Int × T)) (p : Nat), (trC p cs).length = zC cs
  | [], p => by simp [trC, zC]
  | (w, t) :: r, p => by simp [trC, zC, trs_len t, trC_len r (p + 1)]
end
theorem trC_app : ∀ (a b : Cs) (p : Nat), trC p (a ++ b) = trC p a ++ trC (p + a.length) b
  | [], b, p => by simp [trC]
  | (w, t) :: r, b, p => by
    rw [List.cons_append, trC, trC, trC_app r b (p + 1), List.append_assoc, List.length_cons]
    rw [show p + 1 + r.length = p + (r.length + 1) by omega]
theorem trs_nd (t : T) : trs t = ([], t) :: trC 0 (csOf t) := by
  cases t with
  | win s => simp [trs, csOf, trC]
  | nd k n cs => simp [trs, csOf]
theorem zC_csOf (t : T) : zC (csOf t) + 1 = zT t := by
  cases t with
  | win s => simp [csOf, zC, zT]
  | nd k n cs => simp [csOf, zT]
theorem hC_csOf {t u : T} {w : Int} (h : (w, u) ∈ csOf t) : hT u < hT t := by
  cases t with
  | win s => simp [csOf] at h
  | nd k n cs => have := (hC_mem (cs := cs) h).1; simp [hT]; omega
theorem trC_take {cs : Cs} {p j : Nat} : (trC p (cs.take j)).length ≤ zC cs := by
  have e : cs = cs.take j ++ cs.drop j := (List.take_append_drop _ _).symm
  have := trC_len cs p
  rw [e, trC_app, List.length_append] at this
  rw [← e] at this
  omega
mutual
theorem hT_z : ∀ t : T, hT t ≤ zT t
  | .win s => by simp [hT, zT]
  | .nd k n cs => by have := hC_z cs; simp [hT, zT]; omega
theorem hC_z : ∀ cs : List (Int × T), hC cs ≤ zC cs
  | [] => by simp [hC, zC]
  | (w, t) :: r => by have := hT_z t; have := hC_z r; simp [hC, zC]; omega
end
mutual
theorem trs_h : ∀ t : T, ∀ q ∈ trs t, q.1.length ≤ hT t
  | .win s, q, hq => by simp [trs] at hq; subst hq; simp
  | .nd k n cs, q, hq => by
    rw [trs] at hq
    rcases List.mem_cons.mp hq with e | hq
    · subst e; simp
    · have := trC_h cs 0 q hq
      simpa [hT] using this
theorem trC_h : ∀ (cs : List (Int × T)) (p : Nat), ∀ q ∈ trC p cs, q.1.length ≤ hC cs + 1
  | [], p, q, hq => by simp [trC] at hq
  | (w, t) :: r, p, q, hq => by
    rw [trC] at hq
    rcases List.mem_append.mp hq with hq | hq
    · obtain ⟨q', hq', e⟩ := List.mem_map.mp hq
      subst e
      have := trs_h t q' hq'
      simp [hC]; omega
    · have := trC_h r (p + 1) q hq
      simp [hC]; omega
end
theorem s_places : ∀ (k : Nat) (t : T), hT t + 2 ≤ k → zT t ≤ 100000 → den k I_all_places [.sh (enc t)] = .ok (.list ((trs t).map fun q => plD q.1))
  | 0, t, h, _ => by omega
  | k + 1, t, h, hz => by
    have hs : sizeLine = 16777216 := sz_line
    have e0 : den (k + 1) I_all_places [.sh (enc t)] = outR (b_12 (den k) [.sh (enc t), .no, .no, .no, .no]) := den_all_places _ _
    rw [e0]
    obtain ⟨k', rfl⟩ : ∃ k', k = k' + 1 := ⟨k - 1, by omega⟩
    have ei := s_inner k' t (by omega)
    have zc := zC_csOf t
    obtain ⟨δ', e, s2, s3, rfl⟩ := goS_inv0 (b := bT 2 (bCons (bN 2) (bCons (bN 3) bNil))) (body := (extS 1 (lcD ([4]) (d1L itemsD (dA (argsF [(gS 3)]) (cD (den (k' + 1) I_all_places)))) (bN 4) yesT (d2 addD (dA (argsF [(gS 2)]) tupD) (gS 4))))) (ds := pairUp 0 (encT (csOf t))) (δ := [.sh (enc t), .ow (.list [.tuple []]), .no, .no, .no])
      (fun j δ => ∃ s2 s3, δ = [.sh (enc t), .ow (.list ((([], t) :: trC 0 ((csOf t).take j)).map fun q => plD q.1)), s2, s3, .no]) ⟨.no, .no, by simp [trC, plD]⟩ (by
      rintro j d δ hj ⟨s2, s3, rfl⟩
      rw [pairUp_get, encT_map, List.getElem?_map] at hj
      obtain ⟨d', hj', rfl⟩ := Option.map_eq_some_iff.mp hj
      obtain ⟨⟨w, u⟩, ht, rfl⟩ := Option.map_eq_some_iff.mp hj'
      have hm := List.mem_of_getElem? ht
      have hh := hC_csOf hm
      have hzz := (hC_mem hm).2
      have ih := s_places (k' + 1) u (by omega) (by omega)
      have et : (csOf t).take (j + 1) = (csOf t).take j ++ [(w, u)] := by rw [List.take_add_one, ht]; rfl
      have hlt : j < (csOf t).length := (List.getElem?_eq_some_iff.mp ht).1
      have lj : ((csOf t).take j).length = j := by rw [List.length_take]; omega
      have e2 : trC 0 ((csOf t).take (j + 1)) = trC 0 ((csOf t).take j) ++ (trs u).map (fun q => (j :: q.1, q.2)) := by rw [et, trC_app, lj]; simp [trC]
      have l1 := trC_take (cs := csOf t) (p := 0) (j := j)
      have l2 := trs_len u
      have elc : ∀ a : Sl, lcL (bN 4) yesT (d2 addD (dA (argsF [(gS 2)]) tupD) (gS 4)) [.sh (enc t), a, .sh (.int (j : Nat)), .sh (enc u), .no] ((trs u).map fun q => plD q.1) = .ok ((trs u).map fun q => plD (j :: q.1)) := fun a => lcL_all _ _ _ fun q hq => ⟨_, rfl, by
        have l4 := trs_h u q hq
        have l5 := hT_z u
        have e5 : addD (.tuple [.int (j : Nat)]) (plD q.1) = .ok (plD (j :: q.1)) := by
          unfold plD
          rw [ev_addT (by simp; omega)]
          rfl
        simp [e5]⟩
      have ee := ev_ext (i := 1) (f := (lcD ([4]) (d1L itemsD (dA (argsF [(gS 3)]) (cD (den (k' + 1) I_all_places)))) (bN 4) yesT (d2 addD (dA (argsF [(gS 2)]) tupD) (gS 4)))) (δ := [.sh (enc t), .ow (.list ((([], t) :: trC 0 ((csOf t).take j)).map fun q => plD q.1)), .sh (.int (j : Nat)), .sh (enc u), .no]) (xs := (([], t) :: trC 0 ((csOf t).take j)).map fun q => plD q.1) (ds := (trs u).map fun q => plD (j :: q.1)) (d := .list ((trs u).map fun q => plD (j :: q.1))) rfl (by
        simp only [ev_lc, ev_d1L, ev_dA, ev_args, ev_args0, gS_succ, gS_zero, bnd_ok, ev_cD, List.map_cons, List.map_nil, ih, ev_items_l]
        rw [if_pos (by rw [List.length_map]; omega)]
        have := elc (.ow (.list (plD [] :: (trC 0 ((csOf t).take j)).map fun q => plD q.1)))
        simp only [ev_wipe, ev_wipe0, List.set_cons_succ, List.set_cons_zero, this, bnd_ok]) (.inl rfl) (by simp; omega)
      refine ⟨[.sh (enc t), .ow (.list ((([], t) :: trC 0 ((csOf t).take j)).map fun q => plD q.1)), .sh (.int (j : Nat)), .sh (enc u), .no], _, by simp, .inl ee, .sh (.int (j : Nat)), .sh (enc u), ?_⟩
      rw [e2]
      simp)
    have eb : b_12 (den (k' + 1)) = (seqS (setO 1 (dA (argsF [(dA (argsF []) tupD)]) lstD)) (seqS (forS (dAL (argsF [(dA (argsF [(gS 0)]) (cD (den (k' + 1) I_inner_trees)))]) enumD) (bT 2 (bCons (bN 2) (bCons (bN 3) bNil))) (extS 1 (lcD ([4]) (d1L itemsD (dA (argsF [(gS 3)]) (cD (den (k' + 1) I_all_places)))) (bN 4) yesT (d2 addD (dA (argsF [(gS 2)]) tupD) (gS 4))))) (fun δ => (retS (gS 1)) (frzD 1 δ)))) := rfl
    rw [eb]
    simp only [ev_seq, ev_setO, ev_dA, ev_args, ev_args0, ev_tup0, bnd_ok, ev_lst1, toS_ok, rsb_nx, List.set_cons_succ, List.set_cons_zero, ev_for, ev_dAL, gS_zero, ev_cD, List.map_cons, List.map_nil, ei, ev_enumL]
    rw [e, pairUp_len, encT_len, List.take_length]
    rw [trs_nd t]
    simp [frzD]
/-! the tree at a place -/
def tAt : T → List Nat → Option T
  | t, [] => some t
  | t, n :: p => match (csOf t)[n]? with
    | some (_, u) => tAt u p
    | none => none
theorem tAt_in : ∀ n, ∀ t : T, hT t ≤ n → ∀ q ∈ trs t, tAt t q.1 = some q.2 := by
  have tc : ∀ (t : T) (cs' : Cs) (p : Nat), (∀ j w u, cs'[j]? = some (w, u) → (csOf t)[p + j]? = some (w, u)) → (∀ w u, (w, u) ∈ cs' → ∀ q ∈ trs u, tAt u q.1 = some q.2) → ∀ q ∈ trC p cs', tAt t q.1 = some q.2 := by
    intro t cs'
    induction cs' with
    | nil => intro p _ _ q hq; simp [trC] at hq
    | cons a r ihr =>
      obtain ⟨w, u⟩ := a
      intro p hp hh q hq
      rw [trC] at hq
      rcases List.mem_append.mp hq with hq | hq
      · obtain ⟨q', hq', e⟩ := List.mem_map.mp hq
        subst e
        have h0 := hp 0 w u rfl
        rw [Nat.add_zero] at h0
        unfold tAt
        simp only [h0]
        exact hh w u List.mem_cons_self q' hq'
      · refine ihr (p + 1) (fun j w' u' hj => ?_) (fun w' u' m => hh w' u' (List.mem_cons_of_mem _ m)) q hq
        have := hp (j + 1) w' u' (by simpa using hj)
        rw [show p + 1 + j = p + (j + 1) by omega]
        exact this
  intro n
  induction n with
  | zero =>
    intro t ht q hq
    cases t with
    | win s => simp [trs] at hq; subst hq; simp [tAt]
    | nd k n cs => simp [hT] at ht
  | succ n ih =>
    intro t ht q hq
    rw [trs_nd] at hq
    rcases List.mem_cons.mp hq with e | hq
    · subst e; simp [tAt]
    · exact tc t (csOf t) 0 (fun j w u hj => by rw [Nat.zero_add]; exact hj) (fun w u m => ih u (by have := hC_csOf m; omega)) q hq
theorem zT_csOf {t u : T} {w : Int} (h : (w, u) ∈ csOf t) : zT u < zT t := by
  have := (hC_mem h).2
  have := zC_csOf t
  omega
theorem tin_go (k : Nat) (x1 : Sl) : ∀ (p : List Nat) (t u : T) (s2 : Sl), zT t ≤ 100000 → tAt t p = some u → ∃ s2', goS (bN 2) (setS 0 (d2 ixD (dA (argsF [(gS 0)]) (cD (den (k + 1) I_inner_trees))) (gS 2))) (p.map fun n => .int (n : Nat)) [.sh (enc t), x1, s2] = .nx [.sh (enc u), x1, s2']
  | [], t, u, s2, _, h => by
    simp [tAt] at h
    subst h
    exact ⟨s2, rfl⟩
  | n :: p, t, u, s2, hz, h => by
    unfold tAt at h
    split at h
    · rename_i w v hv
      have hm := List.mem_of_getElem? hv
      have hzz := zT_csOf hm
      obtain ⟨s2', e⟩ := tin_go k x1 p v u (.sh (.int (n : Nat))) (by omega) h
      refine ⟨s2', ?_⟩
      have ei := s_inner k t (by omega)
      have ea : atI (encT (csOf t)) (n : Int) = some (enc v) := at_nat (by rw [encT_map, List.getElem?_map, hv]; rfl)
      rw [List.map_cons]
      unfold goS
      simp only [ev_bN, List.set_cons_succ, List.set_cons_zero, ev_set, ev_d2, ev_dA, ev_args, ev_args0, gS_succ, gS_zero, bnd_ok, ev_cD, List.map_cons, List.map_nil, ei, ix_l, ea, ofO_some, toS_ok]
      exact e
    · cases h
theorem s_tin (k : Nat) (t u : T) (p : List Nat) (hz : zT t ≤ 100000) (h : tAt t p = some u) : den (k + 2) I_tree_in [.sh (enc t), .sh (plD p)] = .ok (enc u) := by
  have e0 : den (k + 1 + 1) I_tree_in [.sh (enc t), .sh (plD p)] = outR (b_13 (den (k + 1)) [.sh (enc t), .sh (plD p), .no]) := den_tree_in _ _
  show den (k + 1 + 1) I_tree_in [.sh (enc t), .sh (plD p)] = _
  rw [e0]
  obtain ⟨s2, e⟩ := tin_go k (.sh (plD p)) p t u .no hz h
  have eb : b_13 (den (k + 1)) = (seqS (forS (d1L itemsD (gS 1)) (bN 2) (setS 0 (d2 ixD (dA (argsF [(gS 0)]) (cD (den (k + 1) I_inner_trees))) (gS 2)))) (retS (gS 0))) := rfl
  have ep : itemsD (plD p) = .ok (p.map fun n => .int (n : Nat)) := rfl
  rw [eb]
  simp only [ev_seq, ev_for, ev_d1L, gS_succ, gS_zero, bnd_ok, ep, toS_ok]
  rw [e]
  simp
end KL
end
section
open PySem PySem.Spec PyProof.Rows L2 VS
namespace KL
/-! ### the law's trees -/
def trD (pl : List Nat) (q : List Nat × T) : PyData := .tuple [plD (pl ++ q.1), enc q.2]
theorem s_ltrees : ∀ (k : Nat) (t : T) (pl : List Nat), hT t + 2 ≤ k → zT t ≤ 100000 → pl.length + hT t ≤ 100000 → den k I__law_trees [.sh (enc t), .sh (plD pl)] = .ok (.list ((trs t).map (trD pl)))
  | 0, t, pl, h, _, _ => by omega
  | k + 1, t, pl, h, hz, hl => by
    have hs : sizeLine = 16777216 := sz_line
    have e0 : den (k + 1) I__law_trees [.sh (enc t), .sh (plD pl)] = outR (b_29 (den k) [.sh (enc t), .sh (plD pl), .no, .no, .no]) := den__law_trees _ _
    rw [e0]
    obtain ⟨k', rfl⟩ : ∃ k', k = k' + 1 := ⟨k - 1, by omega⟩
    have ei := s_linner k' t (by omega)
    have zc := zC_csOf t
    have lc := len_zC (csOf t)
    obtain ⟨δ', e, s4, rfl⟩ := goS_inv0 (b := bN 4) (body := (setS 2 (d2 addD (gS 2) (dA (argsF [(d2 ixD (gS 3) (gS 4)), (d2 addD (gS 1) (dA (argsF [(gS 4)]) tupD))]) (cD (den (k' + 1) I__law_trees)))))) (ds := nums (csOf t).length) (δ := [.sh (enc t), .sh (plD pl), .sh (.list [.tuple [plD pl, enc t]]), .sh (.list (encT (csOf t))), .no])
      (fun j δ => ∃ s4, δ = [.sh (enc t), .sh (plD pl), .sh (.list ((([], t) :: trC 0 ((csOf t).take j)).map (trD pl))), .sh (.list (encT (csOf t))), s4]) ⟨.no, by simp [trC, trD]⟩ (by
      rintro j d δ hj ⟨s4, rfl⟩
      obtain ⟨hlt, rfl⟩ := nums_at hj
      obtain ⟨⟨w, u⟩, ht⟩ : ∃ q, (csOf t)[j]? = some q := ⟨_, List.getElem?_eq_getElem hlt⟩
      have hm := List.mem_of_getElem? ht
      have hh := hC_csOf hm
      have hzz := (hC_mem hm).2
      have ih := s_ltrees (k' + 1) u (pl ++ [j]) (by omega) (by omega) (by simp; omega)
      have et : (csOf t).take (j + 1) = (csOf t).take j ++ [(w, u)] := by rw [List.take_add_one, ht]; rfl
      have lj : ((csOf t).take j).length = j := by rw [List.length_take]; omega
      have e2 : trC 0 ((csOf t).take (j + 1)) = trC 0 ((csOf t).take j) ++ (trs u).map (fun q => (j :: q.1, q.2)) := by rw [et, trC_app, lj]; simp [trC]
      have l1 := trC_take (cs := csOf t) (p := 0) (j := j)
      have l2 := trs_len u
      have ea : atI (encT (csOf t)) (j : Int) = some (enc u) := at_nat (by rw [encT_map, List.getElem?_map, ht]; rfl)
      have e5 : addD (plD pl) (.tuple [.int (j : Nat)]) = .ok (plD (pl ++ [j])) := by
        unfold plD
        rw [ev_addT (by simp; omega)]
        simp
      have e6 : addD (.list ((([], t) :: trC 0 ((csOf t).take j)).map (trD pl))) (.list ((trs u).map (trD (pl ++ [j])))) = _ := ev_addL (by simp; omega)
      refine ⟨_, _, rfl, .inl (by simp only [List.set_cons_succ, List.set_cons_zero, ev_set, ev_d2, ev_dA, ev_args, ev_args0, gS_succ, gS_zero, bnd_ok, ev_cD, List.map_cons, List.map_nil, ix_l, ea, ofO_some, ev_tup1, e5, ih]; rw [← List.map_cons, e6]; simp only [toS_ok]; rfl), .sh (.int (j : Nat)), ?_⟩
      rw [e2]
      simp [trD])
    have eb : b_29 (den (k' + 1)) = (seqS (parS [2, 3] (argsM [(false, (dA (argsF [(dA (argsF [(gS 1), (gS 0)]) tupD)]) lstD)), (false, (dA (argsF [(gS 0)]) (cD (den (k' + 1) I__law_inner))))])) (seqS (forS (dAL (argsF [(dA (argsF [(gS 3)]) lenD)]) rng1D) (bN 4) (setS 2 (d2 addD (gS 2) (dA (argsF [(d2 ixD (gS 3) (gS 4)), (d2 addD (gS 1) (dA (argsF [(gS 4)]) tupD))]) (cD (den (k' + 1) I__law_trees)))))) (retS (gS 2)))) := rfl
    have er : rng1D [PyData.int (csOf t).length] = .ok (nums (csOf t).length) := rng1_n _ (by omega)
    rw [eb]
    simp only [ev_seq, ev_par, ev_argsMf, ev_argsM0, ev_dA, ev_args, ev_args0, gS_succ, gS_zero, bnd_ok, ev_tup2, ev_lst1, ev_cD, List.map_cons, List.map_nil, ei, toS_ok, List.length_cons, List.length_nil, if_true, ev_bindM, ev_bindM0, List.set_cons_succ, List.set_cons_zero, rsb_nx, ev_for, ev_dAL, ev_lenL, encT_len, er]
    rw [e, nums_len, List.take_length, trs_nd t]
    simp
/-! chains -/
theorem pre_lt : ∀ (a c : List Nat), c ≠ [] → (a.map fun n : Nat => (n : Int)) < ((a ++ c).map fun n : Nat => (n : Int))
  | [], c :: r, _ => List.nil_lt_cons _ _
  | [], [], h => (h rfl).elim
  | x :: a, c, h => by
    rw [List.cons_append, List.map_cons, List.map_cons, List.cons_lt_cons_iff]
    exact .inr ⟨rfl, pre_lt a c h⟩
theorem plD_lt {a b : List Nat} (h : a = b.take a.length) (hl : a.length < b.length) : PySem.W.dataLt (plD a) (plD b) = true := by
  have e0 : b = b.take a.length ++ b.drop a.length := (List.take_append_drop _ _).symm
  rw [← h] at e0
  obtain ⟨c, hc, e⟩ : ∃ c, c ≠ [] ∧ b = a ++ c := ⟨b.drop a.length, by simp; omega, e0⟩
  subst e
  unfold plD
  rw [PySem.W.dataLt_tuple]
  have e1 : ∀ l : List Nat, l.map (fun n => (PyData.int (n : Nat) : PyData)) = (l.map fun n : Nat => (n : Int)).map PyData.int := fun l => by simp
  rw [e1, e1]
  have := PySem.W.dataLt_ints (a.map fun n : Nat => (n : Int)) ((a ++ c).map fun n : Nat => (n : Int))
  rw [decide_eq_true (pre_lt a c hc)] at this
  exact this
theorem alike_pl (a b : List Nat) : PySem.W.alike (plD a) (plD b) = true := by
  unfold plD
  have e1 : ∀ l : List Nat, l.map (fun n => (PyData.int (n : Nat) : PyData)) = (l.map fun n : Nat => (n : Int)).map PyData.int := fun l => by simp
  rw [e1, e1]
  show PySem.W.alikeAll _ _ = true
  exact PySem.W.alike_ints _ _
theorem dn_pl (n : Nat) (a : List Nat) : dn (n + 1) (plD a) = true := by
  unfold plD
  simp [dnA_all]
theorem maxD_last : ∀ (x : PyData) (xs : List PyData), (x :: xs).Pairwise (fun a b => PySem.W.dataLt a b = true) → PySem.W.maxD x xs = (x :: xs).getLast (by simp)
  | x, [], _ => rfl
  | x, y :: ys, h => by
    have h' := List.pairwise_cons.mp h
    have := maxD_last y ys h'.2
    have e : PySem.W.dataLt x y = true := h'.1 y List.mem_cons_self
    unfold PySem.W.maxD at this ⊢
    rw [List.foldl_cons, if_pos e, this]
    simp
theorem chain_pw {l : List (List Nat)} (h : Chain 0 l) : l.Pairwise fun a b => a = b.take a.length ∧ a.length < b.length := by
  rw [List.pairwise_iff_getElem]
  intro i j hi hj hij
  obtain ⟨a, b⟩ := h j hj
  have c := b i hi hij
  have d := (h i hi).1
  rw [d]
  exact ⟨by simpa using c, by omega⟩
theorem ev_max_chain {l : List (List Nat)} (hl : l ≠ []) (h : Chain 0 l) : maxL [.list (l.map plD)] = .ok (plD (l.getLast hl)) := by
  match l, hl with
  | p :: r, _ =>
    show maxS ((p :: r).map plD) = _
    have ok : okMM ((p :: r).map plD) = true := by
      unfold okMM
      simp only [Bool.and_eq_true, List.all_eq_true]
      refine ⟨⟨?_, ?_⟩, ?_⟩
      · intro a ha b hb
        obtain ⟨x, _, rfl⟩ := List.mem_map.mp ha
        obtain ⟨y, _, rfl⟩ := List.mem_map.mp hb
        exact alike_pl x y
      · intro a ha
        obtain ⟨x, _, rfl⟩ := List.mem_map.mp ha
        rfl
      · intro a ha
        obtain ⟨x, _, rfl⟩ := List.mem_map.mp ha
        exact dn_pl 59 x
    have pw : ((p :: r).map plD).Pairwise (fun a b => PySem.W.dataLt a b = true) := by
      rw [List.pairwise_map]
      exact (chain_pw h).imp fun ⟨a, b⟩ => plD_lt a b
    rw [List.map_cons] at ok pw ⊢
    show (if okMM (plD p :: r.map plD) = true then Re.ok (PySem.W.maxD (plD p) (r.map plD)) else .no) = _
    rw [if_pos ok, maxD_last _ _ pw]
    congr 1
    rw [← List.getLast_map (f := plD) (l := p :: r) (by simp)]
    simp
def lpD (p : List Nat) : PyData := .tuple [.int (p.length : Nat), plD p]
theorem ev_sort_chain {l : List (List Nat)} (h : Chain 0 l) (hz : l.length ≤ sizeLine) : sortedD [.list (l.map lpD)] = .ok (.list (l.map lpD)) := by
  have ok : sortOk (l.map lpD) = true := by
    unfold sortOk
    simp only [Bool.and_eq_true, Bool.or_eq_true, List.all_eq_true, decide_eq_true_eq]
    refine ⟨⟨⟨?_, ?_⟩, .inl ?_⟩, by simpa using hz⟩
    · intro a ha
      obtain ⟨x, _, rfl⟩ := List.mem_map.mp ha
      unfold lpD
      simp [dn_pl 58 x]
    · intro a ha b hb
      obtain ⟨x, _, rfl⟩ := List.mem_map.mp ha
      obtain ⟨y, _, rfl⟩ := List.mem_map.mp hb
      unfold lpD
      simp [PySem.W.alike, PySem.W.alikeAll, alike_pl x y]
    · intro a ha
      obtain ⟨x, _, rfl⟩ := List.mem_map.mp ha
      rfl
  unfold sortedD
  simp only
  rw [if_pos ok]
  unfold sortL
  rw [List.mergeSort_of_pairwise]
  rw [List.pairwise_map]
  refine (chain_pw h).imp fun {a b} ⟨_, hl⟩ => ?_
  show (!PySem.W.dataLt (lpD b) (lpD a)) = true
  unfold lpD
  rw [PySem.W.dataLt_pair (by simp [PySem.W.alike]) (alike_pl _ _)]
  have e1 : PyData.eqv (.int (b.length : Nat)) (.int (a.length : Nat)) = false := by
    simp [PyData.eqv]; omega
  rw [e1, if_neg Bool.false_ne_true, PySem.W.dataLt_int]
  simp; omega
end KL
end
section
open PySem PySem.Spec PyProof.Rows L2 VS
namespace KL
mutual
theorem trs_sz : ∀ t : T, ∀ q ∈ trs t, hT q.2 ≤ hT t ∧ zT q.2 ≤ zT t
  | .win s, q, hq => by simp [trs] at hq; subst hq; simp
  | .nd k n cs, q, hq => by
    rw [trs] at hq
    rcases List.mem_cons.mp hq with e | hq
    · subst e; simp
    · have := trC_sz cs 0 q hq
      simp [hT, zT]; omega
theorem trC_sz : ∀ (cs : List (Int × T)) (p : Nat), ∀ q ∈ trC p cs, hT q.2 ≤ hC cs ∧ zT q.2 ≤ zC cs
  | [], p, q, hq => by simp [trC] at hq
  | (w, t) :: r, p, q, hq => by
    rw [trC] at hq
    rcases List.mem_append.mp hq with hq | hq
    · obtain ⟨q', hq', e⟩ := List.mem_map.mp hq
      subst e
      have := trs_sz t q' hq'
      simp [hC, zC]; omega
    · have := trC_sz r (p + 1) q hq
      simp [hC, zC]; omega
end
theorem chT_ne (ns : List Str) (t : T) : (chT ns t).map (·.1) ≠ [] := by cases t <;> simp [chT]
/-- the place of the least tree with some names -/
def lastP (ns : List Str) (t : T) : List Nat := ((chT ns t).map (·.1)).getLast (chT_ne ns t)
section
variable (ns : List Str) (nm : PyData) (hn : itemsD nm = .ok (ns.map .str)) (hl : ns.length ≤ 1000)
include hn hl
theorem s_holds (k : Nat) (u : T) (hk : hT u + 3 ≤ k) (hz : zT u ≤ 100000) : den k I__holds [.sh (enc u), .sh nm] = .ok (.bool (holdsB ns u)) := by
  have hs : sizeLine = 16777216 := sz_line
  obtain ⟨k', rfl⟩ : ∃ k', k = k' + 1 := ⟨k - 1, by omega⟩
  rw [den__holds]
  have e1 := s_names u k' (by omega) (by omega)
  have e2 : lcL (bN 3) yesT (d2 inD (gS 3) (gS 2)) [.sh (enc u), .sh nm, .sh (.list ((nmT u).map .str)), .no] (ns.map .str) = .ok (ns.map fun s => .bool (decide (s ∈ nmT u))) := lcL_all _ _ _ fun s _ => ⟨_, rfl, by simp [in_strL]⟩
  simp [b_19, e1, hn]
  rw [if_pos (by omega), e2]
  simp only [bnd_ok, all_b]
  rfl
theorem s_common {t : T} (G : GL t) (h0 : ns ≠ []) (hh : holdsB ns t = true) (k : Nat) (hk : 20 ≤ k) : den k I__common [.sh (enc t), .sh nm] = .ok (plD (lastP ns t)) := by
  have hs : sizeLine = 16777216 := sz_line
  have := G.h
  have gz := G.z
  obtain ⟨k', rfl⟩ : ∃ k', k = k' + 1 := ⟨k - 1, by omega⟩
  have e0 : den (k' + 1) I__common [.sh (enc t), .sh nm] = outR (b_20 (den k') [.sh (enc t), .sh nm, .no]) := den__common _ _
  rw [e0]
  have e1 := s_places k' t (by omega) (by omega)
  obtain ⟨k2, rfl⟩ : ∃ k2, k' = k2 + 2 := ⟨k' - 2, by omega⟩
  have e2 : lcL (bN 2) (tB1 (dA (argsF [(dA (argsF [(gS 0), (gS 2)]) (cD (den (k2 + 2) I_tree_in))), (gS 1)]) (cD (den (k2 + 2) I__holds)))) (gS 2) [.sh (enc t), .sh nm, .no] ((trs t).map fun q => plD q.1) = .ok (((trs t).filter fun q => holdsB ns q.2).map fun q => plD q.1) := by
    refine lcL_on _ _ _ _ fun q hq => ⟨_, rfl, ?_, fun _ => by simp⟩
    have sz := trs_sz t q hq
    have a1 := s_tin k2 t q.2 q.1 (by omega) (tAt_in (hT t) t (Nat.le_refl _) q hq)
    have a2 := s_holds ns nm hn hl (k2 + 2) q.2 (by omega) (by omega)
    simp [a1, a2]
  rw [flt_ch h0 t G.nd hh] at e2
  have e3 : (chT ns t).map (fun q => plD q.1) = ((chT ns t).map (·.1)).map plD := by rw [List.map_map]; rfl
  rw [e3] at e2
  have e4 := ev_max_chain (chT_ne ns t) (ch_chain ns t)
  have eb : b_20 (den (k2 + 2)) = (retS (dA (argsF [(lcD ([2]) (d1L itemsD (dA (argsF [(gS 0)]) (cD (den (k2 + 2) I_all_places)))) (bN 2) (tB1 (dA (argsF [(dA (argsF [(gS 0), (gS 2)]) (cD (den (k2 + 2) I_tree_in))), (gS 1)]) (cD (den (k2 + 2) I__holds)))) (gS 2))]) maxL)) := rfl
  rw [eb]
  have l1 := trs_len t
  simp only [ev_ret, ev_dA, ev_args, ev_args0, ev_lc, ev_d1L, gS_zero, bnd_ok, ev_cD, List.map_cons, List.map_nil, e1, ev_items_l]
  rw [if_pos (by rw [List.length_map]; omega)]
  simp only [ev_wipe, ev_wipe0, List.set_cons_succ, List.set_cons_zero, e2, bnd_ok]
  rw [e4]
  rfl
theorem s_lcommon {t : T} (G : GL t) (h0 : ns ≠ []) (hh : holdsB ns t = true) (k : Nat) (hk : 20 ≤ k) : den k I__law_common [.sh (enc t), .sh nm] = .ok (plD (lastP ns t)) := by
  have hs : sizeLine = 16777216 := sz_line
  have := G.h
  have gz := G.z
  obtain ⟨k', rfl⟩ : ∃ k', k = k' + 1 := ⟨k - 1, by omega⟩
  have e0 : den (k' + 1) I__law_common [.sh (enc t), .sh nm] = outR (b_30 (den k') [.sh (enc t), .sh nm, .no, .no, .no, .no]) := den__law_common _ _
  rw [e0]
  have e1 := s_ltrees k' t [] (by omega) (by omega) (by simp; omega)
  have e2 : lcL (bT 2 (bCons (bN 3) (bCons (bN 4) bNil))) (tB1 (dA (argsF [(lcD ([5]) (d1L itemsD (gS 1)) (bN 5) yesT (d2 inD (gS 5) (dA (argsF [(gS 4)]) (cD (den k' I__law_wins)))))]) allD)) (dA (argsF [(dA (argsF [(gS 3)]) lenD), (gS 3)]) tupD) [.sh (enc t), .sh nm, .no, .no, .no, .no] ((trs t).map (trD [])) = .ok (((trs t).filter fun q => holdsB ns q.2).map fun q => lpD q.1) := by
    refine lcL_on _ _ _ _ fun q hq => ⟨[.sh (enc t), .sh nm, .no, .sh (plD q.1), .sh (enc q.2), .no], by simp [trD], ?_, fun _ => by simp [lpD, plD]⟩
    have sz := trs_sz t q hq
    have a1 := s_lnames q.2 k' (by omega) (by omega)
    have a2 : lcL (bN 5) yesT (d2 inD (gS 5) (dA (argsF [(gS 4)]) (cD (den k' I__law_wins)))) [.sh (enc t), .sh nm, .no, .sh (plD q.1), .sh (enc q.2), .no] (ns.map .str) = .ok (ns.map fun s => .bool (decide (s ∈ nmT q.2))) := lcL_all _ _ _ fun s _ => ⟨_, rfl, by simp [a1, in_strL]⟩
    simp only [ev_tB1, ev_dA, ev_args, ev_args0, ev_lc, ev_d1L, gS_succ, gS_zero, bnd_ok, hn]
    rw [if_pos (by rw [List.length_map]; omega)]
    simp only [ev_wipe, ev_wipe0, List.set_cons_succ, List.set_cons_zero, a2, bnd_ok, all_b, ev_asB]
    rfl
  rw [flt_ch h0 t G.nd hh] at e2
  have e3 : (chT ns t).map (fun q => lpD q.1) = ((chT ns t).map (·.1)).map lpD := by rw [List.map_map]; rfl
  rw [e3] at e2
  have l1 := trs_len t
  have l2 : ((chT ns t).map (·.1)).length ≤ (trs t).length := by
    rw [List.length_map, ← flt_ch h0 t G.nd hh]
    exact List.length_filter_le _ _
  have e4 := ev_sort_chain (ch_chain ns t) (by omega)
  have ep : (plD [] : PyData) = .tuple [] := rfl
  rw [ep] at e1
  have e5 : atI (((chT ns t).map (·.1)).map lpD) (-1) = some (lpD (lastP ns t)) := by
    have := List.dropLast_concat_getLast (chT_ne ns t)
    rw [← this, List.map_append]
    exact atI_last _ _
  have eb : b_30 (den k') = (seqS (setS 2 (dA (argsF [(lcD ([3, 4]) (d1L itemsD (dA (argsF [(gS 0), (dA (argsF []) tupD)]) (cD (den k' I__law_trees)))) (bT 2 (bCons (bN 3) (bCons (bN 4) bNil))) (tB1 (dA (argsF [(lcD ([5]) (d1L itemsD (gS 1)) (bN 5) yesT (d2 inD (gS 5) (dA (argsF [(gS 4)]) (cD (den k' I__law_wins)))))]) allD)) (dA (argsF [(dA (argsF [(gS 3)]) lenD), (gS 3)]) tupD))]) sortedA)) (retS (d2 ixD (d2 ixD (gS 2) (d1 negI (kC (.int 1)))) (kC (.int 1))))) := rfl
  rw [eb]
  simp only [ev_seq, ev_set, ev_dA, ev_args, ev_args0, ev_lc, ev_d1L, gS_zero, bnd_ok, ev_tup0, ev_cD, List.map_cons, List.map_nil, e1, ev_items_l]
  rw [if_pos (by rw [List.length_map]; omega)]
  simp only [ev_wipe, ev_wipe0, List.set_cons_succ, List.set_cons_zero, e2, bnd_ok, ev_sortA_l, e4, toS_ok, rsb_nx, ev_ret, ev_d2, ev_d1, gS_succ, gS_zero, ev_k]
  have en : negI (.int 1) = .ok (.int (-1)) := rfl
  simp only [en, bnd_ok, ix_l, e5, ofO_some]
  unfold lpD
  simp
end
theorem s_ctree (ns : List Str) (ha : ascS ns = true) (hl : ns.length ≤ 1000) (h0 : ns ≠ []) {t : T} (G : GL t) (hh : holdsB ns t = true) (k : Nat) (hk : 30 ≤ k) : den k I_common_tree [.sh (enc t), .sh (.tuple (ns.map .str))] = .ok (plD (lastP ns t)) := by
  have := G.h
  have := G.z
  obtain ⟨k', rfl⟩ : ∃ k', k = k' + 1 := ⟨k - 1, by omega⟩
  rw [den_common_tree]
  have e1 := s_chk G k' (by omega)
  have e3 := s_holds ns (.tuple (ns.map .str)) rfl hl k' t (by omega) (by omega)
  have e4 := s_common ns (.tuple (ns.map .str)) rfl hl G h0 hh k' (by omega)
  obtain ⟨k2, rfl⟩ : ∃ k2, k' = k2 + 2 := ⟨k' - 2, by omega⟩
  have e2 := s_check_names k2 ns (by omega) ha
  rw [hh] at e3
  simp [b_21, e1, e2, e3, e4, h0]
theorem s_ctreeN (ns : List Str) (ha : ascS ns = true) (hl : ns.length ≤ 1000) {t : T} (G : GL t) (hh : ns = [] ∨ holdsB ns t = false) (k : Nat) (hk : 30 ≤ k) : den k I_common_tree [.sh (enc t), .sh (.tuple (ns.map .str))] = .ex (.mk "BadNames" []) := by
  have := G.h
  have := G.z
  obtain ⟨k', rfl⟩ : ∃ k', k = k' + 1 := ⟨k - 1, by omega⟩
  rw [den_common_tree]
  have e1 := s_chk G k' (by omega)
  have e3 := s_holds ns (.tuple (ns.map .str)) rfl hl k' t (by omega) (by omega)
  obtain ⟨k2, rfl⟩ : ∃ k2, k' = k2 + 2 := ⟨k' - 2, by omega⟩
  have e2 := s_check_names k2 ns (by omega) ha
  rcases hh with rfl | hh
  · simp [b_21, e1, e2] at e2 ⊢
    simp [e2]
  · rw [hh] at e3
    by_cases h0 : ns = []
    · subst h0
      simp at e2
      simp [b_21, e1, e2]
    · simp [b_21, e1, e2, e3, h0]
/-- the law's kind of a tree -/
theorem s_together {t : T} (G : GL t) (a b : Str) (ha : a ∈ nmT t) (hb : b ∈ nmT t) (oa : okName a = true) (ob : okName b = true) (k : Nat) (hk : 30 ≤ k) :
    (a ≠ b → ∀ u, tAt t (lastP [a, b] t) = some u → den k I_together [.sh (enc t), .sh (.str a), .sh (.str b)] = .ok (.str (wd u))) ∧ (a = b → den k I_together [.sh (enc t), .sh (.str a), .sh (.str b)] = .ex (.mk "BadNames" [])) := by
  have := G.h
  have := G.z
  obtain ⟨k', rfl⟩ : ∃ k', k = k' + 1 := ⟨k - 1, by omega⟩
  rw [den_together]
  have e1 := s_chk G k' (by omega)
  have e2 := s_nms G k' (by omega)
  obtain ⟨k2, rfl⟩ : ∃ k2, k' = k2 + 2 := ⟨k' - 2, by omega⟩
  have na := s_is_name (k2 + 1) a oa
  have nb := s_is_name (k2 + 1) b ob
  have hh : holdsB [a, b] t = true := by simp [holdsB, ha, hb]
  have e4 := s_common [a, b] (.tuple [.str a, .str b]) rfl (by simp) G (by simp) hh (k2 + 2) (by omega)
  have ia : notInD (.str a) (.list ((nmT t).map .str)) = .ok (.bool false) := by unfold notInD; rw [in_strL, decide_eq_true ha]; rfl
  have ib : notInD (.str b) (.list ((nmT t).map .str)) = .ok (.bool false) := by unfold notInD; rw [in_strL, decide_eq_true hb]; rfl
  refine ⟨fun hne u hu => ?_, fun e => ?_⟩
  · have e5 := s_tin k2 t u (lastP [a, b] t) (by omega) hu
    simp [b_22, e1, goS, na, nb, e2, ia, ib, hne, e4, e5, ix0_enc]
  · subst e
    simp [b_22, e1, goS, na, e2, ia]
end KL
end
section
open PySem PySem.Spec PyProof.Rows L2 VS
namespace KL
/-! ### drawn layouts -/
theorem cut_ab (xs : List PyData) (a b : Nat) (h : a ≤ b) (hb : b ≤ xs.length) : cutD xs (some (a : Int)) (some (b : Int)) = (xs.drop a).take (b - a) := by
  unfold VS.cutD
  rw [HT.sIx_nat, HT.sIx_nat]
  rw [Nat.min_eq_left hb, Nat.min_eq_left (Nat.le_trans h hb)]
theorem dr_at {ds : List Int} (ok : okDr ds) {i : Int} (h0 : 0 ≤ i) (h1 : i < ds.length) : ixD (I2 ds) (.int i) = .ok (.int (ds.getD i.toNat 0)) ∧ 0 ≤ ds.getD i.toNat 0 ∧ ds.getD i.toNat 0 < 65521 := by
  obtain ⟨n, rfl⟩ : ∃ n : Nat, i = n := ⟨i.toNat, by omega⟩
  have hn : n < ds.length := by omega
  have e : (ds.map PyData.int)[n]? = some (.int ds[n]) := by rw [List.getElem?_map, List.getElem?_eq_getElem hn]; rfl
  have a := at_nat e
  have := ok ds[n] (List.getElem_mem hn)
  have eg : ds.getD n 0 = ds[n] := by rw [List.getD_eq_getElem?_getD, List.getElem?_eq_getElem hn]; rfl
  rw [Int.toNat_natCast, eg]
  exact ⟨by simp [a], this.1, this.2⟩
/-- a draw, around -/
def drw (ds : List Int) (i : Int) : Int := ds.getD (i % (ds.length : Nat)).toNat 0
theorem dr_mod {ds : List Int} (ok : okDr ds) (hl : 0 < ds.length) (i : Int) : ixD (I2 ds) (.int (i % (ds.length : Nat))) = .ok (.int (drw ds i)) ∧ 0 ≤ drw ds i ∧ drw ds i < 65521 :=
  dr_at ok (Int.emod_nonneg _ (by omega)) (Int.emod_lt_of_pos _ (by omega))
def barS : Option Kd → Str
  | none => ""
  | some k => kdS k
def waysOf (bar : Option Kd) : List Kd := [Kd.row, .col, .tabs].filter fun k => decide (some k ≠ bar)
theorem ways_ne (bar : Option Kd) : waysOf bar ≠ [] := by
  cases bar with
  | none => decide
  | some k => cases k <;> decide
theorem ways_mem {bar : Option Kd} {k : Kd} (h : k ∈ waysOf bar) : some k ≠ bar := by
  unfold waysOf at h
  have := (List.mem_filter.mp h).2
  simpa using this
def wz (g : Nat → Int) : Nat → List T → Cs
  | _, [] => []
  | i, t :: r => (g i, t) :: wz g (i + 1) r
theorem wz_len (g : Nat → Int) : ∀ (i : Nat) (ts : List T), (wz g i ts).length = ts.length
  | _, [] => rfl
  | i, t :: r => by simp [wz, wz_len g (i + 1) r]
theorem wz_mem (g : Nat → Int) : ∀ (i : Nat) (ts : List T), ∀ p ∈ wz g i ts, p.2 ∈ ts ∧ ∃ j, p.1 = g j
  | _, [], p, h => by simp [wz] at h
  | i, t :: r, p, h => by
    rcases List.mem_cons.mp h with e | h
    · subst e; exact ⟨List.mem_cons_self, i, rfl⟩
    · have := wz_mem g (i + 1) r p h
      exact ⟨List.mem_cons_of_mem _ this.1, this.2⟩
theorem wz_nm (g : Nat → Int) : ∀ (i : Nat) (ts : List T), nmC (wz g i ts) = (ts.map nmT).flatten
  | _, [] => by simp [wz, nmC]
  | i, t :: r => by simp [wz, nmC, wz_nm g (i + 1) r]
theorem wz_h (g : Nat → Int) (m : Nat) : ∀ (i : Nat) (ts : List T), (∀ t ∈ ts, hT t ≤ m) → hC (wz g i ts) ≤ m
  | _, [], _ => by simp [wz, hC]
  | i, t :: r, h => by
    have a := h t List.mem_cons_self
    have b := wz_h g m (i + 1) r fun u hu => h u (List.mem_cons_of_mem _ hu)
    simp [wz, hC]; omega
theorem wz_T (g : Nat → Int) : ∀ (i : Nat) (ts : List T), encT (wz g i ts) = ts.map enc
  | _, [] => by simp [wz, encT]
  | i, t :: r => by simp [wz, encT, wz_T g (i + 1) r]
theorem wz_P (g : Nat → Int) : ∀ (i : Nat) (ts : List T), encP (wz g i ts) = (ts.zipIdx i).map fun p => .tuple [.int (g p.2), enc p.1]
  | _, [] => by simp [wz, encP]
  | i, t :: r => by simp [wz, encP, wz_P g (i + 1) r]
theorem q_le {j m L : Nat} (hm : 0 < m) (h : j ≤ m) : j * L / m ≤ L := by
  refine (Nat.div_le_iff_le_mul_add_pred hm).mpr ?_
  have : j * L ≤ m * L := Nat.mul_le_mul_right _ h
  omega
theorem q_lt {j m L : Nat} (hm : 0 < m) (h : m ≤ L) : j * L / m < (j + 1) * L / m := by
  have e : (j + 1) * L = j * L + L := by rw [Nat.add_mul]; simp
  have : j * L / m + 1 = (j * L + m) / m := by rw [Nat.add_div_right _ hm]
  have : (j * L + m) / m ≤ (j * L + L) / m := Nat.div_le_div_right (by omega)
  rw [e]; omega
/-- what a drawn tree is -/
structure DT (bar : Option Kd) (ns : List Str) (r : Nat) (t : T) : Prop where
  g : gT t
  k : ∀ k, bar = some k → kdO t ≠ some k
  h : hT t + 1 ≤ r
  n : (nmT t).Sublist ns
def gtB (c : Nat → List Sl → Re PyData) : Dl → RS := (seqS (setS 13 (dSl slA (gS 4) (someP (d2 fdivI (d2 mulI (gS 12) (dA (argsF [(gS 4)]) lenD)) (gS 10))) (someP (d2 fdivI (d2 mulI (d2 addD (gS 12) (kC (.int 1))) (dA (argsF [(gS 4)]) lenD)) (gS 10))))) (appS 11 (dA (argsF [(gS 0), (d2 addD (d2 addD (gS 1) (kC (.int 2))) (d2 mulI (kC (.int 5)) (gS 12))), (d2 subD (gS 2) (kC (.int 1))), (gS 9), (gS 13)]) (cD (c I__law_tree)))))
def gtL : Dl → Re PyData := (lcD ([12]) (dAL (argsF [(gS 10)]) rng1D) (bN 12) yesT (dA (argsF [(d2 addD (kC (.int 1)) (d2 modI (dA (argsF [(d2 ixD (gS 0) (d2 modI (d2 addD (d2 addD (gS 1) (kC (.int 3))) (gS 12)) (gS 5)))]) intD) (d2 ixD (dA (argsF [(kC (.int 3)), (kC (.int 12))]) lstD) (d2 modI (d2 fdivI (gS 7) (kC (.int 4))) (kC (.int 2)))))), (d2 ixD (gB 11) (gS 12))]) tupD))
theorem gt_eq (c : Nat → List Sl → Re PyData) : b_24 c = (seqS (setS 5 (dA (argsF [(gS 0)]) lenD)) (seqS (parS [6, 7] (argsM [(false, (dA (argsF [(d2 ixD (gS 0) (d2 modI (gS 1) (gS 5)))]) intD)), (false, (dA (argsF [(d2 ixD (gS 0) (d2 modI (d2 addD (gS 1) (kC (.int 1))) (gS 5)))]) intD))])) (seqS (setS 8 (lcD ([14]) (d1L itemsD (dA (argsF [(kC (.str "row")), (kC (.str "col")), (kC (.str "tabs"))]) tupD)) (bN 14) (tB1 (d2 neD (gS 14) (gS 3))) (gS 14))) (seqS (ifS (tOr2 (tB1 (d2 ltD (gS 2) (kC (.int 2)))) (tOr2 (tB1 (d2 ltD (dA (argsF [(gS 4)]) lenD) (kC (.int 2)))) (tB1 (d2 eqD (d2 modI (gS 6) (kC (.int 5))) (kC (.int 0)))))) (retS (dA (argsF [(kC (.str "win")), (d2 ixD (gS 4) (kC (.int 0)))]) tupD)) nxS) (seqS (setS 9 (d2 ixD (gS 8) (d2 modI (d2 fdivI (gS 6) (kC (.int 4))) (dA (argsF [(gS 8)]) lenD)))) (seqS (setS 10 (dA (argsF [(dA (argsF [(gS 4)]) lenD), (d2 addD (d2 addD (dA (argsF [(d2 neD (gS 9) (kC (.str "tabs")))]) intD) (kC (.int 1))) (d2 modI (gS 7) (kC (.int 3))))]) min2D)) (seqS (setO 11 (dA (argsF []) lstD)) (seqS (forS (dAL (argsF [(gS 10)]) rng1D) (bN 12) (gtB c)) (seqS (ifS (tB1 (d2 eqD (gS 9) (kC (.str "tabs")))) (retS (dA (argsF [(kC (.str "tabs")), (d2 modI (d2 fdivI (gS 7) (kC (.int 8))) (gS 10)), (dA (argsF [(gB 11)]) tupOfD)]) tupD)) nxS) (retS (dA (argsF [(gS 9), (dA (argsF [gtL]) tupOfD)]) tupD))))))))))) := rfl
theorem ev_ways (bar : Option Kd) (x0 x1 x2 x4 x5 x6 x7 x8 x9 x10 x11 x12 x13 x14 : Sl) : lcL (bN 14) (tB1 (d2 neD (gS 14) (gS 3))) (gS 14) [x0, x1, x2, .sh (.str (barS bar)), x4, x5, x6, x7, x8, x9, x10, x11, x12, x13, x14] [.str "row", .str "col", .str "tabs"] = .ok ((waysOf bar).map fun k => .str (kdS k)) := by
  have := lcL_on (b := bN 14) (t := (tB1 (d2 neD (gS 14) (gS 3)))) (e := gS 14) (δ := [x0, x1, x2, .sh (.str (barS bar)), x4, x5, x6, x7, x8, x9, x10, x11, x12, x13, x14]) (fun k : Kd => PyData.str (kdS k)) (fun k => decide (some k ≠ bar)) (fun k => .str (kdS k)) [Kd.row, .col, .tabs] fun k _ => ⟨_, rfl, by
    cases bar with
    | none => cases k <;> simp (decide := true) [barS, kdS]
    | some b => cases k <;> cases b <;> simp (decide := true) [barS, kdS], fun _ => by simp⟩
  exact this
end KL
end
section
open PySem PySem.Spec PyProof.Rows L2 VS
namespace KL
abbrev GS (ds : List Int) (a r : Int) (bar : Option Kd) (ns : List Str) (s5 s6 s7 s8 s9 s10 s11 s12 s13 : Sl) : Dl := [.sh (I2 ds), .sh (.int a), .sh (.int r), .sh (.str (barS bar)), .sh (.list (ns.map .str)), s5, s6, s7, s8, s9, s10, s11, s12, s13, .no]
def ownN (ns : List Str) (m j : Nat) : List Str := (ns.drop (j * ns.length / m)).take ((j + 1) * ns.length / m - j * ns.length / m)
theorem gtB_ev (c : Nat → List Sl → Re PyData) (ds : List Int) (a r : Int) (bar : Option Kd) (ns : List Str) (hn : ns.length ≤ 100) (m : Nat) (hm : 0 < m) (hm1 : m ≤ 4) (hml : m ≤ ns.length) (kd : Kd) (j : Nat) (hj : j < m) (ts : List T) (hts : ts.length ≤ 100) (s5 s6 s7 s8 s13 : Sl) (t : T)
    (ht : c I__law_tree [.sh (I2 ds), .sh (.int (a + 2 + 5 * (j : Nat))), .sh (.int (r - 1)), .sh (.str (kdS kd)), .sh (.list ((ownN ns m j).map .str))] = .ok (enc t)) :
    ∃ s13', gtB c (GS ds a r bar ns s5 s6 s7 s8 (.sh (.str (kdS kd))) (.sh (.int (m : Nat))) (.ow (.list (ts.map enc))) (.sh (.int (j : Nat))) s13) = .nx (GS ds a r bar ns s5 s6 s7 s8 (.sh (.str (kdS kd))) (.sh (.int (m : Nat))) (.ow (.list ((ts ++ [t]).map enc))) (.sh (.int (j : Nat))) s13') := by
  have hs : sizeLine = 16777216 := sz_line
  refine ⟨.sh (.list ((ownN ns m j).map .str)), ?_⟩
  have l1 : (j + 1) * ns.length / m ≤ ns.length := q_le hm (by omega)
  have l0 : j * ns.length / m ≤ (j + 1) * ns.length / m := Nat.div_le_div_right (Nat.mul_le_mul_right _ (by omega))
  have m1 : mulI (.int (j : Nat)) (.int (ns.length : Nat)) = .ok (.int ((j * ns.length : Nat) : Int)) := by rw [ev_mul (.inl (by omega))]; simp
  have m2 : mulI (.int ((j : Int) + 1)) (.int (ns.length : Nat)) = .ok (.int (((j + 1) * ns.length : Nat) : Int)) := by rw [ev_mul (.inl (by omega))]; simp
  have d1 : ∀ x : Nat, fdivI (.int (x : Nat)) (.int (m : Nat)) = .ok (.int ((x / m : Nat) : Int)) := fun x => by rw [ev_fdiv (by omega)]; simp
  have ec := cut_ab (ns.map PyData.str) (j * ns.length / m) ((j + 1) * ns.length / m) l0 (by simpa using l1)
  have e1 : (setS 13 (dSl slA (gS 4) (someP (d2 fdivI (d2 mulI (gS 12) (dA (argsF [(gS 4)]) lenD)) (gS 10))) (someP (d2 fdivI (d2 mulI (d2 addD (gS 12) (kC (.int 1))) (dA (argsF [(gS 4)]) lenD)) (gS 10))))) (GS ds a r bar ns s5 s6 s7 s8 (.sh (.str (kdS kd))) (.sh (.int (m : Nat))) (.ow (.list (ts.map enc))) (.sh (.int (j : Nat))) s13) = .nx (GS ds a r bar ns s5 s6 s7 s8 (.sh (.str (kdS kd))) (.sh (.int (m : Nat))) (.ow (.list (ts.map enc))) (.sh (.int (j : Nat))) (.sh (.list ((ownN ns m j).map .str)))) := by
    simp only [ev_set, dSl, gS_succ, gS_zero, bnd_ok, someP, ev_d2, ev_dA, ev_args, ev_args0, ev_lenL, List.length_map, m1, d1, ev_k, ev_addI, m2, asI, slA, ec, toS_ok, List.set_cons_succ, List.set_cons_zero]
    unfold ownN
    rw [List.map_take, List.map_drop]
  have m5 : mulI (.int 5) (.int (j : Nat)) = .ok (.int (5 * (j : Nat))) := ev_mul (.inl (by omega))
  unfold gtB
  rw [ev_seq, e1, rsb_nx]
  rw [ev_app (xs := ts.map enc) (d := enc t) rfl (by
    simp only [ev_dA, ev_args, ev_args0, gS_succ, gS_zero, bnd_ok, ev_d2, ev_k, ev_addI, m5, ev_subI, ev_cD, List.map_cons, List.map_nil]
    exact ht) (by rw [List.length_map]; omega)]
  simp
theorem gC_wz {k : Kd} (g : Nat → Int) (hg : ∀ i, gW k (g i)) (ts : List T) (h : ∀ t ∈ ts, gT t ∧ kdO t ≠ some k) : gC k (wz g 0 ts) := gC_of _ fun p hp => by
  obtain ⟨h1, j, h2⟩ := wz_mem g 0 ts p hp
  exact ⟨(h _ h1).1, (h _ h1).2, by rw [h2]; exact hg j⟩
theorem s_gtree (ds : List Int) (hl : 0 < ds.length) (ok : okDr ds) : ∀ (k r : Nat) (a : Int) (bar : Option Kd) (ns : List Str), 1 ≤ r → r ≤ k → r ≤ 100 → ns ≠ [] → ns.length ≤ 100 → (∀ s ∈ ns, okName s = true) →
    ∃ t, den k I__law_tree [.sh (I2 ds), .sh (.int a), .sh (.int (r : Nat)), .sh (.str (barS bar)), .sh (.list (ns.map .str))] = .ok (enc t) ∧ DT bar ns r t
  | 0, r, a, bar, ns, h, h', _, _, _, _ => by omega
  | k + 1, r, a, bar, ns, hr, hk, hr2, h0, hn, hok => by
    have hs : sizeLine = 16777216 := sz_line
    have e0 : den (k + 1) I__law_tree [.sh (I2 ds), .sh (.int a), .sh (.int (r : Nat)), .sh (.str (barS bar)), .sh (.list (ns.map .str))] = outR (b_24 (den k) (GS ds a (r : Nat) bar ns .no .no .no .no .no .no .no .no .no)) := den__law_tree _ _
    rw [e0, gt_eq]
    have hl' : (0 : Int) < (ds.length : Nat) := by omega
    obtain ⟨n1, n2, n3⟩ := dr_mod ok hl a
    obtain ⟨q1, q2, q3⟩ := dr_mod ok hl (a + 1)
    generalize drw ds a = num at n1 n2 n3
    generalize drw ds (a + 1) = more at q1 q2 q3
    have hlen : 0 < ns.length := List.length_pos_iff.mpr h0
    have ew := ev_ways bar (.sh (I2 ds)) (.sh (.int a)) (.sh (.int (r : Nat))) (.sh (.list (ns.map .str))) (.sh (.int (ds.length : Nat))) (.sh (.int num)) (.sh (.int more)) .no .no .no .no .no .no .no
    have lw : (waysOf bar).length ≤ 3 := by unfold waysOf; exact List.length_filter_le _ _
    have lw0 : 0 < (waysOf bar).length := List.length_pos_iff.mpr (ways_ne bar)
    simp only [ev_seq, ev_set, ev_dA, ev_args, ev_args0, gS_zero, bnd_ok, ev_lenL, List.length_map, toS_ok, List.set_cons_succ, List.set_cons_zero, rsb_nx, ev_par, ev_argsMf, ev_argsM0, ev_d2, gS_succ, ev_mod hl', n1, ev_intI, ev_k, ev_addI, q1, List.length_cons, List.length_nil, if_true, ev_bindM, ev_bindM0, ev_lc, ev_d1L, ev_tup3, ev_items_t]
    rw [if_pos (by omega)]
    simp only [ev_wipe, ev_wipe0, List.set_cons_succ, List.set_cons_zero, ew, bnd_ok, toS_ok, rsb_nx]
    have ec : (tOr2 (tB1 (d2 ltD (gS 2) (kC (.int 2)))) (tOr2 (tB1 (d2 ltD (dA (argsF [(gS 4)]) lenD) (kC (.int 2)))) (tB1 (d2 eqD (d2 modI (gS 6) (kC (.int 5))) (kC (.int 0)))))) (GS ds a (r : Nat) bar ns (.sh (.int (ds.length : Nat))) (.sh (.int num)) (.sh (.int more)) (.sh (.list ((waysOf bar).map fun k => .str (kdS k)))) .no .no .no .no .no) = .ok (decide (r < 2) || (decide (ns.length < 2) || decide (num % 5 = 0))) := by
      have m5 : modI (.int num) (.int 5) = .ok (.int (num % 5)) := ev_mod (by decide)
      have c1 : decide ((r : Int) < 2) = decide (r < 2) := by congr 1; simp; omega
      have c2 : decide ((ns.length : Int) < 2) = decide (ns.length < 2) := by congr 1; simp; omega
      simp only [ev_tOr, ev_tB1, ev_d2, gS_succ, gS_zero, bnd_ok, ev_k, ev_ltI, ev_asB, ev_dA, ev_args, ev_args0, ev_lenL, List.length_map, m5, ev_eqI, c1, c2]
      cases decide (r < 2) <;> cases decide (ns.length < 2) <;> simp
    rw [ev_seq, ev_if, ec, toS_ok]
    by_cases hc : (decide (r < 2) || (decide (ns.length < 2) || decide (num % 5 = 0))) = true
    · rw [if_pos hc]
      obtain ⟨s, rest, rfl⟩ : ∃ s rest, ns = s :: rest := by cases ns with | nil => exact (h0 rfl).elim | cons s r => exact ⟨s, r, rfl⟩
      refine ⟨.win s, by simp [enc_win], ⟨by rw [gT]; exact hok s List.mem_cons_self, fun _ _ => by simp [kdO], by simp [hT]; omega, by simp [nmT]⟩⟩
    · rw [if_neg hc, ev_nx, rsb_nx]
      simp only [Bool.or_eq_true, decide_eq_true_eq, not_or] at hc
      obtain ⟨c1, c2, _⟩ := hc
      -- the way
      have lw' : (0 : Int) < ((waysOf bar).length : Nat) := by omega
      have f4 : fdivI (.int num) (.int 4) = .ok (.int (num / 4)) := ev_fdiv (by decide)
      obtain ⟨i, hi, ei⟩ : ∃ i : Nat, i < (waysOf bar).length ∧ num / 4 % ((waysOf bar).length : Nat) = (i : Int) := by
        have a1 := Int.emod_nonneg (num / 4) (show ((waysOf bar).length : Int) ≠ 0 by omega)
        have a2 := Int.emod_lt_of_pos (num / 4) lw'
        exact ⟨(num / 4 % ((waysOf bar).length : Nat)).toNat, by omega, by omega⟩
      obtain ⟨kd, ekd⟩ : ∃ kd, kd = (waysOf bar)[i] := ⟨_, rfl⟩
      have kdm : some kd ≠ bar := ways_mem (by rw [ekd]; exact List.getElem_mem hi)
      have ea : atI ((waysOf bar).map fun k => PyData.str (kdS k)) (i : Int) = some (.str (kdS kd)) := at_nat (by rw [List.getElem?_map, List.getElem?_eq_getElem hi, ekd]; rfl)
      -- how many
      have m3 : modI (.int more) (.int 3) = .ok (.int (more % 3)) := ev_mod (by decide)
      obtain ⟨m, em, hm1, hm2, hm3, hm4⟩ : ∃ m : Nat, min2D [.int (ns.length : Nat), .int ((if kd = .tabs then 0 else 1) + 1 + more % 3)] = .ok (.int (m : Nat)) ∧ 1 ≤ m ∧ m ≤ 4 ∧ m ≤ ns.length ∧ (kd ≠ .tabs → 2 ≤ m) := by
        have b1 := Int.emod_nonneg more (show (3 : Int) ≠ 0 by decide)
        have b2 := Int.emod_lt_of_pos more (show (0 : Int) < 3 by decide)
        unfold min2D
        simp only
        by_cases ht : kd = .tabs
        · rw [if_pos ht]
          split
          · exact ⟨(0 + 1 + more % 3).toNat, by congr 2; omega, by omega, by omega, by omega, fun h => (h ht).elim⟩
          · exact ⟨ns.length, rfl, by omega, by omega, Nat.le_refl _, fun _ => by omega⟩
        · rw [if_neg ht]
          split
          · exact ⟨(1 + 1 + more % 3).toNat, by congr 2; omega, by omega, by omega, by omega, fun _ => by omega⟩
          · exact ⟨ns.length, rfl, by omega, by omega, Nat.le_refl _, fun _ => by omega⟩
      have enw : (dA (argsF [(dA (argsF [(gS 4)]) lenD), (d2 addD (d2 addD (dA (argsF [(d2 neD (gS 9) (kC (.str "tabs")))]) intD) (kC (.int 1))) (d2 modI (gS 7) (kC (.int 3))))]) min2D) (GS ds a (r : Nat) bar ns (.sh (.int (ds.length : Nat))) (.sh (.int num)) (.sh (.int more)) (.sh (.list ((waysOf bar).map fun k => .str (kdS k)))) (.sh (.str (kdS kd))) .no .no .no .no) = .ok (.int (m : Nat)) := by
        have ib : intD [.bool (!decide (kdS kd = "tabs"))] = .ok (.int (if kd = .tabs then 0 else 1)) := by cases kd <;> rfl
        simp only [ev_dA, ev_args, ev_args0, gS_succ, gS_zero, bnd_ok, ev_lenL, List.length_map, ev_d2, ev_k, ev_neS, ib, ev_addI, m3, em]
      have rest : ∃ ts : List T, ts.length = m ∧ (∀ t ∈ ts, gT t ∧ kdO t ≠ some kd ∧ hT t + 2 ≤ r) ∧ ((ts.map nmT).flatten).Sublist ns ∧ ∃ s12 s13, goS (bN 12) (gtB (den k)) (nums m) (GS ds a (r : Nat) bar ns (.sh (.int (ds.length : Nat))) (.sh (.int num)) (.sh (.int more)) (.sh (.list ((waysOf bar).map fun k => .str (kdS k)))) (.sh (.str (kdS kd))) (.sh (.int (m : Nat))) (.ow (.list [])) .no .no)
          = .nx (GS ds a (r : Nat) bar ns (.sh (.int (ds.length : Nat))) (.sh (.int num)) (.sh (.int more)) (.sh (.list ((waysOf bar).map fun k => .str (kdS k)))) (.sh (.str (kdS kd))) (.sh (.int (m : Nat))) (.ow (.list (ts.map enc))) s12 s13) := by
        obtain ⟨δ', e, ts, s12, s13, t1, t2, t3, rfl⟩ := goS_inv0 (b := bN 12) (body := gtB (den k)) (ds := nums m) (δ := GS ds a (r : Nat) bar ns (.sh (.int (ds.length : Nat))) (.sh (.int num)) (.sh (.int more)) (.sh (.list ((waysOf bar).map fun k => .str (kdS k)))) (.sh (.str (kdS kd))) (.sh (.int (m : Nat))) (.ow (.list [])) .no .no)
          (fun j δ => ∃ (ts : List T) (s12 s13 : Sl), ts.length = j ∧ (∀ t ∈ ts, gT t ∧ kdO t ≠ some kd ∧ hT t + 2 ≤ r) ∧ ((ts.map nmT).flatten).Sublist (ns.take (j * ns.length / m)) ∧ δ = GS ds a (r : Nat) bar ns (.sh (.int (ds.length : Nat))) (.sh (.int num)) (.sh (.int more)) (.sh (.list ((waysOf bar).map fun k => .str (kdS k)))) (.sh (.str (kdS kd))) (.sh (.int (m : Nat))) (.ow (.list (ts.map enc))) s12 s13)
          ⟨[], .no, .no, rfl, (fun _ h => nomatch h), by simp, rfl⟩ (by
          rintro j d δ hj ⟨ts, s12, s13, t1, t2, t3, rfl⟩
          obtain ⟨hlt, rfl⟩ := nums_at hj
          have ql := q_lt (j := j) (m := m) (L := ns.length) (by omega) hm3
          have qe := q_le (j := j + 1) (m := m) (L := ns.length) (by omega) (by omega)
          have ow : ownN ns m j ≠ [] := by
            unfold ownN
            intro z
            have := congrArg List.length z
            simp at this
            omega
          have owl : (ownN ns m j).length ≤ 100 := by
            unfold ownN
            rw [List.length_take, List.length_drop]
            exact Nat.le_trans (Nat.min_le_right _ _) (Nat.le_trans (Nat.sub_le _ _) hn)
          have ows : (ownN ns m j).Sublist ns := (List.take_sublist _ _).trans (List.drop_sublist _ _)
          obtain ⟨t, et, D⟩ := s_gtree ds hl ok k (r - 1) (a + 2 + 5 * (j : Nat)) (some kd) (ownN ns m j) (by omega) (by omega) (by omega) ow owl fun s hs => hok s (ows.subset hs)
          have er : ((r - 1 : Nat) : Int) = (r : Int) - 1 := by omega
          rw [er] at et
          obtain ⟨s13', eb⟩ := gtB_ev (den k) ds a (r : Nat) bar ns hn m (by omega) hm2 hm3 kd j hlt ts (by omega) (.sh (.int (ds.length : Nat))) (.sh (.int num)) (.sh (.int more)) (.sh (.list ((waysOf bar).map fun k => .str (kdS k)))) s13 t et
          refine ⟨_, _, rfl, .inl eb, ts ++ [t], .sh (.int (j : Nat)), s13', by simp [t1], fun u hu => ?_, ?_, rfl⟩
          · rcases List.mem_append.mp hu with hu | hu
            · exact t2 u hu
            · have : u = t := by simpa using hu
              subst this
              exact ⟨D.g, D.k kd rfl, by have := D.h; omega⟩
          · rw [List.map_append, List.flatten_append]
            have e9 : ns.take ((j + 1) * ns.length / m) = ns.take (j * ns.length / m) ++ ownN ns m j := by
              unfold ownN
              have : (j + 1) * ns.length / m = j * ns.length / m + ((j + 1) * ns.length / m - j * ns.length / m) := by omega
              rw [this, List.take_add, ← this]
            rw [e9]
            exact t3.append (by simpa using D.n))
        have e8 : ns.take ((nums m).length * ns.length / m) = ns := by
          rw [nums_len, Nat.mul_div_cancel_left _ (by omega)]
          exact List.take_length
        rw [e8] at t3
        rw [nums_len] at t1
        exact ⟨ts, t1, t2, t3, s12, s13, e⟩
      obtain ⟨ts, t1, t2, t3, s12, s13, eg⟩ := rest
      have er : rng1D [PyData.int (m : Nat)] = .ok (nums m) := rng1_n _ (by omega)
      have ewy : (d2 ixD (gS 8) (d2 modI (d2 fdivI (gS 6) (kC (.int 4))) (dA (argsF [(gS 8)]) lenD))) (GS ds a (r : Nat) bar ns (.sh (.int (ds.length : Nat))) (.sh (.int num)) (.sh (.int more)) (.sh (.list ((waysOf bar).map fun k => .str (kdS k)))) .no .no .no .no .no) = .ok (.str (kdS kd)) := by
        simp only [ev_d2, gS_succ, gS_zero, bnd_ok, ev_k, f4, ev_dA, ev_args, ev_args0, ev_lenL, List.length_map, ev_mod lw', ei, ix_l, ea, ofO_some]
      rw [ev_seq, ev_set, ewy, toS_ok, rsb_nx, ev_seq, ev_set]
      simp only [List.set_cons_succ, List.set_cons_zero]
      rw [enw, toS_ok, rsb_nx]
      simp only [ev_seq, List.set_cons_succ, List.set_cons_zero, ev_setO, ev_dA, ev_args, ev_args0, bnd_ok, ev_lst0, toS_ok, rsb_nx, ev_for, ev_dAL, gS_succ, gS_zero, er]
      rw [eg, rsb_nx, ev_seq, ev_if]
      by_cases ht : kd = .tabs
      · have et : (tB1 (d2 eqD (gS 9) (kC (.str "tabs")))) (GS ds a (r : Nat) bar ns (.sh (.int (ds.length : Nat))) (.sh (.int num)) (.sh (.int more)) (.sh (.list ((waysOf bar).map fun k => .str (kdS k)))) (.sh (.str (kdS kd))) (.sh (.int (m : Nat))) (.ow (.list (ts.map enc))) s12 s13) = .ok true := by rw [ht]; simp [kdS]
        have f8 : fdivI (.int more) (.int 8) = .ok (.int (more / 8)) := ev_fdiv (by decide)
        have mm : modI (.int (more / 8)) (.int (m : Nat)) = .ok (.int (more / 8 % (m : Nat))) := ev_mod (by omega)
        have z1 := Int.emod_nonneg (more / 8) (show ((m : Nat) : Int) ≠ 0 by omega)
        have z2 := Int.emod_lt_of_pos (more / 8) (show (0 : Int) < ((m : Nat) : Int) by omega)
        refine ⟨.nd .tabs (more / 8 % (m : Nat)) (wz (fun _ => 0) 0 ts), ?_, ?_, ?_, ?_, ?_⟩
        · rw [et, toS_ok, if_pos rfl, enc_tabs, wz_T]
          simp [f8, mm]
        · rw [gT]
          subst ht
          exact ⟨gC_wz (k := .tabs) (fun _ => 0) (fun _ => by simp [gW]) ts fun t h => ⟨(t2 t h).1, (t2 t h).2.1⟩, z1, by rw [wz_len, t1]; exact z2, fun p hp => by obtain ⟨_, j, h2⟩ := wz_mem _ _ _ p hp; exact h2⟩
        · intro b hb
          simp only [kdO]
          intro z
          exact kdm (by rw [hb, ht]; exact z)
        · have := wz_h (fun _ => 0) (r - 2) 0 ts fun t h => by have := (t2 t h).2.2; omega
          simp [hT]; omega
        · rw [nmT, wz_nm]; exact t3
      · have et : (tB1 (d2 eqD (gS 9) (kC (.str "tabs")))) (GS ds a (r : Nat) bar ns (.sh (.int (ds.length : Nat))) (.sh (.int num)) (.sh (.int more)) (.sh (.list ((waysOf bar).map fun k => .str (kdS k)))) (.sh (.str (kdS kd))) (.sh (.int (m : Nat))) (.ow (.list (ts.map enc))) s12 s13) = .ok false := by cases kd <;> first | exact (ht rfl).elim | simp (decide := true) [kdS]
        obtain ⟨w, hw, ew⟩ : ∃ w : Int, (w = 3 ∨ w = 12) ∧ ixD (.list [.int 3, .int 12]) (.int (more / 4 % 2)) = .ok (.int w) := by
          have b1 := Int.emod_nonneg (more / 4) (show (2 : Int) ≠ 0 by decide)
          have b2 := Int.emod_lt_of_pos (more / 4) (show (0 : Int) < 2 by decide)
          rcases (show more / 4 % 2 = 0 ∨ more / 4 % 2 = 1 by omega) with e | e
          · exact ⟨3, .inl rfl, by rw [e]; simp⟩
          · exact ⟨12, .inr rfl, by rw [e]; simp⟩
        have f4' : fdivI (.int more) (.int 4) = .ok (.int (more / 4)) := ev_fdiv (by decide)
        have m2 : modI (.int (more / 4)) (.int 2) = .ok (.int (more / 4 % 2)) := ev_mod (by decide)
        have wp : 0 < w := by omega
        have eL : gtL (GS ds a (r : Nat) bar ns (.sh (.int (ds.length : Nat))) (.sh (.int num)) (.sh (.int more)) (.sh (.list ((waysOf bar).map fun k => .str (kdS k)))) (.sh (.str (kdS kd))) (.sh (.int (m : Nat))) (.ow (.list (ts.map enc))) s12 s13) = .ok (.list (encP (wz (fun i => 1 + drw ds (a + 3 + (i : Nat)) % w) 0 ts))) := by
          unfold gtL
          simp only [ev_lc, ev_dAL, ev_args, ev_args0, gS_succ, gS_zero, bnd_ok, er]
          rw [if_pos (by rw [nums_len]; omega)]
          have e7 : encP (wz (fun i => 1 + drw ds (a + 3 + (i : Nat)) % w) 0 ts) = (List.range m).map fun i => .tuple [.int (1 + drw ds (a + 3 + (i : Nat)) % w), enc (ts.getD i (.win ""))] := by
            rw [wz_P]
            apply List.ext_getElem?
            intro i
            rw [List.getElem?_map, List.getElem?_map, List.getElem?_zipIdx]
            by_cases h : i < ts.length
            · rw [List.getElem?_eq_getElem h, List.getElem?_eq_getElem (by simpa using (by omega : i < m))]
              simp [List.getD_eq_getElem?_getD, List.getElem?_eq_getElem h]
            · rw [List.getElem?_eq_none (by omega), List.getElem?_eq_none (by simp; omega)]
              rfl
          rw [e7]
          have e8 := lcL_all (b := bN 12) (e := (dA (argsF [(d2 addD (kC (.int 1)) (d2 modI (dA (argsF [(d2 ixD (gS 0) (d2 modI (d2 addD (d2 addD (gS 1) (kC (.int 3))) (gS 12)) (gS 5)))]) intD) (d2 ixD (dA (argsF [(kC (.int 3)), (kC (.int 12))]) lstD) (d2 modI (d2 fdivI (gS 7) (kC (.int 4))) (kC (.int 2)))))), (d2 ixD (gB 11) (gS 12))]) tupD)) (δ := GS ds a (r : Nat) bar ns (.sh (.int (ds.length : Nat))) (.sh (.int num)) (.sh (.int more)) (.sh (.list ((waysOf bar).map fun k => .str (kdS k)))) (.sh (.str (kdS kd))) (.sh (.int (m : Nat))) (.ow (.list (ts.map enc))) .no s13) (fun k : Nat => PyData.int (0 + (k : Nat))) (fun i => .tuple [.int (1 + drw ds (a + 3 + (i : Nat)) % w), enc (ts.getD i (.win ""))]) (List.range m) fun i hi => ⟨_, rfl, by
            have hi' : i < ts.length := by rw [t1]; simpa using hi
            obtain ⟨d1, d2, d3⟩ := dr_mod ok hl (a + 3 + (i : Nat))
            have ea : atI (ts.map enc) (i : Int) = some (enc (ts.getD i (.win ""))) := at_nat (by rw [List.getElem?_map, List.getElem?_eq_getElem hi']; simp [List.getD_eq_getElem?_getD, List.getElem?_eq_getElem hi'])
            have mw : modI (.int (drw ds (a + 3 + (i : Nat)))) (.int w) = .ok (.int (drw ds (a + 3 + (i : Nat)) % w)) := ev_mod wp
            simp only [Int.zero_add, List.set_cons_succ, List.set_cons_zero, ev_dA, ev_args, ev_args0, ev_d2, ev_k, bnd_ok, gS_succ, gS_zero, ev_addI, ev_mod hl', d1, ev_intI, ev_lst2, f4', m2, ew, mw, gB_succ, gB_zero', ix_l, ea, ofO_some, ev_tup2]⟩
          simp only [ev_wipe, ev_wipe0, List.set_cons_succ, List.set_cons_zero]
          unfold nums
          rw [e8]
          rfl
        have gw : ∀ i : Nat, gW kd (1 + drw ds (a + 3 + (i : Nat)) % w) := fun i => by
          unfold gW
          rw [if_neg ht]
          have b1 := Int.emod_nonneg (drw ds (a + 3 + (i : Nat))) (show w ≠ 0 by omega)
          have b2 := Int.emod_lt_of_pos (drw ds (a + 3 + (i : Nat))) wp
          omega
        refine ⟨.nd kd 0 (wz (fun i => 1 + drw ds (a + 3 + (i : Nat)) % w) 0 ts), ?_, ?_, ?_, ?_, ?_⟩
        · rw [et, toS_ok, if_neg Bool.false_ne_true, ev_nx, rsb_nx]
          simp only [ev_ret, ev_dA, ev_args, ev_args0, gS_succ, gS_zero, bnd_ok, eL, ev_tupOf, ev_tup2, toS_ok, outR_rt]
          cases kd with
          | row => rw [enc_row]; rfl
          | col => rw [enc_col]; rfl
          | tabs => exact (ht rfl).elim
        · rw [gT]
          refine ⟨gC_wz _ gw ts fun t h => ⟨(t2 t h).1, (t2 t h).2.1⟩, ?_⟩
          have hm5 := hm4 ht
          cases kd with
          | row => exact ⟨rfl, by rw [wz_len]; omega⟩
          | col => exact ⟨rfl, by rw [wz_len]; omega⟩
          | tabs => exact (ht rfl).elim
        · intro b hb
          simp only [kdO]
          intro z
          have z' : kd = b := Option.some.inj z
          exact kdm (by rw [hb, z'])
        · have := wz_h (fun i => 1 + drw ds (a + 3 + (i : Nat)) % w) (r - 2) 0 ts fun t h => by have := (t2 t h).2.2; omega
          simp [hT]; omega
        · rw [nmT, wz_nm]; exact t3
end KL
end
section
open PySem PySem.Spec PyProof.Rows L2 VS
namespace KL
def L8 : List Str := ["a", "bb", "c", "d", "e", "f", "g", "h"]
theorem L8_nodup : L8.Nodup := by decide
theorem L8_ok : ∀ s ∈ L8, okName s = true := by decide
theorem cut_len' (xs : List PyData) (n : Nat) : cutD xs none (some (n : Int)) = xs.take n := by
  unfold VS.cutD
  rw [HT.sIx_none, HT.sIx_nat, List.drop_zero, Nat.sub_zero, List.take_eq_take_iff]
  omega
theorem s_layout (ds : List Int) (hl : 0 < ds.length) (ok : okDr ds) (k : Nat) (hk : 10 ≤ k) : ∃ t, den k I__law_layout [.sh (I2 ds)] = .ok (enc t) ∧ GL t ∧ (nmT t).Sublist L8 := by
  have hs : sizeLine = 16777216 := sz_line
  obtain ⟨k', rfl⟩ : ∃ k', k = k' + 1 := ⟨k - 1, by omega⟩
  have e0 : den (k' + 1) I__law_layout [.sh (I2 ds)] = outR (b_25 (den k') [.sh (I2 ds), .no]) := den__law_layout _ _
  obtain ⟨c1, c2, c3⟩ := dr_at ok (i := 0) (by omega) (by omega)
  generalize ds.getD (0 : Int).toNat 0 = d at c1 c2 c3
  have b1 := Int.emod_nonneg d (show (8 : Int) ≠ 0 by decide)
  have b2 := Int.emod_lt_of_pos d (show (0 : Int) < 8 by decide)
  obtain ⟨n, hn, hn1, hn8⟩ : ∃ n : Nat, 1 + d % 8 = (n : Int) ∧ 1 ≤ n ∧ n ≤ 8 := ⟨(1 + d % 8).toNat, by omega, by omega, by omega⟩
  have m8 : modI (.int d) (.int 8) = .ok (.int (d % 8)) := ev_mod (by decide)
  have l8 : L8.length = 8 := rfl
  have lt : (L8.take n).length = n := by rw [List.length_take]; omega
  obtain ⟨t, et, D⟩ := s_gtree ds hl ok k' 4 1 none (L8.take n) (by decide) (by omega) (by decide) (fun z => by rw [z] at lt; simp at lt; omega) (by omega) fun s hs => L8_ok s (List.mem_of_mem_take hs)
  have sub : (nmT t).Sublist L8 := D.n.trans (List.take_sublist _ _)
  refine ⟨t, ?_, ⟨D.g, by have := D.h; omega, L8_nodup.sublist sub, by have := sub.length_le; omega⟩, sub⟩
  rw [e0]
  have e8 : lstD [.str "a", .str "bb", .str "c", .str "d", .str "e", .str "f", .str "g", .str "h"] = .ok (.list (L8.map .str)) := ev_lst (by simp; omega)
  have ec := cut_len' (L8.map .str) n
  rw [← List.map_take] at ec
  have eb : b_25 (den k') = (seqS (setS 1 (dSl slA (dA (argsF [(kC (.str "a")), (kC (.str "bb")), (kC (.str "c")), (kC (.str "d")), (kC (.str "e")), (kC (.str "f")), (kC (.str "g")), (kC (.str "h"))]) lstD) noP (someP (d2 addD (kC (.int 1)) (d2 modI (dA (argsF [(d2 ixD (gS 0) (kC (.int 0)))]) intD) (kC (.int 8))))))) (retS (dA (argsF [(gS 0), (kC (.int 1)), (kC (.int 4)), (kC (.str "")), (gS 1)]) (cD (den k' I__law_tree))))) := rfl
  rw [eb]
  simp only [ev_seq, ev_set, dSl, ev_dA, ev_args, ev_args0, ev_k, bnd_ok, e8, noP, someP, ev_d2, gS_zero, c1, ev_intI, m8, ev_addI, hn, asI, slA, ec, toS_ok, List.set_cons_succ, List.set_cons_zero, rsb_nx, ev_ret, gS_succ, ev_cD, List.map_cons, List.map_nil]
  have et' : den k' I__law_tree [.sh (I2 ds), .sh (.int 1), .sh (.int 4), .sh (.str ""), .sh (.list ((L8.take n).map .str))] = .ok (enc t) := et
  rw [et']
  rfl
/-! ### errors -/
def erS : Str → PyData
  | s => .str s
theorem s_err {k : Nat} (nm out : Str) (ho : (nm = "BadLayout" ∧ out = "layout") ∨ (nm = "BadNames" ∧ out = "names") ∨ (nm = "NoWindow" ∧ out = "window")) (i : Int) (v w x : PyData)
    (h : (i = 0 ∧ den k I_without [.sh v, .sh w] = .ex (.mk nm [])) ∨ (i = 1 ∧ den k I_common_tree [.sh v, .sh w] = .ex (.mk nm [])) ∨ (i = 2 ∧ den k I_together [.sh v, .sh w, .sh x] = .ex (.mk nm []))) :
    den (k + 1) I__law_error [.sh (.int i), .sh v, .sh w, .sh x] = .ok (.str out) := by
  have e0 : den (k + 1) I__law_error [.sh (.int i), .sh v, .sh w, .sh x] = outR (b_31 (den k) [.sh (.int i), .sh v, .sh w, .sh x]) := den__law_error _ _
  rw [e0]
  rcases h with ⟨rfl, h⟩ | ⟨rfl, h⟩ | ⟨rfl, h⟩ <;> rcases ho with ⟨rfl, rfl⟩ | ⟨rfl, rfl⟩ | ⟨rfl, rfl⟩ <;> (simp [b_31, tryS, h]; rfl)
def NB (k : Nat) (v : PyData) : Prop := den k I_check_layout [.sh v] = .ex (.mk "BadLayout" [])
def NTr (k : Nat) (v : PyData) : Prop := den k I__is_tree [.sh v, .sh (.int 8)] = .ok (.bool false)
theorem NTr_of {k : Nat} {v : PyData} (h : outR (b_4 (den k) [.sh v, .sh (.int 8), .no]) = .ok (.bool false)) : NTr (k + 1) v := by
  have e0 : den (k + 1) I__is_tree [.sh v, .sh (.int 8)] = outR (b_4 (den k) [.sh v, .sh (.int 8), .no]) := den__is_tree _ _
  rw [NTr, e0, h]
theorem NB_of {k : Nat} {v : PyData} (h : NTr k v) : NB (k + 2) v := by
  have e0 : den (k + 1 + 1) I_check_layout [.sh v] = outR (b_8 (den (k + 1)) [.sh v]) := den_check_layout _ _
  have e1 : den (k + 1) I_is_layout [.sh v] = outR (b_7 (den k) [.sh v, .no, .no]) := den_is_layout _ _
  show den (k + 1 + 1) I_check_layout [.sh v] = _
  unfold NTr at h
  rw [e0]
  simp [b_8, e1, b_7, h]
theorem name_A (k : Nat) : den (k + 1) I_is_name [.sh (.str "A")] = .ok (.bool false) := by
  have hs : sizeLine = 16777216 := sz_line
  have e0 : den (k + 1) I_is_name [.sh (.str "A")] = outR (b_2 (den k) [.sh (.str "A"), .no]) := den_is_name _ _
  rw [e0]
  have el : lenD [.str "A"] = .ok (.int 1) := rfl
  have es : VS.signs "A" = [.str "A"] := rfl
  have ei : inD (.str "A") (.str "abcdefghijklmnopqrstuvwxyz") = .ok (.bool false) := by rfl
  have af : allD [.list [PyData.bool false]] = .ok (.bool false) := Eq.trans rfl (Eq.refl _)
  simp (decide := true) [b_2, isT, el, es]
  unfold lcL
  simp [ei, af]
theorem name_0 (k : Nat) : den (k + 1) I_is_name [.sh (.str "")] = .ok (.bool false) := by
  have e0 : den (k + 1) I_is_name [.sh (.str "")] = outR (b_2 (den k) [.sh (.str ""), .no]) := den_is_name _ _
  rw [e0]
  have el : lenD [.str ""] = .ok (.int 0) := rfl
  simp (decide := true) [b_2, isT, el]
theorem name_n (k : Nat) (v : PyData) (h : isT .tStr v = false) : den (k + 1) I_is_name [.sh v] = .ok (.bool false) := by
  have e0 : den (k + 1) I_is_name [.sh v] = outR (b_2 (den k) [.sh v, .no]) := den_is_name _ _
  rw [e0]
  simp [b_2, h]
def wrongL : List PyData := [.none, .list [], .tuple [.str "win", .str "A"], .tuple [.str "row", .tuple []]]
theorem nb_wrong {k : Nat} (hk : 10 ≤ k) : ∀ v ∈ wrongL, NB k v := by
  obtain ⟨k', rfl⟩ : ∃ k', k = k' + 4 := ⟨k - 4, by omega⟩
  have na := name_A k'
  intro v hv
  refine NB_of (k := k' + 1 + 1) (NTr_of ?_)
  unfold wrongL at hv
  simp only [List.mem_cons, List.not_mem_nil, or_false] at hv
  rcases hv with rfl | rfl | rfl | rfl
  · simp (decide := true) [b_4, isT]
  · simp (decide := true) [b_4, isT]
  · simp (decide := true) [b_4, isT, na]
  · simp (decide := true) [b_4, isT, in2]
theorem ex_without {k : Nat} {v w : PyData} (h : NB k v) : den (k + 1) I_without [.sh v, .sh w] = .ex (.mk "BadLayout" []) := by
  have e0 : den (k + 1) I_without [.sh v, .sh w] = outR (b_18 (den k) [.sh v, .sh w]) := den_without _ _
  unfold NB at h
  rw [e0]
  simp [b_18, h]
theorem ex_common {k : Nat} {v w : PyData} (h : NB k v) : den (k + 1) I_common_tree [.sh v, .sh w] = .ex (.mk "BadLayout" []) := by
  have e0 : den (k + 1) I_common_tree [.sh v, .sh w] = outR (b_21 (den k) [.sh v, .sh w]) := den_common_tree _ _
  unfold NB at h
  rw [e0]
  simp [b_21, h]
theorem ex_together {k : Nat} {v w x : PyData} (h : NB k v) : den (k + 1) I_together [.sh v, .sh w, .sh x] = .ex (.mk "BadLayout" []) := by
  have e0 : den (k + 1) I_together [.sh v, .sh w, .sh x] = outR (b_22 (den k) [.sh v, .sh w, .sh x, .no]) := den_together _ _
  unfold NB at h
  rw [e0]
  simp [b_22, h]
theorem exn_without {k : Nat} {t : T} (G : GL t) (hk : 30 ≤ k) {w : PyData} (h : NN k w) : den (k + 1) I_without [.sh (enc t), .sh w] = .ex (.mk "BadNames" []) := by
  have e0 : den (k + 1) I_without [.sh (enc t), .sh w] = outR (b_18 (den k) [.sh (enc t), .sh w]) := den_without _ _
  have e1 := s_chk G k (by omega)
  unfold NN at h
  rw [e0]
  simp [b_18, e1, h]
theorem exn_common {k : Nat} {t : T} (G : GL t) (hk : 30 ≤ k) {w : PyData} (h : NN k w) : den (k + 1) I_common_tree [.sh (enc t), .sh w] = .ex (.mk "BadNames" []) := by
  have e0 : den (k + 1) I_common_tree [.sh (enc t), .sh w] = outR (b_21 (den k) [.sh (enc t), .sh w]) := den_common_tree _ _
  have e1 := s_chk G k (by omega)
  unfold NN at h
  rw [e0]
  simp [b_21, e1, h]
/-- a name that is none -/
def NW (k : Nat) (t : T) (v : PyData) : Prop := den k I_is_name [.sh v] = .ok (.bool false) ∨ ∃ s, v = .str s ∧ den k I_is_name [.sh v] = .ok (.bool true) ∧ s ∉ nmT t
theorem exw_one {k : Nat} {t : T} (G : GL t) (hk : 30 ≤ k) {v x : PyData} (h : NW k t v) : den (k + 1) I_together [.sh (enc t), .sh v, .sh x] = .ex (.mk "NoWindow" []) := by
  have e0 : den (k + 1) I_together [.sh (enc t), .sh v, .sh x] = outR (b_22 (den k) [.sh (enc t), .sh v, .sh x, .no]) := den_together _ _
  have e1 := s_chk G k (by omega)
  have e2 := s_nms G k (by omega)
  rw [e0]
  rcases h with h | ⟨s, rfl, h, hs⟩
  · simp [b_22, e1, goS, h]
  · have ia : notInD (.str s) (.list ((nmT t).map .str)) = .ok (.bool true) := by unfold notInD; rw [in_strL, decide_eq_false hs]; rfl
    simp [b_22, e1, goS, h, e2, ia]
theorem exw_two {k : Nat} {t : T} (G : GL t) (hk : 30 ≤ k) {a : Str} (ha : a ∈ nmT t) (oa : okName a = true) {v : PyData} (h : NW k t v) : den (k + 1) I_together [.sh (enc t), .sh (.str a), .sh v] = .ex (.mk "NoWindow" []) := by
  have e0 : den (k + 1) I_together [.sh (enc t), .sh (.str a), .sh v] = outR (b_22 (den k) [.sh (enc t), .sh (.str a), .sh v, .no]) := den_together _ _
  have e1 := s_chk G k (by omega)
  have e2 := s_nms G k (by omega)
  obtain ⟨k', rfl⟩ : ∃ k', k = k' + 1 := ⟨k - 1, by omega⟩
  have na := s_is_name k' a oa
  have ia : notInD (.str a) (.list ((nmT t).map .str)) = .ok (.bool false) := by unfold notInD; rw [in_strL, decide_eq_true ha]; rfl
  rw [e0]
  rcases h with h | ⟨s, rfl, h, hs⟩
  · simp [b_22, e1, goS, na, e2, ia, h]
  · have ib : notInD (.str s) (.list ((nmT t).map .str)) = .ok (.bool true) := by unfold notInD; rw [in_strL, decide_eq_false hs]; rfl
    simp [b_22, e1, goS, na, e2, ia, h, ib]
end KL
end
section
open PySem PySem.Spec PyProof.Rows L2 VS
namespace KL
/-! ### the law, piece by piece -/
def t6a (c : Nat → List Sl → Re PyData) : Dl → RS := (ifS (tOr2 (tB1 (d2 notBD (dA (argsF [(gS 7)]) (cD (c I_is_layout))) (kC (.bool true)))) (tB1 (d2 neD (dA (argsF [(gS 7)]) (cD (c I_windows_of))) (dA (argsF [(lcD ([16]) (d1L itemsD (gS 3)) (bN 16) (tB1 (d2 notInD (gS 16) (gS 6))) (gS 16))]) tupOfD)))) (retS (kC (.bool false))) nxS)
def t6b (c : Nat → List Sl → Re PyData) : Dl → RS := (setS 8 (lcD ([16]) (d1L itemsD (dA (argsF [(gS 2)]) (cD (c I_shown_windows)))) (bN 16) (tB1 (d2 notInD (gS 16) (gS 6))) (gS 16)))
def t6c (c : Nat → List Sl → Re PyData) : Dl → RS := (ifS (tNot1 (tB1 (dA (argsF [(lcD ([16]) (d1L itemsD (gS 8)) (bN 16) yesT (d2 inD (gS 16) (dA (argsF [(gS 7)]) (cD (c I_shown_windows)))))]) allD))) (retS (kC (.bool false))) nxS)
def t6d (c : Nat → List Sl → Re PyData) : Dl → RS := (setS 9 (dIf (tB1 (d2 gtD (dA (argsF [(gS 6)]) lenD) (kC (.int 0)))) (dA (argsF [(gS 7), (dSl slA (gS 6) noP (someP (kC (.int 1))))]) (cD (c I_without))) (gS 7)))
def t6e (c : Nat → List Sl → Re PyData) : Dl → RS := (ifS (tOr2 (tB1 (d2 neD (gS 9) (gS 7))) (tB1 (d1 isND (dA (argsF [(dA (argsF [(gS 2), (dSl slA (gS 6) noP (someP (kC (.int 1))))]) (cD (c I_without))), (dSl slA (gS 6) (someP (kC (.int 1))) noP)]) (cD (c I_without)))))) (retS (kC (.bool false))) nxS)
def t1 (c : Nat → List Sl → Re PyData) : Dl → RS := (setS 5 (dA (argsF [(d2 ixD (gS 1) (d2 addD (kC (.int 45)) (gS 4)))]) intD))
def t2 (c : Nat → List Sl → Re PyData) : Dl → RS := (setS 6 (dA (argsF [(dA (argsF [(d2 addD (lcD ([17]) (dAL (argsF [(dA (argsF [(gS 3)]) lenD)]) rng1D) (bN 17) (tB1 (d2 eqD (d2 modI (d2 fdivI (gS 5) (d2 ixD (dA (argsF [(kC (.int 1)), (kC (.int 2)), (kC (.int 4)), (kC (.int 8)), (kC (.int 16)), (kC (.int 32)), (kC (.int 64)), (kC (.int 128))]) lstD) (gS 17))) (kC (.int 2))) (kC (.int 1)))) (d2 ixD (gS 3) (gS 17))) (dIf (tB1 (d2 eqD (d2 modI (d2 fdivI (gS 5) (kC (.int 256))) (kC (.int 3))) (kC (.int 0)))) (dA (argsF [(kC (.str "zz")), (kC (.str "A b"))]) lstD) (dA (argsF []) lstD)))]) sortedA)]) tupOfD))
def t3 (c : Nat → List Sl → Re PyData) : Dl → RS := (setS 6 (dA (argsF [(dA (argsF [(gS 6)]) sortedA)]) tupOfD))
def t4 (c : Nat → List Sl → Re PyData) : Dl → RS := (setS 7 (dA (argsF [(gS 2), (gS 6)]) (cD (c I_without))))
def t5 (c : Nat → List Sl → Re PyData) : Dl → RS := (ifS (tOr2 (tB1 (d2 neD (gS 7) (dA (argsF [(gS 2), (gS 6)]) (cD (c I__law_without))))) (tB1 (d2 neD (d1 isND (gS 7)) (dA (argsF [(lcD ([16]) (d1L itemsD (gS 3)) (bN 16) yesT (d2 inD (gS 16) (gS 6)))]) allD)))) (retS (kC (.bool false))) nxS)
def t6 (c : Nat → List Sl → Re PyData) : Dl → RS := (ifS (tB1 (d1 notND (gS 7))) (seqS (t6a c) (seqS (t6b c) (seqS (t6c c) (seqS (t6d c) (t6e c))))) nxS)
def t7 (c : Nat → List Sl → Re PyData) : Dl → RS := (setS 10 (dA (argsF [(lcD ([16]) (d1L itemsD (dA (argsF [(gS 3)]) sortedA)) (bN 16) (tB1 (d2 inD (gS 16) (gS 6))) (gS 16))]) tupOfD))
def t8 (c : Nat → List Sl → Re PyData) : Dl → RS := (ifS (tB1 (d2 gtD (dA (argsF [(gS 10)]) lenD) (kC (.int 0)))) (seqS (setS 11 (dA (argsF [(gS 2), (gS 10)]) (cD (c I__law_common)))) (ifS (tB1 (d2 neD (dA (argsF [(gS 2), (gS 10)]) (cD (c I_common_tree))) (gS 11))) (retS (kC (.bool false))) nxS)) nxS)
def t9 (c : Nat → List Sl → Re PyData) : Dl → RS := (parS [12, 13] (argsM [(false, (d2 ixD (gS 3) (d2 modI (gS 5) (dA (argsF [(gS 3)]) lenD)))), (false, (d2 ixD (gS 3) (d2 modI (d2 fdivI (gS 5) (kC (.int 16))) (dA (argsF [(gS 3)]) lenD))))]))
def t10 (c : Nat → List Sl → Re PyData) : Dl → RS := (ifS (tB1 (d2 neD (gS 12) (gS 13))) (seqS (setS 14 (d2 ixD (d2 ixD (lcD ([11, 18]) (d1L itemsD (dA (argsF [(gS 2), (dA (argsF []) tupD)]) (cD (c I__law_trees)))) (bT 2 (bCons (bN 11) (bCons (bN 18) bNil))) (tB1 (d2 eqD (gS 11) (dA (argsF [(gS 2), (dA (argsF [(gS 12), (gS 13)]) lstD)]) (cD (c I__law_common))))) (gS 18)) (kC (.int 0))) (kC (.int 0)))) (ifS (tOr2 (tB1 (d2 neD (dA (argsF [(gS 2), (gS 12), (gS 13)]) (cD (c I_together))) (gS 14))) (tB1 (d2 neD (dA (argsF [(gS 2), (gS 13), (gS 12)]) (cD (c I_together))) (gS 14)))) (retS (kC (.bool false))) nxS)) (ifS (tB1 (d2 neD (dA (argsF [(kC (.int 2)), (gS 2), (gS 12), (gS 13)]) (cD (c I__law_error))) (kC (.str "names")))) (retS (kC (.bool false))) nxS))
def tB (c : Nat → List Sl → Re PyData) : Dl → RS := (seqS (t1 c) (seqS (t2 c) (seqS (t3 c) (seqS (t4 c) (seqS (t5 c) (seqS (t6 c) (seqS (t7 c) (seqS (t8 c) (seqS (t9 c) (t10 c))))))))))
def p0 (c : Nat → List Sl → Re PyData) : Dl → RS := (setS 1 (dScr 0 (kC (.int 70)) (c I__law_draws)))
def p1 (c : Nat → List Sl → Re PyData) : Dl → RS := (setS 2 (dA (argsF [(dSl slA (gS 1) noP (someP (kC (.int 45))))]) (cD (c I__law_layout))))
def p2 (c : Nat → List Sl → Re PyData) : Dl → RS := (setS 3 (dA (argsF [(gS 2)]) (cD (c I__law_wins))))
def p3 (c : Nat → List Sl → Re PyData) : Dl → RS := (ifS (tNot1 (tB1 (dA (argsF [(gS 2)]) (cD (c I_is_layout))))) (retS (kC (.bool false))) nxS)
def p4 (c : Nat → List Sl → Re PyData) : Dl → RS := (forS (dAL (argsF [(kC (.int 10))]) rng1D) (bN 4) (tB c))
def p5 (c : Nat → List Sl → Re PyData) : Dl → RS := (ifS (tOr2 (tB1 (d2 neD (dA (argsF [(gS 2), (dA (argsF []) tupD)]) (cD (c I_without))) (gS 2))) (tB1 (d1 notND (dA (argsF [(gS 2), (dA (argsF [(dA (argsF [(gS 3)]) sortedA)]) tupOfD)]) (cD (c I_without)))))) (retS (kC (.bool false))) nxS)
def p6 (c : Nat → List Sl → Re PyData) : Dl → RS := (forS (d1L itemsD (dA (argsF [(kC .none), (dA (argsF []) lstD), (dA (argsF [(kC (.str "win")), (kC (.str "A"))]) tupD), (dA (argsF [(kC (.str "row")), (dA (argsF []) tupD)]) tupD)]) tupD)) (bN 15) (ifS (tB1 (d2 neD (dA (argsF [(dA (argsF [(kC (.int 0)), (gS 15), (dA (argsF []) tupD), (kC .none)]) (cD (c I__law_error))), (dA (argsF [(kC (.int 1)), (gS 15), (dA (argsF [(kC (.str "a"))]) tupD), (kC .none)]) (cD (c I__law_error))), (dA (argsF [(kC (.int 2)), (gS 15), (kC (.str "a")), (kC (.str "bb"))]) (cD (c I__law_error)))]) lstD) (d2 repL (dA (argsF [(kC (.str "layout"))]) lstD) (kC (.int 3))))) (retS (kC (.bool false))) nxS))
def p7 (c : Nat → List Sl → Re PyData) : Dl → RS := (ifS (tB1 (d2 neD (lcD ([15]) (d1L itemsD (dA (argsF [(kC .none), (dA (argsF [(kC (.str "a"))]) lstD), (dA (argsF [(kC (.str "b")), (kC (.str "a"))]) tupD), (dA (argsF [(kC (.str "a")), (kC (.str "a"))]) tupD), (dA (argsF [(kC (.int 5))]) tupD)]) tupD)) (bN 15) yesT (dA (argsF [(kC (.int 0)), (gS 2), (gS 15), (kC .none)]) (cD (c I__law_error)))) (d2 repL (dA (argsF [(kC (.str "names"))]) lstD) (kC (.int 5))))) (retS (kC (.bool false))) nxS)
def p8 (c : Nat → List Sl → Re PyData) : Dl → RS := (ifS (tB1 (d2 neD (lcD ([15]) (d1L itemsD (dA (argsF [(kC .none), (dA (argsF []) tupD), (dA (argsF [(kC (.str "a"))]) lstD), (dA (argsF [(kC (.str "zz"))]) tupD), (dA (argsF [(kC (.str "a")), (kC (.str "zz"))]) tupD), (dA (argsF [(kC (.int 5))]) tupD)]) tupD)) (bN 15) yesT (dA (argsF [(kC (.int 1)), (gS 2), (gS 15), (kC .none)]) (cD (c I__law_error)))) (d2 repL (dA (argsF [(kC (.str "names"))]) lstD) (kC (.int 6))))) (retS (kC (.bool false))) nxS)
def p9 (c : Nat → List Sl → Re PyData) : Dl → RS := (retS (dAnd (d2 eqD (lcD ([15]) (d1L itemsD (dA (argsF [(kC .none), (kC (.str "zz")), (kC (.int 5)), (kC (.str ""))]) tupD)) (bN 15) yesT (dA (argsF [(kC (.int 2)), (gS 2), (gS 15), (d2 ixD (gS 3) (kC (.int 0)))]) (cD (c I__law_error)))) (d2 repL (dA (argsF [(kC (.str "window"))]) lstD) (kC (.int 4)))) (d2 eqD (lcD ([15]) (d1L itemsD (dA (argsF [(kC .none), (kC (.str "zz")), (kC (.int 5))]) tupD)) (bN 15) yesT (dA (argsF [(kC (.int 2)), (gS 2), (d2 ixD (gS 3) (kC (.int 0))), (gS 15)]) (cD (c I__law_error)))) (d2 repL (dA (argsF [(kC (.str "window"))]) lstD) (kC (.int 3))))))
theorem law_eq (c : Nat → List Sl → Re PyData) : b_32 c = (seqS (p0 c) (seqS (p1 c) (seqS (p2 c) (seqS (p3 c) (seqS (p4 c) (seqS (p5 c) (seqS (p6 c) (seqS (p7 c) (seqS (p8 c) (p9 c)))))))))) := rfl
end KL
end
section
open PySem PySem.Spec PyProof.Rows L2 VS
namespace KL
theorem ev_neB (i j : Bool) : neD (.bool i) (.bool j) = .ok (.bool (!decide (i = j))) := by
  rw [neD_of (by simp) (by simp)]
  cases i <;> cases j <;> rfl
theorem asc_of : ∀ {xs : List Str}, xs.Pairwise sLt → ascS xs = true
  | [], _ => rfl
  | [a], _ => rfl
  | a :: b :: r, h => by
    have h' := List.pairwise_cons.mp h
    have := asc_of h'.2
    simp [ascS, this, h'.1 b List.mem_cons_self]
theorem sorted_lt {xs : List Str} (nd : xs.Nodup) : (sortS xs).Pairwise sLt := by
  have a := sortS_pw xs
  have b : (sortS xs).Nodup := (sortS_perm xs).nodup_iff.mpr nd
  exact (a.and b).imp fun ⟨h1, h2⟩ => sLt_of h1 h2
theorem dn_enc {t : T} (G : GL t) : dn 60 (enc t) = true := dn60 (by have := G.h; omega)
theorem dn_encO {o : Option T} (h : ∀ u, o = some u → GL u) : dn 60 (encO o) = true := by
  cases o with
  | none => simp [encO]
  | some u => exact dn_enc (h u rfl)
theorem isN_encO (o : Option T) : isN (encO o) = decide (o = none) := by
  cases o with
  | none => rfl
  | some u => simp [encO, isN_enc]
theorem cut1 (xs : List PyData) : cutD xs none (some 1) = xs.take 1 := cut_len' xs 1
abbrev LS (ns ds : List Int) (t : T) (s4 s5 s6 s7 s8 s9 s10 s11 s12 s13 s14 : Sl) : Dl := [.br ns, .sh (I2 ds), .sh (enc t), .sh (.list ((nmT t).map .str)), s4, s5, s6, s7, s8, s9, s10, s11, s12, s13, s14, .no, .no, .no, .no]
/-- names that are taken -/
structure NS (t : T) (xs : List Str) : Prop where
  asc : xs.Pairwise sLt
  len : xs.length ≤ 100
section
variable {K : Nat} (hK : 50 ≤ K) {t : T} (G : GL t) (sub : (nmT t).Sublist L8)
def P8 : List Int := [1, 2, 4, 8, 16, 32, 64, 128]
include G sub in
theorem t2_ev (ns ds : List Int) (num : Int) (h0 : 0 ≤ num) (s4 s6 s7 s8 s9 s10 s11 s12 s13 s14 : Sl) : ∃ xs, NS t xs ∧ ∀ g : Dl → RS, (seqS (t2 (den K)) (seqS (t3 (den K)) g)) (LS ns ds t s4 (.sh (.int num)) s6 s7 s8 s9 s10 s11 s12 s13 s14) = g (LS ns ds t s4 (.sh (.int num)) (.sh (.tuple (xs.map .str))) s7 s8 s9 s10 s11 s12 s13 s14) := by
  have hs : sizeLine = 16777216 := sz_line
  have hl := sub.length_le
  have l8 : L8.length = 8 := rfl
  let p : Nat → Bool := fun j => decide (num / (P8.getD j 1) % 2 = 1)
  let ex : List Str := if num / 256 % 3 = 0 then ["zz", "A b"] else []
  let ys : List Str := ((List.range (nmT t).length).filter p).map fun j => (nmT t).getD j ""
  have er : rng1D [PyData.int (nmT t).length] = .ok ((List.range (nmT t).length).map fun k => .int (0 + (k : Nat))) := rng1_n _ (by omega)
  have el8 : lstD [.int 1, .int 2, .int 4, .int 8, .int 16, .int 32, .int 64, .int 128] = .ok (.list (P8.map .int)) := ev_lst (by simp; omega)
  have f256 : fdivI (.int num) (.int 256) = .ok (.int (num / 256)) := ev_fdiv (by decide)
  have m3 : modI (.int (num / 256)) (.int 3) = .ok (.int (num / 256 % 3)) := ev_mod (by decide)
  have e1 : ∀ s17, lcL (bN 17) (tB1 (d2 eqD (d2 modI (d2 fdivI (gS 5) (d2 ixD (dA (argsF [(kC (.int 1)), (kC (.int 2)), (kC (.int 4)), (kC (.int 8)), (kC (.int 16)), (kC (.int 32)), (kC (.int 64)), (kC (.int 128))]) lstD) (gS 17))) (kC (.int 2))) (kC (.int 1)))) (d2 ixD (gS 3) (gS 17)) [.br ns, .sh (I2 ds), .sh (enc t), .sh (.list ((nmT t).map .str)), s4, .sh (.int num), s6, s7, s8, s9, s10, s11, s12, s13, s14, .no, .no, s17, .no] ((List.range (nmT t).length).map fun k => .int (0 + (k : Nat))) = .ok (ys.map .str) := fun s17 => by
    have : ys.map PyData.str = ((List.range (nmT t).length).filter p).map fun j => .str ((nmT t).getD j "") := by rw [List.map_map]; rfl
    rw [this]
    refine lcL_on (fun k : Nat => PyData.int (0 + (k : Nat))) p (fun j => .str ((nmT t).getD j "")) _ fun j hj => ⟨_, rfl, ?_, fun _ => ?_⟩
    · have hj' : j < (nmT t).length := by simpa using hj
      have hj8 : j < 8 := by omega
      have e8 : atI (P8.map PyData.int) (j : Int) = some (.int (P8.getD j 1)) := at_nat (by
        rw [List.getElem?_map, List.getElem?_eq_getElem (show j < P8.length from hj8)]
        simp [List.getD_eq_getElem?_getD, List.getElem?_eq_getElem (show j < P8.length from hj8)])
      have c8 : ∀ i, i < 8 → 0 < P8.getD i 1 ∧ P8.getD i 1 < 1073741824 := by decide
      have f8 : fdivI (.int num) (.int (P8.getD j 1)) = .ok (.int (num / P8.getD j 1)) := ev_fdiv (c8 j hj8)
      have m2 : modI (.int (num / P8.getD j 1)) (.int 2) = .ok (.int (num / P8.getD j 1 % 2)) := ev_mod (by decide)
      simp only [Int.zero_add, ev_tB1, ev_d2, List.set_cons_succ, List.set_cons_zero, gS_succ, gS_zero, bnd_ok, ev_dA, ev_args, ev_args0, ev_k, el8, ix_l, e8, ofO_some, f8, m2, ev_eqI, ev_asB]
      rfl
    · have hj' : j < (nmT t).length := by simpa using hj
      have e8 : atI ((nmT t).map PyData.str) (j : Int) = some (.str ((nmT t).getD j "")) := at_nat (by
        rw [List.getElem?_map, List.getElem?_eq_getElem hj']
        simp [List.getD_eq_getElem?_getD, List.getElem?_eq_getElem hj'])
      simp only [Int.zero_add, ev_d2, List.set_cons_succ, List.set_cons_zero, gS_succ, gS_zero, bnd_ok, ix_l, e8, ofO_some]
  have ly : ys.length ≤ 8 := by
    show (((List.range (nmT t).length).filter p).map _).length ≤ 8
    rw [List.length_map]
    have := List.length_filter_le p (List.range (nmT t).length)
    rw [List.length_range] at this
    omega
  have lx : ex.length ≤ 2 := by show (if _ then _ else _ : List Str).length ≤ 2; split <;> simp
  have ymem : ∀ s ∈ ys, s ∈ nmT t := fun s hs => by
    obtain ⟨j, hj, rfl⟩ := List.mem_map.mp hs
    have hj' : j < (nmT t).length := by simpa using (List.mem_filter.mp hj).1
    simp [List.getD_eq_getElem?_getD, List.getElem?_eq_getElem hj']
  have ynd : ys.Nodup := by
    refine List.pairwise_map.mpr ((List.nodup_range.filter _).imp_of_mem fun {a b} ha hb hne h => hne ?_)
    have ha' : a < (nmT t).length := by simpa using (List.mem_filter.mp ha).1
    have hb' : b < (nmT t).length := by simpa using (List.mem_filter.mp hb).1
    simp [List.getD_eq_getElem?_getD, List.getElem?_eq_getElem ha', List.getElem?_eq_getElem hb'] at h
    exact (List.getElem?_inj ha' G.nd).mp (by rw [List.getElem?_eq_getElem ha', List.getElem?_eq_getElem hb', h])
  have xmem : ∀ s ∈ ex, s ∉ L8 := by
    intro s hs
    have : s ∈ (["zz", "A b"] : List Str) := by
      have hs' : s ∈ (if num / 256 % 3 = 0 then ["zz", "A b"] else [] : List Str) := hs
      split at hs'
      · exact hs'
      · cases hs'
    have all : ∀ s ∈ (["zz", "A b"] : List Str), s ∉ L8 := by decide
    exact all s this
  have xnd : ex.Nodup := by
    show (if num / 256 % 3 = 0 then ["zz", "A b"] else [] : List Str).Nodup
    split
    · decide
    · exact List.nodup_nil
  have znd : (ys ++ ex).Nodup := List.nodup_append.mpr ⟨ynd, xnd, fun a ha b hb e => xmem b hb (sub.subset (e ▸ ymem a ha))⟩
  have e2 : (d2 addD (lcD ([17]) (dAL (argsF [(dA (argsF [(gS 3)]) lenD)]) rng1D) (bN 17) (tB1 (d2 eqD (d2 modI (d2 fdivI (gS 5) (d2 ixD (dA (argsF [(kC (.int 1)), (kC (.int 2)), (kC (.int 4)), (kC (.int 8)), (kC (.int 16)), (kC (.int 32)), (kC (.int 64)), (kC (.int 128))]) lstD) (gS 17))) (kC (.int 2))) (kC (.int 1)))) (d2 ixD (gS 3) (gS 17))) (dIf (tB1 (d2 eqD (d2 modI (d2 fdivI (gS 5) (kC (.int 256))) (kC (.int 3))) (kC (.int 0)))) (dA (argsF [(kC (.str "zz")), (kC (.str "A b"))]) lstD) (dA (argsF []) lstD))) (LS ns ds t s4 (.sh (.int num)) s6 s7 s8 s9 s10 s11 s12 s13 s14) = .ok (.list ((ys ++ ex).map .str)) := by
    have ei : (dIf (tB1 (d2 eqD (d2 modI (d2 fdivI (gS 5) (kC (.int 256))) (kC (.int 3))) (kC (.int 0)))) (dA (argsF [(kC (.str "zz")), (kC (.str "A b"))]) lstD) (dA (argsF []) lstD)) (LS ns ds t s4 (.sh (.int num)) s6 s7 s8 s9 s10 s11 s12 s13 s14) = .ok (.list (ex.map .str)) := by
      show _ = Re.ok (PyData.list ((if num / 256 % 3 = 0 then ["zz", "A b"] else [] : List Str).map .str))
      by_cases h : num / 256 % 3 = 0
      · simp [f256, m3, h]
      · simp [f256, m3, h]
    rw [ev_d2, ei]
    simp only [ev_lc, ev_dAL, ev_dA, ev_args, ev_args0, gS_succ, gS_zero, bnd_ok, ev_lenL, List.length_map, er]
    rw [if_pos (by simp; omega)]
    simp only [ev_wipe, ev_wipe0, List.set_cons_succ, List.set_cons_zero, e1, bnd_ok]
    rw [ev_addL (by simp; omega), List.map_append]
  have e3 := ev_sortS (ys ++ ex) (by simp; omega)
  have lz : (sortS (ys ++ ex)).length ≤ 10 := by rw [(sortS_perm _).length_eq]; simp; omega
  have e4 := ev_sortS (sortS (ys ++ ex)) (by omega)
  have e5 : sortS (sortS (ys ++ ex)) = sortS (ys ++ ex) := sortS_eq (List.Perm.refl _) (sortS_pw _)
  rw [e5] at e4
  refine ⟨sortS (ys ++ ex), ⟨sorted_lt znd, by omega⟩, fun g => ?_⟩
  rw [ev_seq]
  unfold t2
  rw [ev_set]
  have e6 : (dA (argsF [(dA (argsF [(d2 addD (lcD ([17]) (dAL (argsF [(dA (argsF [(gS 3)]) lenD)]) rng1D) (bN 17) (tB1 (d2 eqD (d2 modI (d2 fdivI (gS 5) (d2 ixD (dA (argsF [(kC (.int 1)), (kC (.int 2)), (kC (.int 4)), (kC (.int 8)), (kC (.int 16)), (kC (.int 32)), (kC (.int 64)), (kC (.int 128))]) lstD) (gS 17))) (kC (.int 2))) (kC (.int 1)))) (d2 ixD (gS 3) (gS 17))) (dIf (tB1 (d2 eqD (d2 modI (d2 fdivI (gS 5) (kC (.int 256))) (kC (.int 3))) (kC (.int 0)))) (dA (argsF [(kC (.str "zz")), (kC (.str "A b"))]) lstD) (dA (argsF []) lstD)))]) sortedA)]) tupOfD) (LS ns ds t s4 (.sh (.int num)) s6 s7 s8 s9 s10 s11 s12 s13 s14) = .ok (.tuple ((sortS (ys ++ ex)).map .str)) := by
    rw [ev_dA, ev_args, ev_dA, ev_args, e2]
    simp only [bnd_ok, ev_args0, ev_sortA_l, e3, ev_tupOf]
  rw [e6]
  unfold t3
  simp only [toS_ok, rsb_nx, List.set_cons_succ, List.set_cons_zero, ev_seq, ev_set, ev_dA, ev_args, ev_args0, gS_succ, gS_zero, bnd_ok, ev_sortA_t, e4, ev_tupOf]
theorem t1_ev (ns ds : List Int) (hl : ds.length = 70) (ok : okDr ds) (j : Nat) (hj : j < 10) (s5 s6 s7 s8 s9 s10 s11 s12 s13 s14 : Sl) : ∃ num : Int, 0 ≤ num ∧ t1 (den K) (LS ns ds t (.sh (.int (j : Nat))) s5 s6 s7 s8 s9 s10 s11 s12 s13 s14) = .nx (LS ns ds t (.sh (.int (j : Nat))) (.sh (.int num)) s6 s7 s8 s9 s10 s11 s12 s13 s14) := by
  obtain ⟨d1, d2, d3⟩ := dr_at ok (i := 45 + (j : Nat)) (by omega) (by omega)
  refine ⟨_, d2, ?_⟩
  unfold t1
  simp only [ev_set, ev_dA, ev_args, ev_args0, ev_d2, gS_succ, gS_zero, bnd_ok, ev_k, ev_addI, d1, ev_intI, toS_ok, List.set_cons_succ, List.set_cons_zero]
/-- names out of a list -/
def inX (xs : List Str) : Str → Bool := fun s => decide (s ∈ xs)
include hK G in
theorem t4_ev (ns ds : List Int) (xs : List Str) (hx : NS t xs) (s4 s5 s7 s8 s9 s10 s11 s12 s13 s14 : Sl) : t4 (den K) (LS ns ds t s4 s5 (.sh (.tuple (xs.map .str))) s7 s8 s9 s10 s11 s12 s13 s14) = .nx (LS ns ds t s4 s5 (.sh (.tuple (xs.map .str))) (.sh (encO (lf (inX xs) t))) s8 s9 s10 s11 s12 s13 s14) := by
  have e := s_without xs (asc_of hx.asc) (by have := hx.len; omega) G K (by omega)
  unfold t4
  simp [e]
  rfl
theorem all_in (δ : Dl) (i : Nat) (hi : ∀ d, gS 16 (δ.set 16 (.sh d)) = .ok d) (f : Dl → Re PyData) (v : PyData) (hf : ∀ d, f (δ.set 16 (.sh d)) = .ok v) (xs ys : List Str) (hv : v = .tuple (ys.map .str)) : lcL (bN 16) yesT (d2 inD (gS 16) f) δ (xs.map .str) = .ok (xs.map fun s => .bool (decide (s ∈ ys))) :=
  lcL_all _ _ _ fun s _ => ⟨_, rfl, by rw [ev_d2, hi, bnd_ok, hf, bnd_ok, hv, in_strT]⟩
include hK G in
theorem t5_ev (ns ds : List Int) (xs : List Str) (hx : NS t xs) (s4 s5 s8 s9 s10 s11 s12 s13 s14 : Sl) : t5 (den K) (LS ns ds t s4 s5 (.sh (.tuple (xs.map .str))) (.sh (encO (lf (inX xs) t))) s8 s9 s10 s11 s12 s13 s14) = .nx (LS ns ds t s4 s5 (.sh (.tuple (xs.map .str))) (.sh (encO (lf (inX xs) t))) s8 s9 s10 s11 s12 s13 s14) := by
  have hs : sizeLine = 16777216 := sz_line
  have := G.h
  have := G.z
  have := G.l
  have e1 := s_lwithout (inX xs) (.tuple (xs.map .str)) (fun s => in_strT s xs) K t (by omega) G.g (by omega)
  have e2 := ne_self (dn_encO (o := lf (inX xs) t) fun u hu => GL.lf _ G hu)
  have e3 : decide (lf (inX xs) t = none) = (nmT t).all (inX xs) := by
    rw [Bool.eq_iff_iff, decide_eq_true_eq, List.all_eq_true]
    exact lf_none (inX xs) t G.g
  have e4 := all_in [.br ns, .sh (I2 ds), .sh (enc t), .sh (.list ((nmT t).map .str)), s4, s5, .sh (.tuple (xs.map .str)), .sh (encO (lf (inX xs) t)), s8, s9, s10, s11, s12, s13, s14, .no, .no, .no, .no] 16 (fun d => rfl) (gS 6) _ (fun d => rfl) (nmT t) xs rfl
  have e5 := all_b (inX xs) (nmT t)
  unfold t5
  simp only [ev_if, ev_tOr, ev_tB1, ev_d2, gS_succ, gS_zero, bnd_ok, ev_dA, ev_args, ev_args0, ev_cD, List.map_cons, List.map_nil, e1, e2, ev_asB, if_neg Bool.false_ne_true, ev_d1, ev_isN, isN_encO, ev_lc, ev_d1L, ev_items_l]
  rw [if_pos (by rw [List.length_map]; omega)]
  simp only [ev_wipe, ev_wipe0, List.set_cons_succ, List.set_cons_zero, e4, bnd_ok]
  have e5' : allD [.list ((nmT t).map fun s => PyData.bool (decide (s ∈ xs)))] = .ok (.bool ((nmT t).all (inX xs))) := e5
  rw [e5', e3]
  simp [ev_neB]
end
end KL
end
section
open PySem PySem.Spec PyProof.Rows L2 VS
namespace KL
theorem asc_take {xs : List Str} (h : xs.Pairwise sLt) (n : Nat) : ascS (xs.take n) = true := asc_of (h.sublist (List.take_sublist _ _))
theorem asc_drop {xs : List Str} (h : xs.Pairwise sLt) (n : Nat) : ascS (xs.drop n) = true := asc_of (h.sublist (List.drop_sublist _ _))
section
variable {K : Nat} (hK : 50 ≤ K) {t : T} (G : GL t) (sub : (nmT t).Sublist L8)
include hK G in
theorem t6_ev (ns ds : List Int) (xs : List Str) (hx : NS t xs) (s4 s5 s8 s9 s10 s11 s12 s13 s14 : Sl) : ∃ s8' s9', t6 (den K) (LS ns ds t s4 s5 (.sh (.tuple (xs.map .str))) (.sh (encO (lf (inX xs) t))) s8 s9 s10 s11 s12 s13 s14) = .nx (LS ns ds t s4 s5 (.sh (.tuple (xs.map .str))) (.sh (encO (lf (inX xs) t))) s8' s9' s10 s11 s12 s13 s14) := by
  have hs : sizeLine = 16777216 := sz_line
  have gh := G.h
  have gz := G.z
  have gl := G.l
  have xl := hx.len
  cases ho : lf (inX xs) t with
  | none => exact ⟨s8, s9, by unfold t6; simp [encO]⟩
  | some u =>
    have U := GL.lf _ G ho
    have nu : nmT u = (nmT t).filter fun s => !inX xs s := by have := nm_lf (inX xs) t; rw [ho] at this; exact this
    have uh := U.h
    have uz := U.z
    -- what is kept
    have sl := sh_z t
    have e1 := s_lay U K (by omega)
    have e2 := s_windows U K (by omega)
    have e3 := s_shownW G K (by omega)
    have e4 := s_shownW U K (by omega)
    have nin : ∀ (f : Dl → Re PyData) (δ : Dl) (s : Str), f (δ.set 16 (.sh (.str s))) = .ok (.tuple (xs.map .str)) → gS 16 (δ.set 16 (.sh (.str s))) = .ok (.str s) → (tB1 (d2 notInD (gS 16) f)) (δ.set 16 (.sh (.str s))) = .ok (!inX xs s) := fun f δ s h1 h2 => by
      rw [ev_tB1, ev_d2, h2, bnd_ok, h1, bnd_ok]
      unfold notInD
      rw [in_strT]
      rfl
    have e5 : ∀ (ys : List Str) (a8 : Sl), lcL (bN 16) (tB1 (d2 notInD (gS 16) (gS 6))) (gS 16) [.br ns, .sh (I2 ds), .sh (enc t), .sh (.list ((nmT t).map .str)), s4, s5, .sh (.tuple (xs.map .str)), .sh (enc u), a8, s9, s10, s11, s12, s13, s14, .no, .no, .no, .no] (ys.map .str) = .ok ((ys.filter fun s => !inX xs s).map .str) := fun ys a8 =>
      lcL_on _ _ _ _ fun s _ => ⟨_, rfl, nin (gS 6) _ s rfl rfl, fun _ => rfl⟩
    have e6 : t6a (den K) (LS ns ds t s4 s5 (.sh (.tuple (xs.map .str))) (.sh (enc u)) s8 s9 s10 s11 s12 s13 s14) = .nx (LS ns ds t s4 s5 (.sh (.tuple (xs.map .str))) (.sh (enc u)) s8 s9 s10 s11 s12 s13 s14) := by
      unfold t6a
      have nb : notBD (.bool true) (.bool true) = .ok (.bool false) := rfl
      simp only [ev_if, ev_tOr, ev_tB1, ev_d2, ev_dA, ev_args, ev_args0, gS_succ, gS_zero, bnd_ok, ev_cD, List.map_cons, List.map_nil, e1, ev_k, nb, ev_asB, if_neg Bool.false_ne_true, e2, ev_lc, ev_d1L, ev_items_l]
      rw [if_pos (by rw [List.length_map]; omega)]
      simp only [ev_wipe, ev_wipe0, List.set_cons_succ, List.set_cons_zero, e5, bnd_ok, ev_tupOf]
      rw [← nu, ne_self (dn_strsT _)]
      simp
    have e7 : t6b (den K) (LS ns ds t s4 s5 (.sh (.tuple (xs.map .str))) (.sh (enc u)) s8 s9 s10 s11 s12 s13 s14) = .nx (LS ns ds t s4 s5 (.sh (.tuple (xs.map .str))) (.sh (enc u)) (.sh (.list (((shT t).filter fun s => !inX xs s).map .str))) s9 s10 s11 s12 s13 s14) := by
      unfold t6b
      simp only [ev_set, ev_lc, ev_d1L, ev_dA, ev_args, ev_args0, gS_succ, gS_zero, bnd_ok, ev_cD, List.map_cons, List.map_nil, e3, ev_items_t]
      rw [if_pos (by rw [List.length_map]; omega)]
      simp only [ev_wipe, ev_wipe0, List.set_cons_succ, List.set_cons_zero, e5, bnd_ok, toS_ok]
    have e8 : ((shT t).filter fun s => !inX xs s).all (fun s => decide (s ∈ shT u)) = true := by
      rw [List.all_eq_true]
      intro s hs'
      obtain ⟨h1, h2⟩ := List.mem_filter.mp hs'
      obtain ⟨v, ev, hv⟩ := sh_lf (inX xs) (by simpa using h2) t G.g h1
      rw [ho] at ev
      cases ev
      simpa using hv
    have e9 : ∀ a8, t6c (den K) (LS ns ds t s4 s5 (.sh (.tuple (xs.map .str))) (.sh (enc u)) (.sh (.list (((shT t).filter fun s => !inX xs s).map .str))) a8 s10 s11 s12 s13 s14) = .nx (LS ns ds t s4 s5 (.sh (.tuple (xs.map .str))) (.sh (enc u)) (.sh (.list (((shT t).filter fun s => !inX xs s).map .str))) a8 s10 s11 s12 s13 s14) := fun a8 => by
      have ea := all_in [.br ns, .sh (I2 ds), .sh (enc t), .sh (.list ((nmT t).map .str)), s4, s5, .sh (.tuple (xs.map .str)), .sh (enc u), .sh (.list (((shT t).filter fun s => !inX xs s).map .str)), a8, s10, s11, s12, s13, s14, .no, .no, .no, .no] 16 (fun d => rfl) (dA (argsF [(gS 7)]) (cD (den K I_shown_windows))) _ (fun d => by simp only [List.set_cons_succ, List.set_cons_zero, ev_dA, ev_args, ev_args0, gS_succ, gS_zero, bnd_ok, ev_cD, List.map_cons, List.map_nil]; exact e4) ((shT t).filter fun s => !inX xs s) (shT u) rfl
      have lf' := List.length_filter_le (fun s => !inX xs s) (shT t)
      unfold t6c
      simp only [ev_if, ev_tNot, ev_tB1, ev_dA, ev_args, ev_args0, ev_lc, ev_d1L, gS_succ, gS_zero, bnd_ok, ev_items_l]
      rw [if_pos (by rw [List.length_map]; omega)]
      simp only [ev_wipe, ev_wipe0, List.set_cons_succ, List.set_cons_zero, ea, bnd_ok, all_b, e8, ev_asB, toS_ok]
      rfl
    -- twice
    have c0 := cut1 (xs.map PyData.str)
    rw [← List.map_take] at c0
    have c1 := cut_from1 (xs.map PyData.str)
    rw [← List.map_drop] at c1
    have w1 := s_without (xs.take 1) (asc_take hx.asc 1) (by rw [List.length_take]; omega) U K (by omega)
    have w2 := s_without (xs.take 1) (asc_take hx.asc 1) (by rw [List.length_take]; omega) G K (by omega)
    have st : lf (fun s => decide (s ∈ xs.take 1)) u = some u := lf_stay _ u (g_fl u U.g) fun s hs' => by
      rw [nu] at hs'
      have h2 := (List.mem_filter.mp hs').2
      have h3 : s ∉ xs := by simpa [inX] using h2
      have h4 : s ∉ xs.take 1 := fun z => h3 (List.mem_of_mem_take z)
      exact decide_eq_false h4
    rw [st] at w1
    have w1' : den K I_without [.sh (enc u), .sh (.tuple ((xs.take 1).map .str))] = .ok (enc u) := w1
    -- something is left after the first
    obtain ⟨s, hs1⟩ := List.exists_mem_of_length_pos (g_nm u U.g)
    rw [nu] at hs1
    obtain ⟨hs2, hs3⟩ := List.mem_filter.mp hs1
    have hs3 : s ∉ xs := by simpa [inX] using hs3
    obtain ⟨v, ev⟩ : ∃ v, lf (fun s => decide (s ∈ xs.take 1)) t = some v := by
      cases h : lf (fun s => decide (s ∈ xs.take 1)) t with
      | some v => exact ⟨v, rfl⟩
      | none =>
        have := (lf_none _ t G.g).mp h s hs2
        exact (hs3 (List.mem_of_mem_take (of_decide_eq_true this))).elim
    have V := GL.lf _ G ev
    have nv : nmT v = (nmT t).filter fun s => !decide (s ∈ xs.take 1) := by have := nm_lf (fun s => decide (s ∈ xs.take 1)) t; rw [ev] at this; exact this
    rw [ev] at w2
    have w2' : den K I_without [.sh (enc t), .sh (.tuple ((xs.take 1).map .str))] = .ok (enc v) := w2
    have w3 := s_without (xs.drop 1) (asc_drop hx.asc 1) (by rw [List.length_drop]; omega) V K (by omega)
    have e10 : lf (fun s => decide (s ∈ xs.drop 1)) v ≠ none := fun h => by
      have hv : s ∈ nmT v := by
        rw [nv]
        exact List.mem_filter.mpr ⟨hs2, by rw [Bool.not_eq_true', decide_eq_false_iff_not]; exact fun z => hs3 (List.mem_of_mem_take z)⟩
      have := (lf_none _ v V.g).mp h s hv
      exact hs3 (List.mem_of_mem_drop (of_decide_eq_true this))
    have e11 : ∀ a8, t6d (den K) (LS ns ds t s4 s5 (.sh (.tuple (xs.map .str))) (.sh (enc u)) a8 s9 s10 s11 s12 s13 s14) = .nx (LS ns ds t s4 s5 (.sh (.tuple (xs.map .str))) (.sh (enc u)) a8 (.sh (enc u)) s10 s11 s12 s13 s14) := fun a8 => by
      unfold t6d
      by_cases h0 : (0 : Int) < (xs.length : Nat)
      · simp only [ev_set, ev_dIf, ev_tB1, ev_d2, ev_dA, ev_args, ev_args0, gS_succ, gS_zero, bnd_ok, ev_lenT, List.length_map, ev_k, ev_gtI, decide_eq_true h0, ev_asB, if_true, dSl, noP, someP, asI, slA, c0, ev_cD, List.map_cons, List.map_nil, w1', toS_ok, List.set_cons_succ, List.set_cons_zero]
      · simp only [ev_set, ev_dIf, ev_tB1, ev_d2, ev_dA, ev_args, ev_args0, gS_succ, gS_zero, bnd_ok, ev_lenT, List.length_map, ev_k, ev_gtI, decide_eq_false h0, ev_asB, if_neg Bool.false_ne_true, toS_ok, List.set_cons_succ, List.set_cons_zero]
    have e12 : ∀ a8, t6e (den K) (LS ns ds t s4 s5 (.sh (.tuple (xs.map .str))) (.sh (enc u)) a8 (.sh (enc u)) s10 s11 s12 s13 s14) = .nx (LS ns ds t s4 s5 (.sh (.tuple (xs.map .str))) (.sh (enc u)) a8 (.sh (enc u)) s10 s11 s12 s13 s14) := fun a8 => by
      unfold t6e
      have dd := ne_self (dn_enc U)
      simp only [ev_if, ev_tOr, ev_tB1, ev_d2, gS_succ, gS_zero, bnd_ok, dd, ev_asB, if_neg Bool.false_ne_true, ev_d1, ev_dA, ev_args, ev_args0, dSl, noP, someP, ev_k, asI, slA, c0, c1, ev_cD, List.map_cons, List.map_nil, w2', w3, ev_isN, isN_encO, decide_eq_false e10, toS_ok, ev_nx]
    refine ⟨.sh (.list (((shT t).filter fun s => !inX xs s).map .str)), .sh (enc u), ?_⟩
    unfold t6
    have en : (tB1 (d1 notND (gS 7))) (LS ns ds t s4 s5 (.sh (.tuple (xs.map .str))) (.sh (enc u)) s8 s9 s10 s11 s12 s13 s14) = .ok true := by simp [isN_enc]
    simp only [encO]
    rw [ev_if, en, toS_ok, if_pos rfl, ev_seq, e6, rsb_nx, ev_seq, e7, rsb_nx, ev_seq, e9, rsb_nx, ev_seq, e11, rsb_nx, e12]
include hK G in
theorem t78_ev (ns ds : List Int) (xs : List Str) (hx : NS t xs) (s4 s5 s7 s8 s9 s10 s11 s12 s13 s14 : Sl) (g : Dl → RS) : ∃ s10' s11', (seqS (t7 (den K)) (seqS (t8 (den K)) g)) (LS ns ds t s4 s5 (.sh (.tuple (xs.map .str))) s7 s8 s9 s10 s11 s12 s13 s14) = g (LS ns ds t s4 s5 (.sh (.tuple (xs.map .str))) s7 s8 s9 s10' s11' s12 s13 s14) := by
  have hs : sizeLine = 16777216 := sz_line
  have gl := G.l
  have e1 := ev_sortS (nmT t) (by omega)
  have ls : (sortS (nmT t)).length = (nmT t).length := (sortS_perm _).length_eq
  have e2 : lcL (bN 16) (tB1 (d2 inD (gS 16) (gS 6))) (gS 16) [.br ns, .sh (I2 ds), .sh (enc t), .sh (.list ((nmT t).map .str)), s4, s5, .sh (.tuple (xs.map .str)), s7, s8, s9, s10, s11, s12, s13, s14, .no, .no, .no, .no] ((sortS (nmT t)).map .str) = .ok (((sortS (nmT t)).filter (inX xs)).map .str) :=
    lcL_on _ _ _ _ fun s _ => ⟨_, rfl, by simp [in_strT, inX], fun _ => rfl⟩
  have e7 : t7 (den K) (LS ns ds t s4 s5 (.sh (.tuple (xs.map .str))) s7 s8 s9 s10 s11 s12 s13 s14) = .nx (LS ns ds t s4 s5 (.sh (.tuple (xs.map .str))) s7 s8 s9 (.sh (.tuple (((sortS (nmT t)).filter (inX xs)).map .str))) s11 s12 s13 s14) := by
    unfold t7
    simp only [ev_set, ev_dA, ev_args, ev_args0, ev_lc, ev_d1L, gS_succ, gS_zero, bnd_ok, ev_sortA_l, e1, ev_items_l]
    rw [if_pos (by rw [List.length_map]; omega)]
    simp only [ev_wipe, ev_wipe0, List.set_cons_succ, List.set_cons_zero, e2, bnd_ok, ev_tupOf, toS_ok]
  rw [ev_seq, e7, rsb_nx, ev_seq]
  have lo := List.length_filter_le (inX xs) (sortS (nmT t))
  have pw : ((sortS (nmT t)).filter (inX xs)).Pairwise sLt := (sorted_lt G.nd).sublist List.filter_sublist
  have hh : holdsB ((sortS (nmT t)).filter (inX xs)) t = true := by
    rw [holds_iff]
    intro s h
    exact (sortS_perm _).mem_iff.mp (List.mem_filter.mp h).1
  generalize ho : (sortS (nmT t)).filter (inX xs) = own at lo pw hh
  unfold t8
  by_cases h0 : (0 : Int) < (own.length : Nat)
  · have hne : own ≠ [] := fun z => by rw [z] at h0; simp at h0
    have a1 := s_lcommon own (.tuple (own.map .str)) rfl (by omega) G hne hh K (by omega)
    have a2 := s_ctree own (asc_of pw) (by omega) hne G hh K (by omega)
    have dd := ne_self (dn_pl 59 (lastP own t))
    refine ⟨.sh (.tuple (own.map .str)), .sh (plD (lastP own t)), ?_⟩
    simp only [ev_if, ev_tB1, ev_d2, ev_dA, ev_args, ev_args0, gS_succ, gS_zero, bnd_ok, ev_lenT, List.length_map, ev_k, ev_gtI, decide_eq_true h0, ev_asB, toS_ok, if_true, ev_seq, ev_set, ev_cD, List.map_cons, List.map_nil, a1, rsb_nx, List.set_cons_succ, List.set_cons_zero, a2, dd, if_neg Bool.false_ne_true, ev_nx]
  · refine ⟨.sh (.tuple (own.map .str)), s11, ?_⟩
    simp only [ev_if, ev_tB1, ev_d2, ev_dA, ev_args, ev_args0, gS_succ, gS_zero, bnd_ok, ev_lenT, List.length_map, ev_k, ev_gtI, decide_eq_false h0, ev_asB, toS_ok, if_neg Bool.false_ne_true, ev_nx, rsb_nx]
theorem ch_filter {a b : Str} (hne : a ≠ b) (ha : a ∈ nmT t) (hb : b ∈ nmT t) (nd : (nmT t).Nodup) : lastP [b, a] t = lastP [a, b] t := by
  have h1 : holdsB [a, b] t = true := by simp [holdsB, ha, hb]
  have h2 : holdsB [b, a] t = true := by simp [holdsB, ha, hb]
  have e : chT [b, a] t = chT [a, b] t := by
    rw [← flt_ch (by simp) t nd h1, ← flt_ch (by simp) t nd h2]
    congr 1
    funext q
    simp [holdsB, Bool.and_comm]
  unfold lastP
  simp only [e]
theorem plD_inj {a b : List Nat} : PyData.eqv (plD a) (plD b) = decide (a = b) := by
  unfold plD
  have : ∀ a b : List Nat, PyData.eqvAll (a.map fun n => .int (n : Nat)) (b.map fun n => .int (n : Nat)) = decide (a = b) := by
    intro a
    induction a with
    | nil => intro b; cases b <;> simp [PyData.eqvAll]
    | cons x a ih =>
      intro b
      cases b with
      | nil => simp [PyData.eqvAll]
      | cons y b =>
        simp only [List.map_cons, PyData.eqvAll, ih b, PyData.eqv]
        rw [Bool.eq_iff_iff]
        simp
        omega
  simp only [PyData.eqv, this]
include hK G sub in
theorem t9x_ev (ns ds : List Int) (num : Int) (h0 : 0 ≤ num) (s4 s6 s7 s8 s9 s10 s11 s12 s13 s14 : Sl) : ∃ s12' s13' s14', (seqS (t9 (den K)) (t10 (den K))) (LS ns ds t s4 (.sh (.int num)) s6 s7 s8 s9 s10 s11 s12 s13 s14) = .nx (LS ns ds t s4 (.sh (.int num)) s6 s7 s8 s9 s10 s11 s12' s13' s14') := by
  have hs : sizeLine = 16777216 := sz_line
  have gh := G.h
  have gz := G.z
  have gl := G.l
  have np := g_nm t G.g
  have np' : (0 : Int) < ((nmT t).length : Nat) := by omega
  have pick : ∀ m : Int, ∃ s ∈ nmT t, ixD (.list ((nmT t).map .str)) (.int (m % ((nmT t).length : Nat))) = .ok (.str s) := fun m => by
    have b1 := Int.emod_nonneg m (show ((nmT t).length : Int) ≠ 0 by omega)
    have b2 := Int.emod_lt_of_pos m np'
    obtain ⟨i, hi⟩ : ∃ i : Nat, m % ((nmT t).length : Nat) = i := ⟨(m % ((nmT t).length : Nat)).toNat, by omega⟩
    have hlt : i < (nmT t).length := by omega
    refine ⟨(nmT t)[i], List.getElem_mem hlt, ?_⟩
    rw [hi, ix_l, at_nat (x := .str (nmT t)[i]) (by rw [List.getElem?_map, List.getElem?_eq_getElem hlt]; rfl)]
    rfl
  obtain ⟨a, ha, ea⟩ := pick num
  obtain ⟨b, hb, eb⟩ := pick (num / 16)
  have f16 : fdivI (.int num) (.int 16) = .ok (.int (num / 16)) := ev_fdiv (by decide)
  have e9 : t9 (den K) (LS ns ds t s4 (.sh (.int num)) s6 s7 s8 s9 s10 s11 s12 s13 s14) = .nx (LS ns ds t s4 (.sh (.int num)) s6 s7 s8 s9 s10 s11 (.sh (.str a)) (.sh (.str b)) s14) := by
    unfold t9
    simp only [ev_par, ev_argsMf, ev_argsM0, ev_d2, gS_succ, gS_zero, bnd_ok, ev_dA, ev_args, ev_args0, ev_lenL, List.length_map, ev_mod np', ea, ev_k, f16, eb, toS_ok, List.length_cons, List.length_nil, if_true, ev_bindM, ev_bindM0, List.set_cons_succ, List.set_cons_zero]
  rw [ev_seq, e9, rsb_nx]
  have oa := L8_ok a (sub.subset ha)
  have ob := L8_ok b (sub.subset hb)
  unfold t10
  by_cases hab : a = b
  · subst hab
    have e1 := (s_together G a a ha hb oa ob (K - 1) (by omega)).2 rfl
    have e2 := s_err (k := K - 1) "BadNames" "names" (.inr (.inl ⟨rfl, rfl⟩)) 2 (enc t) (.str a) (.str a) (.inr (.inr ⟨rfl, e1⟩))
    rw [show K - 1 + 1 = K by omega] at e2
    refine ⟨.sh (.str a), .sh (.str a), s14, ?_⟩
    simp only [ev_if, ev_tB1, ev_d2, gS_succ, gS_zero, bnd_ok, ev_neS, decide_true, Bool.not_true, ev_asB, toS_ok, if_neg Bool.false_ne_true, ev_dA, ev_args, ev_args0, ev_k, ev_cD, List.map_cons, List.map_nil, e2]
    rfl
  · have hh : holdsB [a, b] t = true := by simp [holdsB, ha, hb]
    have e1 := s_ltrees K t [] (by omega) (by omega) (by simp; omega)
    have ep : (plD [] : PyData) = .tuple [] := rfl
    rw [ep] at e1
    have e2 := s_lcommon [a, b] (.list [.str a, .str b]) rfl (by simp) G (by simp) hh K (by omega)
    have e3 : ∀ x11 x14 x18 : Sl, lcL (bT 2 (bCons (bN 11) (bCons (bN 18) bNil))) (tB1 (d2 eqD (gS 11) (dA (argsF [(gS 2), (dA (argsF [(gS 12), (gS 13)]) lstD)]) (cD (den K I__law_common))))) (gS 18) [.br ns, .sh (I2 ds), .sh (enc t), .sh (.list ((nmT t).map .str)), s4, .sh (.int num), s6, s7, s8, s9, s10, x11, .sh (.str a), .sh (.str b), x14, .no, .no, .no, x18] ((trs t).map (trD [])) = .ok (((trs t).filter fun q => decide (q.1 = lastP [a, b] t)).map fun q => enc q.2) := fun x11 x14 x18 => by
      refine lcL_on _ _ _ _ fun q hq => ⟨[.br ns, .sh (I2 ds), .sh (enc t), .sh (.list ((nmT t).map .str)), s4, .sh (.int num), s6, s7, s8, s9, s10, .sh (plD q.1), .sh (.str a), .sh (.str b), x14, .no, .no, .no, .sh (enc q.2)], by simp [trD], ?_, fun _ => by simp⟩
      simp only [ev_tB1, ev_d2, gS_succ, gS_zero, bnd_ok, ev_dA, ev_args, ev_args0, ev_lst2, ev_cD, List.map_cons, List.map_nil, e2]
      rw [eqD_of (dn_pl 59 _) (dn_pl 59 _), plD_inj]
      rfl
    -- the first tree there
    have hm : (lastP [a, b] t) ∈ (chT [a, b] t).map (·.1) := List.getLast_mem _
    obtain ⟨q0, hq0, eq0⟩ := List.mem_map.mp hm
    rw [← flt_ch (by simp) t G.nd hh] at hq0
    have hq1 : q0 ∈ (trs t).filter fun q => decide (q.1 = lastP [a, b] t) := List.mem_filter.mpr ⟨(List.mem_filter.mp hq0).1, by simpa using eq0⟩
    obtain ⟨q, r, eqr⟩ : ∃ q r, ((trs t).filter fun q => decide (q.1 = lastP [a, b] t)) = q :: r := by
      cases h : (trs t).filter fun q => decide (q.1 = lastP [a, b] t) with
      | nil => rw [h] at hq1; cases hq1
      | cons q r => exact ⟨q, r, rfl⟩
    have hq : q ∈ (trs t).filter fun q => decide (q.1 = lastP [a, b] t) := by rw [eqr]; exact List.mem_cons_self
    obtain ⟨hq2, hq3⟩ := List.mem_filter.mp hq
    have hq3 : q.1 = lastP [a, b] t := by simpa using hq3
    have ta := tAt_in (hT t) t (Nat.le_refl _) q hq2
    rw [hq3] at ta
    have t1 := (s_together G a b ha hb oa ob K (by omega)).1 hab q.2 ta
    have t2 := (s_together G b a hb ha ob oa K (by omega)).1 (fun z => hab z.symm) q.2 (by rw [ch_filter hab ha hb G.nd]; exact ta)
    have lt := trs_len t
    refine ⟨.sh (.str a), .sh (.str b), .sh (.str (wd q.2)), ?_⟩
    simp only [ev_if, ev_tB1, ev_d2, gS_succ, gS_zero, bnd_ok, ev_neS, decide_eq_false hab, Bool.not_false, ev_asB, toS_ok, if_true, ev_seq, ev_set, ev_lc, ev_d1L, ev_dA, ev_args, ev_args0, ev_tup0, ev_cD, List.map_cons, List.map_nil, e1, ev_items_l]
    rw [if_pos (by rw [List.length_map]; omega)]
    simp only [ev_wipe, ev_wipe0, List.set_cons_succ, List.set_cons_zero, e3, bnd_ok]
    rw [eqr]
    simp only [List.map_cons, ev_k, bnd_ok, ix_l, at_0, ofO_some, ix0_enc, toS_ok, rsb_nx, List.set_cons_succ, List.set_cons_zero, ev_if, ev_tOr, ev_tB1, ev_d2, ev_dA, ev_args, ev_args0, gS_succ, gS_zero, ev_cD, List.map_nil, t1, t2, ev_neS, decide_true, Bool.not_true, ev_asB, if_neg Bool.false_ne_true, ev_nx]
end
end KL
end
section
open PySem PySem.Spec PyProof.Rows L2 VS
namespace KL
theorem rep_one (x : PyData) (n : Nat) (h : n ≤ 1000) : repL (.list [x]) (.int (n : Nat)) = .ok (.list (List.replicate n x)) := by
  have hs : sizeLine = 16777216 := sz_line
  unfold repL
  simp only
  rw [if_pos ⟨by omega, by omega, by simp; omega⟩]
  congr 2
  rw [Int.toNat_natCast]
  induction n with
  | zero => rfl
  | succ n ih => rw [List.replicate_succ, List.flatten_cons, ih (by omega), List.replicate_succ]; rfl
theorem dn_rep (s : Str) (n : Nat) : dn 60 (.list (List.replicate n (.str s))) = true := by simp
section
variable {K : Nat} (hK : 50 ≤ K) {t : T} (G : GL t) (sub : (nmT t).Sublist L8)
include hK G sub in
theorem p4_ev (ns ds : List Int) (hl : ds.length = 70) (ok : okDr ds) : ∃ s4 s5 s6 s7 s8 s9 s10 s11 s12 s13 s14, p4 (den K) (LS ns ds t .no .no .no .no .no .no .no .no .no .no .no) = .nx (LS ns ds t s4 s5 s6 s7 s8 s9 s10 s11 s12 s13 s14) := by
  have er : rng1D [PyData.int 10] = .ok (nums 10) := rng1_n 10 (by decide)
  obtain ⟨δ', e, s4, s5, s6, s7, s8, s9, s10, s11, s12, s13, s14, rfl⟩ := goS_inv0 (b := bN 4) (body := tB (den K)) (ds := nums 10) (δ := LS ns ds t .no .no .no .no .no .no .no .no .no .no .no)
    (fun j δ => ∃ s4 s5 s6 s7 s8 s9 s10 s11 s12 s13 s14, δ = LS ns ds t s4 s5 s6 s7 s8 s9 s10 s11 s12 s13 s14) ⟨.no, .no, .no, .no, .no, .no, .no, .no, .no, .no, .no, rfl⟩ (by
    rintro j d δ hj ⟨s4, s5, s6, s7, s8, s9, s10, s11, s12, s13, s14, rfl⟩
    obtain ⟨hlt, rfl⟩ := nums_at hj
    obtain ⟨num, n0, e1⟩ := t1_ev (K := K) (t := t) ns ds hl ok j hlt s5 s6 s7 s8 s9 s10 s11 s12 s13 s14
    obtain ⟨xs, hx, e2⟩ := t2_ev (K := K) G sub ns ds num n0 (.sh (.int (j : Nat))) s6 s7 s8 s9 s10 s11 s12 s13 s14
    have e4 := t4_ev hK G ns ds xs hx (.sh (.int (j : Nat))) (.sh (.int num)) s7 s8 s9 s10 s11 s12 s13 s14
    have e5 := t5_ev hK G ns ds xs hx (.sh (.int (j : Nat))) (.sh (.int num)) s8 s9 s10 s11 s12 s13 s14
    obtain ⟨s8', s9', e6⟩ := t6_ev hK G ns ds xs hx (.sh (.int (j : Nat))) (.sh (.int num)) s8 s9 s10 s11 s12 s13 s14
    obtain ⟨s10', s11', e7⟩ := t78_ev hK G ns ds xs hx (.sh (.int (j : Nat))) (.sh (.int num)) (.sh (encO (lf (inX xs) t))) s8' s9' s10 s11 s12 s13 s14 (seqS (t9 (den K)) (t10 (den K)))
    obtain ⟨s12', s13', s14', e9⟩ := t9x_ev hK G sub ns ds num n0 (.sh (.int (j : Nat))) (.sh (.tuple (xs.map .str))) (.sh (encO (lf (inX xs) t))) s8' s9' s10' s11' s12 s13 s14
    refine ⟨LS ns ds t (.sh (.int (j : Nat))) s5 s6 s7 s8 s9 s10 s11 s12 s13 s14, _, rfl, .inl (by unfold tB; rw [ev_seq, e1, rsb_nx, e2, ev_seq, e4, rsb_nx, ev_seq, e5, rsb_nx, ev_seq, e6, rsb_nx, e7, e9]), _, _, _, _, _, _, _, _, _, _, _, rfl⟩)
  refine ⟨s4, s5, s6, s7, s8, s9, s10, s11, s12, s13, s14, ?_⟩
  unfold p4
  simp only [ev_for, ev_dAL, ev_args, ev_args0, ev_k, bnd_ok, er, toS_ok]
  exact e
include hK G in
theorem p5_ev (ns ds : List Int) (s4 s5 s6 s7 s8 s9 s10 s11 s12 s13 s14 : Sl) : p5 (den K) (LS ns ds t s4 s5 s6 s7 s8 s9 s10 s11 s12 s13 s14) = .nx (LS ns ds t s4 s5 s6 s7 s8 s9 s10 s11 s12 s13 s14) := by
  have hs : sizeLine = 16777216 := sz_line
  have gl := G.l
  have ls : (sortS (nmT t)).length = (nmT t).length := (sortS_perm _).length_eq
  have e1 := s_without [] rfl (by simp) G K (by omega)
  have e2 : lf (fun s => decide (s ∈ ([] : List Str))) t = some t := lf_stay _ t (g_fl t G.g) fun s _ => by simp
  rw [e2] at e1
  have e1' : den K I_without [.sh (enc t), .sh (.tuple [])] = .ok (enc t) := e1
  have e3 := s_without (sortS (nmT t)) (asc_of (sorted_lt G.nd)) (by omega) G K (by omega)
  have e4 : lf (fun s => decide (s ∈ sortS (nmT t))) t = none := (lf_none _ t G.g).mpr fun s hs => decide_eq_true ((sortS_perm _).mem_iff.mpr hs)
  rw [e4] at e3
  have e3' : den K I_without [.sh (enc t), .sh (.tuple ((sortS (nmT t)).map .str))] = .ok .none := e3
  have e5 := ev_sortS (nmT t) (by omega)
  have dd := ne_self (dn_enc G)
  unfold p5
  simp only [ev_if, ev_tOr, ev_tB1, ev_d2, ev_dA, ev_args, ev_args0, gS_succ, gS_zero, bnd_ok, ev_tup0, ev_cD, List.map_cons, List.map_nil, e1', dd, ev_asB, if_neg Bool.false_ne_true, ev_d1, ev_sortA_l, e5, ev_tupOf, e3', ev_notN, isN_none, Bool.not_true, toS_ok, ev_nx]
theorem err_at {k : Nat} (hk : 2 ≤ k) (nm out : Str) (ho : (nm = "BadLayout" ∧ out = "layout") ∨ (nm = "BadNames" ∧ out = "names") ∨ (nm = "NoWindow" ∧ out = "window")) (i : Int) (v w x : PyData)
    (h : (i = 0 ∧ den (k - 1) I_without [.sh v, .sh w] = .ex (.mk nm [])) ∨ (i = 1 ∧ den (k - 1) I_common_tree [.sh v, .sh w] = .ex (.mk nm [])) ∨ (i = 2 ∧ den (k - 1) I_together [.sh v, .sh w, .sh x] = .ex (.mk nm []))) :
    den k I__law_error [.sh (.int i), .sh v, .sh w, .sh x] = .ok (.str out) := by
  have := s_err (k := k - 1) nm out ho i v w x h
  rw [show k - 1 + 1 = k by omega] at this
  exact this
include hK in
theorem p6_ev (s0 s1 s2 s3 s4 s5 s6 s7 s8 s9 s10 s11 s12 s13 s14 s16 s17 s18 : Sl) : ∃ s15, p6 (den K) [s0, s1, s2, s3, s4, s5, s6, s7, s8, s9, s10, s11, s12, s13, s14, .no, s16, s17, s18] = .nx [s0, s1, s2, s3, s4, s5, s6, s7, s8, s9, s10, s11, s12, s13, s14, s15, s16, s17, s18] := by
  have hs : sizeLine = 16777216 := sz_line
  have er := rep_one (.str "layout") 3 (by decide)
  have dd := ne_self (dn_rep "layout" 3)
  have el : (List.replicate 3 (PyData.str "layout")) = [.str "layout", .str "layout", .str "layout"] := rfl
  rw [el] at er dd
  obtain ⟨δ', e, s15, rfl⟩ := goS_inv0 (b := bN 15) (body := (ifS (tB1 (d2 neD (dA (argsF [(dA (argsF [(kC (.int 0)), (gS 15), (dA (argsF []) tupD), (kC .none)]) (cD (den K I__law_error))), (dA (argsF [(kC (.int 1)), (gS 15), (dA (argsF [(kC (.str "a"))]) tupD), (kC .none)]) (cD (den K I__law_error))), (dA (argsF [(kC (.int 2)), (gS 15), (kC (.str "a")), (kC (.str "bb"))]) (cD (den K I__law_error)))]) lstD) (d2 repL (dA (argsF [(kC (.str "layout"))]) lstD) (kC (.int 3))))) (retS (kC (.bool false))) nxS)) (ds := wrongL) (δ := [s0, s1, s2, s3, s4, s5, s6, s7, s8, s9, s10, s11, s12, s13, s14, .no, s16, s17, s18])
    (fun j δ => ∃ s15, δ = [s0, s1, s2, s3, s4, s5, s6, s7, s8, s9, s10, s11, s12, s13, s14, s15, s16, s17, s18]) ⟨.no, rfl⟩ (by
    rintro j d δ hj ⟨s15, rfl⟩
    have hb := nb_wrong (k := K - 2) (by omega) d (List.mem_of_getElem? hj)
    have k1 : K - 2 + 1 = K - 1 := by omega
    have a0 := ex_without (w := .tuple []) hb
    have a1 := ex_common (w := .tuple [.str "a"]) hb
    have a2 := ex_together (w := .str "a") (x := .str "bb") hb
    rw [k1] at a0 a1 a2
    have b0 := err_at (k := K) (by omega) "BadLayout" "layout" (.inl ⟨rfl, rfl⟩) 0 d (.tuple []) .none (.inl ⟨rfl, a0⟩)
    have b1 := err_at (k := K) (by omega) "BadLayout" "layout" (.inl ⟨rfl, rfl⟩) 1 d (.tuple [.str "a"]) .none (.inr (.inl ⟨rfl, a1⟩))
    have b2 := err_at (k := K) (by omega) "BadLayout" "layout" (.inl ⟨rfl, rfl⟩) 2 d (.str "a") (.str "bb") (.inr (.inr ⟨rfl, a2⟩))
    refine ⟨[s0, s1, s2, s3, s4, s5, s6, s7, s8, s9, s10, s11, s12, s13, s14, .sh d, s16, s17, s18], _, rfl, .inl ?_, .sh d, rfl⟩
    have er' : repL (.list [.str "layout"]) (.int 3) = .ok (.list [.str "layout", .str "layout", .str "layout"]) := er
    simp only [ev_if, ev_tB1, ev_d2, ev_dA, ev_args, ev_args0, ev_k, gS_succ, gS_zero, bnd_ok, ev_tup0, ev_tup1, ev_cD, List.map_cons, List.map_nil, b0, b1, b2, ev_lst3, ev_lst1, er', dd, ev_asB, toS_ok, if_neg Bool.false_ne_true, ev_nx])
  refine ⟨s15, ?_⟩
  unfold p6
  simp only [ev_for, ev_d1L, ev_dA, ev_args, ev_args0, ev_k, bnd_ok, ev_lst0, ev_tup0, ev_tup2, ev_tup4, ev_items_t, toS_ok]
  exact e
def wr5 : List PyData := [.none, .list [.str "a"], .tuple [.str "b", .str "a"], .tuple [.str "a", .str "a"], .tuple [.int 5]]
def wr6 : List PyData := [.none, .tuple [], .list [.str "a"], .tuple [.str "zz"], .tuple [.str "a", .str "zz"], .tuple [.int 5]]
def wr4 : List PyData := [.none, .str "zz", .int 5, .str ""]
def wr3 : List PyData := [.none, .str "zz", .int 5]
theorem nn5 {k : Nat} (hk : 5 ≤ k) : ∀ v ∈ wr5, NN k v := by
  obtain ⟨k', rfl⟩ : ∃ k', k = k' + 2 := ⟨k - 2, by omega⟩
  intro v hv
  unfold wr5 at hv
  simp only [List.mem_cons, List.not_mem_nil, or_false] at hv
  rcases hv with rfl | rfl | rfl | rfl | rfl
  · exact nn_notT rfl
  · exact nn_notT rfl
  · exact nn_asc (xs := ["b", "a"]) (by simp) (by decide)
  · exact nn_asc (xs := ["a", "a"]) (by simp) (by decide)
  · exact nn_5
include hK G in
theorem p7_ev (s0 s1 s3 s4 s5 s6 s7 s8 s9 s10 s11 s12 s13 s14 s15 s16 s17 s18 : Sl) : p7 (den K) [s0, s1, .sh (enc t), s3, s4, s5, s6, s7, s8, s9, s10, s11, s12, s13, s14, s15, s16, s17, s18] = .nx [s0, s1, .sh (enc t), s3, s4, s5, s6, s7, s8, s9, s10, s11, s12, s13, s14, s15, s16, s17, s18] := by
  have hs : sizeLine = 16777216 := sz_line
  have er : repL (.list [.str "names"]) (.int 5) = _ := rep_one (.str "names") 5 (by decide)
  have dd := ne_self (dn_rep "names" 5)
  have e1 : lcL (bN 15) yesT (dA (argsF [(kC (.int 0)), (gS 2), (gS 15), (kC .none)]) (cD (den K I__law_error))) [s0, s1, .sh (enc t), s3, s4, s5, s6, s7, s8, s9, s10, s11, s12, s13, s14, .no, s16, s17, s18] wr5 = .ok (wr5.map fun _ => .str "names") := lcL_map _ _ fun v hv => by
    have hb := nn5 (k := K - 2) (by omega) v hv
    have a0 := exn_without G (by omega) hb
    rw [show K - 2 + 1 = K - 1 by omega] at a0
    have b0 := err_at (k := K) (by omega) "BadNames" "names" (.inr (.inl ⟨rfl, rfl⟩)) 0 (enc t) v .none (.inl ⟨rfl, a0⟩)
    exact ⟨_, rfl, by simp only [List.set_cons_succ, List.set_cons_zero, ev_dA, ev_args, ev_args0, ev_k, gS_succ, gS_zero, bnd_ok, ev_cD, List.map_cons, List.map_nil, b0]⟩
  have e1' : lcL (bN 15) yesT (dA (argsF [(kC (.int 0)), (gS 2), (gS 15), (kC .none)]) (cD (den K I__law_error))) [s0, s1, .sh (enc t), s3, s4, s5, s6, s7, s8, s9, s10, s11, s12, s13, s14, .no, s16, s17, s18] [.none, .list [.str "a"], .tuple [.str "b", .str "a"], .tuple [.str "a", .str "a"], .tuple [.int 5]] = .ok (List.replicate 5 (.str "names")) := e1
  have e5 : tupD [.none, .list [.str "a"], .tuple [.str "b", .str "a"], .tuple [.str "a", .str "a"], .tuple [.int 5]] = .ok (.tuple [.none, .list [.str "a"], .tuple [.str "b", .str "a"], .tuple [.str "a", .str "a"], .tuple [.int 5]]) := ev_tup (by simp; omega)
  unfold p7
  simp only [ev_if, ev_tB1, ev_d2, ev_lc, ev_d1L, ev_dA, ev_args, ev_args0, ev_k, bnd_ok, ev_lst1, ev_tup1, ev_tup2, e5, ev_items_t]
  rw [if_pos (by simp; omega)]
  simp only [ev_wipe, ev_wipe0, List.set_cons_succ, List.set_cons_zero, e1', bnd_ok, er, dd, ev_asB, toS_ok, if_neg Bool.false_ne_true, ev_nx]
include hK G sub in
theorem p8_ev (s0 s1 s3 s4 s5 s6 s7 s8 s9 s10 s11 s12 s13 s14 s15 s16 s17 s18 : Sl) : p8 (den K) [s0, s1, .sh (enc t), s3, s4, s5, s6, s7, s8, s9, s10, s11, s12, s13, s14, s15, s16, s17, s18] = .nx [s0, s1, .sh (enc t), s3, s4, s5, s6, s7, s8, s9, s10, s11, s12, s13, s14, s15, s16, s17, s18] := by
  have hs : sizeLine = 16777216 := sz_line
  have er : repL (.list [.str "names"]) (.int 6) = _ := rep_one (.str "names") 6 (by decide)
  have dd := ne_self (dn_rep "names" 6)
  have nz : ¬ ("zz" : Str) ∈ nmT t := fun h => (by decide : ¬ ("zz" : Str) ∈ L8) (sub.subset h)
  have k1 : K - 2 + 1 = K - 1 := by omega
  have e1 : lcL (bN 15) yesT (dA (argsF [(kC (.int 1)), (gS 2), (gS 15), (kC .none)]) (cD (den K I__law_error))) [s0, s1, .sh (enc t), s3, s4, s5, s6, s7, s8, s9, s10, s11, s12, s13, s14, .no, s16, s17, s18] wr6 = .ok (wr6.map fun _ => .str "names") := lcL_map _ _ fun v hv => by
    have a0 : den (K - 1) I_common_tree [.sh (enc t), .sh v] = .ex (.mk "BadNames" []) := by
      unfold wr6 at hv
      simp only [List.mem_cons, List.not_mem_nil, or_false] at hv
      have nn : v ∈ wr5 → den (K - 1) I_common_tree [.sh (enc t), .sh v] = .ex (.mk "BadNames" []) := fun h => by
        have := exn_common G (by omega) (nn5 (k := K - 2) (by omega) v h)
        rw [k1] at this
        exact this
      rcases hv with rfl | rfl | rfl | rfl | rfl | rfl
      · exact nn (by simp [wr5])
      · exact s_ctreeN [] rfl (by simp) G (.inl rfl) (K - 1) (by omega)
      · exact nn (by simp [wr5])
      · exact s_ctreeN ["zz"] rfl (by simp) G (.inr (by simp [holdsB, nz])) (K - 1) (by omega)
      · exact s_ctreeN ["a", "zz"] (by decide) (by simp) G (.inr (by simp [holdsB, nz])) (K - 1) (by omega)
      · exact nn (by simp [wr5])
    have b0 := err_at (k := K) (by omega) "BadNames" "names" (.inr (.inl ⟨rfl, rfl⟩)) 1 (enc t) v .none (.inr (.inl ⟨rfl, a0⟩))
    exact ⟨_, rfl, by simp only [List.set_cons_succ, List.set_cons_zero, ev_dA, ev_args, ev_args0, ev_k, gS_succ, gS_zero, bnd_ok, ev_cD, List.map_cons, List.map_nil, b0]⟩
  have e1' : lcL (bN 15) yesT (dA (argsF [(kC (.int 1)), (gS 2), (gS 15), (kC .none)]) (cD (den K I__law_error))) [s0, s1, .sh (enc t), s3, s4, s5, s6, s7, s8, s9, s10, s11, s12, s13, s14, .no, s16, s17, s18] [.none, .tuple [], .list [.str "a"], .tuple [.str "zz"], .tuple [.str "a", .str "zz"], .tuple [.int 5]] = .ok (List.replicate 6 (.str "names")) := e1
  have e5 : tupD [.none, .tuple [], .list [.str "a"], .tuple [.str "zz"], .tuple [.str "a", .str "zz"], .tuple [.int 5]] = .ok (.tuple [.none, .tuple [], .list [.str "a"], .tuple [.str "zz"], .tuple [.str "a", .str "zz"], .tuple [.int 5]]) := ev_tup (by simp; omega)
  unfold p8
  simp only [ev_if, ev_tB1, ev_d2, ev_lc, ev_d1L, ev_dA, ev_args, ev_args0, ev_k, bnd_ok, ev_lst1, ev_tup0, ev_tup1, ev_tup2, e5, ev_items_t]
  rw [if_pos (by simp; omega)]
  simp only [ev_wipe, ev_wipe0, List.set_cons_succ, List.set_cons_zero, e1', bnd_ok, er, dd, ev_asB, toS_ok, if_neg Bool.false_ne_true, ev_nx]
include hK G sub in
theorem p9_ev (s0 s1 s4 s5 s6 s7 s8 s9 s10 s11 s12 s13 s14 s15 s16 s17 s18 : Sl) : p9 (den K) [s0, s1, .sh (enc t), .sh (.list ((nmT t).map .str)), s4, s5, s6, s7, s8, s9, s10, s11, s12, s13, s14, s15, s16, s17, s18] = .rt (.bool true) := by
  have hs : sizeLine = 16777216 := sz_line
  have er4 : repL (.list [.str "window"]) (.int 4) = _ := rep_one (.str "window") 4 (by decide)
  have er3 : repL (.list [.str "window"]) (.int 3) = _ := rep_one (.str "window") 3 (by decide)
  have dd4 := VS.eq_self (dn_rep "window" 4)
  have dd3 := VS.eq_self (dn_rep "window" 3)
  have nz : ¬ ("zz" : Str) ∈ nmT t := fun h => (by decide : ¬ ("zz" : Str) ∈ L8) (sub.subset h)
  have k1 : K - 2 + 1 = K - 1 := by omega
  obtain ⟨a, r, ear⟩ : ∃ a r, nmT t = a :: r := by
    have := g_nm t G.g
    cases h : nmT t with
    | nil => rw [h] at this; simp at this
    | cons a r => exact ⟨a, r, rfl⟩
  have ha : a ∈ nmT t := by rw [ear]; exact List.mem_cons_self
  have oa := L8_ok a (sub.subset ha)
  have nw : ∀ v ∈ wr4, NW (K - 2) t v := fun v hv => by
    obtain ⟨k', ek⟩ : ∃ k', K - 2 = k' + 1 := ⟨K - 3, by omega⟩
    rw [ek]
    unfold wr4 at hv
    simp only [List.mem_cons, List.not_mem_nil, or_false] at hv
    rcases hv with rfl | rfl | rfl | rfl
    · exact .inl (name_n k' _ rfl)
    · exact .inr ⟨"zz", rfl, s_is_name k' "zz" (by decide), nz⟩
    · exact .inl (name_n k' _ rfl)
    · exact .inl (name_0 k')
  have i0 : ixD (.list ((nmT t).map .str)) (.int 0) = .ok (.str a) := by rw [ear]; simp
  have e4 : lcL (bN 15) yesT (dA (argsF [(kC (.int 2)), (gS 2), (gS 15), (d2 ixD (gS 3) (kC (.int 0)))]) (cD (den K I__law_error))) [s0, s1, .sh (enc t), .sh (.list ((nmT t).map .str)), s4, s5, s6, s7, s8, s9, s10, s11, s12, s13, s14, .no, s16, s17, s18] wr4 = .ok (wr4.map fun _ => .str "window") := lcL_map _ _ fun v hv => by
    have a0 := exw_one G (by omega) (x := .str a) (nw v hv)
    rw [k1] at a0
    have b0 := err_at (k := K) (by omega) "NoWindow" "window" (.inr (.inr ⟨rfl, rfl⟩)) 2 (enc t) v (.str a) (.inr (.inr ⟨rfl, a0⟩))
    exact ⟨_, rfl, by simp only [List.set_cons_succ, List.set_cons_zero, ev_dA, ev_args, ev_args0, ev_k, gS_succ, gS_zero, bnd_ok, ev_d2, i0, ev_cD, List.map_cons, List.map_nil, b0]⟩
  have e3 : lcL (bN 15) yesT (dA (argsF [(kC (.int 2)), (gS 2), (d2 ixD (gS 3) (kC (.int 0))), (gS 15)]) (cD (den K I__law_error))) [s0, s1, .sh (enc t), .sh (.list ((nmT t).map .str)), s4, s5, s6, s7, s8, s9, s10, s11, s12, s13, s14, .no, s16, s17, s18] wr3 = .ok (wr3.map fun _ => .str "window") := lcL_map _ _ fun v hv => by
    have hv4 : v ∈ wr4 := by unfold wr3 at hv; unfold wr4; simp only [List.mem_cons, List.not_mem_nil, or_false] at hv ⊢; rcases hv with h | h | h <;> simp [h]
    have a0 := exw_two G (by omega) ha oa (nw v hv4)
    rw [k1] at a0
    have b0 := err_at (k := K) (by omega) "NoWindow" "window" (.inr (.inr ⟨rfl, rfl⟩)) 2 (enc t) (.str a) v (.inr (.inr ⟨rfl, a0⟩))
    exact ⟨_, rfl, by simp only [List.set_cons_succ, List.set_cons_zero, ev_dA, ev_args, ev_args0, ev_k, gS_succ, gS_zero, bnd_ok, ev_d2, i0, ev_cD, List.map_cons, List.map_nil, b0]⟩
  have e4' : lcL (bN 15) yesT (dA (argsF [(kC (.int 2)), (gS 2), (gS 15), (d2 ixD (gS 3) (kC (.int 0)))]) (cD (den K I__law_error))) [s0, s1, .sh (enc t), .sh (.list ((nmT t).map .str)), s4, s5, s6, s7, s8, s9, s10, s11, s12, s13, s14, .no, s16, s17, s18] [.none, .str "zz", .int 5, .str ""] = .ok (List.replicate 4 (.str "window")) := e4
  have e3' : lcL (bN 15) yesT (dA (argsF [(kC (.int 2)), (gS 2), (d2 ixD (gS 3) (kC (.int 0))), (gS 15)]) (cD (den K I__law_error))) [s0, s1, .sh (enc t), .sh (.list ((nmT t).map .str)), s4, s5, s6, s7, s8, s9, s10, s11, s12, s13, s14, .no, s16, s17, s18] [.none, .str "zz", .int 5] = .ok (List.replicate 3 (.str "window")) := e3
  have l4 : ([PyData.none, .str "zz", .int 5, .str ""] : List PyData).length ≤ sizeLine := by simp; omega
  have l3 : ([PyData.none, .str "zz", .int 5] : List PyData).length ≤ sizeLine := by simp; omega
  unfold p9
  simp only [ev_ret, ev_and, ev_d2, ev_lc, ev_d1L, ev_dA, ev_args, ev_args0, ev_k, bnd_ok, ev_tup4, ev_tup3, ev_lst1, ev_items_t, if_pos l4, if_pos l3, ev_wipe, ev_wipe0, List.set_cons_succ, List.set_cons_zero, e4', e3', er4, er3, dd4, dd3, ev_asB, if_true, toS_ok]
end
theorem good (ns : List Int) (hn : ns.length ≤ 63) : den 60 I_law [.br ns] = .ok (.bool true) := by
  have e0 : den (59 + 1) I_law [.br ns] = outR (b_32 (den 59) [.br ns, .no, .no, .no, .no, .no, .no, .no, .no, .no, .no, .no, .no, .no, .no, .no, .no, .no, .no]) := den_law _ _
  obtain ⟨ds, e1, hl, ok⟩ := s_draws 58 ns 70 (by decide)
  have e1' : den 59 I__law_draws [.br ns, .sh (.int 70)] = .ok (I2 ds) := e1
  have c45 := cut_len' (ds.map PyData.int) 45
  rw [← List.map_take] at c45
  have ok' : okDr (ds.take 45) := fun d hd => ok d (List.mem_of_mem_take hd)
  obtain ⟨t, e2, G, sub⟩ := s_layout (ds.take 45) (by rw [List.length_take]; omega) ok' 59 (by decide)
  have gh := G.h
  have gz := G.z
  have e3 := s_lnames t 59 (by omega) (by omega)
  have e4 := s_lay G 59 (by decide)
  obtain ⟨s4, s5, s6, s7, s8, s9, s10, s11, s12, s13, s14, e5⟩ := p4_ev (K := 59) (by decide) G sub ns ds hl ok
  have e6 := p5_ev (K := 59) (by decide) G ns ds s4 s5 s6 s7 s8 s9 s10 s11 s12 s13 s14
  obtain ⟨s15, e7⟩ := p6_ev (K := 59) (by decide) (.br ns) (.sh (I2 ds)) (.sh (enc t)) (.sh (.list ((nmT t).map .str))) s4 s5 s6 s7 s8 s9 s10 s11 s12 s13 s14 .no .no .no
  have e8 := p7_ev (K := 59) (by decide) G (.br ns) (.sh (I2 ds)) (.sh (.list ((nmT t).map .str))) s4 s5 s6 s7 s8 s9 s10 s11 s12 s13 s14 s15 .no .no .no
  have e9 := p8_ev (K := 59) (by decide) G sub (.br ns) (.sh (I2 ds)) (.sh (.list ((nmT t).map .str))) s4 s5 s6 s7 s8 s9 s10 s11 s12 s13 s14 s15 .no .no .no
  have e10 := p9_ev (K := 59) (by decide) G sub (.br ns) (.sh (I2 ds)) s4 s5 s6 s7 s8 s9 s10 s11 s12 s13 s14 s15 .no .no .no
  have q0 : p0 (den 59) [.br ns, .no, .no, .no, .no, .no, .no, .no, .no, .no, .no, .no, .no, .no, .no, .no, .no, .no, .no] = .nx [.br ns, .sh (I2 ds), .no, .no, .no, .no, .no, .no, .no, .no, .no, .no, .no, .no, .no, .no, .no, .no, .no] := by
    unfold p0
    have : dScr 0 (kC (.int 70)) (den 59 I__law_draws) [.br ns, .no, .no, .no, .no, .no, .no, .no, .no, .no, .no, .no, .no, .no, .no, .no, .no, .no, .no] = .ok (I2 ds) := e1'
    rw [ev_set, this, toS_ok]
    rfl
  have q1 : p1 (den 59) [.br ns, .sh (I2 ds), .no, .no, .no, .no, .no, .no, .no, .no, .no, .no, .no, .no, .no, .no, .no, .no, .no] = .nx [.br ns, .sh (I2 ds), .sh (enc t), .no, .no, .no, .no, .no, .no, .no, .no, .no, .no, .no, .no, .no, .no, .no, .no] := by
    unfold p1
    have c45' : cutD (ds.map PyData.int) none (some 45) = (ds.take 45).map .int := c45
    simp only [ev_set, ev_dA, ev_args, ev_args0, dSl, gS_succ, gS_zero, bnd_ok, noP, someP, ev_k, asI, slA, c45', ev_cD, List.map_cons, List.map_nil, e2, toS_ok, List.set_cons_succ, List.set_cons_zero]
  have q2 : p2 (den 59) [.br ns, .sh (I2 ds), .sh (enc t), .no, .no, .no, .no, .no, .no, .no, .no, .no, .no, .no, .no, .no, .no, .no, .no] = .nx (LS ns ds t .no .no .no .no .no .no .no .no .no .no .no) := by
    unfold p2
    simp only [ev_set, ev_dA, ev_args, ev_args0, gS_succ, gS_zero, bnd_ok, ev_cD, List.map_cons, List.map_nil, e3, toS_ok, List.set_cons_succ, List.set_cons_zero]
  have q3 : p3 (den 59) (LS ns ds t .no .no .no .no .no .no .no .no .no .no .no) = .nx (LS ns ds t .no .no .no .no .no .no .no .no .no .no .no) := by
    unfold p3
    simp only [ev_if, ev_tNot, ev_tB1, ev_dA, ev_args, ev_args0, gS_succ, gS_zero, bnd_ok, ev_cD, List.map_cons, List.map_nil, e4, ev_asB, Bool.not_true, toS_ok, if_neg Bool.false_ne_true, ev_nx]
  show den (59 + 1) I_law [.br ns] = _
  rw [e0, law_eq, ev_seq, q0, rsb_nx, ev_seq, q1, rsb_nx, ev_seq, q2, rsb_nx, ev_seq, q3, rsb_nx, ev_seq, e5, rsb_nx, ev_seq, e6, rsb_nx, ev_seq, e7, rsb_nx, ev_seq, e8, rsb_nx, ev_seq, e9, rsb_nx, e10]
  rfl
end KL
end
theorem PySem.Challenge.cw_windowwright_k70_whole_closing_holds : PySem.Challenge.rw_windowwright_k70_whole_closing.Holds := by
  exact KL.holds KL.good
