import PyProof.Rows.All
import Wide.All
import OpenK.AllK
import Wide.FinOn
import HandS.ForMost
import HandS.Flow
import HandS.Style
import HandS.TupAny
import HandS.IsInst
import HandS.Wide
import KE.LtData
import KE.SortData
import KE.DataCmp
import KE.DataEq
import HandS.TupLen
import HandS.Conv
import KE.DataMinMax
import HandS.ForExc
import HandS.TryOnly
import HandS.WordsExc
import HandS.TryMany
import HandS.Defaults
import HandS.Iter
import HandS.Zip
import HandS.Comp
import KE.GoesEnum
import HandS.DictComp
import HandS.Text
import HandS.List
import HandS.Small
import KE.KStateDown
import HandS.Ends
import HandS.HeadEnd
import HandS.HeadHook1
import HandS.HeadHook2
import KE.KDictSum
import PyProof.TupleOfSeq
import PyProof.Transfer
import PySem.Challenge.RW_windowwright_k46_whole_windows_on_screen
import HandS.Head0
import HandS.Head1
import HandS.Head2
set_option Elab.async false
set_option linter.all false
set_option maxRecDepth 100000
set_option maxHeartbeats 4000000
section
/-! VS: pure values over the hand layer. Every expression gets a reading over PyData; lists and dicts are values, frozen (F) or owned by one slot. -/
namespace VS
open PySem L2

abbrev D := PyData

/-! ### outcomes -/
/-- an own exception: its class's name, its fields -/
inductive Xn where
  | mk (nm : Str) (fs : List (Str × D))
inductive Re (α : Type) where
  | ok (a : α)
  | ex (x : Xn)
  | no
def Re.bnd {α β : Type} (r : Re α) (f : α → Re β) : Re β := match r with
  | .ok a => f a
  | .ex x => .ex x
  | .no => .no
@[simp] theorem bnd_ok {α β : Type} (a : α) (f : α → Re β) : (Re.ok a).bnd f = f a := Eq.trans rfl (Eq.refl _)
@[simp] theorem bnd_ex {α β : Type} (x : Xn) (f : α → Re β) : (Re.ex x : Re α).bnd f = .ex x := Eq.trans rfl (Eq.refl _)
@[simp] theorem bnd_no {α β : Type} (f : α → Re β) : (Re.no : Re α).bnd f = .no := Eq.trans rfl (Eq.refl _)
def ofO {α : Type} : Option α → Re α
  | some a => .ok a
  | none => .no
@[simp] theorem ofO_some {α : Type} (a : α) : ofO (some a) = .ok a := Eq.trans rfl (Eq.refl _)
@[simp] theorem ofO_none {α : Type} : ofO (none : Option α) = .no := Eq.trans rfl (Eq.refl _)

/-! ### what stands for a value -/
def kD : Key → D
  | .inl i => .int i
  | .inr x => .str x
def DRd (H : Hp) (a : Addr) (kvs : List (D × V)) : Prop :=
  (∃ m : List (Key × V), Rd H a (.dK m) ∧ kvs = m.map fun p => (kD p.1, p.2)) ∨
  (∃ m : List (List Key × V), Rd H a (.dT m) ∧ kvs = m.map fun p => (PyData.tuple (p.1.map kD), p.2))

/-- the module's own tuples that are handed about (never keys of a dict) -/
def esc : List D → Bool
  | [.str x] => decide (x = "form") || decide (x = "start") || decide (x = "end") || decide (x = "ends")
  | [.int 0, .int 0, .int 1000, .int 1000] => true
  | _ => false
/-- a tuple's object -/
def TupR (K : PySem.W.Frag) (H : Hp) (a : Addr) (xs : List V) (ds : List D) : Prop := H a = some (.tup xs) ∨ (esc ds = true ∧ SqT K H a xs)
theorem TupR.sq {K : PySem.W.Frag} {H : Hp} {a : Addr} {xs : List V} {ds : List D} (h : TupR K H a xs ds) : SqT K H a xs := h.elim (fun e => .inl (.inl e)) fun e => e.2

mutual
inductive Rp (K : PySem.W.Frag) (F : Addr → Prop) (H : Hp) : V → D → Prop
  | non : Rp K F H .non .none
  | bl (b : Bool) : Rp K F H (.bl b) (.bool b)
  | int (i : Int) : Rp K F H (.int i) (.int i)
  | str (x : Str) : Rp K F H (.str x) (.str x)
  | lst {a : Addr} {xs : List V} {ds : List D} : Rd H a (.lst xs) → F a → RpA K F H xs ds → Rp K F H (.ref a) (.list ds)
  | tup {a : Addr} {xs : List V} {ds : List D} : TupR K H a xs ds → RpA K F H xs ds → Rp K F H (.ref a) (.tuple ds)
  | dic {a : Addr} {kvs : List (D × V)} {ds : List (D × D)} : DRd H a kvs → F a → RpK K F H kvs ds → Rp K F H (.ref a) (.dict ds)
inductive RpA (K : PySem.W.Frag) (F : Addr → Prop) (H : Hp) : List V → List D → Prop
  | nil : RpA K F H [] []
  | cons {v : V} {vs : List V} {d : D} {ds : List D} : Rp K F H v d → RpA K F H vs ds → RpA K F H (v :: vs) (d :: ds)
inductive RpK (K : PySem.W.Frag) (F : Addr → Prop) (H : Hp) : List (D × V) → List (D × D) → Prop
  | nil : RpK K F H [] []
  | cons {k : D} {v : V} {vs : List (D × V)} {d : D} {ds : List (D × D)} : Rp K F H v d → RpK K F H vs ds → RpK K F H ((k, v) :: vs) ((k, d) :: ds)
end

/-- what a step keeps: the frozen things, the things that nobody can write -/
def Kept (P : Addr → Prop) (H H' : Hp) : Prop := ∀ a o, H a = some o → (P a ∨ ¬ Mut (some o)) → H' a = some o
theorem Kept.refl {P : Addr → Prop} {H : Hp} : Kept P H H := fun _ _ h _ => h
theorem Kept.of {P : Addr → Prop} {H H' : Hp} (s : Same H H') : Kept P H H' := fun a o h _ => s a o h
theorem Kept.trans {P P' : Addr → Prop} {H H1 H2 : Hp} (a : Kept P H H1) (b : Kept P' H1 H2) (s : ∀ x, P x → P' x) : Kept P H H2 := fun x o h c =>
  b x o (a x o h c) (c.imp (s x) id)
theorem Kept.less {P P' : Addr → Prop} {H H' : Hp} (a : Kept P H H') (s : ∀ x, P' x → P x) : Kept P' H H' := fun x o h c => a x o h (c.imp (s x) id)

theorem mut_frz {o : Obj} {u : HO} : ¬ Mut (some (.frz o u)) := fun h => h
theorem mut_tup {xs : List V} : ¬ Mut (some (.tup xs)) := fun h => h

theorem Kept.rd {P : Addr → Prop} {H H' : Hp} {a : Addr} {u : HO} (k : Kept P H H') (r : Rd H a u) (c : P a ∨ ¬ Mut (some u)) : Rd H' a u := by
  rcases r with r | ⟨o, r⟩
  · exact .inl (k a u r c)
  · exact .inr ⟨o, k a _ r (.inr mut_frz)⟩
theorem Kept.sqT {P : Addr → Prop} {K : PySem.W.Frag} {H H' : Hp} {a : Addr} {xs : List V} (k : Kept P H H') (r : SqT K H a xs) : SqT K H' a xs := by
  rcases r with r | r
  · exact .inl (k.rd r (.inr mut_tup))
  · exact .inr r
theorem Kept.tupR {P : Addr → Prop} {K : PySem.W.Frag} {H H' : Hp} {a : Addr} {xs : List V} {ds : List D} (k : Kept P H H') (r : TupR K H a xs ds) : TupR K H' a xs ds :=
  r.imp (fun e => k _ _ e (.inr mut_tup)) fun e => ⟨e.1, k.sqT e.2⟩
theorem Kept.drd {P : Addr → Prop} {H H' : Hp} {a : Addr} {kvs : List (D × V)} (k : Kept P H H') (r : DRd H a kvs) (c : P a) : DRd H' a kvs := by
  rcases r with ⟨m, r, e⟩ | ⟨m, r, e⟩
  · exact .inl ⟨m, k.rd r (.inl c), e⟩
  · exact .inr ⟨m, k.rd r (.inl c), e⟩

section
variable {K : PySem.W.Frag} {F F' : Addr → Prop} {H H' : Hp}
mutual
theorem Rp.mono (hF : ∀ a, F a → F' a) (k : Kept F H H') : ∀ {v : V} {d : D}, Rp K F H v d → Rp K F' H' v d
  | _, _, .non => .non
  | _, _, .bl b => .bl b
  | _, _, .int i => .int i
  | _, _, .str x => .str x
  | _, _, .lst r f t => .lst (k.rd r (.inl f)) (hF _ f) (RpA.mono hF k t)
  | _, _, .tup r t => .tup (k.tupR r) (RpA.mono hF k t)
  | _, _, .dic r f t => .dic (k.drd r f) (hF _ f) (RpK.mono hF k t)
theorem RpA.mono (hF : ∀ a, F a → F' a) (k : Kept F H H') : ∀ {vs : List V} {ds : List D}, RpA K F H vs ds → RpA K F' H' vs ds
  | _, _, .nil => .nil
  | _, _, .cons h t => .cons (Rp.mono hF k h) (RpA.mono hF k t)
theorem RpK.mono (hF : ∀ a, F a → F' a) (k : Kept F H H') : ∀ {vs : List (D × V)} {ds : List (D × D)}, RpK K F H vs ds → RpK K F' H' vs ds
  | _, _, .nil => .nil
  | _, _, .cons h t => .cons (Rp.mono hF k h) (RpK.mono hF k t)
end
end

theorem RpA.length {K : PySem.W.Frag} {F : Addr → Prop} {H : Hp} : ∀ {vs : List V} {ds : List D}, RpA K F H vs ds → vs.length = ds.length
  | _, _, .nil => rfl
  | _, _, .cons _ t => congrArg (· + 1) t.length
theorem RpA.get {K : PySem.W.Frag} {F : Addr → Prop} {H : Hp} : ∀ {vs : List V} {ds : List D} {i : Nat} {d : D}, RpA K F H vs ds → ds[i]? = some d → ∃ v, vs[i]? = some v ∧ Rp K F H v d
  | _, _, _, _, .nil, e => by simp at e
  | _, _, 0, _, .cons h _, e => by simp at e; subst e; exact ⟨_, rfl, h⟩
  | _, _, i + 1, _, .cons _ t, e => by
    obtain ⟨v, e1, r⟩ := RpA.get (i := i) t (by simpa using e)
    exact ⟨v, by simpa using e1, r⟩
theorem RpA.getV {K : PySem.W.Frag} {F : Addr → Prop} {H : Hp} : ∀ {vs : List V} {ds : List D} {i : Nat} {v : V}, RpA K F H vs ds → vs[i]? = some v → ∃ d, ds[i]? = some d ∧ Rp K F H v d
  | _, _, _, _, .nil, e => by simp at e
  | _, _, 0, _, .cons h _, e => by simp at e; subst e; exact ⟨_, rfl, h⟩
  | _, _, i + 1, _, .cons _ t, e => by
    obtain ⟨v, e1, r⟩ := RpA.getV (i := i) t (by simpa using e)
    exact ⟨v, by simpa using e1, r⟩
theorem RpA.append {K : PySem.W.Frag} {F : Addr → Prop} {H : Hp} : ∀ {vs ws : List V} {ds es : List D}, RpA K F H vs ds → RpA K F H ws es → RpA K F H (vs ++ ws) (ds ++ es)
  | _, _, _, _, .nil, s => s
  | _, _, _, _, .cons h t, s => .cons h (RpA.append t s)
theorem RpA.set {K : PySem.W.Frag} {F : Addr → Prop} {H : Hp} : ∀ {vs : List V} {ds : List D} (i : Nat) {v : V} {d : D}, RpA K F H vs ds → Rp K F H v d → RpA K F H (vs.set i v) (ds.set i d)
  | _, _, _, _, _, .nil, _ => .nil
  | _, _, 0, _, _, .cons _ t, r => .cons r t
  | _, _, i + 1, _, _, .cons h t, r => .cons h (RpA.set i t r)
theorem RpA.take {K : PySem.W.Frag} {F : Addr → Prop} {H : Hp} : ∀ {vs : List V} {ds : List D} (n : Nat), RpA K F H vs ds → RpA K F H (vs.take n) (ds.take n)
  | _, _, 0, _ => .nil
  | _, _, _ + 1, .nil => .nil
  | _, _, n + 1, .cons h t => .cons h (RpA.take n t)
theorem RpA.drop {K : PySem.W.Frag} {F : Addr → Prop} {H : Hp} : ∀ {vs : List V} {ds : List D} (n : Nat), RpA K F H vs ds → RpA K F H (vs.drop n) (ds.drop n)
  | _, _, 0, r => r
  | _, _, _ + 1, .nil => .nil
  | _, _, n + 1, .cons _ t => RpA.drop n t
theorem RpA.reverse {K : PySem.W.Frag} {F : Addr → Prop} {H : Hp} : ∀ {vs : List V} {ds : List D}, RpA K F H vs ds → RpA K F H vs.reverse ds.reverse
  | _, _, .nil => .nil
  | _, _, .cons h t => by
    rw [List.reverse_cons, List.reverse_cons]
    exact RpA.append (RpA.reverse t) (.cons h .nil)
theorem RpA.ints {K : PySem.W.Frag} {F : Addr → Prop} {H : Hp} : ∀ {vs : List V} {ns : List Int}, RpA K F H vs (ns.map PyData.int) → vs = ns.map V.int
  | _, [], h => by cases h; rfl
  | _, n :: ns, h => by
    cases h with
    | cons a t =>
      cases a
      rw [RpA.ints t]
      rfl
theorem RpA.ofInts {K : PySem.W.Frag} {F : Addr → Prop} {H : Hp} : ∀ (ns : List Int), RpA K F H (ns.map V.int) (ns.map PyData.int)
  | [] => .nil
  | n :: ns => .cons (.int n) (RpA.ofInts ns)
theorem RpA.bools {K : PySem.W.Frag} {F : Addr → Prop} {H : Hp} : ∀ {vs : List V} {ns : List Bool}, RpA K F H vs (ns.map PyData.bool) → vs = ns.map V.bl
  | _, [], h => by cases h; rfl
  | _, n :: ns, h => by
    cases h with
    | cons a t =>
      cases a
      rw [RpA.bools t]
      rfl

/-! ### growth: what an expression leaves -/
structure Grow (F : Addr → Prop) (H : Hp) (F' : Addr → Prop) (H' : Hp) : Prop where
  sub : ∀ a, F a → F' a
  new : ∀ a, F' a → F a ∨ H a = none
  same : Same H H'
  dom : (∀ a, F a → H a ≠ none) → ∀ a, F' a → H' a ≠ none
theorem Grow.refl {F : Addr → Prop} {H : Hp} : Grow F H F H := ⟨fun _ h => h, fun _ h => .inl h, Same.refl H, fun h => h⟩
theorem Grow.trans {F F1 F2 : Addr → Prop} {H H1 H2 : Hp} (a : Grow F H F1 H1) (b : Grow F1 H1 F2 H2) : Grow F H F2 H2 where
  sub := fun x h => b.sub x (a.sub x h)
  new := fun x h => by
    rcases b.new x h with h | h
    · exact a.new x h
    · exact .inr (a.same.free h)
  same := a.same.trans b.same
  dom := fun h => b.dom (a.dom h)
theorem Grow.kept {F F' : Addr → Prop} {H H' : Hp} (g : Grow F H F' H') {P : Addr → Prop} : Kept P H H' := Kept.of g.same
theorem Grow.rp {K : PySem.W.Frag} {F F' : Addr → Prop} {H H' : Hp} (g : Grow F H F' H') {v : V} {d : D} (r : Rp K F H v d) : Rp K F' H' v d := r.mono g.sub g.kept
theorem Grow.rpA {K : PySem.W.Frag} {F F' : Addr → Prop} {H H' : Hp} (g : Grow F H F' H') {v : List V} {d : List D} (r : RpA K F H v d) : RpA K F' H' v d := r.mono g.sub g.kept
theorem Grow.rpK {K : PySem.W.Frag} {F F' : Addr → Prop} {H H' : Hp} (g : Grow F H F' H') {v : List (D × V)} {d : List (D × D)} (r : RpK K F H v d) : RpK K F' H' v d := r.mono g.sub g.kept
theorem same_upd {H : Hp} {p : Addr} {o : HO} (h : H p = none) : Same H (upd H p o) := fun b u e => by rw [upd_ne (ne_of_none e h)]; exact e
/-- a new object that is not frozen -/
theorem Grow.upd0 {F : Addr → Prop} {H : Hp} {p : Addr} {o : HO} (h : H p = none) : Grow F H F (upd H p o) :=
  ⟨fun _ x => x, fun _ x => .inl x, same_upd h, fun dm a fa => by
    by_cases e : a = p
    · subst e; rw [upd_same]; exact fun z => nomatch z
    · rw [upd_ne e]; exact dm a fa⟩
def plus (F : Addr → Prop) (p : Addr) : Addr → Prop := fun a => F a ∨ a = p
/-- a new object is frozen -/
theorem Grow.freeze {F F' : Addr → Prop} {H H' : Hp} {p : Addr} (g : Grow F H F' H') (h : H p = none) (h' : H' p ≠ none) : Grow F H (plus F' p) H' :=
  ⟨fun a x => .inl (g.sub a x), fun a x => by
    rcases x with x | x
    · exact g.new a x
    · subst x; exact .inr h, g.same, fun dm a x => by
    rcases x with x | x
    · exact g.dom dm a x
    · subst x; exact h'⟩

/-! ### looser readings -/
/-- the top list or dict may be anyone's -/
def RpB (K : PySem.W.Frag) (F : Addr → Prop) (H : Hp) (v : V) : D → Prop
  | .list ds => ∃ a xs, v = .ref a ∧ Rd H a (.lst xs) ∧ RpA K F H xs ds
  | .dict ds => ∃ a kvs, v = .ref a ∧ DRd H a kvs ∧ RpK K F H kvs ds
  | .tuple ds => ∃ a xs, v = .ref a ∧ SqT K H a xs ∧ RpA K F H xs ds
  | d => Rp K F H v d
theorem Rp.b {K : PySem.W.Frag} {F : Addr → Prop} {H : Hp} {v : V} : ∀ {d : D}, Rp K F H v d → RpB K F H v d
  | .list _, r => by cases r with | lst h _ t => exact ⟨_, _, rfl, h, t⟩
  | .dict _, r => by cases r with | dic h _ t => exact ⟨_, _, rfl, h, t⟩
  | .none, r => r
  | .bool _, r => r
  | .int _, r => r
  | .str _, r => r
  | .tuple _, r => by cases r with | tup h t => exact ⟨_, _, rfl, h.sq, t⟩
theorem same_rd {H H' : Hp} {a : Addr} {u : HO} (s : Same H H') (r : Rd H a u) : Rd H' a u := by
  rcases r with r | ⟨o, r⟩
  · exact .inl (s a u r)
  · exact .inr ⟨o, s a _ r⟩
theorem same_drd {H H' : Hp} {a : Addr} {kvs : List (D × V)} (s : Same H H') (r : DRd H a kvs) : DRd H' a kvs := by
  rcases r with ⟨m, r, e⟩ | ⟨m, r, e⟩
  · exact .inl ⟨m, same_rd s r, e⟩
  · exact .inr ⟨m, same_rd s r, e⟩
theorem Grow.rpB {K : PySem.W.Frag} {F F' : Addr → Prop} {H H' : Hp} (g : Grow F H F' H') {v : V} : ∀ {d : D}, RpB K F H v d → RpB K F' H' v d
  | .list _, ⟨a, xs, e, h, t⟩ => ⟨a, xs, e, same_rd g.same h, g.rpA t⟩
  | .dict _, ⟨a, xs, e, h, t⟩ => ⟨a, xs, e, same_drd g.same h, g.rpK t⟩
  | .none, r => g.rp (show Rp K F H v .none from r)
  | .bool _, r => g.rp (show Rp K F H v (.bool _) from r)
  | .int _, r => g.rp (show Rp K F H v (.int _) from r)
  | .str _, r => g.rp (show Rp K F H v (.str _) from r)
  | .tuple _, ⟨a, xs, e, h, t⟩ => ⟨a, xs, e, (g.kept (P := fun _ => True)).sqT h, g.rpA t⟩
/-- a new list or dict that nobody else has -/
def RpO (K : PySem.W.Frag) (F : Addr → Prop) (H : Hp) (a : Addr) : D → Prop
  | .list ds => ∃ xs, H a = some (.lst xs) ∧ RpA K F H xs ds
  | .dict ds => (∃ m : List (Key × V), H a = some (.dK m) ∧ RpK K F H (m.map fun p => (kD p.1, p.2)) ds) ∨
      ∃ m : List (List Key × V), H a = some (.dT m) ∧ RpK K F H (m.map fun p => (PyData.tuple (p.1.map kD), p.2)) ds
  | _ => False
theorem RpO.b {K : PySem.W.Frag} {F : Addr → Prop} {H : Hp} {a : Addr} : ∀ {d : D}, RpO K F H a d → RpB K F H (.ref a) d
  | .list _, ⟨xs, h, t⟩ => ⟨a, xs, rfl, .inl h, t⟩
  | .dict _, .inl ⟨m, h, t⟩ => ⟨a, _, rfl, .inl ⟨m, .inl h, rfl⟩, t⟩
  | .dict _, .inr ⟨m, h, t⟩ => ⟨a, _, rfl, .inr ⟨m, .inl h, rfl⟩, t⟩
  | .none, h => h.elim
  | .bool _, h => h.elim
  | .int _, h => h.elim
  | .str _, h => h.elim
  | .tuple _, h => h.elim
theorem RpO.there {K : PySem.W.Frag} {F : Addr → Prop} {H : Hp} {a : Addr} : ∀ {d : D}, RpO K F H a d → ∃ o, H a = some o ∧ Mut (some o)
  | .list _, ⟨xs, h, _⟩ => ⟨_, h, trivial⟩
  | .dict _, .inl ⟨m, h, _⟩ => ⟨_, h, trivial⟩
  | .dict _, .inr ⟨m, h, _⟩ => ⟨_, h, trivial⟩
  | .none, h => h.elim
  | .bool _, h => h.elim
  | .int _, h => h.elim
  | .str _, h => h.elim
  | .tuple _, h => h.elim
/-- .. and frozen from here on -/
theorem RpO.froz {K : PySem.W.Frag} {F : Addr → Prop} {H : Hp} {a : Addr} : ∀ {d : D}, RpO K F H a d → Rp K (plus F a) H (.ref a) d
  | .list _, ⟨xs, h, t⟩ => .lst (.inl h) (.inr rfl) (t.mono (fun _ x => .inl x) Kept.refl)
  | .dict _, .inl ⟨m, h, t⟩ => .dic (.inl ⟨m, .inl h, rfl⟩) (.inr rfl) (t.mono (fun _ x => .inl x) Kept.refl)
  | .dict _, .inr ⟨m, h, t⟩ => .dic (.inr ⟨m, .inl h, rfl⟩) (.inr rfl) (t.mono (fun _ x => .inl x) Kept.refl)
  | .none, h => h.elim
  | .bool _, h => h.elim
  | .int _, h => h.elim
  | .str _, h => h.elim
  | .tuple _, h => h.elim
theorem RpO.kept {K : PySem.W.Frag} {F F' : Addr → Prop} {H H' : Hp} {a : Addr} (hF : ∀ x, F x → F' x) (k : Kept F H H') (e : H' a = H a) : ∀ {d : D}, RpO K F H a d → RpO K F' H' a d
  | .list _, ⟨xs, h, t⟩ => ⟨xs, e.trans h, t.mono hF k⟩
  | .dict _, .inl ⟨m, h, t⟩ => .inl ⟨m, e.trans h, t.mono hF k⟩
  | .dict _, .inr ⟨m, h, t⟩ => .inr ⟨m, e.trans h, t.mono hF k⟩
  | .none, h => h.elim
  | .bool _, h => h.elim
  | .int _, h => h.elim
  | .str _, h => h.elim
  | .tuple _, h => h.elim

/-! ### slots -/
inductive Sl where
  | no
  | sh (d : D)
  | ow (d : D)
  /-- the script -/
  | br (ns : List Int)
abbrev Dl := List Sl
/-- the script's list: known to the object, or an object of the module -/
def ScrR (K : PySem.W.Frag) (H : Hp) (a : Addr) (ns : List Int) : Prop := SqL K H a (ns.map V.int) ∧ ∀ H', (∀ b o, H b = some o → ¬ Mut (some o) → H' b = some o) → SqL K H' a (ns.map V.int)
theorem ScrR.keep {K : PySem.W.Frag} {H H' : Hp} {a : Addr} {ns : List Int} (r : ScrR K H a ns) (k : ∀ b o, H b = some o → ¬ Mut (some o) → H' b = some o) : ScrR K H' a ns :=
  ⟨r.2 H' k, fun H2 k2 => r.2 H2 fun b o e m => k2 b o (k b o e m) m⟩
/-- slot i as an expression sees it -/
def SlR (K : PySem.W.Frag) (F : Addr → Prop) (H : Hp) (σ : L2.St) (i : Nat) : Sl → Prop
  | .no => True
  | .sh d => ∃ v, σ[i]? = some (some v) ∧ Rp K F H v d
  | .ow d => ∃ v, σ[i]? = some (some v) ∧ RpB K F H v d
  | .br ns => ∃ a, σ[i]? = some (some (.ref a)) ∧ ScrR K H a ns
structure SokE (K : PySem.W.Frag) (F : Addr → Prop) (H : Hp) (σ : L2.St) (δ : Dl) : Prop where
  len : δ.length = σ.length
  dom : ∀ a, F a → H a ≠ none
  sl : ∀ i s, δ[i]? = some s → SlR K F H σ i s
theorem SokE.grow {K : PySem.W.Frag} {F F' : Addr → Prop} {H H' : Hp} {σ : L2.St} {δ : Dl} (s : SokE K F H σ δ) (g : Grow F H F' H') : SokE K F' H' σ δ where
  len := s.len
  dom := g.dom s.dom
  sl := fun i x e => by
    have h := s.sl i x e
    cases x with
    | no => trivial
    | sh d => obtain ⟨v, e, r⟩ := h; exact ⟨v, e, g.rp r⟩
    | ow d => obtain ⟨v, e, r⟩ := h; exact ⟨v, e, g.rpB r⟩
    | br ns => obtain ⟨v, e, r⟩ := h; exact ⟨v, e, r.keep fun b o e _ => g.same b o e⟩

/-- what an exception's way out wants, by the exception and the heap -/
abbrev XW := Xn → Hp → Prop
abbrev XW0 : XW := fun _ _ => False
/-- an outcome: P of a value, or the exception's wish -/
def ReW {α : Type} (W : XW) (F : Addr → Prop) (H : Hp) (r : Re α) (N : α → Prop) : Prop := match r with
  | .ok a => N a
  | .ex x => ∀ F' H', Grow F H F' H' → W x H'
  | .no => False

/-- what may be said of a result -/
abbrev PP := (Addr → Prop) → Hp → (Addr → Prop) → Hp → V → D → Prop
abbrev pS (K : PySem.W.Frag) : PP := fun _ _ F' H' v d => Rp K F' H' v d
abbrev pB (K : PySem.W.Frag) : PP := fun _ _ F' H' v d => RpB K F' H' v d
abbrev pF (K : PySem.W.Frag) : PP := fun _ H F' H' v d => ∃ a, v = .ref a ∧ H a = none ∧ ¬ F' a ∧ RpO K F' H' a d
def tP (K : PySem.W.Frag) (W : XW) (P : PP) (f : Dl → Re D) : TE := fun σ H Q => ∃ F δ, SokE K F H σ δ ∧ ReW W F H (f δ) fun d => ∀ v F' H', Grow F H F' H' → P F H F' H' v d → Q v H'
def tT (K : PySem.W.Frag) (W : XW) (f : Dl → Re Bool) : TT := fun σ H Q => ∃ F δ, SokE K F H σ δ ∧ ReW W F H (f δ) fun b => ∀ F' H', Grow F H F' H' → Q b H'
abbrev VP (X : Cx) (W : XW) (P : PP) (e : Expr) (f : Dl → Re D) : Prop := PE X e (tP X.K W P f)
/-- an expression: its value, frozen; maybe anyone's; new -/
abbrev VE (X : Cx) (W : XW) (e : Expr) (f : Dl → Re D) : Prop := VP X W (pS X.K) e f
abbrev VB (X : Cx) (W : XW) (e : Expr) (f : Dl → Re D) : Prop := VP X W (pB X.K) e f
abbrev VF (X : Cx) (W : XW) (e : Expr) (f : Dl → Re D) : Prop := VP X W (pF X.K) e f
abbrev VT (X : Cx) (W : XW) (e : Expr) (f : Dl → Re Bool) : Prop := PT X e (tT X.K W f)

/-- readings weaken -/
theorem PE.imp {X : Cx} {e : Expr} {t t' : TE} (h : PE X e t) (w : ∀ σ H Q, t' σ H Q → t σ H Q) : PE X e t' := ⟨fun pins s σ H Q I q => h.run pins s σ H Q I (w _ _ _ q)⟩
theorem PT.imp {X : Cx} {e : Expr} {t t' : TT} (h : PT X e t) (w : ∀ σ H Q, t' σ H Q → t σ H Q) : PT X e t' := ⟨fun pins s σ H Q I q => h.run pins s σ H Q I (w _ _ _ q)⟩
theorem PA.imp {X : Cx} {e : List Expr} {t t' : TA} (h : PA X e t) (w : ∀ σ H Q, t' σ H Q → t σ H Q) : PA X e t' := ⟨fun pos pins s σ H Q I q => h.run pos pins s σ H Q I (w _ _ _ q)⟩
theorem PS.imp {X : Cx} {e : Stmt} {t t' : TS} (h : PS X e t) (w : ∀ D σ H, t' D σ H → t D σ H) : PS X e t' := ⟨fun pins s σ H D I q => h.run pins s σ H D I (w _ _ _ q)⟩
theorem PSs.imp {X : Cx} {e : List Stmt} {t t' : TS} (h : PSs X e t) (w : ∀ D σ H, t' D σ H → t D σ H) : PSs X e t' := ⟨fun pins s σ H D I q => h.run pins s σ H D I (w _ _ _ q)⟩

theorem ReW.imp {α : Type} {W : XW} {F : Addr → Prop} {H : Hp} {r : Re α} {N N' : α → Prop} (h : ReW W F H r N) (i : ∀ a, r = .ok a → N a → N' a) : ReW W F H r N' := by
  cases r with
  | ok a => exact i a rfl h
  | ex x => exact h
  | no => exact h
theorem ReW.grow {α : Type} {W : XW} {F F' : Addr → Prop} {H H' : Hp} {r : Re α} {N N' : α → Prop} (h : ReW W F H r N) (g : Grow F H F' H') (i : ∀ a, N a → N' a) : ReW W F' H' r N' := by
  cases r with
  | ok a => exact i a h
  | ex x => exact fun F2 H2 g2 => h F2 H2 (g.trans g2)
  | no => exact h
theorem VE.b {X : Cx} {W : XW} {e : Expr} {f : Dl → Re D} (h : VE X W e f) : VB X W e f := PE.imp h fun σ H Q ⟨F, δ, s, r⟩ => ⟨F, δ, s, r.imp fun d _ q v F' H' g p => q v F' H' g p.b⟩
theorem VF.b {X : Cx} {W : XW} {e : Expr} {f : Dl → Re D} (h : VF X W e f) : VB X W e f := PE.imp h fun σ H Q ⟨F, δ, s, r⟩ => ⟨F, δ, s, r.imp fun d _ q v F' H' g ⟨a, e, _, _, o⟩ => q v F' H' g (by subst e; exact o.b)⟩
theorem VF.e {X : Cx} {W : XW} {e : Expr} {f : Dl → Re D} (h : VF X W e f) : VE X W e f := PE.imp h fun σ H Q ⟨F, δ, s, r⟩ => ⟨F, δ, s, r.imp fun d _ q v F' H' g ⟨a, e, h0, _, o⟩ => by
  subst e
  obtain ⟨u, hu, _⟩ := o.there
  exact q _ _ H' (g.freeze h0 (by rw [hu]; exact fun z => nomatch z)) o.froz⟩
end VS
end
section
namespace VS
open PySem L2

/-! ### chains of readings -/
/-- a result at (F, H): its wish -/
def Go (W : XW) (P : PP) (F : Addr → Prop) (H : Hp) (r : Re D) (Q : VK) : Prop := ReW W F H r fun d => ∀ v F' H', Grow F H F' H' → P F H F' H' v d → Q v H'
def GoT (W : XW) (F : Addr → Prop) (H : Hp) (r : Re Bool) (Q : Bool → Hp → Prop) : Prop := ReW W F H r fun b => ∀ F' H', Grow F H F' H' → Q b H'
structure PMon (P : PP) : Prop where
  mon : ∀ {F H F1 H1 F' H' v d}, Grow F H F1 H1 → P F1 H1 F' H' v d → P F H F' H' v d
theorem pS_mon {K : PySem.W.Frag} : PMon (pS K) := ⟨fun _ p => p⟩
theorem pB_mon {K : PySem.W.Frag} : PMon (pB K) := ⟨fun _ p => p⟩
theorem pF_mon {K : PySem.W.Frag} : PMon (pF K) := ⟨fun g ⟨a, e, h, f, o⟩ => ⟨a, e, g.same.free h, f, o⟩⟩
theorem Go.grow {W : XW} {P : PP} {F F1 : Addr → Prop} {H H1 : Hp} {r : Re D} {Q : VK} (hp : PMon P) (h : Go W P F H r Q) (g : Grow F H F1 H1) : Go W P F1 H1 r Q :=
  ReW.grow h g fun d q v F' H' g' p => q v F' H' (g.trans g') (hp.mon g p)
theorem GoT.grow {W : XW} {F F1 : Addr → Prop} {H H1 : Hp} {r : Re Bool} {Q : Bool → Hp → Prop} (h : GoT W F H r Q) (g : Grow F H F1 H1) : GoT W F1 H1 r Q :=
  ReW.grow h g fun d q F' H' g' => q F' H' (g.trans g')
theorem Go.at {W : XW} {P : PP} {F : Addr → Prop} {H : Hp} {r : Re D} {Q : VK} {d : D} (h : Go W P F H r Q) (e : r = .ok d) {v : V} {F' : Addr → Prop} {H' : Hp} (g : Grow F H F' H') (p : P F H F' H' v d) : Q v H' := by
  subst e; exact h v F' H' g p
theorem GoT.at {W : XW} {F : Addr → Prop} {H : Hp} {r : Re Bool} {Q : Bool → Hp → Prop} {b : Bool} (h : GoT W F H r Q) (e : r = .ok b) {F' : Addr → Prop} {H' : Hp} (g : Grow F H F' H') : Q b H' := by
  subst e; exact h F' H' g
/-- the first of two -/
theorem Go.bnd {W : XW} {P P' : PP} {F : Addr → Prop} {H : Hp} {ra : Re D} {k : D → Re D} {Q Q' : VK} (hp : PMon P) (h : Go W P F H (ra.bnd k) Q)
    (q : ∀ d v F1 H1, ra = .ok d → Grow F H F1 H1 → P' F H F1 H1 v d → Go W P F1 H1 (k d) Q → Q' v H1) : Go W P' F H ra Q' := by
  cases ra with
  | ok d => exact fun v F1 H1 g p => q d v F1 H1 rfl g p (Go.grow hp h g)
  | ex x => exact h
  | no => exact h
theorem Go.bndT {W : XW} {P' : PP} {F : Addr → Prop} {H : Hp} {ra : Re D} {k : D → Re Bool} {Q : Bool → Hp → Prop} {Q' : VK} (h : GoT W F H (ra.bnd k) Q)
    (q : ∀ d v F1 H1, ra = .ok d → Grow F H F1 H1 → P' F H F1 H1 v d → GoT W F1 H1 (k d) Q → Q' v H1) : Go W P' F H ra Q' := by
  cases ra with
  | ok d => exact fun v F1 H1 g p => q d v F1 H1 rfl g p (GoT.grow h g)
  | ex x => exact h
  | no => exact h
theorem GoT.bnd {W : XW} {P : PP} {F : Addr → Prop} {H : Hp} {ra : Re Bool} {k : Bool → Re D} {Q : VK} {Q' : Bool → Hp → Prop} (hp : PMon P) (h : Go W P F H (ra.bnd k) Q)
    (q : ∀ b F1 H1, ra = .ok b → Grow F H F1 H1 → Go W P F1 H1 (k b) Q → Q' b H1) : GoT W F H ra Q' := by
  cases ra with
  | ok d => exact fun F1 H1 g => q d F1 H1 rfl g (Go.grow hp h g)
  | ex x => exact h
  | no => exact h
theorem GoT.bndT {W : XW} {F : Addr → Prop} {H : Hp} {ra : Re Bool} {k : Bool → Re Bool} {Q : Bool → Hp → Prop} {Q' : Bool → Hp → Prop} (h : GoT W F H (ra.bnd k) Q)
    (q : ∀ b F1 H1, ra = .ok b → Grow F H F1 H1 → GoT W F1 H1 (k b) Q → Q' b H1) : GoT W F H ra Q' := by
  cases ra with
  | ok d => exact fun F1 H1 g => q d F1 H1 rfl g (GoT.grow h g)
  | ex x => exact h
  | no => exact h

section
variable {X : Cx} {W : XW} {P : PP} {e a b c : Expr} {pos : Pos} {f fa fb fc : Dl → Re D} {g : D → D → Re D}

/-! ### names, constants -/
def gS (i : Nat) (δ : Dl) : Re D := match δ[i]? with
  | some (.sh d) => .ok d
  | _ => .no
def gB (i : Nat) (δ : Dl) : Re D := match δ[i]? with
  | some (.sh d) => .ok d
  | some (.ow d) => .ok d
  | _ => .no
theorem ve_var (i : Nat) {x : Str} (h : PE X (.Name x pos) (tVar i)) : VE X W (.Name x pos) (gS i) := PE.imp h fun σ H Q ⟨F, δ, s, r⟩ => by
  unfold gS at r
  split at r
  · rename_i d e
    obtain ⟨v, ev, rv⟩ := s.sl i _ e
    exact ⟨v, ev, r v F H Grow.refl rv⟩
  · exact r.elim
theorem vb_var (i : Nat) {x : Str} (h : PE X (.Name x pos) (tVar i)) : VB X W (.Name x pos) (gB i) := PE.imp h fun σ H Q ⟨F, δ, s, r⟩ => by
  unfold gB at r
  split at r
  · rename_i d e
    obtain ⟨v, ev, rv⟩ := s.sl i _ e
    exact ⟨v, ev, r v F H Grow.refl rv.b⟩
  · rename_i d e
    obtain ⟨v, ev, rv⟩ := s.sl i _ e
    exact ⟨v, ev, r v F H Grow.refl rv⟩
  · exact r.elim
def kC (d : D) (_ : Dl) : Re D := .ok d
/-- a constant, by any value that stands for it wherever it is read -/
theorem ve_c {v : V} {d : D} (h : PE X e (tC v)) (hv : ∀ F H, Rp X.K F H v d) : VE X W e (kC d) := PE.imp h fun σ H Q ⟨F, δ, s, r⟩ => r v F H Grow.refl (hv F H)
theorem ve_int {i j} : VE X W (.Constant (.int i) j pos) (kC (.int i)) := ve_c pe_int fun _ _ => .int i
theorem ve_bl {v j} : VE X W (.Constant (.bool v) j pos) (kC (.bool v)) := ve_c pe_bl fun _ _ => .bl v
theorem ve_non {j} : VE X W (.Constant .none j pos) (kC .none) := ve_c pe_non fun _ _ => .non
theorem ve_str {x j} : VE X W (.Constant (.str x) j pos) (kC (.str x)) := ve_c pe_str fun _ _ => .str x
/-- a module's int, text -/
theorem ve_gint {x : Str} {i : Int} (hg : Gl X x) (hm : ∃ t, X.mg x = some (.int i t)) (hd : (x == ("__debug__" : Str)) = false := by decide) : VE X W (.Name x pos) (kC (.int i)) := by
  obtain ⟨t, hm⟩ := hm
  exact ve_c (pe_glob (v := .int i) hg hm ⟨t, rfl⟩ hd) fun _ _ => .int i
theorem ve_gstr {x z : Str} (hg : Gl X x) (hm : ∃ t, X.mg x = some (.str z t)) (hd : (x == ("__debug__" : Str)) = false := by decide) : VE X W (.Name x pos) (kC (.str z)) := by
  obtain ⟨t, hm⟩ := hm
  exact ve_c (pe_glob (v := .str z) hg hm ⟨t, rfl⟩ hd) fun _ _ => .str z
theorem vb_c {v : V} {d : D} (h : PE X e (tC v)) (hv : ∀ F H, RpB X.K F H v d) : VB X W e (kC d) := PE.imp h fun σ H Q ⟨F, δ, s, r⟩ => r v F H Grow.refl (hv F H)
/-- a module's tuple -/
theorem vb_gtup {x : Str} {p : Addr} {xs : List V} {ds : List D} (hg : Gl X x) (hm : X.mg x = some (.ref p)) (hv : ∀ H, SqT X.K H p xs) (hr : ∀ F H, RpA X.K F H xs ds) (hd : (x == ("__debug__" : Str)) = false := by decide) : VB X W (.Name x pos) (kC (.tuple ds)) :=
  vb_c (pe_glob (v := .ref p) hg hm rfl hd) fun F H => ⟨p, xs, rfl, hv H, hr F H⟩
theorem ve_gtup {x : Str} {p : Addr} {xs : List V} {ds : List D} (he : esc ds = true) (hg : Gl X x) (hm : X.mg x = some (.ref p)) (hv : ∀ H, SqT X.K H p xs) (hr : ∀ F H, RpA X.K F H xs ds) (hd : (x == ("__debug__" : Str)) = false := by decide) : VE X W (.Name x pos) (kC (.tuple ds)) :=
  ve_c (pe_glob (v := .ref p) hg hm rfl hd) fun F H => .tup (.inr ⟨he, hv H⟩) (hr F H)

/-! ### operators on two values -/
/-- what a two-place rule must give -/
def OpG (X : Cx) (W : XW) (P : PP) (r : R2) (g : D → D → Re D) : Prop :=
  ∀ (F : Addr → Prop) (H : Hp) (x y : V) (dx dy : D) (Q : VK), (∀ a, F a → H a ≠ none) → RpB X.K F H x dx → RpB X.K F H y dy → Go W P F H (g dx dy) Q → r x y H Q
def OpGS (X : Cx) (W : XW) (P : PP) (r : R2) (g : D → D → Re D) : Prop :=
  ∀ (F : Addr → Prop) (H : Hp) (x y : V) (dx dy : D) (Q : VK), (∀ a, F a → H a ≠ none) → Rp X.K F H x dx → Rp X.K F H y dy → Go W P F H (g dx dy) Q → r x y H Q
def d2 (g : D → D → Re D) (fa fb : Dl → Re D) (δ : Dl) : Re D := (fa δ).bnd fun x => (fb δ).bnd fun y => g x y
theorem t_op {r : R2} (hp : PMon P) (hg : OpG X W P r g) (σ : L2.St) (H : Hp) (Q : VK) (h : tP X.K W P (d2 g fa fb) σ H Q) : tOp r (tP X.K W (pB X.K) fa) (tP X.K W (pB X.K) fb) σ H Q := by
  obtain ⟨F, δ, s, h⟩ := h
  refine ⟨F, δ, s, Go.bnd hp h fun dx x F1 H1 ex g1 px h1 => ?_⟩
  refine ⟨F1, δ, s.grow g1, Go.bnd hp h1 fun dy y F2 H2 ey g2 py h2 => ?_⟩
  exact hg F2 H2 x y dx dy Q (g2.dom (g1.dom s.dom)) (g2.rpB px) py h2
theorem t_opS {r : R2} (hp : PMon P) (hg : OpGS X W P r g) (σ : L2.St) (H : Hp) (Q : VK) (h : tP X.K W P (d2 g fa fb) σ H Q) : tOp r (tP X.K W (pS X.K) fa) (tP X.K W (pS X.K) fb) σ H Q := by
  obtain ⟨F, δ, s, h⟩ := h
  refine ⟨F, δ, s, Go.bnd hp h fun dx x F1 H1 ex g1 px h1 => ?_⟩
  refine ⟨F1, δ, s.grow g1, Go.bnd hp h1 fun dy y F2 H2 ey g2 py h2 => ?_⟩
  exact hg F2 H2 x y dx dy Q (g2.dom (g1.dom s.dom)) (g2.rp px) py h2
abbrev Rel := PySem.W.Frag → (Addr → Prop) → Hp → V → D → Prop
abbrev pp (K : PySem.W.Frag) (R : Rel) : PP := fun _ _ F' H' v d => R K F' H' v d
structure RKeep (R : Rel) : Prop where
  k : ∀ {K F H F' H' v d}, Grow F H F' H' → R K F H v d → R K F' H' v d
theorem kS : RKeep Rp := ⟨fun g r => g.rp r⟩
theorem kB : RKeep RpB := ⟨fun g r => g.rpB r⟩
def OpGG (X : Cx) (W : XW) (P : PP) (RA RB : Rel) (r : R2) (g : D → D → Re D) : Prop :=
  ∀ (F : Addr → Prop) (H : Hp) (x y : V) (dx dy : D) (Q : VK), (∀ a, F a → H a ≠ none) → RA X.K F H x dx → RB X.K F H y dy → Go W P F H (g dx dy) Q → r x y H Q
theorem t_opG {RA RB : Rel} {r : R2} (hp : PMon P) (ka : RKeep RA) (hg : OpGG X W P RA RB r g) (σ : L2.St) (H : Hp) (Q : VK) (h : tP X.K W P (d2 g fa fb) σ H Q) : tOp r (tP X.K W (pp X.K RA) fa) (tP X.K W (pp X.K RB) fb) σ H Q := by
  obtain ⟨F, δ, s, h⟩ := h
  refine ⟨F, δ, s, Go.bnd hp h fun dx x F1 H1 ex g1 px h1 => ?_⟩
  refine ⟨F1, δ, s.grow g1, Go.bnd hp h1 fun dy y F2 H2 ey g2 py h2 => ?_⟩
  exact hg F2 H2 x y dx dy Q (g2.dom (g1.dom s.dom)) (ka.k g2 px) py h2
theorem vp_bin {op : Operator} {r : R2} (ho : OpR X (binaryOp op) r) (hp : PMon P) (hg : OpG X W P r g) (ha : VB X W a fa) (hb : VB X W b fb) : VP X W P (.BinOp a op b pos) (d2 g fa fb) :=
  PE.imp (pe_op ho ha hb) (t_op hp hg)
theorem vp_cmp {op : CmpOp} {r : R2} (ho : OpR X (compareOp op) r) (hp : PMon P) (hg : OpG X W P r g) (ha : VB X W a fa) (hb : VB X W b fb) (hm : behindInMarks op b = false) : VP X W P (.Compare a [op] [b] pos) (d2 g fa fb) :=
  PE.imp (pe_cmpR ho ha hb hm) (t_op hp hg)
end

/-! ### ints -/
def addI : D → D → Re D
  | .int i, .int j => .ok (.int (i + j))
  | _, _ => .no
def subI : D → D → Re D
  | .int i, .int j => .ok (.int (i - j))
  | _, _ => .no
section
variable {X : Cx} {W : XW} {F : Addr → Prop} {H : Hp} {K : PySem.W.Frag}
theorem rp_int {x : V} {i : Int} (r : RpB K F H x (.int i)) : x = .int i := by
  have r' : Rp K F H x (.int i) := r
  cases r'; rfl
theorem rp_bl {x : V} {i : Bool} (r : RpB K F H x (.bool i)) : x = .bl i := by
  have r' : Rp K F H x (.bool i) := r
  cases r'; rfl
theorem rp_str {x : V} {i : Str} (r : RpB K F H x (.str i)) : x = .str i := by
  have r' : Rp K F H x (.str i) := r
  cases r'; rfl
theorem rp_non {x : V} (r : RpB K F H x .none) : x = .non := by
  have r' : Rp K F H x .none := r
  cases r'; rfl
theorem rp_tup {x : V} {ds : List D} (r : RpB K F H x (.tuple ds)) : ∃ a xs, x = .ref a ∧ SqT K H a xs ∧ RpA K F H xs ds := r
theorem rp_tupS {x : V} {ds : List D} (r : Rp K F H x (.tuple ds)) : ∃ a xs, x = .ref a ∧ TupR K H a xs ds ∧ RpA K F H xs ds := by
  cases r with
  | tup h t => exact ⟨_, _, rfl, h, t⟩
theorem rp_lstS {x : V} {ds : List D} (r : Rp K F H x (.list ds)) : ∃ a xs, x = .ref a ∧ Rd H a (.lst xs) ∧ RpA K F H xs ds := by
  cases r with
  | lst h _ t => exact ⟨_, _, rfl, h, t⟩
end
end VS
end
section
namespace VS
open PySem L2

/-! ### new objects -/
abbrev Dom (F : Addr → Prop) (H : Hp) : Prop := ∀ a, F a → H a ≠ none
structure PNew (K : PySem.W.Frag) (P : PP) : Prop extends PMon P where
  lst : ∀ {F H p xs ds}, Dom F H → H p = none → RpA K F H xs ds → ∃ F', Grow F H F' (upd H p (.lst xs)) ∧ P F H F' (upd H p (.lst xs)) (.ref p) (.list ds)
  dK : ∀ {F : Addr → Prop} {H : Hp} {p : Addr} {m : List (Key × V)} {ds : List (D × D)}, Dom F H → H p = none → RpK K F H (m.map fun p => (kD p.1, p.2)) ds → ∃ F', Grow F H F' (upd H p (.dK m)) ∧ P F H F' (upd H p (.dK m)) (.ref p) (.dict ds)
  dT : ∀ {F : Addr → Prop} {H : Hp} {p : Addr} {m : List (List Key × V)} {ds : List (D × D)}, Dom F H → H p = none → RpK K F H (m.map fun p => (PyData.tuple (p.1.map kD), p.2)) ds → ∃ F', Grow F H F' (upd H p (.dT m)) ∧ P F H F' (upd H p (.dT m)) (.ref p) (.dict ds)
theorem notF {F : Addr → Prop} {H : Hp} {p : Addr} (dm : Dom F H) (h : H p = none) : ¬ F p := fun f => dm p f h
theorem RpO.ofL {K : PySem.W.Frag} {F : Addr → Prop} {H : Hp} {p : Addr} {xs : List V} {ds : List D} (h : H p = none) (r : RpA K F H xs ds) : RpO K F (upd H p (.lst xs)) p (.list ds) :=
  ⟨xs, upd_same, r.mono (fun _ x => x) (Kept.of (same_upd h))⟩
theorem RpO.ofK {K : PySem.W.Frag} {F : Addr → Prop} {H : Hp} {p : Addr} {m : List (Key × V)} {ds : List (D × D)} (h : H p = none) (r : RpK K F H (m.map fun p => (kD p.1, p.2)) ds) : RpO K F (upd H p (.dK m)) p (.dict ds) :=
  .inl ⟨m, upd_same, r.mono (fun _ x => x) (Kept.of (same_upd h))⟩
theorem RpO.ofT {K : PySem.W.Frag} {F : Addr → Prop} {H : Hp} {p : Addr} {m : List (List Key × V)} {ds : List (D × D)} (h : H p = none) (r : RpK K F H (m.map fun p => (PyData.tuple (p.1.map kD), p.2)) ds) : RpO K F (upd H p (.dT m)) p (.dict ds) :=
  .inr ⟨m, upd_same, r.mono (fun _ x => x) (Kept.of (same_upd h))⟩
theorem upd_some {H : Hp} {p : Addr} {o : HO} : upd H p o p ≠ none := by rw [upd_same]; exact fun z => nomatch z
theorem pS_new {K : PySem.W.Frag} : PNew K (pS K) where
  toPMon := pS_mon
  lst := fun _ h r => ⟨_, (Grow.upd0 h).freeze h upd_some, (RpO.ofL h r).froz⟩
  dK := fun _ h r => ⟨_, (Grow.upd0 h).freeze h upd_some, (RpO.ofK h r).froz⟩
  dT := fun _ h r => ⟨_, (Grow.upd0 h).freeze h upd_some, (RpO.ofT h r).froz⟩
theorem pB_new {K : PySem.W.Frag} : PNew K (pB K) where
  toPMon := pB_mon
  lst := fun _ h r => ⟨_, (Grow.upd0 h).freeze h upd_some, (RpO.ofL h r).froz.b⟩
  dK := fun _ h r => ⟨_, (Grow.upd0 h).freeze h upd_some, (RpO.ofK h r).froz.b⟩
  dT := fun _ h r => ⟨_, (Grow.upd0 h).freeze h upd_some, (RpO.ofT h r).froz.b⟩
theorem pF_new {K : PySem.W.Frag} : PNew K (pF K) where
  toPMon := pF_mon
  lst := fun dm h r => ⟨_, Grow.upd0 h, _, rfl, h, notF dm h, RpO.ofL h r⟩
  dK := fun dm h r => ⟨_, Grow.upd0 h, _, rfl, h, notF dm h, RpO.ofK h r⟩
  dT := fun dm h r => ⟨_, Grow.upd0 h, _, rfl, h, notF dm h, RpO.ofT h r⟩
section
variable {X : Cx} {W : XW} {P : PP} {F : Addr → Prop} {H : Hp} {Q : VK} {K : PySem.W.Frag}
theorem Go.newL {ds : List D} {xs : List V} {p : Addr} (hp : PNew K P) (dm : Dom F H) (h : Go W P F H (.ok (.list ds)) Q) (hn : H p = none) (r : RpA K F H xs ds) : Q (.ref p) (upd H p (.lst xs)) := by
  obtain ⟨F', g, q⟩ := hp.lst dm hn r
  exact h _ _ _ g q
theorem Go.newT {ds : List D} {xs : List V} {p : Addr} (h : Go W (pS K) F H (.ok (.tuple ds)) Q) (hn : H p = none) (r : RpA K F H xs ds) : Q (.ref p) (upd H p (.tup xs)) :=
  h _ _ _ (Grow.upd0 hn) (.tup (.inl upd_same) (r.mono (fun _ x => x) (Kept.of (same_upd hn))))
theorem Go.val {d : D} {v : V} (h : Go W (pS K) F H (.ok d) Q) (r : Rp K F H v d) : Q v H := h v F H Grow.refl r
end

/-! ### list objects, read -/
theorem lstR {X : Cx} {pins : List (Addr × Obj)} {σ : L2.St} {H : Hp} {s : Shared} {l : Addr} {xs : List V} (I : Inv X pins σ H s) (h : Rd H l (.lst xs)) :
    xs.length ≤ sizeLine ∧ ∃ (its : List Value) (n : Nat), Vals xs its ∧ xs.length = its.length ∧ s.heap.get? l = some { cls := .type "list", data := .seq its.toArray n } := by
  obtain ⟨z, its, n, r, e⟩ := h.ok I.hok
  exact ⟨z, its, n, r, r.length, e⟩
def rCatR : R2 := fun x y H Q => ∃ l b xs zs, x = .ref l ∧ y = .ref b ∧ Rd H l (.lst xs) ∧ Rd H b (.lst zs) ∧ xs.length + zs.length ≤ sizeLine ∧ ∀ p, H p = none → Q (.ref p) (upd H p (.lst (xs ++ zs)))
section
variable {X : Cx}
theorem op_catR : OpR X (binaryOp .Add) rCatR := by
  intro pins s σ H x y v u Q I rx ry h
  obtain ⟨l, b, xs, zs, rfl, rfl, hH, hB, hz, q⟩ := h
  cases rx; cases ry
  obtain ⟨_, i1, n1, r1, l1, e1⟩ := lstR I hH
  obtain ⟨_, i2, n2, r2, l2, e2⟩ := lstR I hB
  refine PySem.P.add_list e1 e2 ?_ (by rw [List.size_toArray, List.size_toArray]; omega)
  rw [show i1.toArray ++ i2.toArray = (i1 ++ i2).toArray by simp]
  exact ⟨.ref _, _, I.lnew (t' := s.toks) (r1.append r2) (by rw [List.length_append]; omega), rfl, q _ I.fresh⟩
end

/-! ### + - * // % ** -/
def fits (n : Nat) : Bool := decide (n ≤ sizeLine)
def addD : D → D → Re D
  | .int i, .int j => .ok (.int (i + j))
  | .str x, .str y => if x.length + y.length ≤ sizeLine then .ok (.str (x ++ y)) else .no
  | .tuple xs, .tuple ys => if xs.length + ys.length ≤ sizeLine then .ok (.tuple (xs ++ ys)) else .no
  | .list xs, .list ys => if xs.length + ys.length ≤ sizeLine then .ok (.list (xs ++ ys)) else .no
  | _, _ => .no
def catL : D → D → Re D
  | .list xs, .list ys => if xs.length + ys.length ≤ sizeLine then .ok (.list (xs ++ ys)) else .no
  | _, _ => .no
def subD : D → D → Re D
  | .int i, .int j => .ok (.int (i - j))
  | _, _ => .no
instance (i j : Int) : Decidable (CMul i j) := inferInstanceAs (Decidable ((_ ∧ _) ∨ (_ ∧ _)))
instance (i j : Int) : Decidable (CDiv i j) := inferInstanceAs (Decidable (_ ∧ _))
instance (i j : Int) : Decidable (CPow i j) := inferInstanceAs (Decidable (_ ∧ _ ∧ _))
instance (i j : Int) : Decidable (CMulW i j) := inferInstanceAs (Decidable (_ < _))
def mulI : D → D → Re D
  | .int i, .int j => if CMul i j ∨ CMulW i j then .ok (.int (i * j)) else .no
  | _, _ => .no
/-- list * int -/
def repL : D → D → Re D
  | .list xs, .int k => if -(2 ^ 63) ≤ k ∧ k < 2 ^ 63 ∧ xs.length * k.toNat ≤ sizeLine then .ok (.list (List.replicate k.toNat xs).flatten) else .no
  | _, _ => .no
def fdivI : D → D → Re D
  | .int i, .int j => if CDiv i j then .ok (.int (i / j)) else .no
  | _, _ => .no
def modI : D → D → Re D
  | .int i, .int j => if 0 < j then .ok (.int (i % j)) else .no
  | _, _ => .no
def powI : D → D → Re D
  | .int i, .int j => if CPow i j then .ok (.int (i ^ j.toNat)) else .no
  | _, _ => .no
def negI : D → Re D
  | .int i => .ok (.int (-i))
  | _ => .no

def rAddAll (K : PySem.W.Frag) : R2 := fun x y H Q => ((∃ i j, x = .int i ∧ y = .int j ∧ Q (.int (i + j)) H) ∨ (∃ i j, x = .str i ∧ y = .str j ∧ i.length + j.length ≤ sizeLine ∧ Q (.str (i ++ j)) H)) ∨ rCatA K x y H Q ∨ rCatR x y H Q
section
variable {X : Cx} {W : XW} {P : PP} {a b : Expr} {pos : Pos} {fa fb : Dl → Re D}
theorem op_addAll : OpR X (binaryOp .Add) (rAddAll X.K) := OpR.or (OpR.or op_add op_add_str) (OpR.or op_catA op_catR)

theorem og_add : OpGS X W (pS X.K) (rAddAll X.K) addD := by
  intro F H x y dx dy Q dm rx ry h
  unfold addD at h
  split at h
  · exact .inl (.inl ⟨_, _, rp_int (Rp.b rx), rp_int (Rp.b ry), h.val (.int _)⟩)
  · split at h
    · rename_i hz
      exact .inl (.inr ⟨_, _, rp_str (Rp.b rx), rp_str (Rp.b ry), hz, h.val (.str _)⟩)
    · exact h.elim
  · split at h
    · rename_i xs ys hz
      obtain ⟨p, us, rfl, hp, ru⟩ := rp_tupS rx
      obtain ⟨q, ws, rfl, hq, rw'⟩ := rp_tupS ry
      have l1 := ru.length
      have l2 := rw'.length
      refine .inr (.inl ⟨p, q, us, ws, rfl, rfl, hp.sq, hq.sq, by omega, fun e => ?_, fun e e2 => ?_, fun e e2 z hz => ?_⟩)
      · subst e
        have : xs = [] := by cases ru; rfl
        subst this
        exact h.val (.tup hq rw')
      · subst e2
        have : ys = [] := by cases rw'; rfl
        subst this
        rw [List.append_nil] at h
        exact h.val (.tup hp ru)
      · exact h.newT hz (ru.append rw')
    · exact h.elim
  · split at h
    · rename_i xs ys hz
      obtain ⟨p, us, rfl, hp, ru⟩ := rp_lstS rx
      obtain ⟨q, ws, rfl, hq, rw'⟩ := rp_lstS ry
      have l1 := ru.length
      have l2 := rw'.length
      exact .inr (.inr ⟨p, q, us, ws, rfl, rfl, hp, hq, by omega, fun z hz => h.newL pS_new dm hz (ru.append rw')⟩)
    · exact h.elim
  · exact h.elim
theorem og_catL (hP : PNew X.K P) : OpG X W P rCatR catL := by
  intro F H x y dx dy Q dm rx ry h
  unfold catL at h
  split at h
  · split at h
    · rename_i xs ys hz
      obtain ⟨p, us, rfl, hp, ru⟩ := rx
      obtain ⟨q, ws, rfl, hq, rw'⟩ := ry
      have l1 := ru.length
      have l2 := rw'.length
      exact ⟨p, q, us, ws, rfl, rfl, hp, hq, by omega, fun z hz => h.newL hP dm hz (ru.append rw')⟩
    · exact h.elim
  · exact h.elim
/-- ints in, under a condition that is decided -/
theorem og_int {C : Int → Int → Prop} {k : Int → Int → Int} {g : D → D → Re D} (hg : ∀ dx dy d, g dx dy = .ok d → ∃ i j, dx = .int i ∧ dy = .int j ∧ C i j ∧ d = .int (k i j)) (hx : ∀ dx dy x, g dx dy ≠ .ex x) :
    OpG X W (pS X.K) (rI C fun i j => .int (k i j)) g := by
  intro F H x y dx dy Q dm rx ry h
  cases e : g dx dy with
  | ok d =>
    obtain ⟨i, j, rfl, rfl, c, rfl⟩ := hg _ _ _ e
    rw [e] at h
    exact ⟨i, j, rp_int rx, rp_int ry, c, h.val (.int _)⟩
  | ex z => exact (hx _ _ _ e).elim
  | no => rw [e] at h; exact h.elim
theorem ve_add (ha : VE X W a fa) (hb : VE X W b fb) : VE X W (.BinOp a .Add b pos) (d2 addD fa fb) := PE.imp (pe_op op_addAll ha hb) (t_opS pS_mon og_add)
theorem vp_catL (hP : PNew X.K P) (ha : VB X W a fa) (hb : VB X W b fb) : VP X W P (.BinOp a .Add b pos) (d2 catL fa fb) := vp_bin op_catR hP.toPMon (og_catL hP) ha hb
theorem ve_sub (ha : VB X W a fa) (hb : VB X W b fb) : VE X W (.BinOp a .Sub b pos) (d2 subD fa fb) := by
  refine vp_bin (r := rI (fun _ _ => True) fun i j => .int (i - j)) (fun pins s σ H x y v u Q I rx ry ⟨i, j, e1, e2, _, q⟩ => op_sub pins s σ H x y v u Q I rx ry ⟨i, j, e1, e2, q⟩) pS_mon (og_int (fun dx dy d e => ?_) fun dx dy x e => ?_) ha hb
  · unfold subD at e
    split at e
    · cases e; exact ⟨_, _, rfl, rfl, trivial, rfl⟩
    · cases e
  · unfold subD at e
    split at e <;> cases e
theorem op_mul2 : OpR X (binaryOp .Mult) (rI (fun i j => CMul i j ∨ CMulW i j) fun i j => .int (i * j)) := by
  intro pins s σ H x y v u Q I rx ry ⟨i, j, e1, e2, c, q⟩
  rcases c with c | c
  · exact op_mul pins s σ H x y v u Q I rx ry ⟨i, j, e1, e2, c, q⟩
  · exact op_mulW pins s σ H x y v u Q I rx ry ⟨i, j, e1, e2, c, q⟩
theorem ve_mul (ha : VB X W a fa) (hb : VB X W b fb) : VE X W (.BinOp a .Mult b pos) (d2 mulI fa fb) := by
  refine vp_bin op_mul2 pS_mon (og_int (fun dx dy d e => ?_) fun dx dy x e => ?_) ha hb
  · unfold mulI at e
    split at e
    · split at e
      · rename_i c; cases e; exact ⟨_, _, rfl, rfl, c, rfl⟩
      · cases e
    · cases e
  · unfold mulI at e
    split at e
    · split at e <;> cases e
    · cases e
theorem ve_fdiv (ha : VB X W a fa) (hb : VB X W b fb) : VE X W (.BinOp a .FloorDiv b pos) (d2 fdivI fa fb) := by
  refine vp_bin op_fdiv pS_mon (og_int (fun dx dy d e => ?_) fun dx dy x e => ?_) ha hb
  · unfold fdivI at e
    split at e
    · split at e
      · rename_i c; cases e; exact ⟨_, _, rfl, rfl, c, rfl⟩
      · cases e
    · cases e
  · unfold fdivI at e
    split at e
    · split at e <;> cases e
    · cases e
theorem ve_mod (ha : VB X W a fa) (hb : VB X W b fb) : VE X W (.BinOp a .Mod b pos) (d2 modI fa fb) := by
  refine vp_bin op_mod pS_mon (og_int (fun dx dy d e => ?_) fun dx dy x e => ?_) ha hb
  · unfold modI at e
    split at e
    · split at e
      · rename_i c; cases e; exact ⟨_, _, rfl, rfl, c, rfl⟩
      · cases e
    · cases e
  · unfold modI at e
    split at e
    · split at e <;> cases e
    · cases e
theorem ve_pow (ha : VB X W a fa) (hb : VB X W b fb) : VE X W (.BinOp a .Pow b pos) (d2 powI fa fb) := by
  refine vp_bin op_pow pS_mon (og_int (fun dx dy d e => ?_) fun dx dy x e => ?_) ha hb
  · unfold powI at e
    split at e
    · split at e
      · rename_i c; cases e; exact ⟨_, _, rfl, rfl, c, rfl⟩
      · cases e
    · cases e
  · unfold powI at e
    split at e
    · split at e <;> cases e
    · cases e
def d1 (g : D → Re D) (fa : Dl → Re D) (δ : Dl) : Re D := (fa δ).bnd g
theorem ve_neg (ha : VB X W a fa) : VE X W (.UnaryOp .USub a pos) (d1 negI fa) := PE.imp (pe_un un_neg ha) fun σ H Q ⟨F, δ, s, h⟩ => by
  refine ⟨F, δ, s, Go.bnd pS_mon h fun d v F1 H1 e g p h1 => ?_⟩
  unfold negI at h1
  split at h1
  · exact ⟨_, rp_int p, h1.val (.int _)⟩
  · exact h1.elim
end
end VS
end
section
namespace VS
open PySem L2

/-! ### reading as data -/
mutual
/-- no dict within, nested at most n deep -/
def dn : Nat → D → Bool
  | _, .dict _ => false
  | 0, .list _ => false
  | n + 1, .list xs => dnA n xs
  | 0, .tuple _ => false
  | n + 1, .tuple xs => dnA n xs
  | _, .none => true
  | _, .bool _ => true
  | _, .int _ => true
  | _, .str _ => true
def dnA : Nat → List D → Bool
  | _, [] => true
  | n, x :: xs => dn n x && dnA n xs
end
@[simp] theorem dnA_all (n : Nat) : ∀ xs : List D, dnA n xs = xs.all (dn n)
  | [] => by simp [dnA]
  | x :: xs => by simp [dnA, dnA_all n xs]
@[simp] theorem dn_int (n : Nat) (i : Int) : dn n (.int i) = true := by cases n <;> simp [dn]
@[simp] theorem dn_str (n : Nat) (i : Str) : dn n (.str i) = true := by cases n <;> simp [dn]
@[simp] theorem dn_bool (n : Nat) (i : Bool) : dn n (.bool i) = true := by cases n <;> simp [dn]
@[simp] theorem dn_none (n : Nat) : dn n .none = true := by cases n <;> simp [dn]
@[simp] theorem dn_tup (n : Nat) (xs : List D) : dn (n + 1) (.tuple xs) = xs.all (dn n) := by simp [dn]
@[simp] theorem dn_lst (n : Nat) (xs : List D) : dn (n + 1) (.list xs) = xs.all (dn n) := by simp [dn]
mutual
theorem dn_plain : ∀ (d : D) (n : Nat), dn n d = true → d.plain = true ∧ d.depth ≤ n
  | .none, n, _ => ⟨by simp [PyData.plain], by simp [PyData.depth]⟩
  | .bool _, n, _ => ⟨by simp [PyData.plain], by simp [PyData.depth]⟩
  | .int _, n, _ => ⟨by simp [PyData.plain], by simp [PyData.depth]⟩
  | .str _, n, _ => ⟨by simp [PyData.plain], by simp [PyData.depth]⟩
  | .dict _, n, h => by cases n <;> simp [dn] at h
  | .list xs, 0, h => by simp [dn] at h
  | .list xs, n + 1, h => by
    have q := dnA_plain xs n (by simpa [dn] using h)
    exact ⟨by simpa [PyData.plain] using q.1, by simp only [PyData.depth]; omega⟩
  | .tuple xs, 0, h => by simp [dn] at h
  | .tuple xs, n + 1, h => by
    have q := dnA_plain xs n (by simpa [dn] using h)
    exact ⟨by simpa [PyData.plain] using q.1, by simp only [PyData.depth]; omega⟩
theorem dnA_plain : ∀ (ds : List D) (n : Nat), dnA n ds = true → PyData.plainAll ds = true ∧ PyData.depthAll ds ≤ n
  | [], n, _ => ⟨by simp [PyData.plainAll], by simp [PyData.depthAll]⟩
  | d :: ds, n, h => by
    simp only [dnA, Bool.and_eq_true] at h
    have q1 := dn_plain d n h.1
    have q2 := dnA_plain ds n h.2
    refine ⟨by simp only [PyData.plainAll, q1.1, q2.1, Bool.and_self], ?_⟩
    simp only [PyData.depthAll]
    exact Nat.max_le.mpr ⟨q1.2, q2.2⟩
end
section
variable {K : PySem.W.Frag} {F : Addr → Prop} {H : Hp}
theorem sqL_rd {a : Addr} {xs : List V} (h : Rd H a (.lst xs)) : SqL K H a xs := .inl h
mutual
theorem Rp.dp : ∀ {v : V} {d : D}, Rp K F H v d → d.plain = true → Dp K H v d
  | _, _, .non, _ => .non
  | _, _, .bl b, _ => .bl b
  | _, _, .int i, _ => .int i
  | _, _, .str x, _ => .str x
  | _, _, .lst r _ t, h => .lst (sqL_rd r) (RpA.dp t (by simpa [PyData.plain] using h))
  | _, _, .tup r t, h => .tup r.sq (RpA.dp t (by simpa [PyData.plain] using h))
  | _, _, .dic _ _ _, h => by simp [PyData.plain] at h
theorem RpA.dp : ∀ {vs : List V} {ds : List D}, RpA K F H vs ds → PyData.plainAll ds = true → DpAll K H vs ds
  | _, _, .nil, _ => .nil
  | _, _, .cons h t, e => by
    simp only [PyData.plainAll, Bool.and_eq_true] at e
    exact .cons (Rp.dp h e.1) (RpA.dp t e.2)
end
theorem RpB.dp {v : V} : ∀ {d : D}, RpB K F H v d → d.plain = true → Dp K H v d
  | .list _, ⟨a, xs, e, h, t⟩, z => by subst e; exact .lst (sqL_rd h) (t.dp (by simpa [PyData.plain] using z))
  | .dict _, _, z => by simp [PyData.plain] at z
  | .none, r, z => Rp.dp (show Rp K F H v .none from r) z
  | .bool _, r, z => Rp.dp (show Rp K F H v (.bool _) from r) z
  | .int _, r, z => Rp.dp (show Rp K F H v (.int _) from r) z
  | .str _, r, z => Rp.dp (show Rp K F H v (.str _) from r) z
  | .tuple _, ⟨a, xs, e, h, t⟩, z => by subst e; exact .tup h (t.dp (by simpa [PyData.plain] using z))
end

/-! ### == != < -/
def eqD (x y : D) : Re D := if dn 60 x = true ∧ dn 60 y = true then .ok (.bool (PyData.eqv x y)) else .no
def neD (x y : D) : Re D := if dn 60 x = true ∧ dn 60 y = true then .ok (.bool (!PyData.eqv x y)) else .no
def isN : D → Bool
  | .none => true
  | _ => false
/-- Python's < for data alike, not None -/
def ltOk (x y : D) : Bool := dn 60 x && dn 60 y && PySem.W.alike x y && !isN x
def ltD (x y : D) : Re D := if ltOk x y = true then .ok (.bool (PySem.W.dataLt x y)) else .no
def leD (x y : D) : Re D := if ltOk x y = true then .ok (.bool (!PySem.W.dataLt y x)) else .no
def gtD (x y : D) : Re D := if ltOk x y = true then .ok (.bool (PySem.W.dataLt y x)) else .no
def geD (x y : D) : Re D := if ltOk x y = true then .ok (.bool (!PySem.W.dataLt x y)) else .no
def isND : D → Re D := fun x => .ok (.bool (isN x))
def notND : D → Re D := fun x => .ok (.bool (!isN x))

/-- a comparison of data that may be asked, by what it answers -/
def rCmpD (K : PySem.W.Frag) (ok : D → D → Bool) (k : D → D → Bool) : R2 := fun x y H Q => ∃ d e, Dp K H x d ∧ Dp K H y e ∧ ok d e = true ∧ Q (.bl (k d e)) H
def okEq (x y : D) : Bool := dn 60 x && dn 60 y
section
variable {X : Cx} {W : XW} {P : PP} {a b : Expr} {pos : Pos} {fa fb : Dl → Re D}
theorem ltOk_ok {x y : D} (h : ltOk x y = true) : x.plain = true ∧ y.plain = true ∧ PySem.W.alike x y = true ∧ x ≠ .none ∧ x.depth ≤ 60 := by
  unfold ltOk at h
  simp only [Bool.and_eq_true] at h
  obtain ⟨⟨⟨h1, h2⟩, h3⟩, h4⟩ := h
  exact ⟨(dn_plain x _ h1).1, (dn_plain y _ h2).1, h3, fun e => by subst e; simp [isN] at h4, (dn_plain x _ h1).2⟩
theorem op_data {op : CmpOp} {ok k : D → D → Bool} (rule : ∀ (s : Shared) (a b : Value) (da db : D) (as bs : List Addr) (Q : Value → Shared → Prop), Reads s.heap a da as → Reads s.heap b db bs → ok da db = true → Q (.bool (k da db)) s → wpAny (model X.prog X.w) X.A (compareOp op a b) Q X.xe s) :
    OpR X (compareOp op) (rCmpD X.K ok k) := by
  intro pins s σ H x y v u Q I rx ry ⟨d, e, hd, he, c, q⟩
  obtain ⟨as, r1⟩ := Dp.reads I d x v hd rx
  obtain ⟨bs, r2⟩ := Dp.reads I e y u he ry
  exact rule s v u d e as bs _ r1 r2 c ⟨.bl _, H, I, rfl, q⟩
theorem min60 {A : Around} {x y : D} (hu : A.units + 64 < cLine) (h : x.depth ≤ 60) : A.units + min x.depth y.depth < cLine := by
  have := Nat.min_le_left x.depth y.depth
  omega
theorem op_eqP (hu : X.A.units + 64 < cLine) : OpR X (compareOp .Eq) (rCmpD X.K okEq PyData.eqv) := op_data fun s a b da db as bs Q r1 r2 c q => by
  unfold okEq at c
  rw [Bool.and_eq_true] at c
  exact PySem.SeqAt.eq_plain r1 r2 (dn_plain _ _ c.1).1 (dn_plain _ _ c.2).1 (min60 hu (dn_plain _ _ c.1).2) q
theorem op_neP (hu : X.A.units + 64 < cLine) : OpR X (compareOp .NotEq) (rCmpD X.K okEq fun x y => !PyData.eqv x y) := op_data fun s a b da db as bs Q r1 r2 c q => by
  unfold okEq at c
  rw [Bool.and_eq_true] at c
  exact PySem.SeqAt.ne_plain r1 r2 (dn_plain _ _ c.1).1 (dn_plain _ _ c.2).1 (min60 hu (dn_plain _ _ c.1).2) q
theorem op_ltP (hu : X.A.units + 64 < cLine) : OpR X (compareOp .Lt) (rCmpD X.K ltOk PySem.W.dataLt) := op_data fun s a b da db as bs Q r1 r2 c q => by
  obtain ⟨_, _, c3, c4, c5⟩ := ltOk_ok c
  exact PySem.W.lt_data r1 r2 c3 c4 (min60 hu c5) q
theorem op_gtP (hu : X.A.units + 64 < cLine) : OpR X (compareOp .Gt) (rCmpD X.K ltOk fun x y => PySem.W.dataLt y x) := op_data fun s a b da db as bs Q r1 r2 c q => by
  obtain ⟨_, _, c3, c4, c5⟩ := ltOk_ok c
  exact PySem.W.gt_data r1 r2 c3 c4 (min60 hu c5) q
theorem op_leP (hu : X.A.units + 64 < cLine) : OpR X (compareOp .LtE) (rCmpD X.K ltOk fun x y => !PySem.W.dataLt y x) := op_data fun s a b da db as bs Q r1 r2 c q => by
  obtain ⟨_, _, c3, c4, c5⟩ := ltOk_ok c
  exact PySem.W.le_data r1 r2 c3 c4 (min60 hu c5) q
theorem op_geP (hu : X.A.units + 64 < cLine) : OpR X (compareOp .GtE) (rCmpD X.K ltOk fun x y => !PySem.W.dataLt x y) := op_data fun s a b da db as bs Q r1 r2 c q => by
  obtain ⟨_, _, c3, c4, c5⟩ := ltOk_ok c
  exact PySem.W.ge_data r1 r2 c3 c4 (min60 hu c5) q
theorem og_cmpD {ok k : D → D → Bool} {g : D → D → Re D} (hg : ∀ x y, g x y = if ok x y = true then .ok (.bool (k x y)) else .no) (hok : ∀ x y, ok x y = true → x.plain = true ∧ y.plain = true) : OpG X W (pS X.K) (rCmpD X.K ok k) g := by
  intro F H x y dx dy Q dm rx ry h
  rw [hg] at h
  split at h
  · rename_i c
    exact ⟨dx, dy, rx.dp (hok _ _ c).1, ry.dp (hok _ _ c).2, c, h.val (.bl _)⟩
  · exact h.elim
theorem okEq_plain (x y : D) (h : okEq x y = true) : x.plain = true ∧ y.plain = true := by
  unfold okEq at h
  rw [Bool.and_eq_true] at h
  exact ⟨(dn_plain _ _ h.1).1, (dn_plain _ _ h.2).1⟩
theorem okLt_plain (x y : D) (h : ltOk x y = true) : x.plain = true ∧ y.plain = true := ⟨(ltOk_ok h).1, (ltOk_ok h).2.1⟩
theorem isN_v {K : PySem.W.Frag} {F : Addr → Prop} {H : Hp} {v : V} : ∀ {d : D}, RpB K F H v d → decide (v = .non) = isN d
  | .none, r => by rw [rp_non r]; rfl
  | .bool _, r => by rw [rp_bl r]; rfl
  | .int _, r => by rw [rp_int r]; rfl
  | .str _, r => by rw [rp_str r]; rfl
  | .tuple _, r => by obtain ⟨a, _, e, _⟩ := rp_tup r; rw [e]; rfl
  | .list _, ⟨a, _, e, _⟩ => by rw [e]; rfl
  | .dict _, ⟨a, _, e, _⟩ => by rw [e]; rfl
/-- a comparison op, given the pair (rule, denotation) -/
structure CmpR (X : Cx) (W : XW) (op : CmpOp) (g : D → D → Re D) where
  r : R2
  o : OpR X (compareOp op) r
  g : OpG X W (pS X.K) r g
theorem okEq_if (x y : D) {α : Type} (a b : α) : (if dn 60 x = true ∧ dn 60 y = true then a else b) = if okEq x y = true then a else b := by
  unfold okEq
  simp only [Bool.and_eq_true]
def c_eq (hu : X.A.units + 64 < cLine) : CmpR X W .Eq eqD := ⟨_, op_eqP hu, og_cmpD (fun x y => okEq_if x y _ _) okEq_plain⟩
def c_ne (hu : X.A.units + 64 < cLine) : CmpR X W .NotEq neD := ⟨_, op_neP hu, og_cmpD (fun x y => okEq_if x y _ _) okEq_plain⟩
def c_lt (hu : X.A.units + 64 < cLine) : CmpR X W .Lt ltD := ⟨_, op_ltP hu, og_cmpD (fun x y => rfl) okLt_plain⟩
def c_le (hu : X.A.units + 64 < cLine) : CmpR X W .LtE leD := ⟨_, op_leP hu, og_cmpD (fun x y => rfl) okLt_plain⟩
def c_gt (hu : X.A.units + 64 < cLine) : CmpR X W .Gt gtD := ⟨_, op_gtP hu, og_cmpD (fun x y => rfl) okLt_plain⟩
def c_ge (hu : X.A.units + 64 < cLine) : CmpR X W .GtE geD := ⟨_, op_geP hu, og_cmpD (fun x y => rfl) okLt_plain⟩
theorem ve_cmp {op : CmpOp} {g : D → D → Re D} (c : CmpR X W op g) (ha : VB X W a fa) (hb : VB X W b fb) (hm : behindInMarks op b = false) : VE X W (.Compare a [op] [b] pos) (d2 g fa fb) := vp_cmp c.o pS_mon c.g ha hb hm
theorem ve_isN {j pos'} (ha : VB X W a fa) : VE X W (.Compare a [.Is] [.Constant .none j pos'] pos) (d1 isND fa) := PE.imp (pe_cmp (pc_isN ha) (by rfl)) fun σ H Q ⟨F, δ, s, h⟩ =>
  ⟨F, δ, s, Go.bnd pS_mon h fun d v F1 H1 e g p h1 => by rw [isN_v p]; exact h1.val (.bl _)⟩
theorem ve_notN {j pos'} (ha : VB X W a fa) : VE X W (.Compare a [.IsNot] [.Constant .none j pos'] pos) (d1 notND fa) := PE.imp (pe_cmp (pc_notN ha) (by rfl)) fun σ H Q ⟨F, δ, s, h⟩ =>
  ⟨F, δ, s, Go.bnd pS_mon h fun d v F1 H1 e g p h1 => by rw [isN_v p]; exact h1.val (.bl _)⟩

/-! ### a op b op' c -/
def asB : D → Re Bool
  | .bool b => .ok b
  | _ => .no
def chn (g g' : D → D → Re D) (fa fb fc : Dl → Re D) (δ : Dl) : Re D := (fa δ).bnd fun x => (fb δ).bnd fun y => (g x y).bnd fun z => match z with
  | .bool true => (fc δ).bnd fun w => g' y w
  | .bool false => .ok (.bool false)
  | _ => .no
theorem ve_chain {op op' : CmpOp} {g g' : D → D → Re D} {c : Expr} {fc : Dl → Re D} (k : CmpR X W op g) (k' : CmpR X W op' g') (ha : VB X W a fa) (hb : VB X W b fb) (hc : VB X W c fc)
    (hm : lastMarks [op, op'] [b, c] = false := by with_unfolding_all rfl) : VE X W (.Compare a [op, op'] [b, c] pos) (chn g g' fa fb fc) := PE.imp (pe_chain k.o k'.o ha hb hc hm) fun σ H Q ⟨F, δ, s, h⟩ => by
  refine ⟨F, δ, s, Go.bnd pS_mon h fun dx x F1 H1 ex g1 px h1 => ?_⟩
  refine ⟨F1, δ, s.grow g1, Go.bnd pS_mon h1 fun dy y F2 H2 ey g2 py h2 => ?_⟩
  have s2 := (s.grow g1).grow g2
  refine k.g F2 H2 x y dx dy _ s2.dom (g2.rpB px) py (Go.bnd pS_mon h2 fun dz z F3 H3 ez g3 pz h3 => ?_)
  cases dz with
  | bool b =>
    have e : z = .bl b := rp_bl (Rp.b pz)
    refine ⟨b, e, ?_⟩
    cases b with
    | true =>
      rw [if_pos rfl]
      refine ⟨F3, δ, s2.grow g3, Go.bnd pS_mon h3 fun dw w F4 H4 ew g4 pw h4 => ?_⟩
      exact k'.g F4 H4 y w dy dw Q ((s2.grow g3).grow g4).dom (g4.rpB (g3.rpB py)) pw h4
    | false =>
      rw [if_neg Bool.false_ne_true]
      exact h3.val (.bl false)
  | _ => exact h3.elim

/-! ### tests -/
def tB1 (fa : Dl → Re D) (δ : Dl) : Re Bool := (fa δ).bnd asB
theorem asB_ok {P : PP} {F : Addr → Prop} {H : Hp} {d : D} {W : XW} {Q : Bool → Hp → Prop} (h : GoT W F H (asB d) Q) : ∃ b, d = .bool b ∧ Q b H := by
  cases d with
  | bool b => exact ⟨b, rfl, h F H Grow.refl⟩
  | _ => exact h.elim
/-- a comparison as a test -/
theorem vt_cmp {op : CmpOp} {g : D → D → Re D} (c : CmpR X W op g) (ha : VB X W a fa) (hb : VB X W b fb) (hm : behindInMarks op b = false) : VT X W (.Compare a [op] [b] pos) (tB1 (d2 g fa fb)) := PT.imp (pt_cmpR c.o ha hb hm) fun σ H Q ⟨F, δ, s, h⟩ => by
  refine t_op pS_mon c.g σ H _ ⟨F, δ, s, ?_⟩
  refine Go.bndT h fun d v F1 H1 e g p h1 => ?_
  obtain ⟨b, rfl, q⟩ := asB_ok (P := pS X.K) h1
  exact ⟨b, rp_bl (Rp.b p), q⟩
/-- an expression whose value is a bool, as a test (he: by intro _; rfl) -/
theorem vt_val (ha : VE X W a fa) (he : ∀ whole, isTrue a X.env whole = (do let v ← whole; standAt a.pos; holding [v] (truthy v))) : VT X W a (tB1 fa) := PT.imp (pt_val ha he) fun σ H Q ⟨F, δ, s, h⟩ =>
  ⟨F, δ, s, Go.bndT h fun d v F1 H1 e g p h1 => by
    obtain ⟨b, rfl, q⟩ := asB_ok (P := pS X.K) h1
    exact ⟨b, rp_bl (Rp.b p), q⟩⟩
theorem vt_isN {j pos'} (ha : VB X W a fa) : VT X W (.Compare a [.Is] [.Constant .none j pos'] pos) (tB1 (d1 isND fa)) := PT.imp (pt_cmp (pc_isN ha) (by rfl)) fun σ H Q ⟨F, δ, s, h⟩ =>
  ⟨F, δ, s, by
    refine Go.bndT (k := fun x => asB (.bool (isN x))) (by unfold tB1 d1 at h; cases e : fa δ <;> rw [e] at h <;> exact h) fun d v F1 H1 e g p h1 => ?_
    rw [isN_v p]
    exact ⟨_, rfl, h1.at rfl Grow.refl⟩⟩
theorem vt_notN {j pos'} (ha : VB X W a fa) : VT X W (.Compare a [.IsNot] [.Constant .none j pos'] pos) (tB1 (d1 notND fa)) := PT.imp (pt_cmp (pc_notN ha) (by rfl)) fun σ H Q ⟨F, δ, s, h⟩ =>
  ⟨F, δ, s, by
    refine Go.bndT (k := fun x => asB (.bool (!isN x))) (by unfold tB1 d1 at h; cases e : fa δ <;> rw [e] at h <;> exact h) fun d v F1 H1 e g p h1 => ?_
    rw [isN_v p]
    exact ⟨_, rfl, h1.at rfl Grow.refl⟩⟩
/-- chain as a test -/
theorem vt_chain {op op' : CmpOp} {g g' : D → D → Re D} {c : Expr} {fc : Dl → Re D} (k : CmpR X W op g) (k' : CmpR X W op' g') (ha : VB X W a fa) (hb : VB X W b fb) (hc : VB X W c fc)
    (hm : lastMarks [op, op'] [b, c] = false := by with_unfolding_all rfl) : VT X W (.Compare a [op, op'] [b, c] pos) (tB1 (chn g g' fa fb fc)) := PT.imp (pt_chain k.o k'.o ha hb hc hm) fun σ H Q ⟨F, δ, s, h⟩ => by
  have h0 : Go W (pS X.K) F H (chn g g' fa fb fc δ) (fun x H' => ∃ k, x = .bl k ∧ Q k H') := Go.bndT h fun d v F1 H1 e g p h1 => by
    obtain ⟨b, rfl, q⟩ := asB_ok (P := pS X.K) h1
    exact ⟨b, rp_bl (Rp.b p), q⟩
  refine ⟨F, δ, s, Go.bnd pS_mon h0 fun dx x F1 H1 ex g1 px h1 => ?_⟩
  refine ⟨F1, δ, s.grow g1, Go.bnd pS_mon h1 fun dy y F2 H2 ey g2 py h2 => ?_⟩
  have s2 := (s.grow g1).grow g2
  refine k.g F2 H2 x y dx dy _ s2.dom (g2.rpB px) py (Go.bnd pS_mon h2 fun dz z F3 H3 ez g3 pz h3 => ?_)
  cases dz with
  | bool b =>
    have e : z = .bl b := rp_bl (Rp.b pz)
    refine ⟨b, e, ?_⟩
    cases b with
    | true =>
      rw [if_pos rfl]
      refine ⟨F3, δ, s2.grow g3, Go.bnd pS_mon h3 fun dw w F4 H4 ew g4 pw h4 => ?_⟩
      exact k'.g F4 H4 y w dy dw _ ((s2.grow g3).grow g4).dom (g4.rpB (g3.rpB py)) pw h4
    | false =>
      rw [if_neg Bool.false_ne_true]
      exact h3.val (.bl false)
  | _ => exact h3.elim

/-! ### and, or, not -/
def tAnd2 (f g : Dl → Re Bool) (δ : Dl) : Re Bool := (f δ).bnd fun b => if b = true then g δ else .ok false
def tOr2 (f g : Dl → Re Bool) (δ : Dl) : Re Bool := (f δ).bnd fun b => if b = true then .ok true else g δ
def tNot1 (f : Dl → Re Bool) (δ : Dl) : Re Bool := (f δ).bnd fun b => .ok (!b)
variable {f g : Dl → Re Bool} {rest : List Expr}
abbrev VW (X : Cx) (W : XW) (e : Expr) (f : Dl → Re Bool) : Prop := PW X e (tT X.K W f)
theorem PW.imp {e : Expr} {t t' : TT} (h : PW X e t) (w : ∀ σ H Q, t' σ H Q → t σ H Q) : PW X e t' := ⟨fun wh pins s σ H Q I q => h.run wh pins s σ H Q I (w _ _ _ q)⟩
theorem vw_and1 (h : VT X W a f) : VW X W (.BoolOp .And [a] pos) f := pw_and1 h
theorem vw_or1 (h : VT X W a f) : VW X W (.BoolOp .Or [a] pos) f := pw_or1 h
theorem vw_and (h : VT X W a f) (h' : VW X W (.BoolOp .And (b :: rest) pos) g) : VW X W (.BoolOp .And (a :: b :: rest) pos) (tAnd2 f g) := PW.imp (pw_and h h') fun σ H Q ⟨F, δ, s, q⟩ =>
  ⟨F, δ, s, GoT.bndT q fun c F1 H1 e g1 h1 => by
    cases c with
    | true => rw [if_pos rfl] at h1 ⊢; exact ⟨F1, δ, s.grow g1, h1⟩
    | false => rw [if_neg Bool.false_ne_true] at h1 ⊢; exact h1.at rfl Grow.refl⟩
theorem vw_or (h : VT X W a f) (h' : VW X W (.BoolOp .Or (b :: rest) pos) g) : VW X W (.BoolOp .Or (a :: b :: rest) pos) (tOr2 f g) := PW.imp (pw_or h h') fun σ H Q ⟨F, δ, s, q⟩ =>
  ⟨F, δ, s, GoT.bndT q fun c F1 H1 e g1 h1 => by
    cases c with
    | true => rw [if_pos rfl] at h1 ⊢; exact h1.at rfl Grow.refl
    | false => rw [if_neg Bool.false_ne_true] at h1 ⊢; exact ⟨F1, δ, s.grow g1, h1⟩⟩
theorem vt_w {e : Expr} (h : VW X W e f) : VT X W e f := h.pt
theorem vt_not (h : VT X W a f) : VT X W (.UnaryOp .Not a pos) (tNot1 f) := PT.imp (pt_not h) fun σ H Q ⟨F, δ, s, q⟩ =>
  ⟨F, δ, s, GoT.bndT q fun c F1 H1 e g1 h1 => h1.at rfl Grow.refl⟩
/-- .. as values -/
def dAnd (fa fb : Dl → Re D) (δ : Dl) : Re D := (fa δ).bnd fun x => (asB x).bnd fun b => if b = true then fb δ else .ok (.bool false)
def dOr (fa fb : Dl → Re D) (δ : Dl) : Re D := (fa δ).bnd fun x => (asB x).bnd fun b => if b = true then .ok (.bool true) else fb δ
def dNot : D → Re D := fun x => (asB x).bnd fun b => .ok (.bool (!b))
theorem ve_one {op : BoolOp} (h : VE X W a fa) : VE X W (.BoolOp op [a] pos) fa := pe_one h
theorem ve_and (h : VE X W a fa) (h' : VE X W (.BoolOp .And (b :: rest) pos) fb) : VE X W (.BoolOp .And (a :: b :: rest) pos) (dAnd fa fb) := PE.imp (pe_and h h') fun σ H Q ⟨F, δ, s, q⟩ =>
  ⟨F, δ, s, Go.bnd pS_mon q fun d v F1 H1 e g1 p h1 => by
    cases d with
    | bool c =>
      refine ⟨c, rp_bl (Rp.b p), ?_⟩
      cases c with
      | true => rw [if_pos rfl]; exact ⟨F1, δ, s.grow g1, h1⟩
      | false => rw [if_neg Bool.false_ne_true]; exact h1.val (.bl false)
    | _ => exact h1.elim⟩
theorem ve_or (h : VE X W a fa) (h' : VE X W (.BoolOp .Or (b :: rest) pos) fb) : VE X W (.BoolOp .Or (a :: b :: rest) pos) (dOr fa fb) := PE.imp (pe_or h h') fun σ H Q ⟨F, δ, s, q⟩ =>
  ⟨F, δ, s, Go.bnd pS_mon q fun d v F1 H1 e g1 p h1 => by
    cases d with
    | bool c =>
      refine ⟨c, rp_bl (Rp.b p), ?_⟩
      cases c with
      | true => rw [if_pos rfl]; exact h1.val (.bl true)
      | false => rw [if_neg Bool.false_ne_true]; exact ⟨F1, δ, s.grow g1, h1⟩
    | _ => exact h1.elim⟩
theorem ve_not (h : VE X W a fa) : VE X W (.UnaryOp .Not a pos) (d1 dNot fa) := PE.imp (pe_not h) fun σ H Q ⟨F, δ, s, q⟩ =>
  ⟨F, δ, s, Go.bnd pS_mon q fun d v F1 H1 e g1 p h1 => by
    cases d with
    | bool c => exact ⟨c, rp_bl (Rp.b p), h1.val (.bl _)⟩
    | _ => exact h1.elim⟩
/-- a if t else b -/
def dIf (f : Dl → Re Bool) (fa fb : Dl → Re D) (δ : Dl) : Re D := (f δ).bnd fun b => if b = true then fa δ else fb δ
theorem vp_if {c : Expr} (hP : PMon P) (hc : VT X W c f) (ha : VP X W P a fa) (hb : VP X W P b fb) : VP X W P (.IfExp c a b pos) (dIf f fa fb) := PE.imp (pe_ifExp hc ha hb) fun σ H Q ⟨F, δ, s, q⟩ =>
  ⟨F, δ, s, GoT.bnd hP q fun c F1 H1 e g1 h1 => by
    cases c with
    | true => rw [if_pos rfl] at h1 ⊢; exact ⟨F1, δ, s.grow g1, h1⟩
    | false => rw [if_neg Bool.false_ne_true] at h1 ⊢; exact ⟨F1, δ, s.grow g1, h1⟩⟩
end
end VS
end
section
namespace VS
open PySem L2

/-! ### keys -/
def keyOf : D → Option Key
  | .int i => some (.inl i)
  | .str x => some (.inr x)
  | _ => none
def keysOf : List D → Option (List Key)
  | [] => some []
  | d :: ds => match keyOf d, keysOf ds with
    | some k, some ks => some (k :: ks)
    | _, _ => none
/-- an int or a text: false; a flat tuple of such (not one of the module's own): true -/
def kindK : D → Option Bool
  | .int _ => some false
  | .str _ => some false
  | .tuple ks => if (keysOf ks).isSome = true ∧ esc ks = false then some true else none
  | _ => none
/-- the key goes with the dict's keys -/
def kfit (kvs : List (D × D)) (k : D) : Bool := match kvs with
  | [] => (kindK k).isSome
  | (j, _) :: _ => (kindK k).isSome && kindK j == kindK k
def lkD (kvs : List (D × D)) (k : D) : Option D := (kvs.find? fun p => PyData.eqv p.1 k).map (·.2)
theorem keyOf_kD {d : D} {k : Key} (h : keyOf d = some k) : d = kD k := by
  cases d <;> simp [keyOf] at h <;> subst h <;> rfl
theorem keyOf_kD' (k : Key) : keyOf (kD k) = some k := by cases k <;> rfl
theorem keysOf_map : ∀ {ds : List D} {ks : List Key}, keysOf ds = some ks → ds = ks.map kD
  | [], ks, h => by simp [keysOf] at h; subst h; rfl
  | d :: ds, ks, h => by
    unfold keysOf at h
    cases e1 : keyOf d with
    | none => rw [e1] at h; simp at h
    | some k =>
      cases e2 : keysOf ds with
      | none => rw [e1, e2] at h; simp at h
      | some ks' =>
        rw [e1, e2] at h
        simp at h
        subst h
        rw [keyOf_kD e1, keysOf_map e2]
        rfl
theorem keysOf_kD : ∀ (ks : List Key), keysOf (ks.map kD) = some ks
  | [] => rfl
  | k :: ks => by
    show keysOf (kD k :: ks.map kD) = _
    unfold keysOf
    rw [keyOf_kD', keysOf_kD ks]
theorem eqv_kD (j k : Key) : PyData.eqv (kD j) (kD k) = decide (j = k) := by
  cases j with
  | inl i =>
    cases k with
    | inl i' =>
      show PyData.eqv (.int i) (.int i') = _
      simp [PyData.eqv]
      rw [Bool.eq_iff_iff]
      simp
    | inr x =>
      show PyData.eqv (.int i) (.str x) = _
      simp [PyData.eqv]
  | inr y =>
    cases k with
    | inl i' =>
      show PyData.eqv (.str y) (.int i') = _
      simp [PyData.eqv]
    | inr x =>
      show PyData.eqv (.str y) (.str x) = _
      simp [PyData.eqv]
      rw [Bool.eq_iff_iff]
      simp
theorem eqvAll_kD : ∀ (js ks : List Key), PyData.eqvAll (js.map kD) (ks.map kD) = decide (js = ks)
  | [], [] => by simp [PyData.eqvAll]
  | [], _ :: _ => by simp [PyData.eqvAll]
  | _ :: _, [] => by simp [PyData.eqvAll]
  | j :: js, k :: ks => by
    simp only [List.map_cons, PyData.eqvAll, eqv_kD, eqvAll_kD js ks]
    rw [Bool.eq_iff_iff]
    simp
theorem eqv_tup (js ks : List Key) : PyData.eqv (.tuple (js.map kD)) (.tuple (ks.map kD)) = decide (js = ks) := by
  simp only [PyData.eqv, eqvAll_kD]

section
variable {K : PySem.W.Frag} {F : Addr → Prop} {H : Hp}
/-- an optional value stands for an optional datum -/
def OptR (K : PySem.W.Frag) (F : Addr → Prop) (H : Hp) : Option V → Option D → Prop
  | some v, some d => Rp K F H v d
  | none, none => True
  | _, _ => False
theorem lk_K : ∀ {m : List (Key × V)} {ds : List (D × D)} (k : Key), RpK K F H (m.map fun p => (kD p.1, p.2)) ds → OptR K F H (valV m k) (lkD ds (kD k))
  | [], ds, k, r => by
    cases r
    trivial
  | (j, v) :: m, ds, k, r => by
    cases r with
    | cons h t =>
      unfold lkD
      rw [List.find?_cons]
      dsimp only
      rw [eqv_kD]
      by_cases e : j = k
      · rw [valV_pos (p := (j, v)) e, decide_eq_true e]
        exact h
      · rw [valV_neg (p := (j, v)) e, decide_eq_false e]
        exact lk_K k t
theorem lk_T : ∀ {m : List (List Key × V)} {ds : List (D × D)} (k : List Key), RpK K F H (m.map fun p => (PyData.tuple (p.1.map kD), p.2)) ds → OptR K F H (valV m k) (lkD ds (.tuple (k.map kD)))
  | [], ds, k, r => by
    cases r
    trivial
  | (j, v) :: m, ds, k, r => by
    cases r with
    | cons h t =>
      unfold lkD
      rw [List.find?_cons]
      dsimp only
      rw [eqv_tup]
      by_cases e : j = k
      · rw [valV_pos (p := (j, v)) e, decide_eq_true e]
        exact h
      · rw [valV_neg (p := (j, v)) e, decide_eq_false e]
        exact lk_T k t
theorem kindK_tup (ks : List D) : kindK (.tuple ks) = if (keysOf ks).isSome = true ∧ esc ks = false then some true else none := rfl
/-- what stands for a key -/
theorem key_K {y : V} {d : D} (r : Rp K F H y d) (h : kindK d = some false) : ∃ k, y = kV k ∧ d = kD k := by
  cases r with
  | int i => exact ⟨.inl i, rfl, rfl⟩
  | str x => exact ⟨.inr x, rfl, rfl⟩
  | tup _ _ => simp [kindK] at h
  | _ => simp [kindK] at h
theorem rpA_kV : ∀ {xs : List V} {ks : List Key}, RpA K F H xs (ks.map kD) → xs = ks.map kV
  | _, [], r => by cases r; rfl
  | _, .inl i :: ks, r => by
    cases r with
    | cons h t =>
      have h' : Rp K F H _ (.int i) := h
      cases h'
      rw [rpA_kV t]
      rfl
  | _, .inr x :: ks, r => by
    cases r with
    | cons h t =>
      have h' : Rp K F H _ (.str x) := h
      cases h'
      rw [rpA_kV t]
      rfl
theorem rpA_ofK : ∀ (ks : List Key), RpA K F H (ks.map kV) (ks.map kD)
  | [] => .nil
  | .inl i :: ks => .cons (.int i) (rpA_ofK ks)
  | .inr x :: ks => .cons (.str x) (rpA_ofK ks)
theorem key_T {y : V} {d : D} (r : Rp K F H y d) (h : kindK d = some true) : ∃ (a : Addr) (ks : List Key), y = .ref a ∧ H a = some (.tup (ks.map kV)) ∧ d = .tuple (ks.map kD) := by
  cases r with
  | @tup a xs ds t ra =>
    rw [kindK_tup] at h
    split at h
    · rename_i c
      obtain ⟨c1, c2⟩ := c
      obtain ⟨ks, e⟩ := Option.isSome_iff_exists.mp c1
      have em := keysOf_map e
      subst em
      rcases t with t | t
      · exact ⟨a, ks, rfl, by rw [t, rpA_kV ra], rfl⟩
      · rw [c2] at t; exact absurd t.1 Bool.false_ne_true
    · cases h
  | _ => simp [kindK] at h
theorem kindK_K (k : Key) : kindK (kD k) = some false := by cases k <;> rfl
/-- an empty dict, asked by a key of the other sort -/
def Mism (H : Hp) (a : Addr) (y : V) : Prop := (Rd H a (.dT []) ∧ ∃ k : Key, y = kV k) ∨ (Rd H a (.dK []) ∧ ∃ (b : Addr) (ks : List Key), y = .ref b ∧ H b = some (.tup (ks.map kV)))
theorem kfit_kind {ds : List (D × D)} {k : D} (hf : kfit ds k = true) : ∃ b, kindK k = some b := by
  unfold kfit at hf
  split at hf
  · exact Option.isSome_iff_exists.mp hf
  · rw [Bool.and_eq_true] at hf
    exact Option.isSome_iff_exists.mp hf.1
theorem kindK_notF (ks : List D) : kindK (.tuple ks) ≠ some false := by
  rw [kindK_tup]
  split <;> simp
/-- the look-up by the hand layer -/
theorem dget_of {a : Addr} {kvs : List (D × V)} {ds : List (D × D)} {y : V} {k : D} (hd : DRd H a kvs) (rk : RpK K F H kvs ds) (ry : Rp K F H y k) (hf : kfit ds k = true) :
    (∃ o, DGet H a y o ∧ OptR K F H o (lkD ds k)) ∨ (ds = [] ∧ Mism H a y) := by
  obtain ⟨b, hb⟩ := kfit_kind hf
  rcases hd with ⟨m, hr, rfl⟩ | ⟨m, hr, rfl⟩
  · cases b with
    | false =>
      obtain ⟨k', rfl, rfl⟩ := key_K ry hb
      exact .inl ⟨_, .inl ⟨m, k', hr, rfl, rfl⟩, lk_K k' rk⟩
    | true =>
      right
      cases m with
      | nil =>
        cases rk
        obtain ⟨c, ks, e, hc, _⟩ := key_T ry hb
        exact ⟨rfl, .inr ⟨hr, c, ks, e, hc⟩⟩
      | cons p m =>
        exfalso
        cases rk with
        | cons h t =>
          unfold kfit at hf
          rw [Bool.and_eq_true, hb, kindK_K] at hf
          exact absurd hf.2 (by decide)
  · cases b with
    | true =>
      obtain ⟨c, ks, rfl, hc, rfl⟩ := key_T ry hb
      exact .inl ⟨_, .inr ⟨m, ks, c, hr, rfl, hc, rfl⟩, lk_T ks rk⟩
    | false =>
      right
      cases m with
      | nil =>
        cases rk
        obtain ⟨k', e, _⟩ := key_K ry hb
        exact ⟨rfl, .inl ⟨hr, k', e⟩⟩
      | cons p m =>
        exfalso
        cases rk with
        | cons h t =>
          unfold kfit at hf
          rw [Bool.and_eq_true, hb] at hf
          exact kindK_notF _ (eq_of_beq hf.2)
end

/-! ### a[i] -/
def ixD : D → D → Re D
  | .list xs, .int i => ofO (atI xs i)
  | .tuple xs, .int i => ofO (atI xs i)
  | .str z, .int i => if z.length ≤ sizeLine then (match atI z.cps.toList i with | some c => .ok (.str ⟨#[c]⟩) | none => .no) else .no
  | .dict kvs, k => if kfit kvs k = true then ofO (lkD kvs k) else .no
  | _, _ => .no
def rIxDict : R2 := fun x y H Q => ∃ a v, x = .ref a ∧ DGet H a y (some v) ∧ Q v H
def rIxAll (K : PySem.W.Frag) : R2 := fun x y H Q => rIx K x y H Q ∨ rIxDict x y H Q
section
variable {X : Cx} {W : XW} {P : PP} {a b : Expr} {pos : Pos} {fa fb : Dl → Re D}
theorem ix_dict (hu : X.A.units + 1 < cLine) : IxR X rIxDict := by
  intro value slice pins s σ H x y v u Q I rx ry ⟨a, w, ex, g, q⟩ hs
  subst ex
  cases rx
  exact PyProof.Rows.tail_any (dict_typeIs I g) PySem.F.slot_dict_getitem.lookup (d_getItem hu I g ry fun w' s' I' r' => ⟨w, H, I', r', q⟩) hs
theorem ix_all (hu : X.A.units + 1 < cLine) : IxR X (rIxAll X.K) := ix_seq.or (ix_dict hu)
theorem at_rp {K : PySem.W.Frag} {F : Addr → Prop} {H : Hp} {vs : List V} {ds : List D} {i : Int} {d : D} (r : RpA K F H vs ds) (h : atI ds i = some d) : ∃ v, atI vs i = some v ∧ Rp K F H v d := by
  unfold atI at h ⊢
  rw [r.length]
  cases e : ixN ds.length i with
  | none => rw [e] at h; cases h
  | some j =>
    rw [e] at h
    obtain ⟨v, ev, rv⟩ := r.get (show ds[j]? = some d from h)
    exact ⟨v, ev, rv⟩
theorem og_ix : OpGG X W (pS X.K) RpB Rp (rIxAll X.K) ixD := by
  intro F H x y dx dy Q dm rx ry h
  unfold ixD at h
  split at h
  · rename_i xs i
    obtain ⟨a, vs, rfl, hr, ra⟩ := rx
    cases e : atI xs i with
    | none => rw [e] at h; exact h.elim
    | some d =>
      rw [e] at h
      obtain ⟨v, ev, rv⟩ := at_rp ra e
      exact .inl (.inl ⟨a, vs, i, v, rfl, rp_int (Rp.b ry), sqL_rd hr, ev, Go.val h rv⟩)
  · rename_i xs i
    obtain ⟨a, vs, rfl, hr, ra⟩ := rx
    cases e : atI xs i with
    | none => rw [e] at h; exact h.elim
    | some d =>
      rw [e] at h
      obtain ⟨v, ev, rv⟩ := at_rp ra e
      exact .inl (.inr (.inl ⟨a, vs, i, v, rfl, rp_int (Rp.b ry), hr, ev, Go.val h rv⟩))
  · rename_i z i
    split at h
    · rename_i hz
      split at h
      · rename_i c ec
        exact .inl (.inr (.inr ⟨z, i, c, rp_str rx, rp_int (Rp.b ry), hz, ec, h.val (.str _)⟩))
      · exact h.elim
    · exact h.elim
  · rename_i kvs
    split at h
    · rename_i hf
      obtain ⟨a, m, rfl, hd, rk⟩ := rx
      rcases dget_of hd rk ry hf with ⟨o, g, ro⟩ | e
      · cases e : lkD kvs dy with
        | none => rw [e] at h; exact h.elim
        | some d =>
          rw [e] at h ro
          cases o with
          | none => exact ro.elim
          | some v => exact .inr ⟨a, v, rfl, g, Go.val h ro⟩
      · rw [e.1] at h
        exact h.elim
    · exact h.elim
  · exact h.elim
theorem ve_ix (hu : X.A.units + 1 < cLine) (ha : VB X W a fa) (hb : VE X W b fb) (hs : PlainIx b) : VE X W (.Subscript a b pos) (d2 ixD fa fb) := PE.imp (pe_ix (ix_all hu) ha hb hs) (t_opG pS_mon kB og_ix)
end

/-! ### lists of arguments -/
def argsF : List (Dl → Re D) → Dl → Re (List D)
  | [], _ => .ok []
  | f :: fs, δ => (f δ).bnd fun d => (argsF fs δ).bnd fun ds => .ok (d :: ds)
inductive RA (R : Rel) (K : PySem.W.Frag) (F : Addr → Prop) (H : Hp) : List V → List D → Prop
  | nil : RA R K F H [] []
  | cons {v vs d ds} : R K F H v d → RA R K F H vs ds → RA R K F H (v :: vs) (d :: ds)
theorem RA.a {K : PySem.W.Frag} {F : Addr → Prop} {H : Hp} : ∀ {vs : List V} {ds : List D}, RA Rp K F H vs ds → RpA K F H vs ds
  | _, _, .nil => .nil
  | _, _, .cons h t => .cons h t.a
/-- the wish behind a list of arguments -/
def GoA (W : XW) (R : Rel) (K : PySem.W.Frag) (F : Addr → Prop) (H : Hp) (r : Re (List D)) (Q : List V → Hp → Prop) : Prop := ReW W F H r fun ds => ∀ vs F' H', Grow F H F' H' → RA R K F' H' vs ds → Q vs H'
def tAs (K : PySem.W.Frag) (W : XW) (R : Rel) (f : Dl → Re (List D)) : TA := fun σ H Q => ∃ F δ, SokE K F H σ δ ∧ GoA W R K F H (f δ) Q
abbrev VA (X : Cx) (W : XW) (R : Rel) (es : List Expr) (f : Dl → Re (List D)) : Prop := PA X es (tAs X.K W R f)
section
variable {X : Cx} {W : XW} {P : PP} {R : Rel} {e : Expr} {es : List Expr} {pos : Pos} {f : Dl → Re D} {fs : List (Dl → Re D)}
theorem va_nil : VA X W R [] (argsF []) := PA.imp pa_nil fun σ H Q ⟨F, δ, s, h⟩ => h [] F H Grow.refl .nil
theorem va_cons (kR : RKeep R) (h : VP X W (pp X.K R) e f) (hr : VA X W R es (argsF fs)) (hs : starEach (e :: es) X.env = (false, eval e X.env) :: starEach es X.env := by rfl) : VA X W R (e :: es) (argsF (f :: fs)) :=
  PA.imp (pa_cons h hr hs) fun σ H Q ⟨F, δ, s, q⟩ => by
    refine ⟨F, δ, s, ?_⟩
    change GoA W R X.K F H ((f δ).bnd fun d => (argsF fs δ).bnd fun ds => .ok (d :: ds)) Q at q
    cases ef : f δ with
    | no => rw [ef] at q; exact q
    | ex x => rw [ef] at q; exact q
    | ok d =>
      rw [ef] at q
      intro v F1 H1 g1 rv
      refine ⟨F1, δ, s.grow g1, ?_⟩
      change GoA W R X.K F H ((argsF fs δ).bnd fun ds => .ok (d :: ds)) Q at q
      cases eg : argsF fs δ with
      | no => rw [eg] at q; exact q
      | ex x => rw [eg] at q; exact fun F2 H2 g2 => q F2 H2 (g1.trans g2)
      | ok ds =>
        rw [eg] at q
        intro vs F2 H2 g2 ra
        exact q (v :: vs) F2 H2 (g1.trans g2) (.cons (kR.k g2 rv) ra)
/-- what follows a list of arguments -/
theorem GoA.bnd {F : Addr → Prop} {H : Hp} {ra : Re (List D)} {k : List D → Re D} {Q : VK} {Q' : List V → Hp → Prop} (hp : PMon P) (h : Go W P F H (ra.bnd k) Q)
    (q : ∀ ds vs F1 H1, ra = .ok ds → Grow F H F1 H1 → RA R X.K F1 H1 vs ds → Go W P F1 H1 (k ds) Q → Q' vs H1) : GoA W R X.K F H ra Q' := by
  cases ra with
  | ok d => exact fun v F1 H1 g p => q d v F1 H1 rfl g p (Go.grow hp h g)
  | ex x => exact h
  | no => exact h

/-! ### displays -/
def tupD (ds : List D) : Re D := if ds.length ≤ sizeLine then .ok (.tuple ds) else .no
def lstD (ds : List D) : Re D := if ds.length ≤ sizeLine then .ok (.list ds) else .no
def dA (fs : Dl → Re (List D)) (g : List D → Re D) (δ : Dl) : Re D := (fs δ).bnd g
theorem ve_tup {x1} {fs : Dl → Re (List D)} (h : VA X W Rp es fs) : VE X W (.Tuple es x1 pos) (dA fs tupD) := PE.imp (pe_tup h) fun σ H Q ⟨F, δ, s, q⟩ =>
  ⟨F, δ, s, GoA.bnd (X := X) pS_mon q fun ds vs F1 H1 e g r h1 => by
    unfold tupD at h1
    split at h1
    · rename_i hz
      exact ⟨by rw [r.a.length]; exact hz, fun p hn => h1.newT hn r.a⟩
    · exact h1.elim⟩
theorem vp_lst {fs : Dl → Re (List D)} (hP : PNew X.K P) (h : VA X W Rp es fs) : VP X W P (.List es pos) (dA fs lstD) := PE.imp (pe_lst h) fun σ H Q ⟨F, δ, s, q⟩ =>
  ⟨F, δ, s, GoA.bnd (X := X) hP.toPMon q fun ds vs F1 H1 e g r h1 => by
    unfold lstD at h1
    split at h1
    · rename_i hz
      exact ⟨by rw [r.a.length]; exact hz, fun p hn => h1.newL hP (g.dom s.dom) hn r.a⟩
    · exact h1.elim⟩
theorem vp_dict (hP : PNew X.K P) : VP X W P (.Dict [] [] pos) (kC (.dict [])) := PE.imp pe_dnewK fun σ H Q ⟨F, δ, s, q⟩ p hn => by
  obtain ⟨F', g, pp⟩ := hP.dK (m := []) s.dom hn .nil
  exact q _ _ _ g pp

/-! ### calls of builtins -/
/-- a builtin by values: what it must give -/
def CallG (X : Cx) (W : XW) (P : PP) (R : Rel) (r : List V → Hp → VK → Prop) (g : List D → Re D) : Prop :=
  ∀ (F : Addr → Prop) (H : Hp) (vs : List V) (ds : List D) (Q : VK), Dom F H → RA R X.K F H vs ds → Go W P F H (g ds) Q → r vs H Q
theorem t_call {r : List V → Hp → VK → Prop} {g : List D → Re D} {fs : Dl → Re (List D)} (hp : PMon P) (hg : CallG X W P R r g) (σ : L2.St) (H : Hp) (Q : VK) (h : tP X.K W P (dA fs g) σ H Q) : tCB r (tAs X.K W R fs) σ H Q := by
  obtain ⟨F, δ, s, q⟩ := h
  exact ⟨F, δ, s, GoA.bnd (X := X) hp q fun ds vs F1 H1 e g1 r1 h1 => hg F1 H1 vs ds Q (g1.dom s.dom) r1 h1⟩
end
end VS
end
section
namespace VS
open PySem L2

/-! ### isinstance -/
inductive Ty where
  | tInt | tBool | tStr | tTuple | tList | tDict
def Ty.nm : Ty → String
  | .tInt => "int" | .tBool => "bool" | .tStr => "str" | .tTuple => "tuple" | .tList => "list" | .tDict => "dict"
def tyN : D → String
  | .none => "NoneType" | .bool _ => "bool" | .int _ => "int" | .str _ => "str" | .tuple _ => "tuple" | .list _ => "list" | .dict _ => "dict"
def isT : Ty → D → Bool
  | .tInt, .int _ => true
  | .tInt, .bool _ => true
  | .tBool, .bool _ => true
  | .tStr, .str _ => true
  | .tTuple, .tuple _ => true
  | .tList, .list _ => true
  | .tDict, .dict _ => true
  | _, _ => false
def isiD (T : Ty) (d : D) : Re D := .ok (.bool (isT T d))
theorem kitB_all : (["NoneType", "bool", "int", "str", "tuple", "list", "dict"].map fun a => ["int", "bool", "str", "tuple", "list", "dict"].map fun b => kitB a b) =
    [[some false, some false, some false, some false, some false, some false], [some true, some true, some false, some false, some false, some false], [some true, some false, some false, some false, some false, some false],
     [some false, some false, some true, some false, some false, some false], [some false, some false, some false, some true, some false, some false], [some false, some false, some false, some false, some true, some false],
     [some false, some false, some false, some false, some false, some true]] := by decide +kernel
theorem kitB_isT (T : Ty) (d : D) : kitB (tyN d) T.nm = some (isT T d) := by
  have h := kitB_all
  simp only [List.map_cons, List.map_nil, List.cons.injEq, and_true] at h
  cases T <;> cases d <;> simp only [tyN, Ty.nm, isT, h]
section
variable {X : Cx} {pins : List (Addr × Obj)} {σ : L2.St} {H : Hp} {s : Shared} {F : Addr → Prop}
theorem kit_rp {v : V} {u : Value} {d : D} (I : Inv X pins σ H s) (r : RelV v u) (rp : RpB X.K F H v d) : ∃ P : Heap → Prop, PySem.W.KitX X.K u (.type (tyN d)) P ∧ P s.heap ∧ u ≠ .builtin "__main__.__loader__#opaque" := by
  cases d with
  | none => rw [rp_non rp] at r; exact kit_of I r (.base .non)
  | bool b => rw [rp_bl rp] at r; exact kit_of I r (.base (.bl b))
  | int i => rw [rp_int rp] at r; exact kit_of I r (.base (.int i))
  | str x => rw [rp_str rp] at r; exact kit_of I r (.base (.str x))
  | list ds =>
    obtain ⟨a, xs, rfl, h, _⟩ := rp
    rcases h with h | ⟨o, h⟩
    · exact kit_of I r (.base (.lst h))
    · exact kit_of I r (.base (.frz h))
  | tuple ds =>
    obtain ⟨a, xs, rfl, h, _⟩ := rp
    rcases h with (h | ⟨o, h⟩) | ⟨o, _, _, hk, hc, _⟩
    · exact kit_of I r (.base (.tup h))
    · exact kit_of I r (.fTuple h)
    · exact kit_of I r (.kTuple hk hc)
  | dict ds =>
    obtain ⟨a, kvs, rfl, h, _⟩ := rp
    rcases h with ⟨m, h | ⟨o, h⟩, _⟩ | ⟨m, h | ⟨o, h⟩, _⟩
    · exact kit_of I r (.base (.dK h))
    · exact kit_of I r (.fDict h)
    · exact kit_of I r (.base (.dT h))
    · cases (show u = Value.ref a from r)
      obtain ⟨_, _, xs, _, o', es, ep, h1, h2, _⟩ := (show ObjOk X.prog X.w H s.heap a (.frz o (.dT m)) from I.hok a _ h).2
      exact ⟨_, PySem.W.kitx_dict, ⟨o', h1, h2.1⟩, fun z => nomatch z⟩
end
section
variable {X : Cx} {W : XW} {P : PP} {e : Expr} {pos p p2 : Pos} {f : Dl → Re D}
/-- isinstance by a value and a type -/
theorem call_isi1 {T : Ty} : CallR X (.builtin "isinstance") (fun vs H Q => ∃ (F : Addr → Prop) (v : V) (d : D), vs = [v, .ty T.nm] ∧ RpB X.K F H v d ∧ Q (.bl (isT T d)) H) := by
  intro pins s σ H xs us Q I r ⟨F, v, d, e, rp, q⟩
  subst e
  obtain ⟨u1, u2, rfl, r1, r2⟩ := vals2 r
  cases (show u2 = Value.type T.nm from r2)
  obtain ⟨P, Z, hp, hx⟩ := kit_rp I r1 rp
  exact PySem.W.kia_one Z I.kIn hp (kit_ty (kitB_isT T d)) hx fun tk => ⟨.bl _, H, I.tok tk, rfl, q⟩
theorem ve_isi (T : Ty) {x : Str} (he : VB X W e f) (hg : Gl X "isinstance") (hm : X.mg "isinstance" = none) (hg2 : Gl X x) (hm2 : X.mg x = none) (hv2 : bootBuiltins x = some (.type T.nm))
    (hn : x ≠ "__name__" := by decide) (hd : (x == ("__debug__" : Str)) = false := by decide)
    (hs : starEach [e, .Name x p2] X.env = (false, eval e X.env) :: starEach [.Name x p2] X.env := by rfl) (hs2 : starEach [.Name x p2] X.env = (false, eval (.Name x p2) X.env) :: starEach [] X.env := by rfl)
    (hpl : (backTo pos (starEach [.Name x p2] X.env)).any (·.1) = false := by rfl) : VE X W (.Call (.Name "isinstance" p) [e, .Name x p2] [] pos) (d1 (isiD T) f) :=
  PE.imp (pe_callB (call_isi1 (T := T)) hg hm (by decide +kernel) (pa_cons he (pa_cons (pe_bltn (v := .ty T.nm) hg2 hm2 hv2 rfl hn hd) pa_nil hs2) hs) (by decide) (by decide) hs hpl) fun σ H Q ⟨F, δ, s, h⟩ =>
    ⟨F, δ, s, Go.bnd pS_mon h fun d v F1 H1 e g p h1 => ⟨F1, v, d, rfl, p, h1.val (.bl _)⟩⟩
end

/-! ### len -/
def lenD : List D → Re D
  | [.list xs] => .ok (.int xs.length)
  | [.tuple xs] => .ok (.int xs.length)
  | [.dict xs] => .ok (.int xs.length)
  | [.str x] => if x.length ≤ sizeLine then .ok (.int x.length) else .no
  | _ => .no
theorem rpK_len {K : PySem.W.Frag} {F : Addr → Prop} {H : Hp} : ∀ {kvs : List (D × V)} {ds : List (D × D)}, RpK K F H kvs ds → kvs.length = ds.length
  | _, _, .nil => rfl
  | _, _, .cons _ t => congrArg (· + 1) (rpK_len t)
def rLenDR : List V → Hp → VK → Prop := fun xs H Q => ∃ (a : Addr) (kvs : List (D × V)), xs = [.ref a] ∧ DRd H a kvs ∧ Q (.int kvs.length) H
def rLenAll (K : PySem.W.Frag) : List V → Hp → VK → Prop := fun xs H Q => (∃ x n, xs = [x] ∧ LenV K x H n ∧ Q (.int n) H) ∨ rLenDR xs H Q
section
variable {X : Cx} {W : XW} {P : PP} {e : Expr} {es : List Expr} {pos p p2 : Pos} {f : Dl → Re D} {fs : Dl → Re (List D)} {R : Rel}
theorem call_lenDR : CallR X (.builtin "len") rLenDR := by
  intro pins s σ H xs us Q I r ⟨a, kvs, e, hd, q⟩
  subst e
  obtain ⟨u, rfl, ru⟩ := vals1 r
  cases ru
  rcases hd with ⟨m, hr, rfl⟩ | ⟨m, hr, rfl⟩
  · refine d_len I hr fun t s' I' => ⟨.int m.length, H, I', ⟨t, rfl⟩, ?_⟩
    rw [List.length_map] at q
    exact q
  · obtain ⟨z, hs, ys, rel, dd⟩ := dt_rd I.hok hr
    have hl : m.length = ys.length := Paired.length rel
    refine call_len_dictH hs dd (by rw [← hl]; rw [sizeLine_eq] at z; omega) ?_
    rw [← hl]
    rw [List.length_map] at q
    exact ⟨.int m.length, H, I.tok _, ⟨_, rfl⟩, q⟩
theorem call_lenAll : CallR X (.builtin "len") (rLenAll X.K) := CallR.or call_len call_lenDR
theorem ra1 {K : PySem.W.Frag} {F : Addr → Prop} {H : Hp} {vs : List V} {d : D} (r : RA R K F H vs [d]) : ∃ v, vs = [v] ∧ R K F H v d := by
  cases r with
  | cons h t => cases t; exact ⟨_, rfl, h⟩
theorem ra2 {K : PySem.W.Frag} {F : Addr → Prop} {H : Hp} {vs : List V} {d e : D} (r : RA R K F H vs [d, e]) : ∃ v w, vs = [v, w] ∧ R K F H v d ∧ R K F H w e := by
  cases r with
  | cons h t =>
    obtain ⟨w, rfl, hw⟩ := ra1 t
    exact ⟨_, w, rfl, h, hw⟩
theorem cg_len : CallG X W (pS X.K) RpB (rLenAll X.K) lenD := by
  intro F H vs ds Q dm r h
  unfold lenD at h
  split at h
  · obtain ⟨v, rfl, a, xs, rfl, hr, ra⟩ := ra1 r
    refine .inl ⟨_, _, rfl, .inl ⟨xs, sqL_rd hr, rfl⟩, ?_⟩
    rw [ra.length]
    exact h.val (.int _)
  · obtain ⟨v, rfl, a, xs, rfl, hr, ra⟩ := ra1 r
    refine .inl ⟨_, _, rfl, .inr ⟨xs, hr, rfl⟩, ?_⟩
    rw [ra.length]
    exact h.val (.int _)
  · obtain ⟨v, rfl, a, xs, rfl, hr, ra⟩ := ra1 r
    refine .inr ⟨a, xs, rfl, hr, ?_⟩
    rw [rpK_len ra]
    exact h.val (.int _)
  · split at h
    · rename_i hz
      obtain ⟨v, rfl, rv⟩ := ra1 r
      rw [rp_str rv]
      exact .inl ⟨_, _, rfl, ⟨hz, rfl⟩, h.val (.int _)⟩
    · exact h.elim
  · exact h.elim
/-- the call of a builtin function, by a rule -/
theorem vp_callB {id : String} {x : Str} {r : List V → Hp → VK → Prop} {g : List D → Re D} (hp : PMon P) (hc : CallR X (.builtin id) r) (hgv : CallG X W P R r g) (hg : Gl X x) (hm : X.mg x = none) (hv : bootBuiltins x = some (.builtin id)) (ha : VA X W R (e :: es) fs)
    (hn : x ≠ "__name__" := by decide) (hdb : (x == ("__debug__" : Str)) = false := by decide) (he : starEach (e :: es) X.env = (false, eval e X.env) :: starEach es X.env := by rfl) (hpl : (backTo pos (starEach es X.env)).any (·.1) = false := by rfl) :
    VP X W P (.Call (.Name x p) (e :: es) [] pos) (dA fs g) := PE.imp (pe_callB hc hg hm hv ha hn hdb he hpl) (t_call hp hgv)
theorem vp_callTy {T : String} {x : Str} {r : List V → Hp → VK → Prop} {g : List D → Re D} (hp : PMon P) (hc : CallR X (.type T) r) (hgv : CallG X W P R r g) (hg : Gl X x) (hm : X.mg x = none) (hv : bootBuiltins x = some (.type T)) (ha : VA X W R (e :: es) fs)
    (hn : x ≠ "__name__" := by decide) (hdb : (x == ("__debug__" : Str)) = false := by decide) (he : starEach (e :: es) X.env = (false, eval e X.env) :: starEach es X.env := by rfl) (hpl : (backTo pos (starEach es X.env)).any (·.1) = false := by rfl) :
    VP X W P (.Call (.Name x p) (e :: es) [] pos) (dA fs g) := PE.imp (pe_callTy hc hg hm hv ha hn hdb he hpl) (t_call hp hgv)
end

/-! ### any, all -/
def blsOf : List D → Option (List Bool)
  | [] => some []
  | .bool b :: r => (blsOf r).map (b :: ·)
  | _ :: _ => none
theorem blsOf_map : ∀ {ds : List D} {bs : List Bool}, blsOf ds = some bs → ds = bs.map PyData.bool
  | [], _, h => by simp [blsOf] at h; subst h; rfl
  | .bool b :: r, bs, h => by
    unfold blsOf at h
    cases e : blsOf r with
    | none => rw [e] at h; simp at h
    | some cs => rw [e] at h; simp at h; subst h; rw [blsOf_map e]; rfl
  | .none :: _, _, h => by simp [blsOf] at h
  | .int _ :: _, _, h => by simp [blsOf] at h
  | .str _ :: _, _, h => by simp [blsOf] at h
  | .list _ :: _, _, h => by simp [blsOf] at h
  | .tuple _ :: _, _, h => by simp [blsOf] at h
  | .dict _ :: _, _, h => by simp [blsOf] at h
@[simp] theorem blsOf_bools : ∀ bs : List Bool, blsOf (bs.map PyData.bool) = some bs
  | [] => rfl
  | b :: bs => by simp [blsOf, blsOf_bools bs]
@[simp] theorem blsOf_fn {α : Type} (f : α → Bool) : ∀ xs : List α, blsOf (xs.map fun x => PyData.bool (f x)) = some (xs.map f)
  | [] => rfl
  | x :: xs => by simp [blsOf, blsOf_fn f xs]
def anyD : List D → Re D
  | [.list xs] => (ofO (blsOf xs)).bnd fun bs => .ok (.bool (bs.any id))
  | _ => .no
def allD : List D → Re D
  | [.list xs] => (ofO (blsOf xs)).bnd fun bs => .ok (.bool (bs.all id))
  | _ => .no
/-! ### ints of a list -/
def intsOf : List D → Option (List Int)
  | [] => some []
  | .int b :: r => (intsOf r).map (b :: ·)
  | _ :: _ => none
theorem intsOf_map : ∀ {ds : List D} {bs : List Int}, intsOf ds = some bs → ds = bs.map PyData.int
  | [], _, h => by simp [intsOf] at h; subst h; rfl
  | .int b :: r, bs, h => by
    unfold intsOf at h
    cases e : intsOf r with
    | none => rw [e] at h; simp at h
    | some cs => rw [e] at h; simp at h; subst h; rw [intsOf_map e]; rfl
  | .none :: _, _, h => by simp [intsOf] at h
  | .bool _ :: _, _, h => by simp [intsOf] at h
  | .str _ :: _, _, h => by simp [intsOf] at h
  | .list _ :: _, _, h => by simp [intsOf] at h
  | .tuple _ :: _, _, h => by simp [intsOf] at h
  | .dict _ :: _, _, h => by simp [intsOf] at h
@[simp] theorem intsOf_ints : ∀ bs : List Int, intsOf (bs.map PyData.int) = some bs
  | [] => rfl
  | b :: bs => by simp [intsOf, intsOf_ints bs]
@[simp] theorem intsOf_fn {α : Type} (f : α → Int) : ∀ xs : List α, intsOf (xs.map fun x => PyData.int (f x)) = some (xs.map f)
  | [] => rfl
  | x :: xs => by simp [intsOf, intsOf_fn f xs]
def sumD : List D → Re D
  | [.list xs] => (ofO (intsOf xs)).bnd fun bs => .ok (.int bs.sum)
  | _ => .no
def absD : List D → Re D
  | [.int i] => .ok (.int (if i < 0 then -i else i))
  | _ => .no
def intD : List D → Re D
  | [.int i] => .ok (.int i)
  | [.bool k] => .ok (.int (if k then 1 else 0))
  | _ => .no
section
variable {X : Cx} {W : XW} {P : PP} {e : Expr} {es : List Expr} {pos p p2 : Pos} {f : Dl → Re D} {fs : Dl → Re (List D)}
theorem cg_any : CallG X W (pS X.K) RpB (rAny X.K) anyD := by
  intro F H vs ds Q dm r h
  unfold anyD at h
  split at h
  · rename_i xs
    obtain ⟨v, rfl, a, ws, rfl, hr, ra⟩ := ra1 r
    cases e : blsOf xs with
    | none => rw [e] at h; exact h.elim
    | some bs =>
      rw [e] at h
      rw [blsOf_map e] at ra
      refine ⟨a, bs, rfl, ?_, Go.val h (.bl _)⟩
      rw [← ra.bools]; exact sqL_rd hr
  · exact h.elim
theorem cg_all : CallG X W (pS X.K) RpB (rAll X.K) allD := by
  intro F H vs ds Q dm r h
  unfold allD at h
  split at h
  · rename_i xs
    obtain ⟨v, rfl, a, ws, rfl, hr, ra⟩ := ra1 r
    cases e : blsOf xs with
    | none => rw [e] at h; exact h.elim
    | some bs =>
      rw [e] at h
      rw [blsOf_map e] at ra
      refine ⟨a, bs, rfl, ?_, Go.val h (.bl _)⟩
      rw [← ra.bools]; exact sqL_rd hr
  · exact h.elim
theorem cg_sum : CallG X W (pS X.K) RpB (rSum X.K) sumD := by
  intro F H vs ds Q dm r h
  unfold sumD at h
  split at h
  · rename_i xs
    obtain ⟨v, rfl, a, ws, rfl, hr, ra⟩ := ra1 r
    cases e : intsOf xs with
    | none => rw [e] at h; exact h.elim
    | some bs =>
      rw [e] at h
      rw [intsOf_map e] at ra
      refine ⟨a, bs, rfl, ?_, Go.val h (.int _)⟩
      rw [← ra.ints]; exact sqL_rd hr
  · exact h.elim
theorem cg_abs : CallG X W (pS X.K) RpB (fun xs H Q => ∃ i, xs = [.int i] ∧ Q (.int (if i < 0 then -i else i)) H) absD := by
  intro F H vs ds Q dm r h
  unfold absD at h
  split at h
  · obtain ⟨v, rfl, rv⟩ := ra1 r
    rw [rp_int rv]
    exact ⟨_, rfl, h.val (.int _)⟩
  · exact h.elim
theorem cg_int : CallG X W (pS X.K) RpB (fun xs H Q => (∃ i, xs = [.int i] ∧ Q (.int i) H) ∨ ∃ k, xs = [.bl k] ∧ Q (.int (if k then 1 else 0)) H) intD := by
  intro F H vs ds Q dm r h
  unfold intD at h
  split at h
  · obtain ⟨v, rfl, rv⟩ := ra1 r
    rw [rp_int rv]
    exact .inl ⟨_, rfl, h.val (.int _)⟩
  · obtain ⟨v, rfl, rv⟩ := ra1 r
    rw [rp_bl rv]
    exact .inr ⟨_, rfl, h.val (.int _)⟩
  · exact h.elim
end

/-! ### max, min of two ints; of a list or tuple of data -/
def max2D : List D → Re D
  | [.int i, .int j] => .ok (.int (if j > i then j else i))
  | _ => .no
def min2D : List D → Re D
  | [.int i, .int j] => .ok (.int (if j < i then j else i))
  | _ => .no
def okMM (ds : List D) : Bool := (ds.all fun x => ds.all fun y => PySem.W.alike x y) && ds.all (fun x => !isN x) && ds.all (dn 60)
def minS (ds : List D) : Re D := match ds with
  | [] => .no
  | x :: xs => if okMM (x :: xs) = true then .ok (PySem.W.minD x xs) else .no
def maxS (ds : List D) : Re D := match ds with
  | [] => .no
  | x :: xs => if okMM (x :: xs) = true then .ok (PySem.W.maxD x xs) else .no
def minL : List D → Re D
  | [.list ds] => minS ds
  | [.tuple ds] => minS ds
  | _ => .no
def maxL : List D → Re D
  | [.list ds] => maxS ds
  | [.tuple ds] => maxS ds
  | _ => .no
theorem okMM_ok {ds : List D} (h : okMM ds = true) : PySem.W.AlikeAll ds ∧ PyData.plainAll ds = true ∧ PyData.depthAll ds ≤ 60 := by
  unfold okMM at h
  simp only [Bool.and_eq_true, List.all_eq_true] at h
  obtain ⟨⟨h1, h2⟩, h3⟩ := h
  refine ⟨⟨h1, fun x hx e => ?_⟩, ?_⟩
  · have := h2 x hx
    subst e
    simp [isN] at this
  · exact dnA_plain ds 60 (by rw [dnA_all]; exact List.all_eq_true.mpr h3)
/-- the datum that a value of the list reads as -/
def rPick (K : PySem.W.Frag) (pick : D → List D → D) : List V → Hp → VK → Prop := fun vs H Q => ∃ (a : Addr) (xs : List V) (d : D) (ds : List D), vs = [.ref a] ∧ (SqL K H a xs ∨ SqT K H a xs) ∧ DpAll K H xs (d :: ds) ∧ okMM (d :: ds) = true ∧
  ∀ (i : Nat) (v : V) (e : D), xs[i]? = some v → (d :: ds)[i]? = some e → e = pick d ds → Q v H
section
variable {X : Cx} {W : XW} {P : PP} {e : Expr} {es : List Expr} {pos p p2 : Pos} {f : Dl → Re D} {fs : Dl → Re (List D)}
theorem dpAll_get {K : PySem.W.Frag} {H : Hp} : ∀ {vs : List V} {ds : List D} {i : Nat} {v : V}, DpAll K H vs ds → vs[i]? = some v → ∃ d, ds[i]? = some d ∧ Dp K H v d
  | _, _, _, _, .nil, e => by simp at e
  | _, _, 0, _, .cons h _, e => by simp at e; subst e; exact ⟨_, rfl, h⟩
  | _, _, i + 1, _, .cons _ t, e => by
    obtain ⟨v, e1, r⟩ := dpAll_get (i := i) t (by simpa using e)
    exact ⟨v, by simpa using e1, r⟩
theorem vals_getV : ∀ {xs : List V} {us : List Value} {i : Nat} {u : Value}, Vals xs us → us[i]? = some u → ∃ x, xs[i]? = some x ∧ RelV x u
  | _, _, _, _, .nil, e => by simp at e
  | _, _, 0, _, .cons r _, e => by simp at e; subst e; exact ⟨_, rfl, r⟩
  | _, _, i + 1, _, .cons _ t, e => by
    obtain ⟨v, e1, r⟩ := vals_getV (i := i) t (by simpa using e)
    exact ⟨v, by simpa using e1, r⟩
theorem plain_get {ds : List D} {i : Nat} {d : D} (h : PyData.plainAll ds = true) (e : ds[i]? = some d) : d.plain = true := by
  induction ds generalizing i with
  | nil => simp at e
  | cons x xs ih =>
    simp only [PyData.plainAll, Bool.and_eq_true] at h
    cases i with
    | zero => simp at e; subst e; exact h.1
    | succ i => exact ih h.2 (by simpa using e)
theorem pick_fin {pins : List (Addr × Obj)} {σ : L2.St} {H : Hp} {s : Shared} {Q : VK} {xs : List V} {its : List Value} {ds : List D} {m : D} (I : Inv X pins σ H s) (rv : Vals xs its) (hd : DpAll X.K H xs ds) (hp : PyData.plainAll ds = true)
    (hq : ∀ (i : Nat) (v : V) (e : D), xs[i]? = some v → ds[i]? = some e → e = m → Q v H) {i : Nat} {v : Value} {h' : Heap} {tk : Nat} {bs : List Addr} (hv : its.toArray[i]? = some v) (hr : Reads h' v m bs) (hk : ∀ b o, s.heap.get? b = some o → h'.get? b = some o) :
    EP X pins σ Q v { s with heap := h', toks := tk } := by
  obtain ⟨x, ex, rx⟩ := vals_getV rv (show its[i]? = some v by simpa using hv)
  obtain ⟨d, ed, dd⟩ := dpAll_get hd ex
  obtain ⟨as, r⟩ := Dp.reads I d x v dd rx
  have e : d = m := PySem.SeqAt.plain_unique d m v _ _ (plain_get hp ed) (PyProof.Rows.Reads.keeps hk r) hr
  exact ⟨x, H, I.kept hk, rx, hq i x d ex ed e⟩
theorem call_minP (hc : X.calm = true) (hu : X.A.units + 64 < cLine) : CallR X (.builtin "min") (rPick X.K PySem.W.minD) := by
  intro pins s σ H vs us Q I r ⟨a, xs, d, ds, e, hq, hd, ok, q⟩
  subst e
  rw [Vals.ref1 r]
  obtain ⟨al, hp, hdep⟩ := okMM_ok ok
  rcases hq with hq | hq
  · obtain ⟨its, rv, pl, _⟩ := I.list hq
    obtain ⟨as, ra⟩ := Dp.readsAll I (d :: ds) xs its hd rv
    exact PySem.W.min_list_data (I.ok.hd hc) pl.isList (by simpa using ra) al (by omega) fun i v h' tk bs hv hr hk => pick_fin I rv hd hp q hv hr hk
  · obtain ⟨its, rv, pl, _⟩ := I.tuple hq
    obtain ⟨as, ra⟩ := Dp.readsAll I (d :: ds) xs its hd rv
    exact PySem.W.min_tuple_data (I.ok.hd hc) pl (by simpa using ra) al (by omega) fun i v h' tk bs hv hr hk => pick_fin I rv hd hp q hv hr hk
theorem call_maxP (hc : X.calm = true) (hu : X.A.units + 64 < cLine) : CallR X (.builtin "max") (rPick X.K PySem.W.maxD) := by
  intro pins s σ H vs us Q I r ⟨a, xs, d, ds, e, hq, hd, ok, q⟩
  subst e
  rw [Vals.ref1 r]
  obtain ⟨al, hp, hdep⟩ := okMM_ok ok
  rcases hq with hq | hq
  · obtain ⟨its, rv, pl, _⟩ := I.list hq
    obtain ⟨as, ra⟩ := Dp.readsAll I (d :: ds) xs its hd rv
    exact PySem.W.max_list_data (I.ok.hd hc) pl.isList (by simpa using ra) al (by omega) fun i v h' tk bs hv hr hk => pick_fin I rv hd hp q hv hr hk
  · obtain ⟨its, rv, pl, _⟩ := I.tuple hq
    obtain ⟨as, ra⟩ := Dp.readsAll I (d :: ds) xs its hd rv
    exact PySem.W.max_tuple_data (I.ok.hd hc) pl (by simpa using ra) al (by omega) fun i v h' tk bs hv hr hk => pick_fin I rv hd hp q hv hr hk
theorem cg_pick {pick : D → List D → D} {g : List D → Re D} (hg : ∀ ds d, g ds = .ok d → ∃ x xs, (ds = [.list (x :: xs)] ∨ ds = [.tuple (x :: xs)]) ∧ okMM (x :: xs) = true ∧ d = pick x xs) (hx : ∀ ds z, g ds ≠ .ex z) : CallG X W (pS X.K) RpB (rPick X.K pick) g := by
  intro F H vs ds Q dm r h
  cases e : g ds with
  | ex z => exact (hx _ _ e).elim
  | no => rw [e] at h; exact h.elim
  | ok d =>
    rw [e] at h
    obtain ⟨x, xs, e2, ok, rfl⟩ := hg _ _ e
    obtain ⟨_, hp, _⟩ := okMM_ok ok
    rcases e2 with rfl | rfl
    · obtain ⟨v, rfl, a, ws, rfl, hr, ra⟩ := ra1 r
      refine ⟨a, ws, x, xs, rfl, .inl (sqL_rd hr), ra.dp hp, ok, fun i v e h1 h2 h3 => ?_⟩
      obtain ⟨w, e1, rw'⟩ := ra.get h2
      rw [h1] at e1; cases e1
      exact h.val (h3 ▸ rw')
    · obtain ⟨v, rfl, a, ws, rfl, hr, ra⟩ := ra1 r
      refine ⟨a, ws, x, xs, rfl, .inr hr, ra.dp hp, ok, fun i v e h1 h2 h3 => ?_⟩
      obtain ⟨w, e1, rw'⟩ := ra.get h2
      rw [h1] at e1; cases e1
      exact h.val (h3 ▸ rw')
theorem cg_minL : CallG X W (pS X.K) RpB (rPick X.K PySem.W.minD) minL := cg_pick (fun ds d e => by
  unfold minL minS at e
  split at e
  · split at e
    · cases e
    · split at e
      · rename_i ok; cases e; exact ⟨_, _, .inl rfl, ok, rfl⟩
      · cases e
  · split at e
    · cases e
    · split at e
      · rename_i ok; cases e; exact ⟨_, _, .inr rfl, ok, rfl⟩
      · cases e
  · cases e) fun ds z e => by
  unfold minL minS at e
  split at e
  · split at e
    · cases e
    · split at e <;> cases e
  · split at e
    · cases e
    · split at e <;> cases e
  · cases e
theorem cg_maxL : CallG X W (pS X.K) RpB (rPick X.K PySem.W.maxD) maxL := cg_pick (fun ds d e => by
  unfold maxL maxS at e
  split at e
  · split at e
    · cases e
    · split at e
      · rename_i ok; cases e; exact ⟨_, _, .inl rfl, ok, rfl⟩
      · cases e
  · split at e
    · cases e
    · split at e
      · rename_i ok; cases e; exact ⟨_, _, .inr rfl, ok, rfl⟩
      · cases e
  · cases e) fun ds z e => by
  unfold maxL maxS at e
  split at e
  · split at e
    · cases e
    · split at e <;> cases e
  · split at e
    · cases e
    · split at e <;> cases e
  · cases e
theorem cg_max2 : CallG X W (pS X.K) RpB (fun xs H Q => ∃ i j, xs = [.int i, .int j] ∧ Q (.int (if j > i then j else i)) H) max2D := by
  intro F H vs ds Q dm r h
  unfold max2D at h
  split at h
  · obtain ⟨v, w, rfl, r1, r2⟩ := ra2 r
    rw [rp_int r1, rp_int r2]
    exact ⟨_, _, rfl, h.val (.int _)⟩
  · exact h.elim
theorem cg_min2 : CallG X W (pS X.K) RpB (fun xs H Q => ∃ i j, xs = [.int i, .int j] ∧ Q (.int (if j < i then j else i)) H) min2D := by
  intro F H vs ds Q dm r h
  unfold min2D at h
  split at h
  · obtain ⟨v, w, rfl, r1, r2⟩ := ra2 r
    rw [rp_int r1, rp_int r2]
    exact ⟨_, _, rfl, h.val (.int _)⟩
  · exact h.elim
end
end VS
end
section
namespace VS
open PySem L2

/-! ### an empty dict is of both sorts -/
section
variable {X : Cx} {pins : List (Addr × Obj)} {σ : L2.St} {H : Hp} {s : Shared} {a : Addr} {y d : V} {u r : Value} {A : Around} {E : Value → Shared → Prop}
theorem emptyK (I : Inv X pins σ H s) (h : Rd H a (.dT [])) : (a == sysModules) = false ∧ s.heap.DictOf (mixKind X.prog X.w) a [] := by
  obtain ⟨_, hd, xs, rel, o, es, ep, h1, h2, h3, h4, _⟩ := dt_rd I.hok h
  cases rel
  have e : es = #[] := by
    have : es.toList = [] := h4
    exact Array.toList_inj.mp this
  subst e
  exact ⟨hd, o, #[], ep, h1, h2, h3, (fun x hx => absurd hx (by simp)), .nil, List.nodup_nil⟩
theorem emptyT (I : Inv X pins σ H s) (h : Rd H a (.dK [])) : (a == sysModules) = false ∧ s.heap.DictOfH (tupleKind (mixKind X.prog X.w)) a [] := by
  obtain ⟨_, hd, vs, rel, o, es, ep, h1, h2, h3, _, h4, _⟩ := dk_rd I.hok h
  cases rel
  have e : es = #[] := by
    have : es.toList = [] := by
      generalize es.toList = l at h4
      cases h4
      rfl
    exact Array.toList_inj.mp this
  subst e
  exact ⟨hd, o, #[], ep, h1, h2, h3, rfl, (fun x hx => absurd hx (by simp)), List.nodup_nil⟩
theorem mis_in {Q : Value → Shared → Prop} (hu : A.units + 1 < cLine) (I : Inv X pins σ H s) (g : Mism H a y) (ry : RelV y u) (h : ∀ s', Inv X pins σ H s' → Q (.bool false) s') :
    wpAny (model X.prog X.w) A (compareOp .In u (.ref a)) Q E s := by
  rcases g with ⟨e, k, ey⟩ | ⟨e, b, ks, ey, eb⟩
  · subst ey
    obtain ⟨hd, dd⟩ := emptyK I e
    exact wpAny_in_of (kV_is ry) hd dd.mapOf (h _ (I.tok _))
  · subst ey
    cases (show u = Value.ref b from ry)
    obtain ⟨hd, dd⟩ := emptyT I e
    exact wpAny_in_heap (tupleKind_room_in1 hu) (key_of I.hok eb) hd dd (h _ (I.tok _))
theorem mis_notIn {Q : Value → Shared → Prop} (hu : A.units + 1 < cLine) (I : Inv X pins σ H s) (g : Mism H a y) (ry : RelV y u) (h : ∀ s', Inv X pins σ H s' → Q (.bool true) s') :
    wpAny (model X.prog X.w) A (compareOp .NotIn u (.ref a)) Q E s := by
  rcases g with ⟨e, k, ey⟩ | ⟨e, b, ks, ey, eb⟩
  · subst ey
    obtain ⟨hd, dd⟩ := emptyK I e
    exact wpAny_notIn_of (kV_is ry) hd dd.mapOf (h _ (I.tok _))
  · subst ey
    cases (show u = Value.ref b from ry)
    obtain ⟨hd, dd⟩ := emptyT I e
    exact PyProof.Rows.wpAny_notIn_heap (tupleKind_room_in1 hu) (key_of I.hok eb) hd dd (h _ (I.tok _))
theorem mis_get1 {Q : Value → Shared → Prop} (hu : A.units + 1 < cLine) (I : Inv X pins σ H s) (g : Mism H a y) (ry : RelV y u) (h : ∀ s', Inv X pins σ H s' → Q .none s') :
    wpAny (model X.prog X.w) A (call (.builtin "dict.get") [.ref a, u]) Q E s := by
  rcases g with ⟨e, k, ey⟩ | ⟨e, b, ks, ey, eb⟩
  · subst ey
    obtain ⟨hd, dd⟩ := emptyK I e
    exact call_meetsIn PySem.F.slot_dict_get dd.typeIs PySem.F.entry_dict_get (PySem.F.args_dict_get_2 _ _) (meets_dict_get (mixKind X.prog X.w) a (kV_is ry) hd) ⟨_, dd.mapOf, h _ (I.tok _)⟩
  · subst ey
    cases (show u = Value.ref b from ry)
    obtain ⟨hd, dd⟩ := emptyT I e
    exact call_meetsIn PySem.F.slot_dict_get dd.typeIs PySem.F.entry_dict_get (PySem.F.args_dict_get_2 _ _) (meetsH_dict_get (tupleKind (mixKind X.prog X.w)) a b hd) ⟨tupleKind_room_in1 hu, ks, [], key_of I.hok eb, dd, h _ (I.tok _)⟩
theorem mis_get2 {Q : Value → Shared → Prop} (hu : A.units + 1 < cLine) (I : Inv X pins σ H s) (g : Mism H a y) (ry : RelV y u) (h : ∀ s', Inv X pins σ H s' → Q r s') :
    wpAny (model X.prog X.w) A (call (.builtin "dict.get") [.ref a, u, r]) Q E s := by
  rcases g with ⟨e, k, ey⟩ | ⟨e, b, ks, ey, eb⟩
  · subst ey
    obtain ⟨hd, dd⟩ := emptyK I e
    exact call_meetsIn PySem.F.slot_dict_get dd.typeIs PySem.F.entry_dict_get (PySem.F.args_dict_get_3 _ _ _) (meets_dict_get_default (mixKind X.prog X.w) a (kV_is ry) hd r) ⟨_, dd.mapOf, h _ (I.tok _)⟩
  · subst ey
    cases (show u = Value.ref b from ry)
    obtain ⟨hd, dd⟩ := emptyT I e
    exact call_meetsIn PySem.F.slot_dict_get dd.typeIs PySem.F.entry_dict_get (PySem.F.args_dict_get_3 _ _ _) (meetsH_dict_get_default (tupleKind (mixKind X.prog X.w)) a b hd r) ⟨tupleKind_room_in1 hu, ks, [], key_of I.hok eb, dd, h _ (I.tok _)⟩
/-- d[y] = v -/
theorem mis_set {v : V} {Q : Unit → Shared → Prop} (hu : A.units + 1 < cLine) (I : Inv X pins σ H s) (rv : RelV v r) (ry : RelV y u)
    (g : (∃ k : Key, H a = some (.dT []) ∧ y = kV k ∧ ∀ s', Inv X pins σ (upd H a (.dK [(k, v)])) s' → Q () s') ∨
      (∃ (b : Addr) (ks : List Key), H a = some (.dK []) ∧ y = .ref b ∧ H b = some (.tup (ks.map kV)) ∧ ∀ s', Inv X pins σ (upd H a (.dT [(ks, v)])) s' → Q () s')) :
    wpAny (model X.prog X.w) A (setItem (.ref a) u r) Q E s := by
  have l1 : 1 ≤ sizeLine := by rw [sizeLine_eq]; decide
  rcases g with ⟨k, e, ey, h⟩ | ⟨b, ks, e, ey, eb, h⟩
  · subst ey
    obtain ⟨hd, dd⟩ := emptyK I (.inl e)
    refine wpAny_setItem_pairs (hsz := Nat.zero_le _) (kV_is ry) dd fun h' dd' hs => h _ ?_
    have he : ∃ q, h'.get? a = some q := let ⟨q, _, _, hq, _⟩ := dd'; ⟨q, hq⟩
    exact d_write I (by rw [e]; exact True.intro) hs he (dk_new (kvs := [(k, v)]) l1 hd (KV.put .nil k rv) dd')
  · subst ey
    cases (show u = Value.ref b from ry)
    obtain ⟨hd, dd⟩ := emptyT I (.inl e)
    refine wpAny_setItem_heap (hsz := Nat.zero_le _) (tupleKind_room_in1 hu) (key_of I.hok eb) dd fun h' dd' hs => h _ ?_
    obtain ⟨q, es, ep, hq, h2, h3, h4, _, h5⟩ := dd'
    have r0 : KT H [] [] := .nil
    refine d_write I (by rw [e]; exact True.intro) hs ⟨q, hq⟩ (show ObjOk X.prog X.w _ h' a (.dT [(ks, v)]) from ⟨l1, hd, _, (r0.put ks eb rv).keeps fun c ys ec => ?_, q, es, ep, hq, h2, h3, h4, h5⟩)
    rw [upd_ne (ne_of ec e (fun z => nomatch z))]
    exact ec
end

/-! ### x in c -/
def inD : D → D → Re D
  | x, .list ys => if dn 60 x = true ∧ dnA 60 ys = true then .ok (.bool (ys.any fun y => PyData.eqv y x)) else .no
  | x, .tuple ys => if dn 60 x = true ∧ dnA 60 ys = true then .ok (.bool (ys.any fun y => PyData.eqv y x)) else .no
  | .str z, .str t => (match z.cps.toList with | [c] => .ok (.bool (decide (c ∈ t.cps.toList))) | _ => .no)
  | k, .dict kvs => if kfit kvs k = true then .ok (.bool (lkD kvs k).isSome) else .no
  | _, _ => .no
def neg1 : D → D
  | .bool b => .bool (!b)
  | d => d
def notInD (x c : D) : Re D := (inD x c).bnd fun d => .ok (neg1 d)
/-- by values: n: not in -/
def rInAll (K : PySem.W.Frag) (n : Bool) : R2 := fun x y H Q => ∃ b : Bool, Q (.bl (b ^^ n)) H ∧
  ((∃ d ds, Dp K H x d ∧ (Dp K H y (.list ds) ∨ Dp K H y (.tuple ds)) ∧ d.plain = true ∧ PyData.plainAll ds = true ∧ d.depth ≤ 60 ∧ b = ds.any fun e => PyData.eqv e d) ∨
   (∃ (c : Nat) (t : Str), x = .str ⟨#[c]⟩ ∧ y = .str t ∧ b = decide (c ∈ t.cps.toList)) ∨
   (∃ a, y = .ref a ∧ ((∃ o, DGet H a x o ∧ b = o.isSome) ∨ (Mism H a x ∧ b = false))))
section
variable {X : Cx} {W : XW} {P : PP} {a b : Expr} {pos : Pos} {fa fb : Dl → Re D}
theorem op_inAll (hu : X.A.units + 64 < cLine) : OpR X (compareOp .In) (rInAll X.K false) := by
  intro pins s σ H x y v u Q I rx ry ⟨b, q, c⟩
  rw [Bool.xor_false] at q
  rcases c with ⟨d, ds, hd, hc, p1, p2, dp, e⟩ | ⟨c, t, e1, e2, e⟩ | ⟨a, ea, c⟩
  · obtain ⟨as, r1⟩ := Dp.reads I d x v hd rx
    have hm : X.A.units + 1 + min (PyData.depthAll ds) d.depth < cLine := by have := Nat.min_le_right (PyData.depthAll ds) d.depth; omega
    have fin : EP X pins σ Q (.bool (ds.any fun y => PyData.eqv y d)) s := ⟨.bl _, H, I, rfl, e ▸ q⟩
    rcases hc with hc | hc
    · obtain ⟨bs, r2⟩ := Dp.reads I _ y u hc ry
      exact PySem.SeqAt.in_list_data r2 r1 p2 p1 hm fin
    · obtain ⟨bs, r2⟩ := Dp.reads I _ y u hc ry
      exact PySem.SeqAt.in_tuple_data r2 r1 p2 p1 hm fin
  · exact op_in_sign pins s σ H x y v u Q I rx ry ⟨c, t, e1, e2, e ▸ q⟩
  · subst ea
    cases (show u = Value.ref a from ry)
    rcases c with ⟨o, g, e⟩ | ⟨g, e⟩
    · subst e
      exact d_in (by omega) I g rx fun s' I' => ⟨.bl _, H, I', rfl, q⟩
    · subst e
      exact mis_in (by omega) I g rx fun s' I' => ⟨.bl _, H, I', rfl, q⟩
theorem op_notInAll (hu : X.A.units + 64 < cLine) : OpR X (compareOp .NotIn) (rInAll X.K true) := by
  intro pins s σ H x y v u Q I rx ry ⟨b, q, c⟩
  rw [Bool.xor_true] at q
  rcases c with ⟨d, ds, hd, hc, p1, p2, dp, e⟩ | ⟨c, t, e1, e2, e⟩ | ⟨a, ea, c⟩
  · obtain ⟨as, r1⟩ := Dp.reads I d x v hd rx
    have hm : X.A.units + 1 + min (PyData.depthAll ds) d.depth < cLine := by have := Nat.min_le_right (PyData.depthAll ds) d.depth; omega
    have fin : EP X pins σ Q (.bool (!ds.any fun y => PyData.eqv y d)) s := ⟨.bl _, H, I, rfl, e ▸ q⟩
    rcases hc with hc | hc
    · obtain ⟨bs, r2⟩ := Dp.reads I _ y u hc ry
      exact PySem.SeqAt.notIn_list_data r2 r1 p2 p1 hm fin
    · obtain ⟨bs, r2⟩ := Dp.reads I _ y u hc ry
      exact PySem.SeqAt.notIn_tuple_data r2 r1 p2 p1 hm fin
  · exact op_notIn_sign pins s σ H x y v u Q I rx ry ⟨c, t, e1, e2, e ▸ q⟩
  · subst ea
    cases (show u = Value.ref a from ry)
    rcases c with ⟨o, g, e⟩ | ⟨g, e⟩
    · subst e
      exact d_notIn (by omega) I g rx fun s' I' => ⟨.bl _, H, I', rfl, q⟩
    · subst e
      exact mis_notIn (by omega) I g rx fun s' I' => ⟨.bl _, H, I', rfl, q⟩
theorem optR_some {K : PySem.W.Frag} {F : Addr → Prop} {H : Hp} {o : Option V} {p : Option D} (h : OptR K F H o p) : o.isSome = p.isSome := by
  cases o <;> cases p <;> first | rfl | exact h.elim
/-- what «in» answers, and why -/
theorem in_why {K : PySem.W.Frag} {F : Addr → Prop} {H : Hp} {x y : V} {dx dy d : D} (rx : Rp K F H x dx) (ry : RpB K F H y dy) (h : inD dx dy = .ok d) : ∃ b, d = .bool b ∧
  ((∃ d ds, Dp K H x d ∧ (Dp K H y (.list ds) ∨ Dp K H y (.tuple ds)) ∧ d.plain = true ∧ PyData.plainAll ds = true ∧ d.depth ≤ 60 ∧ b = ds.any fun e => PyData.eqv e d) ∨
   (∃ (c : Nat) (t : Str), x = .str ⟨#[c]⟩ ∧ y = .str t ∧ b = decide (c ∈ t.cps.toList)) ∨
   (∃ a, y = .ref a ∧ ((∃ o, DGet H a x o ∧ b = o.isSome) ∨ (Mism H a x ∧ b = false)))) := by
  unfold inD at h
  split at h
  · rename_i ys
    split at h
    · rename_i c
      cases h
      have q1 := dn_plain _ _ c.1
      have q2 := dnA_plain _ _ c.2
      exact ⟨_, rfl, .inl ⟨dx, ys, rx.dp q1.1, .inl (ry.dp (by simpa [PyData.plain] using q2.1)), q1.1, q2.1, q1.2, rfl⟩⟩
    · cases h
  · rename_i ys
    split at h
    · rename_i c
      cases h
      have q1 := dn_plain _ _ c.1
      have q2 := dnA_plain _ _ c.2
      exact ⟨_, rfl, .inl ⟨dx, ys, rx.dp q1.1, .inr (ry.dp (by simpa [PyData.plain] using q2.1)), q1.1, q2.1, q1.2, rfl⟩⟩
    · cases h
  · rename_i z t
    split at h
    · rename_i c ec
      cases h
      refine ⟨_, rfl, .inr (.inl ⟨c, t, ?_, rp_str ry, rfl⟩)⟩
      rw [rp_str (Rp.b rx)]
      have : z = ⟨#[c]⟩ := by
        cases z with
        | mk cps =>
          have e : cps.toList = [c] := ec
          have : cps = #[c] := by rw [← Array.toList_inj, e]
          rw [this]
      rw [this]
    · cases h
  · split at h
    · rename_i hf
      cases h
      obtain ⟨a, m, rfl, hd, rk⟩ := ry
      rcases dget_of hd rk rx hf with ⟨o, g, ro⟩ | ⟨e, g⟩
      · exact ⟨_, rfl, .inr (.inr ⟨a, rfl, .inl ⟨o, g, (optR_some ro).symm⟩⟩)⟩
      · subst e
        exact ⟨_, rfl, .inr (.inr ⟨a, rfl, .inr ⟨g, rfl⟩⟩)⟩
    · cases h
  · cases h
theorem inD_ex {x y : D} {z : Xn} : inD x y ≠ .ex z := by
  intro h
  unfold inD at h
  split at h
  · split at h <;> cases h
  · split at h <;> cases h
  · split at h <;> cases h
  · split at h <;> cases h
  · cases h
theorem og_in : OpGG X W (pS X.K) Rp RpB (rInAll X.K false) inD := by
  intro F H x y dx dy Q dm rx ry h
  cases e : inD dx dy with
  | no => rw [e] at h; exact h.elim
  | ex z => exact (inD_ex e).elim
  | ok d =>
    rw [e] at h
    obtain ⟨b, rfl, c⟩ := in_why rx ry e
    exact ⟨b, by rw [Bool.xor_false]; exact h.val (.bl _), c⟩
theorem og_notIn : OpGG X W (pS X.K) Rp RpB (rInAll X.K true) notInD := by
  intro F H x y dx dy Q dm rx ry h
  unfold notInD at h
  cases e : inD dx dy with
  | no => rw [e] at h; exact h.elim
  | ex z => exact (inD_ex e).elim
  | ok d =>
    rw [e] at h
    obtain ⟨b, rfl, c⟩ := in_why rx ry e
    exact ⟨b, by rw [Bool.xor_true]; exact Go.val h (.bl _), c⟩
theorem ve_in (hu : X.A.units + 64 < cLine) (ha : VE X W a fa) (hb : VB X W b fb) (hm : behindInMarks .In b = false) : VE X W (.Compare a [.In] [b] pos) (d2 inD fa fb) := PE.imp (pe_cmpR (op_inAll hu) ha hb hm) (t_opG pS_mon kS og_in)
theorem ve_notIn (hu : X.A.units + 64 < cLine) (ha : VE X W a fa) (hb : VB X W b fb) (hm : behindInMarks .NotIn b = false) : VE X W (.Compare a [.NotIn] [b] pos) (d2 notInD fa fb) := PE.imp (pe_cmpR (op_notInAll hu) ha hb hm) (t_opG pS_mon kS og_notIn)
theorem vt_in (hu : X.A.units + 64 < cLine) (ha : VE X W a fa) (hb : VB X W b fb) (hm : behindInMarks .In b = false) : VT X W (.Compare a [.In] [b] pos) (tB1 (d2 inD fa fb)) := PT.imp (pt_cmpR (op_inAll hu) ha hb hm) fun σ H Q ⟨F, δ, s, h⟩ => by
  refine t_opG pS_mon kS og_in σ H _ ⟨F, δ, s, ?_⟩
  refine Go.bndT h fun d v F1 H1 e g p h1 => ?_
  obtain ⟨b, rfl, q⟩ := asB_ok (P := pS X.K) h1
  exact ⟨b, rp_bl (Rp.b p), q⟩
theorem vt_notIn (hu : X.A.units + 64 < cLine) (ha : VE X W a fa) (hb : VB X W b fb) (hm : behindInMarks .NotIn b = false) : VT X W (.Compare a [.NotIn] [b] pos) (tB1 (d2 notInD fa fb)) := PT.imp (pt_cmpR (op_notInAll hu) ha hb hm) fun σ H Q ⟨F, δ, s, h⟩ => by
  refine t_opG pS_mon kS og_notIn σ H _ ⟨F, δ, s, ?_⟩
  refine Go.bndT h fun d v F1 H1 e g p h1 => ?_
  obtain ⟨b, rfl, q⟩ := asB_ok (P := pS X.K) h1
  exact ⟨b, rp_bl (Rp.b p), q⟩
end

/-! ### d.get(k), d.get(k, x) -/
def dGet1 (fa fb : Dl → Re D) (δ : Dl) : Re D := (fa δ).bnd fun x => match x with
  | .dict kvs => (fb δ).bnd fun k => if kfit kvs k = true then .ok ((lkD kvs k).getD .none) else .no
  | _ => .no
def dGet2 (fa fb fc : Dl → Re D) (δ : Dl) : Re D := (fa δ).bnd fun x => match x with
  | .dict kvs => (fb δ).bnd fun k => (fc δ).bnd fun z => if kfit kvs k = true then .ok ((lkD kvs k).getD z) else .no
  | _ => .no
theorem isD_of {H : Hp} {a : Addr} {kvs : List (D × V)} (h : DRd H a kvs) : IsD H a := by
  rcases h with ⟨m, h, _⟩ | ⟨m, h, _⟩
  · exact .inl ⟨m, h⟩
  · exact .inr ⟨m, h⟩
/-- o.get(e), o.get(e, f): readings -/
def tGet1 (td ty : TE) : TE := fun σ H Q => td σ H fun x H1 => ∃ a, x = .ref a ∧ IsD H1 a ∧ ty σ H1 fun y H2 => (∃ o, DGet H2 a y o ∧ Q (o.getD .non) H2) ∨ (Mism H2 a y ∧ Q .non H2)
def tGet2 (td ty tx : TE) : TE := fun σ H Q => td σ H fun x H1 => ∃ a, x = .ref a ∧ IsD H1 a ∧ ty σ H1 fun y H2 => tx σ H2 fun z H3 => (∃ o, DGet H3 a y o ∧ Q (o.getD z) H3) ∨ (Mism H3 a y ∧ Q z H3)
section
variable {X : Cx} {W : XW} {P : PP} {o e f : Expr} {apos cpos : Pos} {td ty tx : TE} {fa fb fc : Dl → Re D}
theorem pe_get1 (hu : X.A.units + 1 < cLine) (ho : PE X o td) (he : PE X e ty) (m : M1 X o "get" apos e cpos) : PE X (.Call (.Attribute o "get" apos) [e] [] cpos) (tGet1 td ty) := by
  refine ⟨fun pins s σ H Q I h => ?_⟩
  refine PySem.wpAny_Call_method m.base m.few m.line PySem.F.plainAttrs_dict PySem.F.slot_dict_get PySem.F.type_dict_get (thn (ho.run pins s σ H _ I h) fun u s1 ⟨x, H1, I1, rx, a, ex, d, q1⟩ => ?_)
  subst ex
  cases (show u = Value.ref a from rx)
  have t := isD_at I1 d
  refine ⟨t.1, t.2.1, ?_⟩
  rw [m.trees]
  refine Calls.callWith_builtin rfl (Calls.evalArgs_plain (Calls.spliced_cons (thn (he.run pins s1 σ H1 _ I1 q1) fun iv s2 ⟨y, H2, I2, ry, q2⟩ => Calls.spliced_nil ?_)))
  rcases q2 with ⟨ov, g, q2⟩ | ⟨g, q2⟩
  · exact d_get1 hu I2 g ry fun w' s3 I3 rw' => ⟨_, H2, I3, rw', q2⟩
  · exact mis_get1 hu I2 g ry fun s3 I3 => ⟨.non, H2, I3, rfl, q2⟩
theorem pe_get2 (hu : X.A.units + 1 < cLine) (ho : PE X o td) (he : PE X e ty) (hf : PE X f tx) (m : M2 X o "get" apos e f cpos) : PE X (.Call (.Attribute o "get" apos) [e, f] [] cpos) (tGet2 td ty tx) := by
  refine ⟨fun pins s σ H Q I h => ?_⟩
  refine PySem.wpAny_Call_method m.base m.few m.line PySem.F.plainAttrs_dict PySem.F.slot_dict_get PySem.F.type_dict_get (thn (ho.run pins s σ H _ I h) fun u s1 ⟨x, H1, I1, rx, a, ex, d, q1⟩ => ?_)
  subst ex
  cases (show u = Value.ref a from rx)
  have t := isD_at I1 d
  refine ⟨t.1, t.2.1, ?_⟩
  rw [m.trees]
  refine Calls.callWith_builtin rfl (Calls.evalArgs_plain (Calls.spliced_cons (thn (he.run pins s1 σ H1 _ I1 q1) fun iv s2 ⟨y, H2, I2, ry, q2⟩ =>
    Calls.spliced_cons (thn (hf.run pins s2 σ H2 _ I2 q2) fun fv s3 ⟨z, H3, I3, rz, q3⟩ => Calls.spliced_nil ?_))))
  rcases q3 with ⟨ov, g, q3⟩ | ⟨g, q3⟩
  · exact d_get2 hu I3 g ry rz fun w' s4 I4 rw' => ⟨_, H3, I4, rw', q3⟩
  · exact mis_get2 hu I3 g ry fun s4 I4 => ⟨z, H3, I4, rz, q3⟩
theorem optR_getD {K : PySem.W.Frag} {F : Addr → Prop} {H : Hp} {v : V} {d : D} {o : Option V} {p : Option D} (h : OptR K F H o p) (r : Rp K F H v d) : Rp K F H (o.getD v) (p.getD d) := by
  cases o <;> cases p <;> first | exact r | exact h | exact h.elim
theorem ve_get1 (hu : X.A.units + 1 < cLine) (ho : VB X W o fa) (he : VE X W e fb) (m : M1 X o "get" apos e cpos) : VE X W (.Call (.Attribute o "get" apos) [e] [] cpos) (dGet1 fa fb) := PE.imp (pe_get1 hu ho he m) fun σ H Q ⟨F, δ, s, h⟩ => by
  refine ⟨F, δ, s, Go.bnd pS_mon h fun dx x F1 H1 ex g1 px h1 => ?_⟩
  cases dx with
  | dict kvs =>
    obtain ⟨a, m, rfl, hd, rk⟩ := px
    refine ⟨a, rfl, isD_of hd, F1, δ, s.grow g1, Go.bnd pS_mon h1 fun dy y F2 H2 ey g2 py h2 => ?_⟩
    split at h2
    · rename_i hf
      rcases dget_of (same_drd g2.same hd) (g2.rpK rk) py hf with ⟨o, g, ro⟩ | ⟨e, g⟩
      · exact .inl ⟨o, g, h2.val (optR_getD ro .non)⟩
      · subst e
        exact .inr ⟨g, h2.val .non⟩
    · exact h2.elim
  | _ => exact h1.elim
theorem ve_get2 (hu : X.A.units + 1 < cLine) (ho : VB X W o fa) (he : VE X W e fb) (hf : VE X W f fc) (m : M2 X o "get" apos e f cpos) : VE X W (.Call (.Attribute o "get" apos) [e, f] [] cpos) (dGet2 fa fb fc) := PE.imp (pe_get2 hu ho he hf m) fun σ H Q ⟨F, δ, s, h⟩ => by
  refine ⟨F, δ, s, Go.bnd pS_mon h fun dx x F1 H1 ex g1 px h1 => ?_⟩
  cases dx with
  | dict kvs =>
    obtain ⟨a, m, rfl, hd, rk⟩ := px
    refine ⟨a, rfl, isD_of hd, F1, δ, s.grow g1, Go.bnd pS_mon h1 fun dy y F2 H2 ey g2 py h2 => ?_⟩
    refine ⟨F2, δ, (s.grow g1).grow g2, Go.bnd pS_mon h2 fun dz z F3 H3 ez g3 pz h3 => ?_⟩
    split at h3
    · rename_i hf
      rcases dget_of (same_drd (g2.trans g3).same hd) ((g2.trans g3).rpK rk) (g3.rp py) hf with ⟨o, g, ro⟩ | ⟨e, g⟩
      · exact .inl ⟨o, g, h3.val (optR_getD ro pz)⟩
      · subst e
        exact .inr ⟨g, h3.val pz⟩
    · exact h3.elim
  | _ => exact h1.elim
end
end VS
end
section
namespace VS
open PySem L2

/-! ### the state of a def's body -/
structure Sok (K : PySem.W.Frag) (F0 : Addr → Prop) (H0 : Hp) (F : Addr → Prop) (H : Hp) (σ : L2.St) (δ : Dl) : Prop where
  len : δ.length = σ.length
  g : Grow F0 H0 F H
  d0 : Dom F0 H0
  dom : Dom F H
  sh : ∀ (i : Nat) (d : PyData), δ[i]? = some (Sl.sh d) → ∃ v, σ[i]? = some (some v) ∧ Rp K F H v d
  ow : ∀ (i : Nat) (d : PyData), δ[i]? = some (Sl.ow d) → ∃ a, σ[i]? = some (some (.ref a)) ∧ RpO K F H a d ∧ ¬ F a ∧ H0 a = none
  br : ∀ (i : Nat) (ns : List Int), δ[i]? = some (Sl.br ns) → ∃ a, σ[i]? = some (some (V.ref a)) ∧ ScrR K H a ns
  ne : ∀ (i j : Nat) (d e : PyData) (a : Addr), δ[i]? = some (Sl.ow d) → δ[j]? = some (Sl.ow e) → σ[i]? = some (some (.ref a)) → σ[j]? = some (some (.ref a)) → i = j
theorem Sok.e {K : PySem.W.Frag} {F0 : Addr → Prop} {H0 : Hp} {F : Addr → Prop} {H : Hp} {σ : L2.St} {δ : Dl} (s : Sok K F0 H0 F H σ δ) : SokE K F H σ δ where
  len := s.len
  dom := s.dom
  sl := fun i x e => by
    cases x with
    | no => trivial
    | sh d => exact s.sh i d e
    | ow d => obtain ⟨a, e1, o, _⟩ := s.ow i d e; exact ⟨_, e1, o.b⟩
    | br ns => exact s.br i ns e
theorem Sok.grow {K : PySem.W.Frag} {F0 : Addr → Prop} {H0 : Hp} {F F' : Addr → Prop} {H H' : Hp} {σ : L2.St} {δ : Dl} (s : Sok K F0 H0 F H σ δ) (g : Grow F H F' H') : Sok K F0 H0 F' H' σ δ where
  len := s.len
  g := s.g.trans g
  d0 := s.d0
  dom := g.dom s.dom
  sh := fun i d e => by obtain ⟨v, e, r⟩ := s.sh i d e; exact ⟨v, e, g.rp r⟩
  ow := fun i d e => by
    obtain ⟨a, e, o, nf, n0⟩ := s.ow i d e
    obtain ⟨u, hu, _⟩ := o.there
    refine ⟨a, e, o.kept g.sub g.kept ((g.same a u hu).trans hu.symm), fun f => ?_, n0⟩
    rcases g.new a f with f | f
    · exact nf f
    · rw [hu] at f; cases f
  br := fun i ns e => by obtain ⟨a, e, r⟩ := s.br i ns e; exact ⟨a, e, r.keep fun b o e _ => g.same b o e⟩
  ne := s.ne

/-- what stays from one state of the body to a later one: the frozen things -/
structure Stay (F : Addr → Prop) (H : Hp) (F' : Addr → Prop) (H' : Hp) : Prop where
  sub : ∀ a, F a → F' a
  kept : Kept F H H'
theorem Stay.refl {F : Addr → Prop} {H : Hp} : Stay F H F H := ⟨fun _ h => h, Kept.refl⟩
theorem Stay.trans {F F1 F2 : Addr → Prop} {H H1 H2 : Hp} (a : Stay F H F1 H1) (b : Stay F1 H1 F2 H2) : Stay F H F2 H2 := ⟨fun x h => b.sub x (a.sub x h), a.kept.trans b.kept a.sub⟩
theorem Grow.stay {F F' : Addr → Prop} {H H' : Hp} (g : Grow F H F' H') : Stay F H F' H' := ⟨g.sub, g.kept⟩
theorem Stay.rp {K : PySem.W.Frag} {F F' : Addr → Prop} {H H' : Hp} (g : Stay F H F' H') {v : V} {d : D} (r : Rp K F H v d) : Rp K F' H' v d := r.mono g.sub g.kept

/-- what a statement does -/
inductive RS where
  | nx (δ : Dl)
  | rt (d : D)
  | bk (δ : Dl)
  | ct (δ : Dl)
  | ex (x : Xn)
  | no
def RS.bnd (r : RS) (f : Dl → RS) : RS := match r with
  | .nx δ => f δ
  | r => r
@[simp] theorem rsb_nx (δ : Dl) (f : Dl → RS) : (RS.nx δ).bnd f = f δ := Eq.trans rfl (Eq.refl _)
@[simp] theorem rsb_rt (δ : D) (f : Dl → RS) : (RS.rt δ).bnd f = .rt δ := Eq.trans rfl (Eq.refl _)
@[simp] theorem rsb_bk (δ : Dl) (f : Dl → RS) : (RS.bk δ).bnd f = .bk δ := Eq.trans rfl (Eq.refl _)
@[simp] theorem rsb_ct (δ : Dl) (f : Dl → RS) : (RS.ct δ).bnd f = .ct δ := Eq.trans rfl (Eq.refl _)
@[simp] theorem rsb_ex (x : Xn) (f : Dl → RS) : (RS.ex x).bnd f = .ex x := Eq.trans rfl (Eq.refl _)
@[simp] theorem rsb_no (f : Dl → RS) : RS.no.bnd f = .no := Eq.trans rfl (Eq.refl _)
/-- from an expression's outcome -/
def toS {α : Type} (r : Re α) (f : α → RS) : RS := match r with
  | .ok a => f a
  | .ex x => .ex x
  | .no => .no
@[simp] theorem toS_ok {α : Type} (a : α) (f : α → RS) : toS (.ok a) f = f a := Eq.trans rfl (Eq.refl _)
@[simp] theorem toS_ex {α : Type} (x : Xn) (f : α → RS) : toS (.ex x) f = .ex x := Eq.trans rfl (Eq.refl _)
@[simp] theorem toS_no {α : Type} (f : α → RS) : toS (.no : Re α) f = .no := Eq.trans rfl (Eq.refl _)

def SO (K : PySem.W.Frag) (W : XW) (F0 : Addr → Prop) (H0 : Hp) (F : Addr → Prop) (H : Hp) (D : Ends) : RS → Prop
  | .nx δ => ∀ F' H' σ', Stay F H F' H' → Sok K F0 H0 F' H' σ' δ → D.nx σ' H'
  | .bk δ => ∀ F' H' σ', Stay F H F' H' → Sok K F0 H0 F' H' σ' δ → D.bk σ' H'
  | .ct δ => ∀ F' H' σ', Stay F H F' H' → Sok K F0 H0 F' H' σ' δ → D.ct σ' H'
  | .rt d => ∀ v F' H', Stay F H F' H' → Grow F0 H0 F' H' → Rp K F' H' v d → D.rt v H'
  | .ex x => ∀ F' H', Stay F H F' H' → Grow F0 H0 F' H' → W x H'
  | .no => False
theorem SO.stay {K : PySem.W.Frag} {W : XW} {F0 : Addr → Prop} {H0 : Hp} {F F1 : Addr → Prop} {H H1 : Hp} {D : Ends} {r : RS} (h : SO K W F0 H0 F H D r) (g : Stay F H F1 H1) : SO K W F0 H0 F1 H1 D r := by
  cases r with
  | nx δ => exact fun F' H' σ' s k => h F' H' σ' (g.trans s) k
  | bk δ => exact fun F' H' σ' s k => h F' H' σ' (g.trans s) k
  | ct δ => exact fun F' H' σ' s k => h F' H' σ' (g.trans s) k
  | rt d => exact fun v F' H' s k => h v F' H' (g.trans s) k
  | ex x => exact fun F' H' s k => h F' H' (g.trans s) k
  | no => exact h
/-- a statement's reading -/
def tS (K : PySem.W.Frag) (W : XW) (f : Dl → RS) : TS := fun D σ H => ∃ F0 H0 F δ, Sok K F0 H0 F H σ δ ∧ SO K W F0 H0 F H D (f δ)
abbrev VSt (X : Cx) (W : XW) (st : Stmt) (f : Dl → RS) : Prop := PS X st (tS X.K W f)
abbrev VSs (X : Cx) (W : XW) (st : List Stmt) (f : Dl → RS) : Prop := PSs X st (tS X.K W f)

section
variable {X : Cx} {W : XW} {K : PySem.W.Frag} {F0 : Addr → Prop} {H0 : Hp} {F : Addr → Prop} {H : Hp} {σ : L2.St} {δ : Dl} {D : Ends}
/-- an expression within a statement -/
theorem SO.go {P : PP} {r : Re PyData} {f : PyData → RS} {Q : VK} (s : Sok K F0 H0 F H σ δ) (h : SO K W F0 H0 F H D (toS r f))
    (q : ∀ d v F1 H1, r = .ok d → Grow F H F1 H1 → P F H F1 H1 v d → SO K W F0 H0 F1 H1 D (f d) → Q v H1) : Go W P F H r Q := by
  cases r with
  | ok d => exact fun v F1 H1 g p => q d v F1 H1 rfl g p (SO.stay h g.stay)
  | ex x => exact fun F' H' g => h F' H' g.stay (s.g.trans g)
  | no => exact h
theorem SO.goT {r : Re Bool} {f : Bool → RS} {Q : Bool → Hp → Prop} (s : Sok K F0 H0 F H σ δ) (h : SO K W F0 H0 F H D (toS r f))
    (q : ∀ d F1 H1, r = .ok d → Grow F H F1 H1 → SO K W F0 H0 F1 H1 D (f d) → Q d H1) : GoT W F H r Q := by
  cases r with
  | ok d => exact fun F1 H1 g => q d F1 H1 rfl g (SO.stay h g.stay)
  | ex x => exact fun F' H' g => h F' H' g.stay (s.g.trans g)
  | no => exact h
theorem SO.goA {R : Rel} {r : Re (List PyData)} {f : List PyData → RS} {Q : List V → Hp → Prop} (s : Sok K F0 H0 F H σ δ) (h : SO K W F0 H0 F H D (toS r f))
    (q : ∀ ds vs F1 H1, r = .ok ds → Grow F H F1 H1 → RA R K F1 H1 vs ds → SO K W F0 H0 F1 H1 D (f ds) → Q vs H1) : GoA W R K F H r Q := by
  cases r with
  | ok d => exact fun v F1 H1 g p => q d v F1 H1 rfl g p (SO.stay h g.stay)
  | ex x => exact fun F' H' g => h F' H' g.stay (s.g.trans g)
  | no => exact h

/-! ### slots set -/
theorem set_len {i : Nat} {v : Option V} {x : Sl} (h : δ.length = σ.length) : (δ.set i x).length = (σ.set i v).length := by rw [List.length_set, List.length_set]; exact h
theorem get_set_ne {α : Type} {l : List α} {i j : Nat} {x y : α} (h : (l.set i x)[j]? = some y) (n : i ≠ j) : l[j]? = some y := by rw [List.getElem?_set_ne n] at h; exact h
theorem get_set_eq {α : Type} {l : List α} {i : Nat} {x y : α} (h : (l.set i x)[i]? = some y) : y = x ∧ i < l.length := by
  by_cases hi : i < l.length
  · rw [List.getElem?_set_self hi] at h; exact ⟨(Option.some.inj h).symm, hi⟩
  · rw [List.getElem?_eq_none (by simpa using hi)] at h; cases h
theorem Sok.setSh {i : Nat} {v : V} {d : PyData} (s : Sok K F0 H0 F H σ δ) (r : Rp K F H v d) : Sok K F0 H0 F H (σ.set i (some v)) (δ.set i (.sh d)) where
  len := set_len s.len
  g := s.g
  d0 := s.d0
  dom := s.dom
  sh := fun j e h => by
    by_cases n : i = j
    · subst n
      obtain ⟨q, hi⟩ := get_set_eq h
      cases q
      exact ⟨v, by rw [List.getElem?_set_self (by rw [← s.len]; exact hi)], r⟩
    · rw [List.getElem?_set_ne n]
      exact s.sh j e (get_set_ne h n)
  ow := fun j e h => by
    by_cases n : i = j
    · subst n
      obtain ⟨q, hi⟩ := get_set_eq h
      cases q
    · rw [List.getElem?_set_ne n]
      exact s.ow j e (get_set_ne h n)
  br := fun j e h => by
    by_cases n : i = j
    · subst n
      obtain ⟨q, hi⟩ := get_set_eq h
      cases q
    · rw [List.getElem?_set_ne n]
      exact s.br j e (get_set_ne h n)
  ne := fun j k d e a h1 h2 h3 h4 => by
    by_cases n : i = j
    · subst n; obtain ⟨q, _⟩ := get_set_eq h1; cases q
    · by_cases m : i = k
      · subst m; obtain ⟨q, _⟩ := get_set_eq h2; cases q
      · rw [List.getElem?_set_ne n] at h3
        rw [List.getElem?_set_ne m] at h4
        exact s.ne j k d e a (get_set_ne h1 n) (get_set_ne h2 m) h3 h4
/-- slot i holds a new object of its own -/
theorem Sok.setOw {i : Nat} {a : Addr} {d : PyData} (s : Sok K F0 H0 F H σ δ) (r : RpO K F H a d) (nf : ¬ F a) (n0 : H0 a = none) (hn : ∀ (j : Nat) (e : PyData), δ[j]? = some (Sl.ow e) → j ≠ i → σ[j]? ≠ some (some (.ref a))) : Sok K F0 H0 F H (σ.set i (some (.ref a))) (δ.set i (.ow d)) where
  len := set_len s.len
  g := s.g
  d0 := s.d0
  dom := s.dom
  sh := fun j e h => by
    by_cases n : i = j
    · subst n
      obtain ⟨q, hi⟩ := get_set_eq h
      cases q
    · rw [List.getElem?_set_ne n]
      exact s.sh j e (get_set_ne h n)
  ow := fun j e h => by
    by_cases n : i = j
    · subst n
      obtain ⟨q, hi⟩ := get_set_eq h
      cases q
      exact ⟨a, by rw [List.getElem?_set_self (by rw [← s.len]; exact hi)], r, nf, n0⟩
    · rw [List.getElem?_set_ne n]
      exact s.ow j e (get_set_ne h n)
  br := fun j e h => by
    by_cases n : i = j
    · subst n
      obtain ⟨q, hi⟩ := get_set_eq h
      cases q
    · rw [List.getElem?_set_ne n]
      exact s.br j e (get_set_ne h n)
  ne := fun j k d e b h1 h2 h3 h4 => by
    by_cases n : i = j
    · subst n
      by_cases m : i = k
      · exact m
      · exfalso
        obtain ⟨_, hi⟩ := get_set_eq h1
        rw [List.getElem?_set_self (by rw [← s.len]; exact hi)] at h3
        rw [List.getElem?_set_ne m] at h4
        cases h3
        exact hn k e (get_set_ne h2 m) (Ne.symm m) h4
    · by_cases m : i = k
      · subst m
        exfalso
        obtain ⟨_, hi⟩ := get_set_eq h2
        rw [List.getElem?_set_self (by rw [← s.len]; exact hi)] at h4
        rw [List.getElem?_set_ne n] at h3
        cases h4
        exact hn j d (get_set_ne h1 n) (Ne.symm n) h3
      · rw [List.getElem?_set_ne n] at h3
        rw [List.getElem?_set_ne m] at h4
        exact s.ne j k d e b (get_set_ne h1 n) (get_set_ne h2 m) h3 h4
/-- the object of slot i is frozen -/
def frzD (i : Nat) (δ : Dl) : Dl := match δ[i]? with
  | some (.ow d) => δ.set i (.sh d)
  | _ => δ
theorem Sok.frz (i : Nat) (s : Sok K F0 H0 F H σ δ) : ∃ F', Stay F H F' H ∧ Sok K F0 H0 F' H σ (frzD i δ) := by
  unfold frzD
  split
  · rename_i d e
    obtain ⟨a, ea, o, nf, n0⟩ := s.ow i d e
    obtain ⟨u, hu, _⟩ := o.there
    have g : Grow F0 H0 (plus F a) H := s.g.freeze n0 (by rw [hu]; exact fun z => nomatch z)
    refine ⟨plus F a, ⟨fun _ h => .inl h, Kept.refl⟩, ⟨by rw [List.length_set]; exact s.len, g, s.d0, fun x hx => ?_, fun j e' h => ?_, fun j e' h => ?_, fun j e' h => ?_, fun j k d1 e1 b h1 h2 h3 h4 => ?_⟩⟩
    · rcases hx with hx | hx
      · exact s.dom x hx
      · rw [hx, hu]; exact fun z => nomatch z
    · by_cases n : i = j
      · subst n
        obtain ⟨q, hi⟩ := get_set_eq h
        cases q
        exact ⟨_, ea, o.froz⟩
      · obtain ⟨v, e1, r⟩ := s.sh j e' (get_set_ne h n)
        exact ⟨v, e1, r.mono (fun _ x => .inl x) Kept.refl⟩
    · by_cases n : i = j
      · subst n
        obtain ⟨q, _⟩ := get_set_eq h
        cases q
      · obtain ⟨b, e1, ob, nb, nb0⟩ := s.ow j e' (get_set_ne h n)
        refine ⟨b, e1, ob.kept (fun _ x => .inl x) Kept.refl rfl, fun f => ?_, nb0⟩
        rcases f with f | f
        · exact nb f
        · subst f
          exact n (s.ne i j d e' b e (get_set_ne h n) ea e1)
    · by_cases n : i = j
      · subst n
        obtain ⟨q, _⟩ := get_set_eq h
        cases q
      · exact s.br j e' (get_set_ne h n)
    · by_cases n : i = j
      · subst n; obtain ⟨q, _⟩ := get_set_eq h1; cases q
      · by_cases m : i = k
        · subst m; obtain ⟨q, _⟩ := get_set_eq h2; cases q
        · exact s.ne j k d1 e1 b (get_set_ne h1 n) (get_set_ne h2 m) h3 h4
  · exact ⟨F, Stay.refl, s⟩

/-! ### small statements -/
variable {st : Stmt} {rest sts : List Stmt} {e : Expr} {pos : Pos} {f g : Dl → RS} {fe : Dl → Re PyData} {ft : Dl → Re Bool}
theorem vs_frz (i : Nat) (h : VSt X W st f) : VSt X W st (fun δ => f (frzD i δ)) := PS.imp h fun D σ H ⟨F0, H0, F, δ, s, q⟩ => by
  obtain ⟨F', g, s'⟩ := s.frz i
  exact ⟨F0, H0, F', _, s', q.stay g⟩
def seqS (f g : Dl → RS) (δ : Dl) : RS := (f δ).bnd g
theorem SO.seq {r : RS} (h : SO K W F0 H0 F H D (r.bnd g)) : SO K W F0 H0 F H { D with nx := tS K W g D } r := by
  cases r with
  | nx δ => exact fun F' H' σ' st s => ⟨F0, H0, F', δ, s, SO.stay (r := g δ) h st⟩
  | bk δ => exact h
  | ct δ => exact h
  | rt d => exact h
  | ex x => exact h
  | no => exact h
def nxS : Dl → RS := fun δ => .nx δ
theorem vss_nil : VSs X W [] nxS := PSs.imp pss_nil fun D σ H ⟨F0, H0, F, δ, s, q⟩ => q F H σ Stay.refl s
theorem vss_cons (h1 : VSt X W st f) (h2 : VSs X W rest g) : VSs X W (st :: rest) (seqS f g) := PSs.imp (pss_cons h1 h2) fun D σ H ⟨F0, H0, F, δ, s, q⟩ => ⟨F0, H0, F, δ, s, SO.seq q⟩
theorem vss_one (h1 : VSt X W st f) : VSs X W [st] f := pss_one h1
def bkS : Dl → RS := fun δ => .bk δ
def ctS : Dl → RS := fun δ => .ct δ
theorem vs_pass : VSt X W (.Pass pos) nxS := PS.imp ps_pass fun D σ H ⟨F0, H0, F, δ, s, q⟩ => q F H σ Stay.refl s
theorem vs_break : VSt X W (.Break pos) bkS := PS.imp ps_break fun D σ H ⟨F0, H0, F, δ, s, q⟩ => q F H σ Stay.refl s
theorem vs_continue : VSt X W (.Continue pos) ctS := PS.imp ps_continue fun D σ H ⟨F0, H0, F, δ, s, q⟩ => q F H σ Stay.refl s
def noS : Dl → RS := fun _ => .no
theorem vs_never : VSt X W st noS := PS.imp ps_never fun D σ H ⟨F0, H0, F, δ, s, q⟩ => q
theorem vss_never : VSs X W sts noS := PSs.imp pss_never fun D σ H ⟨F0, H0, F, δ, s, q⟩ => q
def retS (f : Dl → Re PyData) (δ : Dl) : RS := toS (f δ) .rt
theorem vs_ret (h : VE X W e fe) : VSt X W (.Return (some e) pos) (retS fe) := PS.imp (ps_ret h) fun D σ H ⟨F0, H0, F, δ, s, q⟩ =>
  ⟨F, δ, s.e, SO.go (P := pS X.K) s q fun d v F1 H1 e g p h1 => h1 v F1 H1 Stay.refl (s.g.trans g) p⟩
def retN : Dl → RS := fun _ => .rt .none
theorem vs_retN : VSt X W (.Return none pos) retN := PS.imp ps_retN fun D σ H ⟨F0, H0, F, δ, s, q⟩ => q _ F H Stay.refl s.g .non
/-- an expression whose value is dropped -/
def dropS (f : Dl → Re PyData) (δ : Dl) : RS := toS (f δ) fun _ => .nx δ
theorem vs_expr {P : PP} (h : VP X W P e fe) (hs : swapsWith e none pos.line X.env = pure false := by rfl) : VSt X W (.Expr e pos) (dropS fe) := PS.imp (ps_expr h hs) fun D σ H ⟨F0, H0, F, δ, s, q⟩ =>
  ⟨F, δ, s.e, SO.go (P := P) s q fun d v F1 H1 e g p h1 => h1 F1 H1 σ Stay.refl (s.grow g)⟩
def ifS (t : Dl → Re Bool) (f g : Dl → RS) (δ : Dl) : RS := toS (t δ) fun b => if b = true then f δ else g δ
theorem vs_if {c : Expr} {p q : List Stmt} (hc : VT X W c ft) (ha : VSs X W p f) (hb : VSs X W q g) : VSt X W (.If c p q pos) (ifS ft f g) := PS.imp (ps_if hc ha hb) fun D σ H ⟨F0, H0, F, δ, s, q⟩ =>
  ⟨F, δ, s.e, SO.goT s q fun b F1 H1 e g h1 => by
    cases b with
    | true => rw [if_pos rfl] at h1 ⊢; exact ⟨F0, H0, F1, δ, s.grow g, h1⟩
    | false => rw [if_neg Bool.false_ne_true] at h1 ⊢; exact ⟨F0, H0, F1, δ, s.grow g, h1⟩⟩
/-- x = e, the value shared; the new object its own -/
def setS (i : Nat) (f : Dl → Re PyData) (δ : Dl) : RS := toS (f δ) fun d => .nx (δ.set i (.sh d))
def setO (i : Nat) (f : Dl → Re PyData) (δ : Dl) : RS := toS (f δ) fun d => .nx (δ.set i (.ow d))
theorem Sok.notOwn {i : Nat} {a : Addr} (s : Sok K F0 H0 F H σ δ) (h : H a = none) : ∀ (j : Nat) (e : PyData), δ[j]? = some (Sl.ow e) → j ≠ i → σ[j]? ≠ some (some (.ref a)) := fun j e q _ z => by
  obtain ⟨b, e1, o, _⟩ := s.ow j e q
  rw [e1] at z
  cases z
  obtain ⟨u, hu, _⟩ := o.there
  rw [h] at hu; cases hu
theorem t_setS {i : Nat} {σ : L2.St} {H : Hp} (h : tS X.K W (setS i fe) D σ H) : tAsg (tP X.K W (pS X.K) fe) (gName i) D σ H := by
  obtain ⟨F0, H0, F, δ, s, q⟩ := h
  exact ⟨F, δ, s.e, SO.go (P := pS X.K) s q fun d v F1 H1 e g p h1 => h1 F1 H1 _ Stay.refl ((s.grow g).setSh p)⟩
theorem t_setO {i : Nat} {σ : L2.St} {H : Hp} (h : tS X.K W (setO i fe) D σ H) : tAsg (tP X.K W (pF X.K) fe) (gName i) D σ H := by
  obtain ⟨F0, H0, F, δ, s, q⟩ := h
  refine ⟨F, δ, s.e, SO.go (P := pF X.K) s q fun d v F1 H1 e g p h1 => ?_⟩
  obtain ⟨a, ea, hn, nf, o⟩ := p
  subst ea
  exact h1 F1 H1 _ Stay.refl ((s.grow g).setOw o nf (s.g.same.free hn) fun j e' q' nj => s.notOwn hn j e' q' nj)
theorem vs_set {i : Nat} {x : Str} {pos' : Pos} (hN : X.N.Nodup) (hi : X.N[i]? = some x) (hx : Loc X.env.scope x) (he : VE X W e fe) (hf : X.fn x = true ∨ X.env.scope.names.lookup x = some .local := by first | exact .inl rfl | exact .inr rfl) (hs : swapsWith e (some (.Name x pos')) pos.line X.env = pure false := by rfl) :
    VSt X W (.Assign [.Name x pos'] e pos) (setS i fe) := PS.imp (ps_set hN hi hx he hs hf) fun D σ H h => t_setS h
theorem vs_setO {i : Nat} {x : Str} {pos' : Pos} (hN : X.N.Nodup) (hi : X.N[i]? = some x) (hx : Loc X.env.scope x) (he : VF X W e fe) (hf : X.fn x = true ∨ X.env.scope.names.lookup x = some .local := by first | exact .inl rfl | exact .inr rfl) (hs : swapsWith e (some (.Name x pos')) pos.line X.env = pure false := by rfl) :
    VSt X W (.Assign [.Name x pos'] e pos) (setO i fe) := PS.imp (ps_set hN hi hx he hs hf) fun D σ H h => t_setO h
end
end VS
end
section
namespace VS
open PySem PySem.Spec PyProof.Rows L2

/-! ### exceptions -/
def EW (mg : Str → Option Value) (W : XW) : XK := fun cls d H => d = none ∧ ∃ nm, mg nm = some cls ∧ W (.mk nm []) H
def XOk (X : Cx) (W : XW) : Prop := Takes X fun cls d _ H => EW X.mg W cls d H
theorem xok0 {X : Cx} : XOk X XW0 := takes0.imp fun _ _ _ _ h => by obtain ⟨_, _, _, z⟩ := h; exact z
/-- the other way: what a def's caller wants -/
def EWI (mg : Str → Option Value) (E : XK) : XW := fun x H => match x with
  | .mk nm fs => fs = [] → ∀ cls, mg nm = some cls → E cls none H
theorem ewi_ew {mg : Str → Option Value} {W : XW} {x : Xn} {H : Hp} (h : W x H) : EWI mg (EW mg W) x H := by
  obtain ⟨nm, fs⟩ := x
  intro e cls hm
  subst e
  exact ⟨rfl, nm, hm, h⟩
theorem Go.ewi {mg : Str → Option Value} {W : XW} {P : PP} {F : Addr → Prop} {H : Hp} {r : Re D} {Q : VK} (h : Go W P F H r Q) : Go (EWI mg (EW mg W)) P F H r Q := by
  cases r with
  | ok d => exact h
  | ex x => exact fun F' H' g => ewi_ew (h F' H' g)
  | no => exact h

/-! ### a def -/
inductive ArgsR (K : PySem.W.Frag) (F : Addr → Prop) (H : Hp) : List V → List Sl → Prop
  | nil : ArgsR K F H [] []
  | sh {v : V} {vs : List V} {d : D} {δ : List Sl} : Rp K F H v d → ArgsR K F H vs δ → ArgsR K F H (v :: vs) (.sh d :: δ)
  | br {a : Addr} {vs : List V} {ns : List Int} {δ : List Sl} : ScrR K H a ns → ArgsR K F H vs δ → ArgsR K F H (.ref a :: vs) (.br ns :: δ)
theorem ArgsR.of {K : PySem.W.Frag} {F : Addr → Prop} {H : Hp} : ∀ {vs : List V} {ds : List D}, RpA K F H vs ds → ArgsR K F H vs (ds.map .sh)
  | _, _, .nil => .nil
  | _, _, .cons h t => .sh h (ArgsR.of t)
theorem ArgsR.length {K : PySem.W.Frag} {F : Addr → Prop} {H : Hp} : ∀ {vs : List V} {δ : List Sl}, ArgsR K F H vs δ → vs.length = δ.length
  | _, _, .nil => rfl
  | _, _, .sh _ t => congrArg (· + 1) t.length
  | _, _, .br _ t => congrArg (· + 1) t.length
theorem ArgsR.at {K : PySem.W.Frag} {F : Addr → Prop} {H : Hp} : ∀ {vs : List V} {δ : List Sl}, ArgsR K F H vs δ → ∀ (i : Nat) (s : Sl), δ[i]? = some s → ∃ v, vs[i]? = some v ∧ ((∃ d, s = .sh d ∧ Rp K F H v d) ∨ ∃ ns a, s = .br ns ∧ v = .ref a ∧ ScrR K H a ns)
  | _, _, .nil, i, s, e => by simp at e
  | _, _, .sh h t, 0, s, e => by simp at e; subst e; exact ⟨_, rfl, .inl ⟨_, rfl, h⟩⟩
  | _, _, .br h t, 0, s, e => by simp at e; subst e; exact ⟨_, rfl, .inr ⟨_, _, rfl, rfl, h⟩⟩
  | _, _, .sh h t, i + 1, s, e => by
    obtain ⟨v, e1, q⟩ := ArgsR.at t i s (by simpa using e)
    exact ⟨v, by simpa using e1, q⟩
  | _, _, .br h t, i + 1, s, e => by
    obtain ⟨v, e1, q⟩ := ArgsR.at t i s (by simpa using e)
    exact ⟨v, by simpa using e1, q⟩
/-- a def's promise -/
def SpG (K : PySem.W.Frag) (mg : Str → Option Value) (n : Nat) (f : List Sl → Re D) : Sp := fun vs H Q E => vs.length = n ∧ ∃ F δ, Dom F H ∧ ArgsR K F H vs δ ∧ Go (EWI mg E) (pS K) F H (f δ) Q
/-- a body's outcome as a call's -/
def outR : RS → Re D
  | .nx _ => .ok .none
  | .rt d => .ok d
  | .ex x => .ex x
  | _ => .no
@[simp] theorem outR_nx (δ : Dl) : outR (.nx δ) = .ok .none := Eq.trans rfl (Eq.refl _)
@[simp] theorem outR_rt (d : D) : outR (.rt d) = .ok d := Eq.trans rfl (Eq.refl _)
@[simp] theorem outR_ex (x : Xn) : outR (.ex x) = .ex x := Eq.trans rfl (Eq.refl _)
def fnR (b : Dl → RS) (m : Nat) (δ : List Sl) : Re D := outR (b (δ ++ List.replicate m .no))
theorem start_sok {K : PySem.W.Frag} {F : Addr → Prop} {H : Hp} {N : List Str} {vs : List V} {δ : List Sl} {n m : Nat} (dm : Dom F H) (r : ArgsR K F H vs δ) (hl : vs.length = n) (hN : N.length = n + m) : Sok K F H F H (L2.start N vs) (δ ++ List.replicate m .no) := by
  have e1 := r.length
  have fst : ∀ (i : Nat) (s : Sl), (δ ++ List.replicate m Sl.no)[i]? = some s → s ≠ .no → ∃ v, (L2.start N vs)[i]? = some (some v) ∧ ((∃ d, s = .sh d ∧ Rp K F H v d) ∨ ∃ ns a, s = .br ns ∧ v = .ref a ∧ ScrR K H a ns) := fun i s e hs => by
    have hi : i < δ.length := by
      by_cases hi : i < δ.length
      · exact hi
      · rw [List.getElem?_append_right (by omega), List.getElem?_replicate] at e
        split at e
        · exact (hs (Option.some.inj e).symm).elim
        · cases e
    rw [List.getElem?_append_left hi] at e
    obtain ⟨v, ev, q⟩ := r.at i s e
    refine ⟨v, ?_, q⟩
    unfold L2.start
    rw [List.getElem?_append_left (by rw [List.length_map]; omega), List.getElem?_map, ev]
    rfl
  refine ⟨?_, Grow.refl, dm, dm, fun i d e => ?_, fun i d e => ?_, fun i ns e => ?_, fun i j d e a h _ _ _ => ?_⟩
  · unfold L2.start
    rw [List.length_append, List.length_append, List.length_map, List.length_replicate, List.length_replicate]
    omega
  · obtain ⟨v, ev, q⟩ := fst i _ e (fun z => nomatch z)
    rcases q with ⟨d', z, r⟩ | ⟨_, _, z, _⟩
    · cases z; exact ⟨v, ev, r⟩
    · cases z
  · obtain ⟨v, ev, q⟩ := fst i _ e (fun z => nomatch z)
    rcases q with ⟨d', z, r⟩ | ⟨_, _, z, _⟩ <;> cases z
  · obtain ⟨v, ev, q⟩ := fst i _ e (fun z => nomatch z)
    rcases q with ⟨d', z, r⟩ | ⟨ns', a, z, ez, r⟩
    · cases z
    · cases z; subst ez; exact ⟨a, ev, r⟩
  · obtain ⟨v, ev, q⟩ := fst i _ h (fun z => nomatch z)
    rcases q with ⟨d', z, r⟩ | ⟨_, _, z, _⟩ <;> cases z
section
variable {P : Program} {w : World} {K : PySem.W.Frag} {mg : Str → Option Value} {base : Heap} {x qual : Str} {params : Arguments} {body : List Stmt} {scope : Scope} {f : Addr} {fd : FuncData} {N ps : List Str} {k m : Nat} {b : Dl → RS}
theorem fn_vs (F : FunD K x qual params body scope [] [] f fd) (S : FnScope N ps scope) (hm : N.length = ps.length + m)
    (hb : ∀ (cdv : Value) (A : Around) (outer : List Env) (s : Shared) (H : Hp) (E : XK) (W : XW), Room k (A.deeper (envOfC qual scope s.heap.objs.size f cdv)) → XOk (cxOf (L2.CX P w) P w K mg base N qual scope f cdv A outer s H E) W →
      VSs (cxOf (L2.CX P w) P w K mg base N qual scope f cdv A outer s H E) W body b) :
    FnOk P w K mg base (L2.CX P w) (k + 1) f fd ps (SpG K mg ps.length (fnR b m)) := by
  refine F.ok S (fun vs H Q E h => h.1) fun cdv A outer s H vs Q E hr h => ?_
  have tk : XOk (cxOf (L2.CX P w) P w K mg base N qual scope f cdv A outer s H E) (EWI mg E) :=
    (takes_of (X := cxOf (L2.CX P w) P w K mg base N qual scope f cdv A outer s H E) rfl rfl rfl rfl).imp fun cls d _ H' ⟨ed, nm, em, q⟩ => by
      subst ed
      exact q rfl cls em
  refine ⟨_, hb cdv A outer s H E _ hr tk, ?_⟩
  obtain ⟨hl, F1, δ, dm, r, g⟩ := h
  refine ⟨F1, H, F1, _, start_sok dm r hl hm, ?_⟩
  unfold fnR at g
  generalize b (δ ++ List.replicate m .no) = o at g ⊢
  cases o with
  | nx δ' => exact fun F' H' σ' _ s => g .non F' H' s.g .non
  | rt d => exact fun v F' H' _ g' r => g v F' H' g' r
  | ex x => exact fun F' H' _ g' => g F' H' g'
  | bk δ' => exact g.elim
  | ct δ' => exact g.elim
  | no => exact g.elim
theorem fn_zero {k : Nat} {ps : List Str} (n : Nat) (hn : ∀ vs : List V, vs.length = n → vs.length = ps.length) : FnOk P w K mg base (L2.CX P w) k f fd ps (SpG K mg n fun _ => .no) :=
  ⟨fun vs H Q E h => hn vs h.1, fun A outer s H args us vs Q E _ _ _ _ h => by obtain ⟨_, _, _, _, _, z⟩ := h; exact z.elim⟩
end

/-! ### a call -/
section
variable {X : Cx} {W : XW} {k : Nat} {f : Addr} {fd : FuncData} {ps : List Str} {g : List Sl → Re D} {x : Str} {p pos : Pos} {e : Expr} {es : List Expr} {fl : List (Dl → Re D)}
theorem passesW (tk : XOk X W) : Passes (L2.CX X.prog X.w) X (EW X.mg W) := passes_call tk fun _ _ _ _ h => h
theorem argsF_len : ∀ {fl : List (Dl → Re D)} {δ : Dl} {ds : List D}, argsF fl δ = .ok ds → ds.length = fl.length
  | [], δ, ds, h => by
    unfold argsF at h
    cases h; rfl
  | f :: fl, δ, ds, h => by
    unfold argsF at h
    cases e1 : f δ with
    | no => rw [e1] at h; cases h
    | ex x => rw [e1] at h; cases h
    | ok d =>
      rw [e1] at h
      change ((argsF fl δ).bnd fun ds => .ok (d :: ds)) = _ at h
      cases e2 : argsF fl δ with
      | no => rw [e2] at h; cases h
      | ex x => rw [e2] at h; cases h
      | ok ds' =>
        rw [e2] at h
        cases h
        show ds'.length + 1 = fl.length + 1
        rw [argsF_len e2]
def cD (g : List Sl → Re D) (ds : List D) : Re D := g (ds.map .sh)
/-- what a def of ours is to a caller -/
structure FnE (P : Program) (w : World) (K : PySem.W.Frag) (mg : Str → Option Value) (base : Heap) (k : Nat) (x : Str) (n : Nat) (g : List Sl → Re D) : Prop where
  ex : ∃ f fd ps, FnOk P w K mg base (L2.CX P w) k f fd ps (SpG K mg n g) ∧ mg x = some (.ref f) ∧ PySem.W.keepIn K (.ref f) = true ∧ Binds K fd ps []
abbrev Fn (X : Cx) (k : Nat) (x : Str) (n : Nat) (g : List Sl → Re D) : Prop := FnE X.prog X.w X.K X.mg X.base k x n g
theorem ve_call (FN : Fn X k x fl.length g) (hr : Room k X.A) (tk : XOk X W) (hg : Gl X x) (ha : VA X W Rp (e :: es) (argsF fl))
    (hdb : (x == ("__debug__" : Str)) = false := by decide) (he : starEach (e :: es) X.env = (false, eval e X.env) :: starEach es X.env := by rfl) (hpl : (backTo pos (starEach es X.env)).any (·.1) = false := by rfl) :
    VE X W (.Call (.Name x p) (e :: es) [] pos) (dA (argsF fl) (cD g)) := by
  obtain ⟨f, fd, ps, F, hm, hk, hb⟩ := FN.ex
  refine PE.imp (pe_call F hr hg hm hk hb .nil (passesW tk) ha hdb he hpl) fun σ H Q ⟨F1, δ, s, h⟩ => ⟨F1, δ, s, GoA.bnd (X := X) pS_mon h fun ds vs F2 H2 eq g2 r h1 => ?_⟩
  rw [List.append_nil]
  exact ⟨by rw [r.a.length, argsF_len eq], F2, _, g2.dom s.dom, ArgsR.of r.a, Go.ewi h1⟩
/-- f(script, n) -/
def dScr (i : Nat) (fb : Dl → Re D) (g : List Sl → Re D) (δ : Dl) : Re D := match δ[i]? with
  | some (.br ns) => (fb δ).bnd fun d => g [.br ns, .sh d]
  | _ => .no
theorem ve_callScr {i : Nat} {y : Str} {py : Pos} {e2 : Expr} {fb : Dl → Re D} (FN : Fn X k x 2 g) (hr : Room k X.A) (tk : XOk X W) (hg : Gl X x) (hy : PE X (.Name y py) (tVar i)) (h2 : VE X W e2 fb)
    (hdb : (x == ("__debug__" : Str)) = false := by decide) (he : starEach [.Name y py, e2] X.env = (false, eval (.Name y py) X.env) :: starEach [e2] X.env := by rfl) (he2 : starEach [e2] X.env = (false, eval e2 X.env) :: starEach [] X.env := by rfl) (hpl : (backTo pos (starEach [e2] X.env)).any (·.1) = false := by rfl) :
    VE X W (.Call (.Name x p) [.Name y py, e2] [] pos) (dScr i fb g) := by
  obtain ⟨f, fd, ps, F, hm, hk, hb⟩ := FN.ex
  refine PE.imp (pe_call F hr hg hm hk hb .nil (passesW tk) (pa_cons hy (pa_cons h2 pa_nil he2) he) hdb he hpl) fun σ H Q ⟨F1, δ, s, h⟩ => ?_
  unfold dScr at h
  split at h
  · rename_i ns en
    obtain ⟨a, ea, ra⟩ := s.sl i _ en
    refine ⟨_, ea, F1, δ, s, Go.bnd pS_mon h fun d v F2 H2 eq g2 r h1 => ?_⟩
    exact ⟨rfl, F2, _, g2.dom s.dom, .br (ra.keep fun b o e _ => g2.same b o e) (.sh r .nil), Go.ewi h1⟩
  · exact h.elim
end

/-! ### raise, try -/
section
variable {X : Cx} {W : XW} {F0 : Addr → Prop} {H0 : Hp} {F : Addr → Prop} {H : Hp} {D : Ends}
def raiS (nm : Str) (_ : Dl) : RS := .ex (.mk nm [])
theorem vs_raise {C : Addr} {bmB : List Value} {B newId initId : String} {x m : Str} {j : Nat} {p p2 pos pos' : Pos} (hc : X.calm = true) (tk : XOk X W) (Fb : ExcBaseFacts B newId initId bmB) (q : PySem.W.excIn X.K C bmB newId = true) (gC : X.mg x = some (.ref C)) (kC : PySem.W.keepIn X.K (.ref C) = true)
    (r : Raises X (.ref C)) (hg : Gl X x) (hdb : (x == ("__debug__" : Str)) = false := by decide) : VSt X W (.Raise (some (.Call (.Name x p) [.Constant (.str m) j p2] [] pos')) none pos) (raiS x) :=
  PS.imp (ps_raise hc tk (pmk_own Fb q gC kC r hg hdb)) fun D σ H ⟨F0, H0, F, δ, s, q⟩ => ⟨rfl, x, gC, q F H Stay.refl s.g⟩
/-- the clauses: which exceptions each takes, what it returns -/
def tryH : List (List (Str × Bool) × PyData) → Xn → RS
  | [], x => .ex x
  | (t, d) :: r, .mk nm fs => if fs = [] then (match t.lookup nm with
    | some true => .rt d
    | some false => tryH r (.mk nm fs)
    | none => .no) else .no
def tryS (f : Dl → RS) (hs : List (List (Str × Bool) × PyData)) (δ : Dl) : RS := match f δ with
  | .ex x => tryH hs x
  | r => r
/-- the clauses as they stand -/
inductive HdV (X : Cx) : List ExceptHandler → List (List (Str × Bool) × PyData) → List (Value × (Addr → Value → Option Addr → TS)) → Prop
  | nil : HdV X [] [] []
  | cons {x : Str} {c : Value} {b₀ : Stmt} {suite : List Stmt} {np pos' : Pos} {hds : List ExceptHandler} {t : List (Str × Bool)} {d : PyData} {h : Dl → RS} {r l} (hc : Names X x c)
      (ht : ∀ nm b, t.lookup nm = some b → ∀ cls, X.mg nm = some cls → PySem.W.exmOne X.K cls c = some b) (hd : ∀ n, h (List.replicate n Sl.no) = .rt d)
      (hsu : ∀ (a : Addr) (pn : List (Addr × Obj)), VSs (X.suite a pn) XW0 (b₀ :: suite) h) (hr : HdV X hds r l) :
      HdV X (.ExceptHandler (some (.Name x np)) none (b₀ :: suite) pos' :: hds) ((t, d) :: r) ((c, fun _ _ _ => tS X.K XW0 h) :: l)
theorem HdV.ok {hds : List ExceptHandler} {hs l} (h : HdV X hds hs l) : HdsOk X hds l := by
  induction h with
  | nil => exact .nil
  | cons hc ht hd hsu hr ih => exact .cons hc (fun a oe cls d pn _ _ => hsu a _) ih
theorem wish_ok {hds : List ExceptHandler} {hs l} (h : HdV X hds hs l) (d0 : Dom F0 H0) {x : Xn} : SO X.K W F0 H0 F H D (tryH hs x) → ∀ F' H', Stay F H F' H' → Grow F0 H0 F' H' → ∀ nm, x = .mk nm [] → ∀ cls σ, X.mg nm = some cls → wMany X.K (fun cls d _ H => EW X.mg W cls d H) D l cls none σ H' := by
  induction h with
  | nil =>
    intro q F' H' st g nm e cls σ hm
    subst e
    exact ⟨rfl, nm, hm, q F' H' st g⟩
  | cons hc ht hd hsu hr ih =>
    rename_i t d h r l
    intro q F' H' st g nm e cls σ hm
    subst e
    unfold tryH at q
    rw [if_pos rfl] at q
    cases el : t.lookup nm with
    | none => rw [el] at q; exact q.elim
    | some b =>
      rw [el] at q
      refine ⟨b, ht nm b el cls hm, fun hb a na => ?_, fun hb => ?_⟩
      · subst hb
        refine ⟨F0, H0, F', List.replicate σ.length .no, ⟨by rw [List.length_replicate], g, d0, g.dom d0, fun i d e => ?_, fun i d e => ?_, fun i d e => ?_, fun i j d e a h _ _ _ => ?_⟩, ?_⟩
        · rw [List.getElem?_replicate] at e; split at e <;> cases e
        · rw [List.getElem?_replicate] at e; split at e <;> cases e
        · rw [List.getElem?_replicate] at e; split at e <;> cases e
        · rw [List.getElem?_replicate] at h; split at h <;> cases h
        · rw [hd]
          exact fun v F2 H2 st2 g2 rv => q v F2 H2 (st.trans st2) g2 rv
      · subst hb
        exact ih q F' H' st g nm rfl cls σ hm
def WB (mg : Str → Option Value) (W : WX) : XW := fun x H => ∀ nm, x = .mk nm [] → ∀ cls σ, mg nm = some cls → W cls none σ H
theorem vs_try {body : List Stmt} {h₀ : ExceptHandler} {hds : List ExceptHandler} {pos : Pos} {f : Dl → RS} {hs l} (hst : X.stack = X.env :: X.outer) (hf : X.env.frame = some X.env.locals) (tk : XOk X W)
    (hb : ∀ (pn : List (Addr × Obj)) (xe : Value → Shared → Prop) (W' : XW), XOk (X.tr pn xe) W' → PassesOwn (model X.prog X.w) X.A X.env xe → VSs (X.tr pn xe) W' body f) (hh : HdV X (h₀ :: hds) hs l) : VSt X W (.Try body (h₀ :: hds) [] [] pos) (tryS f hs) := by
  refine PS.imp (ps_try_many hst hf tk (tb := fun W' => tS X.K (WB X.mg W') f) (fun W' pn xe tk' hp => hb pn xe _ (tk'.imp fun cls d σ H ⟨ed, nm, hm, q⟩ => by subst ed; exact q nm rfl cls σ hm) hp) hh.ok) fun D σ H ⟨F0, H0, F, δ, s, q⟩ => ⟨F0, H0, F, δ, s, ?_⟩
  unfold tryS at q
  generalize f δ = o at q ⊢
  cases o with
  | nx δ' => exact q
  | rt d => exact q
  | bk d => exact q
  | ct d => exact q
  | no => exact q
  | ex x => exact fun F' H' st g nm e cls σ' hm => wish_ok hh s.d0 q F' H' st g nm e cls σ' hm
end
end VS
end
section
namespace VS
open PySem PySem.Spec PyProof.Rows L2 RZ

/-! ### enumerate over a tuple -/
set_option maxHeartbeats 1000000 in
theorem enumNew1 {v : Value} {ob : Obj} {Hc : Heap → Prop} (B : Begins v ob Hc) :
    Meets (Builtin.«enumerate.__new__» ⟨[.type "enumerate", v], []⟩) (fun _ R s => Hc s.heap ∧
      R (.ok (.ret (.ref (s.heap.push ob).objs.size))) { s with heap := (s.heap.push ob).push { cls := .type "enumerate", data := .fields #[.none, .bool false, .ref s.heap.objs.size, rawInt 0, .none, .none] } }) :=
  .of_wp fun prog w A R s hall => by
    obtain ⟨hp, g, d, tk, os⟩ := s; obtain ⟨hv, hall⟩ := hall
    have en := sub_enumerate
    have step : ∀ {A' : Around} {E : Value → Shared → Prop} {Q : Value → Shared → Prop}, Q (.ref hp.objs.size) ⟨hp.push ob, g, d, tk, os⟩ → wpAny (model prog w) A' (pyIter v) Q E ⟨hp, g, d, tk, os⟩ :=
      fun q => B.iter prog w _ _ ⟨hp, g, d, tk, os⟩ _ hv q
    wp_walk using step
    refine wpAny_stack_any fun stk => wpAny_pure ?_
    split
    · rename_i cc _ _ _ _ _
      cases (cc == Value.type "enumerate")
      · wp_walk using step
        exact ⟨_, rfl, hall⟩
      · wp_walk using step
        exact ⟨_, rfl, hall⟩
    · wp_walk using step
      exact ⟨_, rfl, hall⟩
theorem enumBegin1 {prog : Program} {w : World} {A : Around} {E : Value → Shared → Prop} {s : Shared} {v : Value} {ob : Obj} {Hc : Heap → Prop} {Q : Value → Shared → Prop} (B : Begins v ob Hc) (hv : Hc s.heap)
    (fin : ∀ h', IsEnum h' (s.heap.objs.size + 1) s.heap.objs.size 0 .none → h'.get? s.heap.objs.size = some ob → (∀ b o, s.heap.get? b = some o → h'.get? b = some o) → Q (.ref (s.heap.objs.size + 1)) { s with heap := h' }) :
    wpAny (model prog w) A (call (.type "enumerate") [v]) Q E s := by
  refine callType_new F.called_enumerate (by decide) (F.typeCall_enumerate_1 _) (F.newCall_enumerate_1 _) (fun o => F.args_object_init_2 o _) F.entry_enumerate_new (enumNew1 B) ⟨hv, ?_⟩
  have sz : (s.heap.push ob).objs.size = s.heap.objs.size + 1 := Heap.size_push ..
  show _ ∧ _
  rw [sz]
  have ie : IsEnum ((s.heap.push ob).push { cls := .type "enumerate", data := .fields #[.none, .bool false, .ref s.heap.objs.size, rawInt 0, .none, .none] }) (s.heap.objs.size + 1) s.heap.objs.size 0 .none := by
    have q := Heap.get?_push_size (s.heap.push ob) (o := { cls := .type "enumerate", data := .fields #[.none, .bool false, .ref s.heap.objs.size, rawInt 0, .none, .none] }) rfl
    rw [sz] at q; exact q
  exact ⟨⟨_, ie, rfl⟩, fin _ ie (Heap.get?_push_of_some _ (Heap.get?_push_size _ B.free)) fun b o x => Heap.get?_push_of_some _ (Heap.get?_push_of_some _ x)⟩
/-- the tuple at a, each item in a new pair -/
def IteT (K : PySem.W.Frag) (a : Addr) : It :=
  ⟨fun i H => ∃ (xs : List V) (x : V), SqT K H a xs ∧ xs[i]? = some x, fun i H v H' => ∃ T x, v = .ref T ∧ H T = none ∧ H' = upd H T (.tup [.int (i : Nat), x]) ∧ ∀ xs, SqT K H a xs → xs[i]? = some x, fun i H => ∃ xs : List V, SqT K H a xs ∧ xs.length = i⟩
theorem turn_enumT {P : Program} {w : World} {K : PySem.W.Frag} {elts : List Expr} {kk : Nat} {tpos : Pos} (a e it : Addr) :
    Turn P w K (.Tuple elts kk tpos) (IteT K a) [e, it] e (fun i h => (∃ old, IsEnum h e it ((i : Nat) : Int) old) ∧ h.IsTupleIter it a i ∧ e ≠ it) where
  mem := by simp
  obj := fun i h st b hb => by
    obtain ⟨⟨old, he⟩, ⟨o, ho, hc, hd⟩, _⟩ := st
    have eb : b = e ∨ b = it := by simpa using hb
    rcases eb with z | z
    · rw [z]; exact ⟨_, he, fun v q => nomatch q⟩
    · rw [z]; exact ⟨o, ho, fun v q => by rw [hd] at q; cases q⟩
  keep := fun i h h' st k => let ⟨⟨old, he⟩, hi, hne⟩ := st; ⟨⟨old, k e (by simp) _ he⟩, hi.at fun o q => k it (by simp) o q, hne⟩
  item := by
    intro X hP hw hK hc i pins s σ H E I hf st hg
    subst hP hw hK
    obtain ⟨⟨old, he⟩, hit, hne⟩ := st
    obtain ⟨xs, x, hq, hx⟩ := hg
    obtain ⟨its, rv, p, hz⟩ := I.tuple hq
    obtain ⟨u, hu, ru⟩ := rv.get hx
    have pT : s.heap.IsTuple a its.toArray := p
    have hel : e < s.heap.objs.size := Heap.lt_size he
    have hil : it < s.heap.objs.size := by obtain ⟨_, q, _⟩ := hit; exact Heap.lt_size q
    have ait : a ≠ it := fun z => by
      obtain ⟨o1, q1, c1, _⟩ := hit
      obtain ⟨o2, q2, c2, _⟩ := p
      rw [z, q1] at q2
      cases q2
      rw [c1] at c2
      exact absurd c2 (by decide)
    have ae : e ≠ a := fun z => by
      obtain ⟨o2, q2, c2, _⟩ := p
      rw [← z, he] at q2
      cases q2
      have c3 : Value.type "enumerate" = Value.type "tuple" := c2
      exact absurd c3 (by decide)
    have hil2 : i < its.toArray.size := by
      have := (List.getElem?_eq_some_iff.mp hu).1
      simpa using this
    have D := Draws.tuple (prog := X.prog) (w := X.w) (A := X.A.in1) (I.ok.hd hc) it a ait its.toArray
    refine wpAny_pyNext_enum_itemD D he ⟨hit, pT⟩ hil2 hne (by simp [hne, ae]) fun x' h' tk hP' ho hst' hT hsz hk => ?_
    have ex : x' = u := by
      have : its[i]? = some x' := by simpa using hP'
      rw [hu] at this
      exact (Option.some.inj this).symm
    subst ex
    refine ⟨_, rfl, wpAny_letOwnedTupleGo_enum (s := { s with heap := h', toks := tk + 1 }) ho fun h2 he' sb => ?_⟩
    have hT2 : h2.get? s.heap.objs.size = some { cls := .type "tuple", data := .seq #[.int i tk, x'] } := (sb.2 _ (Nat.ne_of_gt hel)).trans hT
    have new : ObjOk X.prog X.w (upd H s.heap.objs.size (.tup [.int (i : Nat), x])) h2 s.heap.objs.size (.tup [.int (i : Nat), x]) :=
      ⟨by show 2 ≤ sizeLine; decide, [.int i tk, x'], .cons ⟨_, rfl⟩ (.cons ru .nil), ⟨_, hT2, rfl, _, rfl⟩⟩
    have I1 : Inv X pins σ (upd H s.heap.objs.size (.tup [.int (i : Nat), x])) { s with heap := h2, toks := tk + 1 } :=
      I.turnedNew (ch := [e, it]) (fun b ob hb q => (sb.2 b (fun z => hb (by simp [z]))).trans (hk b ob (fun z => hb (by simp [z])) (fun z => hb (by simp [z])) q)) hf (Nat.le_refl _) new
    refine ⟨.ref s.heap.objs.size, _, I1, rfl, ⟨_, x, rfl, I.hok.fresh (Nat.le_refl _), rfl, fun ys hy => by rw [I.tuple_inj hy hq]; exact hx⟩, ⟨⟨x', ?_⟩, hst'.1.at fun o q => (sb.2 it (Ne.symm hne)).trans q, hne⟩, fun b hb => ?_⟩
    · have e1 : ((i + 1 : Nat) : Int) = (i : Int) + 1 := by omega
      rw [e1]; exact he'
    · have hb' : b < s.heap.objs.size := by
        have eb : b = e ∨ b = it := by simpa using hb
        rcases eb with z | z
        · rw [z]; exact hel
        · rw [z]; exact hil
      rw [upd_ne (Nat.ne_of_lt hb')]
      exact (hf b hb).1
  done := by
    intro X hP hw hK hc i pins s σ H E I hf st hg
    subst hP hw hK
    obtain ⟨⟨old, he⟩, hit, hne⟩ := st
    obtain ⟨xs, hq, hx⟩ := hg
    obtain ⟨its, rv, p, hz⟩ := I.tuple hq
    have pT : s.heap.IsTuple a its.toArray := p
    obtain ⟨f0, f1, f2, f3, f4, f5⟩ := hf it (by simp)
    have hl := rv.length
    have ait : a ≠ it := fun z => by
      obtain ⟨o1, q1, c1, _⟩ := hit
      obtain ⟨o2, q2, c2, _⟩ := p
      rw [z, q1] at q2
      cases q2
      rw [c1] at c2
      exact absurd c2 (by decide)
    have D := Draws.tuple (prog := X.prog) (w := X.w) (A := X.A.in1) (I.ok.hd hc) it a ait its.toArray
    have ei : i = its.toArray.size := by simp; omega
    exact wpAny_pyNext_enum_endD D he ⟨ei ▸ hit, pT⟩ fun h' eb => ⟨rfl, I.turned (t' := s.toks) (fun b o hb q => eb b o hb q) f0 f1 f3 f4 f5⟩
  self := fun A i s Q E st h => let ⟨⟨_, he⟩, _⟩ := st; wpAny_pyIter_enum he h
def iEnumA (K : PySem.W.Frag) (ta : TA) : TI := fun σ H R => ta σ H fun vs H1 => ∃ a xs, vs = [.ref a] ∧ ((SqL K H1 a xs ∧ R (Ite K a) H1) ∨ (SqT K H1 a xs ∧ R (IteT K a) H1))
theorem pi_enumA {X : Cx} {e : Expr} {ta : TA} {p pos tpos : Pos} {elts : List Expr} {kk : Nat} (hg : Gl X "enumerate") (hm : X.mg "enumerate" = none) (ha : PA X [e] ta) (hs : starEach [e] X.env = [(false, eval e X.env)] := by rfl) :
    PI X (.Tuple elts kk tpos) (.Call (.Name "enumerate" p) [e] [] pos) (iEnumA X.K ta) := by
  refine ⟨fun pins s σ H R I h => ?_⟩
  refine Call_ (ld_blt I hg hm boot_enumerate (PyProof.Rows.callWith_type1 (thn (ha.run pos pins s σ H _ I h) fun us s1 ⟨vs, H1, I1, r1, q1⟩ => ?_) hs rfl))
  obtain ⟨a, xs, ex, q⟩ := q1
  subst ex
  cases r1 with
  | cons r rr =>
    cases rr
    cases r
    have fp : ∀ b ∈ [s1.heap.objs.size + 1, s1.heap.objs.size], FpOk X pins H1 b := fun b hb => by
      have eb : b = s1.heap.objs.size + 1 ∨ b = s1.heap.objs.size := by simpa using hb
      have hle : s1.heap.objs.size ≤ b := by
        rcases eb with z | z
        · rw [z]; exact Nat.le_add_right _ _
        · rw [z]; exact Nat.le_refl _
      exact I1.fpOk hle (I1.hok.fresh hle)
    rcases q with ⟨hq, q⟩ | ⟨hq, q⟩
    · obtain ⟨its, rv, pl, hz⟩ := I1.list hq
      refine enumBegin1 (begins_list a its.toArray) pl.isList fun h' he hit hk => wpAny_pyIter_enum he ?_
      have I2 : Inv X pins σ H1 { s1 with heap := h' } := I1.kept (t' := s1.toks) hk
      exact ⟨s1.heap.objs.size + 1, [s1.heap.objs.size + 1, s1.heap.objs.size], _, _, H1, rfl, I2, turn_enum a (s1.heap.objs.size + 1) s1.heap.objs.size, ⟨⟨.none, he⟩, ⟨_, hit, rfl, rfl⟩, Nat.succ_ne_self _⟩, fp, q⟩
    · obtain ⟨its, rv, pl, hz⟩ := I1.tuple hq
      refine enumBegin1 (begins_tuple a its.toArray) (show s1.heap.IsTuple a its.toArray from pl) fun h' he hit hk => wpAny_pyIter_enum he ?_
      have I2 : Inv X pins σ H1 { s1 with heap := h' } := I1.kept (t' := s1.toks) hk
      exact ⟨s1.heap.objs.size + 1, [s1.heap.objs.size + 1, s1.heap.objs.size], _, _, H1, rfl, I2, turn_enumT a (s1.heap.objs.size + 1) s1.heap.objs.size, ⟨⟨.none, he⟩, ⟨_, hit, rfl, rfl⟩, Nat.succ_ne_self _⟩, fp, q⟩

/-! ### a list, a tuple, a text -/
theorem pi_any {X : Cx} {tg l : Expr} {tl : TE} (hl : PE X l tl) : PI X tg l (fun σ H R => tl σ H fun x H1 => (∃ a xs, x = .ref a ∧ SqL X.K H1 a xs ∧ R (Itl X.K a) H1) ∨ (∃ a xs, x = .ref a ∧ SqT X.K H1 a xs ∧ R (Itt X.K a) H1) ∨ ∃ z, x = .str z ∧ R (Its z) H1) := by
  refine ⟨fun pins s σ H R I h => ?_⟩
  refine thn (hl.run pins s σ H _ I h) fun v s1 ⟨x, H1, I1, r1, q1⟩ => ?_
  rcases q1 with ⟨a, xs, ea, hq, q⟩ | ⟨a, xs, ea, hq, q⟩ | ⟨z, ez, q⟩
  · subst ea
    cases r1
    obtain ⟨its, rv, p, hz⟩ := I1.list hq
    exact wpAny_pyIter_list p.isList (pi_one (tk := s1.toks) I1 _ (turn_list a _) ⟨_, Heap.get?_push_size _ rfl, rfl, rfl⟩ q)
  · subst ea
    cases r1
    obtain ⟨its, rv, p, hz⟩ := I1.tuple hq
    exact wpAny_pyIter_tuple (show s1.heap.IsTuple a its.toArray from p) (pi_one (tk := s1.toks) I1 _ (turn_tuple a _) ⟨_, Heap.get?_push_size _ rfl, rfl, rfl⟩ q)
  · subst ez
    obtain ⟨t, rfl⟩ := r1
    cases ha : z.cps.all (· < 128)
    · exact wpAny_pyIter_wide ha (pi_one (tk := s1.toks) I1 _ (turn_str _ z t "str_iterator" (.inr rfl)) ⟨_, Heap.get?_push_size _ rfl, rfl, rfl⟩ q)
    · exact wpAny_pyIter_ascii ha (pi_one (tk := s1.toks) I1 _ (turn_str _ z t "str_ascii_iterator" (.inl rfl)) ⟨_, Heap.get?_push_size _ rfl, rfl, rfl⟩ q)

/-! ### what a loop walks, by values -/
structure Walk (K : PySem.W.Frag) (F : Addr → Prop) (H : Hp) (J : It) (ds : List D) : Prop where
  go : ∀ F' H' i, Stay F H F' H' → i < ds.length → J.go i H'
  stop : ∀ F' H', Stay F H F' H' → J.stop ds.length H'
  yld : ∀ F' H' i x H2 d, Stay F H F' H' → Dom F' H' → ds[i]? = some d → J.yld i H' x H2 → ∃ F2, Grow F' H' F2 H2 ∧ Rp K F2 H2 x d
def tI (K : PySem.W.Frag) (W : XW) (f : Dl → Re (List D)) : TI := fun σ H R => ∃ F δ, SokE K F H σ δ ∧ ReW W F H (f δ) fun ds => ∀ J F' H', Grow F H F' H' → Walk K F' H' J ds → R J H'
abbrev VI (X : Cx) (W : XW) (tg it : Expr) (f : Dl → Re (List D)) : Prop := PI X tg it (tI X.K W f)
theorem PI.imp {X : Cx} {tg e : Expr} {t t' : TI} (h : PI X tg e t) (w : ∀ σ H Q, t' σ H Q → t σ H Q) : PI X tg e t' := ⟨fun pins s σ H Q I q => h.run pins s σ H Q I (w _ _ _ q)⟩
/-- a chain to a list of items -/
theorem ReW.bndL {W : XW} {P' : PP} {F : Addr → Prop} {H : Hp} {ra : Re D} {k : D → Re (List D)} {N : List D → (Addr → Prop) → Hp → Prop} {Q' : VK} (h : ReW W F H (ra.bnd k) fun ds => ∀ F' H', Grow F H F' H' → N ds F' H')
    (q : ∀ d v F1 H1, ra = .ok d → Grow F H F1 H1 → P' F H F1 H1 v d → ReW W F1 H1 (k d) (fun ds => ∀ F' H', Grow F1 H1 F' H' → N ds F' H') → Q' v H1) : Go W P' F H ra Q' := by
  cases ra with
  | ok d => exact fun v F1 H1 g p => q d v F1 H1 rfl g p (ReW.grow h g fun ds n F' H' g' => n F' H' (g.trans g'))
  | ex x => exact h
  | no => exact h
def d1L (g : D → Re (List D)) (fa : Dl → Re D) (δ : Dl) : Re (List D) := (fa δ).bnd g
def signs (z : Str) : List D := z.cps.toList.map fun c => .str ⟨#[c]⟩
def itemsD : D → Re (List D)
  | .list ds => .ok ds
  | .tuple ds => .ok ds
  | .str z => .ok (signs z)
  | _ => .no
section
variable {K : PySem.W.Frag} {F : Addr → Prop} {H : Hp}
theorem walk_list {a : Addr} {xs : List V} {ds : List D} (h : Rd H a (.lst xs)) (f : F a) (r : RpA K F H xs ds) : Walk K F H (Itl K a) ds where
  go := fun F' H' i st hi => by
    obtain ⟨v, ev, _⟩ := r.get (List.getElem?_eq_getElem hi)
    exact ⟨xs, v, .inl (st.kept.rd h (.inl f)), ev⟩
  stop := fun F' H' st => ⟨xs, .inl (st.kept.rd h (.inl f)), Nat.le_of_eq r.length⟩
  yld := fun F' H' i x H2 d st _ e y => by
    obtain ⟨e1, y⟩ := y
    subst e1
    obtain ⟨v, ev, rv⟩ := r.get e
    have q := y xs (.inl (st.kept.rd h (.inl f)))
    rw [ev] at q
    cases q
    exact ⟨F', Grow.refl, st.rp rv⟩
theorem walk_tup {a : Addr} {xs : List V} {ds : List D} (h : SqT K H a xs) (r : RpA K F H xs ds) : Walk K F H (Itt K a) ds where
  go := fun F' H' i st hi => by
    obtain ⟨v, ev, _⟩ := r.get (List.getElem?_eq_getElem hi)
    exact ⟨xs, v, st.kept.sqT h, ev⟩
  stop := fun F' H' st => ⟨xs, st.kept.sqT h, Nat.le_of_eq r.length⟩
  yld := fun F' H' i x H2 d st _ e y => by
    obtain ⟨e1, y⟩ := y
    subst e1
    obtain ⟨v, ev, rv⟩ := r.get e
    have q := y xs (st.kept.sqT h)
    rw [ev] at q
    cases q
    exact ⟨F', Grow.refl, st.rp rv⟩
theorem signs_len (z : Str) : (signs z).length = z.cps.size := by unfold signs; simp
theorem walk_str {z : Str} : Walk K F H (Its z) (signs z) where
  go := fun F' H' i st hi => by rw [signs_len] at hi; exact hi
  stop := fun F' H' st => by show z.cps.size ≤ (signs z).length; rw [signs_len]; exact Nat.le_refl _
  yld := fun F' H' i x H2 d st _ e y => by
    obtain ⟨e1, c, ec, ex⟩ := y
    subst e1 ex
    refine ⟨F', Grow.refl, ?_⟩
    unfold signs at e
    rw [List.getElem?_map, Array.getElem?_toList, ec] at e
    cases e
    exact .str _
theorem walk_range (lo : Int) (n : Nat) : Walk K F H (Itr lo n) ((List.range n).map fun k => PyData.int (lo + (k : Nat))) where
  go := fun F' H' i st hi => by show i < n; simpa using hi
  stop := fun F' H' st => by show n ≤ _; simp
  yld := fun F' H' i x H2 d st _ e y => by
    obtain ⟨e1, ex⟩ := y
    subst e1 ex
    refine ⟨F', Grow.refl, ?_⟩
    rw [List.getElem?_map] at e
    by_cases hi : i < n
    · rw [List.getElem?_range hi] at e
      cases e
      exact .int _
    · rw [List.getElem?_eq_none (by simpa using hi)] at e
      cases e
def pairUp (i : Nat) : List D → List D
  | [] => []
  | d :: ds => .tuple [.int (i : Nat), d] :: pairUp (i + 1) ds
theorem pairUp_len : ∀ (ds : List D) (k : Nat), (pairUp k ds).length = ds.length
  | [], _ => rfl
  | d :: ds, k => congrArg (· + 1) (pairUp_len ds (k + 1))
theorem pairUp_get : ∀ (ds : List D) (k i : Nat), (pairUp k ds)[i]? = (ds[i]?).map fun d => .tuple [.int ((k + i : Nat) : Int), d]
  | [], _, _ => by simp [pairUp]
  | d :: ds, k, 0 => by simp [pairUp]
  | d :: ds, k, i + 1 => by
    show (pairUp (k + 1) ds)[i]? = _
    rw [pairUp_get ds (k + 1) i]
    simp only [List.getElem?_cons_succ]
    rw [show k + 1 + i = k + (i + 1) by omega]
theorem rp_pair {F' : Addr → Prop} {H' : Hp} {T : Addr} {x y : V} {d e : D} (hn : H' T = none) (rx : Rp K F' H' x d) (ry : Rp K F' H' y e) : Rp K F' (upd H' T (.tup [x, y])) (.ref T) (.tuple [d, e]) :=
  .tup (.inl upd_same) (.cons ((Grow.upd0 hn).rp rx) (.cons ((Grow.upd0 hn).rp ry) .nil))
theorem walk_enum {a : Addr} {xs : List V} {ds : List D} (h : Rd H a (.lst xs)) (f : F a) (r : RpA K F H xs ds) : Walk K F H (Ite K a) (pairUp 0 ds) where
  go := fun F' H' i st hi => by
    rw [pairUp_len] at hi
    obtain ⟨v, ev, _⟩ := r.get (List.getElem?_eq_getElem hi)
    exact ⟨xs, v, .inl (st.kept.rd h (.inl f)), ev⟩
  stop := fun F' H' st => ⟨xs, .inl (st.kept.rd h (.inl f)), by rw [pairUp_len]; exact Nat.le_of_eq r.length⟩
  yld := fun F' H' i x H2 d st _ e y => by
    obtain ⟨T, v, ex, hn, e1, y⟩ := y
    subst e1 ex
    rw [pairUp_get] at e
    cases ed : ds[i]? with
    | none => rw [ed] at e; cases e
    | some d' =>
      rw [ed] at e
      cases e
      obtain ⟨v', ev, rv⟩ := r.get ed
      have q := y xs (.inl (st.kept.rd h (.inl f)))
      rw [ev] at q
      cases q
      rw [Nat.zero_add]
      exact ⟨F', Grow.upd0 hn, rp_pair hn (.int _) (st.rp rv)⟩
theorem walk_enumT {a : Addr} {xs : List V} {ds : List D} (h : SqT K H a xs) (r : RpA K F H xs ds) : Walk K F H (IteT K a) (pairUp 0 ds) where
  go := fun F' H' i st hi => by
    rw [pairUp_len] at hi
    obtain ⟨v, ev, _⟩ := r.get (List.getElem?_eq_getElem hi)
    exact ⟨xs, v, st.kept.sqT h, ev⟩
  stop := fun F' H' st => ⟨xs, st.kept.sqT h, by rw [pairUp_len]; exact r.length⟩
  yld := fun F' H' i x H2 d st _ e y => by
    obtain ⟨T, v, ex, hn, e1, y⟩ := y
    subst e1 ex
    rw [pairUp_get] at e
    cases ed : ds[i]? with
    | none => rw [ed] at e; cases e
    | some d' =>
      rw [ed] at e
      cases e
      obtain ⟨v', ev, rv⟩ := r.get ed
      have q := y xs (st.kept.sqT h)
      rw [ev] at q
      cases q
      rw [Nat.zero_add]
      exact ⟨F', Grow.upd0 hn, rp_pair hn (.int _) (st.rp rv)⟩
def zipUp : List D → List D → List D
  | d :: ds, e :: es => .tuple [d, e] :: zipUp ds es
  | _, _ => []
theorem zipUp_len : ∀ (ds es : List D), (zipUp ds es).length = min ds.length es.length
  | [], _ => by simp [zipUp]
  | _ :: _, [] => by simp [zipUp]
  | d :: ds, e :: es => by simp [zipUp, zipUp_len ds es]
theorem zipUp_get : ∀ (ds es : List D) (i : Nat) (x : D), (zipUp ds es)[i]? = some x → ∃ d e, ds[i]? = some d ∧ es[i]? = some e ∧ x = .tuple [d, e]
  | [], _, _, _, h => by simp [zipUp] at h
  | _ :: _, [], _, _, h => by simp [zipUp] at h
  | d :: ds, e :: es, 0, x, h => by simp [zipUp] at h; exact ⟨d, e, rfl, rfl, h.symm⟩
  | d :: ds, e :: es, i + 1, x, h => by
    have h' : (zipUp ds es)[i]? = some x := by simpa [zipUp] using h
    obtain ⟨d', e', a, b, c⟩ := zipUp_get ds es i x h'
    exact ⟨d', e', by simpa using a, by simpa using b, c⟩
theorem walk_zip {a b : Addr} {xs ys : List V} {ds es : List D} (h : Rd H a (.lst xs)) (f : F a) (r : RpA K F H xs ds) (h2 : Rd H b (.lst ys)) (f2 : F b) (r2 : RpA K F H ys es) : Walk K F H (Itz K a b) (zipUp ds es) where
  go := fun F' H' i st hi => by
    rw [zipUp_len] at hi
    obtain ⟨v, ev, _⟩ := r.get (List.getElem?_eq_getElem (show i < ds.length by omega))
    obtain ⟨v2, ev2, _⟩ := r2.get (List.getElem?_eq_getElem (show i < es.length by omega))
    exact ⟨xs, ys, v, v2, .inl (st.kept.rd h (.inl f)), .inl (st.kept.rd h2 (.inl f2)), ev, ev2⟩
  stop := fun F' H' st => ⟨xs, ys, .inl (st.kept.rd h (.inl f)), .inl (st.kept.rd h2 (.inl f2)), by have := r.length; have := r2.length; rw [zipUp_len]; omega⟩
  yld := fun F' H' i x H2 d st _ e y => by
    obtain ⟨T, v, v2, ex, hn, e1, y1, y2⟩ := y
    subst e1 ex
    obtain ⟨d', e', a1, a2, a3⟩ := zipUp_get _ _ _ _ e
    subst a3
    obtain ⟨w1, ew1, rw1⟩ := r.get a1
    obtain ⟨w2, ew2, rw2⟩ := r2.get a2
    have q1 := y1 xs (.inl (st.kept.rd h (.inl f)))
    have q2 := y2 ys (.inl (st.kept.rd h2 (.inl f2)))
    rw [ew1] at q1
    rw [ew2] at q2
    cases q1
    cases q2
    exact ⟨F', Grow.upd0 hn, rp_pair hn (st.rp rw1) (st.rp rw2)⟩
theorem walk_zipT {a b : Addr} {xs ys : List V} {ds es : List D} (h : SqT K H a xs) (r : RpA K F H xs ds) (h2 : SqT K H b ys) (r2 : RpA K F H ys es) : Walk K F H (ItzT K a b) (zipUp ds es) where
  go := fun F' H' i st hi => by
    rw [zipUp_len] at hi
    obtain ⟨v, ev, _⟩ := r.get (List.getElem?_eq_getElem (show i < ds.length by omega))
    obtain ⟨v2, ev2, _⟩ := r2.get (List.getElem?_eq_getElem (show i < es.length by omega))
    exact ⟨xs, ys, v, v2, st.kept.sqT h, st.kept.sqT h2, ev, ev2⟩
  stop := fun F' H' st => ⟨xs, ys, st.kept.sqT h, st.kept.sqT h2, by have := r.length; have := r2.length; rw [zipUp_len]; omega⟩
  yld := fun F' H' i x H2 d st _ e y => by
    obtain ⟨T, v, v2, ex, hn, e1, y1, y2⟩ := y
    subst e1 ex
    obtain ⟨d', e', a1, a2, a3⟩ := zipUp_get _ _ _ _ e
    subst a3
    obtain ⟨w1, ew1, rw1⟩ := r.get a1
    obtain ⟨w2, ew2, rw2⟩ := r2.get a2
    have q1 := y1 xs (st.kept.sqT h)
    have q2 := y2 ys (st.kept.sqT h2)
    rw [ew1] at q1
    rw [ew2] at q2
    cases q1
    cases q2
    exact ⟨F', Grow.upd0 hn, rp_pair hn (st.rp rw1) (st.rp rw2)⟩
end
section
variable {X : Cx} {W : XW} {tg e e2 : Expr} {fa fb : Dl → Re D} {fs : Dl → Re (List D)} {p pos tpos : Pos} {elts : List Expr} {kk : Nat}
theorem vi_any (h : VE X W e fa) : VI X W tg e (d1L itemsD fa) := PI.imp (pi_any h) fun σ H R ⟨F, δ, s, q⟩ => ⟨F, δ, s, ReW.bndL (N := fun ds F' H' => ∀ J, Walk X.K F' H' J ds → R J H') (q.imp fun ds _ n F' H' g J w => n J F' H' g w) fun d v F1 H1 _ g r n => by
  cases d with
  | list ds =>
    cases r with
    | lst a f t => exact .inl ⟨_, _, rfl, .inl a, n _ _ Grow.refl _ (walk_list a f t)⟩
  | tuple ds =>
    cases r with
    | tup a t => exact .inr (.inl ⟨_, _, rfl, a.sq, n _ _ Grow.refl _ (walk_tup a.sq t)⟩)
  | str z =>
    cases r
    exact .inr (.inr ⟨_, rfl, n _ _ Grow.refl _ walk_str⟩)
  | _ => exact n.elim⟩
def rng1D : List D → Re (List D)
  | [.int j] => if -(2 ^ 62) ≤ j ∧ j < 2 ^ 62 then .ok ((List.range j.toNat).map fun k => .int (0 + (k : Nat))) else .no
  | _ => .no
def rng2D : List D → Re (List D)
  | [.int i, .int j] => if -(2 ^ 62) ≤ i ∧ i < 2 ^ 62 ∧ -(2 ^ 62) ≤ j ∧ j < 2 ^ 62 then .ok ((List.range (j - i).toNat).map fun k => .int (i + (k : Nat))) else .no
  | _ => .no
def dAL (fs : Dl → Re (List D)) (g : List D → Re (List D)) (δ : Dl) : Re (List D) := (fs δ).bnd g
theorem ReW.bndA {R : Rel} {K : PySem.W.Frag} {F : Addr → Prop} {H : Hp} {ra : Re (List D)} {k : List D → Re (List D)} {N : List D → (Addr → Prop) → Hp → Prop} {Q' : List V → Hp → Prop} (h : ReW W F H (ra.bnd k) fun ds => ∀ F' H', Grow F H F' H' → N ds F' H')
    (q : ∀ d v F1 H1, ra = .ok d → Grow F H F1 H1 → RA R K F1 H1 v d → ReW W F1 H1 (k d) (fun ds => ∀ F' H', Grow F1 H1 F' H' → N ds F' H') → Q' v H1) : GoA W R K F H ra Q' := by
  cases ra with
  | ok d => exact fun v F1 H1 g p => q d v F1 H1 rfl g p (ReW.grow h g fun ds n F' H' g' => n F' H' (g.trans g'))
  | ex x => exact h
  | no => exact h
theorem vi_rng1 (hg : Gl X "range") (hm : X.mg "range" = none) (ha : VA X W Rp [e] fs) (hs : starEach [e] X.env = [(false, eval e X.env)] := by rfl) : VI X W tg (.Call (.Name "range" p) [e] [] pos) (dAL fs rng1D) := PI.imp (pi_range1 hg hm ha hs) fun σ H R ⟨F, δ, s, q⟩ => ⟨F, δ, s, ReW.bndA (N := fun ds F' H' => ∀ J, Walk X.K F' H' J ds → R J H') (q.imp fun ds _ n F' H' g J w => n J F' H' g w) fun d v F1 H1 _ g r n => by
  unfold rng1D at n
  split at n
  · rename_i j _
    split at n
    · rename_i c
      cases r with
      | cons r rr =>
        cases rr
        cases r
        exact ⟨j, rfl, c.1, c.2, n _ _ Grow.refl _ (walk_range 0 _)⟩
    · exact n.elim
  · exact n.elim⟩
theorem vi_rng2 (hg : Gl X "range") (hm : X.mg "range" = none) (ha : VA X W Rp [e, e2] fs) (hs : starEach [e, e2] X.env = [(false, eval e X.env), (false, eval e2 X.env)] := by rfl) (hs2 : starEach [e2] X.env = [(false, eval e2 X.env)] := by rfl) : VI X W tg (.Call (.Name "range" p) [e, e2] [] pos) (dAL fs rng2D) := PI.imp (pi_range2 hg hm ha hs hs2) fun σ H R ⟨F, δ, s, q⟩ => ⟨F, δ, s, ReW.bndA (N := fun ds F' H' => ∀ J, Walk X.K F' H' J ds → R J H') (q.imp fun ds _ n F' H' g J w => n J F' H' g w) fun d v F1 H1 _ g r n => by
  unfold rng2D at n
  split at n
  · rename_i i j _
    split at n
    · rename_i c
      cases r with
      | cons r rr =>
        cases rr with
        | cons r' rr =>
          cases rr
          cases r
          cases r'
          exact ⟨i, j, rfl, c, n _ _ Grow.refl _ (walk_range i _)⟩
    · exact n.elim
  · exact n.elim⟩
def enumD : List D → Re (List D)
  | [.list ds] => .ok (pairUp 0 ds)
  | [.tuple ds] => .ok (pairUp 0 ds)
  | _ => .no
theorem vi_enum (hg : Gl X "enumerate") (hm : X.mg "enumerate" = none) (ha : VA X W Rp [e] fs) (hs : starEach [e] X.env = [(false, eval e X.env)] := by rfl) : VI X W (.Tuple elts kk tpos) (.Call (.Name "enumerate" p) [e] [] pos) (dAL fs enumD) := PI.imp (pi_enumA hg hm ha hs) fun σ H R ⟨F, δ, s, q⟩ => ⟨F, δ, s, ReW.bndA (N := fun ds F' H' => ∀ J, Walk X.K F' H' J ds → R J H') (q.imp fun ds _ n F' H' g J w => n J F' H' g w) fun d v F1 H1 _ g r n => by
  unfold enumD at n
  split at n
  · cases r with
    | cons r rr =>
      cases rr
      cases r with
      | lst a f t => exact ⟨_, _, rfl, .inl ⟨.inl a, n _ _ Grow.refl _ (walk_enum a f t)⟩⟩
  · cases r with
    | cons r rr =>
      cases rr
      cases r with
      | tup a t => exact ⟨_, _, rfl, .inr ⟨a.sq, n _ _ Grow.refl _ (walk_enumT a.sq t)⟩⟩
  · exact n.elim⟩
def zipD : List D → Re (List D)
  | [.list ds, .list es] => .ok (zipUp ds es)
  | [.tuple ds, .tuple es] => .ok (zipUp ds es)
  | _ => .no
theorem vi_zip (hg : Gl X "zip") (hm : X.mg "zip" = none) (ha : VA X W Rp [e, e2] fs) (hs : starEach [e, e2] X.env = (false, eval e X.env) :: starEach [e2] X.env := by rfl) (hpl : (backTo pos (starEach [e2] X.env)).any (·.1) = false := by rfl) : VI X W (.Tuple elts kk tpos) (.Call (.Name "zip" p) [e, e2] [] pos) (dAL fs zipD) := PI.imp (pi_zipA hg hm ha hs hpl) fun σ H R ⟨F, δ, s, q⟩ => ⟨F, δ, s, ReW.bndA (N := fun ds F' H' => ∀ J, Walk X.K F' H' J ds → R J H') (q.imp fun ds _ n F' H' g J w => n J F' H' g w) fun d v F1 H1 _ g r n => by
  unfold zipD at n
  split at n
  · cases r with
    | cons r rr =>
      cases rr with
      | cons r' rr =>
        cases rr
        cases r with
        | lst a f t =>
          cases r' with
          | lst a2 f2 t2 => exact ⟨_, _, _, _, rfl, .inl ⟨.inl a, .inl a2, n _ _ Grow.refl _ (walk_zip a f t a2 f2 t2)⟩⟩
  · cases r with
    | cons r rr =>
      cases rr with
      | cons r' rr =>
        cases rr
        cases r with
        | tup a t =>
          cases r' with
          | tup a2 t2 => exact ⟨_, _, _, _, rfl, .inr ⟨a.sq, a2.sq, n _ _ Grow.refl _ (walk_zipT a.sq t a2.sq t2)⟩⟩
  · exact n.elim⟩
end
end VS
end
section
namespace VS
open PySem PySem.Spec PyProof.Rows L2

/-! ### targets -/
structure Upd (K : PySem.W.Frag) (F : Addr → Prop) (H : Hp) (ts : List Nat) (σ : L2.St) (δ : Dl) (σ' : L2.St) (δ' : Dl) : Prop where
  lσ : σ'.length = σ.length
  lδ : δ'.length = δ.length
  out : ∀ j : Nat, j ∉ ts → σ'[j]? = σ[j]? ∧ δ'[j]? = δ[j]?
  into : ∀ j : Nat, j ∈ ts → ∀ s, δ'[j]? = some s → ∃ d v, s = Sl.sh d ∧ σ'[j]? = some (some v) ∧ Rp K F H v d
theorem Upd.refl {K : PySem.W.Frag} {F : Addr → Prop} {H : Hp} {σ : L2.St} {δ : Dl} : Upd K F H [] σ δ σ δ := ⟨rfl, rfl, fun _ _ => ⟨rfl, rfl⟩, fun _ h => nomatch h⟩
theorem Upd.trans {K : PySem.W.Frag} {F : Addr → Prop} {H : Hp} {t1 t2 : List Nat} {σ σ1 σ2 : L2.St} {δ δ1 δ2 : Dl} (a : Upd K F H t1 σ δ σ1 δ1) (b : Upd K F H t2 σ1 δ1 σ2 δ2) : Upd K F H (t1 ++ t2) σ δ σ2 δ2 where
  lσ := b.lσ.trans a.lσ
  lδ := b.lδ.trans a.lδ
  out := fun j h => by
    rw [List.mem_append, not_or] at h
    exact ⟨(b.out j h.2).1.trans (a.out j h.1).1, (b.out j h.2).2.trans (a.out j h.1).2⟩
  into := fun j h s e => by
    by_cases h2 : j ∈ t2
    · exact b.into j h2 s e
    · rw [(b.out j h2).2] at e
      rw [(b.out j h2).1]
      exact a.into j ((List.mem_append.mp h).elim id fun z => (h2 z).elim) s e
theorem Sok.upd {K : PySem.W.Frag} {F0 : Addr → Prop} {H0 : Hp} {F : Addr → Prop} {H : Hp} {ts : List Nat} {σ σ' : L2.St} {δ δ' : Dl} (s : Sok K F0 H0 F H σ δ) (u : Upd K F H ts σ δ σ' δ') : Sok K F0 H0 F H σ' δ' where
  len := u.lδ.trans (s.len.trans u.lσ.symm)
  g := s.g
  d0 := s.d0
  dom := s.dom
  sh := fun i d e => by
    by_cases h : i ∈ ts
    · obtain ⟨d', v, e1, e2, r⟩ := u.into i h _ e
      cases e1
      exact ⟨v, e2, r⟩
    · rw [(u.out i h).2] at e
      rw [(u.out i h).1]
      exact s.sh i d e
  ow := fun i d e => by
    by_cases h : i ∈ ts
    · obtain ⟨d', v, e1, e2, r⟩ := u.into i h _ e
      cases e1
    · rw [(u.out i h).2] at e
      rw [(u.out i h).1]
      exact s.ow i d e
  br := fun i d e => by
    by_cases h : i ∈ ts
    · obtain ⟨d', v, e1, e2, r⟩ := u.into i h _ e
      cases e1
    · rw [(u.out i h).2] at e
      rw [(u.out i h).1]
      exact s.br i d e
  ne := fun i j d e a h1 h2 h3 h4 => by
    by_cases hi : i ∈ ts
    · obtain ⟨_, _, e1, _⟩ := u.into i hi _ h1
      cases e1
    · by_cases hj : j ∈ ts
      · obtain ⟨_, _, e1, _⟩ := u.into j hj _ h2
        cases e1
      · rw [(u.out i hi).2] at h1
        rw [(u.out j hj).2] at h2
        rw [(u.out i hi).1] at h3
        rw [(u.out j hj).1] at h4
        exact s.ne i j d e a h1 h2 h3 h4
theorem SokE.upd {K : PySem.W.Frag} {F : Addr → Prop} {H : Hp} {ts : List Nat} {σ σ' : L2.St} {δ δ' : Dl} (s : SokE K F H σ δ) (u : Upd K F H ts σ δ σ' δ') : SokE K F H σ' δ' where
  len := u.lδ.trans (s.len.trans u.lσ.symm)
  dom := s.dom
  sl := fun i x e => by
    by_cases h : i ∈ ts
    · obtain ⟨d', v, e1, e2, r⟩ := u.into i h _ e
      subst e1
      exact ⟨v, e2, r⟩
    · rw [(u.out i h).2] at e
      have q := s.sl i x e
      have eo := (u.out i h).1
      cases x with
      | no => trivial
      | sh d => obtain ⟨v, e1, r⟩ := q; exact ⟨v, eo.trans e1, r⟩
      | ow d => obtain ⟨v, e1, r⟩ := q; exact ⟨v, eo.trans e1, r⟩
      | br d => obtain ⟨v, e1, r⟩ := q; exact ⟨v, eo.trans e1, r⟩
abbrev Bd := D → Dl → Option Dl
abbrev Bds := List D → Dl → Option Dl
def tG (K : PySem.W.Frag) (ts : List Nat) (b : Bd) : TG := fun v σ H Q => ∃ F δ d δ', δ.length = σ.length ∧ Rp K F H v d ∧ b d δ = some δ' ∧ ∀ σ', Upd K F H ts σ δ σ' δ' → Q σ' H
def tGs (K : PySem.W.Frag) (ts : List Nat) (b : Bds) : TGs := fun vs σ H Q => ∃ F δ ds δ', δ.length = σ.length ∧ RpA K F H vs ds ∧ b ds δ = some δ' ∧ ∀ σ', Upd K F H ts σ δ σ' δ' → Q σ' H
abbrev VG (X : Cx) (tg : Expr) (ts : List Nat) (b : Bd) : Prop := PG X tg (tG X.K ts b)
abbrev VGs (X : Cx) (tgs : List Expr) (ts : List Nat) (b : Bds) : Prop := PGs X tgs (tGs X.K ts b)
theorem PG.imp {X : Cx} {tg : Expr} {t t' : TG} (h : PG X tg t) (w : ∀ v σ H Q, t' v σ H Q → t v σ H Q) : PG X tg t' := ⟨fun pins s σ H v u Q I r q => h.run pins s σ H v u Q I r (w _ _ _ _ q)⟩
theorem PGs.imp {X : Cx} {tg : List Expr} {t t' : TGs} (h : PGs X tg t) (w : ∀ v σ H Q, t' v σ H Q → t v σ H Q) : PGs X tg t' := ⟨fun pins s σ H v u Q I r q => h.run pins s σ H v u Q I r (w _ _ _ _ q)⟩
theorem PG.or {X : Cx} {tg : Expr} {t t' : TG} (h : PG X tg t) (h' : PG X tg t') : PG X tg (fun v σ H Q => t v σ H Q ∨ t' v σ H Q) := ⟨fun pins s σ H v u Q I r q => q.elim (h.run pins s σ H v u Q I r) (h'.run pins s σ H v u Q I r)⟩
section
variable {X : Cx} {pos : Pos}
def bN (i : Nat) : Bd := fun d δ => some (δ.set i (.sh d))
theorem vg_name {i : Nat} {x : Str} (hN : X.N.Nodup) (hi : X.N[i]? = some x) (hx : Loc X.env.scope x) (hf : X.fn x = true ∨ X.env.scope.names.lookup x = some .local := by first | exact .inl rfl | exact .inr rfl) : VG X (.Name x pos) [i] (bN i) :=
  PG.imp (pg_name hN hi hx hf) fun v σ H Q ⟨F, δ, d, δ', hl, r, e, q⟩ => by
    cases e
    refine q _ ⟨by rw [List.length_set], by rw [List.length_set], fun j hj => ?_, fun j hj s es => ?_⟩
    · have n : i ≠ j := fun z => hj (by simp [z])
      exact ⟨List.getElem?_set_ne n, List.getElem?_set_ne n⟩
    · have n : j = i := by simpa using hj
      subst n
      obtain ⟨e1, hlt⟩ := get_set_eq es
      exact ⟨d, v, e1, by rw [List.getElem?_set_self (by rw [← hl]; exact hlt)], r⟩
def bNil : Bds := fun ds δ => match ds with
  | [] => some δ
  | _ => none
def bCons (b : Bd) (bs : Bds) : Bds := fun ds δ => match ds with
  | d :: ds => (b d δ).bind (bs ds)
  | [] => none
theorem vgs_nil : VGs X [] [] bNil := PGs.imp pgs_nil fun vs σ H Q ⟨F, δ, ds, δ', hl, r, e, q⟩ => by
  cases r with
  | nil => cases e; exact ⟨rfl, q σ .refl⟩
  | cons _ _ => cases e
theorem vgs_cons {e : Expr} {es : List Expr} {t1 t2 : List Nat} {b : Bd} {bs : Bds} (h1 : VG X e t1 b) (h2 : VGs X es t2 bs)
    (hs : (assignEach (e :: es) X.env).map (·.2) = assign e X.env :: (assignEach es X.env).map (·.2) := by rfl) : VGs X (e :: es) (t1 ++ t2) (bCons b bs) := PGs.imp (pgs_cons h1 h2 hs) fun vs0 σ H Q ⟨F, δ, ds0, δ', hl, r, e, q⟩ => by
  cases r with
  | nil => cases e
  | @cons v vs d ds r rr =>
    have e : (b d δ).bind (bs ds) = some δ' := e
    cases eb : b d δ with
    | none => rw [eb] at e; cases e
    | some δ1 =>
      rw [eb] at e
      refine ⟨v, vs, rfl, F, δ, d, δ1, hl, r, eb, fun σ1 u1 => ⟨F, δ1, ds, δ', u1.lδ.trans (hl.trans u1.lσ.symm), rr, e, fun σ2 u2 => q σ2 (u1.trans u2)⟩⟩
def bT (n : Nat) (bs : Bds) : Bd := fun d δ => match d with
  | .tuple ds => if ds.length = n then bs ds δ else none
  | .list ds => if ds.length = n then bs ds δ else none
  | _ => none
theorem vg_tup {es : List Expr} {k : Nat} {ts : List Nat} {bs : Bds} {n : Nat} (hc : X.calm = true) (h : VGs X es ts bs)
    (hn : (assignEach es X.env).length = n := by rfl) (hst : (assignEach es X.env).findIdx? (·.1) = none := by rfl) : VG X (.Tuple es k pos) ts (bT n bs) := PG.imp (VS.PG.or (pg_tup hc h hn hst) (pg_lst hc h hn hst)) fun v σ H Q ⟨F, δ, d, δ', hl, r, e, q⟩ => by
  unfold bT at e
  split at e
  · split at e
    · rename_i en
      cases r with
      | tup a t => exact .inl ⟨_, _, rfl, a.sq, by rw [t.length]; exact en, F, δ, _, δ', hl, t, e, q⟩
    · cases e
  · split at e
    · rename_i en
      cases r with
      | lst a f t => exact .inr ⟨_, _, rfl, .inl a, by rw [t.length]; exact en, F, δ, _, δ', hl, t, e, q⟩
    · cases e
  · cases e
end

/-! ### for, while -/
def goS (b : Bd) (body : Dl → RS) : List D → Dl → RS
  | [], δ => .nx δ
  | d :: ds, δ => match b d δ with
    | none => .no
    | some δ1 => match body δ1 with
      | .nx δ2 => goS b body ds δ2
      | .ct δ2 => goS b body ds δ2
      | .bk δ2 => .nx δ2
      | .rt r => .rt r
      | .ex x => .ex x
      | .no => .no
def forS (items : Dl → Re (List D)) (b : Bd) (body : Dl → RS) (δ : Dl) : RS := toS (items δ) fun ds => goS b body ds δ
def whileS (t : Dl → Re Bool) (body : Dl → RS) : Nat → Dl → RS
  | 0, _ => .no
  | n + 1, δ => toS (t δ) fun c => if c = true then (match body δ with
      | .nx δ2 => whileS t body n δ2
      | .ct δ2 => whileS t body n δ2
      | .bk δ2 => .nx δ2
      | .rt r => .rt r
      | .ex x => .ex x
      | .no => .no) else .nx δ
section
variable {X : Cx} {W : XW} {pos : Pos} {body : List Stmt} {f : Dl → RS}
theorem SO.goL {K : PySem.W.Frag} {F0 : Addr → Prop} {H0 : Hp} {F : Addr → Prop} {H : Hp} {σ : L2.St} {δ : Dl} {D' : Ends} {r : Re (List PyData)} {k : List PyData → RS} {N : List PyData → (Addr → Prop) → Hp → Prop} (s : Sok K F0 H0 F H σ δ) (h : SO K W F0 H0 F H D' (toS r k))
    (q : ∀ ds, r = .ok ds → ∀ F' H', Grow F H F' H' → SO K W F0 H0 F' H' D' (k ds) → N ds F' H') : ReW W F H r fun ds => ∀ F' H', Grow F H F' H' → N ds F' H' := by
  cases r with
  | ok ds => exact fun F' H' g => q ds rfl F' H' g (SO.stay h g.stay)
  | ex x => exact fun F' H' g => h F' H' g.stay (s.g.trans g)
  | no => exact h
theorem vs_for {tg iter : Expr} {ts : List Nat} {b : Bd} {fi : Dl → Re (List D)} (hp : PassesOwn (model X.prog X.w) X.A X.env X.xe) (hc : X.calm = true) (hi : VI X W tg iter fi) (hg : VG X tg ts b) (hb : VSs X W body f)
    (hs : ∀ x, foldedSetIterable iter X.env x = pure x := by intro _; rfl) : VSt X W (.For tg iter body [] pos) (forS fi b f) := PS.imp (ps_for hp hc hi hg hb hs) fun D σ H ⟨F0, H0, F, δ, s, q⟩ => by
  refine ⟨F, δ, s.e, ReW.imp (SO.goL (N := fun ds F' H' => ∀ J, Walk X.K F' H' J ds → ∃ V : Nat → Nat → L2.St → Hp → Prop, (∃ m, V 0 m σ H') ∧ ∀ i m σ H, V i m σ H →
    (J.stop i H ∧ D.nx σ H) ∨ (J.go i H ∧ ∃ N : L2.St → Hp → Prop, (∀ σ' H', N σ' H' → ∃ m', m' < m ∧ V (i + 1) m' σ' H') ∧ ∀ x H', J.yld i H x H' → tG X.K ts b x σ H' fun σ2 H2 => tS X.K W f { D with nx := N, ct := N, bk := D.nx } σ2 H2)) s q fun ds e F1 H1 g1 h1 J w => ?_) fun ds _ n J F' H' g w => n F' H' g J w⟩
  refine ⟨fun i m σ' H' => m = ds.length - i ∧ i ≤ ds.length ∧ ∃ F' δ', Stay F1 H1 F' H' ∧ Sok X.K F0 H0 F' H' σ' δ' ∧ SO X.K W F0 H0 F' H' D (goS b f (ds.drop i) δ'), ⟨ds.length, by simp, Nat.zero_le _, F1, δ, Stay.refl, s.grow g1, by simpa using h1⟩, ?_⟩
  rintro i m σ' H' ⟨rfl, hle, F', δ', st, so, w'⟩
  by_cases hlt : i < ds.length
  · refine .inr ⟨w.go F' H' i st hlt, fun σ3 H3 => i + 1 ≤ ds.length ∧ ∃ F3 δ3, Stay F1 H1 F3 H3 ∧ Sok X.K F0 H0 F3 H3 σ3 δ3 ∧ SO X.K W F0 H0 F3 H3 D (goS b f (ds.drop (i + 1)) δ3), fun σ3 H3 ⟨a, c⟩ => ⟨ds.length - (i + 1), by omega, rfl, a, c⟩, fun x H2 y => ?_⟩
    obtain ⟨F2, g2, rx⟩ := w.yld F' H' i x H2 ds[i] st so.dom (List.getElem?_eq_getElem hlt) y
    rw [List.drop_eq_getElem_cons hlt] at w'
    unfold goS at w'
    cases eb : b ds[i] δ' with
    | none => rw [eb] at w'; exact w'.elim
    | some δ1 =>
      rw [eb] at w'
      refine ⟨F2, δ', ds[i], δ1, so.len, rx, eb, fun σ2 u2 => ?_⟩
      refine ⟨F0, H0, F2, δ1, (so.grow g2).upd u2, ?_⟩
      have w2 := SO.stay w' g2.stay
      have st2 := st.trans g2.stay
      simp only at w2
      generalize f δ1 = o at w2 ⊢
      cases o with
      | nx δ2 => exact fun F3 H3 σ3 st3 s3 => ⟨hlt, F3, δ2, st2.trans st3, s3, SO.stay w2 st3⟩
      | ct δ2 => exact fun F3 H3 σ3 st3 s3 => ⟨hlt, F3, δ2, st2.trans st3, s3, SO.stay w2 st3⟩
      | bk δ2 => exact w2
      | rt r => exact w2
      | ex x => exact w2
      | no => exact w2
  · have e : i = ds.length := by omega
    subst e
    rw [List.drop_length] at w'
    exact .inl ⟨w.stop F' H' st, w' F' H' σ' Stay.refl so⟩
theorem vs_while {c : Expr} {t : Dl → Re Bool} (n : Nat) (hp : PassesOwn (model X.prog X.w) X.A X.env X.xe) (hc : VT X W c t) (hb : VSs X W body f) : VSt X W (.While c body [] pos) (whileS t f n) := PS.imp (ps_while hp hc hb) fun D σ H ⟨F0, H0, F, δ, s, q⟩ => by
  refine ⟨fun m σ' H' => ∃ F' δ', Sok X.K F0 H0 F' H' σ' δ' ∧ SO X.K W F0 H0 F' H' D (whileS t f m δ'), ⟨n, F, δ, s, q⟩, ?_⟩
  rintro m σ' H' ⟨F', δ', so, w'⟩
  cases m with
  | zero => exact w'.elim
  | succ m =>
    unfold whileS at w'
    refine ⟨F', δ', so.e, SO.goT so w' fun c F1 H1 e g h1 => ?_⟩
    cases c with
    | false =>
      rw [if_neg Bool.false_ne_true] at h1 ⊢
      exact h1 F1 H1 σ' Stay.refl (so.grow g)
    | true =>
      rw [if_pos rfl] at h1 ⊢
      refine ⟨fun σ3 H3 => ∃ F3 δ3, Sok X.K F0 H0 F3 H3 σ3 δ3 ∧ SO X.K W F0 H0 F3 H3 D (whileS t f m δ3), fun σ3 H3 h => ⟨m, Nat.lt_succ_self _, h⟩, F0, H0, F1, δ', so.grow g, ?_⟩
      generalize f δ' = o at h1 ⊢
      cases o with
      | nx δ2 => exact fun F3 H3 σ3 st3 s3 => ⟨F3, δ2, s3, SO.stay h1 st3⟩
      | ct δ2 => exact fun F3 H3 σ3 st3 s3 => ⟨F3, δ2, s3, SO.stay h1 st3⟩
      | bk δ2 => exact h1
      | rt r => exact h1
      | ex x => exact h1
      | no => exact h1
end

/-! ### list comprehensions -/
def nxR {α : Type} : Re α → Re α
  | .ok a => .ok a
  | _ => .no
@[simp] theorem nxR_ok {α : Type} (a : α) : nxR (.ok a) = .ok a := Eq.trans rfl (Eq.refl _)
@[simp] theorem nxR_no {α : Type} : nxR (.no : Re α) = .no := Eq.trans rfl (Eq.refl _)
def wipeD (δ : Dl) : List Nat → Dl
  | [] => δ
  | v :: vs => (wipeD δ vs).set v .no
theorem wipeD_length (δ : Dl) : ∀ vs : List Nat, (wipeD δ vs).length = δ.length
  | [] => rfl
  | v :: vs => by unfold wipeD; rw [List.length_set, wipeD_length δ vs]
theorem wipeD_some {δ : Dl} {i : Nat} {s : Sl} : ∀ {vs : List Nat}, (wipeD δ vs)[i]? = some s → s ≠ .no → δ[i]? = some s ∧ i ∉ vs
  | [], h, _ => ⟨h, by simp⟩
  | v :: vs, h, ns => by
    unfold wipeD at h
    by_cases hi : v = i
    · subst hi
      exact (ns (get_set_eq h).1).elim
    · obtain ⟨h1, h2⟩ := wipeD_some (get_set_ne h hi) ns
      exact ⟨h1, by simp only [List.mem_cons, not_or]; exact ⟨fun e => hi e.symm, h2⟩⟩
theorem wipe_get {σ : L2.St} {i : Nat} : ∀ {vs : List Nat}, i ∉ vs → (wipe σ vs)[i]? = σ[i]? := fun h => wipe_out h
theorem SokE.wipe {K : PySem.W.Frag} {F : Addr → Prop} {H : Hp} {σ : L2.St} {δ : Dl} (s : SokE K F H σ δ) (vs : List Nat) : SokE K F H (L2.wipe σ vs) (wipeD δ vs) where
  len := by rw [wipeD_length, wipe_length]; exact s.len
  dom := s.dom
  sl := fun i x e => by
    cases x with
    | no => trivial
    | sh d =>
      obtain ⟨e1, e2⟩ := wipeD_some e (fun z => nomatch z)
      obtain ⟨v, ev, r⟩ := s.sl i _ e1
      exact ⟨v, (wipe_out e2).trans ev, r⟩
    | ow d =>
      obtain ⟨e1, e2⟩ := wipeD_some e (fun z => nomatch z)
      obtain ⟨v, ev, r⟩ := s.sl i _ e1
      exact ⟨v, (wipe_out e2).trans ev, r⟩
    | br d =>
      obtain ⟨e1, e2⟩ := wipeD_some e (fun z => nomatch z)
      obtain ⟨v, ev, r⟩ := s.sl i _ e1
      exact ⟨v, (wipe_out e2).trans ev, r⟩
theorem wipe_in {σ : L2.St} {i : Nat} : ∀ {vs : List Nat}, i ∈ vs → (wipe σ vs)[i]? = none ∨ (wipe σ vs)[i]? = some none
  | v :: vs, h => by
    unfold wipe
    by_cases e : v = i
    · subst e
      by_cases hl : v < (wipe σ vs).length
      · exact .inr (List.getElem?_set_self hl)
      · exact .inl (List.getElem?_eq_none (by simpa using hl))
    · rw [List.getElem?_set_ne e]
      exact wipe_in ((List.mem_cons.mp h).elim (fun z => (e z.symm).elim) id)
theorem wipe_same {σ σ' : L2.St} {vs : List Nat} (hl : σ'.length = σ.length) (h : ∀ j, j ∉ vs → σ'[j]? = σ[j]?) : wipe σ' vs = wipe σ vs := by
  apply List.ext_getElem?
  intro i
  by_cases hi : i ∈ vs
  · have l1 := wipe_length σ' vs
    have l2 := wipe_length σ vs
    rcases wipe_in (σ := σ') hi with e1 | e1 <;> rcases wipe_in (σ := σ) hi with e2 | e2
    · rw [e1, e2]
    · have a := List.getElem?_eq_none_iff.mp e1
      have b := (List.getElem?_eq_some_iff.mp e2).1
      omega
    · have a := List.getElem?_eq_none_iff.mp e2
      have b := (List.getElem?_eq_some_iff.mp e1).1
      omega
    · rw [e1, e2]
  · rw [wipe_out hi, wipe_out hi, h i hi]
theorem wipe_wipe {σ : L2.St} {vs : List Nat} : wipe (wipe σ vs) vs = wipe σ vs := wipe_same (wipe_length _ _) fun j hj => wipe_out hj
theorem Upd.wipe {K : PySem.W.Frag} {F : Addr → Prop} {H : Hp} {ts vs : List Nat} {σ σ' : L2.St} {δ δ' : Dl} (u : Upd K F H ts (L2.wipe σ vs) δ σ' δ') (h : ∀ j ∈ ts, j ∈ vs) : L2.wipe σ' vs = L2.wipe σ vs := by
  rw [← wipe_wipe (σ := σ)]
  exact wipe_same u.lσ fun j hj => (u.out j fun z => hj (h j z)).1
/-- a new object that was filled on the way -/
structure POwn (K : PySem.W.Frag) (P : PP) : Prop extends PNew K P where
  own : ∀ {F H F' H' p d}, Grow F H F' H' → H p = none → ¬ F' p → RpO K F' H' p d → ∃ F2, Grow F H F2 H' ∧ P F H F2 H' (.ref p) d
theorem RpO.some {K : PySem.W.Frag} {F : Addr → Prop} {H : Hp} {a : Addr} {d : D} (o : RpO K F H a d) : H a ≠ none := by
  obtain ⟨u, hu, _⟩ := o.there
  rw [hu]
  exact fun z => nomatch z
theorem pS_own {K : PySem.W.Frag} : POwn K (pS K) where
  toPNew := pS_new
  own := fun g h nf o => ⟨_, g.freeze h o.some, o.froz⟩
theorem pB_own {K : PySem.W.Frag} : POwn K (pB K) where
  toPNew := pB_new
  own := fun g h nf o => ⟨_, g.freeze h o.some, o.froz.b⟩
theorem pF_own {K : PySem.W.Frag} : POwn K (pF K) where
  toPNew := pF_new
  own := fun g h nf o => ⟨_, g, _, rfl, h, nf, o⟩
theorem kept_upd {F : Addr → Prop} {H : Hp} {p : Addr} {o o' : HO} (nf : ¬ F p) (h : H p = some o) (m : Mut (some o)) : Kept F H (upd H p o') := fun a u e c => by
  have n : a ≠ p := fun z => by
    subst z
    rcases c with c | c
    · exact nf c
    · rw [h] at e; cases e; exact c m
  rw [upd_ne n]; exact e
/-- growth, then the new object at p is written -/
theorem Grow.wrote {F F' : Addr → Prop} {H H' : Hp} {p : Addr} {o' : HO} (g : Grow F H F' H') (h : H p = none) : Grow F H F' (upd H' p o') where
  sub := g.sub
  new := g.new
  same := fun a u e => by rw [upd_ne (ne_of_none e h)]; exact g.same a u e
  dom := fun dm a fa => by
    by_cases e : a = p
    · subst e; exact upd_some
    · rw [upd_ne e]; exact g.dom dm a fa
theorem Grow.notF {F F' : Addr → Prop} {H H' : Hp} {p : Addr} (g : Grow F H F' H') (nf : ¬ F p) (h : H p ≠ none) : ¬ F' p := fun f => (g.new p f).elim nf h
def lcL (b : Bd) (t : Dl → Re Bool) (e : Dl → Re D) (δ : Dl) : List D → Re (List D)
  | [] => .ok []
  | d :: ds => match b d δ with
    | none => .no
    | some δ1 => (nxR (t δ1)).bnd fun c => if c = true then (nxR (e δ1)).bnd fun y => (lcL b t e δ ds).bnd fun ys => .ok (y :: ys) else lcL b t e δ ds
def lcD (vs : List Nat) (items : Dl → Re (List D)) (b : Bd) (t : Dl → Re Bool) (e : Dl → Re D) (δ : Dl) : Re D :=
  (items δ).bnd fun ds => if ds.length ≤ sizeLine then (lcL b t e (wipeD δ vs) ds).bnd fun ys => .ok (.list ys) else .no
def yesT : Dl → Re Bool := fun _ => .ok true
abbrev VTs (X : Cx) (ifs : List Expr) (t : Dl → Re Bool) : Prop := PTs X ifs (tT X.K XW0 t)
theorem PTs.imp {X : Cx} {ifs : List Expr} {t t' : TT} (h : PTs X ifs t) (w : ∀ σ H Q, t' σ H Q → t σ H Q) : PTs X ifs t' := ⟨fun pins s σ H Q I q => h.run pins s σ H Q I (w _ _ _ q)⟩
theorem vts_nil {X : Cx} : VTs X [] yesT := PTs.imp pts_nil fun σ H Q ⟨F, δ, s, q⟩ => q F H Grow.refl
theorem vts_one {X : Cx} {c : Expr} {t : Dl → Re Bool} (h : VT X XW0 c t) : VTs X [c] t := pts_one h
theorem lcL_ok {b : Bd} {t : Dl → Re Bool} {e : Dl → Re D} {δ : Dl} {d : D} {ds zs : List D} (h : lcL b t e δ (d :: ds) = .ok zs) : ∃ δ1 c, b d δ = some δ1 ∧ t δ1 = .ok c ∧ ((c = true ∧ ∃ y ys, e δ1 = .ok y ∧ lcL b t e δ ds = .ok ys ∧ zs = y :: ys) ∨ (c = false ∧ lcL b t e δ ds = .ok zs)) := by
  unfold lcL at h
  cases eb : b d δ with
  | none => rw [eb] at h; cases h
  | some δ1 =>
    rw [eb] at h
    cases et : t δ1 with
    | ex x => simp only [et, nxR, bnd_no] at h; cases h
    | no => simp only [et, nxR, bnd_no] at h; cases h
    | ok c =>
      simp only [et, nxR, bnd_ok] at h
      refine ⟨δ1, c, rfl, et, ?_⟩
      cases c with
      | false => rw [if_neg Bool.false_ne_true] at h; exact .inr ⟨rfl, h⟩
      | true =>
        rw [if_pos rfl] at h
        cases ee : e δ1 with
        | ex x => simp only [ee, nxR, bnd_no] at h; cases h
        | no => simp only [ee, nxR, bnd_no] at h; cases h
        | ok y =>
          simp only [ee, nxR, bnd_ok] at h
          cases er : lcL b t e δ ds with
          | ex x => rw [er] at h; cases h
          | no => rw [er] at h; cases h
          | ok ys => rw [er] at h; cases h; exact .inl ⟨rfl, y, ys, rfl, rfl, rfl⟩
section
variable {X : Cx} {W : XW} {P : PP} {pos : Pos}
theorem Go.lcEx {F : Addr → Prop} {H : Hp} {r : Re (List D)} {Q : VK} (h : Go W P F H (r.bnd fun ys => .ok (PyData.list ys)) Q) (nx : ∀ x, r ≠ .ex x) : ∃ ys, r = .ok ys ∧ Go W P F H (.ok (.list ys)) Q := by
  cases r with
  | ok ys => exact ⟨ys, rfl, h⟩
  | ex x => exact (nx x rfl).elim
  | no => exact h.elim
theorem lcL_ex {b : Bd} {t : Dl → Re Bool} {e : Dl → Re D} {δ : Dl} {x : Xn} : ∀ ds : List D, lcL b t e δ ds ≠ .ex x
  | [] => fun h => nomatch h
  | d :: ds => fun h => by
    unfold lcL at h
    cases eb : b d δ with
    | none => rw [eb] at h; cases h
    | some δ1 =>
      rw [eb] at h
      cases et : t δ1 with
      | ex x => simp only [et, nxR, bnd_no] at h; cases h
      | no => simp only [et, nxR, bnd_no] at h; cases h
      | ok c =>
        simp only [et, nxR, bnd_ok] at h
        cases c with
        | false => rw [if_neg Bool.false_ne_true] at h; exact lcL_ex ds h
        | true =>
          rw [if_pos rfl] at h
          cases ee : e δ1 with
          | ex x => simp only [ee, nxR, bnd_no] at h; cases h
          | no => simp only [ee, nxR, bnd_no] at h; cases h
          | ok y =>
            simp only [ee, nxR, bnd_ok] at h
            cases er : lcL b t e δ ds with
            | ex x' => exact (lcL_ex ds er).elim
            | no => rw [er] at h; cases h
            | ok ys => rw [er] at h; cases h
/-- the comprehension's reading, from the values -/
theorem t_lc {ts vs : List Nat} {fi : Dl → Re (List D)} {b : Bd} {t : Dl → Re Bool} {e : Dl → Re D} {K : PySem.W.Frag} (hP : POwn K P) (hts : ∀ j ∈ ts, j ∈ vs) {σ : L2.St} {H : Hp} {Q : VK} (h : tP K W P (lcD vs fi b t e) σ H Q) :
    tLc (tI K W fi) (tG K ts b) (tT K XW0 t) (tP K XW0 (pS K) e) vs σ H Q := by
  obtain ⟨F, δ, s, h⟩ := h
  refine ⟨F, δ, s, ?_⟩
  change ReW W F H ((fi δ).bnd _) _ at h
  cases ef : fi δ with
  | no => rw [ef] at h; exact h
  | ex x => rw [ef] at h; exact h
  | ok ds =>
    rw [ef] at h
    rw [bnd_ok] at h
    intro J F1 H1 g1 w D0 hD
    split at h
    · rename_i hsz
      obtain ⟨all, eall, h⟩ := Go.lcEx (P := P) h (fun x => lcL_ex ds)
      refine ⟨fun i m H' => m = ds.length - i ∧ i ≤ ds.length ∧ ∃ F' acc ys zs, Grow F1 H1 F' H' ∧ H' D0 = some (.lst acc) ∧ ¬ F' D0 ∧ RpA K F' H' acc ys ∧ acc.length ≤ i ∧ lcL b t e (wipeD δ vs) (ds.drop i) = .ok zs ∧ all = ys ++ zs, ⟨ds.length, by simp, Nat.zero_le _, F1, [], [], all, Grow.upd0 hD, upd_same, fun f => g1.dom s.dom _ f hD, .nil, Nat.le_refl _, by simpa using eall, rfl⟩, ?_⟩
      rintro i m H' ⟨rfl, hle, F', acc, ys, zs, g2, hacc, nf, ra, hl, ez, ea⟩
      have s1 := ((s.grow g1).grow g2)
      by_cases hlt : i < ds.length
      · refine .inr ⟨w.go F' H' i g2.stay hlt, fun H3 => i + 1 ≤ ds.length ∧ ∃ F' acc ys zs, Grow F1 H1 F' H3 ∧ H3 D0 = some (.lst acc) ∧ ¬ F' D0 ∧ RpA K F' H3 acc ys ∧ acc.length ≤ i + 1 ∧ lcL b t e (wipeD δ vs) (ds.drop (i + 1)) = .ok zs ∧ all = ys ++ zs, fun H3 ⟨a, c⟩ => ⟨ds.length - (i + 1), by omega, rfl, a, c⟩, fun x H2 y => ?_⟩
        obtain ⟨F2, g3, rx⟩ := w.yld F' H' i x H2 ds[i] g2.stay s1.dom (List.getElem?_eq_getElem hlt) y
        rw [List.drop_eq_getElem_cons hlt] at ez
        obtain ⟨δ1, c, eb, et, rest⟩ := lcL_ok ez
        have s2 := (s1.grow g3).wipe vs
        have nfD : ∀ {F3 H3}, Grow F' H' F3 H3 → ¬ F3 D0 := fun g => g.notF nf (by rw [hacc]; exact fun z => nomatch z)
        refine ⟨F2, wipeD δ vs, ds[i], δ1, s2.len, rx, eb, fun σ2 u2 => ⟨u2.wipe hts, ?_⟩⟩
        refine ⟨F2, δ1, s2.upd u2, ?_⟩
        rw [et]
        intro F3 H3 g4
        rcases rest with ⟨ec, yv, ys', ey, er, ezs⟩ | ⟨ec, er⟩
        · subst ec
          rw [if_pos rfl]
          refine ⟨F3, δ1, (s2.upd u2).grow g4, ?_⟩
          rw [ey]
          intro v F4 H4 g5 rv
          have gg := (g3.trans g4).trans g5
          have hacc4 : H4 D0 = some (.lst acc) := gg.same _ _ hacc
          refine ⟨acc, hacc4, by omega, hlt, F4, acc ++ [v], ys ++ [yv], ys', (g2.trans gg).wrote hD, upd_same, nfD gg, ?_, by rw [List.length_append]; exact Nat.succ_le_succ hl, er, by rw [ea, ezs]; simp⟩
          have kk : Kept F4 H4 (upd H4 D0 (.lst (acc ++ [v]))) := kept_upd (nfD gg) hacc4 trivial
          exact ((gg.rpA ra).append (.cons rv .nil)).mono (fun _ x => x) kk
        · subst ec
          rw [if_neg Bool.false_ne_true]
          have gg := g3.trans g4
          exact ⟨hlt, F3, acc, ys, zs, g2.trans gg, gg.same _ _ hacc, nfD gg, gg.rpA ra, by omega, er, ea⟩
      · have ei : i = ds.length := by omega
        subst ei
        rw [List.drop_length] at ez
        cases ez
        rw [List.append_nil] at ea
        subst ea
        obtain ⟨F2, g3, p⟩ := hP.own (g1.trans g2) (by
          cases e0 : H D0 with
          | none => rfl
          | some o => have := g1.same _ _ e0; rw [hD] at this; cases this) nf (show RpO K F' H' D0 (.list all) from ⟨acc, hacc, ra⟩)
        exact .inl ⟨w.stop F' H' g2.stay, h _ _ _ g3 p⟩
    · exact h.elim
theorem vp_lc {elt tg iter : Expr} {ifs : List Expr} {scope : Scope} {own : List (Str × Nat)} {ts : List Nat} {fi : Dl → Re (List D)} {b : Bd} {t : Dl → Re Bool} {e : Dl → Re D} (hP : POwn X.K P) (hc : X.calm = true) (hN : X.N.Nodup) (hi : VI X W tg iter fi) (ok : BlkOk X.N X.env.scope scope own)
    (hg : ∀ (s : Shared) (H : Hp) (C : Addr) (cl : List (Str × Addr)) (fp : List Addr), VG (X.blk s H scope (compEnvC scope cl C X.env) fp) tg ts b) (ht : ∀ (s : Shared) (H : Hp) (C : Addr) (cl : List (Str × Addr)) (fp : List Addr), VTs (X.blk s H scope (compEnvC scope cl C X.env) fp) ifs t)
    (he : ∀ (s : Shared) (H : Hp) (C : Addr) (cl : List (Str × Addr)) (fp : List Addr), VE (X.blk s H scope (compEnvC scope cl C X.env) fp) XW0 elt e) (hts : ∀ j ∈ ts, j ∈ own.map (·.2)) (hs : ∀ x, foldedSetIterable iter X.env x = pure x := by intro _; rfl) :
    VP X W P (.ListComp elt [⟨tg, iter, ifs, 0⟩] scope pos) (lcD (own.map (·.2)) fi b t e) := PE.imp (pe_lc hc hN hi ok hg ht he hs) fun σ H Q h => t_lc hP hts h
theorem vs_setLc {i : Nat} {y : Str} {py spos : Pos} {elt tg iter : Expr} {ifs : List Expr} {scope : Scope} {own : List (Str × Nat)} {ts : List Nat} {fi : Dl → Re (List D)} {b : Bd} {t : Dl → Re Bool} {e : Dl → Re D} (hc : X.calm = true) (hN : X.N.Nodup) (hy : X.N[i]? = some y) (hyl : X.env.scope.names.lookup y = some .local)
    (hsw : swapsWith (.ListComp elt [⟨tg, iter, ifs, 0⟩] scope pos) (some (.Name y py)) spos.line X.env = pure true) (hi : VI X W tg iter fi) (ok : BlkOk X.N X.env.scope scope own)
    (hg : ∀ (s : Shared) (H : Hp) (C : Addr) (cl : List (Str × Addr)) (fp : List Addr), VG (X.blk s H scope (compEnvC scope cl C X.env) fp) tg ts b) (ht : ∀ (s : Shared) (H : Hp) (C : Addr) (cl : List (Str × Addr)) (fp : List Addr), VTs (X.blk s H scope (compEnvC scope cl C X.env) fp) ifs t)
    (he : ∀ (s : Shared) (H : Hp) (C : Addr) (cl : List (Str × Addr)) (fp : List Addr), VE (X.blk s H scope (compEnvC scope cl C X.env) fp) XW0 elt e) (hts : ∀ j ∈ ts, j ∈ own.map (·.2)) (hs : ∀ x, foldedSetIterable iter X.env x = pure x := by intro _; rfl) :
    VSt X W (.Assign [.Name y py] (.ListComp elt [⟨tg, iter, ifs, 0⟩] scope pos) spos) (setS i (lcD (own.map (·.2)) fi b t e)) := PS.imp (ps_setLc hc hN hy hyl hsw hi ok hg ht he hs) fun D σ H h => t_lc pS_own hts (t_setS h)
theorem vs_setLcO {i : Nat} {y : Str} {py spos : Pos} {elt tg iter : Expr} {ifs : List Expr} {scope : Scope} {own : List (Str × Nat)} {ts : List Nat} {fi : Dl → Re (List D)} {b : Bd} {t : Dl → Re Bool} {e : Dl → Re D} (hc : X.calm = true) (hN : X.N.Nodup) (hy : X.N[i]? = some y) (hyl : X.env.scope.names.lookup y = some .local)
    (hsw : swapsWith (.ListComp elt [⟨tg, iter, ifs, 0⟩] scope pos) (some (.Name y py)) spos.line X.env = pure true) (hi : VI X W tg iter fi) (ok : BlkOk X.N X.env.scope scope own)
    (hg : ∀ (s : Shared) (H : Hp) (C : Addr) (cl : List (Str × Addr)) (fp : List Addr), VG (X.blk s H scope (compEnvC scope cl C X.env) fp) tg ts b) (ht : ∀ (s : Shared) (H : Hp) (C : Addr) (cl : List (Str × Addr)) (fp : List Addr), VTs (X.blk s H scope (compEnvC scope cl C X.env) fp) ifs t)
    (he : ∀ (s : Shared) (H : Hp) (C : Addr) (cl : List (Str × Addr)) (fp : List Addr), VE (X.blk s H scope (compEnvC scope cl C X.env) fp) XW0 elt e) (hts : ∀ j ∈ ts, j ∈ own.map (·.2)) (hs : ∀ x, foldedSetIterable iter X.env x = pure x := by intro _; rfl) :
    VSt X W (.Assign [.Name y py] (.ListComp elt [⟨tg, iter, ifs, 0⟩] scope pos) spos) (setO i (lcD (own.map (·.2)) fi b t e)) := PS.imp (ps_setLc hc hN hy hyl hsw hi ok hg ht he hs) fun D σ H h => t_lc pF_own hts (t_setO h)
end
end VS
end
section
namespace VS
open PySem PySem.Spec PyProof.Rows L2

/-! ### list(x), tuple(x) -/
def lstOfD : List D → Re D
  | [.list ds] => .ok (.list ds)
  | [.tuple ds] => .ok (.list ds)
  | _ => .no
def tupOfD : List D → Re D
  | [.list ds] => .ok (.tuple ds)
  | _ => .no
section
variable {X : Cx} {W : XW} {P : PP} {F : Addr → Prop} {H : Hp} {K : PySem.W.Frag}
theorem cg_list (hP : PNew X.K P) : CallG X W P RpB (fun xs H Q => ∃ p ys, xs = [.ref p] ∧ (SqL X.K H p ys ∨ SqT X.K H p ys) ∧ ∀ l, H l = none → Q (.ref l) (upd H l (.lst ys))) lstOfD := by
  intro F H vs ds Q dm r h
  unfold lstOfD at h
  split at h
  · cases r with
    | cons r rr =>
      cases rr
      obtain ⟨a, xs, e, ha, t⟩ := r
      subst e
      exact ⟨a, xs, rfl, .inl (.inl ha), fun l hn => h.newL hP dm hn t⟩
  · cases r with
    | cons r rr =>
      cases rr
      obtain ⟨a, xs, e, ha, t⟩ := r
      subst e
      exact ⟨a, xs, rfl, .inr ha, fun l hn => h.newL hP dm hn t⟩
  · exact h.elim
theorem cg_tuple : CallG X W (pS X.K) RpB (fun xs H Q => ∃ p ys, xs = [.ref p] ∧ ((SqL X.K H p ys ∧ ∀ l, H l = none → Q (.ref l) (upd H l (.tup ys))) ∨ (SqT X.K H p ys ∧ Q (.ref p) H))) tupOfD := by
  intro F H vs ds Q dm r h
  unfold tupOfD at h
  split at h
  · cases r with
    | cons r rr =>
      cases rr
      obtain ⟨a, xs, e, ha, t⟩ := r
      subst e
      exact ⟨a, xs, rfl, .inl ⟨.inl ha, fun l hn => h.newT hn t⟩⟩
  · exact h.elim
/-- tuple(x) where x may be a tuple -/
def tupAnyD : List D → Re D
  | [.list ds] => .ok (.tuple ds)
  | [.tuple ds] => .ok (.tuple ds)
  | _ => .no
theorem cg_tupAny : CallG X W (pS X.K) Rp (fun xs H Q => ∃ p ys, xs = [.ref p] ∧ ((SqL X.K H p ys ∧ ∀ l, H l = none → Q (.ref l) (upd H l (.tup ys))) ∨ (SqT X.K H p ys ∧ Q (.ref p) H))) tupAnyD := by
  intro F H vs ds Q dm r h
  unfold tupAnyD at h
  split at h
  · cases r with
    | cons r rr =>
      cases rr
      cases r with
      | lst a f t => exact ⟨_, _, rfl, .inl ⟨.inl a, fun l hn => h.newT hn t⟩⟩
  · cases r with
    | cons r rr =>
      cases rr
      cases r with
      | tup a t => exact ⟨_, _, rfl, .inr ⟨a.sq, h.val (.tup a t)⟩⟩
  · exact h.elim

/-! ### sorted(list) -/
def isTup1 : D → Bool
  | .tuple (_ :: _) => true
  | _ => false
def notTN : D → Bool
  | .none => false
  | .tuple _ => false
  | _ => true
def sortOk (xs : List D) : Bool := xs.all (dn 60) && xs.all (fun d => xs.all fun e => PySem.W.alike d e) && (xs.all isTup1 || xs.all notTN) && decide (xs.length ≤ sizeLine)
def sortL (xs : List D) : List D := xs.mergeSort (PySem.W.dataLe false id)
def sortedD : List D → Re D
  | [.list xs] => if sortOk xs = true then .ok (.list (sortL xs)) else .no
  | _ => .no
theorem sortOk_s {xs : List D} (h : sortOk xs = true) : (∀ d ∈ xs, dn 60 d = true) ∧ PySem.W.AllAlike xs ∧ PySem.W.Sortable xs ∧ xs.length ≤ sizeLine := by
  unfold sortOk at h
  simp only [Bool.and_eq_true, Bool.or_eq_true, List.all_eq_true, decide_eq_true_eq] at h
  obtain ⟨⟨⟨h1, h2⟩, h3⟩, h4⟩ := h
  refine ⟨h1, h2, ?_, h4⟩
  rcases h3 with h3 | h3
  · refine .inl fun d hd => ?_
    have q := h3 d hd
    unfold isTup1 at q
    split at q
    · exact ⟨_, _, rfl⟩
    · cases q
  · refine .inr fun d hd => ?_
    have q := h3 d hd
    refine ⟨fun e => ?_, fun ys e => ?_⟩ <;> (subst e; unfold notTN at q; cases q)
def rSortV (K : PySem.W.Frag) : List V → Hp → VK → Prop := fun vs H Q => ∃ (a : Addr) (bs : List (V × D)), vs = [.ref a] ∧ SqL K H a (bs.map (·.1)) ∧ (∀ b ∈ bs, Dp K H b.1 b.2) ∧ sortOk (bs.map (·.2)) = true ∧
  ∀ p, H p = none → Q (.ref p) (upd H p (.lst ((bs.mergeSort (PySem.W.dataLe false (·.2))).map (·.1))))
theorem call_sortV (hu : X.A.units + 64 < cLine) : CallR X (.builtin "sorted") (rSortV X.K) := by
  intro pins s σ H vs us Q I r h
  obtain ⟨a, bs, rfl, hs, hb, hk, q⟩ := h
  obtain ⟨its, rv, hl, hz⟩ := I.list hs
  rw [Vals.ref1 r]
  obtain ⟨k1, k2, k3, k4⟩ := sortOk_s hk
  have e1 : ∀ (bs : List (V × D)) (its : List Value), Vals (bs.map (·.1)) its → PySem.W.EachIs (fun v b => RelV b.1 v) its bs := fun bs => by
    induction bs with
    | nil => intro its r; cases r; exact .nil
    | cons b bs ih => intro its r; cases r with | cons r rr => exact .cons r (ih _ rr)
  have e2 : ∀ (bs : List (V × D)) (its : List Value), Vals (bs.map (·.1)) its → (∀ b ∈ bs, Dp X.K H b.1 b.2) → PySem.W.EachIs (fun v b => ∃ as, Reads s.heap v b.2 as) its bs := fun bs => by
    induction bs with
    | nil => intro its r _; cases r; exact .nil
    | cons b bs ih =>
      intro its r hb
      cases r with
      | cons r rr =>
        refine .cons ?_ (ih _ rr fun b hb' => hb b (List.mem_cons_of_mem _ hb'))
        exact Dp.reads I b.2 b.1 _ (hb b List.mem_cons_self) r
  refine PySem.W.sorted_data (R := fun (v : Value) (b : V × D) => RelV b.1 v) (enc := fun b : V × D => b.2) hl.isList (e1 bs its rv) (e2 bs its rv hb) k2 k3 (by rw [List.length_map] at k4; exact k4) (fun b hb => ?_) fun out ho eo => ?_
  · have := (dn_plain b.2 60 (k1 b.2 (List.mem_map.mpr ⟨b, hb, rfl⟩))).2
    omega
  · obtain ⟨c, hc⟩ := PyProof.Rows.sortedAll_at s.heap its out.toArray
    have e3 : ∀ (bs : List (V × D)) (out : List Value), PySem.W.EachIs (fun v b => RelV b.1 v) out bs → Vals (bs.map (·.1)) out := fun bs => by
      induction bs with
      | nil => intro out r; cases r; exact .nil
      | cons b bs ih => intro out r; cases r with | cons r rr => exact .cons r (ih _ rr)
    have hlen : ((bs.mergeSort (PySem.W.dataLe false (·.2))).map (·.1)).length ≤ sizeLine := by rw [List.length_map, List.length_mergeSort]; rw [List.length_map] at k4; exact k4
    exact ⟨.ref _, upd H (s.heap.objs.size + 1) (.lst _), I.laid (t' := s.toks) (fun _ _ => PyProof.Rows.sortedAll_old) (Nat.le_succ _) ⟨hlen, out, c, e3 _ _ eo, hc⟩, rfl, q _ (I.hok.fresh (Nat.le_succ _))⟩
theorem rpA_zip : ∀ {vs : List V} {ds : List D}, RpA K F H vs ds → ∃ bs : List (V × D), vs = bs.map (·.1) ∧ ds = bs.map (·.2) ∧ ∀ b ∈ bs, Rp K F H b.1 b.2
  | _, _, .nil => ⟨[], rfl, rfl, fun _ h => nomatch h⟩
  | _, _, .cons h t => by
    obtain ⟨bs, e1, e2, r⟩ := rpA_zip t
    refine ⟨(_, _) :: bs, by rw [e1]; rfl, by rw [e2]; rfl, fun b hb => ?_⟩
    rcases List.mem_cons.mp hb with e | hb
    · rw [e]; exact h
    · exact r b hb
theorem rpA_of : ∀ {bs : List (V × D)}, (∀ b ∈ bs, Rp K F H b.1 b.2) → RpA K F H (bs.map (·.1)) (bs.map (·.2))
  | [], _ => .nil
  | b :: bs, h => .cons (h b List.mem_cons_self) (rpA_of fun c hc => h c (List.mem_cons_of_mem _ hc))
theorem sort_snd (bs : List (V × D)) : (bs.mergeSort (PySem.W.dataLe false (·.2))).map (·.2) = sortL (bs.map (·.2)) := by
  unfold sortL
  exact List.map_mergeSort (fun a _ b _ => rfl)
theorem rp_sort {bs : List (V × D)} (h : ∀ b ∈ bs, Rp K F H b.1 b.2) : RpA K F H ((bs.mergeSort (PySem.W.dataLe false (fun b : V × D => b.2))).map (fun b : V × D => b.1)) (sortL (bs.map (·.2))) := by
  rw [← sort_snd]
  exact rpA_of fun b hb => h b (List.mem_mergeSort.mp hb)
theorem cg_sorted (hP : PNew X.K P) : CallG X W P RpB (rSortV X.K) sortedD := by
  intro F H vs ds Q dm r h
  unfold sortedD at h
  split at h
  · split at h
    · rename_i xs hk
      cases r with
      | cons r rr =>
        cases rr
        obtain ⟨a, ys, e, ha, t⟩ := r
        subst e
        obtain ⟨bs, e1, e2, rb⟩ := rpA_zip t
        subst e1 e2
        have k1 := (sortOk_s hk).1
        exact ⟨a, bs, rfl, .inl ha, fun b hb => (rb b hb).dp (dn_plain _ 60 (k1 b.2 (List.mem_map.mpr ⟨b, hb, rfl⟩))).1, hk, fun p hn => h.newL hP dm hn (rp_sort rb)⟩
    · exact h.elim
  · exact h.elim
end

/-! ### slices -/
def cutD (xs : List D) (lo hi : Option Int) : List D := (xs.drop (HT.sIx xs.length 0 lo)).take (HT.sIx xs.length xs.length hi - HT.sIx xs.length 0 lo)
theorem rp_cut {K : PySem.W.Frag} {F : Addr → Prop} {H : Hp} {vs : List V} {ds : List D} (r : RpA K F H vs ds) (lo hi : Option Int) : RpA K F H (cutV vs lo hi) (cutD ds lo hi) := by
  unfold cutV cutD
  rw [r.length]
  exact (r.drop _).take _
/-- a slice's part -/
abbrev Pd := Dl → Re (Option Int)
def noP : Pd := fun _ => .ok none
def asI : D → Re (Option Int)
  | .int i => .ok (some i)
  | _ => .no
def someP (f : Dl → Re D) : Pd := fun δ => (f δ).bnd asI
def tPt (K : PySem.W.Frag) (W : XW) (f : Pd) : TO := fun σ H Q => ∃ F δ, SokE K F H σ δ ∧ ReW W F H (f δ) fun o => ∀ F' H', Grow F H F' H' → Q o H'
abbrev VPt (X : Cx) (W : XW) (o : Option Expr) (f : Pd) : Prop := PO X o (tPt X.K W f)
theorem PO.imp {X : Cx} {o : Option Expr} {t t' : TO} (h : PO X o t) (w : ∀ σ H Q, t' σ H Q → t σ H Q) : PO X o t' := ⟨fun pins s σ H Q I q => h.run pins s σ H Q I (w _ _ _ q)⟩
section
variable {X : Cx} {W : XW} {P : PP} {e : Expr} {lo hi : Option Expr} {fa : Dl → Re D} {fl fh : Pd} {p2 pos : Pos}
theorem vpt_no : VPt X W none noP := PO.imp po_none fun σ H Q ⟨F, δ, s, q⟩ => q F H Grow.refl
theorem vpt_some (h : VE X W e fa) : VPt X W (some e) (someP fa) := PO.imp (po_some h) fun σ H Q ⟨F, δ, s, q⟩ => ⟨F, δ, s, by
  unfold someP at q
  cases ef : fa δ with
  | no => rw [ef] at q; exact q
  | ex x => rw [ef] at q; exact q
  | ok d =>
    rw [ef] at q
    intro v F1 H1 g r
    cases d with
    | int i => cases r; exact ⟨i, rfl, q F1 H1 g⟩
    | _ => exact q.elim⟩
def dSl (g : D → Option Int → Option Int → Re D) (fa : Dl → Re D) (fl fh : Pd) (δ : Dl) : Re D := (fa δ).bnd fun x => (fl δ).bnd fun l => (fh δ).bnd fun u => g x l u
def SlG (X : Cx) (W : XW) (P : PP) (R : Rel) (r : V → Option Int → Option Int → Hp → VK → Prop) (g : D → Option Int → Option Int → Re D) : Prop :=
  ∀ (F : Addr → Prop) (H : Hp) (x : V) (d : D) (l u : Option Int) (Q : VK), Dom F H → R X.K F H x d → Go W P F H (g d l u) Q → r x l u H Q
theorem t_sl {R : Rel} {r : V → Option Int → Option Int → Hp → VK → Prop} {g : D → Option Int → Option Int → Re D} (hp : PMon P) (kR : RKeep R) (hg : SlG X W P R r g) (σ : L2.St) (H : Hp) (Q : VK) (h : tP X.K W P (dSl g fa fl fh) σ H Q) : tSl r (tP X.K W (pp X.K R) fa) (tPt X.K W fl) (tPt X.K W fh) σ H Q := by
  obtain ⟨F, δ, s, h⟩ := h
  refine ⟨F, δ, s, Go.bnd hp h fun d x F1 H1 e1 g1 px h1 => ⟨F1, δ, s.grow g1, ?_⟩⟩
  cases el : fl δ with
  | no => rw [el] at h1; exact h1
  | ex z => rw [el] at h1; exact h1
  | ok l =>
    rw [el] at h1
    intro F2 H2 g2
    refine ⟨F2, δ, (s.grow g1).grow g2, ?_⟩
    have h2 := Go.grow hp h1 g2
    simp only [bnd_ok] at h2
    cases eh : fh δ with
    | no => rw [eh] at h2; exact h2
    | ex z => rw [eh] at h2; exact h2
    | ok u =>
      rw [eh] at h2
      intro F3 H3 g3
      exact hg F3 H3 x d l u Q (g3.dom (g2.dom (g1.dom s.dom))) (kR.k (g2.trans g3) px) (Go.grow hp h2 g3)
/-- a slice of a list: a new list -/
def slL (d : D) (l u : Option Int) : Re D := match d with
  | .list xs => .ok (.list (cutD xs l u))
  | _ => .no
theorem slg_list (hP : PNew X.K P) : SlG X W P RpB (rSlL X.K) slL := by
  intro F H x d l u Q dm r h
  unfold slL at h
  split at h
  · obtain ⟨a, xs, e, ha, t⟩ := r
    exact ⟨a, xs, e, .inl ha, fun p hn => h.newL hP dm hn (rp_cut t l u)⟩
  · exact h.elim
theorem vp_slL (hP : PNew X.K P) (he : VB X W e fa) (hl : VPt X W lo fl) (hh : VPt X W hi fh) : VP X W P (.Subscript e (.Slice lo hi none p2) pos) (dSl slL fa fl fh) := PE.imp (pe_slice sl_list he hl hh) (t_sl hP.toPMon kB (slg_list hP))
/-- a slice of a tuple, a text, a list -/
def slA (d : D) (l u : Option Int) : Re D := match d with
  | .list xs => .ok (.list (cutD xs l u))
  | .tuple xs => .ok (.tuple (cutD xs l u))
  | _ => .no
theorem slg_any : SlG X W (pS X.K) Rp (fun x lo hi H Q => rSlL X.K x lo hi H Q ∨ rSlA X.K x lo hi H Q) slA := by
  intro F H x d l u Q dm r h
  unfold slA at h
  split at h
  · cases r with
    | lst a f t => exact .inl ⟨_, _, rfl, .inl a, fun p hn => h.newL pS_new dm hn (rp_cut t l u)⟩
  · cases r with
    | tup a t =>
      refine .inr ⟨_, _, rfl, a.sq, fun q => ?_, fun _ p hn => h.newT hn (rp_cut t l u)⟩
      refine h.val ?_
      have lt := t.length
      unfold cutD
      rw [← lt, q.1, q.2, Nat.sub_zero, List.drop_zero, List.take_of_length_le (by omega)]
      exact .tup a t
  · exact h.elim
theorem ve_sl (he : VE X W e fa) (hl : VPt X W lo fl) (hh : VPt X W hi fh) : VE X W (.Subscript e (.Slice lo hi none p2) pos) (dSl slA fa fl fh) := PE.imp (pe_slice (SlR.or sl_list sl_tupA) he hl hh) (t_sl pS_mon kS slg_any)
/-- xs[::-1] of a list -/
def revL : D → Re D
  | .list xs => .ok (.list xs.reverse)
  | _ => .no
theorem vp_revL {k : Nat} {p1 p3 : Pos} (hP : PNew X.K P) (he : VB X W e fa) : VP X W P (.Subscript e (.Slice none none (some (.UnaryOp .USub (.Constant (.int 1) k p1) p2)) p3) pos) (d1 revL fa) := PE.imp (pe_revL he) fun σ H Q ⟨F, δ, s, h⟩ =>
  ⟨F, δ, s, Go.bnd hP.toPMon h fun d x F1 H1 e1 g1 px h1 => by
    unfold revL at h1
    split at h1
    · obtain ⟨a, xs, ex, ha, t⟩ := px
      exact ⟨a, xs, ex, .inl ha, fun p hn => h1.newL hP (g1.dom s.dom) hn t.reverse⟩
    · exact h1.elim⟩
/-- script[:n] -/
def dScrSl (i : Nat) (n : Int) (δ : Dl) : Re D := match δ[i]? with
  | some (.br ns) => .ok (.list ((cutD (ns.map .int) none (some n))))
  | _ => .no
theorem vp_scrSl {i : Nat} {y : Str} {py p1 : Pos} {n : Int} {j : Nat} (hP : PNew X.K P) (hy : PE X (.Name y py) (tVar i)) : VP X W P (.Subscript (.Name y py) (.Slice none (some (.Constant (.int n) j p1)) none p2) pos) (dScrSl i n) := PE.imp (pe_slice sl_list hy po_none (po_some pe_int)) fun σ H Q ⟨F, δ, s, h⟩ => by
  unfold dScrSl at h
  split at h
  · rename_i ns en
    obtain ⟨a, ea, ra⟩ := s.sl i _ en
    exact ⟨_, ea, n, rfl, a, _, rfl, ra.1, fun p hn => Go.newL hP s.dom h hn (rp_cut (RpA.ofInts ns) none (some n))⟩
  · exact h.elim
end

/-! ### own lists written -/
theorem sok_write {K : PySem.W.Frag} {F0 : Addr → Prop} {H0 : Hp} {F : Addr → Prop} {H : Hp} {σ : L2.St} {δ : Dl} {i : Nat} {a : Addr} {d d' : D} {o' : HO} (s : Sok K F0 H0 F H σ δ) (ei : δ[i]? = some (.ow d)) (ea : σ[i]? = some (some (.ref a)))
    (hd : RpO K F (upd H a o') a d') : Stay F H F (upd H a o') ∧ Sok K F0 H0 F (upd H a o') σ (δ.set i (.ow d')) := by
  obtain ⟨a', ea', o, nf, n0⟩ := s.ow i d ei
  rw [ea] at ea'
  cases ea'
  obtain ⟨u, hu, mu⟩ := o.there
  have kk : Kept F H (upd H a o') := kept_upd nf hu mu
  refine ⟨⟨fun _ x => x, kk⟩, ⟨by rw [List.length_set]; exact s.len, ⟨s.g.sub, s.g.new, fun b x e => ?_, fun dm b fb => ?_⟩, s.d0, fun b fb => ?_, fun j e h => ?_, fun j e h => ?_, fun j e h => ?_, fun j k e1 e2 b h1 h2 h3 h4 => ?_⟩⟩
  · rw [upd_ne (ne_of_none e n0)]; exact s.g.same b x e
  · by_cases e : b = a
    · subst e; exact upd_some
    · rw [upd_ne e]; exact s.dom b fb
  · by_cases e : b = a
    · subst e; exact upd_some
    · rw [upd_ne e]; exact s.dom b fb
  · by_cases n : i = j
    · subst n; obtain ⟨q, _⟩ := get_set_eq h; cases q
    · obtain ⟨v, ev, r⟩ := s.sh j e (get_set_ne h n)
      exact ⟨v, ev, r.mono (fun _ x => x) kk⟩
  · by_cases n : i = j
    · subst n
      obtain ⟨q, _⟩ := get_set_eq h
      cases q
      exact ⟨a, ea, hd, nf, n0⟩
    · obtain ⟨b, eb, ob, nb, nb0⟩ := s.ow j e (get_set_ne h n)
      have ne : b ≠ a := fun z => by
        subst z
        exact n (s.ne i j d e b ei (get_set_ne h n) ea eb)
      exact ⟨b, eb, ob.kept (fun _ x => x) kk (upd_ne ne), nb, nb0⟩
  · by_cases n : i = j
    · subst n; obtain ⟨q, _⟩ := get_set_eq h; cases q
    · obtain ⟨b, eb, r⟩ := s.br j e (get_set_ne h n)
      refine ⟨b, eb, r.keep fun c x ec nm => ?_⟩
      have ne : c ≠ a := fun z => by
        subst z
        rw [hu] at ec; cases ec
        exact nm mu
      rw [upd_ne ne]; exact ec
  · have f : ∀ (j : Nat) (x : D), (δ.set i (.ow d'))[j]? = some (.ow x) → ∃ y, δ[j]? = some (.ow y) := fun j x h => by
      by_cases n : i = j
      · subst n; exact ⟨d, ei⟩
      · exact ⟨x, get_set_ne h n⟩
    obtain ⟨y1, q1⟩ := f j _ h1
    obtain ⟨y2, q2⟩ := f k _ h2
    exact s.ne j k y1 y2 b q1 q2 h3 h4
section
variable {X : Cx} {W : XW} {pos apos cpos py : Pos} {i : Nat} {y : Str} {e : Expr} {fe : Dl → Re D}
/-- x.append(e) -/
def appS (i : Nat) (f : Dl → Re D) (δ : Dl) : RS := match δ[i]? with
  | some (.ow (.list xs)) => toS (f δ) fun d => if xs.length < sizeLine then .nx (δ.set i (.ow (.list (xs ++ [d])))) else .no
  | _ => .no
theorem vs_append (hy : PE X (.Name y py) (tVar i)) (he : VE X W e fe) (hs : swapsWith (.Call (.Attribute (.Name y py) "append" apos) [e] [] cpos) none pos.line X.env = pure false := by rfl)
    (hbase : attributeBase (.Name y py) "append" X.env (eval (.Name y py) X.env) = eval (.Name y py) X.env := by rfl)
    (hfew : ((backTo cpos (starEach [e] X.env)).all (fun x => !x.1) && (backToKw cpos (keywordEach [] X.env)).all (fun x => x.1.isSome)
      && decide (([e] : List Expr).length + ([] : List Keyword).length + (if ([] : List Keyword).isEmpty then 0 else 1) < 30)) = true := by rfl)
    (hline : (apos.endLine == cpos.line) = true := by rfl) (hst : starEach [e] X.env = (false, eval e X.env) :: starEach [] X.env := by rfl) (hplain : (backTo cpos (starEach [] X.env)).any (·.1) = false := by rfl) :
    VSt X W (.Expr (.Call (.Attribute (.Name y py) "append" apos) [e] [] cpos) pos) (appS i fe) :=
  PS.imp (ps_expr (pe_bm F.plainAttrs_list F.slot_list_append F.type_list_append mt_append hy (pa_cons he pa_nil hst) hbase hfew hline hst hplain) hs) fun D σ H ⟨F0, H0, F, δ, s, q⟩ => by
    unfold appS at q
    split at q
    · rename_i xs ei
      obtain ⟨a, ea, ⟨vs, ha, ra⟩, nf, n0⟩ := s.ow i _ ei
      refine ⟨_, ea, .inl ⟨rfl, _, .inl (.inl ha)⟩, F, δ, s.e, SO.go (P := pS X.K) s q fun d v F1 H1 e1 g1 r h1 => ?_⟩
      split at h1
      · rename_i hz
        have ha1 := g1.same _ _ ha
        refine ⟨a, vs, v, rfl, rfl, ha1, by rw [ra.length]; exact hz, ?_⟩
        have nf1 : ¬ F1 a := g1.notF nf (by rw [ha]; exact fun z => nomatch z)
        have kk : Kept F1 H1 (upd H1 a (.lst (vs ++ [v]))) := kept_upd nf1 ha1 trivial
        obtain ⟨st, s2⟩ := sok_write (s.grow g1) (d' := .list (xs ++ [d])) (o' := .lst (vs ++ [v])) ei ea ⟨_, upd_same, ((g1.rpA ra).append (.cons r .nil)).mono (fun _ x => x) kk⟩
        exact h1 _ _ _ st s2
      · exact h1.elim
    · exact q.elim
end
end VS
end
section
namespace VS
open PySem PySem.Spec PyProof.Rows L2

/-! ### x.extend(..) of a list, of a tuple -/
theorem ext_tup (l : Addr) (its : Array Value) (n : Nat) (b : Addr) (more : Array Value) (n2 : Nat) (dd : Option Addr) (sl : Array (Option Value)) (h0 : ¬(!its.isEmpty && Builtin.List.listTooLong (its.size + more.size)) = true) (h1 : its.size ≤ sizeLine) (h2 : its.size + more.size ≤ sizeLine + 1) :
    Meets (Builtin.«list.extend» ⟨[.ref l, .ref b], []⟩) (fun _ R s => s.heap.get? l = some { cls := .type "list", dict := none, data := .seq its n, slots := #[] } ∧ s.heap.get? b = some { cls := .type "tuple", dict := dd, data := .seq more n2, slots := sl } ∧
      R (.ok (.ret Value.none)) { s with heap := s.heap.update l (Obj.mapSeq fun x => x ++ more), toks := s.toks }) :=
  .of_wp fun prog w A R s h => by
    obtain ⟨hp, g, d, tk, os⟩ := s
    obtain ⟨hl, hb, h⟩ := h
    have f1 := AutoSeq1.idx_int
    have f2 := AutoSeq1.sub_tuple_tuple
    have f3 := AutoSeq1.sub_list_list
    have f4 := AutoSeq1.sub_tuple_list
    have f5 := AutoSeq1.sub_list_tuple
    have z : (its ++ more).size ≤ sizeLine + 1 := by rw [Array.size_append]; exact h2
    wp_walk using (wpAny_updateSeq hl rfl (hz := h1) (_hz' := z)), AutoSeq1.wpAny_loadPart' hl, AutoSeq1.wpAny_loadPart' hb
    exact ⟨_, rfl, h⟩
def rExtA (K : PySem.W.Frag) : V → List V → Hp → VK → Prop := fun x vs H Q => ∃ l b xs zs, x = .ref l ∧ vs = [.ref b] ∧ H l = some (.lst xs) ∧ (Rd H b (.lst zs) ∨ SqT K H b zs) ∧ xs.length + zs.length ≤ sizeLine ∧ Q .non (upd H l (.lst (xs ++ zs)))
theorem mt_extA {X : Cx} : MtR X "list.extend" (rExtA X.K) := by
  intro pins s σ H x vs v us Q I rx rv h
  obtain ⟨l, b, xs, zs, rfl, rfl, hH, hB, hz, q⟩ := h
  cases rx
  obtain ⟨u, rfl, ru⟩ := rv.one
  cases ru
  obtain ⟨z, its, n, r, hl, e⟩ := I.lstM hH
  have fin : ∀ its2 : List Value, Vals zs its2 → zs.length = its2.length → EP X pins σ Q .none { s with heap := s.heap.update l (Obj.mapSeq fun x => x ++ its2.toArray), toks := s.toks } := fun its2 r2 hl2 =>
    ⟨.non, _, I.lset (its' := its ++ its2) hH e (by simp) (r.append r2) (by rw [List.length_append]; omega), rfl, q⟩
  rcases hB with hB | hB
  · obtain ⟨_, its2, n2, r2, hl2, e2⟩ := lstR I hB
    have hsz : its.toArray.size + its2.toArray.size ≤ sizeLine := by rw [List.size_toArray, List.size_toArray]; omega
    have hlong : ¬ (!its.toArray.isEmpty && Builtin.List.listTooLong (its.toArray.size + its2.toArray.size)) = true := by
      rw [notLongL hsz, Bool.and_false]
      exact Bool.false_ne_true
    exact call_meets F.slot_list_extend ⟨_, e, rfl⟩ F.entry_list_extend (F.args_list_extend_2 _ _) (AutoSeq1.list_extend_list_list_0 l its.toArray n b its2.toArray n2 hlong (by rw [List.size_toArray]; omega) (by omega)) ⟨e, e2, fin its2 r2 hl2⟩
  · obtain ⟨its2, r2, ⟨⟨c, dd, dt, sl⟩, e2, ec, n2, ed⟩, _⟩ := I.tuple hB
    have hl2 := r2.length
    have hsz : its.toArray.size + its2.toArray.size ≤ sizeLine := by rw [List.size_toArray, List.size_toArray]; omega
    have hlong : ¬ (!its.toArray.isEmpty && Builtin.List.listTooLong (its.toArray.size + its2.toArray.size)) = true := by
      rw [notLongL hsz, Bool.and_false]
      exact Bool.false_ne_true
    have ec : c = .type "tuple" := ec
    have ed : dt = .seq its2.toArray n2 := ed
    subst ec ed
    exact call_meets F.slot_list_extend ⟨_, e, rfl⟩ F.entry_list_extend (F.args_list_extend_2 _ _) (ext_tup l its.toArray n b its2.toArray n2 dd sl hlong (by rw [List.size_toArray]; omega) (by omega)) ⟨e, e2, fin its2 r2 hl2⟩
def seqD : D → Re (List D)
  | .list ds => .ok ds
  | .tuple ds => .ok ds
  | _ => .no
section
variable {X : Cx} {W : XW} {pos apos cpos py : Pos} {i : Nat} {y : Str} {e e2 : Expr} {fe fk : Dl → Re D}
def extS (i : Nat) (f : Dl → Re D) (δ : Dl) : RS := match δ[i]? with
  | some (.ow (.list xs)) => toS ((f δ).bnd seqD) fun ds => if xs.length + ds.length ≤ sizeLine then .nx (δ.set i (.ow (.list (xs ++ ds)))) else .no
  | _ => .no
theorem vs_extend (hy : PE X (.Name y py) (tVar i)) (he : VE X W e fe) (hs : swapsWith (.Call (.Attribute (.Name y py) "extend" apos) [e] [] cpos) none pos.line X.env = pure false := by rfl)
    (hbase : attributeBase (.Name y py) "extend" X.env (eval (.Name y py) X.env) = eval (.Name y py) X.env := by rfl)
    (hfew : ((backTo cpos (starEach [e] X.env)).all (fun x => !x.1) && (backToKw cpos (keywordEach [] X.env)).all (fun x => x.1.isSome)
      && decide (([e] : List Expr).length + ([] : List Keyword).length + (if ([] : List Keyword).isEmpty then 0 else 1) < 30)) = true := by rfl)
    (hline : (apos.endLine == cpos.line) = true := by rfl) (hst : starEach [e] X.env = (false, eval e X.env) :: starEach [] X.env := by rfl) (hplain : (backTo cpos (starEach [] X.env)).any (·.1) = false := by rfl) :
    VSt X W (.Expr (.Call (.Attribute (.Name y py) "extend" apos) [e] [] cpos) pos) (extS i fe) :=
  PS.imp (ps_expr (pe_bm F.plainAttrs_list F.slot_list_extend F.type_list_extend mt_extA hy (pa_cons he pa_nil hst) hbase hfew hline hst hplain) hs) fun D σ H ⟨F0, H0, F, δ, s, q⟩ => by
    unfold extS at q
    split at q
    · rename_i xs ei
      obtain ⟨a, ea, ⟨vs, ha, ra⟩, nf, n0⟩ := s.ow i _ ei
      refine ⟨_, ea, .inl ⟨rfl, _, .inl (.inl ha)⟩, F, δ, s.e, ?_⟩
      have fin : ∀ (F1 : Addr → Prop) (H1 : Hp) (b : Addr) (zs : List V) (ds : List PyData), Grow F H F1 H1 → RpA X.K F1 H1 zs ds → (Rd H1 b (.lst zs) ∨ SqT X.K H1 b zs) →
          SO X.K W F0 H0 F1 H1 D (if xs.length + ds.length ≤ sizeLine then .nx (δ.set i (.ow (.list (xs ++ ds)))) else .no) → rExtA X.K (.ref a) [.ref b] H1 (fun _ H => D.nx σ H) := fun F1 H1 b zs ds g1 r hb h1 => by
        split at h1
        · rename_i hz
          have ha1 := g1.same _ _ ha
          refine ⟨a, b, vs, zs, rfl, rfl, ha1, hb, by rw [ra.length, r.length]; exact hz, ?_⟩
          have nf1 : ¬ F1 a := g1.notF nf (by rw [ha]; exact fun z => nomatch z)
          have kk : Kept F1 H1 (upd H1 a (.lst (vs ++ zs))) := kept_upd nf1 ha1 trivial
          obtain ⟨st, s2⟩ := sok_write (s.grow g1) (d' := .list (xs ++ ds)) (o' := .lst (vs ++ zs)) ei ea ⟨_, upd_same, ((g1.rpA ra).append r).mono (fun _ x => x) kk⟩
          exact h1 _ _ _ st s2
        · exact h1.elim
      cases ef : fe δ with
      | no => rw [ef] at q; exact q
      | ex x => rw [ef] at q; exact fun F' H' g => q F' H' g.stay (s.g.trans g)
      | ok d =>
        rw [ef] at q
        intro v F1 H1 g1 r
        cases d with
        | list ds =>
          cases r with
          | lst hb f t => exact fin F1 H1 _ _ ds g1 t (.inl hb) (SO.stay q g1.stay)
        | tuple ds =>
          cases r with
          | tup hb t => exact fin F1 H1 _ _ ds g1 t (.inr hb.sq) (SO.stay q g1.stay)
        | _ => exact q.elim
    · exact q.elim
/-- x[k] = e of an own list -/
def stlS (i : Nat) (fk f : Dl → Re D) (δ : Dl) : RS := match δ[i]? with
  | some (.ow (.list xs)) => toS (f δ) fun d => toS (fk δ) fun k => match k with
    | .int j => (match ixN xs.length j with
      | some m => .nx (δ.set i (.ow (.list (xs.set m d))))
      | none => .no)
    | _ => .no
  | _ => .no
theorem vs_setIx {spos : Pos} (hy : PE X (.Name y py) (tVar i)) (hk : VE X W e2 fk) (he : VE X W e fe)
    (ha : ∀ v, assign (.Subscript (.Name y py) e2 pos) X.env v = (do
      let ov ← holding [v] (eval (.Name y py) X.env)
      let iv ← holding [v, ov] (eval e2 X.env)
      standAt pos
      holding [v, ov, iv] (setItem ov iv v)
      release [v, ov, iv] []) := by intro _; rfl)
    (hs : swapsWithSole [.Subscript (.Name y py) e2 pos] e spos.line X.env = pure false := by rfl) (hw : swappedStores [.Subscript (.Name y py) e2 pos] e X.env = pure none := by rfl) (h1 : (assignEach [.Subscript (.Name y py) e2 pos] X.env).map (·.2) = [assign (.Subscript (.Name y py) e2 pos) X.env] := by rfl) :
    VSt X W (.Assign [.Subscript (.Name y py) e2 pos] e spos) (stlS i fk fe) :=
  PS.imp (ps_asg he (pg_sub hy hk set_list ha) hs hw h1) fun D σ H ⟨F0, H0, F, δ, s, q⟩ => by
    unfold stlS at q
    split at q
    · rename_i xs ei
      obtain ⟨a, ea, ⟨vs, hH, ra⟩, nf, n0⟩ := s.ow i _ ei
      refine ⟨F, δ, s.e, SO.go (P := pS X.K) s q fun d v F1 H1 e1 g1 r h2 => ?_⟩
      refine ⟨_, ea, F1, δ, (s.grow g1).e, SO.go (P := pS X.K) (s.grow g1) h2 fun k u F2 H2 e3 g2 ru h3 => ?_⟩
      cases k with
      | int j =>
        cases ru
        simp only at h3
        split at h3
        · rename_i m em
          have gg := g1.trans g2
          have ha2 := gg.same _ _ hH
          refine ⟨a, vs, j, m, rfl, rfl, ha2, by rw [ra.length]; exact em, ?_⟩
          have nf2 : ¬ F2 a := gg.notF nf (by rw [hH]; exact fun z => nomatch z)
          have kk : Kept F2 H2 (upd H2 a (.lst (vs.set m v))) := kept_upd nf2 ha2 trivial
          obtain ⟨st, s2⟩ := sok_write (s.grow gg) (d' := .list (xs.set m d)) (o' := .lst (vs.set m v)) ei ea ⟨_, upd_same, ((gg.rpA ra).set m (g2.rp r)).mono (fun _ x => x) kk⟩
          exact h3 _ _ _ st s2
        · exact h3.elim
      | _ => exact h3.elim
    · exact q.elim
end

/-! ### dicts written -/
/-- in its place, or at the end -/
def putD (kvs : List (D × D)) (k v : D) : List (D × D) :=
  if (kvs.any fun p => PyData.eqv p.1 k) = true then kvs.map (fun p => if PyData.eqv p.1 k = true then (p.1, v) else p) else kvs ++ [(k, v)]
section
variable {K : PySem.W.Frag} {F : Addr → Prop} {H : Hp}
theorem rpK_keys : ∀ {m : List (D × V)} {ds : List (D × D)}, RpK K F H m ds → m.map (·.1) = ds.map (·.1)
  | _, _, .nil => rfl
  | _, _, .cons _ t => by simp [rpK_keys t]
theorem rpK_app : ∀ {m n : List (D × V)} {ds es : List (D × D)}, RpK K F H m ds → RpK K F H n es → RpK K F H (m ++ n) (ds ++ es)
  | _, _, _, _, .nil, s => s
  | _, _, _, _, .cons h t, s => .cons h (rpK_app t s)
theorem rpK_upd {k : D} {v : V} {d : D} (rv : Rp K F H v d) : ∀ {m : List (D × V)} {ds : List (D × D)}, RpK K F H m ds → RpK K F H (m.map fun p => if PyData.eqv p.1 k = true then (p.1, v) else p) (ds.map fun p => if PyData.eqv p.1 k = true then (p.1, d) else p)
  | _, _, .nil => .nil
  | _, _, @RpK.cons _ _ _ j w vs x ds h t => by
    rw [List.map_cons, List.map_cons]
    by_cases e : PyData.eqv j k = true
    · rw [if_pos e, if_pos e]
      exact .cons rv (rpK_upd rv t)
    · rw [if_neg e, if_neg e]
      exact .cons h (rpK_upd rv t)
theorem any_keys {α : Type} (f : D → Bool) : ∀ {m : List (D × α)} {β : Type} {ds : List (D × β)}, m.map (·.1) = ds.map (·.1) → (m.any fun p => f p.1) = ds.any fun p => f p.1
  | [], _, [], _ => rfl
  | [], _, _ :: _, h => by cases h
  | _ :: _, _, [], h => by cases h
  | p :: m, _, q :: ds, h => by
    simp only [List.map_cons, List.cons.injEq] at h
    rw [List.any_cons, List.any_cons, h.1, any_keys f h.2]
/-- an int or a text as key -/
theorem rp_putK {m : List (Key × V)} {ds : List (D × D)} {v : V} {d : D} (k : Key) (r : RpK K F H (m.map fun p => (kD p.1, p.2)) ds) (rv : Rp K F H v d) : RpK K F H ((putK m k v).map fun p => (kD p.1, p.2)) (putD ds (kD k) d) := by
  unfold putK putD
  have ea : (m.any fun p => decide (p.1 = k)) = ds.any fun p => PyData.eqv p.1 (kD k) := by
    rw [← any_keys (fun x => PyData.eqv x (kD k)) (rpK_keys r), List.any_map]
    congr 1
    funext p
    simp only [Function.comp, eqv_kD]
  rw [ea]
  split
  · have q := rpK_upd (k := kD k) rv r
    rw [List.map_map] at q ⊢
    have : ((fun p : D × V => if PyData.eqv p.1 (kD k) = true then (p.1, v) else p) ∘ fun p : Key × V => (kD p.1, p.2)) = ((fun p : Key × V => (kD p.1, p.2)) ∘ fun p : Key × V => if p.1 = k then (p.1, v) else p) := by
      funext p
      simp only [Function.comp, eqv_kD]
      by_cases e : p.1 = k
      · rw [if_pos (decide_eq_true e), if_pos e]
      · rw [if_neg (by simpa using e), if_neg e]
    rw [← this]
    exact q
  · rw [List.map_append]
    exact rpK_app r (.cons rv .nil)
theorem rp_putT {m : List (List Key × V)} {ds : List (D × D)} {v : V} {d : D} (k : List Key) (r : RpK K F H (m.map fun p => (PyData.tuple (p.1.map kD), p.2)) ds) (rv : Rp K F H v d) : RpK K F H ((putK m k v).map fun p => (PyData.tuple (p.1.map kD), p.2)) (putD ds (.tuple (k.map kD)) d) := by
  unfold putK putD
  have ea : (m.any fun p => decide (p.1 = k)) = ds.any fun p => PyData.eqv p.1 (.tuple (k.map kD)) := by
    rw [← any_keys (fun x => PyData.eqv x (.tuple (k.map kD))) (rpK_keys r), List.any_map]
    congr 1
    funext p
    simp only [Function.comp, eqv_tup]
  rw [ea]
  split
  · have q := rpK_upd (k := .tuple (k.map kD)) rv r
    rw [List.map_map] at q ⊢
    have : ((fun p : D × V => if PyData.eqv p.1 (.tuple (k.map kD)) = true then (p.1, v) else p) ∘ fun p : List Key × V => (PyData.tuple (p.1.map kD), p.2)) = ((fun p : List Key × V => (PyData.tuple (p.1.map kD), p.2)) ∘ fun p : List Key × V => if p.1 = k then (p.1, v) else p) := by
      funext p
      simp only [Function.comp, eqv_tup]
      by_cases e : p.1 = k
      · rw [if_pos (decide_eq_true e), if_pos e]
      · rw [if_neg (by simpa using e), if_neg e]
    rw [← this]
    exact q
  · rw [List.map_append]
    exact rpK_app r (.cons rv .nil)
end

/-! ### {k: v for ..}, the keys ints or texts -/
def dcL (b : Bd) (t : Dl → Re Bool) (fk fv : Dl → Re D) (δ : Dl) : List D → List (D × D) → Re (List (D × D))
  | [], acc => .ok acc
  | d :: ds, acc => match b d δ with
    | none => .no
    | some δ1 => (nxR (t δ1)).bnd fun c => if c = true then (nxR (fk δ1)).bnd fun k => (nxR (fv δ1)).bnd fun v => if kindK k = some false then dcL b t fk fv δ ds (putD acc k v) else .no else dcL b t fk fv δ ds acc
def dcD (vs : List Nat) (items : Dl → Re (List D)) (b : Bd) (t : Dl → Re Bool) (fk fv : Dl → Re D) (δ : Dl) : Re D :=
  (items δ).bnd fun ds => if ds.length ≤ sizeLine then (dcL b t fk fv (wipeD δ vs) ds []).bnd fun m => .ok (.dict m) else .no
theorem dcL_ok {b : Bd} {t : Dl → Re Bool} {fk fv : Dl → Re D} {δ : Dl} {d : D} {ds : List D} {acc : List (D × D)} {r : Re (List (D × D))} (h : dcL b t fk fv δ (d :: ds) acc = r) (nn : r ≠ .no) : ∃ δ1 c, b d δ = some δ1 ∧ t δ1 = .ok c ∧
    ((c = true ∧ ∃ k v, fk δ1 = .ok k ∧ fv δ1 = .ok v ∧ kindK k = some false ∧ dcL b t fk fv δ ds (putD acc k v) = r) ∨ (c = false ∧ dcL b t fk fv δ ds acc = r)) := by
  unfold dcL at h
  cases eb : b d δ with
  | none => rw [eb] at h; exact (nn h.symm).elim
  | some δ1 =>
    rw [eb] at h
    cases et : t δ1 with
    | ex x => simp only [et, nxR, bnd_no] at h; exact (nn h.symm).elim
    | no => simp only [et, nxR, bnd_no] at h; exact (nn h.symm).elim
    | ok c =>
      simp only [et, nxR, bnd_ok] at h
      refine ⟨δ1, c, rfl, et, ?_⟩
      cases c with
      | false => rw [if_neg Bool.false_ne_true] at h; exact .inr ⟨rfl, h⟩
      | true =>
        rw [if_pos rfl] at h
        cases ek : fk δ1 with
        | ex x => simp only [ek, nxR, bnd_no] at h; exact (nn h.symm).elim
        | no => simp only [ek, nxR, bnd_no] at h; exact (nn h.symm).elim
        | ok k =>
          simp only [ek, nxR, bnd_ok] at h
          cases ev : fv δ1 with
          | ex x => simp only [ev, nxR, bnd_no] at h; exact (nn h.symm).elim
          | no => simp only [ev, nxR, bnd_no] at h; exact (nn h.symm).elim
          | ok v =>
            simp only [ev, nxR, bnd_ok] at h
            split at h
            · rename_i kk
              exact .inl ⟨rfl, k, v, rfl, rfl, kk, h⟩
            · exact (nn h.symm).elim
theorem dcL_ex {b : Bd} {t : Dl → Re Bool} {fk fv : Dl → Re D} {δ : Dl} {x : Xn} : ∀ (ds : List D) (acc : List (D × D)), dcL b t fk fv δ ds acc ≠ .ex x
  | [], acc => fun h => nomatch h
  | d :: ds, acc => fun h => by
    obtain ⟨δ1, c, _, _, q⟩ := dcL_ok h (fun z => nomatch z)
    rcases q with ⟨_, k, v, _, _, _, q⟩ | ⟨_, q⟩
    · exact dcL_ex ds _ q
    · exact dcL_ex ds _ q
theorem putK_len {κ : Type} [DecidableEq κ] (m : List (κ × V)) (k : κ) (v : V) : (putK m k v).length ≤ m.length + 1 := length_putK m k v
section
variable {X : Cx} {W : XW} {P : PP} {pos : Pos}
theorem t_dc {ts vs : List Nat} {fi : Dl → Re (List D)} {b : Bd} {t : Dl → Re Bool} {fk fv : Dl → Re D} {K : PySem.W.Frag} (hP : POwn K P) (hts : ∀ j ∈ ts, j ∈ vs) {σ : L2.St} {H : Hp} {Q : VK} (h : tP K W P (dcD vs fi b t fk fv) σ H Q) :
    tDc (tI K W fi) (tG K ts b) (tT K XW0 t) (tP K XW0 (pS K) fk) (tP K XW0 (pS K) fv) vs σ H Q := by
  obtain ⟨F, δ, s, h⟩ := h
  refine ⟨F, δ, s, ?_⟩
  change ReW W F H ((fi δ).bnd _) _ at h
  cases ef : fi δ with
  | no => rw [ef] at h; exact h
  | ex x => rw [ef] at h; exact h
  | ok ds =>
    rw [ef] at h
    rw [bnd_ok] at h
    intro J F1 H1 g1 w D0 hD
    split at h
    · rename_i hsz
      cases eall : dcL b t fk fv (wipeD δ vs) ds [] with
      | no => rw [eall] at h; exact h.elim
      | ex x => exact (dcL_ex ds [] eall).elim
      | ok all =>
        rw [eall] at h
        rw [bnd_ok] at h
        refine ⟨fun i m H' => m = ds.length - i ∧ i ≤ ds.length ∧ ∃ F' acc ys, Grow F1 H1 F' H' ∧ H' D0 = some (.dK acc) ∧ ¬ F' D0 ∧ RpK K F' H' (acc.map fun p => (kD p.1, p.2)) ys ∧ acc.length ≤ i ∧ dcL b t fk fv (wipeD δ vs) (ds.drop i) ys = .ok all, ⟨ds.length, by simp, Nat.zero_le _, F1, [], [], Grow.upd0 hD, upd_same, fun f => g1.dom s.dom _ f hD, .nil, Nat.le_refl _, by simpa using eall⟩, ?_⟩
        rintro i m H' ⟨rfl, hle, F', acc, ys, g2, hacc, nf, ra, hl, ez⟩
        have s1 := ((s.grow g1).grow g2)
        by_cases hlt : i < ds.length
        · refine .inr ⟨w.go F' H' i g2.stay hlt, fun H3 => i + 1 ≤ ds.length ∧ ∃ F' acc ys, Grow F1 H1 F' H3 ∧ H3 D0 = some (.dK acc) ∧ ¬ F' D0 ∧ RpK K F' H3 (acc.map fun p => (kD p.1, p.2)) ys ∧ acc.length ≤ i + 1 ∧ dcL b t fk fv (wipeD δ vs) (ds.drop (i + 1)) ys = .ok all, fun H3 ⟨a, c⟩ => ⟨ds.length - (i + 1), by omega, rfl, a, c⟩, fun x H2 y => ?_⟩
          obtain ⟨F2, g3, rx⟩ := w.yld F' H' i x H2 ds[i] g2.stay s1.dom (List.getElem?_eq_getElem hlt) y
          rw [List.drop_eq_getElem_cons hlt] at ez
          obtain ⟨δ1, c, eb, et, rest⟩ := dcL_ok ez (fun z => nomatch z)
          have s2 := (s1.grow g3).wipe vs
          have nfD : ∀ {F3 H3}, Grow F' H' F3 H3 → ¬ F3 D0 := fun g => g.notF nf (by rw [hacc]; exact fun z => nomatch z)
          refine ⟨F2, wipeD δ vs, ds[i], δ1, s2.len, rx, eb, fun σ2 u2 => ⟨u2.wipe hts, ?_⟩⟩
          refine ⟨F2, δ1, s2.upd u2, ?_⟩
          rw [et]
          intro F3 H3 g4
          rcases rest with ⟨ec, kx, vx, ek, ev, kk, er⟩ | ⟨ec, er⟩
          · subst ec
            rw [if_pos rfl]
            refine ⟨F3, δ1, (s2.upd u2).grow g4, ?_⟩
            rw [ek]
            intro ku F4 H4 g5 rk
            refine ⟨F4, δ1, ((s2.upd u2).grow g4).grow g5, ?_⟩
            rw [ev]
            intro vu F5 H5 g6 rv
            have gg := ((g3.trans g4).trans g5).trans g6
            have hacc5 : H5 D0 = some (.dK acc) := gg.same _ _ hacc
            obtain ⟨k', eku, ekx⟩ := key_K rk kk
            subst ekx
            refine ⟨acc, k', eku, hacc5, by omega, hlt, F5, putK acc k' vu, putD ys (kD k') vx, (g2.trans gg).wrote hD, upd_same, nfD gg, ?_, Nat.le_trans (length_putK acc k' vu) (Nat.succ_le_succ hl), er⟩
            have ku' : Kept F5 H5 (upd H5 D0 (.dK (putK acc k' vu))) := kept_upd (nfD gg) hacc5 trivial
            exact (rp_putK k' (gg.rpK ra) rv).mono (fun _ x => x) ku'
          · subst ec
            rw [if_neg Bool.false_ne_true]
            have gg := g3.trans g4
            exact ⟨hlt, F3, acc, ys, g2.trans gg, gg.same _ _ hacc, nfD gg, gg.rpK ra, by omega, er⟩
        · have ei : i = ds.length := by omega
          subst ei
          rw [List.drop_length] at ez
          cases ez
          obtain ⟨F2, g3, p⟩ := hP.own (g1.trans g2) (by
            cases e0 : H D0 with
            | none => rfl
            | some o => have := g1.same _ _ e0; rw [hD] at this; cases this) nf (show RpO K F' H' D0 (.dict all) from Or.inl ⟨acc, hacc, ra⟩)
          exact .inl ⟨w.stop F' H' g2.stay, h _ _ _ g3 p⟩
    · exact h.elim
theorem vp_dc {kx vx tg iter : Expr} {ifs : List Expr} {scope : Scope} {own : List (Str × Nat)} {ts : List Nat} {fi : Dl → Re (List D)} {b : Bd} {t : Dl → Re Bool} {fk fv : Dl → Re D} (hP : POwn X.K P) (hc : X.calm = true) (hN : X.N.Nodup) (hi : VI X W tg iter fi) (ok : BlkOk X.N X.env.scope scope own)
    (hg : ∀ (s : Shared) (H : Hp) (C : Addr) (cl : List (Str × Addr)) (fp : List Addr), VG (X.blk s H scope (compEnvC scope cl C X.env) fp) tg ts b) (ht : ∀ (s : Shared) (H : Hp) (C : Addr) (cl : List (Str × Addr)) (fp : List Addr), VTs (X.blk s H scope (compEnvC scope cl C X.env) fp) ifs t)
    (hk : ∀ (s : Shared) (H : Hp) (C : Addr) (cl : List (Str × Addr)) (fp : List Addr), VE (X.blk s H scope (compEnvC scope cl C X.env) fp) XW0 kx fk)
    (he : ∀ (s : Shared) (H : Hp) (C : Addr) (cl : List (Str × Addr)) (fp : List Addr), VE (X.blk s H scope (compEnvC scope cl C X.env) fp) XW0 vx fv) (hts : ∀ j ∈ ts, j ∈ own.map (·.2)) (hs : ∀ x, foldedSetIterable iter X.env x = pure x := by intro _; rfl) :
    VP X W P (.DictComp kx vx [⟨tg, iter, ifs, 0⟩] scope pos) (dcD (own.map (·.2)) fi b t fk fv) := PE.imp (pe_dc hc hN hi ok hg ht hk he hs) fun σ H Q h => t_dc hP hts h
end

/-! ### a, b, .. = x, y, .. -/
/-- values and what they are to their slots: shared, or new ones of their own -/
inductive MR (K : PySem.W.Frag) (F : Addr → Prop) (H Hs : Hp) : List V → List Sl → List Addr → Prop
  | nil : MR K F H Hs [] [] []
  | sh {v vs d ss as} : Rp K F H v d → MR K F H Hs vs ss as → MR K F H Hs (v :: vs) (.sh d :: ss) as
  | ow {a vs d ss as} : RpO K F H a d → ¬ F a → Hs a = none → a ∉ as → MR K F H Hs vs ss as → MR K F H Hs (.ref a :: vs) (.ow d :: ss) (a :: as)
theorem MR.old {K : PySem.W.Frag} {F : Addr → Prop} {H Hs Hs' : Hp} (s : Same Hs' Hs) : ∀ {vs : List V} {ss : List Sl} {as : List Addr}, MR K F H Hs vs ss as → MR K F H Hs' vs ss as
  | _, _, _, .nil => .nil
  | _, _, _, .sh r t => .sh r (t.old s)
  | _, _, _, .ow o n h q t => .ow o n (s.free h) q (t.old s)
theorem MR.new {K : PySem.W.Frag} {F : Addr → Prop} {H Hs : Hp} : ∀ {vs : List V} {ss : List Sl} {as : List Addr}, MR K F H Hs vs ss as → ∀ a ∈ as, Hs a = none
  | _, _, _, .nil, _, h => nomatch h
  | _, _, _, .sh r t, a, h => t.new a h
  | _, _, _, .ow o n q _ t, a, h => (List.mem_cons.mp h).elim (fun e => e ▸ q) (t.new a)
def argsM : List (Bool × (Dl → Re D)) → Dl → Re (List Sl)
  | [], _ => .ok []
  | (w, f) :: r, δ => (f δ).bnd fun d => (argsM r δ).bnd fun ss => .ok ((if w = true then Sl.ow d else .sh d) :: ss)
def tAm (K : PySem.W.Frag) (W : XW) (f : Dl → Re (List Sl)) : TA := fun σ H Q => ∃ F δ, SokE K F H σ δ ∧ ReW W F H (f δ) fun ss => ∀ vs as F' H', Grow F H F' H' → MR K F' H' H vs ss as → Q vs H'
abbrev VM (X : Cx) (W : XW) (es : List Expr) (f : Dl → Re (List Sl)) : Prop := PA X es (tAm X.K W f)
section
variable {X : Cx} {W : XW} {e : Expr} {es : List Expr} {f : Dl → Re D} {fm : List (Bool × (Dl → Re D))}
theorem vm_nil : VM X W [] (argsM []) := PA.imp pa_nil fun σ H Q ⟨F, δ, s, h⟩ => h [] [] F H Grow.refl .nil
theorem vm_sh (h : VE X W e f) (hr : VM X W es (argsM fm)) (hs : starEach (e :: es) X.env = (false, eval e X.env) :: starEach es X.env := by rfl) : VM X W (e :: es) (argsM ((false, f) :: fm)) :=
  PA.imp (pa_cons h hr hs) fun σ H Q ⟨F, δ, s, q⟩ => by
    refine ⟨F, δ, s, ?_⟩
    change ReW W F H ((f δ).bnd fun d => (argsM fm δ).bnd fun ss => .ok (Sl.sh d :: ss)) _ at q
    cases ef : f δ with
    | no => rw [ef] at q; exact q
    | ex x => rw [ef] at q; exact q
    | ok d =>
      rw [ef] at q
      intro v F1 H1 g1 rv
      refine ⟨F1, δ, s.grow g1, ?_⟩
      simp only [bnd_ok] at q
      cases eg : argsM fm δ with
      | no => rw [eg] at q; exact q
      | ex x => rw [eg] at q; exact fun F2 H2 g2 => q F2 H2 (g1.trans g2)
      | ok ss =>
        rw [eg] at q
        exact fun vs as F2 H2 g2 m => q (v :: vs) as F2 H2 (g1.trans g2) (.sh (g2.rp rv) (m.old g1.same))
theorem vm_ow (h : VF X W e f) (hr : VM X W es (argsM fm)) (hs : starEach (e :: es) X.env = (false, eval e X.env) :: starEach es X.env := by rfl) : VM X W (e :: es) (argsM ((true, f) :: fm)) :=
  PA.imp (pa_cons h hr hs) fun σ H Q ⟨F, δ, s, q⟩ => by
    refine ⟨F, δ, s, ?_⟩
    change ReW W F H ((f δ).bnd fun d => (argsM fm δ).bnd fun ss => .ok (Sl.ow d :: ss)) _ at q
    cases ef : f δ with
    | no => rw [ef] at q; exact q
    | ex x => rw [ef] at q; exact q
    | ok d =>
      rw [ef] at q
      rintro v F1 H1 g1 ⟨a, ev, hn, nf, o⟩
      subst ev
      refine ⟨F1, δ, s.grow g1, ?_⟩
      simp only [bnd_ok] at q
      cases eg : argsM fm δ with
      | no => rw [eg] at q; exact q
      | ex x => rw [eg] at q; exact fun F2 H2 g2 => q F2 H2 (g1.trans g2)
      | ok ss =>
        rw [eg] at q
        intro vs as F2 H2 g2 m
        obtain ⟨u, hu, _⟩ := o.there
        refine q (.ref a :: vs) (a :: as) F2 H2 (g1.trans g2) (.ow (o.kept g2.sub g2.kept ((g2.same a u hu).trans hu.symm)) (g2.notF nf o.some) hn (fun z => ?_) (m.old g1.same))
        have := m.new a z
        rw [hu] at this
        cases this
end
def bindM : List Nat → List Sl → Dl → Dl
  | i :: is, s :: ss, δ => bindM is ss (δ.set i s)
  | _, _, δ => δ
def bindV : List Nat → List V → L2.St → L2.St
  | i :: is, v :: vs, σ => bindV is vs (σ.set i (some v))
  | _, _, σ => σ
theorem sok_bind {K : PySem.W.Frag} {F0 : Addr → Prop} {H0 : Hp} {F : Addr → Prop} {H Hs : Hp} (h0 : ∀ a, Hs a = none → H0 a = none) : ∀ {vs : List V} {ss : List Sl} {as : List Addr} (is : List Nat) {σ : L2.St} {δ : Dl}, MR K F H Hs vs ss as → Sok K F0 H0 F H σ δ →
    (∀ (j : Nat) (e : D), δ[j]? = some (Sl.ow e) → ∀ a ∈ as, σ[j]? ≠ some (some (.ref a))) → Sok K F0 H0 F H (bindV is vs σ) (bindM is ss δ)
  | _, _, _, is, σ, δ, .nil, s, _ => by
    cases is with
    | nil => exact s
    | cons _ _ => exact s
  | _, _, _, [], σ, δ, .sh _ _, s, _ => s
  | _, _, _, [], σ, δ, .ow _ _ _ _ _, s, _ => s
  | _, _, _, i :: is, σ, δ, .sh r t, s, hn => by
    refine sok_bind h0 is t (s.setSh r) fun j e h a ha => ?_
    by_cases n : i = j
    · subst n
      obtain ⟨q, _⟩ := get_set_eq h
      cases q
    · rw [List.getElem?_set_ne n]
      exact hn j e (get_set_ne h n) a ha
  | _, _, _, i :: is, σ, δ, .ow (a := a) o nf ho na t, s, hn => by
    refine sok_bind h0 is t (s.setOw o nf (h0 a ho) fun j e h _ => hn j e h a List.mem_cons_self) fun j e h b hb => ?_
    by_cases n : i = j
    · subst n
      obtain ⟨q, hi⟩ := get_set_eq h
      rw [List.getElem?_set_self (by rw [← s.len]; exact hi)]
      intro z
      cases z
      exact na hb
    · rw [List.getElem?_set_ne n]
      exact hn j e (get_set_ne h n) b (List.mem_cons_of_mem _ hb)
def parS (is : List Nat) (fm : Dl → Re (List Sl)) (δ : Dl) : RS := toS (fm δ) fun ss => if ss.length = is.length then .nx (bindM is ss δ) else .no
theorem MR.length {K : PySem.W.Frag} {F : Addr → Prop} {H Hs : Hp} : ∀ {vs : List V} {ss : List Sl} {as : List Addr}, MR K F H Hs vs ss as → vs.length = ss.length
  | _, _, _, .nil => rfl
  | _, _, _, .sh _ t => congrArg (· + 1) t.length
  | _, _, _, .ow _ _ _ _ t => congrArg (· + 1) t.length
section
variable {X : Cx} {W : XW} {is : List Nat} {fm : Dl → Re (List Sl)} {pos : Pos} {K : PySem.W.Frag} {F0 : Addr → Prop} {H0 : Hp} {F : Addr → Prop} {H : Hp} {σ : L2.St} {δ : Dl} {D : Ends}
theorem SO.goM {r : Re (List Sl)} {k : List Sl → RS} {Q : List V → Hp → Prop} (s : Sok K F0 H0 F H σ δ) (h : SO K W F0 H0 F H D (toS r k))
    (q : ∀ ss vs as F1 H1, r = .ok ss → Grow F H F1 H1 → MR K F1 H1 H vs ss as → SO K W F0 H0 F1 H1 D (k ss) → Q vs H1) : ReW W F H r fun ss => ∀ vs as F' H', Grow F H F' H' → MR K F' H' H vs ss as → Q vs H' := by
  cases r with
  | ok ss => exact fun vs as F' H' g m => q ss vs as F' H' rfl g m (SO.stay h g.stay)
  | ex x => exact fun F' H' g => h F' H' g.stay (s.g.trans g)
  | no => exact h
theorem par_core {H1 : Hp} {F1 : Addr → Prop} {vs : List V} {ss : List Sl} {as : List Addr} (s : Sok K F0 H0 F H σ δ) (g : Grow F H F1 H1) (m : MR K F1 H1 H vs ss as) : Sok K F0 H0 F1 H1 (bindV is vs σ) (bindM is ss δ) :=
  sok_bind (fun a h => s.g.same.free h) is m (s.grow g) fun j e h a ha z => by
    obtain ⟨b, eb, o, _⟩ := s.ow j e h
    rw [eb] at z
    cases z
    obtain ⟨u, hu, _⟩ := o.there
    rw [m.new _ ha] at hu
    cases hu
theorem vs_par2 {i j : Nat} {x y : Str} {a b : Expr} {px py pt : Pos} {kt k2 pt2} (hc : X.calm = true) (hN : X.N.Nodup) (hi : X.N[i]? = some x) (hj : X.N[j]? = some y) (hij : i ≠ j)
    (hx : X.env.scope.names.lookup x = some .local) (hy : X.env.scope.names.lookup y = some .local) (ha : VM X W [a, b] fm)
    (hw : swappedStores [.Tuple [.Name x px, .Name y py] kt pt] (.Tuple [a, b] k2 pt2) X.env = pure (some [x, y]))
    (hs : swapsWithSole [.Tuple [.Name x px, .Name y py] kt pt] (.Tuple [a, b] k2 pt2) pos.line X.env = pure false := by rfl) :
    VSt X W (.Assign [.Tuple [.Name x px, .Name y py] kt pt] (.Tuple [a, b] k2 pt2) pos) (parS [i, j] fm) := PS.imp (ps_par hc hN hi hj hij hx hy ha hw hs) fun D σ H ⟨F0, H0, F, δ, s, q⟩ =>
  ⟨F, δ, s.e, SO.goM s q fun ss vs as F1 H1 e g m h1 => by
    split at h1
    · rename_i hl
      have hv := m.length.trans hl
      have hvs : ∃ v w, vs = [v, w] := match vs, hv with
        | [v, w], _ => ⟨v, w, rfl⟩
      obtain ⟨v, w, ev⟩ := hvs
      subst ev
      exact ⟨v, w, rfl, h1 F1 H1 _ Stay.refl (par_core (is := [i, j]) s g m)⟩
    · exact h1.elim⟩
theorem vs_par3 {i j l : Nat} {x y z : Str} {a b c : Expr} {px py pz pt : Pos} {kt k2 pt2} (hc : X.calm = true) (hN : X.N.Nodup) (hi : X.N[i]? = some x) (hj : X.N[j]? = some y) (hl : X.N[l]? = some z) (hij : i ≠ j) (hil : i ≠ l) (hjl : j ≠ l)
    (hx : X.env.scope.names.lookup x = some .local) (hy : X.env.scope.names.lookup y = some .local) (hz : X.env.scope.names.lookup z = some .local) (ha : VM X W [a, b, c] fm)
    (hw : swappedStores [.Tuple [.Name x px, .Name y py, .Name z pz] kt pt] (.Tuple [a, b, c] k2 pt2) X.env = pure (some [x, y, z]))
    (hs : swapsWithSole [.Tuple [.Name x px, .Name y py, .Name z pz] kt pt] (.Tuple [a, b, c] k2 pt2) pos.line X.env = pure false := by rfl) :
    VSt X W (.Assign [.Tuple [.Name x px, .Name y py, .Name z pz] kt pt] (.Tuple [a, b, c] k2 pt2) pos) (parS [i, j, l] fm) := PS.imp (ps_par3 hc hN hi hj hl hij hil hjl hx hy hz ha hw hs) fun D σ H ⟨F0, H0, F, δ, s, q⟩ =>
  ⟨F, δ, s.e, SO.goM s q fun ss vs as F1 H1 e g m h1 => by
    split at h1
    · rename_i hl
      have hv := m.length.trans hl
      have hvs : ∃ u v w, vs = [u, v, w] := match vs, hv with
        | [u, v, w], _ => ⟨u, v, w, rfl⟩
      obtain ⟨u, v, w, ev⟩ := hvs
      subst ev
      exact ⟨u, v, w, rfl, h1 F1 H1 _ Stay.refl (par_core (is := [i, j, l]) s g m)⟩
    · exact h1.elim⟩
/-- several names, in order -/
def gNames : List Nat → TGs
  | [] => gNil
  | i :: is => gCons (gName i) (gNames is)
theorem gNames_run : ∀ (is : List Nat) (vs : List V) (σ : L2.St) (H : Hp) (Q : L2.St → Hp → Prop), vs.length = is.length → Q (bindV is vs σ) H → gNames is vs σ H Q
  | [], [], σ, H, Q, _, q => ⟨rfl, q⟩
  | i :: is, v :: vs, σ, H, Q, hl, q => ⟨v, vs, rfl, gNames_run is vs _ H Q (by simpa using hl) q⟩
  | [], _ :: _, _, _, _, hl, _ => by simp at hl
  | _ :: _, [], _, _, _, hl, _ => by simp at hl
theorem pgs_name {i : Nat} {x : Str} {p : Pos} {es : List Expr} (hN : X.N.Nodup) (hi : X.N[i]? = some x) (hx : Loc X.env.scope x) (hr : PGs X es (gNames is)) (hf : X.fn x = true ∨ X.env.scope.names.lookup x = some .local := by first | exact .inl rfl | exact .inr rfl)
    (hs : (assignEach (.Name x p :: es) X.env).map (·.2) = assign (.Name x p) X.env :: (assignEach es X.env).map (·.2) := by rfl) : PGs X (.Name x p :: es) (gNames (i :: is)) := pgs_cons (pg_name hN hi hx hf) hr hs
/-- .. by a tuple that is made and taken apart -/
theorem vs_parG {es ts : List Expr} {n : Nat} {kt k2 pt pt2} (hc : X.calm = true) (ha : VM X W es fm) (hg : PGs X ts (gNames is)) (hn : (assignEach ts X.env).length = n) (hst : (assignEach ts X.env).findIdx? (·.1) = none) (hl : is.length = n) (h8 : n ≤ sizeLine)
    (hs : swapsWithSole [.Tuple ts kt pt] (.Tuple es k2 pt2) pos.line X.env = pure false := by rfl) (hw : swappedStores [.Tuple ts kt pt] (.Tuple es k2 pt2) X.env = pure none := by rfl)
    (h1 : (assignEach [.Tuple ts kt pt] X.env).map (·.2) = [assign (.Tuple ts kt pt) X.env] := by rfl) : VSt X W (.Assign [.Tuple ts kt pt] (.Tuple es k2 pt2) pos) (parS is fm) := PS.imp (ps_asg (pe_tup ha) (pg_tup hc hg hn hst) hs hw h1) fun D σ H ⟨F0, H0, F, δ, s, q⟩ =>
  ⟨F, δ, s.e, SO.goM s q fun ss vs as F1 H1 e g m h1 => by
    split at h1
    · rename_i hl2
      have hv := m.length.trans hl2
      refine ⟨by omega, fun p hp => ⟨p, vs, rfl, .inl (.inl upd_same), by omega, gNames_run is vs σ _ _ hv ?_⟩⟩
      have g2 : Grow F1 H1 F1 (upd H1 p (.tup vs)) := Grow.upd0 hp
      have m2 : ∀ {vs : List V} {ss : List Sl} {as : List Addr}, MR X.K F1 H1 H vs ss as → ∀ o, MR X.K F1 (upd H1 p o) H vs ss as := fun {vs ss as} m o => by
        induction m with
        | nil => exact .nil
        | sh r t ih => exact .sh (r.mono (fun _ x => x) (Kept.of (same_upd hp))) ih
        | ow ro nf ho na t ih =>
          refine .ow (ro.kept (fun _ x => x) (Kept.of (same_upd hp)) (upd_ne fun z => ?_)) nf ho na ih
          exact ro.some (z ▸ hp)
      exact h1 _ _ _ g2.stay (par_core (is := is) s (g.trans g2) (m2 m _))
    · exact h1.elim⟩
/-- targets = e -/
def asgS (b : Bd) (f : Dl → Re PyData) (δ : Dl) : RS := toS (f δ) fun d => match b d δ with
  | some δ' => .nx δ'
  | none => .no
theorem vs_asg {tg e : Expr} {ts : List Nat} {b : Bd} {f : Dl → Re PyData} (he : VE X W e f) (hg : VG X tg ts b) (hs : swapsWithSole [tg] e pos.line X.env = pure false := by rfl) (hw : swappedStores [tg] e X.env = pure none := by rfl)
    (h1 : (assignEach [tg] X.env).map (·.2) = [assign tg X.env] := by rfl) : VSt X W (.Assign [tg] e pos) (asgS b f) := PS.imp (ps_asg he hg hs hw h1) fun D σ H ⟨F0, H0, F, δ, s, q⟩ =>
  ⟨F, δ, s.e, SO.go (P := pS X.K) s q fun d v F1 H1 e g r h1 => by
    cases eb : b d δ with
    | none => rw [eb] at h1; exact h1.elim
    | some δ' =>
      rw [eb] at h1
      exact ⟨F1, δ, d, δ', s.len, r, eb, fun σ' u => h1 F1 H1 σ' Stay.refl ((s.grow g).upd u)⟩⟩
end
end VS
end
section
namespace VS
open PySem PySem.Spec PyProof.Rows L2

/-! ### built-ins by their names -/
section
variable {X : Cx} {W : XW} {P : PP} {e e2 : Expr} {fs : Dl → Re (List D)} {pos p : Pos}
theorem ve_len (hg : Gl X "len") (hm : X.mg "len" = none) (ha : VA X W RpB [e] fs) (he : starEach [e] X.env = (false, eval e X.env) :: starEach [] X.env := by rfl) : VE X W (.Call (.Name "len" p) [e] [] pos) (dA fs lenD) := vp_callB pS_mon call_lenAll cg_len hg hm (by decide +kernel) ha (by decide) (by decide) he
theorem ve_all (hc : X.calm = true) (hg : Gl X "all") (hm : X.mg "all" = none) (ha : VA X W RpB [e] fs) (he : starEach [e] X.env = (false, eval e X.env) :: starEach [] X.env := by rfl) : VE X W (.Call (.Name "all" p) [e] [] pos) (dA fs allD) := vp_callB pS_mon (cr_all hc) cg_all hg hm (by decide +kernel) ha (by decide) (by decide) he
theorem ve_any (hc : X.calm = true) (hg : Gl X "any") (hm : X.mg "any" = none) (ha : VA X W RpB [e] fs) (he : starEach [e] X.env = (false, eval e X.env) :: starEach [] X.env := by rfl) : VE X W (.Call (.Name "any" p) [e] [] pos) (dA fs anyD) := vp_callB pS_mon (cr_any hc) cg_any hg hm (by decide +kernel) ha (by decide) (by decide) he
theorem ve_sum (hc : X.calm = true) (hg : Gl X "sum") (hm : X.mg "sum" = none) (ha : VA X W RpB [e] fs) (he : starEach [e] X.env = (false, eval e X.env) :: starEach [] X.env := by rfl) : VE X W (.Call (.Name "sum" p) [e] [] pos) (dA fs sumD) := vp_callB pS_mon (cr_sum hc) cg_sum hg hm (by decide +kernel) ha (by decide) (by decide) he
theorem ve_abs (hg : Gl X "abs") (hm : X.mg "abs" = none) (ha : VA X W RpB [e] fs) (he : starEach [e] X.env = (false, eval e X.env) :: starEach [] X.env := by rfl) : VE X W (.Call (.Name "abs" p) [e] [] pos) (dA fs absD) := vp_callB pS_mon call_abs cg_abs hg hm (by decide +kernel) ha (by decide) (by decide) he
theorem ve_intC (hg : Gl X "int") (hm : X.mg "int" = none) (ha : VA X W RpB [e] fs) (he : starEach [e] X.env = (false, eval e X.env) :: starEach [] X.env := by rfl) : VE X W (.Call (.Name "int" p) [e] [] pos) (dA fs intD) := vp_callTy pS_mon call_int1 cg_int hg hm (by decide +kernel) ha (by decide) (by decide) he
theorem ve_min2 (hc : X.calm = true) (hg : Gl X "min") (hm : X.mg "min" = none) (ha : VA X W RpB [e, e2] fs) (he : starEach (e :: [e2]) X.env = (false, eval e X.env) :: starEach [e2] X.env := by rfl) (hpl : (backTo pos (starEach [e2] X.env)).any (·.1) = false := by rfl) : VE X W (.Call (.Name "min" p) [e, e2] [] pos) (dA fs min2D) := vp_callB pS_mon (call_min2 hc) cg_min2 hg hm (by decide +kernel) ha (by decide) (by decide) he hpl
theorem ve_max2 (hc : X.calm = true) (hg : Gl X "max") (hm : X.mg "max" = none) (ha : VA X W RpB [e, e2] fs) (he : starEach (e :: [e2]) X.env = (false, eval e X.env) :: starEach [e2] X.env := by rfl) (hpl : (backTo pos (starEach [e2] X.env)).any (·.1) = false := by rfl) : VE X W (.Call (.Name "max" p) [e, e2] [] pos) (dA fs max2D) := vp_callB pS_mon (call_max2 hc) cg_max2 hg hm (by decide +kernel) ha (by decide) (by decide) he hpl
theorem ve_minL (hc : X.calm = true) (hu : X.A.units + 64 < cLine) (hg : Gl X "min") (hm : X.mg "min" = none) (ha : VA X W RpB [e] fs) (he : starEach [e] X.env = (false, eval e X.env) :: starEach [] X.env := by rfl) : VE X W (.Call (.Name "min" p) [e] [] pos) (dA fs minL) := vp_callB pS_mon (call_minP hc hu) cg_minL hg hm (by decide +kernel) ha (by decide) (by decide) he
theorem ve_maxL (hc : X.calm = true) (hu : X.A.units + 64 < cLine) (hg : Gl X "max") (hm : X.mg "max" = none) (ha : VA X W RpB [e] fs) (he : starEach [e] X.env = (false, eval e X.env) :: starEach [] X.env := by rfl) : VE X W (.Call (.Name "max" p) [e] [] pos) (dA fs maxL) := vp_callB pS_mon (call_maxP hc hu) cg_maxL hg hm (by decide +kernel) ha (by decide) (by decide) he
theorem vp_sorted (hP : PNew X.K P) (hu : X.A.units + 64 < cLine) (hg : Gl X "sorted") (hm : X.mg "sorted" = none) (ha : VA X W RpB [e] fs) (he : starEach [e] X.env = (false, eval e X.env) :: starEach [] X.env := by rfl) : VP X W P (.Call (.Name "sorted" p) [e] [] pos) (dA fs sortedD) := vp_callB hP.toPMon (call_sortV hu) (cg_sorted hP) hg hm (by decide +kernel) ha (by decide) (by decide) he
theorem vp_list (hP : PNew X.K P) (hg : Gl X "list") (hm : X.mg "list" = none) (ha : VA X W RpB [e] fs) (he : starEach [e] X.env = (false, eval e X.env) :: starEach [] X.env := by rfl) : VP X W P (.Call (.Name "list" p) [e] [] pos) (dA fs lstOfD) := vp_callTy hP.toPMon call_list_of (cg_list hP) hg hm (by decide +kernel) ha (by decide) (by decide) he
theorem ve_tupB (hg : Gl X "tuple") (hm : X.mg "tuple" = none) (ha : VA X W RpB [e] fs) (he : starEach [e] X.env = (false, eval e X.env) :: starEach [] X.env := by rfl) : VE X W (.Call (.Name "tuple" p) [e] [] pos) (dA fs tupOfD) := vp_callTy pS_mon call_tuple_of cg_tuple hg hm (by decide +kernel) ha (by decide) (by decide) he
theorem ve_tupA (hg : Gl X "tuple") (hm : X.mg "tuple" = none) (ha : VA X W Rp [e] fs) (he : starEach [e] X.env = (false, eval e X.env) :: starEach [] X.env := by rfl) : VE X W (.Call (.Name "tuple" p) [e] [] pos) (dA fs tupAnyD) := vp_callTy pS_mon call_tuple_of cg_tupAny hg hm (by decide +kernel) ha (by decide) (by decide) he
end
theorem va1 {X : Cx} {W : XW} {R : Rel} {e : Expr} {f : Dl → Re D} (kR : RKeep R) (h : VP X W (pp X.K R) e f) (hs : starEach [e] X.env = (false, eval e X.env) :: starEach [] X.env := by rfl) : VA X W R [e] (argsF [f]) := va_cons kR h va_nil hs
end VS
end
section
namespace VS
open PySem PySem.Spec PyProof.Rows L2

theorem hu1 {A : Around} (h : A.units + 64 < cLine) : A.units + 1 < cLine := by omega
/-! ### own exceptions by their facts -/
structure ExcF (K : PySem.W.Frag) (mg : Str → Option Value) (x : Str) : Prop where
  g : mg x = some (.ref (He.ga K x))
  e : PySem.W.excIn K (He.ga K x) He.veBase "ValueError.__new__" = true
  k : PySem.W.keepIn K (.ref (He.ga K x)) = true
  s : PySem.W.subIn K (.ref (He.ga K x)) (.type "BaseException") = some true
  t : PySem.W.typeIn K (.ref (He.ga K x)) = some (.type "type")
theorem excF_of {K : PySem.W.Frag} {mg : Str → Option Value} {x : Str} (g : mg x = some (.ref (He.ga K x)))
    (h : PySem.W.excIn K (He.ga K x) He.veBase "ValueError.__new__" = true ∧ PySem.W.keepIn K (.ref (He.ga K x)) = true ∧ PySem.W.subIn K (.ref (He.ga K x)) (.type "BaseException") = some true ∧ PySem.W.typeIn K (.ref (He.ga K x)) = some (.type "type")) : ExcF K mg x :=
  ⟨g, h.1, h.2.1, h.2.2.1, h.2.2.2⟩
theorem vs_raiseF {X : Cx} {W : XW} {x m : Str} {j : Nat} {p p2 pos pos' : Pos} (hc : X.calm = true) (tk : XOk X W) (h : ExcF X.K X.mg x) (hg : Gl X x) (hdb : (x == ("__debug__" : Str)) = false := by decide) :
    VSt X W (.Raise (some (.Call (.Name x p) [.Constant (.str m) j p2] [] pos')) none pos) (raiS x) := vs_raise hc tk F.excBase_ValueError h.e h.g h.k (raises_own h.s h.t) hg hdb
def HtOk (K : PySem.W.Frag) (mg : Str → Option Value) (c : Value) (t : List (Str × Bool)) : Prop := ∀ nm b, t.lookup nm = some b → ∀ cls, mg nm = some cls → PySem.W.exmOne K cls c = some b
theorem htOk_nil {K : PySem.W.Frag} {mg : Str → Option Value} {c : Value} : HtOk K mg c [] := fun nm b h => by cases h
theorem htOk_cons {K : PySem.W.Frag} {mg : Str → Option Value} {c : Value} {t : List (Str × Bool)} {x : Str} {b : Bool} (g : mg x = some (.ref (He.ga K x))) (e : PySem.W.exmOne K (.ref (He.ga K x)) c = some b) (r : HtOk K mg c t) : HtOk K mg c ((x, b) :: t) := fun nm b' h cls hm => by
  rw [List.lookup_cons] at h
  cases en : nm == x with
  | true =>
    rw [en] at h
    cases h
    have : nm = x := eq_of_beq en
    subst this
    rw [g] at hm
    cases hm
    exact e
  | false =>
    rw [en] at h
    exact r nm b' h cls hm

/-! ### the law -/
theorem scrR_of {K : PySem.W.Frag} {H : Hp} {a : Addr} {ns : List Int} (hO : Only H) (h : SqL K H a (ns.map V.int)) : ScrR K H a ns := by
  refine ⟨h, fun H' k => ?_⟩
  rcases h with h | h
  · rcases h with h | ⟨o, h⟩
    · rcases hO a with z | ⟨o, xs, z⟩
      · rw [h] at z; cases z
      · rw [h] at z; cases z
    · exact .inl (.inr ⟨o, k a _ h mut_frz⟩)
  · exact .inr h
theorem walk_law {l : PySem.W.OpenLaw} {k : Nat} {q : Program} {loose : List Str} {XP : (Str → Option Value) → Heap → Prop} {YP : World → Heap → Prop} {d : DefRec} {x : Str}
    (hn : l.most = some 63) (hdf : d.params.defaults = []) (hr : Room k callerA)
    (F : ∀ (w : World) (mg : Str → Option Value) (fa : Addr) (h : Heap), YP w h → h.Ns mainGlobals mg → mg d.name = some (.ref fa) →
      ∃ (K : PySem.W.Frag) (fd : FuncData) (g : List Sl → Re D), K.In h ∧ (∀ (s : Shared) (u : Value), BindsTo s fd ⟨[u], []⟩ [(x, u)]) ∧
        (∀ base : Heap, K.In base → base.Ns mainGlobals mg → FnOk l.prog w K mg base (L2.CX l.prog w) k fa fd [x] (SpG K mg 1 g)) ∧ ∀ ns : List Int, ns.length ≤ 63 → g [.br ns] = .ok (.bool true)) :
    PySem.W.WalkO q loose XP YP l.row.toRowW d [] (fun f vs => PySem.call f vs) := by
  refine Att.attach_call hn hdf fun w s₀ s₁ mg mb fa o pm cd doc a vs ns G Y ho hd hcd hmg hobj hints hlen hg => ?_
  obtain ⟨K, fd, g, KX, hb, hF, good⟩ := F w mg fa _ Y G.T.g hmg
  have hz : ns.length ≤ sizeLine := Nat.le_trans hlen (by rw [sizeLine_eq]; decide)
  refine law_call KX G.T.g G.T.b G.T.builtins G.T.nolimit hg hobj hints hz hr hF hb (fun H hO hS => ⟨rfl, fun _ => False, [.br ns], fun _ f => f.elim, .br (scrR_of hO hS) .nil, ?_⟩) fun H e s' h => ?_
  · rw [good ns hlen]
    exact fun v F' H' _ r => rp_bl (Rp.b r)
  · obtain ⟨_, _, _, _, _, _, _, _, _, _, _, _, z⟩ := h
    exact z
end VS
end
section
namespace VS
open PySem PySem.Spec PyProof.Rows L2

/-! ### is, is not of bools -/
def isBD : D → D → Re D
  | .bool a, .bool b => .ok (.bool (decide (a = b)))
  | _, _ => .no
def notBD : D → D → Re D
  | .bool a, .bool b => .ok (.bool (!decide (a = b)))
  | _, _ => .no
theorem og_isB {X : Cx} {W : XW} : OpG X W (pS X.K) rIsB isBD := by
  intro F H x y dx dy Q dm rx ry h
  unfold isBD at h
  split at h
  · exact ⟨_, _, rp_bl rx, rp_bl ry, h.val (.bl _)⟩
  · exact h.elim
theorem og_notB {X : Cx} {W : XW} : OpG X W (pS X.K) rNotB notBD := by
  intro F H x y dx dy Q dm rx ry h
  unfold notBD at h
  split at h
  · exact ⟨_, _, rp_bl rx, rp_bl ry, h.val (.bl _)⟩
  · exact h.elim
def c_isB {X : Cx} {W : XW} (hu : X.A.units + 64 < cLine) : CmpR X W .Is isBD := ⟨_, op_isBl, og_isB⟩
def c_notB {X : Cx} {W : XW} (hu : X.A.units + 64 < cLine) : CmpR X W .IsNot notBD := ⟨_, op_notBl, og_notB⟩
end VS
end
section
namespace VS
open PySem PySem.Spec PyProof.Rows L2

/-! ### [e for x in xs if .. for y in ys if ..] -/
theorem Upd.stay {K : PySem.W.Frag} {F F' : Addr → Prop} {H H' : Hp} {ts : List Nat} {σ σ' : L2.St} {δ δ' : Dl} (u : Upd K F H ts σ δ σ' δ') (s : Stay F H F' H') : Upd K F' H' ts σ δ σ' δ' := ⟨u.lσ, u.lδ, u.out, fun i h x e => by
  obtain ⟨d, v, e1, e2, r⟩ := u.into i h x e
  exact ⟨d, v, e1, e2, s.rp r⟩⟩
def lc1L (vs1 : List Nat) (fi1 : Dl → Re (List D)) (b1 : Bd) (t1 : Dl → Re Bool) (e : Dl → Re D) (δ1 : Dl) : Re (List D) := (nxR (fi1 δ1)).bnd fun es => lcL b1 t1 e (wipeD δ1 vs1) es
def lc2L (b : Bd) (t : Dl → Re Bool) (g : Dl → Re (List D)) (δ : Dl) : List D → Re (List D)
  | [] => .ok []
  | d :: ds => match b d δ with
    | none => .no
    | some δ1 => (nxR (t δ1)).bnd fun c => if c = true then (nxR (g δ1)).bnd fun y => (lc2L b t g δ ds).bnd fun ys => .ok (y ++ ys) else lc2L b t g δ ds
def lc2D (vs vs1 : List Nat) (fi : Dl → Re (List D)) (b : Bd) (t : Dl → Re Bool) (fi1 : Dl → Re (List D)) (b1 : Bd) (t1 : Dl → Re Bool) (e : Dl → Re D) (δ : Dl) : Re D :=
  (fi δ).bnd fun ds => (lc2L b t (lc1L vs1 fi1 b1 t1 e) (wipeD δ vs) ds).bnd fun ys => if ys.length ≤ sizeLine then .ok (.list ys) else .no
theorem lc2L_ok {b : Bd} {t : Dl → Re Bool} {g : Dl → Re (List D)} {δ : Dl} {d : D} {ds zs : List D} (h : lc2L b t g δ (d :: ds) = .ok zs) : ∃ δ1 c, b d δ = some δ1 ∧ t δ1 = .ok c ∧ ((c = true ∧ ∃ y ys, g δ1 = .ok y ∧ lc2L b t g δ ds = .ok ys ∧ zs = y ++ ys) ∨ (c = false ∧ lc2L b t g δ ds = .ok zs)) := by
  unfold lc2L at h
  cases eb : b d δ with
  | none => rw [eb] at h; cases h
  | some δ1 =>
    rw [eb] at h
    cases et : t δ1 with
    | ex x => simp only [et, nxR, bnd_no] at h; cases h
    | no => simp only [et, nxR, bnd_no] at h; cases h
    | ok c =>
      simp only [et, nxR, bnd_ok] at h
      refine ⟨δ1, c, rfl, et, ?_⟩
      cases c with
      | false => rw [if_neg Bool.false_ne_true] at h; exact .inr ⟨rfl, h⟩
      | true =>
        rw [if_pos rfl] at h
        cases ee : g δ1 with
        | ex x => simp only [ee, nxR, bnd_no] at h; cases h
        | no => simp only [ee, nxR, bnd_no] at h; cases h
        | ok y =>
          simp only [ee, nxR, bnd_ok] at h
          cases er : lc2L b t g δ ds with
          | ex x => rw [er] at h; cases h
          | no => rw [er] at h; cases h
          | ok ys => rw [er] at h; cases h; exact .inl ⟨rfl, y, ys, rfl, rfl, rfl⟩
theorem lc2L_ex {b : Bd} {t : Dl → Re Bool} {g : Dl → Re (List D)} {δ : Dl} {x : Xn} : ∀ ds : List D, lc2L b t g δ ds ≠ .ex x
  | [] => fun h => nomatch h
  | d :: ds => fun h => by
    unfold lc2L at h
    cases eb : b d δ with
    | none => rw [eb] at h; cases h
    | some δ1 =>
      rw [eb] at h
      cases et : t δ1 with
      | ex x => simp only [et, nxR, bnd_no] at h; cases h
      | no => simp only [et, nxR, bnd_no] at h; cases h
      | ok c =>
        simp only [et, nxR, bnd_ok] at h
        cases c with
        | false => rw [if_neg Bool.false_ne_true] at h; exact lc2L_ex ds h
        | true =>
          rw [if_pos rfl] at h
          cases ee : g δ1 with
          | ex x => simp only [ee, nxR, bnd_no] at h; cases h
          | no => simp only [ee, nxR, bnd_no] at h; cases h
          | ok y =>
            simp only [ee, nxR, bnd_ok] at h
            cases er : lc2L b t g δ ds with
            | ex x' => exact (lc2L_ex ds er).elim
            | no => rw [er] at h; cases h
            | ok ys => rw [er] at h; cases h
theorem lc1L_ok {vs1 : List Nat} {fi1 : Dl → Re (List D)} {b1 : Bd} {t1 : Dl → Re Bool} {e : Dl → Re D} {δ1 : Dl} {ys : List D} (h : lc1L vs1 fi1 b1 t1 e δ1 = .ok ys) : ∃ es, fi1 δ1 = .ok es ∧ lcL b1 t1 e (wipeD δ1 vs1) es = .ok ys := by
  unfold lc1L at h
  cases ef : fi1 δ1 with
  | no => rw [ef] at h; cases h
  | ex x => rw [ef] at h; cases h
  | ok es => rw [ef] at h; exact ⟨es, rfl, h⟩
section
variable {X : Cx} {W : XW} {P : PP} {pos : Pos}
theorem t_lc2 {ts ts1 vs vs1 : List Nat} {fi fi1 : Dl → Re (List D)} {b b1 : Bd} {t t1 : Dl → Re Bool} {e : Dl → Re D} {K : PySem.W.Frag} (hP : POwn K P) (hts : ∀ j ∈ ts, j ∈ vs) (hts1 : ∀ j ∈ ts1, j ∈ vs1) {σ : L2.St} {H : Hp} {Q : VK} (h : tP K W P (lc2D vs vs1 fi b t fi1 b1 t1 e) σ H Q) :
    tLc2 (tI K W fi) (tG K ts b) (tT K XW0 t) (tI K XW0 fi1) (tG K ts1 b1) (tT K XW0 t1) (tP K XW0 (pS K) e) vs vs1 σ H Q := by
  obtain ⟨F, δ, s, h⟩ := h
  refine ⟨F, δ, s, ?_⟩
  change ReW W F H ((fi δ).bnd _) _ at h
  cases ef : fi δ with
  | no => rw [ef] at h; exact h
  | ex x => rw [ef] at h; exact h
  | ok ds =>
    rw [ef] at h
    rw [bnd_ok] at h
    intro J F1 H1 g1 w D0 hD
    cases eall : lc2L b t (lc1L vs1 fi1 b1 t1 e) (wipeD δ vs) ds with
    | no => rw [eall] at h; exact h.elim
    | ex x => exact (lc2L_ex ds eall).elim
    | ok all =>
      rw [eall] at h
      rw [bnd_ok] at h
      split at h
      · rename_i hsz
        refine ⟨fun i m H' => m = ds.length - i ∧ i ≤ ds.length ∧ ∃ F' acc ys zs, Grow F1 H1 F' H' ∧ H' D0 = some (.lst acc) ∧ ¬ F' D0 ∧ RpA K F' H' acc ys ∧ lc2L b t (lc1L vs1 fi1 b1 t1 e) (wipeD δ vs) (ds.drop i) = .ok zs ∧ all = ys ++ zs, ⟨ds.length, by simp, Nat.zero_le _, F1, [], [], all, Grow.upd0 hD, upd_same, fun f => g1.dom s.dom _ f hD, .nil, by simpa using eall, rfl⟩, ?_⟩
        rintro i m H' ⟨rfl, hle, F', acc, ys, zs, g2, hacc, nf, ra, ez, ea⟩
        have s1 := ((s.grow g1).grow g2)
        by_cases hlt : i < ds.length
        · refine .inr ⟨w.go F' H' i g2.stay hlt, fun H3 => i + 1 ≤ ds.length ∧ ∃ F' acc ys zs, Grow F1 H1 F' H3 ∧ H3 D0 = some (.lst acc) ∧ ¬ F' D0 ∧ RpA K F' H3 acc ys ∧ lc2L b t (lc1L vs1 fi1 b1 t1 e) (wipeD δ vs) (ds.drop (i + 1)) = .ok zs ∧ all = ys ++ zs, fun H3 ⟨a, c⟩ => ⟨ds.length - (i + 1), by omega, rfl, a, c⟩, fun x H2 y => ?_⟩
          obtain ⟨F2, g3, rx⟩ := w.yld F' H' i x H2 ds[i] g2.stay s1.dom (List.getElem?_eq_getElem hlt) y
          rw [List.drop_eq_getElem_cons hlt] at ez
          obtain ⟨δ1, c, eb, et, rest⟩ := lc2L_ok ez
          have s2 := (s1.grow g3).wipe vs
          have nfD : ∀ {F3 H3}, Grow F' H' F3 H3 → ¬ F3 D0 := fun g => g.notF nf (by rw [hacc]; exact fun z => nomatch z)
          refine ⟨F2, wipeD δ vs, ds[i], δ1, s2.len, rx, eb, fun σ2 u2 => ⟨u2.wipe hts, ?_⟩⟩
          refine ⟨F2, δ1, s2.upd u2, ?_⟩
          rw [et]
          intro F3 H3 g4
          rcases rest with ⟨ec, yv, ys', ey, er, ezs⟩ | ⟨ec, er⟩
          · subst ec
            rw [if_pos rfl]
            obtain ⟨es, efi, eys⟩ := lc1L_ok ey
            refine ⟨F3, δ1, (s2.upd u2).grow g4, ?_⟩
            rw [efi]
            intro J1 F4 H4 g5 w1
            have gg := (g3.trans g4).trans g5
            have hacc4 : H4 D0 = some (.lst acc) := gg.same _ _ hacc
            refine ⟨fun j k H' => k = es.length - j ∧ j ≤ es.length ∧ ∃ F' acc ys ws, Grow F1 H1 F' H' ∧ Stay F4 H4 F' H' ∧ H' D0 = some (.lst acc) ∧ ¬ F' D0 ∧ RpA K F' H' acc ys ∧ lcL b1 t1 e (wipeD δ1 vs1) (es.drop j) = .ok ws ∧ all = ys ++ (ws ++ ys'), ⟨es.length, by simp, Nat.zero_le _, F4, acc, ys, yv, g2.trans gg, Stay.refl, hacc4, nfD gg, gg.rpA ra, by simpa using eys, by rw [ea, ezs]⟩, ?_⟩
            rintro j k H5 ⟨rfl, hjle, F5, acc5, ys5, ws, q2, st5, hacc5, nf5, ra5, ew, ea5⟩
            have sb5 := (((s.grow g1).grow q2).wipe vs).upd (u2.stay ((g4.trans g5).stay.trans st5))
            by_cases hjlt : j < es.length
            · refine .inr ⟨w1.go F5 H5 j st5 hjlt, fun H' => j + 1 ≤ es.length ∧ ∃ F' acc ys ws, Grow F1 H1 F' H' ∧ Stay F4 H4 F' H' ∧ H' D0 = some (.lst acc) ∧ ¬ F' D0 ∧ RpA K F' H' acc ys ∧ lcL b1 t1 e (wipeD δ1 vs1) (es.drop (j + 1)) = .ok ws ∧ all = ys ++ (ws ++ ys'), fun H3 ⟨a, c⟩ => ⟨es.length - (j + 1), by omega, rfl, a, c⟩, fun x1 H6 y1 => ?_⟩
              obtain ⟨F6, h3, rx1⟩ := w1.yld F5 H5 j x1 H6 es[j] st5 sb5.dom (List.getElem?_eq_getElem hjlt) y1
              rw [List.drop_eq_getElem_cons hjlt] at ew
              obtain ⟨δ3, c3, eb3, et3, rest3⟩ := lcL_ok ew
              have s6 := (sb5.grow h3).wipe vs1
              have nf6 : ∀ {F3 H3}, Grow F5 H5 F3 H3 → ¬ F3 D0 := fun g => g.notF nf5 (by rw [hacc5]; exact fun z => nomatch z)
              refine ⟨F6, wipeD δ1 vs1, es[j], δ3, s6.len, rx1, eb3, fun σ3 u3 => ⟨u3.wipe hts1, ?_⟩⟩
              refine ⟨F6, δ3, s6.upd u3, ?_⟩
              rw [et3]
              intro F7 H7 h4
              rcases rest3 with ⟨ec, v3, ws', ev3, er3, ews⟩ | ⟨ec, er3⟩
              · subst ec
                rw [if_pos rfl]
                refine ⟨F7, δ3, (s6.upd u3).grow h4, ?_⟩
                rw [ev3]
                intro v F8 H8 h5 rv
                have hh := (h3.trans h4).trans h5
                have hacc8 : H8 D0 = some (.lst acc5) := hh.same _ _ hacc5
                have kk : Kept F8 H8 (upd H8 D0 (.lst (acc5 ++ [v]))) := kept_upd (nf6 hh) hacc8 trivial
                have hlen : acc5.length < sizeLine := by
                  have l1 := ra5.length
                  have l2 := congrArg List.length ea5
                  rw [ews] at l2
                  simp at l2
                  omega
                refine ⟨acc5, hacc8, hlen, hjlt, F8, acc5 ++ [v], ys5 ++ [v3], ws', (q2.trans hh).wrote hD, (st5.trans hh.stay).trans ⟨fun _ x => x, kk⟩, upd_same, nf6 hh, ?_, er3, by rw [ea5, ews]; simp⟩
                exact ((hh.rpA ra5).append (.cons rv .nil)).mono (fun _ x => x) kk
              · subst ec
                rw [if_neg Bool.false_ne_true]
                have hh := h3.trans h4
                exact ⟨hjlt, F7, acc5, ys5, ws, q2.trans hh, st5.trans hh.stay, hh.same _ _ hacc5, nf6 hh, hh.rpA ra5, er3, ea5⟩
            · have ei : j = es.length := by omega
              subst ei
              rw [List.drop_length] at ew
              cases ew
              exact .inl ⟨w1.stop F5 H5 st5, hlt, F5, acc5, ys5, ys', q2, hacc5, nf5, ra5, er, ea5⟩
          · subst ec
            rw [if_neg Bool.false_ne_true]
            have gg := g3.trans g4
            exact ⟨hlt, F3, acc, ys, zs, g2.trans gg, gg.same _ _ hacc, nfD gg, gg.rpA ra, er, ea⟩
        · have ei : i = ds.length := by omega
          subst ei
          rw [List.drop_length] at ez
          cases ez
          rw [List.append_nil] at ea
          subst ea
          obtain ⟨F2, g3, p⟩ := hP.own (g1.trans g2) (by
            cases e0 : H D0 with
            | none => rfl
            | some o => have := g1.same _ _ e0; rw [hD] at this; cases this) nf (show RpO K F' H' D0 (.list all) from ⟨acc, hacc, ra⟩)
          exact .inl ⟨w.stop F' H' g2.stay, h _ _ _ g3 p⟩
      · exact h.elim
theorem vp_lc2 {elt tg iter tg1 iter1 : Expr} {ifs ifs1 : List Expr} {scope : Scope} {own : List (Str × Nat)} {ts ts1 vs1 : List Nat} {fi fi1 : Dl → Re (List D)} {b b1 : Bd} {t t1 : Dl → Re Bool} {e : Dl → Re D} (hP : POwn X.K P) (hc : X.calm = true) (hN : X.N.Nodup) (hi : VI X W tg iter fi) (ok : BlkOk X.N X.env.scope scope own) (hv : ∀ i ∈ vs1, i ∈ own.map (·.2))
    (hg : ∀ (s : Shared) (H : Hp) (C : Addr) (cl : List (Str × Addr)) (fp : List Addr), VG (X.blk s H scope (compEnvC scope cl C X.env) fp) tg ts b) (ht : ∀ (s : Shared) (H : Hp) (C : Addr) (cl : List (Str × Addr)) (fp : List Addr), VTs (X.blk s H scope (compEnvC scope cl C X.env) fp) ifs t)
    (hi1 : ∀ (s : Shared) (H : Hp) (C : Addr) (cl : List (Str × Addr)) (fp : List Addr), VI (X.blk s H scope (compEnvC scope cl C X.env) fp) XW0 tg1 iter1 fi1)
    (hg1 : ∀ (s : Shared) (H : Hp) (C : Addr) (cl : List (Str × Addr)) (fp : List Addr), VG (X.blk s H scope (compEnvC scope cl C X.env) fp) tg1 ts1 b1) (ht1 : ∀ (s : Shared) (H : Hp) (C : Addr) (cl : List (Str × Addr)) (fp : List Addr), VTs (X.blk s H scope (compEnvC scope cl C X.env) fp) ifs1 t1)
    (he : ∀ (s : Shared) (H : Hp) (C : Addr) (cl : List (Str × Addr)) (fp : List Addr), VE (X.blk s H scope (compEnvC scope cl C X.env) fp) XW0 elt e) (hts : ∀ j ∈ ts, j ∈ own.map (·.2)) (hts1 : ∀ j ∈ ts1, j ∈ vs1) (hs : ∀ x, foldedSetIterable iter X.env x = pure x := by intro _; rfl) (hs1 : ∀ env x, foldedSetIterable iter1 env x = pure x := by intro _ _; rfl) :
    VP X W P (.ListComp elt [⟨tg, iter, ifs, 0⟩, ⟨tg1, iter1, ifs1, 0⟩] scope pos) (lc2D (own.map (·.2)) vs1 fi b t fi1 b1 t1 e) := PE.imp (pe_lc2 hc hN hi ok hv hg ht hi1 hg1 ht1 he hs hs1) fun σ H Q h => t_lc2 hP hts hts1 h
theorem vs_setLc2 {i : Nat} {y : Str} {py spos : Pos} {elt tg iter tg1 iter1 : Expr} {ifs ifs1 : List Expr} {scope : Scope} {own : List (Str × Nat)} {ts ts1 vs1 : List Nat} {fi fi1 : Dl → Re (List D)} {b b1 : Bd} {t t1 : Dl → Re Bool} {e : Dl → Re D} (hc : X.calm = true) (hN : X.N.Nodup) (hy : X.N[i]? = some y) (hyl : X.env.scope.names.lookup y = some .local)
    (hsw : swapsWith (.ListComp elt [⟨tg, iter, ifs, 0⟩, ⟨tg1, iter1, ifs1, 0⟩] scope pos) (some (.Name y py)) spos.line X.env = pure true) (hi : VI X W tg iter fi) (ok : BlkOk X.N X.env.scope scope own) (hv : ∀ i ∈ vs1, i ∈ own.map (·.2))
    (hg : ∀ (s : Shared) (H : Hp) (C : Addr) (cl : List (Str × Addr)) (fp : List Addr), VG (X.blk s H scope (compEnvC scope cl C X.env) fp) tg ts b) (ht : ∀ (s : Shared) (H : Hp) (C : Addr) (cl : List (Str × Addr)) (fp : List Addr), VTs (X.blk s H scope (compEnvC scope cl C X.env) fp) ifs t)
    (hi1 : ∀ (s : Shared) (H : Hp) (C : Addr) (cl : List (Str × Addr)) (fp : List Addr), VI (X.blk s H scope (compEnvC scope cl C X.env) fp) XW0 tg1 iter1 fi1)
    (hg1 : ∀ (s : Shared) (H : Hp) (C : Addr) (cl : List (Str × Addr)) (fp : List Addr), VG (X.blk s H scope (compEnvC scope cl C X.env) fp) tg1 ts1 b1) (ht1 : ∀ (s : Shared) (H : Hp) (C : Addr) (cl : List (Str × Addr)) (fp : List Addr), VTs (X.blk s H scope (compEnvC scope cl C X.env) fp) ifs1 t1)
    (he : ∀ (s : Shared) (H : Hp) (C : Addr) (cl : List (Str × Addr)) (fp : List Addr), VE (X.blk s H scope (compEnvC scope cl C X.env) fp) XW0 elt e) (hts : ∀ j ∈ ts, j ∈ own.map (·.2)) (hts1 : ∀ j ∈ ts1, j ∈ vs1) (hs : ∀ x, foldedSetIterable iter X.env x = pure x := by intro _; rfl) (hs1 : ∀ env x, foldedSetIterable iter1 env x = pure x := by intro _ _; rfl) :
    VSt X W (.Assign [.Name y py] (.ListComp elt [⟨tg, iter, ifs, 0⟩, ⟨tg1, iter1, ifs1, 0⟩] scope pos) spos) (setS i (lc2D (own.map (·.2)) vs1 fi b t fi1 b1 t1 e)) := PS.imp (ps_setLc2 hc hN hy hyl hsw hi ok hv hg ht hi1 hg1 ht1 he hs hs1) fun D σ H h => t_lc2 pS_own hts hts1 (t_setS h)
theorem vs_setLc2O {i : Nat} {y : Str} {py spos : Pos} {elt tg iter tg1 iter1 : Expr} {ifs ifs1 : List Expr} {scope : Scope} {own : List (Str × Nat)} {ts ts1 vs1 : List Nat} {fi fi1 : Dl → Re (List D)} {b b1 : Bd} {t t1 : Dl → Re Bool} {e : Dl → Re D} (hc : X.calm = true) (hN : X.N.Nodup) (hy : X.N[i]? = some y) (hyl : X.env.scope.names.lookup y = some .local)
    (hsw : swapsWith (.ListComp elt [⟨tg, iter, ifs, 0⟩, ⟨tg1, iter1, ifs1, 0⟩] scope pos) (some (.Name y py)) spos.line X.env = pure true) (hi : VI X W tg iter fi) (ok : BlkOk X.N X.env.scope scope own) (hv : ∀ i ∈ vs1, i ∈ own.map (·.2))
    (hg : ∀ (s : Shared) (H : Hp) (C : Addr) (cl : List (Str × Addr)) (fp : List Addr), VG (X.blk s H scope (compEnvC scope cl C X.env) fp) tg ts b) (ht : ∀ (s : Shared) (H : Hp) (C : Addr) (cl : List (Str × Addr)) (fp : List Addr), VTs (X.blk s H scope (compEnvC scope cl C X.env) fp) ifs t)
    (hi1 : ∀ (s : Shared) (H : Hp) (C : Addr) (cl : List (Str × Addr)) (fp : List Addr), VI (X.blk s H scope (compEnvC scope cl C X.env) fp) XW0 tg1 iter1 fi1)
    (hg1 : ∀ (s : Shared) (H : Hp) (C : Addr) (cl : List (Str × Addr)) (fp : List Addr), VG (X.blk s H scope (compEnvC scope cl C X.env) fp) tg1 ts1 b1) (ht1 : ∀ (s : Shared) (H : Hp) (C : Addr) (cl : List (Str × Addr)) (fp : List Addr), VTs (X.blk s H scope (compEnvC scope cl C X.env) fp) ifs1 t1)
    (he : ∀ (s : Shared) (H : Hp) (C : Addr) (cl : List (Str × Addr)) (fp : List Addr), VE (X.blk s H scope (compEnvC scope cl C X.env) fp) XW0 elt e) (hts : ∀ j ∈ ts, j ∈ own.map (·.2)) (hts1 : ∀ j ∈ ts1, j ∈ vs1) (hs : ∀ x, foldedSetIterable iter X.env x = pure x := by intro _; rfl) (hs1 : ∀ env x, foldedSetIterable iter1 env x = pure x := by intro _ _; rfl) :
    VSt X W (.Assign [.Name y py] (.ListComp elt [⟨tg, iter, ifs, 0⟩, ⟨tg1, iter1, ifs1, 0⟩] scope pos) spos) (setO i (lc2D (own.map (·.2)) vs1 fi b t fi1 b1 t1 e)) := PS.imp (ps_setLc2 hc hN hy hyl hsw hi ok hv hg ht hi1 hg1 ht1 he hs hs1) fun D σ H h => t_lc2 pF_own hts hts1 (t_setO h)
end
end VS
end
section
namespace VS
open PySem PySem.Spec PyProof.Rows L2

/-! ### xs * k -/
def rRepR : R2 := fun x y H Q => ∃ l k xs, x = .ref l ∧ y = .int k ∧ Rd H l (.lst xs) ∧ -(2 ^ 63) ≤ k ∧ k < 2 ^ 63 ∧ xs.length * k.toNat ≤ sizeLine ∧
  ∀ p, H p = none → Q (.ref p) (upd H p (.lst (List.replicate k.toNat xs).flatten))
section
variable {X : Cx} {W : XW} {P : PP} {a b : Expr} {fa fb : Dl → Re D} {pos : Pos}
theorem op_repR : OpR X (binaryOp .Mult) rRepR := by
  intro pins s σ H x y v u Q I rx ry h
  obtain ⟨l, k, xs, rfl, rfl, hH, h1, h2, hz, q⟩ := h
  cases rx
  obtain ⟨t, rfl⟩ := ry
  obtain ⟨z, its, n, r, hl, e⟩ := lstR I hH
  have hlen : its.toArray.size * k.toNat ≤ sizeLine := by rw [List.size_toArray, ← hl]; exact hz
  have hcap : ¬ its.toArray.size * k.toNat > (2 ^ 63 - 1) / 8 := by
    have : (sizeLine : Nat) ≤ (2 ^ 63 - 1) / 8 := by decide
    omega
  have hfit : ¬ (!Builtin.List.listFitsIndex k) = true := by
    rw [fitsIndex_both h1 h2]
    exact Bool.false_ne_true
  have hlong : ¬ Builtin.List.listTooLong (its.toArray.size * k.toNat) = true := by
    rw [notLongL hlen]
    exact Bool.false_ne_true
  have hnew : List.foldl (fun x1 x2 => x1 ++ x2) #[] (List.replicate (if its.toArray.isEmpty = true then 0 else k.toNat) its.toArray) = (List.replicate k.toNat its).flatten.toArray := by
    have f0 : ∀ m : Nat, List.foldl (fun x1 x2 => x1 ++ x2) #[] (List.replicate m its.toArray) = (List.replicate m its).flatten.toArray := fun m => by
      have := foldl_rep its m []
      rw [List.nil_append] at this
      exact this
    rw [f0]
    cases its with
    | nil => simp
    | cons a r' => rw [if_neg (by simp)]
  refine wpAny_binaryOp_repeat_ref (T := "list") (U := "int") (by decide) ⟨_, e, rfl⟩ (fun s' => typeIs_int s' k t) noFill_list_mul F.fills_int_mul F.slot_int_rmul repeat_list F.slot_int_index.lookup
    (call_meets F.slot_int_rmul (typeIs_int s k t) F.entry_int_rmul (F.args_int_rmul_2 _ _) (int___rmul___int_list k t l its.toArray n)
      ⟨e, rfl, ⟨_, e, rfl⟩, call_meets F.slot_list_mul ⟨_, e, rfl⟩ F.entry_list_mul (F.args_list_mul_2 _ _) (AutoListH.list___mul___list_int_3 l its.toArray n k t hfit hcap hlong) ⟨e, ?_⟩⟩)
  rw [hnew]
  exact ⟨.ref _, _, I.lnew (t' := s.toks) (r.rep k.toNat) (by rw [PyProof.Rows.lm_len_rep_flat, Nat.mul_comm]; exact hz), rfl, q _ I.fresh⟩
theorem rpA_rep {K : PySem.W.Frag} {F : Addr → Prop} {H : Hp} {vs : List V} {ds : List D} (r : RpA K F H vs ds) : ∀ n : Nat, RpA K F H (List.replicate n vs).flatten (List.replicate n ds).flatten
  | 0 => .nil
  | n + 1 => by
    rw [List.replicate_succ, List.replicate_succ, List.flatten_cons, List.flatten_cons]
    exact r.append (rpA_rep r n)
theorem og_repL (hP : PNew X.K P) : OpG X W P rRepR repL := by
  intro F H x y dx dy Q dm rx ry h
  unfold repL at h
  split at h
  · split at h
    · rename_i xs k hz
      obtain ⟨p, us, rfl, hp, ru⟩ := rx
      have l1 := ru.length
      exact ⟨p, k, us, rfl, rp_int ry, hp, hz.1, hz.2.1, by rw [l1]; exact hz.2.2, fun z hn => h.newL hP dm hn (rpA_rep ru _)⟩
    · exact h.elim
  · exact h.elim
theorem vp_repL (hP : PNew X.K P) (ha : VB X W a fa) (hb : VB X W b fb) : VP X W P (.BinOp a .Mult b pos) (d2 repL fa fb) := vp_bin op_repR hP.toPMon (og_repL hP) ha hb
end
end VS
end
section
namespace VS
open PySem PySem.Spec PySem.Calls PyProof.Rows PyProof.V L2

/-! ### sorted of a tuple, of a dict's keys -/
section
variable {prog : Program} {w : World} {A : Around} {E : Value → Shared → Prop} {s : Shared} {β : Type}
theorem sorted_coll {x : Value} {Q : Value → Shared → Prop} {G : List Value → Prop} {bs : List β} {R : Value → β → Prop} {enc : β → PyData}
    (coll : ∀ (P : List Value → Shared → Prop), (∀ (h' : Heap) (tk : Nat) (vs : List Value), (∀ b o, s.heap.get? b = some o → h'.get? b = some o) → G vs → P vs { s with heap := h', toks := tk }) → wpAny (model prog w) A.in1 (collect x) P E s)
    (e : ∀ vs, G vs → PySem.W.EachIs R vs bs) (er : ∀ vs, G vs → PySem.W.EachIs (fun v b => ∃ as, Reads s.heap v (enc b) as) vs bs) (hal : PySem.W.AllAlike (bs.map enc)) (hk : PySem.W.Sortable (bs.map enc)) (hL : bs.length ≤ sizeLine)
    (hu : ∀ b, b ∈ bs → A.units + 2 + (enc b).depth < cLine)
    (h : ∀ (h1 h' : Heap) (tk : Nat) (D : Addr) (c : Nat) (out : List Value), (∀ b o, s.heap.get? b = some o → h1.get? b = some o) → (∀ b o, h1.get? b = some o → h'.get? b = some o) → h1.objs.size ≤ D → h'.get? D = some (PyProof.Rows.seqObj "list" out.toArray c) → PySem.W.EachIs R out (bs.mergeSort (PySem.W.dataLe false enc)) → Q (.ref D) { s with heap := h', toks := tk }) :
    wpAny (model prog w) A (call (.builtin "sorted") [x]) Q E s := by
  refine call_function_entry kind_sorted plain_sorted entry_sorted (args_sorted1 _) ?_
  unfold Builtin.«sorted»
  refine wpAny_bind (m := checkCount "sorted" 1 1 _) (wpAny_pure ?_)
  refine wpAny_bind (coll _ fun h' tk vs kp g => ?_)
  have hl := (e vs g).length
  refine wpAny_bind (wpAny_newList ?_ (by rw [hl]; exact hL))
  have ho : (h'.push { cls := .type "list", data := .seq vs.toArray }).get? h'.objs.size = some (PyProof.Rows.seqObj "list" vs.toArray 0) := Heap.get?_push_size _ rfl
  have kp' : ∀ b o, s.heap.get? b = some o → (h'.push { cls := .type "list", data := .seq vs.toArray }).get? b = some o := fun b o q => Heap.get?_push_of_some _ (kp b o q)
  have er' : PySem.W.EachIs (fun v b => ∃ as, Reads (h'.push { cls := .type "list", data := .seq vs.toArray }) v (enc b) as ∧ h'.objs.size ∉ as) vs bs := (er vs g).mono fun v b ⟨as, r⟩ => ⟨as, PyProof.Rows.Reads.keeps kp' r, fun m => by
    obtain ⟨o, ho⟩ := PyProof.On.reads_mem_get r _ m
    exact absurd (Heap.lt_size (kp _ _ ho)) (Nat.lt_irrefl _)⟩
  refine wpAny_bind (wpAny_holding (wpAny_mono (PySem.W.list_sort_data (A := A.in1) (s := { s with heap := h'.push { cls := .type "list", data := .seq vs.toArray }, toks := tk }) (a := h'.objs.size) (n := 0) (R := R) (enc := enc) (Q := fun v s' => v = .none ∧ Q (.ref h'.objs.size) s') ho (e vs g) er' hal hk hL (fun b hb => ?_) fun out ho' eo => ⟨rfl, ?_⟩) (fun v s' x => ?_) fun _ _ e => e))
  · have := hu b hb
    show A.in1.units + 1 + (enc b).depth < cLine
    have e1 : A.in1.units = A.units + 1 := rfl
    omega
  · obtain ⟨c, hc⟩ := PyProof.Rows.sortedHeap_at (vs := vs) (out := out.toArray) ho
    refine h h' _ tk h'.objs.size c out kp (fun b o q => ?_) (Nat.le_refl _) hc eo
    have hlt := Heap.lt_size q
    rw [PyProof.Rows.sortedHeap_old (Nat.ne_of_lt hlt) (Heap.lt_size (Heap.get?_push_of_some _ q))]
    exact Heap.get?_push_of_some _ q
  · obtain ⟨rfl, q⟩ := x
    exact wpAny_pure ⟨_, rfl, q⟩
end
/-- a key's value is a sort key -/
theorem dp_key {K : PySem.W.Frag} {H : Hp} (k : Key) : Dp K H (kV k) (kD k) := by
  cases k with
  | inl i => exact .int i
  | inr x => exact .str x
theorem dpA_keys {K : PySem.W.Frag} {H : Hp} : ∀ ks : List Key, DpAll K H (ks.map kV) (ks.map kD)
  | [] => .nil
  | k :: ks => .cons (dp_key k) (dpA_keys ks)
theorem each_rel : ∀ {bs : List (V × D)} {its : List Value}, Vals (bs.map (·.1)) its → PySem.W.EachIs (fun v b => RelV b.1 v) its bs
  | [], _, r => by cases r; exact .nil
  | b :: bs, _, r => by cases r with | cons r rr => exact .cons r (each_rel rr)
theorem rel_each : ∀ {bs : List (V × D)} {its : List Value}, PySem.W.EachIs (fun v b => RelV b.1 v) its bs → Vals (bs.map (·.1)) its
  | [], _, r => by cases r; exact .nil
  | b :: bs, _, r => by cases r with | cons r rr => exact .cons r (rel_each rr)
section
variable {X : Cx} {W : XW} {P : PP}
theorem sort_fin {pins : List (Addr × Obj)} {σ : L2.St} {H : Hp} {s : Shared} {E : Value → Shared → Prop} {x : Value} {Q : VK} (hu : X.A.units + 64 < cLine) (I : Inv X pins σ H s) (bs : List (V × D))
    (coll : ∀ (P : List Value → Shared → Prop), (∀ (h' : Heap) (tk : Nat) (vs : List Value), (∀ b o, s.heap.get? b = some o → h'.get? b = some o) → Vals (bs.map (·.1)) vs → P vs { s with heap := h', toks := tk }) → wpAny (model X.prog X.w) X.A.in1 (collect x) P E s)
    (hb : ∀ b ∈ bs, Dp X.K H b.1 b.2) (hk : sortOk (bs.map (·.2)) = true) (q : ∀ p, H p = none → Q (.ref p) (upd H p (.lst ((bs.mergeSort (PySem.W.dataLe false (·.2))).map (·.1))))) :
    wpAny (model X.prog X.w) X.A (call (.builtin "sorted") [x]) (fun v s' => ∃ y H', Inv X pins σ H' s' ∧ RelV y v ∧ Q y H') E s := by
  obtain ⟨k1, k2, k3, k4⟩ := sortOk_s hk
  have e2 : ∀ (bs : List (V × D)) (its : List Value), Vals (bs.map (·.1)) its → (∀ b ∈ bs, Dp X.K H b.1 b.2) → PySem.W.EachIs (fun v b => ∃ as, Reads s.heap v b.2 as) its bs := fun bs => by
    induction bs with
    | nil => intro its r _; cases r; exact .nil
    | cons b bs ih =>
      intro its r hb
      cases r with
      | cons r rr =>
        refine .cons ?_ (ih _ rr fun b hb' => hb b (List.mem_cons_of_mem _ hb'))
        exact Dp.reads I b.2 b.1 _ (hb b List.mem_cons_self) r
  refine sorted_coll (G := fun vs => Vals (bs.map (·.1)) vs) (R := fun (v : Value) (b : V × D) => RelV b.1 v) (enc := fun b : V × D => b.2) coll (fun vs g => each_rel g) (fun vs g => e2 bs vs g hb) k2 k3 (by rw [List.length_map] at k4; exact k4) (fun b hb' => ?_) fun h1 h' tk D c out kp1 kp2 hD e eo => ?_
  · have := (dn_plain b.2 60 (k1 b.2 (List.mem_map.mpr ⟨b, hb', rfl⟩))).2
    show X.A.units + 2 + b.2.depth < cLine
    omega
  · have hlen : ((bs.mergeSort (PySem.W.dataLe false (·.2))).map (·.1)).length ≤ sizeLine := by rw [List.length_map, List.length_mergeSort]; rw [List.length_map] at k4; exact k4
    have I2 : Inv X pins σ H { s with heap := h1, toks := tk } := I.kept kp1
    exact ⟨.ref D, upd H D (.lst _), I2.laid (t' := tk) kp2 hD ⟨hlen, out, c, rel_each eo, e⟩, rfl, q _ (I2.hok.fresh hD)⟩
def rSortT (K : PySem.W.Frag) : List V → Hp → VK → Prop := fun vs H Q => ∃ (a : Addr) (bs : List (V × D)), vs = [.ref a] ∧ SqT K H a (bs.map (·.1)) ∧ (∀ b ∈ bs, Dp K H b.1 b.2) ∧ sortOk (bs.map (·.2)) = true ∧
  ∀ p, H p = none → Q (.ref p) (upd H p (.lst ((bs.mergeSort (PySem.W.dataLe false (·.2))).map (·.1))))
theorem call_sortT (hu : X.A.units + 64 < cLine) : CallR X (.builtin "sorted") (rSortT X.K) := by
  intro pins s σ H vs us Q I r h
  obtain ⟨a, bs, rfl, hs, hb, hk, q⟩ := h
  obtain ⟨its, rv, ⟨o, ho, hc, n, hd⟩, hz⟩ := I.tuple hs
  rw [Vals.ref1 r]
  refine sort_fin hu I bs (fun P g => PySem.wpAny_collect_seq a (.inr rfl) ho hc hd (fun h' kp => ?_) (by rw [List.size_toArray, ← rv.length]; exact hz)) hb hk q
  have e : its.toArray.toList = its := by simp
  rw [e]
  exact g h' s.toks its kp rv
def rSortK : List V → Hp → VK → Prop := fun vs H Q => ∃ (a : Addr) (m : List (Key × V)), vs = [.ref a] ∧ Rd H a (.dK m) ∧ sortOk (m.map fun p => kD p.1) = true ∧
  ∀ p, H p = none → Q (.ref p) (upd H p (.lst (((m.map fun p => (kV p.1, kD p.1)).mergeSort (PySem.W.dataLe false (·.2))).map (·.1))))
theorem call_sortK (hcalm : X.calm = true) (hu : X.A.units + 64 < cLine) : CallR X (.builtin "sorted") rSortK := by
  intro pins s σ H vs us Q I r h
  obtain ⟨a, m, rfl, hm, hk, q⟩ := h
  rw [Vals.ref1 r]
  obtain ⟨z, lo, ys, rk, hd⟩ := dk_rd I.hok hm
  obtain ⟨ep, hat⟩ := hd.dictAt
  have hl : m.length = ys.length := Paired.length rk
  have e2 : (m.map fun p => (kV p.1, kD p.1)).map (·.2) = m.map fun p => kD p.1 := by rw [List.map_map]; rfl
  refine sort_fin hu I (m.map fun p => (kV p.1, kD p.1)) (fun P g => PySem.W.kdu_collect (A := X.A.in1) (PySem.W.kdl_dict (knd := mixKind X.prog X.w) (kvs := ys) (ep := ep) lo) (I.ok.hd hcalm) hat (by rw [← hl]; exact z) fun h' tk acc kp hacc => ?_) (fun b hb => ?_) (by rw [e2]; exact hk) q
  · refine g h' tk acc.toList kp ?_
    have el : acc.toList.length = acc.size := by simp
    refine vals_of_at (by rw [List.length_map, List.length_map, el, hacc.1, hl]) fun j x w h1 h2 => ?_
    obtain ⟨k, y, hky, hi⟩ := hacc.2 j w (by rw [← Array.getElem?_toList]; exact h2)
    have e1 : (m.map (·.1))[j]? = some k := by
      rw [KV.keys rk, List.getElem?_map, hky] <;> rfl
    have e3 : ((m.map fun p => (kV p.1, kD p.1)).map (·.1))[j]? = some (kV k) := by
      have e4 : (m.map fun p => (kV p.1, kD p.1)).map (·.1) = (m.map (·.1)).map kV := by rw [List.map_map, List.map_map] <;> rfl
      rw [e4, List.getElem?_map, e1] <;> rfl
    rw [e3] at h1
    cases h1
    exact keyIs_rel hi
  · obtain ⟨p, _, rfl⟩ := List.mem_map.mp hb
    exact dp_key p.1
/-- a dict with tuple keys -/
def bsT (m : List (List Key × V)) (as : List Addr) : List (V × D) := (as.zip m).map fun q => (V.ref q.1, PyData.tuple (q.2.1.map kD))
theorem isKeys_len {H : Hp} {m : List (List Key × V)} {as : List Addr} (h : IsKeys H m as) : m.length = as.length := Paired.length h
theorem bsT_1 : ∀ {H : Hp} {m : List (List Key × V)} {as : List Addr}, IsKeys H m as → (bsT m as).map (·.1) = as.map V.ref
  | _, _, _, .nil => rfl
  | _, _, _, .cons _ t => by
    have := bsT_1 t
    unfold bsT at this ⊢
    simp only [List.zip_cons_cons, List.map_cons, this]
theorem bsT_2 : ∀ {H : Hp} {m : List (List Key × V)} {as : List Addr}, IsKeys H m as → (bsT m as).map (·.2) = m.map fun p => PyData.tuple (p.1.map kD)
  | _, _, _, .nil => rfl
  | _, _, _, .cons _ t => by
    have := bsT_2 t
    unfold bsT at this ⊢
    simp only [List.zip_cons_cons, List.map_cons, this]
theorem bsT_mem : ∀ {H : Hp} {m : List (List Key × V)} {as : List Addr}, IsKeys H m as → ∀ b ∈ bsT m as, ∃ (a : Addr) (ks : List Key), b = (V.ref a, PyData.tuple (ks.map kD)) ∧ H a = some (.tup (ks.map kV))
  | _, _, _, .nil, b, h => nomatch h
  | _, _, _, .cons (a := p) (b := c) e t, b, h => by
    have h' : b ∈ (V.ref c, PyData.tuple (p.1.map kD)) :: bsT _ _ := h
    rcases List.mem_cons.mp h' with z | h'
    · exact ⟨c, p.1, z, e⟩
    · exact bsT_mem t b h'
def rSortKT : List V → Hp → VK → Prop := fun vs H Q => ∃ (a : Addr) (m : List (List Key × V)), vs = [.ref a] ∧ Rd H a (.dT m) ∧ sortOk (m.map fun p => PyData.tuple (p.1.map kD)) = true ∧
  ∀ p as, H p = none → IsKeys H m as → Q (.ref p) (upd H p (.lst (((bsT m as).mergeSort (PySem.W.dataLe false (·.2))).map (·.1))))
theorem call_sortKT (hcalm : X.calm = true) (hu : X.A.units + 64 < cLine) : CallR X (.builtin "sorted") rSortKT := by
  intro pins s σ H vs us Q I r h
  obtain ⟨a, m, rfl, hm, hkk, q⟩ := h
  rw [Vals.ref1 r]
  obtain ⟨z, hs, ks, pr, o, es, ep, ho, hx, hdt, he, hn⟩ := (show ObjOk X.prog X.w H s.heap a (.dT m) from rd_of I.hok hm)
  have l1 : es.size = ks.length := size_of_entries he
  have l2 : m.length = ks.length := Paired.length pr
  have hK := isKeys_of pr
  refine sort_fin hu I (bsT m (ks.map fun x => x.2.1)) (fun P g => PySem.W.kdu_collect (A := X.A.in1) (kdl_raw hs hx hdt) (I.ok.hd hcalm) ho (by omega) fun h' tk acc kp hacc => ?_) (fun b hb => ?_) (by rw [bsT_2 hK]; exact hkk) fun p hp => q p _ hp hK
  · refine g h' tk acc.toList kp ?_
    rw [bsT_1 hK]
    have ea : acc.toList = ks.map fun x => Value.ref x.2.1 := by
      have hl : acc.toList.length = ks.length := by rw [Array.length_toList, hacc.1]; exact l1
      apply List.ext_getElem?
      intro j
      rw [List.getElem?_map]
      cases hj : acc.toList[j]? with
      | none =>
        have h1 := List.getElem?_eq_none_iff.mp hj
        rw [List.getElem?_eq_none (by omega)]
        all_goals rfl
      | some v =>
        obtain ⟨en, hen, hv⟩ := hacc.2 j v (by rw [← Array.getElem?_toList]; exact hj)
        have qe := entry_at he j
        rw [hen] at qe
        cases hb : ks[j]? with
        | none =>
          rw [hb] at qe
          exact nomatch (show some en = none from qe)
        | some b =>
          rw [hb] at qe
          have e2 : en = entryOfKey (tupleKind (mixKind X.prog X.w)) b := Option.some.inj qe
          rw [hv, e2]
          all_goals rfl
    have eb : acc.toList = (ks.map fun x => x.2.1).map Value.ref := by rw [ea, List.map_map]; all_goals rfl
    rw [eb]
    exact vals_refs _
  · obtain ⟨c, kk, rfl, e⟩ := bsT_mem hK b hb
    exact .tup (.inl (.inl e)) (dpA_keys kk)
/-- sorted(x): a list, a tuple, a dict by its keys -/
def sortedA : List D → Re D
  | [.list xs] => sortedD [.list xs]
  | [.tuple xs] => if sortOk xs = true then .ok (.list (sortL xs)) else .no
  | [.dict kvs] => if sortOk (kvs.map (·.1)) = true then .ok (.list (sortL (kvs.map (·.1)))) else .no
  | _ => .no
theorem rp_kV {K : PySem.W.Frag} {F : Addr → Prop} {H : Hp} (k : Key) : Rp K F H (kV k) (kD k) := by
  cases k with
  | inl i => exact .int i
  | inr x => exact .str x
def rSortA (K : PySem.W.Frag) : List V → Hp → VK → Prop := fun vs H Q => rSortV K vs H Q ∨ rSortT K vs H Q ∨ rSortK vs H Q ∨ rSortKT vs H Q
theorem call_sortA (hcalm : X.calm = true) (hu : X.A.units + 64 < cLine) : CallR X (.builtin "sorted") (rSortA X.K) := CallR.or (call_sortV hu) (CallR.or (call_sortT hu) (CallR.or (call_sortK hcalm hu) (call_sortKT hcalm hu)))
theorem cg_sortedA (hP : PNew X.K P) : CallG X W P RpB (rSortA X.K) sortedA := by
  intro F H vs ds Q dm r h
  unfold sortedA at h
  split at h
  · exact .inl (cg_sorted hP F H vs _ Q dm r h)
  · refine .inr (.inl ?_)
    split at h
    · rename_i xs hk
      cases r with
      | cons r rr =>
        cases rr
        obtain ⟨a, ys, e, ha, t⟩ := r
        subst e
        obtain ⟨bs, e1, e2, rb⟩ := rpA_zip t
        subst e1 e2
        have k1 := (sortOk_s hk).1
        exact ⟨a, bs, rfl, ha, fun b hb => (rb b hb).dp (dn_plain _ 60 (k1 b.2 (List.mem_map.mpr ⟨b, hb, rfl⟩))).1, hk, fun p hn => h.newL hP dm hn (rp_sort rb)⟩
    · exact h.elim
  · split at h
    · rename_i kvs hk
      cases r with
      | cons r rr =>
        cases rr
        obtain ⟨a, kx, e, ha, t⟩ := r
        subst e
        have ek := rpK_keys t
        rcases ha with ⟨m, hm, e2⟩ | ⟨m, hm, e2⟩
        · subst e2
          have e3 : (kvs.map (·.1)) = m.map fun p => kD p.1 := by rw [← ek, List.map_map]; rfl
          rw [e3] at hk h
          have rb : ∀ b ∈ (m.map fun p => (kV p.1, kD p.1)), Rp X.K F H b.1 b.2 := fun b hb => by
            obtain ⟨p, _, rfl⟩ := List.mem_map.mp hb
            exact rp_kV p.1
          refine .inr (.inr (.inl ⟨a, m, rfl, hm, hk, fun p hn => h.newL hP dm hn ?_⟩))
          have := rp_sort rb
          rw [List.map_map] at this
          exact this
        · subst e2
          have e3 : (kvs.map (·.1)) = m.map fun p => PyData.tuple (p.1.map kD) := by rw [← ek, List.map_map]; rfl
          rw [e3] at hk h
          refine .inr (.inr (.inr ⟨a, m, rfl, hm, hk, fun p as hn hK => h.newL hP dm hn ?_⟩))
          have rb : ∀ b ∈ bsT m as, Rp X.K F H b.1 b.2 := fun b hb => by
            obtain ⟨c, ks, rfl, e⟩ := bsT_mem hK b hb
            exact .tup (.inl e) (rpA_ofK ks)
          have := rp_sort rb
          rw [bsT_2 hK] at this
          exact this
    · exact h.elim
  · exact h.elim
section
variable {e : Expr} {fs : Dl → Re (List D)} {pos p : Pos}
theorem vp_sortedA (hP : PNew X.K P) (hcalm : X.calm = true) (hu : X.A.units + 64 < cLine) (hg : Gl X "sorted") (hm : X.mg "sorted" = none) (ha : VA X W RpB [e] fs) (he : starEach [e] X.env = (false, eval e X.env) :: starEach [] X.env := by rfl) : VP X W P (.Call (.Name "sorted" p) [e] [] pos) (dA fs sortedA) := vp_callB hP.toPMon (call_sortA hcalm hu) (cg_sortedA hP) hg hm (by decide +kernel) ha (by decide) (by decide) he
end
end
@[simp] theorem ev_sortA_l (xs : List D) : sortedA [.list xs] = sortedD [.list xs] := Eq.trans rfl (Eq.refl _)
theorem ev_sortA_t (xs : List D) : sortedA [.tuple xs] = sortedD [.list xs] := Eq.trans rfl (Eq.refl _)
theorem ev_sortA_d (xs : List (D × D)) : sortedA [.dict xs] = sortedD [.list (xs.map (·.1))] := Eq.trans rfl (Eq.refl _)
end VS
end
section
namespace VS
open PySem L2

/-! ### o[k] = v: a list's place, or a dict's -/
def DSet (H : Hp) (a : Addr) (y v : V) (H' : Hp) : Prop :=
  (∃ k : Key, H a = some (.dT []) ∧ y = kV k ∧ H' = upd H a (.dK [(k, v)])) ∨
  (∃ (b : Addr) (ks : List Key), H a = some (.dK []) ∧ y = .ref b ∧ H b = some (.tup (ks.map kV)) ∧ H' = upd H a (.dT [(ks, v)]))
def rSetM : TSet := fun o i v H Q => ∃ a H', o = .ref a ∧ DSet H a i v H' ∧ Q H'
def rSetA : TSet := fun o i v H Q => rSetL o i v H Q ∨ rSetD o i v H Q ∨ rSetM o i v H Q
section
variable {X : Cx}
theorem set_mis (hu : X.A.units + 1 < cLine) : PSet X rSetM := by
  intro pins s σ H o i v ov iv u Q I ro ri rv h
  obtain ⟨a, H', eo, g, q⟩ := h
  subst eo
  cases (show ov = Value.ref a from ro)
  rcases g with ⟨k, e, ey, rfl⟩ | ⟨b, ks, e, ey, eb, rfl⟩
  · exact mis_set hu I rv ri (.inl ⟨k, e, ey, fun s' I' => ⟨_, I', q⟩⟩)
  · exact mis_set hu I rv ri (.inr ⟨b, ks, e, ey, eb, fun s' I' => ⟨_, I', q⟩⟩)
theorem set_all (hu : X.A.units + 1 < cLine) : PSet X rSetA := by
  intro pins s σ H o i v ov iv u Q I ro ri rv h
  rcases h with h | h | h
  · exact set_list pins s σ H o i v ov iv u Q I ro ri rv h
  · exact set_dict hu pins s σ H o i v ov iv u Q I ro ri rv h
  · exact set_mis hu pins s σ H o i v ov iv u Q I ro ri rv h
end
section
variable {K : PySem.W.Frag} {F : Addr → Prop} {H : Hp}
/-- what the store of a dict does -/
theorem put_of {a : Addr} {kvs : List (D × D)} {y v : V} {k d : D} (ho : RpO K F H a (.dict kvs)) (nf : ¬ F a) (ry : Rp K F H y k) (rv : Rp K F H v d) (hf : kfit kvs k = true) (hl : kvs.length < sizeLine) :
    ∃ o', (DPut H a y v (upd H a o') ∨ DSet H a y v (upd H a o')) ∧ RpO K F (upd H a o') a (.dict (putD kvs k d)) := by
  obtain ⟨b, hb⟩ := kfit_kind hf
  rcases ho with ⟨m, hH, rk⟩ | ⟨m, hH, rk⟩
  · have ml : m.length = kvs.length := by have := congrArg List.length (rpK_keys rk); simpa using this
    cases b with
    | false =>
      obtain ⟨k', rfl, rfl⟩ := key_K ry hb
      refine ⟨_, .inl (DPut.k hH (by omega)), .inl ⟨_, upd_same, ?_⟩⟩
      exact (rp_putK k' rk rv).mono (fun _ x => x) (kept_upd nf hH trivial)
    | true =>
      obtain ⟨c, ks, rfl, hc, rfl⟩ := key_T ry hb
      cases m with
      | nil =>
        cases rk
        refine ⟨_, .inr (.inr ⟨c, ks, hH, rfl, hc, rfl⟩), .inr ⟨[(ks, v)], upd_same, ?_⟩⟩
        exact (RpK.cons (k := .tuple (ks.map kD)) rv .nil).mono (fun _ x => x) (kept_upd nf hH trivial)
      | cons p m =>
        exfalso
        cases rk with
        | cons h t =>
          unfold kfit at hf
          rw [Bool.and_eq_true, hb, kindK_K] at hf
          exact absurd hf.2 (by decide)
  · have ml : m.length = kvs.length := by have := congrArg List.length (rpK_keys rk); simpa using this
    cases b with
    | true =>
      obtain ⟨c, ks, rfl, hc, rfl⟩ := key_T ry hb
      refine ⟨_, .inl (DPut.t hH hc (by omega)), .inr ⟨_, upd_same, ?_⟩⟩
      exact (rp_putT ks rk rv).mono (fun _ x => x) (kept_upd nf hH trivial)
    | false =>
      obtain ⟨k', rfl, rfl⟩ := key_K ry hb
      cases m with
      | nil =>
        cases rk
        refine ⟨_, .inr (.inl ⟨k', hH, rfl, rfl⟩), .inl ⟨[(k', v)], upd_same, ?_⟩⟩
        exact (RpK.cons (k := kD k') rv .nil).mono (fun _ x => x) (kept_upd nf hH trivial)
      | cons p m =>
        exfalso
        cases rk with
        | cons h t =>
          unfold kfit at hf
          rw [Bool.and_eq_true, hb] at hf
          exact kindK_notF _ (eq_of_beq hf.2)
end
section
variable {X : Cx} {W : XW} {pos py : Pos} {i : Nat} {y : Str} {e e2 : Expr} {fe fk : Dl → Re D}
/-- x[k] = e of an own list or dict -/
def stoS (i : Nat) (fk f : Dl → Re D) (δ : Dl) : RS := match δ[i]? with
  | some (.ow (.list xs)) => toS (f δ) fun d => toS (fk δ) fun k => match k with
    | .int j => (match ixN xs.length j with
      | some m => .nx (δ.set i (.ow (.list (xs.set m d))))
      | none => .no)
    | _ => .no
  | some (.ow (.dict kvs)) => toS (f δ) fun d => toS (fk δ) fun k => if kfit kvs k = true ∧ kvs.length < sizeLine then .nx (δ.set i (.ow (.dict (putD kvs k d)))) else .no
  | _ => .no
theorem vs_sto {spos : Pos} (hu : X.A.units + 1 < cLine) (hy : PE X (.Name y py) (tVar i)) (hk : VE X W e2 fk) (he : VE X W e fe)
    (ha : ∀ v, assign (.Subscript (.Name y py) e2 pos) X.env v = (do
      let ov ← holding [v] (eval (.Name y py) X.env)
      let iv ← holding [v, ov] (eval e2 X.env)
      standAt pos
      holding [v, ov, iv] (setItem ov iv v)
      release [v, ov, iv] []) := by intro _; rfl)
    (hs : swapsWithSole [.Subscript (.Name y py) e2 pos] e spos.line X.env = pure false := by rfl) (hw : swappedStores [.Subscript (.Name y py) e2 pos] e X.env = pure none := by rfl) (h1 : (assignEach [.Subscript (.Name y py) e2 pos] X.env).map (·.2) = [assign (.Subscript (.Name y py) e2 pos) X.env] := by rfl) :
    VSt X W (.Assign [.Subscript (.Name y py) e2 pos] e spos) (stoS i fk fe) :=
  PS.imp (ps_asg he (pg_sub hy hk (set_all hu) ha) hs hw h1) fun D σ H ⟨F0, H0, F, δ, s, q⟩ => by
    unfold stoS at q
    split at q
    · rename_i xs ei
      obtain ⟨a, ea, ⟨vs, hH, ra⟩, nf, n0⟩ := s.ow i _ ei
      refine ⟨F, δ, s.e, SO.go (P := pS X.K) s q fun d v F1 H1 e1 g1 r h2 => ?_⟩
      refine ⟨_, ea, F1, δ, (s.grow g1).e, SO.go (P := pS X.K) (s.grow g1) h2 fun k u F2 H2 e3 g2 ru h3 => ?_⟩
      cases k with
      | int j =>
        cases ru
        simp only at h3
        split at h3
        · rename_i m em
          have gg := g1.trans g2
          have ha2 := gg.same _ _ hH
          refine .inl ⟨a, vs, j, m, rfl, rfl, ha2, by rw [ra.length]; exact em, ?_⟩
          have nf2 : ¬ F2 a := gg.notF nf (by rw [hH]; exact fun z => nomatch z)
          have kk : Kept F2 H2 (upd H2 a (.lst (vs.set m v))) := kept_upd nf2 ha2 trivial
          obtain ⟨st, s2⟩ := sok_write (s.grow gg) (d' := .list (xs.set m d)) (o' := .lst (vs.set m v)) ei ea ⟨_, upd_same, ((gg.rpA ra).set m (g2.rp r)).mono (fun _ x => x) kk⟩
          exact h3 _ _ _ st s2
        · exact h3.elim
      | _ => exact h3.elim
    · rename_i kvs ei
      obtain ⟨a, ea, ho, nf, n0⟩ := s.ow i _ ei
      obtain ⟨u0, hu0, _⟩ := ho.there
      refine ⟨F, δ, s.e, SO.go (P := pS X.K) s q fun d v F1 H1 e1 g1 r h2 => ?_⟩
      refine ⟨_, ea, F1, δ, (s.grow g1).e, SO.go (P := pS X.K) (s.grow g1) h2 fun k u F2 H2 e3 g2 ru h3 => ?_⟩
      split at h3
      · rename_i hc
        have gg := g1.trans g2
        have nf2 : ¬ F2 a := gg.notF nf (by rw [hu0]; exact fun z => nomatch z)
        have ho2 : RpO X.K F2 H2 a (.dict kvs) := ho.kept gg.sub gg.kept ((gg.same _ _ hu0).trans hu0.symm)
        obtain ⟨o', hp, hn⟩ := put_of ho2 nf2 ru (g2.rp r) hc.1 hc.2
        obtain ⟨st, s2⟩ := sok_write (s.grow gg) (d' := .dict (putD kvs k d)) (o' := o') ei ea hn
        rcases hp with hp | hp
        · exact .inr (.inl ⟨a, _, rfl, hp, h3 _ _ _ st s2⟩)
        · exact .inr (.inr ⟨a, _, rfl, hp, h3 _ _ _ st s2⟩)
      · exact h3.elim
    · exact q.elim
end
end VS
end
section
open PySem PySem.Spec PyProof.Rows L2 VS
namespace KL
/-- the turns that a while is given -/
def fuel : Nat := 1000000
abbrev I_is_whole : Nat := 0
abbrev I_ascends : Nat := 1
abbrev I_is_name : Nat := 2
abbrev I_is_box : Nat := 3
abbrev I_meet : Nat := 4
abbrev I__is_screen : Nat := 5
abbrev I_are_screens : Nat := 6
abbrev I_check_screens : Nat := 7
abbrev I__check : Nat := 8
abbrev I__common : Nat := 9
abbrev I__shares : Nat := 10
abbrev I_shares_of : Nat := 11
abbrev I_spans : Nat := 12
abbrev I_home_of : Nat := 13
abbrev I_lost_cells : Nat := 14
abbrev I__held : Nat := 15
abbrev I_brought_in : Nat := 16
abbrev I__law_draws : Nat := 17
abbrev I__law_screens : Nat := 18
abbrev I__law_cells : Nat := 19
abbrev I__law_word : Nat := 20
abbrev I_law : Nat := 21
/-- is_whole -/
def b_0 (c : Nat → List Sl → Re PyData) : Dl → RS := (retS (dAnd (d1 (isiD .tInt) (gS 0)) (dAnd (d1 dNot (d1 (isiD .tBool) (gS 0))) (chn leD leD (gS 1) (gS 0) (gS 2)))))
/-- ascends -/
def b_1 (c : Nat → List Sl → Re PyData) : Dl → RS := (retS (dA (argsF [(lcD ([1, 2]) (dAL (argsF [(gS 0), (dSl slA (gS 0) (someP (kC (.int 1))) noP)]) zipD) (bT 2 (bCons (bN 1) (bCons (bN 2) bNil))) yesT (d2 ltD (gS 1) (gS 2)))]) allD))
/-- is_name -/
def b_2 (c : Nat → List Sl → Re PyData) : Dl → RS := (retS (dAnd (d1 (isiD .tStr) (gS 0)) (dAnd (chn leD leD (kC (.int 1)) (dA (argsF [(gS 0)]) lenD) (kC (.int 8))) (dA (argsF [(lcD ([1]) (d1L itemsD (gS 0)) (bN 1) yesT (d2 inD (gS 1) (kC (.str "abcdefghijklmnopqrstuvwxyz"))))]) allD))))
/-- is_box -/
def b_3 (c : Nat → List Sl → Re PyData) : Dl → RS := (retS (dAnd (d1 (isiD .tTuple) (gS 0)) (dAnd (d2 eqD (dA (argsF [(gS 0)]) lenD) (kC (.int 4))) (dA (argsF [(lcD ([1]) (d1L itemsD (gS 0)) (bN 1) yesT (dA (argsF [(gS 1), (kC (.int 0)), (kC (.int 1000))]) (cD (c I_is_whole))))]) allD))))
/-- meet -/
def b_4 (c : Nat → List Sl → Re PyData) : Dl → RS := (seqS (setS 2 (d2 ltD (dA (argsF [(d2 ixD (gS 0) (kC (.int 0))), (d2 ixD (gS 1) (kC (.int 0)))]) max2D) (dA (argsF [(d2 addD (d2 ixD (gS 0) (kC (.int 0))) (d2 ixD (gS 0) (kC (.int 2)))), (d2 addD (d2 ixD (gS 1) (kC (.int 0))) (d2 ixD (gS 1) (kC (.int 2))))]) min2D))) (retS (dAnd (gS 2) (d2 ltD (dA (argsF [(d2 ixD (gS 0) (kC (.int 1))), (d2 ixD (gS 1) (kC (.int 1)))]) max2D) (dA (argsF [(d2 addD (d2 ixD (gS 0) (kC (.int 1))) (d2 ixD (gS 0) (kC (.int 3)))), (d2 addD (d2 ixD (gS 1) (kC (.int 1))) (d2 ixD (gS 1) (kC (.int 3))))]) min2D)))))
/-- _is_screen -/
def b_5 (c : Nat → List Sl → Re PyData) : Dl → RS := (seqS (ifS (tOr2 (tNot1 (tB1 (d1 (isiD .tTuple) (gS 0)))) (tOr2 (tB1 (d2 neD (dA (argsF [(gS 0)]) lenD) (kC (.int 2)))) (tOr2 (tNot1 (tB1 (dA (argsF [(d2 ixD (gS 0) (kC (.int 0)))]) (cD (c I_is_name))))) (tNot1 (tB1 (dA (argsF [(d2 ixD (gS 0) (kC (.int 1)))]) (cD (c I_is_box)))))))) (retS (kC (.bool false))) nxS) (retS (dAnd (d2 gtD (d2 ixD (d2 ixD (gS 0) (kC (.int 1))) (kC (.int 2))) (kC (.int 0))) (d2 gtD (d2 ixD (d2 ixD (gS 0) (kC (.int 1))) (kC (.int 3))) (kC (.int 0))))))
/-- are_screens -/
def b_6 (c : Nat → List Sl → Re PyData) : Dl → RS := (seqS (ifS (tOr2 (tNot1 (tB1 (d1 (isiD .tTuple) (gS 0)))) (tNot1 (tB1 (chn leD leD (kC (.int 1)) (dA (argsF [(gS 0)]) lenD) (kC (.int 8)))))) (retS (kC (.bool false))) nxS) (seqS (ifS (tOr2 (tNot1 (tB1 (dA (argsF [(lcD ([2]) (d1L itemsD (gS 0)) (bN 2) yesT (dA (argsF [(gS 2)]) (cD (c I__is_screen))))]) allD))) (tNot1 (tB1 (dA (argsF [(lcD ([2]) (d1L itemsD (gS 0)) (bN 2) yesT (d2 ixD (gS 2) (kC (.int 0))))]) (cD (c I_ascends)))))) (retS (kC (.bool false))) nxS) (seqS (setS 1 (lcD ([2]) (d1L itemsD (gS 0)) (bN 2) yesT (d2 ixD (gS 2) (kC (.int 1))))) (retS (d1 dNot (dA (argsF [(lc2D ([3, 4, 5]) ([5]) (dAL (argsF [(gS 1)]) enumD) (bT 2 (bCons (bN 3) (bCons (bN 4) bNil))) yesT (d1L itemsD (dSl slA (gS 1) (someP (d2 addD (gS 3) (kC (.int 1)))) noP)) (bN 5) yesT (dA (argsF [(gS 4), (gS 5)]) (cD (c I_meet))))]) anyD))))))
/-- check_screens -/
def b_7 (c : Nat → List Sl → Re PyData) : Dl → RS := (ifS (tNot1 (tB1 (dA (argsF [(gS 0)]) (cD (c I_are_screens))))) (raiS "BadScreens") nxS)
/-- _check -/
def b_8 (c : Nat → List Sl → Re PyData) : Dl → RS := (seqS (dropS (dA (argsF [(gS 0)]) (cD (c I_check_screens)))) (ifS (tNot1 (tB1 (dA (argsF [(gS 1)]) (cD (c I_is_box))))) (raiS "BadBox") nxS))
/-- _common -/
def b_9 (c : Nat → List Sl → Re PyData) : Dl → RS := (seqS (setS 2 (d2 subD (dA (argsF [(d2 addD (d2 ixD (gS 0) (kC (.int 0))) (d2 ixD (gS 0) (kC (.int 2)))), (d2 addD (d2 ixD (gS 1) (kC (.int 0))) (d2 ixD (gS 1) (kC (.int 2))))]) min2D) (dA (argsF [(d2 ixD (gS 0) (kC (.int 0))), (d2 ixD (gS 1) (kC (.int 0)))]) max2D))) (seqS (setS 3 (d2 subD (dA (argsF [(d2 addD (d2 ixD (gS 0) (kC (.int 1))) (d2 ixD (gS 0) (kC (.int 3)))), (d2 addD (d2 ixD (gS 1) (kC (.int 1))) (d2 ixD (gS 1) (kC (.int 3))))]) min2D) (dA (argsF [(d2 ixD (gS 0) (kC (.int 1))), (d2 ixD (gS 1) (kC (.int 1)))]) max2D))) (retS (d2 mulI (dA (argsF [(kC (.int 0)), (gS 2)]) max2D) (dA (argsF [(kC (.int 0)), (gS 3)]) max2D)))))
/-- _shares -/
def b_10 (c : Nat → List Sl → Re PyData) : Dl → RS := (seqS (setS 2 (lcD ([3, 4]) (d1L itemsD (gS 0)) (bT 2 (bCons (bN 3) (bCons (bN 4) bNil))) yesT (dA (argsF [(gS 3), (dA (argsF [(gS 1), (gS 4)]) (cD (c I__common)))]) tupD))) (retS (lcD ([5]) (d1L itemsD (gS 2)) (bN 5) (tB1 (d2 gtD (d2 ixD (gS 5) (kC (.int 1))) (kC (.int 0)))) (gS 5))))
/-- shares_of -/
def b_11 (c : Nat → List Sl → Re PyData) : Dl → RS := (seqS (dropS (dA (argsF [(gS 0), (gS 1)]) (cD (c I__check)))) (retS (dA (argsF [(dA (argsF [(gS 0), (gS 1)]) (cD (c I__shares)))]) tupAnyD)))
/-- spans -/
def b_12 (c : Nat → List Sl → Re PyData) : Dl → RS := (seqS (dropS (dA (argsF [(gS 0), (gS 1)]) (cD (c I__check)))) (retS (d2 gtD (dA (argsF [(dA (argsF [(gS 0), (gS 1)]) (cD (c I__shares)))]) lenD) (kC (.int 1)))))
/-- home_of -/
def b_13 (c : Nat → List Sl → Re PyData) : Dl → RS := (seqS (dropS (dA (argsF [(gS 0), (gS 1)]) (cD (c I__check)))) (seqS (setS 2 (dA (argsF [(gS 0), (gS 1)]) (cD (c I__shares)))) (seqS (setS 3 (dA (argsF [(d2 addD (lcD ([7, 6]) (d1L itemsD (gS 2)) (bT 2 (bCons (bN 7) (bCons (bN 6) bNil))) yesT (gS 6)) (dA (argsF [(kC (.int 0))]) lstD))]) maxL)) (seqS (setS 4 (lcD ([5, 6]) (d1L itemsD (gS 2)) (bT 2 (bCons (bN 5) (bCons (bN 6) bNil))) (tB1 (d2 eqD (gS 6) (gS 3))) (gS 5))) (retS (dIf (tB1 (d2 gtD (dA (argsF [(gS 4)]) lenD) (kC (.int 0)))) (d2 ixD (gS 4) (kC (.int 0))) (kC .none)))))))
/-- lost_cells -/
def b_14 (c : Nat → List Sl → Re PyData) : Dl → RS := (seqS (dropS (dA (argsF [(gS 0), (gS 1)]) (cD (c I__check)))) (retS (d2 subD (d2 mulI (d2 ixD (gS 1) (kC (.int 2))) (d2 ixD (gS 1) (kC (.int 3)))) (dA (argsF [(lcD ([2, 3]) (d1L itemsD (dA (argsF [(gS 0), (gS 1)]) (cD (c I__shares)))) (bT 2 (bCons (bN 2) (bCons (bN 3) bNil))) yesT (gS 3))]) sumD))))
/-- _held -/
def b_15 (c : Nat → List Sl → Re PyData) : Dl → RS := (retS (dA (argsF [(dA (argsF [(gS 0), (gS 2)]) max2D), (d2 subD (d2 addD (gS 2) (gS 3)) (gS 1))]) min2D))
/-- brought_in -/
def b_16 (c : Nat → List Sl → Re PyData) : Dl → RS := (seqS (dropS (dA (argsF [(gS 0), (gS 1)]) (cD (c I__check)))) (seqS (setO 2 (dA (argsF []) lstD)) (seqS (forS (d1L itemsD (gS 0)) (bT 2 (bCons (bN 3) (bCons (bN 4) bNil))) (ifS (tAnd2 (tB1 (d2 leD (d2 ixD (gS 1) (kC (.int 2))) (d2 ixD (gS 4) (kC (.int 2))))) (tB1 (d2 leD (d2 ixD (gS 1) (kC (.int 3))) (d2 ixD (gS 4) (kC (.int 3)))))) (seqS (parS [5, 6] (argsM [(false, (dA (argsF [(d2 ixD (gS 1) (kC (.int 0))), (d2 ixD (gS 1) (kC (.int 2))), (d2 ixD (gS 4) (kC (.int 0))), (d2 ixD (gS 4) (kC (.int 2)))]) (cD (c I__held)))), (false, (dA (argsF [(d2 ixD (gS 1) (kC (.int 1))), (d2 ixD (gS 1) (kC (.int 3))), (d2 ixD (gS 4) (kC (.int 1))), (d2 ixD (gS 4) (kC (.int 3)))]) (cD (c I__held))))])) (appS 2 (dA (argsF [(d2 addD (dA (argsF [(d2 subD (gS 5) (d2 ixD (gS 1) (kC (.int 0))))]) absD) (dA (argsF [(d2 subD (gS 6) (d2 ixD (gS 1) (kC (.int 1))))]) absD)), (d2 addD (dA (argsF [(gS 5), (gS 6)]) tupD) (dSl slA (gS 1) (someP (kC (.int 2))) noP))]) tupD))) nxS)) (retS (dIf (tB1 (d2 gtD (dA (argsF [(gB 2)]) lenD) (kC (.int 0)))) (d2 ixD (dA (argsF [(gB 2)]) minL) (kC (.int 1))) (kC .none))))))
/-- _law_draws -/
def b_17 (c : Nat → List Sl → Re PyData) : Dl → RS := (seqS (setO 2 (dA (argsF []) lstD)) (seqS (setS 3 (kC (.int 7))) (seqS (forS (d1L itemsD (dScrSl 0 63)) (bN 4) (seqS (setS 5 (dA (argsF [(gS 4)]) absD)) (seqS (setS 3 (d2 modI (dA (argsF [(d2 addD (d2 addD (d2 mulI (gS 3) (kC (.int 48271))) (gS 5)) (kC (.int 11)))]) intD) (kC (.int 2147483647)))) (ifS (tB1 (d2 geD (gS 5) (d2 powI (kC (.int 10)) (kC (.int 18))))) (forS (dAL (argsF [(kC (.int 60))]) rng1D) (bN 6) (ifS (tB1 (d2 gtD (gS 5) (kC (.int 0)))) (seqS (appS 2 (d2 modI (dA (argsF [(gS 5)]) intD) (kC (.int 1009)))) (setS 5 (d2 fdivI (gS 5) (kC (.int 1009))))) nxS)) (appS 2 (d2 modI (d2 fdivI (dA (argsF [(d2 addD (d2 mulI (gS 3) (kC (.int 16807))) (kC (.int 5)))]) intD) (kC (.int 3))) (kC (.int 65521)))))))) (seqS (forS (dAL (argsF [(gS 1)]) rng1D) (bN 6) (ifS (tB1 (d2 ltD (dA (argsF [(gB 2)]) lenD) (gS 1))) (seqS (setS 3 (d2 modI (dA (argsF [(d2 addD (d2 addD (d2 mulI (gS 3) (kC (.int 69621))) (gS 6)) (kC (.int 1)))]) intD) (kC (.int 2147483647)))) (appS 2 (d2 modI (d2 fdivI (dA (argsF [(gS 3)]) intD) (kC (.int 7))) (kC (.int 65521))))) nxS)) (retS (dSl slL (gB 2) noP (someP (gS 1))))))))
/-- _law_screens -/
def b_18 (c : Nat → List Sl → Re PyData) : Dl → RS := (seqS (parS [3, 4] (argsM [(false, (dA (argsF []) tupD)), (false, (dA (argsF []) lstD))])) (seqS (forS (dAL (argsF [(d2 addD (kC (.int 1)) (d2 modI (dA (argsF [(d2 ixD (gS 0) (gS 1))]) intD) (gS 2)))]) rng1D) (bN 5) (seqS (setS 6 (d2 modI (dA (argsF [(d2 ixD (gS 0) (d2 addD (d2 addD (gS 1) (kC (.int 1))) (gS 5)))]) intD) (kC (.int 65521)))) (seqS (parS [7, 8] (argsM [(false, (d2 addD (kC (.int 1)) (d2 modI (gS 6) (kC (.int 4))))), (false, (d2 addD (kC (.int 1)) (d2 modI (d2 fdivI (gS 6) (kC (.int 4))) (kC (.int 3)))))])) (seqS (parS [9, 10] (argsM [(false, (d2 modI (d2 fdivI (gS 6) (kC (.int 12))) (kC (.int 7)))), (false, (d2 modI (d2 fdivI (gS 6) (kC (.int 84))) (kC (.int 6))))])) (seqS (ifS (tAnd2 (tB1 (d2 gtD (dA (argsF [(gS 3)]) lenD) (kC (.int 0)))) (tB1 (d2 gtD (d2 modI (d2 fdivI (gS 6) (kC (.int 504))) (kC (.int 3))) (kC (.int 0))))) (seqS (setS 11 (d2 ixD (d2 ixD (gS 3) (d2 modI (d2 fdivI (gS 6) (kC (.int 1512))) (dA (argsF [(gS 3)]) lenD))) (kC (.int 1)))) (asgS (bT 2 (bCons (bN 9) (bCons (bN 10) bNil))) (d2 ixD (dA (argsF [(dA (argsF [(d2 addD (d2 ixD (gS 11) (kC (.int 0))) (d2 ixD (gS 11) (kC (.int 2)))), (d2 addD (d2 ixD (gS 11) (kC (.int 1))) (d2 modI (gS 6) (kC (.int 2))))]) tupD), (dA (argsF [(d2 ixD (gS 11) (kC (.int 0))), (d2 addD (d2 ixD (gS 11) (kC (.int 1))) (d2 ixD (gS 11) (kC (.int 3))))]) tupD), (dA (argsF [(d2 addD (d2 ixD (gS 11) (kC (.int 0))) (d2 ixD (gS 11) (kC (.int 2)))), (d2 ixD (gS 11) (kC (.int 1)))]) tupD), (dA (argsF [(d2 addD (d2 ixD (gS 11) (kC (.int 0))) (kC (.int 1))), (d2 addD (d2 ixD (gS 11) (kC (.int 1))) (d2 ixD (gS 11) (kC (.int 3))))]) tupD)]) lstD) (d2 modI (d2 fdivI (gS 6) (kC (.int 504))) (kC (.int 4)))))) nxS) (seqS (setS 12 (dA (argsF []) lstD)) (seqS (forS (dAL (argsF [(gS 9), (d2 addD (gS 9) (gS 7))]) rng2D) (bN 13) (setS 12 (d2 addD (gS 12) (lcD ([14]) (dAL (argsF [(gS 10), (d2 addD (gS 10) (gS 8))]) rng2D) (bN 14) yesT (dA (argsF [(gS 13), (gS 14)]) tupD))))) (ifS (tNot1 (tB1 (dA (argsF [(lcD ([15]) (d1L itemsD (gS 12)) (bN 15) yesT (d2 inD (gS 15) (gS 4)))]) anyD))) (parS [3, 4] (argsM [(false, (d2 addD (gS 3) (dA (argsF [(dA (argsF [(d2 ixD (kC (.str "stuvw")) (gS 5)), (dA (argsF [(gS 9), (gS 10), (gS 7), (gS 8)]) tupD)]) tupD)]) tupD))), (false, (d2 addD (gS 4) (gS 12)))])) nxS)))))))) (retS (gS 3))))
/-- _law_cells -/
def b_19 (c : Nat → List Sl → Re PyData) : Dl → RS := (seqS (setO 1 (kC (.dict []))) (seqS (forS (d1L itemsD (gS 0)) (bT 2 (bCons (bN 2) (bCons (bN 3) bNil))) (forS (dAL (argsF [(d2 ixD (gS 3) (kC (.int 0))), (d2 addD (d2 ixD (gS 3) (kC (.int 0))) (d2 ixD (gS 3) (kC (.int 2))))]) rng2D) (bN 4) (forS (dAL (argsF [(d2 ixD (gS 3) (kC (.int 1))), (d2 addD (d2 ixD (gS 3) (kC (.int 1))) (d2 ixD (gS 3) (kC (.int 3))))]) rng2D) (bN 5) (stoS 1 (dA (argsF [(gS 4), (gS 5)]) tupD) (gS 2))))) (fun δ => (retS (gS 1)) (frzD 1 δ))))
/-- _law_word -/
def b_20 (c : Nat → List Sl → Re PyData) : Dl → RS := (seqS (tryS (ifS (tB1 (d2 eqD (gS 0) (kC (.int 0)))) (dropS (dA (argsF [(gS 1), (gS 2)]) (cD (c I_shares_of)))) (ifS (tB1 (d2 eqD (gS 0) (kC (.int 1)))) (dropS (dA (argsF [(gS 1), (gS 2)]) (cD (c I_spans)))) (ifS (tB1 (d2 eqD (gS 0) (kC (.int 2)))) (dropS (dA (argsF [(gS 1), (gS 2)]) (cD (c I_home_of)))) (ifS (tB1 (d2 eqD (gS 0) (kC (.int 3)))) (dropS (dA (argsF [(gS 1), (gS 2)]) (cD (c I_lost_cells)))) (dropS (dA (argsF [(gS 1), (gS 2)]) (cD (c I_brought_in)))))))) [([("BadBox", true), ("BadScreens", false)], (.str "box"))]) (retS (kC (.str "none"))))
/-- law -/
def b_21 (c : Nat → List Sl → Re PyData) : Dl → RS := (seqS (setS 1 (dScr 0 (kC (.int 60)) (c I__law_draws))) (seqS (forS (dAL (argsF [(kC (.int 4))]) rng1D) (bN 2) (seqS (setS 3 (dA (argsF [(d2 addD (dSl slA (gS 1) (someP (d2 mulI (kC (.int 6)) (gS 2))) noP) (dSl slA (gS 1) noP (someP (d2 mulI (kC (.int 6)) (gS 2))))), (kC (.int 0)), (kC (.int 5))]) (cD (c I__law_screens)))) (seqS (setS 4 (dA (argsF [(gS 3)]) (cD (c I__law_cells)))) (seqS (forS (dAL (argsF [(kC (.int 8))]) rng1D) (bN 5) (seqS (setS 6 (d2 fdivI (dA (argsF [(d2 ixD (gS 1) (d2 addD (kC (.int 40)) (gS 5)))]) intD) (d2 addD (gS 2) (kC (.int 1))))) (seqS (setS 7 (dA (argsF [(d2 modI (gS 6) (kC (.int 12))), (d2 modI (d2 fdivI (gS 6) (kC (.int 12))) (kC (.int 9))), (d2 modI (d2 fdivI (gS 6) (kC (.int 108))) (kC (.int 5))), (d2 modI (d2 fdivI (gS 6) (kC (.int 540))) (kC (.int 4)))]) tupD)) (seqS (setO 8 (kC (.dict []))) (seqS (setS 9 (kC (.int 0))) (seqS (forS (dAL (argsF [(d2 ixD (gS 7) (kC (.int 0))), (d2 addD (d2 ixD (gS 7) (kC (.int 0))) (d2 ixD (gS 7) (kC (.int 2))))]) rng2D) (bN 10) (forS (dAL (argsF [(d2 ixD (gS 7) (kC (.int 1))), (d2 addD (d2 ixD (gS 7) (kC (.int 1))) (d2 ixD (gS 7) (kC (.int 3))))]) rng2D) (bN 11) (seqS (setS 12 (dGet2 (gS 4) (dA (argsF [(gS 10), (gS 11)]) tupD) (kC (.str "")))) (seqS (stoS 8 (gS 12) (d2 addD (dGet2 (gB 8) (gS 12) (kC (.int 0))) (kC (.int 1)))) (setS 9 (d2 addD (gS 9) (dA (argsF [(d2 eqD (gS 12) (kC (.str "")))]) intD))))))) (seqS (setS 13 (lcD ([12]) (d1L itemsD (dA (argsF [(gB 8)]) sortedA)) (bN 12) (tB1 (d2 neD (gS 12) (kC (.str "")))) (dA (argsF [(gS 12), (d2 ixD (gB 8) (gS 12))]) tupD))) (seqS (setS 14 (dA (argsF [(d2 addD (lcD ([21]) (d1L itemsD (gS 13)) (bN 21) yesT (d2 ixD (gS 21) (kC (.int 1)))) (dA (argsF [(kC (.int 0))]) lstD))]) maxL)) (seqS (ifS (tOr2 (tB1 (d2 neD (dA (argsF [(gS 3), (gS 7)]) (cD (c I_shares_of))) (dA (argsF [(gS 13)]) tupAnyD))) (tOr2 (tB1 (d2 neD (dA (argsF [(gS 3), (gS 7)]) (cD (c I_lost_cells))) (gS 9))) (tOr2 (tB1 (d2 neD (dA (argsF [(gS 3), (gS 7)]) (cD (c I_spans))) (d2 gtD (dA (argsF [(gS 13)]) lenD) (kC (.int 1))))) (tNot1 (tB1 (d1 (isiD .tBool) (dA (argsF [(gS 3), (gS 7)]) (cD (c I_spans))))))))) (retS (kC (.bool false))) nxS) (seqS (ifS (tB1 (d2 neD (dA (argsF [(gS 3), (gS 7)]) (cD (c I_home_of))) (dIf (tB1 (d2 gtD (dA (argsF [(gS 13)]) lenD) (kC (.int 0)))) (d2 ixD (lcD ([21]) (d1L itemsD (gS 13)) (bN 21) (tB1 (d2 eqD (d2 ixD (gS 21) (kC (.int 1))) (gS 14))) (d2 ixD (gS 21) (kC (.int 0)))) (kC (.int 0))) (kC .none)))) (retS (kC (.bool false))) nxS) (seqS (setS 15 (dA (argsF []) lstD)) (seqS (forS (d1L itemsD (gS 3)) (bT 2 (bCons (bN 12) (bCons (bN 16) bNil))) (forS (dAL (argsF [(d2 ixD (gS 16) (kC (.int 0))), (d2 addD (d2 subD (d2 addD (d2 ixD (gS 16) (kC (.int 0))) (d2 ixD (gS 16) (kC (.int 2)))) (d2 ixD (gS 7) (kC (.int 2)))) (kC (.int 1)))]) rng2D) (bN 10) (setS 15 (d2 addD (gS 15) (lcD ([11]) (dAL (argsF [(d2 ixD (gS 16) (kC (.int 1))), (d2 addD (d2 subD (d2 addD (d2 ixD (gS 16) (kC (.int 1))) (d2 ixD (gS 16) (kC (.int 3)))) (d2 ixD (gS 7) (kC (.int 3)))) (kC (.int 1)))]) rng2D) (bN 11) yesT (dA (argsF [(d2 addD (dA (argsF [(d2 subD (gS 10) (d2 ixD (gS 7) (kC (.int 0))))]) absD) (dA (argsF [(d2 subD (gS 11) (d2 ixD (gS 7) (kC (.int 1))))]) absD)), (d2 addD (dA (argsF [(gS 10), (gS 11)]) tupD) (dSl slA (gS 7) (someP (kC (.int 2))) noP))]) tupD)))))) (seqS (setS 17 (dA (argsF [(gS 3), (gS 7)]) (cD (c I_brought_in)))) (ifS (tOr2 (tB1 (d2 neD (gS 17) (dIf (tB1 (d2 gtD (dA (argsF [(gS 15)]) lenD) (kC (.int 0)))) (d2 ixD (dA (argsF [(gS 15)]) minL) (kC (.int 1))) (kC .none)))) (tAnd2 (tB1 (d1 notND (gS 17))) (tB1 (d2 neD (dA (argsF [(gS 3), (gS 17)]) (cD (c I_brought_in))) (gS 17))))) (retS (kC (.bool false))) nxS)))))))))))))) (forS (d1L itemsD (dA (argsF [(kC .none), (dA (argsF [(kC (.int 0)), (kC (.int 0)), (kC (.int 1))]) tupD), (dA (argsF [(kC (.int 0)), (kC (.int 0)), (kC (.int 1)), (kC (.int 1))]) lstD), (dA (argsF [(kC (.int 0)), (kC (.int 0)), (kC (.int 1)), (kC (.int 1001))]) tupD), (dA (argsF [(kC (.int 0)), (kC (.int 0)), (d1 negI (kC (.int 1))), (kC (.int 1))]) tupD), (dA (argsF [(kC (.int 0)), (kC (.int 0)), (kC (.bool true)), (kC (.int 1))]) tupD), (kC (.int 3))]) lstD)) (bN 18) (ifS (tB1 (d2 neD (lcD ([20]) (dAL (argsF [(kC (.int 5))]) rng1D) (bN 20) yesT (dA (argsF [(gS 20), (gS 3), (gS 18)]) (cD (c I__law_word)))) (d2 repL (dA (argsF [(kC (.str "box"))]) lstD) (kC (.int 5))))) (retS (kC (.bool false))) nxS)))))) (seqS (setS 19 (dA (argsF [(dA (argsF [(kC (.str "a")), (dA (argsF [(kC (.int 0)), (kC (.int 0)), (kC (.int 4)), (kC (.int 4))]) tupD)]) tupD), (dA (argsF [(kC (.str "b")), (dA (argsF [(kC (.int 4)), (kC (.int 2)), (kC (.int 4)), (kC (.int 4))]) tupD)]) tupD)]) tupD)) (seqS (ifS (tOr2 (tB1 (d2 neD (dA (argsF [(gS 19), (dA (argsF [(kC (.int 3)), (kC (.int 3)), (kC (.int 2)), (kC (.int 2))]) tupD)]) (cD (c I_shares_of))) (dA (argsF [(dA (argsF [(kC (.str "a")), (kC (.int 1))]) tupD), (dA (argsF [(kC (.str "b")), (kC (.int 2))]) tupD)]) tupD))) (tOr2 (tB1 (d2 neD (dA (argsF [(gS 19), (dA (argsF [(kC (.int 3)), (kC (.int 3)), (kC (.int 2)), (kC (.int 2))]) tupD)]) (cD (c I_home_of))) (kC (.str "b")))) (tB1 (d2 neD (dA (argsF [(gS 19), (dA (argsF [(kC (.int 3)), (kC (.int 3)), (kC (.int 2)), (kC (.int 2))]) tupD)]) (cD (c I_lost_cells))) (kC (.int 1)))))) (retS (kC (.bool false))) nxS) (retS (dAnd (d2 eqD (dA (argsF [(gS 19), (dA (argsF [(kC (.int 3)), (kC (.int 3)), (kC (.int 2)), (kC (.int 2))]) tupD)]) (cD (c I_brought_in))) (dA (argsF [(kC (.int 4)), (kC (.int 3)), (kC (.int 2)), (kC (.int 2))]) tupD)) (dAnd (d1 isND (dA (argsF [(gS 19), (dA (argsF [(kC (.int 900)), (kC (.int 900)), (kC (.int 5)), (kC (.int 1))]) tupD)]) (cD (c I_brought_in)))) (d1 isND (dA (argsF [(gS 19), (dA (argsF [(kC (.int 0)), (kC (.int 0)), (kC (.int 0)), (kC (.int 9))]) tupD)]) (cD (c I_home_of)))))))))))
/-- the defs, by their places; by the room that is left for calls -/
def den : Nat → Nat → List Sl → Re PyData
  | 0, _ => fun _ => .no
  | k + 1, i => match i with
    | 0 => fnR (b_0 (den k)) 0
    | 1 => fnR (b_1 (den k)) 2
    | 2 => fnR (b_2 (den k)) 1
    | 3 => fnR (b_3 (den k)) 1
    | 4 => fnR (b_4 (den k)) 1
    | 5 => fnR (b_5 (den k)) 0
    | 6 => fnR (b_6 (den k)) 5
    | 7 => fnR (b_7 (den k)) 0
    | 8 => fnR (b_8 (den k)) 0
    | 9 => fnR (b_9 (den k)) 2
    | 10 => fnR (b_10 (den k)) 4
    | 11 => fnR (b_11 (den k)) 0
    | 12 => fnR (b_12 (den k)) 0
    | 13 => fnR (b_13 (den k)) 6
    | 14 => fnR (b_14 (den k)) 2
    | 15 => fnR (b_15 (den k)) 0
    | 16 => fnR (b_16 (den k)) 5
    | 17 => fnR (b_17 (den k)) 5
    | 18 => fnR (b_18 (den k)) 13
    | 19 => fnR (b_19 (den k)) 5
    | 20 => fnR (b_20 (den k)) 0
    | 21 => fnR (b_21 (den k)) 21
    | _ => fun _ => .no
theorem den_is_whole (k : Nat) (δ : List Sl) : den (k + 1) I_is_whole δ = outR (b_0 (den k) (δ ++ List.replicate 0 .no)) := rfl
theorem den_ascends (k : Nat) (δ : List Sl) : den (k + 1) I_ascends δ = outR (b_1 (den k) (δ ++ List.replicate 2 .no)) := rfl
theorem den_is_name (k : Nat) (δ : List Sl) : den (k + 1) I_is_name δ = outR (b_2 (den k) (δ ++ List.replicate 1 .no)) := rfl
theorem den_is_box (k : Nat) (δ : List Sl) : den (k + 1) I_is_box δ = outR (b_3 (den k) (δ ++ List.replicate 1 .no)) := rfl
theorem den_meet (k : Nat) (δ : List Sl) : den (k + 1) I_meet δ = outR (b_4 (den k) (δ ++ List.replicate 1 .no)) := rfl
theorem den__is_screen (k : Nat) (δ : List Sl) : den (k + 1) I__is_screen δ = outR (b_5 (den k) (δ ++ List.replicate 0 .no)) := rfl
theorem den_are_screens (k : Nat) (δ : List Sl) : den (k + 1) I_are_screens δ = outR (b_6 (den k) (δ ++ List.replicate 5 .no)) := rfl
theorem den_check_screens (k : Nat) (δ : List Sl) : den (k + 1) I_check_screens δ = outR (b_7 (den k) (δ ++ List.replicate 0 .no)) := rfl
theorem den__check (k : Nat) (δ : List Sl) : den (k + 1) I__check δ = outR (b_8 (den k) (δ ++ List.replicate 0 .no)) := rfl
theorem den__common (k : Nat) (δ : List Sl) : den (k + 1) I__common δ = outR (b_9 (den k) (δ ++ List.replicate 2 .no)) := rfl
theorem den__shares (k : Nat) (δ : List Sl) : den (k + 1) I__shares δ = outR (b_10 (den k) (δ ++ List.replicate 4 .no)) := rfl
theorem den_shares_of (k : Nat) (δ : List Sl) : den (k + 1) I_shares_of δ = outR (b_11 (den k) (δ ++ List.replicate 0 .no)) := rfl
theorem den_spans (k : Nat) (δ : List Sl) : den (k + 1) I_spans δ = outR (b_12 (den k) (δ ++ List.replicate 0 .no)) := rfl
theorem den_home_of (k : Nat) (δ : List Sl) : den (k + 1) I_home_of δ = outR (b_13 (den k) (δ ++ List.replicate 6 .no)) := rfl
theorem den_lost_cells (k : Nat) (δ : List Sl) : den (k + 1) I_lost_cells δ = outR (b_14 (den k) (δ ++ List.replicate 2 .no)) := rfl
theorem den__held (k : Nat) (δ : List Sl) : den (k + 1) I__held δ = outR (b_15 (den k) (δ ++ List.replicate 0 .no)) := rfl
theorem den_brought_in (k : Nat) (δ : List Sl) : den (k + 1) I_brought_in δ = outR (b_16 (den k) (δ ++ List.replicate 5 .no)) := rfl
theorem den__law_draws (k : Nat) (δ : List Sl) : den (k + 1) I__law_draws δ = outR (b_17 (den k) (δ ++ List.replicate 5 .no)) := rfl
theorem den__law_screens (k : Nat) (δ : List Sl) : den (k + 1) I__law_screens δ = outR (b_18 (den k) (δ ++ List.replicate 13 .no)) := rfl
theorem den__law_cells (k : Nat) (δ : List Sl) : den (k + 1) I__law_cells δ = outR (b_19 (den k) (δ ++ List.replicate 5 .no)) := rfl
theorem den__law_word (k : Nat) (δ : List Sl) : den (k + 1) I__law_word δ = outR (b_20 (den k) (δ ++ List.replicate 0 .no)) := rfl
theorem den_law (k : Nat) (δ : List Sl) : den (k + 1) I_law δ = outR (b_21 (den k) (δ ++ List.replicate 21 .no)) := rfl
end KL
end
section
open PySem PySem.Spec PyProof.Rows L2 VS
namespace KL
/-- what the written part says -/
structure Fx (K : PySem.W.Frag) (mg : Str → Option Value) : Prop where
  b_abs : mg "abs" = none
  b_all : mg "all" = none
  b_any : mg "any" = none
  b_bool : mg "bool" = none
  b_enumerate : mg "enumerate" = none
  b_int : mg "int" = none
  b_isinstance : mg "isinstance" = none
  b_len : mg "len" = none
  b_max : mg "max" = none
  b_min : mg "min" = none
  b_range : mg "range" = none
  b_sorted : mg "sorted" = none
  b_str : mg "str" = none
  b_sum : mg "sum" = none
  b_tuple : mg "tuple" = none
  b_zip : mg "zip" = none
  s_LETTERS : ∃ t, mg "LETTERS" = some (.str "abcdefghijklmnopqrstuvwxyz" t)
  i_MOST_SCREENS : ∃ t, mg "MOST_SCREENS" = some (.int 8 t)
  i_MOST_SIDE : ∃ t, mg "MOST_SIDE" = some (.int 1000 t)
  i_MOST_SIGNS : ∃ t, mg "MOST_SIGNS" = some (.int 8 t)
  g_BadBox : mg "BadBox" = some (.ref (He.ga K "BadBox"))
  g_BadScreens : mg "BadScreens" = some (.ref (He.ga K "BadScreens"))
  e_BadBox : ExcF K mg "BadBox"
  e_BadScreens : ExcF K mg "BadScreens"
  m_BadBox_BadBox : PySem.W.exmOne K (.ref (He.ga K "BadBox")) (.ref (He.ga K "BadBox")) = some true
  m_BadScreens_BadBox : PySem.W.exmOne K (.ref (He.ga K "BadScreens")) (.ref (He.ga K "BadBox")) = some false
/-- the defs that are called -/
structure En (P : Program) (w : World) (K : PySem.W.Frag) (mg : Str → Option Value) (base : Heap) (k : Nat) (c : Nat → List Sl → Re PyData) : Prop where
  f__check : FnE P w K mg base k "_check" 2 (c 8)
  f__common : FnE P w K mg base k "_common" 2 (c 9)
  f__held : FnE P w K mg base k "_held" 4 (c 15)
  f__is_screen : FnE P w K mg base k "_is_screen" 1 (c 5)
  f__law_cells : FnE P w K mg base k "_law_cells" 1 (c 19)
  f__law_draws : FnE P w K mg base k "_law_draws" 2 (c 17)
  f__law_screens : FnE P w K mg base k "_law_screens" 3 (c 18)
  f__law_word : FnE P w K mg base k "_law_word" 3 (c 20)
  f__shares : FnE P w K mg base k "_shares" 2 (c 10)
  f_are_screens : FnE P w K mg base k "are_screens" 1 (c 6)
  f_ascends : FnE P w K mg base k "ascends" 1 (c 1)
  f_brought_in : FnE P w K mg base k "brought_in" 2 (c 16)
  f_check_screens : FnE P w K mg base k "check_screens" 1 (c 7)
  f_home_of : FnE P w K mg base k "home_of" 2 (c 13)
  f_is_box : FnE P w K mg base k "is_box" 1 (c 3)
  f_is_name : FnE P w K mg base k "is_name" 1 (c 2)
  f_is_whole : FnE P w K mg base k "is_whole" 3 (c 0)
  f_lost_cells : FnE P w K mg base k "lost_cells" 2 (c 14)
  f_meet : FnE P w K mg base k "meet" 2 (c 4)
  f_shares_of : FnE P w K mg base k "shares_of" 2 (c 11)
  f_spans : FnE P w K mg base k "spans" 2 (c 12)
abbrev top (i : Nat) : Stmt := PySem.Challenge.pw_windowwright_k46_whole_windows_on_screen.main.body.getD i (.Pass ⟨0, 0, 0, 0⟩)
section
variable {P : Program} {w : World} {K : PySem.W.Frag} {mg : Str → Option Value} {base : Heap} {k : Nat} {c : Nat → List Sl → Re PyData}
theorem sc_0 : FnScope ["value", "least", "most"] ["value", "least", "most"] (defScope (top 7)) := ⟨rfl, rfl, rfl, by decide +kernel, rfl, by decide +kernel, by decide +kernel⟩
theorem w_0 (fx : Fx K mg) (E : En P w K mg base k c) (f : Addr) (cdv : Value) (A : Around) (outer : List Env) (s : Shared) (H : Hp) (Ex : XK) (W : XW) (hr : Room k (A.deeper (envOfC "is_whole" (defScope (top 7)) s.heap.objs.size f cdv)))
    (tk : XOk (cxOf (L2.CX P w) P w K mg base ["value", "least", "most"] "is_whole" (defScope (top 7)) f cdv A outer s H Ex) W) : VSs (cxOf (L2.CX P w) P w K mg base ["value", "least", "most"] "is_whole" (defScope (top 7)) f cdv A outer s H Ex) W (defBody (top 7)) (b_0 c) := by
  have hu : (A.deeper (envOfC "is_whole" (defScope (top 7)) s.heap.objs.size f cdv)).units + 64 < cLine := hr.units
  have nd : (["value", "least", "most"] : List Str).Nodup := sc_0.nd
  exact (vss_one (vs_ret (ve_and (ve_isi .tInt (VE.b (ve_var 0 (pv 0))) rfl fx.b_isinstance rfl fx.b_int (by decide +kernel)) (ve_and (ve_not (ve_isi .tBool (VE.b (ve_var 0 (pv 0))) rfl fx.b_isinstance rfl fx.b_bool (by decide +kernel))) (ve_one (ve_chain (c_le hu) (c_le hu) (VE.b (ve_var 1 (pv 1))) (VE.b (ve_var 0 (pv 0))) (VE.b (ve_var 2 (pv 2)))))))))
theorem sc_1 : FnScope ["values", "one", "later"] ["values"] (defScope (top 8)) := ⟨rfl, rfl, rfl, by decide +kernel, rfl, by decide +kernel, by decide +kernel⟩
theorem w_1 (fx : Fx K mg) (E : En P w K mg base k c) (f : Addr) (cdv : Value) (A : Around) (outer : List Env) (s : Shared) (H : Hp) (Ex : XK) (W : XW) (hr : Room k (A.deeper (envOfC "ascends" (defScope (top 8)) s.heap.objs.size f cdv)))
    (tk : XOk (cxOf (L2.CX P w) P w K mg base ["values", "one", "later"] "ascends" (defScope (top 8)) f cdv A outer s H Ex) W) : VSs (cxOf (L2.CX P w) P w K mg base ["values", "one", "later"] "ascends" (defScope (top 8)) f cdv A outer s H Ex) W (defBody (top 8)) (b_1 c) := by
  have hu : (A.deeper (envOfC "ascends" (defScope (top 8)) s.heap.objs.size f cdv)).units + 64 < cLine := hr.units
  have nd : (["values", "one", "later"] : List Str).Nodup := sc_1.nd
  exact (vss_one (vs_ret (ve_all rfl rfl fx.b_all (va_cons kB (vp_lc (own := [("one", 1), ("later", 2)]) pB_own rfl nd (vi_zip rfl fx.b_zip (va_cons kS (ve_var 0 (pv 0)) (va_cons kS (ve_sl (ve_var 0 (pv 0)) (vpt_some ve_int) vpt_no) va_nil))) (blkOk_by (by kernel_rfl)) (fun _ _ _ _ _ => (vg_tup rfl (vgs_cons (vg_name nd rfl (by first | exact .inl rfl | exact .inr rfl)) (vgs_cons (vg_name nd rfl (by first | exact .inl rfl | exact .inr rfl)) vgs_nil)))) (fun _ _ _ _ _ => vts_nil) (fun _ _ _ _ _ => (ve_cmp (c_lt hu) (VE.b (ve_var 1 (pv 1))) (VE.b (ve_var 2 (pv 2))) rfl)) (by decide)) va_nil))))
theorem sc_2 : FnScope ["value", "sign"] ["value"] (defScope (top 9)) := ⟨rfl, rfl, rfl, by decide +kernel, rfl, by decide +kernel, by decide +kernel⟩
theorem w_2 (fx : Fx K mg) (E : En P w K mg base k c) (f : Addr) (cdv : Value) (A : Around) (outer : List Env) (s : Shared) (H : Hp) (Ex : XK) (W : XW) (hr : Room k (A.deeper (envOfC "is_name" (defScope (top 9)) s.heap.objs.size f cdv)))
    (tk : XOk (cxOf (L2.CX P w) P w K mg base ["value", "sign"] "is_name" (defScope (top 9)) f cdv A outer s H Ex) W) : VSs (cxOf (L2.CX P w) P w K mg base ["value", "sign"] "is_name" (defScope (top 9)) f cdv A outer s H Ex) W (defBody (top 9)) (b_2 c) := by
  have hu : (A.deeper (envOfC "is_name" (defScope (top 9)) s.heap.objs.size f cdv)).units + 64 < cLine := hr.units
  have nd : (["value", "sign"] : List Str).Nodup := sc_2.nd
  exact (vss_one (vs_ret (ve_and (ve_isi .tStr (VE.b (ve_var 0 (pv 0))) rfl fx.b_isinstance rfl fx.b_str (by decide +kernel)) (ve_and (ve_chain (c_le hu) (c_le hu) (VE.b ve_int) (VE.b (ve_len  rfl fx.b_len (va_cons kB (VE.b (ve_var 0 (pv 0))) va_nil))) (VE.b (ve_gint rfl fx.i_MOST_SIGNS))) (ve_one (ve_all rfl rfl fx.b_all (va_cons kB (vp_lc (own := [("sign", 1)]) pB_own rfl nd (vi_any (ve_var 0 (pv 0))) (blkOk_by (by kernel_rfl)) (fun _ _ _ _ _ => (vg_name nd rfl (by first | exact .inl rfl | exact .inr rfl))) (fun _ _ _ _ _ => vts_nil) (fun _ _ _ _ _ => (ve_in hu (ve_var 1 (pv 1)) (VE.b (ve_gstr rfl fx.s_LETTERS)) rfl)) (by decide)) va_nil)))))))
theorem sc_3 : FnScope ["value", "one"] ["value"] (defScope (top 12)) := ⟨rfl, rfl, rfl, by decide +kernel, rfl, by decide +kernel, by decide +kernel⟩
theorem w_3 (fx : Fx K mg) (E : En P w K mg base k c) (f : Addr) (cdv : Value) (A : Around) (outer : List Env) (s : Shared) (H : Hp) (Ex : XK) (W : XW) (hr : Room k (A.deeper (envOfC "is_box" (defScope (top 12)) s.heap.objs.size f cdv)))
    (tk : XOk (cxOf (L2.CX P w) P w K mg base ["value", "one"] "is_box" (defScope (top 12)) f cdv A outer s H Ex) W) : VSs (cxOf (L2.CX P w) P w K mg base ["value", "one"] "is_box" (defScope (top 12)) f cdv A outer s H Ex) W (defBody (top 12)) (b_3 c) := by
  have hu : (A.deeper (envOfC "is_box" (defScope (top 12)) s.heap.objs.size f cdv)).units + 64 < cLine := hr.units
  have nd : (["value", "one"] : List Str).Nodup := sc_3.nd
  exact (vss_one (vs_ret (ve_and (ve_isi .tTuple (VE.b (ve_var 0 (pv 0))) rfl fx.b_isinstance rfl fx.b_tuple (by decide +kernel)) (ve_and (ve_cmp (c_eq hu) (VE.b (ve_len  rfl fx.b_len (va_cons kB (VE.b (ve_var 0 (pv 0))) va_nil))) (VE.b ve_int) rfl) (ve_one (ve_all rfl rfl fx.b_all (va_cons kB (vp_lc (own := [("one", 1)]) pB_own rfl nd (vi_any (ve_var 0 (pv 0))) (blkOk_by (by kernel_rfl)) (fun _ _ _ _ _ => (vg_name nd rfl (by first | exact .inl rfl | exact .inr rfl))) (fun _ _ _ _ _ => vts_nil) (fun _ _ _ _ _ => (ve_call E.f_is_whole hr xok0 rfl (va_cons kS (ve_var 1 (pv 1)) (va_cons kS ve_int (va_cons kS (ve_gint rfl fx.i_MOST_SIDE) va_nil))))) (by decide)) va_nil)))))))
theorem sc_4 : FnScope ["box", "other", "is_wide"] ["box", "other"] (defScope (top 14)) := ⟨rfl, rfl, rfl, by decide +kernel, rfl, by decide +kernel, by decide +kernel⟩
theorem w_4 (fx : Fx K mg) (E : En P w K mg base k c) (f : Addr) (cdv : Value) (A : Around) (outer : List Env) (s : Shared) (H : Hp) (Ex : XK) (W : XW) (hr : Room k (A.deeper (envOfC "meet" (defScope (top 14)) s.heap.objs.size f cdv)))
    (tk : XOk (cxOf (L2.CX P w) P w K mg base ["box", "other", "is_wide"] "meet" (defScope (top 14)) f cdv A outer s H Ex) W) : VSs (cxOf (L2.CX P w) P w K mg base ["box", "other", "is_wide"] "meet" (defScope (top 14)) f cdv A outer s H Ex) W (defBody (top 14)) (b_4 c) := by
  have hu : (A.deeper (envOfC "meet" (defScope (top 14)) s.heap.objs.size f cdv)).units + 64 < cLine := hr.units
  have nd : (["box", "other", "is_wide"] : List Str).Nodup := sc_4.nd
  exact (vss_cons (vs_set nd rfl (.inl rfl) (ve_cmp (c_lt hu) (VE.b (ve_max2 rfl rfl fx.b_max (va_cons kB (VE.b (ve_ix (hu1 hu) (VE.b (ve_var 0 (pv 0))) ve_int (fun _ _ => rfl))) (va_cons kB (VE.b (ve_ix (hu1 hu) (VE.b (ve_var 1 (pv 1))) ve_int (fun _ _ => rfl))) va_nil)))) (VE.b (ve_min2 rfl rfl fx.b_min (va_cons kB (VE.b (ve_add (ve_ix (hu1 hu) (VE.b (ve_var 0 (pv 0))) ve_int (fun _ _ => rfl)) (ve_ix (hu1 hu) (VE.b (ve_var 0 (pv 0))) ve_int (fun _ _ => rfl)))) (va_cons kB (VE.b (ve_add (ve_ix (hu1 hu) (VE.b (ve_var 1 (pv 1))) ve_int (fun _ _ => rfl)) (ve_ix (hu1 hu) (VE.b (ve_var 1 (pv 1))) ve_int (fun _ _ => rfl)))) va_nil)))) rfl)) (vss_one (vs_ret (ve_and (ve_var 2 (pv 2)) (ve_one (ve_cmp (c_lt hu) (VE.b (ve_max2 rfl rfl fx.b_max (va_cons kB (VE.b (ve_ix (hu1 hu) (VE.b (ve_var 0 (pv 0))) ve_int (fun _ _ => rfl))) (va_cons kB (VE.b (ve_ix (hu1 hu) (VE.b (ve_var 1 (pv 1))) ve_int (fun _ _ => rfl))) va_nil)))) (VE.b (ve_min2 rfl rfl fx.b_min (va_cons kB (VE.b (ve_add (ve_ix (hu1 hu) (VE.b (ve_var 0 (pv 0))) ve_int (fun _ _ => rfl)) (ve_ix (hu1 hu) (VE.b (ve_var 0 (pv 0))) ve_int (fun _ _ => rfl)))) (va_cons kB (VE.b (ve_add (ve_ix (hu1 hu) (VE.b (ve_var 1 (pv 1))) ve_int (fun _ _ => rfl)) (ve_ix (hu1 hu) (VE.b (ve_var 1 (pv 1))) ve_int (fun _ _ => rfl)))) va_nil)))) rfl))))))
theorem sc_5 : FnScope ["value"] ["value"] (defScope (top 17)) := ⟨rfl, rfl, rfl, by decide +kernel, rfl, by decide +kernel, by decide +kernel⟩
theorem w_5 (fx : Fx K mg) (E : En P w K mg base k c) (f : Addr) (cdv : Value) (A : Around) (outer : List Env) (s : Shared) (H : Hp) (Ex : XK) (W : XW) (hr : Room k (A.deeper (envOfC "_is_screen" (defScope (top 17)) s.heap.objs.size f cdv)))
    (tk : XOk (cxOf (L2.CX P w) P w K mg base ["value"] "_is_screen" (defScope (top 17)) f cdv A outer s H Ex) W) : VSs (cxOf (L2.CX P w) P w K mg base ["value"] "_is_screen" (defScope (top 17)) f cdv A outer s H Ex) W (defBody (top 17)) (b_5 c) := by
  have hu : (A.deeper (envOfC "_is_screen" (defScope (top 17)) s.heap.objs.size f cdv)).units + 64 < cLine := hr.units
  have nd : (["value"] : List Str).Nodup := sc_5.nd
  exact (vss_cons (vs_if (vt_w (vw_or (vt_not (vt_val (ve_isi .tTuple (VE.b (ve_var 0 (pv 0))) rfl fx.b_isinstance rfl fx.b_tuple (by decide +kernel)) (by intro _; rfl))) (vw_or (vt_cmp (c_ne hu) (VE.b (ve_len  rfl fx.b_len (va_cons kB (VE.b (ve_var 0 (pv 0))) va_nil))) (VE.b ve_int) rfl) (vw_or (vt_not (vt_val (ve_call E.f_is_name hr tk rfl (va_cons kS (ve_ix (hu1 hu) (VE.b (ve_var 0 (pv 0))) ve_int (fun _ _ => rfl)) va_nil)) (by intro _; rfl))) (vw_or1 (vt_not (vt_val (ve_call E.f_is_box hr tk rfl (va_cons kS (ve_ix (hu1 hu) (VE.b (ve_var 0 (pv 0))) ve_int (fun _ _ => rfl)) va_nil)) (by intro _; rfl)))))))) (vss_one (vs_ret ve_bl)) vss_nil) (vss_one (vs_ret (ve_and (ve_cmp (c_gt hu) (VE.b (ve_ix (hu1 hu) (VE.b (ve_ix (hu1 hu) (VE.b (ve_var 0 (pv 0))) ve_int (fun _ _ => rfl))) ve_int (fun _ _ => rfl))) (VE.b ve_int) rfl) (ve_one (ve_cmp (c_gt hu) (VE.b (ve_ix (hu1 hu) (VE.b (ve_ix (hu1 hu) (VE.b (ve_var 0 (pv 0))) ve_int (fun _ _ => rfl))) ve_int (fun _ _ => rfl))) (VE.b ve_int) rfl))))))
theorem sc_6 : FnScope ["value", "boxes", "one", "number", "box", "other"] ["value"] (defScope (top 18)) := ⟨rfl, rfl, rfl, by decide +kernel, rfl, by decide +kernel, by decide +kernel⟩
theorem w_6 (fx : Fx K mg) (E : En P w K mg base k c) (f : Addr) (cdv : Value) (A : Around) (outer : List Env) (s : Shared) (H : Hp) (Ex : XK) (W : XW) (hr : Room k (A.deeper (envOfC "are_screens" (defScope (top 18)) s.heap.objs.size f cdv)))
    (tk : XOk (cxOf (L2.CX P w) P w K mg base ["value", "boxes", "one", "number", "box", "other"] "are_screens" (defScope (top 18)) f cdv A outer s H Ex) W) : VSs (cxOf (L2.CX P w) P w K mg base ["value", "boxes", "one", "number", "box", "other"] "are_screens" (defScope (top 18)) f cdv A outer s H Ex) W (defBody (top 18)) (b_6 c) := by
  have hu : (A.deeper (envOfC "are_screens" (defScope (top 18)) s.heap.objs.size f cdv)).units + 64 < cLine := hr.units
  have nd : (["value", "boxes", "one", "number", "box", "other"] : List Str).Nodup := sc_6.nd
  exact (vss_cons (vs_if (vt_w (vw_or (vt_not (vt_val (ve_isi .tTuple (VE.b (ve_var 0 (pv 0))) rfl fx.b_isinstance rfl fx.b_tuple (by decide +kernel)) (by intro _; rfl))) (vw_or1 (vt_not (vt_chain (c_le hu) (c_le hu) (VE.b ve_int) (VE.b (ve_len  rfl fx.b_len (va_cons kB (VE.b (ve_var 0 (pv 0))) va_nil))) (VE.b (ve_gint rfl fx.i_MOST_SCREENS))))))) (vss_one (vs_ret ve_bl)) vss_nil) (vss_cons (vs_if (vt_w (vw_or (vt_not (vt_val (ve_all rfl rfl fx.b_all (va_cons kB (vp_lc (own := [("one", 2)]) pB_own rfl nd (vi_any (ve_var 0 (pv 0))) (blkOk_by (by kernel_rfl)) (fun _ _ _ _ _ => (vg_name nd rfl (by first | exact .inl rfl | exact .inr rfl))) (fun _ _ _ _ _ => vts_nil) (fun _ _ _ _ _ => (ve_call E.f__is_screen hr xok0 rfl (va_cons kS (ve_var 2 (pv 2)) va_nil))) (by decide)) va_nil)) (by intro _; rfl))) (vw_or1 (vt_not (vt_val (ve_call E.f_ascends hr tk rfl (va_cons kS (vp_lc (own := [("one", 2)]) pS_own rfl nd (vi_any (ve_var 0 (pv 0))) (blkOk_by (by kernel_rfl)) (fun _ _ _ _ _ => (vg_name nd rfl (by first | exact .inl rfl | exact .inr rfl))) (fun _ _ _ _ _ => vts_nil) (fun _ _ _ _ _ => (ve_ix (hu1 hu) (VE.b (ve_var 2 (pv 2))) ve_int (fun _ _ => rfl))) (by decide)) va_nil)) (by intro _; rfl)))))) (vss_one (vs_ret ve_bl)) vss_nil) (vss_cons (vs_set nd rfl (.inr rfl) (vp_lc (own := [("one", 2)]) pS_own rfl nd (vi_any (ve_var 0 (pv 0))) (blkOk_by (by kernel_rfl)) (fun _ _ _ _ _ => (vg_name nd rfl (by first | exact .inl rfl | exact .inr rfl))) (fun _ _ _ _ _ => vts_nil) (fun _ _ _ _ _ => (ve_ix (hu1 hu) (VE.b (ve_var 2 (pv 2))) ve_int (fun _ _ => rfl))) (by decide))) (vss_one (vs_ret (ve_not (ve_any rfl rfl fx.b_any (va_cons kB (vp_lc2 (own := [("number", 3), ("box", 4), ("other", 5)]) (vs1 := ([5])) pB_own rfl nd (vi_enum rfl fx.b_enumerate (va_cons kS (ve_var 1 (pv 1)) va_nil)) (blkOk_by (by kernel_rfl)) (by decide) (fun _ _ _ _ _ => (vg_tup rfl (vgs_cons (vg_name nd rfl (by first | exact .inl rfl | exact .inr rfl)) (vgs_cons (vg_name nd rfl (by first | exact .inl rfl | exact .inr rfl)) vgs_nil)))) (fun _ _ _ _ _ => vts_nil) (fun _ _ _ _ _ => (vi_any (ve_sl (ve_var 1 (pv 1)) (vpt_some (ve_add (ve_var 3 (pv 3)) ve_int)) vpt_no))) (fun _ _ _ _ _ => (vg_name nd rfl (by first | exact .inl rfl | exact .inr rfl))) (fun _ _ _ _ _ => vts_nil) (fun _ _ _ _ _ => (ve_call E.f_meet hr xok0 rfl (va_cons kS (ve_var 4 (pv 4)) (va_cons kS (ve_var 5 (pv 5)) va_nil)))) (by decide) (by decide)) va_nil))))))))
theorem sc_7 : FnScope ["screens"] ["screens"] (defScope (top 19)) := ⟨rfl, rfl, rfl, by decide +kernel, rfl, by decide +kernel, by decide +kernel⟩
theorem w_7 (fx : Fx K mg) (E : En P w K mg base k c) (f : Addr) (cdv : Value) (A : Around) (outer : List Env) (s : Shared) (H : Hp) (Ex : XK) (W : XW) (hr : Room k (A.deeper (envOfC "check_screens" (defScope (top 19)) s.heap.objs.size f cdv)))
    (tk : XOk (cxOf (L2.CX P w) P w K mg base ["screens"] "check_screens" (defScope (top 19)) f cdv A outer s H Ex) W) : VSs (cxOf (L2.CX P w) P w K mg base ["screens"] "check_screens" (defScope (top 19)) f cdv A outer s H Ex) W (defBody (top 19)) (b_7 c) := by
  have hu : (A.deeper (envOfC "check_screens" (defScope (top 19)) s.heap.objs.size f cdv)).units + 64 < cLine := hr.units
  have nd : (["screens"] : List Str).Nodup := sc_7.nd
  exact (vss_one (vs_if (vt_not (vt_val (ve_call E.f_are_screens hr tk rfl (va_cons kS (ve_var 0 (pv 0)) va_nil)) (by intro _; rfl))) (vss_one (vs_raiseF rfl tk fx.e_BadScreens rfl)) vss_nil))
theorem sc_8 : FnScope ["screens", "box"] ["screens", "box"] (defScope (top 20)) := ⟨rfl, rfl, rfl, by decide +kernel, rfl, by decide +kernel, by decide +kernel⟩
theorem w_8 (fx : Fx K mg) (E : En P w K mg base k c) (f : Addr) (cdv : Value) (A : Around) (outer : List Env) (s : Shared) (H : Hp) (Ex : XK) (W : XW) (hr : Room k (A.deeper (envOfC "_check" (defScope (top 20)) s.heap.objs.size f cdv)))
    (tk : XOk (cxOf (L2.CX P w) P w K mg base ["screens", "box"] "_check" (defScope (top 20)) f cdv A outer s H Ex) W) : VSs (cxOf (L2.CX P w) P w K mg base ["screens", "box"] "_check" (defScope (top 20)) f cdv A outer s H Ex) W (defBody (top 20)) (b_8 c) := by
  have hu : (A.deeper (envOfC "_check" (defScope (top 20)) s.heap.objs.size f cdv)).units + 64 < cLine := hr.units
  have nd : (["screens", "box"] : List Str).Nodup := sc_8.nd
  exact (vss_cons (vs_expr (P := pS _) (ve_call E.f_check_screens hr tk rfl (va_cons kS (ve_var 0 (pv 0)) va_nil))) (vss_one (vs_if (vt_not (vt_val (ve_call E.f_is_box hr tk rfl (va_cons kS (ve_var 1 (pv 1)) va_nil)) (by intro _; rfl))) (vss_one (vs_raiseF rfl tk fx.e_BadBox rfl)) vss_nil)))
theorem sc_9 : FnScope ["box", "other", "width", "height"] ["box", "other"] (defScope (top 21)) := ⟨rfl, rfl, rfl, by decide +kernel, rfl, by decide +kernel, by decide +kernel⟩
theorem w_9 (fx : Fx K mg) (E : En P w K mg base k c) (f : Addr) (cdv : Value) (A : Around) (outer : List Env) (s : Shared) (H : Hp) (Ex : XK) (W : XW) (hr : Room k (A.deeper (envOfC "_common" (defScope (top 21)) s.heap.objs.size f cdv)))
    (tk : XOk (cxOf (L2.CX P w) P w K mg base ["box", "other", "width", "height"] "_common" (defScope (top 21)) f cdv A outer s H Ex) W) : VSs (cxOf (L2.CX P w) P w K mg base ["box", "other", "width", "height"] "_common" (defScope (top 21)) f cdv A outer s H Ex) W (defBody (top 21)) (b_9 c) := by
  have hu : (A.deeper (envOfC "_common" (defScope (top 21)) s.heap.objs.size f cdv)).units + 64 < cLine := hr.units
  have nd : (["box", "other", "width", "height"] : List Str).Nodup := sc_9.nd
  exact (vss_cons (vs_set nd rfl (.inl rfl) (ve_sub (VE.b (ve_min2 rfl rfl fx.b_min (va_cons kB (VE.b (ve_add (ve_ix (hu1 hu) (VE.b (ve_var 0 (pv 0))) ve_int (fun _ _ => rfl)) (ve_ix (hu1 hu) (VE.b (ve_var 0 (pv 0))) ve_int (fun _ _ => rfl)))) (va_cons kB (VE.b (ve_add (ve_ix (hu1 hu) (VE.b (ve_var 1 (pv 1))) ve_int (fun _ _ => rfl)) (ve_ix (hu1 hu) (VE.b (ve_var 1 (pv 1))) ve_int (fun _ _ => rfl)))) va_nil)))) (VE.b (ve_max2 rfl rfl fx.b_max (va_cons kB (VE.b (ve_ix (hu1 hu) (VE.b (ve_var 0 (pv 0))) ve_int (fun _ _ => rfl))) (va_cons kB (VE.b (ve_ix (hu1 hu) (VE.b (ve_var 1 (pv 1))) ve_int (fun _ _ => rfl))) va_nil)))))) (vss_cons (vs_set nd rfl (.inl rfl) (ve_sub (VE.b (ve_min2 rfl rfl fx.b_min (va_cons kB (VE.b (ve_add (ve_ix (hu1 hu) (VE.b (ve_var 0 (pv 0))) ve_int (fun _ _ => rfl)) (ve_ix (hu1 hu) (VE.b (ve_var 0 (pv 0))) ve_int (fun _ _ => rfl)))) (va_cons kB (VE.b (ve_add (ve_ix (hu1 hu) (VE.b (ve_var 1 (pv 1))) ve_int (fun _ _ => rfl)) (ve_ix (hu1 hu) (VE.b (ve_var 1 (pv 1))) ve_int (fun _ _ => rfl)))) va_nil)))) (VE.b (ve_max2 rfl rfl fx.b_max (va_cons kB (VE.b (ve_ix (hu1 hu) (VE.b (ve_var 0 (pv 0))) ve_int (fun _ _ => rfl))) (va_cons kB (VE.b (ve_ix (hu1 hu) (VE.b (ve_var 1 (pv 1))) ve_int (fun _ _ => rfl))) va_nil)))))) (vss_one (vs_ret (ve_mul (VE.b (ve_max2 rfl rfl fx.b_max (va_cons kB (VE.b ve_int) (va_cons kB (VE.b (ve_var 2 (pv 2))) va_nil)))) (VE.b (ve_max2 rfl rfl fx.b_max (va_cons kB (VE.b ve_int) (va_cons kB (VE.b (ve_var 3 (pv 3))) va_nil)))))))))
theorem sc_10 : FnScope ["screens", "box", "rows", "name", "own", "row"] ["screens", "box"] (defScope (top 22)) := ⟨rfl, rfl, rfl, by decide +kernel, rfl, by decide +kernel, by decide +kernel⟩
theorem w_10 (fx : Fx K mg) (E : En P w K mg base k c) (f : Addr) (cdv : Value) (A : Around) (outer : List Env) (s : Shared) (H : Hp) (Ex : XK) (W : XW) (hr : Room k (A.deeper (envOfC "_shares" (defScope (top 22)) s.heap.objs.size f cdv)))
    (tk : XOk (cxOf (L2.CX P w) P w K mg base ["screens", "box", "rows", "name", "own", "row"] "_shares" (defScope (top 22)) f cdv A outer s H Ex) W) : VSs (cxOf (L2.CX P w) P w K mg base ["screens", "box", "rows", "name", "own", "row"] "_shares" (defScope (top 22)) f cdv A outer s H Ex) W (defBody (top 22)) (b_10 c) := by
  have hu : (A.deeper (envOfC "_shares" (defScope (top 22)) s.heap.objs.size f cdv)).units + 64 < cLine := hr.units
  have nd : (["screens", "box", "rows", "name", "own", "row"] : List Str).Nodup := sc_10.nd
  exact (vss_cons (vs_setLc (own := [("name", 3), ("own", 4)]) rfl nd rfl rfl (by kernel_rfl) (vi_any (ve_var 0 (pv 0))) (blkOk_by (by kernel_rfl)) (fun _ _ _ _ _ => (vg_tup rfl (vgs_cons (vg_name nd rfl (by first | exact .inl rfl | exact .inr rfl)) (vgs_cons (vg_name nd rfl (by first | exact .inl rfl | exact .inr rfl)) vgs_nil)))) (fun _ _ _ _ _ => vts_nil) (fun _ _ _ _ _ => (ve_tup (va_cons kS (ve_var 3 (pv 3)) (va_cons kS (ve_call E.f__common hr xok0 rfl (va_cons kS (ve_var 1 (pv 1)) (va_cons kS (ve_var 4 (pv 4)) va_nil))) va_nil)))) (by decide)) (vss_one (vs_ret (vp_lc (own := [("row", 5)]) pS_own rfl nd (vi_any (ve_var 2 (pv 2))) (blkOk_by (by kernel_rfl)) (fun _ _ _ _ _ => (vg_name nd rfl (by first | exact .inl rfl | exact .inr rfl))) (fun _ _ _ _ _ => (vts_one (vt_cmp (c_gt hu) (VE.b (ve_ix (hu1 hu) (VE.b (ve_var 5 (pv 5))) ve_int (fun _ _ => rfl))) (VE.b ve_int) rfl))) (fun _ _ _ _ _ => (ve_var 5 (pv 5))) (by decide)))))
theorem sc_11 : FnScope ["screens", "box"] ["screens", "box"] (defScope (top 23)) := ⟨rfl, rfl, rfl, by decide +kernel, rfl, by decide +kernel, by decide +kernel⟩
theorem w_11 (fx : Fx K mg) (E : En P w K mg base k c) (f : Addr) (cdv : Value) (A : Around) (outer : List Env) (s : Shared) (H : Hp) (Ex : XK) (W : XW) (hr : Room k (A.deeper (envOfC "shares_of" (defScope (top 23)) s.heap.objs.size f cdv)))
    (tk : XOk (cxOf (L2.CX P w) P w K mg base ["screens", "box"] "shares_of" (defScope (top 23)) f cdv A outer s H Ex) W) : VSs (cxOf (L2.CX P w) P w K mg base ["screens", "box"] "shares_of" (defScope (top 23)) f cdv A outer s H Ex) W (defBody (top 23)) (b_11 c) := by
  have hu : (A.deeper (envOfC "shares_of" (defScope (top 23)) s.heap.objs.size f cdv)).units + 64 < cLine := hr.units
  have nd : (["screens", "box"] : List Str).Nodup := sc_11.nd
  exact (vss_cons (vs_expr (P := pS _) (ve_call E.f__check hr tk rfl (va_cons kS (ve_var 0 (pv 0)) (va_cons kS (ve_var 1 (pv 1)) va_nil)))) (vss_one (vs_ret (ve_tupA rfl fx.b_tuple (va_cons kS (ve_call E.f__shares hr tk rfl (va_cons kS (ve_var 0 (pv 0)) (va_cons kS (ve_var 1 (pv 1)) va_nil))) va_nil)))))
theorem sc_12 : FnScope ["screens", "box"] ["screens", "box"] (defScope (top 24)) := ⟨rfl, rfl, rfl, by decide +kernel, rfl, by decide +kernel, by decide +kernel⟩
theorem w_12 (fx : Fx K mg) (E : En P w K mg base k c) (f : Addr) (cdv : Value) (A : Around) (outer : List Env) (s : Shared) (H : Hp) (Ex : XK) (W : XW) (hr : Room k (A.deeper (envOfC "spans" (defScope (top 24)) s.heap.objs.size f cdv)))
    (tk : XOk (cxOf (L2.CX P w) P w K mg base ["screens", "box"] "spans" (defScope (top 24)) f cdv A outer s H Ex) W) : VSs (cxOf (L2.CX P w) P w K mg base ["screens", "box"] "spans" (defScope (top 24)) f cdv A outer s H Ex) W (defBody (top 24)) (b_12 c) := by
  have hu : (A.deeper (envOfC "spans" (defScope (top 24)) s.heap.objs.size f cdv)).units + 64 < cLine := hr.units
  have nd : (["screens", "box"] : List Str).Nodup := sc_12.nd
  exact (vss_cons (vs_expr (P := pS _) (ve_call E.f__check hr tk rfl (va_cons kS (ve_var 0 (pv 0)) (va_cons kS (ve_var 1 (pv 1)) va_nil)))) (vss_one (vs_ret (ve_cmp (c_gt hu) (VE.b (ve_len  rfl fx.b_len (va_cons kB (VE.b (ve_call E.f__shares hr tk rfl (va_cons kS (ve_var 0 (pv 0)) (va_cons kS (ve_var 1 (pv 1)) va_nil)))) va_nil))) (VE.b ve_int) rfl))))
theorem sc_13 : FnScope ["screens", "box", "rows", "most", "names", "name", "cells", "_name"] ["screens", "box"] (defScope (top 25)) := ⟨rfl, rfl, rfl, by decide +kernel, rfl, by decide +kernel, by decide +kernel⟩
theorem w_13 (fx : Fx K mg) (E : En P w K mg base k c) (f : Addr) (cdv : Value) (A : Around) (outer : List Env) (s : Shared) (H : Hp) (Ex : XK) (W : XW) (hr : Room k (A.deeper (envOfC "home_of" (defScope (top 25)) s.heap.objs.size f cdv)))
    (tk : XOk (cxOf (L2.CX P w) P w K mg base ["screens", "box", "rows", "most", "names", "name", "cells", "_name"] "home_of" (defScope (top 25)) f cdv A outer s H Ex) W) : VSs (cxOf (L2.CX P w) P w K mg base ["screens", "box", "rows", "most", "names", "name", "cells", "_name"] "home_of" (defScope (top 25)) f cdv A outer s H Ex) W (defBody (top 25)) (b_13 c) := by
  have hu : (A.deeper (envOfC "home_of" (defScope (top 25)) s.heap.objs.size f cdv)).units + 64 < cLine := hr.units
  have nd : (["screens", "box", "rows", "most", "names", "name", "cells", "_name"] : List Str).Nodup := sc_13.nd
  exact (vss_cons (vs_expr (P := pS _) (ve_call E.f__check hr tk rfl (va_cons kS (ve_var 0 (pv 0)) (va_cons kS (ve_var 1 (pv 1)) va_nil)))) (vss_cons (vs_set nd rfl (.inl rfl) (ve_call E.f__shares hr tk rfl (va_cons kS (ve_var 0 (pv 0)) (va_cons kS (ve_var 1 (pv 1)) va_nil)))) (vss_cons (vs_set nd rfl (.inr rfl) (ve_maxL rfl hu rfl fx.b_max (va_cons kB (VE.b (ve_add (vp_lc (own := [("_name", 7), ("cells", 6)]) pS_own rfl nd (vi_any (ve_var 2 (pv 2))) (blkOk_by (by kernel_rfl)) (fun _ _ _ _ _ => (vg_tup rfl (vgs_cons (vg_name nd rfl (by first | exact .inl rfl | exact .inr rfl)) (vgs_cons (vg_name nd rfl (by first | exact .inl rfl | exact .inr rfl)) vgs_nil)))) (fun _ _ _ _ _ => vts_nil) (fun _ _ _ _ _ => (ve_var 6 (pv 6))) (by decide)) (vp_lst pS_new (va_cons kS ve_int va_nil)))) va_nil))) (vss_cons (vs_setLc (own := [("name", 5), ("cells", 6)]) rfl nd rfl rfl (by kernel_rfl) (vi_any (ve_var 2 (pv 2))) (blkOk_by (by kernel_rfl)) (fun _ _ _ _ _ => (vg_tup rfl (vgs_cons (vg_name nd rfl (by first | exact .inl rfl | exact .inr rfl)) (vgs_cons (vg_name nd rfl (by first | exact .inl rfl | exact .inr rfl)) vgs_nil)))) (fun _ _ _ _ _ => (vts_one (vt_cmp (c_eq hu) (VE.b (ve_var 6 (pv 6))) (VE.b (ve_var 3 (pv 3))) rfl))) (fun _ _ _ _ _ => (ve_var 5 (pv 5))) (by decide)) (vss_one (vs_ret (vp_if pS_mon (vt_cmp (c_gt hu) (VE.b (ve_len  rfl fx.b_len (va_cons kB (VE.b (ve_var 4 (pv 4))) va_nil))) (VE.b ve_int) rfl) (ve_ix (hu1 hu) (VE.b (ve_var 4 (pv 4))) ve_int (fun _ _ => rfl)) ve_non)))))))
theorem sc_14 : FnScope ["screens", "box", "_name", "cells"] ["screens", "box"] (defScope (top 26)) := ⟨rfl, rfl, rfl, by decide +kernel, rfl, by decide +kernel, by decide +kernel⟩
theorem w_14 (fx : Fx K mg) (E : En P w K mg base k c) (f : Addr) (cdv : Value) (A : Around) (outer : List Env) (s : Shared) (H : Hp) (Ex : XK) (W : XW) (hr : Room k (A.deeper (envOfC "lost_cells" (defScope (top 26)) s.heap.objs.size f cdv)))
    (tk : XOk (cxOf (L2.CX P w) P w K mg base ["screens", "box", "_name", "cells"] "lost_cells" (defScope (top 26)) f cdv A outer s H Ex) W) : VSs (cxOf (L2.CX P w) P w K mg base ["screens", "box", "_name", "cells"] "lost_cells" (defScope (top 26)) f cdv A outer s H Ex) W (defBody (top 26)) (b_14 c) := by
  have hu : (A.deeper (envOfC "lost_cells" (defScope (top 26)) s.heap.objs.size f cdv)).units + 64 < cLine := hr.units
  have nd : (["screens", "box", "_name", "cells"] : List Str).Nodup := sc_14.nd
  exact (vss_cons (vs_expr (P := pS _) (ve_call E.f__check hr tk rfl (va_cons kS (ve_var 0 (pv 0)) (va_cons kS (ve_var 1 (pv 1)) va_nil)))) (vss_one (vs_ret (ve_sub (VE.b (ve_mul (VE.b (ve_ix (hu1 hu) (VE.b (ve_var 1 (pv 1))) ve_int (fun _ _ => rfl))) (VE.b (ve_ix (hu1 hu) (VE.b (ve_var 1 (pv 1))) ve_int (fun _ _ => rfl))))) (VE.b (ve_sum rfl rfl fx.b_sum (va_cons kB (vp_lc (own := [("_name", 2), ("cells", 3)]) pB_own rfl nd (vi_any (ve_call E.f__shares hr tk rfl (va_cons kS (ve_var 0 (pv 0)) (va_cons kS (ve_var 1 (pv 1)) va_nil)))) (blkOk_by (by kernel_rfl)) (fun _ _ _ _ _ => (vg_tup rfl (vgs_cons (vg_name nd rfl (by first | exact .inl rfl | exact .inr rfl)) (vgs_cons (vg_name nd rfl (by first | exact .inl rfl | exact .inr rfl)) vgs_nil)))) (fun _ _ _ _ _ => vts_nil) (fun _ _ _ _ _ => (ve_var 3 (pv 3))) (by decide)) va_nil)))))))
theorem sc_15 : FnScope ["start", "size", "first", "room"] ["start", "size", "first", "room"] (defScope (top 27)) := ⟨rfl, rfl, rfl, by decide +kernel, rfl, by decide +kernel, by decide +kernel⟩
theorem w_15 (fx : Fx K mg) (E : En P w K mg base k c) (f : Addr) (cdv : Value) (A : Around) (outer : List Env) (s : Shared) (H : Hp) (Ex : XK) (W : XW) (hr : Room k (A.deeper (envOfC "_held" (defScope (top 27)) s.heap.objs.size f cdv)))
    (tk : XOk (cxOf (L2.CX P w) P w K mg base ["start", "size", "first", "room"] "_held" (defScope (top 27)) f cdv A outer s H Ex) W) : VSs (cxOf (L2.CX P w) P w K mg base ["start", "size", "first", "room"] "_held" (defScope (top 27)) f cdv A outer s H Ex) W (defBody (top 27)) (b_15 c) := by
  have hu : (A.deeper (envOfC "_held" (defScope (top 27)) s.heap.objs.size f cdv)).units + 64 < cLine := hr.units
  have nd : (["start", "size", "first", "room"] : List Str).Nodup := sc_15.nd
  exact (vss_one (vs_ret (ve_min2 rfl rfl fx.b_min (va_cons kB (VE.b (ve_max2 rfl rfl fx.b_max (va_cons kB (VE.b (ve_var 0 (pv 0))) (va_cons kB (VE.b (ve_var 2 (pv 2))) va_nil)))) (va_cons kB (VE.b (ve_sub (VE.b (ve_add (ve_var 2 (pv 2)) (ve_var 3 (pv 3)))) (VE.b (ve_var 1 (pv 1))))) va_nil)))))
theorem sc_16 : FnScope ["screens", "box", "found", "_name", "own", "left", "top"] ["screens", "box"] (defScope (top 28)) := ⟨rfl, rfl, rfl, by decide +kernel, rfl, by decide +kernel, by decide +kernel⟩
theorem w_16 (fx : Fx K mg) (E : En P w K mg base k c) (f : Addr) (cdv : Value) (A : Around) (outer : List Env) (s : Shared) (H : Hp) (Ex : XK) (W : XW) (hr : Room k (A.deeper (envOfC "brought_in" (defScope (top 28)) s.heap.objs.size f cdv)))
    (tk : XOk (cxOf (L2.CX P w) P w K mg base ["screens", "box", "found", "_name", "own", "left", "top"] "brought_in" (defScope (top 28)) f cdv A outer s H Ex) W) : VSs (cxOf (L2.CX P w) P w K mg base ["screens", "box", "found", "_name", "own", "left", "top"] "brought_in" (defScope (top 28)) f cdv A outer s H Ex) W (defBody (top 28)) (b_16 c) := by
  have hu : (A.deeper (envOfC "brought_in" (defScope (top 28)) s.heap.objs.size f cdv)).units + 64 < cLine := hr.units
  have nd : (["screens", "box", "found", "_name", "own", "left", "top"] : List Str).Nodup := sc_16.nd
  have hp : PassesOwn (model P w) (A.deeper (envOfC "brought_in" (defScope (top 28)) s.heap.objs.size f cdv)) (envOfC "brought_in" (defScope (top 28)) s.heap.objs.size f cdv) (cxOf (L2.CX P w) P w K mg base ["screens", "box", "found", "_name", "own", "left", "top"] "brought_in" (defScope (top 28)) f cdv A outer s H Ex).xe := passes_of (X := (cxOf (L2.CX P w) P w K mg base ["screens", "box", "found", "_name", "own", "left", "top"] "brought_in" (defScope (top 28)) f cdv A outer s H Ex)) rfl
  exact (vss_cons (vs_expr (P := pS _) (ve_call E.f__check hr tk rfl (va_cons kS (ve_var 0 (pv 0)) (va_cons kS (ve_var 1 (pv 1)) va_nil)))) (vss_cons (vs_setO nd rfl (.inl rfl) (vp_lst pF_new va_nil)) (vss_cons (vs_for hp rfl (vi_any (ve_var 0 (pv 0))) (vg_tup rfl (vgs_cons (vg_name nd rfl (by first | exact .inl rfl | exact .inr rfl)) (vgs_cons (vg_name nd rfl (by first | exact .inl rfl | exact .inr rfl)) vgs_nil))) (vss_one (vs_if (vt_w (vw_and (vt_cmp (c_le hu) (VE.b (ve_ix (hu1 hu) (VE.b (ve_var 1 (pv 1))) ve_int (fun _ _ => rfl))) (VE.b (ve_ix (hu1 hu) (VE.b (ve_var 4 (pv 4))) ve_int (fun _ _ => rfl))) rfl) (vw_and1 (vt_cmp (c_le hu) (VE.b (ve_ix (hu1 hu) (VE.b (ve_var 1 (pv 1))) ve_int (fun _ _ => rfl))) (VE.b (ve_ix (hu1 hu) (VE.b (ve_var 4 (pv 4))) ve_int (fun _ _ => rfl))) rfl)))) (vss_cons (vs_par2 rfl nd rfl rfl (by decide) rfl rfl (vm_sh (ve_call E.f__held hr tk rfl (va_cons kS (ve_ix (hu1 hu) (VE.b (ve_var 1 (pv 1))) ve_int (fun _ _ => rfl)) (va_cons kS (ve_ix (hu1 hu) (VE.b (ve_var 1 (pv 1))) ve_int (fun _ _ => rfl)) (va_cons kS (ve_ix (hu1 hu) (VE.b (ve_var 4 (pv 4))) ve_int (fun _ _ => rfl)) (va_cons kS (ve_ix (hu1 hu) (VE.b (ve_var 4 (pv 4))) ve_int (fun _ _ => rfl)) va_nil))))) (vm_sh (ve_call E.f__held hr tk rfl (va_cons kS (ve_ix (hu1 hu) (VE.b (ve_var 1 (pv 1))) ve_int (fun _ _ => rfl)) (va_cons kS (ve_ix (hu1 hu) (VE.b (ve_var 1 (pv 1))) ve_int (fun _ _ => rfl)) (va_cons kS (ve_ix (hu1 hu) (VE.b (ve_var 4 (pv 4))) ve_int (fun _ _ => rfl)) (va_cons kS (ve_ix (hu1 hu) (VE.b (ve_var 4 (pv 4))) ve_int (fun _ _ => rfl)) va_nil))))) vm_nil)) rfl) (vss_one (vs_append (pv 2) (ve_tup (va_cons kS (ve_add (ve_abs  rfl fx.b_abs (va_cons kB (VE.b (ve_sub (VE.b (ve_var 5 (pv 5))) (VE.b (ve_ix (hu1 hu) (VE.b (ve_var 1 (pv 1))) ve_int (fun _ _ => rfl))))) va_nil)) (ve_abs  rfl fx.b_abs (va_cons kB (VE.b (ve_sub (VE.b (ve_var 6 (pv 6))) (VE.b (ve_ix (hu1 hu) (VE.b (ve_var 1 (pv 1))) ve_int (fun _ _ => rfl))))) va_nil))) (va_cons kS (ve_add (ve_tup (va_cons kS (ve_var 5 (pv 5)) (va_cons kS (ve_var 6 (pv 6)) va_nil))) (ve_sl (ve_var 1 (pv 1)) (vpt_some ve_int) vpt_no)) va_nil)))))) vss_nil))) (vss_one (vs_ret (vp_if pS_mon (vt_cmp (c_gt hu) (VE.b (ve_len  rfl fx.b_len (va_cons kB (vb_var 2 (pv 2)) va_nil))) (VE.b ve_int) rfl) (ve_ix (hu1 hu) (VE.b (ve_minL rfl hu rfl fx.b_min (va_cons kB (vb_var 2 (pv 2)) va_nil))) ve_int (fun _ _ => rfl)) ve_non))))))
theorem sc_17 : FnScope ["script", "many", "draws", "seed", "cell", "number", "k"] ["script", "many"] (defScope (top 30)) := ⟨rfl, rfl, rfl, by decide +kernel, rfl, by decide +kernel, by decide +kernel⟩
theorem w_17 (fx : Fx K mg) (E : En P w K mg base k c) (f : Addr) (cdv : Value) (A : Around) (outer : List Env) (s : Shared) (H : Hp) (Ex : XK) (W : XW) (hr : Room k (A.deeper (envOfC "_law_draws" (defScope (top 30)) s.heap.objs.size f cdv)))
    (tk : XOk (cxOf (L2.CX P w) P w K mg base ["script", "many", "draws", "seed", "cell", "number", "k"] "_law_draws" (defScope (top 30)) f cdv A outer s H Ex) W) : VSs (cxOf (L2.CX P w) P w K mg base ["script", "many", "draws", "seed", "cell", "number", "k"] "_law_draws" (defScope (top 30)) f cdv A outer s H Ex) W (defBody (top 30)) (b_17 c) := by
  have hu : (A.deeper (envOfC "_law_draws" (defScope (top 30)) s.heap.objs.size f cdv)).units + 64 < cLine := hr.units
  have nd : (["script", "many", "draws", "seed", "cell", "number", "k"] : List Str).Nodup := sc_17.nd
  have hp : PassesOwn (model P w) (A.deeper (envOfC "_law_draws" (defScope (top 30)) s.heap.objs.size f cdv)) (envOfC "_law_draws" (defScope (top 30)) s.heap.objs.size f cdv) (cxOf (L2.CX P w) P w K mg base ["script", "many", "draws", "seed", "cell", "number", "k"] "_law_draws" (defScope (top 30)) f cdv A outer s H Ex).xe := passes_of (X := (cxOf (L2.CX P w) P w K mg base ["script", "many", "draws", "seed", "cell", "number", "k"] "_law_draws" (defScope (top 30)) f cdv A outer s H Ex)) rfl
  exact (vss_cons (vs_setO nd rfl (.inl rfl) (vp_lst pF_new va_nil)) (vss_cons (vs_set nd rfl (.inl rfl) ve_int) (vss_cons (vs_for hp rfl (vi_any (vp_scrSl pS_new (pv 0))) (vg_name nd rfl (by first | exact .inl rfl | exact .inr rfl)) (vss_cons (vs_set nd rfl (.inl rfl) (ve_abs  rfl fx.b_abs (va_cons kB (VE.b (ve_var 4 (pv 4))) va_nil))) (vss_cons (vs_set nd rfl (.inl rfl) (ve_mod (VE.b (ve_intC  rfl fx.b_int (va_cons kB (VE.b (ve_add (ve_add (ve_mul (VE.b (ve_var 3 (pv 3))) (VE.b ve_int)) (ve_var 5 (pv 5))) ve_int)) va_nil))) (VE.b ve_int))) (vss_one (vs_if (vt_cmp (c_ge hu) (VE.b (ve_var 5 (pv 5))) (VE.b (ve_pow (VE.b ve_int) (VE.b ve_int))) rfl) (vss_one (vs_for hp rfl (vi_rng1 rfl fx.b_range (va_cons kS ve_int va_nil)) (vg_name nd rfl (by first | exact .inl rfl | exact .inr rfl)) (vss_one (vs_if (vt_cmp (c_gt hu) (VE.b (ve_var 5 (pv 5))) (VE.b ve_int) rfl) (vss_cons (vs_append (pv 2) (ve_mod (VE.b (ve_intC  rfl fx.b_int (va_cons kB (VE.b (ve_var 5 (pv 5))) va_nil))) (VE.b ve_int))) (vss_one (vs_set nd rfl (.inl rfl) (ve_fdiv (VE.b (ve_var 5 (pv 5))) (VE.b ve_int))))) vss_nil)))) (vss_one (vs_append (pv 2) (ve_mod (VE.b (ve_fdiv (VE.b (ve_intC  rfl fx.b_int (va_cons kB (VE.b (ve_add (ve_mul (VE.b (ve_var 3 (pv 3))) (VE.b ve_int)) ve_int)) va_nil))) (VE.b ve_int))) (VE.b ve_int))))))))) (vss_cons (vs_for hp rfl (vi_rng1 rfl fx.b_range (va_cons kS (ve_var 1 (pv 1)) va_nil)) (vg_name nd rfl (by first | exact .inl rfl | exact .inr rfl)) (vss_one (vs_if (vt_cmp (c_lt hu) (VE.b (ve_len  rfl fx.b_len (va_cons kB (vb_var 2 (pv 2)) va_nil))) (VE.b (ve_var 1 (pv 1))) rfl) (vss_cons (vs_set nd rfl (.inl rfl) (ve_mod (VE.b (ve_intC  rfl fx.b_int (va_cons kB (VE.b (ve_add (ve_add (ve_mul (VE.b (ve_var 3 (pv 3))) (VE.b ve_int)) (ve_var 6 (pv 6))) ve_int)) va_nil))) (VE.b ve_int))) (vss_one (vs_append (pv 2) (ve_mod (VE.b (ve_fdiv (VE.b (ve_intC  rfl fx.b_int (va_cons kB (VE.b (ve_var 3 (pv 3))) va_nil))) (VE.b ve_int))) (VE.b ve_int))))) vss_nil))) (vss_one (vs_ret (vp_slL pS_new (vb_var 2 (pv 2)) vpt_no (vpt_some (ve_var 1 (pv 1))))))))))
theorem sc_18 : FnScope ["draws", "at", "most", "found", "taken", "k", "draw", "width", "height", "left", "top", "box", "cells", "column", "row", "cell"] ["draws", "at", "most"] (defScope (top 31)) := ⟨rfl, rfl, rfl, by decide +kernel, rfl, by decide +kernel, by decide +kernel⟩
theorem w_18 (fx : Fx K mg) (E : En P w K mg base k c) (f : Addr) (cdv : Value) (A : Around) (outer : List Env) (s : Shared) (H : Hp) (Ex : XK) (W : XW) (hr : Room k (A.deeper (envOfC "_law_screens" (defScope (top 31)) s.heap.objs.size f cdv)))
    (tk : XOk (cxOf (L2.CX P w) P w K mg base ["draws", "at", "most", "found", "taken", "k", "draw", "width", "height", "left", "top", "box", "cells", "column", "row", "cell"] "_law_screens" (defScope (top 31)) f cdv A outer s H Ex) W) : VSs (cxOf (L2.CX P w) P w K mg base ["draws", "at", "most", "found", "taken", "k", "draw", "width", "height", "left", "top", "box", "cells", "column", "row", "cell"] "_law_screens" (defScope (top 31)) f cdv A outer s H Ex) W (defBody (top 31)) (b_18 c) := by
  have hu : (A.deeper (envOfC "_law_screens" (defScope (top 31)) s.heap.objs.size f cdv)).units + 64 < cLine := hr.units
  have nd : (["draws", "at", "most", "found", "taken", "k", "draw", "width", "height", "left", "top", "box", "cells", "column", "row", "cell"] : List Str).Nodup := sc_18.nd
  have hp : PassesOwn (model P w) (A.deeper (envOfC "_law_screens" (defScope (top 31)) s.heap.objs.size f cdv)) (envOfC "_law_screens" (defScope (top 31)) s.heap.objs.size f cdv) (cxOf (L2.CX P w) P w K mg base ["draws", "at", "most", "found", "taken", "k", "draw", "width", "height", "left", "top", "box", "cells", "column", "row", "cell"] "_law_screens" (defScope (top 31)) f cdv A outer s H Ex).xe := passes_of (X := (cxOf (L2.CX P w) P w K mg base ["draws", "at", "most", "found", "taken", "k", "draw", "width", "height", "left", "top", "box", "cells", "column", "row", "cell"] "_law_screens" (defScope (top 31)) f cdv A outer s H Ex)) rfl
  exact (vss_cons (vs_parG (n := 2) rfl (vm_sh (ve_tup va_nil) (vm_sh (vp_lst pS_new va_nil) vm_nil)) (pgs_name nd rfl (.inl rfl) (pgs_name nd rfl (.inr rfl) pgs_nil)) rfl rfl rfl (by decide)) (vss_cons (vs_for hp rfl (vi_rng1 rfl fx.b_range (va_cons kS (ve_add ve_int (ve_mod (VE.b (ve_intC  rfl fx.b_int (va_cons kB (VE.b (ve_ix (hu1 hu) (VE.b (ve_var 0 (pv 0))) (ve_var 1 (pv 1)) (fun _ _ => rfl))) va_nil))) (VE.b (ve_var 2 (pv 2))))) va_nil)) (vg_name nd rfl (by first | exact .inl rfl | exact .inr rfl)) (vss_cons (vs_set nd rfl (.inl rfl) (ve_mod (VE.b (ve_intC  rfl fx.b_int (va_cons kB (VE.b (ve_ix (hu1 hu) (VE.b (ve_var 0 (pv 0))) (ve_add (ve_add (ve_var 1 (pv 1)) ve_int) (ve_var 5 (pv 5))) (fun _ _ => rfl))) va_nil))) (VE.b ve_int))) (vss_cons (vs_par2 rfl nd rfl rfl (by decide) rfl rfl (vm_sh (ve_add ve_int (ve_mod (VE.b (ve_var 6 (pv 6))) (VE.b ve_int))) (vm_sh (ve_add ve_int (ve_mod (VE.b (ve_fdiv (VE.b (ve_var 6 (pv 6))) (VE.b ve_int))) (VE.b ve_int))) vm_nil)) rfl) (vss_cons (vs_par2 rfl nd rfl rfl (by decide) rfl rfl (vm_sh (ve_mod (VE.b (ve_fdiv (VE.b (ve_var 6 (pv 6))) (VE.b ve_int))) (VE.b ve_int)) (vm_sh (ve_mod (VE.b (ve_fdiv (VE.b (ve_var 6 (pv 6))) (VE.b ve_int))) (VE.b ve_int)) vm_nil)) rfl) (vss_cons (vs_if (vt_w (vw_and (vt_cmp (c_gt hu) (VE.b (ve_len  rfl fx.b_len (va_cons kB (VE.b (ve_var 3 (pv 3))) va_nil))) (VE.b ve_int) rfl) (vw_and1 (vt_cmp (c_gt hu) (VE.b (ve_mod (VE.b (ve_fdiv (VE.b (ve_var 6 (pv 6))) (VE.b ve_int))) (VE.b ve_int))) (VE.b ve_int) rfl)))) (vss_cons (vs_set nd rfl (.inl rfl) (ve_ix (hu1 hu) (VE.b (ve_ix (hu1 hu) (VE.b (ve_var 3 (pv 3))) (ve_mod (VE.b (ve_fdiv (VE.b (ve_var 6 (pv 6))) (VE.b ve_int))) (VE.b (ve_len  rfl fx.b_len (va_cons kB (VE.b (ve_var 3 (pv 3))) va_nil)))) (fun _ _ => rfl))) ve_int (fun _ _ => rfl))) (vss_one (vs_asg (ve_ix (hu1 hu) (vp_lst pB_new (va_cons kS (ve_tup (va_cons kS (ve_add (ve_ix (hu1 hu) (VE.b (ve_var 11 (pv 11))) ve_int (fun _ _ => rfl)) (ve_ix (hu1 hu) (VE.b (ve_var 11 (pv 11))) ve_int (fun _ _ => rfl))) (va_cons kS (ve_add (ve_ix (hu1 hu) (VE.b (ve_var 11 (pv 11))) ve_int (fun _ _ => rfl)) (ve_mod (VE.b (ve_var 6 (pv 6))) (VE.b ve_int))) va_nil))) (va_cons kS (ve_tup (va_cons kS (ve_ix (hu1 hu) (VE.b (ve_var 11 (pv 11))) ve_int (fun _ _ => rfl)) (va_cons kS (ve_add (ve_ix (hu1 hu) (VE.b (ve_var 11 (pv 11))) ve_int (fun _ _ => rfl)) (ve_ix (hu1 hu) (VE.b (ve_var 11 (pv 11))) ve_int (fun _ _ => rfl))) va_nil))) (va_cons kS (ve_tup (va_cons kS (ve_add (ve_ix (hu1 hu) (VE.b (ve_var 11 (pv 11))) ve_int (fun _ _ => rfl)) (ve_ix (hu1 hu) (VE.b (ve_var 11 (pv 11))) ve_int (fun _ _ => rfl))) (va_cons kS (ve_ix (hu1 hu) (VE.b (ve_var 11 (pv 11))) ve_int (fun _ _ => rfl)) va_nil))) (va_cons kS (ve_tup (va_cons kS (ve_add (ve_ix (hu1 hu) (VE.b (ve_var 11 (pv 11))) ve_int (fun _ _ => rfl)) ve_int) (va_cons kS (ve_add (ve_ix (hu1 hu) (VE.b (ve_var 11 (pv 11))) ve_int (fun _ _ => rfl)) (ve_ix (hu1 hu) (VE.b (ve_var 11 (pv 11))) ve_int (fun _ _ => rfl))) va_nil))) va_nil))))) (ve_mod (VE.b (ve_fdiv (VE.b (ve_var 6 (pv 6))) (VE.b ve_int))) (VE.b ve_int)) (fun _ _ => rfl)) (vg_tup rfl (vgs_cons (vg_name nd rfl (by first | exact .inl rfl | exact .inr rfl)) (vgs_cons (vg_name nd rfl (by first | exact .inl rfl | exact .inr rfl)) vgs_nil)))))) vss_nil) (vss_cons (vs_set nd rfl (.inl rfl) (vp_lst pS_new va_nil)) (vss_cons (vs_for hp rfl (vi_rng2 rfl fx.b_range (va_cons kS (ve_var 9 (pv 9)) (va_cons kS (ve_add (ve_var 9 (pv 9)) (ve_var 7 (pv 7))) va_nil))) (vg_name nd rfl (by first | exact .inl rfl | exact .inr rfl)) (vss_one (vs_set nd rfl (.inl rfl) (ve_add (ve_var 12 (pv 12)) (vp_lc (own := [("row", 14)]) pS_own rfl nd (vi_rng2 rfl fx.b_range (va_cons kS (ve_var 10 (pv 10)) (va_cons kS (ve_add (ve_var 10 (pv 10)) (ve_var 8 (pv 8))) va_nil))) (blkOk_by (by kernel_rfl)) (fun _ _ _ _ _ => (vg_name nd rfl (by first | exact .inl rfl | exact .inr rfl))) (fun _ _ _ _ _ => vts_nil) (fun _ _ _ _ _ => (ve_tup (va_cons kS (ve_var 13 (pv 13)) (va_cons kS (ve_var 14 (pv 14)) va_nil)))) (by decide)))))) (vss_one (vs_if (vt_not (vt_val (ve_any rfl rfl fx.b_any (va_cons kB (vp_lc (own := [("cell", 15)]) pB_own rfl nd (vi_any (ve_var 12 (pv 12))) (blkOk_by (by kernel_rfl)) (fun _ _ _ _ _ => (vg_name nd rfl (by first | exact .inl rfl | exact .inr rfl))) (fun _ _ _ _ _ => vts_nil) (fun _ _ _ _ _ => (ve_in hu (ve_var 15 (pv 15)) (VE.b (ve_var 4 (pv 4))) rfl)) (by decide)) va_nil)) (by intro _; rfl))) (vss_one (vs_parG (n := 2) rfl (vm_sh (ve_add (ve_var 3 (pv 3)) (ve_tup (va_cons kS (ve_tup (va_cons kS (ve_ix (hu1 hu) (VE.b ve_str) (ve_var 5 (pv 5)) (fun _ _ => rfl)) (va_cons kS (ve_tup (va_cons kS (ve_var 9 (pv 9)) (va_cons kS (ve_var 10 (pv 10)) (va_cons kS (ve_var 7 (pv 7)) (va_cons kS (ve_var 8 (pv 8)) va_nil))))) va_nil))) va_nil))) (vm_sh (ve_add (ve_var 4 (pv 4)) (ve_var 12 (pv 12))) vm_nil)) (pgs_name nd rfl (.inl rfl) (pgs_name nd rfl (.inr rfl) pgs_nil)) rfl rfl rfl (by decide))) vss_nil))))))))) (vss_one (vs_ret (ve_var 3 (pv 3))))))
theorem sc_19 : FnScope ["screens", "found", "name", "box", "left", "top"] ["screens"] (defScope (top 32)) := ⟨rfl, rfl, rfl, by decide +kernel, rfl, by decide +kernel, by decide +kernel⟩
theorem w_19 (fx : Fx K mg) (E : En P w K mg base k c) (f : Addr) (cdv : Value) (A : Around) (outer : List Env) (s : Shared) (H : Hp) (Ex : XK) (W : XW) (hr : Room k (A.deeper (envOfC "_law_cells" (defScope (top 32)) s.heap.objs.size f cdv)))
    (tk : XOk (cxOf (L2.CX P w) P w K mg base ["screens", "found", "name", "box", "left", "top"] "_law_cells" (defScope (top 32)) f cdv A outer s H Ex) W) : VSs (cxOf (L2.CX P w) P w K mg base ["screens", "found", "name", "box", "left", "top"] "_law_cells" (defScope (top 32)) f cdv A outer s H Ex) W (defBody (top 32)) (b_19 c) := by
  have hu : (A.deeper (envOfC "_law_cells" (defScope (top 32)) s.heap.objs.size f cdv)).units + 64 < cLine := hr.units
  have nd : (["screens", "found", "name", "box", "left", "top"] : List Str).Nodup := sc_19.nd
  have hp : PassesOwn (model P w) (A.deeper (envOfC "_law_cells" (defScope (top 32)) s.heap.objs.size f cdv)) (envOfC "_law_cells" (defScope (top 32)) s.heap.objs.size f cdv) (cxOf (L2.CX P w) P w K mg base ["screens", "found", "name", "box", "left", "top"] "_law_cells" (defScope (top 32)) f cdv A outer s H Ex).xe := passes_of (X := (cxOf (L2.CX P w) P w K mg base ["screens", "found", "name", "box", "left", "top"] "_law_cells" (defScope (top 32)) f cdv A outer s H Ex)) rfl
  exact (vss_cons (vs_setO nd rfl (.inl rfl) (vp_dict pF_new)) (vss_cons (vs_for hp rfl (vi_any (ve_var 0 (pv 0))) (vg_tup rfl (vgs_cons (vg_name nd rfl (by first | exact .inl rfl | exact .inr rfl)) (vgs_cons (vg_name nd rfl (by first | exact .inl rfl | exact .inr rfl)) vgs_nil))) (vss_one (vs_for hp rfl (vi_rng2 rfl fx.b_range (va_cons kS (ve_ix (hu1 hu) (VE.b (ve_var 3 (pv 3))) ve_int (fun _ _ => rfl)) (va_cons kS (ve_add (ve_ix (hu1 hu) (VE.b (ve_var 3 (pv 3))) ve_int (fun _ _ => rfl)) (ve_ix (hu1 hu) (VE.b (ve_var 3 (pv 3))) ve_int (fun _ _ => rfl))) va_nil))) (vg_name nd rfl (by first | exact .inl rfl | exact .inr rfl)) (vss_one (vs_for hp rfl (vi_rng2 rfl fx.b_range (va_cons kS (ve_ix (hu1 hu) (VE.b (ve_var 3 (pv 3))) ve_int (fun _ _ => rfl)) (va_cons kS (ve_add (ve_ix (hu1 hu) (VE.b (ve_var 3 (pv 3))) ve_int (fun _ _ => rfl)) (ve_ix (hu1 hu) (VE.b (ve_var 3 (pv 3))) ve_int (fun _ _ => rfl))) va_nil))) (vg_name nd rfl (by first | exact .inl rfl | exact .inr rfl)) (vss_one (vs_sto (hu1 hu) (pv 1) (ve_tup (va_cons kS (ve_var 4 (pv 4)) (va_cons kS (ve_var 5 (pv 5)) va_nil))) (ve_var 2 (pv 2))))))))) (vss_one (vs_frz 1 (vs_ret (ve_var 1 (pv 1)))))))
theorem sc_20 : FnScope ["call", "screens", "box"] ["call", "screens", "box"] (defScope (top 33)) := ⟨rfl, rfl, rfl, by decide +kernel, rfl, by decide +kernel, by decide +kernel⟩
theorem w_20 (fx : Fx K mg) (E : En P w K mg base k c) (f : Addr) (cdv : Value) (A : Around) (outer : List Env) (s : Shared) (H : Hp) (Ex : XK) (W : XW) (hr : Room k (A.deeper (envOfC "_law_word" (defScope (top 33)) s.heap.objs.size f cdv)))
    (tk : XOk (cxOf (L2.CX P w) P w K mg base ["call", "screens", "box"] "_law_word" (defScope (top 33)) f cdv A outer s H Ex) W) : VSs (cxOf (L2.CX P w) P w K mg base ["call", "screens", "box"] "_law_word" (defScope (top 33)) f cdv A outer s H Ex) W (defBody (top 33)) (b_20 c) := by
  have hu : (A.deeper (envOfC "_law_word" (defScope (top 33)) s.heap.objs.size f cdv)).units + 64 < cLine := hr.units
  have nd : (["call", "screens", "box"] : List Str).Nodup := sc_20.nd
  have hp : PassesOwn (model P w) (A.deeper (envOfC "_law_word" (defScope (top 33)) s.heap.objs.size f cdv)) (envOfC "_law_word" (defScope (top 33)) s.heap.objs.size f cdv) (cxOf (L2.CX P w) P w K mg base ["call", "screens", "box"] "_law_word" (defScope (top 33)) f cdv A outer s H Ex).xe := passes_of (X := (cxOf (L2.CX P w) P w K mg base ["call", "screens", "box"] "_law_word" (defScope (top 33)) f cdv A outer s H Ex)) rfl
  exact (vss_cons (vs_try rfl rfl tk (fun pn xe W' tk' hp' => (vss_one (vs_if (vt_cmp (c_eq hu) (VE.b (ve_var 0 (pv 0))) (VE.b ve_int) rfl) (vss_one (vs_expr (P := pS _) (ve_call E.f_shares_of hr tk' rfl (va_cons kS (ve_var 1 (pv 1)) (va_cons kS (ve_var 2 (pv 2)) va_nil))))) (vss_one (vs_if (vt_cmp (c_eq hu) (VE.b (ve_var 0 (pv 0))) (VE.b ve_int) rfl) (vss_one (vs_expr (P := pS _) (ve_call E.f_spans hr tk' rfl (va_cons kS (ve_var 1 (pv 1)) (va_cons kS (ve_var 2 (pv 2)) va_nil))))) (vss_one (vs_if (vt_cmp (c_eq hu) (VE.b (ve_var 0 (pv 0))) (VE.b ve_int) rfl) (vss_one (vs_expr (P := pS _) (ve_call E.f_home_of hr tk' rfl (va_cons kS (ve_var 1 (pv 1)) (va_cons kS (ve_var 2 (pv 2)) va_nil))))) (vss_one (vs_if (vt_cmp (c_eq hu) (VE.b (ve_var 0 (pv 0))) (VE.b ve_int) rfl) (vss_one (vs_expr (P := pS _) (ve_call E.f_lost_cells hr tk' rfl (va_cons kS (ve_var 1 (pv 1)) (va_cons kS (ve_var 2 (pv 2)) va_nil))))) (vss_one (vs_expr (P := pS _) (ve_call E.f_brought_in hr tk' rfl (va_cons kS (ve_var 1 (pv 1)) (va_cons kS (ve_var 2 (pv 2)) va_nil)))))))))))))) (.cons ⟨rfl, by decide, .inl fx.g_BadBox⟩ (htOk_cons fx.g_BadBox fx.m_BadBox_BadBox (htOk_cons fx.g_BadScreens fx.m_BadScreens_BadBox htOk_nil)) (fun _ => rfl) (fun a pn => vss_one (vs_ret ve_str)) .nil)) (vss_one (vs_ret ve_str)))
theorem sc_21 : FnScope ["script", "draws", "turn", "screens", "cells", "n", "draw", "box", "counts", "lost", "left", "top", "name", "rows", "most", "good", "own", "told", "wrong", "two", "call", "row"] ["script"] (defScope (top 34)) := ⟨rfl, rfl, rfl, by decide +kernel, rfl, by decide +kernel, by decide +kernel⟩
theorem w_21 (fx : Fx K mg) (E : En P w K mg base k c) (f : Addr) (cdv : Value) (A : Around) (outer : List Env) (s : Shared) (H : Hp) (Ex : XK) (W : XW) (hr : Room k (A.deeper (envOfC "law" (defScope (top 34)) s.heap.objs.size f cdv)))
    (tk : XOk (cxOf (L2.CX P w) P w K mg base ["script", "draws", "turn", "screens", "cells", "n", "draw", "box", "counts", "lost", "left", "top", "name", "rows", "most", "good", "own", "told", "wrong", "two", "call", "row"] "law" (defScope (top 34)) f cdv A outer s H Ex) W) : VSs (cxOf (L2.CX P w) P w K mg base ["script", "draws", "turn", "screens", "cells", "n", "draw", "box", "counts", "lost", "left", "top", "name", "rows", "most", "good", "own", "told", "wrong", "two", "call", "row"] "law" (defScope (top 34)) f cdv A outer s H Ex) W (defBody (top 34)) (b_21 c) := by
  have hu : (A.deeper (envOfC "law" (defScope (top 34)) s.heap.objs.size f cdv)).units + 64 < cLine := hr.units
  have nd : (["script", "draws", "turn", "screens", "cells", "n", "draw", "box", "counts", "lost", "left", "top", "name", "rows", "most", "good", "own", "told", "wrong", "two", "call", "row"] : List Str).Nodup := sc_21.nd
  have hp : PassesOwn (model P w) (A.deeper (envOfC "law" (defScope (top 34)) s.heap.objs.size f cdv)) (envOfC "law" (defScope (top 34)) s.heap.objs.size f cdv) (cxOf (L2.CX P w) P w K mg base ["script", "draws", "turn", "screens", "cells", "n", "draw", "box", "counts", "lost", "left", "top", "name", "rows", "most", "good", "own", "told", "wrong", "two", "call", "row"] "law" (defScope (top 34)) f cdv A outer s H Ex).xe := passes_of (X := (cxOf (L2.CX P w) P w K mg base ["script", "draws", "turn", "screens", "cells", "n", "draw", "box", "counts", "lost", "left", "top", "name", "rows", "most", "good", "own", "told", "wrong", "two", "call", "row"] "law" (defScope (top 34)) f cdv A outer s H Ex)) rfl
  exact (vss_cons (vs_set nd rfl (.inl rfl) (ve_callScr E.f__law_draws hr tk rfl (pv 0) ve_int)) (vss_cons (vs_for hp rfl (vi_rng1 rfl fx.b_range (va_cons kS ve_int va_nil)) (vg_name nd rfl (by first | exact .inl rfl | exact .inr rfl)) (vss_cons (vs_set nd rfl (.inr rfl) (ve_call E.f__law_screens hr tk rfl (va_cons kS (ve_add (ve_sl (ve_var 1 (pv 1)) (vpt_some (ve_mul (VE.b ve_int) (VE.b (ve_var 2 (pv 2))))) vpt_no) (ve_sl (ve_var 1 (pv 1)) vpt_no (vpt_some (ve_mul (VE.b ve_int) (VE.b (ve_var 2 (pv 2))))))) (va_cons kS ve_int (va_cons kS ve_int va_nil))))) (vss_cons (vs_set nd rfl (.inl rfl) (ve_call E.f__law_cells hr tk rfl (va_cons kS (ve_var 3 (pv 3)) va_nil))) (vss_cons (vs_for hp rfl (vi_rng1 rfl fx.b_range (va_cons kS ve_int va_nil)) (vg_name nd rfl (by first | exact .inl rfl | exact .inr rfl)) (vss_cons (vs_set nd rfl (.inl rfl) (ve_fdiv (VE.b (ve_intC  rfl fx.b_int (va_cons kB (VE.b (ve_ix (hu1 hu) (VE.b (ve_var 1 (pv 1))) (ve_add ve_int (ve_var 5 (pv 5))) (fun _ _ => rfl))) va_nil))) (VE.b (ve_add (ve_var 2 (pv 2)) ve_int)))) (vss_cons (vs_set nd rfl (.inr rfl) (ve_tup (va_cons kS (ve_mod (VE.b (ve_var 6 (pv 6))) (VE.b ve_int)) (va_cons kS (ve_mod (VE.b (ve_fdiv (VE.b (ve_var 6 (pv 6))) (VE.b ve_int))) (VE.b ve_int)) (va_cons kS (ve_mod (VE.b (ve_fdiv (VE.b (ve_var 6 (pv 6))) (VE.b ve_int))) (VE.b ve_int)) (va_cons kS (ve_mod (VE.b (ve_fdiv (VE.b (ve_var 6 (pv 6))) (VE.b ve_int))) (VE.b ve_int)) va_nil)))))) (vss_cons (vs_setO nd rfl (.inr rfl) (vp_dict pF_new)) (vss_cons (vs_set nd rfl (.inl rfl) ve_int) (vss_cons (vs_for hp rfl (vi_rng2 rfl fx.b_range (va_cons kS (ve_ix (hu1 hu) (VE.b (ve_var 7 (pv 7))) ve_int (fun _ _ => rfl)) (va_cons kS (ve_add (ve_ix (hu1 hu) (VE.b (ve_var 7 (pv 7))) ve_int (fun _ _ => rfl)) (ve_ix (hu1 hu) (VE.b (ve_var 7 (pv 7))) ve_int (fun _ _ => rfl))) va_nil))) (vg_name nd rfl (by first | exact .inl rfl | exact .inr rfl)) (vss_one (vs_for hp rfl (vi_rng2 rfl fx.b_range (va_cons kS (ve_ix (hu1 hu) (VE.b (ve_var 7 (pv 7))) ve_int (fun _ _ => rfl)) (va_cons kS (ve_add (ve_ix (hu1 hu) (VE.b (ve_var 7 (pv 7))) ve_int (fun _ _ => rfl)) (ve_ix (hu1 hu) (VE.b (ve_var 7 (pv 7))) ve_int (fun _ _ => rfl))) va_nil))) (vg_name nd rfl (by first | exact .inl rfl | exact .inr rfl)) (vss_cons (vs_set nd rfl (.inl rfl) (ve_get2 (hu1 hu) (VE.b (ve_var 4 (pv 4))) (ve_tup (va_cons kS (ve_var 10 (pv 10)) (va_cons kS (ve_var 11 (pv 11)) va_nil))) ve_str ⟨rfl, rfl, rfl, rfl⟩)) (vss_cons (vs_sto (hu1 hu) (pv 8) (ve_var 12 (pv 12)) (ve_add (ve_get2 (hu1 hu) (vb_var 8 (pv 8)) (ve_var 12 (pv 12)) ve_int ⟨rfl, rfl, rfl, rfl⟩) ve_int)) (vss_one (vs_set nd rfl (.inl rfl) (ve_add (ve_var 9 (pv 9)) (ve_intC  rfl fx.b_int (va_cons kB (VE.b (ve_cmp (c_eq hu) (VE.b (ve_var 12 (pv 12))) (VE.b ve_str) rfl)) va_nil)))))))))) (vss_cons (vs_setLc (own := [("name", 12)]) rfl nd rfl rfl (by kernel_rfl) (vi_any (vp_sortedA pS_new rfl hu rfl fx.b_sorted (va_cons kB (vb_var 8 (pv 8)) va_nil))) (blkOk_by (by kernel_rfl)) (fun _ _ _ _ _ => (vg_name nd rfl (by first | exact .inl rfl | exact .inr rfl))) (fun _ _ _ _ _ => (vts_one (vt_cmp (c_ne hu) (VE.b (ve_var 12 (pv 12))) (VE.b ve_str) rfl))) (fun _ _ _ _ _ => (ve_tup (va_cons kS (ve_var 12 (pv 12)) (va_cons kS (ve_ix (hu1 hu) (vb_var 8 (pv 8)) (ve_var 12 (pv 12)) (fun _ _ => rfl)) va_nil)))) (by decide)) (vss_cons (vs_set nd rfl (.inr rfl) (ve_maxL rfl hu rfl fx.b_max (va_cons kB (VE.b (ve_add (vp_lc (own := [("row", 21)]) pS_own rfl nd (vi_any (ve_var 13 (pv 13))) (blkOk_by (by kernel_rfl)) (fun _ _ _ _ _ => (vg_name nd rfl (by first | exact .inl rfl | exact .inr rfl))) (fun _ _ _ _ _ => vts_nil) (fun _ _ _ _ _ => (ve_ix (hu1 hu) (VE.b (ve_var 21 (pv 21))) ve_int (fun _ _ => rfl))) (by decide)) (vp_lst pS_new (va_cons kS ve_int va_nil)))) va_nil))) (vss_cons (vs_if (vt_w (vw_or (vt_cmp (c_ne hu) (VE.b (ve_call E.f_shares_of hr tk rfl (va_cons kS (ve_var 3 (pv 3)) (va_cons kS (ve_var 7 (pv 7)) va_nil)))) (VE.b (ve_tupA rfl fx.b_tuple (va_cons kS (ve_var 13 (pv 13)) va_nil))) rfl) (vw_or (vt_cmp (c_ne hu) (VE.b (ve_call E.f_lost_cells hr tk rfl (va_cons kS (ve_var 3 (pv 3)) (va_cons kS (ve_var 7 (pv 7)) va_nil)))) (VE.b (ve_var 9 (pv 9))) rfl) (vw_or (vt_cmp (c_ne hu) (VE.b (ve_call E.f_spans hr tk rfl (va_cons kS (ve_var 3 (pv 3)) (va_cons kS (ve_var 7 (pv 7)) va_nil)))) (VE.b (ve_cmp (c_gt hu) (VE.b (ve_len  rfl fx.b_len (va_cons kB (VE.b (ve_var 13 (pv 13))) va_nil))) (VE.b ve_int) rfl)) rfl) (vw_or1 (vt_not (vt_val (ve_isi .tBool (VE.b (ve_call E.f_spans hr tk rfl (va_cons kS (ve_var 3 (pv 3)) (va_cons kS (ve_var 7 (pv 7)) va_nil)))) rfl fx.b_isinstance rfl fx.b_bool (by decide +kernel)) (by intro _; rfl)))))))) (vss_one (vs_ret ve_bl)) vss_nil) (vss_cons (vs_if (vt_cmp (c_ne hu) (VE.b (ve_call E.f_home_of hr tk rfl (va_cons kS (ve_var 3 (pv 3)) (va_cons kS (ve_var 7 (pv 7)) va_nil)))) (vp_if pB_mon (vt_cmp (c_gt hu) (VE.b (ve_len  rfl fx.b_len (va_cons kB (VE.b (ve_var 13 (pv 13))) va_nil))) (VE.b ve_int) rfl) (VE.b (ve_ix (hu1 hu) (vp_lc (own := [("row", 21)]) pB_own rfl nd (vi_any (ve_var 13 (pv 13))) (blkOk_by (by kernel_rfl)) (fun _ _ _ _ _ => (vg_name nd rfl (by first | exact .inl rfl | exact .inr rfl))) (fun _ _ _ _ _ => (vts_one (vt_cmp (c_eq hu) (VE.b (ve_ix (hu1 hu) (VE.b (ve_var 21 (pv 21))) ve_int (fun _ _ => rfl))) (VE.b (ve_var 14 (pv 14))) rfl))) (fun _ _ _ _ _ => (ve_ix (hu1 hu) (VE.b (ve_var 21 (pv 21))) ve_int (fun _ _ => rfl))) (by decide)) ve_int (fun _ _ => rfl))) (VE.b ve_non)) rfl) (vss_one (vs_ret ve_bl)) vss_nil) (vss_cons (vs_set nd rfl (.inl rfl) (vp_lst pS_new va_nil)) (vss_cons (vs_for hp rfl (vi_any (ve_var 3 (pv 3))) (vg_tup rfl (vgs_cons (vg_name nd rfl (by first | exact .inl rfl | exact .inr rfl)) (vgs_cons (vg_name nd rfl (by first | exact .inl rfl | exact .inr rfl)) vgs_nil))) (vss_one (vs_for hp rfl (vi_rng2 rfl fx.b_range (va_cons kS (ve_ix (hu1 hu) (VE.b (ve_var 16 (pv 16))) ve_int (fun _ _ => rfl)) (va_cons kS (ve_add (ve_sub (VE.b (ve_add (ve_ix (hu1 hu) (VE.b (ve_var 16 (pv 16))) ve_int (fun _ _ => rfl)) (ve_ix (hu1 hu) (VE.b (ve_var 16 (pv 16))) ve_int (fun _ _ => rfl)))) (VE.b (ve_ix (hu1 hu) (VE.b (ve_var 7 (pv 7))) ve_int (fun _ _ => rfl)))) ve_int) va_nil))) (vg_name nd rfl (by first | exact .inl rfl | exact .inr rfl)) (vss_one (vs_set nd rfl (.inl rfl) (ve_add (ve_var 15 (pv 15)) (vp_lc (own := [("top", 11)]) pS_own rfl nd (vi_rng2 rfl fx.b_range (va_cons kS (ve_ix (hu1 hu) (VE.b (ve_var 16 (pv 16))) ve_int (fun _ _ => rfl)) (va_cons kS (ve_add (ve_sub (VE.b (ve_add (ve_ix (hu1 hu) (VE.b (ve_var 16 (pv 16))) ve_int (fun _ _ => rfl)) (ve_ix (hu1 hu) (VE.b (ve_var 16 (pv 16))) ve_int (fun _ _ => rfl)))) (VE.b (ve_ix (hu1 hu) (VE.b (ve_var 7 (pv 7))) ve_int (fun _ _ => rfl)))) ve_int) va_nil))) (blkOk_by (by kernel_rfl)) (fun _ _ _ _ _ => (vg_name nd rfl (by first | exact .inl rfl | exact .inr rfl))) (fun _ _ _ _ _ => vts_nil) (fun _ _ _ _ _ => (ve_tup (va_cons kS (ve_add (ve_abs  rfl fx.b_abs (va_cons kB (VE.b (ve_sub (VE.b (ve_var 10 (pv 10))) (VE.b (ve_ix (hu1 hu) (VE.b (ve_var 7 (pv 7))) ve_int (fun _ _ => rfl))))) va_nil)) (ve_abs  rfl fx.b_abs (va_cons kB (VE.b (ve_sub (VE.b (ve_var 11 (pv 11))) (VE.b (ve_ix (hu1 hu) (VE.b (ve_var 7 (pv 7))) ve_int (fun _ _ => rfl))))) va_nil))) (va_cons kS (ve_add (ve_tup (va_cons kS (ve_var 10 (pv 10)) (va_cons kS (ve_var 11 (pv 11)) va_nil))) (ve_sl (ve_var 7 (pv 7)) (vpt_some ve_int) vpt_no)) va_nil)))) (by decide)))))))) (vss_cons (vs_set nd rfl (.inl rfl) (ve_call E.f_brought_in hr tk rfl (va_cons kS (ve_var 3 (pv 3)) (va_cons kS (ve_var 7 (pv 7)) va_nil)))) (vss_one (vs_if (vt_w (vw_or (vt_cmp (c_ne hu) (VE.b (ve_var 17 (pv 17))) (vp_if pB_mon (vt_cmp (c_gt hu) (VE.b (ve_len  rfl fx.b_len (va_cons kB (VE.b (ve_var 15 (pv 15))) va_nil))) (VE.b ve_int) rfl) (VE.b (ve_ix (hu1 hu) (VE.b (ve_minL rfl hu rfl fx.b_min (va_cons kB (VE.b (ve_var 15 (pv 15))) va_nil))) ve_int (fun _ _ => rfl))) (VE.b ve_non)) rfl) (vw_or1 (vt_w (vw_and (vt_notN (VE.b (ve_var 17 (pv 17)))) (vw_and1 (vt_cmp (c_ne hu) (VE.b (ve_call E.f_brought_in hr tk rfl (va_cons kS (ve_var 3 (pv 3)) (va_cons kS (ve_var 17 (pv 17)) va_nil)))) (VE.b (ve_var 17 (pv 17))) rfl))))))) (vss_one (vs_ret ve_bl)) vss_nil))))))))))))))) (vss_one (vs_for hp rfl (vi_any (vp_lst pS_new (va_cons kS ve_non (va_cons kS (ve_tup (va_cons kS ve_int (va_cons kS ve_int (va_cons kS ve_int va_nil)))) (va_cons kS (vp_lst pS_new (va_cons kS ve_int (va_cons kS ve_int (va_cons kS ve_int (va_cons kS ve_int va_nil))))) (va_cons kS (ve_tup (va_cons kS ve_int (va_cons kS ve_int (va_cons kS ve_int (va_cons kS ve_int va_nil))))) (va_cons kS (ve_tup (va_cons kS ve_int (va_cons kS ve_int (va_cons kS (ve_neg (VE.b ve_int)) (va_cons kS ve_int va_nil))))) (va_cons kS (ve_tup (va_cons kS ve_int (va_cons kS ve_int (va_cons kS ve_bl (va_cons kS ve_int va_nil))))) (va_cons kS ve_int va_nil))))))))) (vg_name nd rfl (by first | exact .inl rfl | exact .inr rfl)) (vss_one (vs_if (vt_cmp (c_ne hu) (vp_lc (own := [("call", 20)]) pB_own rfl nd (vi_rng1 rfl fx.b_range (va_cons kS ve_int va_nil)) (blkOk_by (by kernel_rfl)) (fun _ _ _ _ _ => (vg_name nd rfl (by first | exact .inl rfl | exact .inr rfl))) (fun _ _ _ _ _ => vts_nil) (fun _ _ _ _ _ => (ve_call E.f__law_word hr xok0 rfl (va_cons kS (ve_var 20 (pv 20)) (va_cons kS (ve_var 3 (pv 3)) (va_cons kS (ve_var 18 (pv 18)) va_nil))))) (by decide)) (vp_repL pB_new (vp_lst pB_new (va_cons kS ve_str va_nil)) (VE.b ve_int)) rfl) (vss_one (vs_ret ve_bl)) vss_nil)))))))) (vss_cons (vs_set nd rfl (.inl rfl) (ve_tup (va_cons kS (ve_tup (va_cons kS ve_str (va_cons kS (ve_tup (va_cons kS ve_int (va_cons kS ve_int (va_cons kS ve_int (va_cons kS ve_int va_nil))))) va_nil))) (va_cons kS (ve_tup (va_cons kS ve_str (va_cons kS (ve_tup (va_cons kS ve_int (va_cons kS ve_int (va_cons kS ve_int (va_cons kS ve_int va_nil))))) va_nil))) va_nil)))) (vss_cons (vs_if (vt_w (vw_or (vt_cmp (c_ne hu) (VE.b (ve_call E.f_shares_of hr tk rfl (va_cons kS (ve_var 19 (pv 19)) (va_cons kS (ve_tup (va_cons kS ve_int (va_cons kS ve_int (va_cons kS ve_int (va_cons kS ve_int va_nil))))) va_nil)))) (VE.b (ve_tup (va_cons kS (ve_tup (va_cons kS ve_str (va_cons kS ve_int va_nil))) (va_cons kS (ve_tup (va_cons kS ve_str (va_cons kS ve_int va_nil))) va_nil)))) rfl) (vw_or (vt_cmp (c_ne hu) (VE.b (ve_call E.f_home_of hr tk rfl (va_cons kS (ve_var 19 (pv 19)) (va_cons kS (ve_tup (va_cons kS ve_int (va_cons kS ve_int (va_cons kS ve_int (va_cons kS ve_int va_nil))))) va_nil)))) (VE.b ve_str) rfl) (vw_or1 (vt_cmp (c_ne hu) (VE.b (ve_call E.f_lost_cells hr tk rfl (va_cons kS (ve_var 19 (pv 19)) (va_cons kS (ve_tup (va_cons kS ve_int (va_cons kS ve_int (va_cons kS ve_int (va_cons kS ve_int va_nil))))) va_nil)))) (VE.b ve_int) rfl))))) (vss_one (vs_ret ve_bl)) vss_nil) (vss_one (vs_ret (ve_and (ve_cmp (c_eq hu) (VE.b (ve_call E.f_brought_in hr tk rfl (va_cons kS (ve_var 19 (pv 19)) (va_cons kS (ve_tup (va_cons kS ve_int (va_cons kS ve_int (va_cons kS ve_int (va_cons kS ve_int va_nil))))) va_nil)))) (VE.b (ve_tup (va_cons kS ve_int (va_cons kS ve_int (va_cons kS ve_int (va_cons kS ve_int va_nil)))))) rfl) (ve_and (ve_isN (VE.b (ve_call E.f_brought_in hr tk rfl (va_cons kS (ve_var 19 (pv 19)) (va_cons kS (ve_tup (va_cons kS ve_int (va_cons kS ve_int (va_cons kS ve_int (va_cons kS ve_int va_nil))))) va_nil))))) (ve_one (ve_isN (VE.b (ve_call E.f_home_of hr tk rfl (va_cons kS (ve_var 19 (pv 19)) (va_cons kS (ve_tup (va_cons kS ve_int (va_cons kS ve_int (va_cons kS ve_int (va_cons kS ve_int va_nil))))) va_nil))))))))))))))
end
end KL
end
section
open PySem PySem.Spec PyProof.Rows L2 VS
namespace KL
def d__check : He.DefD := ⟨("_check", none), "_check", "_check", defArgs (top 20), defBody (top 20), defScope (top 20), [], []⟩
def d__common : He.DefD := ⟨("_common", none), "_common", "_common", defArgs (top 21), defBody (top 21), defScope (top 21), [], []⟩
def d__held : He.DefD := ⟨("_held", none), "_held", "_held", defArgs (top 27), defBody (top 27), defScope (top 27), [], []⟩
def d__is_screen : He.DefD := ⟨("_is_screen", none), "_is_screen", "_is_screen", defArgs (top 17), defBody (top 17), defScope (top 17), [], []⟩
def d__law_cells : He.DefD := ⟨("_law_cells", none), "_law_cells", "_law_cells", defArgs (top 32), defBody (top 32), defScope (top 32), [], []⟩
def d__law_draws : He.DefD := ⟨("_law_draws", none), "_law_draws", "_law_draws", defArgs (top 30), defBody (top 30), defScope (top 30), [], []⟩
def d__law_screens : He.DefD := ⟨("_law_screens", none), "_law_screens", "_law_screens", defArgs (top 31), defBody (top 31), defScope (top 31), [], []⟩
def d__law_word : He.DefD := ⟨("_law_word", none), "_law_word", "_law_word", defArgs (top 33), defBody (top 33), defScope (top 33), [], []⟩
def d__shares : He.DefD := ⟨("_shares", none), "_shares", "_shares", defArgs (top 22), defBody (top 22), defScope (top 22), [], []⟩
def d_are_screens : He.DefD := ⟨("are_screens", none), "are_screens", "are_screens", defArgs (top 18), defBody (top 18), defScope (top 18), [], []⟩
def d_ascends : He.DefD := ⟨("ascends", none), "ascends", "ascends", defArgs (top 8), defBody (top 8), defScope (top 8), [], []⟩
def d_brought_in : He.DefD := ⟨("brought_in", none), "brought_in", "brought_in", defArgs (top 28), defBody (top 28), defScope (top 28), [], []⟩
def d_check_screens : He.DefD := ⟨("check_screens", none), "check_screens", "check_screens", defArgs (top 19), defBody (top 19), defScope (top 19), [], []⟩
def d_home_of : He.DefD := ⟨("home_of", none), "home_of", "home_of", defArgs (top 25), defBody (top 25), defScope (top 25), [], []⟩
def d_is_box : He.DefD := ⟨("is_box", none), "is_box", "is_box", defArgs (top 12), defBody (top 12), defScope (top 12), [], []⟩
def d_is_name : He.DefD := ⟨("is_name", none), "is_name", "is_name", defArgs (top 9), defBody (top 9), defScope (top 9), [], []⟩
def d_is_whole : He.DefD := ⟨("is_whole", none), "is_whole", "is_whole", defArgs (top 7), defBody (top 7), defScope (top 7), [], []⟩
def d_law : He.DefD := ⟨("law", none), "law", "law", defArgs (top 34), defBody (top 34), defScope (top 34), [], []⟩
def d_lost_cells : He.DefD := ⟨("lost_cells", none), "lost_cells", "lost_cells", defArgs (top 26), defBody (top 26), defScope (top 26), [], []⟩
def d_meet : He.DefD := ⟨("meet", none), "meet", "meet", defArgs (top 14), defBody (top 14), defScope (top 14), [], []⟩
def d_shares_of : He.DefD := ⟨("shares_of", none), "shares_of", "shares_of", defArgs (top 23), defBody (top 23), defScope (top 23), [], []⟩
def d_spans : He.DefD := ⟨("spans", none), "spans", "spans", defArgs (top 24), defBody (top 24), defScope (top 24), [], []⟩
def fn : List He.DefD := [d__check, d__common, d__held, d__is_screen, d__law_cells, d__law_draws, d__law_screens, d__law_word, d__shares, d_are_screens, d_ascends, d_brought_in, d_check_screens, d_home_of, d_is_box, d_is_name, d_is_whole, d_law, d_lost_cells, d_meet, d_shares_of, d_spans]
def fa : List He.Fa := [.free "abs", .free "all", .free "any", .free "bool", .free "enumerate", .free "int", .free "isinstance", .free "len", .free "max", .free "min", .free "range", .free "sorted", .free "str", .free "sum", .free "tuple", .free "zip", .str "LETTERS" "abcdefghijklmnopqrstuvwxyz", .int "MOST_SCREENS" 8, .int "MOST_SIDE" 1000, .int "MOST_SIGNS" 8, .glo "BadBox", .glo "BadScreens", .exc "BadBox", .exc "BadScreens", .exm "BadBox" "BadBox" true, .exm "BadScreens" "BadBox" false, .glo "_check", .glo "_common", .glo "_held", .glo "_is_screen", .glo "_law_cells", .glo "_law_draws", .glo "_law_screens", .glo "_law_word", .glo "_shares", .glo "are_screens", .glo "ascends", .glo "brought_in", .glo "check_screens", .glo "home_of", .glo "is_box", .glo "is_name", .glo "is_whole", .glo "law", .glo "lost_cells", .glo "meet", .glo "shares_of", .glo "spans"]
theorem fx_of {K : PySem.W.Frag} {h : Heap} {mg : Str → Option Value} (X : K.In h) (G : h.Ns mainGlobals mg) (c : He.SaysD fa fn K) : Fx K mg :=
  ⟨He.free_ok X G (c.fact 0 (f := .free "abs") rfl), He.free_ok X G (c.fact 1 (f := .free "all") rfl), He.free_ok X G (c.fact 2 (f := .free "any") rfl), He.free_ok X G (c.fact 3 (f := .free "bool") rfl), He.free_ok X G (c.fact 4 (f := .free "enumerate") rfl), He.free_ok X G (c.fact 5 (f := .free "int") rfl), He.free_ok X G (c.fact 6 (f := .free "isinstance") rfl), He.free_ok X G (c.fact 7 (f := .free "len") rfl), He.free_ok X G (c.fact 8 (f := .free "max") rfl), He.free_ok X G (c.fact 9 (f := .free "min") rfl), He.free_ok X G (c.fact 10 (f := .free "range") rfl), He.free_ok X G (c.fact 11 (f := .free "sorted") rfl), He.free_ok X G (c.fact 12 (f := .free "str") rfl), He.free_ok X G (c.fact 13 (f := .free "sum") rfl), He.free_ok X G (c.fact 14 (f := .free "tuple") rfl), He.free_ok X G (c.fact 15 (f := .free "zip") rfl), He.str_ok X G (c.fact 16 (f := .str "LETTERS" "abcdefghijklmnopqrstuvwxyz") rfl), He.int_ok X G (c.fact 17 (f := .int "MOST_SCREENS" 8) rfl), He.int_ok X G (c.fact 18 (f := .int "MOST_SIDE" 1000) rfl), He.int_ok X G (c.fact 19 (f := .int "MOST_SIGNS" 8) rfl), He.glo_ok X G (c.fact 20 (f := .glo "BadBox") rfl), He.glo_ok X G (c.fact 21 (f := .glo "BadScreens") rfl), excF_of (He.glo_ok X G (c.fact 20 (f := .glo "BadBox") rfl)) (He.exc_ok (c.fact 22 (f := .exc "BadBox") rfl)), excF_of (He.glo_ok X G (c.fact 21 (f := .glo "BadScreens") rfl)) (He.exc_ok (c.fact 23 (f := .exc "BadScreens") rfl)), He.exm_ok (c.fact 24 (f := .exm "BadBox" "BadBox" true) rfl), He.exm_ok (c.fact 25 (f := .exm "BadScreens" "BadBox" false) rfl)⟩
/-- every def at every level -/
structure All (P : Program) (w : World) (K : PySem.W.Frag) (mg : Str → Option Value) (base : Heap) (k : Nat) : Prop where
  a__check : FnE P w K mg base k "_check" 2 (den k 8)
  a__common : FnE P w K mg base k "_common" 2 (den k 9)
  a__held : FnE P w K mg base k "_held" 4 (den k 15)
  a__is_screen : FnE P w K mg base k "_is_screen" 1 (den k 5)
  a__law_cells : FnE P w K mg base k "_law_cells" 1 (den k 19)
  a__law_draws : FnE P w K mg base k "_law_draws" 2 (den k 17)
  a__law_screens : FnE P w K mg base k "_law_screens" 3 (den k 18)
  a__law_word : FnE P w K mg base k "_law_word" 3 (den k 20)
  a__shares : FnE P w K mg base k "_shares" 2 (den k 10)
  a_are_screens : FnE P w K mg base k "are_screens" 1 (den k 6)
  a_ascends : FnE P w K mg base k "ascends" 1 (den k 1)
  a_brought_in : FnE P w K mg base k "brought_in" 2 (den k 16)
  a_check_screens : FnE P w K mg base k "check_screens" 1 (den k 7)
  a_home_of : FnE P w K mg base k "home_of" 2 (den k 13)
  a_is_box : FnE P w K mg base k "is_box" 1 (den k 3)
  a_is_name : FnE P w K mg base k "is_name" 1 (den k 2)
  a_is_whole : FnE P w K mg base k "is_whole" 3 (den k 0)
  a_law : FnE P w K mg base k "law" 1 (den k 21)
  a_lost_cells : FnE P w K mg base k "lost_cells" 2 (den k 14)
  a_meet : FnE P w K mg base k "meet" 2 (den k 4)
  a_shares_of : FnE P w K mg base k "shares_of" 2 (den k 11)
  a_spans : FnE P w K mg base k "spans" 2 (den k 12)
theorem all {P : Program} {w : World} {K : PySem.W.Frag} {h : Heap} {mg : Str → Option Value} (X : K.In h) (G : h.Ns mainGlobals mg) (c : He.SaysD fa fn K) (base : Heap) : ∀ k, All P w K mg base k := by
  have fx := fx_of X G c
  obtain ⟨fd__check, F__check⟩ := c.def_ 0 (d := d__check) rfl
  have B__check : Binds K fd__check ["screens", "box"] [] := FunD.bindsN F__check fun _ _ _ _ _ _ us hl => match us, hl with | [_, _], _ => rfl
  have g__check := He.glo_ok X G (c.fact 26 (f := .glo "_check") rfl)
  obtain ⟨fd__common, F__common⟩ := c.def_ 1 (d := d__common) rfl
  have B__common : Binds K fd__common ["box", "other"] [] := FunD.bindsN F__common fun _ _ _ _ _ _ us hl => match us, hl with | [_, _], _ => rfl
  have g__common := He.glo_ok X G (c.fact 27 (f := .glo "_common") rfl)
  obtain ⟨fd__held, F__held⟩ := c.def_ 2 (d := d__held) rfl
  have B__held : Binds K fd__held ["start", "size", "first", "room"] [] := FunD.bindsN F__held fun _ _ _ _ _ _ us hl => match us, hl with | [_, _, _, _], _ => rfl
  have g__held := He.glo_ok X G (c.fact 28 (f := .glo "_held") rfl)
  obtain ⟨fd__is_screen, F__is_screen⟩ := c.def_ 3 (d := d__is_screen) rfl
  have B__is_screen : Binds K fd__is_screen ["value"] [] := FunD.bindsN F__is_screen fun _ _ _ _ _ _ us hl => match us, hl with | [_], _ => rfl
  have g__is_screen := He.glo_ok X G (c.fact 29 (f := .glo "_is_screen") rfl)
  obtain ⟨fd__law_cells, F__law_cells⟩ := c.def_ 4 (d := d__law_cells) rfl
  have B__law_cells : Binds K fd__law_cells ["screens"] [] := FunD.bindsN F__law_cells fun _ _ _ _ _ _ us hl => match us, hl with | [_], _ => rfl
  have g__law_cells := He.glo_ok X G (c.fact 30 (f := .glo "_law_cells") rfl)
  obtain ⟨fd__law_draws, F__law_draws⟩ := c.def_ 5 (d := d__law_draws) rfl
  have B__law_draws : Binds K fd__law_draws ["script", "many"] [] := FunD.bindsN F__law_draws fun _ _ _ _ _ _ us hl => match us, hl with | [_, _], _ => rfl
  have g__law_draws := He.glo_ok X G (c.fact 31 (f := .glo "_law_draws") rfl)
  obtain ⟨fd__law_screens, F__law_screens⟩ := c.def_ 6 (d := d__law_screens) rfl
  have B__law_screens : Binds K fd__law_screens ["draws", "at", "most"] [] := FunD.bindsN F__law_screens fun _ _ _ _ _ _ us hl => match us, hl with | [_, _, _], _ => rfl
  have g__law_screens := He.glo_ok X G (c.fact 32 (f := .glo "_law_screens") rfl)
  obtain ⟨fd__law_word, F__law_word⟩ := c.def_ 7 (d := d__law_word) rfl
  have B__law_word : Binds K fd__law_word ["call", "screens", "box"] [] := FunD.bindsN F__law_word fun _ _ _ _ _ _ us hl => match us, hl with | [_, _, _], _ => rfl
  have g__law_word := He.glo_ok X G (c.fact 33 (f := .glo "_law_word") rfl)
  obtain ⟨fd__shares, F__shares⟩ := c.def_ 8 (d := d__shares) rfl
  have B__shares : Binds K fd__shares ["screens", "box"] [] := FunD.bindsN F__shares fun _ _ _ _ _ _ us hl => match us, hl with | [_, _], _ => rfl
  have g__shares := He.glo_ok X G (c.fact 34 (f := .glo "_shares") rfl)
  obtain ⟨fd_are_screens, F_are_screens⟩ := c.def_ 9 (d := d_are_screens) rfl
  have B_are_screens : Binds K fd_are_screens ["value"] [] := FunD.bindsN F_are_screens fun _ _ _ _ _ _ us hl => match us, hl with | [_], _ => rfl
  have g_are_screens := He.glo_ok X G (c.fact 35 (f := .glo "are_screens") rfl)
  obtain ⟨fd_ascends, F_ascends⟩ := c.def_ 10 (d := d_ascends) rfl
  have B_ascends : Binds K fd_ascends ["values"] [] := FunD.bindsN F_ascends fun _ _ _ _ _ _ us hl => match us, hl with | [_], _ => rfl
  have g_ascends := He.glo_ok X G (c.fact 36 (f := .glo "ascends") rfl)
  obtain ⟨fd_brought_in, F_brought_in⟩ := c.def_ 11 (d := d_brought_in) rfl
  have B_brought_in : Binds K fd_brought_in ["screens", "box"] [] := FunD.bindsN F_brought_in fun _ _ _ _ _ _ us hl => match us, hl with | [_, _], _ => rfl
  have g_brought_in := He.glo_ok X G (c.fact 37 (f := .glo "brought_in") rfl)
  obtain ⟨fd_check_screens, F_check_screens⟩ := c.def_ 12 (d := d_check_screens) rfl
  have B_check_screens : Binds K fd_check_screens ["screens"] [] := FunD.bindsN F_check_screens fun _ _ _ _ _ _ us hl => match us, hl with | [_], _ => rfl
  have g_check_screens := He.glo_ok X G (c.fact 38 (f := .glo "check_screens") rfl)
  obtain ⟨fd_home_of, F_home_of⟩ := c.def_ 13 (d := d_home_of) rfl
  have B_home_of : Binds K fd_home_of ["screens", "box"] [] := FunD.bindsN F_home_of fun _ _ _ _ _ _ us hl => match us, hl with | [_, _], _ => rfl
  have g_home_of := He.glo_ok X G (c.fact 39 (f := .glo "home_of") rfl)
  obtain ⟨fd_is_box, F_is_box⟩ := c.def_ 14 (d := d_is_box) rfl
  have B_is_box : Binds K fd_is_box ["value"] [] := FunD.bindsN F_is_box fun _ _ _ _ _ _ us hl => match us, hl with | [_], _ => rfl
  have g_is_box := He.glo_ok X G (c.fact 40 (f := .glo "is_box") rfl)
  obtain ⟨fd_is_name, F_is_name⟩ := c.def_ 15 (d := d_is_name) rfl
  have B_is_name : Binds K fd_is_name ["value"] [] := FunD.bindsN F_is_name fun _ _ _ _ _ _ us hl => match us, hl with | [_], _ => rfl
  have g_is_name := He.glo_ok X G (c.fact 41 (f := .glo "is_name") rfl)
  obtain ⟨fd_is_whole, F_is_whole⟩ := c.def_ 16 (d := d_is_whole) rfl
  have B_is_whole : Binds K fd_is_whole ["value", "least", "most"] [] := FunD.bindsN F_is_whole fun _ _ _ _ _ _ us hl => match us, hl with | [_, _, _], _ => rfl
  have g_is_whole := He.glo_ok X G (c.fact 42 (f := .glo "is_whole") rfl)
  obtain ⟨fd_law, F_law⟩ := c.def_ 17 (d := d_law) rfl
  have B_law : Binds K fd_law ["script"] [] := FunD.bindsN F_law fun _ _ _ _ _ _ us hl => match us, hl with | [_], _ => rfl
  have g_law := He.glo_ok X G (c.fact 43 (f := .glo "law") rfl)
  obtain ⟨fd_lost_cells, F_lost_cells⟩ := c.def_ 18 (d := d_lost_cells) rfl
  have B_lost_cells : Binds K fd_lost_cells ["screens", "box"] [] := FunD.bindsN F_lost_cells fun _ _ _ _ _ _ us hl => match us, hl with | [_, _], _ => rfl
  have g_lost_cells := He.glo_ok X G (c.fact 44 (f := .glo "lost_cells") rfl)
  obtain ⟨fd_meet, F_meet⟩ := c.def_ 19 (d := d_meet) rfl
  have B_meet : Binds K fd_meet ["box", "other"] [] := FunD.bindsN F_meet fun _ _ _ _ _ _ us hl => match us, hl with | [_, _], _ => rfl
  have g_meet := He.glo_ok X G (c.fact 45 (f := .glo "meet") rfl)
  obtain ⟨fd_shares_of, F_shares_of⟩ := c.def_ 20 (d := d_shares_of) rfl
  have B_shares_of : Binds K fd_shares_of ["screens", "box"] [] := FunD.bindsN F_shares_of fun _ _ _ _ _ _ us hl => match us, hl with | [_, _], _ => rfl
  have g_shares_of := He.glo_ok X G (c.fact 46 (f := .glo "shares_of") rfl)
  obtain ⟨fd_spans, F_spans⟩ := c.def_ 21 (d := d_spans) rfl
  have B_spans : Binds K fd_spans ["screens", "box"] [] := FunD.bindsN F_spans fun _ _ _ _ _ _ us hl => match us, hl with | [_, _], _ => rfl
  have g_spans := He.glo_ok X G (c.fact 47 (f := .glo "spans") rfl)
  intro k
  induction k with
  | zero => exact ⟨⟨_, fd__check, ["screens", "box"], fn_zero 2 (fun _ h => h), g__check, F__check.kp, B__check⟩, ⟨_, fd__common, ["box", "other"], fn_zero 2 (fun _ h => h), g__common, F__common.kp, B__common⟩, ⟨_, fd__held, ["start", "size", "first", "room"], fn_zero 4 (fun _ h => h), g__held, F__held.kp, B__held⟩, ⟨_, fd__is_screen, ["value"], fn_zero 1 (fun _ h => h), g__is_screen, F__is_screen.kp, B__is_screen⟩, ⟨_, fd__law_cells, ["screens"], fn_zero 1 (fun _ h => h), g__law_cells, F__law_cells.kp, B__law_cells⟩, ⟨_, fd__law_draws, ["script", "many"], fn_zero 2 (fun _ h => h), g__law_draws, F__law_draws.kp, B__law_draws⟩, ⟨_, fd__law_screens, ["draws", "at", "most"], fn_zero 3 (fun _ h => h), g__law_screens, F__law_screens.kp, B__law_screens⟩, ⟨_, fd__law_word, ["call", "screens", "box"], fn_zero 3 (fun _ h => h), g__law_word, F__law_word.kp, B__law_word⟩, ⟨_, fd__shares, ["screens", "box"], fn_zero 2 (fun _ h => h), g__shares, F__shares.kp, B__shares⟩, ⟨_, fd_are_screens, ["value"], fn_zero 1 (fun _ h => h), g_are_screens, F_are_screens.kp, B_are_screens⟩, ⟨_, fd_ascends, ["values"], fn_zero 1 (fun _ h => h), g_ascends, F_ascends.kp, B_ascends⟩, ⟨_, fd_brought_in, ["screens", "box"], fn_zero 2 (fun _ h => h), g_brought_in, F_brought_in.kp, B_brought_in⟩, ⟨_, fd_check_screens, ["screens"], fn_zero 1 (fun _ h => h), g_check_screens, F_check_screens.kp, B_check_screens⟩, ⟨_, fd_home_of, ["screens", "box"], fn_zero 2 (fun _ h => h), g_home_of, F_home_of.kp, B_home_of⟩, ⟨_, fd_is_box, ["value"], fn_zero 1 (fun _ h => h), g_is_box, F_is_box.kp, B_is_box⟩, ⟨_, fd_is_name, ["value"], fn_zero 1 (fun _ h => h), g_is_name, F_is_name.kp, B_is_name⟩, ⟨_, fd_is_whole, ["value", "least", "most"], fn_zero 3 (fun _ h => h), g_is_whole, F_is_whole.kp, B_is_whole⟩, ⟨_, fd_law, ["script"], fn_zero 1 (fun _ h => h), g_law, F_law.kp, B_law⟩, ⟨_, fd_lost_cells, ["screens", "box"], fn_zero 2 (fun _ h => h), g_lost_cells, F_lost_cells.kp, B_lost_cells⟩, ⟨_, fd_meet, ["box", "other"], fn_zero 2 (fun _ h => h), g_meet, F_meet.kp, B_meet⟩, ⟨_, fd_shares_of, ["screens", "box"], fn_zero 2 (fun _ h => h), g_shares_of, F_shares_of.kp, B_shares_of⟩, ⟨_, fd_spans, ["screens", "box"], fn_zero 2 (fun _ h => h), g_spans, F_spans.kp, B_spans⟩⟩
  | succ k ih =>
    have E : En P w K mg base k (den k) := ⟨ih.a__check, ih.a__common, ih.a__held, ih.a__is_screen, ih.a__law_cells, ih.a__law_draws, ih.a__law_screens, ih.a__law_word, ih.a__shares, ih.a_are_screens, ih.a_ascends, ih.a_brought_in, ih.a_check_screens, ih.a_home_of, ih.a_is_box, ih.a_is_name, ih.a_is_whole, ih.a_lost_cells, ih.a_meet, ih.a_shares_of, ih.a_spans⟩
    exact ⟨⟨_, fd__check, _, fn_vs F__check sc_8 rfl (fun cdv A outer s H Ex W hr tk => w_8 fx E _ cdv A outer s H Ex W hr tk), g__check, F__check.kp, B__check⟩, ⟨_, fd__common, _, fn_vs F__common sc_9 rfl (fun cdv A outer s H Ex W hr tk => w_9 fx E _ cdv A outer s H Ex W hr tk), g__common, F__common.kp, B__common⟩, ⟨_, fd__held, _, fn_vs F__held sc_15 rfl (fun cdv A outer s H Ex W hr tk => w_15 fx E _ cdv A outer s H Ex W hr tk), g__held, F__held.kp, B__held⟩, ⟨_, fd__is_screen, _, fn_vs F__is_screen sc_5 rfl (fun cdv A outer s H Ex W hr tk => w_5 fx E _ cdv A outer s H Ex W hr tk), g__is_screen, F__is_screen.kp, B__is_screen⟩, ⟨_, fd__law_cells, _, fn_vs F__law_cells sc_19 rfl (fun cdv A outer s H Ex W hr tk => w_19 fx E _ cdv A outer s H Ex W hr tk), g__law_cells, F__law_cells.kp, B__law_cells⟩, ⟨_, fd__law_draws, _, fn_vs F__law_draws sc_17 rfl (fun cdv A outer s H Ex W hr tk => w_17 fx E _ cdv A outer s H Ex W hr tk), g__law_draws, F__law_draws.kp, B__law_draws⟩, ⟨_, fd__law_screens, _, fn_vs F__law_screens sc_18 rfl (fun cdv A outer s H Ex W hr tk => w_18 fx E _ cdv A outer s H Ex W hr tk), g__law_screens, F__law_screens.kp, B__law_screens⟩, ⟨_, fd__law_word, _, fn_vs F__law_word sc_20 rfl (fun cdv A outer s H Ex W hr tk => w_20 fx E _ cdv A outer s H Ex W hr tk), g__law_word, F__law_word.kp, B__law_word⟩, ⟨_, fd__shares, _, fn_vs F__shares sc_10 rfl (fun cdv A outer s H Ex W hr tk => w_10 fx E _ cdv A outer s H Ex W hr tk), g__shares, F__shares.kp, B__shares⟩, ⟨_, fd_are_screens, _, fn_vs F_are_screens sc_6 rfl (fun cdv A outer s H Ex W hr tk => w_6 fx E _ cdv A outer s H Ex W hr tk), g_are_screens, F_are_screens.kp, B_are_screens⟩, ⟨_, fd_ascends, _, fn_vs F_ascends sc_1 rfl (fun cdv A outer s H Ex W hr tk => w_1 fx E _ cdv A outer s H Ex W hr tk), g_ascends, F_ascends.kp, B_ascends⟩, ⟨_, fd_brought_in, _, fn_vs F_brought_in sc_16 rfl (fun cdv A outer s H Ex W hr tk => w_16 fx E _ cdv A outer s H Ex W hr tk), g_brought_in, F_brought_in.kp, B_brought_in⟩, ⟨_, fd_check_screens, _, fn_vs F_check_screens sc_7 rfl (fun cdv A outer s H Ex W hr tk => w_7 fx E _ cdv A outer s H Ex W hr tk), g_check_screens, F_check_screens.kp, B_check_screens⟩, ⟨_, fd_home_of, _, fn_vs F_home_of sc_13 rfl (fun cdv A outer s H Ex W hr tk => w_13 fx E _ cdv A outer s H Ex W hr tk), g_home_of, F_home_of.kp, B_home_of⟩, ⟨_, fd_is_box, _, fn_vs F_is_box sc_3 rfl (fun cdv A outer s H Ex W hr tk => w_3 fx E _ cdv A outer s H Ex W hr tk), g_is_box, F_is_box.kp, B_is_box⟩, ⟨_, fd_is_name, _, fn_vs F_is_name sc_2 rfl (fun cdv A outer s H Ex W hr tk => w_2 fx E _ cdv A outer s H Ex W hr tk), g_is_name, F_is_name.kp, B_is_name⟩, ⟨_, fd_is_whole, _, fn_vs F_is_whole sc_0 rfl (fun cdv A outer s H Ex W hr tk => w_0 fx E _ cdv A outer s H Ex W hr tk), g_is_whole, F_is_whole.kp, B_is_whole⟩, ⟨_, fd_law, _, fn_vs F_law sc_21 rfl (fun cdv A outer s H Ex W hr tk => w_21 fx E _ cdv A outer s H Ex W hr tk), g_law, F_law.kp, B_law⟩, ⟨_, fd_lost_cells, _, fn_vs F_lost_cells sc_14 rfl (fun cdv A outer s H Ex W hr tk => w_14 fx E _ cdv A outer s H Ex W hr tk), g_lost_cells, F_lost_cells.kp, B_lost_cells⟩, ⟨_, fd_meet, _, fn_vs F_meet sc_4 rfl (fun cdv A outer s H Ex W hr tk => w_4 fx E _ cdv A outer s H Ex W hr tk), g_meet, F_meet.kp, B_meet⟩, ⟨_, fd_shares_of, _, fn_vs F_shares_of sc_11 rfl (fun cdv A outer s H Ex W hr tk => w_11 fx E _ cdv A outer s H Ex W hr tk), g_shares_of, F_shares_of.kp, B_shares_of⟩, ⟨_, fd_spans, _, fn_vs F_spans sc_12 rfl (fun cdv A outer s H Ex W hr tk => w_12 fx E _ cdv A outer s H Ex W hr tk), g_spans, F_spans.kp, B_spans⟩⟩
theorem law_fn {P : Program} {w : World} {K : PySem.W.Frag} {h : Heap} {mg : Str → Option Value} {f : Addr} (X : K.In h) (G : h.Ns mainGlobals mg) (hfa : mg ("law" : Str) = some (.ref f)) (c : He.SaysD fa fn K) :
    ∃ fd : FuncData, (∀ (s : Shared) (v : Value), BindsTo s fd ⟨[v], []⟩ [("script", v)]) ∧ ∀ base : Heap, L2.FnOk P w K mg base (L2.CX P w) 60 f fd ["script"] (VS.SpG K mg 1 (den 60 21)) := by
  have fx := fx_of X G c
  obtain ⟨fd, Fl⟩ := c.def_ 17 (d := d_law) rfl
  have gl := He.glo_ok X G (c.fact 43 (f := .glo "law") rfl)
  have e := hfa.symm.trans gl
  cases e
  have b := FunD.bindsA (ps := ["script"]) Fl fun _ _ _ _ _ _ us hl => match us, hl with | [_], _ => rfl
  refine ⟨fd, fun s v => b s [v] rfl, fun base => ?_⟩
  have ih := all (P := P) (w := w) X G c base 59
  have E : En P w K mg base 59 (den 59) := ⟨ih.a__check, ih.a__common, ih.a__held, ih.a__is_screen, ih.a__law_cells, ih.a__law_draws, ih.a__law_screens, ih.a__law_word, ih.a__shares, ih.a_are_screens, ih.a_ascends, ih.a_brought_in, ih.a_check_screens, ih.a_home_of, ih.a_is_box, ih.a_is_name, ih.a_is_whole, ih.a_lost_cells, ih.a_meet, ih.a_shares_of, ih.a_spans⟩
  exact fn_vs Fl sc_21 rfl (fun cdv A outer s H Ex W hr tk => w_21 fx E _ cdv A outer s H Ex W hr tk)
abbrev R : PySem.W.OpenRow := PySem.W.OpenLaw.row PySem.Challenge.rw_windowwright_k46_whole_windows_on_screen
abbrev hk : PySem.W.Hook := He.hookD 4 fa fn
def ob (s : PySem.W.SharedT) : He.AlD := He.obsDG 4 fa fn (HandSHeadRun.getT s)
theorem ob_eq (s : PySem.W.SharedT) : ob s = hk.obs s.abs := He.obsDG_eq (HandSHeadRun.getT_eq s)
def loose : List Str := [("WindowError" : Str), ("BadBox" : Str), ("BadScreens" : Str), ("LETTERS" : Str), ("MOST_SIGNS" : Str), ("is_whole" : Str), ("ascends" : Str), ("is_name" : Str), ("MOST_SIDE" : Str), ("is_box" : Str), ("meet" : Str), ("MOST_SCREENS" : Str), ("_is_screen" : Str), ("are_screens" : Str), ("check_screens" : Str), ("_check" : Str), ("_common" : Str), ("_shares" : Str), ("shares_of" : Str), ("spans" : Str)] ++ [("home_of" : Str), ("lost_cells" : Str), ("_held" : Str), ("brought_in" : Str), ("_law_draws" : Str), ("_law_screens" : Str), ("_law_cells" : Str), ("_law_word" : Str)]
theorem run (w : World) : HandSHeadRun.RunEq R (PySem.W.view R.prog [34]) hk ob 6000 loose w := by
  intro os
  kernel_rfl
end KL
open PySem PySem.W PySem.Calls PyProof.Rows
theorem KL.holds (good : ∀ ns : List Int, ns.length ≤ 63 → KL.den 60 21 [.br ns] = .ok (.bool true)) : PySem.Challenge.rw_windowwright_k46_whole_windows_on_screen.Holds := by
  w_on; o_law
  refine HandSHeadRun.head_any (r := OpenLaw.row PySem.Challenge.rw_windowwright_k46_whole_windows_on_screen) (q := view (OpenLaw.row PySem.Challenge.rw_windowwright_k46_whole_windows_on_screen).prog [34]) (H := KL.hk) (ob := KL.ob) (M := 6000) (loose := KL.loose) (d := HandSHeadRun.topDef (OpenLaw.row PySem.Challenge.rw_windowwright_k46_whole_windows_on_screen).prog 34) (kwd := []) KL.ob_eq
    (by kernel_rfl) (fun s => by kernel_rfl) KL.run (by kernel_rfl) (by kernel_rfl) (by kernel_rfl) (by rfl) (by first | assumption | decide +kernel) (by decide +kernel) ⟨rfl, rfl, rfl, rfl, rfl, by decide +kernel⟩ ?hw ?hc
  case hw => w_witness2
  case hc =>
    refine VS.walk_law (l := PySem.Challenge.rw_windowwright_k46_whole_windows_on_screen) (k := 60) (x := "script") rfl (by kernel_rfl) ⟨rfl, by decide, by decide⟩ ?F
    intro w mg fa h Y G hmg0
    obtain ⟨K, KX, c⟩ := Y
    have hmg : mg ("law" : PySem.Str) = some (.ref fa) := by
      have e : (HandSHeadRun.topDef (OpenLaw.row PySem.Challenge.rw_windowwright_k46_whole_windows_on_screen).prog 34).name = ("law" : PySem.Str) := by kernel_rfl
      rw [← e]
      exact hmg0
    obtain ⟨fd, b, F⟩ : ∃ fd, (∀ (s : Shared) (v : Value), BindsTo s fd ⟨[v], []⟩ [("script", v)]) ∧ ∀ base : Heap, L2.FnOk PySem.Challenge.pw_windowwright_k46_whole_windows_on_screen w K mg base (L2.CX PySem.Challenge.pw_windowwright_k46_whole_windows_on_screen w) 60 fa fd ["script"] (VS.SpG K mg 1 (KL.den 60 21)) := KL.law_fn KX G hmg c
    exact ⟨K, fd, _, KX, b, fun base _ _ => F base, fun ns hl => good ns hl⟩
end
section
namespace VS
open PySem PySem.Spec PyProof.Rows L2

/-! ### evaluation by simp -/
@[simp] theorem ev_seq (f g : Dl → RS) (δ : Dl) : seqS f g δ = (f δ).bnd g := Eq.trans rfl (Eq.refl _)
@[simp] theorem ev_nx (δ : Dl) : nxS δ = .nx δ := Eq.trans rfl (Eq.refl _)
@[simp] theorem ev_bk (δ : Dl) : bkS δ = .bk δ := Eq.trans rfl (Eq.refl _)
@[simp] theorem ev_ct (δ : Dl) : ctS δ = .ct δ := Eq.trans rfl (Eq.refl _)
@[simp] theorem ev_ret (f : Dl → Re D) (δ : Dl) : retS f δ = toS (f δ) .rt := Eq.trans rfl (Eq.refl _)
@[simp] theorem ev_retN (δ : Dl) : retN δ = .rt .none := Eq.trans rfl (Eq.refl _)
@[simp] theorem ev_if (t : Dl → Re Bool) (f g : Dl → RS) (δ : Dl) : ifS t f g δ = toS (t δ) fun b => if b = true then f δ else g δ := Eq.trans rfl (Eq.refl _)
@[simp] theorem ev_set (i : Nat) (f : Dl → Re D) (δ : Dl) : setS i f δ = toS (f δ) fun d => .nx (δ.set i (.sh d)) := Eq.trans rfl (Eq.refl _)
@[simp] theorem ev_setO (i : Nat) (f : Dl → Re D) (δ : Dl) : setO i f δ = toS (f δ) fun d => .nx (δ.set i (.ow d)) := Eq.trans rfl (Eq.refl _)
@[simp] theorem ev_asg (b : Bd) (f : Dl → Re D) (δ : Dl) : asgS b f δ = toS (f δ) fun d => match b d δ with | some δ' => .nx δ' | none => .no := Eq.trans rfl (Eq.refl _)
@[simp] theorem ev_for (items : Dl → Re (List D)) (b : Bd) (body : Dl → RS) (δ : Dl) : forS items b body δ = toS (items δ) fun ds => goS b body ds δ := Eq.trans rfl (Eq.refl _)
@[simp] theorem ev_drop (f : Dl → Re D) (δ : Dl) : dropS f δ = toS (f δ) fun _ => .nx δ := Eq.trans rfl (Eq.refl _)
@[simp] theorem ev_rai (nm : Str) (δ : Dl) : raiS nm δ = .ex (.mk nm []) := Eq.trans rfl (Eq.refl _)
@[simp] theorem gS_zero (d : D) (r : Dl) : gS 0 (.sh d :: r) = .ok d := Eq.trans rfl (Eq.refl _)
@[simp] theorem gS_succ (i : Nat) (s : Sl) (r : Dl) : gS (i + 1) (s :: r) = gS i r := Eq.trans rfl (Eq.refl _)
@[simp] theorem gB_zero (d : D) (r : Dl) : gB 0 (.sh d :: r) = .ok d := Eq.trans rfl (Eq.refl _)
@[simp] theorem gB_zero' (d : D) (r : Dl) : gB 0 (.ow d :: r) = .ok d := Eq.trans rfl (Eq.refl _)
@[simp] theorem gB_succ (i : Nat) (s : Sl) (r : Dl) : gB (i + 1) (s :: r) = gB i r := Eq.trans rfl (Eq.refl _)
@[simp] theorem ev_k (d : D) (δ : Dl) : kC d δ = .ok d := Eq.trans rfl (Eq.refl _)
@[simp] theorem ev_d2 (g : D → D → Re D) (fa fb : Dl → Re D) (δ : Dl) : d2 g fa fb δ = (fa δ).bnd fun x => (fb δ).bnd fun y => g x y := Eq.trans rfl (Eq.refl _)
@[simp] theorem ev_d1 (g : D → Re D) (fa : Dl → Re D) (δ : Dl) : d1 g fa δ = (fa δ).bnd g := Eq.trans rfl (Eq.refl _)
@[simp] theorem ev_dA (fs : Dl → Re (List D)) (g : List D → Re D) (δ : Dl) : dA fs g δ = (fs δ).bnd g := Eq.trans rfl (Eq.refl _)
@[simp] theorem ev_dAL (fs : Dl → Re (List D)) (g : List D → Re (List D)) (δ : Dl) : dAL fs g δ = (fs δ).bnd g := Eq.trans rfl (Eq.refl _)
@[simp] theorem ev_d1L (g : D → Re (List D)) (fa : Dl → Re D) (δ : Dl) : d1L g fa δ = (fa δ).bnd g := Eq.trans rfl (Eq.refl _)
@[simp] theorem ev_args0 (δ : Dl) : argsF [] δ = .ok [] := Eq.trans rfl (Eq.refl _)
@[simp] theorem ev_args (f : Dl → Re D) (fs : List (Dl → Re D)) (δ : Dl) : argsF (f :: fs) δ = (f δ).bnd fun d => (argsF fs δ).bnd fun ds => .ok (d :: ds) := Eq.trans rfl (Eq.refl _)
@[simp] theorem ev_argsM0 (δ : Dl) : argsM [] δ = .ok [] := Eq.trans rfl (Eq.refl _)
@[simp] theorem ev_argsMf (f : Dl → Re D) (fs : List (Bool × (Dl → Re D))) (δ : Dl) : argsM ((false, f) :: fs) δ = (f δ).bnd fun d => (argsM fs δ).bnd fun ss => .ok (.sh d :: ss) := Eq.trans rfl (Eq.refl _)
@[simp] theorem ev_argsMt (f : Dl → Re D) (fs : List (Bool × (Dl → Re D))) (δ : Dl) : argsM ((true, f) :: fs) δ = (f δ).bnd fun d => (argsM fs δ).bnd fun ss => .ok (.ow d :: ss) := Eq.trans rfl (Eq.refl _)
@[simp] theorem ev_par (is : List Nat) (fm : Dl → Re (List Sl)) (δ : Dl) : parS is fm δ = toS (fm δ) fun ss => if ss.length = is.length then .nx (bindM is ss δ) else .no := Eq.trans rfl (Eq.refl _)
@[simp] theorem ev_bindM (i : Nat) (is : List Nat) (s : Sl) (ss : List Sl) (δ : Dl) : bindM (i :: is) (s :: ss) δ = bindM is ss (δ.set i s) := Eq.trans rfl (Eq.refl _)
@[simp] theorem ev_bindM0 (ss : List Sl) (δ : Dl) : bindM [] ss δ = δ := by cases ss <;> rfl
@[simp] theorem ev_cD (g : List Sl → Re D) (ds : List D) : cD g ds = g (ds.map .sh) := Eq.trans rfl (Eq.refl _)
@[simp] theorem ev_and (fa fb : Dl → Re D) (δ : Dl) : dAnd fa fb δ = (fa δ).bnd fun x => (asB x).bnd fun b => if b = true then fb δ else .ok (.bool false) := Eq.trans rfl (Eq.refl _)
@[simp] theorem ev_or (fa fb : Dl → Re D) (δ : Dl) : dOr fa fb δ = (fa δ).bnd fun x => (asB x).bnd fun b => if b = true then .ok (.bool true) else fb δ := Eq.trans rfl (Eq.refl _)
@[simp] theorem ev_asB (b : Bool) : asB (.bool b) = .ok b := Eq.trans rfl (Eq.refl _)
@[simp] theorem ev_dNot (b : Bool) : dNot (.bool b) = .ok (.bool (!b)) := Eq.trans rfl (Eq.refl _)
@[simp] theorem ev_dIf (f : Dl → Re Bool) (fa fb : Dl → Re D) (δ : Dl) : dIf f fa fb δ = (f δ).bnd fun b => if b = true then fa δ else fb δ := Eq.trans rfl (Eq.refl _)
@[simp] theorem ev_tB1 (fa : Dl → Re D) (δ : Dl) : tB1 fa δ = (fa δ).bnd asB := Eq.trans rfl (Eq.refl _)
@[simp] theorem ev_tAnd (f g : Dl → Re Bool) (δ : Dl) : tAnd2 f g δ = (f δ).bnd fun b => if b = true then g δ else .ok false := Eq.trans rfl (Eq.refl _)
@[simp] theorem ev_tOr (f g : Dl → Re Bool) (δ : Dl) : tOr2 f g δ = (f δ).bnd fun b => if b = true then .ok true else g δ := Eq.trans rfl (Eq.refl _)
@[simp] theorem ev_tNot (f : Dl → Re Bool) (δ : Dl) : tNot1 f δ = (f δ).bnd fun b => .ok (!b) := Eq.trans rfl (Eq.refl _)
@[simp] theorem ev_chn (g g' : D → D → Re D) (fa fb fc : Dl → Re D) (δ : Dl) : chn g g' fa fb fc δ = (fa δ).bnd fun x => (fb δ).bnd fun y => (g x y).bnd fun z => (asB z).bnd fun b => if b = true then (fc δ).bnd fun w => g' y w else .ok (.bool false) := by
  unfold chn
  cases fa δ <;> simp
  cases fb δ <;> simp
  rename_i x y
  cases g x y <;> simp
  rename_i z
  cases z <;> simp [asB]
  rename_i b
  cases b <;> simp
@[simp] theorem ev_isi (T : Ty) (d : D) : isiD T d = .ok (.bool (isT T d)) := Eq.trans rfl (Eq.refl _)
@[simp] theorem ev_yes (δ : Dl) : yesT δ = .ok true := Eq.trans rfl (Eq.refl _)
@[simp] theorem ev_bN (i : Nat) (d : D) (δ : Dl) : bN i d δ = some (δ.set i (.sh d)) := Eq.trans rfl (Eq.refl _)
@[simp] theorem ev_go0 (b : Bd) (body : Dl → RS) (δ : Dl) : goS b body [] δ = .nx δ := Eq.trans rfl (Eq.refl _)
@[simp] theorem ev_items_l (ds : List D) : itemsD (.list ds) = .ok ds := Eq.trans rfl (Eq.refl _)
@[simp] theorem ev_items_t (ds : List D) : itemsD (.tuple ds) = .ok ds := Eq.trans rfl (Eq.refl _)
@[simp] theorem ev_items_s (z : Str) : itemsD (.str z) = .ok (signs z) := Eq.trans rfl (Eq.refl _)
@[simp] theorem ev_lc (vs : List Nat) (items : Dl → Re (List D)) (b : Bd) (t : Dl → Re Bool) (e : Dl → Re D) (δ : Dl) : lcD vs items b t e δ =
  (items δ).bnd fun ds => if ds.length ≤ sizeLine then (lcL b t e (wipeD δ vs) ds).bnd fun ys => .ok (.list ys) else .no := Eq.trans rfl (Eq.refl _)
@[simp] theorem ev_lcL0 (b : Bd) (t : Dl → Re Bool) (e : Dl → Re D) (δ : Dl) : lcL b t e δ [] = .ok [] := Eq.trans rfl (Eq.refl _)
@[simp] theorem ev_wipe0 (δ : Dl) : wipeD δ [] = δ := Eq.trans rfl (Eq.refl _)
@[simp] theorem ev_wipe (δ : Dl) (v : Nat) (vs : List Nat) : wipeD δ (v :: vs) = (wipeD δ vs).set v .no := Eq.trans rfl (Eq.refl _)
/-! ### values -/
@[simp] theorem ev_lenL (xs : List D) : lenD [.list xs] = .ok (.int xs.length) := Eq.trans rfl (Eq.refl _)
@[simp] theorem ev_lenT (xs : List D) : lenD [.tuple xs] = .ok (.int xs.length) := Eq.trans rfl (Eq.refl _)
@[simp] theorem ev_lenD (xs : List (D × D)) : lenD [.dict xs] = .ok (.int xs.length) := Eq.trans rfl (Eq.refl _)
theorem sz_line : sizeLine = 16777216 := sizeLine_eq
@[simp] theorem ev_ltI (i j : Int) : ltD (.int i) (.int j) = .ok (.bool (decide (i < j))) := by
  unfold ltD ltOk
  simp [PySem.W.alike, isN, PySem.W.dataLt_int]
@[simp] theorem ev_gtI (i j : Int) : gtD (.int i) (.int j) = .ok (.bool (decide (j < i))) := by
  unfold gtD ltOk
  simp [PySem.W.alike, isN, PySem.W.dataLt_int]
@[simp] theorem ev_leI (i j : Int) : leD (.int i) (.int j) = .ok (.bool (decide (i ≤ j))) := by
  unfold leD ltOk
  simp [PySem.W.alike, isN, PySem.W.dataLt_int]
  rw [← decide_not]
  congr 1
  simp
@[simp] theorem ev_geI (i j : Int) : geD (.int i) (.int j) = .ok (.bool (decide (j ≤ i))) := by
  unfold geD ltOk
  simp [PySem.W.alike, isN, PySem.W.dataLt_int]
  rw [← decide_not]
  congr 1
  simp
end VS
namespace VS
open PySem PySem.Spec PyProof.Rows L2
theorem eqD_of {x y : D} (h : dn 60 x = true) (h' : dn 60 y = true) : eqD x y = .ok (.bool (PyData.eqv x y)) := by unfold eqD; rw [if_pos ⟨h, h'⟩]
theorem neD_of {x y : D} (h : dn 60 x = true) (h' : dn 60 y = true) : neD x y = .ok (.bool (!PyData.eqv x y)) := by unfold neD; rw [if_pos ⟨h, h'⟩]
theorem str_beq (a b : Str) : (a == b) = decide (a = b) := by rw [Bool.eq_iff_iff]; simp
@[simp] theorem ev_eqI (i j : Int) : eqD (.int i) (.int j) = .ok (.bool (decide (i = j))) := by rw [eqD_of (by simp) (by simp)]; simp [PyData.eqv]; rw [Bool.eq_iff_iff]; simp
@[simp] theorem ev_neI (i j : Int) : neD (.int i) (.int j) = .ok (.bool (!decide (i = j))) := by rw [neD_of (by simp) (by simp)]; simp [PyData.eqv]; rw [Bool.eq_iff_iff]; simp
@[simp] theorem ev_eqS (i j : Str) : eqD (.str i) (.str j) = .ok (.bool (decide (i = j))) := by rw [eqD_of (by simp) (by simp)]; simp [PyData.eqv, str_beq]
@[simp] theorem ev_neS (i j : Str) : neD (.str i) (.str j) = .ok (.bool (!decide (i = j))) := by rw [neD_of (by simp) (by simp)]; simp [PyData.eqv, str_beq]
@[simp] theorem ev_addI (i j : Int) : addD (.int i) (.int j) = .ok (.int (i + j)) := Eq.trans rfl (Eq.refl _)
@[simp] theorem ev_subI (i j : Int) : subD (.int i) (.int j) = .ok (.int (i - j)) := Eq.trans rfl (Eq.refl _)
@[simp] theorem ev_intI (i : Int) : intD [.int i] = .ok (.int i) := Eq.trans rfl (Eq.refl _)
@[simp] theorem ev_absI (i : Int) : absD [.int i] = .ok (.int (if i < 0 then -i else i)) := Eq.trans rfl (Eq.refl _)
theorem ev_tup {ds : List D} (h : ds.length ≤ sizeLine) : tupD ds = .ok (.tuple ds) := by unfold tupD; rw [if_pos h]
theorem ev_lst {ds : List D} (h : ds.length ≤ sizeLine) : lstD ds = .ok (.list ds) := by unfold lstD; rw [if_pos h]
@[simp] theorem ev_tup0 : tupD [] = .ok (.tuple []) := ev_tup (by rw [sz_line]; simp)
@[simp] theorem ev_tup1 (a : D) : tupD [a] = .ok (.tuple [a]) := ev_tup (by rw [sz_line]; simp)
@[simp] theorem ev_tup2 (a b : D) : tupD [a, b] = .ok (.tuple [a, b]) := ev_tup (by rw [sz_line]; simp)
@[simp] theorem ev_tup3 (a b c : D) : tupD [a, b, c] = .ok (.tuple [a, b, c]) := ev_tup (by rw [sz_line]; simp)
@[simp] theorem ev_tup4 (a b c d : D) : tupD [a, b, c, d] = .ok (.tuple [a, b, c, d]) := ev_tup (by rw [sz_line]; simp)
@[simp] theorem ev_lst0 : lstD [] = .ok (.list []) := ev_lst (by rw [sz_line]; simp)
@[simp] theorem ev_lst1 (a : D) : lstD [a] = .ok (.list [a]) := ev_lst (by rw [sz_line]; simp)
@[simp] theorem ev_lst2 (a b : D) : lstD [a, b] = .ok (.list [a, b]) := ev_lst (by rw [sz_line]; simp)
@[simp] theorem ev_lst3 (a b c : D) : lstD [a, b, c] = .ok (.list [a, b, c]) := ev_lst (by rw [sz_line]; simp)
@[simp] theorem ix_t (xs : List D) (i : Int) : ixD (.tuple xs) (.int i) = ofO (atI xs i) := Eq.trans rfl (Eq.refl _)
@[simp] theorem ix_l (xs : List D) (i : Int) : ixD (.list xs) (.int i) = ofO (atI xs i) := Eq.trans rfl (Eq.refl _)
@[simp] theorem at_0 (x : D) (xs : List D) : atI (x :: xs) 0 = some x := atI_nat (j := 0) rfl
@[simp] theorem at_1 (x y : D) (xs : List D) : atI (x :: y :: xs) 1 = some y := atI_nat (j := 1) rfl
@[simp] theorem at_2 (x y z : D) (xs : List D) : atI (x :: y :: z :: xs) 2 = some z := atI_nat (j := 2) rfl
@[simp] theorem at_3 (x y z w : D) (xs : List D) : atI (x :: y :: z :: w :: xs) 3 = some w := atI_nat (j := 3) rfl
theorem at_nat {xs : List D} {i : Nat} {x : D} (h : xs[i]? = some x) : atI xs (i : Int) = some x := atI_nat h
end VS
namespace VS
open PySem PySem.Spec PyProof.Rows L2
theorem ev_mul {i j : Int} (h : (-(2 ^ 64) < i ∧ i < 2 ^ 64) ∨ (-(2 ^ 64) < j ∧ j < 2 ^ 64)) : mulI (.int i) (.int j) = .ok (.int (i * j)) := by unfold mulI; simp only; rw [if_pos (.inl h)]
theorem ev_fdiv {i j : Int} (h : 0 < j ∧ j < 1073741824) : fdivI (.int i) (.int j) = .ok (.int (i / j)) := by unfold fdivI; simp only; rw [if_pos (show CDiv i j from h)]
theorem ev_mod {i j : Int} (h : 0 < j) : modI (.int i) (.int j) = .ok (.int (i % j)) := by unfold modI; simp only; rw [if_pos h]
theorem ev_app {i : Nat} {f : Dl → Re PyData} {δ : Dl} {xs : List PyData} {d : PyData} (h : δ[i]? = some (.ow (.list xs))) (hf : f δ = .ok d) (hz : xs.length < sizeLine) : appS i f δ = .nx (δ.set i (.ow (.list (xs ++ [d])))) := by
  unfold appS
  rw [h]
  simp [hf, hz]
theorem ev_ext {i : Nat} {f : Dl → Re PyData} {δ : Dl} {xs ds : List PyData} {d : PyData} (h : δ[i]? = some (.ow (.list xs))) (hf : f δ = .ok d) (hd : d = .list ds ∨ d = .tuple ds) (hz : xs.length + ds.length ≤ sizeLine) : extS i f δ = .nx (δ.set i (.ow (.list (xs ++ ds)))) := by
  unfold extS
  rw [h]
  rcases hd with e | e <;> subst e <;> simp [hf, hz, seqD]
end VS
namespace VS
open PySem PySem.Spec PyProof.Rows L2
@[simp] theorem ev_bT (n : Nat) (bs : Bds) (ds : List D) (δ : Dl) : bT n bs (.tuple ds) δ = if ds.length = n then bs ds δ else none := Eq.trans rfl (Eq.refl _)
@[simp] theorem ev_bTl (n : Nat) (bs : Bds) (ds : List D) (δ : Dl) : bT n bs (.list ds) δ = if ds.length = n then bs ds δ else none := Eq.trans rfl (Eq.refl _)
@[simp] theorem ev_bCons (b : Bd) (bs : Bds) (d : D) (ds : List D) (δ : Dl) : bCons b bs (d :: ds) δ = (b d δ).bind (bs ds) := Eq.trans rfl (Eq.refl _)
@[simp] theorem ev_bNil (δ : Dl) : bNil [] δ = some δ := Eq.trans rfl (Eq.refl _)
@[simp] theorem ev_isN (d : D) : isND d = .ok (.bool (isN d)) := Eq.trans rfl (Eq.refl _)
@[simp] theorem ev_notN (d : D) : notND d = .ok (.bool (!isN d)) := Eq.trans rfl (Eq.refl _)
@[simp] theorem isN_none : isN .none = true := Eq.trans rfl (Eq.refl _)
@[simp] theorem isN_tup (ds : List D) : isN (.tuple ds) = false := Eq.trans rfl (Eq.refl _)
@[simp] theorem isN_lst (ds : List D) : isN (.list ds) = false := Eq.trans rfl (Eq.refl _)
@[simp] theorem isN_int (ds : Int) : isN (.int ds) = false := Eq.trans rfl (Eq.refl _)
@[simp] theorem isN_str (ds : Str) : isN (.str ds) = false := Eq.trans rfl (Eq.refl _)
@[simp] theorem isN_bool (ds : Bool) : isN (.bool ds) = false := Eq.trans rfl (Eq.refl _)
@[simp] theorem ev_dc (vs : List Nat) (items : Dl → Re (List D)) (b : Bd) (t : Dl → Re Bool) (fk fv : Dl → Re D) (δ : Dl) : dcD vs items b t fk fv δ =
  (items δ).bnd fun ds => if ds.length ≤ sizeLine then (dcL b t fk fv (wipeD δ vs) ds []).bnd fun m => .ok (.dict m) else .no := Eq.trans rfl (Eq.refl _)
@[simp] theorem ev_tupOf (ds : List D) : tupOfD [.list ds] = .ok (.tuple ds) := Eq.trans rfl (Eq.refl _)
@[simp] theorem ev_tupAny (ds : List D) : tupAnyD [.list ds] = .ok (.tuple ds) := Eq.trans rfl (Eq.refl _)
@[simp] theorem ev_tupAny' (ds : List D) : tupAnyD [.tuple ds] = .ok (.tuple ds) := Eq.trans rfl (Eq.refl _)
@[simp] theorem ev_lstOf (ds : List D) : lstOfD [.list ds] = .ok (.list ds) := Eq.trans rfl (Eq.refl _)
@[simp] theorem ev_lstOf' (ds : List D) : lstOfD [.tuple ds] = .ok (.list ds) := Eq.trans rfl (Eq.refl _)
@[simp] theorem ev_enumT (ds : List D) : enumD [.tuple ds] = .ok (pairUp 0 ds) := Eq.trans rfl (Eq.refl _)
@[simp] theorem ev_enumL (ds : List D) : enumD [.list ds] = .ok (pairUp 0 ds) := Eq.trans rfl (Eq.refl _)
/-- a dict comprehension with new keys each time -/
theorem dcL_new {b : Bd} {fk fv : Dl → Re D} {δ : Dl} (f : D → D) : ∀ (xs ys : List Str), (∀ s ∈ xs, ∃ δ1, b (.str s) δ = some δ1 ∧ fk δ1 = .ok (.str s) ∧ fv δ1 = .ok (f (.str s))) → (ys ++ xs).Nodup →
    dcL b yesT fk fv δ (xs.map .str) (ys.map fun s => (PyData.str s, f (.str s))) = .ok ((ys ++ xs).map fun s => (PyData.str s, f (.str s)))
  | [], ys, _, _ => by simp [dcL]
  | x :: xs, ys, h, nd => by
    obtain ⟨δ1, e1, e2, e3⟩ := h x List.mem_cons_self
    have nx : x ∉ ys := fun m => by
      have := List.nodup_append.mp nd
      exact this.2.2 x m x List.mem_cons_self rfl
    have ep : putD (ys.map fun s => (PyData.str s, f (.str s))) (.str x) (f (.str x)) = (ys ++ [x]).map fun s => (PyData.str s, f (.str s)) := by
      unfold putD
      have : ((ys.map fun s => (PyData.str s, f (.str s))).any fun p => PyData.eqv p.1 (.str x)) = false := by
        rw [List.any_map, List.any_eq_false]
        intro y hy
        simp only [Function.comp, PyData.eqv, str_beq, decide_eq_true_eq]
        intro e
        exact nx (e ▸ hy)
      rw [this, if_neg Bool.false_ne_true, List.map_append]
      rfl
    have ih := dcL_new f xs (ys ++ [x]) (fun s hs => h s (List.mem_cons_of_mem _ hs)) (by simpa using nd)
    rw [List.map_cons]
    unfold dcL
    simp only [e1, ev_yes, nxR_ok, bnd_ok, if_true, e2, e3]
    rw [if_pos (by rfl), ep, ih]
    simp
end VS
end
section
open PySem PySem.Spec PyProof.Rows L2 VS
namespace KL
/-! ### trees -/
inductive Kd where
  | row | col | tabs
  deriving DecidableEq
def kdS : Kd → Str
  | .row => "row" | .col => "col" | .tabs => "tabs"
inductive T where
  | win (s : Str)
  | nd (k : Kd) (n : Int) (cs : List (Int × T))
abbrev Cs := List (Int × T)
mutual
def enc : T → PyData
  | .win s => .tuple [.str "win", .str s]
  | .nd k n cs => match k with
    | .tabs => .tuple [.str "tabs", .int n, .tuple (encT cs)]
    | k => .tuple [.str (kdS k), .tuple (encP cs)]
def encT : List (Int × T) → List PyData
  | [] => []
  | (_, t) :: r => enc t :: encT r
def encP : List (Int × T) → List PyData
  | [] => []
  | (w, t) :: r => .tuple [.int w, enc t] :: encP r
end
mutual
def hT : T → Nat
  | .win _ => 0
  | .nd _ _ cs => hC cs + 1
def hC : List (Int × T) → Nat
  | [] => 0
  | (_, t) :: r => max (hT t) (hC r)
end
mutual
def zT : T → Nat
  | .win _ => 1
  | .nd _ _ cs => zC cs + 1
def zC : List (Int × T) → Nat
  | [] => 0
  | (_, t) :: r => zT t + zC r
end
mutual
def nmT : T → List Str
  | .win s => [s]
  | .nd _ _ cs => nmC cs
def nmC : List (Int × T) → List Str
  | [] => []
  | (_, t) :: r => nmT t ++ nmC r
end
theorem zT_pos : ∀ t, 1 ≤ zT t
  | .win _ => by simp [zT]
  | .nd _ _ _ => by simp [zT]
theorem encT_len : ∀ cs : Cs, (encT cs).length = cs.length
  | [] => by simp [encT]
  | (_, t) :: r => by simp [encT, encT_len r]
theorem encP_len : ∀ cs : Cs, (encP cs).length = cs.length
  | [] => by simp [encP]
  | (_, t) :: r => by simp [encP, encP_len r]
theorem len_zC : ∀ cs : Cs, cs.length ≤ zC cs
  | [] => by simp [zC]
  | (_, t) :: r => by have := zT_pos t; have := len_zC r; simp [zC]; omega
mutual
theorem nm_z : ∀ t : T, (nmT t).length ≤ zT t
  | .win s => by simp [nmT, zT]
  | .nd k n cs => by have := nmC_z cs; simp [nmT, zT]; omega
theorem nmC_z : ∀ cs : List (Int × T), (nmC cs).length ≤ zC cs
  | [] => by simp [nmC]
  | (_, t) :: r => by have := nm_z t; have := nmC_z r; simp [nmC, zC]; omega
end
mutual
theorem dn_mono : ∀ (d : PyData) {n m : Nat}, dn n d = true → n ≤ m → dn m d = true
  | .none, _, _, _, _ => by simp
  | .bool _, _, _, _, _ => by simp
  | .int _, _, _, _, _ => by simp
  | .str _, _, _, _, _ => by simp
  | .dict _, n, m, h, _ => by cases n <;> simp [dn] at h
  | .list xs, 0, m, h, _ => by simp [dn] at h
  | .tuple xs, 0, m, h, _ => by simp [dn] at h
  | .list xs, n + 1, 0, h, l => by omega
  | .tuple xs, n + 1, 0, h, l => by omega
  | .list xs, n + 1, m + 1, h, l => by
    have h' : dnA n xs = true := by simpa [dn] using h
    have := dnA_mono xs h' (show n ≤ m by omega)
    simpa [dn] using this
  | .tuple xs, n + 1, m + 1, h, l => by
    have h' : dnA n xs = true := by simpa [dn] using h
    have := dnA_mono xs h' (show n ≤ m by omega)
    simpa [dn] using this
theorem dnA_mono : ∀ (ds : List PyData) {n m : Nat}, dnA n ds = true → n ≤ m → dnA m ds = true
  | [], _, _, _, _ => by simp [dnA]
  | d :: ds, n, m, h, l => by
    rw [dnA, Bool.and_eq_true] at h ⊢
    exact ⟨dn_mono d h.1 l, dnA_mono ds h.2 l⟩
end
mutual
theorem dnT : ∀ t : T, dn (3 * hT t + 1) (enc t) = true
  | .win s => by simp [enc, hT]
  | .nd k n cs => by
    have a := dnT_C cs
    have b := dnP_C cs
    have e : 3 * hT (.nd k n cs) + 1 = (3 * hC cs + 2) + 1 + 1 := by simp [hT]; omega
    rw [e]
    cases k
    · simp only [enc, dn_tup, List.all_cons, List.all_nil, dn_str, Bool.true_and, Bool.and_true]
      exact b
    · simp only [enc, dn_tup, List.all_cons, List.all_nil, dn_str, Bool.true_and, Bool.and_true]
      exact b
    · simp only [enc, dn_tup, List.all_cons, List.all_nil, dn_str, dn_int, Bool.true_and, Bool.and_true]
      rw [← dnA_all] at a ⊢
      exact dnA_mono _ a (by omega)
theorem dnT_C : ∀ cs : List (Int × T), (encT cs).all (dn (3 * hC cs + 1)) = true
  | [] => by simp [encT]
  | (_, t) :: r => by
    have a := dnT t
    have b := dnT_C r
    rw [← dnA_all] at b ⊢
    rw [encT, dnA, Bool.and_eq_true]
    have l1 : hT t ≤ hC ((‹Int›, t) :: r) := by simp [hC]; omega
    have l2 : hC r ≤ hC ((‹Int›, t) :: r) := by simp [hC]; omega
    exact ⟨dn_mono _ a (by omega), dnA_mono _ b (by omega)⟩
theorem dnP_C : ∀ cs : List (Int × T), (encP cs).all (dn (3 * hC cs + 2)) = true
  | [] => by simp [encP]
  | (w, t) :: r => by
    have a := dnT t
    have b := dnP_C r
    rw [← dnA_all] at b ⊢
    rw [encP, dnA, Bool.and_eq_true]
    have l1 : hT t ≤ hC ((w, t) :: r) := by simp [hC]; omega
    have l2 : hC r ≤ hC ((w, t) :: r) := by simp [hC]; omega
    refine ⟨?_, dnA_mono _ b (by omega)⟩
    have e : 3 * hC ((w, t) :: r) + 2 = (3 * hC ((w, t) :: r) + 1) + 1 := rfl
    rw [e]
    simp only [dn_tup, List.all_cons, List.all_nil, dn_int, Bool.true_and, Bool.and_true]
    exact dn_mono _ a (by omega)
end
theorem dn60 {t : T} (h : hT t ≤ 19) : dn 60 (enc t) = true := dn_mono _ (dnT t) (by omega)
/-! ### tools -/
theorem lcL_of {b : Bd} {t : Dl → Re Bool} {e : Dl → Re PyData} {δ : Dl} (p : PyData → Bool) (f : PyData → PyData) : ∀ ds : List PyData, (∀ d ∈ ds, ∃ δ1, b d δ = some δ1 ∧ t δ1 = .ok (p d) ∧ (p d = true → e δ1 = .ok (f d))) → lcL b t e δ ds = .ok ((ds.filter p).map f)
  | [], _ => by simp
  | d :: ds, h => by
    obtain ⟨δ1, e1, e2, e3⟩ := h d List.mem_cons_self
    have ih := lcL_of p f ds fun d' hd' => h d' (List.mem_cons_of_mem _ hd')
    unfold lcL
    simp only [e1, e2, nxR_ok, bnd_ok, ih]
    by_cases hp : p d = true
    · simp [hp, e3 hp]
    · simp [hp]
theorem lcL_map {b : Bd} {e : Dl → Re PyData} {δ : Dl} (f : PyData → PyData) (ds : List PyData) (h : ∀ d ∈ ds, ∃ δ1, b d δ = some δ1 ∧ e δ1 = .ok (f d)) : lcL b yesT e δ ds = .ok (ds.map f) := by
  rw [lcL_of (fun _ => true) f ds fun d hd => by
    obtain ⟨δ1, e1, e2⟩ := h d hd
    exact ⟨δ1, e1, rfl, fun _ => e2⟩]
  rw [List.filter_eq_self.mpr (fun _ _ => rfl)]
def csOf : T → Cs
  | .win _ => []
  | .nd _ _ cs => cs
theorem encP_get {cs : Cs} : ∀ {d : PyData}, d ∈ encP cs → ∃ w t, d = .tuple [.int w, enc t] ∧ (w, t) ∈ cs := by
  induction cs with
  | nil => intro d h; simp [encP] at h
  | cons p r ih =>
    obtain ⟨w, t⟩ := p
    intro d h
    rw [encP] at h
    rcases List.mem_cons.mp h with e | h
    · exact ⟨w, t, e, List.mem_cons_self⟩
    · obtain ⟨w', t', e, m⟩ := ih h
      exact ⟨w', t', e, List.mem_cons_of_mem _ m⟩
end KL
end
section
namespace VS
open PySem PySem.Spec PyProof.Rows L2
/-- a loop by its invariant -/
theorem goS_inv {b : Bd} {body : Dl → RS} (P : Nat → Dl → Prop) : ∀ (ds : List D) (i : Nat) (δ : Dl), P i δ → (∀ (j : Nat) (d : D) (δ : Dl), ds[j]? = some d → P (i + j) δ → ∃ δ1 δ2, b d δ = some δ1 ∧ (body δ1 = .nx δ2 ∨ body δ1 = .ct δ2) ∧ P (i + j + 1) δ2) →
    ∃ δ', goS b body ds δ = .nx δ' ∧ P (i + ds.length) δ'
  | [], i, δ, h, _ => ⟨δ, rfl, h⟩
  | d :: ds, i, δ, h, st => by
    obtain ⟨δ1, δ2, e1, e2, h2⟩ := st 0 d δ rfl h
    obtain ⟨δ', e3, h3⟩ := goS_inv P ds (i + 1) δ2 (by simpa using h2) fun j d' δ hj hp => by
      have := st (j + 1) d' δ (by simpa using hj) (by rw [show i + (j + 1) = i + 1 + j by omega]; exact hp)
      rw [show i + 1 + j + 1 = i + (j + 1) + 1 by omega]
      exact this
    refine ⟨δ', ?_, by rw [List.length_cons, show i + (ds.length + 1) = i + 1 + ds.length by omega]; exact h3⟩
    unfold goS
    rw [e1]
    rcases e2 with e2 | e2 <;> simp only [e2, e3]
theorem goS_inv0 {b : Bd} {body : Dl → RS} (P : Nat → Dl → Prop) {ds : List D} {δ : Dl} (h : P 0 δ) (st : ∀ (j : Nat) (d : D) (δ : Dl), ds[j]? = some d → P j δ → ∃ δ1 δ2, b d δ = some δ1 ∧ (body δ1 = .nx δ2 ∨ body δ1 = .ct δ2) ∧ P (j + 1) δ2) :
    ∃ δ', goS b body ds δ = .nx δ' ∧ P ds.length δ' := by
  have := goS_inv P ds 0 δ h fun j d δ hj hp => by
    have := st j d δ hj (by simpa using hp)
    simpa using this
  simpa using this
/-- items of a range -/
theorem rng_at {n j : Nat} {d : D} (h : ((List.range n).map fun k => (PyData.int (0 + (k : Nat)) : D))[j]? = some d) : j < n ∧ d = .int (j : Nat) := by
  by_cases hl : j < n
  · rw [List.getElem?_map, List.getElem?_eq_getElem (by simpa using hl)] at h
    simp at h
    exact ⟨hl, h.symm⟩
  · rw [List.getElem?_eq_none (by simp; omega)] at h
    cases h
/-! ### texts in order -/
abbrev sLt (a b : Str) : Prop := a.cps.toList < b.cps.toList
@[simp] theorem ev_ltS (i j : Str) : ltD (.str i) (.str j) = .ok (.bool (decide (sLt i j))) := by
  unfold ltD ltOk
  simp [PySem.W.alike, isN, PySem.W.dataLt_str]
theorem str_ext {a b : Str} (h : a.cps.toList = b.cps.toList) : a = b := by
  cases a; cases b
  congr 1
  exact Array.toList_inj.mp h
def sLe (a b : Str) : Bool := decide (a.cps.toList ≤ b.cps.toList)
def sortS (xs : List Str) : List Str := xs.mergeSort sLe
theorem sortS_perm (xs : List Str) : (sortS xs).Perm xs := List.mergeSort_perm _ _
theorem sLe_iff {a b : Str} : sLe a b = true ↔ ¬ sLt b a := by
  unfold sLe sLt
  rw [decide_eq_true_eq]
  exact Iff.rfl
theorem lst_antisymm {a b : List Nat} (h1 : ¬ a < b) (h2 : ¬ b < a) : a = b := List.le_antisymm (fun h => h2 h) (fun h => h1 h)
theorem sLt_of {a b : Str} (h : sLe a b = true) (n : a ≠ b) : sLt a b := by
  rw [sLe_iff] at h
  rcases Classical.em (sLt a b) with q | q
  · exact q
  · exact (n (str_ext (lst_antisymm q h))).elim
theorem sortS_pw (xs : List Str) : (sortS xs).Pairwise fun a b => sLe a b = true := by
  refine List.pairwise_mergeSort (le := sLe) (fun a b c => ?_) (fun a b => ?_) xs
  · unfold sLe
    simp only [decide_eq_true_eq]
    exact fun h1 h2 => List.le_trans h1 h2
  · unfold sLe
    rw [Bool.or_eq_true, decide_eq_true_eq, decide_eq_true_eq]
    exact List.le_total _ _
theorem sortL_str (xs : List Str) : sortL (xs.map .str) = (sortS xs).map .str := by
  unfold sortL sortS
  have := List.map_mergeSort (r := sLe) (s := PySem.W.dataLe false id) (f := fun s : Str => (PyData.str s : PyData)) (l := xs) fun a _ b _ => by
    have e := congrFun (congrFun (PySem.W.dataLe_str (fun s : Str => s)) a) b
    exact e.symm
  exact this.symm
theorem sortOk_str (xs : List Str) (h : xs.length ≤ sizeLine) : sortOk (xs.map .str) = true := by
  unfold sortOk
  simp [h, PySem.W.alike, notTN]
theorem ev_sortS (xs : List Str) (h : xs.length ≤ sizeLine) : sortedD [.list (xs.map .str)] = .ok (.list ((sortS xs).map .str)) := by
  unfold sortedD
  simp only
  rw [if_pos (sortOk_str xs h), sortL_str]
/-- two sorted rows of the same texts are one -/
theorem sortS_eq {xs ys : List Str} (p : ys.Perm xs) (s : ys.Pairwise fun a b => sLe a b = true) : sortS xs = ys := by
  refine List.Perm.eq_of_pairwise (le := fun a b => sLe a b = true) (fun a b _ _ h1 h2 => ?_) (sortS_pw xs) s ((sortS_perm xs).trans p.symm)
  rw [sLe_iff] at h1 h2
  exact str_ext (lst_antisymm h2 h1)
/-! ### a value is itself -/
mutual
theorem eqv_dn : ∀ (d : PyData) (n : Nat), dn n d = true → PyData.eqv d d = true
  | .none, _, _ => by simp [PyData.eqv]
  | .bool _, _, _ => by simp [PyData.eqv]
  | .int _, _, _ => by simp [PyData.eqv]
  | .str _, _, _ => by simp [PyData.eqv]
  | .dict _, n, h => by cases n <;> simp [dn] at h
  | .list xs, 0, h => by simp [dn] at h
  | .tuple xs, 0, h => by simp [dn] at h
  | .list xs, n + 1, h => by
    have h' : dnA n xs = true := by simpa [dn] using h
    have := eqvA_dn xs n h'
    simp [PyData.eqv, this]
  | .tuple xs, n + 1, h => by
    have h' : dnA n xs = true := by simpa [dn] using h
    have := eqvA_dn xs n h'
    simp [PyData.eqv, this]
theorem eqvA_dn : ∀ (ds : List PyData) (n : Nat), dnA n ds = true → PyData.eqvAll ds ds = true
  | [], _, _ => by simp [PyData.eqvAll]
  | d :: ds, n, h => by
    rw [dnA, Bool.and_eq_true] at h
    simp [PyData.eqvAll, eqv_dn d n h.1, eqvA_dn ds n h.2]
end
theorem ne_self {d : PyData} (h : dn 60 d = true) : neD d d = .ok (.bool false) := by rw [neD_of h h, eqv_dn d 60 h]; rfl
theorem eq_self {d : PyData} (h : dn 60 d = true) : eqD d d = .ok (.bool true) := by rw [eqD_of h h, eqv_dn d 60 h]
theorem dn_strs (ns : List Str) : dn 60 (.list (ns.map .str)) = true := by simp
theorem dn_strsT (ns : List Str) : dn 60 (.tuple (ns.map .str)) = true := by simp
end VS
end
section
namespace VS
open PySem PySem.Spec PyProof.Rows L2
/-- a comprehension over values that are made of others -/
theorem lcL_on {α : Type} {b : Bd} {t : Dl → Re Bool} {e : Dl → Re PyData} {δ : Dl} (g : α → PyData) (p : α → Bool) (f : α → PyData) : ∀ xs : List α, (∀ a ∈ xs, ∃ δ1, b (g a) δ = some δ1 ∧ t δ1 = .ok (p a) ∧ (p a = true → e δ1 = .ok (f a))) → lcL b t e δ (xs.map g) = .ok ((xs.filter p).map f)
  | [], _ => by simp
  | a :: xs, h => by
    obtain ⟨δ1, e1, e2, e3⟩ := h a List.mem_cons_self
    have ih := lcL_on g p f xs fun a' ha' => h a' (List.mem_cons_of_mem _ ha')
    rw [List.map_cons]
    unfold lcL
    simp only [e1, e2, nxR_ok, bnd_ok, ih]
    by_cases hp : p a = true
    · simp [hp, e3 hp]
    · simp [hp]
theorem lcL_all {α : Type} {b : Bd} {e : Dl → Re PyData} {δ : Dl} (g : α → PyData) (f : α → PyData) (xs : List α) (h : ∀ a ∈ xs, ∃ δ1, b (g a) δ = some δ1 ∧ e δ1 = .ok (f a)) : lcL b yesT e δ (xs.map g) = .ok (xs.map f) := by
  rw [lcL_on g (fun _ => true) f xs fun a ha => by
    obtain ⟨δ1, e1, e2⟩ := h a ha
    exact ⟨δ1, e1, rfl, fun _ => e2⟩]
  rw [List.filter_eq_self.mpr (fun _ _ => rfl)]
/-- a range's items, as numbers -/
def nums (n : Nat) : List PyData := (List.range n).map fun k => .int (0 + (k : Nat))
theorem rng1_n (m : Nat) (hm : m ≤ 100000) : rng1D [PyData.int (m : Nat)] = .ok (nums m) := by
  have h : -(2 ^ 62) ≤ ((m : Nat) : Int) ∧ ((m : Nat) : Int) < 2 ^ 62 := by omega
  unfold rng1D nums
  simp only
  rw [if_pos h, Int.toNat_natCast]
theorem nums_len (n : Nat) : (nums n).length = n := by simp [nums]
theorem nums_at {n j : Nat} {d : D} (h : (nums n)[j]? = some d) : j < n ∧ d = .int (j : Nat) := rng_at h
theorem in_strL (s : Str) (xs : List Str) : inD (.str s) (.list (xs.map .str)) = .ok (.bool (decide (s ∈ xs))) := by
  show (if dn 60 (.str s) = true ∧ dnA 60 (xs.map .str) = true then Re.ok (PyData.bool ((xs.map .str).any fun y => PyData.eqv y (.str s))) else .no) = _
  rw [if_pos (by simp [dnA_all])]
  congr 2
  rw [Bool.eq_iff_iff]
  simp [PyData.eqv, str_beq]
theorem in_strT (s : Str) (xs : List Str) : inD (.str s) (.tuple (xs.map .str)) = .ok (.bool (decide (s ∈ xs))) := by
  have := in_strL s xs
  exact this
theorem ev_addL {xs ys : List PyData} (h : xs.length + ys.length ≤ sizeLine) : addD (.list xs) (.list ys) = .ok (.list (xs ++ ys)) := by unfold addD; simp only; rw [if_pos h]
theorem ev_addT {xs ys : List PyData} (h : xs.length + ys.length ≤ sizeLine) : addD (.tuple xs) (.tuple ys) = .ok (.tuple (xs ++ ys)) := by unfold addD; simp only; rw [if_pos h]
end VS
end
section
open PySem PySem.Spec PyProof.Rows L2 VS
namespace KL
def wholeB : PyData → Int → Int → Bool
  | .int i, a, b => decide (a ≤ i) && decide (i ≤ b)
  | _, _, _ => false
theorem s_is_whole (k : Nat) (v : PyData) (a b : Int) : den (k + 1) I_is_whole [.sh v, .sh (.int a), .sh (.int b)] = .ok (.bool (wholeB v a b)) := by
  rw [den_is_whole]
  cases v <;> simp [b_0, isT, wholeB]
  split <;> simp [*]
/-! ### the draws -/
def okDr (ds : List Int) : Prop := ∀ d ∈ ds, 0 ≤ d ∧ d < 65521
abbrev I2 (ds : List Int) : PyData := .list (ds.map .int)
theorem okDr_app {ds : List Int} {d : Int} (h : okDr ds) (h0 : 0 ≤ d) (h1 : d < 65521) : okDr (ds ++ [d]) := fun x hx => by
  rcases List.mem_append.mp hx with hx | hx
  · exact h x hx
  · have : x = d := by simpa using hx
    subst this; exact ⟨h0, h1⟩
def inner60 : Dl → RS := (ifS (tB1 (d2 gtD (gS 5) (kC (.int 0)))) (seqS (appS 2 (d2 modI (dA (argsF [(gS 5)]) intD) (kC (.int 1009)))) (setS 5 (d2 fdivI (gS 5) (kC (.int 1009))))) nxS)
theorem inner60_go : ∀ (js : List PyData) (x0 x1 s3 s4 s6 : Sl) (ds : List Int) (num : Int), okDr ds → 0 ≤ num → ds.length + js.length < sizeLine →
    ∃ ds' num' s6', goS (bN 6) inner60 js [x0, x1, .ow (I2 ds), s3, s4, .sh (.int num), s6] = .nx [x0, x1, .ow (I2 ds'), s3, s4, .sh (.int num'), s6'] ∧ okDr ds' ∧ ds'.length ≤ ds.length + js.length
  | [], x0, x1, s3, s4, s6, ds, num, ok, _, _ => ⟨ds, num, s6, rfl, ok, Nat.le_refl _⟩
  | j :: js, x0, x1, s3, s4, s6, ds, num, ok, h0, hz => by
    have hz' : ds.length + 1 + js.length < sizeLine := by simpa [Nat.add_assoc, Nat.add_comm, Nat.add_left_comm] using hz
    unfold goS
    simp only [ev_bN]
    by_cases hp : 0 < num
    · have e1 : inner60 [x0, x1, .ow (I2 ds), s3, s4, .sh (.int num), .sh j] = .nx [x0, x1, .ow (I2 (ds ++ [num % 1009])), s3, s4, .sh (.int (num / 1009)), .sh j] := by
        unfold inner60
        simp [hp, ev_fdiv]
        rw [ev_app (xs := ds.map .int) (d := .int (num % 1009)) rfl (by simp [ev_mod]) (by rw [List.length_map]; omega)]
        simp [ev_fdiv]
      simp only [List.set_cons_succ, List.set_cons_zero]
      rw [e1]
      obtain ⟨ds', num', s6', e, ok', hl⟩ := inner60_go js x0 x1 s3 s4 (.sh j) (ds ++ [num % 1009]) (num / 1009) (okDr_app ok (by omega) (by omega)) (by omega) (by simp; omega)
      exact ⟨ds', num', s6', e, ok', by simp at hl ⊢; omega⟩
    · have e1 : inner60 [x0, x1, .ow (I2 ds), s3, s4, .sh (.int num), .sh j] = .nx [x0, x1, .ow (I2 ds), s3, s4, .sh (.int num), .sh j] := by
        unfold inner60
        simp [hp]
      simp only [List.set_cons_succ, List.set_cons_zero]
      rw [e1]
      obtain ⟨ds', num', s6', e, ok', hl⟩ := inner60_go js x0 x1 s3 s4 (.sh j) ds num ok h0 (by omega)
      exact ⟨ds', num', s6', e, ok', by simp; omega⟩

def bodyCell : Dl → RS := (seqS (setS 5 (dA (argsF [(gS 4)]) absD)) (seqS (setS 3 (d2 modI (dA (argsF [(d2 addD (d2 addD (d2 mulI (gS 3) (kC (.int 48271))) (gS 5)) (kC (.int 11)))]) intD) (kC (.int 2147483647)))) (ifS (tB1 (d2 geD (gS 5) (d2 powI (kC (.int 10)) (kC (.int 18))))) (forS (dAL (argsF [(kC (.int 60))]) rng1D) (bN 6) inner60) (appS 2 (d2 modI (d2 fdivI (dA (argsF [(d2 addD (d2 mulI (gS 3) (kC (.int 16807))) (kC (.int 5)))]) intD) (kC (.int 3))) (kC (.int 65521)))))))
theorem pow18 : powI (.int 10) (.int 18) = .ok (.int (10 ^ 18)) := by
  unfold powI
  simp only
  rw [if_pos (by unfold CPow; decide)]
  rfl
theorem cell_go : ∀ (cs : List Int) (x0 x1 s4 s5 s6 : Sl) (ds : List Int) (seed : Int), okDr ds → 0 ≤ seed → seed < 2147483647 → ds.length + 60 * cs.length < sizeLine →
    ∃ ds' seed' s4' s5' s6', goS (bN 4) bodyCell (cs.map .int) [x0, x1, .ow (I2 ds), .sh (.int seed), s4, s5, s6] = .nx [x0, x1, .ow (I2 ds'), .sh (.int seed'), s4', s5', s6'] ∧ okDr ds' ∧ ds'.length ≤ ds.length + 60 * cs.length ∧ 0 ≤ seed' ∧ seed' < 2147483647
  | [], x0, x1, s4, s5, s6, ds, seed, ok, h0, h1, _ => ⟨ds, seed, s4, s5, s6, rfl, ok, by simp, h0, h1⟩
  | c :: cs, x0, x1, s4, s5, s6, ds, seed, ok, h0, h1, hz => by
    rw [List.length_cons] at hz
    have hz' : ds.length + 60 + 60 * cs.length < sizeLine := by omega
    have step : ∃ ds1 seed1 s5' s6', bodyCell [x0, x1, .ow (I2 ds), .sh (.int seed), .sh (.int c), s5, s6] = .nx [x0, x1, .ow (I2 ds1), .sh (.int seed1), .sh (.int c), s5', s6'] ∧ okDr ds1 ∧ ds1.length ≤ ds.length + 60 ∧ 0 ≤ seed1 ∧ seed1 < 2147483647 := by
      generalize hn : (if c < 0 then -c else c) = num
      have hnum : 0 ≤ num := by split at hn <;> omega
      have e0 : (seed * 48271 + num + 11) % 2147483647 < 2147483647 := Int.emod_lt_of_pos _ (by decide)
      have e1 : 0 ≤ (seed * 48271 + num + 11) % 2147483647 := Int.emod_nonneg _ (by decide)
      unfold bodyCell
      simp only [ev_seq, ev_set, ev_dA, ev_args, ev_args0, gS_succ, gS_zero, bnd_ok, ev_absI, toS_ok, rsb_nx, List.set_cons_succ, List.set_cons_zero, hn, ev_d2, ev_k, ev_mul (.inl (show -(2 ^ 64) < seed ∧ seed < 2 ^ 64 by omega)), ev_addI, ev_intI, ev_mod (show (0 : Int) < 2147483647 by decide), ev_if, ev_tB1, pow18, ev_geI, ev_asB]
      generalize (seed * 48271 + num + 11) % 2147483647 = seed1 at e0 e1 ⊢
      by_cases hb : (10 : Int) ^ 18 ≤ num
      · rw [decide_eq_true hb, if_pos rfl]
        have er : rng1D [PyData.int 60] = .ok ((List.range 60).map fun k => .int (0 + (k : Nat))) := by
          unfold rng1D
          simp
        simp only [ev_for, ev_dAL, ev_args, ev_args0, ev_k, bnd_ok, er, toS_ok]
        obtain ⟨ds', num', s6', e, ok', hl⟩ := inner60_go ((List.range 60).map fun k => .int (0 + (k : Nat))) x0 x1 (.sh (.int seed1)) (.sh (.int c)) s6 ds num ok hnum (by simp; omega)
        exact ⟨ds', seed1, _, s6', e, ok', by simpa using hl, e1, e0⟩
      · rw [decide_eq_false hb, if_neg Bool.false_ne_true]
        rw [ev_app (xs := ds.map .int) (d := .int ((seed1 * 16807 + 5) / 3 % 65521)) rfl (by simp [ev_mul (.inl (show -(2 ^ 64) < seed1 ∧ seed1 < 2 ^ 64 by omega)), ev_fdiv, ev_mod]) (by rw [List.length_map]; omega)]
        refine ⟨ds ++ [(seed1 * 16807 + 5) / 3 % 65521], seed1, .sh (.int num), s6, ?_, okDr_app ok (Int.emod_nonneg _ (by decide)) (Int.emod_lt_of_pos _ (by decide)), by simp, e1, e0⟩
        simp
    obtain ⟨ds1, seed1, s5', s6', e, ok1, l1, h2, h3⟩ := step
    rw [List.map_cons]
    unfold goS
    simp only [ev_bN, List.set_cons_succ, List.set_cons_zero]
    rw [e]
    obtain ⟨ds', seed', t4, t5, t6, e', ok', hl, h4, h5⟩ := cell_go cs x0 x1 (.sh (.int c)) s5' s6' ds1 seed1 ok1 h2 h3 (by omega)
    exact ⟨ds', seed', t4, t5, t6, e', ok', by rw [List.length_cons]; omega, h4, h5⟩
def bodyMany : Dl → RS := (ifS (tB1 (d2 ltD (dA (argsF [(gB 2)]) lenD) (gS 1))) (seqS (setS 3 (d2 modI (dA (argsF [(d2 addD (d2 addD (d2 mulI (gS 3) (kC (.int 69621))) (gS 6)) (kC (.int 1)))]) intD) (kC (.int 2147483647)))) (appS 2 (d2 modI (d2 fdivI (dA (argsF [(gS 3)]) intD) (kC (.int 7))) (kC (.int 65521))))) nxS)
theorem many_go (m : Nat) : ∀ (js : List Nat) (x0 s4 s5 s6 : Sl) (ds : List Int) (seed : Int), okDr ds → 0 ≤ seed → seed < 2147483647 → ds.length + js.length < sizeLine →
    ∃ ds' seed' s6', goS (bN 6) bodyMany (js.map fun k => .int (0 + (k : Nat))) [x0, .sh (.int (m : Nat)), .ow (I2 ds), .sh (.int seed), s4, s5, s6] = .nx [x0, .sh (.int (m : Nat)), .ow (I2 ds'), .sh (.int seed'), s4, s5, s6'] ∧ okDr ds' ∧ min m (ds.length + js.length) ≤ ds'.length ∧ ds'.length ≤ ds.length + js.length
  | [], x0, s4, s5, s6, ds, seed, ok, h0, h1, _ => ⟨ds, seed, s6, rfl, ok, by simp; omega, by simp⟩
  | j :: js, x0, s4, s5, s6, ds, seed, ok, h0, h1, hz => by
    rw [List.length_cons] at hz
    rw [List.map_cons]
    unfold goS
    simp only [ev_bN, List.set_cons_succ, List.set_cons_zero]
    by_cases hl : (ds.length : Int) < (m : Nat)
    · have e0 : (seed * 69621 + (0 + (j : Nat)) + 1) % 2147483647 < 2147483647 := Int.emod_lt_of_pos _ (by decide)
      have e1 : 0 ≤ (seed * 69621 + (0 + (j : Nat)) + 1) % 2147483647 := Int.emod_nonneg _ (by decide)
      have e : bodyMany [x0, .sh (.int (m : Nat)), .ow (I2 ds), .sh (.int seed), s4, s5, .sh (.int (0 + (j : Nat)))] = .nx [x0, .sh (.int (m : Nat)), .ow (I2 (ds ++ [(seed * 69621 + (0 + (j : Nat)) + 1) % 2147483647 / 7 % 65521])), .sh (.int ((seed * 69621 + (0 + (j : Nat)) + 1) % 2147483647)), s4, s5, .sh (.int (0 + (j : Nat)))] := by
        unfold bodyMany
        simp only [ev_if, ev_tB1, ev_d2, ev_dA, ev_args, ev_args0, gB_succ, gB_zero', gS_succ, gS_zero, bnd_ok, ev_lenL, List.length_map, ev_ltI, ev_asB, toS_ok, decide_eq_true hl, if_true]
        simp only [ev_seq, ev_set, ev_dA, ev_args, ev_args0, gS_succ, gS_zero, bnd_ok, toS_ok, rsb_nx, List.set_cons_succ, List.set_cons_zero, ev_d2, ev_k, ev_mul (.inl (show -(2 ^ 64) < seed ∧ seed < 2 ^ 64 by omega)), ev_addI, ev_intI, ev_mod (show (0 : Int) < 2147483647 by decide)]
        generalize (seed * 69621 + (0 + (j : Nat)) + 1) % 2147483647 = seed1 at e0 e1 ⊢
        rw [ev_app (xs := ds.map .int) (d := .int (seed1 / 7 % 65521)) rfl (by simp [ev_fdiv, ev_mod]) (by rw [List.length_map]; omega)]
        simp
      rw [e]
      obtain ⟨ds', seed', s6', e', ok', l1, l2⟩ := many_go m js x0 s4 s5 (.sh (.int (0 + (j : Nat)))) _ _ (okDr_app ok (Int.emod_nonneg _ (by decide)) (Int.emod_lt_of_pos _ (by decide))) e1 e0 (by simp; omega)
      exact ⟨ds', seed', s6', e', ok', by simp at l1 ⊢; omega, by simp at l2 ⊢; omega⟩
    · have e : bodyMany [x0, .sh (.int (m : Nat)), .ow (I2 ds), .sh (.int seed), s4, s5, .sh (.int (0 + (j : Nat)))] = .nx [x0, .sh (.int (m : Nat)), .ow (I2 ds), .sh (.int seed), s4, s5, .sh (.int (0 + (j : Nat)))] := by
        unfold bodyMany
        simp only [ev_if, ev_tB1, ev_d2, ev_dA, ev_args, ev_args0, gB_succ, gB_zero', gS_succ, gS_zero, bnd_ok, ev_lenL, List.length_map, ev_ltI, ev_asB, toS_ok, decide_eq_false hl, if_neg Bool.false_ne_true, ev_nx]
      rw [e]
      obtain ⟨ds', seed', s6', e', ok', l1, l2⟩ := many_go m js x0 s4 s5 (.sh (.int (0 + (j : Nat)))) ds seed ok h0 h1 (by omega)
      exact ⟨ds', seed', s6', e', ok', by simp; omega, by simp; omega⟩
theorem cut_len (xs : List PyData) (n : Nat) : cutD xs none (some (n : Int)) = xs.take n := by
  unfold VS.cutD
  rw [HT.sIx_none, HT.sIx_nat, List.drop_zero, Nat.sub_zero, List.take_eq_take_iff]
  omega
theorem rng1_ok (m : Nat) (hm : m ≤ 100000) : rng1D [PyData.int (m : Nat)] = .ok ((List.range m).map fun k => .int (0 + (k : Nat))) := by
  have h : -(2 ^ 62) ≤ ((m : Nat) : Int) ∧ ((m : Nat) : Int) < 2 ^ 62 := by omega
  unfold rng1D
  simp only
  rw [if_pos h, Int.toNat_natCast]
theorem cut63 (ns : List Int) : VS.cutD (ns.map .int) none (some 63) = (ns.take 63).map .int := by
  have := cut_len (ns.map .int) 63
  rw [← List.map_take] at this
  exact this
theorem draws_body (c : Nat → List Sl → Re PyData) : b_17 c = (seqS (setO 2 (dA (argsF []) lstD)) (seqS (setS 3 (kC (.int 7))) (seqS (forS (d1L itemsD (dScrSl 0 63)) (bN 4) bodyCell) (seqS (forS (dAL (argsF [(gS 1)]) rng1D) (bN 6) bodyMany) (retS (dSl slL (gB 2) noP (someP (gS 1)))))))) := rfl
theorem draws_ret (m : Nat) (ds2 : List Int) (a b c d e : Sl) : outR (retS (dSl slL (gB 2) noP (someP (gS 1))) [a, .sh (.int (m : Nat)), .ow (I2 ds2), b, c, d, e]) = .ok (.list ((ds2.take m).map .int)) := by
  simp only [ev_ret]
  unfold dSl
  simp only [gB_succ, gB_zero', bnd_ok, noP, someP, gS_succ, gS_zero, asI]
  unfold slL
  simp only [bnd_ok, toS_ok, outR_rt, cut_len, List.map_take]
theorem s_draws (k : Nat) (ns : List Int) (m : Nat) (hm : m ≤ 100000) : ∃ ds : List Int, den (k + 1) I__law_draws [.br ns, .sh (.int (m : Nat))] = .ok (.list (ds.map .int)) ∧ ds.length = m ∧ okDr ds := by
  have hs : sizeLine = 16777216 := sz_line
  have lt := List.length_take_le 63 ns
  obtain ⟨ds1, seed1, t4, t5, t6, e1, ok1, l1, h1, h2⟩ := cell_go (ns.take 63) (.br ns) (.sh (.int (m : Nat))) .no .no .no [] 7 (fun _ h => nomatch h) (by decide) (by decide) (by rw [List.length_nil]; omega)
  have l1' : ds1.length ≤ 60 * 63 := by rw [List.length_nil] at l1; omega
  have lr : (List.range m).length = m := List.length_range
  obtain ⟨ds2, seed2, t6', e2, ok2, l2, l3⟩ := many_go m (List.range m) (.br ns) t4 t5 t6 ds1 seed1 ok1 h1 h2 (by omega)
  refine ⟨ds2.take m, ?_, by rw [List.length_take]; omega, fun d hd => ok2 d (List.mem_of_mem_take hd)⟩
  rw [den__law_draws, draws_body]
  have es : dScrSl 0 63 [Sl.br ns, .sh (.int (m : Nat)), .ow (.list []), .sh (.int 7), .no, .no, .no] = .ok (.list (VS.cutD (ns.map .int) none (some 63))) := rfl
  have e3 : forS (dAL (argsF [(gS 1)]) rng1D) (bN 6) bodyMany [Sl.br ns, .sh (.int (m : Nat)), .ow (I2 ds1), .sh (.int seed1), t4, t5, t6] = .nx [Sl.br ns, .sh (.int (m : Nat)), .ow (I2 ds2), .sh (.int seed2), t4, t5, t6'] := by
    simp only [ev_for, ev_dAL, ev_args, ev_args0, gS_succ, gS_zero, bnd_ok, rng1_ok m hm, toS_ok]
    exact e2
  have e4 : forS (d1L itemsD (dScrSl 0 63)) (bN 4) bodyCell [Sl.br ns, .sh (.int (m : Nat)), .ow (.list []), .sh (.int 7), .no, .no, .no] = .nx [Sl.br ns, .sh (.int (m : Nat)), .ow (I2 ds1), .sh (.int seed1), t4, t5, t6] := by
    simp only [ev_for, ev_d1L, es, cut63, bnd_ok, ev_items_l, toS_ok]
    exact e1
  have st : [Sl.br ns, Sl.sh (.int (m : Nat))] ++ List.replicate 5 Sl.no = [Sl.br ns, .sh (.int (m : Nat)), .no, .no, .no, .no, .no] := rfl
  rw [st]
  simp only [ev_seq, ev_setO, ev_set, ev_dA, ev_args0, bnd_ok, ev_lst0, toS_ok, rsb_nx, List.set_cons_succ, List.set_cons_zero, ev_k, e4, e3]
  exact draws_ret m ds2 _ _ _ _ _
end KL
end
section
open PySem PySem.Spec PyProof.Rows L2 VS
namespace KL
/-! ### ascending texts -/
def ascS : List Str → Bool
  | [] => true
  | [_] => true
  | a :: b :: r => decide (sLt a b) && ascS (b :: r)
theorem zip_asc : ∀ xs : List Str, (zipUp (xs.map .str) ((xs.drop 1).map .str)).map (fun d => match d with | .tuple [.str a, .str b] => (PyData.bool (decide (sLt a b)) : PyData) | d => d) = ((xs.zip (xs.drop 1)).map fun p => .bool (decide (sLt p.1 p.2)))
  | [] => rfl
  | [a] => rfl
  | a :: b :: r => by
    have := zip_asc (b :: r)
    simp only [List.drop_succ_cons, List.drop_zero, List.map_cons, zipUp, List.zip_cons_cons] at this ⊢
    rw [this]
theorem asc_all : ∀ xs : List Str, ((xs.zip (xs.drop 1)).all fun p => decide (sLt p.1 p.2)) = ascS xs
  | [] => rfl
  | [a] => rfl
  | a :: b :: r => by
    have := asc_all (b :: r)
    simp only [List.drop_succ_cons, List.drop_zero, List.zip_cons_cons, List.all_cons, ascS] at this ⊢
    rw [this]
theorem all_b {α : Type} (f : α → Bool) (ds : List α) : allD [.list (ds.map fun a => PyData.bool (f a))] = .ok (.bool (ds.all f)) := by
  have e := blsOf_fn f ds
  show (ofO (blsOf (ds.map fun a => PyData.bool (f a)))).bnd _ = _
  rw [e]
  simp [List.all_map]
theorem any_b {α : Type} (f : α → Bool) (ds : List α) : anyD [.list (ds.map fun a => PyData.bool (f a))] = .ok (.bool (ds.any f)) := by
  have e := blsOf_fn f ds
  show (ofO (blsOf (ds.map fun a => PyData.bool (f a)))).bnd _ = _
  rw [e]
  simp [List.any_map]
theorem cut_from (xs : List PyData) (n : Nat) (h : n ≤ xs.length) : cutD xs (some (n : Int)) none = xs.drop n := by
  unfold VS.cutD
  rw [HT.sIx_nat, Nat.min_eq_left h]
  refine List.take_of_length_le ?_
  rw [List.length_drop]
  show xs.length - n ≤ HT.sIx xs.length xs.length none - n
  simp [HT.sIx]
theorem cut_from1 (xs : List PyData) : cutD xs (some 1) none = xs.drop 1 := by
  cases xs with
  | nil => rfl
  | cons a r => exact cut_from (a :: r) 1 (by simp)
theorem s_ascends (k : Nat) (xs : List Str) (hz : xs.length ≤ 1000000) : den (k + 1) I_ascends [.sh (.list (xs.map .str))] = .ok (.bool (ascS xs)) := by
  have hs : sizeLine = 16777216 := sz_line
  have e0 : den (k + 1) I_ascends [.sh (.list (xs.map .str))] = outR (b_1 (den k) [.sh (.list (xs.map .str)), .no, .no]) := den_ascends _ _
  rw [e0]
  have e1 : lcL (bT 2 (bCons (bN 1) (bCons (bN 2) bNil))) yesT (d2 ltD (gS 1) (gS 2)) [.sh (.list (xs.map .str)), .no, .no] (zipUp (xs.map .str) ((xs.drop 1).map .str)) = .ok ((xs.zip (xs.drop 1)).map fun p => PyData.bool (decide (sLt p.1 p.2))) := by
    rw [← zip_asc]
    refine lcL_map _ _ fun d hd => ?_
    obtain ⟨i, hi⟩ := List.mem_iff_getElem?.mp hd
    obtain ⟨x, y, h1, h2, rfl⟩ := zipUp_get _ _ _ _ hi
    rw [List.getElem?_map] at h1 h2
    obtain ⟨a, _, rfl⟩ := Option.map_eq_some_iff.mp h1
    obtain ⟨b, _, rfl⟩ := Option.map_eq_some_iff.mp h2
    exact ⟨_, by simp; rfl, by simp⟩
  have ez : zipD [PyData.list (xs.map .str), PyData.list (List.drop 1 (xs.map .str))] = .ok (zipUp (xs.map .str) ((xs.drop 1).map .str)) := by
    rw [← List.map_drop]; rfl
  have el := zipUp_len (xs.map .str) ((xs.drop 1).map PyData.str)
  simp only [b_1, ev_ret, ev_dA, ev_args, ev_args0, ev_lc, ev_dAL, gS_zero, bnd_ok, dSl, someP, noP, asI, ev_k, slA, cut_from1, ez]
  rw [if_pos (by rw [el, List.length_map]; omega)]
  simp only [ev_wipe, ev_wipe0, List.set_cons_succ, List.set_cons_zero, e1, bnd_ok, all_b, toS_ok, outR_rt, asc_all]
/-! ### names -/
def letters : Str := "abcdefghijklmnopqrstuvwxyz"
def okName (s : Str) : Bool := s = "a" || s = "b" || s = "s" || s = "t" || s = "u" || s = "v" || s = "w"
theorem name1 (k : Nat) (s : Str) (hl : VS.signs s = [.str s]) (hn : lenD [.str s] = .ok (.int 1)) (hi : inD (.str s) (.str "abcdefghijklmnopqrstuvwxyz") = .ok (.bool true)) : den (k + 1) I_is_name [.sh (.str s)] = .ok (.bool true) := by
  have hs : sizeLine = 16777216 := sz_line
  have e0 : den (k + 1) I_is_name [.sh (.str s)] = outR (b_2 (den k) [.sh (.str s), .no]) := den_is_name _ _
  rw [e0]
  have e1 : lcL (bN 1) yesT (d2 inD (gS 1) (kC (.str "abcdefghijklmnopqrstuvwxyz"))) [.sh (.str s), .no] [.str s] = .ok ([PyData.str s].map fun _ => PyData.bool true) := lcL_map (fun _ => .bool true) _ fun d hd => by
    have : d = .str s := by simpa using hd
    subst this
    exact ⟨_, rfl, by simp [hi]⟩
  have e2 : allD [.list [PyData.bool true]] = .ok (.bool true) := rfl
  simp [b_2, isT, hn, hl, hs, e1, e2]
theorem s_is_name (k : Nat) (s : Str) (h : okName s = true) : den (k + 1) I_is_name [.sh (.str s)] = .ok (.bool true) := by
  unfold okName at h
  simp only [Bool.or_eq_true, decide_eq_true_eq] at h
  rcases h with (((((rfl | rfl) | rfl) | rfl) | rfl) | rfl) | rfl <;> exact name1 k _ rfl rfl rfl
/-! ### boxes -/
abbrev Bx := Int × Int × Int × Int
def bxD (b : Bx) : PyData := .tuple [.int b.1, .int b.2.1, .int b.2.2.1, .int b.2.2.2]
def okB (b : Bx) : Prop := (0 ≤ b.1 ∧ b.1 ≤ 1000) ∧ (0 ≤ b.2.1 ∧ b.2.1 ≤ 1000) ∧ (0 ≤ b.2.2.1 ∧ b.2.2.1 ≤ 1000) ∧ (0 ≤ b.2.2.2 ∧ b.2.2.2 ≤ 1000)
theorem s_is_box4 (k : Nat) (ds : List PyData) (h : ds.length = 4) : den (k + 2) I_is_box [.sh (.tuple ds)] = .ok (.bool (ds.all fun d => wholeB d 0 1000)) := by
  have hs : sizeLine = 16777216 := sz_line
  have e0 : den (k + 1 + 1) I_is_box [.sh (.tuple ds)] = outR (b_3 (den (k + 1)) [.sh (.tuple ds), .no]) := den_is_box _ _
  show den (k + 1 + 1) I_is_box _ = _
  rw [e0]
  have e1 : lcL (bN 1) yesT (dA (argsF [(gS 1), (kC (.int 0)), (kC (.int 1000))]) (cD (den (k + 1) I_is_whole))) [.sh (.tuple ds), .no] ds = .ok (ds.map fun d => .bool (wholeB d 0 1000)) := lcL_map (fun d => .bool (wholeB d 0 1000)) _ fun d hd => by
    have e := s_is_whole k d 0 1000
    exact ⟨_, rfl, by simp [e]⟩
  have e2 := all_b (fun d => wholeB d 0 1000) ds
  simp [b_3, isT, h, hs, e1, e2]
theorem s_is_box (k : Nat) (b : Bx) (h : okB b) : den (k + 2) I_is_box [.sh (bxD b)] = .ok (.bool true) := by
  unfold bxD
  rw [s_is_box4 k _ rfl]
  obtain ⟨⟨h1, h2⟩, ⟨h3, h4⟩, ⟨h5, h6⟩, h7, h8⟩ := h
  simp [wholeB, *]
/-- what is no box -/
def NB (k : Nat) (v : PyData) : Prop := den k I_is_box [.sh v] = .ok (.bool false)
theorem nb_notT {k : Nat} {v : PyData} (h : isT .tTuple v = false) : NB (k + 2) v := by
  have e0 : den (k + 1 + 1) I_is_box [.sh v] = outR (b_3 (den (k + 1)) [.sh v, .no]) := den_is_box _ _
  unfold NB
  show den (k + 1 + 1) I_is_box _ = _
  rw [e0]
  simp [b_3, h]
theorem nb_len {k : Nat} {ds : List PyData} (h : ds.length ≠ 4) : NB (k + 2) (.tuple ds) := by
  have e0 : den (k + 1 + 1) I_is_box [.sh (.tuple ds)] = outR (b_3 (den (k + 1)) [.sh (.tuple ds), .no]) := den_is_box _ _
  unfold NB
  show den (k + 1 + 1) I_is_box _ = _
  rw [e0]
  have h' : ¬ ((ds.length : Int) = 4) := by omega
  simp [b_3, isT, h']
theorem nb_4 {k : Nat} {ds : List PyData} (h : ds.length = 4) (hw : (ds.all fun d => wholeB d 0 1000) = false) : NB (k + 2) (.tuple ds) := by
  have := s_is_box4 k ds h
  rw [hw] at this
  exact this
/-! ### two boxes -/
def lap (a w b v : Int) : Int := min (a + w) (b + v) - max a b
def meetB (b o : Bx) : Bool := decide (max b.1 o.1 < min (b.1 + b.2.2.1) (o.1 + o.2.2.1)) && decide (max b.2.1 o.2.1 < min (b.2.1 + b.2.2.2) (o.2.1 + o.2.2.2))
def cmn (b o : Bx) : Int := max 0 (lap b.1 b.2.2.1 o.1 o.2.2.1) * max 0 (lap b.2.1 b.2.2.2 o.2.1 o.2.2.2)
@[simp] theorem ev_max2 (i j : Int) : max2D [.int i, .int j] = .ok (.int (max i j)) := by
  show Re.ok (PyData.int (if j > i then j else i)) = _
  congr 2
  split <;> omega
@[simp] theorem ev_min2 (i j : Int) : min2D [.int i, .int j] = .ok (.int (min i j)) := by
  show Re.ok (PyData.int (if j < i then j else i)) = _
  congr 2
  split <;> omega
theorem s_meet (k : Nat) (b o : Bx) : den (k + 1) I_meet [.sh (bxD b), .sh (bxD o)] = .ok (.bool (meetB b o)) := by
  have e0 : den (k + 1) I_meet [.sh (bxD b), .sh (bxD o)] = outR (b_4 (den k) [.sh (bxD b), .sh (bxD o), .no]) := den_meet _ _
  rw [e0]
  unfold bxD meetB
  simp [b_4]
  split <;> simp [*]
theorem s_common (k : Nat) (b o : Bx) (hb : okB b) (ho : okB o) : den (k + 1) I__common [.sh (bxD b), .sh (bxD o)] = .ok (.int (cmn b o)) := by
  have e0 : den (k + 1) I__common [.sh (bxD b), .sh (bxD o)] = outR (b_9 (den k) [.sh (bxD b), .sh (bxD o), .no, .no]) := den__common _ _
  rw [e0]
  obtain ⟨⟨h1, h2⟩, ⟨h3, h4⟩, ⟨h5, h6⟩, h7, h8⟩ := hb
  obtain ⟨⟨g1, g2⟩, ⟨g3, g4⟩, ⟨g5, g6⟩, g7, g8⟩ := ho
  unfold bxD
  simp [b_9]
  rw [ev_mul (.inl (by omega))]
  rfl
end KL
end
section
open PySem PySem.Spec PyProof.Rows L2 VS
namespace KL
/-! ### screens -/
abbrev Sc := List (Str × Bx)
def rowD (p : Str × Bx) : PyData := .tuple [.str p.1, bxD p.2]
def scD (S : Sc) : PyData := .tuple (S.map rowD)
structure GS (S : Sc) : Prop where
  l1 : 1 ≤ S.length
  l8 : S.length ≤ 8
  asc : ascS (S.map (·.1)) = true
  ok : ∀ p ∈ S, okName p.1 = true ∧ okB p.2 ∧ 0 < p.2.2.2.1 ∧ 0 < p.2.2.2.2
  dis : S.Pairwise fun p q => meetB p.2 q.2 = false
theorem s_is_screen (k : Nat) (p : Str × Bx) (h : okName p.1 = true ∧ okB p.2 ∧ 0 < p.2.2.2.1 ∧ 0 < p.2.2.2.2) : den (k + 3) I__is_screen [.sh (rowD p)] = .ok (.bool true) := by
  have e0 : den (k + 2 + 1) I__is_screen [.sh (rowD p)] = outR (b_5 (den (k + 2)) [.sh (rowD p)]) := den__is_screen _ _
  show den (k + 2 + 1) I__is_screen _ = _
  rw [e0]
  have e1 := s_is_name (k + 1) p.1 h.1
  have e1' : den (k + 2) I_is_name [.sh (.str p.1)] = .ok (.bool true) := e1
  have e2 := s_is_box k p.2 h.2.1
  have e3 : ixD (bxD p.2) (.int 2) = .ok (.int p.2.2.2.1) := by unfold bxD; simp
  have e4 : ixD (bxD p.2) (.int 3) = .ok (.int p.2.2.2.2) := by unfold bxD; simp
  unfold rowD
  simp [b_5, isT, e1', e2, e3, e4, h.2.2]
theorem lc2L_of {b : Bd} {g : Dl → Re (List PyData)} {δ : Dl} (f : PyData → List PyData) : ∀ ds : List PyData, (∀ d ∈ ds, ∃ δ1, b d δ = some δ1 ∧ g δ1 = .ok (f d)) → lc2L b yesT g δ ds = .ok (ds.flatMap f)
  | [], _ => rfl
  | d :: ds, h => by
    obtain ⟨δ1, e1, e2⟩ := h d List.mem_cons_self
    have ih := lc2L_of f ds fun d' hd' => h d' (List.mem_cons_of_mem _ hd')
    unfold lc2L
    simp only [e1, ev_yes, nxR_ok, bnd_ok, if_true, e2, ih, List.flatMap_cons]
@[simp] theorem ev_lc2 (vs vs1 : List Nat) (fi : Dl → Re (List PyData)) (b : Bd) (t : Dl → Re Bool) (fi1 : Dl → Re (List PyData)) (b1 : Bd) (t1 : Dl → Re Bool) (e : Dl → Re PyData) (δ : Dl) : lc2D vs vs1 fi b t fi1 b1 t1 e δ =
  (fi δ).bnd fun ds => (lc2L b t (lc1L vs1 fi1 b1 t1 e) (wipeD δ vs) ds).bnd fun ys => if ys.length ≤ sizeLine then .ok (.list ys) else .no := Eq.trans rfl (Eq.refl _)
theorem flat_le {α β : Type} (f : α → List β) (n : Nat) : ∀ xs : List α, (∀ x ∈ xs, (f x).length ≤ n) → (xs.flatMap f).length ≤ n * xs.length
  | [], _ => by simp
  | x :: xs, h => by
    have a := h x List.mem_cons_self
    have b := flat_le f n xs fun y hy => h y (List.mem_cons_of_mem _ hy)
    rw [List.flatMap_cons, List.length_append, List.length_cons, Nat.mul_succ]
    omega
def lcMeet (k : Nat) : Dl → Re PyData := lc2D ([3, 4, 5]) ([5]) (dAL (argsF [(gS 1)]) enumD) (bT 2 (bCons (bN 3) (bCons (bN 4) bNil))) yesT (d1L itemsD (dSl slA (gS 1) (someP (d2 addD (gS 3) (kC (.int 1)))) noP)) (bN 5) yesT (dA (argsF [(gS 4), (gS 5)]) (cD (den k I_meet)))
theorem s_lcMeet {S : Sc} (G : GS S) (k : Nat) (x0 x2 : Sl) : ∃ L : List PyData, lcMeet (k + 1) [x0, .sh (.list (S.map fun p => bxD p.2)), x2, .no, .no, .no] = .ok (.list (L.map fun _ => .bool false)) := by
  have hs : sizeLine = 16777216 := sz_line
  have h8 := G.l8
  let f : PyData → List PyData := fun d => match d with | .tuple [.int i, _] => (S.drop (i.toNat + 1)).map fun p => bxD p.2 | _ => []
  refine ⟨(pairUp 0 (S.map fun p => bxD p.2)).flatMap f, ?_⟩
  have e1 : lc2L (bT 2 (bCons (bN 3) (bCons (bN 4) bNil))) yesT (lc1L ([5]) (d1L itemsD (dSl slA (gS 1) (someP (d2 addD (gS 3) (kC (.int 1)))) noP)) (bN 5) yesT (dA (argsF [(gS 4), (gS 5)]) (cD (den (k + 1) I_meet)))) [x0, .sh (.list (S.map fun p => bxD p.2)), x2, .no, .no, .no] (pairUp 0 (S.map fun p => bxD p.2)) = .ok ((pairUp 0 (S.map fun p => bxD p.2)).flatMap fun d => (f d).map fun _ => .bool false) := by
    refine lc2L_of (fun d => (f d).map fun _ => .bool false) _ fun d hd => ?_
    obtain ⟨i, hi⟩ := List.mem_iff_getElem?.mp hd
    rw [pairUp_get, List.getElem?_map] at hi
    cases ep : S[i]? with
    | none => rw [ep] at hi; cases hi
    | some p =>
      rw [ep] at hi
      have hi' : PyData.tuple [.int (i : Int), bxD p.2] = d := by simpa using hi
      subst hi'
      have hlt : i < S.length := (List.getElem?_eq_some_iff.mp ep).1
      refine ⟨_, by simp; rfl, ?_⟩
      have ec : cutD (S.map fun p => bxD p.2) (some ((i : Int) + 1)) none = (S.drop (i + 1)).map fun p => bxD p.2 := by
        have := cut_from (S.map fun p => bxD p.2) (i + 1) (by rw [List.length_map]; omega)
        rw [List.map_drop]
        simpa using this
      have e2 : lcL (bN 5) yesT (dA (argsF [(gS 4), (gS 5)]) (cD (den (k + 1) I_meet))) [x0, .sh (.list (S.map fun p => bxD p.2)), x2, .sh (.int (i : Int)), .sh (bxD p.2), .no] ((S.drop (i + 1)).map fun p => bxD p.2) = .ok ((S.drop (i + 1)).map fun _ => .bool false) := by
        refine lcL_all _ (fun _ => .bool false) _ fun q hq => ?_
        obtain ⟨j, hj⟩ := List.mem_iff_getElem?.mp hq
        rw [List.getElem?_drop] at hj
        obtain ⟨hj1, hj2⟩ := List.getElem?_eq_some_iff.mp hj
        have em : meetB p.2 q.2 = false := by
          have := (List.pairwise_iff_getElem.mp G.dis) i (i + 1 + j) hlt hj1 (by omega)
          rw [hj2, (List.getElem?_eq_some_iff.mp ep).2] at this
          exact this
        have e3 := s_meet k p.2 q.2
        rw [em] at e3
        exact ⟨_, rfl, by simp [e3]⟩
      have ef : (f (.tuple [.int (i : Int), bxD p.2])).map (fun _ => (PyData.bool false : PyData)) = (S.drop (i + 1)).map fun _ => .bool false := by
        show ((S.drop (((i : Nat) : Int).toNat + 1)).map fun p => bxD p.2).map (fun _ => (PyData.bool false : PyData)) = _
        rw [Int.toNat_natCast, List.map_map]
        rfl
      rw [ef]
      unfold lc1L
      simp only [ev_d1L, dSl, gS_succ, gS_zero, bnd_ok, someP, noP, ev_d2, ev_k, ev_addI, asI, slA, ec, ev_items_l, nxR_ok, ev_wipe, ev_wipe0, List.set_cons_succ, List.set_cons_zero, List.set_nil, e2]
  have el : ((pairUp 0 (S.map fun p => bxD p.2)).flatMap fun d => (f d).map fun _ => (PyData.bool false : PyData)).length ≤ 8 * (pairUp 0 (S.map fun p => bxD p.2)).length := flat_le _ 8 _ fun d hd => by
    show ((f d).map fun _ => (PyData.bool false : PyData)).length ≤ 8
    rw [List.length_map]
    show (f d).length ≤ 8
    simp only [f]
    split
    · rw [List.length_map, List.length_drop]; omega
    · simp
  rw [pairUp_len, List.length_map] at el
  unfold lcMeet
  simp only [ev_lc2, ev_dAL, ev_args, ev_args0, gS_succ, gS_zero, bnd_ok, ev_enumL, ev_wipe, ev_wipe0, List.set_cons_succ, List.set_cons_zero, e1]
  rw [if_pos (by omega), List.map_flatMap]
theorem s_are_screens {S : Sc} (G : GS S) (k : Nat) : den (k + 4) I_are_screens [.sh (scD S)] = .ok (.bool true) := by
  have hs : sizeLine = 16777216 := sz_line
  have h8 := G.l8
  have h1 := G.l1
  have e0 : den (k + 3 + 1) I_are_screens [.sh (scD S)] = outR (b_6 (den (k + 3)) [.sh (scD S), .no, .no, .no, .no, .no]) := den_are_screens _ _
  show den (k + 3 + 1) I_are_screens _ = _
  rw [e0]
  unfold scD
  have e1 : lcL (bN 2) yesT (dA (argsF [(gS 2)]) (cD (den (k + 3) I__is_screen))) [.sh (.tuple (S.map rowD)), .no, .no, .no, .no, .no] (S.map rowD) = .ok (S.map fun _ => .bool true) := lcL_all _ _ _ fun p hp => by
    have e := s_is_screen k p (G.ok p hp)
    exact ⟨_, rfl, by simp [e]⟩
  have e2 := all_b (fun _ : Str × Bx => true) S
  have e2' : (S.all fun _ => true) = true := by simp
  rw [e2'] at e2
  have e3 : lcL (bN 2) yesT (d2 ixD (gS 2) (kC (.int 0))) [.sh (.tuple (S.map rowD)), .no, .no, .no, .no, .no] (S.map rowD) = .ok ((S.map (·.1)).map .str) := by
    rw [List.map_map]
    exact lcL_all _ _ _ fun p hp => ⟨_, rfl, by simp [rowD]⟩
  have e4 : lcL (bN 2) yesT (d2 ixD (gS 2) (kC (.int 1))) [.sh (.tuple (S.map rowD)), .no, .no, .no, .no, .no] (S.map rowD) = .ok (S.map fun p => bxD p.2) := lcL_all _ _ _ fun p hp => ⟨_, rfl, by simp [rowD]⟩
  have e5 := s_ascends (k + 2) (S.map (·.1)) (by rw [List.length_map]; omega)
  rw [G.asc] at e5
  have e5' : den (k + 3) I_ascends [.sh (.list ((S.map (·.1)).map .str))] = .ok (.bool true) := e5
  obtain ⟨L, e6⟩ := s_lcMeet G (k + 2) (.sh (.tuple (S.map rowD))) .no
  have e6' : lcMeet (k + 3) [.sh (.tuple (S.map rowD)), .sh (.list (S.map fun p => bxD p.2)), .no, .no, .no, .no] = .ok (.list (L.map fun _ => .bool false)) := e6
  have e7 := any_b (fun _ : PyData => false) L
  have e7' : (L.any fun _ => false) = false := by simp
  rw [e7'] at e7
  have hb1 : (1 : Int) ≤ (S.length : Nat) := by omega
  have hb2 : ((S.length : Nat) : Int) ≤ 8 := by omega
  have eb : b_6 (den (k + 3)) = (seqS (ifS (tOr2 (tNot1 (tB1 (d1 (isiD .tTuple) (gS 0)))) (tNot1 (tB1 (chn leD leD (kC (.int 1)) (dA (argsF [(gS 0)]) lenD) (kC (.int 8)))))) (retS (kC (.bool false))) nxS) (seqS (ifS (tOr2 (tNot1 (tB1 (dA (argsF [(lcD ([2]) (d1L itemsD (gS 0)) (bN 2) yesT (dA (argsF [(gS 2)]) (cD (den (k + 3) I__is_screen))))]) allD))) (tNot1 (tB1 (dA (argsF [(lcD ([2]) (d1L itemsD (gS 0)) (bN 2) yesT (d2 ixD (gS 2) (kC (.int 0))))]) (cD (den (k + 3) I_ascends)))))) (retS (kC (.bool false))) nxS) (seqS (setS 1 (lcD ([2]) (d1L itemsD (gS 0)) (bN 2) yesT (d2 ixD (gS 2) (kC (.int 1))))) (retS (d1 dNot (dA (argsF [lcMeet (k + 3)]) anyD)))))) := rfl
  rw [eb]
  have hl : (S.map rowD).length ≤ sizeLine := by rw [List.length_map]; omega
  simp only [ev_seq, ev_if, ev_tOr, ev_tNot, ev_tB1, ev_d1, gS_zero, gS_succ, bnd_ok, ev_isi, isT, ev_asB, Bool.not_true, if_neg Bool.false_ne_true, ev_chn, ev_dA, ev_args, ev_args0, ev_lenT, ev_k, ev_leI, List.length_map, decide_eq_true hb1, decide_eq_true hb2, if_true, toS_ok, ev_nx, rsb_nx, ev_lc, ev_d1L, ev_items_t, if_pos (show S.length ≤ sizeLine by omega), ev_wipe, ev_wipe0, List.set_cons_succ, List.set_cons_zero, e1, e2, e3, e4, ev_cD, List.map_cons, List.map_nil, e5', ev_set, ev_ret, e6', e7, ev_dNot, Bool.not_false, outR_rt]
theorem s_chkS {S : Sc} (G : GS S) (k : Nat) : den (k + 5) I_check_screens [.sh (scD S)] = .ok .none := by
  have e0 : den (k + 4 + 1) I_check_screens [.sh (scD S)] = outR (b_7 (den (k + 4)) [.sh (scD S)]) := den_check_screens _ _
  show den (k + 4 + 1) I_check_screens _ = _
  rw [e0]
  have e := s_are_screens G k
  simp [b_7, e]
theorem s_chk {S : Sc} (G : GS S) (k : Nat) {b : Bx} (h : okB b) : den (k + 6) I__check [.sh (scD S), .sh (bxD b)] = .ok .none := by
  have e0 : den (k + 5 + 1) I__check [.sh (scD S), .sh (bxD b)] = outR (b_8 (den (k + 5)) [.sh (scD S), .sh (bxD b)]) := den__check _ _
  show den (k + 5 + 1) I__check _ = _
  rw [e0]
  have e := s_chkS G k
  have e2 : den (k + 5) I_is_box [.sh (bxD b)] = .ok (.bool true) := s_is_box (k + 3) b h
  simp [b_8, e, e2]
theorem s_chkN {S : Sc} (G : GS S) (k : Nat) {v : PyData} (h : NB (k + 5) v) : den (k + 6) I__check [.sh (scD S), .sh v] = .ex (.mk "BadBox" []) := by
  have e0 : den (k + 5 + 1) I__check [.sh (scD S), .sh v] = outR (b_8 (den (k + 5)) [.sh (scD S), .sh v]) := den__check _ _
  show den (k + 5 + 1) I__check _ = _
  rw [e0]
  have e := s_chkS G k
  have e2 : den (k + 5) I_is_box [.sh v] = .ok (.bool false) := h
  simp [b_8, e, e2]
end KL
end
section
open PySem PySem.Spec PyProof.Rows L2 VS
namespace KL
/-! ### shares -/
abbrev Rw := List (Str × Int)
def srD (q : Str × Int) : PyData := .tuple [.str q.1, .int q.2]
def shR (S : Sc) (b : Bx) : Rw := (S.map fun p => (p.1, cmn b p.2)).filter fun q => decide (0 < q.2)
theorem shR_len (S : Sc) (b : Bx) : (shR S b).length ≤ S.length := by
  unfold shR
  refine Nat.le_trans (List.length_filter_le _ _) ?_
  rw [List.length_map]; exact Nat.le_refl _
theorem s_shares {S : Sc} (G : GS S) (k : Nat) {b : Bx} (h : okB b) : den (k + 2) I__shares [.sh (scD S), .sh (bxD b)] = .ok (.list ((shR S b).map srD)) := by
  have hs : sizeLine = 16777216 := sz_line
  have h8 := G.l8
  have e0 : den (k + 1 + 1) I__shares [.sh (scD S), .sh (bxD b)] = outR (b_10 (den (k + 1)) [.sh (scD S), .sh (bxD b), .no, .no, .no, .no]) := den__shares _ _
  show den (k + 1 + 1) I__shares _ = _
  rw [e0]
  unfold scD
  have e1 : lcL (bT 2 (bCons (bN 3) (bCons (bN 4) bNil))) yesT (dA (argsF [(gS 3), (dA (argsF [(gS 1), (gS 4)]) (cD (den (k + 1) I__common)))]) tupD) [.sh (.tuple (S.map rowD)), .sh (bxD b), .no, .no, .no, .no] (S.map rowD) = .ok ((S.map fun p => (p.1, cmn b p.2)).map srD) := by
    rw [List.map_map]
    refine lcL_all _ _ _ fun p hp => ?_
    have e := s_common k b p.2 h (G.ok p hp).2.1
    exact ⟨_, by simp [rowD]; rfl, by simp [e, srD]⟩
  have e2 : lcL (bN 5) (tB1 (d2 gtD (d2 ixD (gS 5) (kC (.int 1))) (kC (.int 0)))) (gS 5) [.sh (.tuple (S.map rowD)), .sh (bxD b), .sh (.list ((S.map fun p => (p.1, cmn b p.2)).map srD)), .no, .no, .no] ((S.map fun p => (p.1, cmn b p.2)).map srD) = .ok ((shR S b).map srD) := by
    refine lcL_on srD (fun q => decide (0 < q.2)) srD _ fun q hq => ⟨_, rfl, by simp [srD], fun _ => by simp [srD]⟩
  have l1 : (S.map rowD).length ≤ sizeLine := by rw [List.length_map]; omega
  have l2 : ((S.map fun p => (p.1, cmn b p.2)).map srD).length ≤ sizeLine := by rw [List.length_map, List.length_map]; omega
  simp only [b_10, ev_seq, ev_set, ev_lc, ev_d1L, gS_zero, gS_succ, bnd_ok, ev_items_t, ev_items_l, if_pos l1, if_pos l2, ev_wipe, ev_wipe0, List.set_cons_succ, List.set_cons_zero, e1, e2, toS_ok, rsb_nx, ev_ret, outR_rt]
theorem s_shares_of {S : Sc} (G : GS S) (k : Nat) {b : Bx} (h : okB b) : den (k + 7) I_shares_of [.sh (scD S), .sh (bxD b)] = .ok (.tuple ((shR S b).map srD)) := by
  have e0 : den (k + 6 + 1) I_shares_of [.sh (scD S), .sh (bxD b)] = outR (b_11 (den (k + 6)) [.sh (scD S), .sh (bxD b)]) := den_shares_of _ _
  show den (k + 6 + 1) I_shares_of _ = _
  rw [e0]
  have e1 := s_chk G k h
  have e2 : den (k + 6) I__shares [.sh (scD S), .sh (bxD b)] = .ok (.list ((shR S b).map srD)) := s_shares G (k + 4) h
  simp [b_11, e1, e2]
theorem s_spans {S : Sc} (G : GS S) (k : Nat) {b : Bx} (h : okB b) : den (k + 7) I_spans [.sh (scD S), .sh (bxD b)] = .ok (.bool (decide (1 < ((shR S b).length : Int)))) := by
  have e0 : den (k + 6 + 1) I_spans [.sh (scD S), .sh (bxD b)] = outR (b_12 (den (k + 6)) [.sh (scD S), .sh (bxD b)]) := den_spans _ _
  show den (k + 6 + 1) I_spans _ = _
  rw [e0]
  have e1 := s_chk G k h
  have e2 : den (k + 6) I__shares [.sh (scD S), .sh (bxD b)] = .ok (.list ((shR S b).map srD)) := s_shares G (k + 4) h
  simp [b_12, e1, e2]
theorem s_lost {S : Sc} (G : GS S) (k : Nat) {b : Bx} (h : okB b) : den (k + 7) I_lost_cells [.sh (scD S), .sh (bxD b)] = .ok (.int (b.2.2.1 * b.2.2.2 - ((shR S b).map (·.2)).sum)) := by
  have hs : sizeLine = 16777216 := sz_line
  have h8 := G.l8
  have hl := shR_len S b
  have e0 : den (k + 6 + 1) I_lost_cells [.sh (scD S), .sh (bxD b)] = outR (b_14 (den (k + 6)) [.sh (scD S), .sh (bxD b), .no, .no]) := den_lost_cells _ _
  show den (k + 6 + 1) I_lost_cells _ = _
  rw [e0]
  have e1 := s_chk G k h
  have e2 : den (k + 6) I__shares [.sh (scD S), .sh (bxD b)] = .ok (.list ((shR S b).map srD)) := s_shares G (k + 4) h
  have e3 : ixD (bxD b) (.int 2) = .ok (.int b.2.2.1) := by unfold bxD; simp
  have e4 : ixD (bxD b) (.int 3) = .ok (.int b.2.2.2) := by unfold bxD; simp
  have e5 : mulI (.int b.2.2.1) (.int b.2.2.2) = .ok (.int (b.2.2.1 * b.2.2.2)) := ev_mul (.inl (by obtain ⟨_, _, ⟨h5, h6⟩, _⟩ := h; omega))
  have e6 : lcL (bT 2 (bCons (bN 2) (bCons (bN 3) bNil))) yesT (gS 3) [.sh (scD S), .sh (bxD b), .no, .no] ((shR S b).map srD) = .ok ((shR S b).map fun q => .int q.2) := lcL_all _ _ _ fun q hq => ⟨_, by simp [srD]; rfl, by simp⟩
  have e7 : sumD [.list ((shR S b).map fun q => .int q.2)] = .ok (.int ((shR S b).map (·.2)).sum) := by
    have := intsOf_fn (fun q : Str × Int => q.2) (shR S b)
    show (ofO (intsOf ((shR S b).map fun q => PyData.int q.2))).bnd _ = _
    rw [this]
    rfl
  have l1 : ((shR S b).map srD).length ≤ sizeLine := by rw [List.length_map]; omega
  simp only [b_14, ev_seq, ev_drop, ev_dA, ev_args, ev_args0, gS_zero, gS_succ, bnd_ok, ev_cD, List.map_cons, List.map_nil, e1, toS_ok, rsb_nx, ev_ret, ev_d2, ev_k, e3, e4, e5, ev_lc, ev_d1L, e2, ev_items_l, if_pos l1, ev_wipe, ev_wipe0, List.set_cons_succ, List.set_cons_zero, e6, e7, ev_subI, outR_rt]
/-! ### the greatest of numbers -/
def mxI : List Int → Int
  | [] => 0
  | x :: xs => xs.foldl max x
theorem okMM_ints (xs : List Int) : okMM (xs.map .int) = true := by
  unfold okMM
  simp [PySem.W.alike, isN]
theorem ev_maxI {xs : List Int} (h : xs ≠ []) : maxL [.list (xs.map .int)] = .ok (.int (mxI xs)) := by
  match xs, h with
  | x :: xs, _ =>
    show maxS ((x :: xs).map .int) = _
    have ok := okMM_ints (x :: xs)
    rw [List.map_cons] at ok ⊢
    show (if okMM (PyData.int x :: xs.map .int) = true then Re.ok (PySem.W.maxD (.int x) (xs.map .int)) else .no) = _
    rw [if_pos ok, PySem.W.maxD_ints]
    rfl
theorem foldl_max : ∀ (xs : List Int) (x : Int), (xs.foldl max x = x ∨ xs.foldl max x ∈ xs) ∧ x ≤ xs.foldl max x ∧ ∀ y ∈ xs, y ≤ xs.foldl max x
  | [], x => ⟨.inl rfl, Int.le_refl _, fun _ h => nomatch h⟩
  | y :: ys, x => by
    obtain ⟨a, b, c⟩ := foldl_max ys (max x y)
    refine ⟨?_, ?_, ?_⟩
    · rw [List.foldl_cons]
      rcases a with a | a
      · rw [a]
        by_cases h : x ≤ y
        · exact .inr (by rw [Int.max_eq_right h]; exact List.mem_cons_self)
        · exact .inl (by omega)
      · exact .inr (List.mem_cons_of_mem _ a)
    · rw [List.foldl_cons]; omega
    · intro z hz
      rw [List.foldl_cons]
      rcases List.mem_cons.mp hz with e | hz
      · subst e; omega
      · exact c z hz
theorem mxI_mem {xs : List Int} (h : xs ≠ []) : mxI xs ∈ xs := by
  match xs, h with
  | x :: xs, _ =>
    rcases (foldl_max xs x).1 with a | a
    · show xs.foldl max x ∈ _
      rw [a]; exact List.mem_cons_self
    · exact List.mem_cons_of_mem _ a
theorem mxI_le {xs : List Int} {y : Int} (h : y ∈ xs) : y ≤ mxI xs := by
  match xs, h with
  | x :: xs, h =>
    rcases List.mem_cons.mp h with e | h
    · subst e; exact (foldl_max xs y).2.1
    · exact (foldl_max xs x).2.2 y h
def homeN (R : Rw) : List Str := (R.filter fun q => decide (q.2 = mxI (R.map (·.2) ++ [0]))).map (·.1)
def homeV (R : Rw) : PyData := match homeN R with
  | [] => .none
  | s :: _ => .str s
theorem homeN_ne {R : Rw} (h : R ≠ []) (hp : ∀ q ∈ R, 0 < q.2) : homeN R ≠ [] := by
  have hm := mxI_mem (xs := R.map (·.2) ++ [0]) (by simp)
  have : ∃ q ∈ R, q.2 = mxI (R.map (·.2) ++ [0]) := by
    rcases List.mem_append.mp hm with hm | hm
    · obtain ⟨q, hq, e⟩ := List.mem_map.mp hm
      exact ⟨q, hq, e⟩
    · exfalso
      have e0 : mxI (R.map (·.2) ++ [0]) = 0 := by simpa using hm
      cases R with
      | nil => exact h rfl
      | cons q r =>
        have a := hp q List.mem_cons_self
        have b := mxI_le (xs := (q :: r).map (·.2) ++ [0]) (y := q.2) (by simp)
        rw [e0] at b
        omega
  obtain ⟨q, hq, e⟩ := this
  intro hn
  have : q.1 ∈ homeN R := List.mem_map.mpr ⟨q, List.mem_filter.mpr ⟨hq, decide_eq_true e⟩, rfl⟩
  rw [hn] at this
  cases this
theorem s_home {S : Sc} (G : GS S) (k : Nat) {b : Bx} (h : okB b) : den (k + 7) I_home_of [.sh (scD S), .sh (bxD b)] = .ok (homeV (shR S b)) := by
  have hs : sizeLine = 16777216 := sz_line
  have h8 := G.l8
  have hl := shR_len S b
  have e0 : den (k + 6 + 1) I_home_of [.sh (scD S), .sh (bxD b)] = outR (b_13 (den (k + 6)) [.sh (scD S), .sh (bxD b), .no, .no, .no, .no, .no, .no]) := den_home_of _ _
  show den (k + 6 + 1) I_home_of _ = _
  rw [e0]
  have e1 := s_chk G k h
  have e2 : den (k + 6) I__shares [.sh (scD S), .sh (bxD b)] = .ok (.list ((shR S b).map srD)) := s_shares G (k + 4) h
  generalize shR S b = R at hl e2 ⊢
  have e3 : lcL (bT 2 (bCons (bN 7) (bCons (bN 6) bNil))) yesT (gS 6) [.sh (scD S), .sh (bxD b), .sh (.list (R.map srD)), .no, .no, .no, .no, .no] (R.map srD) = .ok ((R.map fun q : Str × Int => q.2).map PyData.int) := by
    rw [List.map_map]
    exact lcL_all srD (fun q : Str × Int => PyData.int q.2) R fun q hq => ⟨_, by simp [srD]; rfl, by simp⟩
  have e4 : addD (.list ((R.map fun q : Str × Int => q.2).map PyData.int)) (.list [.int 0]) = .ok (.list (((R.map fun q : Str × Int => q.2) ++ [0]).map PyData.int)) := by
    rw [ev_addL (by simp; omega), List.map_append]
    rfl
  have e5 := ev_maxI (xs := R.map (·.2) ++ [0]) (by simp)
  generalize hm : mxI (R.map (·.2) ++ [0]) = m at e5
  have e6 : lcL (bT 2 (bCons (bN 5) (bCons (bN 6) bNil))) (tB1 (d2 eqD (gS 6) (gS 3))) (gS 5) [.sh (scD S), .sh (bxD b), .sh (.list (R.map srD)), .sh (.int m), .no, .no, .no, .no] (R.map srD) = .ok ((homeN R).map .str) := by
    unfold homeN
    rw [hm, List.map_map]
    exact lcL_on srD (fun q : Str × Int => decide (q.2 = m)) (fun q : Str × Int => PyData.str q.1) R fun q hq => ⟨_, by simp [srD]; rfl, by simp, fun _ => by simp⟩
  have l1 : R.length ≤ sizeLine := by omega
  simp only [b_13, ev_seq, ev_drop, ev_dA, ev_args, ev_args0, gS_zero, gS_succ, bnd_ok, ev_cD, List.map_cons, List.map_nil, e1, toS_ok, rsb_nx, ev_set, e2, List.set_cons_succ, List.set_cons_zero, ev_d2, ev_lc, ev_d1L, ev_items_l, if_pos l1, ev_wipe, ev_wipe0, e3, ev_k, ev_lst1, e4, e5, e6, ev_ret, ev_dIf, ev_tB1, ev_lenL, List.length_map, ev_gtI, ev_asB]
  unfold homeV
  cases hn : homeN R with
  | nil => simp
  | cons s r =>
    have : (0 : Int) < ((r.length + 1 : Nat) : Int) := by omega
    simp only [List.length_cons, decide_eq_true this, if_true, ix_l, List.map_cons, at_0]
    rfl
end KL
end
section
open PySem PySem.Spec PyProof.Rows L2 VS
namespace KL
/-! ### the least by keys -/
theorem minD_key {α : Type} (enc : α → PyData) (key : α → List Int) (h : ∀ a b, PySem.W.dataLt (enc a) (enc b) = decide (key a < key b)) : ∀ (xs : List α) (x : α),
    ∃ m ∈ x :: xs, PySem.W.minD (enc x) (xs.map enc) = enc m ∧ ∀ a ∈ x :: xs, ¬ key a < key m
  | [], x => ⟨x, List.mem_cons_self, rfl, fun a ha => by
    have : a = x := by simpa using ha
    subst this
    exact List.lt_irrefl _⟩
  | y :: ys, x => by
    by_cases c : key y < key x
    · obtain ⟨m, hm, e, hl⟩ := minD_key enc key h ys y
      refine ⟨m, List.mem_cons_of_mem _ hm, ?_, fun a ha => ?_⟩
      · unfold PySem.W.minD at e ⊢
        rw [List.map_cons, List.foldl_cons, h y x, decide_eq_true c, if_pos rfl]
        exact e
      · rcases List.mem_cons.mp ha with e1 | ha
        · subst e1
          intro z
          exact hl y List.mem_cons_self (List.lt_trans c z)
        · exact hl a ha
    · obtain ⟨m, hm, e, hl⟩ := minD_key enc key h ys x
      refine ⟨m, ?_, ?_, fun a ha => ?_⟩
      · rcases List.mem_cons.mp hm with e1 | hm
        · subst e1; exact List.mem_cons_self
        · exact List.mem_cons_of_mem _ (List.mem_cons_of_mem _ hm)
      · unfold PySem.W.minD at e ⊢
        rw [List.map_cons, List.foldl_cons, h y x, decide_eq_false c, if_neg Bool.false_ne_true]
        exact e
      · rcases List.mem_cons.mp ha with e1 | ha
        · subst e1; exact hl a List.mem_cons_self
        · rcases List.mem_cons.mp ha with e1 | ha
          · subst e1
            intro z
            have c1 : key x ≤ key a := c
            exact hl x List.mem_cons_self (List.lt_of_le_of_lt c1 z)
          · exact hl a (List.mem_cons_of_mem _ ha)
/-! ### places with what they cost -/
abbrev Cd := Int × Int × Int
def cdD (w h : Int) (q : Cd) : PyData := .tuple [.int q.1, .tuple [.int q.2.1, .int q.2.2, .int w, .int h]]
def cdK (q : Cd) : List Int := [q.1, q.2.1, q.2.2]
theorem cd_lt (w h : Int) (q r : Cd) : PySem.W.dataLt (cdD w h q) (cdD w h r) = decide (cdK q < cdK r) := by
  obtain ⟨c, x, y⟩ := q
  obtain ⟨c', x', y'⟩ := r
  unfold cdD cdK
  rw [PySem.W.dataLt_pair (by simp [PySem.W.alike]) (by simp [PySem.W.alike, PySem.W.alikeAll]), PySem.W.dataLt_int, PySem.W.dataLt_tuple]
  have e := PySem.W.dataLt_ints [x, y, w, h] [x', y', w, h]
  have e' : PyProof.Rows.lexLt itemOrd (PySem.W.keyToksAll [PyData.int x, .int y, .int w, .int h]) (PySem.W.keyToksAll [PyData.int x', .int y', .int w, .int h]) = decide ([x, y, w, h] < [x', y', w, h]) := e
  simp only [e', PyData.eqv, PyData.eqvAll]
  by_cases h1 : c = c' <;> by_cases h2 : x = x' <;> by_cases h3 : y = y' <;> simp [h1, h2, h3, List.cons_lt_cons_iff]
theorem cd_ok (w h : Int) (l : List Cd) : okMM (l.map (cdD w h)) = true := by
  unfold okMM
  simp only [Bool.and_eq_true, List.all_eq_true]
  refine ⟨⟨?_, ?_⟩, ?_⟩
  · intro a ha b hb
    obtain ⟨x, _, rfl⟩ := List.mem_map.mp ha
    obtain ⟨y, _, rfl⟩ := List.mem_map.mp hb
    simp [cdD, PySem.W.alike, PySem.W.alikeAll]
  · intro a ha
    obtain ⟨x, _, rfl⟩ := List.mem_map.mp ha
    rfl
  · intro a ha
    obtain ⟨x, _, rfl⟩ := List.mem_map.mp ha
    simp [cdD]
/-- the place of the least cost, or none -/
def Least (w h : Int) (l : List Cd) (r : PyData) : Prop := (l = [] ∧ r = .none) ∨ ∃ q ∈ l, r = bxD (q.2.1, q.2.2, w, h) ∧ ∀ a ∈ l, ¬ cdK a < cdK q
theorem ev_least (w h : Int) (l : List Cd) : ∃ r, Least w h l r ∧ (if decide (0 < ((l.map (cdD w h)).length : Int)) = true then (minL [.list (l.map (cdD w h))]).bnd (fun x => ixD x (.int 1)) else .ok .none) = .ok r := by
  match l with
  | [] => exact ⟨.none, .inl ⟨rfl, rfl⟩, by simp⟩
  | x :: xs =>
    obtain ⟨m, hm, e, hl⟩ := minD_key (cdD w h) cdK (cd_lt w h) xs x
    refine ⟨bxD (m.2.1, m.2.2, w, h), .inr ⟨m, hm, rfl, hl⟩, ?_⟩
    have h0 : (0 : Int) < (((x :: xs).map (cdD w h)).length : Int) := by simp
    rw [decide_eq_true h0, if_pos rfl]
    have ok := cd_ok w h (x :: xs)
    rw [List.map_cons] at ok ⊢
    show ((if okMM (cdD w h x :: xs.map (cdD w h)) = true then Re.ok (PySem.W.minD (cdD w h x) (xs.map (cdD w h))) else .no) : Re PyData).bnd _ = _
    rw [if_pos ok, e]
    simp [cdD, bxD]
theorem Least.one {w h : Int} {X Y : List Cd} {r r' : PyData} (a : Least w h X r) (b : Least w h Y r') (sub : ∀ x ∈ X, x ∈ Y) (dom : ∀ y ∈ Y, ∃ x ∈ X, ¬ cdK y < cdK x) : r = r' := by
  rcases a with ⟨ea, rfl⟩ | ⟨q, hq, rfl, ha⟩
  · rcases b with ⟨eb, rfl⟩ | ⟨q, hq, rfl, hb⟩
    · rfl
    · obtain ⟨x, hx, _⟩ := dom q hq
      rw [ea] at hx
      cases hx
  · rcases b with ⟨eb, rfl⟩ | ⟨q', hq', rfl, hb⟩
    · have := sub q hq
      rw [eb] at this
      cases this
    · obtain ⟨x, hx, hd⟩ := dom q' hq'
      have h1 : cdK q ≤ cdK x := ha x hx
      have h2 : cdK x ≤ cdK q' := hd
      have h3 : cdK q' ≤ cdK q := hb q (sub q hq)
      have e : cdK q = cdK q' := List.le_antisymm (List.le_trans h1 h2) h3
      obtain ⟨c, x, y⟩ := q
      obtain ⟨c', x', y'⟩ := q'
      simp [cdK] at e
      obtain ⟨_, e2, e3⟩ := e
      subst e2 e3
      rfl
/-! ### brought in -/
def heldI (a w f r : Int) : Int := min (max a f) (f + r - w)
def ab (i : Int) : Int := if i < 0 then -i else i
theorem s_held (k : Nat) (a w f r : Int) : den (k + 1) I__held [.sh (.int a), .sh (.int w), .sh (.int f), .sh (.int r)] = .ok (.int (heldI a w f r)) := by
  have e0 : den (k + 1) I__held [.sh (.int a), .sh (.int w), .sh (.int f), .sh (.int r)] = outR (b_15 (den k) [.sh (.int a), .sh (.int w), .sh (.int f), .sh (.int r)]) := den__held _ _
  rw [e0]
  simp [b_15, heldI]
def fits (b o : Bx) : Bool := decide (b.2.2.1 ≤ o.2.2.1) && decide (b.2.2.2 ≤ o.2.2.2)
def candO (b o : Bx) : Cd :=
  let x := heldI b.1 b.2.2.1 o.1 o.2.2.1
  let y := heldI b.2.1 b.2.2.2 o.2.1 o.2.2.2
  (ab (x - b.1) + ab (y - b.2.1), x, y)
def cands (S : Sc) (b : Bx) : List Cd := (S.filter fun p => fits b p.2).map fun p => candO b p.2
theorem cut_2 (a b c d : PyData) : cutD [a, b, c, d] (some 2) none = [c, d] := rfl
theorem s_brought {S : Sc} (G : GS S) (k : Nat) {b : Bx} (h : okB b) : ∃ r, Least b.2.2.1 b.2.2.2 (cands S b) r ∧ den (k + 7) I_brought_in [.sh (scD S), .sh (bxD b)] = .ok r := by
  have hs : sizeLine = 16777216 := sz_line
  have h8 := G.l8
  obtain ⟨r, hL, er⟩ := ev_least b.2.2.1 b.2.2.2 (cands S b)
  refine ⟨r, hL, ?_⟩
  have e0 : den (k + 6 + 1) I_brought_in [.sh (scD S), .sh (bxD b)] = outR (b_16 (den (k + 6)) [.sh (scD S), .sh (bxD b), .no, .no, .no, .no, .no]) := den_brought_in _ _
  show den (k + 6 + 1) I_brought_in _ = _
  rw [e0]
  have e1 := s_chk G k h
  let body : Dl → RS := (ifS (tAnd2 (tB1 (d2 leD (d2 ixD (gS 1) (kC (.int 2))) (d2 ixD (gS 4) (kC (.int 2))))) (tB1 (d2 leD (d2 ixD (gS 1) (kC (.int 3))) (d2 ixD (gS 4) (kC (.int 3)))))) (seqS (parS [5, 6] (argsM [(false, (dA (argsF [(d2 ixD (gS 1) (kC (.int 0))), (d2 ixD (gS 1) (kC (.int 2))), (d2 ixD (gS 4) (kC (.int 0))), (d2 ixD (gS 4) (kC (.int 2)))]) (cD (den (k + 6) I__held)))), (false, (dA (argsF [(d2 ixD (gS 1) (kC (.int 1))), (d2 ixD (gS 1) (kC (.int 3))), (d2 ixD (gS 4) (kC (.int 1))), (d2 ixD (gS 4) (kC (.int 3)))]) (cD (den (k + 6) I__held))))])) (appS 2 (dA (argsF [(d2 addD (dA (argsF [(d2 subD (gS 5) (d2 ixD (gS 1) (kC (.int 0))))]) absD) (dA (argsF [(d2 subD (gS 6) (d2 ixD (gS 1) (kC (.int 1))))]) absD)), (d2 addD (dA (argsF [(gS 5), (gS 6)]) tupD) (dSl slA (gS 1) (someP (kC (.int 2))) noP))]) tupD))) nxS)
  obtain ⟨δ', e2, s3, s4, s5, s6, rfl⟩ := goS_inv0 (b := bT 2 (bCons (bN 3) (bCons (bN 4) bNil))) (body := body) (ds := S.map rowD) (δ := [.sh (.tuple (S.map rowD)), .sh (bxD b), .ow (.list []), .no, .no, .no, .no])
    (fun j δ => ∃ s3 s4 s5 s6, δ = [.sh (.tuple (S.map rowD)), .sh (bxD b), .ow (.list ((cands (S.take j) b).map (cdD b.2.2.1 b.2.2.2))), s3, s4, s5, s6]) ⟨.no, .no, .no, .no, by simp [cands]⟩ (by
    rintro j d δ hj ⟨s3, s4, s5, s6, rfl⟩
    rw [List.getElem?_map] at hj
    obtain ⟨p, hp, rfl⟩ := Option.map_eq_some_iff.mp hj
    have et : S.take (j + 1) = S.take j ++ [p] := by rw [List.take_add_one, hp]; rfl
    have lz : (cands (S.take j) b).length ≤ 8 := by
      unfold cands
      rw [List.length_map]
      refine Nat.le_trans (List.length_filter_le _ _) ?_
      rw [List.length_take]; omega
    have i0 : ixD (bxD b) (.int 0) = .ok (.int b.1) := by unfold bxD; simp
    have i1 : ixD (bxD b) (.int 1) = .ok (.int b.2.1) := by unfold bxD; simp
    have i2 : ixD (bxD b) (.int 2) = .ok (.int b.2.2.1) := by unfold bxD; simp
    have i3 : ixD (bxD b) (.int 3) = .ok (.int b.2.2.2) := by unfold bxD; simp
    have j0 : ixD (bxD p.2) (.int 0) = .ok (.int p.2.1) := by unfold bxD; simp
    have j1 : ixD (bxD p.2) (.int 1) = .ok (.int p.2.2.1) := by unfold bxD; simp
    have j2 : ixD (bxD p.2) (.int 2) = .ok (.int p.2.2.2.1) := by unfold bxD; simp
    have j3 : ixD (bxD p.2) (.int 3) = .ok (.int p.2.2.2.2) := by unfold bxD; simp
    have bind : (bT 2 (bCons (bN 3) (bCons (bN 4) bNil))) (rowD p) [.sh (.tuple (S.map rowD)), .sh (bxD b), .ow (.list ((cands (S.take j) b).map (cdD b.2.2.1 b.2.2.2))), s3, s4, s5, s6] = some [.sh (.tuple (S.map rowD)), .sh (bxD b), .ow (.list ((cands (S.take j) b).map (cdD b.2.2.1 b.2.2.2))), .sh (.str p.1), .sh (bxD p.2), s5, s6] := by
      simp [rowD]
    by_cases hf : fits b p.2 = true
    · have hf' := hf
      unfold fits at hf'
      rw [Bool.and_eq_true, decide_eq_true_eq, decide_eq_true_eq] at hf'
      have h1 := s_held (k + 5) b.1 b.2.2.1 p.2.1 p.2.2.2.1
      have h2 := s_held (k + 5) b.2.1 b.2.2.2 p.2.2.1 p.2.2.2.2
      have h1' : den (k + 6) I__held [.sh (.int b.1), .sh (.int b.2.2.1), .sh (.int p.2.1), .sh (.int p.2.2.2.1)] = .ok (.int (heldI b.1 b.2.2.1 p.2.1 p.2.2.2.1)) := h1
      have h2' : den (k + 6) I__held [.sh (.int b.2.1), .sh (.int b.2.2.2), .sh (.int p.2.2.1), .sh (.int p.2.2.2.2)] = .ok (.int (heldI b.2.1 b.2.2.2 p.2.2.1 p.2.2.2.2)) := h2
      have ec : cands (S.take (j + 1)) b = cands (S.take j) b ++ [candO b p.2] := by
        rw [et]; unfold cands
        rw [List.filter_append, List.map_append]
        simp [hf]
      refine ⟨_, _, bind, .inl ?_, .sh (.str p.1), .sh (bxD p.2), .sh (.int (heldI b.1 b.2.2.1 p.2.1 p.2.2.2.1)), .sh (.int (heldI b.2.1 b.2.2.2 p.2.2.1 p.2.2.2.2)), rfl⟩
      simp only [body, ev_if, ev_tAnd, ev_tB1, ev_d2, ev_k, gS_succ, gS_zero, bnd_ok, i0, i1, i2, i3, j0, j1, j2, j3, ev_leI, ev_asB, decide_eq_true hf'.1, decide_eq_true hf'.2, if_true, toS_ok, ev_seq, ev_par, ev_argsMf, ev_argsM0, ev_dA, ev_args, ev_args0, ev_cD, List.map_cons, List.map_nil, h1', h2', List.length_cons, List.length_nil, ev_bindM, ev_bindM0, List.set_cons_succ, List.set_cons_zero, rsb_nx]
      rw [ev_app (xs := (cands (S.take j) b).map (cdD b.2.2.1 b.2.2.2)) (d := cdD b.2.2.1 b.2.2.2 (candO b p.2)) rfl ?_ (by rw [List.length_map]; omega)]
      · rw [ec, List.map_append]
        rfl
      · simp only [ev_dA, ev_args, ev_args0, ev_d2, gS_succ, gS_zero, bnd_ok, ev_k, i0, i1, ev_subI, ev_absI, ev_addI, ev_tup2, dSl, someP, noP, asI, bxD, slA, cut_2]
        rw [ev_addT (by simp; omega)]
        simp [cdD, candO, ab]
    · have hf' : fits b p.2 = false := by simpa using hf
      have ec : cands (S.take (j + 1)) b = cands (S.take j) b := by
        rw [et]; unfold cands
        rw [List.filter_append, List.map_append]
        simp [hf']
      refine ⟨_, _, bind, .inl ?_, .sh (.str p.1), .sh (bxD p.2), s5, s6, rfl⟩
      have hc : (tAnd2 (tB1 (d2 leD (d2 ixD (gS 1) (kC (.int 2))) (d2 ixD (gS 4) (kC (.int 2))))) (tB1 (d2 leD (d2 ixD (gS 1) (kC (.int 3))) (d2 ixD (gS 4) (kC (.int 3)))))) [.sh (.tuple (S.map rowD)), .sh (bxD b), .ow (.list ((cands (S.take j) b).map (cdD b.2.2.1 b.2.2.2))), .sh (.str p.1), .sh (bxD p.2), s5, s6] = .ok false := by
        simp only [ev_tAnd, ev_tB1, ev_d2, ev_k, gS_succ, gS_zero, bnd_ok, i2, i3, j2, j3, ev_leI, ev_asB]
        unfold fits at hf'
        by_cases c : b.2.2.1 ≤ p.2.2.2.1
        · rw [decide_eq_true c, Bool.true_and] at hf'
          rw [decide_eq_true c, if_pos rfl, hf']
        · rw [decide_eq_false c, if_neg Bool.false_ne_true]
      simp only [body, ev_if, hc, toS_ok, if_neg Bool.false_ne_true, ev_nx]
      rw [ec])
  rw [List.length_map, List.take_length] at e2
  have eb : b_16 (den (k + 6)) = (seqS (dropS (dA (argsF [(gS 0), (gS 1)]) (cD (den (k + 6) I__check)))) (seqS (setO 2 (dA (argsF []) lstD)) (seqS (forS (d1L itemsD (gS 0)) (bT 2 (bCons (bN 3) (bCons (bN 4) bNil))) body) (retS (dIf (tB1 (d2 gtD (dA (argsF [(gB 2)]) lenD) (kC (.int 0)))) (d2 ixD (dA (argsF [(gB 2)]) minL) (kC (.int 1))) (kC .none)))))) := rfl
  rw [eb]
  have e1' : den (k + 6) I__check [.sh (.tuple (S.map rowD)), .sh (bxD b)] = .ok .none := e1
  unfold scD
  simp only [ev_seq, ev_drop, ev_dA, ev_args, ev_args0, gS_zero, gS_succ, bnd_ok, ev_cD, List.map_cons, List.map_nil, e1', toS_ok, rsb_nx, ev_setO, ev_lst0, List.set_cons_succ, List.set_cons_zero, ev_for, ev_d1L, ev_items_t, e2, ev_ret, ev_dIf, ev_tB1, ev_d2, gB_succ, gB_zero', ev_lenL, ev_k, ev_gtI, ev_asB, er, outR_rt]
end KL
end
section
open PySem PySem.Spec PyProof.Rows L2 VS
namespace KL
/-! ### dicts of encoded keys -/
section
variable {α β : Type} [DecidableEq α]
def putG (m : List (α × β)) (k : α) (v : β) : List (α × β) :=
  if (m.any fun p => decide (p.1 = k)) = true then m.map (fun p => if p.1 = k then (p.1, v) else p) else m ++ [(k, v)]
def lkG (m : List (α × β)) (k : α) : Option β := (m.find? fun p => decide (p.1 = k)).map (·.2)
def eKV (ke : α → PyData) (ve : β → PyData) (m : List (α × β)) : List (PyData × PyData) := m.map fun p => (ke p.1, ve p.2)
theorem putD_enc {ke : α → PyData} {ve : β → PyData} (hk : ∀ a b, PyData.eqv (ke a) (ke b) = decide (a = b)) (m : List (α × β)) (k : α) (v : β) : putD (eKV ke ve m) (ke k) (ve v) = eKV ke ve (putG m k v) := by
  unfold putD putG eKV
  have ea : ((m.map fun p => (ke p.1, ve p.2)).any fun p => PyData.eqv p.1 (ke k)) = m.any fun p => decide (p.1 = k) := by
    rw [List.any_map]
    congr 1
    funext p
    exact hk p.1 k
  rw [ea]
  split
  · rw [List.map_map, List.map_map]
    congr 1
    funext p
    simp only [Function.comp, hk]
    by_cases e : p.1 = k <;> simp [e]
  · simp
theorem lkD_enc {ke : α → PyData} {ve : β → PyData} (hk : ∀ a b, PyData.eqv (ke a) (ke b) = decide (a = b)) (m : List (α × β)) (k : α) : lkD (eKV ke ve m) (ke k) = (lkG m k).map ve := by
  unfold lkD lkG eKV
  rw [List.find?_map]
  have : ((fun p : PyData × PyData => PyData.eqv p.1 (ke k)) ∘ fun p : α × β => (ke p.1, ve p.2)) = fun p => decide (p.1 = k) := by
    funext p
    exact hk p.1 k
  rw [this, Option.map_map, Option.map_map]
  rfl
theorem kfit_enc {ke : α → PyData} {ve : β → PyData} {b : Bool} (hb : ∀ a, kindK (ke a) = some b) (m : List (α × β)) (k : α) : kfit (eKV ke ve m) (ke k) = true := by
  unfold kfit eKV
  cases m with
  | nil => simp [hb]
  | cons p r => simp [hb]
theorem lkG_put (m : List (α × β)) (k : α) (v : β) (j : α) : lkG (putG m k v) j = if j = k then some v else lkG m j := by
  unfold putG
  split
  · rename_i h
    unfold lkG
    induction m with
    | nil => simp at h
    | cons p r ih =>
      rw [List.map_cons]
      by_cases e : p.1 = k
      · rw [if_pos e]
        by_cases ej : j = k
        · subst ej
          simp [e]
        · have e' : ¬ p.1 = j := fun z => ej (z.symm.trans e)
          rw [List.find?_cons, List.find?_cons]
          simp only [decide_eq_false e', if_neg ej]
          by_cases h' : (r.any fun p => decide (p.1 = k)) = true
          · rw [ih h', if_neg ej]
          · have : r.map (fun p => if p.1 = k then (p.1, v) else p) = r := by
              rw [Bool.not_eq_true, List.any_eq_false] at h'
              conv => rhs; rw [← List.map_id r]
              refine List.map_congr_left fun q hq => ?_
              have := h' q hq
              simp at this
              simp [this]
            rw [this]
      · rw [if_neg e]
        rw [List.any_cons, decide_eq_false e, Bool.false_or] at h
        rw [List.find?_cons, List.find?_cons]
        by_cases ej : p.1 = j
        · simp only [decide_eq_true ej]
          have : ¬ j = k := fun z => e (ej.trans z)
          rw [if_neg this]
        · simp only [decide_eq_false ej]
          exact ih h
  · rename_i h
    unfold lkG
    rw [List.find?_append]
    rw [Bool.not_eq_true, List.any_eq_false] at h
    by_cases ej : j = k
    · subst ej
      have : m.find? (fun p => decide (p.1 = j)) = none := by
        rw [List.find?_eq_none]
        exact h
      rw [this, if_pos rfl]
      simp
    · rw [if_neg ej]
      have : ¬ k = j := fun z => ej z.symm
      simp [this]
theorem putG_len (m : List (α × β)) (k : α) (v : β) : (putG m k v).length ≤ m.length + 1 := by
  unfold putG
  split <;> simp
theorem lkG_some {m : List (α × β)} {k : α} : (lkG m k).isSome = true ↔ k ∈ m.map (·.1) := by
  unfold lkG
  simp only [Option.isSome_map, List.find?_isSome, decide_eq_true_eq, List.mem_map]
theorem putG_nodup {m : List (α × β)} (k : α) (v : β) (h : (m.map (·.1)).Nodup) : ((putG m k v).map (·.1)).Nodup := by
  unfold putG
  split
  · have : (m.map fun p => if p.1 = k then (p.1, v) else p).map (·.1) = m.map (·.1) := by
      rw [List.map_map]
      refine List.map_congr_left fun p _ => ?_
      simp only [Function.comp]
      split <;> rfl
    rw [this]; exact h
  · rename_i hn
    rw [Bool.not_eq_true, List.any_eq_false] at hn
    rw [List.map_append, List.nodup_append]
    refine ⟨h, by simp, ?_⟩
    intro a ha b hb e
    have : b = k := by simpa using hb
    subst this
    subst e
    obtain ⟨p, hp, e⟩ := List.mem_map.mp ha
    have := hn p hp
    simp [e] at this
end
/-- x[k] = v of a dict -/
theorem ev_sto {i : Nat} {fk f : Dl → Re PyData} {δ : Dl} {kvs : List (PyData × PyData)} {k v : PyData} (h : δ[i]? = some (.ow (.dict kvs))) (hf : f δ = .ok v) (hk : fk δ = .ok k) (hc : kfit kvs k = true) (hz : kvs.length < sizeLine) :
    stoS i fk f δ = .nx (δ.set i (.ow (.dict (putD kvs k v)))) := by
  unfold stoS
  rw [h]
  simp [hf, hk, hc, hz]
/-! ### ranges, cells -/
def rngI (i : Int) (n : Nat) : List Int := (List.range n).map fun k => i + (k : Nat)
theorem rng2_ev (i j : Int) (h : (-(2 ^ 62) ≤ i ∧ i < 2 ^ 62) ∧ -(2 ^ 62) ≤ j ∧ j < 2 ^ 62) : rng2D [.int i, .int j] = .ok ((rngI i (j - i).toNat).map .int) := by
  unfold rng2D rngI
  simp only
  rw [if_pos ⟨h.1.1, h.1.2, h.2.1, h.2.2⟩, List.map_map]
  rfl
theorem rngI_len (i : Int) (n : Nat) : (rngI i n).length = n := by simp [rngI]
theorem rngI_succ (i : Int) (n : Nat) : rngI i (n + 1) = rngI i n ++ [i + (n : Nat)] := by
  unfold rngI
  rw [List.range_succ, List.map_append]
  rfl
theorem rngI_mem {i x : Int} {n : Nat} : x ∈ rngI i n ↔ i ≤ x ∧ x < i + (n : Nat) := by
  unfold rngI
  rw [List.mem_map]
  constructor
  · rintro ⟨k, hk, rfl⟩
    have := List.mem_range.mp hk
    omega
  · rintro ⟨h1, h2⟩
    exact ⟨(x - i).toNat, List.mem_range.mpr (by omega), by omega⟩
theorem rngI_at {i : Int} {n j : Nat} {d : PyData} (h : ((rngI i n).map PyData.int)[j]? = some d) : j < n ∧ d = .int (i + (j : Nat)) := by
  by_cases hl : j < n
  · rw [List.getElem?_map, rngI, List.getElem?_map, List.getElem?_eq_getElem (by simpa using hl)] at h
    simp at h
    exact ⟨hl, h.symm⟩
  · rw [List.getElem?_eq_none (by simp [rngI]; omega)] at h
    cases h
abbrev Ce := Int × Int
def ceD (c : Ce) : PyData := .tuple [.int c.1, .int c.2]
theorem ce_eqv (a b : Ce) : PyData.eqv (ceD a) (ceD b) = decide (a = b) := by
  obtain ⟨x, y⟩ := a
  obtain ⟨x', y'⟩ := b
  rw [Bool.eq_iff_iff]
  simp [ceD, PyData.eqv, PyData.eqvAll]
theorem ce_kind (a : Ce) : kindK (ceD a) = some true := by
  unfold ceD
  have he : esc [PyData.int a.1, .int a.2] = false := by
    unfold esc
    split
    · rename_i e; simp at e
    · rename_i e; simp at e
    · rfl
  rw [kindK_tup, if_pos ⟨by simp [keysOf, keyOf], he⟩]
theorem str_eqv (a b : Str) : PyData.eqv (.str a) (.str b) = decide (a = b) := by simp [PyData.eqv, str_beq]
theorem str_kind (a : Str) : kindK (.str a) = some false := rfl
theorem in_ceL (c : Ce) (xs : List Ce) : inD (ceD c) (.list (xs.map ceD)) = .ok (.bool (decide (c ∈ xs))) := by
  show (if dn 60 (ceD c) = true ∧ dnA 60 (xs.map ceD) = true then Re.ok (PyData.bool ((xs.map ceD).any fun y => PyData.eqv y (ceD c))) else .no) = _
  have hd : ∀ a : Ce, dn 60 (ceD a) = true := fun a => by unfold ceD; simp
  rw [if_pos ⟨hd c, by rw [dnA_all]; simp [hd]⟩]
  congr 2
  rw [Bool.eq_iff_iff]
  simp [ce_eqv]
/-- a box's cells, w columns -/
def colsB (l t : Int) (w h : Nat) : List Ce := (rngI l w).flatMap fun x => (rngI t h).map fun y => (x, y)
def inB (b : Bx) (c : Ce) : Bool := decide (b.1 ≤ c.1) && decide (c.1 < b.1 + b.2.2.1) && decide (b.2.1 ≤ c.2) && decide (c.2 < b.2.1 + b.2.2.2)
theorem inB_iff {b : Bx} {c : Ce} : inB b c = true ↔ (b.1 ≤ c.1 ∧ c.1 < b.1 + b.2.2.1) ∧ b.2.1 ≤ c.2 ∧ c.2 < b.2.1 + b.2.2.2 := by
  unfold inB
  simp only [Bool.and_eq_true, decide_eq_true_eq]
  constructor
  · rintro ⟨⟨⟨a, b⟩, c⟩, d⟩; exact ⟨⟨a, b⟩, c, d⟩
  · rintro ⟨⟨a, b⟩, c, d⟩; exact ⟨⟨⟨a, b⟩, c⟩, d⟩
theorem cols_mem {l t : Int} {w h : Nat} {c : Ce} : c ∈ colsB l t w h ↔ (l ≤ c.1 ∧ c.1 < l + (w : Nat)) ∧ t ≤ c.2 ∧ c.2 < t + (h : Nat) := by
  unfold colsB
  rw [List.mem_flatMap]
  constructor
  · rintro ⟨x, hx, hc⟩
    obtain ⟨y, hy, rfl⟩ := List.mem_map.mp hc
    exact ⟨rngI_mem.mp hx, rngI_mem.mp hy⟩
  · rintro ⟨h1, h2⟩
    exact ⟨c.1, rngI_mem.mpr h1, List.mem_map.mpr ⟨c.2, rngI_mem.mpr h2, rfl⟩⟩
theorem cols_succ (l t : Int) (w h : Nat) : colsB l t (w + 1) h = colsB l t w h ++ (rngI t h).map fun y => (l + (w : Nat), y) := by
  unfold colsB
  rw [rngI_succ, List.flatMap_append]
  simp
theorem cols_len (l t : Int) (h : Nat) : ∀ w : Nat, (colsB l t w h).length = w * h
  | 0 => by simp [colsB, rngI]
  | w + 1 => by
    rw [cols_succ, List.length_append, cols_len l t h w, List.length_map, rngI_len, Nat.succ_mul]
/-- boxes that meet have a cell in common, and none else -/
theorem meet_no {b o : Bx} (h : meetB b o = false) {c : Ce} (h1 : inB b c = true) (h2 : inB o c = true) : False := by
  rw [inB_iff] at h1 h2
  unfold meetB at h
  rw [Bool.and_eq_false_iff, decide_eq_false_iff_not, decide_eq_false_iff_not] at h
  omega
theorem no_meet {b o : Bx} (h : ∀ c, inB b c = true → inB o c = true → False) : meetB b o = false := by
  unfold meetB
  rw [Bool.and_eq_false_iff, decide_eq_false_iff_not, decide_eq_false_iff_not]
  by_cases h1 : max b.1 o.1 < min (b.1 + b.2.2.1) (o.1 + o.2.2.1)
  · by_cases h2 : max b.2.1 o.2.1 < min (b.2.1 + b.2.2.2) (o.2.1 + o.2.2.2)
    · exact (h (max b.1 o.1, max b.2.1 o.2.1) (inB_iff.mpr ⟨⟨by omega, by omega⟩, by omega, by omega⟩) (inB_iff.mpr ⟨⟨by omega, by omega⟩, by omega, by omega⟩)).elim
    · exact .inr h2
  · exact .inl h1
/-! the screen of a cell -/
def atS (S : Sc) (c : Ce) : Option Str := (S.find? fun p => inB p.2 c).map (·.1)
end KL
end
section
open PySem PySem.Spec PyProof.Rows L2 VS
namespace KL
/-! ### the law's screens -/
def letter : Nat → Str
  | 0 => "s" | 1 => "t" | 2 => "u" | 3 => "v" | _ => "w"
theorem letter_ok (k : Nat) : okName (letter k) = true := by
  match k with
  | 0 => rfl
  | 1 => rfl
  | 2 => rfl
  | 3 => rfl
  | n + 4 => rfl
theorem letter_ix (k : Nat) (h : k < 5) : ixD (.str "stuvw") (.int (k : Nat)) = .ok (.str (letter k)) := by
  match k, h with
  | 0, _ => rfl
  | 1, _ => rfl
  | 2, _ => rfl
  | 3, _ => rfl
  | 4, _ => rfl
theorem letter_lt : ∀ a b : Nat, a < b → b < 5 → decide (sLt (letter a) (letter b)) = true
  | 0, 1, _, _ => by decide
  | 0, 2, _, _ => by decide
  | 0, 3, _, _ => by decide
  | 0, 4, _, _ => by decide
  | 1, 2, _, _ => by decide
  | 1, 3, _, _ => by decide
  | 1, 4, _, _ => by decide
  | 2, 3, _, _ => by decide
  | 2, 4, _, _ => by decide
  | 3, 4, _, _ => by decide
  | 0, 0, h, _ => by omega
  | 1, 0, h, _ => by omega
  | 1, 1, h, _ => by omega
  | 2, 0, h, _ => by omega
  | 2, 1, h, _ => by omega
  | 2, 2, h, _ => by omega
  | 3, 0, h, _ => by omega
  | 3, 1, h, _ => by omega
  | 3, 2, h, _ => by omega
  | 3, 3, h, _ => by omega
  | a + 4, 0, h, _ => by omega
  | a + 4, 1, h, _ => by omega
  | a + 4, 2, h, _ => by omega
  | a + 4, 3, h, _ => by omega
  | a + 4, 4, h, _ => by omega
  | _, b + 5, _, h => by omega
theorem letters_asc : ∀ js : List Nat, js.Pairwise (· < ·) → (∀ j ∈ js, j < 5) → ascS (js.map letter) = true
  | [], _, _ => rfl
  | [a], _, _ => rfl
  | a :: b :: r, h, l => by
    have h' := List.pairwise_cons.mp h
    have ih := letters_asc (b :: r) h'.2 fun j hj => l j (List.mem_cons_of_mem _ hj)
    show (decide (sLt (letter a) (letter b)) && ascS ((b :: r).map letter)) = true
    rw [ih, letter_lt a b (h'.1 b List.mem_cons_self) (l b (by simp))]
    rfl
/-- what the loop keeps -/
structure SI (k : Nat) (S : Sc) (T : List Ce) : Prop where
  len : S.length ≤ k
  tl : T.length ≤ 12 * k
  nm : ∃ js : List Nat, S.map (·.1) = js.map letter ∧ js.Pairwise (· < ·) ∧ ∀ j ∈ js, j < k
  bx : ∀ p ∈ S, (0 ≤ p.2.1 ∧ p.2.1 ≤ 6 + 5 * (k : Int)) ∧ (0 ≤ p.2.2.1 ∧ p.2.2.1 ≤ 6 + 5 * (k : Int)) ∧ (1 ≤ p.2.2.2.1 ∧ p.2.2.2.1 ≤ 4) ∧ 1 ≤ p.2.2.2.2 ∧ p.2.2.2.2 ≤ 3
  dis : S.Pairwise fun p q => meetB p.2 q.2 = false
  cov : ∀ p ∈ S, ∀ c, inB p.2 c = true → c ∈ T
  ne : 0 < k → S ≠ []
  t0 : k = 0 → T = []
theorem SI.zero : SI 0 [] [] := ⟨Nat.le_refl _, Nat.le_refl _, ⟨[], rfl, List.Pairwise.nil, (fun _ h => nomatch h)⟩, (fun _ h => nomatch h), List.Pairwise.nil, (fun _ h => nomatch h), (fun h => absurd h (by decide)), (fun _ => rfl)⟩
theorem SI.skip {k : Nat} {S : Sc} {T : List Ce} (I : SI k S T) (h : 0 < k) : SI (k + 1) S T := by
  obtain ⟨js, e, p, l⟩ := I.nm
  have := I.len
  have := I.tl
  refine ⟨by omega, by omega, ⟨js, e, p, fun j hj => by have := l j hj; omega⟩, fun p hp => ?_, I.dis, I.cov, fun _ => I.ne h, fun z => by omega⟩
  have := I.bx p hp
  omega
theorem SI.add {k : Nat} {S : Sc} {T : List Ce} (I : SI k S T) {b : Bx} (hb : (0 ≤ b.1 ∧ b.1 ≤ 6 + 5 * ((k + 1 : Nat) : Int)) ∧ (0 ≤ b.2.1 ∧ b.2.1 ≤ 6 + 5 * ((k + 1 : Nat) : Int)) ∧ (1 ≤ b.2.2.1 ∧ b.2.2.1 ≤ 4) ∧ 1 ≤ b.2.2.2 ∧ b.2.2.2 ≤ 3)
    (hn : ∀ c ∈ colsB b.1 b.2.1 b.2.2.1.toNat b.2.2.2.toNat, c ∉ T) : SI (k + 1) (S ++ [(letter k, b)]) (T ++ colsB b.1 b.2.1 b.2.2.1.toNat b.2.2.2.toNat) := by
  obtain ⟨js, e, p, l⟩ := I.nm
  have h1 := I.len
  have h2 := I.tl
  have hm : ∀ c, inB b c = true → c ∈ colsB b.1 b.2.1 b.2.2.1.toNat b.2.2.2.toNat := fun c hc => by
    rw [inB_iff] at hc
    rw [cols_mem]
    omega
  have lz : b.2.2.1.toNat * b.2.2.2.toNat ≤ 4 * 3 := Nat.mul_le_mul (by omega) (by omega)
  refine ⟨by simp; omega, ?_, ⟨js ++ [k], by rw [List.map_append, List.map_append, e]; rfl, ?_, fun j hj => ?_⟩, fun q hq => ?_, ?_, fun q hq c hc => ?_, fun _ => by simp, fun z => by omega⟩
  · rw [List.length_append, cols_len]; omega
  · rw [List.pairwise_append]
    refine ⟨p, by simp, fun a ha c hc => ?_⟩
    have : c = k := by simpa using hc
    subst this
    exact l a ha
  · rcases List.mem_append.mp hj with hj | hj
    · have := l j hj; omega
    · have : j = k := by simpa using hj
      omega
  · rcases List.mem_append.mp hq with hq | hq
    · have := I.bx q hq
      omega
    · have : q = (letter k, b) := by simpa using hq
      subst this
      exact hb
  · rw [List.pairwise_append]
    refine ⟨I.dis, by simp, fun a ha c hc => ?_⟩
    have : c = (letter k, b) := by simpa using hc
    subst this
    exact no_meet fun z h1 h2 => hn z (hm z h2) (I.cov a ha z h1)
  · rcases List.mem_append.mp hq with hq | hq
    · exact List.mem_append.mpr (.inl (I.cov q hq c hc))
    · have : q = (letter k, b) := by simpa using hq
      subst this
      exact List.mem_append.mpr (.inr (hm c hc))
/-! the steps -/
def q1 : Dl → RS := (setS 6 (d2 modI (dA (argsF [(d2 ixD (gS 0) (d2 addD (d2 addD (gS 1) (kC (.int 1))) (gS 5)))]) intD) (kC (.int 65521))))
def q2 : Dl → RS := (parS [7, 8] (argsM [(false, (d2 addD (kC (.int 1)) (d2 modI (gS 6) (kC (.int 4))))), (false, (d2 addD (kC (.int 1)) (d2 modI (d2 fdivI (gS 6) (kC (.int 4))) (kC (.int 3)))))]))
def q3 : Dl → RS := (parS [9, 10] (argsM [(false, (d2 modI (d2 fdivI (gS 6) (kC (.int 12))) (kC (.int 7)))), (false, (d2 modI (d2 fdivI (gS 6) (kC (.int 84))) (kC (.int 6))))]))
def q4 : Dl → RS := (ifS (tAnd2 (tB1 (d2 gtD (dA (argsF [(gS 3)]) lenD) (kC (.int 0)))) (tB1 (d2 gtD (d2 modI (d2 fdivI (gS 6) (kC (.int 504))) (kC (.int 3))) (kC (.int 0))))) (seqS (setS 11 (d2 ixD (d2 ixD (gS 3) (d2 modI (d2 fdivI (gS 6) (kC (.int 1512))) (dA (argsF [(gS 3)]) lenD))) (kC (.int 1)))) (asgS (bT 2 (bCons (bN 9) (bCons (bN 10) bNil))) (d2 ixD (dA (argsF [(dA (argsF [(d2 addD (d2 ixD (gS 11) (kC (.int 0))) (d2 ixD (gS 11) (kC (.int 2)))), (d2 addD (d2 ixD (gS 11) (kC (.int 1))) (d2 modI (gS 6) (kC (.int 2))))]) tupD), (dA (argsF [(d2 ixD (gS 11) (kC (.int 0))), (d2 addD (d2 ixD (gS 11) (kC (.int 1))) (d2 ixD (gS 11) (kC (.int 3))))]) tupD), (dA (argsF [(d2 addD (d2 ixD (gS 11) (kC (.int 0))) (d2 ixD (gS 11) (kC (.int 2)))), (d2 ixD (gS 11) (kC (.int 1)))]) tupD), (dA (argsF [(d2 addD (d2 ixD (gS 11) (kC (.int 0))) (kC (.int 1))), (d2 addD (d2 ixD (gS 11) (kC (.int 1))) (d2 ixD (gS 11) (kC (.int 3))))]) tupD)]) lstD) (d2 modI (d2 fdivI (gS 6) (kC (.int 504))) (kC (.int 4)))))) nxS)
def q5 : Dl → RS := (setS 12 (dA (argsF []) lstD))
def q6b : Dl → RS := (setS 12 (d2 addD (gS 12) (lcD ([14]) (dAL (argsF [(gS 10), (d2 addD (gS 10) (gS 8))]) rng2D) (bN 14) yesT (dA (argsF [(gS 13), (gS 14)]) tupD))))
def q6 : Dl → RS := (forS (dAL (argsF [(gS 9), (d2 addD (gS 9) (gS 7))]) rng2D) (bN 13) q6b)
def q7 : Dl → RS := (ifS (tNot1 (tB1 (dA (argsF [(lcD ([15]) (d1L itemsD (gS 12)) (bN 15) yesT (d2 inD (gS 15) (gS 4)))]) anyD))) (parS [3, 4] (argsM [(false, (d2 addD (gS 3) (dA (argsF [(dA (argsF [(d2 ixD (kC (.str "stuvw")) (gS 5)), (dA (argsF [(gS 9), (gS 10), (gS 7), (gS 8)]) tupD)]) tupD)]) tupD))), (false, (d2 addD (gS 4) (gS 12)))])) nxS)
def qb : Dl → RS := seqS q1 (seqS q2 (seqS q3 (seqS q4 (seqS q5 (seqS q6 q7)))))
theorem b18_eq (c : Nat → List Sl → Re PyData) : b_18 c = (seqS (parS [3, 4] (argsM [(false, (dA (argsF []) tupD)), (false, (dA (argsF []) lstD))])) (seqS (forS (dAL (argsF [(d2 addD (kC (.int 1)) (d2 modI (dA (argsF [(d2 ixD (gS 0) (gS 1))]) intD) (gS 2)))]) rng1D) (bN 5) qb) (retS (gS 3)))) := rfl
/-- the slots -/
abbrev LSc (ds : List Int) (S : Sc) (T : List Ce) (s5 s6 s7 s8 s9 s10 s11 s12 s13 s14 s15 : Sl) : Dl := [.sh (I2 ds), .sh (.int 0), .sh (.int 5), .sh (scD S), .sh (.list (T.map ceD)), s5, s6, s7, s8, s9, s10, s11, s12, s13, s14, s15]
theorem ab_ne (i : Int) : intD [.int i] = .ok (.int i) := rfl
theorem q13_ev (ds : List Int) (S : Sc) (T : List Ce) (k : Nat) (d : Int) (hd : ds[k + 1]? = some d) (h0 : 0 ≤ d ∧ d < 65521) (s6 s7 s8 s9 s10 s11 s12 s13 s14 s15 : Sl) :
    (seqS q1 (seqS q2 q3)) (LSc ds S T (.sh (.int (k : Nat))) s6 s7 s8 s9 s10 s11 s12 s13 s14 s15) = .nx (LSc ds S T (.sh (.int (k : Nat))) (.sh (.int d)) (.sh (.int (1 + d % 4))) (.sh (.int (1 + d / 4 % 3))) (.sh (.int (d / 12 % 7))) (.sh (.int (d / 84 % 6))) s11 s12 s13 s14 s15) := by
  have ei : atI (ds.map PyData.int) (0 + 1 + (k : Int)) = some (.int d) := by
    have : (0 + 1 + (k : Int)) = ((k + 1 : Nat) : Int) := by omega
    rw [this]
    exact at_nat (by rw [List.getElem?_map, hd]; rfl)
  have em : d % 65521 = d := Int.emod_eq_of_lt h0.1 h0.2
  unfold q1 q2 q3 LSc
  simp only [ev_seq, ev_set, ev_d2, ev_dA, ev_args, ev_args0, gS_zero, gS_succ, ev_k, bnd_ok, ev_addI, ix_l, ei, ofO_some, ev_intI, ev_mod (show (0 : Int) < 65521 by decide), em, toS_ok, List.set_cons_succ, List.set_cons_zero, rsb_nx, ev_par, ev_argsMf, ev_argsM0, ev_mod (show (0 : Int) < 4 by decide), ev_mod (show (0 : Int) < 3 by decide), ev_mod (show (0 : Int) < 7 by decide), ev_mod (show (0 : Int) < 6 by decide), ev_fdiv (show (0 : Int) < 4 ∧ (4 : Int) < 1073741824 by decide), ev_fdiv (show (0 : Int) < 12 ∧ (12 : Int) < 1073741824 by decide), ev_fdiv (show (0 : Int) < 84 ∧ (84 : Int) < 1073741824 by decide), List.length_cons, List.length_nil, if_true, ev_bindM, ev_bindM0]
theorem q4_ev (ds : List Int) (S : Sc) (T : List Ce) (k : Nat) (I : SI k S T) (d : Int) (h0 : 0 ≤ d ∧ d < 65521) (s5 s7 s8 s11 s12 s13 s14 s15 : Sl) :
    ∃ l t s11', q4 (LSc ds S T s5 (.sh (.int d)) s7 s8 (.sh (.int (d / 12 % 7))) (.sh (.int (d / 84 % 6))) s11 s12 s13 s14 s15) = .nx (LSc ds S T s5 (.sh (.int d)) s7 s8 (.sh (.int l)) (.sh (.int t)) s11' s12 s13 s14 s15) ∧
      (0 ≤ l ∧ l ≤ 6 + 5 * ((k + 1 : Nat) : Int)) ∧ (0 ≤ t ∧ t ≤ 6 + 5 * ((k + 1 : Nat) : Int)) := by
  have hb : d / 12 % 7 ≤ 6 ∧ 0 ≤ d / 12 % 7 ∧ d / 84 % 6 ≤ 5 ∧ 0 ≤ d / 84 % 6 := by omega
  have e504 := ev_fdiv (i := d) (show (0 : Int) < 504 ∧ (504 : Int) < 1073741824 by decide)
  have e1512 := ev_fdiv (i := d) (show (0 : Int) < 1512 ∧ (1512 : Int) < 1073741824 by decide)
  have el : (S.map rowD).length = S.length := List.length_map _
  by_cases c : (0 : Int) < (S.length : Nat) ∧ 0 < d / 504 % 3
  · obtain ⟨c1, c2⟩ := c
    have hm1 : 0 ≤ d / 1512 % (S.length : Int) := Int.emod_nonneg _ (by omega)
    have hm2 : d / 1512 % (S.length : Int) < (S.length : Int) := Int.emod_lt_of_pos _ c1
    obtain ⟨n, hn⟩ : ∃ n : Nat, d / 1512 % (S.length : Int) = (n : Nat) := ⟨(d / 1512 % (S.length : Int)).toNat, by omega⟩
    rw [hn] at hm2
    have hlt : n < S.length := by omega
    obtain ⟨p, hp⟩ : ∃ p, S[n]? = some p := ⟨_, List.getElem?_eq_getElem hlt⟩
    have hbx := I.bx p (List.mem_of_getElem? hp)
    have ea : atI (S.map rowD) (n : Int) = some (rowD p) := at_nat (by rw [List.getElem?_map, hp]; rfl)
    have er : ixD (rowD p) (.int 1) = .ok (bxD p.2) := by unfold rowD; simp
    have j0 : ixD (bxD p.2) (.int 0) = .ok (.int p.2.1) := by unfold bxD; simp
    have j1 : ixD (bxD p.2) (.int 1) = .ok (.int p.2.2.1) := by unfold bxD; simp
    have j2 : ixD (bxD p.2) (.int 2) = .ok (.int p.2.2.2.1) := by unfold bxD; simp
    have j3 : ixD (bxD p.2) (.int 3) = .ok (.int p.2.2.2.2) := by unfold bxD; simp
    have e2 := ev_mod (i := d) (show (0 : Int) < 2 by decide)
    have e4 := ev_mod (i := d / 504) (show (0 : Int) < 4 by decide)
    have l4 : ∀ a b c d : PyData, lstD [a, b, c, d] = .ok (.list [a, b, c, d]) := fun a b c d => ev_lst (by rw [sz_line]; simp)
    have ex : ∃ l t, atI [PyData.tuple [.int (p.2.1 + p.2.2.2.1), .int (p.2.2.1 + d % 2)], PyData.tuple [.int p.2.1, .int (p.2.2.1 + p.2.2.2.2)], PyData.tuple [.int (p.2.1 + p.2.2.2.1), .int p.2.2.1], PyData.tuple [.int (p.2.1 + 1), .int (p.2.2.1 + p.2.2.2.2)]] (d / 504 % 4) = some (.tuple [.int l, .int t]) ∧ (0 ≤ l ∧ l ≤ 6 + 5 * ((k + 1 : Nat) : Int)) ∧ (0 ≤ t ∧ t ≤ 6 + 5 * ((k + 1 : Nat) : Int)) := by
      have : d / 504 % 4 = 0 ∨ d / 504 % 4 = 1 ∨ d / 504 % 4 = 2 ∨ d / 504 % 4 = 3 := by omega
      rcases this with e | e | e | e
      · exact ⟨_, _, by rw [e]; exact at_0 _ _, by omega, by omega⟩
      · exact ⟨_, _, by rw [e]; exact at_1 _ _ _, by omega, by omega⟩
      · exact ⟨_, _, by rw [e]; exact at_2 _ _ _ _, by omega, by omega⟩
      · exact ⟨_, _, by rw [e]; exact at_3 _ _ _ _ _, by omega, by omega⟩
    obtain ⟨l, t, ex, hl, ht⟩ := ex
    refine ⟨l, t, .sh (bxD p.2), ?_, hl, ht⟩
    unfold q4 LSc scD
    simp only [ev_if, ev_tAnd, ev_tB1, ev_d2, ev_dA, ev_args, ev_args0, gS_zero, gS_succ, ev_k, bnd_ok, ev_lenT, el, ev_gtI, ev_asB, decide_eq_true c1, if_true, e504, e1512, ev_mod (show (0 : Int) < 3 by decide), decide_eq_true c2, toS_ok, ev_seq, ev_set, ev_mod c1, hn, ix_t, ea, ofO_some, er, List.set_cons_succ, List.set_cons_zero, rsb_nx, ev_asg, j0, j1, j2, j3, ev_addI, e2, ev_tup2, l4, e4, ix_l, ex, ev_bT, List.length_cons, List.length_nil, ev_bCons, ev_bN, ev_bNil, Option.bind_some]
  · refine ⟨d / 12 % 7, d / 84 % 6, s11, ?_, ⟨by omega, by omega⟩, ⟨by omega, by omega⟩⟩
    have hc : (tAnd2 (tB1 (d2 gtD (dA (argsF [(gS 3)]) lenD) (kC (.int 0)))) (tB1 (d2 gtD (d2 modI (d2 fdivI (gS 6) (kC (.int 504))) (kC (.int 3))) (kC (.int 0))))) (LSc ds S T s5 (.sh (.int d)) s7 s8 (.sh (.int (d / 12 % 7))) (.sh (.int (d / 84 % 6))) s11 s12 s13 s14 s15) = .ok false := by
      unfold LSc scD
      simp only [ev_tAnd, ev_tB1, ev_d2, ev_dA, ev_args, ev_args0, gS_zero, gS_succ, ev_k, bnd_ok, ev_lenT, el, ev_gtI, ev_asB, e504, ev_mod (show (0 : Int) < 3 by decide)]
      by_cases c1 : (0 : Int) < (S.length : Nat)
      · have c2 : ¬ 0 < d / 504 % 3 := fun z => c ⟨c1, z⟩
        rw [decide_eq_true c1, if_pos rfl, decide_eq_false c2]
      · rw [decide_eq_false c1, if_neg Bool.false_ne_true]
    unfold q4
    rw [ev_if, hc]
    rfl
theorem q56_ev (ds : List Int) (S : Sc) (T : List Ce) (l t w h : Int) (hw : 1 ≤ w ∧ w ≤ 4) (hh : 1 ≤ h ∧ h ≤ 3) (hl : 0 ≤ l ∧ l ≤ 1000) (ht : 0 ≤ t ∧ t ≤ 1000) (s5 s6 s11 s12 s13 s14 s15 : Sl) :
    ∃ s13' s14', (seqS q5 q6) (LSc ds S T s5 s6 (.sh (.int w)) (.sh (.int h)) (.sh (.int l)) (.sh (.int t)) s11 s12 s13 s14 s15) = .nx (LSc ds S T s5 s6 (.sh (.int w)) (.sh (.int h)) (.sh (.int l)) (.sh (.int t)) s11 (.sh (.list ((colsB l t w.toNat h.toNat).map ceD))) s13' s14' s15) := by
  have hs : sizeLine = 16777216 := sz_line
  have r1 : rng2D [.int l, .int (l + w)] = .ok ((rngI l w.toNat).map .int) := by
    rw [rng2_ev _ _ (by omega), show l + w - l = w by omega]
  have r2 : rng2D [.int t, .int (t + h)] = .ok ((rngI t h.toNat).map .int) := by
    rw [rng2_ev _ _ (by omega), show t + h - t = h by omega]
  obtain ⟨δ', e, s13', s14', rfl⟩ := goS_inv0 (b := bN 13) (body := q6b) (ds := (rngI l w.toNat).map .int) (δ := LSc ds S T s5 s6 (.sh (.int w)) (.sh (.int h)) (.sh (.int l)) (.sh (.int t)) s11 (.sh (.list [])) s13 s14 s15)
    (fun j δ => ∃ s13' s14', δ = LSc ds S T s5 s6 (.sh (.int w)) (.sh (.int h)) (.sh (.int l)) (.sh (.int t)) s11 (.sh (.list ((colsB l t j h.toNat).map ceD))) s13' s14' s15) ⟨s13, s14, rfl⟩ (by
    rintro j d δ hj ⟨s13', s14', rfl⟩
    obtain ⟨hjw, rfl⟩ := rngI_at hj
    refine ⟨_, _, rfl, .inl ?_, .sh (.int (l + (j : Nat))), s14', rfl⟩
    have e1 : lcL (bN 14) yesT (dA (argsF [(gS 13), (gS 14)]) tupD) (LSc ds S T s5 s6 (.sh (.int w)) (.sh (.int h)) (.sh (.int l)) (.sh (.int t)) s11 (.sh (.list ((colsB l t j h.toNat).map ceD))) (.sh (.int (l + (j : Nat)))) .no s15) ((rngI t h.toNat).map .int) = .ok (((rngI t h.toNat).map fun y => (l + (j : Nat), y)).map ceD) := by
      rw [List.map_map]
      exact lcL_all PyData.int (fun y => ceD (l + (j : Nat), y)) _ fun y hy => ⟨_, rfl, by simp [ceD]⟩
    have lz := cols_len l t h.toNat j
    have lz2 : j * h.toNat ≤ 4 * 3 := Nat.mul_le_mul (by omega) (by omega)
    have e2 : addD (.list ((colsB l t j h.toNat).map ceD)) (.list (((rngI t h.toNat).map fun y => (l + (j : Nat), y)).map ceD)) = .ok (.list ((colsB l t (j + 1) h.toNat).map ceD)) := by
      rw [ev_addL (by simp only [List.length_map, rngI_len]; omega), cols_succ, List.map_append]
    simp only [LSc, List.set_cons_succ, List.set_cons_zero] at e1 ⊢
    simp only [q6b, ev_set, ev_d2, gS_zero, gS_succ, bnd_ok, ev_lc, ev_dAL, ev_args, ev_args0, ev_addI, r2, List.length_map, rngI_len, if_pos (show h.toNat ≤ sizeLine by omega), ev_wipe, ev_wipe0, List.set_cons_succ, List.set_cons_zero, e1, e2, toS_ok])
  rw [List.length_map, rngI_len] at e
  refine ⟨s13', s14', ?_⟩
  unfold q5 q6
  simp only [LSc] at e ⊢
  simp only [ev_seq, ev_set, ev_dA, ev_args0, bnd_ok, ev_lst0, toS_ok, List.set_cons_succ, List.set_cons_zero, rsb_nx, ev_for, ev_dAL, ev_args, gS_zero, gS_succ, ev_d2, ev_addI, r1, e]
end KL
end
section
open PySem PySem.Spec PyProof.Rows L2 VS
namespace KL
theorem q7_ev (ds : List Int) (S : Sc) (T : List Ce) (k : Nat) (hk : k < 5) (I : SI k S T) (l t w h : Int) (hw : 1 ≤ w ∧ w ≤ 4) (hh : 1 ≤ h ∧ h ≤ 3) (hl : 0 ≤ l ∧ l ≤ 6 + 5 * ((k + 1 : Nat) : Int)) (ht : 0 ≤ t ∧ t ≤ 6 + 5 * ((k + 1 : Nat) : Int)) (s6 s11 s13 s14 s15 : Sl) :
    ∃ S' T', q7 (LSc ds S T (.sh (.int (k : Nat))) s6 (.sh (.int w)) (.sh (.int h)) (.sh (.int l)) (.sh (.int t)) s11 (.sh (.list ((colsB l t w.toNat h.toNat).map ceD))) s13 s14 s15) = .nx (LSc ds S' T' (.sh (.int (k : Nat))) s6 (.sh (.int w)) (.sh (.int h)) (.sh (.int l)) (.sh (.int t)) s11 (.sh (.list ((colsB l t w.toNat h.toNat).map ceD))) s13 s14 s15) ∧ SI (k + 1) S' T' := by
  have hs : sizeLine = 16777216 := sz_line
  have lc := cols_len l t h.toNat w.toNat
  have lz : w.toNat * h.toNat ≤ 4 * 3 := Nat.mul_le_mul (by omega) (by omega)
  have h1 := I.len
  have h2 := I.tl
  have e1 : lcL (bN 15) yesT (d2 inD (gS 15) (gS 4)) [.sh (I2 ds), .sh (.int 0), .sh (.int 5), .sh (scD S), .sh (.list (T.map ceD)), (.sh (.int (k : Nat))), s6, (.sh (.int w)), (.sh (.int h)), (.sh (.int l)), (.sh (.int t)), s11, (.sh (.list ((colsB l t w.toNat h.toNat).map ceD))), s13, s14, .no] ((colsB l t w.toNat h.toNat).map ceD) = .ok ((colsB l t w.toNat h.toNat).map fun c => .bool (decide (c ∈ T))) := lcL_all ceD _ _ fun c hc => ⟨_, rfl, by simp [in_ceL]⟩
  have e2 := any_b (fun c => decide (c ∈ T)) (colsB l t w.toNat h.toNat)
  by_cases c : ((colsB l t w.toNat h.toNat).any fun c => decide (c ∈ T)) = true
  · refine ⟨S, T, ?_, I.skip ?_⟩
    · unfold q7 LSc
      simp only [ev_if, ev_tNot, ev_tB1, ev_dA, ev_args, ev_args0, ev_lc, ev_d1L, gS_zero, gS_succ, bnd_ok, ev_items_l, List.length_map, if_pos (show (colsB l t w.toNat h.toNat).length ≤ sizeLine by omega), ev_wipe, ev_wipe0, List.set_cons_succ, List.set_cons_zero, e1, e2, c, ev_asB, Bool.not_true, toS_ok, if_neg Bool.false_ne_true, ev_nx]
    · rcases Nat.eq_zero_or_pos k with e | e
      · rw [I.t0 e] at c
        simp at c
      · exact e
  · have c' : ((colsB l t w.toNat h.toNat).any fun c => decide (c ∈ T)) = false := by simpa using c
    have el := letter_ix k hk
    have ea : addD (scD S) (.tuple [rowD (letter k, (l, t, w, h))]) = .ok (scD (S ++ [(letter k, (l, t, w, h))])) := by
      unfold scD
      rw [ev_addT (by simp; omega), List.map_append]
      rfl
    have eT : addD (.list (T.map ceD)) (.list ((colsB l t w.toNat h.toNat).map ceD)) = .ok (.list ((T ++ colsB l t w.toNat h.toNat).map ceD)) := by
      rw [ev_addL (by simp only [List.length_map]; omega), List.map_append]
    have et : tupD [PyData.tuple [.str (letter k), .tuple [.int l, .int t, .int w, .int h]]] = .ok (.tuple [rowD (letter k, (l, t, w, h))]) := ev_tup1 _
    refine ⟨S ++ [(letter k, (l, t, w, h))], T ++ colsB l t w.toNat h.toNat, ?_, I.add (b := (l, t, w, h)) ⟨hl, ht, hw, hh⟩ fun z hz hT => ?_⟩
    · unfold q7 LSc
      simp only [ev_if, ev_tNot, ev_tB1, ev_dA, ev_args, ev_args0, ev_lc, ev_d1L, gS_zero, gS_succ, bnd_ok, ev_items_l, List.length_map, if_pos (show (colsB l t w.toNat h.toNat).length ≤ sizeLine by omega), ev_wipe, ev_wipe0, List.set_cons_succ, List.set_cons_zero, e1, e2, c', ev_asB, Bool.not_false, toS_ok, if_true, ev_par, ev_argsMf, ev_argsM0, ev_d2, ev_k, el, ev_tup4, ev_tup2, et, ea, eT, List.length_cons, List.length_nil, ev_bindM, ev_bindM0]
    · rw [List.any_eq_false] at c'
      have := c' z hz
      simp at this
      exact this hT
theorem qb_ev (ds : List Int) (ok : okDr ds) (hl : ds.length = 60) (S : Sc) (T : List Ce) (k : Nat) (hk : k < 5) (I : SI k S T) (s6 s7 s8 s9 s10 s11 s12 s13 s14 s15 : Sl) :
    ∃ S' T' t6 t7 t8 t9 t10 t11 t12 t13 t14 t15, qb (LSc ds S T (.sh (.int (k : Nat))) s6 s7 s8 s9 s10 s11 s12 s13 s14 s15) = .nx (LSc ds S' T' (.sh (.int (k : Nat))) t6 t7 t8 t9 t10 t11 t12 t13 t14 t15) ∧ SI (k + 1) S' T' := by
  obtain ⟨d, hd⟩ : ∃ d, ds[k + 1]? = some d := ⟨_, List.getElem?_eq_getElem (by omega)⟩
  have h0 := ok d (List.mem_of_getElem? hd)
  have hw : 1 ≤ 1 + d % 4 ∧ 1 + d % 4 ≤ 4 := by omega
  have hh : 1 ≤ 1 + d / 4 % 3 ∧ 1 + d / 4 % 3 ≤ 3 := by omega
  have e1 := q13_ev ds S T k d hd h0 s6 s7 s8 s9 s10 s11 s12 s13 s14 s15
  obtain ⟨l, t, s11', e2, h1, h2⟩ := q4_ev ds S T k I d h0 (.sh (.int (k : Nat))) (.sh (.int (1 + d % 4))) (.sh (.int (1 + d / 4 % 3))) s11 s12 s13 s14 s15
  obtain ⟨s13', s14', e3⟩ := q56_ev ds S T l t (1 + d % 4) (1 + d / 4 % 3) hw hh (by omega) (by omega) (.sh (.int (k : Nat))) (.sh (.int d)) s11' s12 s13 s14 s15
  obtain ⟨S', T', e4, I'⟩ := q7_ev ds S T k hk I l t (1 + d % 4) (1 + d / 4 % 3) hw hh h1 h2 (.sh (.int d)) s11' s13' s14' s15
  have as1 : ∀ (δ : Dl) (f : Dl → RS), seqS q1 (seqS q2 (seqS q3 f)) δ = (seqS q1 (seqS q2 q3) δ).bnd f := fun δ f => by
    show (q1 δ).bnd (seqS q2 (seqS q3 f)) = ((q1 δ).bnd (seqS q2 q3)).bnd f
    cases q1 δ with
    | nx δ1 =>
      show (q2 δ1).bnd (seqS q3 f) = ((q2 δ1).bnd q3).bnd f
      cases q2 δ1 <;> rfl
    | _ => rfl
  have as2 : ∀ δ : Dl, seqS q5 (seqS q6 q7) δ = (seqS q5 q6 δ).bnd q7 := fun δ => by
    show (q5 δ).bnd (seqS q6 q7) = ((q5 δ).bnd q6).bnd q7
    cases q5 δ <;> rfl
  refine ⟨S', T', _, _, _, _, _, _, _, _, _, _, Eq.trans ?_ e4, I'⟩
  unfold qb
  rw [as1, e1, rsb_nx, ev_seq, e2, rsb_nx, as2, e3, rsb_nx]
theorem s_lscreens (k : Nat) (ds : List Int) (ok : okDr ds) (hl : ds.length = 60) : ∃ S n T, SI n S T ∧ 1 ≤ n ∧ n ≤ 5 ∧ den (k + 1) I__law_screens [.sh (I2 ds), .sh (.int 0), .sh (.int 5)] = .ok (scD S) := by
  obtain ⟨d, hd⟩ : ∃ d, ds[0]? = some d := ⟨_, List.getElem?_eq_getElem (by omega)⟩
  have h0 := ok d (List.mem_of_getElem? hd)
  obtain ⟨n, hn⟩ : ∃ n : Nat, 1 + d % 5 = (n : Nat) := ⟨(1 + d % 5).toNat, by omega⟩
  have hn5 : 1 ≤ n ∧ n ≤ 5 := by omega
  have e0 : den (k + 1) I__law_screens [.sh (I2 ds), .sh (.int 0), .sh (.int 5)] = outR (b_18 (den k) [.sh (I2 ds), .sh (.int 0), .sh (.int 5), .no, .no, .no, .no, .no, .no, .no, .no, .no, .no, .no, .no, .no]) := den__law_screens _ _
  obtain ⟨δ', e, S, T, t5, t6, t7, t8, t9, t10, t11, t12, t13, t14, t15, rfl, I⟩ := goS_inv0 (b := bN 5) (body := qb) (ds := nums n) (δ := LSc ds [] [] .no .no .no .no .no .no .no .no .no .no .no)
    (fun j δ => ∃ S T t5 t6 t7 t8 t9 t10 t11 t12 t13 t14 t15, δ = LSc ds S T t5 t6 t7 t8 t9 t10 t11 t12 t13 t14 t15 ∧ SI j S T) ⟨[], [], .no, .no, .no, .no, .no, .no, .no, .no, .no, .no, .no, rfl, SI.zero⟩ (by
    rintro j d δ hj ⟨S, T, t5, t6, t7, t8, t9, t10, t11, t12, t13, t14, t15, rfl, I⟩
    obtain ⟨hjn, rfl⟩ := nums_at hj
    obtain ⟨S', T', u6, u7, u8, u9, u10, u11, u12, u13, u14, u15, e, I'⟩ := qb_ev ds ok hl S T j (by omega) I t6 t7 t8 t9 t10 t11 t12 t13 t14 t15
    exact ⟨_, _, rfl, .inl e, S', T', .sh (.int (j : Nat)), u6, u7, u8, u9, u10, u11, u12, u13, u14, u15, rfl, I'⟩)
  rw [nums_len] at I
  refine ⟨S, n, T, I, hn5.1, hn5.2, ?_⟩
  have ea : atI (ds.map PyData.int) 0 = some (.int d) := at_nat (i := 0) (by rw [List.getElem?_map, hd]; rfl)
  have er := rng1_n n (by omega)
  rw [e0, b18_eq]
  have e' : goS (bN 5) qb (nums n) [.sh (I2 ds), .sh (.int 0), .sh (.int 5), .sh (.tuple []), .sh (.list []), .no, .no, .no, .no, .no, .no, .no, .no, .no, .no, .no] = .nx (LSc ds S T t5 t6 t7 t8 t9 t10 t11 t12 t13 t14 t15) := e
  simp only [ev_seq, ev_par, ev_argsMf, ev_argsM0, ev_dA, ev_args, ev_args0, bnd_ok, ev_tup0, ev_lst0, toS_ok, List.length_cons, List.length_nil, if_true, ev_bindM, ev_bindM0, List.set_cons_succ, List.set_cons_zero, rsb_nx, ev_for, ev_dAL, ev_d2, ev_k, gS_zero, gS_succ, ix_l, ea, ofO_some, ev_intI, ev_mod (show (0 : Int) < 5 by decide), ev_addI, hn, er, e', ev_ret]
  rfl
theorem SI.gs {n : Nat} {S : Sc} {T : List Ce} (I : SI n S T) (h1 : 1 ≤ n) (h5 : n ≤ 5) : GS S := by
  obtain ⟨js, e, p, l⟩ := I.nm
  have hl := I.len
  refine ⟨?_, by omega, ?_, fun q hq => ?_, I.dis⟩
  · have := I.ne h1
    cases S with
    | nil => exact (this rfl).elim
    | cons a r => simp
  · rw [e]
    exact letters_asc js p fun j hj => by have := l j hj; omega
  · have hb := I.bx q hq
    refine ⟨?_, ?_, by omega, by omega⟩
    · have : q.1 ∈ S.map (·.1) := List.mem_map.mpr ⟨q, hq, rfl⟩
      rw [e] at this
      obtain ⟨j, _, ej⟩ := List.mem_map.mp this
      rw [← ej]
      exact letter_ok j
    · unfold okB
      omega
end KL
end
section
open PySem PySem.Spec PyProof.Rows L2 VS
namespace KL
/-! ### the law's cells -/
def put4 : Dl → RS := stoS 1 (dA (argsF [(gS 4), (gS 5)]) tupD) (gS 2)
abbrev LCe (S : Sc) (m : List (Ce × Str)) (s2 s3 s4 s5 : Sl) : Dl := [.sh (scD S), .ow (.dict (eKV ceD .str m)), s2, s3, s4, s5]
theorem put4_ev (S : Sc) (m : List (Ce × Str)) (s : Str) (s3 : Sl) (x y : Int) (hz : m.length < sizeLine) : put4 (LCe S m (.sh (.str s)) s3 (.sh (.int x)) (.sh (.int y))) = .nx (LCe S (putG m (x, y) s) (.sh (.str s)) s3 (.sh (.int x)) (.sh (.int y))) := by
  unfold put4 LCe
  rw [ev_sto (kvs := eKV ceD .str m) (k := ceD (x, y)) (v := .str s) rfl (by simp) (by simp [ceD]) (kfit_enc ce_kind m _) (by simpa [eKV] using hz)]
  rw [putD_enc ce_eqv]
  rfl
theorem rows_cells (S : Sc) (m : List (Ce × Str)) (s : Str) (s3 : Sl) (x t : Int) (h : Nat) (f : Ce → Option Str) (hf : ∀ c, lkG m c = f c) (N : Nat) (hm : m.length ≤ N) (hz : N + h < sizeLine) (s5 : Sl) :
    ∃ m' s5', goS (bN 5) put4 ((rngI t h).map .int) (LCe S m (.sh (.str s)) s3 (.sh (.int x)) s5) = .nx (LCe S m' (.sh (.str s)) s3 (.sh (.int x)) s5') ∧ m'.length ≤ N + h ∧
      ∀ c, lkG m' c = if c.1 = x ∧ t ≤ c.2 ∧ c.2 < t + (h : Nat) then some s else f c := by
  obtain ⟨δ', e, m', s5', rfl, l, g⟩ := goS_inv0 (b := bN 5) (body := put4) (ds := (rngI t h).map .int) (δ := LCe S m (.sh (.str s)) s3 (.sh (.int x)) s5)
    (fun j δ => ∃ m' s5', δ = LCe S m' (.sh (.str s)) s3 (.sh (.int x)) s5' ∧ m'.length ≤ N + j ∧ ∀ c, lkG m' c = if c.1 = x ∧ t ≤ c.2 ∧ c.2 < t + (j : Nat) then some s else f c)
    ⟨m, s5, rfl, hm, fun c => by rw [if_neg (by omega)]; exact hf c⟩ (by
    rintro j d δ hj ⟨m', s5', rfl, l, g⟩
    obtain ⟨hjn, rfl⟩ := rngI_at hj
    refine ⟨_, _, rfl, .inl (put4_ev S m' s s3 x (t + (j : Nat)) (by omega)), _, _, rfl, ?_, fun c => ?_⟩
    · have := putG_len m' (x, t + (j : Nat)) s
      omega
    · rw [lkG_put, g c]
      obtain ⟨c1, c2⟩ := c
      by_cases e : (c1, c2) = (x, t + (j : Nat))
      · rw [if_pos e]
        cases e
        rw [if_pos ⟨rfl, by omega, by omega⟩]
      · rw [if_neg e]
        have e' : ¬ (c1 = x ∧ c2 = t + (j : Nat)) := fun z => e (by rw [z.1, z.2])
        by_cases q : c1 = x ∧ t ≤ c2 ∧ c2 < t + (j : Nat)
        · rw [if_pos q, if_pos (by simp only; omega)]
        · rw [if_neg q, if_neg (by simp only; omega)])
  rw [List.length_map, rngI_len] at l g
  exact ⟨m', s5', e, l, g⟩
def colB : Dl → RS := (forS (dAL (argsF [(d2 ixD (gS 3) (kC (.int 1))), (d2 addD (d2 ixD (gS 3) (kC (.int 1))) (d2 ixD (gS 3) (kC (.int 3))))]) rng2D) (bN 5) put4)
theorem cols_cells (S : Sc) (m : List (Ce × Str)) (s : Str) (b : Bx) (hb : okB b) (f : Ce → Option Str) (hf : ∀ c, lkG m c = f c) (N : Nat) (hm : m.length ≤ N) (hz : N + 1000 * 1000 < sizeLine) (s4 s5 : Sl) :
    ∃ m' s4' s5', goS (bN 4) colB ((rngI b.1 b.2.2.1.toNat).map .int) (LCe S m (.sh (.str s)) (.sh (bxD b)) s4 s5) = .nx (LCe S m' (.sh (.str s)) (.sh (bxD b)) s4' s5') ∧ m'.length ≤ N + 1000 * 1000 ∧
      ∀ c, lkG m' c = if inB b c = true then some s else f c := by
  obtain ⟨⟨h1, h2⟩, ⟨h3, h4⟩, ⟨h5, h6⟩, h7, h8⟩ := hb
  have j1 : ixD (bxD b) (.int 1) = .ok (.int b.2.1) := by unfold bxD; simp
  have j3 : ixD (bxD b) (.int 3) = .ok (.int b.2.2.2) := by unfold bxD; simp
  have r2 : rng2D [.int b.2.1, .int (b.2.1 + b.2.2.2)] = .ok ((rngI b.2.1 b.2.2.2.toNat).map .int) := by
    rw [rng2_ev _ _ (by omega), show b.2.1 + b.2.2.2 - b.2.1 = b.2.2.2 by omega]
  have hq : ∀ j : Nat, j ≤ 1000 → j * b.2.2.2.toNat ≤ 1000 * 1000 := fun j hj => Nat.mul_le_mul hj (by omega)
  obtain ⟨δ', e, m', s4', s5', rfl, l, g⟩ := goS_inv0 (b := bN 4) (body := colB) (ds := (rngI b.1 b.2.2.1.toNat).map .int) (δ := LCe S m (.sh (.str s)) (.sh (bxD b)) s4 s5)
    (fun j δ => ∃ m' s4' s5', δ = LCe S m' (.sh (.str s)) (.sh (bxD b)) s4' s5' ∧ m'.length ≤ N + j * b.2.2.2.toNat ∧ ∀ c, lkG m' c = if (b.1 ≤ c.1 ∧ c.1 < b.1 + (j : Nat)) ∧ b.2.1 ≤ c.2 ∧ c.2 < b.2.1 + b.2.2.2 then some s else f c)
    ⟨m, s4, s5, rfl, by omega, fun c => by rw [if_neg (by omega)]; exact hf c⟩ (by
    rintro j d δ hj ⟨m', s4', s5', rfl, l, g⟩
    obtain ⟨hjn, rfl⟩ := rngI_at hj
    have hj1 := hq (j + 1) (by omega)
    have hsm : (j + 1) * b.2.2.2.toNat = j * b.2.2.2.toNat + b.2.2.2.toNat := Nat.succ_mul _ _
    obtain ⟨m2, s5b, e2, l2, g2⟩ := rows_cells S m' s (.sh (bxD b)) (b.1 + (j : Nat)) b.2.1 b.2.2.2.toNat _ g (N + j * b.2.2.2.toNat) l (by omega) s5'
    refine ⟨_, _, rfl, .inl ?_, m2, .sh (.int (b.1 + (j : Nat))), s5b, rfl, by omega, fun c => ?_⟩
    · simp only [LCe, List.set_cons_succ, List.set_cons_zero] at e2 ⊢
      unfold colB
      simp only [ev_for, ev_dAL, ev_args, ev_args0, ev_d2, gS_zero, gS_succ, ev_k, bnd_ok, j1, j3, ev_addI, r2, toS_ok, e2]
    · rw [g2 c]
      by_cases q : c.1 = b.1 + (j : Nat) ∧ b.2.1 ≤ c.2 ∧ c.2 < b.2.1 + (b.2.2.2.toNat : Nat)
      · rw [if_pos q, if_pos (by omega)]
      · rw [if_neg q]
        by_cases q2 : (b.1 ≤ c.1 ∧ c.1 < b.1 + (j : Nat)) ∧ b.2.1 ≤ c.2 ∧ c.2 < b.2.1 + b.2.2.2
        · rw [if_pos q2, if_pos (by omega)]
        · rw [if_neg q2, if_neg (by omega)])
  rw [List.length_map, rngI_len] at l g
  have := hq b.2.2.1.toNat (by omega)
  refine ⟨m', s4', s5', e, by omega, fun c => ?_⟩
  rw [g c]
  by_cases q : inB b c = true
  · rw [if_pos q]
    rw [inB_iff] at q
    rw [if_pos (by omega)]
  · rw [if_neg q]
    rw [inB_iff] at q
    rw [if_neg (by omega)]
theorem atS_snoc {S : Sc} {p : Str × Bx} (hd : ∀ q ∈ S, meetB q.2 p.2 = false) (c : Ce) : atS (S ++ [p]) c = if inB p.2 c = true then some p.1 else atS S c := by
  unfold atS
  rw [List.find?_append]
  by_cases h : inB p.2 c = true
  · have : S.find? (fun p => inB p.2 c) = none := by
      rw [List.find?_eq_none]
      intro q hq z
      exact meet_no (hd q hq) z h
    rw [this, if_pos h]
    simp [h]
  · have h' : inB p.2 c = false := by simpa using h
    rw [if_neg h]
    simp [h']
def lcB : Dl → RS := (forS (dAL (argsF [(d2 ixD (gS 3) (kC (.int 0))), (d2 addD (d2 ixD (gS 3) (kC (.int 0))) (d2 ixD (gS 3) (kC (.int 2))))]) rng2D) (bN 4) colB)
theorem s_lcells {S : Sc} (G : GS S) (k : Nat) : ∃ m, den (k + 1) I__law_cells [.sh (scD S)] = .ok (.dict (eKV ceD .str m)) ∧ ∀ c, lkG m c = atS S c := by
  have hs : sizeLine = 16777216 := sz_line
  have h8 := G.l8
  have e0 : den (k + 1) I__law_cells [.sh (scD S)] = outR (b_19 (den k) [.sh (scD S), .no, .no, .no, .no, .no]) := den__law_cells _ _
  obtain ⟨δ', e, m, s2, s3, s4, s5, rfl, l, g⟩ := goS_inv0 (b := bT 2 (bCons (bN 2) (bCons (bN 3) bNil))) (body := lcB) (ds := S.map rowD) (δ := LCe S [] .no .no .no .no)
    (fun j δ => ∃ m s2 s3 s4 s5, δ = LCe S m s2 s3 s4 s5 ∧ m.length ≤ j * (1000 * 1000) ∧ ∀ c, lkG m c = atS (S.take j) c)
    ⟨[], .no, .no, .no, .no, rfl, by simp, fun c => rfl⟩ (by
    rintro j d δ hj ⟨m, s2, s3, s4, s5, rfl, l, g⟩
    rw [List.getElem?_map] at hj
    obtain ⟨p, hp, rfl⟩ := Option.map_eq_some_iff.mp hj
    obtain ⟨hlt, hpe⟩ := List.getElem?_eq_some_iff.mp hp
    have et : S.take (j + 1) = S.take j ++ [p] := by rw [List.take_add_one, hp]; rfl
    have hb := (G.ok p (List.mem_of_getElem? hp)).2.1
    obtain ⟨m', s4', s5', e, l', g'⟩ := cols_cells S m p.1 p.2 hb _ g (j * (1000 * 1000)) l (by omega) s4 s5
    obtain ⟨⟨h1, h2⟩, ⟨h3, h4⟩, ⟨h5, h6⟩, h7, h8⟩ := hb
    have j0 : ixD (bxD p.2) (.int 0) = .ok (.int p.2.1) := by unfold bxD; simp
    have j2 : ixD (bxD p.2) (.int 2) = .ok (.int p.2.2.2.1) := by unfold bxD; simp
    have r2 : rng2D [.int p.2.1, .int (p.2.1 + p.2.2.2.1)] = .ok ((rngI p.2.1 p.2.2.2.1.toNat).map .int) := by
      rw [rng2_ev _ _ (by omega), show p.2.1 + p.2.2.2.1 - p.2.1 = p.2.2.2.1 by omega]
    have hd : ∀ q ∈ S.take j, meetB q.2 p.2 = false := fun q hq => by
      obtain ⟨i, hi⟩ := List.mem_iff_getElem?.mp hq
      obtain ⟨hi1, hi2⟩ := List.getElem?_eq_some_iff.mp hi
      rw [List.length_take] at hi1
      rw [List.getElem_take] at hi2
      have := (List.pairwise_iff_getElem.mp G.dis) i j (by omega) hlt (by omega)
      rw [hi2, hpe] at this
      exact this
    refine ⟨LCe S m (.sh (.str p.1)) (.sh (bxD p.2)) s4 s5, LCe S m' (.sh (.str p.1)) (.sh (bxD p.2)) s4' s5', by simp [rowD], .inl ?_, m', _, _, s4', s5', rfl, by omega, fun c => ?_⟩
    · simp only [LCe] at e ⊢
      unfold lcB
      simp only [ev_for, ev_dAL, ev_args, ev_args0, ev_d2, gS_zero, gS_succ, ev_k, bnd_ok, j0, j2, ev_addI, r2, toS_ok, e]
    · rw [g' c, et, atS_snoc hd])
  rw [List.length_map, List.take_length] at g
  refine ⟨m, ?_, g⟩
  have eb : b_19 (den k) = (seqS (setO 1 (kC (.dict []))) (seqS (forS (d1L itemsD (gS 0)) (bT 2 (bCons (bN 2) (bCons (bN 3) bNil))) lcB) (fun δ => (retS (gS 1)) (frzD 1 δ)))) := rfl
  have e' : goS (bT 2 (bCons (bN 2) (bCons (bN 3) bNil))) lcB (S.map rowD) [.sh (.tuple (S.map rowD)), .ow (.dict []), .no, .no, .no, .no] = .nx (LCe S m s2 s3 s4 s5) := e
  rw [e0, eb]
  unfold scD
  simp only [ev_seq, ev_setO, ev_k, toS_ok, List.set_cons_succ, List.set_cons_zero, rsb_nx, ev_for, ev_d1L, gS_zero, bnd_ok, ev_items_t, e']
  rfl
end KL
end
section
open PySem PySem.Spec PyProof.Rows L2 VS
namespace KL
/-! ### counting cells -/
def nmS (S : Sc) (c : Ce) : Str := (atS S c).getD ""
def cnt (S : Sc) (V : List Ce) (s : Str) : Nat := V.countP fun c => decide (nmS S c = s)
theorem ascS_pw : ∀ {xs : List Str}, ascS xs = true → xs.Pairwise sLt
  | [], _ => .nil
  | [a], _ => by simp
  | a :: b :: r, h => by
    have h' : (decide (sLt a b) && ascS (b :: r)) = true := h
    rw [Bool.and_eq_true, decide_eq_true_eq] at h'
    have ih := ascS_pw h'.2
    refine .cons (fun c hc => ?_) ih
    rcases List.mem_cons.mp hc with e | hc
    · subst e; exact h'.1
    · exact List.lt_trans h'.1 ((List.pairwise_cons.mp ih).1 c hc)
theorem GS.nd {S : Sc} (G : GS S) : (S.map (·.1)).Nodup := (ascS_pw G.asc).imp fun {a b} h e => by
  subst e
  exact List.lt_irrefl _ h
theorem okName_ne {s : Str} (h : okName s = true) : s ≠ "" := by
  intro e
  subst e
  exact absurd h (by decide)
theorem nm_iff {S : Sc} (G : GS S) {p : Str × Bx} (hp : p ∈ S) (c : Ce) : nmS S c = p.1 ↔ inB p.2 c = true := by
  have hn := okName_ne (G.ok p hp).1
  unfold nmS atS
  constructor
  · intro h
    cases e : S.find? (fun p => inB p.2 c) with
    | none => rw [e] at h; exact (hn h.symm).elim
    | some q =>
      rw [e] at h
      have hq : q ∈ S := List.mem_of_find?_eq_some e
      have hb := List.find?_some e
      have h' : q.1 = p.1 := h
      obtain ⟨i, hi⟩ := List.mem_iff_getElem?.mp hq
      obtain ⟨j, hj⟩ := List.mem_iff_getElem?.mp hp
      have : i = j := by
        have nd := List.pairwise_map.mp G.nd
        obtain ⟨hi1, hi2⟩ := List.getElem?_eq_some_iff.mp hi
        obtain ⟨hj1, hj2⟩ := List.getElem?_eq_some_iff.mp hj
        rcases Nat.lt_trichotomy i j with l | l | l
        · have := (List.pairwise_iff_getElem.mp nd) i j hi1 hj1 l
          rw [hi2, hj2] at this
          exact (this h').elim
        · exact l
        · have := (List.pairwise_iff_getElem.mp nd) j i hj1 hi1 l
          rw [hi2, hj2] at this
          exact (this h'.symm).elim
      subst this
      rw [hi] at hj
      cases hj
      exact hb
  · intro h
    cases e : S.find? (fun p => inB p.2 c) with
    | none =>
      rw [List.find?_eq_none] at e
      exact (e p hp h).elim
    | some q =>
      have hq : q ∈ S := List.mem_of_find?_eq_some e
      have hb := List.find?_some e
      have : q = p := by
        obtain ⟨i, hi⟩ := List.mem_iff_getElem?.mp hq
        obtain ⟨j, hj⟩ := List.mem_iff_getElem?.mp hp
        obtain ⟨hi1, hi2⟩ := List.getElem?_eq_some_iff.mp hi
        obtain ⟨hj1, hj2⟩ := List.getElem?_eq_some_iff.mp hj
        rcases Nat.lt_trichotomy i j with l | l | l
        · have := (List.pairwise_iff_getElem.mp G.dis) i j hi1 hj1 l
          rw [hi2, hj2] at this
          exact (meet_no this hb h).elim
        · subst l
          rw [hi] at hj
          cases hj
          rfl
        · have := (List.pairwise_iff_getElem.mp G.dis) j i hj1 hi1 l
          rw [hi2, hj2] at this
          exact (meet_no this h hb).elim
      subst this
      rfl
theorem nm_cases (S : Sc) (c : Ce) : nmS S c = "" ∨ ∃ p ∈ S, nmS S c = p.1 := by
  unfold nmS atS
  cases e : S.find? (fun p => inB p.2 c) with
  | none => exact .inl rfl
  | some q => exact .inr ⟨q, List.mem_of_find?_eq_some e, rfl⟩
/-! how many -/
theorem cX (l a v : Int) (hv : 0 ≤ v) : ∀ w : Nat, (((rngI l w).countP fun x => decide (a ≤ x) && decide (x < a + v) : Nat) : Int) = max 0 (lap l (w : Nat) a v)
  | 0 => by
    unfold lap
    simp [rngI]
    omega
  | w + 1 => by
    have ih := cX l a v hv w
    rw [rngI_succ, List.countP_append, Int.natCast_add, ih]
    unfold lap
    rw [List.countP_singleton]
    by_cases h1 : a ≤ l + (w : Nat)
    · by_cases h2 : l + (w : Nat) < a + v
      · rw [decide_eq_true h1, decide_eq_true h2]
        simp only [Bool.and_self, if_true]
        omega
      · rw [decide_eq_false h2, Bool.and_false, if_neg Bool.false_ne_true]
        omega
    · rw [decide_eq_false h1, Bool.false_and, if_neg Bool.false_ne_true]
      omega
theorem cCols (l t : Int) (h : Nat) (o : Bx) : ∀ w : Nat, (colsB l t w h).countP (inB o) = ((rngI l w).countP fun x => decide (o.1 ≤ x) && decide (x < o.1 + o.2.2.1)) * ((rngI t h).countP fun y => decide (o.2.1 ≤ y) && decide (y < o.2.1 + o.2.2.2))
  | 0 => by simp [colsB, rngI]
  | w + 1 => by
    rw [cols_succ, List.countP_append, cCols l t h o w, rngI_succ, List.countP_append, Nat.add_mul, List.countP_map, List.countP_singleton]
    congr 1
    by_cases hc : (decide (o.1 ≤ l + (w : Nat)) && decide (l + (w : Nat) < o.1 + o.2.2.1)) = true
    · rw [if_pos hc, Nat.one_mul]
      refine List.countP_congr fun y _ => ?_
      unfold inB
      simp only [Function.comp, hc, Bool.true_and]
    · rw [if_neg hc, Nat.zero_mul, List.countP_eq_zero]
      intro y _
      unfold inB
      have hc' : (decide (o.1 ≤ l + (w : Nat)) && decide (l + (w : Nat) < o.1 + o.2.2.1)) = false := by simpa using hc
      simp only [Function.comp, hc', Bool.false_and]
      exact Bool.false_ne_true
theorem cnt_cmn {S : Sc} (G : GS S) {p : Str × Bx} (hp : p ∈ S) {b : Bx} (hb : okB b) : (cnt S (colsB b.1 b.2.1 b.2.2.1.toNat b.2.2.2.toNat) p.1 : Int) = cmn b p.2 := by
  obtain ⟨⟨h1, h2⟩, ⟨h3, h4⟩, ⟨h5, h6⟩, h7, h8⟩ := hb
  obtain ⟨_, ⟨⟨g1, g2⟩, ⟨g3, g4⟩, ⟨g5, g6⟩, g7, g8⟩, _⟩ := G.ok p hp
  have e : cnt S (colsB b.1 b.2.1 b.2.2.1.toNat b.2.2.2.toNat) p.1 = (colsB b.1 b.2.1 b.2.2.1.toNat b.2.2.2.toNat).countP (inB p.2) := by
    unfold cnt
    congr 1
    funext c
    rw [Bool.eq_iff_iff, decide_eq_true_eq]
    exact nm_iff G hp c
  rw [e, cCols, Int.natCast_mul, cX _ _ _ g5, cX _ _ _ g7]
  unfold cmn
  rw [Int.toNat_of_nonneg h5, Int.toNat_of_nonneg h7]
/-! all cells are counted once -/
theorem one_of : ∀ {ns : List Str} (s0 : Str), ns.Nodup → ("" : Str) ∉ ns → (s0 = "" ∨ s0 ∈ ns) → (ns.map fun s => if s0 = s then (1 : Int) else 0).sum + (if s0 = "" then 1 else 0) = 1
  | [], s0, _, _, h => by
    rcases h with h | h
    · simp [h]
    · cases h
  | n :: ns, s0, nd, he, h => by
    have nd' := List.nodup_cons.mp nd
    have he' : ("" : Str) ∉ ns := fun z => he (List.mem_cons_of_mem _ z)
    have zero : ∀ {ms : List Str}, s0 ∉ ms → (ms.map fun s => if s0 = s then (1 : Int) else 0).sum = 0 := fun {ms} hm => by
      induction ms with
      | nil => rfl
      | cons a r ih =>
        rw [List.map_cons, List.sum_cons, ih fun z => hm (List.mem_cons_of_mem _ z), if_neg fun z => hm (by rw [z]; exact List.mem_cons_self)]
        rfl
    rw [List.map_cons, List.sum_cons]
    by_cases e : s0 = n
    · subst e
      have hn : s0 ≠ "" := fun z => he (by rw [← z]; exact List.mem_cons_self)
      rw [if_pos rfl, zero nd'.1, if_neg hn]
      rfl
    · rw [if_neg e]
      have : s0 = "" ∨ s0 ∈ ns := by
        rcases h with h | h
        · exact .inl h
        · rcases List.mem_cons.mp h with h | h
          · exact (e h).elim
          · exact .inr h
      have ih := one_of s0 nd'.2 he' this
      omega
theorem cnt_snoc (S : Sc) (V : List Ce) (c : Ce) (s : Str) : cnt S (V ++ [c]) s = cnt S V s + if nmS S c = s then 1 else 0 := by
  unfold cnt
  rw [List.countP_append, List.countP_singleton]
  by_cases h : nmS S c = s <;> simp [h]
theorem cnt_cons (S : Sc) (V : List Ce) (c : Ce) (s : Str) : (cnt S (c :: V) s : Int) = (if nmS S c = s then 1 else 0) + cnt S V s := by
  unfold cnt
  rw [List.countP_cons]
  by_cases h : nmS S c = s <;> simp [h]
  omega
theorem cnt_all {S : Sc} (G : GS S) : ∀ V : List Ce, (S.map fun p => (cnt S V p.1 : Int)).sum + (cnt S V "" : Int) = V.length
  | [] => by
    have : ∀ T : Sc, (T.map fun p => (cnt S [] p.1 : Int)).sum = 0 := fun T => by
      induction T with
      | nil => rfl
      | cons a r ih => rw [List.map_cons, List.sum_cons, ih]; rfl
    rw [this]
    rfl
  | c :: V => by
    have ih := cnt_all G V
    have he : ("" : Str) ∉ S.map (·.1) := fun z => by
      obtain ⟨p, hp, e⟩ := List.mem_map.mp z
      exact okName_ne (G.ok p hp).1 e
    have h1 := one_of (nmS S c) G.nd he (by
      rcases nm_cases S c with h | ⟨p, hp, h⟩
      · exact .inl h
      · exact .inr (List.mem_map.mpr ⟨p, hp, h.symm⟩))
    rw [List.map_map] at h1
    have hsum : ∀ T : Sc, (T.map fun p => (cnt S (c :: V) p.1 : Int)).sum = (T.map ((fun s => if nmS S c = s then (1 : Int) else 0) ∘ (·.1))).sum + (T.map fun p => (cnt S V p.1 : Int)).sum := fun T => by
      induction T with
      | nil => rfl
      | cons a r ih2 =>
        rw [List.map_cons, List.sum_cons, ih2, List.map_cons, List.sum_cons, List.map_cons, List.sum_cons, cnt_cons]
        simp only [Function.comp]
        omega
    rw [hsum, cnt_cons, List.length_cons]
    omega
theorem sum_pos {S : Sc} (f : Str × Bx → Int) (hf : ∀ p ∈ S, 0 ≤ f p) : (((S.map fun p => (p.1, f p)).filter fun q => decide (0 < q.2)).map (·.2)).sum = (S.map f).sum := by
  induction S with
  | nil => rfl
  | cons p r ih =>
    have ih := ih fun q hq => hf q (List.mem_cons_of_mem _ hq)
    have h0 := hf p List.mem_cons_self
    rw [List.map_cons, List.filter_cons, List.map_cons, List.sum_cons, ← ih]
    by_cases h : 0 < f p
    · simp [h]
    · have : f p = 0 := by omega
      simp [this]
theorem cmn_nn (b o : Bx) : 0 ≤ cmn b o := Int.mul_nonneg (by omega) (by omega)
theorem lost_eq {S : Sc} (G : GS S) {b : Bx} (hb : okB b) : b.2.2.1 * b.2.2.2 - ((shR S b).map (·.2)).sum = (cnt S (colsB b.1 b.2.1 b.2.2.1.toNat b.2.2.2.toNat) "" : Int) := by
  have h := cnt_all G (colsB b.1 b.2.1 b.2.2.1.toNat b.2.2.2.toNat)
  rw [cols_len, Int.natCast_mul, Int.toNat_of_nonneg hb.2.2.1.1, Int.toNat_of_nonneg hb.2.2.2.1] at h
  have e : ((shR S b).map (·.2)).sum = (S.map fun p => cmn b p.2).sum := sum_pos (fun p => cmn b p.2) fun p _ => cmn_nn b p.2
  have e2 : (S.map fun p => (cnt S (colsB b.1 b.2.1 b.2.2.1.toNat b.2.2.2.toNat) p.1 : Int)) = S.map fun p => cmn b p.2 := List.map_congr_left fun p hp => cnt_cmn G hp hb
  rw [e, ← e2]
  omega
/-! the law's rows -/
structure CN (S : Sc) (V : List Ce) (mc : List (Str × Int)) : Prop where
  nd : (mc.map (·.1)).Nodup
  l : mc.length ≤ V.length
  v : ∀ s, lkG mc s = if cnt S V s = 0 then none else some (cnt S V s : Int)
theorem CN.nil (S : Sc) : CN S [] [] := ⟨List.nodup_nil, Nat.le_refl _, fun s => rfl⟩
theorem CN.snoc {S : Sc} {V : List Ce} {mc : List (Str × Int)} (C : CN S V mc) (c : Ce) : CN S (V ++ [c]) (putG mc (nmS S c) ((lkG mc (nmS S c)).getD 0 + 1)) := by
  refine ⟨putG_nodup _ _ C.nd, ?_, fun s => ?_⟩
  · have := putG_len mc (nmS S c) ((lkG mc (nmS S c)).getD 0 + 1)
    have := C.l
    rw [List.length_append]
    simp only [List.length_cons, List.length_nil]
    omega
  · rw [lkG_put, cnt_snoc]
    by_cases h : s = nmS S c
    · subst h
      rw [if_pos rfl, if_pos rfl, if_neg (by omega), C.v]
      split
      · rename_i h0
        rw [h0]
        rfl
      · simp
    · have h' : ¬ nmS S c = s := fun z => h z.symm
      rw [if_neg h, if_neg h', C.v]
      rfl
theorem sorted_one {xs ys : List Str} (p : xs.Perm ys) (s1 : xs.Pairwise fun a b => sLe a b = true) (s2 : ys.Pairwise fun a b => sLe a b = true) : xs = ys := (sortS_eq p s1).symm.trans (sortS_eq (.refl _) s2)
theorem sLt_le {a b : Str} (h : sLt a b) : sLe a b = true := by
  rw [sLe_iff]
  intro z
  exact List.lt_irrefl _ (List.lt_trans h z)
theorem rows_eq {S : Sc} (G : GS S) {b : Bx} (hb : okB b) {mc : List (Str × Int)} (C : CN S (colsB b.1 b.2.1 b.2.2.1.toNat b.2.2.2.toNat) mc) :
    ((sortS (mc.map (·.1))).filter fun s => !decide (s = ("" : Str))).map (fun s => (s, (cnt S (colsB b.1 b.2.1 b.2.2.1.toNat b.2.2.2.toNat) s : Int))) = shR S b := by
  have hc : ∀ p ∈ S, _ := fun p hp => cnt_cmn G hp hb (p := p)
  have hv := C.v
  generalize hV : colsB b.1 b.2.1 b.2.2.1.toNat b.2.2.2.toNat = V at C hc hv
  have e1 : (sortS (mc.map (·.1))).filter (fun s => !decide (s = ("" : Str))) = (S.filter fun p => decide (0 < cmn b p.2)).map (·.1) := by
    refine sorted_one ?_ ((sortS_pw _).filter _) ?_
    · refine (List.perm_ext_iff_of_nodup ?_ ?_).mpr fun s => ?_
      · exact ((sortS_perm _).nodup_iff.mpr C.nd).filter _
      · exact G.nd.sublist (List.Sublist.map _ List.filter_sublist)
      · rw [List.mem_filter, (sortS_perm _).mem_iff, ← lkG_some, hv s, List.mem_map]
        constructor
        · rintro ⟨h1, h2⟩
          have hs : s ≠ "" := by simpa using h2
          have h0 : 0 < V.countP fun c => decide (nmS S c = s) := by
            split at h1
            · cases h1
            · rename_i z
              exact Nat.pos_of_ne_zero z
          obtain ⟨c, _, ec⟩ := List.countP_pos_iff.mp h0
          have ec : nmS S c = s := by simpa using ec
          rcases nm_cases S c with e | ⟨p, hp, e⟩
          · exact (hs (ec.symm.trans e)).elim
          · have e' : p.1 = s := e.symm.trans ec
            refine ⟨p, List.mem_filter.mpr ⟨hp, ?_⟩, e'⟩
            have := hc p hp
            rw [e'] at this
            rw [decide_eq_true_eq, ← this]
            exact Int.natCast_pos.mpr h0
        · rintro ⟨p, hp, e⟩
          obtain ⟨hp, h0⟩ := List.mem_filter.mp hp
          subst e
          have := hc p hp
          rw [decide_eq_true_eq, ← this] at h0
          refine ⟨?_, ?_⟩
          · rw [if_neg (by omega)]
            rfl
          · have := okName_ne (G.ok p hp).1
            simp [this]
    · have := (ascS_pw G.asc).sublist (List.Sublist.map (·.1) (List.filter_sublist (p := fun p : Str × Bx => decide (0 < cmn b p.2))))
      exact this.imp sLt_le
  rw [e1, List.map_map]
  unfold shR
  rw [List.filter_map]
  refine List.map_congr_left fun p hp => ?_
  have hp' := (List.mem_filter.mp hp).1
  show (p.1, (cnt S V p.1 : Int)) = (p.1, cmn b p.2)
  rw [hc p hp']
end KL
end
section
open PySem PySem.Spec PyProof.Rows L2 VS
namespace KL
def y_0 (c : Nat → List Sl → Re PyData) : Dl → RS := (setS 1 (dScr 0 (kC (.int 60)) (c I__law_draws)))
def y_1_0 (c : Nat → List Sl → Re PyData) : Dl → RS := (setS 3 (dA (argsF [(d2 addD (dSl slA (gS 1) (someP (d2 mulI (kC (.int 6)) (gS 2))) noP) (dSl slA (gS 1) noP (someP (d2 mulI (kC (.int 6)) (gS 2))))), (kC (.int 0)), (kC (.int 5))]) (cD (c I__law_screens))))
def y_1_1 (c : Nat → List Sl → Re PyData) : Dl → RS := (setS 4 (dA (argsF [(gS 3)]) (cD (c I__law_cells))))
def y_1_2_0 (c : Nat → List Sl → Re PyData) : Dl → RS := (setS 6 (d2 fdivI (dA (argsF [(d2 ixD (gS 1) (d2 addD (kC (.int 40)) (gS 5)))]) intD) (d2 addD (gS 2) (kC (.int 1)))))
def y_1_2_1 (c : Nat → List Sl → Re PyData) : Dl → RS := (setS 7 (dA (argsF [(d2 modI (gS 6) (kC (.int 12))), (d2 modI (d2 fdivI (gS 6) (kC (.int 12))) (kC (.int 9))), (d2 modI (d2 fdivI (gS 6) (kC (.int 108))) (kC (.int 5))), (d2 modI (d2 fdivI (gS 6) (kC (.int 540))) (kC (.int 4)))]) tupD))
def y_1_2_2 (c : Nat → List Sl → Re PyData) : Dl → RS := (setO 8 (kC (.dict [])))
def y_1_2_3 (c : Nat → List Sl → Re PyData) : Dl → RS := (setS 9 (kC (.int 0)))
def y_1_2_4_0_0 (c : Nat → List Sl → Re PyData) : Dl → RS := (setS 12 (dGet2 (gS 4) (dA (argsF [(gS 10), (gS 11)]) tupD) (kC (.str ""))))
def y_1_2_4_0_1 (c : Nat → List Sl → Re PyData) : Dl → RS := (stoS 8 (gS 12) (d2 addD (dGet2 (gB 8) (gS 12) (kC (.int 0))) (kC (.int 1))))
def y_1_2_4_0_2 (c : Nat → List Sl → Re PyData) : Dl → RS := (setS 9 (d2 addD (gS 9) (dA (argsF [(d2 eqD (gS 12) (kC (.str "")))]) intD)))
def yb_1_2_4_0 (c : Nat → List Sl → Re PyData) : Dl → RS := (seqS (y_1_2_4_0_0 c) (seqS (y_1_2_4_0_1 c) (y_1_2_4_0_2 c)))
def y_1_2_4_0 (c : Nat → List Sl → Re PyData) : Dl → RS := forS (dAL (argsF [(d2 ixD (gS 7) (kC (.int 1))), (d2 addD (d2 ixD (gS 7) (kC (.int 1))) (d2 ixD (gS 7) (kC (.int 3))))]) rng2D) (bN 11) (yb_1_2_4_0 c)
def yb_1_2_4 (c : Nat → List Sl → Re PyData) : Dl → RS := (y_1_2_4_0 c)
def y_1_2_4 (c : Nat → List Sl → Re PyData) : Dl → RS := forS (dAL (argsF [(d2 ixD (gS 7) (kC (.int 0))), (d2 addD (d2 ixD (gS 7) (kC (.int 0))) (d2 ixD (gS 7) (kC (.int 2))))]) rng2D) (bN 10) (yb_1_2_4 c)
def y_1_2_5 (c : Nat → List Sl → Re PyData) : Dl → RS := (setS 13 (lcD ([12]) (d1L itemsD (dA (argsF [(gB 8)]) sortedA)) (bN 12) (tB1 (d2 neD (gS 12) (kC (.str "")))) (dA (argsF [(gS 12), (d2 ixD (gB 8) (gS 12))]) tupD)))
def y_1_2_6 (c : Nat → List Sl → Re PyData) : Dl → RS := (setS 14 (dA (argsF [(d2 addD (lcD ([21]) (d1L itemsD (gS 13)) (bN 21) yesT (d2 ixD (gS 21) (kC (.int 1)))) (dA (argsF [(kC (.int 0))]) lstD))]) maxL))
def y_1_2_7 (c : Nat → List Sl → Re PyData) : Dl → RS := (ifS (tOr2 (tB1 (d2 neD (dA (argsF [(gS 3), (gS 7)]) (cD (c I_shares_of))) (dA (argsF [(gS 13)]) tupAnyD))) (tOr2 (tB1 (d2 neD (dA (argsF [(gS 3), (gS 7)]) (cD (c I_lost_cells))) (gS 9))) (tOr2 (tB1 (d2 neD (dA (argsF [(gS 3), (gS 7)]) (cD (c I_spans))) (d2 gtD (dA (argsF [(gS 13)]) lenD) (kC (.int 1))))) (tNot1 (tB1 (d1 (isiD .tBool) (dA (argsF [(gS 3), (gS 7)]) (cD (c I_spans))))))))) (retS (kC (.bool false))) nxS)
def y_1_2_8 (c : Nat → List Sl → Re PyData) : Dl → RS := (ifS (tB1 (d2 neD (dA (argsF [(gS 3), (gS 7)]) (cD (c I_home_of))) (dIf (tB1 (d2 gtD (dA (argsF [(gS 13)]) lenD) (kC (.int 0)))) (d2 ixD (lcD ([21]) (d1L itemsD (gS 13)) (bN 21) (tB1 (d2 eqD (d2 ixD (gS 21) (kC (.int 1))) (gS 14))) (d2 ixD (gS 21) (kC (.int 0)))) (kC (.int 0))) (kC .none)))) (retS (kC (.bool false))) nxS)
def y_1_2_9 (c : Nat → List Sl → Re PyData) : Dl → RS := (setS 15 (dA (argsF []) lstD))
def y_1_2_10_0_0 (c : Nat → List Sl → Re PyData) : Dl → RS := (setS 15 (d2 addD (gS 15) (lcD ([11]) (dAL (argsF [(d2 ixD (gS 16) (kC (.int 1))), (d2 addD (d2 subD (d2 addD (d2 ixD (gS 16) (kC (.int 1))) (d2 ixD (gS 16) (kC (.int 3)))) (d2 ixD (gS 7) (kC (.int 3)))) (kC (.int 1)))]) rng2D) (bN 11) yesT (dA (argsF [(d2 addD (dA (argsF [(d2 subD (gS 10) (d2 ixD (gS 7) (kC (.int 0))))]) absD) (dA (argsF [(d2 subD (gS 11) (d2 ixD (gS 7) (kC (.int 1))))]) absD)), (d2 addD (dA (argsF [(gS 10), (gS 11)]) tupD) (dSl slA (gS 7) (someP (kC (.int 2))) noP))]) tupD))))
def yb_1_2_10_0 (c : Nat → List Sl → Re PyData) : Dl → RS := (y_1_2_10_0_0 c)
def y_1_2_10_0 (c : Nat → List Sl → Re PyData) : Dl → RS := forS (dAL (argsF [(d2 ixD (gS 16) (kC (.int 0))), (d2 addD (d2 subD (d2 addD (d2 ixD (gS 16) (kC (.int 0))) (d2 ixD (gS 16) (kC (.int 2)))) (d2 ixD (gS 7) (kC (.int 2)))) (kC (.int 1)))]) rng2D) (bN 10) (yb_1_2_10_0 c)
def yb_1_2_10 (c : Nat → List Sl → Re PyData) : Dl → RS := (y_1_2_10_0 c)
def y_1_2_10 (c : Nat → List Sl → Re PyData) : Dl → RS := forS (d1L itemsD (gS 3)) (bT 2 (bCons (bN 12) (bCons (bN 16) bNil))) (yb_1_2_10 c)
def y_1_2_11 (c : Nat → List Sl → Re PyData) : Dl → RS := (setS 17 (dA (argsF [(gS 3), (gS 7)]) (cD (c I_brought_in))))
def y_1_2_12 (c : Nat → List Sl → Re PyData) : Dl → RS := (ifS (tOr2 (tB1 (d2 neD (gS 17) (dIf (tB1 (d2 gtD (dA (argsF [(gS 15)]) lenD) (kC (.int 0)))) (d2 ixD (dA (argsF [(gS 15)]) minL) (kC (.int 1))) (kC .none)))) (tAnd2 (tB1 (d1 notND (gS 17))) (tB1 (d2 neD (dA (argsF [(gS 3), (gS 17)]) (cD (c I_brought_in))) (gS 17))))) (retS (kC (.bool false))) nxS)
def yb_1_2 (c : Nat → List Sl → Re PyData) : Dl → RS := (seqS (y_1_2_0 c) (seqS (y_1_2_1 c) (seqS (y_1_2_2 c) (seqS (y_1_2_3 c) (seqS (y_1_2_4 c) (seqS (y_1_2_5 c) (seqS (y_1_2_6 c) (seqS (y_1_2_7 c) (seqS (y_1_2_8 c) (seqS (y_1_2_9 c) (seqS (y_1_2_10 c) (seqS (y_1_2_11 c) (y_1_2_12 c)))))))))))))
def y_1_2 (c : Nat → List Sl → Re PyData) : Dl → RS := forS (dAL (argsF [(kC (.int 8))]) rng1D) (bN 5) (yb_1_2 c)
def y_1_3_0 (c : Nat → List Sl → Re PyData) : Dl → RS := (ifS (tB1 (d2 neD (lcD ([20]) (dAL (argsF [(kC (.int 5))]) rng1D) (bN 20) yesT (dA (argsF [(gS 20), (gS 3), (gS 18)]) (cD (c I__law_word)))) (d2 repL (dA (argsF [(kC (.str "box"))]) lstD) (kC (.int 5))))) (retS (kC (.bool false))) nxS)
def yb_1_3 (c : Nat → List Sl → Re PyData) : Dl → RS := (y_1_3_0 c)
def y_1_3 (c : Nat → List Sl → Re PyData) : Dl → RS := forS (d1L itemsD (dA (argsF [(kC .none), (dA (argsF [(kC (.int 0)), (kC (.int 0)), (kC (.int 1))]) tupD), (dA (argsF [(kC (.int 0)), (kC (.int 0)), (kC (.int 1)), (kC (.int 1))]) lstD), (dA (argsF [(kC (.int 0)), (kC (.int 0)), (kC (.int 1)), (kC (.int 1001))]) tupD), (dA (argsF [(kC (.int 0)), (kC (.int 0)), (d1 negI (kC (.int 1))), (kC (.int 1))]) tupD), (dA (argsF [(kC (.int 0)), (kC (.int 0)), (kC (.bool true)), (kC (.int 1))]) tupD), (kC (.int 3))]) lstD)) (bN 18) (yb_1_3 c)
def yb_1 (c : Nat → List Sl → Re PyData) : Dl → RS := (seqS (y_1_0 c) (seqS (y_1_1 c) (seqS (y_1_2 c) (y_1_3 c))))
def y_1 (c : Nat → List Sl → Re PyData) : Dl → RS := forS (dAL (argsF [(kC (.int 4))]) rng1D) (bN 2) (yb_1 c)
def y_2 (c : Nat → List Sl → Re PyData) : Dl → RS := (setS 19 (dA (argsF [(dA (argsF [(kC (.str "a")), (dA (argsF [(kC (.int 0)), (kC (.int 0)), (kC (.int 4)), (kC (.int 4))]) tupD)]) tupD), (dA (argsF [(kC (.str "b")), (dA (argsF [(kC (.int 4)), (kC (.int 2)), (kC (.int 4)), (kC (.int 4))]) tupD)]) tupD)]) tupD))
def y_3 (c : Nat → List Sl → Re PyData) : Dl → RS := (ifS (tOr2 (tB1 (d2 neD (dA (argsF [(gS 19), (dA (argsF [(kC (.int 3)), (kC (.int 3)), (kC (.int 2)), (kC (.int 2))]) tupD)]) (cD (c I_shares_of))) (dA (argsF [(dA (argsF [(kC (.str "a")), (kC (.int 1))]) tupD), (dA (argsF [(kC (.str "b")), (kC (.int 2))]) tupD)]) tupD))) (tOr2 (tB1 (d2 neD (dA (argsF [(gS 19), (dA (argsF [(kC (.int 3)), (kC (.int 3)), (kC (.int 2)), (kC (.int 2))]) tupD)]) (cD (c I_home_of))) (kC (.str "b")))) (tB1 (d2 neD (dA (argsF [(gS 19), (dA (argsF [(kC (.int 3)), (kC (.int 3)), (kC (.int 2)), (kC (.int 2))]) tupD)]) (cD (c I_lost_cells))) (kC (.int 1)))))) (retS (kC (.bool false))) nxS)
def y_4 (c : Nat → List Sl → Re PyData) : Dl → RS := (retS (dAnd (d2 eqD (dA (argsF [(gS 19), (dA (argsF [(kC (.int 3)), (kC (.int 3)), (kC (.int 2)), (kC (.int 2))]) tupD)]) (cD (c I_brought_in))) (dA (argsF [(kC (.int 4)), (kC (.int 3)), (kC (.int 2)), (kC (.int 2))]) tupD)) (dAnd (d1 isND (dA (argsF [(gS 19), (dA (argsF [(kC (.int 900)), (kC (.int 900)), (kC (.int 5)), (kC (.int 1))]) tupD)]) (cD (c I_brought_in)))) (d1 isND (dA (argsF [(gS 19), (dA (argsF [(kC (.int 0)), (kC (.int 0)), (kC (.int 0)), (kC (.int 9))]) tupD)]) (cD (c I_home_of)))))))
def yb (c : Nat → List Sl → Re PyData) : Dl → RS := (seqS (y_0 c) (seqS (y_1 c) (seqS (y_2 c) (seqS (y_3 c) (y_4 c)))))
theorem law_eq (c : Nat → List Sl → Re PyData) : b_21 c = yb c := rfl
theorem ev_get2 {fa fb fc : Dl → Re PyData} {δ : Dl} {kvs : List (PyData × PyData)} {k z : PyData} (ha : fa δ = .ok (.dict kvs)) (hb : fb δ = .ok k) (hc : fc δ = .ok z) (hk : kfit kvs k = true) : dGet2 fa fb fc δ = .ok ((lkD kvs k).getD z) := by
  unfold dGet2
  rw [ha]
  simp [hb, hc, hk]
abbrev LN (x0 x1 x2 : Sl) (S : Sc) (m : List (Ce × Str)) (x5 x6 : Sl) (b : Bx) (mc : List (Str × Int)) (n : Int) (s10 s11 s12 s13 s14 s15 s16 s17 s18 s19 s20 s21 : Sl) : Dl :=
  [x0, x1, x2, .sh (scD S), .sh (.dict (eKV ceD .str m)), x5, x6, .sh (bxD b), .ow (.dict (eKV .str .int mc)), .sh (.int n), s10, s11, s12, s13, s14, s15, s16, s17, s18, s19, s20, s21]
theorem cell_ev (c : Nat → List Sl → Re PyData) {S : Sc} {m : List (Ce × Str)} (hm : ∀ z, lkG m z = atS S z) {V : List Ce} {mc : List (Str × Int)} (C : CN S V mc) (hz : V.length < sizeLine) (x0 x1 x2 x5 x6 : Sl) (b : Bx) (x y : Int) (s12 s13 s14 s15 s16 s17 s18 s19 s20 s21 : Sl) :
    ∃ mc', CN S (V ++ [(x, y)]) mc' ∧ yb_1_2_4_0 c (LN x0 x1 x2 S m x5 x6 b mc (cnt S V "" : Int) (.sh (.int x)) (.sh (.int y)) s12 s13 s14 s15 s16 s17 s18 s19 s20 s21) = .nx (LN x0 x1 x2 S m x5 x6 b mc' (cnt S (V ++ [(x, y)]) "" : Int) (.sh (.int x)) (.sh (.int y)) (.sh (.str (nmS S (x, y)))) s13 s14 s15 s16 s17 s18 s19 s20 s21) := by
  have hl := C.l
  refine ⟨_, C.snoc (x, y), ?_⟩
  have e1 : dGet2 (gS 4) (dA (argsF [(gS 10), (gS 11)]) tupD) (kC (.str "")) (LN x0 x1 x2 S m x5 x6 b mc (cnt S V "" : Int) (.sh (.int x)) (.sh (.int y)) s12 s13 s14 s15 s16 s17 s18 s19 s20 s21) = .ok (.str (nmS S (x, y))) := by
    rw [ev_get2 (kvs := eKV ceD .str m) (k := ceD (x, y)) (z := .str "") (by simp) (by simp [ceD]) (by simp) (kfit_enc ce_kind m _), lkD_enc ce_eqv, hm]
    unfold nmS
    cases atS S (x, y) <;> rfl
  have e2 : dGet2 (gB 8) (gS 12) (kC (.int 0)) (LN x0 x1 x2 S m x5 x6 b mc (cnt S V "" : Int) (.sh (.int x)) (.sh (.int y)) (.sh (.str (nmS S (x, y)))) s13 s14 s15 s16 s17 s18 s19 s20 s21) = .ok (.int ((lkG mc (nmS S (x, y))).getD 0)) := by
    rw [ev_get2 (kvs := eKV .str .int mc) (k := .str (nmS S (x, y))) (z := .int 0) (by simp) (by simp) (by simp) (kfit_enc str_kind mc _), lkD_enc str_eqv]
    cases lkG mc (nmS S (x, y)) <;> rfl
  have e3 : stoS 8 (gS 12) (d2 addD (dGet2 (gB 8) (gS 12) (kC (.int 0))) (kC (.int 1))) (LN x0 x1 x2 S m x5 x6 b mc (cnt S V "" : Int) (.sh (.int x)) (.sh (.int y)) (.sh (.str (nmS S (x, y)))) s13 s14 s15 s16 s17 s18 s19 s20 s21) = .nx (LN x0 x1 x2 S m x5 x6 b (putG mc (nmS S (x, y)) ((lkG mc (nmS S (x, y))).getD 0 + 1)) (cnt S V "" : Int) (.sh (.int x)) (.sh (.int y)) (.sh (.str (nmS S (x, y)))) s13 s14 s15 s16 s17 s18 s19 s20 s21) := by
    rw [ev_sto (kvs := eKV .str .int mc) (k := .str (nmS S (x, y))) (v := .int ((lkG mc (nmS S (x, y))).getD 0 + 1)) rfl (by simp only [ev_d2, e2, ev_k, bnd_ok, ev_addI]) (by simp) (kfit_enc str_kind mc _) (by simp [eKV]; omega), putD_enc str_eqv]
    rfl
  have e4 : (y_1_2_4_0_0 c) (LN x0 x1 x2 S m x5 x6 b mc (cnt S V "" : Int) (.sh (.int x)) (.sh (.int y)) s12 s13 s14 s15 s16 s17 s18 s19 s20 s21) = .nx (LN x0 x1 x2 S m x5 x6 b mc (cnt S V "" : Int) (.sh (.int x)) (.sh (.int y)) (.sh (.str (nmS S (x, y)))) s13 s14 s15 s16 s17 s18 s19 s20 s21) := by
    unfold y_1_2_4_0_0
    rw [ev_set, e1]
    rfl
  unfold yb_1_2_4_0
  rw [ev_seq, e4, rsb_nx, ev_seq]
  unfold y_1_2_4_0_1
  rw [e3, rsb_nx]
  unfold y_1_2_4_0_2
  rw [cnt_snoc]
  by_cases h : nmS S (x, y) = ""
  · simp [h, VS.intD]
  · simp [h, VS.intD]
theorem col_ev (c : Nat → List Sl → Re PyData) {S : Sc} {m : List (Ce × Str)} (hm : ∀ z, lkG m z = atS S z) {V : List Ce} {mc : List (Str × Int)} (C : CN S V mc) (x0 x1 x2 x5 x6 : Sl) (b : Bx) (hb : okB b) (x : Int) (hz : V.length + 1000 < sizeLine) (s11 s12 s13 s14 s15 s16 s17 s18 s19 s20 s21 : Sl) :
    ∃ mc' s11' s12', CN S (V ++ (rngI b.2.1 b.2.2.2.toNat).map fun y => (x, y)) mc' ∧ yb_1_2_4 c (LN x0 x1 x2 S m x5 x6 b mc (cnt S V "" : Int) (.sh (.int x)) s11 s12 s13 s14 s15 s16 s17 s18 s19 s20 s21) = .nx (LN x0 x1 x2 S m x5 x6 b mc' (cnt S (V ++ (rngI b.2.1 b.2.2.2.toNat).map fun y => (x, y)) "" : Int) (.sh (.int x)) s11' s12' s13 s14 s15 s16 s17 s18 s19 s20 s21) := by
  obtain ⟨⟨h1, h2⟩, ⟨h3, h4⟩, ⟨h5, h6⟩, h7, h8⟩ := hb
  have j1 : ixD (bxD b) (.int 1) = .ok (.int b.2.1) := by unfold bxD; simp
  have j3 : ixD (bxD b) (.int 3) = .ok (.int b.2.2.2) := by unfold bxD; simp
  have r2 : rng2D [.int b.2.1, .int (b.2.1 + b.2.2.2)] = .ok ((rngI b.2.1 b.2.2.2.toNat).map .int) := by
    rw [rng2_ev _ _ (by omega), show b.2.1 + b.2.2.2 - b.2.1 = b.2.2.2 by omega]
  obtain ⟨δ', e, mc', s11', s12', rfl, C'⟩ := goS_inv0 (b := bN 11) (body := yb_1_2_4_0 c) (ds := (rngI b.2.1 b.2.2.2.toNat).map .int) (δ := LN x0 x1 x2 S m x5 x6 b mc (cnt S V "" : Int) (.sh (.int x)) s11 s12 s13 s14 s15 s16 s17 s18 s19 s20 s21)
    (fun j δ => ∃ mc' s11' s12', δ = LN x0 x1 x2 S m x5 x6 b mc' (cnt S (V ++ (rngI b.2.1 j).map fun y => (x, y)) "" : Int) (.sh (.int x)) s11' s12' s13 s14 s15 s16 s17 s18 s19 s20 s21 ∧ CN S (V ++ (rngI b.2.1 j).map fun y => (x, y)) mc')
    ⟨mc, s11, s12, by simp [rngI], by simpa [rngI] using C⟩ (by
    rintro j d δ hj ⟨mc', s11', s12', rfl, C'⟩
    obtain ⟨hjn, rfl⟩ := rngI_at hj
    obtain ⟨mc2, C2, e2⟩ := cell_ev c hm C' (by rw [List.length_append, List.length_map, rngI_len]; omega) x0 x1 x2 x5 x6 b x (b.2.1 + (j : Nat)) s12' s13 s14 s15 s16 s17 s18 s19 s20 s21
    have ev : (V ++ (rngI b.2.1 j).map fun y => (x, y)) ++ [(x, b.2.1 + (j : Nat))] = V ++ (rngI b.2.1 (j + 1)).map fun y => (x, y) := by
      rw [rngI_succ, List.map_append, List.append_assoc]
      rfl
    rw [ev] at C2 e2
    exact ⟨_, _, rfl, .inl e2, mc2, _, _, rfl, C2⟩)
  rw [List.length_map, rngI_len] at C' e
  refine ⟨mc', s11', s12', C', ?_⟩
  unfold yb_1_2_4 y_1_2_4_0
  simp only [LN] at e ⊢
  simp only [ev_for, ev_dAL, ev_args, ev_args0, ev_d2, gS_zero, gS_succ, ev_k, bnd_ok, j1, j3, ev_addI, r2, toS_ok, e]
theorem cnt_ev (c : Nat → List Sl → Re PyData) {S : Sc} {m : List (Ce × Str)} (hm : ∀ z, lkG m z = atS S z) (x0 x1 x2 x5 x6 : Sl) (b : Bx) (hb : okB b) (s10 s11 s12 s13 s14 s15 s16 s17 s18 s19 s20 s21 : Sl) :
    ∃ mc' s10' s11' s12', CN S (colsB b.1 b.2.1 b.2.2.1.toNat b.2.2.2.toNat) mc' ∧ y_1_2_4 c (LN x0 x1 x2 S m x5 x6 b [] 0 s10 s11 s12 s13 s14 s15 s16 s17 s18 s19 s20 s21) = .nx (LN x0 x1 x2 S m x5 x6 b mc' (cnt S (colsB b.1 b.2.1 b.2.2.1.toNat b.2.2.2.toNat) "" : Int) s10' s11' s12' s13 s14 s15 s16 s17 s18 s19 s20 s21) := by
  have hs : sizeLine = 16777216 := sz_line
  have hb' := hb
  obtain ⟨⟨h1, h2⟩, ⟨h3, h4⟩, ⟨h5, h6⟩, h7, h8⟩ := hb'
  have j0 : ixD (bxD b) (.int 0) = .ok (.int b.1) := by unfold bxD; simp
  have j2 : ixD (bxD b) (.int 2) = .ok (.int b.2.2.1) := by unfold bxD; simp
  have r2 : rng2D [.int b.1, .int (b.1 + b.2.2.1)] = .ok ((rngI b.1 b.2.2.1.toNat).map .int) := by
    rw [rng2_ev _ _ (by omega), show b.1 + b.2.2.1 - b.1 = b.2.2.1 by omega]
  obtain ⟨δ', e, mc', s10', s11', s12', rfl, C'⟩ := goS_inv0 (b := bN 10) (body := yb_1_2_4 c) (ds := (rngI b.1 b.2.2.1.toNat).map .int) (δ := LN x0 x1 x2 S m x5 x6 b [] 0 s10 s11 s12 s13 s14 s15 s16 s17 s18 s19 s20 s21)
    (fun j δ => ∃ mc' s10' s11' s12', δ = LN x0 x1 x2 S m x5 x6 b mc' (cnt S (colsB b.1 b.2.1 j b.2.2.2.toNat) "" : Int) s10' s11' s12' s13 s14 s15 s16 s17 s18 s19 s20 s21 ∧ CN S (colsB b.1 b.2.1 j b.2.2.2.toNat) mc')
    ⟨[], s10, s11, s12, rfl, CN.nil S⟩ (by
    rintro j d δ hj ⟨mc', s10', s11', s12', rfl, C'⟩
    obtain ⟨hjn, rfl⟩ := rngI_at hj
    have lz : j * b.2.2.2.toNat ≤ 1000 * 1000 := Nat.mul_le_mul (by omega) (by omega)
    obtain ⟨mc2, t11, t12, C2, e2⟩ := col_ev c hm C' x0 x1 x2 x5 x6 b hb (b.1 + (j : Nat)) (by rw [cols_len]; omega) s11' s12' s13 s14 s15 s16 s17 s18 s19 s20 s21
    rw [← cols_succ] at C2 e2
    exact ⟨_, _, rfl, .inl e2, mc2, _, _, _, rfl, C2⟩)
  rw [List.length_map, rngI_len] at C' e
  refine ⟨mc', s10', s11', s12', C', ?_⟩
  unfold y_1_2_4
  simp only [LN] at e ⊢
  simp only [ev_for, ev_dAL, ev_args, ev_args0, ev_d2, gS_zero, gS_succ, ev_k, bnd_ok, j0, j2, ev_addI, r2, toS_ok, e]
end KL
end
section
open PySem PySem.Spec PyProof.Rows L2 VS
namespace KL
/-- rows, most -/
theorem rows_ev (c : Nat → List Sl → Re PyData) {S : Sc} (G : GS S) {m : List (Ce × Str)} (x0 x1 x2 x5 x6 : Sl) (b : Bx) (hb : okB b) {mc : List (Str × Int)} (C : CN S (colsB b.1 b.2.1 b.2.2.1.toNat b.2.2.2.toNat) mc) (n : Int) (s10 s11 s12 s13 s14 s15 s16 s17 s18 s19 s20 s21 : Sl) :
    y_1_2_5 c (LN x0 x1 x2 S m x5 x6 b mc n s10 s11 s12 s13 s14 s15 s16 s17 s18 s19 s20 s21) = .nx (LN x0 x1 x2 S m x5 x6 b mc n s10 s11 s12 (.sh (.list ((shR S b).map srD))) s14 s15 s16 s17 s18 s19 s20 s21) := by
  have hs : sizeLine = 16777216 := sz_line
  have hl := C.l
  obtain ⟨⟨h1, h2⟩, ⟨h3, h4⟩, ⟨h5, h6⟩, h7, h8⟩ := id hb
  rw [cols_len] at hl
  have lz : b.2.2.1.toNat * b.2.2.2.toNat ≤ 1000 * 1000 := Nat.mul_le_mul (by omega) (by omega)
  have ek : (eKV PyData.str PyData.int mc).map (·.1) = (mc.map (·.1)).map PyData.str := by
    unfold eKV
    rw [List.map_map, List.map_map]
    rfl
  have e1 : sortedA [PyData.dict (eKV PyData.str PyData.int mc)] = .ok (.list ((sortS (mc.map (·.1))).map .str)) := by
    rw [ev_sortA_d, ek]
    exact ev_sortS _ (by rw [List.length_map]; omega)
  have ls : ((sortS (mc.map (·.1))).map PyData.str).length ≤ sizeLine := by
    rw [List.length_map, (sortS_perm _).length_eq, List.length_map]; omega
  have e2 : lcL (bN 12) (tB1 (d2 neD (gS 12) (kC (.str "")))) (dA (argsF [(gS 12), (d2 ixD (gB 8) (gS 12))]) tupD) [x0, x1, x2, .sh (scD S), .sh (.dict (eKV ceD .str m)), x5, x6, .sh (bxD b), .ow (.dict (eKV .str .int mc)), .sh (.int n), s10, s11, .no, s13, s14, s15, s16, s17, s18, s19, s20, s21] ((sortS (mc.map (·.1))).map PyData.str) = .ok ((shR S b).map srD) := by
    rw [← rows_eq G hb C, List.map_map]
    refine lcL_on PyData.str (fun s => !decide (s = ("" : Str))) _ _ fun s hs => ⟨_, rfl, by simp, fun _ => ?_⟩
    have hk : s ∈ mc.map (·.1) := (sortS_perm _).mem_iff.mp hs
    rw [← lkG_some, C.v s] at hk
    have hv : lkG mc s = some (cnt S (colsB b.1 b.2.1 b.2.2.1.toNat b.2.2.2.toNat) s : Int) := by
      rw [C.v s]
      split
      · rename_i z
        rw [if_pos z] at hk
        cases hk
      · rfl
    have ei : ixD (PyData.dict (eKV PyData.str PyData.int mc)) (.str s) = .ok (.int (cnt S (colsB b.1 b.2.1 b.2.2.1.toNat b.2.2.2.toNat) s : Int)) := by
      show (if kfit (eKV PyData.str PyData.int mc) (.str s) = true then ofO (lkD (eKV PyData.str PyData.int mc) (.str s)) else .no) = _
      rw [if_pos (kfit_enc str_kind mc s), lkD_enc str_eqv, hv]
      rfl
    simp [ei, srD]
  unfold y_1_2_5
  simp only [LN]
  simp only [ev_set, ev_lc, ev_d1L, ev_dA, ev_args, ev_args0, gB_succ, gB_zero', bnd_ok, e1, ev_items_l, if_pos ls, ev_wipe, ev_wipe0, List.set_cons_succ, List.set_cons_zero, e2, toS_ok]
abbrev LR (x0 x1 x2 : Sl) (S : Sc) (m : List (Ce × Str)) (x5 x6 : Sl) (b : Bx) (mc : List (Str × Int)) (n : Int) (s10 s11 s12 s14 s15 s16 s17 s18 s19 s20 s21 : Sl) : Dl :=
  LN x0 x1 x2 S m x5 x6 b mc n s10 s11 s12 (.sh (.list ((shR S b).map srD))) s14 s15 s16 s17 s18 s19 s20 s21
theorem most_ev (c : Nat → List Sl → Re PyData) {S : Sc} (G : GS S) {m : List (Ce × Str)} (x0 x1 x2 x5 x6 : Sl) (b : Bx) (mc : List (Str × Int)) (n : Int) (s10 s11 s12 s14 s15 s16 s17 s18 s19 s20 s21 : Sl) :
    y_1_2_6 c (LR x0 x1 x2 S m x5 x6 b mc n s10 s11 s12 s14 s15 s16 s17 s18 s19 s20 s21) = .nx (LR x0 x1 x2 S m x5 x6 b mc n s10 s11 s12 (.sh (.int (mxI ((shR S b).map (·.2) ++ [0])))) s15 s16 s17 s18 s19 s20 s21) := by
  have hs : sizeLine = 16777216 := sz_line
  have h8 := G.l8
  have hl := shR_len S b
  generalize hR : shR S b = R at hl
  have e3 : lcL (bN 21) yesT (d2 ixD (gS 21) (kC (.int 1))) [x0, x1, x2, .sh (scD S), .sh (.dict (eKV ceD .str m)), x5, x6, .sh (bxD b), .ow (.dict (eKV .str .int mc)), .sh (.int n), s10, s11, s12, (.sh (.list (R.map srD))), s14, s15, s16, s17, s18, s19, s20, .no] (R.map srD) = .ok ((R.map fun q : Str × Int => q.2).map PyData.int) := by
    rw [List.map_map]
    exact lcL_all srD (fun q : Str × Int => PyData.int q.2) R fun q hq => ⟨_, rfl, by simp [srD]⟩
  have e4 : addD (.list ((R.map fun q : Str × Int => q.2).map PyData.int)) (.list [.int 0]) = .ok (.list (((R.map fun q : Str × Int => q.2) ++ [0]).map PyData.int)) := by
    rw [ev_addL (by simp; omega), List.map_append]
    rfl
  have e5 := ev_maxI (xs := R.map (·.2) ++ [0]) (by simp)
  have l1 : (R.map srD).length ≤ sizeLine := by rw [List.length_map]; omega
  unfold y_1_2_6
  simp only [LR, LN, hR]
  simp only [ev_set, ev_dA, ev_args, ev_args0, ev_d2, ev_lc, ev_d1L, gS_zero, gS_succ, bnd_ok, ev_items_l, if_pos l1, ev_wipe, ev_wipe0, List.set_cons_succ, List.set_cons_zero, e3, ev_k, ev_lst1, e4, e5, toS_ok]
theorem dn_rows (R : Rw) : dn 60 (.tuple (R.map srD)) = true := by
  simp [srD]
theorem if7_ev (k : Nat) {S : Sc} (G : GS S) {m : List (Ce × Str)} (x0 x1 x2 x5 x6 : Sl) (b : Bx) (hb : okB b) (mc : List (Str × Int)) (s10 s11 s12 s14 s15 s16 s17 s18 s19 s20 s21 : Sl) :
    y_1_2_7 (den (k + 7)) (LR x0 x1 x2 S m x5 x6 b mc (cnt S (colsB b.1 b.2.1 b.2.2.1.toNat b.2.2.2.toNat) "" : Int) s10 s11 s12 s14 s15 s16 s17 s18 s19 s20 s21) = .nx (LR x0 x1 x2 S m x5 x6 b mc (cnt S (colsB b.1 b.2.1 b.2.2.1.toNat b.2.2.2.toNat) "" : Int) s10 s11 s12 s14 s15 s16 s17 s18 s19 s20 s21) := by
  have e1 := s_shares_of G k hb
  have e2 := s_lost G k hb
  rw [lost_eq G hb] at e2
  have e3 := s_spans G k hb
  have e4 := ne_self (dn_rows (shR S b))
  have e5 := ne_self (d := .int (cnt S (colsB b.1 b.2.1 b.2.2.1.toNat b.2.2.2.toNat) "" : Int)) (by simp)
  have e6 := ne_self (d := .bool (decide (1 < ((shR S b).length : Int)))) (by simp)
  unfold y_1_2_7
  simp only [LR, LN]
  simp only [ev_if, ev_tOr, ev_tNot, ev_tB1, ev_d2, ev_d1, ev_dA, ev_args, ev_args0, gS_zero, gS_succ, bnd_ok, ev_cD, List.map_cons, List.map_nil, e1, ev_tupAny, e4, ev_asB, if_neg Bool.false_ne_true, e2, e5, e3, ev_lenL, List.length_map, ev_k, ev_gtI, e6, ev_isi, isT, Bool.not_true, toS_ok, ev_nx]
theorem if8_ev (k : Nat) {S : Sc} (G : GS S) {m : List (Ce × Str)} (x0 x1 x2 x5 x6 : Sl) (b : Bx) (hb : okB b) (mc : List (Str × Int)) (n : Int) (s10 s11 s12 s15 s16 s17 s18 s19 s20 s21 : Sl) :
    y_1_2_8 (den (k + 7)) (LR x0 x1 x2 S m x5 x6 b mc n s10 s11 s12 (.sh (.int (mxI ((shR S b).map (·.2) ++ [0])))) s15 s16 s17 s18 s19 s20 s21) = .nx (LR x0 x1 x2 S m x5 x6 b mc n s10 s11 s12 (.sh (.int (mxI ((shR S b).map (·.2) ++ [0])))) s15 s16 s17 s18 s19 s20 s21) := by
  have hs : sizeLine = 16777216 := sz_line
  have h8 := G.l8
  have hl := shR_len S b
  have hp : ∀ q ∈ shR S b, 0 < q.2 := fun q hq => by
    have := (List.mem_filter.mp hq).2
    simpa using this
  have e1 := s_home G k hb
  generalize hR : shR S b = R at hl hp e1
  generalize hM : mxI (R.map (·.2) ++ [0]) = M
  have e6 : lcL (bN 21) (tB1 (d2 eqD (d2 ixD (gS 21) (kC (.int 1))) (gS 14))) (d2 ixD (gS 21) (kC (.int 0))) [x0, x1, x2, .sh (scD S), .sh (.dict (eKV ceD .str m)), x5, x6, .sh (bxD b), .ow (.dict (eKV .str .int mc)), .sh (.int n), s10, s11, s12, (.sh (.list (R.map srD))), .sh (.int M), s15, s16, s17, s18, s19, s20, .no] (R.map srD) = .ok ((homeN R).map .str) := by
    unfold homeN
    rw [hM, List.map_map]
    exact lcL_on srD (fun q : Str × Int => decide (q.2 = M)) (fun q : Str × Int => PyData.str q.1) R fun q hq => ⟨_, rfl, by simp [srD], fun _ => by simp [srD]⟩
  have l1 : R.length ≤ sizeLine := by omega
  have ed : (dIf (tB1 (d2 gtD (dA (argsF [(gS 13)]) lenD) (kC (.int 0)))) (d2 ixD (lcD ([21]) (d1L itemsD (gS 13)) (bN 21) (tB1 (d2 eqD (d2 ixD (gS 21) (kC (.int 1))) (gS 14))) (d2 ixD (gS 21) (kC (.int 0)))) (kC (.int 0))) (kC .none)) [x0, x1, x2, .sh (scD S), .sh (.dict (eKV ceD .str m)), x5, x6, .sh (bxD b), .ow (.dict (eKV .str .int mc)), .sh (.int n), s10, s11, s12, (.sh (.list (R.map srD))), .sh (.int M), s15, s16, s17, s18, s19, s20, s21] = .ok (homeV R) := by
    by_cases hn : R = []
    · subst hn
      simp [homeV, homeN]
    · have h0 : (0 : Int) < ((R.length : Nat) : Int) := by
        have := List.length_pos_iff.mpr hn
        omega
      simp only [ev_dIf, ev_tB1, ev_d2, ev_dA, ev_args, ev_args0, gS_zero, gS_succ, bnd_ok, ev_lenL, List.length_map, ev_k, ev_gtI, decide_eq_true h0, ev_asB, if_true, ev_lc, ev_d1L, ev_items_l, if_pos l1, ev_wipe, ev_wipe0, List.set_cons_succ, List.set_cons_zero, e6]
      have hne := homeN_ne hn hp
      unfold homeV
      cases hh : homeN R with
      | nil => exact (hne hh).elim
      | cons s r => simp
  have e2 : neD (homeV R) (homeV R) = .ok (.bool false) := ne_self (by
    unfold homeV
    split <;> simp)
  unfold y_1_2_8
  simp only [LR, LN, hR]
  simp only [ev_if, ev_tB1]
  rw [ev_d2, ed]
  simp only [ev_dA, ev_args, ev_args0, gS_zero, gS_succ, bnd_ok, ev_cD, List.map_cons, List.map_nil, e1, e2, ev_asB, toS_ok, if_neg Bool.false_ne_true, ev_nx]
end KL
end
section
open PySem PySem.Spec PyProof.Rows L2 VS
namespace KL
/-! ### all places -/
def gdC (b o : Bx) (x : Int) : List Cd := (rngI o.2.1 (o.2.2.2 - b.2.2.2 + 1).toNat).map fun y => (ab (x - b.1) + ab (y - b.2.1), x, y)
def gdJ (b o : Bx) (j : Nat) : List Cd := (rngI o.1 j).flatMap (gdC b o)
def gdO (b o : Bx) : List Cd := gdJ b o (o.2.2.1 - b.2.2.1 + 1).toNat
def gds (S : Sc) (b : Bx) : List Cd := S.flatMap fun p => gdO b p.2
theorem gdC_len (b o : Bx) (x : Int) : (gdC b o x).length = (o.2.2.2 - b.2.2.2 + 1).toNat := by
  unfold gdC
  rw [List.length_map, rngI_len]
theorem gdJ_len {b o : Bx} (h : (o.2.2.2 - b.2.2.2 + 1).toNat ≤ 1001) : ∀ j, (gdJ b o j).length ≤ j * 1001
  | 0 => by simp [gdJ, rngI]
  | j + 1 => by
    have ih := gdJ_len h j
    unfold gdJ at ih ⊢
    rw [rngI_succ, List.flatMap_append, List.length_append]
    simp only [List.flatMap_cons, List.flatMap_nil, List.append_nil, gdC_len]
    omega
theorem gdJ_succ (b o : Bx) (j : Nat) : gdJ b o (j + 1) = gdJ b o j ++ gdC b o (o.1 + (j : Nat)) := by
  unfold gdJ
  rw [rngI_succ, List.flatMap_append]
  simp
theorem gds_len {S : Sc} {b : Bx} (hb : okB b) (hS : ∀ p ∈ S, okB p.2) : (gds S b).length ≤ (1001 * 1001) * S.length := flat_le _ _ S fun p hp => by
  obtain ⟨⟨h1, h2⟩, ⟨h3, h4⟩, ⟨h5, h6⟩, h7, h8⟩ := hb
  obtain ⟨⟨g1, g2⟩, ⟨g3, g4⟩, ⟨g5, g6⟩, g7, g8⟩ := hS p hp
  have a := gdJ_len (b := b) (o := p.2) (by omega) (p.2.2.2.1 - b.2.2.1 + 1).toNat
  have : (p.2.2.2.1 - b.2.2.1 + 1).toNat * 1001 ≤ 1001 * 1001 := Nat.mul_le_mul (by omega) (Nat.le_refl _)
  unfold gdO
  omega
theorem col2_ev (c : Nat → List Sl → Re PyData) {S : Sc} {m : List (Ce × Str)} (x0 x1 x2 x5 x6 : Sl) (b o : Bx) (hb : okB b) (ho : okB o) (mc : List (Str × Int)) (n : Int) (L : List Cd) (hL : L.length ≤ 10000000) (x : Int) (s11 s12 s13 s14 s17 s18 s19 s20 s21 : Sl) :
    ∃ s11', yb_1_2_10_0 c (LN x0 x1 x2 S m x5 x6 b mc n (.sh (.int x)) s11 s12 s13 s14 (.sh (.list (L.map (cdD b.2.2.1 b.2.2.2)))) (.sh (bxD o)) s17 s18 s19 s20 s21) = .nx (LN x0 x1 x2 S m x5 x6 b mc n (.sh (.int x)) s11' s12 s13 s14 (.sh (.list ((L ++ gdC b o x).map (cdD b.2.2.1 b.2.2.2)))) (.sh (bxD o)) s17 s18 s19 s20 s21) := by
  have hs : sizeLine = 16777216 := sz_line
  obtain ⟨⟨h1, h2⟩, ⟨h3, h4⟩, ⟨h5, h6⟩, h7, h8⟩ := hb
  obtain ⟨⟨g1, g2⟩, ⟨g3, g4⟩, ⟨g5, g6⟩, g7, g8⟩ := ho
  have i0 : ixD (bxD b) (.int 0) = .ok (.int b.1) := by unfold bxD; simp
  have i1 : ixD (bxD b) (.int 1) = .ok (.int b.2.1) := by unfold bxD; simp
  have i3 : ixD (bxD b) (.int 3) = .ok (.int b.2.2.2) := by unfold bxD; simp
  have j1 : ixD (bxD o) (.int 1) = .ok (.int o.2.1) := by unfold bxD; simp
  have j3 : ixD (bxD o) (.int 3) = .ok (.int o.2.2.2) := by unfold bxD; simp
  have ec : slA (bxD b) (some 2) none = .ok (.tuple [.int b.2.2.1, .int b.2.2.2]) := rfl
  have r2 : rng2D [.int o.2.1, .int (o.2.1 + o.2.2.2 - b.2.2.2 + 1)] = .ok ((rngI o.2.1 (o.2.2.2 - b.2.2.2 + 1).toNat).map .int) := by
    rw [rng2_ev _ _ (by omega), show o.2.1 + o.2.2.2 - b.2.2.2 + 1 - o.2.1 = o.2.2.2 - b.2.2.2 + 1 by omega]
  have e1 : lcL (bN 11) yesT (dA (argsF [(d2 addD (dA (argsF [(d2 subD (gS 10) (d2 ixD (gS 7) (kC (.int 0))))]) absD) (dA (argsF [(d2 subD (gS 11) (d2 ixD (gS 7) (kC (.int 1))))]) absD)), (d2 addD (dA (argsF [(gS 10), (gS 11)]) tupD) (dSl slA (gS 7) (someP (kC (.int 2))) noP))]) tupD)
      [x0, x1, x2, .sh (scD S), .sh (.dict (eKV ceD .str m)), x5, x6, .sh (bxD b), .ow (.dict (eKV .str .int mc)), .sh (.int n), (.sh (.int x)), .no, s12, s13, s14, (.sh (.list (L.map (cdD b.2.2.1 b.2.2.2)))), (.sh (bxD o)), s17, s18, s19, s20, s21] ((rngI o.2.1 (o.2.2.2 - b.2.2.2 + 1).toNat).map PyData.int) = .ok ((gdC b o x).map (cdD b.2.2.1 b.2.2.2)) := by
    unfold gdC
    rw [List.map_map]
    refine lcL_all PyData.int (fun y => cdD b.2.2.1 b.2.2.2 (ab (x - b.1) + ab (y - b.2.1), x, y)) _ fun y hy => ⟨_, rfl, ?_⟩
    have ea : addD (.tuple [.int x, .int y]) (.tuple [.int b.2.2.1, .int b.2.2.2]) = .ok (.tuple [.int x, .int y, .int b.2.2.1, .int b.2.2.2]) := ev_addT (by simp; omega)
    simp only [ev_dA, ev_args, ev_args0, ev_d2, List.set_cons_succ, List.set_cons_zero, gS_succ, gS_zero, bnd_ok, ev_k, i0, i1, ev_subI, ev_absI, ev_addI, ev_tup2, dSl, someP, noP, asI, ec, ea]
    rfl
  have e2 : addD (.list (L.map (cdD b.2.2.1 b.2.2.2))) (.list ((gdC b o x).map (cdD b.2.2.1 b.2.2.2))) = .ok (.list ((L ++ gdC b o x).map (cdD b.2.2.1 b.2.2.2))) := by
    rw [ev_addL (by rw [List.length_map, List.length_map, gdC_len]; omega), List.map_append]
  have l1 : ((rngI o.2.1 (o.2.2.2 - b.2.2.2 + 1).toNat).map PyData.int).length ≤ sizeLine := by rw [List.length_map, rngI_len]; omega
  refine ⟨s11, ?_⟩
  unfold yb_1_2_10_0 y_1_2_10_0_0
  simp only [LN]
  rw [ev_set, ev_d2, ev_lc]
  simp only [ev_dAL, ev_args, ev_args0, ev_d2, gS_zero, gS_succ, ev_k, bnd_ok, j1, j3, i3, ev_addI, ev_subI, r2, if_pos l1, ev_wipe, ev_wipe0, List.set_cons_succ, List.set_cons_zero, e1, e2, toS_ok]
theorem one2_ev (c : Nat → List Sl → Re PyData) {S : Sc} {m : List (Ce × Str)} (x0 x1 x2 x5 x6 : Sl) (b o : Bx) (hb : okB b) (ho : okB o) (mc : List (Str × Int)) (n : Int) (L : List Cd) (hL : L.length + 1001 * 1001 ≤ 10000000) (s10 s11 s12 s13 s14 s17 s18 s19 s20 s21 : Sl) :
    ∃ s10' s11', yb_1_2_10 c (LN x0 x1 x2 S m x5 x6 b mc n s10 s11 s12 s13 s14 (.sh (.list (L.map (cdD b.2.2.1 b.2.2.2)))) (.sh (bxD o)) s17 s18 s19 s20 s21) = .nx (LN x0 x1 x2 S m x5 x6 b mc n s10' s11' s12 s13 s14 (.sh (.list ((L ++ gdO b o).map (cdD b.2.2.1 b.2.2.2)))) (.sh (bxD o)) s17 s18 s19 s20 s21) := by
  have hs : sizeLine = 16777216 := sz_line
  have hb' := hb
  have ho' := ho
  obtain ⟨⟨h1, h2⟩, ⟨h3, h4⟩, ⟨h5, h6⟩, h7, h8⟩ := hb'
  obtain ⟨⟨g1, g2⟩, ⟨g3, g4⟩, ⟨g5, g6⟩, g7, g8⟩ := ho'
  have i2 : ixD (bxD b) (.int 2) = .ok (.int b.2.2.1) := by unfold bxD; simp
  have j0 : ixD (bxD o) (.int 0) = .ok (.int o.1) := by unfold bxD; simp
  have j2 : ixD (bxD o) (.int 2) = .ok (.int o.2.2.1) := by unfold bxD; simp
  have r2 : rng2D [.int o.1, .int (o.1 + o.2.2.1 - b.2.2.1 + 1)] = .ok ((rngI o.1 (o.2.2.1 - b.2.2.1 + 1).toNat).map .int) := by
    rw [rng2_ev _ _ (by omega), show o.1 + o.2.2.1 - b.2.2.1 + 1 - o.1 = o.2.2.1 - b.2.2.1 + 1 by omega]
  obtain ⟨δ', e, s10', s11', rfl⟩ := goS_inv0 (b := bN 10) (body := yb_1_2_10_0 c) (ds := (rngI o.1 (o.2.2.1 - b.2.2.1 + 1).toNat).map .int) (δ := LN x0 x1 x2 S m x5 x6 b mc n s10 s11 s12 s13 s14 (.sh (.list (L.map (cdD b.2.2.1 b.2.2.2)))) (.sh (bxD o)) s17 s18 s19 s20 s21)
    (fun j δ => ∃ s10' s11', δ = LN x0 x1 x2 S m x5 x6 b mc n s10' s11' s12 s13 s14 (.sh (.list ((L ++ gdJ b o j).map (cdD b.2.2.1 b.2.2.2)))) (.sh (bxD o)) s17 s18 s19 s20 s21)
    ⟨s10, s11, by simp [gdJ, rngI]⟩ (by
    rintro j d δ hj ⟨s10', s11', rfl⟩
    obtain ⟨hjn, rfl⟩ := rngI_at hj
    have a := gdJ_len (b := b) (o := o) (by omega) j
    have q : j * 1001 ≤ 1001 * 1001 := Nat.mul_le_mul (by omega) (Nat.le_refl _)
    obtain ⟨t11, e2⟩ := col2_ev c (S := S) (m := m) x0 x1 x2 x5 x6 b o hb ho mc n (L ++ gdJ b o j) (by rw [List.length_append]; omega) (o.1 + (j : Nat)) s11' s12 s13 s14 s17 s18 s19 s20 s21
    rw [List.append_assoc, ← gdJ_succ] at e2
    exact ⟨_, _, rfl, .inl e2, _, _, rfl⟩)
  rw [List.length_map, rngI_len] at e
  refine ⟨s10', s11', ?_⟩
  unfold yb_1_2_10 y_1_2_10_0
  simp only [LN] at e ⊢
  simp only [ev_for, ev_dAL, ev_args, ev_args0, ev_d2, gS_zero, gS_succ, ev_k, bnd_ok, j0, j2, i2, ev_addI, ev_subI, r2, toS_ok, e]
  rfl
theorem all2_ev (c : Nat → List Sl → Re PyData) {S : Sc} (G : GS S) {m : List (Ce × Str)} (x0 x1 x2 x5 x6 : Sl) (b : Bx) (hb : okB b) (mc : List (Str × Int)) (n : Int) (s10 s11 s12 s13 s14 s15 s16 s17 s18 s19 s20 s21 : Sl) :
    ∃ s10' s11' s12' s16', (seqS (y_1_2_9 c) (y_1_2_10 c)) (LN x0 x1 x2 S m x5 x6 b mc n s10 s11 s12 s13 s14 s15 s16 s17 s18 s19 s20 s21) = .nx (LN x0 x1 x2 S m x5 x6 b mc n s10' s11' s12' s13 s14 (.sh (.list ((gds S b).map (cdD b.2.2.1 b.2.2.2)))) s16' s17 s18 s19 s20 s21) := by
  have h8 := G.l8
  obtain ⟨δ', e, s10', s11', s12', s16', rfl⟩ := goS_inv0 (b := bT 2 (bCons (bN 12) (bCons (bN 16) bNil))) (body := yb_1_2_10 c) (ds := S.map rowD) (δ := LN x0 x1 x2 S m x5 x6 b mc n s10 s11 s12 s13 s14 (.sh (.list [])) s16 s17 s18 s19 s20 s21)
    (fun j δ => ∃ s10' s11' s12' s16', δ = LN x0 x1 x2 S m x5 x6 b mc n s10' s11' s12' s13 s14 (.sh (.list ((gds (S.take j) b).map (cdD b.2.2.1 b.2.2.2)))) s16' s17 s18 s19 s20 s21)
    ⟨s10, s11, s12, s16, rfl⟩ (by
    rintro j d δ hj ⟨s10', s11', s12', s16', rfl⟩
    rw [List.getElem?_map] at hj
    obtain ⟨p, hp, rfl⟩ := Option.map_eq_some_iff.mp hj
    have et : S.take (j + 1) = S.take j ++ [p] := by rw [List.take_add_one, hp]; rfl
    have ho := (G.ok p (List.mem_of_getElem? hp)).2.1
    have a := gds_len (S := S.take j) hb fun q hq => (G.ok q (List.mem_of_mem_take hq)).2.1
    have hlt := (List.getElem?_eq_some_iff.mp hp).1
    have lt : (S.take j).length ≤ 7 := by rw [List.length_take]; omega
    obtain ⟨t10, t11, e2⟩ := one2_ev c (S := S) (m := m) x0 x1 x2 x5 x6 b p.2 hb ho mc n (gds (S.take j) b) (by omega) s10' s11' (.sh (.str p.1)) s13 s14 s17 s18 s19 s20 s21
    have eg : gds (S.take (j + 1)) b = gds (S.take j) b ++ gdO b p.2 := by
      rw [et]
      unfold gds
      rw [List.flatMap_append]
      simp
    rw [← eg] at e2
    exact ⟨LN x0 x1 x2 S m x5 x6 b mc n s10' s11' (.sh (.str p.1)) s13 s14 (.sh (.list ((gds (S.take j) b).map (cdD b.2.2.1 b.2.2.2)))) (.sh (bxD p.2)) s17 s18 s19 s20 s21, _, by simp [rowD], .inl e2, _, _, _, _, rfl⟩)
  rw [List.length_map, List.take_length] at e
  refine ⟨s10', s11', s12', s16', ?_⟩
  unfold y_1_2_9 y_1_2_10
  simp only [LN, scD] at e ⊢
  simp only [ev_seq, ev_set, ev_dA, ev_args0, bnd_ok, ev_lst0, toS_ok, List.set_cons_succ, List.set_cons_zero, rsb_nx, ev_for, ev_d1L, gS_zero, gS_succ, ev_items_t, e]
/-! the least is at the clamped place -/
theorem held_in {a w f r : Int} (h : w ≤ r) : f ≤ heldI a w f r ∧ heldI a w f r ≤ f + r - w := by unfold heldI; omega
theorem held_le {a w f r x : Int} (h1 : f ≤ x) (h2 : x ≤ f + r - w) : ab (heldI a w f r - a) ≤ ab (x - a) ∧ (ab (heldI a w f r - a) = ab (x - a) → x = heldI a w f r) := by
  unfold heldI ab
  constructor
  · split <;> split <;> omega
  · split <;> split <;> omega
theorem gdO_mem {b o : Bx} {q : Cd} : q ∈ gdO b o ↔ ∃ x y, (o.1 ≤ x ∧ x ≤ o.1 + o.2.2.1 - b.2.2.1) ∧ (o.2.1 ≤ y ∧ y ≤ o.2.1 + o.2.2.2 - b.2.2.2) ∧ q = (ab (x - b.1) + ab (y - b.2.1), x, y) := by
  unfold gdO gdJ gdC
  simp only [List.mem_flatMap, List.mem_map, rngI_mem]
  constructor
  · rintro ⟨x, hx, y, hy, rfl⟩
    exact ⟨x, y, by omega, by omega, rfl⟩
  · rintro ⟨x, y, hx, hy, rfl⟩
    exact ⟨x, by omega, y, by omega, rfl⟩
theorem cands_sub {S : Sc} {b : Bx} : ∀ q ∈ cands S b, q ∈ gds S b := fun q hq => by
  obtain ⟨p, hp, rfl⟩ := List.mem_map.mp hq
  obtain ⟨hp, hf⟩ := List.mem_filter.mp hp
  unfold fits at hf
  rw [Bool.and_eq_true, decide_eq_true_eq, decide_eq_true_eq] at hf
  refine List.mem_flatMap.mpr ⟨p, hp, gdO_mem.mpr ⟨_, _, ?_, ?_, rfl⟩⟩
  · exact held_in hf.1
  · exact held_in hf.2
theorem cd_not {c c' x y x' y' : Int} (h : c' < c ∨ (c' = c ∧ x = x' ∧ y = y')) : ¬ cdK (c, x, y) < cdK (c', x', y') := by
  unfold cdK
  simp only [List.cons_lt_cons_iff]
  rcases h with h | ⟨rfl, rfl, rfl⟩
  · omega
  · simp
theorem cands_dom {S : Sc} {b : Bx} : ∀ y ∈ gds S b, ∃ x ∈ cands S b, ¬ cdK y < cdK x := fun q hq => by
  obtain ⟨p, hp, hq⟩ := List.mem_flatMap.mp hq
  obtain ⟨x, y, hx, hy, rfl⟩ := gdO_mem.mp hq
  have hf : fits b p.2 = true := by
    unfold fits
    rw [Bool.and_eq_true, decide_eq_true_eq, decide_eq_true_eq]
    omega
  refine ⟨candO b p.2, List.mem_map.mpr ⟨p, List.mem_filter.mpr ⟨hp, hf⟩, rfl⟩, ?_⟩
  have a := held_le (a := b.1) (w := b.2.2.1) (f := p.2.1) (r := p.2.2.2.1) hx.1 hx.2
  have c := held_le (a := b.2.1) (w := b.2.2.2) (f := p.2.2.1) (r := p.2.2.2.2) hy.1 hy.2
  unfold candO
  refine cd_not ?_
  by_cases e : ab (heldI b.1 b.2.2.1 p.2.1 p.2.2.2.1 - b.1) = ab (x - b.1) ∧ ab (heldI b.2.1 b.2.2.2 p.2.2.1 p.2.2.2.2 - b.2.1) = ab (y - b.2.1)
  · exact .inr ⟨by rw [e.1, e.2], a.2 e.1, c.2 e.2⟩
  · refine .inl ?_
    have a1 := a.1
    have c1 := c.1
    rcases Int.lt_or_eq_of_le a1 with z | z
    · omega
    · rcases Int.lt_or_eq_of_le c1 with z2 | z2
      · omega
      · exact (e ⟨z, z2⟩).elim
/-- what is whole on one stays -/
theorem held_self {x w f r : Int} (h1 : f ≤ x) (h2 : x ≤ f + r - w) : heldI x w f r = x := by unfold heldI; omega
theorem ab_nn (i : Int) : 0 ≤ ab i := by unfold ab; split <;> omega
theorem ab_0 {i : Int} (h : ab i = 0) : i = 0 := by
  unfold ab at h
  split at h <;> omega
theorem stays {S : Sc} {b : Bx} {r r2 : PyData} {q : Cd} (hq : q ∈ cands S b) (h2 : Least b.2.2.1 b.2.2.2 (cands S (q.2.1, q.2.2, b.2.2.1, b.2.2.2)) r2) : r2 = bxD (q.2.1, q.2.2, b.2.2.1, b.2.2.2) := by
  obtain ⟨p, hp, rfl⟩ := List.mem_map.mp hq
  have hp0 := hp
  obtain ⟨hp, hf⟩ := List.mem_filter.mp hp
  have hf0 := hf
  unfold fits at hf
  rw [Bool.and_eq_true, decide_eq_true_eq, decide_eq_true_eq] at hf
  have hx := held_in (a := b.1) (f := p.2.1) hf.1
  have hy := held_in (a := b.2.1) (f := p.2.2.1) hf.2
  generalize hX : heldI b.1 b.2.2.1 p.2.1 p.2.2.2.1 = X at hx
  generalize hY : heldI b.2.1 b.2.2.2 p.2.2.1 p.2.2.2.2 = Y at hy
  have ec : (candO b p.2).2 = (X, Y) := by rw [← hX, ← hY]; rfl
  rw [show (candO b p.2).2.1 = X by rw [ec], show (candO b p.2).2.2 = Y by rw [ec]] at h2 ⊢
  have hc : (0, X, Y) ∈ cands S (X, Y, b.2.2.1, b.2.2.2) := by
    refine List.mem_map.mpr ⟨p, List.mem_filter.mpr ⟨hp, hf0⟩, ?_⟩
    unfold candO
    simp only [held_self hx.1 hx.2, held_self hy.1 hy.2, Int.sub_self]
    rfl
  rcases h2 with ⟨e, _⟩ | ⟨q, hq, rfl, hl⟩
  · rw [e] at hc; cases hc
  · obtain ⟨p2, hp2, rfl⟩ := List.mem_map.mp hq
    have h := hl _ hc
    unfold candO at h ⊢
    simp only at h ⊢
    generalize heldI X b.2.2.1 p2.2.1 p2.2.2.2.1 = X2 at h ⊢
    generalize heldI Y b.2.2.2 p2.2.2.1 p2.2.2.2.2 = Y2 at h ⊢
    have n1 := ab_nn (X2 - X)
    have n2 := ab_nn (Y2 - Y)
    have h0 : ¬ 0 < ab (X2 - X) + ab (Y2 - Y) := fun z => h (by
      unfold cdK
      rw [List.cons_lt_cons_iff]
      exact .inl z)
    have a1 := ab_0 (i := X2 - X) (by omega)
    have a2 := ab_0 (i := Y2 - Y) (by omega)
    have : X2 = X := by omega
    have : Y2 = Y := by omega
    subst X2 Y2
    rfl
end KL
end
section
open PySem PySem.Spec PyProof.Rows L2 VS
namespace KL
def small (S : Sc) : Prop := ∀ p ∈ S, p.2.1 + p.2.2.2.1 ≤ 1000 ∧ p.2.2.1 + p.2.2.2.2 ≤ 1000
theorem ok_cand {S : Sc} (G : GS S) (sm : small S) {b : Bx} (hb : okB b) {q : Cd} (hq : q ∈ cands S b) : okB (q.2.1, q.2.2, b.2.2.1, b.2.2.2) := by
  obtain ⟨p, hp, rfl⟩ := List.mem_map.mp hq
  obtain ⟨hp, hf⟩ := List.mem_filter.mp hp
  unfold fits at hf
  rw [Bool.and_eq_true, decide_eq_true_eq, decide_eq_true_eq] at hf
  have hx := held_in (a := b.1) (f := p.2.1) hf.1
  have hy := held_in (a := b.2.1) (f := p.2.2.1) hf.2
  have s := sm p hp
  obtain ⟨⟨h1, h2⟩, ⟨h3, h4⟩, ⟨h5, h6⟩, h7, h8⟩ := hb
  obtain ⟨_, ⟨⟨g1, g2⟩, ⟨g3, g4⟩, ⟨g5, g6⟩, g7, g8⟩, _⟩ := G.ok p hp
  unfold candO okB
  simp only
  omega
theorem dn_bx (b : Bx) : dn 60 (bxD b) = true := by unfold bxD; simp
theorem told_ev (k : Nat) {S : Sc} (G : GS S) (sm : small S) {m : List (Ce × Str)} (x0 x1 x2 x5 x6 : Sl) (b : Bx) (hb : okB b) (mc : List (Str × Int)) (n : Int) (s10 s11 s12 s13 s14 s16 s17 s18 s19 s20 s21 : Sl) :
    ∃ s17', (seqS (y_1_2_11 (den (k + 7))) (y_1_2_12 (den (k + 7)))) (LN x0 x1 x2 S m x5 x6 b mc n s10 s11 s12 s13 s14 (.sh (.list ((gds S b).map (cdD b.2.2.1 b.2.2.2)))) s16 s17 s18 s19 s20 s21) = .nx (LN x0 x1 x2 S m x5 x6 b mc n s10 s11 s12 s13 s14 (.sh (.list ((gds S b).map (cdD b.2.2.1 b.2.2.2)))) s16 s17' s18 s19 s20 s21) := by
  obtain ⟨r, hL, er⟩ := s_brought G k hb
  obtain ⟨r', hL', er'⟩ := ev_least b.2.2.1 b.2.2.2 (gds S b)
  have e := hL.one hL' cands_sub cands_dom
  subst e
  refine ⟨.sh r, ?_⟩
  have e1 : neD r r = .ok (.bool false) := by
    rcases hL with ⟨_, rfl⟩ | ⟨q, _, rfl, _⟩
    · exact ne_self (by simp)
    · exact ne_self (dn_bx _)
  have e2 : (tAnd2 (tB1 (d1 notND (gS 17))) (tB1 (d2 neD (dA (argsF [(gS 3), (gS 17)]) (cD (den (k + 7) I_brought_in))) (gS 17)))) (LN x0 x1 x2 S m x5 x6 b mc n s10 s11 s12 s13 s14 (.sh (.list ((gds S b).map (cdD b.2.2.1 b.2.2.2)))) s16 (.sh r) s18 s19 s20 s21) = .ok false := by
    rcases hL with ⟨_, rfl⟩ | ⟨q, hq, rfl, _⟩
    · simp
    · obtain ⟨r2, hL2, er2⟩ := s_brought G k (ok_cand G sm hb hq)
      have := stays (r := .none) hq hL2
      subst this
      have e3 := ne_self (dn_bx (q.2.1, q.2.2, b.2.2.1, b.2.2.2))
      simp only [LN]
      simp only [ev_tAnd, ev_tB1, ev_d1, ev_d2, ev_dA, ev_args, ev_args0, gS_zero, gS_succ, bnd_ok, ev_notN, bxD, isN_tup, Bool.not_false, ev_asB, if_true]
      simp only [bxD] at er2 e3
      simp only [ev_cD, List.map_cons, List.map_nil, er2, bnd_ok, e3, ev_asB]
  unfold y_1_2_11 y_1_2_12
  simp only [LN] at e2 ⊢
  simp only [ev_seq, ev_set, ev_dA, ev_args, ev_args0, gS_zero, gS_succ, bnd_ok, ev_cD, List.map_cons, List.map_nil, er, toS_ok, List.set_cons_succ, List.set_cons_zero, rsb_nx, ev_if, ev_tOr]
  rw [e2]
  simp only [ev_tB1, ev_d2, ev_dIf, gS_zero, gS_succ, bnd_ok, ev_dA, ev_args, ev_args0, ev_lenL, ev_k, ev_gtI, ev_asB, er', e1, if_neg Bool.false_ne_true, toS_ok, ev_nx]
/-! one box -/
abbrev LT (ns ds : List Int) (t : Nat) (S : Sc) (m : List (Ce × Str)) (s5 s6 s7 s8 s9 s10 s11 s12 s13 s14 s15 s16 s17 s18 s19 s20 s21 : Sl) : Dl :=
  [.br ns, .sh (I2 ds), .sh (.int (t : Nat)), .sh (scD S), .sh (.dict (eKV ceD .str m)), s5, s6, s7, s8, s9, s10, s11, s12, s13, s14, s15, s16, s17, s18, s19, s20, s21]
theorem box_ev (k : Nat) (ns ds : List Int) (ok : okDr ds) (hl : ds.length = 60) (t : Nat) (ht : t < 4) (S : Sc) (m : List (Ce × Str)) (j : Nat) (hj : j < 8) (s6 s7 s8 s9 s10 s11 s12 s13 s14 s15 s16 s17 s18 s19 s20 s21 : Sl) :
    ∃ b x6, okB b ∧ (seqS (y_1_2_0 (den k)) (seqS (y_1_2_1 (den k)) (seqS (y_1_2_2 (den k)) (y_1_2_3 (den k))))) (LT ns ds t S m (.sh (.int (j : Nat))) s6 s7 s8 s9 s10 s11 s12 s13 s14 s15 s16 s17 s18 s19 s20 s21) = .nx (LN (.br ns) (.sh (I2 ds)) (.sh (.int (t : Nat))) S m (.sh (.int (j : Nat))) x6 b [] 0 s10 s11 s12 s13 s14 s15 s16 s17 s18 s19 s20 s21) := by
  obtain ⟨d, hd⟩ : ∃ d, ds[40 + j]? = some d := ⟨_, List.getElem?_eq_getElem (by omega)⟩
  have h0 := ok d (List.mem_of_getElem? hd)
  have ei : atI (ds.map PyData.int) (40 + (j : Int)) = some (.int d) := by
    have : (40 + (j : Int)) = ((40 + j : Nat) : Int) := by omega
    rw [this]
    exact at_nat (by rw [List.getElem?_map, hd]; rfl)
  have ef := ev_fdiv (i := d) (j := (t : Int) + 1) ⟨by omega, by omega⟩
  have hq : 0 ≤ d / ((t : Int) + 1) := Int.ediv_nonneg h0.1 (by omega)
  generalize d / ((t : Int) + 1) = e at ef hq
  refine ⟨(e % 12, e / 12 % 9, e / 108 % 5, e / 540 % 4), .sh (.int e), ?_, ?_⟩
  · unfold okB
    simp only
    omega
  · unfold y_1_2_0 y_1_2_1 y_1_2_2 y_1_2_3
    simp only [LT, LN]
    simp only [ev_seq, ev_set, ev_setO, ev_d2, ev_dA, ev_args, ev_args0, gS_zero, gS_succ, bnd_ok, ev_k, ev_addI, ix_l, ei, ofO_some, ev_intI, ef, toS_ok, List.set_cons_succ, List.set_cons_zero, rsb_nx, ev_mod (show (0 : Int) < 12 by decide), ev_mod (show (0 : Int) < 9 by decide), ev_mod (show (0 : Int) < 5 by decide), ev_mod (show (0 : Int) < 4 by decide), ev_fdiv (show (0 : Int) < 12 ∧ (12 : Int) < 1073741824 by decide), ev_fdiv (show (0 : Int) < 108 ∧ (108 : Int) < 1073741824 by decide), ev_fdiv (show (0 : Int) < 540 ∧ (540 : Int) < 1073741824 by decide), ev_tup4]
    rfl
theorem seq_as {f g h : Dl → RS} {δ δ' : Dl} (e : seqS f g δ = .nx δ') : seqS f (seqS g h) δ = h δ' := by
  have e' : (f δ).bnd g = .nx δ' := e
  show (f δ).bnd (seqS g h) = _
  cases ef : f δ with
  | nx δ1 =>
    rw [ef] at e'
    have e2 : g δ1 = .nx δ' := e'
    show (g δ1).bnd h = _
    rw [e2]
    rfl
  | _ => rw [ef] at e'; cases e'
theorem seq_as4 {f1 f2 f3 f4 h : Dl → RS} {δ δ' : Dl} (e : seqS f1 (seqS f2 (seqS f3 f4)) δ = .nx δ') : seqS f1 (seqS f2 (seqS f3 (seqS f4 h))) δ = h δ' := by
  have as : seqS f1 (seqS f2 (seqS f3 (seqS f4 h))) δ = seqS (seqS f1 (seqS f2 (seqS f3 f4))) h δ := by
    show (f1 δ).bnd _ = ((f1 δ).bnd _).bnd h
    cases f1 δ with
    | nx δ1 =>
      show (f2 δ1).bnd _ = ((f2 δ1).bnd _).bnd h
      cases f2 δ1 with
      | nx δ2 =>
        show (f3 δ2).bnd _ = ((f3 δ2).bnd _).bnd h
        cases f3 δ2 <;> rfl
      | _ => rfl
    | _ => rfl
  rw [as]
  show (seqS f1 (seqS f2 (seqS f3 f4)) δ).bnd h = _
  rw [e]
  rfl
theorem one_ev (k : Nat) (ns ds : List Int) (ok : okDr ds) (hl : ds.length = 60) (t : Nat) (ht : t < 4) {S : Sc} (G : GS S) (sm : small S) {m : List (Ce × Str)} (hm : ∀ z, lkG m z = atS S z) (j : Nat) (hj : j < 8) (s6 s7 s8 s9 s10 s11 s12 s13 s14 s15 s16 s17 s18 s19 s20 s21 : Sl) :
    ∃ t6 t7 t8 t9 t10 t11 t12 t13 t14 t15 t16 t17, yb_1_2 (den (k + 7)) (LT ns ds t S m (.sh (.int (j : Nat))) s6 s7 s8 s9 s10 s11 s12 s13 s14 s15 s16 s17 s18 s19 s20 s21) = .nx (LT ns ds t S m (.sh (.int (j : Nat))) t6 t7 t8 t9 t10 t11 t12 t13 t14 t15 t16 t17 s18 s19 s20 s21) := by
  obtain ⟨b, x6, hb, e1⟩ := box_ev (k + 7) ns ds ok hl t ht S m j hj s6 s7 s8 s9 s10 s11 s12 s13 s14 s15 s16 s17 s18 s19 s20 s21
  obtain ⟨mc, a10, a11, a12, C, e2⟩ := cnt_ev (den (k + 7)) hm (.br ns) (.sh (I2 ds)) (.sh (.int (t : Nat))) (.sh (.int (j : Nat))) x6 b hb s10 s11 s12 s13 s14 s15 s16 s17 s18 s19 s20 s21
  have e3 := rows_ev (den (k + 7)) G (m := m) (.br ns) (.sh (I2 ds)) (.sh (.int (t : Nat))) (.sh (.int (j : Nat))) x6 b hb C (cnt S (colsB b.1 b.2.1 b.2.2.1.toNat b.2.2.2.toNat) "" : Int) a10 a11 a12 s13 s14 s15 s16 s17 s18 s19 s20 s21
  have e4 := most_ev (den (k + 7)) G (m := m) (.br ns) (.sh (I2 ds)) (.sh (.int (t : Nat))) (.sh (.int (j : Nat))) x6 b mc (cnt S (colsB b.1 b.2.1 b.2.2.1.toNat b.2.2.2.toNat) "" : Int) a10 a11 a12 s14 s15 s16 s17 s18 s19 s20 s21
  have e5 := if7_ev k G (m := m) (.br ns) (.sh (I2 ds)) (.sh (.int (t : Nat))) (.sh (.int (j : Nat))) x6 b hb mc a10 a11 a12 (.sh (.int (mxI ((shR S b).map (·.2) ++ [0])))) s15 s16 s17 s18 s19 s20 s21
  have e6 := if8_ev k G (m := m) (.br ns) (.sh (I2 ds)) (.sh (.int (t : Nat))) (.sh (.int (j : Nat))) x6 b hb mc (cnt S (colsB b.1 b.2.1 b.2.2.1.toNat b.2.2.2.toNat) "" : Int) a10 a11 a12 s15 s16 s17 s18 s19 s20 s21
  obtain ⟨b10, b11, b12, b16, e7⟩ := all2_ev (den (k + 7)) G (m := m) (.br ns) (.sh (I2 ds)) (.sh (.int (t : Nat))) (.sh (.int (j : Nat))) x6 b hb mc (cnt S (colsB b.1 b.2.1 b.2.2.1.toNat b.2.2.2.toNat) "" : Int) a10 a11 a12 (.sh (.list ((shR S b).map srD))) (.sh (.int (mxI ((shR S b).map (·.2) ++ [0])))) s15 s16 s17 s18 s19 s20 s21
  obtain ⟨b17, e8⟩ := told_ev k G sm (m := m) (.br ns) (.sh (I2 ds)) (.sh (.int (t : Nat))) (.sh (.int (j : Nat))) x6 b hb mc (cnt S (colsB b.1 b.2.1 b.2.2.1.toNat b.2.2.2.toNat) "" : Int) b10 b11 b12 (.sh (.list ((shR S b).map srD))) (.sh (.int (mxI ((shR S b).map (·.2) ++ [0])))) b16 s17 s18 s19 s20 s21
  refine ⟨_, _, _, _, _, _, _, _, _, _, _, _, Eq.trans ?_ e8⟩
  unfold yb_1_2
  rw [seq_as4 e1, ev_seq, e2, rsb_nx, ev_seq, e3, rsb_nx, ev_seq, e4, rsb_nx, ev_seq, e5, rsb_nx, ev_seq, e6, rsb_nx, seq_as e7]
theorem eight_ev (k : Nat) (ns ds : List Int) (ok : okDr ds) (hl : ds.length = 60) (t : Nat) (ht : t < 4) {S : Sc} (G : GS S) (sm : small S) {m : List (Ce × Str)} (hm : ∀ z, lkG m z = atS S z) (s5 s6 s7 s8 s9 s10 s11 s12 s13 s14 s15 s16 s17 s18 s19 s20 s21 : Sl) :
    ∃ t5 t6 t7 t8 t9 t10 t11 t12 t13 t14 t15 t16 t17, y_1_2 (den (k + 7)) (LT ns ds t S m s5 s6 s7 s8 s9 s10 s11 s12 s13 s14 s15 s16 s17 s18 s19 s20 s21) = .nx (LT ns ds t S m t5 t6 t7 t8 t9 t10 t11 t12 t13 t14 t15 t16 t17 s18 s19 s20 s21) := by
  obtain ⟨δ', e, t5, t6, t7, t8, t9, t10, t11, t12, t13, t14, t15, t16, t17, rfl⟩ := goS_inv0 (b := bN 5) (body := yb_1_2 (den (k + 7))) (ds := nums 8) (δ := LT ns ds t S m s5 s6 s7 s8 s9 s10 s11 s12 s13 s14 s15 s16 s17 s18 s19 s20 s21)
    (fun j δ => ∃ t5 t6 t7 t8 t9 t10 t11 t12 t13 t14 t15 t16 t17, δ = LT ns ds t S m t5 t6 t7 t8 t9 t10 t11 t12 t13 t14 t15 t16 t17 s18 s19 s20 s21) ⟨s5, s6, s7, s8, s9, s10, s11, s12, s13, s14, s15, s16, s17, rfl⟩ (by
    rintro j d δ hj ⟨t5, t6, t7, t8, t9, t10, t11, t12, t13, t14, t15, t16, t17, rfl⟩
    obtain ⟨hjn, rfl⟩ := nums_at hj
    obtain ⟨u6, u7, u8, u9, u10, u11, u12, u13, u14, u15, u16, u17, e⟩ := one_ev k ns ds ok hl t ht G sm hm j hjn t6 t7 t8 t9 t10 t11 t12 t13 t14 t15 t16 t17 s18 s19 s20 s21
    exact ⟨_, _, rfl, .inl e, .sh (.int (j : Nat)), u6, u7, u8, u9, u10, u11, u12, u13, u14, u15, u16, u17, rfl⟩)
  refine ⟨t5, t6, t7, t8, t9, t10, t11, t12, t13, t14, t15, t16, t17, ?_⟩
  have er := rng1_n 8 (by omega)
  have er' : rng1D [PyData.int 8] = .ok (nums 8) := er
  unfold y_1_2
  rw [ev_for]
  simp only [ev_dAL, ev_args, ev_args0, ev_k, bnd_ok, er', toS_ok]
  exact e
/-! what is no box -/
theorem word_ev (k : Nat) {S : Sc} (G : GS S) {v : PyData} (h : NB (k + 5) v) (i : Nat) (hi : i < 5) : den (k + 8) I__law_word [.sh (.int (i : Nat)), .sh (scD S), .sh v] = .ok (.str "box") := by
  have ec := s_chkN G k h
  have f1 : den (k + 7) I_shares_of [.sh (scD S), .sh v] = .ex (.mk "BadBox" []) := by
    have e0 : den (k + 6 + 1) I_shares_of [.sh (scD S), .sh v] = outR (b_11 (den (k + 6)) [.sh (scD S), .sh v]) := den_shares_of _ _
    show den (k + 6 + 1) I_shares_of _ = _
    rw [e0]
    simp [b_11, ec]
  have f2 : den (k + 7) I_spans [.sh (scD S), .sh v] = .ex (.mk "BadBox" []) := by
    have e0 : den (k + 6 + 1) I_spans [.sh (scD S), .sh v] = outR (b_12 (den (k + 6)) [.sh (scD S), .sh v]) := den_spans _ _
    show den (k + 6 + 1) I_spans _ = _
    rw [e0]
    simp [b_12, ec]
  have f3 : den (k + 7) I_home_of [.sh (scD S), .sh v] = .ex (.mk "BadBox" []) := by
    have e0 : den (k + 6 + 1) I_home_of [.sh (scD S), .sh v] = outR (b_13 (den (k + 6)) [.sh (scD S), .sh v, .no, .no, .no, .no, .no, .no]) := den_home_of _ _
    show den (k + 6 + 1) I_home_of _ = _
    rw [e0]
    simp [b_13, ec]
  have f4 : den (k + 7) I_lost_cells [.sh (scD S), .sh v] = .ex (.mk "BadBox" []) := by
    have e0 : den (k + 6 + 1) I_lost_cells [.sh (scD S), .sh v] = outR (b_14 (den (k + 6)) [.sh (scD S), .sh v, .no, .no]) := den_lost_cells _ _
    show den (k + 6 + 1) I_lost_cells _ = _
    rw [e0]
    simp [b_14, ec]
  have f5 : den (k + 7) I_brought_in [.sh (scD S), .sh v] = .ex (.mk "BadBox" []) := by
    have e0 : den (k + 6 + 1) I_brought_in [.sh (scD S), .sh v] = outR (b_16 (den (k + 6)) [.sh (scD S), .sh v, .no, .no, .no, .no, .no]) := den_brought_in _ _
    show den (k + 6 + 1) I_brought_in _ = _
    rw [e0]
    simp [b_16, ec]
  have e0 : den (k + 7 + 1) I__law_word [.sh (.int (i : Nat)), .sh (scD S), .sh v] = outR (b_20 (den (k + 7)) [.sh (.int (i : Nat)), .sh (scD S), .sh v]) := den__law_word _ _
  show den (k + 7 + 1) I__law_word _ = _
  rw [e0]
  unfold b_20
  rw [ev_seq]
  unfold tryS
  match i, hi with
  | 0, _ => simp [f1]; rfl
  | 1, _ => simp [f2]; rfl
  | 2, _ => simp [f3]; rfl
  | 3, _ => simp [f4]; rfl
  | 4, _ => simp [f5]; rfl
def wrongs : List PyData := [.none, .tuple [.int 0, .int 0, .int 1], .list [.int 0, .int 0, .int 1, .int 1], .tuple [.int 0, .int 0, .int 1, .int 1001], .tuple [.int 0, .int 0, .int (-1), .int 1], .tuple [.int 0, .int 0, .bool true, .int 1], .int 3]
theorem wrongs_nb (k : Nat) : ∀ v ∈ wrongs, NB (k + 2) v := fun v hv => by
  unfold wrongs at hv
  simp only [List.mem_cons, List.not_mem_nil, or_false] at hv
  rcases hv with rfl | rfl | rfl | rfl | rfl | rfl | rfl
  · exact nb_notT rfl
  · exact nb_len (by decide)
  · exact nb_notT rfl
  · exact nb_4 rfl (by rfl)
  · exact nb_4 rfl (by rfl)
  · exact nb_4 rfl (by rfl)
  · exact nb_notT rfl
theorem wrong_ev (k : Nat) (ns ds : List Int) (t : Nat) {S : Sc} (G : GS S) {m : List (Ce × Str)} (v : PyData) (hv : NB (k + 5) v) (s5 s6 s7 s8 s9 s10 s11 s12 s13 s14 s15 s16 s17 s19 s20 s21 : Sl) :
    yb_1_3 (den (k + 8)) (LT ns ds t S m s5 s6 s7 s8 s9 s10 s11 s12 s13 s14 s15 s16 s17 (.sh v) s19 s20 s21) = .nx (LT ns ds t S m s5 s6 s7 s8 s9 s10 s11 s12 s13 s14 s15 s16 s17 (.sh v) s19 s20 s21) := by
  have hs : sizeLine = 16777216 := sz_line
  have er : rng1D [PyData.int 5] = .ok (nums 5) := rng1_n 5 (by omega)
  have e1 : lcL (bN 20) yesT (dA (argsF [(gS 20), (gS 3), (gS 18)]) (cD (den (k + 8) I__law_word))) [.br ns, .sh (I2 ds), .sh (.int (t : Nat)), .sh (scD S), .sh (.dict (eKV ceD .str m)), s5, s6, s7, s8, s9, s10, s11, s12, s13, s14, s15, s16, s17, .sh v, s19, .no, s21] (nums 5) = .ok ((nums 5).map fun _ => .str "box") := lcL_map (fun _ => .str "box") _ fun d hd => by
    obtain ⟨i, hi⟩ := List.mem_iff_getElem?.mp hd
    obtain ⟨hi5, rfl⟩ := nums_at hi
    have e := word_ev k G hv i hi5
    exact ⟨_, rfl, by simp [e]⟩
  have e2 : repL (.list [.str "box"]) (.int 5) = .ok (.list ((nums 5).map fun _ => .str "box")) := by
    show (if -(2 ^ 63) ≤ (5 : Int) ∧ (5 : Int) < 2 ^ 63 ∧ [PyData.str "box"].length * (5 : Int).toNat ≤ sizeLine then Re.ok (PyData.list (List.replicate (5 : Int).toNat [PyData.str "box"]).flatten) else .no) = _
    rw [if_pos ⟨by decide, by decide, by rw [hs]; decide⟩]
    rfl
  have e3 : neD (.list ((nums 5).map fun _ => .str "box")) (.list ((nums 5).map fun _ => .str "box")) = .ok (.bool false) := ne_self (by simp)
  have l5 : (nums 5).length ≤ sizeLine := by rw [nums_len]; omega
  unfold yb_1_3 y_1_3_0
  simp only [LT]
  simp only [ev_if, ev_tB1, ev_d2, ev_lc, ev_dAL, ev_args, ev_args0, ev_k, bnd_ok, er, if_pos l5, ev_wipe, ev_wipe0, List.set_cons_succ, List.set_cons_zero, e1, ev_dA, ev_lst1, e2, e3, ev_asB, toS_ok, if_neg Bool.false_ne_true, ev_nx]
theorem wrongs_ev (k : Nat) (ns ds : List Int) (t : Nat) {S : Sc} (G : GS S) {m : List (Ce × Str)} (s5 s6 s7 s8 s9 s10 s11 s12 s13 s14 s15 s16 s17 s18 s19 s20 s21 : Sl) :
    ∃ t18, y_1_3 (den (k + 8)) (LT ns ds t S m s5 s6 s7 s8 s9 s10 s11 s12 s13 s14 s15 s16 s17 s18 s19 s20 s21) = .nx (LT ns ds t S m s5 s6 s7 s8 s9 s10 s11 s12 s13 s14 s15 s16 s17 t18 s19 s20 s21) := by
  obtain ⟨δ', e, t18, rfl⟩ := goS_inv0 (b := bN 18) (body := yb_1_3 (den (k + 8))) (ds := wrongs) (δ := LT ns ds t S m s5 s6 s7 s8 s9 s10 s11 s12 s13 s14 s15 s16 s17 s18 s19 s20 s21)
    (fun j δ => ∃ t18, δ = LT ns ds t S m s5 s6 s7 s8 s9 s10 s11 s12 s13 s14 s15 s16 s17 t18 s19 s20 s21) ⟨s18, rfl⟩ (by
    rintro j d δ hj ⟨t18, rfl⟩
    have hv := wrongs_nb (k + 3) d (List.mem_of_getElem? hj)
    exact ⟨_, _, rfl, .inl (wrong_ev k ns ds t G d hv s5 s6 s7 s8 s9 s10 s11 s12 s13 s14 s15 s16 s17 s19 s20 s21), .sh d, rfl⟩)
  refine ⟨t18, ?_⟩
  have en : negI (.int 1) = .ok (.int (-1)) := rfl
  have l7 : lstD wrongs = .ok (.list wrongs) := ev_lst (by rw [sz_line]; decide)
  have ew : ∀ δ : Dl, argsF [(kC .none), (dA (argsF [(kC (.int 0)), (kC (.int 0)), (kC (.int 1))]) tupD), (dA (argsF [(kC (.int 0)), (kC (.int 0)), (kC (.int 1)), (kC (.int 1))]) lstD), (dA (argsF [(kC (.int 0)), (kC (.int 0)), (kC (.int 1)), (kC (.int 1001))]) tupD), (dA (argsF [(kC (.int 0)), (kC (.int 0)), (d1 negI (kC (.int 1))), (kC (.int 1))]) tupD), (dA (argsF [(kC (.int 0)), (kC (.int 0)), (kC (.bool true)), (kC (.int 1))]) tupD), (kC (.int 3))] δ = .ok wrongs := fun δ => by
    have l4 : lstD [PyData.int 0, .int 0, .int 1, .int 1] = .ok (.list [.int 0, .int 0, .int 1, .int 1]) := ev_lst (by rw [sz_line]; simp)
    simp [en, l4, wrongs]
  unfold y_1_3
  rw [ev_for, ev_d1L, ev_dA, ew, bnd_ok, l7, bnd_ok, ev_items_l, toS_ok]
  exact e
end KL
end
section
open PySem PySem.Spec PyProof.Rows L2 VS
namespace KL
theorem SI.small {n : Nat} {S : Sc} {T : List Ce} (I : SI n S T) (h5 : n ≤ 5) : small S := fun p hp => by
  have := I.bx p hp
  omega
abbrev LW (ns ds : List Int) (s2 s3 s4 s5 s6 s7 s8 s9 s10 s11 s12 s13 s14 s15 s16 s17 s18 s19 s20 s21 : Sl) : Dl :=
  [.br ns, .sh (I2 ds), s2, s3, s4, s5, s6, s7, s8, s9, s10, s11, s12, s13, s14, s15, s16, s17, s18, s19, s20, s21]
theorem turn_ev (ns ds : List Int) (ok : okDr ds) (hl : ds.length = 60) (t : Nat) (ht : t < 4) (s3 s4 s5 s6 s7 s8 s9 s10 s11 s12 s13 s14 s15 s16 s17 s18 s19 s20 s21 : Sl) :
    ∃ t3 t4 t5 t6 t7 t8 t9 t10 t11 t12 t13 t14 t15 t16 t17 t18, yb_1 (den 59) (LW ns ds (.sh (.int (t : Nat))) s3 s4 s5 s6 s7 s8 s9 s10 s11 s12 s13 s14 s15 s16 s17 s18 s19 s20 s21) = .nx (LW ns ds (.sh (.int (t : Nat))) t3 t4 t5 t6 t7 t8 t9 t10 t11 t12 t13 t14 t15 t16 t17 t18 s19 s20 s21) := by
  have hs : sizeLine = 16777216 := sz_line
  have okr : okDr (ds.drop (6 * t) ++ ds.take (6 * t)) := fun d hd => by
    rcases List.mem_append.mp hd with hd | hd
    · exact ok d (List.mem_of_mem_drop hd)
    · exact ok d (List.mem_of_mem_take hd)
  have hlr : (ds.drop (6 * t) ++ ds.take (6 * t)).length = 60 := by
    rw [List.length_append, List.length_drop, List.length_take]; omega
  obtain ⟨S, n, T, I, h1, h5, e1⟩ := s_lscreens 58 _ okr hlr
  have e1' : den 59 I__law_screens [.sh (I2 (ds.drop (6 * t) ++ ds.take (6 * t))), .sh (.int 0), .sh (.int 5)] = .ok (scD S) := e1
  have G := I.gs h1 h5
  have sm := I.small h5
  obtain ⟨m, e2, hm⟩ := s_lcells G 58
  have e2' : den 59 I__law_cells [.sh (scD S)] = .ok (.dict (eKV ceD .str m)) := e2
  have em : mulI (.int 6) (.int (t : Nat)) = .ok (.int ((6 * t : Nat) : Int)) := by
    rw [ev_mul (.inl (by decide))]
    congr 2
  have c1 : cutD (ds.map PyData.int) (some ((6 * t : Nat) : Int)) none = (ds.drop (6 * t)).map PyData.int := by
    rw [cut_from _ _ (by rw [List.length_map]; omega), List.map_drop]
  have c2 : cutD (ds.map PyData.int) none (some ((6 * t : Nat) : Int)) = (ds.take (6 * t)).map PyData.int := by
    rw [cut_len, List.map_take]
  have ea : addD (.list ((ds.drop (6 * t)).map PyData.int)) (.list ((ds.take (6 * t)).map PyData.int)) = .ok (I2 (ds.drop (6 * t) ++ ds.take (6 * t))) := by
    rw [ev_addL (by rw [List.length_map, List.length_map, List.length_drop, List.length_take]; omega), ← List.map_append]
  have q0 : y_1_0 (den 59) (LW ns ds (.sh (.int (t : Nat))) s3 s4 s5 s6 s7 s8 s9 s10 s11 s12 s13 s14 s15 s16 s17 s18 s19 s20 s21) = .nx (LW ns ds (.sh (.int (t : Nat))) (.sh (scD S)) s4 s5 s6 s7 s8 s9 s10 s11 s12 s13 s14 s15 s16 s17 s18 s19 s20 s21) := by
    unfold y_1_0
    simp only [LW]
    simp only [ev_set, ev_dA, ev_args, ev_args0, ev_d2, dSl, gS_zero, gS_succ, bnd_ok, someP, noP, ev_k, em, asI, slA, c1, c2, ea, ev_cD, List.map_cons, List.map_nil, e1', toS_ok, List.set_cons_succ, List.set_cons_zero]
  have q1 : y_1_1 (den 59) (LW ns ds (.sh (.int (t : Nat))) (.sh (scD S)) s4 s5 s6 s7 s8 s9 s10 s11 s12 s13 s14 s15 s16 s17 s18 s19 s20 s21) = .nx (LT ns ds t S m s5 s6 s7 s8 s9 s10 s11 s12 s13 s14 s15 s16 s17 s18 s19 s20 s21) := by
    unfold y_1_1
    simp only [LW, LT]
    simp only [ev_set, ev_dA, ev_args, ev_args0, gS_zero, gS_succ, bnd_ok, ev_cD, List.map_cons, List.map_nil, e2', toS_ok, List.set_cons_succ, List.set_cons_zero]
  obtain ⟨t5, t6, t7, t8, t9, t10, t11, t12, t13, t14, t15, t16, t17, q2⟩ := eight_ev 52 ns ds ok hl t ht G sm hm s5 s6 s7 s8 s9 s10 s11 s12 s13 s14 s15 s16 s17 s18 s19 s20 s21
  obtain ⟨t18, q3⟩ := wrongs_ev 51 ns ds t G (m := m) t5 t6 t7 t8 t9 t10 t11 t12 t13 t14 t15 t16 t17 s18 s19 s20 s21
  refine ⟨_, _, _, _, _, _, _, _, _, _, _, _, _, _, _, _, Eq.trans ?_ q3⟩
  unfold yb_1
  rw [ev_seq, q0, rsb_nx, ev_seq, q1, rsb_nx, ev_seq]
  have q2' : y_1_2 (den 59) (LT ns ds t S m s5 s6 s7 s8 s9 s10 s11 s12 s13 s14 s15 s16 s17 s18 s19 s20 s21) = _ := q2
  rw [q2', rsb_nx]
theorem turns_ev (ns ds : List Int) (ok : okDr ds) (hl : ds.length = 60) (s2 s3 s4 s5 s6 s7 s8 s9 s10 s11 s12 s13 s14 s15 s16 s17 s18 s19 s20 s21 : Sl) :
    ∃ t2 t3 t4 t5 t6 t7 t8 t9 t10 t11 t12 t13 t14 t15 t16 t17 t18, y_1 (den 59) (LW ns ds s2 s3 s4 s5 s6 s7 s8 s9 s10 s11 s12 s13 s14 s15 s16 s17 s18 s19 s20 s21) = .nx (LW ns ds t2 t3 t4 t5 t6 t7 t8 t9 t10 t11 t12 t13 t14 t15 t16 t17 t18 s19 s20 s21) := by
  obtain ⟨δ', e, t2, t3, t4, t5, t6, t7, t8, t9, t10, t11, t12, t13, t14, t15, t16, t17, t18, rfl⟩ := goS_inv0 (b := bN 2) (body := yb_1 (den 59)) (ds := nums 4) (δ := LW ns ds s2 s3 s4 s5 s6 s7 s8 s9 s10 s11 s12 s13 s14 s15 s16 s17 s18 s19 s20 s21)
    (fun j δ => ∃ t2 t3 t4 t5 t6 t7 t8 t9 t10 t11 t12 t13 t14 t15 t16 t17 t18, δ = LW ns ds t2 t3 t4 t5 t6 t7 t8 t9 t10 t11 t12 t13 t14 t15 t16 t17 t18 s19 s20 s21) ⟨s2, s3, s4, s5, s6, s7, s8, s9, s10, s11, s12, s13, s14, s15, s16, s17, s18, rfl⟩ (by
    rintro j d δ hj ⟨t2, t3, t4, t5, t6, t7, t8, t9, t10, t11, t12, t13, t14, t15, t16, t17, t18, rfl⟩
    obtain ⟨hjn, rfl⟩ := nums_at hj
    obtain ⟨u3, u4, u5, u6, u7, u8, u9, u10, u11, u12, u13, u14, u15, u16, u17, u18, e⟩ := turn_ev ns ds ok hl j hjn t3 t4 t5 t6 t7 t8 t9 t10 t11 t12 t13 t14 t15 t16 t17 t18 s19 s20 s21
    exact ⟨_, _, rfl, .inl e, .sh (.int (j : Nat)), u3, u4, u5, u6, u7, u8, u9, u10, u11, u12, u13, u14, u15, u16, u17, u18, rfl⟩)
  refine ⟨t2, t3, t4, t5, t6, t7, t8, t9, t10, t11, t12, t13, t14, t15, t16, t17, t18, ?_⟩
  have er : rng1D [PyData.int 4] = .ok (nums 4) := rng1_n 4 (by omega)
  unfold y_1
  rw [ev_for]
  simp only [ev_dAL, ev_args, ev_args0, ev_k, bnd_ok, er, toS_ok]
  exact e
/-! the two screens at the end -/
def S2 : Sc := [("a", (0, 0, 4, 4)), ("b", (4, 2, 4, 4))]
theorem S2_gs : GS S2 where
  l1 := by decide
  l8 := by decide
  asc := by decide
  ok := fun p hp => by
    unfold S2 at hp
    simp only [List.mem_cons, List.not_mem_nil, or_false] at hp
    rcases hp with rfl | rfl
    · exact ⟨by decide, by unfold okB; decide, by decide, by decide⟩
    · exact ⟨by decide, by unfold okB; decide, by decide, by decide⟩
  dis := by
    unfold S2
    simp only [List.pairwise_cons, List.mem_cons, List.not_mem_nil, or_false]
    refine ⟨fun a ha => ?_, by simp, List.Pairwise.nil⟩
    subst ha
    decide
def bA : Bx := (3, 3, 2, 2)
def bB : Bx := (900, 900, 5, 1)
def bC : Bx := (0, 0, 0, 9)
theorem bA_ok : okB bA := by unfold okB bA; decide
theorem bB_ok : okB bB := by unfold okB bB; decide
theorem bC_ok : okB bC := by unfold okB bC; decide
theorem two_ev (x0 x1 x2 x3 x4 x5 x6 x7 x8 x9 x10 x11 x12 x13 x14 x15 x16 x17 x18 x19 x20 x21 : Sl) :
    (seqS (y_2 (den 59)) (seqS (y_3 (den 59)) (y_4 (den 59)))) [x0, x1, x2, x3, x4, x5, x6, x7, x8, x9, x10, x11, x12, x13, x14, x15, x16, x17, x18, x19, x20, x21] = .rt (.bool true) := by
  have e1 : den 59 I_shares_of [.sh (scD S2), .sh (bxD bA)] = .ok (.tuple ((shR S2 bA).map srD)) := s_shares_of S2_gs 52 bA_ok
  have r1 : shR S2 bA = [(("a" : Str), (1 : Int)), (("b" : Str), (2 : Int))] := by rfl
  have e2 : den 59 I_home_of [.sh (scD S2), .sh (bxD bA)] = .ok (homeV (shR S2 bA)) := s_home S2_gs 52 bA_ok
  have r2 : homeV (shR S2 bA) = .str "b" := by rw [r1]; rfl
  have e3 : den 59 I_lost_cells [.sh (scD S2), .sh (bxD bA)] = .ok (.int (bA.2.2.1 * bA.2.2.2 - ((shR S2 bA).map (·.2)).sum)) := s_lost S2_gs 52 bA_ok
  have r3 : bA.2.2.1 * bA.2.2.2 - ((shR S2 bA).map (·.2)).sum = 1 := by rw [r1]; rfl
  obtain ⟨r, hL, e4⟩ := s_brought S2_gs 52 bA_ok
  have e4' : den 59 I_brought_in [.sh (scD S2), .sh (bxD bA)] = .ok r := e4
  have rc : cands S2 bA = [(2, 2, 2), (1, 4, 3)] := by rfl
  have r4 : r = .tuple [.int 4, .int 3, .int 2, .int 2] := by
    rw [rc] at hL
    rcases hL with ⟨e, _⟩ | ⟨q, hq, rfl, hl⟩
    · cases e
    · simp only [List.mem_cons, List.not_mem_nil, or_false] at hq
      rcases hq with rfl | rfl
      · exact absurd (by decide) (hl (1, 4, 3) (by simp))
      · rfl
  obtain ⟨r', hL', e5⟩ := s_brought S2_gs 52 bB_ok
  have e5' : den 59 I_brought_in [.sh (scD S2), .sh (bxD bB)] = .ok r' := e5
  have rc' : cands S2 bB = [] := by rfl
  have r5 : r' = .none := by
    rw [rc'] at hL'
    rcases hL' with ⟨_, e⟩ | ⟨q, hq, _, _⟩
    · exact e
    · cases hq
  have e6 : den 59 I_home_of [.sh (scD S2), .sh (bxD bC)] = .ok (homeV (shR S2 bC)) := s_home S2_gs 52 bC_ok
  have r6 : homeV (shR S2 bC) = .none := by rfl
  rw [r1] at e1
  rw [r2] at e2
  rw [r3] at e3
  rw [r4] at e4'
  rw [r5] at e5'
  rw [r6] at e6
  have n1 : neD (.tuple ([(("a" : Str), (1 : Int)), ("b", 2)].map srD)) (.tuple [.tuple [.str "a", .int 1], .tuple [.str "b", .int 2]]) = .ok (.bool false) := ne_self (dn_rows _)
  have n4 : eqD (.tuple [.int 4, .int 3, .int 2, .int 2]) (.tuple [.int 4, .int 3, .int 2, .int 2]) = .ok (.bool true) := eq_self (by simp)
  have e1' : den 59 I_shares_of [.sh (.tuple [.tuple [.str "a", .tuple [.int 0, .int 0, .int 4, .int 4]], .tuple [.str "b", .tuple [.int 4, .int 2, .int 4, .int 4]]]), .sh (.tuple [.int 3, .int 3, .int 2, .int 2])] = _ := e1
  have e2' : den 59 I_home_of [.sh (.tuple [.tuple [.str "a", .tuple [.int 0, .int 0, .int 4, .int 4]], .tuple [.str "b", .tuple [.int 4, .int 2, .int 4, .int 4]]]), .sh (.tuple [.int 3, .int 3, .int 2, .int 2])] = _ := e2
  have e3' : den 59 I_lost_cells [.sh (.tuple [.tuple [.str "a", .tuple [.int 0, .int 0, .int 4, .int 4]], .tuple [.str "b", .tuple [.int 4, .int 2, .int 4, .int 4]]]), .sh (.tuple [.int 3, .int 3, .int 2, .int 2])] = _ := e3
  have e4'' : den 59 I_brought_in [.sh (.tuple [.tuple [.str "a", .tuple [.int 0, .int 0, .int 4, .int 4]], .tuple [.str "b", .tuple [.int 4, .int 2, .int 4, .int 4]]]), .sh (.tuple [.int 3, .int 3, .int 2, .int 2])] = _ := e4'
  have e5'' : den 59 I_brought_in [.sh (.tuple [.tuple [.str "a", .tuple [.int 0, .int 0, .int 4, .int 4]], .tuple [.str "b", .tuple [.int 4, .int 2, .int 4, .int 4]]]), .sh (.tuple [.int 900, .int 900, .int 5, .int 1])] = _ := e5'
  have e6' : den 59 I_home_of [.sh (.tuple [.tuple [.str "a", .tuple [.int 0, .int 0, .int 4, .int 4]], .tuple [.str "b", .tuple [.int 4, .int 2, .int 4, .int 4]]]), .sh (.tuple [.int 0, .int 0, .int 0, .int 9])] = _ := e6
  unfold y_2 y_3 y_4
  simp only [ev_seq, ev_set, ev_dA, ev_args, ev_args0, ev_k, bnd_ok, ev_tup4, ev_tup2, toS_ok, List.set_cons_succ, List.set_cons_zero, rsb_nx, ev_if, ev_tOr, ev_tB1, ev_d2, gS_zero, gS_succ, ev_cD, List.map_cons, List.map_nil, e1', e2', e3', e4'', e5'', e6', ev_ret, ev_and, ev_d1, n4, ev_asB, if_true, ev_isN, isN_none, ev_neS, ev_neI, decide_true, Bool.not_true, if_neg Bool.false_ne_true, ev_nx]
  simp only [List.map_cons, List.map_nil] at n1
  simp only [n1, bnd_ok, ev_asB, if_neg Bool.false_ne_true, toS_ok, rsb_nx]
  simp only [ev_ret, ev_and, ev_d1, ev_d2, ev_dA, ev_args, ev_args0, ev_k, bnd_ok, ev_tup4, gS_zero, gS_succ, ev_cD, List.map_cons, List.map_nil, e4'', e5'', e6', n4, ev_asB, if_true, ev_isN, isN_none, toS_ok]
theorem good (ns : List Int) (hns : ns.length ≤ 63) : den 60 21 [.br ns] = .ok (.bool true) := by
  have e0 : den (59 + 1) I_law [.br ns] = outR (b_21 (den 59) [.br ns, .no, .no, .no, .no, .no, .no, .no, .no, .no, .no, .no, .no, .no, .no, .no, .no, .no, .no, .no, .no, .no]) := den_law _ _
  obtain ⟨ds, e1, hl, ok⟩ := s_draws 58 ns 60 (by decide)
  have e1' : den 59 I__law_draws [.br ns, .sh (.int 60)] = .ok (I2 ds) := e1
  obtain ⟨t2, t3, t4, t5, t6, t7, t8, t9, t10, t11, t12, t13, t14, t15, t16, t17, t18, e2⟩ := turns_ev ns ds ok hl .no .no .no .no .no .no .no .no .no .no .no .no .no .no .no .no .no .no .no .no
  have e3 := two_ev (.br ns) (.sh (I2 ds)) t2 t3 t4 t5 t6 t7 t8 t9 t10 t11 t12 t13 t14 t15 t16 t17 t18 .no .no .no
  have q0 : y_0 (den 59) [.br ns, .no, .no, .no, .no, .no, .no, .no, .no, .no, .no, .no, .no, .no, .no, .no, .no, .no, .no, .no, .no, .no] = .nx (LW ns ds .no .no .no .no .no .no .no .no .no .no .no .no .no .no .no .no .no .no .no .no) := by
    unfold y_0
    have : dScr 0 (kC (.int 60)) (den 59 I__law_draws) [.br ns, .no, .no, .no, .no, .no, .no, .no, .no, .no, .no, .no, .no, .no, .no, .no, .no, .no, .no, .no, .no, .no] = .ok (I2 ds) := e1'
    rw [ev_set, this, toS_ok]
    rfl
  show den (59 + 1) I_law [.br ns] = _
  rw [e0, law_eq]
  unfold yb
  rw [ev_seq, q0, rsb_nx, ev_seq, e2, rsb_nx, e3]
  rfl
end KL
end
theorem PySem.Challenge.cw_windowwright_k46_whole_windows_on_screen_holds : PySem.Challenge.rw_windowwright_k46_whole_windows_on_screen.Holds := by
  exact KL.holds KL.good
