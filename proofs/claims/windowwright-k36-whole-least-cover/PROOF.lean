import PyProof.Rows.All
import Wide.All
import OpenK.AllK
import Wide.FinOn
import HandS.ForMost
import HandS.Flow
import HandS.Style
import HandS.TupAny
import HandS.IsInst
import HandS.Wide
import KE.LtData
import KE.SortData
import KE.DataCmp
import KE.DataEq
import HandS.TupLen
import HandS.Conv
import KE.DataMinMax
import HandS.ForExc
import HandS.TryOnly
import HandS.WordsExc
import HandS.TryMany
import HandS.Defaults
import HandS.Iter
import HandS.Zip
import HandS.Comp
import KE.GoesEnum
import HandS.DictComp
import HandS.Text
import HandS.List
import HandS.Small
import KE.KStateDown
import HandS.Ends
import HandS.HeadEnd
import HandS.HeadHook1
import HandS.HeadHook2
import KE.KDictSum
import PyProof.TupleOfSeq
import PyProof.Transfer
import HandS.Deep
import KE.KDictLaws
import HandS.SetKeys
import HandS.Strs
import KE.KDictZip
import HandS.HeadHook4
import HandS.SetFor
import HandS.Set
import KE.KDictCopyH
import KE.KTupSum
import PySem.Challenge.RW_windowwright_k36_whole_least_cover
import HandS.Head0
import HandS.Head1
import HandS.Head2
set_option Elab.async false
set_option linter.all false
set_option maxRecDepth 100000
set_option maxHeartbeats 4000000
section
/-! VS: pure values over the hand layer. Every expression gets a reading over PyData; lists and dicts are values, frozen (F) or owned by one slot. -/
namespace VS
open PySem L2

abbrev D := PyData

/-! ### outcomes -/
/-- an own exception: its class's name, its fields -/
inductive Xn where
  | mk (nm : Str) (fs : List (Str × D))
inductive Re (α : Type) where
  | ok (a : α)
  | ex (x : Xn)
  | no
def Re.bnd {α β : Type} (r : Re α) (f : α → Re β) : Re β := match r with
  | .ok a => f a
  | .ex x => .ex x
  | .no => .no
@[simp] theorem bnd_ok {α β : Type} (a : α) (f : α → Re β) : (Re.ok a).bnd f = f a := Eq.trans rfl (Eq.refl _)
@[simp] theorem bnd_ex {α β : Type} (x : Xn) (f : α → Re β) : (Re.ex x : Re α).bnd f = .ex x := Eq.trans rfl (Eq.refl _)
@[simp] theorem bnd_no {α β : Type} (f : α → Re β) : (Re.no : Re α).bnd f = .no := Eq.trans rfl (Eq.refl _)
def ofO {α : Type} : Option α → Re α
  | some a => .ok a
  | none => .no
@[simp] theorem ofO_some {α : Type} (a : α) : ofO (some a) = .ok a := Eq.trans rfl (Eq.refl _)
@[simp] theorem ofO_none {α : Type} : ofO (none : Option α) = .no := Eq.trans rfl (Eq.refl _)

/-! ### what stands for a value -/
def kD : Key → D
  | .inl i => .int i
  | .inr x => .str x
/-- pairs that tell an object: its class first, then its attributes -/
def isOb {α : Type} : List (D × α) → Bool
  | (.none, _) :: _ => true
  | _ => false
/-- a dict's pairs, or an object's -/
def DRd (H : Hp) (a : Addr) (kvs : List (D × V)) : Prop :=
  (∃ m : List (Key × V), Rd H a (.dK m) ∧ kvs = m.map fun p => (kD p.1, p.2)) ∨
  (∃ m : List (List Key × V), Rd H a (.dT m) ∧ kvs = m.map fun p => (PyData.tuple (p.1.map kD), p.2)) ∨
  (∃ (C dx : Addr) (fs : List (Str × V)) (n : Nat), H a = some (.ins C dx fs) ∧ kvs = (PyData.none, V.int (C : Nat)) :: (PyData.none, V.int n) :: fs.map fun p => (PyData.str p.1, p.2))
theorem DRd.two {H : Hp} {a : Addr} {kvs : List (D × V)} (h : DRd H a kvs) (o : isOb kvs = false) : (∃ m : List (Key × V), Rd H a (.dK m) ∧ kvs = m.map fun p => (kD p.1, p.2)) ∨
    (∃ m : List (List Key × V), Rd H a (.dT m) ∧ kvs = m.map fun p => (PyData.tuple (p.1.map kD), p.2)) := by
  rcases h with h | h | ⟨C, dx, fs, _, _, rfl⟩
  · exact .inl h
  · exact .inr h
  · cases o

/-- the module's own tuples that are handed about (never keys of a dict) -/
def esc : List D → Bool
  | [.str x] => decide (x = "form") || decide (x = "start") || decide (x = "end") || decide (x = "ends")
  | [.int 0, .int 0, .int 1000, .int 1000] => true
  | _ => false
/-- a tuple's object -/
def TupR (K : PySem.W.Frag) (H : Hp) (a : Addr) (xs : List V) (ds : List D) : Prop := H a = some (.tup xs) ∨ (esc ds = true ∧ SqT K H a xs)
theorem TupR.sq {K : PySem.W.Frag} {H : Hp} {a : Addr} {xs : List V} {ds : List D} (h : TupR K H a xs ds) : SqT K H a xs := h.elim (fun e => .inl (.inl e)) fun e => e.2

mutual
inductive Rp (K : PySem.W.Frag) (F : Addr → Prop) (H : Hp) : V → D → Prop
  | non : Rp K F H .non .none
  | bl (b : Bool) : Rp K F H (.bl b) (.bool b)
  | int (i : Int) : Rp K F H (.int i) (.int i)
  | str (x : Str) : Rp K F H (.str x) (.str x)
  | lst {a : Addr} {xs : List V} {ds : List D} : Rd H a (.lst xs) → F a → RpA K F H xs ds → Rp K F H (.ref a) (.list ds)
  | tup {a : Addr} {xs : List V} {ds : List D} : TupR K H a xs ds → RpA K F H xs ds → Rp K F H (.ref a) (.tuple ds)
  | dic {a : Addr} {kvs : List (D × V)} {ds : List (D × D)} : DRd H a kvs → F a → RpK K F H kvs ds → Rp K F H (.ref a) (.dict ds)
inductive RpA (K : PySem.W.Frag) (F : Addr → Prop) (H : Hp) : List V → List D → Prop
  | nil : RpA K F H [] []
  | cons {v : V} {vs : List V} {d : D} {ds : List D} : Rp K F H v d → RpA K F H vs ds → RpA K F H (v :: vs) (d :: ds)
inductive RpK (K : PySem.W.Frag) (F : Addr → Prop) (H : Hp) : List (D × V) → List (D × D) → Prop
  | nil : RpK K F H [] []
  | cons {k : D} {v : V} {vs : List (D × V)} {d : D} {ds : List (D × D)} : Rp K F H v d → RpK K F H vs ds → RpK K F H ((k, v) :: vs) ((k, d) :: ds)
end

theorem isOb_rp {K : PySem.W.Frag} {F : Addr → Prop} {H : Hp} {kvs : List (D × V)} {ds : List (D × D)} (r : RpK K F H kvs ds) : isOb kvs = isOb ds := by
  cases r with
  | nil => rfl
  | @cons k v vs d ds h t => cases k <;> rfl
/-- what a step keeps: the frozen things, the things that nobody can write -/
def Kept (P : Addr → Prop) (H H' : Hp) : Prop := ∀ a o, H a = some o → (P a ∨ ¬ Mut (some o)) → H' a = some o
theorem Kept.refl {P : Addr → Prop} {H : Hp} : Kept P H H := fun _ _ h _ => h
theorem Kept.of {P : Addr → Prop} {H H' : Hp} (s : Same H H') : Kept P H H' := fun a o h _ => s a o h
theorem Kept.trans {P P' : Addr → Prop} {H H1 H2 : Hp} (a : Kept P H H1) (b : Kept P' H1 H2) (s : ∀ x, P x → P' x) : Kept P H H2 := fun x o h c =>
  b x o (a x o h c) (c.imp (s x) id)
theorem Kept.less {P P' : Addr → Prop} {H H' : Hp} (a : Kept P H H') (s : ∀ x, P' x → P x) : Kept P' H H' := fun x o h c => a x o h (c.imp (s x) id)

theorem mut_frz {o : Obj} {u : HO} : ¬ Mut (some (.frz o u)) := fun h => h
theorem mut_tup {xs : List V} : ¬ Mut (some (.tup xs)) := fun h => h

theorem Kept.rd {P : Addr → Prop} {H H' : Hp} {a : Addr} {u : HO} (k : Kept P H H') (r : Rd H a u) (c : P a ∨ ¬ Mut (some u)) : Rd H' a u := by
  rcases r with r | ⟨o, r⟩
  · exact .inl (k a u r c)
  · exact .inr ⟨o, k a _ r (.inr mut_frz)⟩
theorem Kept.sqT {P : Addr → Prop} {K : PySem.W.Frag} {H H' : Hp} {a : Addr} {xs : List V} (k : Kept P H H') (r : SqT K H a xs) : SqT K H' a xs := by
  rcases r with r | r
  · exact .inl (k.rd r (.inr mut_tup))
  · exact .inr r
theorem Kept.tupR {P : Addr → Prop} {K : PySem.W.Frag} {H H' : Hp} {a : Addr} {xs : List V} {ds : List D} (k : Kept P H H') (r : TupR K H a xs ds) : TupR K H' a xs ds :=
  r.imp (fun e => k _ _ e (.inr mut_tup)) fun e => ⟨e.1, k.sqT e.2⟩
theorem Kept.drd {P : Addr → Prop} {H H' : Hp} {a : Addr} {kvs : List (D × V)} (k : Kept P H H') (r : DRd H a kvs) (c : P a) : DRd H' a kvs := by
  rcases r with ⟨m, r, e⟩ | ⟨m, r, e⟩ | ⟨C, dx, fs, n, r, e⟩
  · exact .inl ⟨m, k.rd r (.inl c), e⟩
  · exact .inr (.inl ⟨m, k.rd r (.inl c), e⟩)
  · exact .inr (.inr ⟨C, dx, fs, n, k a _ r (.inl c), e⟩)

section
variable {K : PySem.W.Frag} {F F' : Addr → Prop} {H H' : Hp}
mutual
theorem Rp.mono (hF : ∀ a, F a → F' a) (k : Kept F H H') : ∀ {v : V} {d : D}, Rp K F H v d → Rp K F' H' v d
  | _, _, .non => .non
  | _, _, .bl b => .bl b
  | _, _, .int i => .int i
  | _, _, .str x => .str x
  | _, _, .lst r f t => .lst (k.rd r (.inl f)) (hF _ f) (RpA.mono hF k t)
  | _, _, .tup r t => .tup (k.tupR r) (RpA.mono hF k t)
  | _, _, .dic r f t => .dic (k.drd r f) (hF _ f) (RpK.mono hF k t)
theorem RpA.mono (hF : ∀ a, F a → F' a) (k : Kept F H H') : ∀ {vs : List V} {ds : List D}, RpA K F H vs ds → RpA K F' H' vs ds
  | _, _, .nil => .nil
  | _, _, .cons h t => .cons (Rp.mono hF k h) (RpA.mono hF k t)
theorem RpK.mono (hF : ∀ a, F a → F' a) (k : Kept F H H') : ∀ {vs : List (D × V)} {ds : List (D × D)}, RpK K F H vs ds → RpK K F' H' vs ds
  | _, _, .nil => .nil
  | _, _, .cons h t => .cons (Rp.mono hF k h) (RpK.mono hF k t)
end
end

theorem RpA.length {K : PySem.W.Frag} {F : Addr → Prop} {H : Hp} : ∀ {vs : List V} {ds : List D}, RpA K F H vs ds → vs.length = ds.length
  | _, _, .nil => rfl
  | _, _, .cons _ t => congrArg (· + 1) t.length
theorem RpA.get {K : PySem.W.Frag} {F : Addr → Prop} {H : Hp} : ∀ {vs : List V} {ds : List D} {i : Nat} {d : D}, RpA K F H vs ds → ds[i]? = some d → ∃ v, vs[i]? = some v ∧ Rp K F H v d
  | _, _, _, _, .nil, e => by simp at e
  | _, _, 0, _, .cons h _, e => by simp at e; subst e; exact ⟨_, rfl, h⟩
  | _, _, i + 1, _, .cons _ t, e => by
    obtain ⟨v, e1, r⟩ := RpA.get (i := i) t (by simpa using e)
    exact ⟨v, by simpa using e1, r⟩
theorem RpA.getV {K : PySem.W.Frag} {F : Addr → Prop} {H : Hp} : ∀ {vs : List V} {ds : List D} {i : Nat} {v : V}, RpA K F H vs ds → vs[i]? = some v → ∃ d, ds[i]? = some d ∧ Rp K F H v d
  | _, _, _, _, .nil, e => by simp at e
  | _, _, 0, _, .cons h _, e => by simp at e; subst e; exact ⟨_, rfl, h⟩
  | _, _, i + 1, _, .cons _ t, e => by
    obtain ⟨v, e1, r⟩ := RpA.getV (i := i) t (by simpa using e)
    exact ⟨v, by simpa using e1, r⟩
theorem RpA.append {K : PySem.W.Frag} {F : Addr → Prop} {H : Hp} : ∀ {vs ws : List V} {ds es : List D}, RpA K F H vs ds → RpA K F H ws es → RpA K F H (vs ++ ws) (ds ++ es)
  | _, _, _, _, .nil, s => s
  | _, _, _, _, .cons h t, s => .cons h (RpA.append t s)
theorem RpA.set {K : PySem.W.Frag} {F : Addr → Prop} {H : Hp} : ∀ {vs : List V} {ds : List D} (i : Nat) {v : V} {d : D}, RpA K F H vs ds → Rp K F H v d → RpA K F H (vs.set i v) (ds.set i d)
  | _, _, _, _, _, .nil, _ => .nil
  | _, _, 0, _, _, .cons _ t, r => .cons r t
  | _, _, i + 1, _, _, .cons h t, r => .cons h (RpA.set i t r)
theorem RpA.take {K : PySem.W.Frag} {F : Addr → Prop} {H : Hp} : ∀ {vs : List V} {ds : List D} (n : Nat), RpA K F H vs ds → RpA K F H (vs.take n) (ds.take n)
  | _, _, 0, _ => .nil
  | _, _, _ + 1, .nil => .nil
  | _, _, n + 1, .cons h t => .cons h (RpA.take n t)
theorem RpA.drop {K : PySem.W.Frag} {F : Addr → Prop} {H : Hp} : ∀ {vs : List V} {ds : List D} (n : Nat), RpA K F H vs ds → RpA K F H (vs.drop n) (ds.drop n)
  | _, _, 0, r => r
  | _, _, _ + 1, .nil => .nil
  | _, _, n + 1, .cons _ t => RpA.drop n t
theorem RpA.reverse {K : PySem.W.Frag} {F : Addr → Prop} {H : Hp} : ∀ {vs : List V} {ds : List D}, RpA K F H vs ds → RpA K F H vs.reverse ds.reverse
  | _, _, .nil => .nil
  | _, _, .cons h t => by
    rw [List.reverse_cons, List.reverse_cons]
    exact RpA.append (RpA.reverse t) (.cons h .nil)
theorem RpA.ints {K : PySem.W.Frag} {F : Addr → Prop} {H : Hp} : ∀ {vs : List V} {ns : List Int}, RpA K F H vs (ns.map PyData.int) → vs = ns.map V.int
  | _, [], h => by cases h; rfl
  | _, n :: ns, h => by
    cases h with
    | cons a t =>
      cases a
      rw [RpA.ints t]
      rfl
theorem RpA.ofInts {K : PySem.W.Frag} {F : Addr → Prop} {H : Hp} : ∀ (ns : List Int), RpA K F H (ns.map V.int) (ns.map PyData.int)
  | [] => .nil
  | n :: ns => .cons (.int n) (RpA.ofInts ns)
theorem RpA.bools {K : PySem.W.Frag} {F : Addr → Prop} {H : Hp} : ∀ {vs : List V} {ns : List Bool}, RpA K F H vs (ns.map PyData.bool) → vs = ns.map V.bl
  | _, [], h => by cases h; rfl
  | _, n :: ns, h => by
    cases h with
    | cons a t =>
      cases a
      rw [RpA.bools t]
      rfl

/-! ### growth: what an expression leaves -/
structure Grow (F : Addr → Prop) (H : Hp) (F' : Addr → Prop) (H' : Hp) : Prop where
  sub : ∀ a, F a → F' a
  new : ∀ a, F' a → F a ∨ H a = none
  same : Same H H'
  dom : (∀ a, F a → H a ≠ none) → ∀ a, F' a → H' a ≠ none
theorem Grow.refl {F : Addr → Prop} {H : Hp} : Grow F H F H := ⟨fun _ h => h, fun _ h => .inl h, Same.refl H, fun h => h⟩
theorem Grow.trans {F F1 F2 : Addr → Prop} {H H1 H2 : Hp} (a : Grow F H F1 H1) (b : Grow F1 H1 F2 H2) : Grow F H F2 H2 where
  sub := fun x h => b.sub x (a.sub x h)
  new := fun x h => by
    rcases b.new x h with h | h
    · exact a.new x h
    · exact .inr (a.same.free h)
  same := a.same.trans b.same
  dom := fun h => b.dom (a.dom h)
theorem Grow.kept {F F' : Addr → Prop} {H H' : Hp} (g : Grow F H F' H') {P : Addr → Prop} : Kept P H H' := Kept.of g.same
theorem Grow.rp {K : PySem.W.Frag} {F F' : Addr → Prop} {H H' : Hp} (g : Grow F H F' H') {v : V} {d : D} (r : Rp K F H v d) : Rp K F' H' v d := r.mono g.sub g.kept
theorem Grow.rpA {K : PySem.W.Frag} {F F' : Addr → Prop} {H H' : Hp} (g : Grow F H F' H') {v : List V} {d : List D} (r : RpA K F H v d) : RpA K F' H' v d := r.mono g.sub g.kept
theorem Grow.rpK {K : PySem.W.Frag} {F F' : Addr → Prop} {H H' : Hp} (g : Grow F H F' H') {v : List (D × V)} {d : List (D × D)} (r : RpK K F H v d) : RpK K F' H' v d := r.mono g.sub g.kept
theorem same_upd {H : Hp} {p : Addr} {o : HO} (h : H p = none) : Same H (upd H p o) := fun b u e => by rw [upd_ne (ne_of_none e h)]; exact e
/-- a new object that is not frozen -/
theorem Grow.upd0 {F : Addr → Prop} {H : Hp} {p : Addr} {o : HO} (h : H p = none) : Grow F H F (upd H p o) :=
  ⟨fun _ x => x, fun _ x => .inl x, same_upd h, fun dm a fa => by
    by_cases e : a = p
    · subst e; rw [upd_same]; exact fun z => nomatch z
    · rw [upd_ne e]; exact dm a fa⟩
def plus (F : Addr → Prop) (p : Addr) : Addr → Prop := fun a => F a ∨ a = p
/-- a new object is frozen -/
theorem Grow.freeze {F F' : Addr → Prop} {H H' : Hp} {p : Addr} (g : Grow F H F' H') (h : H p = none) (h' : H' p ≠ none) : Grow F H (plus F' p) H' :=
  ⟨fun a x => .inl (g.sub a x), fun a x => by
    rcases x with x | x
    · exact g.new a x
    · subst x; exact .inr h, g.same, fun dm a x => by
    rcases x with x | x
    · exact g.dom dm a x
    · subst x; exact h'⟩

/-! ### looser readings -/
/-- the top list or dict may be anyone's -/
def RpB (K : PySem.W.Frag) (F : Addr → Prop) (H : Hp) (v : V) : D → Prop
  | .list ds => ∃ a xs, v = .ref a ∧ Rd H a (.lst xs) ∧ RpA K F H xs ds
  | .dict ds => ∃ a kvs, v = .ref a ∧ DRd H a kvs ∧ RpK K F H kvs ds
  | .tuple ds => ∃ a xs, v = .ref a ∧ SqT K H a xs ∧ RpA K F H xs ds
  | d => Rp K F H v d
theorem Rp.b {K : PySem.W.Frag} {F : Addr → Prop} {H : Hp} {v : V} : ∀ {d : D}, Rp K F H v d → RpB K F H v d
  | .list _, r => by cases r with | lst h _ t => exact ⟨_, _, rfl, h, t⟩
  | .dict _, r => by cases r with | dic h _ t => exact ⟨_, _, rfl, h, t⟩
  | .none, r => r
  | .bool _, r => r
  | .int _, r => r
  | .str _, r => r
  | .tuple _, r => by cases r with | tup h t => exact ⟨_, _, rfl, h.sq, t⟩
theorem same_rd {H H' : Hp} {a : Addr} {u : HO} (s : Same H H') (r : Rd H a u) : Rd H' a u := by
  rcases r with r | ⟨o, r⟩
  · exact .inl (s a u r)
  · exact .inr ⟨o, s a _ r⟩
theorem same_drd {H H' : Hp} {a : Addr} {kvs : List (D × V)} (s : Same H H') (r : DRd H a kvs) : DRd H' a kvs := by
  rcases r with ⟨m, r, e⟩ | ⟨m, r, e⟩ | ⟨C, dx, fs, n, r, e⟩
  · exact .inl ⟨m, same_rd s r, e⟩
  · exact .inr (.inl ⟨m, same_rd s r, e⟩)
  · exact .inr (.inr ⟨C, dx, fs, n, s a _ r, e⟩)
theorem Grow.rpB {K : PySem.W.Frag} {F F' : Addr → Prop} {H H' : Hp} (g : Grow F H F' H') {v : V} : ∀ {d : D}, RpB K F H v d → RpB K F' H' v d
  | .list _, ⟨a, xs, e, h, t⟩ => ⟨a, xs, e, same_rd g.same h, g.rpA t⟩
  | .dict _, ⟨a, xs, e, h, t⟩ => ⟨a, xs, e, same_drd g.same h, g.rpK t⟩
  | .none, r => g.rp (show Rp K F H v .none from r)
  | .bool _, r => g.rp (show Rp K F H v (.bool _) from r)
  | .int _, r => g.rp (show Rp K F H v (.int _) from r)
  | .str _, r => g.rp (show Rp K F H v (.str _) from r)
  | .tuple _, ⟨a, xs, e, h, t⟩ => ⟨a, xs, e, (g.kept (P := fun _ => True)).sqT h, g.rpA t⟩
/-- a new list or dict that nobody else has -/
def RpO (K : PySem.W.Frag) (F : Addr → Prop) (H : Hp) (a : Addr) : D → Prop
  | .list ds => ∃ xs, H a = some (.lst xs) ∧ RpA K F H xs ds
  | .dict ds => (∃ m : List (Key × V), H a = some (.dK m) ∧ RpK K F H (m.map fun p => (kD p.1, p.2)) ds) ∨
      (∃ m : List (List Key × V), H a = some (.dT m) ∧ RpK K F H (m.map fun p => (PyData.tuple (p.1.map kD), p.2)) ds) ∨
      ∃ (C dx : Addr) (fs : List (Str × V)), H a = some (.ins C dx fs) ∧ RpK K F H ((PyData.none, V.int (C : Nat)) :: (PyData.none, V.int (a : Nat)) :: fs.map fun p => (PyData.str p.1, p.2)) ds
  | _ => False
theorem RpO.b {K : PySem.W.Frag} {F : Addr → Prop} {H : Hp} {a : Addr} : ∀ {d : D}, RpO K F H a d → RpB K F H (.ref a) d
  | .list _, ⟨xs, h, t⟩ => ⟨a, xs, rfl, .inl h, t⟩
  | .dict _, .inl ⟨m, h, t⟩ => ⟨a, _, rfl, .inl ⟨m, .inl h, rfl⟩, t⟩
  | .dict _, .inr (.inl ⟨m, h, t⟩) => ⟨a, _, rfl, .inr (.inl ⟨m, .inl h, rfl⟩), t⟩
  | .dict _, .inr (.inr ⟨C, dx, fs, h, t⟩) => ⟨a, _, rfl, .inr (.inr ⟨C, dx, fs, _, h, rfl⟩), t⟩
  | .none, h => h.elim
  | .bool _, h => h.elim
  | .int _, h => h.elim
  | .str _, h => h.elim
  | .tuple _, h => h.elim
theorem RpO.there {K : PySem.W.Frag} {F : Addr → Prop} {H : Hp} {a : Addr} : ∀ {d : D}, RpO K F H a d → ∃ o, H a = some o ∧ Mut (some o)
  | .list _, ⟨xs, h, _⟩ => ⟨_, h, trivial⟩
  | .dict _, .inl ⟨m, h, _⟩ => ⟨_, h, trivial⟩
  | .dict _, .inr (.inl ⟨m, h, _⟩) => ⟨_, h, trivial⟩
  | .dict _, .inr (.inr ⟨C, dx, fs, h, _⟩) => ⟨_, h, trivial⟩
  | .none, h => h.elim
  | .bool _, h => h.elim
  | .int _, h => h.elim
  | .str _, h => h.elim
  | .tuple _, h => h.elim
/-- .. and frozen from here on -/
theorem RpO.froz {K : PySem.W.Frag} {F : Addr → Prop} {H : Hp} {a : Addr} : ∀ {d : D}, RpO K F H a d → Rp K (plus F a) H (.ref a) d
  | .list _, ⟨xs, h, t⟩ => .lst (.inl h) (.inr rfl) (t.mono (fun _ x => .inl x) Kept.refl)
  | .dict _, .inl ⟨m, h, t⟩ => .dic (.inl ⟨m, .inl h, rfl⟩) (.inr rfl) (t.mono (fun _ x => .inl x) Kept.refl)
  | .dict _, .inr (.inl ⟨m, h, t⟩) => .dic (.inr (.inl ⟨m, .inl h, rfl⟩)) (.inr rfl) (t.mono (fun _ x => .inl x) Kept.refl)
  | .dict _, .inr (.inr ⟨C, dx, fs, h, t⟩) => .dic (.inr (.inr ⟨C, dx, fs, _, h, rfl⟩)) (.inr rfl) (t.mono (fun _ x => .inl x) Kept.refl)
  | .none, h => h.elim
  | .bool _, h => h.elim
  | .int _, h => h.elim
  | .str _, h => h.elim
  | .tuple _, h => h.elim
theorem RpO.kept {K : PySem.W.Frag} {F F' : Addr → Prop} {H H' : Hp} {a : Addr} (hF : ∀ x, F x → F' x) (k : Kept F H H') (e : H' a = H a) : ∀ {d : D}, RpO K F H a d → RpO K F' H' a d
  | .list _, ⟨xs, h, t⟩ => ⟨xs, e.trans h, t.mono hF k⟩
  | .dict _, .inl ⟨m, h, t⟩ => .inl ⟨m, e.trans h, t.mono hF k⟩
  | .dict _, .inr (.inl ⟨m, h, t⟩) => .inr (.inl ⟨m, e.trans h, t.mono hF k⟩)
  | .dict _, .inr (.inr ⟨C, dx, fs, h, t⟩) => .inr (.inr ⟨C, dx, fs, e.trans h, t.mono hF k⟩)
  | .none, h => h.elim
  | .bool _, h => h.elim
  | .int _, h => h.elim
  | .str _, h => h.elim
  | .tuple _, h => h.elim

/-! ### slots -/
inductive Sl where
  | no
  | sh (d : D)
  | ow (d : D)
  /-- the script -/
  | br (ns : List Int)
  /-- an object while it is made: its class, its mark, its attributes (true: a list or dict of its own) -/
  | ob (c n : Int) (fs : List (Str × Bool × D))
abbrev Dl := List Sl
/-- the script's list: known to the object, or an object of the module -/
def ScrR (K : PySem.W.Frag) (H : Hp) (a : Addr) (ns : List Int) : Prop := SqL K H a (ns.map V.int) ∧ ∀ H', (∀ b o, H b = some o → ¬ Mut (some o) → H' b = some o) → SqL K H' a (ns.map V.int)
theorem ScrR.keep {K : PySem.W.Frag} {H H' : Hp} {a : Addr} {ns : List Int} (r : ScrR K H a ns) (k : ∀ b o, H b = some o → ¬ Mut (some o) → H' b = some o) : ScrR K H' a ns :=
  ⟨r.2 H' k, fun H2 k2 => r.2 H2 fun b o e m => k2 b o (k b o e m) m⟩
/-- attributes as an expression sees them -/
inductive FldB (K : PySem.W.Frag) (F : Addr → Prop) (H : Hp) : List (Str × V) → List (Str × Bool × D) → Prop
  | nil : FldB K F H [] []
  | sh {f : Str} {v : V} {d : D} {fv : List (Str × V)} {fs : List (Str × Bool × D)} : Rp K F H v d → FldB K F H fv fs → FldB K F H ((f, v) :: fv) ((f, false, d) :: fs)
  | ow {f : Str} {v : V} {d : D} {fv : List (Str × V)} {fs : List (Str × Bool × D)} : RpB K F H v d → FldB K F H fv fs → FldB K F H ((f, v) :: fv) ((f, true, d) :: fs)
theorem FldB.imp {K : PySem.W.Frag} {F F' : Addr → Prop} {H H' : Hp} (h1 : ∀ {v d}, Rp K F H v d → Rp K F' H' v d) (h2 : ∀ {v d}, RpB K F H v d → RpB K F' H' v d) : ∀ {fv : List (Str × V)} {fs : List (Str × Bool × D)}, FldB K F H fv fs → FldB K F' H' fv fs
  | _, _, .nil => .nil
  | _, _, .sh r t => .sh (h1 r) (FldB.imp h1 h2 t)
  | _, _, .ow r t => .ow (h2 r) (FldB.imp h1 h2 t)
/-- slot i as an expression sees it -/
def SlR (K : PySem.W.Frag) (F : Addr → Prop) (H : Hp) (σ : L2.St) (i : Nat) : Sl → Prop
  | .no => True
  | .sh d => ∃ v, σ[i]? = some (some v) ∧ Rp K F H v d
  | .ow d => ∃ v, σ[i]? = some (some v) ∧ RpB K F H v d
  | .br ns => ∃ a, σ[i]? = some (some (.ref a)) ∧ ScrR K H a ns
  | .ob c _ fs => ∃ (a C dx : Addr) (fv : List (Str × V)), σ[i]? = some (some (.ref a)) ∧ H a = some (.ins C dx fv) ∧ c = (C : Nat) ∧ FldB K F H fv fs
structure SokE (K : PySem.W.Frag) (F : Addr → Prop) (H : Hp) (σ : L2.St) (δ : Dl) : Prop where
  len : δ.length = σ.length
  dom : ∀ a, F a → H a ≠ none
  sl : ∀ i s, δ[i]? = some s → SlR K F H σ i s
theorem SokE.grow {K : PySem.W.Frag} {F F' : Addr → Prop} {H H' : Hp} {σ : L2.St} {δ : Dl} (s : SokE K F H σ δ) (g : Grow F H F' H') : SokE K F' H' σ δ where
  len := s.len
  dom := g.dom s.dom
  sl := fun i x e => by
    have h := s.sl i x e
    cases x with
    | no => trivial
    | sh d => obtain ⟨v, e, r⟩ := h; exact ⟨v, e, g.rp r⟩
    | ow d => obtain ⟨v, e, r⟩ := h; exact ⟨v, e, g.rpB r⟩
    | br ns => obtain ⟨v, e, r⟩ := h; exact ⟨v, e, r.keep fun b o e _ => g.same b o e⟩
    | ob c n fs => obtain ⟨a, C, dx, fv, e, hH, ec, r⟩ := h; exact ⟨a, C, dx, fv, e, g.same _ _ hH, ec, r.imp (fun x => g.rp x) fun x => g.rpB x⟩

/-- what an exception's way out wants, by the exception and the heap -/
abbrev XW := Xn → Hp → Prop
abbrev XW0 : XW := fun _ _ => False
/-- an outcome: P of a value, or the exception's wish -/
def ReW {α : Type} (W : XW) (F : Addr → Prop) (H : Hp) (r : Re α) (N : α → Prop) : Prop := match r with
  | .ok a => N a
  | .ex x => ∀ F' H', Grow F H F' H' → W x H'
  | .no => False

/-- what may be said of a result -/
abbrev PP := (Addr → Prop) → Hp → (Addr → Prop) → Hp → V → D → Prop
abbrev pS (K : PySem.W.Frag) : PP := fun _ _ F' H' v d => Rp K F' H' v d
abbrev pB (K : PySem.W.Frag) : PP := fun _ _ F' H' v d => RpB K F' H' v d
abbrev pF (K : PySem.W.Frag) : PP := fun _ H F' H' v d => ∃ a, v = .ref a ∧ H a = none ∧ ¬ F' a ∧ RpO K F' H' a d
def tP (K : PySem.W.Frag) (W : XW) (P : PP) (f : Dl → Re D) : TE := fun σ H Q => ∃ F δ, SokE K F H σ δ ∧ ReW W F H (f δ) fun d => ∀ v F' H', Grow F H F' H' → P F H F' H' v d → Q v H'
def tT (K : PySem.W.Frag) (W : XW) (f : Dl → Re Bool) : TT := fun σ H Q => ∃ F δ, SokE K F H σ δ ∧ ReW W F H (f δ) fun b => ∀ F' H', Grow F H F' H' → Q b H'
abbrev VP (X : Cx) (W : XW) (P : PP) (e : Expr) (f : Dl → Re D) : Prop := PE X e (tP X.K W P f)
/-- an expression: its value, frozen; maybe anyone's; new -/
abbrev VE (X : Cx) (W : XW) (e : Expr) (f : Dl → Re D) : Prop := VP X W (pS X.K) e f
abbrev VB (X : Cx) (W : XW) (e : Expr) (f : Dl → Re D) : Prop := VP X W (pB X.K) e f
abbrev VF (X : Cx) (W : XW) (e : Expr) (f : Dl → Re D) : Prop := VP X W (pF X.K) e f
abbrev VT (X : Cx) (W : XW) (e : Expr) (f : Dl → Re Bool) : Prop := PT X e (tT X.K W f)

/-- readings weaken -/
theorem PE.imp {X : Cx} {e : Expr} {t t' : TE} (h : PE X e t) (w : ∀ σ H Q, t' σ H Q → t σ H Q) : PE X e t' := ⟨fun pins s σ H Q I q => h.run pins s σ H Q I (w _ _ _ q)⟩
theorem PT.imp {X : Cx} {e : Expr} {t t' : TT} (h : PT X e t) (w : ∀ σ H Q, t' σ H Q → t σ H Q) : PT X e t' := ⟨fun pins s σ H Q I q => h.run pins s σ H Q I (w _ _ _ q)⟩
theorem PA.imp {X : Cx} {e : List Expr} {t t' : TA} (h : PA X e t) (w : ∀ σ H Q, t' σ H Q → t σ H Q) : PA X e t' := ⟨fun pos pins s σ H Q I q => h.run pos pins s σ H Q I (w _ _ _ q)⟩
theorem PS.imp {X : Cx} {e : Stmt} {t t' : TS} (h : PS X e t) (w : ∀ D σ H, t' D σ H → t D σ H) : PS X e t' := ⟨fun pins s σ H D I q => h.run pins s σ H D I (w _ _ _ q)⟩
theorem PSs.imp {X : Cx} {e : List Stmt} {t t' : TS} (h : PSs X e t) (w : ∀ D σ H, t' D σ H → t D σ H) : PSs X e t' := ⟨fun pins s σ H D I q => h.run pins s σ H D I (w _ _ _ q)⟩

theorem ReW.imp {α : Type} {W : XW} {F : Addr → Prop} {H : Hp} {r : Re α} {N N' : α → Prop} (h : ReW W F H r N) (i : ∀ a, r = .ok a → N a → N' a) : ReW W F H r N' := by
  cases r with
  | ok a => exact i a rfl h
  | ex x => exact h
  | no => exact h
theorem ReW.grow {α : Type} {W : XW} {F F' : Addr → Prop} {H H' : Hp} {r : Re α} {N N' : α → Prop} (h : ReW W F H r N) (g : Grow F H F' H') (i : ∀ a, N a → N' a) : ReW W F' H' r N' := by
  cases r with
  | ok a => exact i a h
  | ex x => exact fun F2 H2 g2 => h F2 H2 (g.trans g2)
  | no => exact h
theorem VE.b {X : Cx} {W : XW} {e : Expr} {f : Dl → Re D} (h : VE X W e f) : VB X W e f := PE.imp h fun σ H Q ⟨F, δ, s, r⟩ => ⟨F, δ, s, r.imp fun d _ q v F' H' g p => q v F' H' g p.b⟩
theorem VF.b {X : Cx} {W : XW} {e : Expr} {f : Dl → Re D} (h : VF X W e f) : VB X W e f := PE.imp h fun σ H Q ⟨F, δ, s, r⟩ => ⟨F, δ, s, r.imp fun d _ q v F' H' g ⟨a, e, _, _, o⟩ => q v F' H' g (by subst e; exact o.b)⟩
theorem VF.e {X : Cx} {W : XW} {e : Expr} {f : Dl → Re D} (h : VF X W e f) : VE X W e f := PE.imp h fun σ H Q ⟨F, δ, s, r⟩ => ⟨F, δ, s, r.imp fun d _ q v F' H' g ⟨a, e, h0, _, o⟩ => by
  subst e
  obtain ⟨u, hu, _⟩ := o.there
  exact q _ _ H' (g.freeze h0 (by rw [hu]; exact fun z => nomatch z)) o.froz⟩
end VS
end
section
namespace VS
open PySem L2

/-! ### chains of readings -/
/-- a result at (F, H): its wish -/
def Go (W : XW) (P : PP) (F : Addr → Prop) (H : Hp) (r : Re D) (Q : VK) : Prop := ReW W F H r fun d => ∀ v F' H', Grow F H F' H' → P F H F' H' v d → Q v H'
def GoT (W : XW) (F : Addr → Prop) (H : Hp) (r : Re Bool) (Q : Bool → Hp → Prop) : Prop := ReW W F H r fun b => ∀ F' H', Grow F H F' H' → Q b H'
structure PMon (P : PP) : Prop where
  mon : ∀ {F H F1 H1 F' H' v d}, Grow F H F1 H1 → P F1 H1 F' H' v d → P F H F' H' v d
theorem pS_mon {K : PySem.W.Frag} : PMon (pS K) := ⟨fun _ p => p⟩
theorem pB_mon {K : PySem.W.Frag} : PMon (pB K) := ⟨fun _ p => p⟩
theorem pF_mon {K : PySem.W.Frag} : PMon (pF K) := ⟨fun g ⟨a, e, h, f, o⟩ => ⟨a, e, g.same.free h, f, o⟩⟩
theorem Go.grow {W : XW} {P : PP} {F F1 : Addr → Prop} {H H1 : Hp} {r : Re D} {Q : VK} (hp : PMon P) (h : Go W P F H r Q) (g : Grow F H F1 H1) : Go W P F1 H1 r Q :=
  ReW.grow h g fun d q v F' H' g' p => q v F' H' (g.trans g') (hp.mon g p)
theorem GoT.grow {W : XW} {F F1 : Addr → Prop} {H H1 : Hp} {r : Re Bool} {Q : Bool → Hp → Prop} (h : GoT W F H r Q) (g : Grow F H F1 H1) : GoT W F1 H1 r Q :=
  ReW.grow h g fun d q F' H' g' => q F' H' (g.trans g')
theorem Go.at {W : XW} {P : PP} {F : Addr → Prop} {H : Hp} {r : Re D} {Q : VK} {d : D} (h : Go W P F H r Q) (e : r = .ok d) {v : V} {F' : Addr → Prop} {H' : Hp} (g : Grow F H F' H') (p : P F H F' H' v d) : Q v H' := by
  subst e; exact h v F' H' g p
theorem GoT.at {W : XW} {F : Addr → Prop} {H : Hp} {r : Re Bool} {Q : Bool → Hp → Prop} {b : Bool} (h : GoT W F H r Q) (e : r = .ok b) {F' : Addr → Prop} {H' : Hp} (g : Grow F H F' H') : Q b H' := by
  subst e; exact h F' H' g
/-- the first of two -/
theorem Go.bnd {W : XW} {P P' : PP} {F : Addr → Prop} {H : Hp} {ra : Re D} {k : D → Re D} {Q Q' : VK} (hp : PMon P) (h : Go W P F H (ra.bnd k) Q)
    (q : ∀ d v F1 H1, ra = .ok d → Grow F H F1 H1 → P' F H F1 H1 v d → Go W P F1 H1 (k d) Q → Q' v H1) : Go W P' F H ra Q' := by
  cases ra with
  | ok d => exact fun v F1 H1 g p => q d v F1 H1 rfl g p (Go.grow hp h g)
  | ex x => exact h
  | no => exact h
theorem Go.bndT {W : XW} {P' : PP} {F : Addr → Prop} {H : Hp} {ra : Re D} {k : D → Re Bool} {Q : Bool → Hp → Prop} {Q' : VK} (h : GoT W F H (ra.bnd k) Q)
    (q : ∀ d v F1 H1, ra = .ok d → Grow F H F1 H1 → P' F H F1 H1 v d → GoT W F1 H1 (k d) Q → Q' v H1) : Go W P' F H ra Q' := by
  cases ra with
  | ok d => exact fun v F1 H1 g p => q d v F1 H1 rfl g p (GoT.grow h g)
  | ex x => exact h
  | no => exact h
theorem GoT.bnd {W : XW} {P : PP} {F : Addr → Prop} {H : Hp} {ra : Re Bool} {k : Bool → Re D} {Q : VK} {Q' : Bool → Hp → Prop} (hp : PMon P) (h : Go W P F H (ra.bnd k) Q)
    (q : ∀ b F1 H1, ra = .ok b → Grow F H F1 H1 → Go W P F1 H1 (k b) Q → Q' b H1) : GoT W F H ra Q' := by
  cases ra with
  | ok d => exact fun F1 H1 g => q d F1 H1 rfl g (Go.grow hp h g)
  | ex x => exact h
  | no => exact h
theorem GoT.bndT {W : XW} {F : Addr → Prop} {H : Hp} {ra : Re Bool} {k : Bool → Re Bool} {Q : Bool → Hp → Prop} {Q' : Bool → Hp → Prop} (h : GoT W F H (ra.bnd k) Q)
    (q : ∀ b F1 H1, ra = .ok b → Grow F H F1 H1 → GoT W F1 H1 (k b) Q → Q' b H1) : GoT W F H ra Q' := by
  cases ra with
  | ok d => exact fun F1 H1 g => q d F1 H1 rfl g (GoT.grow h g)
  | ex x => exact h
  | no => exact h

section
variable {X : Cx} {W : XW} {P : PP} {e a b c : Expr} {pos : Pos} {f fa fb fc : Dl → Re D} {g : D → D → Re D}

/-! ### names, constants -/
def gS (i : Nat) (δ : Dl) : Re D := match δ[i]? with
  | some (.sh d) => .ok d
  | _ => .no
def gB (i : Nat) (δ : Dl) : Re D := match δ[i]? with
  | some (.sh d) => .ok d
  | some (.ow d) => .ok d
  | _ => .no
theorem ve_var (i : Nat) {x : Str} (h : PE X (.Name x pos) (tVar i)) : VE X W (.Name x pos) (gS i) := PE.imp h fun σ H Q ⟨F, δ, s, r⟩ => by
  unfold gS at r
  split at r
  · rename_i d e
    obtain ⟨v, ev, rv⟩ := s.sl i _ e
    exact ⟨v, ev, r v F H Grow.refl rv⟩
  · exact r.elim
theorem vb_var (i : Nat) {x : Str} (h : PE X (.Name x pos) (tVar i)) : VB X W (.Name x pos) (gB i) := PE.imp h fun σ H Q ⟨F, δ, s, r⟩ => by
  unfold gB at r
  split at r
  · rename_i d e
    obtain ⟨v, ev, rv⟩ := s.sl i _ e
    exact ⟨v, ev, r v F H Grow.refl rv.b⟩
  · rename_i d e
    obtain ⟨v, ev, rv⟩ := s.sl i _ e
    exact ⟨v, ev, r v F H Grow.refl rv⟩
  · exact r.elim
def kC (d : D) (_ : Dl) : Re D := .ok d
/-- a constant, by any value that stands for it wherever it is read -/
theorem ve_c {v : V} {d : D} (h : PE X e (tC v)) (hv : ∀ F H, Rp X.K F H v d) : VE X W e (kC d) := PE.imp h fun σ H Q ⟨F, δ, s, r⟩ => r v F H Grow.refl (hv F H)
theorem ve_int {i j} : VE X W (.Constant (.int i) j pos) (kC (.int i)) := ve_c pe_int fun _ _ => .int i
theorem ve_bl {v j} : VE X W (.Constant (.bool v) j pos) (kC (.bool v)) := ve_c pe_bl fun _ _ => .bl v
theorem ve_non {j} : VE X W (.Constant .none j pos) (kC .none) := ve_c pe_non fun _ _ => .non
theorem ve_str {x j} : VE X W (.Constant (.str x) j pos) (kC (.str x)) := ve_c pe_str fun _ _ => .str x
/-- a module's int, text -/
theorem ve_gint {x : Str} {i : Int} (hg : Gl X x) (hm : ∃ t, X.mg x = some (.int i t)) (hd : (x == ("__debug__" : Str)) = false := by decide) : VE X W (.Name x pos) (kC (.int i)) := by
  obtain ⟨t, hm⟩ := hm
  exact ve_c (pe_glob (v := .int i) hg hm ⟨t, rfl⟩ hd) fun _ _ => .int i
theorem ve_gstr {x z : Str} (hg : Gl X x) (hm : ∃ t, X.mg x = some (.str z t)) (hd : (x == ("__debug__" : Str)) = false := by decide) : VE X W (.Name x pos) (kC (.str z)) := by
  obtain ⟨t, hm⟩ := hm
  exact ve_c (pe_glob (v := .str z) hg hm ⟨t, rfl⟩ hd) fun _ _ => .str z
theorem vb_c {v : V} {d : D} (h : PE X e (tC v)) (hv : ∀ F H, RpB X.K F H v d) : VB X W e (kC d) := PE.imp h fun σ H Q ⟨F, δ, s, r⟩ => r v F H Grow.refl (hv F H)
/-- a module's tuple -/
theorem vb_gtup {x : Str} {p : Addr} {xs : List V} {ds : List D} (hg : Gl X x) (hm : X.mg x = some (.ref p)) (hv : ∀ H, SqT X.K H p xs) (hr : ∀ F H, RpA X.K F H xs ds) (hd : (x == ("__debug__" : Str)) = false := by decide) : VB X W (.Name x pos) (kC (.tuple ds)) :=
  vb_c (pe_glob (v := .ref p) hg hm rfl hd) fun F H => ⟨p, xs, rfl, hv H, hr F H⟩
theorem ve_gtup {x : Str} {p : Addr} {xs : List V} {ds : List D} (he : esc ds = true) (hg : Gl X x) (hm : X.mg x = some (.ref p)) (hv : ∀ H, SqT X.K H p xs) (hr : ∀ F H, RpA X.K F H xs ds) (hd : (x == ("__debug__" : Str)) = false := by decide) : VE X W (.Name x pos) (kC (.tuple ds)) :=
  ve_c (pe_glob (v := .ref p) hg hm rfl hd) fun F H => .tup (.inr ⟨he, hv H⟩) (hr F H)

/-! ### operators on two values -/
/-- what a two-place rule must give -/
def OpG (X : Cx) (W : XW) (P : PP) (r : R2) (g : D → D → Re D) : Prop :=
  ∀ (F : Addr → Prop) (H : Hp) (x y : V) (dx dy : D) (Q : VK), (∀ a, F a → H a ≠ none) → RpB X.K F H x dx → RpB X.K F H y dy → Go W P F H (g dx dy) Q → r x y H Q
def OpGS (X : Cx) (W : XW) (P : PP) (r : R2) (g : D → D → Re D) : Prop :=
  ∀ (F : Addr → Prop) (H : Hp) (x y : V) (dx dy : D) (Q : VK), (∀ a, F a → H a ≠ none) → Rp X.K F H x dx → Rp X.K F H y dy → Go W P F H (g dx dy) Q → r x y H Q
def d2 (g : D → D → Re D) (fa fb : Dl → Re D) (δ : Dl) : Re D := (fa δ).bnd fun x => (fb δ).bnd fun y => g x y
theorem t_op {r : R2} (hp : PMon P) (hg : OpG X W P r g) (σ : L2.St) (H : Hp) (Q : VK) (h : tP X.K W P (d2 g fa fb) σ H Q) : tOp r (tP X.K W (pB X.K) fa) (tP X.K W (pB X.K) fb) σ H Q := by
  obtain ⟨F, δ, s, h⟩ := h
  refine ⟨F, δ, s, Go.bnd hp h fun dx x F1 H1 ex g1 px h1 => ?_⟩
  refine ⟨F1, δ, s.grow g1, Go.bnd hp h1 fun dy y F2 H2 ey g2 py h2 => ?_⟩
  exact hg F2 H2 x y dx dy Q (g2.dom (g1.dom s.dom)) (g2.rpB px) py h2
theorem t_opS {r : R2} (hp : PMon P) (hg : OpGS X W P r g) (σ : L2.St) (H : Hp) (Q : VK) (h : tP X.K W P (d2 g fa fb) σ H Q) : tOp r (tP X.K W (pS X.K) fa) (tP X.K W (pS X.K) fb) σ H Q := by
  obtain ⟨F, δ, s, h⟩ := h
  refine ⟨F, δ, s, Go.bnd hp h fun dx x F1 H1 ex g1 px h1 => ?_⟩
  refine ⟨F1, δ, s.grow g1, Go.bnd hp h1 fun dy y F2 H2 ey g2 py h2 => ?_⟩
  exact hg F2 H2 x y dx dy Q (g2.dom (g1.dom s.dom)) (g2.rp px) py h2
abbrev Rel := PySem.W.Frag → (Addr → Prop) → Hp → V → D → Prop
abbrev pp (K : PySem.W.Frag) (R : Rel) : PP := fun _ _ F' H' v d => R K F' H' v d
structure RKeep (R : Rel) : Prop where
  k : ∀ {K F H F' H' v d}, Grow F H F' H' → R K F H v d → R K F' H' v d
theorem kS : RKeep Rp := ⟨fun g r => g.rp r⟩
theorem kB : RKeep RpB := ⟨fun g r => g.rpB r⟩
def OpGG (X : Cx) (W : XW) (P : PP) (RA RB : Rel) (r : R2) (g : D → D → Re D) : Prop :=
  ∀ (F : Addr → Prop) (H : Hp) (x y : V) (dx dy : D) (Q : VK), (∀ a, F a → H a ≠ none) → RA X.K F H x dx → RB X.K F H y dy → Go W P F H (g dx dy) Q → r x y H Q
theorem t_opG {RA RB : Rel} {r : R2} (hp : PMon P) (ka : RKeep RA) (hg : OpGG X W P RA RB r g) (σ : L2.St) (H : Hp) (Q : VK) (h : tP X.K W P (d2 g fa fb) σ H Q) : tOp r (tP X.K W (pp X.K RA) fa) (tP X.K W (pp X.K RB) fb) σ H Q := by
  obtain ⟨F, δ, s, h⟩ := h
  refine ⟨F, δ, s, Go.bnd hp h fun dx x F1 H1 ex g1 px h1 => ?_⟩
  refine ⟨F1, δ, s.grow g1, Go.bnd hp h1 fun dy y F2 H2 ey g2 py h2 => ?_⟩
  exact hg F2 H2 x y dx dy Q (g2.dom (g1.dom s.dom)) (ka.k g2 px) py h2
theorem vp_bin {op : Operator} {r : R2} (ho : OpR X (binaryOp op) r) (hp : PMon P) (hg : OpG X W P r g) (ha : VB X W a fa) (hb : VB X W b fb) : VP X W P (.BinOp a op b pos) (d2 g fa fb) :=
  PE.imp (pe_op ho ha hb) (t_op hp hg)
theorem vp_cmp {op : CmpOp} {r : R2} (ho : OpR X (compareOp op) r) (hp : PMon P) (hg : OpG X W P r g) (ha : VB X W a fa) (hb : VB X W b fb) (hm : behindInMarks op b = false) : VP X W P (.Compare a [op] [b] pos) (d2 g fa fb) :=
  PE.imp (pe_cmpR ho ha hb hm) (t_op hp hg)
end

/-! ### ints -/
def addI : D → D → Re D
  | .int i, .int j => .ok (.int (i + j))
  | _, _ => .no
def subI : D → D → Re D
  | .int i, .int j => .ok (.int (i - j))
  | _, _ => .no
section
variable {X : Cx} {W : XW} {F : Addr → Prop} {H : Hp} {K : PySem.W.Frag}
theorem rp_int {x : V} {i : Int} (r : RpB K F H x (.int i)) : x = .int i := by
  have r' : Rp K F H x (.int i) := r
  cases r'; rfl
theorem rp_bl {x : V} {i : Bool} (r : RpB K F H x (.bool i)) : x = .bl i := by
  have r' : Rp K F H x (.bool i) := r
  cases r'; rfl
theorem rp_str {x : V} {i : Str} (r : RpB K F H x (.str i)) : x = .str i := by
  have r' : Rp K F H x (.str i) := r
  cases r'; rfl
theorem rp_non {x : V} (r : RpB K F H x .none) : x = .non := by
  have r' : Rp K F H x .none := r
  cases r'; rfl
theorem rp_tup {x : V} {ds : List D} (r : RpB K F H x (.tuple ds)) : ∃ a xs, x = .ref a ∧ SqT K H a xs ∧ RpA K F H xs ds := r
theorem rp_tupS {x : V} {ds : List D} (r : Rp K F H x (.tuple ds)) : ∃ a xs, x = .ref a ∧ TupR K H a xs ds ∧ RpA K F H xs ds := by
  cases r with
  | tup h t => exact ⟨_, _, rfl, h, t⟩
theorem rp_lstS {x : V} {ds : List D} (r : Rp K F H x (.list ds)) : ∃ a xs, x = .ref a ∧ Rd H a (.lst xs) ∧ RpA K F H xs ds := by
  cases r with
  | lst h _ t => exact ⟨_, _, rfl, h, t⟩
end
end VS
end
section
namespace VS
open PySem L2

/-! ### new objects -/
abbrev Dom (F : Addr → Prop) (H : Hp) : Prop := ∀ a, F a → H a ≠ none
structure PNew (K : PySem.W.Frag) (P : PP) : Prop extends PMon P where
  lst : ∀ {F H p xs ds}, Dom F H → H p = none → RpA K F H xs ds → ∃ F', Grow F H F' (upd H p (.lst xs)) ∧ P F H F' (upd H p (.lst xs)) (.ref p) (.list ds)
  dK : ∀ {F : Addr → Prop} {H : Hp} {p : Addr} {m : List (Key × V)} {ds : List (D × D)}, Dom F H → H p = none → RpK K F H (m.map fun p => (kD p.1, p.2)) ds → ∃ F', Grow F H F' (upd H p (.dK m)) ∧ P F H F' (upd H p (.dK m)) (.ref p) (.dict ds)
  dT : ∀ {F : Addr → Prop} {H : Hp} {p : Addr} {m : List (List Key × V)} {ds : List (D × D)}, Dom F H → H p = none → RpK K F H (m.map fun p => (PyData.tuple (p.1.map kD), p.2)) ds → ∃ F', Grow F H F' (upd H p (.dT m)) ∧ P F H F' (upd H p (.dT m)) (.ref p) (.dict ds)
theorem notF {F : Addr → Prop} {H : Hp} {p : Addr} (dm : Dom F H) (h : H p = none) : ¬ F p := fun f => dm p f h
theorem RpO.ofL {K : PySem.W.Frag} {F : Addr → Prop} {H : Hp} {p : Addr} {xs : List V} {ds : List D} (h : H p = none) (r : RpA K F H xs ds) : RpO K F (upd H p (.lst xs)) p (.list ds) :=
  ⟨xs, upd_same, r.mono (fun _ x => x) (Kept.of (same_upd h))⟩
theorem RpO.ofK {K : PySem.W.Frag} {F : Addr → Prop} {H : Hp} {p : Addr} {m : List (Key × V)} {ds : List (D × D)} (h : H p = none) (r : RpK K F H (m.map fun p => (kD p.1, p.2)) ds) : RpO K F (upd H p (.dK m)) p (.dict ds) :=
  .inl ⟨m, upd_same, r.mono (fun _ x => x) (Kept.of (same_upd h))⟩
theorem RpO.ofT {K : PySem.W.Frag} {F : Addr → Prop} {H : Hp} {p : Addr} {m : List (List Key × V)} {ds : List (D × D)} (h : H p = none) (r : RpK K F H (m.map fun p => (PyData.tuple (p.1.map kD), p.2)) ds) : RpO K F (upd H p (.dT m)) p (.dict ds) :=
  .inr (.inl ⟨m, upd_same, r.mono (fun _ x => x) (Kept.of (same_upd h))⟩)
theorem upd_some {H : Hp} {p : Addr} {o : HO} : upd H p o p ≠ none := by rw [upd_same]; exact fun z => nomatch z
theorem pS_new {K : PySem.W.Frag} : PNew K (pS K) where
  toPMon := pS_mon
  lst := fun _ h r => ⟨_, (Grow.upd0 h).freeze h upd_some, (RpO.ofL h r).froz⟩
  dK := fun _ h r => ⟨_, (Grow.upd0 h).freeze h upd_some, (RpO.ofK h r).froz⟩
  dT := fun _ h r => ⟨_, (Grow.upd0 h).freeze h upd_some, (RpO.ofT h r).froz⟩
theorem pB_new {K : PySem.W.Frag} : PNew K (pB K) where
  toPMon := pB_mon
  lst := fun _ h r => ⟨_, (Grow.upd0 h).freeze h upd_some, (RpO.ofL h r).froz.b⟩
  dK := fun _ h r => ⟨_, (Grow.upd0 h).freeze h upd_some, (RpO.ofK h r).froz.b⟩
  dT := fun _ h r => ⟨_, (Grow.upd0 h).freeze h upd_some, (RpO.ofT h r).froz.b⟩
theorem pF_new {K : PySem.W.Frag} : PNew K (pF K) where
  toPMon := pF_mon
  lst := fun dm h r => ⟨_, Grow.upd0 h, _, rfl, h, notF dm h, RpO.ofL h r⟩
  dK := fun dm h r => ⟨_, Grow.upd0 h, _, rfl, h, notF dm h, RpO.ofK h r⟩
  dT := fun dm h r => ⟨_, Grow.upd0 h, _, rfl, h, notF dm h, RpO.ofT h r⟩
section
variable {X : Cx} {W : XW} {P : PP} {F : Addr → Prop} {H : Hp} {Q : VK} {K : PySem.W.Frag}
theorem Go.newL {ds : List D} {xs : List V} {p : Addr} (hp : PNew K P) (dm : Dom F H) (h : Go W P F H (.ok (.list ds)) Q) (hn : H p = none) (r : RpA K F H xs ds) : Q (.ref p) (upd H p (.lst xs)) := by
  obtain ⟨F', g, q⟩ := hp.lst dm hn r
  exact h _ _ _ g q
theorem Go.newT {ds : List D} {xs : List V} {p : Addr} (h : Go W (pS K) F H (.ok (.tuple ds)) Q) (hn : H p = none) (r : RpA K F H xs ds) : Q (.ref p) (upd H p (.tup xs)) :=
  h _ _ _ (Grow.upd0 hn) (.tup (.inl upd_same) (r.mono (fun _ x => x) (Kept.of (same_upd hn))))
theorem Go.val {d : D} {v : V} (h : Go W (pS K) F H (.ok d) Q) (r : Rp K F H v d) : Q v H := h v F H Grow.refl r
end

/-! ### list objects, read -/
theorem lstR {X : Cx} {pins : List (Addr × Obj)} {σ : L2.St} {H : Hp} {s : Shared} {l : Addr} {xs : List V} (I : Inv X pins σ H s) (h : Rd H l (.lst xs)) :
    xs.length ≤ sizeLine ∧ ∃ (its : List Value) (n : Nat), Vals xs its ∧ xs.length = its.length ∧ s.heap.get? l = some { cls := .type "list", data := .seq its.toArray n } := by
  obtain ⟨z, its, n, r, e⟩ := h.ok I.hok
  exact ⟨z, its, n, r, r.length, e⟩
def rCatR : R2 := fun x y H Q => ∃ l b xs zs, x = .ref l ∧ y = .ref b ∧ Rd H l (.lst xs) ∧ Rd H b (.lst zs) ∧ xs.length + zs.length ≤ sizeLine ∧ ∀ p, H p = none → Q (.ref p) (upd H p (.lst (xs ++ zs)))
section
variable {X : Cx}
theorem op_catR : OpR X (binaryOp .Add) rCatR := by
  intro pins s σ H x y v u Q I rx ry h
  obtain ⟨l, b, xs, zs, rfl, rfl, hH, hB, hz, q⟩ := h
  cases rx; cases ry
  obtain ⟨_, i1, n1, r1, l1, e1⟩ := lstR I hH
  obtain ⟨_, i2, n2, r2, l2, e2⟩ := lstR I hB
  refine PySem.P.add_list e1 e2 ?_ (by rw [List.size_toArray, List.size_toArray]; omega)
  rw [show i1.toArray ++ i2.toArray = (i1 ++ i2).toArray by simp]
  exact ⟨.ref _, _, I.lnew (t' := s.toks) (r1.append r2) (by rw [List.length_append]; omega), rfl, q _ I.fresh⟩
end

/-! ### + - * // % ** -/
def fits (n : Nat) : Bool := decide (n ≤ sizeLine)
def addD : D → D → Re D
  | .int i, .int j => .ok (.int (i + j))
  | .str x, .str y => if x.length + y.length ≤ sizeLine then .ok (.str (x ++ y)) else .no
  | .tuple xs, .tuple ys => if xs.length + ys.length ≤ sizeLine then .ok (.tuple (xs ++ ys)) else .no
  | .list xs, .list ys => if xs.length + ys.length ≤ sizeLine then .ok (.list (xs ++ ys)) else .no
  | _, _ => .no
def catL : D → D → Re D
  | .list xs, .list ys => if xs.length + ys.length ≤ sizeLine then .ok (.list (xs ++ ys)) else .no
  | _, _ => .no
def subD : D → D → Re D
  | .int i, .int j => .ok (.int (i - j))
  | _, _ => .no
instance (i j : Int) : Decidable (CMul i j) := inferInstanceAs (Decidable ((_ ∧ _) ∨ (_ ∧ _)))
instance (i j : Int) : Decidable (CDiv i j) := inferInstanceAs (Decidable (_ ∧ _))
instance (i j : Int) : Decidable (CPow i j) := inferInstanceAs (Decidable (_ ∧ _ ∧ _))
instance (i j : Int) : Decidable (CMulW i j) := inferInstanceAs (Decidable (_ < _))
def mulI : D → D → Re D
  | .int i, .int j => if CMul i j ∨ CMulW i j then .ok (.int (i * j)) else .no
  | _, _ => .no
/-- list * int -/
def repL : D → D → Re D
  | .list xs, .int k => if -(2 ^ 63) ≤ k ∧ k < 2 ^ 63 ∧ xs.length * k.toNat ≤ sizeLine then .ok (.list (List.replicate k.toNat xs).flatten) else .no
  | _, _ => .no
def fdivI : D → D → Re D
  | .int i, .int j => if CDiv i j then .ok (.int (i / j)) else .no
  | _, _ => .no
def modI : D → D → Re D
  | .int i, .int j => if 0 < j then .ok (.int (i % j)) else .no
  | _, _ => .no
def powI : D → D → Re D
  | .int i, .int j => if CPow i j then .ok (.int (i ^ j.toNat)) else .no
  | _, _ => .no
def negI : D → Re D
  | .int i => .ok (.int (-i))
  | _ => .no

def rAddAll (K : PySem.W.Frag) : R2 := fun x y H Q => ((∃ i j, x = .int i ∧ y = .int j ∧ Q (.int (i + j)) H) ∨ (∃ i j, x = .str i ∧ y = .str j ∧ i.length + j.length ≤ sizeLine ∧ Q (.str (i ++ j)) H)) ∨ rCatA K x y H Q ∨ rCatR x y H Q
section
variable {X : Cx} {W : XW} {P : PP} {a b : Expr} {pos : Pos} {fa fb : Dl → Re D}
theorem op_addAll : OpR X (binaryOp .Add) (rAddAll X.K) := OpR.or (OpR.or op_add op_add_str) (OpR.or op_catA op_catR)

theorem og_add : OpGS X W (pS X.K) (rAddAll X.K) addD := by
  intro F H x y dx dy Q dm rx ry h
  unfold addD at h
  split at h
  · exact .inl (.inl ⟨_, _, rp_int (Rp.b rx), rp_int (Rp.b ry), h.val (.int _)⟩)
  · split at h
    · rename_i hz
      exact .inl (.inr ⟨_, _, rp_str (Rp.b rx), rp_str (Rp.b ry), hz, h.val (.str _)⟩)
    · exact h.elim
  · split at h
    · rename_i xs ys hz
      obtain ⟨p, us, rfl, hp, ru⟩ := rp_tupS rx
      obtain ⟨q, ws, rfl, hq, rw'⟩ := rp_tupS ry
      have l1 := ru.length
      have l2 := rw'.length
      refine .inr (.inl ⟨p, q, us, ws, rfl, rfl, hp.sq, hq.sq, by omega, fun e => ?_, fun e e2 => ?_, fun e e2 z hz => ?_⟩)
      · subst e
        have : xs = [] := by cases ru; rfl
        subst this
        exact h.val (.tup hq rw')
      · subst e2
        have : ys = [] := by cases rw'; rfl
        subst this
        rw [List.append_nil] at h
        exact h.val (.tup hp ru)
      · exact h.newT hz (ru.append rw')
    · exact h.elim
  · split at h
    · rename_i xs ys hz
      obtain ⟨p, us, rfl, hp, ru⟩ := rp_lstS rx
      obtain ⟨q, ws, rfl, hq, rw'⟩ := rp_lstS ry
      have l1 := ru.length
      have l2 := rw'.length
      exact .inr (.inr ⟨p, q, us, ws, rfl, rfl, hp, hq, by omega, fun z hz => h.newL pS_new dm hz (ru.append rw')⟩)
    · exact h.elim
  · exact h.elim
theorem og_catL (hP : PNew X.K P) : OpG X W P rCatR catL := by
  intro F H x y dx dy Q dm rx ry h
  unfold catL at h
  split at h
  · split at h
    · rename_i xs ys hz
      obtain ⟨p, us, rfl, hp, ru⟩ := rx
      obtain ⟨q, ws, rfl, hq, rw'⟩ := ry
      have l1 := ru.length
      have l2 := rw'.length
      exact ⟨p, q, us, ws, rfl, rfl, hp, hq, by omega, fun z hz => h.newL hP dm hz (ru.append rw')⟩
    · exact h.elim
  · exact h.elim
/-- ints in, under a condition that is decided -/
theorem og_int {C : Int → Int → Prop} {k : Int → Int → Int} {g : D → D → Re D} (hg : ∀ dx dy d, g dx dy = .ok d → ∃ i j, dx = .int i ∧ dy = .int j ∧ C i j ∧ d = .int (k i j)) (hx : ∀ dx dy x, g dx dy ≠ .ex x) :
    OpG X W (pS X.K) (rI C fun i j => .int (k i j)) g := by
  intro F H x y dx dy Q dm rx ry h
  cases e : g dx dy with
  | ok d =>
    obtain ⟨i, j, rfl, rfl, c, rfl⟩ := hg _ _ _ e
    rw [e] at h
    exact ⟨i, j, rp_int rx, rp_int ry, c, h.val (.int _)⟩
  | ex z => exact (hx _ _ _ e).elim
  | no => rw [e] at h; exact h.elim
theorem ve_add (ha : VE X W a fa) (hb : VE X W b fb) : VE X W (.BinOp a .Add b pos) (d2 addD fa fb) := PE.imp (pe_op op_addAll ha hb) (t_opS pS_mon og_add)
theorem vp_catL (hP : PNew X.K P) (ha : VB X W a fa) (hb : VB X W b fb) : VP X W P (.BinOp a .Add b pos) (d2 catL fa fb) := vp_bin op_catR hP.toPMon (og_catL hP) ha hb
theorem ve_sub (ha : VB X W a fa) (hb : VB X W b fb) : VE X W (.BinOp a .Sub b pos) (d2 subD fa fb) := by
  refine vp_bin (r := rI (fun _ _ => True) fun i j => .int (i - j)) (fun pins s σ H x y v u Q I rx ry ⟨i, j, e1, e2, _, q⟩ => op_sub pins s σ H x y v u Q I rx ry ⟨i, j, e1, e2, q⟩) pS_mon (og_int (fun dx dy d e => ?_) fun dx dy x e => ?_) ha hb
  · unfold subD at e
    split at e
    · cases e; exact ⟨_, _, rfl, rfl, trivial, rfl⟩
    · cases e
  · unfold subD at e
    split at e <;> cases e
theorem op_mul2 : OpR X (binaryOp .Mult) (rI (fun i j => CMul i j ∨ CMulW i j) fun i j => .int (i * j)) := by
  intro pins s σ H x y v u Q I rx ry ⟨i, j, e1, e2, c, q⟩
  rcases c with c | c
  · exact op_mul pins s σ H x y v u Q I rx ry ⟨i, j, e1, e2, c, q⟩
  · exact op_mulW pins s σ H x y v u Q I rx ry ⟨i, j, e1, e2, c, q⟩
theorem ve_mul (ha : VB X W a fa) (hb : VB X W b fb) : VE X W (.BinOp a .Mult b pos) (d2 mulI fa fb) := by
  refine vp_bin op_mul2 pS_mon (og_int (fun dx dy d e => ?_) fun dx dy x e => ?_) ha hb
  · unfold mulI at e
    split at e
    · split at e
      · rename_i c; cases e; exact ⟨_, _, rfl, rfl, c, rfl⟩
      · cases e
    · cases e
  · unfold mulI at e
    split at e
    · split at e <;> cases e
    · cases e
theorem ve_fdiv (ha : VB X W a fa) (hb : VB X W b fb) : VE X W (.BinOp a .FloorDiv b pos) (d2 fdivI fa fb) := by
  refine vp_bin op_fdiv pS_mon (og_int (fun dx dy d e => ?_) fun dx dy x e => ?_) ha hb
  · unfold fdivI at e
    split at e
    · split at e
      · rename_i c; cases e; exact ⟨_, _, rfl, rfl, c, rfl⟩
      · cases e
    · cases e
  · unfold fdivI at e
    split at e
    · split at e <;> cases e
    · cases e
theorem ve_mod (ha : VB X W a fa) (hb : VB X W b fb) : VE X W (.BinOp a .Mod b pos) (d2 modI fa fb) := by
  refine vp_bin op_mod pS_mon (og_int (fun dx dy d e => ?_) fun dx dy x e => ?_) ha hb
  · unfold modI at e
    split at e
    · split at e
      · rename_i c; cases e; exact ⟨_, _, rfl, rfl, c, rfl⟩
      · cases e
    · cases e
  · unfold modI at e
    split at e
    · split at e <;> cases e
    · cases e
theorem ve_pow (ha : VB X W a fa) (hb : VB X W b fb) : VE X W (.BinOp a .Pow b pos) (d2 powI fa fb) := by
  refine vp_bin op_pow pS_mon (og_int (fun dx dy d e => ?_) fun dx dy x e => ?_) ha hb
  · unfold powI at e
    split at e
    · split at e
      · rename_i c; cases e; exact ⟨_, _, rfl, rfl, c, rfl⟩
      · cases e
    · cases e
  · unfold powI at e
    split at e
    · split at e <;> cases e
    · cases e
def d1 (g : D → Re D) (fa : Dl → Re D) (δ : Dl) : Re D := (fa δ).bnd g
theorem ve_neg (ha : VB X W a fa) : VE X W (.UnaryOp .USub a pos) (d1 negI fa) := PE.imp (pe_un un_neg ha) fun σ H Q ⟨F, δ, s, h⟩ => by
  refine ⟨F, δ, s, Go.bnd pS_mon h fun d v F1 H1 e g p h1 => ?_⟩
  unfold negI at h1
  split at h1
  · exact ⟨_, rp_int p, h1.val (.int _)⟩
  · exact h1.elim
end
end VS
end
section
namespace VS
open PySem L2

/-! ### reading as data -/
mutual
/-- no dict within, nested at most n deep -/
def dn : Nat → D → Bool
  | _, .dict _ => false
  | 0, .list _ => false
  | n + 1, .list xs => dnA n xs
  | 0, .tuple _ => false
  | n + 1, .tuple xs => dnA n xs
  | _, .none => true
  | _, .bool _ => true
  | _, .int _ => true
  | _, .str _ => true
def dnA : Nat → List D → Bool
  | _, [] => true
  | n, x :: xs => dn n x && dnA n xs
end
@[simp] theorem dnA_all (n : Nat) : ∀ xs : List D, dnA n xs = xs.all (dn n)
  | [] => by simp [dnA]
  | x :: xs => by simp [dnA, dnA_all n xs]
@[simp] theorem dn_int (n : Nat) (i : Int) : dn n (.int i) = true := by cases n <;> simp [dn]
@[simp] theorem dn_str (n : Nat) (i : Str) : dn n (.str i) = true := by cases n <;> simp [dn]
@[simp] theorem dn_bool (n : Nat) (i : Bool) : dn n (.bool i) = true := by cases n <;> simp [dn]
@[simp] theorem dn_none (n : Nat) : dn n .none = true := by cases n <;> simp [dn]
@[simp] theorem dn_tup (n : Nat) (xs : List D) : dn (n + 1) (.tuple xs) = xs.all (dn n) := by simp [dn]
@[simp] theorem dn_lst (n : Nat) (xs : List D) : dn (n + 1) (.list xs) = xs.all (dn n) := by simp [dn]
mutual
theorem dn_plain : ∀ (d : D) (n : Nat), dn n d = true → d.plain = true ∧ d.depth ≤ n
  | .none, n, _ => ⟨by simp [PyData.plain], by simp [PyData.depth]⟩
  | .bool _, n, _ => ⟨by simp [PyData.plain], by simp [PyData.depth]⟩
  | .int _, n, _ => ⟨by simp [PyData.plain], by simp [PyData.depth]⟩
  | .str _, n, _ => ⟨by simp [PyData.plain], by simp [PyData.depth]⟩
  | .dict _, n, h => by cases n <;> simp [dn] at h
  | .list xs, 0, h => by simp [dn] at h
  | .list xs, n + 1, h => by
    have q := dnA_plain xs n (by simpa [dn] using h)
    exact ⟨by simpa [PyData.plain] using q.1, by simp only [PyData.depth]; omega⟩
  | .tuple xs, 0, h => by simp [dn] at h
  | .tuple xs, n + 1, h => by
    have q := dnA_plain xs n (by simpa [dn] using h)
    exact ⟨by simpa [PyData.plain] using q.1, by simp only [PyData.depth]; omega⟩
theorem dnA_plain : ∀ (ds : List D) (n : Nat), dnA n ds = true → PyData.plainAll ds = true ∧ PyData.depthAll ds ≤ n
  | [], n, _ => ⟨by simp [PyData.plainAll], by simp [PyData.depthAll]⟩
  | d :: ds, n, h => by
    simp only [dnA, Bool.and_eq_true] at h
    have q1 := dn_plain d n h.1
    have q2 := dnA_plain ds n h.2
    refine ⟨by simp only [PyData.plainAll, q1.1, q2.1, Bool.and_self], ?_⟩
    simp only [PyData.depthAll]
    exact Nat.max_le.mpr ⟨q1.2, q2.2⟩
end
section
variable {K : PySem.W.Frag} {F : Addr → Prop} {H : Hp}
theorem sqL_rd {a : Addr} {xs : List V} (h : Rd H a (.lst xs)) : SqL K H a xs := .inl h
mutual
theorem Rp.dp : ∀ {v : V} {d : D}, Rp K F H v d → d.plain = true → Dp K H v d
  | _, _, .non, _ => .non
  | _, _, .bl b, _ => .bl b
  | _, _, .int i, _ => .int i
  | _, _, .str x, _ => .str x
  | _, _, .lst r _ t, h => .lst (sqL_rd r) (RpA.dp t (by simpa [PyData.plain] using h))
  | _, _, .tup r t, h => .tup r.sq (RpA.dp t (by simpa [PyData.plain] using h))
  | _, _, .dic _ _ _, h => by simp [PyData.plain] at h
theorem RpA.dp : ∀ {vs : List V} {ds : List D}, RpA K F H vs ds → PyData.plainAll ds = true → DpAll K H vs ds
  | _, _, .nil, _ => .nil
  | _, _, .cons h t, e => by
    simp only [PyData.plainAll, Bool.and_eq_true] at e
    exact .cons (Rp.dp h e.1) (RpA.dp t e.2)
end
theorem RpB.dp {v : V} : ∀ {d : D}, RpB K F H v d → d.plain = true → Dp K H v d
  | .list _, ⟨a, xs, e, h, t⟩, z => by subst e; exact .lst (sqL_rd h) (t.dp (by simpa [PyData.plain] using z))
  | .dict _, _, z => by simp [PyData.plain] at z
  | .none, r, z => Rp.dp (show Rp K F H v .none from r) z
  | .bool _, r, z => Rp.dp (show Rp K F H v (.bool _) from r) z
  | .int _, r, z => Rp.dp (show Rp K F H v (.int _) from r) z
  | .str _, r, z => Rp.dp (show Rp K F H v (.str _) from r) z
  | .tuple _, ⟨a, xs, e, h, t⟩, z => by subst e; exact .tup h (t.dp (by simpa [PyData.plain] using z))
end

/-! ### == != < -/
def eqD (x y : D) : Re D := if dn 60 x = true ∧ dn 60 y = true then .ok (.bool (PyData.eqv x y)) else .no
def neD (x y : D) : Re D := if dn 60 x = true ∧ dn 60 y = true then .ok (.bool (!PyData.eqv x y)) else .no
def isN : D → Bool
  | .none => true
  | _ => false
/-- Python's < for data alike, not None -/
def ltOk (x y : D) : Bool := dn 60 x && dn 60 y && PySem.W.alike x y && !isN x
def ltD (x y : D) : Re D := if ltOk x y = true then .ok (.bool (PySem.W.dataLt x y)) else .no
def leD (x y : D) : Re D := if ltOk x y = true then .ok (.bool (!PySem.W.dataLt y x)) else .no
def gtD (x y : D) : Re D := if ltOk x y = true then .ok (.bool (PySem.W.dataLt y x)) else .no
def geD (x y : D) : Re D := if ltOk x y = true then .ok (.bool (!PySem.W.dataLt x y)) else .no
def isND : D → Re D := fun x => .ok (.bool (isN x))
def notND : D → Re D := fun x => .ok (.bool (!isN x))

/-- a comparison of data that may be asked, by what it answers -/
def rCmpD (K : PySem.W.Frag) (ok : D → D → Bool) (k : D → D → Bool) : R2 := fun x y H Q => ∃ d e, Dp K H x d ∧ Dp K H y e ∧ ok d e = true ∧ Q (.bl (k d e)) H
def okEq (x y : D) : Bool := dn 60 x && dn 60 y
section
variable {X : Cx} {W : XW} {P : PP} {a b : Expr} {pos : Pos} {fa fb : Dl → Re D}
theorem ltOk_ok {x y : D} (h : ltOk x y = true) : x.plain = true ∧ y.plain = true ∧ PySem.W.alike x y = true ∧ x ≠ .none ∧ x.depth ≤ 60 := by
  unfold ltOk at h
  simp only [Bool.and_eq_true] at h
  obtain ⟨⟨⟨h1, h2⟩, h3⟩, h4⟩ := h
  exact ⟨(dn_plain x _ h1).1, (dn_plain y _ h2).1, h3, fun e => by subst e; simp [isN] at h4, (dn_plain x _ h1).2⟩
theorem op_data {op : CmpOp} {ok k : D → D → Bool} (rule : ∀ (s : Shared) (a b : Value) (da db : D) (as bs : List Addr) (Q : Value → Shared → Prop), Reads s.heap a da as → Reads s.heap b db bs → ok da db = true → Q (.bool (k da db)) s → wpAny (model X.prog X.w) X.A (compareOp op a b) Q X.xe s) :
    OpR X (compareOp op) (rCmpD X.K ok k) := by
  intro pins s σ H x y v u Q I rx ry ⟨d, e, hd, he, c, q⟩
  obtain ⟨as, r1⟩ := Dp.reads I d x v hd rx
  obtain ⟨bs, r2⟩ := Dp.reads I e y u he ry
  exact rule s v u d e as bs _ r1 r2 c ⟨.bl _, H, I, rfl, q⟩
theorem min60 {A : Around} {x y : D} (hu : A.units + 64 < cLine) (h : x.depth ≤ 60) : A.units + min x.depth y.depth < cLine := by
  have := Nat.min_le_left x.depth y.depth
  omega
theorem op_eqP (hu : X.A.units + 64 < cLine) : OpR X (compareOp .Eq) (rCmpD X.K okEq PyData.eqv) := op_data fun s a b da db as bs Q r1 r2 c q => by
  unfold okEq at c
  rw [Bool.and_eq_true] at c
  exact PySem.SeqAt.eq_plain r1 r2 (dn_plain _ _ c.1).1 (dn_plain _ _ c.2).1 (min60 hu (dn_plain _ _ c.1).2) q
theorem op_neP (hu : X.A.units + 64 < cLine) : OpR X (compareOp .NotEq) (rCmpD X.K okEq fun x y => !PyData.eqv x y) := op_data fun s a b da db as bs Q r1 r2 c q => by
  unfold okEq at c
  rw [Bool.and_eq_true] at c
  exact PySem.SeqAt.ne_plain r1 r2 (dn_plain _ _ c.1).1 (dn_plain _ _ c.2).1 (min60 hu (dn_plain _ _ c.1).2) q
theorem op_ltP (hu : X.A.units + 64 < cLine) : OpR X (compareOp .Lt) (rCmpD X.K ltOk PySem.W.dataLt) := op_data fun s a b da db as bs Q r1 r2 c q => by
  obtain ⟨_, _, c3, c4, c5⟩ := ltOk_ok c
  exact PySem.W.lt_data r1 r2 c3 c4 (min60 hu c5) q
theorem op_gtP (hu : X.A.units + 64 < cLine) : OpR X (compareOp .Gt) (rCmpD X.K ltOk fun x y => PySem.W.dataLt y x) := op_data fun s a b da db as bs Q r1 r2 c q => by
  obtain ⟨_, _, c3, c4, c5⟩ := ltOk_ok c
  exact PySem.W.gt_data r1 r2 c3 c4 (min60 hu c5) q
theorem op_leP (hu : X.A.units + 64 < cLine) : OpR X (compareOp .LtE) (rCmpD X.K ltOk fun x y => !PySem.W.dataLt y x) := op_data fun s a b da db as bs Q r1 r2 c q => by
  obtain ⟨_, _, c3, c4, c5⟩ := ltOk_ok c
  exact PySem.W.le_data r1 r2 c3 c4 (min60 hu c5) q
theorem op_geP (hu : X.A.units + 64 < cLine) : OpR X (compareOp .GtE) (rCmpD X.K ltOk fun x y => !PySem.W.dataLt x y) := op_data fun s a b da db as bs Q r1 r2 c q => by
  obtain ⟨_, _, c3, c4, c5⟩ := ltOk_ok c
  exact PySem.W.ge_data r1 r2 c3 c4 (min60 hu c5) q
theorem og_cmpD {ok k : D → D → Bool} {g : D → D → Re D} (hg : ∀ x y, g x y = if ok x y = true then .ok (.bool (k x y)) else .no) (hok : ∀ x y, ok x y = true → x.plain = true ∧ y.plain = true) : OpG X W (pS X.K) (rCmpD X.K ok k) g := by
  intro F H x y dx dy Q dm rx ry h
  rw [hg] at h
  split at h
  · rename_i c
    exact ⟨dx, dy, rx.dp (hok _ _ c).1, ry.dp (hok _ _ c).2, c, h.val (.bl _)⟩
  · exact h.elim
theorem okEq_plain (x y : D) (h : okEq x y = true) : x.plain = true ∧ y.plain = true := by
  unfold okEq at h
  rw [Bool.and_eq_true] at h
  exact ⟨(dn_plain _ _ h.1).1, (dn_plain _ _ h.2).1⟩
theorem okLt_plain (x y : D) (h : ltOk x y = true) : x.plain = true ∧ y.plain = true := ⟨(ltOk_ok h).1, (ltOk_ok h).2.1⟩
theorem isN_v {K : PySem.W.Frag} {F : Addr → Prop} {H : Hp} {v : V} : ∀ {d : D}, RpB K F H v d → decide (v = .non) = isN d
  | .none, r => by rw [rp_non r]; rfl
  | .bool _, r => by rw [rp_bl r]; rfl
  | .int _, r => by rw [rp_int r]; rfl
  | .str _, r => by rw [rp_str r]; rfl
  | .tuple _, r => by obtain ⟨a, _, e, _⟩ := rp_tup r; rw [e]; rfl
  | .list _, ⟨a, _, e, _⟩ => by rw [e]; rfl
  | .dict _, ⟨a, _, e, _⟩ => by rw [e]; rfl
/-- a comparison op, given the pair (rule, denotation) -/
structure CmpR (X : Cx) (W : XW) (op : CmpOp) (g : D → D → Re D) where
  r : R2
  o : OpR X (compareOp op) r
  g : OpG X W (pS X.K) r g
theorem okEq_if (x y : D) {α : Type} (a b : α) : (if dn 60 x = true ∧ dn 60 y = true then a else b) = if okEq x y = true then a else b := by
  unfold okEq
  simp only [Bool.and_eq_true]
def c_eq (hu : X.A.units + 64 < cLine) : CmpR X W .Eq eqD := ⟨_, op_eqP hu, og_cmpD (fun x y => okEq_if x y _ _) okEq_plain⟩
def c_ne (hu : X.A.units + 64 < cLine) : CmpR X W .NotEq neD := ⟨_, op_neP hu, og_cmpD (fun x y => okEq_if x y _ _) okEq_plain⟩
def c_lt (hu : X.A.units + 64 < cLine) : CmpR X W .Lt ltD := ⟨_, op_ltP hu, og_cmpD (fun x y => rfl) okLt_plain⟩
def c_le (hu : X.A.units + 64 < cLine) : CmpR X W .LtE leD := ⟨_, op_leP hu, og_cmpD (fun x y => rfl) okLt_plain⟩
def c_gt (hu : X.A.units + 64 < cLine) : CmpR X W .Gt gtD := ⟨_, op_gtP hu, og_cmpD (fun x y => rfl) okLt_plain⟩
def c_ge (hu : X.A.units + 64 < cLine) : CmpR X W .GtE geD := ⟨_, op_geP hu, og_cmpD (fun x y => rfl) okLt_plain⟩
theorem ve_cmp {op : CmpOp} {g : D → D → Re D} (c : CmpR X W op g) (ha : VB X W a fa) (hb : VB X W b fb) (hm : behindInMarks op b = false) : VE X W (.Compare a [op] [b] pos) (d2 g fa fb) := vp_cmp c.o pS_mon c.g ha hb hm
theorem ve_isN {j pos'} (ha : VB X W a fa) : VE X W (.Compare a [.Is] [.Constant .none j pos'] pos) (d1 isND fa) := PE.imp (pe_cmp (pc_isN ha) (by rfl)) fun σ H Q ⟨F, δ, s, h⟩ =>
  ⟨F, δ, s, Go.bnd pS_mon h fun d v F1 H1 e g p h1 => by rw [isN_v p]; exact h1.val (.bl _)⟩
theorem ve_notN {j pos'} (ha : VB X W a fa) : VE X W (.Compare a [.IsNot] [.Constant .none j pos'] pos) (d1 notND fa) := PE.imp (pe_cmp (pc_notN ha) (by rfl)) fun σ H Q ⟨F, δ, s, h⟩ =>
  ⟨F, δ, s, Go.bnd pS_mon h fun d v F1 H1 e g p h1 => by rw [isN_v p]; exact h1.val (.bl _)⟩

/-! ### a op b op' c -/
def asB : D → Re Bool
  | .bool b => .ok b
  | _ => .no
def chn (g g' : D → D → Re D) (fa fb fc : Dl → Re D) (δ : Dl) : Re D := (fa δ).bnd fun x => (fb δ).bnd fun y => (g x y).bnd fun z => match z with
  | .bool true => (fc δ).bnd fun w => g' y w
  | .bool false => .ok (.bool false)
  | _ => .no
theorem ve_chain {op op' : CmpOp} {g g' : D → D → Re D} {c : Expr} {fc : Dl → Re D} (k : CmpR X W op g) (k' : CmpR X W op' g') (ha : VB X W a fa) (hb : VB X W b fb) (hc : VB X W c fc)
    (hm : lastMarks [op, op'] [b, c] = false := by with_unfolding_all rfl) : VE X W (.Compare a [op, op'] [b, c] pos) (chn g g' fa fb fc) := PE.imp (pe_chain k.o k'.o ha hb hc hm) fun σ H Q ⟨F, δ, s, h⟩ => by
  refine ⟨F, δ, s, Go.bnd pS_mon h fun dx x F1 H1 ex g1 px h1 => ?_⟩
  refine ⟨F1, δ, s.grow g1, Go.bnd pS_mon h1 fun dy y F2 H2 ey g2 py h2 => ?_⟩
  have s2 := (s.grow g1).grow g2
  refine k.g F2 H2 x y dx dy _ s2.dom (g2.rpB px) py (Go.bnd pS_mon h2 fun dz z F3 H3 ez g3 pz h3 => ?_)
  cases dz with
  | bool b =>
    have e : z = .bl b := rp_bl (Rp.b pz)
    refine ⟨b, e, ?_⟩
    cases b with
    | true =>
      rw [if_pos rfl]
      refine ⟨F3, δ, s2.grow g3, Go.bnd pS_mon h3 fun dw w F4 H4 ew g4 pw h4 => ?_⟩
      exact k'.g F4 H4 y w dy dw Q ((s2.grow g3).grow g4).dom (g4.rpB (g3.rpB py)) pw h4
    | false =>
      rw [if_neg Bool.false_ne_true]
      exact h3.val (.bl false)
  | _ => exact h3.elim

/-! ### tests -/
def tB1 (fa : Dl → Re D) (δ : Dl) : Re Bool := (fa δ).bnd asB
theorem asB_ok {P : PP} {F : Addr → Prop} {H : Hp} {d : D} {W : XW} {Q : Bool → Hp → Prop} (h : GoT W F H (asB d) Q) : ∃ b, d = .bool b ∧ Q b H := by
  cases d with
  | bool b => exact ⟨b, rfl, h F H Grow.refl⟩
  | _ => exact h.elim
/-- a comparison as a test -/
theorem vt_cmp {op : CmpOp} {g : D → D → Re D} (c : CmpR X W op g) (ha : VB X W a fa) (hb : VB X W b fb) (hm : behindInMarks op b = false) : VT X W (.Compare a [op] [b] pos) (tB1 (d2 g fa fb)) := PT.imp (pt_cmpR c.o ha hb hm) fun σ H Q ⟨F, δ, s, h⟩ => by
  refine t_op pS_mon c.g σ H _ ⟨F, δ, s, ?_⟩
  refine Go.bndT h fun d v F1 H1 e g p h1 => ?_
  obtain ⟨b, rfl, q⟩ := asB_ok (P := pS X.K) h1
  exact ⟨b, rp_bl (Rp.b p), q⟩
/-- an expression whose value is a bool, as a test (he: by intro _; rfl) -/
theorem vt_val (ha : VE X W a fa) (he : ∀ whole, isTrue a X.env whole = (do let v ← whole; standAt a.pos; holding [v] (truthy v))) : VT X W a (tB1 fa) := PT.imp (pt_val ha he) fun σ H Q ⟨F, δ, s, h⟩ =>
  ⟨F, δ, s, Go.bndT h fun d v F1 H1 e g p h1 => by
    obtain ⟨b, rfl, q⟩ := asB_ok (P := pS X.K) h1
    exact ⟨b, rp_bl (Rp.b p), q⟩⟩
theorem vt_isN {j pos'} (ha : VB X W a fa) : VT X W (.Compare a [.Is] [.Constant .none j pos'] pos) (tB1 (d1 isND fa)) := PT.imp (pt_cmp (pc_isN ha) (by rfl)) fun σ H Q ⟨F, δ, s, h⟩ =>
  ⟨F, δ, s, by
    refine Go.bndT (k := fun x => asB (.bool (isN x))) (by unfold tB1 d1 at h; cases e : fa δ <;> rw [e] at h <;> exact h) fun d v F1 H1 e g p h1 => ?_
    rw [isN_v p]
    exact ⟨_, rfl, h1.at rfl Grow.refl⟩⟩
theorem vt_notN {j pos'} (ha : VB X W a fa) : VT X W (.Compare a [.IsNot] [.Constant .none j pos'] pos) (tB1 (d1 notND fa)) := PT.imp (pt_cmp (pc_notN ha) (by rfl)) fun σ H Q ⟨F, δ, s, h⟩ =>
  ⟨F, δ, s, by
    refine Go.bndT (k := fun x => asB (.bool (!isN x))) (by unfold tB1 d1 at h; cases e : fa δ <;> rw [e] at h <;> exact h) fun d v F1 H1 e g p h1 => ?_
    rw [isN_v p]
    exact ⟨_, rfl, h1.at rfl Grow.refl⟩⟩
/-- chain as a test -/
theorem vt_chain {op op' : CmpOp} {g g' : D → D → Re D} {c : Expr} {fc : Dl → Re D} (k : CmpR X W op g) (k' : CmpR X W op' g') (ha : VB X W a fa) (hb : VB X W b fb) (hc : VB X W c fc)
    (hm : lastMarks [op, op'] [b, c] = false := by with_unfolding_all rfl) : VT X W (.Compare a [op, op'] [b, c] pos) (tB1 (chn g g' fa fb fc)) := PT.imp (pt_chain k.o k'.o ha hb hc hm) fun σ H Q ⟨F, δ, s, h⟩ => by
  have h0 : Go W (pS X.K) F H (chn g g' fa fb fc δ) (fun x H' => ∃ k, x = .bl k ∧ Q k H') := Go.bndT h fun d v F1 H1 e g p h1 => by
    obtain ⟨b, rfl, q⟩ := asB_ok (P := pS X.K) h1
    exact ⟨b, rp_bl (Rp.b p), q⟩
  refine ⟨F, δ, s, Go.bnd pS_mon h0 fun dx x F1 H1 ex g1 px h1 => ?_⟩
  refine ⟨F1, δ, s.grow g1, Go.bnd pS_mon h1 fun dy y F2 H2 ey g2 py h2 => ?_⟩
  have s2 := (s.grow g1).grow g2
  refine k.g F2 H2 x y dx dy _ s2.dom (g2.rpB px) py (Go.bnd pS_mon h2 fun dz z F3 H3 ez g3 pz h3 => ?_)
  cases dz with
  | bool b =>
    have e : z = .bl b := rp_bl (Rp.b pz)
    refine ⟨b, e, ?_⟩
    cases b with
    | true =>
      rw [if_pos rfl]
      refine ⟨F3, δ, s2.grow g3, Go.bnd pS_mon h3 fun dw w F4 H4 ew g4 pw h4 => ?_⟩
      exact k'.g F4 H4 y w dy dw _ ((s2.grow g3).grow g4).dom (g4.rpB (g3.rpB py)) pw h4
    | false =>
      rw [if_neg Bool.false_ne_true]
      exact h3.val (.bl false)
  | _ => exact h3.elim

/-! ### and, or, not -/
def tAnd2 (f g : Dl → Re Bool) (δ : Dl) : Re Bool := (f δ).bnd fun b => if b = true then g δ else .ok false
def tOr2 (f g : Dl → Re Bool) (δ : Dl) : Re Bool := (f δ).bnd fun b => if b = true then .ok true else g δ
def tNot1 (f : Dl → Re Bool) (δ : Dl) : Re Bool := (f δ).bnd fun b => .ok (!b)
variable {f g : Dl → Re Bool} {rest : List Expr}
abbrev VW (X : Cx) (W : XW) (e : Expr) (f : Dl → Re Bool) : Prop := PW X e (tT X.K W f)
theorem PW.imp {e : Expr} {t t' : TT} (h : PW X e t) (w : ∀ σ H Q, t' σ H Q → t σ H Q) : PW X e t' := ⟨fun wh pins s σ H Q I q => h.run wh pins s σ H Q I (w _ _ _ q)⟩
theorem vw_and1 (h : VT X W a f) : VW X W (.BoolOp .And [a] pos) f := pw_and1 h
theorem vw_or1 (h : VT X W a f) : VW X W (.BoolOp .Or [a] pos) f := pw_or1 h
theorem vw_and (h : VT X W a f) (h' : VW X W (.BoolOp .And (b :: rest) pos) g) : VW X W (.BoolOp .And (a :: b :: rest) pos) (tAnd2 f g) := PW.imp (pw_and h h') fun σ H Q ⟨F, δ, s, q⟩ =>
  ⟨F, δ, s, GoT.bndT q fun c F1 H1 e g1 h1 => by
    cases c with
    | true => rw [if_pos rfl] at h1 ⊢; exact ⟨F1, δ, s.grow g1, h1⟩
    | false => rw [if_neg Bool.false_ne_true] at h1 ⊢; exact h1.at rfl Grow.refl⟩
theorem vw_or (h : VT X W a f) (h' : VW X W (.BoolOp .Or (b :: rest) pos) g) : VW X W (.BoolOp .Or (a :: b :: rest) pos) (tOr2 f g) := PW.imp (pw_or h h') fun σ H Q ⟨F, δ, s, q⟩ =>
  ⟨F, δ, s, GoT.bndT q fun c F1 H1 e g1 h1 => by
    cases c with
    | true => rw [if_pos rfl] at h1 ⊢; exact h1.at rfl Grow.refl
    | false => rw [if_neg Bool.false_ne_true] at h1 ⊢; exact ⟨F1, δ, s.grow g1, h1⟩⟩
theorem vt_w {e : Expr} (h : VW X W e f) : VT X W e f := h.pt
theorem vt_not (h : VT X W a f) : VT X W (.UnaryOp .Not a pos) (tNot1 f) := PT.imp (pt_not h) fun σ H Q ⟨F, δ, s, q⟩ =>
  ⟨F, δ, s, GoT.bndT q fun c F1 H1 e g1 h1 => h1.at rfl Grow.refl⟩
/-- .. as values -/
def dAnd (fa fb : Dl → Re D) (δ : Dl) : Re D := (fa δ).bnd fun x => (asB x).bnd fun b => if b = true then fb δ else .ok (.bool false)
def dOr (fa fb : Dl → Re D) (δ : Dl) : Re D := (fa δ).bnd fun x => (asB x).bnd fun b => if b = true then .ok (.bool true) else fb δ
def dNot : D → Re D := fun x => (asB x).bnd fun b => .ok (.bool (!b))
theorem ve_one {op : BoolOp} (h : VE X W a fa) : VE X W (.BoolOp op [a] pos) fa := pe_one h
theorem ve_and (h : VE X W a fa) (h' : VE X W (.BoolOp .And (b :: rest) pos) fb) : VE X W (.BoolOp .And (a :: b :: rest) pos) (dAnd fa fb) := PE.imp (pe_and h h') fun σ H Q ⟨F, δ, s, q⟩ =>
  ⟨F, δ, s, Go.bnd pS_mon q fun d v F1 H1 e g1 p h1 => by
    cases d with
    | bool c =>
      refine ⟨c, rp_bl (Rp.b p), ?_⟩
      cases c with
      | true => rw [if_pos rfl]; exact ⟨F1, δ, s.grow g1, h1⟩
      | false => rw [if_neg Bool.false_ne_true]; exact h1.val (.bl false)
    | _ => exact h1.elim⟩
theorem ve_or (h : VE X W a fa) (h' : VE X W (.BoolOp .Or (b :: rest) pos) fb) : VE X W (.BoolOp .Or (a :: b :: rest) pos) (dOr fa fb) := PE.imp (pe_or h h') fun σ H Q ⟨F, δ, s, q⟩ =>
  ⟨F, δ, s, Go.bnd pS_mon q fun d v F1 H1 e g1 p h1 => by
    cases d with
    | bool c =>
      refine ⟨c, rp_bl (Rp.b p), ?_⟩
      cases c with
      | true => rw [if_pos rfl]; exact h1.val (.bl true)
      | false => rw [if_neg Bool.false_ne_true]; exact ⟨F1, δ, s.grow g1, h1⟩
    | _ => exact h1.elim⟩
theorem ve_not (h : VE X W a fa) : VE X W (.UnaryOp .Not a pos) (d1 dNot fa) := PE.imp (pe_not h) fun σ H Q ⟨F, δ, s, q⟩ =>
  ⟨F, δ, s, Go.bnd pS_mon q fun d v F1 H1 e g1 p h1 => by
    cases d with
    | bool c => exact ⟨c, rp_bl (Rp.b p), h1.val (.bl _)⟩
    | _ => exact h1.elim⟩
/-- a if t else b -/
def dIf (f : Dl → Re Bool) (fa fb : Dl → Re D) (δ : Dl) : Re D := (f δ).bnd fun b => if b = true then fa δ else fb δ
theorem vp_if {c : Expr} (hP : PMon P) (hc : VT X W c f) (ha : VP X W P a fa) (hb : VP X W P b fb) : VP X W P (.IfExp c a b pos) (dIf f fa fb) := PE.imp (pe_ifExp hc ha hb) fun σ H Q ⟨F, δ, s, q⟩ =>
  ⟨F, δ, s, GoT.bnd hP q fun c F1 H1 e g1 h1 => by
    cases c with
    | true => rw [if_pos rfl] at h1 ⊢; exact ⟨F1, δ, s.grow g1, h1⟩
    | false => rw [if_neg Bool.false_ne_true] at h1 ⊢; exact ⟨F1, δ, s.grow g1, h1⟩⟩
end
end VS
end
section
namespace VS
open PySem L2

/-! ### keys -/
def keyOf : D → Option Key
  | .int i => some (.inl i)
  | .str x => some (.inr x)
  | _ => none
def keysOf : List D → Option (List Key)
  | [] => some []
  | d :: ds => match keyOf d, keysOf ds with
    | some k, some ks => some (k :: ks)
    | _, _ => none
/-- an int or a text: false; a flat tuple of such (not one of the module's own): true -/
def kindK : D → Option Bool
  | .int _ => some false
  | .str _ => some false
  | .tuple ks => if (keysOf ks).isSome = true ∧ esc ks = false then some true else none
  | _ => none
/-- the key goes with the dict's keys -/
def kfit (kvs : List (D × D)) (k : D) : Bool := match kvs with
  | [] => (kindK k).isSome
  | (j, _) :: _ => (kindK k).isSome && kindK j == kindK k
def lkD (kvs : List (D × D)) (k : D) : Option D := (kvs.find? fun p => PyData.eqv p.1 k).map (·.2)
theorem keyOf_kD {d : D} {k : Key} (h : keyOf d = some k) : d = kD k := by
  cases d <;> simp [keyOf] at h <;> subst h <;> rfl
theorem keyOf_kD' (k : Key) : keyOf (kD k) = some k := by cases k <;> rfl
theorem keysOf_map : ∀ {ds : List D} {ks : List Key}, keysOf ds = some ks → ds = ks.map kD
  | [], ks, h => by simp [keysOf] at h; subst h; rfl
  | d :: ds, ks, h => by
    unfold keysOf at h
    cases e1 : keyOf d with
    | none => rw [e1] at h; simp at h
    | some k =>
      cases e2 : keysOf ds with
      | none => rw [e1, e2] at h; simp at h
      | some ks' =>
        rw [e1, e2] at h
        simp at h
        subst h
        rw [keyOf_kD e1, keysOf_map e2]
        rfl
theorem keysOf_kD : ∀ (ks : List Key), keysOf (ks.map kD) = some ks
  | [] => rfl
  | k :: ks => by
    show keysOf (kD k :: ks.map kD) = _
    unfold keysOf
    rw [keyOf_kD', keysOf_kD ks]
theorem eqv_kD (j k : Key) : PyData.eqv (kD j) (kD k) = decide (j = k) := by
  cases j with
  | inl i =>
    cases k with
    | inl i' =>
      show PyData.eqv (.int i) (.int i') = _
      simp [PyData.eqv]
      rw [Bool.eq_iff_iff]
      simp
    | inr x =>
      show PyData.eqv (.int i) (.str x) = _
      simp [PyData.eqv]
  | inr y =>
    cases k with
    | inl i' =>
      show PyData.eqv (.str y) (.int i') = _
      simp [PyData.eqv]
    | inr x =>
      show PyData.eqv (.str y) (.str x) = _
      simp [PyData.eqv]
      rw [Bool.eq_iff_iff]
      simp
theorem eqvAll_kD : ∀ (js ks : List Key), PyData.eqvAll (js.map kD) (ks.map kD) = decide (js = ks)
  | [], [] => by simp [PyData.eqvAll]
  | [], _ :: _ => by simp [PyData.eqvAll]
  | _ :: _, [] => by simp [PyData.eqvAll]
  | j :: js, k :: ks => by
    simp only [List.map_cons, PyData.eqvAll, eqv_kD, eqvAll_kD js ks]
    rw [Bool.eq_iff_iff]
    simp
theorem eqv_tup (js ks : List Key) : PyData.eqv (.tuple (js.map kD)) (.tuple (ks.map kD)) = decide (js = ks) := by
  simp only [PyData.eqv, eqvAll_kD]

section
variable {K : PySem.W.Frag} {F : Addr → Prop} {H : Hp}
/-- an optional value stands for an optional datum -/
def OptR (K : PySem.W.Frag) (F : Addr → Prop) (H : Hp) : Option V → Option D → Prop
  | some v, some d => Rp K F H v d
  | none, none => True
  | _, _ => False
theorem lk_K : ∀ {m : List (Key × V)} {ds : List (D × D)} (k : Key), RpK K F H (m.map fun p => (kD p.1, p.2)) ds → OptR K F H (valV m k) (lkD ds (kD k))
  | [], ds, k, r => by
    cases r
    trivial
  | (j, v) :: m, ds, k, r => by
    cases r with
    | cons h t =>
      unfold lkD
      rw [List.find?_cons]
      dsimp only
      rw [eqv_kD]
      by_cases e : j = k
      · rw [valV_pos (p := (j, v)) e, decide_eq_true e]
        exact h
      · rw [valV_neg (p := (j, v)) e, decide_eq_false e]
        exact lk_K k t
theorem lk_T : ∀ {m : List (List Key × V)} {ds : List (D × D)} (k : List Key), RpK K F H (m.map fun p => (PyData.tuple (p.1.map kD), p.2)) ds → OptR K F H (valV m k) (lkD ds (.tuple (k.map kD)))
  | [], ds, k, r => by
    cases r
    trivial
  | (j, v) :: m, ds, k, r => by
    cases r with
    | cons h t =>
      unfold lkD
      rw [List.find?_cons]
      dsimp only
      rw [eqv_tup]
      by_cases e : j = k
      · rw [valV_pos (p := (j, v)) e, decide_eq_true e]
        exact h
      · rw [valV_neg (p := (j, v)) e, decide_eq_false e]
        exact lk_T k t
theorem kindK_tup (ks : List D) : kindK (.tuple ks) = if (keysOf ks).isSome = true ∧ esc ks = false then some true else none := rfl
/-- what stands for a key -/
theorem key_K {y : V} {d : D} (r : Rp K F H y d) (h : kindK d = some false) : ∃ k, y = kV k ∧ d = kD k := by
  cases r with
  | int i => exact ⟨.inl i, rfl, rfl⟩
  | str x => exact ⟨.inr x, rfl, rfl⟩
  | tup _ _ => simp [kindK] at h
  | _ => simp [kindK] at h
theorem rpA_kV : ∀ {xs : List V} {ks : List Key}, RpA K F H xs (ks.map kD) → xs = ks.map kV
  | _, [], r => by cases r; rfl
  | _, .inl i :: ks, r => by
    cases r with
    | cons h t =>
      have h' : Rp K F H _ (.int i) := h
      cases h'
      rw [rpA_kV t]
      rfl
  | _, .inr x :: ks, r => by
    cases r with
    | cons h t =>
      have h' : Rp K F H _ (.str x) := h
      cases h'
      rw [rpA_kV t]
      rfl
theorem rpA_ofK : ∀ (ks : List Key), RpA K F H (ks.map kV) (ks.map kD)
  | [] => .nil
  | .inl i :: ks => .cons (.int i) (rpA_ofK ks)
  | .inr x :: ks => .cons (.str x) (rpA_ofK ks)
theorem key_T {y : V} {d : D} (r : Rp K F H y d) (h : kindK d = some true) : ∃ (a : Addr) (ks : List Key), y = .ref a ∧ H a = some (.tup (ks.map kV)) ∧ d = .tuple (ks.map kD) := by
  cases r with
  | @tup a xs ds t ra =>
    rw [kindK_tup] at h
    split at h
    · rename_i c
      obtain ⟨c1, c2⟩ := c
      obtain ⟨ks, e⟩ := Option.isSome_iff_exists.mp c1
      have em := keysOf_map e
      subst em
      rcases t with t | t
      · exact ⟨a, ks, rfl, by rw [t, rpA_kV ra], rfl⟩
      · rw [c2] at t; exact absurd t.1 Bool.false_ne_true
    · cases h
  | _ => simp [kindK] at h
theorem kindK_K (k : Key) : kindK (kD k) = some false := by cases k <;> rfl
/-- an empty dict, asked by a key of the other sort -/
def Mism (H : Hp) (a : Addr) (y : V) : Prop := (Rd H a (.dT []) ∧ ∃ k : Key, y = kV k) ∨ (Rd H a (.dK []) ∧ ∃ (b : Addr) (ks : List Key), y = .ref b ∧ H b = some (.tup (ks.map kV)))
theorem kfit_kind {ds : List (D × D)} {k : D} (hf : kfit ds k = true) : ∃ b, kindK k = some b := by
  unfold kfit at hf
  split at hf
  · exact Option.isSome_iff_exists.mp hf
  · rw [Bool.and_eq_true] at hf
    exact Option.isSome_iff_exists.mp hf.1
theorem kindK_notF (ks : List D) : kindK (.tuple ks) ≠ some false := by
  rw [kindK_tup]
  split <;> simp
/-- the look-up by the hand layer -/
theorem dget_of {a : Addr} {kvs : List (D × V)} {ds : List (D × D)} {y : V} {k : D} (hd : DRd H a kvs) (rk : RpK K F H kvs ds) (ry : Rp K F H y k) (hf : kfit ds k = true) :
    (∃ o, DGet H a y o ∧ OptR K F H o (lkD ds k)) ∨ (ds = [] ∧ Mism H a y) := by
  obtain ⟨b, hb⟩ := kfit_kind hf
  rcases hd with ⟨m, hr, rfl⟩ | ⟨m, hr, rfl⟩ | ⟨C, dx, fs, _, hr, rfl⟩
  rotate_left 2
  · exfalso
    cases rk with
    | cons h t =>
      unfold kfit at hf
      rw [Bool.and_eq_true, hb] at hf
      exact absurd hf.2 (by cases b <;> decide)
  · cases b with
    | false =>
      obtain ⟨k', rfl, rfl⟩ := key_K ry hb
      exact .inl ⟨_, .inl ⟨m, k', hr, rfl, rfl⟩, lk_K k' rk⟩
    | true =>
      right
      cases m with
      | nil =>
        cases rk
        obtain ⟨c, ks, e, hc, _⟩ := key_T ry hb
        exact ⟨rfl, .inr ⟨hr, c, ks, e, hc⟩⟩
      | cons p m =>
        exfalso
        cases rk with
        | cons h t =>
          unfold kfit at hf
          rw [Bool.and_eq_true, hb, kindK_K] at hf
          exact absurd hf.2 (by decide)
  · cases b with
    | true =>
      obtain ⟨c, ks, rfl, hc, rfl⟩ := key_T ry hb
      exact .inl ⟨_, .inr ⟨m, ks, c, hr, rfl, hc, rfl⟩, lk_T ks rk⟩
    | false =>
      right
      cases m with
      | nil =>
        cases rk
        obtain ⟨k', e, _⟩ := key_K ry hb
        exact ⟨rfl, .inl ⟨hr, k', e⟩⟩
      | cons p m =>
        exfalso
        cases rk with
        | cons h t =>
          unfold kfit at hf
          rw [Bool.and_eq_true, hb] at hf
          exact kindK_notF _ (eq_of_beq hf.2)
end

/-! ### a[i] -/
def ixD : D → D → Re D
  | .list xs, .int i => ofO (atI xs i)
  | .tuple xs, .int i => ofO (atI xs i)
  | .str z, .int i => if z.length ≤ sizeLine then (match atI z.cps.toList i with | some c => .ok (.str ⟨#[c]⟩) | none => .no) else .no
  | .dict kvs, k => if kfit kvs k = true then ofO (lkD kvs k) else .no
  | _, _ => .no
def rIxDict : R2 := fun x y H Q => ∃ a v, x = .ref a ∧ DGet H a y (some v) ∧ Q v H
def rIxAll (K : PySem.W.Frag) : R2 := fun x y H Q => rIx K x y H Q ∨ rIxDict x y H Q
section
variable {X : Cx} {W : XW} {P : PP} {a b : Expr} {pos : Pos} {fa fb : Dl → Re D}
theorem ix_dict (hu : X.A.units + 1 < cLine) : IxR X rIxDict := by
  intro value slice pins s σ H x y v u Q I rx ry ⟨a, w, ex, g, q⟩ hs
  subst ex
  cases rx
  exact PyProof.Rows.tail_any (dict_typeIs I g) PySem.F.slot_dict_getitem.lookup (d_getItem hu I g ry fun w' s' I' r' => ⟨w, H, I', r', q⟩) hs
theorem ix_all (hu : X.A.units + 1 < cLine) : IxR X (rIxAll X.K) := ix_seq.or (ix_dict hu)
theorem at_rp {K : PySem.W.Frag} {F : Addr → Prop} {H : Hp} {vs : List V} {ds : List D} {i : Int} {d : D} (r : RpA K F H vs ds) (h : atI ds i = some d) : ∃ v, atI vs i = some v ∧ Rp K F H v d := by
  unfold atI at h ⊢
  rw [r.length]
  cases e : ixN ds.length i with
  | none => rw [e] at h; cases h
  | some j =>
    rw [e] at h
    obtain ⟨v, ev, rv⟩ := r.get (show ds[j]? = some d from h)
    exact ⟨v, ev, rv⟩
theorem og_ix : OpGG X W (pS X.K) RpB Rp (rIxAll X.K) ixD := by
  intro F H x y dx dy Q dm rx ry h
  unfold ixD at h
  split at h
  · rename_i xs i
    obtain ⟨a, vs, rfl, hr, ra⟩ := rx
    cases e : atI xs i with
    | none => rw [e] at h; exact h.elim
    | some d =>
      rw [e] at h
      obtain ⟨v, ev, rv⟩ := at_rp ra e
      exact .inl (.inl ⟨a, vs, i, v, rfl, rp_int (Rp.b ry), sqL_rd hr, ev, Go.val h rv⟩)
  · rename_i xs i
    obtain ⟨a, vs, rfl, hr, ra⟩ := rx
    cases e : atI xs i with
    | none => rw [e] at h; exact h.elim
    | some d =>
      rw [e] at h
      obtain ⟨v, ev, rv⟩ := at_rp ra e
      exact .inl (.inr (.inl ⟨a, vs, i, v, rfl, rp_int (Rp.b ry), hr, ev, Go.val h rv⟩))
  · rename_i z i
    split at h
    · rename_i hz
      split at h
      · rename_i c ec
        exact .inl (.inr (.inr ⟨z, i, c, rp_str rx, rp_int (Rp.b ry), hz, ec, h.val (.str _)⟩))
      · exact h.elim
    · exact h.elim
  · rename_i kvs
    split at h
    · rename_i hf
      obtain ⟨a, m, rfl, hd, rk⟩ := rx
      rcases dget_of hd rk ry hf with ⟨o, g, ro⟩ | e
      · cases e : lkD kvs dy with
        | none => rw [e] at h; exact h.elim
        | some d =>
          rw [e] at h ro
          cases o with
          | none => exact ro.elim
          | some v => exact .inr ⟨a, v, rfl, g, Go.val h ro⟩
      · rw [e.1] at h
        exact h.elim
    · exact h.elim
  · exact h.elim
theorem ve_ix (hu : X.A.units + 1 < cLine) (ha : VB X W a fa) (hb : VE X W b fb) (hs : PlainIx b) : VE X W (.Subscript a b pos) (d2 ixD fa fb) := PE.imp (pe_ix (ix_all hu) ha hb hs) (t_opG pS_mon kB og_ix)
end

/-! ### lists of arguments -/
def argsF : List (Dl → Re D) → Dl → Re (List D)
  | [], _ => .ok []
  | f :: fs, δ => (f δ).bnd fun d => (argsF fs δ).bnd fun ds => .ok (d :: ds)
inductive RA (R : Rel) (K : PySem.W.Frag) (F : Addr → Prop) (H : Hp) : List V → List D → Prop
  | nil : RA R K F H [] []
  | cons {v vs d ds} : R K F H v d → RA R K F H vs ds → RA R K F H (v :: vs) (d :: ds)
theorem RA.a {K : PySem.W.Frag} {F : Addr → Prop} {H : Hp} : ∀ {vs : List V} {ds : List D}, RA Rp K F H vs ds → RpA K F H vs ds
  | _, _, .nil => .nil
  | _, _, .cons h t => .cons h t.a
/-- the wish behind a list of arguments -/
def GoA (W : XW) (R : Rel) (K : PySem.W.Frag) (F : Addr → Prop) (H : Hp) (r : Re (List D)) (Q : List V → Hp → Prop) : Prop := ReW W F H r fun ds => ∀ vs F' H', Grow F H F' H' → RA R K F' H' vs ds → Q vs H'
def tAs (K : PySem.W.Frag) (W : XW) (R : Rel) (f : Dl → Re (List D)) : TA := fun σ H Q => ∃ F δ, SokE K F H σ δ ∧ GoA W R K F H (f δ) Q
abbrev VA (X : Cx) (W : XW) (R : Rel) (es : List Expr) (f : Dl → Re (List D)) : Prop := PA X es (tAs X.K W R f)
section
variable {X : Cx} {W : XW} {P : PP} {R : Rel} {e : Expr} {es : List Expr} {pos : Pos} {f : Dl → Re D} {fs : List (Dl → Re D)}
theorem va_nil : VA X W R [] (argsF []) := PA.imp pa_nil fun σ H Q ⟨F, δ, s, h⟩ => h [] F H Grow.refl .nil
theorem va_cons (kR : RKeep R) (h : VP X W (pp X.K R) e f) (hr : VA X W R es (argsF fs)) (hs : starEach (e :: es) X.env = (false, eval e X.env) :: starEach es X.env := by rfl) : VA X W R (e :: es) (argsF (f :: fs)) :=
  PA.imp (pa_cons h hr hs) fun σ H Q ⟨F, δ, s, q⟩ => by
    refine ⟨F, δ, s, ?_⟩
    change GoA W R X.K F H ((f δ).bnd fun d => (argsF fs δ).bnd fun ds => .ok (d :: ds)) Q at q
    cases ef : f δ with
    | no => rw [ef] at q; exact q
    | ex x => rw [ef] at q; exact q
    | ok d =>
      rw [ef] at q
      intro v F1 H1 g1 rv
      refine ⟨F1, δ, s.grow g1, ?_⟩
      change GoA W R X.K F H ((argsF fs δ).bnd fun ds => .ok (d :: ds)) Q at q
      cases eg : argsF fs δ with
      | no => rw [eg] at q; exact q
      | ex x => rw [eg] at q; exact fun F2 H2 g2 => q F2 H2 (g1.trans g2)
      | ok ds =>
        rw [eg] at q
        intro vs F2 H2 g2 ra
        exact q (v :: vs) F2 H2 (g1.trans g2) (.cons (kR.k g2 rv) ra)
/-- what follows a list of arguments -/
theorem GoA.bnd {F : Addr → Prop} {H : Hp} {ra : Re (List D)} {k : List D → Re D} {Q : VK} {Q' : List V → Hp → Prop} (hp : PMon P) (h : Go W P F H (ra.bnd k) Q)
    (q : ∀ ds vs F1 H1, ra = .ok ds → Grow F H F1 H1 → RA R X.K F1 H1 vs ds → Go W P F1 H1 (k ds) Q → Q' vs H1) : GoA W R X.K F H ra Q' := by
  cases ra with
  | ok d => exact fun v F1 H1 g p => q d v F1 H1 rfl g p (Go.grow hp h g)
  | ex x => exact h
  | no => exact h

/-! ### displays -/
def tupD (ds : List D) : Re D := if ds.length ≤ sizeLine then .ok (.tuple ds) else .no
def lstD (ds : List D) : Re D := if ds.length ≤ sizeLine then .ok (.list ds) else .no
def dA (fs : Dl → Re (List D)) (g : List D → Re D) (δ : Dl) : Re D := (fs δ).bnd g
theorem ve_tup {x1} {fs : Dl → Re (List D)} (h : VA X W Rp es fs) : VE X W (.Tuple es x1 pos) (dA fs tupD) := PE.imp (pe_tup h) fun σ H Q ⟨F, δ, s, q⟩ =>
  ⟨F, δ, s, GoA.bnd (X := X) pS_mon q fun ds vs F1 H1 e g r h1 => by
    unfold tupD at h1
    split at h1
    · rename_i hz
      exact ⟨by rw [r.a.length]; exact hz, fun p hn => h1.newT hn r.a⟩
    · exact h1.elim⟩
theorem vp_lst {fs : Dl → Re (List D)} (hP : PNew X.K P) (h : VA X W Rp es fs) : VP X W P (.List es pos) (dA fs lstD) := PE.imp (pe_lst h) fun σ H Q ⟨F, δ, s, q⟩ =>
  ⟨F, δ, s, GoA.bnd (X := X) hP.toPMon q fun ds vs F1 H1 e g r h1 => by
    unfold lstD at h1
    split at h1
    · rename_i hz
      exact ⟨by rw [r.a.length]; exact hz, fun p hn => h1.newL hP (g.dom s.dom) hn r.a⟩
    · exact h1.elim⟩
theorem vp_dict (hP : PNew X.K P) : VP X W P (.Dict [] [] pos) (kC (.dict [])) := PE.imp pe_dnewK fun σ H Q ⟨F, δ, s, q⟩ p hn => by
  obtain ⟨F', g, pp⟩ := hP.dK (m := []) s.dom hn .nil
  exact q _ _ _ g pp

/-! ### calls of builtins -/
/-- a builtin by values: what it must give -/
def CallG (X : Cx) (W : XW) (P : PP) (R : Rel) (r : List V → Hp → VK → Prop) (g : List D → Re D) : Prop :=
  ∀ (F : Addr → Prop) (H : Hp) (vs : List V) (ds : List D) (Q : VK), Dom F H → RA R X.K F H vs ds → Go W P F H (g ds) Q → r vs H Q
theorem t_call {r : List V → Hp → VK → Prop} {g : List D → Re D} {fs : Dl → Re (List D)} (hp : PMon P) (hg : CallG X W P R r g) (σ : L2.St) (H : Hp) (Q : VK) (h : tP X.K W P (dA fs g) σ H Q) : tCB r (tAs X.K W R fs) σ H Q := by
  obtain ⟨F, δ, s, q⟩ := h
  exact ⟨F, δ, s, GoA.bnd (X := X) hp q fun ds vs F1 H1 e g1 r1 h1 => hg F1 H1 vs ds Q (g1.dom s.dom) r1 h1⟩
end
end VS
end
section
namespace VS
open PySem L2

/-! ### isinstance -/
inductive Ty where
  | tInt | tBool | tStr | tTuple | tList | tDict
def Ty.nm : Ty → String
  | .tInt => "int" | .tBool => "bool" | .tStr => "str" | .tTuple => "tuple" | .tList => "list" | .tDict => "dict"
def tyN : D → String
  | .none => "NoneType" | .bool _ => "bool" | .int _ => "int" | .str _ => "str" | .tuple _ => "tuple" | .list _ => "list" | .dict _ => "dict"
def isT : Ty → D → Bool
  | .tInt, .int _ => true
  | .tInt, .bool _ => true
  | .tBool, .bool _ => true
  | .tStr, .str _ => true
  | .tTuple, .tuple _ => true
  | .tList, .list _ => true
  | .tDict, .dict _ => true
  | _, _ => false
/-- no object -/
def okT : D → Bool
  | .dict kvs => !isOb kvs
  | _ => true
def isiD (T : Ty) (d : D) : Re D := if okT d = true then .ok (.bool (isT T d)) else .no
theorem kitB_all : (["NoneType", "bool", "int", "str", "tuple", "list", "dict"].map fun a => ["int", "bool", "str", "tuple", "list", "dict"].map fun b => kitB a b) =
    [[some false, some false, some false, some false, some false, some false], [some true, some true, some false, some false, some false, some false], [some true, some false, some false, some false, some false, some false],
     [some false, some false, some true, some false, some false, some false], [some false, some false, some false, some true, some false, some false], [some false, some false, some false, some false, some true, some false],
     [some false, some false, some false, some false, some false, some true]] := by decide +kernel
theorem kitB_isT (T : Ty) (d : D) : kitB (tyN d) T.nm = some (isT T d) := by
  have h := kitB_all
  simp only [List.map_cons, List.map_nil, List.cons.injEq, and_true] at h
  cases T <;> cases d <;> simp only [tyN, Ty.nm, isT, h]
section
variable {X : Cx} {pins : List (Addr × Obj)} {σ : L2.St} {H : Hp} {s : Shared} {F : Addr → Prop}
theorem kit_rp {v : V} {u : Value} {d : D} (I : Inv X pins σ H s) (r : RelV v u) (rp : RpB X.K F H v d) (ok : okT d = true) : ∃ P : Heap → Prop, PySem.W.KitX X.K u (.type (tyN d)) P ∧ P s.heap ∧ u ≠ .builtin "__main__.__loader__#opaque" := by
  cases d with
  | none => rw [rp_non rp] at r; exact kit_of I r (.base .non)
  | bool b => rw [rp_bl rp] at r; exact kit_of I r (.base (.bl b))
  | int i => rw [rp_int rp] at r; exact kit_of I r (.base (.int i))
  | str x => rw [rp_str rp] at r; exact kit_of I r (.base (.str x))
  | list ds =>
    obtain ⟨a, xs, rfl, h, _⟩ := rp
    rcases h with h | ⟨o, h⟩
    · exact kit_of I r (.base (.lst h))
    · exact kit_of I r (.base (.frz h))
  | tuple ds =>
    obtain ⟨a, xs, rfl, h, _⟩ := rp
    rcases h with (h | ⟨o, h⟩) | ⟨o, _, _, hk, hc, _⟩
    · exact kit_of I r (.base (.tup h))
    · exact kit_of I r (.fTuple h)
    · exact kit_of I r (.kTuple hk hc)
  | dict ds =>
    obtain ⟨a, kvs, rfl, h, t⟩ := rp
    have ho : isOb kvs = false := by
      rw [isOb_rp t]
      simpa [okT] using ok
    rcases h.two ho with ⟨m, h | ⟨o, h⟩, _⟩ | ⟨m, h | ⟨o, h⟩, _⟩
    · exact kit_of I r (.base (.dK h))
    · exact kit_of I r (.fDict h)
    · exact kit_of I r (.base (.dT h))
    · cases (show u = Value.ref a from r)
      obtain ⟨_, _, xs, _, o', es, ep, h1, h2, _⟩ := (show ObjOk X.prog X.w H s.heap a (.frz o (.dT m)) from I.hok a _ h).2
      exact ⟨_, PySem.W.kitx_dict, ⟨o', h1, h2.1⟩, fun z => nomatch z⟩
end
section
variable {X : Cx} {W : XW} {P : PP} {e : Expr} {pos p p2 : Pos} {f : Dl → Re D}
/-- isinstance by a value and a type -/
theorem call_isi1 {T : Ty} : CallR X (.builtin "isinstance") (fun vs H Q => ∃ (F : Addr → Prop) (v : V) (d : D), vs = [v, .ty T.nm] ∧ RpB X.K F H v d ∧ okT d = true ∧ Q (.bl (isT T d)) H) := by
  intro pins s σ H xs us Q I r ⟨F, v, d, e, rp, ok, q⟩
  subst e
  obtain ⟨u1, u2, rfl, r1, r2⟩ := vals2 r
  cases (show u2 = Value.type T.nm from r2)
  obtain ⟨P, Z, hp, hx⟩ := kit_rp I r1 rp ok
  exact PySem.W.kia_one Z I.kIn hp (kit_ty (kitB_isT T d)) hx fun tk => ⟨.bl _, H, I.tok tk, rfl, q⟩
theorem ve_isi (T : Ty) {x : Str} (he : VB X W e f) (hg : Gl X "isinstance") (hm : X.mg "isinstance" = none) (hg2 : Gl X x) (hm2 : X.mg x = none) (hv2 : bootBuiltins x = some (.type T.nm))
    (hn : x ≠ "__name__" := by decide) (hd : (x == ("__debug__" : Str)) = false := by decide)
    (hs : starEach [e, .Name x p2] X.env = (false, eval e X.env) :: starEach [.Name x p2] X.env := by rfl) (hs2 : starEach [.Name x p2] X.env = (false, eval (.Name x p2) X.env) :: starEach [] X.env := by rfl)
    (hpl : (backTo pos (starEach [.Name x p2] X.env)).any (·.1) = false := by rfl) : VE X W (.Call (.Name "isinstance" p) [e, .Name x p2] [] pos) (d1 (isiD T) f) :=
  PE.imp (pe_callB (call_isi1 (T := T)) hg hm (by decide +kernel) (pa_cons he (pa_cons (pe_bltn (v := .ty T.nm) hg2 hm2 hv2 rfl hn hd) pa_nil hs2) hs) (by decide) (by decide) hs hpl) fun σ H Q ⟨F, δ, s, h⟩ =>
    ⟨F, δ, s, Go.bnd pS_mon h fun d v F1 H1 e g p h1 => by
      unfold isiD at h1
      split at h1
      · rename_i ok
        exact ⟨F1, v, d, rfl, p, ok, h1.val (.bl _)⟩
      · exact h1.elim⟩
end

/-! ### len -/
def lenD : List D → Re D
  | [.list xs] => .ok (.int xs.length)
  | [.tuple xs] => .ok (.int xs.length)
  | [.dict xs] => if isOb xs = false then .ok (.int xs.length) else .no
  | [.str x] => if x.length ≤ sizeLine then .ok (.int x.length) else .no
  | _ => .no
theorem rpK_len {K : PySem.W.Frag} {F : Addr → Prop} {H : Hp} : ∀ {kvs : List (D × V)} {ds : List (D × D)}, RpK K F H kvs ds → kvs.length = ds.length
  | _, _, .nil => rfl
  | _, _, .cons _ t => congrArg (· + 1) (rpK_len t)
def rLenDR : List V → Hp → VK → Prop := fun xs H Q => ∃ (a : Addr) (kvs : List (D × V)), xs = [.ref a] ∧ DRd H a kvs ∧ isOb kvs = false ∧ Q (.int kvs.length) H
def rLenAll (K : PySem.W.Frag) : List V → Hp → VK → Prop := fun xs H Q => (∃ x n, xs = [x] ∧ LenV K x H n ∧ Q (.int n) H) ∨ rLenDR xs H Q
section
variable {X : Cx} {W : XW} {P : PP} {e : Expr} {es : List Expr} {pos p p2 : Pos} {f : Dl → Re D} {fs : Dl → Re (List D)} {R : Rel}
theorem call_lenDR : CallR X (.builtin "len") rLenDR := by
  intro pins s σ H xs us Q I r ⟨a, kvs, e, hd, ho, q⟩
  subst e
  obtain ⟨u, rfl, ru⟩ := vals1 r
  cases ru
  rcases hd.two ho with ⟨m, hr, rfl⟩ | ⟨m, hr, rfl⟩
  · refine d_len I hr fun t s' I' => ⟨.int m.length, H, I', ⟨t, rfl⟩, ?_⟩
    rw [List.length_map] at q
    exact q
  · obtain ⟨z, hs, ys, rel, dd⟩ := dt_rd I.hok hr
    have hl : m.length = ys.length := Paired.length rel
    refine call_len_dictH hs dd (by rw [← hl]; rw [sizeLine_eq] at z; omega) ?_
    rw [← hl]
    rw [List.length_map] at q
    exact ⟨.int m.length, H, I.tok _, ⟨_, rfl⟩, q⟩
theorem call_lenAll : CallR X (.builtin "len") (rLenAll X.K) := CallR.or call_len call_lenDR
theorem ra1 {K : PySem.W.Frag} {F : Addr → Prop} {H : Hp} {vs : List V} {d : D} (r : RA R K F H vs [d]) : ∃ v, vs = [v] ∧ R K F H v d := by
  cases r with
  | cons h t => cases t; exact ⟨_, rfl, h⟩
theorem ra2 {K : PySem.W.Frag} {F : Addr → Prop} {H : Hp} {vs : List V} {d e : D} (r : RA R K F H vs [d, e]) : ∃ v w, vs = [v, w] ∧ R K F H v d ∧ R K F H w e := by
  cases r with
  | cons h t =>
    obtain ⟨w, rfl, hw⟩ := ra1 t
    exact ⟨_, w, rfl, h, hw⟩
theorem cg_len : CallG X W (pS X.K) RpB (rLenAll X.K) lenD := by
  intro F H vs ds Q dm r h
  unfold lenD at h
  split at h
  · obtain ⟨v, rfl, a, xs, rfl, hr, ra⟩ := ra1 r
    refine .inl ⟨_, _, rfl, .inl ⟨xs, sqL_rd hr, rfl⟩, ?_⟩
    rw [ra.length]
    exact h.val (.int _)
  · obtain ⟨v, rfl, a, xs, rfl, hr, ra⟩ := ra1 r
    refine .inl ⟨_, _, rfl, .inr ⟨xs, hr, rfl⟩, ?_⟩
    rw [ra.length]
    exact h.val (.int _)
  · split at h
    · rename_i ho
      obtain ⟨v, rfl, a, xs, rfl, hr, ra⟩ := ra1 r
      refine .inr ⟨a, xs, rfl, hr, (isOb_rp ra).trans ho, ?_⟩
      rw [rpK_len ra]
      exact h.val (.int _)
    · exact h.elim
  · split at h
    · rename_i hz
      obtain ⟨v, rfl, rv⟩ := ra1 r
      rw [rp_str rv]
      exact .inl ⟨_, _, rfl, ⟨hz, rfl⟩, h.val (.int _)⟩
    · exact h.elim
  · exact h.elim
/-- the call of a builtin function, by a rule -/
theorem vp_callB {id : String} {x : Str} {r : List V → Hp → VK → Prop} {g : List D → Re D} (hp : PMon P) (hc : CallR X (.builtin id) r) (hgv : CallG X W P R r g) (hg : Gl X x) (hm : X.mg x = none) (hv : bootBuiltins x = some (.builtin id)) (ha : VA X W R (e :: es) fs)
    (hn : x ≠ "__name__" := by decide) (hdb : (x == ("__debug__" : Str)) = false := by decide) (he : starEach (e :: es) X.env = (false, eval e X.env) :: starEach es X.env := by rfl) (hpl : (backTo pos (starEach es X.env)).any (·.1) = false := by rfl) :
    VP X W P (.Call (.Name x p) (e :: es) [] pos) (dA fs g) := PE.imp (pe_callB hc hg hm hv ha hn hdb he hpl) (t_call hp hgv)
theorem vp_callTy {T : String} {x : Str} {r : List V → Hp → VK → Prop} {g : List D → Re D} (hp : PMon P) (hc : CallR X (.type T) r) (hgv : CallG X W P R r g) (hg : Gl X x) (hm : X.mg x = none) (hv : bootBuiltins x = some (.type T)) (ha : VA X W R (e :: es) fs)
    (hn : x ≠ "__name__" := by decide) (hdb : (x == ("__debug__" : Str)) = false := by decide) (he : starEach (e :: es) X.env = (false, eval e X.env) :: starEach es X.env := by rfl) (hpl : (backTo pos (starEach es X.env)).any (·.1) = false := by rfl) :
    VP X W P (.Call (.Name x p) (e :: es) [] pos) (dA fs g) := PE.imp (pe_callTy hc hg hm hv ha hn hdb he hpl) (t_call hp hgv)
end

/-! ### any, all -/
def blsOf : List D → Option (List Bool)
  | [] => some []
  | .bool b :: r => (blsOf r).map (b :: ·)
  | _ :: _ => none
theorem blsOf_map : ∀ {ds : List D} {bs : List Bool}, blsOf ds = some bs → ds = bs.map PyData.bool
  | [], _, h => by simp [blsOf] at h; subst h; rfl
  | .bool b :: r, bs, h => by
    unfold blsOf at h
    cases e : blsOf r with
    | none => rw [e] at h; simp at h
    | some cs => rw [e] at h; simp at h; subst h; rw [blsOf_map e]; rfl
  | .none :: _, _, h => by simp [blsOf] at h
  | .int _ :: _, _, h => by simp [blsOf] at h
  | .str _ :: _, _, h => by simp [blsOf] at h
  | .list _ :: _, _, h => by simp [blsOf] at h
  | .tuple _ :: _, _, h => by simp [blsOf] at h
  | .dict _ :: _, _, h => by simp [blsOf] at h
@[simp] theorem blsOf_bools : ∀ bs : List Bool, blsOf (bs.map PyData.bool) = some bs
  | [] => rfl
  | b :: bs => by simp [blsOf, blsOf_bools bs]
@[simp] theorem blsOf_fn {α : Type} (f : α → Bool) : ∀ xs : List α, blsOf (xs.map fun x => PyData.bool (f x)) = some (xs.map f)
  | [] => rfl
  | x :: xs => by simp [blsOf, blsOf_fn f xs]
def anyD : List D → Re D
  | [.list xs] => (ofO (blsOf xs)).bnd fun bs => .ok (.bool (bs.any id))
  | _ => .no
def allD : List D → Re D
  | [.list xs] => (ofO (blsOf xs)).bnd fun bs => .ok (.bool (bs.all id))
  | _ => .no
/-! ### ints of a list -/
def intsOf : List D → Option (List Int)
  | [] => some []
  | .int b :: r => (intsOf r).map (b :: ·)
  | _ :: _ => none
theorem intsOf_map : ∀ {ds : List D} {bs : List Int}, intsOf ds = some bs → ds = bs.map PyData.int
  | [], _, h => by simp [intsOf] at h; subst h; rfl
  | .int b :: r, bs, h => by
    unfold intsOf at h
    cases e : intsOf r with
    | none => rw [e] at h; simp at h
    | some cs => rw [e] at h; simp at h; subst h; rw [intsOf_map e]; rfl
  | .none :: _, _, h => by simp [intsOf] at h
  | .bool _ :: _, _, h => by simp [intsOf] at h
  | .str _ :: _, _, h => by simp [intsOf] at h
  | .list _ :: _, _, h => by simp [intsOf] at h
  | .tuple _ :: _, _, h => by simp [intsOf] at h
  | .dict _ :: _, _, h => by simp [intsOf] at h
@[simp] theorem intsOf_ints : ∀ bs : List Int, intsOf (bs.map PyData.int) = some bs
  | [] => rfl
  | b :: bs => by simp [intsOf, intsOf_ints bs]
@[simp] theorem intsOf_fn {α : Type} (f : α → Int) : ∀ xs : List α, intsOf (xs.map fun x => PyData.int (f x)) = some (xs.map f)
  | [] => rfl
  | x :: xs => by simp [intsOf, intsOf_fn f xs]
def sumD : List D → Re D
  | [.list xs] => (ofO (intsOf xs)).bnd fun bs => .ok (.int bs.sum)
  | _ => .no
def absD : List D → Re D
  | [.int i] => .ok (.int (if i < 0 then -i else i))
  | _ => .no
def intD : List D → Re D
  | [.int i] => .ok (.int i)
  | [.bool k] => .ok (.int (if k then 1 else 0))
  | _ => .no
section
variable {X : Cx} {W : XW} {P : PP} {e : Expr} {es : List Expr} {pos p p2 : Pos} {f : Dl → Re D} {fs : Dl → Re (List D)}
theorem cg_any : CallG X W (pS X.K) RpB (rAny X.K) anyD := by
  intro F H vs ds Q dm r h
  unfold anyD at h
  split at h
  · rename_i xs
    obtain ⟨v, rfl, a, ws, rfl, hr, ra⟩ := ra1 r
    cases e : blsOf xs with
    | none => rw [e] at h; exact h.elim
    | some bs =>
      rw [e] at h
      rw [blsOf_map e] at ra
      refine ⟨a, bs, rfl, ?_, Go.val h (.bl _)⟩
      rw [← ra.bools]; exact sqL_rd hr
  · exact h.elim
theorem cg_all : CallG X W (pS X.K) RpB (rAll X.K) allD := by
  intro F H vs ds Q dm r h
  unfold allD at h
  split at h
  · rename_i xs
    obtain ⟨v, rfl, a, ws, rfl, hr, ra⟩ := ra1 r
    cases e : blsOf xs with
    | none => rw [e] at h; exact h.elim
    | some bs =>
      rw [e] at h
      rw [blsOf_map e] at ra
      refine ⟨a, bs, rfl, ?_, Go.val h (.bl _)⟩
      rw [← ra.bools]; exact sqL_rd hr
  · exact h.elim
theorem cg_sum : CallG X W (pS X.K) RpB (rSum X.K) sumD := by
  intro F H vs ds Q dm r h
  unfold sumD at h
  split at h
  · rename_i xs
    obtain ⟨v, rfl, a, ws, rfl, hr, ra⟩ := ra1 r
    cases e : intsOf xs with
    | none => rw [e] at h; exact h.elim
    | some bs =>
      rw [e] at h
      rw [intsOf_map e] at ra
      refine ⟨a, bs, rfl, ?_, Go.val h (.int _)⟩
      rw [← ra.ints]; exact sqL_rd hr
  · exact h.elim
theorem cg_abs : CallG X W (pS X.K) RpB (fun xs H Q => ∃ i, xs = [.int i] ∧ Q (.int (if i < 0 then -i else i)) H) absD := by
  intro F H vs ds Q dm r h
  unfold absD at h
  split at h
  · obtain ⟨v, rfl, rv⟩ := ra1 r
    rw [rp_int rv]
    exact ⟨_, rfl, h.val (.int _)⟩
  · exact h.elim
theorem cg_int : CallG X W (pS X.K) RpB (fun xs H Q => (∃ i, xs = [.int i] ∧ Q (.int i) H) ∨ ∃ k, xs = [.bl k] ∧ Q (.int (if k then 1 else 0)) H) intD := by
  intro F H vs ds Q dm r h
  unfold intD at h
  split at h
  · obtain ⟨v, rfl, rv⟩ := ra1 r
    rw [rp_int rv]
    exact .inl ⟨_, rfl, h.val (.int _)⟩
  · obtain ⟨v, rfl, rv⟩ := ra1 r
    rw [rp_bl rv]
    exact .inr ⟨_, rfl, h.val (.int _)⟩
  · exact h.elim
end

/-! ### max, min of two ints; of a list or tuple of data -/
def max2D : List D → Re D
  | [.int i, .int j] => .ok (.int (if j > i then j else i))
  | _ => .no
def min2D : List D → Re D
  | [.int i, .int j] => .ok (.int (if j < i then j else i))
  | _ => .no
def okMM (ds : List D) : Bool := (ds.all fun x => ds.all fun y => PySem.W.alike x y) && ds.all (fun x => !isN x) && ds.all (dn 60)
def minS (ds : List D) : Re D := match ds with
  | [] => .no
  | x :: xs => if okMM (x :: xs) = true then .ok (PySem.W.minD x xs) else .no
def maxS (ds : List D) : Re D := match ds with
  | [] => .no
  | x :: xs => if okMM (x :: xs) = true then .ok (PySem.W.maxD x xs) else .no
def minL : List D → Re D
  | [.list ds] => minS ds
  | [.tuple ds] => minS ds
  | _ => .no
def maxL : List D → Re D
  | [.list ds] => maxS ds
  | [.tuple ds] => maxS ds
  | _ => .no
theorem okMM_ok {ds : List D} (h : okMM ds = true) : PySem.W.AlikeAll ds ∧ PyData.plainAll ds = true ∧ PyData.depthAll ds ≤ 60 := by
  unfold okMM at h
  simp only [Bool.and_eq_true, List.all_eq_true] at h
  obtain ⟨⟨h1, h2⟩, h3⟩ := h
  refine ⟨⟨h1, fun x hx e => ?_⟩, ?_⟩
  · have := h2 x hx
    subst e
    simp [isN] at this
  · exact dnA_plain ds 60 (by rw [dnA_all]; exact List.all_eq_true.mpr h3)
/-- the datum that a value of the list reads as -/
def rPick (K : PySem.W.Frag) (pick : D → List D → D) : List V → Hp → VK → Prop := fun vs H Q => ∃ (a : Addr) (xs : List V) (d : D) (ds : List D), vs = [.ref a] ∧ (SqL K H a xs ∨ SqT K H a xs) ∧ DpAll K H xs (d :: ds) ∧ okMM (d :: ds) = true ∧
  ∀ (i : Nat) (v : V) (e : D), xs[i]? = some v → (d :: ds)[i]? = some e → e = pick d ds → Q v H
section
variable {X : Cx} {W : XW} {P : PP} {e : Expr} {es : List Expr} {pos p p2 : Pos} {f : Dl → Re D} {fs : Dl → Re (List D)}
theorem dpAll_get {K : PySem.W.Frag} {H : Hp} : ∀ {vs : List V} {ds : List D} {i : Nat} {v : V}, DpAll K H vs ds → vs[i]? = some v → ∃ d, ds[i]? = some d ∧ Dp K H v d
  | _, _, _, _, .nil, e => by simp at e
  | _, _, 0, _, .cons h _, e => by simp at e; subst e; exact ⟨_, rfl, h⟩
  | _, _, i + 1, _, .cons _ t, e => by
    obtain ⟨v, e1, r⟩ := dpAll_get (i := i) t (by simpa using e)
    exact ⟨v, by simpa using e1, r⟩
theorem vals_getV : ∀ {xs : List V} {us : List Value} {i : Nat} {u : Value}, Vals xs us → us[i]? = some u → ∃ x, xs[i]? = some x ∧ RelV x u
  | _, _, _, _, .nil, e => by simp at e
  | _, _, 0, _, .cons r _, e => by simp at e; subst e; exact ⟨_, rfl, r⟩
  | _, _, i + 1, _, .cons _ t, e => by
    obtain ⟨v, e1, r⟩ := vals_getV (i := i) t (by simpa using e)
    exact ⟨v, by simpa using e1, r⟩
theorem plain_get {ds : List D} {i : Nat} {d : D} (h : PyData.plainAll ds = true) (e : ds[i]? = some d) : d.plain = true := by
  induction ds generalizing i with
  | nil => simp at e
  | cons x xs ih =>
    simp only [PyData.plainAll, Bool.and_eq_true] at h
    cases i with
    | zero => simp at e; subst e; exact h.1
    | succ i => exact ih h.2 (by simpa using e)
theorem pick_fin {pins : List (Addr × Obj)} {σ : L2.St} {H : Hp} {s : Shared} {Q : VK} {xs : List V} {its : List Value} {ds : List D} {m : D} (I : Inv X pins σ H s) (rv : Vals xs its) (hd : DpAll X.K H xs ds) (hp : PyData.plainAll ds = true)
    (hq : ∀ (i : Nat) (v : V) (e : D), xs[i]? = some v → ds[i]? = some e → e = m → Q v H) {i : Nat} {v : Value} {h' : Heap} {tk : Nat} {bs : List Addr} (hv : its.toArray[i]? = some v) (hr : Reads h' v m bs) (hk : ∀ b o, s.heap.get? b = some o → h'.get? b = some o) :
    EP X pins σ Q v { s with heap := h', toks := tk } := by
  obtain ⟨x, ex, rx⟩ := vals_getV rv (show its[i]? = some v by simpa using hv)
  obtain ⟨d, ed, dd⟩ := dpAll_get hd ex
  obtain ⟨as, r⟩ := Dp.reads I d x v dd rx
  have e : d = m := PySem.SeqAt.plain_unique d m v _ _ (plain_get hp ed) (PyProof.Rows.Reads.keeps hk r) hr
  exact ⟨x, H, I.kept hk, rx, hq i x d ex ed e⟩
theorem call_minP (hc : X.calm = true) (hu : X.A.units + 64 < cLine) : CallR X (.builtin "min") (rPick X.K PySem.W.minD) := by
  intro pins s σ H vs us Q I r ⟨a, xs, d, ds, e, hq, hd, ok, q⟩
  subst e
  rw [Vals.ref1 r]
  obtain ⟨al, hp, hdep⟩ := okMM_ok ok
  rcases hq with hq | hq
  · obtain ⟨its, rv, pl, _⟩ := I.list hq
    obtain ⟨as, ra⟩ := Dp.readsAll I (d :: ds) xs its hd rv
    exact PySem.W.min_list_data (I.ok.hd hc) pl.isList (by simpa using ra) al (by omega) fun i v h' tk bs hv hr hk => pick_fin I rv hd hp q hv hr hk
  · obtain ⟨its, rv, pl, _⟩ := I.tuple hq
    obtain ⟨as, ra⟩ := Dp.readsAll I (d :: ds) xs its hd rv
    exact PySem.W.min_tuple_data (I.ok.hd hc) pl (by simpa using ra) al (by omega) fun i v h' tk bs hv hr hk => pick_fin I rv hd hp q hv hr hk
theorem call_maxP (hc : X.calm = true) (hu : X.A.units + 64 < cLine) : CallR X (.builtin "max") (rPick X.K PySem.W.maxD) := by
  intro pins s σ H vs us Q I r ⟨a, xs, d, ds, e, hq, hd, ok, q⟩
  subst e
  rw [Vals.ref1 r]
  obtain ⟨al, hp, hdep⟩ := okMM_ok ok
  rcases hq with hq | hq
  · obtain ⟨its, rv, pl, _⟩ := I.list hq
    obtain ⟨as, ra⟩ := Dp.readsAll I (d :: ds) xs its hd rv
    exact PySem.W.max_list_data (I.ok.hd hc) pl.isList (by simpa using ra) al (by omega) fun i v h' tk bs hv hr hk => pick_fin I rv hd hp q hv hr hk
  · obtain ⟨its, rv, pl, _⟩ := I.tuple hq
    obtain ⟨as, ra⟩ := Dp.readsAll I (d :: ds) xs its hd rv
    exact PySem.W.max_tuple_data (I.ok.hd hc) pl (by simpa using ra) al (by omega) fun i v h' tk bs hv hr hk => pick_fin I rv hd hp q hv hr hk
theorem cg_pick {pick : D → List D → D} {g : List D → Re D} (hg : ∀ ds d, g ds = .ok d → ∃ x xs, (ds = [.list (x :: xs)] ∨ ds = [.tuple (x :: xs)]) ∧ okMM (x :: xs) = true ∧ d = pick x xs) (hx : ∀ ds z, g ds ≠ .ex z) : CallG X W (pS X.K) RpB (rPick X.K pick) g := by
  intro F H vs ds Q dm r h
  cases e : g ds with
  | ex z => exact (hx _ _ e).elim
  | no => rw [e] at h; exact h.elim
  | ok d =>
    rw [e] at h
    obtain ⟨x, xs, e2, ok, rfl⟩ := hg _ _ e
    obtain ⟨_, hp, _⟩ := okMM_ok ok
    rcases e2 with rfl | rfl
    · obtain ⟨v, rfl, a, ws, rfl, hr, ra⟩ := ra1 r
      refine ⟨a, ws, x, xs, rfl, .inl (sqL_rd hr), ra.dp hp, ok, fun i v e h1 h2 h3 => ?_⟩
      obtain ⟨w, e1, rw'⟩ := ra.get h2
      rw [h1] at e1; cases e1
      exact h.val (h3 ▸ rw')
    · obtain ⟨v, rfl, a, ws, rfl, hr, ra⟩ := ra1 r
      refine ⟨a, ws, x, xs, rfl, .inr hr, ra.dp hp, ok, fun i v e h1 h2 h3 => ?_⟩
      obtain ⟨w, e1, rw'⟩ := ra.get h2
      rw [h1] at e1; cases e1
      exact h.val (h3 ▸ rw')
theorem cg_minL : CallG X W (pS X.K) RpB (rPick X.K PySem.W.minD) minL := cg_pick (fun ds d e => by
  unfold minL minS at e
  split at e
  · split at e
    · cases e
    · split at e
      · rename_i ok; cases e; exact ⟨_, _, .inl rfl, ok, rfl⟩
      · cases e
  · split at e
    · cases e
    · split at e
      · rename_i ok; cases e; exact ⟨_, _, .inr rfl, ok, rfl⟩
      · cases e
  · cases e) fun ds z e => by
  unfold minL minS at e
  split at e
  · split at e
    · cases e
    · split at e <;> cases e
  · split at e
    · cases e
    · split at e <;> cases e
  · cases e
theorem cg_maxL : CallG X W (pS X.K) RpB (rPick X.K PySem.W.maxD) maxL := cg_pick (fun ds d e => by
  unfold maxL maxS at e
  split at e
  · split at e
    · cases e
    · split at e
      · rename_i ok; cases e; exact ⟨_, _, .inl rfl, ok, rfl⟩
      · cases e
  · split at e
    · cases e
    · split at e
      · rename_i ok; cases e; exact ⟨_, _, .inr rfl, ok, rfl⟩
      · cases e
  · cases e) fun ds z e => by
  unfold maxL maxS at e
  split at e
  · split at e
    · cases e
    · split at e <;> cases e
  · split at e
    · cases e
    · split at e <;> cases e
  · cases e
theorem cg_max2 : CallG X W (pS X.K) RpB (fun xs H Q => ∃ i j, xs = [.int i, .int j] ∧ Q (.int (if j > i then j else i)) H) max2D := by
  intro F H vs ds Q dm r h
  unfold max2D at h
  split at h
  · obtain ⟨v, w, rfl, r1, r2⟩ := ra2 r
    rw [rp_int r1, rp_int r2]
    exact ⟨_, _, rfl, h.val (.int _)⟩
  · exact h.elim
theorem cg_min2 : CallG X W (pS X.K) RpB (fun xs H Q => ∃ i j, xs = [.int i, .int j] ∧ Q (.int (if j < i then j else i)) H) min2D := by
  intro F H vs ds Q dm r h
  unfold min2D at h
  split at h
  · obtain ⟨v, w, rfl, r1, r2⟩ := ra2 r
    rw [rp_int r1, rp_int r2]
    exact ⟨_, _, rfl, h.val (.int _)⟩
  · exact h.elim
end
end VS
end
section
namespace VS
open PySem L2

/-! ### an empty dict is of both sorts -/
section
variable {X : Cx} {pins : List (Addr × Obj)} {σ : L2.St} {H : Hp} {s : Shared} {a : Addr} {y d : V} {u r : Value} {A : Around} {E : Value → Shared → Prop}
theorem emptyK (I : Inv X pins σ H s) (h : Rd H a (.dT [])) : (a == sysModules) = false ∧ s.heap.DictOf (mixKind X.prog X.w) a [] := by
  obtain ⟨_, hd, xs, rel, o, es, ep, h1, h2, h3, h4, _⟩ := dt_rd I.hok h
  cases rel
  have e : es = #[] := by
    have : es.toList = [] := h4
    exact Array.toList_inj.mp this
  subst e
  exact ⟨hd, o, #[], ep, h1, h2, h3, (fun x hx => absurd hx (by simp)), .nil, List.nodup_nil⟩
theorem emptyT (I : Inv X pins σ H s) (h : Rd H a (.dK [])) : (a == sysModules) = false ∧ s.heap.DictOfH (tupleKind (mixKind X.prog X.w)) a [] := by
  obtain ⟨_, hd, vs, rel, o, es, ep, h1, h2, h3, _, h4, _⟩ := dk_rd I.hok h
  cases rel
  have e : es = #[] := by
    have : es.toList = [] := by
      generalize es.toList = l at h4
      cases h4
      rfl
    exact Array.toList_inj.mp this
  subst e
  exact ⟨hd, o, #[], ep, h1, h2, h3, rfl, (fun x hx => absurd hx (by simp)), List.nodup_nil⟩
theorem mis_in {Q : Value → Shared → Prop} (hu : A.units + 1 < cLine) (I : Inv X pins σ H s) (g : Mism H a y) (ry : RelV y u) (h : ∀ s', Inv X pins σ H s' → Q (.bool false) s') :
    wpAny (model X.prog X.w) A (compareOp .In u (.ref a)) Q E s := by
  rcases g with ⟨e, k, ey⟩ | ⟨e, b, ks, ey, eb⟩
  · subst ey
    obtain ⟨hd, dd⟩ := emptyK I e
    exact wpAny_in_of (kV_is ry) hd dd.mapOf (h _ (I.tok _))
  · subst ey
    cases (show u = Value.ref b from ry)
    obtain ⟨hd, dd⟩ := emptyT I e
    exact wpAny_in_heap (tupleKind_room_in1 hu) (key_of I.hok eb) hd dd (h _ (I.tok _))
theorem mis_notIn {Q : Value → Shared → Prop} (hu : A.units + 1 < cLine) (I : Inv X pins σ H s) (g : Mism H a y) (ry : RelV y u) (h : ∀ s', Inv X pins σ H s' → Q (.bool true) s') :
    wpAny (model X.prog X.w) A (compareOp .NotIn u (.ref a)) Q E s := by
  rcases g with ⟨e, k, ey⟩ | ⟨e, b, ks, ey, eb⟩
  · subst ey
    obtain ⟨hd, dd⟩ := emptyK I e
    exact wpAny_notIn_of (kV_is ry) hd dd.mapOf (h _ (I.tok _))
  · subst ey
    cases (show u = Value.ref b from ry)
    obtain ⟨hd, dd⟩ := emptyT I e
    exact PyProof.Rows.wpAny_notIn_heap (tupleKind_room_in1 hu) (key_of I.hok eb) hd dd (h _ (I.tok _))
theorem mis_get1 {Q : Value → Shared → Prop} (hu : A.units + 1 < cLine) (I : Inv X pins σ H s) (g : Mism H a y) (ry : RelV y u) (h : ∀ s', Inv X pins σ H s' → Q .none s') :
    wpAny (model X.prog X.w) A (call (.builtin "dict.get") [.ref a, u]) Q E s := by
  rcases g with ⟨e, k, ey⟩ | ⟨e, b, ks, ey, eb⟩
  · subst ey
    obtain ⟨hd, dd⟩ := emptyK I e
    exact call_meetsIn PySem.F.slot_dict_get dd.typeIs PySem.F.entry_dict_get (PySem.F.args_dict_get_2 _ _) (meets_dict_get (mixKind X.prog X.w) a (kV_is ry) hd) ⟨_, dd.mapOf, h _ (I.tok _)⟩
  · subst ey
    cases (show u = Value.ref b from ry)
    obtain ⟨hd, dd⟩ := emptyT I e
    exact call_meetsIn PySem.F.slot_dict_get dd.typeIs PySem.F.entry_dict_get (PySem.F.args_dict_get_2 _ _) (meetsH_dict_get (tupleKind (mixKind X.prog X.w)) a b hd) ⟨tupleKind_room_in1 hu, ks, [], key_of I.hok eb, dd, h _ (I.tok _)⟩
theorem mis_get2 {Q : Value → Shared → Prop} (hu : A.units + 1 < cLine) (I : Inv X pins σ H s) (g : Mism H a y) (ry : RelV y u) (h : ∀ s', Inv X pins σ H s' → Q r s') :
    wpAny (model X.prog X.w) A (call (.builtin "dict.get") [.ref a, u, r]) Q E s := by
  rcases g with ⟨e, k, ey⟩ | ⟨e, b, ks, ey, eb⟩
  · subst ey
    obtain ⟨hd, dd⟩ := emptyK I e
    exact call_meetsIn PySem.F.slot_dict_get dd.typeIs PySem.F.entry_dict_get (PySem.F.args_dict_get_3 _ _ _) (meets_dict_get_default (mixKind X.prog X.w) a (kV_is ry) hd r) ⟨_, dd.mapOf, h _ (I.tok _)⟩
  · subst ey
    cases (show u = Value.ref b from ry)
    obtain ⟨hd, dd⟩ := emptyT I e
    exact call_meetsIn PySem.F.slot_dict_get dd.typeIs PySem.F.entry_dict_get (PySem.F.args_dict_get_3 _ _ _) (meetsH_dict_get_default (tupleKind (mixKind X.prog X.w)) a b hd r) ⟨tupleKind_room_in1 hu, ks, [], key_of I.hok eb, dd, h _ (I.tok _)⟩
/-- d[y] = v -/
theorem mis_set {v : V} {Q : Unit → Shared → Prop} (hu : A.units + 1 < cLine) (I : Inv X pins σ H s) (rv : RelV v r) (ry : RelV y u)
    (g : (∃ k : Key, H a = some (.dT []) ∧ y = kV k ∧ ∀ s', Inv X pins σ (upd H a (.dK [(k, v)])) s' → Q () s') ∨
      (∃ (b : Addr) (ks : List Key), H a = some (.dK []) ∧ y = .ref b ∧ H b = some (.tup (ks.map kV)) ∧ ∀ s', Inv X pins σ (upd H a (.dT [(ks, v)])) s' → Q () s')) :
    wpAny (model X.prog X.w) A (setItem (.ref a) u r) Q E s := by
  have l1 : 1 ≤ sizeLine := by rw [sizeLine_eq]; decide
  rcases g with ⟨k, e, ey, h⟩ | ⟨b, ks, e, ey, eb, h⟩
  · subst ey
    obtain ⟨hd, dd⟩ := emptyK I (.inl e)
    refine wpAny_setItem_pairs (hsz := Nat.zero_le _) (kV_is ry) dd fun h' dd' hs => h _ ?_
    have he : ∃ q, h'.get? a = some q := let ⟨q, _, _, hq, _⟩ := dd'; ⟨q, hq⟩
    exact d_write I (by rw [e]; exact True.intro) hs he (dk_new (kvs := [(k, v)]) l1 hd (KV.put .nil k rv) dd')
  · subst ey
    cases (show u = Value.ref b from ry)
    obtain ⟨hd, dd⟩ := emptyT I (.inl e)
    refine wpAny_setItem_heap (hsz := Nat.zero_le _) (tupleKind_room_in1 hu) (key_of I.hok eb) dd fun h' dd' hs => h _ ?_
    obtain ⟨q, es, ep, hq, h2, h3, h4, _, h5⟩ := dd'
    have r0 : KT H [] [] := .nil
    refine d_write I (by rw [e]; exact True.intro) hs ⟨q, hq⟩ (show ObjOk X.prog X.w _ h' a (.dT [(ks, v)]) from ⟨l1, hd, _, (r0.put ks eb rv).keeps fun c ys ec => ?_, q, es, ep, hq, h2, h3, h4, h5⟩)
    rw [upd_ne (ne_of ec e (fun z => nomatch z))]
    exact ec
end

/-! ### x in c -/
def inD : D → D → Re D
  | x, .list ys => if dn 60 x = true ∧ dnA 60 ys = true then .ok (.bool (ys.any fun y => PyData.eqv y x)) else .no
  | x, .tuple ys => if dn 60 x = true ∧ dnA 60 ys = true then .ok (.bool (ys.any fun y => PyData.eqv y x)) else .no
  | .str z, .str t => (match z.cps.toList with | [c] => .ok (.bool (decide (c ∈ t.cps.toList))) | _ => .no)
  | k, .dict kvs => if kfit kvs k = true then .ok (.bool (lkD kvs k).isSome) else .no
  | _, _ => .no
def neg1 : D → D
  | .bool b => .bool (!b)
  | d => d
def notInD (x c : D) : Re D := (inD x c).bnd fun d => .ok (neg1 d)
/-- by values: n: not in -/
def rInAll (K : PySem.W.Frag) (n : Bool) : R2 := fun x y H Q => ∃ b : Bool, Q (.bl (b ^^ n)) H ∧
  ((∃ d ds, Dp K H x d ∧ (Dp K H y (.list ds) ∨ Dp K H y (.tuple ds)) ∧ d.plain = true ∧ PyData.plainAll ds = true ∧ d.depth ≤ 60 ∧ b = ds.any fun e => PyData.eqv e d) ∨
   (∃ (c : Nat) (t : Str), x = .str ⟨#[c]⟩ ∧ y = .str t ∧ b = decide (c ∈ t.cps.toList)) ∨
   (∃ a, y = .ref a ∧ ((∃ o, DGet H a x o ∧ b = o.isSome) ∨ (Mism H a x ∧ b = false))))
section
variable {X : Cx} {W : XW} {P : PP} {a b : Expr} {pos : Pos} {fa fb : Dl → Re D}
theorem op_inAll (hu : X.A.units + 64 < cLine) : OpR X (compareOp .In) (rInAll X.K false) := by
  intro pins s σ H x y v u Q I rx ry ⟨b, q, c⟩
  rw [Bool.xor_false] at q
  rcases c with ⟨d, ds, hd, hc, p1, p2, dp, e⟩ | ⟨c, t, e1, e2, e⟩ | ⟨a, ea, c⟩
  · obtain ⟨as, r1⟩ := Dp.reads I d x v hd rx
    have hm : X.A.units + 1 + min (PyData.depthAll ds) d.depth < cLine := by have := Nat.min_le_right (PyData.depthAll ds) d.depth; omega
    have fin : EP X pins σ Q (.bool (ds.any fun y => PyData.eqv y d)) s := ⟨.bl _, H, I, rfl, e ▸ q⟩
    rcases hc with hc | hc
    · obtain ⟨bs, r2⟩ := Dp.reads I _ y u hc ry
      exact PySem.SeqAt.in_list_data r2 r1 p2 p1 hm fin
    · obtain ⟨bs, r2⟩ := Dp.reads I _ y u hc ry
      exact PySem.SeqAt.in_tuple_data r2 r1 p2 p1 hm fin
  · exact op_in_sign pins s σ H x y v u Q I rx ry ⟨c, t, e1, e2, e ▸ q⟩
  · subst ea
    cases (show u = Value.ref a from ry)
    rcases c with ⟨o, g, e⟩ | ⟨g, e⟩
    · subst e
      exact d_in (by omega) I g rx fun s' I' => ⟨.bl _, H, I', rfl, q⟩
    · subst e
      exact mis_in (by omega) I g rx fun s' I' => ⟨.bl _, H, I', rfl, q⟩
theorem op_notInAll (hu : X.A.units + 64 < cLine) : OpR X (compareOp .NotIn) (rInAll X.K true) := by
  intro pins s σ H x y v u Q I rx ry ⟨b, q, c⟩
  rw [Bool.xor_true] at q
  rcases c with ⟨d, ds, hd, hc, p1, p2, dp, e⟩ | ⟨c, t, e1, e2, e⟩ | ⟨a, ea, c⟩
  · obtain ⟨as, r1⟩ := Dp.reads I d x v hd rx
    have hm : X.A.units + 1 + min (PyData.depthAll ds) d.depth < cLine := by have := Nat.min_le_right (PyData.depthAll ds) d.depth; omega
    have fin : EP X pins σ Q (.bool (!ds.any fun y => PyData.eqv y d)) s := ⟨.bl _, H, I, rfl, e ▸ q⟩
    rcases hc with hc | hc
    · obtain ⟨bs, r2⟩ := Dp.reads I _ y u hc ry
      exact PySem.SeqAt.notIn_list_data r2 r1 p2 p1 hm fin
    · obtain ⟨bs, r2⟩ := Dp.reads I _ y u hc ry
      exact PySem.SeqAt.notIn_tuple_data r2 r1 p2 p1 hm fin
  · exact op_notIn_sign pins s σ H x y v u Q I rx ry ⟨c, t, e1, e2, e ▸ q⟩
  · subst ea
    cases (show u = Value.ref a from ry)
    rcases c with ⟨o, g, e⟩ | ⟨g, e⟩
    · subst e
      exact d_notIn (by omega) I g rx fun s' I' => ⟨.bl _, H, I', rfl, q⟩
    · subst e
      exact mis_notIn (by omega) I g rx fun s' I' => ⟨.bl _, H, I', rfl, q⟩
theorem optR_some {K : PySem.W.Frag} {F : Addr → Prop} {H : Hp} {o : Option V} {p : Option D} (h : OptR K F H o p) : o.isSome = p.isSome := by
  cases o <;> cases p <;> first | rfl | exact h.elim
/-- what «in» answers, and why -/
theorem in_why {K : PySem.W.Frag} {F : Addr → Prop} {H : Hp} {x y : V} {dx dy d : D} (rx : Rp K F H x dx) (ry : RpB K F H y dy) (h : inD dx dy = .ok d) : ∃ b, d = .bool b ∧
  ((∃ d ds, Dp K H x d ∧ (Dp K H y (.list ds) ∨ Dp K H y (.tuple ds)) ∧ d.plain = true ∧ PyData.plainAll ds = true ∧ d.depth ≤ 60 ∧ b = ds.any fun e => PyData.eqv e d) ∨
   (∃ (c : Nat) (t : Str), x = .str ⟨#[c]⟩ ∧ y = .str t ∧ b = decide (c ∈ t.cps.toList)) ∨
   (∃ a, y = .ref a ∧ ((∃ o, DGet H a x o ∧ b = o.isSome) ∨ (Mism H a x ∧ b = false)))) := by
  unfold inD at h
  split at h
  · rename_i ys
    split at h
    · rename_i c
      cases h
      have q1 := dn_plain _ _ c.1
      have q2 := dnA_plain _ _ c.2
      exact ⟨_, rfl, .inl ⟨dx, ys, rx.dp q1.1, .inl (ry.dp (by simpa [PyData.plain] using q2.1)), q1.1, q2.1, q1.2, rfl⟩⟩
    · cases h
  · rename_i ys
    split at h
    · rename_i c
      cases h
      have q1 := dn_plain _ _ c.1
      have q2 := dnA_plain _ _ c.2
      exact ⟨_, rfl, .inl ⟨dx, ys, rx.dp q1.1, .inr (ry.dp (by simpa [PyData.plain] using q2.1)), q1.1, q2.1, q1.2, rfl⟩⟩
    · cases h
  · rename_i z t
    split at h
    · rename_i c ec
      cases h
      refine ⟨_, rfl, .inr (.inl ⟨c, t, ?_, rp_str ry, rfl⟩)⟩
      rw [rp_str (Rp.b rx)]
      have : z = ⟨#[c]⟩ := by
        cases z with
        | mk cps =>
          have e : cps.toList = [c] := ec
          have : cps = #[c] := by rw [← Array.toList_inj, e]
          rw [this]
      rw [this]
    · cases h
  · split at h
    · rename_i hf
      cases h
      obtain ⟨a, m, rfl, hd, rk⟩ := ry
      rcases dget_of hd rk rx hf with ⟨o, g, ro⟩ | ⟨e, g⟩
      · exact ⟨_, rfl, .inr (.inr ⟨a, rfl, .inl ⟨o, g, (optR_some ro).symm⟩⟩)⟩
      · subst e
        exact ⟨_, rfl, .inr (.inr ⟨a, rfl, .inr ⟨g, rfl⟩⟩)⟩
    · cases h
  · cases h
theorem inD_ex {x y : D} {z : Xn} : inD x y ≠ .ex z := by
  intro h
  unfold inD at h
  split at h
  · split at h <;> cases h
  · split at h <;> cases h
  · split at h <;> cases h
  · split at h <;> cases h
  · cases h
theorem og_in : OpGG X W (pS X.K) Rp RpB (rInAll X.K false) inD := by
  intro F H x y dx dy Q dm rx ry h
  cases e : inD dx dy with
  | no => rw [e] at h; exact h.elim
  | ex z => exact (inD_ex e).elim
  | ok d =>
    rw [e] at h
    obtain ⟨b, rfl, c⟩ := in_why rx ry e
    exact ⟨b, by rw [Bool.xor_false]; exact h.val (.bl _), c⟩
theorem og_notIn : OpGG X W (pS X.K) Rp RpB (rInAll X.K true) notInD := by
  intro F H x y dx dy Q dm rx ry h
  unfold notInD at h
  cases e : inD dx dy with
  | no => rw [e] at h; exact h.elim
  | ex z => exact (inD_ex e).elim
  | ok d =>
    rw [e] at h
    obtain ⟨b, rfl, c⟩ := in_why rx ry e
    exact ⟨b, by rw [Bool.xor_true]; exact Go.val h (.bl _), c⟩
theorem ve_in (hu : X.A.units + 64 < cLine) (ha : VE X W a fa) (hb : VB X W b fb) (hm : behindInMarks .In b = false) : VE X W (.Compare a [.In] [b] pos) (d2 inD fa fb) := PE.imp (pe_cmpR (op_inAll hu) ha hb hm) (t_opG pS_mon kS og_in)
theorem ve_notIn (hu : X.A.units + 64 < cLine) (ha : VE X W a fa) (hb : VB X W b fb) (hm : behindInMarks .NotIn b = false) : VE X W (.Compare a [.NotIn] [b] pos) (d2 notInD fa fb) := PE.imp (pe_cmpR (op_notInAll hu) ha hb hm) (t_opG pS_mon kS og_notIn)
theorem vt_in (hu : X.A.units + 64 < cLine) (ha : VE X W a fa) (hb : VB X W b fb) (hm : behindInMarks .In b = false) : VT X W (.Compare a [.In] [b] pos) (tB1 (d2 inD fa fb)) := PT.imp (pt_cmpR (op_inAll hu) ha hb hm) fun σ H Q ⟨F, δ, s, h⟩ => by
  refine t_opG pS_mon kS og_in σ H _ ⟨F, δ, s, ?_⟩
  refine Go.bndT h fun d v F1 H1 e g p h1 => ?_
  obtain ⟨b, rfl, q⟩ := asB_ok (P := pS X.K) h1
  exact ⟨b, rp_bl (Rp.b p), q⟩
theorem vt_notIn (hu : X.A.units + 64 < cLine) (ha : VE X W a fa) (hb : VB X W b fb) (hm : behindInMarks .NotIn b = false) : VT X W (.Compare a [.NotIn] [b] pos) (tB1 (d2 notInD fa fb)) := PT.imp (pt_cmpR (op_notInAll hu) ha hb hm) fun σ H Q ⟨F, δ, s, h⟩ => by
  refine t_opG pS_mon kS og_notIn σ H _ ⟨F, δ, s, ?_⟩
  refine Go.bndT h fun d v F1 H1 e g p h1 => ?_
  obtain ⟨b, rfl, q⟩ := asB_ok (P := pS X.K) h1
  exact ⟨b, rp_bl (Rp.b p), q⟩
end

/-! ### d.get(k), d.get(k, x) -/
def dGet1 (fa fb : Dl → Re D) (δ : Dl) : Re D := (fa δ).bnd fun x => match x with
  | .dict kvs => if isOb kvs = false then ((fb δ).bnd fun k => if kfit kvs k = true then .ok ((lkD kvs k).getD .none) else .no) else .no
  | _ => .no
def dGet2 (fa fb fc : Dl → Re D) (δ : Dl) : Re D := (fa δ).bnd fun x => match x with
  | .dict kvs => if isOb kvs = false then ((fb δ).bnd fun k => (fc δ).bnd fun z => if kfit kvs k = true then .ok ((lkD kvs k).getD z) else .no) else .no
  | _ => .no
theorem isD_of {H : Hp} {a : Addr} {kvs : List (D × V)} (h : DRd H a kvs) (o : isOb kvs = false) : IsD H a := by
  rcases h.two o with ⟨m, h, _⟩ | ⟨m, h, _⟩
  · exact .inl ⟨m, h⟩
  · exact .inr ⟨m, h⟩
/-- o.get(e), o.get(e, f): readings -/
def tGet1 (td ty : TE) : TE := fun σ H Q => td σ H fun x H1 => ∃ a, x = .ref a ∧ IsD H1 a ∧ ty σ H1 fun y H2 => (∃ o, DGet H2 a y o ∧ Q (o.getD .non) H2) ∨ (Mism H2 a y ∧ Q .non H2)
def tGet2 (td ty tx : TE) : TE := fun σ H Q => td σ H fun x H1 => ∃ a, x = .ref a ∧ IsD H1 a ∧ ty σ H1 fun y H2 => tx σ H2 fun z H3 => (∃ o, DGet H3 a y o ∧ Q (o.getD z) H3) ∨ (Mism H3 a y ∧ Q z H3)
section
variable {X : Cx} {W : XW} {P : PP} {o e f : Expr} {apos cpos : Pos} {td ty tx : TE} {fa fb fc : Dl → Re D}
theorem pe_get1 (hu : X.A.units + 1 < cLine) (ho : PE X o td) (he : PE X e ty) (m : M1 X o "get" apos e cpos) : PE X (.Call (.Attribute o "get" apos) [e] [] cpos) (tGet1 td ty) := by
  refine ⟨fun pins s σ H Q I h => ?_⟩
  refine PySem.wpAny_Call_method m.base m.few m.line PySem.F.plainAttrs_dict PySem.F.slot_dict_get PySem.F.type_dict_get (thn (ho.run pins s σ H _ I h) fun u s1 ⟨x, H1, I1, rx, a, ex, d, q1⟩ => ?_)
  subst ex
  cases (show u = Value.ref a from rx)
  have t := isD_at I1 d
  refine ⟨t.1, t.2.1, ?_⟩
  rw [m.trees]
  refine Calls.callWith_builtin rfl (Calls.evalArgs_plain (Calls.spliced_cons (thn (he.run pins s1 σ H1 _ I1 q1) fun iv s2 ⟨y, H2, I2, ry, q2⟩ => Calls.spliced_nil ?_)))
  rcases q2 with ⟨ov, g, q2⟩ | ⟨g, q2⟩
  · exact d_get1 hu I2 g ry fun w' s3 I3 rw' => ⟨_, H2, I3, rw', q2⟩
  · exact mis_get1 hu I2 g ry fun s3 I3 => ⟨.non, H2, I3, rfl, q2⟩
theorem pe_get2 (hu : X.A.units + 1 < cLine) (ho : PE X o td) (he : PE X e ty) (hf : PE X f tx) (m : M2 X o "get" apos e f cpos) : PE X (.Call (.Attribute o "get" apos) [e, f] [] cpos) (tGet2 td ty tx) := by
  refine ⟨fun pins s σ H Q I h => ?_⟩
  refine PySem.wpAny_Call_method m.base m.few m.line PySem.F.plainAttrs_dict PySem.F.slot_dict_get PySem.F.type_dict_get (thn (ho.run pins s σ H _ I h) fun u s1 ⟨x, H1, I1, rx, a, ex, d, q1⟩ => ?_)
  subst ex
  cases (show u = Value.ref a from rx)
  have t := isD_at I1 d
  refine ⟨t.1, t.2.1, ?_⟩
  rw [m.trees]
  refine Calls.callWith_builtin rfl (Calls.evalArgs_plain (Calls.spliced_cons (thn (he.run pins s1 σ H1 _ I1 q1) fun iv s2 ⟨y, H2, I2, ry, q2⟩ =>
    Calls.spliced_cons (thn (hf.run pins s2 σ H2 _ I2 q2) fun fv s3 ⟨z, H3, I3, rz, q3⟩ => Calls.spliced_nil ?_))))
  rcases q3 with ⟨ov, g, q3⟩ | ⟨g, q3⟩
  · exact d_get2 hu I3 g ry rz fun w' s4 I4 rw' => ⟨_, H3, I4, rw', q3⟩
  · exact mis_get2 hu I3 g ry fun s4 I4 => ⟨z, H3, I4, rz, q3⟩
theorem optR_getD {K : PySem.W.Frag} {F : Addr → Prop} {H : Hp} {v : V} {d : D} {o : Option V} {p : Option D} (h : OptR K F H o p) (r : Rp K F H v d) : Rp K F H (o.getD v) (p.getD d) := by
  cases o <;> cases p <;> first | exact r | exact h | exact h.elim
theorem ve_get1 (hu : X.A.units + 1 < cLine) (ho : VB X W o fa) (he : VE X W e fb) (m : M1 X o "get" apos e cpos) : VE X W (.Call (.Attribute o "get" apos) [e] [] cpos) (dGet1 fa fb) := PE.imp (pe_get1 hu ho he m) fun σ H Q ⟨F, δ, s, h⟩ => by
  refine ⟨F, δ, s, Go.bnd pS_mon h fun dx x F1 H1 ex g1 px h1 => ?_⟩
  cases dx with
  | dict kvs =>
    simp only at h1
    split at h1
    rotate_left
    · exact h1.elim
    rename_i ho
    obtain ⟨a, m, rfl, hd, rk⟩ := px
    refine ⟨a, rfl, isD_of hd ((isOb_rp rk).trans ho), F1, δ, s.grow g1, Go.bnd pS_mon h1 fun dy y F2 H2 ey g2 py h2 => ?_⟩
    split at h2
    · rename_i hf
      rcases dget_of (same_drd g2.same hd) (g2.rpK rk) py hf with ⟨o, g, ro⟩ | ⟨e, g⟩
      · exact .inl ⟨o, g, h2.val (optR_getD ro .non)⟩
      · subst e
        exact .inr ⟨g, h2.val .non⟩
    · exact h2.elim
  | _ => exact h1.elim
theorem ve_get2 (hu : X.A.units + 1 < cLine) (ho : VB X W o fa) (he : VE X W e fb) (hf : VE X W f fc) (m : M2 X o "get" apos e f cpos) : VE X W (.Call (.Attribute o "get" apos) [e, f] [] cpos) (dGet2 fa fb fc) := PE.imp (pe_get2 hu ho he hf m) fun σ H Q ⟨F, δ, s, h⟩ => by
  refine ⟨F, δ, s, Go.bnd pS_mon h fun dx x F1 H1 ex g1 px h1 => ?_⟩
  cases dx with
  | dict kvs =>
    simp only at h1
    split at h1
    rotate_left
    · exact h1.elim
    rename_i ho
    obtain ⟨a, m, rfl, hd, rk⟩ := px
    refine ⟨a, rfl, isD_of hd ((isOb_rp rk).trans ho), F1, δ, s.grow g1, Go.bnd pS_mon h1 fun dy y F2 H2 ey g2 py h2 => ?_⟩
    refine ⟨F2, δ, (s.grow g1).grow g2, Go.bnd pS_mon h2 fun dz z F3 H3 ez g3 pz h3 => ?_⟩
    split at h3
    · rename_i hf
      rcases dget_of (same_drd (g2.trans g3).same hd) ((g2.trans g3).rpK rk) (g3.rp py) hf with ⟨o, g, ro⟩ | ⟨e, g⟩
      · exact .inl ⟨o, g, h3.val (optR_getD ro pz)⟩
      · subst e
        exact .inr ⟨g, h3.val pz⟩
    · exact h3.elim
  | _ => exact h1.elim
end
end VS
end
section
namespace VS
open PySem L2

/-! ### an object while it is made -/
inductive FldsR (K : PySem.W.Frag) (F : Addr → Prop) (H H0 : Hp) : List (Str × V) → List (Str × Bool × PyData) → List Addr → Prop
  | nil : FldsR K F H H0 [] [] []
  | sh {f : Str} {v : V} {d : PyData} {fv : List (Str × V)} {fs : List (Str × Bool × PyData)} {A : List Addr} : Rp K F H v d → FldsR K F H H0 fv fs A → FldsR K F H H0 ((f, v) :: fv) ((f, false, d) :: fs) A
  | ow {f : Str} {b : Addr} {d : PyData} {fv : List (Str × V)} {fs : List (Str × Bool × PyData)} {A : List Addr} : RpO K F H b d → ¬ F b → H0 b = none → b ∉ A → FldsR K F H H0 fv fs A → FldsR K F H H0 ((f, .ref b) :: fv) ((f, true, d) :: fs) (b :: A)
section
variable {K : PySem.W.Frag} {F F' : Addr → Prop} {H H' H0 : Hp}
theorem FldsR.e : ∀ {fv : List (Str × V)} {fs : List (Str × Bool × PyData)} {A : List Addr}, FldsR K F H H0 fv fs A → FldB K F H fv fs
  | _, _, _, .nil => .nil
  | _, _, _, .sh r t => .sh r t.e
  | _, _, _, .ow o _ _ _ t => .ow o.b t.e
theorem FldsR.there : ∀ {fv : List (Str × V)} {fs : List (Str × Bool × PyData)} {A : List Addr}, FldsR K F H H0 fv fs A → ∀ b ∈ A, ∃ u, H b = some u ∧ Mut (some u) ∧ ¬ F b ∧ H0 b = none
  | _, _, _, .nil, b, hb => nomatch hb
  | _, _, _, .sh _ t, b, hb => t.there b hb
  | _, _, _, .ow o nf n0 _ t, b, hb => by
    rcases List.mem_cons.mp hb with e | hb
    · subst e
      obtain ⟨u, hu, mu⟩ := o.there
      exact ⟨u, hu, mu, nf, n0⟩
    · exact t.there b hb
theorem FldsR.kept (hF : ∀ x, F x → F' x) (k : Kept F H H') : ∀ {fv : List (Str × V)} {fs : List (Str × Bool × PyData)} {A : List Addr}, (∀ b ∈ A, ¬ F' b) → (∀ b ∈ A, H' b = H b) → FldsR K F H H0 fv fs A → FldsR K F' H' H0 fv fs A
  | _, _, _, _, _, .nil => .nil
  | _, _, _, nf, e, .sh r t => .sh (r.mono hF k) (FldsR.kept hF k nf e t)
  | _, _, _, nf, e, .ow o _ n0 na t => .ow (o.kept hF k (e _ List.mem_cons_self)) (nf _ List.mem_cons_self) n0 na (FldsR.kept hF k (fun b hb => nf b (List.mem_cons_of_mem _ hb)) (fun b hb => e b (List.mem_cons_of_mem _ hb)) t)
theorem FldsR.uniq : ∀ {fv : List (Str × V)} {fs : List (Str × Bool × PyData)} {A A' : List Addr}, FldsR K F H H0 fv fs A → FldsR K F' H' H0 fv fs A' → A = A'
  | _, _, _, _, .nil, .nil => rfl
  | _, _, _, _, .sh _ t, .sh _ t' => t.uniq t'
  | _, _, _, _, .ow _ _ _ _ t, .ow _ _ _ _ t' => by rw [t.uniq t']
/-- the object at v: A, what it is made of -/
def ObR (K : PySem.W.Frag) (F : Addr → Prop) (H H0 : Hp) (v : V) (c n : Int) (fs : List (Str × Bool × PyData)) (A : List Addr) : Prop :=
  ∃ (a C dx : Addr) (fv : List (Str × V)) (A' : List Addr), v = .ref a ∧ H a = some (.ins C dx fv) ∧ c = (C : Nat) ∧ n = (a : Nat) ∧ ¬ F a ∧ H0 a = none ∧ FldsR K F H H0 fv fs A' ∧ a ∉ A' ∧ A = a :: A'
theorem ObR.there {v : V} {c n : Int} {fs : List (Str × Bool × PyData)} {A : List Addr} (r : ObR K F H H0 v c n fs A) : ∀ b ∈ A, ∃ u, H b = some u ∧ Mut (some u) ∧ ¬ F b ∧ H0 b = none := by
  obtain ⟨a, C, dx, fv, A', _, hH, _, _, nf, n0, t, _, rfl⟩ := r
  intro b hb
  rcases List.mem_cons.mp hb with e | hb
  · subst e
    exact ⟨_, hH, trivial, nf, n0⟩
  · exact t.there b hb
theorem ObR.kept (hF : ∀ x, F x → F' x) (k : Kept F H H') {v : V} {c n : Int} {fs : List (Str × Bool × PyData)} {A : List Addr} (nf : ∀ b ∈ A, ¬ F' b) (e : ∀ b ∈ A, H' b = H b) (r : ObR K F H H0 v c n fs A) : ObR K F' H' H0 v c n fs A := by
  obtain ⟨a, C, dx, fv, A', ev, hH, ec, en, _, n0, t, na, rfl⟩ := r
  exact ⟨a, C, dx, fv, A', ev, (e a List.mem_cons_self).trans hH, ec, en, nf a List.mem_cons_self, n0, t.kept hF k (fun b hb => nf b (List.mem_cons_of_mem _ hb)) (fun b hb => e b (List.mem_cons_of_mem _ hb)), na, rfl⟩
theorem ObR.grown (g : Grow F H F' H') {v : V} {c n : Int} {fs : List (Str × Bool × PyData)} {A : List Addr} (r : ObR K F H H0 v c n fs A) : ObR K F' H' H0 v c n fs A :=
  r.kept g.sub g.kept (fun b hb f => by
    obtain ⟨u, hu, _, nf, _⟩ := r.there b hb
    rcases g.new b f with f | f
    · exact nf f
    · rw [hu] at f
      cases f) fun b hb => by
    obtain ⟨u, hu, _⟩ := r.there b hb
    exact (g.same b u hu).trans hu.symm
theorem ObR.uniq {v : V} {c n c' n' : Int} {fs : List (Str × Bool × PyData)} {A A' : List Addr} (r : ObR K F H H0 v c n fs A) (r' : ObR K F' H' H0 v c' n' fs A') (e : ∀ b ∈ A, H' b = H b) : A = A' := by
  obtain ⟨a, C, dx, fv, B, ev, hH, _, _, _, _, t, _, rfl⟩ := r
  obtain ⟨a', C', dx', fv', B', ev', hH', _, _, _, _, t', _, rfl⟩ := r'
  rw [ev] at ev'
  cases ev'
  rw [e a List.mem_cons_self, hH] at hH'
  cases hH'
  rw [t.uniq t']
end
/-! ### the state of a def's body -/
structure Sok (K : PySem.W.Frag) (F0 : Addr → Prop) (H0 : Hp) (F : Addr → Prop) (H : Hp) (σ : L2.St) (δ : Dl) : Prop where
  len : δ.length = σ.length
  g : Grow F0 H0 F H
  d0 : Dom F0 H0
  dom : Dom F H
  sh : ∀ (i : Nat) (d : PyData), δ[i]? = some (Sl.sh d) → ∃ v, σ[i]? = some (some v) ∧ Rp K F H v d
  ow : ∀ (i : Nat) (d : PyData), δ[i]? = some (Sl.ow d) → ∃ a, σ[i]? = some (some (.ref a)) ∧ RpO K F H a d ∧ ¬ F a ∧ H0 a = none
  br : ∀ (i : Nat) (ns : List Int), δ[i]? = some (Sl.br ns) → ∃ a, σ[i]? = some (some (V.ref a)) ∧ ScrR K H a ns
  ne : ∀ (i j : Nat) (d e : PyData) (a : Addr), δ[i]? = some (Sl.ow d) → δ[j]? = some (Sl.ow e) → σ[i]? = some (some (.ref a)) → σ[j]? = some (some (.ref a)) → i = j
  ob : ∀ (i : Nat) (c n : Int) (fs : List (Str × Bool × PyData)), δ[i]? = some (Sl.ob c n fs) → ∃ v A, σ[i]? = some (some v) ∧ ObR K F H H0 v c n fs A ∧ ∀ (j : Nat) (d : PyData) (b : Addr), δ[j]? = some (Sl.ow d) → σ[j]? = some (some (.ref b)) → b ∉ A
  ob1 : ∀ (i j : Nat) (c n c' n' : Int) (fs fs' : List (Str × Bool × PyData)), δ[i]? = some (Sl.ob c n fs) → δ[j]? = some (Sl.ob c' n' fs') → i = j
theorem Sok.e {K : PySem.W.Frag} {F0 : Addr → Prop} {H0 : Hp} {F : Addr → Prop} {H : Hp} {σ : L2.St} {δ : Dl} (s : Sok K F0 H0 F H σ δ) : SokE K F H σ δ where
  len := s.len
  dom := s.dom
  sl := fun i x e => by
    cases x with
    | no => trivial
    | sh d => exact s.sh i d e
    | ow d => obtain ⟨a, e1, o, _⟩ := s.ow i d e; exact ⟨_, e1, o.b⟩
    | br ns => exact s.br i ns e
    | ob c n fs =>
      obtain ⟨v, A, e1, ⟨a, C, dx, fv, A', ev, hH, ec, _, _, _, t, _⟩, _⟩ := s.ob i c n fs e
      subst ev
      exact ⟨a, C, dx, fv, e1, hH, ec, t.e⟩
theorem Sok.grow {K : PySem.W.Frag} {F0 : Addr → Prop} {H0 : Hp} {F F' : Addr → Prop} {H H' : Hp} {σ : L2.St} {δ : Dl} (s : Sok K F0 H0 F H σ δ) (g : Grow F H F' H') : Sok K F0 H0 F' H' σ δ where
  len := s.len
  g := s.g.trans g
  d0 := s.d0
  dom := g.dom s.dom
  sh := fun i d e => by obtain ⟨v, e, r⟩ := s.sh i d e; exact ⟨v, e, g.rp r⟩
  ow := fun i d e => by
    obtain ⟨a, e, o, nf, n0⟩ := s.ow i d e
    obtain ⟨u, hu, _⟩ := o.there
    refine ⟨a, e, o.kept g.sub g.kept ((g.same a u hu).trans hu.symm), fun f => ?_, n0⟩
    rcases g.new a f with f | f
    · exact nf f
    · rw [hu] at f; cases f
  br := fun i ns e => by obtain ⟨a, e, r⟩ := s.br i ns e; exact ⟨a, e, r.keep fun b o e _ => g.same b o e⟩
  ne := s.ne
  ob := fun i c n fs e => by obtain ⟨v, A, e1, r, nb⟩ := s.ob i c n fs e; exact ⟨v, A, e1, r.grown g, nb⟩
  ob1 := s.ob1

/-- what stays from one state of the body to a later one: the frozen things -/
structure Stay (F : Addr → Prop) (H : Hp) (F' : Addr → Prop) (H' : Hp) : Prop where
  sub : ∀ a, F a → F' a
  kept : Kept F H H'
theorem Stay.refl {F : Addr → Prop} {H : Hp} : Stay F H F H := ⟨fun _ h => h, Kept.refl⟩
theorem Stay.trans {F F1 F2 : Addr → Prop} {H H1 H2 : Hp} (a : Stay F H F1 H1) (b : Stay F1 H1 F2 H2) : Stay F H F2 H2 := ⟨fun x h => b.sub x (a.sub x h), a.kept.trans b.kept a.sub⟩
theorem Grow.stay {F F' : Addr → Prop} {H H' : Hp} (g : Grow F H F' H') : Stay F H F' H' := ⟨g.sub, g.kept⟩
theorem Stay.rp {K : PySem.W.Frag} {F F' : Addr → Prop} {H H' : Hp} (g : Stay F H F' H') {v : V} {d : D} (r : Rp K F H v d) : Rp K F' H' v d := r.mono g.sub g.kept

/-- what a statement does -/
inductive RS where
  | nx (δ : Dl)
  | rt (d : D)
  | rf (d : D)
  | bk (δ : Dl)
  | ct (δ : Dl)
  | ex (x : Xn)
  | no
def RS.bnd (r : RS) (f : Dl → RS) : RS := match r with
  | .nx δ => f δ
  | r => r
@[simp] theorem rsb_nx (δ : Dl) (f : Dl → RS) : (RS.nx δ).bnd f = f δ := Eq.trans rfl (Eq.refl _)
@[simp] theorem rsb_rt (δ : D) (f : Dl → RS) : (RS.rt δ).bnd f = .rt δ := Eq.trans rfl (Eq.refl _)
@[simp] theorem rsb_rf (δ : D) (f : Dl → RS) : (RS.rf δ).bnd f = .rf δ := Eq.trans rfl (Eq.refl _)
@[simp] theorem rsb_bk (δ : Dl) (f : Dl → RS) : (RS.bk δ).bnd f = .bk δ := Eq.trans rfl (Eq.refl _)
@[simp] theorem rsb_ct (δ : Dl) (f : Dl → RS) : (RS.ct δ).bnd f = .ct δ := Eq.trans rfl (Eq.refl _)
@[simp] theorem rsb_ex (x : Xn) (f : Dl → RS) : (RS.ex x).bnd f = .ex x := Eq.trans rfl (Eq.refl _)
@[simp] theorem rsb_no (f : Dl → RS) : RS.no.bnd f = .no := Eq.trans rfl (Eq.refl _)
/-- from an expression's outcome -/
def toS {α : Type} (r : Re α) (f : α → RS) : RS := match r with
  | .ok a => f a
  | .ex x => .ex x
  | .no => .no
@[simp] theorem toS_ok {α : Type} (a : α) (f : α → RS) : toS (.ok a) f = f a := Eq.trans rfl (Eq.refl _)
@[simp] theorem toS_ex {α : Type} (x : Xn) (f : α → RS) : toS (.ex x) f = .ex x := Eq.trans rfl (Eq.refl _)
@[simp] theorem toS_no {α : Type} (f : α → RS) : toS (.no : Re α) f = .no := Eq.trans rfl (Eq.refl _)

def SO (K : PySem.W.Frag) (W : XW) (F0 : Addr → Prop) (H0 : Hp) (F : Addr → Prop) (H : Hp) (D : Ends) : RS → Prop
  | .nx δ => ∀ F' H' σ', Stay F H F' H' → Sok K F0 H0 F' H' σ' δ → D.nx σ' H'
  | .bk δ => ∀ F' H' σ', Stay F H F' H' → Sok K F0 H0 F' H' σ' δ → D.bk σ' H'
  | .ct δ => ∀ F' H' σ', Stay F H F' H' → Sok K F0 H0 F' H' σ' δ → D.ct σ' H'
  | .rt d => ∀ v F' H', Stay F H F' H' → Grow F0 H0 F' H' → Rp K F' H' v d → D.rt v H'
  | .rf d => ∀ v F' H', Stay F H F' H' → Grow F0 H0 F' H' → pF K F0 H0 F' H' v d → D.rt v H'
  | .ex x => ∀ F' H', Stay F H F' H' → Grow F0 H0 F' H' → W x H'
  | .no => False
theorem SO.stay {K : PySem.W.Frag} {W : XW} {F0 : Addr → Prop} {H0 : Hp} {F F1 : Addr → Prop} {H H1 : Hp} {D : Ends} {r : RS} (h : SO K W F0 H0 F H D r) (g : Stay F H F1 H1) : SO K W F0 H0 F1 H1 D r := by
  cases r with
  | nx δ => exact fun F' H' σ' s k => h F' H' σ' (g.trans s) k
  | bk δ => exact fun F' H' σ' s k => h F' H' σ' (g.trans s) k
  | ct δ => exact fun F' H' σ' s k => h F' H' σ' (g.trans s) k
  | rt d => exact fun v F' H' s k => h v F' H' (g.trans s) k
  | rf d => exact fun v F' H' s k => h v F' H' (g.trans s) k
  | ex x => exact fun F' H' s k => h F' H' (g.trans s) k
  | no => exact h
/-- a statement's reading -/
def tS (K : PySem.W.Frag) (W : XW) (f : Dl → RS) : TS := fun D σ H => ∃ F0 H0 F δ, Sok K F0 H0 F H σ δ ∧ SO K W F0 H0 F H D (f δ)
abbrev VSt (X : Cx) (W : XW) (st : Stmt) (f : Dl → RS) : Prop := PS X st (tS X.K W f)
abbrev VSs (X : Cx) (W : XW) (st : List Stmt) (f : Dl → RS) : Prop := PSs X st (tS X.K W f)

section
variable {X : Cx} {W : XW} {K : PySem.W.Frag} {F0 : Addr → Prop} {H0 : Hp} {F : Addr → Prop} {H : Hp} {σ : L2.St} {δ : Dl} {D : Ends}
/-- an expression within a statement -/
theorem SO.go {P : PP} {r : Re PyData} {f : PyData → RS} {Q : VK} (s : Sok K F0 H0 F H σ δ) (h : SO K W F0 H0 F H D (toS r f))
    (q : ∀ d v F1 H1, r = .ok d → Grow F H F1 H1 → P F H F1 H1 v d → SO K W F0 H0 F1 H1 D (f d) → Q v H1) : Go W P F H r Q := by
  cases r with
  | ok d => exact fun v F1 H1 g p => q d v F1 H1 rfl g p (SO.stay h g.stay)
  | ex x => exact fun F' H' g => h F' H' g.stay (s.g.trans g)
  | no => exact h
theorem SO.goT {r : Re Bool} {f : Bool → RS} {Q : Bool → Hp → Prop} (s : Sok K F0 H0 F H σ δ) (h : SO K W F0 H0 F H D (toS r f))
    (q : ∀ d F1 H1, r = .ok d → Grow F H F1 H1 → SO K W F0 H0 F1 H1 D (f d) → Q d H1) : GoT W F H r Q := by
  cases r with
  | ok d => exact fun F1 H1 g => q d F1 H1 rfl g (SO.stay h g.stay)
  | ex x => exact fun F' H' g => h F' H' g.stay (s.g.trans g)
  | no => exact h
theorem SO.goA {R : Rel} {r : Re (List PyData)} {f : List PyData → RS} {Q : List V → Hp → Prop} (s : Sok K F0 H0 F H σ δ) (h : SO K W F0 H0 F H D (toS r f))
    (q : ∀ ds vs F1 H1, r = .ok ds → Grow F H F1 H1 → RA R K F1 H1 vs ds → SO K W F0 H0 F1 H1 D (f ds) → Q vs H1) : GoA W R K F H r Q := by
  cases r with
  | ok d => exact fun v F1 H1 g p => q d v F1 H1 rfl g p (SO.stay h g.stay)
  | ex x => exact fun F' H' g => h F' H' g.stay (s.g.trans g)
  | no => exact h

/-! ### slots set -/
theorem set_len {i : Nat} {v : Option V} {x : Sl} (h : δ.length = σ.length) : (δ.set i x).length = (σ.set i v).length := by rw [List.length_set, List.length_set]; exact h
theorem get_set_ne {α : Type} {l : List α} {i j : Nat} {x y : α} (h : (l.set i x)[j]? = some y) (n : i ≠ j) : l[j]? = some y := by rw [List.getElem?_set_ne n] at h; exact h
theorem get_set_eq {α : Type} {l : List α} {i : Nat} {x y : α} (h : (l.set i x)[i]? = some y) : y = x ∧ i < l.length := by
  by_cases hi : i < l.length
  · rw [List.getElem?_set_self hi] at h; exact ⟨(Option.some.inj h).symm, hi⟩
  · rw [List.getElem?_eq_none (by simpa using hi)] at h; cases h
theorem Sok.setSh {i : Nat} {v : V} {d : PyData} (s : Sok K F0 H0 F H σ δ) (r : Rp K F H v d) : Sok K F0 H0 F H (σ.set i (some v)) (δ.set i (.sh d)) where
  len := set_len s.len
  g := s.g
  d0 := s.d0
  dom := s.dom
  sh := fun j e h => by
    by_cases n : i = j
    · subst n
      obtain ⟨q, hi⟩ := get_set_eq h
      cases q
      exact ⟨v, by rw [List.getElem?_set_self (by rw [← s.len]; exact hi)], r⟩
    · rw [List.getElem?_set_ne n]
      exact s.sh j e (get_set_ne h n)
  ow := fun j e h => by
    by_cases n : i = j
    · subst n
      obtain ⟨q, hi⟩ := get_set_eq h
      cases q
    · rw [List.getElem?_set_ne n]
      exact s.ow j e (get_set_ne h n)
  br := fun j e h => by
    by_cases n : i = j
    · subst n
      obtain ⟨q, hi⟩ := get_set_eq h
      cases q
    · rw [List.getElem?_set_ne n]
      exact s.br j e (get_set_ne h n)
  ne := fun j k d e a h1 h2 h3 h4 => by
    by_cases n : i = j
    · subst n; obtain ⟨q, _⟩ := get_set_eq h1; cases q
    · by_cases m : i = k
      · subst m; obtain ⟨q, _⟩ := get_set_eq h2; cases q
      · rw [List.getElem?_set_ne n] at h3
        rw [List.getElem?_set_ne m] at h4
        exact s.ne j k d e a (get_set_ne h1 n) (get_set_ne h2 m) h3 h4
  ob := fun j c n' fs h => by
    by_cases n : i = j
    · subst n; obtain ⟨q, _⟩ := get_set_eq h; cases q
    · obtain ⟨w, A, e1, r', nb⟩ := s.ob j c n' fs (get_set_ne h n)
      refine ⟨w, A, by rw [List.getElem?_set_ne n]; exact e1, r', fun k d' b h1 h2 => ?_⟩
      by_cases m : i = k
      · subst m; obtain ⟨q, _⟩ := get_set_eq h1; cases q
      · rw [List.getElem?_set_ne m] at h2
        exact nb k d' b (get_set_ne h1 m) h2
  ob1 := fun j k c n' c' n'' fs fs' h1 h2 => by
    by_cases n : i = j
    · subst n; obtain ⟨q, _⟩ := get_set_eq h1; cases q
    · by_cases m : i = k
      · subst m; obtain ⟨q, _⟩ := get_set_eq h2; cases q
      · exact s.ob1 j k c n' c' n'' fs fs' (get_set_ne h1 n) (get_set_ne h2 m)
/-- slot i holds a new object of its own -/
theorem Sok.setOw {i : Nat} {a : Addr} {d : PyData} (s : Sok K F0 H0 F H σ δ) (r : RpO K F H a d) (nf : ¬ F a) (n0 : H0 a = none) (hn : ∀ (j : Nat) (e : PyData), δ[j]? = some (Sl.ow e) → j ≠ i → σ[j]? ≠ some (some (.ref a)))
    (ho : ∀ (j : Nat) (c n : Int) (fs : List (Str × Bool × PyData)) (v : V) (A : List Addr), δ[j]? = some (Sl.ob c n fs) → σ[j]? = some (some v) → ObR K F H H0 v c n fs A → a ∉ A) : Sok K F0 H0 F H (σ.set i (some (.ref a))) (δ.set i (.ow d)) where
  len := set_len s.len
  g := s.g
  d0 := s.d0
  dom := s.dom
  sh := fun j e h => by
    by_cases n : i = j
    · subst n
      obtain ⟨q, hi⟩ := get_set_eq h
      cases q
    · rw [List.getElem?_set_ne n]
      exact s.sh j e (get_set_ne h n)
  ow := fun j e h => by
    by_cases n : i = j
    · subst n
      obtain ⟨q, hi⟩ := get_set_eq h
      cases q
      exact ⟨a, by rw [List.getElem?_set_self (by rw [← s.len]; exact hi)], r, nf, n0⟩
    · rw [List.getElem?_set_ne n]
      exact s.ow j e (get_set_ne h n)
  br := fun j e h => by
    by_cases n : i = j
    · subst n
      obtain ⟨q, hi⟩ := get_set_eq h
      cases q
    · rw [List.getElem?_set_ne n]
      exact s.br j e (get_set_ne h n)
  ne := fun j k d e b h1 h2 h3 h4 => by
    by_cases n : i = j
    · subst n
      by_cases m : i = k
      · exact m
      · exfalso
        obtain ⟨_, hi⟩ := get_set_eq h1
        rw [List.getElem?_set_self (by rw [← s.len]; exact hi)] at h3
        rw [List.getElem?_set_ne m] at h4
        cases h3
        exact hn k e (get_set_ne h2 m) (Ne.symm m) h4
    · by_cases m : i = k
      · subst m
        exfalso
        obtain ⟨_, hi⟩ := get_set_eq h2
        rw [List.getElem?_set_self (by rw [← s.len]; exact hi)] at h4
        rw [List.getElem?_set_ne n] at h3
        cases h4
        exact hn j d (get_set_ne h1 n) (Ne.symm n) h3
      · rw [List.getElem?_set_ne n] at h3
        rw [List.getElem?_set_ne m] at h4
        exact s.ne j k d e b (get_set_ne h1 n) (get_set_ne h2 m) h3 h4
  ob := fun j c n' fs h => by
    by_cases n : i = j
    · subst n; obtain ⟨q, _⟩ := get_set_eq h; cases q
    · obtain ⟨w, A, e1, r', nb⟩ := s.ob j c n' fs (get_set_ne h n)
      refine ⟨w, A, by rw [List.getElem?_set_ne n]; exact e1, r', fun k d' b h1 h2 => ?_⟩
      by_cases m : i = k
      · subst m
        obtain ⟨_, hi⟩ := get_set_eq h1
        rw [List.getElem?_set_self (by rw [← s.len]; exact hi)] at h2
        cases h2
        exact ho j c n' fs w A (get_set_ne h n) e1 r'
      · rw [List.getElem?_set_ne m] at h2
        exact nb k d' b (get_set_ne h1 m) h2
  ob1 := fun j k c n' c' n'' fs fs' h1 h2 => by
    by_cases n : i = j
    · subst n; obtain ⟨q, _⟩ := get_set_eq h1; cases q
    · by_cases m : i = k
      · subst m; obtain ⟨q, _⟩ := get_set_eq h2; cases q
      · exact s.ob1 j k c n' c' n'' fs fs' (get_set_ne h1 n) (get_set_ne h2 m)
/-- the object of slot i is frozen -/
def frzD (i : Nat) (δ : Dl) : Dl := match δ[i]? with
  | some (.ow d) => δ.set i (.sh d)
  | _ => δ
theorem Sok.frz (i : Nat) (s : Sok K F0 H0 F H σ δ) : ∃ F', Stay F H F' H ∧ Sok K F0 H0 F' H σ (frzD i δ) := by
  unfold frzD
  split
  · rename_i d e
    obtain ⟨a, ea, o, nf, n0⟩ := s.ow i d e
    obtain ⟨u, hu, _⟩ := o.there
    have g : Grow F0 H0 (plus F a) H := s.g.freeze n0 (by rw [hu]; exact fun z => nomatch z)
    refine ⟨plus F a, ⟨fun _ h => .inl h, Kept.refl⟩, ⟨by rw [List.length_set]; exact s.len, g, s.d0, fun x hx => ?_, fun j e' h => ?_, fun j e' h => ?_, fun j e' h => ?_, fun j k d1 e1 b h1 h2 h3 h4 => ?_, fun j c n' fs h => ?_, fun j k c n' c' n'' fs fs' h1 h2 => ?_⟩⟩
    · rcases hx with hx | hx
      · exact s.dom x hx
      · rw [hx, hu]; exact fun z => nomatch z
    · by_cases n : i = j
      · subst n
        obtain ⟨q, hi⟩ := get_set_eq h
        cases q
        exact ⟨_, ea, o.froz⟩
      · obtain ⟨v, e1, r⟩ := s.sh j e' (get_set_ne h n)
        exact ⟨v, e1, r.mono (fun _ x => .inl x) Kept.refl⟩
    · by_cases n : i = j
      · subst n
        obtain ⟨q, _⟩ := get_set_eq h
        cases q
      · obtain ⟨b, e1, ob, nb, nb0⟩ := s.ow j e' (get_set_ne h n)
        refine ⟨b, e1, ob.kept (fun _ x => .inl x) Kept.refl rfl, fun f => ?_, nb0⟩
        rcases f with f | f
        · exact nb f
        · subst f
          exact n (s.ne i j d e' b e (get_set_ne h n) ea e1)
    · by_cases n : i = j
      · subst n
        obtain ⟨q, _⟩ := get_set_eq h
        cases q
      · exact s.br j e' (get_set_ne h n)
    · by_cases n : i = j
      · subst n; obtain ⟨q, _⟩ := get_set_eq h1; cases q
      · by_cases m : i = k
        · subst m; obtain ⟨q, _⟩ := get_set_eq h2; cases q
        · exact s.ne j k d1 e1 b (get_set_ne h1 n) (get_set_ne h2 m) h3 h4
    · by_cases n : i = j
      · subst n; obtain ⟨q, _⟩ := get_set_eq h; cases q
      · obtain ⟨w, A, e1, r', nb⟩ := s.ob j c n' fs (get_set_ne h n)
        refine ⟨w, A, e1, r'.kept (fun _ x => .inl x) Kept.refl (fun b hb f => ?_) (fun _ _ => rfl), fun k d' b h1 h2 => ?_⟩
        · rcases f with f | f
          · obtain ⟨_, _, _, nf', _⟩ := r'.there b hb
            exact nf' f
          · subst f
            exact nb i d b e ea hb
        · by_cases m : i = k
          · subst m; obtain ⟨q, _⟩ := get_set_eq h1; cases q
          · exact nb k d' b (get_set_ne h1 m) h2
    · by_cases n : i = j
      · subst n; obtain ⟨q, _⟩ := get_set_eq h1; cases q
      · by_cases m : i = k
        · subst m; obtain ⟨q, _⟩ := get_set_eq h2; cases q
        · exact s.ob1 j k c n' c' n'' fs fs' (get_set_ne h1 n) (get_set_ne h2 m)
  · exact ⟨F, Stay.refl, s⟩

/-! ### small statements -/
variable {st : Stmt} {rest sts : List Stmt} {e : Expr} {pos : Pos} {f g : Dl → RS} {fe : Dl → Re PyData} {ft : Dl → Re Bool}
theorem vs_frz (i : Nat) (h : VSt X W st f) : VSt X W st (fun δ => f (frzD i δ)) := PS.imp h fun D σ H ⟨F0, H0, F, δ, s, q⟩ => by
  obtain ⟨F', g, s'⟩ := s.frz i
  exact ⟨F0, H0, F', _, s', q.stay g⟩
def seqS (f g : Dl → RS) (δ : Dl) : RS := (f δ).bnd g
theorem SO.seq {r : RS} (h : SO K W F0 H0 F H D (r.bnd g)) : SO K W F0 H0 F H { D with nx := tS K W g D } r := by
  cases r with
  | nx δ => exact fun F' H' σ' st s => ⟨F0, H0, F', δ, s, SO.stay (r := g δ) h st⟩
  | bk δ => exact h
  | ct δ => exact h
  | rt d => exact h
  | rf d => exact h
  | ex x => exact h
  | no => exact h
def nxS : Dl → RS := fun δ => .nx δ
theorem vss_nil : VSs X W [] nxS := PSs.imp pss_nil fun D σ H ⟨F0, H0, F, δ, s, q⟩ => q F H σ Stay.refl s
theorem vss_cons (h1 : VSt X W st f) (h2 : VSs X W rest g) : VSs X W (st :: rest) (seqS f g) := PSs.imp (pss_cons h1 h2) fun D σ H ⟨F0, H0, F, δ, s, q⟩ => ⟨F0, H0, F, δ, s, SO.seq q⟩
theorem vss_one (h1 : VSt X W st f) : VSs X W [st] f := pss_one h1
def bkS : Dl → RS := fun δ => .bk δ
def ctS : Dl → RS := fun δ => .ct δ
theorem vs_pass : VSt X W (.Pass pos) nxS := PS.imp ps_pass fun D σ H ⟨F0, H0, F, δ, s, q⟩ => q F H σ Stay.refl s
theorem vs_break : VSt X W (.Break pos) bkS := PS.imp ps_break fun D σ H ⟨F0, H0, F, δ, s, q⟩ => q F H σ Stay.refl s
theorem vs_continue : VSt X W (.Continue pos) ctS := PS.imp ps_continue fun D σ H ⟨F0, H0, F, δ, s, q⟩ => q F H σ Stay.refl s
def noS : Dl → RS := fun _ => .no
theorem vs_never : VSt X W st noS := PS.imp ps_never fun D σ H ⟨F0, H0, F, δ, s, q⟩ => q
theorem vss_never : VSs X W sts noS := PSs.imp pss_never fun D σ H ⟨F0, H0, F, δ, s, q⟩ => q
def retS (f : Dl → Re PyData) (δ : Dl) : RS := toS (f δ) .rt
theorem vs_ret (h : VE X W e fe) : VSt X W (.Return (some e) pos) (retS fe) := PS.imp (ps_ret h) fun D σ H ⟨F0, H0, F, δ, s, q⟩ =>
  ⟨F, δ, s.e, SO.go (P := pS X.K) s q fun d v F1 H1 e g p h1 => h1 v F1 H1 Stay.refl (s.g.trans g) p⟩
/-- a new value handed back -/
def retF (f : Dl → Re PyData) (δ : Dl) : RS := toS (f δ) .rf
theorem vs_retF (h : VP X W (pF X.K) e fe) : VSt X W (.Return (some e) pos) (retF fe) := PS.imp (ps_ret h) fun D σ H ⟨F0, H0, F, δ, s, q⟩ =>
  ⟨F, δ, s.e, SO.go (P := pF X.K) s q fun d v F1 H1 e g p h1 => h1 v F1 H1 Stay.refl (s.g.trans g) (pF_mon.mon s.g p)⟩
def retN : Dl → RS := fun _ => .rt .none
theorem vs_retN : VSt X W (.Return none pos) retN := PS.imp ps_retN fun D σ H ⟨F0, H0, F, δ, s, q⟩ => q _ F H Stay.refl s.g .non
/-- an expression whose value is dropped -/
def dropS (f : Dl → Re PyData) (δ : Dl) : RS := toS (f δ) fun _ => .nx δ
theorem vs_expr {P : PP} (h : VP X W P e fe) (hs : swapsWith e none pos.line X.env = pure false := by rfl) : VSt X W (.Expr e pos) (dropS fe) := PS.imp (ps_expr h hs) fun D σ H ⟨F0, H0, F, δ, s, q⟩ =>
  ⟨F, δ, s.e, SO.go (P := P) s q fun d v F1 H1 e g p h1 => h1 F1 H1 σ Stay.refl (s.grow g)⟩
def ifS (t : Dl → Re Bool) (f g : Dl → RS) (δ : Dl) : RS := toS (t δ) fun b => if b = true then f δ else g δ
theorem vs_if {c : Expr} {p q : List Stmt} (hc : VT X W c ft) (ha : VSs X W p f) (hb : VSs X W q g) : VSt X W (.If c p q pos) (ifS ft f g) := PS.imp (ps_if hc ha hb) fun D σ H ⟨F0, H0, F, δ, s, q⟩ =>
  ⟨F, δ, s.e, SO.goT s q fun b F1 H1 e g h1 => by
    cases b with
    | true => rw [if_pos rfl] at h1 ⊢; exact ⟨F0, H0, F1, δ, s.grow g, h1⟩
    | false => rw [if_neg Bool.false_ne_true] at h1 ⊢; exact ⟨F0, H0, F1, δ, s.grow g, h1⟩⟩
/-- x = e, the value shared; the new object its own -/
def setS (i : Nat) (f : Dl → Re PyData) (δ : Dl) : RS := toS (f δ) fun d => .nx (δ.set i (.sh d))
def setO (i : Nat) (f : Dl → Re PyData) (δ : Dl) : RS := toS (f δ) fun d => .nx (δ.set i (.ow d))
theorem Sok.notOwn {i : Nat} {a : Addr} (s : Sok K F0 H0 F H σ δ) (h : H a = none) : ∀ (j : Nat) (e : PyData), δ[j]? = some (Sl.ow e) → j ≠ i → σ[j]? ≠ some (some (.ref a)) := fun j e q _ z => by
  obtain ⟨b, e1, o, _⟩ := s.ow j e q
  rw [e1] at z
  cases z
  obtain ⟨u, hu, _⟩ := o.there
  rw [h] at hu; cases hu
theorem ObR.notIn {v : V} {c n : Int} {fs : List (Str × Bool × PyData)} {A : List Addr} {F' : Addr → Prop} {H' : Hp} (r : ObR K F' H' H0 v c n fs A) (s : ∃ A' c' n', ObR K F H H0 v c' n' fs A') (k : ∀ b o, H b = some o → H' b = some o) {a : Addr} (h : H a = none) : a ∉ A := fun ha => by
  obtain ⟨A', c', n', r'⟩ := s
  have e := r'.uniq r fun b hb => by
    obtain ⟨u, hu, _⟩ := r'.there b hb
    exact (k b u hu).trans hu.symm
  subst e
  obtain ⟨u, hu, _⟩ := r'.there a ha
  rw [h] at hu
  cases hu
theorem t_setS {i : Nat} {σ : L2.St} {H : Hp} (h : tS X.K W (setS i fe) D σ H) : tAsg (tP X.K W (pS X.K) fe) (gName i) D σ H := by
  obtain ⟨F0, H0, F, δ, s, q⟩ := h
  exact ⟨F, δ, s.e, SO.go (P := pS X.K) s q fun d v F1 H1 e g p h1 => h1 F1 H1 _ Stay.refl ((s.grow g).setSh p)⟩
theorem t_setO {i : Nat} {σ : L2.St} {H : Hp} (h : tS X.K W (setO i fe) D σ H) : tAsg (tP X.K W (pF X.K) fe) (gName i) D σ H := by
  obtain ⟨F0, H0, F, δ, s, q⟩ := h
  refine ⟨F, δ, s.e, SO.go (P := pF X.K) s q fun d v F1 H1 e g p h1 => ?_⟩
  obtain ⟨a, ea, hn, nf, o⟩ := p
  subst ea
  exact h1 F1 H1 _ Stay.refl ((s.grow g).setOw o nf (s.g.same.free hn) (fun j e' q' nj => s.notOwn hn j e' q' nj) fun j c n fs w A ej es r => by
    obtain ⟨w', A', e1, r', _⟩ := s.ob j c n fs ej
    rw [es] at e1
    cases e1
    exact r.notIn ⟨A', c, n, r'⟩ g.same hn)
theorem vs_set {i : Nat} {x : Str} {pos' : Pos} (hN : X.N.Nodup) (hi : X.N[i]? = some x) (hx : Loc X.env.scope x) (he : VE X W e fe) (hf : X.fn x = true ∨ X.env.scope.names.lookup x = some .local := by first | exact .inl rfl | exact .inr rfl) (hs : swapsWith e (some (.Name x pos')) pos.line X.env = pure false := by rfl) :
    VSt X W (.Assign [.Name x pos'] e pos) (setS i fe) := PS.imp (ps_set hN hi hx he hs hf) fun D σ H h => t_setS h
theorem vs_setO {i : Nat} {x : Str} {pos' : Pos} (hN : X.N.Nodup) (hi : X.N[i]? = some x) (hx : Loc X.env.scope x) (he : VF X W e fe) (hf : X.fn x = true ∨ X.env.scope.names.lookup x = some .local := by first | exact .inl rfl | exact .inr rfl) (hs : swapsWith e (some (.Name x pos')) pos.line X.env = pure false := by rfl) :
    VSt X W (.Assign [.Name x pos'] e pos) (setO i fe) := PS.imp (ps_set hN hi hx he hs hf) fun D σ H h => t_setO h
end
end VS
end
section
namespace VS
open PySem PySem.Spec PyProof.Rows L2

/-! ### exceptions -/
def EW (mg : Str → Option Value) (W : XW) : XK := fun cls d H => d = none ∧ ∃ nm, mg nm = some cls ∧ W (.mk nm []) H
def XOk (X : Cx) (W : XW) : Prop := Takes X fun cls d _ H => EW X.mg W cls d H
theorem xok0 {X : Cx} : XOk X XW0 := takes0.imp fun _ _ _ _ h => by obtain ⟨_, _, _, z⟩ := h; exact z
/-- the other way: what a def's caller wants -/
def EWI (mg : Str → Option Value) (E : XK) : XW := fun x H => match x with
  | .mk nm fs => fs = [] → ∀ cls, mg nm = some cls → E cls none H
theorem ewi_ew {mg : Str → Option Value} {W : XW} {x : Xn} {H : Hp} (h : W x H) : EWI mg (EW mg W) x H := by
  obtain ⟨nm, fs⟩ := x
  intro e cls hm
  subst e
  exact ⟨rfl, nm, hm, h⟩
theorem Go.ewi {mg : Str → Option Value} {W : XW} {P : PP} {F : Addr → Prop} {H : Hp} {r : Re D} {Q : VK} (h : Go W P F H r Q) : Go (EWI mg (EW mg W)) P F H r Q := by
  cases r with
  | ok d => exact h
  | ex x => exact fun F' H' g => ewi_ew (h F' H' g)
  | no => exact h

/-! ### a def -/
inductive ArgsR (K : PySem.W.Frag) (F : Addr → Prop) (H : Hp) : List V → List Sl → Prop
  | nil : ArgsR K F H [] []
  | sh {v : V} {vs : List V} {d : D} {δ : List Sl} : Rp K F H v d → ArgsR K F H vs δ → ArgsR K F H (v :: vs) (.sh d :: δ)
  | br {a : Addr} {vs : List V} {ns : List Int} {δ : List Sl} : ScrR K H a ns → ArgsR K F H vs δ → ArgsR K F H (.ref a :: vs) (.br ns :: δ)
theorem ArgsR.of {K : PySem.W.Frag} {F : Addr → Prop} {H : Hp} : ∀ {vs : List V} {ds : List D}, RpA K F H vs ds → ArgsR K F H vs (ds.map .sh)
  | _, _, .nil => .nil
  | _, _, .cons h t => .sh h (ArgsR.of t)
theorem ArgsR.length {K : PySem.W.Frag} {F : Addr → Prop} {H : Hp} : ∀ {vs : List V} {δ : List Sl}, ArgsR K F H vs δ → vs.length = δ.length
  | _, _, .nil => rfl
  | _, _, .sh _ t => congrArg (· + 1) t.length
  | _, _, .br _ t => congrArg (· + 1) t.length
theorem ArgsR.at {K : PySem.W.Frag} {F : Addr → Prop} {H : Hp} : ∀ {vs : List V} {δ : List Sl}, ArgsR K F H vs δ → ∀ (i : Nat) (s : Sl), δ[i]? = some s → ∃ v, vs[i]? = some v ∧ ((∃ d, s = .sh d ∧ Rp K F H v d) ∨ ∃ ns a, s = .br ns ∧ v = .ref a ∧ ScrR K H a ns)
  | _, _, .nil, i, s, e => by simp at e
  | _, _, .sh h t, 0, s, e => by simp at e; subst e; exact ⟨_, rfl, .inl ⟨_, rfl, h⟩⟩
  | _, _, .br h t, 0, s, e => by simp at e; subst e; exact ⟨_, rfl, .inr ⟨_, _, rfl, rfl, h⟩⟩
  | _, _, .sh h t, i + 1, s, e => by
    obtain ⟨v, e1, q⟩ := ArgsR.at t i s (by simpa using e)
    exact ⟨v, by simpa using e1, q⟩
  | _, _, .br h t, i + 1, s, e => by
    obtain ⟨v, e1, q⟩ := ArgsR.at t i s (by simpa using e)
    exact ⟨v, by simpa using e1, q⟩
/-- a def's promise -/
def SpG (K : PySem.W.Frag) (mg : Str → Option Value) (n : Nat) (f : List Sl → Re D) : Sp := fun vs H Q E => vs.length = n ∧ ∃ F δ, Dom F H ∧ ArgsR K F H vs δ ∧ Go (EWI mg E) (pS K) F H (f δ) Q
/-- .. of a def that hands back a new value -/
def SpF (K : PySem.W.Frag) (mg : Str → Option Value) (n : Nat) (f : List Sl → Re D) : Sp := fun vs H Q E => vs.length = n ∧ ∃ F δ, Dom F H ∧ ArgsR K F H vs δ ∧ Go (EWI mg E) (pF K) F H (f δ) Q
/-- a body's outcome as a call's -/
def outR : RS → Re D
  | .nx _ => .ok .none
  | .rt d => .ok d
  | .rf d => .ok d
  | .ex x => .ex x
  | _ => .no
@[simp] theorem outR_rf (d : D) : outR (.rf d) = .ok d := Eq.trans rfl (Eq.refl _)
/-- .. that is new -/
def outF : RS → Re D
  | .rf d => .ok d
  | .ex x => .ex x
  | _ => .no
@[simp] theorem outF_rf (d : D) : outF (.rf d) = .ok d := Eq.trans rfl (Eq.refl _)
@[simp] theorem outF_ex (x : Xn) : outF (.ex x) = .ex x := Eq.trans rfl (Eq.refl _)
def fnF (b : Dl → RS) (m : Nat) (δ : List Sl) : Re D := outF (b (δ ++ List.replicate m .no))
@[simp] theorem outR_nx (δ : Dl) : outR (.nx δ) = .ok .none := Eq.trans rfl (Eq.refl _)
@[simp] theorem outR_rt (d : D) : outR (.rt d) = .ok d := Eq.trans rfl (Eq.refl _)
@[simp] theorem outR_ex (x : Xn) : outR (.ex x) = .ex x := Eq.trans rfl (Eq.refl _)
def fnR (b : Dl → RS) (m : Nat) (δ : List Sl) : Re D := outR (b (δ ++ List.replicate m .no))
theorem start_sok {K : PySem.W.Frag} {F : Addr → Prop} {H : Hp} {N : List Str} {vs : List V} {δ : List Sl} {n m : Nat} (dm : Dom F H) (r : ArgsR K F H vs δ) (hl : vs.length = n) (hN : N.length = n + m) : Sok K F H F H (L2.start N vs) (δ ++ List.replicate m .no) := by
  have e1 := r.length
  have fst : ∀ (i : Nat) (s : Sl), (δ ++ List.replicate m Sl.no)[i]? = some s → s ≠ .no → ∃ v, (L2.start N vs)[i]? = some (some v) ∧ ((∃ d, s = .sh d ∧ Rp K F H v d) ∨ ∃ ns a, s = .br ns ∧ v = .ref a ∧ ScrR K H a ns) := fun i s e hs => by
    have hi : i < δ.length := by
      by_cases hi : i < δ.length
      · exact hi
      · rw [List.getElem?_append_right (by omega), List.getElem?_replicate] at e
        split at e
        · exact (hs (Option.some.inj e).symm).elim
        · cases e
    rw [List.getElem?_append_left hi] at e
    obtain ⟨v, ev, q⟩ := r.at i s e
    refine ⟨v, ?_, q⟩
    unfold L2.start
    rw [List.getElem?_append_left (by rw [List.length_map]; omega), List.getElem?_map, ev]
    rfl
  refine ⟨?_, Grow.refl, dm, dm, fun i d e => ?_, fun i d e => ?_, fun i ns e => ?_, fun i j d e a h _ _ _ => ?_, fun i c n' fs h => ?_, fun i j c n' c' n'' fs fs' h _ => ?_⟩
  · unfold L2.start
    rw [List.length_append, List.length_append, List.length_map, List.length_replicate, List.length_replicate]
    omega
  · obtain ⟨v, ev, q⟩ := fst i _ e (fun z => nomatch z)
    rcases q with ⟨d', z, r⟩ | ⟨_, _, z, _⟩
    · cases z; exact ⟨v, ev, r⟩
    · cases z
  · obtain ⟨v, ev, q⟩ := fst i _ e (fun z => nomatch z)
    rcases q with ⟨d', z, r⟩ | ⟨_, _, z, _⟩ <;> cases z
  · obtain ⟨v, ev, q⟩ := fst i _ e (fun z => nomatch z)
    rcases q with ⟨d', z, r⟩ | ⟨ns', a, z, ez, r⟩
    · cases z
    · cases z; subst ez; exact ⟨a, ev, r⟩
  · obtain ⟨v, ev, q⟩ := fst i _ h (fun z => nomatch z)
    rcases q with ⟨d', z, r⟩ | ⟨_, _, z, _⟩ <;> cases z
  · obtain ⟨v, ev, q⟩ := fst i _ h (fun z => nomatch z)
    rcases q with ⟨d', z, r⟩ | ⟨_, _, z, _⟩ <;> cases z
  · obtain ⟨v, ev, q⟩ := fst i _ h (fun z => nomatch z)
    rcases q with ⟨d', z, r⟩ | ⟨_, _, z, _⟩ <;> cases z
section
variable {P : Program} {w : World} {K : PySem.W.Frag} {mg : Str → Option Value} {base : Heap} {x qual : Str} {params : Arguments} {body : List Stmt} {scope : Scope} {f : Addr} {fd : FuncData} {N ps : List Str} {k m : Nat} {b : Dl → RS}
theorem fn_vs (F : FunD K x qual params body scope [] [] f fd) (S : FnScope N ps scope) (hm : N.length = ps.length + m)
    (hb : ∀ (cdv : Value) (A : Around) (outer : List Env) (s : Shared) (H : Hp) (E : XK) (W : XW), Room k (A.deeper (envOfC qual scope s.heap.objs.size f cdv)) → XOk (cxOf (L2.CX P w) P w K mg base N qual scope f cdv A outer s H E) W →
      VSs (cxOf (L2.CX P w) P w K mg base N qual scope f cdv A outer s H E) W body b) :
    FnOk P w K mg base (L2.CX P w) (k + 1) f fd ps (SpG K mg ps.length (fnR b m)) := by
  refine F.ok S (fun vs H Q E h => h.1) fun cdv A outer s H vs Q E hr h => ?_
  have tk : XOk (cxOf (L2.CX P w) P w K mg base N qual scope f cdv A outer s H E) (EWI mg E) :=
    (takes_of (X := cxOf (L2.CX P w) P w K mg base N qual scope f cdv A outer s H E) rfl rfl rfl rfl).imp fun cls d _ H' ⟨ed, nm, em, q⟩ => by
      subst ed
      exact q rfl cls em
  refine ⟨_, hb cdv A outer s H E _ hr tk, ?_⟩
  obtain ⟨hl, F1, δ, dm, r, g⟩ := h
  refine ⟨F1, H, F1, _, start_sok dm r hl hm, ?_⟩
  unfold fnR at g
  generalize b (δ ++ List.replicate m .no) = o at g ⊢
  cases o with
  | nx δ' => exact fun F' H' σ' _ s => g .non F' H' s.g .non
  | rt d => exact fun v F' H' _ g' r => g v F' H' g' r
  | rf d =>
      intro v F' H' _ g' r'
      obtain ⟨a, ev, na, nf, o⟩ := r'
      obtain ⟨u, hu, _⟩ := o.there
      subst ev
      exact g (.ref a) (plus F' a) H' (g'.freeze na (by rw [hu]; exact fun z => nomatch z)) o.froz
  | ex x => exact fun F' H' _ g' => g F' H' g'
  | bk δ' => exact g.elim
  | ct δ' => exact g.elim
  | no => exact g.elim
/-- a def that hands back a new value -/
theorem fn_vsF (F : FunD K x qual params body scope [] [] f fd) (S : FnScope N ps scope) (hm : N.length = ps.length + m)
    (hb : ∀ (cdv : Value) (A : Around) (outer : List Env) (s : Shared) (H : Hp) (E : XK) (W : XW), Room k (A.deeper (envOfC qual scope s.heap.objs.size f cdv)) → XOk (cxOf (L2.CX P w) P w K mg base N qual scope f cdv A outer s H E) W →
      VSs (cxOf (L2.CX P w) P w K mg base N qual scope f cdv A outer s H E) W body b) :
    FnOk P w K mg base (L2.CX P w) (k + 1) f fd ps (SpF K mg ps.length (fnF b m)) := by
  refine F.ok S (fun vs H Q E h => h.1) fun cdv A outer s H vs Q E hr h => ?_
  have tk : XOk (cxOf (L2.CX P w) P w K mg base N qual scope f cdv A outer s H E) (EWI mg E) :=
    (takes_of (X := cxOf (L2.CX P w) P w K mg base N qual scope f cdv A outer s H E) rfl rfl rfl rfl).imp fun cls d _ H' ⟨ed, nm, em, q⟩ => by
      subst ed
      exact q rfl cls em
  refine ⟨_, hb cdv A outer s H E _ hr tk, ?_⟩
  obtain ⟨hl, F1, δ, dm, r, g⟩ := h
  refine ⟨F1, H, F1, _, start_sok dm r hl hm, ?_⟩
  unfold fnF at g
  generalize b (δ ++ List.replicate m .no) = o at g ⊢
  cases o with
  | rf d => exact fun v F' H' _ g' r => g v F' H' g' r
  | ex x => exact fun F' H' _ g' => g F' H' g'
  | nx δ' => exact g.elim
  | rt d => exact g.elim
  | bk δ' => exact g.elim
  | ct δ' => exact g.elim
  | no => exact g.elim
theorem spF_spG {n : Nat} {g : List Sl → Re D} {vs : List V} {H : Hp} {Q : VK} {E : XK} (h : SpG K mg n g vs H Q E) : SpF K mg n g vs H Q E := by
  obtain ⟨hl, F1, δ, dm, r, q⟩ := h
  refine ⟨hl, F1, δ, dm, r, ?_⟩
  generalize g δ = o at q ⊢
  cases o with
  | ok d =>
      intro v F' H' g' r'
      obtain ⟨a, ev, na, nf, o⟩ := r'
      obtain ⟨u, hu, _⟩ := o.there
      subst ev
      exact q (.ref a) (plus F' a) H' (g'.freeze na (by rw [hu]; exact fun z => nomatch z)) o.froz
  | ex x => exact q
  | no => exact q
theorem fnF_fnG {fd : FuncData} {ps : List Str} {n : Nat} {g : List Sl → Re D} {k : Nat} (F : FnOk P w K mg base (L2.CX P w) k f fd ps (SpF K mg n g)) : FnOk P w K mg base (L2.CX P w) k f fd ps (SpG K mg n g) :=
  ⟨fun vs H Q E h => F.len vs H Q E (spF_spG h), fun A outer s H args us vs Q E hr e0 b r h => F.run A outer s H args us vs Q E hr e0 b r (spF_spG h)⟩
theorem fn_zeroF {k : Nat} {ps : List Str} (n : Nat) (hn : ∀ vs : List V, vs.length = n → vs.length = ps.length) : FnOk P w K mg base (L2.CX P w) k f fd ps (SpF K mg n fun _ => .no) :=
  ⟨fun vs H Q E h => hn vs h.1, fun A outer s H args us vs Q E _ _ _ _ h => by obtain ⟨_, _, _, _, _, z⟩ := h; exact z.elim⟩
theorem fn_zero {k : Nat} {ps : List Str} (n : Nat) (hn : ∀ vs : List V, vs.length = n → vs.length = ps.length) : FnOk P w K mg base (L2.CX P w) k f fd ps (SpG K mg n fun _ => .no) :=
  ⟨fun vs H Q E h => hn vs h.1, fun A outer s H args us vs Q E _ _ _ _ h => by obtain ⟨_, _, _, _, _, z⟩ := h; exact z.elim⟩
end

/-! ### a call -/
section
variable {X : Cx} {W : XW} {k : Nat} {f : Addr} {fd : FuncData} {ps : List Str} {g : List Sl → Re D} {x : Str} {p pos : Pos} {e : Expr} {es : List Expr} {fl : List (Dl → Re D)}
theorem passesW (tk : XOk X W) : Passes (L2.CX X.prog X.w) X (EW X.mg W) := passes_call tk fun _ _ _ _ h => h
theorem argsF_len : ∀ {fl : List (Dl → Re D)} {δ : Dl} {ds : List D}, argsF fl δ = .ok ds → ds.length = fl.length
  | [], δ, ds, h => by
    unfold argsF at h
    cases h; rfl
  | f :: fl, δ, ds, h => by
    unfold argsF at h
    cases e1 : f δ with
    | no => rw [e1] at h; cases h
    | ex x => rw [e1] at h; cases h
    | ok d =>
      rw [e1] at h
      change ((argsF fl δ).bnd fun ds => .ok (d :: ds)) = _ at h
      cases e2 : argsF fl δ with
      | no => rw [e2] at h; cases h
      | ex x => rw [e2] at h; cases h
      | ok ds' =>
        rw [e2] at h
        cases h
        show ds'.length + 1 = fl.length + 1
        rw [argsF_len e2]
def cD (g : List Sl → Re D) (ds : List D) : Re D := g (ds.map .sh)
/-- what a def of ours is to a caller -/
structure FnE (P : Program) (w : World) (K : PySem.W.Frag) (mg : Str → Option Value) (base : Heap) (k : Nat) (x : Str) (n : Nat) (g : List Sl → Re D) : Prop where
  ex : ∃ f fd ps, FnOk P w K mg base (L2.CX P w) k f fd ps (SpG K mg n g) ∧ mg x = some (.ref f) ∧ PySem.W.keepIn K (.ref f) = true ∧ Binds K fd ps []
abbrev Fn (X : Cx) (k : Nat) (x : Str) (n : Nat) (g : List Sl → Re D) : Prop := FnE X.prog X.w X.K X.mg X.base k x n g
theorem ve_call (FN : Fn X k x fl.length g) (hr : Room k X.A) (tk : XOk X W) (hg : Gl X x) (ha : VA X W Rp (e :: es) (argsF fl))
    (hdb : (x == ("__debug__" : Str)) = false := by decide) (he : starEach (e :: es) X.env = (false, eval e X.env) :: starEach es X.env := by rfl) (hpl : (backTo pos (starEach es X.env)).any (·.1) = false := by rfl) :
    VE X W (.Call (.Name x p) (e :: es) [] pos) (dA (argsF fl) (cD g)) := by
  obtain ⟨f, fd, ps, F, hm, hk, hb⟩ := FN.ex
  refine PE.imp (pe_call F hr hg hm hk hb .nil (passesW tk) ha hdb he hpl) fun σ H Q ⟨F1, δ, s, h⟩ => ⟨F1, δ, s, GoA.bnd (X := X) pS_mon h fun ds vs F2 H2 eq g2 r h1 => ?_⟩
  rw [List.append_nil]
  exact ⟨by rw [r.a.length, argsF_len eq], F2, _, g2.dom s.dom, ArgsR.of r.a, Go.ewi h1⟩
/-- the call of a def that hands back a new value -/
structure FnEF (P : Program) (w : World) (K : PySem.W.Frag) (mg : Str → Option Value) (base : Heap) (k : Nat) (x : Str) (n : Nat) (g : List Sl → Re D) : Prop where
  ex : ∃ f fd ps, FnOk P w K mg base (L2.CX P w) k f fd ps (SpF K mg n g) ∧ mg x = some (.ref f) ∧ PySem.W.keepIn K (.ref f) = true ∧ Binds K fd ps []
theorem FnEF.toE {P : Program} {w : World} {K : PySem.W.Frag} {mg : Str → Option Value} {base : Heap} {n : Nat} (F : FnEF P w K mg base k x n g) : FnE P w K mg base k x n g := by
  obtain ⟨f, fd, ps, h, r⟩ := F.ex
  exact ⟨f, fd, ps, fnF_fnG h, r⟩
theorem vp_callF (FN : FnEF X.prog X.w X.K X.mg X.base k x fl.length g) (hr : Room k X.A) (tk : XOk X W) (hg : Gl X x) (ha : VA X W Rp (e :: es) (argsF fl))
    (hdb : (x == ("__debug__" : Str)) = false := by decide) (he : starEach (e :: es) X.env = (false, eval e X.env) :: starEach es X.env := by rfl) (hpl : (backTo pos (starEach es X.env)).any (·.1) = false := by rfl) :
    VP X W (pF X.K) (.Call (.Name x p) (e :: es) [] pos) (dA (argsF fl) (cD g)) := by
  obtain ⟨f, fd, ps, F, hm, hk, hb⟩ := FN.ex
  refine PE.imp (pe_call F hr hg hm hk hb .nil (passesW tk) ha hdb he hpl) fun σ H Q ⟨F1, δ, s, h⟩ => ⟨F1, δ, s, GoA.bnd (X := X) pF_mon h fun ds vs F2 H2 eq g2 r h1 => ?_⟩
  rw [List.append_nil]
  exact ⟨by rw [r.a.length, argsF_len eq], F2, _, g2.dom s.dom, ArgsR.of r.a, Go.ewi h1⟩
/-- f(script, n) -/
def dScr (i : Nat) (fb : Dl → Re D) (g : List Sl → Re D) (δ : Dl) : Re D := match δ[i]? with
  | some (.br ns) => (fb δ).bnd fun d => g [.br ns, .sh d]
  | _ => .no
theorem ve_callScr {i : Nat} {y : Str} {py : Pos} {e2 : Expr} {fb : Dl → Re D} (FN : Fn X k x 2 g) (hr : Room k X.A) (tk : XOk X W) (hg : Gl X x) (hy : PE X (.Name y py) (tVar i)) (h2 : VE X W e2 fb)
    (hdb : (x == ("__debug__" : Str)) = false := by decide) (he : starEach [.Name y py, e2] X.env = (false, eval (.Name y py) X.env) :: starEach [e2] X.env := by rfl) (he2 : starEach [e2] X.env = (false, eval e2 X.env) :: starEach [] X.env := by rfl) (hpl : (backTo pos (starEach [e2] X.env)).any (·.1) = false := by rfl) :
    VE X W (.Call (.Name x p) [.Name y py, e2] [] pos) (dScr i fb g) := by
  obtain ⟨f, fd, ps, F, hm, hk, hb⟩ := FN.ex
  refine PE.imp (pe_call F hr hg hm hk hb .nil (passesW tk) (pa_cons hy (pa_cons h2 pa_nil he2) he) hdb he hpl) fun σ H Q ⟨F1, δ, s, h⟩ => ?_
  unfold dScr at h
  split at h
  · rename_i ns en
    obtain ⟨a, ea, ra⟩ := s.sl i _ en
    refine ⟨_, ea, F1, δ, s, Go.bnd pS_mon h fun d v F2 H2 eq g2 r h1 => ?_⟩
    exact ⟨rfl, F2, _, g2.dom s.dom, .br (ra.keep fun b o e _ => g2.same b o e) (.sh r .nil), Go.ewi h1⟩
  · exact h.elim
end

/-! ### raise, try -/
section
variable {X : Cx} {W : XW} {F0 : Addr → Prop} {H0 : Hp} {F : Addr → Prop} {H : Hp} {D : Ends}
def raiS (nm : Str) (_ : Dl) : RS := .ex (.mk nm [])
theorem vs_raise {C : Addr} {bmB : List Value} {B newId initId : String} {x m : Str} {j : Nat} {p p2 pos pos' : Pos} (hc : X.calm = true) (tk : XOk X W) (Fb : ExcBaseFacts B newId initId bmB) (q : PySem.W.excIn X.K C bmB newId = true) (gC : X.mg x = some (.ref C)) (kC : PySem.W.keepIn X.K (.ref C) = true)
    (r : Raises X (.ref C)) (hg : Gl X x) (hdb : (x == ("__debug__" : Str)) = false := by decide) : VSt X W (.Raise (some (.Call (.Name x p) [.Constant (.str m) j p2] [] pos')) none pos) (raiS x) :=
  PS.imp (ps_raise hc tk (pmk_own Fb q gC kC r hg hdb)) fun D σ H ⟨F0, H0, F, δ, s, q⟩ => ⟨rfl, x, gC, q F H Stay.refl s.g⟩
/-- the clauses: which exceptions each takes, what it returns -/
def tryH : List (List (Str × Bool) × PyData) → Xn → RS
  | [], x => .ex x
  | (t, d) :: r, .mk nm fs => if fs = [] then (match t.lookup nm with
    | some true => .rt d
    | some false => tryH r (.mk nm fs)
    | none => .no) else .no
def tryS (f : Dl → RS) (hs : List (List (Str × Bool) × PyData)) (δ : Dl) : RS := match f δ with
  | .ex x => tryH hs x
  | r => r
/-- the clauses as they stand -/
inductive HdV (X : Cx) : List ExceptHandler → List (List (Str × Bool) × PyData) → List (Value × (Addr → Value → Option Addr → TS)) → Prop
  | nil : HdV X [] [] []
  | cons {x : Str} {c : Value} {b₀ : Stmt} {suite : List Stmt} {np pos' : Pos} {hds : List ExceptHandler} {t : List (Str × Bool)} {d : PyData} {h : Dl → RS} {r l} (hc : Names X x c)
      (ht : ∀ nm b, t.lookup nm = some b → ∀ cls, X.mg nm = some cls → PySem.W.exmOne X.K cls c = some b) (hd : ∀ n, h (List.replicate n Sl.no) = .rt d)
      (hsu : ∀ (a : Addr) (pn : List (Addr × Obj)), VSs (X.suite a pn) XW0 (b₀ :: suite) h) (hr : HdV X hds r l) :
      HdV X (.ExceptHandler (some (.Name x np)) none (b₀ :: suite) pos' :: hds) ((t, d) :: r) ((c, fun _ _ _ => tS X.K XW0 h) :: l)
theorem HdV.ok {hds : List ExceptHandler} {hs l} (h : HdV X hds hs l) : HdsOk X hds l := by
  induction h with
  | nil => exact .nil
  | cons hc ht hd hsu hr ih => exact .cons hc (fun a oe cls d pn _ _ => hsu a _) ih
theorem wish_ok {hds : List ExceptHandler} {hs l} (h : HdV X hds hs l) (d0 : Dom F0 H0) {x : Xn} : SO X.K W F0 H0 F H D (tryH hs x) → ∀ F' H', Stay F H F' H' → Grow F0 H0 F' H' → ∀ nm, x = .mk nm [] → ∀ cls σ, X.mg nm = some cls → wMany X.K (fun cls d _ H => EW X.mg W cls d H) D l cls none σ H' := by
  induction h with
  | nil =>
    intro q F' H' st g nm e cls σ hm
    subst e
    exact ⟨rfl, nm, hm, q F' H' st g⟩
  | cons hc ht hd hsu hr ih =>
    rename_i t d h r l
    intro q F' H' st g nm e cls σ hm
    subst e
    unfold tryH at q
    rw [if_pos rfl] at q
    cases el : t.lookup nm with
    | none => rw [el] at q; exact q.elim
    | some b =>
      rw [el] at q
      refine ⟨b, ht nm b el cls hm, fun hb a na => ?_, fun hb => ?_⟩
      · subst hb
        refine ⟨F0, H0, F', List.replicate σ.length .no, ⟨by rw [List.length_replicate], g, d0, g.dom d0, fun i d e => ?_, fun i d e => ?_, fun i d e => ?_, fun i j d e a h _ _ _ => ?_, fun i c n' fs h => ?_, fun i j c n' c' n'' fs fs' h _ => ?_⟩, ?_⟩
        · rw [List.getElem?_replicate] at e; split at e <;> cases e
        · rw [List.getElem?_replicate] at e; split at e <;> cases e
        · rw [List.getElem?_replicate] at e; split at e <;> cases e
        · rw [List.getElem?_replicate] at h; split at h <;> cases h
        · rw [List.getElem?_replicate] at h; split at h <;> cases h
        · rw [List.getElem?_replicate] at h; split at h <;> cases h
        · rw [hd]
          exact fun v F2 H2 st2 g2 rv => q v F2 H2 (st.trans st2) g2 rv
      · subst hb
        exact ih q F' H' st g nm rfl cls σ hm
def WB (mg : Str → Option Value) (W : WX) : XW := fun x H => ∀ nm, x = .mk nm [] → ∀ cls σ, mg nm = some cls → W cls none σ H
theorem vs_try {body : List Stmt} {h₀ : ExceptHandler} {hds : List ExceptHandler} {pos : Pos} {f : Dl → RS} {hs l} (hst : X.stack = X.env :: X.outer) (hf : X.env.frame = some X.env.locals) (tk : XOk X W)
    (hb : ∀ (pn : List (Addr × Obj)) (xe : Value → Shared → Prop) (W' : XW), XOk (X.tr pn xe) W' → PassesOwn (model X.prog X.w) X.A X.env xe → VSs (X.tr pn xe) W' body f) (hh : HdV X (h₀ :: hds) hs l) : VSt X W (.Try body (h₀ :: hds) [] [] pos) (tryS f hs) := by
  refine PS.imp (ps_try_many hst hf tk (tb := fun W' => tS X.K (WB X.mg W') f) (fun W' pn xe tk' hp => hb pn xe _ (tk'.imp fun cls d σ H ⟨ed, nm, hm, q⟩ => by subst ed; exact q nm rfl cls σ hm) hp) hh.ok) fun D σ H ⟨F0, H0, F, δ, s, q⟩ => ⟨F0, H0, F, δ, s, ?_⟩
  unfold tryS at q
  generalize f δ = o at q ⊢
  cases o with
  | nx δ' => exact q
  | rt d => exact q
  | rf d => exact q
  | bk d => exact q
  | ct d => exact q
  | no => exact q
  | ex x => exact fun F' H' st g nm e cls σ' hm => wish_ok hh s.d0 q F' H' st g nm e cls σ' hm
end
end VS
end
section
namespace VS
open PySem PySem.Spec PyProof.Rows L2 RZ

/-! ### enumerate over a tuple -/
set_option maxHeartbeats 1000000 in
theorem enumNew1 {v : Value} {ob : Obj} {Hc : Heap → Prop} (B : Begins v ob Hc) :
    Meets (Builtin.«enumerate.__new__» ⟨[.type "enumerate", v], []⟩) (fun _ R s => Hc s.heap ∧
      R (.ok (.ret (.ref (s.heap.push ob).objs.size))) { s with heap := (s.heap.push ob).push { cls := .type "enumerate", data := .fields #[.none, .bool false, .ref s.heap.objs.size, rawInt 0, .none, .none] } }) :=
  .of_wp fun prog w A R s hall => by
    obtain ⟨hp, g, d, tk, os⟩ := s; obtain ⟨hv, hall⟩ := hall
    have en := sub_enumerate
    have step : ∀ {A' : Around} {E : Value → Shared → Prop} {Q : Value → Shared → Prop}, Q (.ref hp.objs.size) ⟨hp.push ob, g, d, tk, os⟩ → wpAny (model prog w) A' (pyIter v) Q E ⟨hp, g, d, tk, os⟩ :=
      fun q => B.iter prog w _ _ ⟨hp, g, d, tk, os⟩ _ hv q
    wp_walk using step
    refine wpAny_stack_any fun stk => wpAny_pure ?_
    split
    · rename_i cc _ _ _ _ _
      cases (cc == Value.type "enumerate")
      · wp_walk using step
        exact ⟨_, rfl, hall⟩
      · wp_walk using step
        exact ⟨_, rfl, hall⟩
    · wp_walk using step
      exact ⟨_, rfl, hall⟩
theorem enumBegin1 {prog : Program} {w : World} {A : Around} {E : Value → Shared → Prop} {s : Shared} {v : Value} {ob : Obj} {Hc : Heap → Prop} {Q : Value → Shared → Prop} (B : Begins v ob Hc) (hv : Hc s.heap)
    (fin : ∀ h', IsEnum h' (s.heap.objs.size + 1) s.heap.objs.size 0 .none → h'.get? s.heap.objs.size = some ob → (∀ b o, s.heap.get? b = some o → h'.get? b = some o) → Q (.ref (s.heap.objs.size + 1)) { s with heap := h' }) :
    wpAny (model prog w) A (call (.type "enumerate") [v]) Q E s := by
  refine callType_new F.called_enumerate (by decide) (F.typeCall_enumerate_1 _) (F.newCall_enumerate_1 _) (fun o => F.args_object_init_2 o _) F.entry_enumerate_new (enumNew1 B) ⟨hv, ?_⟩
  have sz : (s.heap.push ob).objs.size = s.heap.objs.size + 1 := Heap.size_push ..
  show _ ∧ _
  rw [sz]
  have ie : IsEnum ((s.heap.push ob).push { cls := .type "enumerate", data := .fields #[.none, .bool false, .ref s.heap.objs.size, rawInt 0, .none, .none] }) (s.heap.objs.size + 1) s.heap.objs.size 0 .none := by
    have q := Heap.get?_push_size (s.heap.push ob) (o := { cls := .type "enumerate", data := .fields #[.none, .bool false, .ref s.heap.objs.size, rawInt 0, .none, .none] }) rfl
    rw [sz] at q; exact q
  exact ⟨⟨_, ie, rfl⟩, fin _ ie (Heap.get?_push_of_some _ (Heap.get?_push_size _ B.free)) fun b o x => Heap.get?_push_of_some _ (Heap.get?_push_of_some _ x)⟩
/-- the tuple at a, each item in a new pair -/
def IteT (K : PySem.W.Frag) (a : Addr) : It :=
  ⟨fun i H => ∃ (xs : List V) (x : V), SqT K H a xs ∧ xs[i]? = some x, fun i H v H' => ∃ T x, v = .ref T ∧ H T = none ∧ H' = upd H T (.tup [.int (i : Nat), x]) ∧ ∀ xs, SqT K H a xs → xs[i]? = some x, fun i H => ∃ xs : List V, SqT K H a xs ∧ xs.length = i⟩
theorem turn_enumT {P : Program} {w : World} {K : PySem.W.Frag} {elts : List Expr} {kk : Nat} {tpos : Pos} (a e it : Addr) :
    Turn P w K (.Tuple elts kk tpos) (IteT K a) [e, it] e (fun i h => (∃ old, IsEnum h e it ((i : Nat) : Int) old) ∧ h.IsTupleIter it a i ∧ e ≠ it) where
  mem := by simp
  obj := fun i h st b hb => by
    obtain ⟨⟨old, he⟩, ⟨o, ho, hc, hd⟩, _⟩ := st
    have eb : b = e ∨ b = it := by simpa using hb
    rcases eb with z | z
    · rw [z]; exact ⟨_, he, fun v q => nomatch q⟩
    · rw [z]; exact ⟨o, ho, fun v q => by rw [hd] at q; cases q⟩
  keep := fun i h h' st k => let ⟨⟨old, he⟩, hi, hne⟩ := st; ⟨⟨old, k e (by simp) _ he⟩, hi.at fun o q => k it (by simp) o q, hne⟩
  item := by
    intro X hP hw hK hc i pins s σ H E I hf st hg
    subst hP hw hK
    obtain ⟨⟨old, he⟩, hit, hne⟩ := st
    obtain ⟨xs, x, hq, hx⟩ := hg
    obtain ⟨its, rv, p, hz⟩ := I.tuple hq
    obtain ⟨u, hu, ru⟩ := rv.get hx
    have pT : s.heap.IsTuple a its.toArray := p
    have hel : e < s.heap.objs.size := Heap.lt_size he
    have hil : it < s.heap.objs.size := by obtain ⟨_, q, _⟩ := hit; exact Heap.lt_size q
    have ait : a ≠ it := fun z => by
      obtain ⟨o1, q1, c1, _⟩ := hit
      obtain ⟨o2, q2, c2, _⟩ := p
      rw [z, q1] at q2
      cases q2
      rw [c1] at c2
      exact absurd c2 (by decide)
    have ae : e ≠ a := fun z => by
      obtain ⟨o2, q2, c2, _⟩ := p
      rw [← z, he] at q2
      cases q2
      have c3 : Value.type "enumerate" = Value.type "tuple" := c2
      exact absurd c3 (by decide)
    have hil2 : i < its.toArray.size := by
      have := (List.getElem?_eq_some_iff.mp hu).1
      simpa using this
    have D := Draws.tuple (prog := X.prog) (w := X.w) (A := X.A.in1) (I.ok.hd hc) it a ait its.toArray
    refine wpAny_pyNext_enum_itemD D he ⟨hit, pT⟩ hil2 hne (by simp [hne, ae]) fun x' h' tk hP' ho hst' hT hsz hk => ?_
    have ex : x' = u := by
      have : its[i]? = some x' := by simpa using hP'
      rw [hu] at this
      exact (Option.some.inj this).symm
    subst ex
    refine ⟨_, rfl, wpAny_letOwnedTupleGo_enum (s := { s with heap := h', toks := tk + 1 }) ho fun h2 he' sb => ?_⟩
    have hT2 : h2.get? s.heap.objs.size = some { cls := .type "tuple", data := .seq #[.int i tk, x'] } := (sb.2 _ (Nat.ne_of_gt hel)).trans hT
    have new : ObjOk X.prog X.w (upd H s.heap.objs.size (.tup [.int (i : Nat), x])) h2 s.heap.objs.size (.tup [.int (i : Nat), x]) :=
      ⟨by show 2 ≤ sizeLine; decide, [.int i tk, x'], .cons ⟨_, rfl⟩ (.cons ru .nil), ⟨_, hT2, rfl, _, rfl⟩⟩
    have I1 : Inv X pins σ (upd H s.heap.objs.size (.tup [.int (i : Nat), x])) { s with heap := h2, toks := tk + 1 } :=
      I.turnedNew (ch := [e, it]) (fun b ob hb q => (sb.2 b (fun z => hb (by simp [z]))).trans (hk b ob (fun z => hb (by simp [z])) (fun z => hb (by simp [z])) q)) hf (Nat.le_refl _) new
    refine ⟨.ref s.heap.objs.size, _, I1, rfl, ⟨_, x, rfl, I.hok.fresh (Nat.le_refl _), rfl, fun ys hy => by rw [I.tuple_inj hy hq]; exact hx⟩, ⟨⟨x', ?_⟩, hst'.1.at fun o q => (sb.2 it (Ne.symm hne)).trans q, hne⟩, fun b hb => ?_⟩
    · have e1 : ((i + 1 : Nat) : Int) = (i : Int) + 1 := by omega
      rw [e1]; exact he'
    · have hb' : b < s.heap.objs.size := by
        have eb : b = e ∨ b = it := by simpa using hb
        rcases eb with z | z
        · rw [z]; exact hel
        · rw [z]; exact hil
      rw [upd_ne (Nat.ne_of_lt hb')]
      exact (hf b hb).1
  done := by
    intro X hP hw hK hc i pins s σ H E I hf st hg
    subst hP hw hK
    obtain ⟨⟨old, he⟩, hit, hne⟩ := st
    obtain ⟨xs, hq, hx⟩ := hg
    obtain ⟨its, rv, p, hz⟩ := I.tuple hq
    have pT : s.heap.IsTuple a its.toArray := p
    obtain ⟨f0, f1, f2, f3, f4, f5⟩ := hf it (by simp)
    have hl := rv.length
    have ait : a ≠ it := fun z => by
      obtain ⟨o1, q1, c1, _⟩ := hit
      obtain ⟨o2, q2, c2, _⟩ := p
      rw [z, q1] at q2
      cases q2
      rw [c1] at c2
      exact absurd c2 (by decide)
    have D := Draws.tuple (prog := X.prog) (w := X.w) (A := X.A.in1) (I.ok.hd hc) it a ait its.toArray
    have ei : i = its.toArray.size := by simp; omega
    exact wpAny_pyNext_enum_endD D he ⟨ei ▸ hit, pT⟩ fun h' eb => ⟨rfl, I.turned (t' := s.toks) (fun b o hb q => eb b o hb q) f0 f1 f3 f4 f5⟩
  self := fun A i s Q E st h => let ⟨⟨_, he⟩, _⟩ := st; wpAny_pyIter_enum he h
def iEnumA (K : PySem.W.Frag) (ta : TA) : TI := fun σ H R => ta σ H fun vs H1 => ∃ a xs, vs = [.ref a] ∧ ((SqL K H1 a xs ∧ R (Ite K a) H1) ∨ (SqT K H1 a xs ∧ R (IteT K a) H1))
theorem pi_enumA {X : Cx} {e : Expr} {ta : TA} {p pos tpos : Pos} {elts : List Expr} {kk : Nat} (hg : Gl X "enumerate") (hm : X.mg "enumerate" = none) (ha : PA X [e] ta) (hs : starEach [e] X.env = [(false, eval e X.env)] := by rfl) :
    PI X (.Tuple elts kk tpos) (.Call (.Name "enumerate" p) [e] [] pos) (iEnumA X.K ta) := by
  refine ⟨fun pins s σ H R I h => ?_⟩
  refine Call_ (ld_blt I hg hm boot_enumerate (PyProof.Rows.callWith_type1 (thn (ha.run pos pins s σ H _ I h) fun us s1 ⟨vs, H1, I1, r1, q1⟩ => ?_) hs rfl))
  obtain ⟨a, xs, ex, q⟩ := q1
  subst ex
  cases r1 with
  | cons r rr =>
    cases rr
    cases r
    have fp : ∀ b ∈ [s1.heap.objs.size + 1, s1.heap.objs.size], FpOk X pins H1 b := fun b hb => by
      have eb : b = s1.heap.objs.size + 1 ∨ b = s1.heap.objs.size := by simpa using hb
      have hle : s1.heap.objs.size ≤ b := by
        rcases eb with z | z
        · rw [z]; exact Nat.le_add_right _ _
        · rw [z]; exact Nat.le_refl _
      exact I1.fpOk hle (I1.hok.fresh hle)
    rcases q with ⟨hq, q⟩ | ⟨hq, q⟩
    · obtain ⟨its, rv, pl, hz⟩ := I1.list hq
      refine enumBegin1 (begins_list a its.toArray) pl.isList fun h' he hit hk => wpAny_pyIter_enum he ?_
      have I2 : Inv X pins σ H1 { s1 with heap := h' } := I1.kept (t' := s1.toks) hk
      exact ⟨s1.heap.objs.size + 1, [s1.heap.objs.size + 1, s1.heap.objs.size], _, _, H1, rfl, I2, turn_enum a (s1.heap.objs.size + 1) s1.heap.objs.size, ⟨⟨.none, he⟩, ⟨_, hit, rfl, rfl⟩, Nat.succ_ne_self _⟩, fp, q⟩
    · obtain ⟨its, rv, pl, hz⟩ := I1.tuple hq
      refine enumBegin1 (begins_tuple a its.toArray) (show s1.heap.IsTuple a its.toArray from pl) fun h' he hit hk => wpAny_pyIter_enum he ?_
      have I2 : Inv X pins σ H1 { s1 with heap := h' } := I1.kept (t' := s1.toks) hk
      exact ⟨s1.heap.objs.size + 1, [s1.heap.objs.size + 1, s1.heap.objs.size], _, _, H1, rfl, I2, turn_enumT a (s1.heap.objs.size + 1) s1.heap.objs.size, ⟨⟨.none, he⟩, ⟨_, hit, rfl, rfl⟩, Nat.succ_ne_self _⟩, fp, q⟩

/-! ### a list, a tuple, a text -/
theorem pi_any {X : Cx} {tg l : Expr} {tl : TE} (hl : PE X l tl) : PI X tg l (fun σ H R => tl σ H fun x H1 => (∃ a xs, x = .ref a ∧ SqL X.K H1 a xs ∧ R (Itl X.K a) H1) ∨ (∃ a xs, x = .ref a ∧ SqT X.K H1 a xs ∧ R (Itt X.K a) H1) ∨ ∃ z, x = .str z ∧ R (Its z) H1) := by
  refine ⟨fun pins s σ H R I h => ?_⟩
  refine thn (hl.run pins s σ H _ I h) fun v s1 ⟨x, H1, I1, r1, q1⟩ => ?_
  rcases q1 with ⟨a, xs, ea, hq, q⟩ | ⟨a, xs, ea, hq, q⟩ | ⟨z, ez, q⟩
  · subst ea
    cases r1
    obtain ⟨its, rv, p, hz⟩ := I1.list hq
    exact wpAny_pyIter_list p.isList (pi_one (tk := s1.toks) I1 _ (turn_list a _) ⟨_, Heap.get?_push_size _ rfl, rfl, rfl⟩ q)
  · subst ea
    cases r1
    obtain ⟨its, rv, p, hz⟩ := I1.tuple hq
    exact wpAny_pyIter_tuple (show s1.heap.IsTuple a its.toArray from p) (pi_one (tk := s1.toks) I1 _ (turn_tuple a _) ⟨_, Heap.get?_push_size _ rfl, rfl, rfl⟩ q)
  · subst ez
    obtain ⟨t, rfl⟩ := r1
    cases ha : z.cps.all (· < 128)
    · exact wpAny_pyIter_wide ha (pi_one (tk := s1.toks) I1 _ (turn_str _ z t "str_iterator" (.inr rfl)) ⟨_, Heap.get?_push_size _ rfl, rfl, rfl⟩ q)
    · exact wpAny_pyIter_ascii ha (pi_one (tk := s1.toks) I1 _ (turn_str _ z t "str_ascii_iterator" (.inl rfl)) ⟨_, Heap.get?_push_size _ rfl, rfl, rfl⟩ q)

/-! ### what a loop walks, by values -/
structure Walk (K : PySem.W.Frag) (F : Addr → Prop) (H : Hp) (J : It) (ds : List D) : Prop where
  go : ∀ F' H' i, Stay F H F' H' → i < ds.length → J.go i H'
  stop : ∀ F' H', Stay F H F' H' → J.stop ds.length H'
  yld : ∀ F' H' i x H2 d, Stay F H F' H' → Dom F' H' → ds[i]? = some d → J.yld i H' x H2 → ∃ F2, Grow F' H' F2 H2 ∧ Rp K F2 H2 x d
def tI (K : PySem.W.Frag) (W : XW) (f : Dl → Re (List D)) : TI := fun σ H R => ∃ F δ, SokE K F H σ δ ∧ ReW W F H (f δ) fun ds => ∀ J F' H', Grow F H F' H' → Walk K F' H' J ds → R J H'
abbrev VI (X : Cx) (W : XW) (tg it : Expr) (f : Dl → Re (List D)) : Prop := PI X tg it (tI X.K W f)
theorem PI.imp {X : Cx} {tg e : Expr} {t t' : TI} (h : PI X tg e t) (w : ∀ σ H Q, t' σ H Q → t σ H Q) : PI X tg e t' := ⟨fun pins s σ H Q I q => h.run pins s σ H Q I (w _ _ _ q)⟩
/-- a chain to a list of items -/
theorem ReW.bndL {W : XW} {P' : PP} {F : Addr → Prop} {H : Hp} {ra : Re D} {k : D → Re (List D)} {N : List D → (Addr → Prop) → Hp → Prop} {Q' : VK} (h : ReW W F H (ra.bnd k) fun ds => ∀ F' H', Grow F H F' H' → N ds F' H')
    (q : ∀ d v F1 H1, ra = .ok d → Grow F H F1 H1 → P' F H F1 H1 v d → ReW W F1 H1 (k d) (fun ds => ∀ F' H', Grow F1 H1 F' H' → N ds F' H') → Q' v H1) : Go W P' F H ra Q' := by
  cases ra with
  | ok d => exact fun v F1 H1 g p => q d v F1 H1 rfl g p (ReW.grow h g fun ds n F' H' g' => n F' H' (g.trans g'))
  | ex x => exact h
  | no => exact h
def d1L (g : D → Re (List D)) (fa : Dl → Re D) (δ : Dl) : Re (List D) := (fa δ).bnd g
def signs (z : Str) : List D := z.cps.toList.map fun c => .str ⟨#[c]⟩
def itemsD : D → Re (List D)
  | .list ds => .ok ds
  | .tuple ds => .ok ds
  | .str z => .ok (signs z)
  | _ => .no
section
variable {K : PySem.W.Frag} {F : Addr → Prop} {H : Hp}
theorem walk_list {a : Addr} {xs : List V} {ds : List D} (h : Rd H a (.lst xs)) (f : F a) (r : RpA K F H xs ds) : Walk K F H (Itl K a) ds where
  go := fun F' H' i st hi => by
    obtain ⟨v, ev, _⟩ := r.get (List.getElem?_eq_getElem hi)
    exact ⟨xs, v, .inl (st.kept.rd h (.inl f)), ev⟩
  stop := fun F' H' st => ⟨xs, .inl (st.kept.rd h (.inl f)), Nat.le_of_eq r.length⟩
  yld := fun F' H' i x H2 d st _ e y => by
    obtain ⟨e1, y⟩ := y
    subst e1
    obtain ⟨v, ev, rv⟩ := r.get e
    have q := y xs (.inl (st.kept.rd h (.inl f)))
    rw [ev] at q
    cases q
    exact ⟨F', Grow.refl, st.rp rv⟩
theorem walk_tup {a : Addr} {xs : List V} {ds : List D} (h : SqT K H a xs) (r : RpA K F H xs ds) : Walk K F H (Itt K a) ds where
  go := fun F' H' i st hi => by
    obtain ⟨v, ev, _⟩ := r.get (List.getElem?_eq_getElem hi)
    exact ⟨xs, v, st.kept.sqT h, ev⟩
  stop := fun F' H' st => ⟨xs, st.kept.sqT h, Nat.le_of_eq r.length⟩
  yld := fun F' H' i x H2 d st _ e y => by
    obtain ⟨e1, y⟩ := y
    subst e1
    obtain ⟨v, ev, rv⟩ := r.get e
    have q := y xs (st.kept.sqT h)
    rw [ev] at q
    cases q
    exact ⟨F', Grow.refl, st.rp rv⟩
theorem signs_len (z : Str) : (signs z).length = z.cps.size := by unfold signs; simp
theorem walk_str {z : Str} : Walk K F H (Its z) (signs z) where
  go := fun F' H' i st hi => by rw [signs_len] at hi; exact hi
  stop := fun F' H' st => by show z.cps.size ≤ (signs z).length; rw [signs_len]; exact Nat.le_refl _
  yld := fun F' H' i x H2 d st _ e y => by
    obtain ⟨e1, c, ec, ex⟩ := y
    subst e1 ex
    refine ⟨F', Grow.refl, ?_⟩
    unfold signs at e
    rw [List.getElem?_map, Array.getElem?_toList, ec] at e
    cases e
    exact .str _
theorem walk_range (lo : Int) (n : Nat) : Walk K F H (Itr lo n) ((List.range n).map fun k => PyData.int (lo + (k : Nat))) where
  go := fun F' H' i st hi => by show i < n; simpa using hi
  stop := fun F' H' st => by show n ≤ _; simp
  yld := fun F' H' i x H2 d st _ e y => by
    obtain ⟨e1, ex⟩ := y
    subst e1 ex
    refine ⟨F', Grow.refl, ?_⟩
    rw [List.getElem?_map] at e
    by_cases hi : i < n
    · rw [List.getElem?_range hi] at e
      cases e
      exact .int _
    · rw [List.getElem?_eq_none (by simpa using hi)] at e
      cases e
def pairUp (i : Nat) : List D → List D
  | [] => []
  | d :: ds => .tuple [.int (i : Nat), d] :: pairUp (i + 1) ds
theorem pairUp_len : ∀ (ds : List D) (k : Nat), (pairUp k ds).length = ds.length
  | [], _ => rfl
  | d :: ds, k => congrArg (· + 1) (pairUp_len ds (k + 1))
theorem pairUp_get : ∀ (ds : List D) (k i : Nat), (pairUp k ds)[i]? = (ds[i]?).map fun d => .tuple [.int ((k + i : Nat) : Int), d]
  | [], _, _ => by simp [pairUp]
  | d :: ds, k, 0 => by simp [pairUp]
  | d :: ds, k, i + 1 => by
    show (pairUp (k + 1) ds)[i]? = _
    rw [pairUp_get ds (k + 1) i]
    simp only [List.getElem?_cons_succ]
    rw [show k + 1 + i = k + (i + 1) by omega]
theorem rp_pair {F' : Addr → Prop} {H' : Hp} {T : Addr} {x y : V} {d e : D} (hn : H' T = none) (rx : Rp K F' H' x d) (ry : Rp K F' H' y e) : Rp K F' (upd H' T (.tup [x, y])) (.ref T) (.tuple [d, e]) :=
  .tup (.inl upd_same) (.cons ((Grow.upd0 hn).rp rx) (.cons ((Grow.upd0 hn).rp ry) .nil))
theorem walk_enum {a : Addr} {xs : List V} {ds : List D} (h : Rd H a (.lst xs)) (f : F a) (r : RpA K F H xs ds) : Walk K F H (Ite K a) (pairUp 0 ds) where
  go := fun F' H' i st hi => by
    rw [pairUp_len] at hi
    obtain ⟨v, ev, _⟩ := r.get (List.getElem?_eq_getElem hi)
    exact ⟨xs, v, .inl (st.kept.rd h (.inl f)), ev⟩
  stop := fun F' H' st => ⟨xs, .inl (st.kept.rd h (.inl f)), by rw [pairUp_len]; exact Nat.le_of_eq r.length⟩
  yld := fun F' H' i x H2 d st _ e y => by
    obtain ⟨T, v, ex, hn, e1, y⟩ := y
    subst e1 ex
    rw [pairUp_get] at e
    cases ed : ds[i]? with
    | none => rw [ed] at e; cases e
    | some d' =>
      rw [ed] at e
      cases e
      obtain ⟨v', ev, rv⟩ := r.get ed
      have q := y xs (.inl (st.kept.rd h (.inl f)))
      rw [ev] at q
      cases q
      rw [Nat.zero_add]
      exact ⟨F', Grow.upd0 hn, rp_pair hn (.int _) (st.rp rv)⟩
theorem walk_enumT {a : Addr} {xs : List V} {ds : List D} (h : SqT K H a xs) (r : RpA K F H xs ds) : Walk K F H (IteT K a) (pairUp 0 ds) where
  go := fun F' H' i st hi => by
    rw [pairUp_len] at hi
    obtain ⟨v, ev, _⟩ := r.get (List.getElem?_eq_getElem hi)
    exact ⟨xs, v, st.kept.sqT h, ev⟩
  stop := fun F' H' st => ⟨xs, st.kept.sqT h, by rw [pairUp_len]; exact r.length⟩
  yld := fun F' H' i x H2 d st _ e y => by
    obtain ⟨T, v, ex, hn, e1, y⟩ := y
    subst e1 ex
    rw [pairUp_get] at e
    cases ed : ds[i]? with
    | none => rw [ed] at e; cases e
    | some d' =>
      rw [ed] at e
      cases e
      obtain ⟨v', ev, rv⟩ := r.get ed
      have q := y xs (st.kept.sqT h)
      rw [ev] at q
      cases q
      rw [Nat.zero_add]
      exact ⟨F', Grow.upd0 hn, rp_pair hn (.int _) (st.rp rv)⟩
def zipUp : List D → List D → List D
  | d :: ds, e :: es => .tuple [d, e] :: zipUp ds es
  | _, _ => []
theorem zipUp_len : ∀ (ds es : List D), (zipUp ds es).length = min ds.length es.length
  | [], _ => by simp [zipUp]
  | _ :: _, [] => by simp [zipUp]
  | d :: ds, e :: es => by simp [zipUp, zipUp_len ds es]
theorem zipUp_get : ∀ (ds es : List D) (i : Nat) (x : D), (zipUp ds es)[i]? = some x → ∃ d e, ds[i]? = some d ∧ es[i]? = some e ∧ x = .tuple [d, e]
  | [], _, _, _, h => by simp [zipUp] at h
  | _ :: _, [], _, _, h => by simp [zipUp] at h
  | d :: ds, e :: es, 0, x, h => by simp [zipUp] at h; exact ⟨d, e, rfl, rfl, h.symm⟩
  | d :: ds, e :: es, i + 1, x, h => by
    have h' : (zipUp ds es)[i]? = some x := by simpa [zipUp] using h
    obtain ⟨d', e', a, b, c⟩ := zipUp_get ds es i x h'
    exact ⟨d', e', by simpa using a, by simpa using b, c⟩
theorem walk_zip {a b : Addr} {xs ys : List V} {ds es : List D} (h : Rd H a (.lst xs)) (f : F a) (r : RpA K F H xs ds) (h2 : Rd H b (.lst ys)) (f2 : F b) (r2 : RpA K F H ys es) : Walk K F H (Itz K a b) (zipUp ds es) where
  go := fun F' H' i st hi => by
    rw [zipUp_len] at hi
    obtain ⟨v, ev, _⟩ := r.get (List.getElem?_eq_getElem (show i < ds.length by omega))
    obtain ⟨v2, ev2, _⟩ := r2.get (List.getElem?_eq_getElem (show i < es.length by omega))
    exact ⟨xs, ys, v, v2, .inl (st.kept.rd h (.inl f)), .inl (st.kept.rd h2 (.inl f2)), ev, ev2⟩
  stop := fun F' H' st => ⟨xs, ys, .inl (st.kept.rd h (.inl f)), .inl (st.kept.rd h2 (.inl f2)), by have := r.length; have := r2.length; rw [zipUp_len]; omega⟩
  yld := fun F' H' i x H2 d st _ e y => by
    obtain ⟨T, v, v2, ex, hn, e1, y1, y2⟩ := y
    subst e1 ex
    obtain ⟨d', e', a1, a2, a3⟩ := zipUp_get _ _ _ _ e
    subst a3
    obtain ⟨w1, ew1, rw1⟩ := r.get a1
    obtain ⟨w2, ew2, rw2⟩ := r2.get a2
    have q1 := y1 xs (.inl (st.kept.rd h (.inl f)))
    have q2 := y2 ys (.inl (st.kept.rd h2 (.inl f2)))
    rw [ew1] at q1
    rw [ew2] at q2
    cases q1
    cases q2
    exact ⟨F', Grow.upd0 hn, rp_pair hn (st.rp rw1) (st.rp rw2)⟩
theorem walk_zipT {a b : Addr} {xs ys : List V} {ds es : List D} (h : SqT K H a xs) (r : RpA K F H xs ds) (h2 : SqT K H b ys) (r2 : RpA K F H ys es) : Walk K F H (ItzT K a b) (zipUp ds es) where
  go := fun F' H' i st hi => by
    rw [zipUp_len] at hi
    obtain ⟨v, ev, _⟩ := r.get (List.getElem?_eq_getElem (show i < ds.length by omega))
    obtain ⟨v2, ev2, _⟩ := r2.get (List.getElem?_eq_getElem (show i < es.length by omega))
    exact ⟨xs, ys, v, v2, st.kept.sqT h, st.kept.sqT h2, ev, ev2⟩
  stop := fun F' H' st => ⟨xs, ys, st.kept.sqT h, st.kept.sqT h2, by have := r.length; have := r2.length; rw [zipUp_len]; omega⟩
  yld := fun F' H' i x H2 d st _ e y => by
    obtain ⟨T, v, v2, ex, hn, e1, y1, y2⟩ := y
    subst e1 ex
    obtain ⟨d', e', a1, a2, a3⟩ := zipUp_get _ _ _ _ e
    subst a3
    obtain ⟨w1, ew1, rw1⟩ := r.get a1
    obtain ⟨w2, ew2, rw2⟩ := r2.get a2
    have q1 := y1 xs (st.kept.sqT h)
    have q2 := y2 ys (st.kept.sqT h2)
    rw [ew1] at q1
    rw [ew2] at q2
    cases q1
    cases q2
    exact ⟨F', Grow.upd0 hn, rp_pair hn (st.rp rw1) (st.rp rw2)⟩
end
section
variable {X : Cx} {W : XW} {tg e e2 : Expr} {fa fb : Dl → Re D} {fs : Dl → Re (List D)} {p pos tpos : Pos} {elts : List Expr} {kk : Nat}
theorem vi_any (h : VE X W e fa) : VI X W tg e (d1L itemsD fa) := PI.imp (pi_any h) fun σ H R ⟨F, δ, s, q⟩ => ⟨F, δ, s, ReW.bndL (N := fun ds F' H' => ∀ J, Walk X.K F' H' J ds → R J H') (q.imp fun ds _ n F' H' g J w => n J F' H' g w) fun d v F1 H1 _ g r n => by
  cases d with
  | list ds =>
    cases r with
    | lst a f t => exact .inl ⟨_, _, rfl, .inl a, n _ _ Grow.refl _ (walk_list a f t)⟩
  | tuple ds =>
    cases r with
    | tup a t => exact .inr (.inl ⟨_, _, rfl, a.sq, n _ _ Grow.refl _ (walk_tup a.sq t)⟩)
  | str z =>
    cases r
    exact .inr (.inr ⟨_, rfl, n _ _ Grow.refl _ walk_str⟩)
  | _ => exact n.elim⟩
def rng1D : List D → Re (List D)
  | [.int j] => if -(2 ^ 62) ≤ j ∧ j < 2 ^ 62 then .ok ((List.range j.toNat).map fun k => .int (0 + (k : Nat))) else .no
  | _ => .no
def rng2D : List D → Re (List D)
  | [.int i, .int j] => if -(2 ^ 62) ≤ i ∧ i < 2 ^ 62 ∧ -(2 ^ 62) ≤ j ∧ j < 2 ^ 62 then .ok ((List.range (j - i).toNat).map fun k => .int (i + (k : Nat))) else .no
  | _ => .no
def dAL (fs : Dl → Re (List D)) (g : List D → Re (List D)) (δ : Dl) : Re (List D) := (fs δ).bnd g
theorem ReW.bndA {R : Rel} {K : PySem.W.Frag} {F : Addr → Prop} {H : Hp} {ra : Re (List D)} {k : List D → Re (List D)} {N : List D → (Addr → Prop) → Hp → Prop} {Q' : List V → Hp → Prop} (h : ReW W F H (ra.bnd k) fun ds => ∀ F' H', Grow F H F' H' → N ds F' H')
    (q : ∀ d v F1 H1, ra = .ok d → Grow F H F1 H1 → RA R K F1 H1 v d → ReW W F1 H1 (k d) (fun ds => ∀ F' H', Grow F1 H1 F' H' → N ds F' H') → Q' v H1) : GoA W R K F H ra Q' := by
  cases ra with
  | ok d => exact fun v F1 H1 g p => q d v F1 H1 rfl g p (ReW.grow h g fun ds n F' H' g' => n F' H' (g.trans g'))
  | ex x => exact h
  | no => exact h
theorem vi_rng1 (hg : Gl X "range") (hm : X.mg "range" = none) (ha : VA X W Rp [e] fs) (hs : starEach [e] X.env = [(false, eval e X.env)] := by rfl) : VI X W tg (.Call (.Name "range" p) [e] [] pos) (dAL fs rng1D) := PI.imp (pi_range1 hg hm ha hs) fun σ H R ⟨F, δ, s, q⟩ => ⟨F, δ, s, ReW.bndA (N := fun ds F' H' => ∀ J, Walk X.K F' H' J ds → R J H') (q.imp fun ds _ n F' H' g J w => n J F' H' g w) fun d v F1 H1 _ g r n => by
  unfold rng1D at n
  split at n
  · rename_i j _
    split at n
    · rename_i c
      cases r with
      | cons r rr =>
        cases rr
        cases r
        exact ⟨j, rfl, c.1, c.2, n _ _ Grow.refl _ (walk_range 0 _)⟩
    · exact n.elim
  · exact n.elim⟩
theorem vi_rng2 (hg : Gl X "range") (hm : X.mg "range" = none) (ha : VA X W Rp [e, e2] fs) (hs : starEach [e, e2] X.env = [(false, eval e X.env), (false, eval e2 X.env)] := by rfl) (hs2 : starEach [e2] X.env = [(false, eval e2 X.env)] := by rfl) : VI X W tg (.Call (.Name "range" p) [e, e2] [] pos) (dAL fs rng2D) := PI.imp (pi_range2 hg hm ha hs hs2) fun σ H R ⟨F, δ, s, q⟩ => ⟨F, δ, s, ReW.bndA (N := fun ds F' H' => ∀ J, Walk X.K F' H' J ds → R J H') (q.imp fun ds _ n F' H' g J w => n J F' H' g w) fun d v F1 H1 _ g r n => by
  unfold rng2D at n
  split at n
  · rename_i i j _
    split at n
    · rename_i c
      cases r with
      | cons r rr =>
        cases rr with
        | cons r' rr =>
          cases rr
          cases r
          cases r'
          exact ⟨i, j, rfl, c, n _ _ Grow.refl _ (walk_range i _)⟩
    · exact n.elim
  · exact n.elim⟩
def enumD : List D → Re (List D)
  | [.list ds] => .ok (pairUp 0 ds)
  | [.tuple ds] => .ok (pairUp 0 ds)
  | _ => .no
theorem vi_enum (hg : Gl X "enumerate") (hm : X.mg "enumerate" = none) (ha : VA X W Rp [e] fs) (hs : starEach [e] X.env = [(false, eval e X.env)] := by rfl) : VI X W (.Tuple elts kk tpos) (.Call (.Name "enumerate" p) [e] [] pos) (dAL fs enumD) := PI.imp (pi_enumA hg hm ha hs) fun σ H R ⟨F, δ, s, q⟩ => ⟨F, δ, s, ReW.bndA (N := fun ds F' H' => ∀ J, Walk X.K F' H' J ds → R J H') (q.imp fun ds _ n F' H' g J w => n J F' H' g w) fun d v F1 H1 _ g r n => by
  unfold enumD at n
  split at n
  · cases r with
    | cons r rr =>
      cases rr
      cases r with
      | lst a f t => exact ⟨_, _, rfl, .inl ⟨.inl a, n _ _ Grow.refl _ (walk_enum a f t)⟩⟩
  · cases r with
    | cons r rr =>
      cases rr
      cases r with
      | tup a t => exact ⟨_, _, rfl, .inr ⟨a.sq, n _ _ Grow.refl _ (walk_enumT a.sq t)⟩⟩
  · exact n.elim⟩
def zipD : List D → Re (List D)
  | [.list ds, .list es] => .ok (zipUp ds es)
  | [.tuple ds, .tuple es] => .ok (zipUp ds es)
  | _ => .no
theorem vi_zip (hg : Gl X "zip") (hm : X.mg "zip" = none) (ha : VA X W Rp [e, e2] fs) (hs : starEach [e, e2] X.env = (false, eval e X.env) :: starEach [e2] X.env := by rfl) (hpl : (backTo pos (starEach [e2] X.env)).any (·.1) = false := by rfl) : VI X W (.Tuple elts kk tpos) (.Call (.Name "zip" p) [e, e2] [] pos) (dAL fs zipD) := PI.imp (pi_zipA hg hm ha hs hpl) fun σ H R ⟨F, δ, s, q⟩ => ⟨F, δ, s, ReW.bndA (N := fun ds F' H' => ∀ J, Walk X.K F' H' J ds → R J H') (q.imp fun ds _ n F' H' g J w => n J F' H' g w) fun d v F1 H1 _ g r n => by
  unfold zipD at n
  split at n
  · cases r with
    | cons r rr =>
      cases rr with
      | cons r' rr =>
        cases rr
        cases r with
        | lst a f t =>
          cases r' with
          | lst a2 f2 t2 => exact ⟨_, _, _, _, rfl, .inl ⟨.inl a, .inl a2, n _ _ Grow.refl _ (walk_zip a f t a2 f2 t2)⟩⟩
  · cases r with
    | cons r rr =>
      cases rr with
      | cons r' rr =>
        cases rr
        cases r with
        | tup a t =>
          cases r' with
          | tup a2 t2 => exact ⟨_, _, _, _, rfl, .inr ⟨a.sq, a2.sq, n _ _ Grow.refl _ (walk_zipT a.sq t a2.sq t2)⟩⟩
  · exact n.elim⟩
end
end VS
end
section
namespace VS
open PySem PySem.Spec PyProof.Rows L2

/-! ### targets -/
structure Upd (K : PySem.W.Frag) (F : Addr → Prop) (H : Hp) (ts : List Nat) (σ : L2.St) (δ : Dl) (σ' : L2.St) (δ' : Dl) : Prop where
  lσ : σ'.length = σ.length
  lδ : δ'.length = δ.length
  out : ∀ j : Nat, j ∉ ts → σ'[j]? = σ[j]? ∧ δ'[j]? = δ[j]?
  into : ∀ j : Nat, j ∈ ts → ∀ s, δ'[j]? = some s → ∃ d v, s = Sl.sh d ∧ σ'[j]? = some (some v) ∧ Rp K F H v d
theorem Upd.refl {K : PySem.W.Frag} {F : Addr → Prop} {H : Hp} {σ : L2.St} {δ : Dl} : Upd K F H [] σ δ σ δ := ⟨rfl, rfl, fun _ _ => ⟨rfl, rfl⟩, fun _ h => nomatch h⟩
theorem Upd.trans {K : PySem.W.Frag} {F : Addr → Prop} {H : Hp} {t1 t2 : List Nat} {σ σ1 σ2 : L2.St} {δ δ1 δ2 : Dl} (a : Upd K F H t1 σ δ σ1 δ1) (b : Upd K F H t2 σ1 δ1 σ2 δ2) : Upd K F H (t1 ++ t2) σ δ σ2 δ2 where
  lσ := b.lσ.trans a.lσ
  lδ := b.lδ.trans a.lδ
  out := fun j h => by
    rw [List.mem_append, not_or] at h
    exact ⟨(b.out j h.2).1.trans (a.out j h.1).1, (b.out j h.2).2.trans (a.out j h.1).2⟩
  into := fun j h s e => by
    by_cases h2 : j ∈ t2
    · exact b.into j h2 s e
    · rw [(b.out j h2).2] at e
      rw [(b.out j h2).1]
      exact a.into j ((List.mem_append.mp h).elim id fun z => (h2 z).elim) s e
theorem Sok.upd {K : PySem.W.Frag} {F0 : Addr → Prop} {H0 : Hp} {F : Addr → Prop} {H : Hp} {ts : List Nat} {σ σ' : L2.St} {δ δ' : Dl} (s : Sok K F0 H0 F H σ δ) (u : Upd K F H ts σ δ σ' δ') : Sok K F0 H0 F H σ' δ' where
  len := u.lδ.trans (s.len.trans u.lσ.symm)
  g := s.g
  d0 := s.d0
  dom := s.dom
  sh := fun i d e => by
    by_cases h : i ∈ ts
    · obtain ⟨d', v, e1, e2, r⟩ := u.into i h _ e
      cases e1
      exact ⟨v, e2, r⟩
    · rw [(u.out i h).2] at e
      rw [(u.out i h).1]
      exact s.sh i d e
  ow := fun i d e => by
    by_cases h : i ∈ ts
    · obtain ⟨d', v, e1, e2, r⟩ := u.into i h _ e
      cases e1
    · rw [(u.out i h).2] at e
      rw [(u.out i h).1]
      exact s.ow i d e
  br := fun i d e => by
    by_cases h : i ∈ ts
    · obtain ⟨d', v, e1, e2, r⟩ := u.into i h _ e
      cases e1
    · rw [(u.out i h).2] at e
      rw [(u.out i h).1]
      exact s.br i d e
  ne := fun i j d e a h1 h2 h3 h4 => by
    by_cases hi : i ∈ ts
    · obtain ⟨_, _, e1, _⟩ := u.into i hi _ h1
      cases e1
    · by_cases hj : j ∈ ts
      · obtain ⟨_, _, e1, _⟩ := u.into j hj _ h2
        cases e1
      · rw [(u.out i hi).2] at h1
        rw [(u.out j hj).2] at h2
        rw [(u.out i hi).1] at h3
        rw [(u.out j hj).1] at h4
        exact s.ne i j d e a h1 h2 h3 h4
  ob := fun i c n fs e => by
    by_cases h : i ∈ ts
    · obtain ⟨d', v, e1, e2, r⟩ := u.into i h _ e
      cases e1
    · rw [(u.out i h).2] at e
      obtain ⟨v, A, e1, r, nb⟩ := s.ob i c n fs e
      refine ⟨v, A, by rw [(u.out i h).1]; exact e1, r, fun j d b h1 h2 => ?_⟩
      by_cases hj : j ∈ ts
      · obtain ⟨d', v', e1', e2, r'⟩ := u.into j hj _ h1
        cases e1'
      · rw [(u.out j hj).2] at h1
        rw [(u.out j hj).1] at h2
        exact nb j d b h1 h2
  ob1 := fun i j c n c' n' fs fs' h1 h2 => by
    by_cases h : i ∈ ts
    · obtain ⟨d', v, e1, e2, r⟩ := u.into i h _ h1
      cases e1
    · by_cases hj : j ∈ ts
      · obtain ⟨d', v', e1', e2, r'⟩ := u.into j hj _ h2
        cases e1'
      · rw [(u.out i h).2] at h1
        rw [(u.out j hj).2] at h2
        exact s.ob1 i j c n c' n' fs fs' h1 h2
theorem SokE.upd {K : PySem.W.Frag} {F : Addr → Prop} {H : Hp} {ts : List Nat} {σ σ' : L2.St} {δ δ' : Dl} (s : SokE K F H σ δ) (u : Upd K F H ts σ δ σ' δ') : SokE K F H σ' δ' where
  len := u.lδ.trans (s.len.trans u.lσ.symm)
  dom := s.dom
  sl := fun i x e => by
    by_cases h : i ∈ ts
    · obtain ⟨d', v, e1, e2, r⟩ := u.into i h _ e
      subst e1
      exact ⟨v, e2, r⟩
    · rw [(u.out i h).2] at e
      have q := s.sl i x e
      have eo := (u.out i h).1
      cases x with
      | no => trivial
      | sh d => obtain ⟨v, e1, r⟩ := q; exact ⟨v, eo.trans e1, r⟩
      | ow d => obtain ⟨v, e1, r⟩ := q; exact ⟨v, eo.trans e1, r⟩
      | br d => obtain ⟨v, e1, r⟩ := q; exact ⟨v, eo.trans e1, r⟩
      | ob c n fs => obtain ⟨a, C, dx, fv, e1, r⟩ := q; exact ⟨a, C, dx, fv, eo.trans e1, r⟩
abbrev Bd := D → Dl → Option Dl
abbrev Bds := List D → Dl → Option Dl
def tG (K : PySem.W.Frag) (ts : List Nat) (b : Bd) : TG := fun v σ H Q => ∃ F δ d δ', δ.length = σ.length ∧ Rp K F H v d ∧ b d δ = some δ' ∧ ∀ σ', Upd K F H ts σ δ σ' δ' → Q σ' H
def tGs (K : PySem.W.Frag) (ts : List Nat) (b : Bds) : TGs := fun vs σ H Q => ∃ F δ ds δ', δ.length = σ.length ∧ RpA K F H vs ds ∧ b ds δ = some δ' ∧ ∀ σ', Upd K F H ts σ δ σ' δ' → Q σ' H
abbrev VG (X : Cx) (tg : Expr) (ts : List Nat) (b : Bd) : Prop := PG X tg (tG X.K ts b)
abbrev VGs (X : Cx) (tgs : List Expr) (ts : List Nat) (b : Bds) : Prop := PGs X tgs (tGs X.K ts b)
theorem PG.imp {X : Cx} {tg : Expr} {t t' : TG} (h : PG X tg t) (w : ∀ v σ H Q, t' v σ H Q → t v σ H Q) : PG X tg t' := ⟨fun pins s σ H v u Q I r q => h.run pins s σ H v u Q I r (w _ _ _ _ q)⟩
theorem PGs.imp {X : Cx} {tg : List Expr} {t t' : TGs} (h : PGs X tg t) (w : ∀ v σ H Q, t' v σ H Q → t v σ H Q) : PGs X tg t' := ⟨fun pins s σ H v u Q I r q => h.run pins s σ H v u Q I r (w _ _ _ _ q)⟩
theorem PG.or {X : Cx} {tg : Expr} {t t' : TG} (h : PG X tg t) (h' : PG X tg t') : PG X tg (fun v σ H Q => t v σ H Q ∨ t' v σ H Q) := ⟨fun pins s σ H v u Q I r q => q.elim (h.run pins s σ H v u Q I r) (h'.run pins s σ H v u Q I r)⟩
section
variable {X : Cx} {pos : Pos}
def bN (i : Nat) : Bd := fun d δ => some (δ.set i (.sh d))
theorem vg_name {i : Nat} {x : Str} (hN : X.N.Nodup) (hi : X.N[i]? = some x) (hx : Loc X.env.scope x) (hf : X.fn x = true ∨ X.env.scope.names.lookup x = some .local := by first | exact .inl rfl | exact .inr rfl) : VG X (.Name x pos) [i] (bN i) :=
  PG.imp (pg_name hN hi hx hf) fun v σ H Q ⟨F, δ, d, δ', hl, r, e, q⟩ => by
    cases e
    refine q _ ⟨by rw [List.length_set], by rw [List.length_set], fun j hj => ?_, fun j hj s es => ?_⟩
    · have n : i ≠ j := fun z => hj (by simp [z])
      exact ⟨List.getElem?_set_ne n, List.getElem?_set_ne n⟩
    · have n : j = i := by simpa using hj
      subst n
      obtain ⟨e1, hlt⟩ := get_set_eq es
      exact ⟨d, v, e1, by rw [List.getElem?_set_self (by rw [← hl]; exact hlt)], r⟩
def bNil : Bds := fun ds δ => match ds with
  | [] => some δ
  | _ => none
def bCons (b : Bd) (bs : Bds) : Bds := fun ds δ => match ds with
  | d :: ds => (b d δ).bind (bs ds)
  | [] => none
theorem vgs_nil : VGs X [] [] bNil := PGs.imp pgs_nil fun vs σ H Q ⟨F, δ, ds, δ', hl, r, e, q⟩ => by
  cases r with
  | nil => cases e; exact ⟨rfl, q σ .refl⟩
  | cons _ _ => cases e
theorem vgs_cons {e : Expr} {es : List Expr} {t1 t2 : List Nat} {b : Bd} {bs : Bds} (h1 : VG X e t1 b) (h2 : VGs X es t2 bs)
    (hs : (assignEach (e :: es) X.env).map (·.2) = assign e X.env :: (assignEach es X.env).map (·.2) := by rfl) : VGs X (e :: es) (t1 ++ t2) (bCons b bs) := PGs.imp (pgs_cons h1 h2 hs) fun vs0 σ H Q ⟨F, δ, ds0, δ', hl, r, e, q⟩ => by
  cases r with
  | nil => cases e
  | @cons v vs d ds r rr =>
    have e : (b d δ).bind (bs ds) = some δ' := e
    cases eb : b d δ with
    | none => rw [eb] at e; cases e
    | some δ1 =>
      rw [eb] at e
      refine ⟨v, vs, rfl, F, δ, d, δ1, hl, r, eb, fun σ1 u1 => ⟨F, δ1, ds, δ', u1.lδ.trans (hl.trans u1.lσ.symm), rr, e, fun σ2 u2 => q σ2 (u1.trans u2)⟩⟩
def bT (n : Nat) (bs : Bds) : Bd := fun d δ => match d with
  | .tuple ds => if ds.length = n then bs ds δ else none
  | .list ds => if ds.length = n then bs ds δ else none
  | _ => none
theorem vg_tup {es : List Expr} {k : Nat} {ts : List Nat} {bs : Bds} {n : Nat} (hc : X.calm = true) (h : VGs X es ts bs)
    (hn : (assignEach es X.env).length = n := by rfl) (hst : (assignEach es X.env).findIdx? (·.1) = none := by rfl) : VG X (.Tuple es k pos) ts (bT n bs) := PG.imp (VS.PG.or (pg_tup hc h hn hst) (pg_lst hc h hn hst)) fun v σ H Q ⟨F, δ, d, δ', hl, r, e, q⟩ => by
  unfold bT at e
  split at e
  · split at e
    · rename_i en
      cases r with
      | tup a t => exact .inl ⟨_, _, rfl, a.sq, by rw [t.length]; exact en, F, δ, _, δ', hl, t, e, q⟩
    · cases e
  · split at e
    · rename_i en
      cases r with
      | lst a f t => exact .inr ⟨_, _, rfl, .inl a, by rw [t.length]; exact en, F, δ, _, δ', hl, t, e, q⟩
    · cases e
  · cases e
end

/-! ### for, while -/
def goS (b : Bd) (body : Dl → RS) : List D → Dl → RS
  | [], δ => .nx δ
  | d :: ds, δ => match b d δ with
    | none => .no
    | some δ1 => match body δ1 with
      | .nx δ2 => goS b body ds δ2
      | .ct δ2 => goS b body ds δ2
      | .bk δ2 => .nx δ2
      | .rt r => .rt r
      | .rf r => .rf r
      | .ex x => .ex x
      | .no => .no
def forS (items : Dl → Re (List D)) (b : Bd) (body : Dl → RS) (δ : Dl) : RS := toS (items δ) fun ds => goS b body ds δ
def whileS (t : Dl → Re Bool) (body : Dl → RS) : Nat → Dl → RS
  | 0, _ => .no
  | n + 1, δ => toS (t δ) fun c => if c = true then (match body δ with
      | .nx δ2 => whileS t body n δ2
      | .ct δ2 => whileS t body n δ2
      | .bk δ2 => .nx δ2
      | .rt r => .rt r
      | .rf r => .rf r
      | .ex x => .ex x
      | .no => .no) else .nx δ
section
variable {X : Cx} {W : XW} {pos : Pos} {body : List Stmt} {f : Dl → RS}
theorem SO.goL {K : PySem.W.Frag} {F0 : Addr → Prop} {H0 : Hp} {F : Addr → Prop} {H : Hp} {σ : L2.St} {δ : Dl} {D' : Ends} {r : Re (List PyData)} {k : List PyData → RS} {N : List PyData → (Addr → Prop) → Hp → Prop} (s : Sok K F0 H0 F H σ δ) (h : SO K W F0 H0 F H D' (toS r k))
    (q : ∀ ds, r = .ok ds → ∀ F' H', Grow F H F' H' → SO K W F0 H0 F' H' D' (k ds) → N ds F' H') : ReW W F H r fun ds => ∀ F' H', Grow F H F' H' → N ds F' H' := by
  cases r with
  | ok ds => exact fun F' H' g => q ds rfl F' H' g (SO.stay h g.stay)
  | ex x => exact fun F' H' g => h F' H' g.stay (s.g.trans g)
  | no => exact h
theorem vs_for {tg iter : Expr} {ts : List Nat} {b : Bd} {fi : Dl → Re (List D)} (hp : PassesOwn (model X.prog X.w) X.A X.env X.xe) (hc : X.calm = true) (hi : VI X W tg iter fi) (hg : VG X tg ts b) (hb : VSs X W body f)
    (hs : ∀ x, foldedSetIterable iter X.env x = pure x := by intro _; rfl) : VSt X W (.For tg iter body [] pos) (forS fi b f) := PS.imp (ps_for hp hc hi hg hb hs) fun D σ H ⟨F0, H0, F, δ, s, q⟩ => by
  refine ⟨F, δ, s.e, ReW.imp (SO.goL (N := fun ds F' H' => ∀ J, Walk X.K F' H' J ds → ∃ V : Nat → Nat → L2.St → Hp → Prop, (∃ m, V 0 m σ H') ∧ ∀ i m σ H, V i m σ H →
    (J.stop i H ∧ D.nx σ H) ∨ (J.go i H ∧ ∃ N : L2.St → Hp → Prop, (∀ σ' H', N σ' H' → ∃ m', m' < m ∧ V (i + 1) m' σ' H') ∧ ∀ x H', J.yld i H x H' → tG X.K ts b x σ H' fun σ2 H2 => tS X.K W f { D with nx := N, ct := N, bk := D.nx } σ2 H2)) s q fun ds e F1 H1 g1 h1 J w => ?_) fun ds _ n J F' H' g w => n F' H' g J w⟩
  refine ⟨fun i m σ' H' => m = ds.length - i ∧ i ≤ ds.length ∧ ∃ F' δ', Stay F1 H1 F' H' ∧ Sok X.K F0 H0 F' H' σ' δ' ∧ SO X.K W F0 H0 F' H' D (goS b f (ds.drop i) δ'), ⟨ds.length, by simp, Nat.zero_le _, F1, δ, Stay.refl, s.grow g1, by simpa using h1⟩, ?_⟩
  rintro i m σ' H' ⟨rfl, hle, F', δ', st, so, w'⟩
  by_cases hlt : i < ds.length
  · refine .inr ⟨w.go F' H' i st hlt, fun σ3 H3 => i + 1 ≤ ds.length ∧ ∃ F3 δ3, Stay F1 H1 F3 H3 ∧ Sok X.K F0 H0 F3 H3 σ3 δ3 ∧ SO X.K W F0 H0 F3 H3 D (goS b f (ds.drop (i + 1)) δ3), fun σ3 H3 ⟨a, c⟩ => ⟨ds.length - (i + 1), by omega, rfl, a, c⟩, fun x H2 y => ?_⟩
    obtain ⟨F2, g2, rx⟩ := w.yld F' H' i x H2 ds[i] st so.dom (List.getElem?_eq_getElem hlt) y
    rw [List.drop_eq_getElem_cons hlt] at w'
    unfold goS at w'
    cases eb : b ds[i] δ' with
    | none => rw [eb] at w'; exact w'.elim
    | some δ1 =>
      rw [eb] at w'
      refine ⟨F2, δ', ds[i], δ1, so.len, rx, eb, fun σ2 u2 => ?_⟩
      refine ⟨F0, H0, F2, δ1, (so.grow g2).upd u2, ?_⟩
      have w2 := SO.stay w' g2.stay
      have st2 := st.trans g2.stay
      simp only at w2
      generalize f δ1 = o at w2 ⊢
      cases o with
      | nx δ2 => exact fun F3 H3 σ3 st3 s3 => ⟨hlt, F3, δ2, st2.trans st3, s3, SO.stay w2 st3⟩
      | ct δ2 => exact fun F3 H3 σ3 st3 s3 => ⟨hlt, F3, δ2, st2.trans st3, s3, SO.stay w2 st3⟩
      | bk δ2 => exact w2
      | rt r => exact w2
      | rf r => exact w2
      | ex x => exact w2
      | no => exact w2
  · have e : i = ds.length := by omega
    subst e
    rw [List.drop_length] at w'
    exact .inl ⟨w.stop F' H' st, w' F' H' σ' Stay.refl so⟩
theorem vs_while {c : Expr} {t : Dl → Re Bool} (n : Nat) (hp : PassesOwn (model X.prog X.w) X.A X.env X.xe) (hc : VT X W c t) (hb : VSs X W body f) : VSt X W (.While c body [] pos) (whileS t f n) := PS.imp (ps_while hp hc hb) fun D σ H ⟨F0, H0, F, δ, s, q⟩ => by
  refine ⟨fun m σ' H' => ∃ F' δ', Sok X.K F0 H0 F' H' σ' δ' ∧ SO X.K W F0 H0 F' H' D (whileS t f m δ'), ⟨n, F, δ, s, q⟩, ?_⟩
  rintro m σ' H' ⟨F', δ', so, w'⟩
  cases m with
  | zero => exact w'.elim
  | succ m =>
    unfold whileS at w'
    refine ⟨F', δ', so.e, SO.goT so w' fun c F1 H1 e g h1 => ?_⟩
    cases c with
    | false =>
      rw [if_neg Bool.false_ne_true] at h1 ⊢
      exact h1 F1 H1 σ' Stay.refl (so.grow g)
    | true =>
      rw [if_pos rfl] at h1 ⊢
      refine ⟨fun σ3 H3 => ∃ F3 δ3, Sok X.K F0 H0 F3 H3 σ3 δ3 ∧ SO X.K W F0 H0 F3 H3 D (whileS t f m δ3), fun σ3 H3 h => ⟨m, Nat.lt_succ_self _, h⟩, F0, H0, F1, δ', so.grow g, ?_⟩
      generalize f δ' = o at h1 ⊢
      cases o with
      | nx δ2 => exact fun F3 H3 σ3 st3 s3 => ⟨F3, δ2, s3, SO.stay h1 st3⟩
      | ct δ2 => exact fun F3 H3 σ3 st3 s3 => ⟨F3, δ2, s3, SO.stay h1 st3⟩
      | bk δ2 => exact h1
      | rt r => exact h1
      | rf r => exact h1
      | ex x => exact h1
      | no => exact h1
end

/-! ### list comprehensions -/
def nxR {α : Type} : Re α → Re α
  | .ok a => .ok a
  | _ => .no
@[simp] theorem nxR_ok {α : Type} (a : α) : nxR (.ok a) = .ok a := Eq.trans rfl (Eq.refl _)
@[simp] theorem nxR_no {α : Type} : nxR (.no : Re α) = .no := Eq.trans rfl (Eq.refl _)
def wipeD (δ : Dl) : List Nat → Dl
  | [] => δ
  | v :: vs => (wipeD δ vs).set v .no
theorem wipeD_length (δ : Dl) : ∀ vs : List Nat, (wipeD δ vs).length = δ.length
  | [] => rfl
  | v :: vs => by unfold wipeD; rw [List.length_set, wipeD_length δ vs]
theorem wipeD_some {δ : Dl} {i : Nat} {s : Sl} : ∀ {vs : List Nat}, (wipeD δ vs)[i]? = some s → s ≠ .no → δ[i]? = some s ∧ i ∉ vs
  | [], h, _ => ⟨h, by simp⟩
  | v :: vs, h, ns => by
    unfold wipeD at h
    by_cases hi : v = i
    · subst hi
      exact (ns (get_set_eq h).1).elim
    · obtain ⟨h1, h2⟩ := wipeD_some (get_set_ne h hi) ns
      exact ⟨h1, by simp only [List.mem_cons, not_or]; exact ⟨fun e => hi e.symm, h2⟩⟩
theorem wipe_get {σ : L2.St} {i : Nat} : ∀ {vs : List Nat}, i ∉ vs → (wipe σ vs)[i]? = σ[i]? := fun h => wipe_out h
theorem SokE.wipe {K : PySem.W.Frag} {F : Addr → Prop} {H : Hp} {σ : L2.St} {δ : Dl} (s : SokE K F H σ δ) (vs : List Nat) : SokE K F H (L2.wipe σ vs) (wipeD δ vs) where
  len := by rw [wipeD_length, wipe_length]; exact s.len
  dom := s.dom
  sl := fun i x e => by
    cases x with
    | no => trivial
    | sh d =>
      obtain ⟨e1, e2⟩ := wipeD_some e (fun z => nomatch z)
      obtain ⟨v, ev, r⟩ := s.sl i _ e1
      exact ⟨v, (wipe_out e2).trans ev, r⟩
    | ow d =>
      obtain ⟨e1, e2⟩ := wipeD_some e (fun z => nomatch z)
      obtain ⟨v, ev, r⟩ := s.sl i _ e1
      exact ⟨v, (wipe_out e2).trans ev, r⟩
    | br d =>
      obtain ⟨e1, e2⟩ := wipeD_some e (fun z => nomatch z)
      obtain ⟨v, ev, r⟩ := s.sl i _ e1
      exact ⟨v, (wipe_out e2).trans ev, r⟩
    | ob c n fs =>
      obtain ⟨e1, e2⟩ := wipeD_some e (fun z => nomatch z)
      obtain ⟨a, C, dx, fv, ev, r⟩ := s.sl i _ e1
      exact ⟨a, C, dx, fv, (wipe_out e2).trans ev, r⟩
theorem wipe_in {σ : L2.St} {i : Nat} : ∀ {vs : List Nat}, i ∈ vs → (wipe σ vs)[i]? = none ∨ (wipe σ vs)[i]? = some none
  | v :: vs, h => by
    unfold wipe
    by_cases e : v = i
    · subst e
      by_cases hl : v < (wipe σ vs).length
      · exact .inr (List.getElem?_set_self hl)
      · exact .inl (List.getElem?_eq_none (by simpa using hl))
    · rw [List.getElem?_set_ne e]
      exact wipe_in ((List.mem_cons.mp h).elim (fun z => (e z.symm).elim) id)
theorem wipe_same {σ σ' : L2.St} {vs : List Nat} (hl : σ'.length = σ.length) (h : ∀ j, j ∉ vs → σ'[j]? = σ[j]?) : wipe σ' vs = wipe σ vs := by
  apply List.ext_getElem?
  intro i
  by_cases hi : i ∈ vs
  · have l1 := wipe_length σ' vs
    have l2 := wipe_length σ vs
    rcases wipe_in (σ := σ') hi with e1 | e1 <;> rcases wipe_in (σ := σ) hi with e2 | e2
    · rw [e1, e2]
    · have a := List.getElem?_eq_none_iff.mp e1
      have b := (List.getElem?_eq_some_iff.mp e2).1
      omega
    · have a := List.getElem?_eq_none_iff.mp e2
      have b := (List.getElem?_eq_some_iff.mp e1).1
      omega
    · rw [e1, e2]
  · rw [wipe_out hi, wipe_out hi, h i hi]
theorem wipe_wipe {σ : L2.St} {vs : List Nat} : wipe (wipe σ vs) vs = wipe σ vs := wipe_same (wipe_length _ _) fun j hj => wipe_out hj
theorem Upd.wipe {K : PySem.W.Frag} {F : Addr → Prop} {H : Hp} {ts vs : List Nat} {σ σ' : L2.St} {δ δ' : Dl} (u : Upd K F H ts (L2.wipe σ vs) δ σ' δ') (h : ∀ j ∈ ts, j ∈ vs) : L2.wipe σ' vs = L2.wipe σ vs := by
  rw [← wipe_wipe (σ := σ)]
  exact wipe_same u.lσ fun j hj => (u.out j fun z => hj (h j z)).1
/-- a new object that was filled on the way -/
structure POwn (K : PySem.W.Frag) (P : PP) : Prop extends PNew K P where
  own : ∀ {F H F' H' p d}, Grow F H F' H' → H p = none → ¬ F' p → RpO K F' H' p d → ∃ F2, Grow F H F2 H' ∧ P F H F2 H' (.ref p) d
theorem RpO.some {K : PySem.W.Frag} {F : Addr → Prop} {H : Hp} {a : Addr} {d : D} (o : RpO K F H a d) : H a ≠ none := by
  obtain ⟨u, hu, _⟩ := o.there
  rw [hu]
  exact fun z => nomatch z
theorem pS_own {K : PySem.W.Frag} : POwn K (pS K) where
  toPNew := pS_new
  own := fun g h nf o => ⟨_, g.freeze h o.some, o.froz⟩
theorem pB_own {K : PySem.W.Frag} : POwn K (pB K) where
  toPNew := pB_new
  own := fun g h nf o => ⟨_, g.freeze h o.some, o.froz.b⟩
theorem pF_own {K : PySem.W.Frag} : POwn K (pF K) where
  toPNew := pF_new
  own := fun g h nf o => ⟨_, g, _, rfl, h, nf, o⟩
theorem kept_upd {F : Addr → Prop} {H : Hp} {p : Addr} {o o' : HO} (nf : ¬ F p) (h : H p = some o) (m : Mut (some o)) : Kept F H (upd H p o') := fun a u e c => by
  have n : a ≠ p := fun z => by
    subst z
    rcases c with c | c
    · exact nf c
    · rw [h] at e; cases e; exact c m
  rw [upd_ne n]; exact e
/-- growth, then the new object at p is written -/
theorem Grow.wrote {F F' : Addr → Prop} {H H' : Hp} {p : Addr} {o' : HO} (g : Grow F H F' H') (h : H p = none) : Grow F H F' (upd H' p o') where
  sub := g.sub
  new := g.new
  same := fun a u e => by rw [upd_ne (ne_of_none e h)]; exact g.same a u e
  dom := fun dm a fa => by
    by_cases e : a = p
    · subst e; exact upd_some
    · rw [upd_ne e]; exact g.dom dm a fa
theorem Grow.notF {F F' : Addr → Prop} {H H' : Hp} {p : Addr} (g : Grow F H F' H') (nf : ¬ F p) (h : H p ≠ none) : ¬ F' p := fun f => (g.new p f).elim nf h
def lcL (b : Bd) (t : Dl → Re Bool) (e : Dl → Re D) (δ : Dl) : List D → Re (List D)
  | [] => .ok []
  | d :: ds => match b d δ with
    | none => .no
    | some δ1 => (nxR (t δ1)).bnd fun c => if c = true then (nxR (e δ1)).bnd fun y => (lcL b t e δ ds).bnd fun ys => .ok (y :: ys) else lcL b t e δ ds
def lcD (vs : List Nat) (items : Dl → Re (List D)) (b : Bd) (t : Dl → Re Bool) (e : Dl → Re D) (δ : Dl) : Re D :=
  (items δ).bnd fun ds => if ds.length ≤ sizeLine then (lcL b t e (wipeD δ vs) ds).bnd fun ys => .ok (.list ys) else .no
def yesT : Dl → Re Bool := fun _ => .ok true
abbrev VTs (X : Cx) (ifs : List Expr) (t : Dl → Re Bool) : Prop := PTs X ifs (tT X.K XW0 t)
theorem PTs.imp {X : Cx} {ifs : List Expr} {t t' : TT} (h : PTs X ifs t) (w : ∀ σ H Q, t' σ H Q → t σ H Q) : PTs X ifs t' := ⟨fun pins s σ H Q I q => h.run pins s σ H Q I (w _ _ _ q)⟩
theorem vts_nil {X : Cx} : VTs X [] yesT := PTs.imp pts_nil fun σ H Q ⟨F, δ, s, q⟩ => q F H Grow.refl
theorem vts_one {X : Cx} {c : Expr} {t : Dl → Re Bool} (h : VT X XW0 c t) : VTs X [c] t := pts_one h
theorem lcL_ok {b : Bd} {t : Dl → Re Bool} {e : Dl → Re D} {δ : Dl} {d : D} {ds zs : List D} (h : lcL b t e δ (d :: ds) = .ok zs) : ∃ δ1 c, b d δ = some δ1 ∧ t δ1 = .ok c ∧ ((c = true ∧ ∃ y ys, e δ1 = .ok y ∧ lcL b t e δ ds = .ok ys ∧ zs = y :: ys) ∨ (c = false ∧ lcL b t e δ ds = .ok zs)) := by
  unfold lcL at h
  cases eb : b d δ with
  | none => rw [eb] at h; cases h
  | some δ1 =>
    rw [eb] at h
    cases et : t δ1 with
    | ex x => simp only [et, nxR, bnd_no] at h; cases h
    | no => simp only [et, nxR, bnd_no] at h; cases h
    | ok c =>
      simp only [et, nxR, bnd_ok] at h
      refine ⟨δ1, c, rfl, et, ?_⟩
      cases c with
      | false => rw [if_neg Bool.false_ne_true] at h; exact .inr ⟨rfl, h⟩
      | true =>
        rw [if_pos rfl] at h
        cases ee : e δ1 with
        | ex x => simp only [ee, nxR, bnd_no] at h; cases h
        | no => simp only [ee, nxR, bnd_no] at h; cases h
        | ok y =>
          simp only [ee, nxR, bnd_ok] at h
          cases er : lcL b t e δ ds with
          | ex x => rw [er] at h; cases h
          | no => rw [er] at h; cases h
          | ok ys => rw [er] at h; cases h; exact .inl ⟨rfl, y, ys, rfl, rfl, rfl⟩
section
variable {X : Cx} {W : XW} {P : PP} {pos : Pos}
theorem Go.lcEx {F : Addr → Prop} {H : Hp} {r : Re (List D)} {Q : VK} (h : Go W P F H (r.bnd fun ys => .ok (PyData.list ys)) Q) (nx : ∀ x, r ≠ .ex x) : ∃ ys, r = .ok ys ∧ Go W P F H (.ok (.list ys)) Q := by
  cases r with
  | ok ys => exact ⟨ys, rfl, h⟩
  | ex x => exact (nx x rfl).elim
  | no => exact h.elim
theorem lcL_ex {b : Bd} {t : Dl → Re Bool} {e : Dl → Re D} {δ : Dl} {x : Xn} : ∀ ds : List D, lcL b t e δ ds ≠ .ex x
  | [] => fun h => nomatch h
  | d :: ds => fun h => by
    unfold lcL at h
    cases eb : b d δ with
    | none => rw [eb] at h; cases h
    | some δ1 =>
      rw [eb] at h
      cases et : t δ1 with
      | ex x => simp only [et, nxR, bnd_no] at h; cases h
      | no => simp only [et, nxR, bnd_no] at h; cases h
      | ok c =>
        simp only [et, nxR, bnd_ok] at h
        cases c with
        | false => rw [if_neg Bool.false_ne_true] at h; exact lcL_ex ds h
        | true =>
          rw [if_pos rfl] at h
          cases ee : e δ1 with
          | ex x => simp only [ee, nxR, bnd_no] at h; cases h
          | no => simp only [ee, nxR, bnd_no] at h; cases h
          | ok y =>
            simp only [ee, nxR, bnd_ok] at h
            cases er : lcL b t e δ ds with
            | ex x' => exact (lcL_ex ds er).elim
            | no => rw [er] at h; cases h
            | ok ys => rw [er] at h; cases h
/-- the comprehension's reading, from the values -/
theorem t_lc {ts vs : List Nat} {fi : Dl → Re (List D)} {b : Bd} {t : Dl → Re Bool} {e : Dl → Re D} {K : PySem.W.Frag} (hP : POwn K P) (hts : ∀ j ∈ ts, j ∈ vs) {σ : L2.St} {H : Hp} {Q : VK} (h : tP K W P (lcD vs fi b t e) σ H Q) :
    tLc (tI K W fi) (tG K ts b) (tT K XW0 t) (tP K XW0 (pS K) e) vs σ H Q := by
  obtain ⟨F, δ, s, h⟩ := h
  refine ⟨F, δ, s, ?_⟩
  change ReW W F H ((fi δ).bnd _) _ at h
  cases ef : fi δ with
  | no => rw [ef] at h; exact h
  | ex x => rw [ef] at h; exact h
  | ok ds =>
    rw [ef] at h
    rw [bnd_ok] at h
    intro J F1 H1 g1 w D0 hD
    split at h
    · rename_i hsz
      obtain ⟨all, eall, h⟩ := Go.lcEx (P := P) h (fun x => lcL_ex ds)
      refine ⟨fun i m H' => m = ds.length - i ∧ i ≤ ds.length ∧ ∃ F' acc ys zs, Grow F1 H1 F' H' ∧ H' D0 = some (.lst acc) ∧ ¬ F' D0 ∧ RpA K F' H' acc ys ∧ acc.length ≤ i ∧ lcL b t e (wipeD δ vs) (ds.drop i) = .ok zs ∧ all = ys ++ zs, ⟨ds.length, by simp, Nat.zero_le _, F1, [], [], all, Grow.upd0 hD, upd_same, fun f => g1.dom s.dom _ f hD, .nil, Nat.le_refl _, by simpa using eall, rfl⟩, ?_⟩
      rintro i m H' ⟨rfl, hle, F', acc, ys, zs, g2, hacc, nf, ra, hl, ez, ea⟩
      have s1 := ((s.grow g1).grow g2)
      by_cases hlt : i < ds.length
      · refine .inr ⟨w.go F' H' i g2.stay hlt, fun H3 => i + 1 ≤ ds.length ∧ ∃ F' acc ys zs, Grow F1 H1 F' H3 ∧ H3 D0 = some (.lst acc) ∧ ¬ F' D0 ∧ RpA K F' H3 acc ys ∧ acc.length ≤ i + 1 ∧ lcL b t e (wipeD δ vs) (ds.drop (i + 1)) = .ok zs ∧ all = ys ++ zs, fun H3 ⟨a, c⟩ => ⟨ds.length - (i + 1), by omega, rfl, a, c⟩, fun x H2 y => ?_⟩
        obtain ⟨F2, g3, rx⟩ := w.yld F' H' i x H2 ds[i] g2.stay s1.dom (List.getElem?_eq_getElem hlt) y
        rw [List.drop_eq_getElem_cons hlt] at ez
        obtain ⟨δ1, c, eb, et, rest⟩ := lcL_ok ez
        have s2 := (s1.grow g3).wipe vs
        have nfD : ∀ {F3 H3}, Grow F' H' F3 H3 → ¬ F3 D0 := fun g => g.notF nf (by rw [hacc]; exact fun z => nomatch z)
        refine ⟨F2, wipeD δ vs, ds[i], δ1, s2.len, rx, eb, fun σ2 u2 => ⟨u2.wipe hts, ?_⟩⟩
        refine ⟨F2, δ1, s2.upd u2, ?_⟩
        rw [et]
        intro F3 H3 g4
        rcases rest with ⟨ec, yv, ys', ey, er, ezs⟩ | ⟨ec, er⟩
        · subst ec
          rw [if_pos rfl]
          refine ⟨F3, δ1, (s2.upd u2).grow g4, ?_⟩
          rw [ey]
          intro v F4 H4 g5 rv
          have gg := (g3.trans g4).trans g5
          have hacc4 : H4 D0 = some (.lst acc) := gg.same _ _ hacc
          refine ⟨acc, hacc4, by omega, hlt, F4, acc ++ [v], ys ++ [yv], ys', (g2.trans gg).wrote hD, upd_same, nfD gg, ?_, by rw [List.length_append]; exact Nat.succ_le_succ hl, er, by rw [ea, ezs]; simp⟩
          have kk : Kept F4 H4 (upd H4 D0 (.lst (acc ++ [v]))) := kept_upd (nfD gg) hacc4 trivial
          exact ((gg.rpA ra).append (.cons rv .nil)).mono (fun _ x => x) kk
        · subst ec
          rw [if_neg Bool.false_ne_true]
          have gg := g3.trans g4
          exact ⟨hlt, F3, acc, ys, zs, g2.trans gg, gg.same _ _ hacc, nfD gg, gg.rpA ra, by omega, er, ea⟩
      · have ei : i = ds.length := by omega
        subst ei
        rw [List.drop_length] at ez
        cases ez
        rw [List.append_nil] at ea
        subst ea
        obtain ⟨F2, g3, p⟩ := hP.own (g1.trans g2) (by
          cases e0 : H D0 with
          | none => rfl
          | some o => have := g1.same _ _ e0; rw [hD] at this; cases this) nf (show RpO K F' H' D0 (.list all) from ⟨acc, hacc, ra⟩)
        exact .inl ⟨w.stop F' H' g2.stay, h _ _ _ g3 p⟩
    · exact h.elim
theorem vp_lc {elt tg iter : Expr} {ifs : List Expr} {scope : Scope} {own : List (Str × Nat)} {ts : List Nat} {fi : Dl → Re (List D)} {b : Bd} {t : Dl → Re Bool} {e : Dl → Re D} (hP : POwn X.K P) (hc : X.calm = true) (hN : X.N.Nodup) (hi : VI X W tg iter fi) (ok : BlkOk X.N X.env.scope scope own)
    (hg : ∀ (s : Shared) (H : Hp) (C : Addr) (cl : List (Str × Addr)) (fp : List Addr), VG (X.blk s H scope (compEnvC scope cl C X.env) fp) tg ts b) (ht : ∀ (s : Shared) (H : Hp) (C : Addr) (cl : List (Str × Addr)) (fp : List Addr), VTs (X.blk s H scope (compEnvC scope cl C X.env) fp) ifs t)
    (he : ∀ (s : Shared) (H : Hp) (C : Addr) (cl : List (Str × Addr)) (fp : List Addr), VE (X.blk s H scope (compEnvC scope cl C X.env) fp) XW0 elt e) (hts : ∀ j ∈ ts, j ∈ own.map (·.2)) (hs : ∀ x, foldedSetIterable iter X.env x = pure x := by intro _; rfl) :
    VP X W P (.ListComp elt [⟨tg, iter, ifs, 0⟩] scope pos) (lcD (own.map (·.2)) fi b t e) := PE.imp (pe_lc hc hN hi ok hg ht he hs) fun σ H Q h => t_lc hP hts h
theorem vs_setLc {i : Nat} {y : Str} {py spos : Pos} {elt tg iter : Expr} {ifs : List Expr} {scope : Scope} {own : List (Str × Nat)} {ts : List Nat} {fi : Dl → Re (List D)} {b : Bd} {t : Dl → Re Bool} {e : Dl → Re D} (hc : X.calm = true) (hN : X.N.Nodup) (hy : X.N[i]? = some y) (hyl : X.env.scope.names.lookup y = some .local)
    (hsw : swapsWith (.ListComp elt [⟨tg, iter, ifs, 0⟩] scope pos) (some (.Name y py)) spos.line X.env = pure true) (hi : VI X W tg iter fi) (ok : BlkOk X.N X.env.scope scope own)
    (hg : ∀ (s : Shared) (H : Hp) (C : Addr) (cl : List (Str × Addr)) (fp : List Addr), VG (X.blk s H scope (compEnvC scope cl C X.env) fp) tg ts b) (ht : ∀ (s : Shared) (H : Hp) (C : Addr) (cl : List (Str × Addr)) (fp : List Addr), VTs (X.blk s H scope (compEnvC scope cl C X.env) fp) ifs t)
    (he : ∀ (s : Shared) (H : Hp) (C : Addr) (cl : List (Str × Addr)) (fp : List Addr), VE (X.blk s H scope (compEnvC scope cl C X.env) fp) XW0 elt e) (hts : ∀ j ∈ ts, j ∈ own.map (·.2)) (hs : ∀ x, foldedSetIterable iter X.env x = pure x := by intro _; rfl) :
    VSt X W (.Assign [.Name y py] (.ListComp elt [⟨tg, iter, ifs, 0⟩] scope pos) spos) (setS i (lcD (own.map (·.2)) fi b t e)) := PS.imp (ps_setLc hc hN hy hyl hsw hi ok hg ht he hs) fun D σ H h => t_lc pS_own hts (t_setS h)
theorem vs_setLcO {i : Nat} {y : Str} {py spos : Pos} {elt tg iter : Expr} {ifs : List Expr} {scope : Scope} {own : List (Str × Nat)} {ts : List Nat} {fi : Dl → Re (List D)} {b : Bd} {t : Dl → Re Bool} {e : Dl → Re D} (hc : X.calm = true) (hN : X.N.Nodup) (hy : X.N[i]? = some y) (hyl : X.env.scope.names.lookup y = some .local)
    (hsw : swapsWith (.ListComp elt [⟨tg, iter, ifs, 0⟩] scope pos) (some (.Name y py)) spos.line X.env = pure true) (hi : VI X W tg iter fi) (ok : BlkOk X.N X.env.scope scope own)
    (hg : ∀ (s : Shared) (H : Hp) (C : Addr) (cl : List (Str × Addr)) (fp : List Addr), VG (X.blk s H scope (compEnvC scope cl C X.env) fp) tg ts b) (ht : ∀ (s : Shared) (H : Hp) (C : Addr) (cl : List (Str × Addr)) (fp : List Addr), VTs (X.blk s H scope (compEnvC scope cl C X.env) fp) ifs t)
    (he : ∀ (s : Shared) (H : Hp) (C : Addr) (cl : List (Str × Addr)) (fp : List Addr), VE (X.blk s H scope (compEnvC scope cl C X.env) fp) XW0 elt e) (hts : ∀ j ∈ ts, j ∈ own.map (·.2)) (hs : ∀ x, foldedSetIterable iter X.env x = pure x := by intro _; rfl) :
    VSt X W (.Assign [.Name y py] (.ListComp elt [⟨tg, iter, ifs, 0⟩] scope pos) spos) (setO i (lcD (own.map (·.2)) fi b t e)) := PS.imp (ps_setLc hc hN hy hyl hsw hi ok hg ht he hs) fun D σ H h => t_lc pF_own hts (t_setO h)
end
end VS
end
section
namespace VS
open PySem PySem.Spec PyProof.Rows L2

/-! ### list(x), tuple(x) -/
def lstOfD : List D → Re D
  | [.list ds] => .ok (.list ds)
  | [.tuple ds] => .ok (.list ds)
  | _ => .no
def tupOfD : List D → Re D
  | [.list ds] => .ok (.tuple ds)
  | _ => .no
section
variable {X : Cx} {W : XW} {P : PP} {F : Addr → Prop} {H : Hp} {K : PySem.W.Frag}
theorem cg_list (hP : PNew X.K P) : CallG X W P RpB (fun xs H Q => ∃ p ys, xs = [.ref p] ∧ (SqL X.K H p ys ∨ SqT X.K H p ys) ∧ ∀ l, H l = none → Q (.ref l) (upd H l (.lst ys))) lstOfD := by
  intro F H vs ds Q dm r h
  unfold lstOfD at h
  split at h
  · cases r with
    | cons r rr =>
      cases rr
      obtain ⟨a, xs, e, ha, t⟩ := r
      subst e
      exact ⟨a, xs, rfl, .inl (.inl ha), fun l hn => h.newL hP dm hn t⟩
  · cases r with
    | cons r rr =>
      cases rr
      obtain ⟨a, xs, e, ha, t⟩ := r
      subst e
      exact ⟨a, xs, rfl, .inr ha, fun l hn => h.newL hP dm hn t⟩
  · exact h.elim
theorem cg_tuple : CallG X W (pS X.K) RpB (fun xs H Q => ∃ p ys, xs = [.ref p] ∧ ((SqL X.K H p ys ∧ ∀ l, H l = none → Q (.ref l) (upd H l (.tup ys))) ∨ (SqT X.K H p ys ∧ Q (.ref p) H))) tupOfD := by
  intro F H vs ds Q dm r h
  unfold tupOfD at h
  split at h
  · cases r with
    | cons r rr =>
      cases rr
      obtain ⟨a, xs, e, ha, t⟩ := r
      subst e
      exact ⟨a, xs, rfl, .inl ⟨.inl ha, fun l hn => h.newT hn t⟩⟩
  · exact h.elim
/-- tuple(x) where x may be a tuple -/
def tupAnyD : List D → Re D
  | [.list ds] => .ok (.tuple ds)
  | [.tuple ds] => .ok (.tuple ds)
  | _ => .no
theorem cg_tupAny : CallG X W (pS X.K) Rp (fun xs H Q => ∃ p ys, xs = [.ref p] ∧ ((SqL X.K H p ys ∧ ∀ l, H l = none → Q (.ref l) (upd H l (.tup ys))) ∨ (SqT X.K H p ys ∧ Q (.ref p) H))) tupAnyD := by
  intro F H vs ds Q dm r h
  unfold tupAnyD at h
  split at h
  · cases r with
    | cons r rr =>
      cases rr
      cases r with
      | lst a f t => exact ⟨_, _, rfl, .inl ⟨.inl a, fun l hn => h.newT hn t⟩⟩
  · cases r with
    | cons r rr =>
      cases rr
      cases r with
      | tup a t => exact ⟨_, _, rfl, .inr ⟨a.sq, h.val (.tup a t)⟩⟩
  · exact h.elim

/-! ### sorted(list) -/
def isTup1 : D → Bool
  | .tuple (_ :: _) => true
  | _ => false
def notTN : D → Bool
  | .none => false
  | .tuple _ => false
  | _ => true
def sortOk (xs : List D) : Bool := xs.all (dn 60) && xs.all (fun d => xs.all fun e => PySem.W.alike d e) && (xs.all isTup1 || xs.all notTN) && decide (xs.length ≤ sizeLine)
def sortL (xs : List D) : List D := xs.mergeSort (PySem.W.dataLe false id)
def sortedD : List D → Re D
  | [.list xs] => if sortOk xs = true then .ok (.list (sortL xs)) else .no
  | _ => .no
theorem sortOk_s {xs : List D} (h : sortOk xs = true) : (∀ d ∈ xs, dn 60 d = true) ∧ PySem.W.AllAlike xs ∧ PySem.W.Sortable xs ∧ xs.length ≤ sizeLine := by
  unfold sortOk at h
  simp only [Bool.and_eq_true, Bool.or_eq_true, List.all_eq_true, decide_eq_true_eq] at h
  obtain ⟨⟨⟨h1, h2⟩, h3⟩, h4⟩ := h
  refine ⟨h1, h2, ?_, h4⟩
  rcases h3 with h3 | h3
  · refine .inl fun d hd => ?_
    have q := h3 d hd
    unfold isTup1 at q
    split at q
    · exact ⟨_, _, rfl⟩
    · cases q
  · refine .inr fun d hd => ?_
    have q := h3 d hd
    refine ⟨fun e => ?_, fun ys e => ?_⟩ <;> (subst e; unfold notTN at q; cases q)
def rSortV (K : PySem.W.Frag) : List V → Hp → VK → Prop := fun vs H Q => ∃ (a : Addr) (bs : List (V × D)), vs = [.ref a] ∧ SqL K H a (bs.map (·.1)) ∧ (∀ b ∈ bs, Dp K H b.1 b.2) ∧ sortOk (bs.map (·.2)) = true ∧
  ∀ p, H p = none → Q (.ref p) (upd H p (.lst ((bs.mergeSort (PySem.W.dataLe false (·.2))).map (·.1))))
theorem call_sortV (hu : X.A.units + 64 < cLine) : CallR X (.builtin "sorted") (rSortV X.K) := by
  intro pins s σ H vs us Q I r h
  obtain ⟨a, bs, rfl, hs, hb, hk, q⟩ := h
  obtain ⟨its, rv, hl, hz⟩ := I.list hs
  rw [Vals.ref1 r]
  obtain ⟨k1, k2, k3, k4⟩ := sortOk_s hk
  have e1 : ∀ (bs : List (V × D)) (its : List Value), Vals (bs.map (·.1)) its → PySem.W.EachIs (fun v b => RelV b.1 v) its bs := fun bs => by
    induction bs with
    | nil => intro its r; cases r; exact .nil
    | cons b bs ih => intro its r; cases r with | cons r rr => exact .cons r (ih _ rr)
  have e2 : ∀ (bs : List (V × D)) (its : List Value), Vals (bs.map (·.1)) its → (∀ b ∈ bs, Dp X.K H b.1 b.2) → PySem.W.EachIs (fun v b => ∃ as, Reads s.heap v b.2 as) its bs := fun bs => by
    induction bs with
    | nil => intro its r _; cases r; exact .nil
    | cons b bs ih =>
      intro its r hb
      cases r with
      | cons r rr =>
        refine .cons ?_ (ih _ rr fun b hb' => hb b (List.mem_cons_of_mem _ hb'))
        exact Dp.reads I b.2 b.1 _ (hb b List.mem_cons_self) r
  refine PySem.W.sorted_data (R := fun (v : Value) (b : V × D) => RelV b.1 v) (enc := fun b : V × D => b.2) hl.isList (e1 bs its rv) (e2 bs its rv hb) k2 k3 (by rw [List.length_map] at k4; exact k4) (fun b hb => ?_) fun out ho eo => ?_
  · have := (dn_plain b.2 60 (k1 b.2 (List.mem_map.mpr ⟨b, hb, rfl⟩))).2
    omega
  · obtain ⟨c, hc⟩ := PyProof.Rows.sortedAll_at s.heap its out.toArray
    have e3 : ∀ (bs : List (V × D)) (out : List Value), PySem.W.EachIs (fun v b => RelV b.1 v) out bs → Vals (bs.map (·.1)) out := fun bs => by
      induction bs with
      | nil => intro out r; cases r; exact .nil
      | cons b bs ih => intro out r; cases r with | cons r rr => exact .cons r (ih _ rr)
    have hlen : ((bs.mergeSort (PySem.W.dataLe false (·.2))).map (·.1)).length ≤ sizeLine := by rw [List.length_map, List.length_mergeSort]; rw [List.length_map] at k4; exact k4
    exact ⟨.ref _, upd H (s.heap.objs.size + 1) (.lst _), I.laid (t' := s.toks) (fun _ _ => PyProof.Rows.sortedAll_old) (Nat.le_succ _) ⟨hlen, out, c, e3 _ _ eo, hc⟩, rfl, q _ (I.hok.fresh (Nat.le_succ _))⟩
theorem rpA_zip : ∀ {vs : List V} {ds : List D}, RpA K F H vs ds → ∃ bs : List (V × D), vs = bs.map (·.1) ∧ ds = bs.map (·.2) ∧ ∀ b ∈ bs, Rp K F H b.1 b.2
  | _, _, .nil => ⟨[], rfl, rfl, fun _ h => nomatch h⟩
  | _, _, .cons h t => by
    obtain ⟨bs, e1, e2, r⟩ := rpA_zip t
    refine ⟨(_, _) :: bs, by rw [e1]; rfl, by rw [e2]; rfl, fun b hb => ?_⟩
    rcases List.mem_cons.mp hb with e | hb
    · rw [e]; exact h
    · exact r b hb
theorem rpA_of : ∀ {bs : List (V × D)}, (∀ b ∈ bs, Rp K F H b.1 b.2) → RpA K F H (bs.map (·.1)) (bs.map (·.2))
  | [], _ => .nil
  | b :: bs, h => .cons (h b List.mem_cons_self) (rpA_of fun c hc => h c (List.mem_cons_of_mem _ hc))
theorem sort_snd (bs : List (V × D)) : (bs.mergeSort (PySem.W.dataLe false (·.2))).map (·.2) = sortL (bs.map (·.2)) := by
  unfold sortL
  exact List.map_mergeSort (fun a _ b _ => rfl)
theorem rp_sort {bs : List (V × D)} (h : ∀ b ∈ bs, Rp K F H b.1 b.2) : RpA K F H ((bs.mergeSort (PySem.W.dataLe false (fun b : V × D => b.2))).map (fun b : V × D => b.1)) (sortL (bs.map (·.2))) := by
  rw [← sort_snd]
  exact rpA_of fun b hb => h b (List.mem_mergeSort.mp hb)
theorem cg_sorted (hP : PNew X.K P) : CallG X W P RpB (rSortV X.K) sortedD := by
  intro F H vs ds Q dm r h
  unfold sortedD at h
  split at h
  · split at h
    · rename_i xs hk
      cases r with
      | cons r rr =>
        cases rr
        obtain ⟨a, ys, e, ha, t⟩ := r
        subst e
        obtain ⟨bs, e1, e2, rb⟩ := rpA_zip t
        subst e1 e2
        have k1 := (sortOk_s hk).1
        exact ⟨a, bs, rfl, .inl ha, fun b hb => (rb b hb).dp (dn_plain _ 60 (k1 b.2 (List.mem_map.mpr ⟨b, hb, rfl⟩))).1, hk, fun p hn => h.newL hP dm hn (rp_sort rb)⟩
    · exact h.elim
  · exact h.elim
end

/-! ### slices -/
def cutD (xs : List D) (lo hi : Option Int) : List D := (xs.drop (HT.sIx xs.length 0 lo)).take (HT.sIx xs.length xs.length hi - HT.sIx xs.length 0 lo)
theorem rp_cut {K : PySem.W.Frag} {F : Addr → Prop} {H : Hp} {vs : List V} {ds : List D} (r : RpA K F H vs ds) (lo hi : Option Int) : RpA K F H (cutV vs lo hi) (cutD ds lo hi) := by
  unfold cutV cutD
  rw [r.length]
  exact (r.drop _).take _
/-- a slice's part -/
abbrev Pd := Dl → Re (Option Int)
def noP : Pd := fun _ => .ok none
def asI : D → Re (Option Int)
  | .int i => .ok (some i)
  | _ => .no
def someP (f : Dl → Re D) : Pd := fun δ => (f δ).bnd asI
def tPt (K : PySem.W.Frag) (W : XW) (f : Pd) : TO := fun σ H Q => ∃ F δ, SokE K F H σ δ ∧ ReW W F H (f δ) fun o => ∀ F' H', Grow F H F' H' → Q o H'
abbrev VPt (X : Cx) (W : XW) (o : Option Expr) (f : Pd) : Prop := PO X o (tPt X.K W f)
theorem PO.imp {X : Cx} {o : Option Expr} {t t' : TO} (h : PO X o t) (w : ∀ σ H Q, t' σ H Q → t σ H Q) : PO X o t' := ⟨fun pins s σ H Q I q => h.run pins s σ H Q I (w _ _ _ q)⟩
section
variable {X : Cx} {W : XW} {P : PP} {e : Expr} {lo hi : Option Expr} {fa : Dl → Re D} {fl fh : Pd} {p2 pos : Pos}
theorem vpt_no : VPt X W none noP := PO.imp po_none fun σ H Q ⟨F, δ, s, q⟩ => q F H Grow.refl
theorem vpt_some (h : VE X W e fa) : VPt X W (some e) (someP fa) := PO.imp (po_some h) fun σ H Q ⟨F, δ, s, q⟩ => ⟨F, δ, s, by
  unfold someP at q
  cases ef : fa δ with
  | no => rw [ef] at q; exact q
  | ex x => rw [ef] at q; exact q
  | ok d =>
    rw [ef] at q
    intro v F1 H1 g r
    cases d with
    | int i => cases r; exact ⟨i, rfl, q F1 H1 g⟩
    | _ => exact q.elim⟩
def dSl (g : D → Option Int → Option Int → Re D) (fa : Dl → Re D) (fl fh : Pd) (δ : Dl) : Re D := (fa δ).bnd fun x => (fl δ).bnd fun l => (fh δ).bnd fun u => g x l u
def SlG (X : Cx) (W : XW) (P : PP) (R : Rel) (r : V → Option Int → Option Int → Hp → VK → Prop) (g : D → Option Int → Option Int → Re D) : Prop :=
  ∀ (F : Addr → Prop) (H : Hp) (x : V) (d : D) (l u : Option Int) (Q : VK), Dom F H → R X.K F H x d → Go W P F H (g d l u) Q → r x l u H Q
theorem t_sl {R : Rel} {r : V → Option Int → Option Int → Hp → VK → Prop} {g : D → Option Int → Option Int → Re D} (hp : PMon P) (kR : RKeep R) (hg : SlG X W P R r g) (σ : L2.St) (H : Hp) (Q : VK) (h : tP X.K W P (dSl g fa fl fh) σ H Q) : tSl r (tP X.K W (pp X.K R) fa) (tPt X.K W fl) (tPt X.K W fh) σ H Q := by
  obtain ⟨F, δ, s, h⟩ := h
  refine ⟨F, δ, s, Go.bnd hp h fun d x F1 H1 e1 g1 px h1 => ⟨F1, δ, s.grow g1, ?_⟩⟩
  cases el : fl δ with
  | no => rw [el] at h1; exact h1
  | ex z => rw [el] at h1; exact h1
  | ok l =>
    rw [el] at h1
    intro F2 H2 g2
    refine ⟨F2, δ, (s.grow g1).grow g2, ?_⟩
    have h2 := Go.grow hp h1 g2
    simp only [bnd_ok] at h2
    cases eh : fh δ with
    | no => rw [eh] at h2; exact h2
    | ex z => rw [eh] at h2; exact h2
    | ok u =>
      rw [eh] at h2
      intro F3 H3 g3
      exact hg F3 H3 x d l u Q (g3.dom (g2.dom (g1.dom s.dom))) (kR.k (g2.trans g3) px) (Go.grow hp h2 g3)
/-- a slice of a list: a new list -/
def slL (d : D) (l u : Option Int) : Re D := match d with
  | .list xs => .ok (.list (cutD xs l u))
  | _ => .no
theorem slg_list (hP : PNew X.K P) : SlG X W P RpB (rSlL X.K) slL := by
  intro F H x d l u Q dm r h
  unfold slL at h
  split at h
  · obtain ⟨a, xs, e, ha, t⟩ := r
    exact ⟨a, xs, e, .inl ha, fun p hn => h.newL hP dm hn (rp_cut t l u)⟩
  · exact h.elim
theorem vp_slL (hP : PNew X.K P) (he : VB X W e fa) (hl : VPt X W lo fl) (hh : VPt X W hi fh) : VP X W P (.Subscript e (.Slice lo hi none p2) pos) (dSl slL fa fl fh) := PE.imp (pe_slice sl_list he hl hh) (t_sl hP.toPMon kB (slg_list hP))
/-- a slice of a tuple, a text, a list -/
def slA (d : D) (l u : Option Int) : Re D := match d with
  | .list xs => .ok (.list (cutD xs l u))
  | .tuple xs => .ok (.tuple (cutD xs l u))
  | _ => .no
theorem slg_any : SlG X W (pS X.K) Rp (fun x lo hi H Q => rSlL X.K x lo hi H Q ∨ rSlA X.K x lo hi H Q) slA := by
  intro F H x d l u Q dm r h
  unfold slA at h
  split at h
  · cases r with
    | lst a f t => exact .inl ⟨_, _, rfl, .inl a, fun p hn => h.newL pS_new dm hn (rp_cut t l u)⟩
  · cases r with
    | tup a t =>
      refine .inr ⟨_, _, rfl, a.sq, fun q => ?_, fun _ p hn => h.newT hn (rp_cut t l u)⟩
      refine h.val ?_
      have lt := t.length
      unfold cutD
      rw [← lt, q.1, q.2, Nat.sub_zero, List.drop_zero, List.take_of_length_le (by omega)]
      exact .tup a t
  · exact h.elim
theorem ve_sl (he : VE X W e fa) (hl : VPt X W lo fl) (hh : VPt X W hi fh) : VE X W (.Subscript e (.Slice lo hi none p2) pos) (dSl slA fa fl fh) := PE.imp (pe_slice (SlR.or sl_list sl_tupA) he hl hh) (t_sl pS_mon kS slg_any)
/-- xs[::-1] of a list -/
def revL : D → Re D
  | .list xs => .ok (.list xs.reverse)
  | _ => .no
theorem vp_revL {k : Nat} {p1 p3 : Pos} (hP : PNew X.K P) (he : VB X W e fa) : VP X W P (.Subscript e (.Slice none none (some (.UnaryOp .USub (.Constant (.int 1) k p1) p2)) p3) pos) (d1 revL fa) := PE.imp (pe_revL he) fun σ H Q ⟨F, δ, s, h⟩ =>
  ⟨F, δ, s, Go.bnd hP.toPMon h fun d x F1 H1 e1 g1 px h1 => by
    unfold revL at h1
    split at h1
    · obtain ⟨a, xs, ex, ha, t⟩ := px
      exact ⟨a, xs, ex, .inl ha, fun p hn => h1.newL hP (g1.dom s.dom) hn t.reverse⟩
    · exact h1.elim⟩
/-- script[:n] -/
def dScrSl (i : Nat) (n : Int) (δ : Dl) : Re D := match δ[i]? with
  | some (.br ns) => .ok (.list ((cutD (ns.map .int) none (some n))))
  | _ => .no
theorem vp_scrSl {i : Nat} {y : Str} {py p1 : Pos} {n : Int} {j : Nat} (hP : PNew X.K P) (hy : PE X (.Name y py) (tVar i)) : VP X W P (.Subscript (.Name y py) (.Slice none (some (.Constant (.int n) j p1)) none p2) pos) (dScrSl i n) := PE.imp (pe_slice sl_list hy po_none (po_some pe_int)) fun σ H Q ⟨F, δ, s, h⟩ => by
  unfold dScrSl at h
  split at h
  · rename_i ns en
    obtain ⟨a, ea, ra⟩ := s.sl i _ en
    exact ⟨_, ea, n, rfl, a, _, rfl, ra.1, fun p hn => Go.newL hP s.dom h hn (rp_cut (RpA.ofInts ns) none (some n))⟩
  · exact h.elim
end

/-! ### own lists written -/
theorem sok_write {K : PySem.W.Frag} {F0 : Addr → Prop} {H0 : Hp} {F : Addr → Prop} {H : Hp} {σ : L2.St} {δ : Dl} {i : Nat} {a : Addr} {d d' : D} {o' : HO} (s : Sok K F0 H0 F H σ δ) (ei : δ[i]? = some (.ow d)) (ea : σ[i]? = some (some (.ref a)))
    (hd : RpO K F (upd H a o') a d') : Stay F H F (upd H a o') ∧ Sok K F0 H0 F (upd H a o') σ (δ.set i (.ow d')) := by
  obtain ⟨a', ea', o, nf, n0⟩ := s.ow i d ei
  rw [ea] at ea'
  cases ea'
  obtain ⟨u, hu, mu⟩ := o.there
  have kk : Kept F H (upd H a o') := kept_upd nf hu mu
  refine ⟨⟨fun _ x => x, kk⟩, ⟨by rw [List.length_set]; exact s.len, ⟨s.g.sub, s.g.new, fun b x e => ?_, fun dm b fb => ?_⟩, s.d0, fun b fb => ?_, fun j e h => ?_, fun j e h => ?_, fun j e h => ?_, fun j k e1 e2 b h1 h2 h3 h4 => ?_, fun j c n' fs h => ?_, fun j k c n' c' n'' fs fs' h1 h2 => ?_⟩⟩
  · rw [upd_ne (ne_of_none e n0)]; exact s.g.same b x e
  · by_cases e : b = a
    · subst e; exact upd_some
    · rw [upd_ne e]; exact s.dom b fb
  · by_cases e : b = a
    · subst e; exact upd_some
    · rw [upd_ne e]; exact s.dom b fb
  · by_cases n : i = j
    · subst n; obtain ⟨q, _⟩ := get_set_eq h; cases q
    · obtain ⟨v, ev, r⟩ := s.sh j e (get_set_ne h n)
      exact ⟨v, ev, r.mono (fun _ x => x) kk⟩
  · by_cases n : i = j
    · subst n
      obtain ⟨q, _⟩ := get_set_eq h
      cases q
      exact ⟨a, ea, hd, nf, n0⟩
    · obtain ⟨b, eb, ob, nb, nb0⟩ := s.ow j e (get_set_ne h n)
      have ne : b ≠ a := fun z => by
        subst z
        exact n (s.ne i j d e b ei (get_set_ne h n) ea eb)
      exact ⟨b, eb, ob.kept (fun _ x => x) kk (upd_ne ne), nb, nb0⟩
  · by_cases n : i = j
    · subst n; obtain ⟨q, _⟩ := get_set_eq h; cases q
    · obtain ⟨b, eb, r⟩ := s.br j e (get_set_ne h n)
      refine ⟨b, eb, r.keep fun c x ec nm => ?_⟩
      have ne : c ≠ a := fun z => by
        subst z
        rw [hu] at ec; cases ec
        exact nm mu
      rw [upd_ne ne]; exact ec
  · have f : ∀ (j : Nat) (x : D), (δ.set i (.ow d'))[j]? = some (.ow x) → ∃ y, δ[j]? = some (.ow y) := fun j x h => by
      by_cases n : i = j
      · subst n; exact ⟨d, ei⟩
      · exact ⟨x, get_set_ne h n⟩
    obtain ⟨y1, q1⟩ := f j _ h1
    obtain ⟨y2, q2⟩ := f k _ h2
    exact s.ne j k y1 y2 b q1 q2 h3 h4
  · by_cases n : i = j
    · subst n; obtain ⟨q, _⟩ := get_set_eq h; cases q
    · obtain ⟨w, A, e1, r', nb⟩ := s.ob j c n' fs (get_set_ne h n)
      refine ⟨w, A, e1, r'.kept (fun _ x => x) kk (fun b hb => by obtain ⟨_, _, _, nf', _⟩ := r'.there b hb; exact nf') (fun b hb => upd_ne fun z => by subst z; exact nb i d b ei ea hb), fun k d2 b h1 h2 => ?_⟩
      by_cases m : i = k
      · subst m
        exact nb i d b ei h2
      · exact nb k d2 b (get_set_ne h1 m) h2
  · by_cases n : i = j
    · subst n; obtain ⟨q, _⟩ := get_set_eq h1; cases q
    · by_cases m : i = k
      · subst m; obtain ⟨q, _⟩ := get_set_eq h2; cases q
      · exact s.ob1 j k c n' c' n'' fs fs' (get_set_ne h1 n) (get_set_ne h2 m)
section
variable {X : Cx} {W : XW} {pos apos cpos py : Pos} {i : Nat} {y : Str} {e : Expr} {fe : Dl → Re D}
/-- x.append(e) -/
def appS (i : Nat) (f : Dl → Re D) (δ : Dl) : RS := match δ[i]? with
  | some (.ow (.list xs)) => toS (f δ) fun d => if xs.length < sizeLine then .nx (δ.set i (.ow (.list (xs ++ [d])))) else .no
  | _ => .no
theorem vs_append (hy : PE X (.Name y py) (tVar i)) (he : VE X W e fe) (hs : swapsWith (.Call (.Attribute (.Name y py) "append" apos) [e] [] cpos) none pos.line X.env = pure false := by rfl)
    (hbase : attributeBase (.Name y py) "append" X.env (eval (.Name y py) X.env) = eval (.Name y py) X.env := by rfl)
    (hfew : ((backTo cpos (starEach [e] X.env)).all (fun x => !x.1) && (backToKw cpos (keywordEach [] X.env)).all (fun x => x.1.isSome)
      && decide (([e] : List Expr).length + ([] : List Keyword).length + (if ([] : List Keyword).isEmpty then 0 else 1) < 30)) = true := by rfl)
    (hline : (apos.endLine == cpos.line) = true := by rfl) (hst : starEach [e] X.env = (false, eval e X.env) :: starEach [] X.env := by rfl) (hplain : (backTo cpos (starEach [] X.env)).any (·.1) = false := by rfl) :
    VSt X W (.Expr (.Call (.Attribute (.Name y py) "append" apos) [e] [] cpos) pos) (appS i fe) :=
  PS.imp (ps_expr (pe_bm F.plainAttrs_list F.slot_list_append F.type_list_append mt_append hy (pa_cons he pa_nil hst) hbase hfew hline hst hplain) hs) fun D σ H ⟨F0, H0, F, δ, s, q⟩ => by
    unfold appS at q
    split at q
    · rename_i xs ei
      obtain ⟨a, ea, ⟨vs, ha, ra⟩, nf, n0⟩ := s.ow i _ ei
      refine ⟨_, ea, .inl ⟨rfl, _, .inl (.inl ha)⟩, F, δ, s.e, SO.go (P := pS X.K) s q fun d v F1 H1 e1 g1 r h1 => ?_⟩
      split at h1
      · rename_i hz
        have ha1 := g1.same _ _ ha
        refine ⟨a, vs, v, rfl, rfl, ha1, by rw [ra.length]; exact hz, ?_⟩
        have nf1 : ¬ F1 a := g1.notF nf (by rw [ha]; exact fun z => nomatch z)
        have kk : Kept F1 H1 (upd H1 a (.lst (vs ++ [v]))) := kept_upd nf1 ha1 trivial
        obtain ⟨st, s2⟩ := sok_write (s.grow g1) (d' := .list (xs ++ [d])) (o' := .lst (vs ++ [v])) ei ea ⟨_, upd_same, ((g1.rpA ra).append (.cons r .nil)).mono (fun _ x => x) kk⟩
        exact h1 _ _ _ st s2
      · exact h1.elim
    · exact q.elim
end
end VS
end
section
namespace VS
open PySem PySem.Spec PyProof.Rows L2

/-! ### x.extend(..) of a list, of a tuple -/
theorem ext_tup (l : Addr) (its : Array Value) (n : Nat) (b : Addr) (more : Array Value) (n2 : Nat) (dd : Option Addr) (sl : Array (Option Value)) (h0 : ¬(!its.isEmpty && Builtin.List.listTooLong (its.size + more.size)) = true) (h1 : its.size ≤ sizeLine) (h2 : its.size + more.size ≤ sizeLine + 1) :
    Meets (Builtin.«list.extend» ⟨[.ref l, .ref b], []⟩) (fun _ R s => s.heap.get? l = some { cls := .type "list", dict := none, data := .seq its n, slots := #[] } ∧ s.heap.get? b = some { cls := .type "tuple", dict := dd, data := .seq more n2, slots := sl } ∧
      R (.ok (.ret Value.none)) { s with heap := s.heap.update l (Obj.mapSeq fun x => x ++ more), toks := s.toks }) :=
  .of_wp fun prog w A R s h => by
    obtain ⟨hp, g, d, tk, os⟩ := s
    obtain ⟨hl, hb, h⟩ := h
    have f1 := AutoSeq1.idx_int
    have f2 := AutoSeq1.sub_tuple_tuple
    have f3 := AutoSeq1.sub_list_list
    have f4 := AutoSeq1.sub_tuple_list
    have f5 := AutoSeq1.sub_list_tuple
    have z : (its ++ more).size ≤ sizeLine + 1 := by rw [Array.size_append]; exact h2
    wp_walk using (wpAny_updateSeq hl rfl (hz := h1) (_hz' := z)), AutoSeq1.wpAny_loadPart' hl, AutoSeq1.wpAny_loadPart' hb
    exact ⟨_, rfl, h⟩
def rExtA (K : PySem.W.Frag) : V → List V → Hp → VK → Prop := fun x vs H Q => ∃ l b xs zs, x = .ref l ∧ vs = [.ref b] ∧ H l = some (.lst xs) ∧ (Rd H b (.lst zs) ∨ SqT K H b zs) ∧ xs.length + zs.length ≤ sizeLine ∧ Q .non (upd H l (.lst (xs ++ zs)))
theorem mt_extA {X : Cx} : MtR X "list.extend" (rExtA X.K) := by
  intro pins s σ H x vs v us Q I rx rv h
  obtain ⟨l, b, xs, zs, rfl, rfl, hH, hB, hz, q⟩ := h
  cases rx
  obtain ⟨u, rfl, ru⟩ := rv.one
  cases ru
  obtain ⟨z, its, n, r, hl, e⟩ := I.lstM hH
  have fin : ∀ its2 : List Value, Vals zs its2 → zs.length = its2.length → EP X pins σ Q .none { s with heap := s.heap.update l (Obj.mapSeq fun x => x ++ its2.toArray), toks := s.toks } := fun its2 r2 hl2 =>
    ⟨.non, _, I.lset (its' := its ++ its2) hH e (by simp) (r.append r2) (by rw [List.length_append]; omega), rfl, q⟩
  rcases hB with hB | hB
  · obtain ⟨_, its2, n2, r2, hl2, e2⟩ := lstR I hB
    have hsz : its.toArray.size + its2.toArray.size ≤ sizeLine := by rw [List.size_toArray, List.size_toArray]; omega
    have hlong : ¬ (!its.toArray.isEmpty && Builtin.List.listTooLong (its.toArray.size + its2.toArray.size)) = true := by
      rw [notLongL hsz, Bool.and_false]
      exact Bool.false_ne_true
    exact call_meets F.slot_list_extend ⟨_, e, rfl⟩ F.entry_list_extend (F.args_list_extend_2 _ _) (AutoSeq1.list_extend_list_list_0 l its.toArray n b its2.toArray n2 hlong (by rw [List.size_toArray]; omega) (by omega)) ⟨e, e2, fin its2 r2 hl2⟩
  · obtain ⟨its2, r2, ⟨⟨c, dd, dt, sl⟩, e2, ec, n2, ed⟩, _⟩ := I.tuple hB
    have hl2 := r2.length
    have hsz : its.toArray.size + its2.toArray.size ≤ sizeLine := by rw [List.size_toArray, List.size_toArray]; omega
    have hlong : ¬ (!its.toArray.isEmpty && Builtin.List.listTooLong (its.toArray.size + its2.toArray.size)) = true := by
      rw [notLongL hsz, Bool.and_false]
      exact Bool.false_ne_true
    have ec : c = .type "tuple" := ec
    have ed : dt = .seq its2.toArray n2 := ed
    subst ec ed
    exact call_meets F.slot_list_extend ⟨_, e, rfl⟩ F.entry_list_extend (F.args_list_extend_2 _ _) (ext_tup l its.toArray n b its2.toArray n2 dd sl hlong (by rw [List.size_toArray]; omega) (by omega)) ⟨e, e2, fin its2 r2 hl2⟩
def seqD : D → Re (List D)
  | .list ds => .ok ds
  | .tuple ds => .ok ds
  | _ => .no
section
variable {X : Cx} {W : XW} {pos apos cpos py : Pos} {i : Nat} {y : Str} {e e2 : Expr} {fe fk : Dl → Re D}
def extS (i : Nat) (f : Dl → Re D) (δ : Dl) : RS := match δ[i]? with
  | some (.ow (.list xs)) => toS ((f δ).bnd seqD) fun ds => if xs.length + ds.length ≤ sizeLine then .nx (δ.set i (.ow (.list (xs ++ ds)))) else .no
  | _ => .no
theorem vs_extend (hy : PE X (.Name y py) (tVar i)) (he : VE X W e fe) (hs : swapsWith (.Call (.Attribute (.Name y py) "extend" apos) [e] [] cpos) none pos.line X.env = pure false := by rfl)
    (hbase : attributeBase (.Name y py) "extend" X.env (eval (.Name y py) X.env) = eval (.Name y py) X.env := by rfl)
    (hfew : ((backTo cpos (starEach [e] X.env)).all (fun x => !x.1) && (backToKw cpos (keywordEach [] X.env)).all (fun x => x.1.isSome)
      && decide (([e] : List Expr).length + ([] : List Keyword).length + (if ([] : List Keyword).isEmpty then 0 else 1) < 30)) = true := by rfl)
    (hline : (apos.endLine == cpos.line) = true := by rfl) (hst : starEach [e] X.env = (false, eval e X.env) :: starEach [] X.env := by rfl) (hplain : (backTo cpos (starEach [] X.env)).any (·.1) = false := by rfl) :
    VSt X W (.Expr (.Call (.Attribute (.Name y py) "extend" apos) [e] [] cpos) pos) (extS i fe) :=
  PS.imp (ps_expr (pe_bm F.plainAttrs_list F.slot_list_extend F.type_list_extend mt_extA hy (pa_cons he pa_nil hst) hbase hfew hline hst hplain) hs) fun D σ H ⟨F0, H0, F, δ, s, q⟩ => by
    unfold extS at q
    split at q
    · rename_i xs ei
      obtain ⟨a, ea, ⟨vs, ha, ra⟩, nf, n0⟩ := s.ow i _ ei
      refine ⟨_, ea, .inl ⟨rfl, _, .inl (.inl ha)⟩, F, δ, s.e, ?_⟩
      have fin : ∀ (F1 : Addr → Prop) (H1 : Hp) (b : Addr) (zs : List V) (ds : List PyData), Grow F H F1 H1 → RpA X.K F1 H1 zs ds → (Rd H1 b (.lst zs) ∨ SqT X.K H1 b zs) →
          SO X.K W F0 H0 F1 H1 D (if xs.length + ds.length ≤ sizeLine then .nx (δ.set i (.ow (.list (xs ++ ds)))) else .no) → rExtA X.K (.ref a) [.ref b] H1 (fun _ H => D.nx σ H) := fun F1 H1 b zs ds g1 r hb h1 => by
        split at h1
        · rename_i hz
          have ha1 := g1.same _ _ ha
          refine ⟨a, b, vs, zs, rfl, rfl, ha1, hb, by rw [ra.length, r.length]; exact hz, ?_⟩
          have nf1 : ¬ F1 a := g1.notF nf (by rw [ha]; exact fun z => nomatch z)
          have kk : Kept F1 H1 (upd H1 a (.lst (vs ++ zs))) := kept_upd nf1 ha1 trivial
          obtain ⟨st, s2⟩ := sok_write (s.grow g1) (d' := .list (xs ++ ds)) (o' := .lst (vs ++ zs)) ei ea ⟨_, upd_same, ((g1.rpA ra).append r).mono (fun _ x => x) kk⟩
          exact h1 _ _ _ st s2
        · exact h1.elim
      cases ef : fe δ with
      | no => rw [ef] at q; exact q
      | ex x => rw [ef] at q; exact fun F' H' g => q F' H' g.stay (s.g.trans g)
      | ok d =>
        rw [ef] at q
        intro v F1 H1 g1 r
        cases d with
        | list ds =>
          cases r with
          | lst hb f t => exact fin F1 H1 _ _ ds g1 t (.inl hb) (SO.stay q g1.stay)
        | tuple ds =>
          cases r with
          | tup hb t => exact fin F1 H1 _ _ ds g1 t (.inr hb.sq) (SO.stay q g1.stay)
        | _ => exact q.elim
    · exact q.elim
/-- x[k] = e of an own list -/
def stlS (i : Nat) (fk f : Dl → Re D) (δ : Dl) : RS := match δ[i]? with
  | some (.ow (.list xs)) => toS (f δ) fun d => toS (fk δ) fun k => match k with
    | .int j => (match ixN xs.length j with
      | some m => .nx (δ.set i (.ow (.list (xs.set m d))))
      | none => .no)
    | _ => .no
  | _ => .no
theorem vs_setIx {spos : Pos} (hy : PE X (.Name y py) (tVar i)) (hk : VE X W e2 fk) (he : VE X W e fe)
    (ha : ∀ v, assign (.Subscript (.Name y py) e2 pos) X.env v = (do
      let ov ← holding [v] (eval (.Name y py) X.env)
      let iv ← holding [v, ov] (eval e2 X.env)
      standAt pos
      holding [v, ov, iv] (setItem ov iv v)
      release [v, ov, iv] []) := by intro _; rfl)
    (hs : swapsWithSole [.Subscript (.Name y py) e2 pos] e spos.line X.env = pure false := by rfl) (hw : swappedStores [.Subscript (.Name y py) e2 pos] e X.env = pure none := by rfl) (h1 : (assignEach [.Subscript (.Name y py) e2 pos] X.env).map (·.2) = [assign (.Subscript (.Name y py) e2 pos) X.env] := by rfl) :
    VSt X W (.Assign [.Subscript (.Name y py) e2 pos] e spos) (stlS i fk fe) :=
  PS.imp (ps_asg he (pg_sub hy hk set_list ha) hs hw h1) fun D σ H ⟨F0, H0, F, δ, s, q⟩ => by
    unfold stlS at q
    split at q
    · rename_i xs ei
      obtain ⟨a, ea, ⟨vs, hH, ra⟩, nf, n0⟩ := s.ow i _ ei
      refine ⟨F, δ, s.e, SO.go (P := pS X.K) s q fun d v F1 H1 e1 g1 r h2 => ?_⟩
      refine ⟨_, ea, F1, δ, (s.grow g1).e, SO.go (P := pS X.K) (s.grow g1) h2 fun k u F2 H2 e3 g2 ru h3 => ?_⟩
      cases k with
      | int j =>
        cases ru
        simp only at h3
        split at h3
        · rename_i m em
          have gg := g1.trans g2
          have ha2 := gg.same _ _ hH
          refine ⟨a, vs, j, m, rfl, rfl, ha2, by rw [ra.length]; exact em, ?_⟩
          have nf2 : ¬ F2 a := gg.notF nf (by rw [hH]; exact fun z => nomatch z)
          have kk : Kept F2 H2 (upd H2 a (.lst (vs.set m v))) := kept_upd nf2 ha2 trivial
          obtain ⟨st, s2⟩ := sok_write (s.grow gg) (d' := .list (xs.set m d)) (o' := .lst (vs.set m v)) ei ea ⟨_, upd_same, ((gg.rpA ra).set m (g2.rp r)).mono (fun _ x => x) kk⟩
          exact h3 _ _ _ st s2
        · exact h3.elim
      | _ => exact h3.elim
    · exact q.elim
end

/-! ### dicts written -/
/-- in its place, or at the end -/
def putD (kvs : List (D × D)) (k v : D) : List (D × D) :=
  if (kvs.any fun p => PyData.eqv p.1 k) = true then kvs.map (fun p => if PyData.eqv p.1 k = true then (p.1, v) else p) else kvs ++ [(k, v)]
section
variable {K : PySem.W.Frag} {F : Addr → Prop} {H : Hp}
theorem rpK_keys : ∀ {m : List (D × V)} {ds : List (D × D)}, RpK K F H m ds → m.map (·.1) = ds.map (·.1)
  | _, _, .nil => rfl
  | _, _, .cons _ t => by simp [rpK_keys t]
theorem rpK_app : ∀ {m n : List (D × V)} {ds es : List (D × D)}, RpK K F H m ds → RpK K F H n es → RpK K F H (m ++ n) (ds ++ es)
  | _, _, _, _, .nil, s => s
  | _, _, _, _, .cons h t, s => .cons h (rpK_app t s)
theorem rpK_upd {k : D} {v : V} {d : D} (rv : Rp K F H v d) : ∀ {m : List (D × V)} {ds : List (D × D)}, RpK K F H m ds → RpK K F H (m.map fun p => if PyData.eqv p.1 k = true then (p.1, v) else p) (ds.map fun p => if PyData.eqv p.1 k = true then (p.1, d) else p)
  | _, _, .nil => .nil
  | _, _, @RpK.cons _ _ _ j w vs x ds h t => by
    rw [List.map_cons, List.map_cons]
    by_cases e : PyData.eqv j k = true
    · rw [if_pos e, if_pos e]
      exact .cons rv (rpK_upd rv t)
    · rw [if_neg e, if_neg e]
      exact .cons h (rpK_upd rv t)
theorem any_keys {α : Type} (f : D → Bool) : ∀ {m : List (D × α)} {β : Type} {ds : List (D × β)}, m.map (·.1) = ds.map (·.1) → (m.any fun p => f p.1) = ds.any fun p => f p.1
  | [], _, [], _ => rfl
  | [], _, _ :: _, h => by cases h
  | _ :: _, _, [], h => by cases h
  | p :: m, _, q :: ds, h => by
    simp only [List.map_cons, List.cons.injEq] at h
    rw [List.any_cons, List.any_cons, h.1, any_keys f h.2]
/-- an int or a text as key -/
theorem rp_putK {m : List (Key × V)} {ds : List (D × D)} {v : V} {d : D} (k : Key) (r : RpK K F H (m.map fun p => (kD p.1, p.2)) ds) (rv : Rp K F H v d) : RpK K F H ((putK m k v).map fun p => (kD p.1, p.2)) (putD ds (kD k) d) := by
  unfold putK putD
  have ea : (m.any fun p => decide (p.1 = k)) = ds.any fun p => PyData.eqv p.1 (kD k) := by
    rw [← any_keys (fun x => PyData.eqv x (kD k)) (rpK_keys r), List.any_map]
    congr 1
    funext p
    simp only [Function.comp, eqv_kD]
  rw [ea]
  split
  · have q := rpK_upd (k := kD k) rv r
    rw [List.map_map] at q ⊢
    have : ((fun p : D × V => if PyData.eqv p.1 (kD k) = true then (p.1, v) else p) ∘ fun p : Key × V => (kD p.1, p.2)) = ((fun p : Key × V => (kD p.1, p.2)) ∘ fun p : Key × V => if p.1 = k then (p.1, v) else p) := by
      funext p
      simp only [Function.comp, eqv_kD]
      by_cases e : p.1 = k
      · rw [if_pos (decide_eq_true e), if_pos e]
      · rw [if_neg (by simpa using e), if_neg e]
    rw [← this]
    exact q
  · rw [List.map_append]
    exact rpK_app r (.cons rv .nil)
theorem rp_putT {m : List (List Key × V)} {ds : List (D × D)} {v : V} {d : D} (k : List Key) (r : RpK K F H (m.map fun p => (PyData.tuple (p.1.map kD), p.2)) ds) (rv : Rp K F H v d) : RpK K F H ((putK m k v).map fun p => (PyData.tuple (p.1.map kD), p.2)) (putD ds (.tuple (k.map kD)) d) := by
  unfold putK putD
  have ea : (m.any fun p => decide (p.1 = k)) = ds.any fun p => PyData.eqv p.1 (.tuple (k.map kD)) := by
    rw [← any_keys (fun x => PyData.eqv x (.tuple (k.map kD))) (rpK_keys r), List.any_map]
    congr 1
    funext p
    simp only [Function.comp, eqv_tup]
  rw [ea]
  split
  · have q := rpK_upd (k := .tuple (k.map kD)) rv r
    rw [List.map_map] at q ⊢
    have : ((fun p : D × V => if PyData.eqv p.1 (.tuple (k.map kD)) = true then (p.1, v) else p) ∘ fun p : List Key × V => (PyData.tuple (p.1.map kD), p.2)) = ((fun p : List Key × V => (PyData.tuple (p.1.map kD), p.2)) ∘ fun p : List Key × V => if p.1 = k then (p.1, v) else p) := by
      funext p
      simp only [Function.comp, eqv_tup]
      by_cases e : p.1 = k
      · rw [if_pos (decide_eq_true e), if_pos e]
      · rw [if_neg (by simpa using e), if_neg e]
    rw [← this]
    exact q
  · rw [List.map_append]
    exact rpK_app r (.cons rv .nil)
end

/-! ### {k: v for ..}, the keys ints or texts -/
def dcL (b : Bd) (t : Dl → Re Bool) (fk fv : Dl → Re D) (δ : Dl) : List D → List (D × D) → Re (List (D × D))
  | [], acc => .ok acc
  | d :: ds, acc => match b d δ with
    | none => .no
    | some δ1 => (nxR (t δ1)).bnd fun c => if c = true then (nxR (fk δ1)).bnd fun k => (nxR (fv δ1)).bnd fun v => if kindK k = some false then dcL b t fk fv δ ds (putD acc k v) else .no else dcL b t fk fv δ ds acc
def dcD (vs : List Nat) (items : Dl → Re (List D)) (b : Bd) (t : Dl → Re Bool) (fk fv : Dl → Re D) (δ : Dl) : Re D :=
  (items δ).bnd fun ds => if ds.length ≤ sizeLine then (dcL b t fk fv (wipeD δ vs) ds []).bnd fun m => .ok (.dict m) else .no
theorem dcL_ok {b : Bd} {t : Dl → Re Bool} {fk fv : Dl → Re D} {δ : Dl} {d : D} {ds : List D} {acc : List (D × D)} {r : Re (List (D × D))} (h : dcL b t fk fv δ (d :: ds) acc = r) (nn : r ≠ .no) : ∃ δ1 c, b d δ = some δ1 ∧ t δ1 = .ok c ∧
    ((c = true ∧ ∃ k v, fk δ1 = .ok k ∧ fv δ1 = .ok v ∧ kindK k = some false ∧ dcL b t fk fv δ ds (putD acc k v) = r) ∨ (c = false ∧ dcL b t fk fv δ ds acc = r)) := by
  unfold dcL at h
  cases eb : b d δ with
  | none => rw [eb] at h; exact (nn h.symm).elim
  | some δ1 =>
    rw [eb] at h
    cases et : t δ1 with
    | ex x => simp only [et, nxR, bnd_no] at h; exact (nn h.symm).elim
    | no => simp only [et, nxR, bnd_no] at h; exact (nn h.symm).elim
    | ok c =>
      simp only [et, nxR, bnd_ok] at h
      refine ⟨δ1, c, rfl, et, ?_⟩
      cases c with
      | false => rw [if_neg Bool.false_ne_true] at h; exact .inr ⟨rfl, h⟩
      | true =>
        rw [if_pos rfl] at h
        cases ek : fk δ1 with
        | ex x => simp only [ek, nxR, bnd_no] at h; exact (nn h.symm).elim
        | no => simp only [ek, nxR, bnd_no] at h; exact (nn h.symm).elim
        | ok k =>
          simp only [ek, nxR, bnd_ok] at h
          cases ev : fv δ1 with
          | ex x => simp only [ev, nxR, bnd_no] at h; exact (nn h.symm).elim
          | no => simp only [ev, nxR, bnd_no] at h; exact (nn h.symm).elim
          | ok v =>
            simp only [ev, nxR, bnd_ok] at h
            split at h
            · rename_i kk
              exact .inl ⟨rfl, k, v, rfl, rfl, kk, h⟩
            · exact (nn h.symm).elim
theorem dcL_ex {b : Bd} {t : Dl → Re Bool} {fk fv : Dl → Re D} {δ : Dl} {x : Xn} : ∀ (ds : List D) (acc : List (D × D)), dcL b t fk fv δ ds acc ≠ .ex x
  | [], acc => fun h => nomatch h
  | d :: ds, acc => fun h => by
    obtain ⟨δ1, c, _, _, q⟩ := dcL_ok h (fun z => nomatch z)
    rcases q with ⟨_, k, v, _, _, _, q⟩ | ⟨_, q⟩
    · exact dcL_ex ds _ q
    · exact dcL_ex ds _ q
theorem putK_len {κ : Type} [DecidableEq κ] (m : List (κ × V)) (k : κ) (v : V) : (putK m k v).length ≤ m.length + 1 := length_putK m k v
section
variable {X : Cx} {W : XW} {P : PP} {pos : Pos}
theorem t_dc {ts vs : List Nat} {fi : Dl → Re (List D)} {b : Bd} {t : Dl → Re Bool} {fk fv : Dl → Re D} {K : PySem.W.Frag} (hP : POwn K P) (hts : ∀ j ∈ ts, j ∈ vs) {σ : L2.St} {H : Hp} {Q : VK} (h : tP K W P (dcD vs fi b t fk fv) σ H Q) :
    tDc (tI K W fi) (tG K ts b) (tT K XW0 t) (tP K XW0 (pS K) fk) (tP K XW0 (pS K) fv) vs σ H Q := by
  obtain ⟨F, δ, s, h⟩ := h
  refine ⟨F, δ, s, ?_⟩
  change ReW W F H ((fi δ).bnd _) _ at h
  cases ef : fi δ with
  | no => rw [ef] at h; exact h
  | ex x => rw [ef] at h; exact h
  | ok ds =>
    rw [ef] at h
    rw [bnd_ok] at h
    intro J F1 H1 g1 w D0 hD
    split at h
    · rename_i hsz
      cases eall : dcL b t fk fv (wipeD δ vs) ds [] with
      | no => rw [eall] at h; exact h.elim
      | ex x => exact (dcL_ex ds [] eall).elim
      | ok all =>
        rw [eall] at h
        rw [bnd_ok] at h
        refine ⟨fun i m H' => m = ds.length - i ∧ i ≤ ds.length ∧ ∃ F' acc ys, Grow F1 H1 F' H' ∧ H' D0 = some (.dK acc) ∧ ¬ F' D0 ∧ RpK K F' H' (acc.map fun p => (kD p.1, p.2)) ys ∧ acc.length ≤ i ∧ dcL b t fk fv (wipeD δ vs) (ds.drop i) ys = .ok all, ⟨ds.length, by simp, Nat.zero_le _, F1, [], [], Grow.upd0 hD, upd_same, fun f => g1.dom s.dom _ f hD, .nil, Nat.le_refl _, by simpa using eall⟩, ?_⟩
        rintro i m H' ⟨rfl, hle, F', acc, ys, g2, hacc, nf, ra, hl, ez⟩
        have s1 := ((s.grow g1).grow g2)
        by_cases hlt : i < ds.length
        · refine .inr ⟨w.go F' H' i g2.stay hlt, fun H3 => i + 1 ≤ ds.length ∧ ∃ F' acc ys, Grow F1 H1 F' H3 ∧ H3 D0 = some (.dK acc) ∧ ¬ F' D0 ∧ RpK K F' H3 (acc.map fun p => (kD p.1, p.2)) ys ∧ acc.length ≤ i + 1 ∧ dcL b t fk fv (wipeD δ vs) (ds.drop (i + 1)) ys = .ok all, fun H3 ⟨a, c⟩ => ⟨ds.length - (i + 1), by omega, rfl, a, c⟩, fun x H2 y => ?_⟩
          obtain ⟨F2, g3, rx⟩ := w.yld F' H' i x H2 ds[i] g2.stay s1.dom (List.getElem?_eq_getElem hlt) y
          rw [List.drop_eq_getElem_cons hlt] at ez
          obtain ⟨δ1, c, eb, et, rest⟩ := dcL_ok ez (fun z => nomatch z)
          have s2 := (s1.grow g3).wipe vs
          have nfD : ∀ {F3 H3}, Grow F' H' F3 H3 → ¬ F3 D0 := fun g => g.notF nf (by rw [hacc]; exact fun z => nomatch z)
          refine ⟨F2, wipeD δ vs, ds[i], δ1, s2.len, rx, eb, fun σ2 u2 => ⟨u2.wipe hts, ?_⟩⟩
          refine ⟨F2, δ1, s2.upd u2, ?_⟩
          rw [et]
          intro F3 H3 g4
          rcases rest with ⟨ec, kx, vx, ek, ev, kk, er⟩ | ⟨ec, er⟩
          · subst ec
            rw [if_pos rfl]
            refine ⟨F3, δ1, (s2.upd u2).grow g4, ?_⟩
            rw [ek]
            intro ku F4 H4 g5 rk
            refine ⟨F4, δ1, ((s2.upd u2).grow g4).grow g5, ?_⟩
            rw [ev]
            intro vu F5 H5 g6 rv
            have gg := ((g3.trans g4).trans g5).trans g6
            have hacc5 : H5 D0 = some (.dK acc) := gg.same _ _ hacc
            obtain ⟨k', eku, ekx⟩ := key_K rk kk
            subst ekx
            refine ⟨acc, k', eku, hacc5, by omega, hlt, F5, putK acc k' vu, putD ys (kD k') vx, (g2.trans gg).wrote hD, upd_same, nfD gg, ?_, Nat.le_trans (length_putK acc k' vu) (Nat.succ_le_succ hl), er⟩
            have ku' : Kept F5 H5 (upd H5 D0 (.dK (putK acc k' vu))) := kept_upd (nfD gg) hacc5 trivial
            exact (rp_putK k' (gg.rpK ra) rv).mono (fun _ x => x) ku'
          · subst ec
            rw [if_neg Bool.false_ne_true]
            have gg := g3.trans g4
            exact ⟨hlt, F3, acc, ys, g2.trans gg, gg.same _ _ hacc, nfD gg, gg.rpK ra, by omega, er⟩
        · have ei : i = ds.length := by omega
          subst ei
          rw [List.drop_length] at ez
          cases ez
          obtain ⟨F2, g3, p⟩ := hP.own (g1.trans g2) (by
            cases e0 : H D0 with
            | none => rfl
            | some o => have := g1.same _ _ e0; rw [hD] at this; cases this) nf (show RpO K F' H' D0 (.dict all) from Or.inl ⟨acc, hacc, ra⟩)
          exact .inl ⟨w.stop F' H' g2.stay, h _ _ _ g3 p⟩
    · exact h.elim
theorem vp_dc {kx vx tg iter : Expr} {ifs : List Expr} {scope : Scope} {own : List (Str × Nat)} {ts : List Nat} {fi : Dl → Re (List D)} {b : Bd} {t : Dl → Re Bool} {fk fv : Dl → Re D} (hP : POwn X.K P) (hc : X.calm = true) (hN : X.N.Nodup) (hi : VI X W tg iter fi) (ok : BlkOk X.N X.env.scope scope own)
    (hg : ∀ (s : Shared) (H : Hp) (C : Addr) (cl : List (Str × Addr)) (fp : List Addr), VG (X.blk s H scope (compEnvC scope cl C X.env) fp) tg ts b) (ht : ∀ (s : Shared) (H : Hp) (C : Addr) (cl : List (Str × Addr)) (fp : List Addr), VTs (X.blk s H scope (compEnvC scope cl C X.env) fp) ifs t)
    (hk : ∀ (s : Shared) (H : Hp) (C : Addr) (cl : List (Str × Addr)) (fp : List Addr), VE (X.blk s H scope (compEnvC scope cl C X.env) fp) XW0 kx fk)
    (he : ∀ (s : Shared) (H : Hp) (C : Addr) (cl : List (Str × Addr)) (fp : List Addr), VE (X.blk s H scope (compEnvC scope cl C X.env) fp) XW0 vx fv) (hts : ∀ j ∈ ts, j ∈ own.map (·.2)) (hs : ∀ x, foldedSetIterable iter X.env x = pure x := by intro _; rfl) :
    VP X W P (.DictComp kx vx [⟨tg, iter, ifs, 0⟩] scope pos) (dcD (own.map (·.2)) fi b t fk fv) := PE.imp (pe_dc hc hN hi ok hg ht hk he hs) fun σ H Q h => t_dc hP hts h
end

/-! ### a, b, .. = x, y, .. -/
/-- values and what they are to their slots: shared, or new ones of their own -/
inductive MR (K : PySem.W.Frag) (F : Addr → Prop) (H Hs : Hp) : List V → List Sl → List Addr → Prop
  | nil : MR K F H Hs [] [] []
  | sh {v vs d ss as} : Rp K F H v d → MR K F H Hs vs ss as → MR K F H Hs (v :: vs) (.sh d :: ss) as
  | ow {a vs d ss as} : RpO K F H a d → ¬ F a → Hs a = none → a ∉ as → MR K F H Hs vs ss as → MR K F H Hs (.ref a :: vs) (.ow d :: ss) (a :: as)
theorem MR.old {K : PySem.W.Frag} {F : Addr → Prop} {H Hs Hs' : Hp} (s : Same Hs' Hs) : ∀ {vs : List V} {ss : List Sl} {as : List Addr}, MR K F H Hs vs ss as → MR K F H Hs' vs ss as
  | _, _, _, .nil => .nil
  | _, _, _, .sh r t => .sh r (t.old s)
  | _, _, _, .ow o n h q t => .ow o n (s.free h) q (t.old s)
theorem MR.new {K : PySem.W.Frag} {F : Addr → Prop} {H Hs : Hp} : ∀ {vs : List V} {ss : List Sl} {as : List Addr}, MR K F H Hs vs ss as → ∀ a ∈ as, Hs a = none
  | _, _, _, .nil, _, h => nomatch h
  | _, _, _, .sh r t, a, h => t.new a h
  | _, _, _, .ow o n q _ t, a, h => (List.mem_cons.mp h).elim (fun e => e ▸ q) (t.new a)
def argsM : List (Bool × (Dl → Re D)) → Dl → Re (List Sl)
  | [], _ => .ok []
  | (w, f) :: r, δ => (f δ).bnd fun d => (argsM r δ).bnd fun ss => .ok ((if w = true then Sl.ow d else .sh d) :: ss)
def tAm (K : PySem.W.Frag) (W : XW) (f : Dl → Re (List Sl)) : TA := fun σ H Q => ∃ F δ, SokE K F H σ δ ∧ ReW W F H (f δ) fun ss => ∀ vs as F' H', Grow F H F' H' → MR K F' H' H vs ss as → Q vs H'
abbrev VM (X : Cx) (W : XW) (es : List Expr) (f : Dl → Re (List Sl)) : Prop := PA X es (tAm X.K W f)
section
variable {X : Cx} {W : XW} {e : Expr} {es : List Expr} {f : Dl → Re D} {fm : List (Bool × (Dl → Re D))}
theorem vm_nil : VM X W [] (argsM []) := PA.imp pa_nil fun σ H Q ⟨F, δ, s, h⟩ => h [] [] F H Grow.refl .nil
theorem vm_sh (h : VE X W e f) (hr : VM X W es (argsM fm)) (hs : starEach (e :: es) X.env = (false, eval e X.env) :: starEach es X.env := by rfl) : VM X W (e :: es) (argsM ((false, f) :: fm)) :=
  PA.imp (pa_cons h hr hs) fun σ H Q ⟨F, δ, s, q⟩ => by
    refine ⟨F, δ, s, ?_⟩
    change ReW W F H ((f δ).bnd fun d => (argsM fm δ).bnd fun ss => .ok (Sl.sh d :: ss)) _ at q
    cases ef : f δ with
    | no => rw [ef] at q; exact q
    | ex x => rw [ef] at q; exact q
    | ok d =>
      rw [ef] at q
      intro v F1 H1 g1 rv
      refine ⟨F1, δ, s.grow g1, ?_⟩
      simp only [bnd_ok] at q
      cases eg : argsM fm δ with
      | no => rw [eg] at q; exact q
      | ex x => rw [eg] at q; exact fun F2 H2 g2 => q F2 H2 (g1.trans g2)
      | ok ss =>
        rw [eg] at q
        exact fun vs as F2 H2 g2 m => q (v :: vs) as F2 H2 (g1.trans g2) (.sh (g2.rp rv) (m.old g1.same))
theorem vm_ow (h : VF X W e f) (hr : VM X W es (argsM fm)) (hs : starEach (e :: es) X.env = (false, eval e X.env) :: starEach es X.env := by rfl) : VM X W (e :: es) (argsM ((true, f) :: fm)) :=
  PA.imp (pa_cons h hr hs) fun σ H Q ⟨F, δ, s, q⟩ => by
    refine ⟨F, δ, s, ?_⟩
    change ReW W F H ((f δ).bnd fun d => (argsM fm δ).bnd fun ss => .ok (Sl.ow d :: ss)) _ at q
    cases ef : f δ with
    | no => rw [ef] at q; exact q
    | ex x => rw [ef] at q; exact q
    | ok d =>
      rw [ef] at q
      rintro v F1 H1 g1 ⟨a, ev, hn, nf, o⟩
      subst ev
      refine ⟨F1, δ, s.grow g1, ?_⟩
      simp only [bnd_ok] at q
      cases eg : argsM fm δ with
      | no => rw [eg] at q; exact q
      | ex x => rw [eg] at q; exact fun F2 H2 g2 => q F2 H2 (g1.trans g2)
      | ok ss =>
        rw [eg] at q
        intro vs as F2 H2 g2 m
        obtain ⟨u, hu, _⟩ := o.there
        refine q (.ref a :: vs) (a :: as) F2 H2 (g1.trans g2) (.ow (o.kept g2.sub g2.kept ((g2.same a u hu).trans hu.symm)) (g2.notF nf o.some) hn (fun z => ?_) (m.old g1.same))
        have := m.new a z
        rw [hu] at this
        cases this
end
def bindM : List Nat → List Sl → Dl → Dl
  | i :: is, s :: ss, δ => bindM is ss (δ.set i s)
  | _, _, δ => δ
def bindV : List Nat → List V → L2.St → L2.St
  | i :: is, v :: vs, σ => bindV is vs (σ.set i (some v))
  | _, _, σ => σ
theorem sok_bind {K : PySem.W.Frag} {F0 : Addr → Prop} {H0 : Hp} {F : Addr → Prop} {H Hs : Hp} (h0 : ∀ a, Hs a = none → H0 a = none) : ∀ {vs : List V} {ss : List Sl} {as : List Addr} (is : List Nat) {σ : L2.St} {δ : Dl}, MR K F H Hs vs ss as → Sok K F0 H0 F H σ δ →
    (∀ (j : Nat) (e : D), δ[j]? = some (Sl.ow e) → ∀ a ∈ as, σ[j]? ≠ some (some (.ref a))) →
    (∀ (j : Nat) (c n : Int) (fs : List (Str × Bool × D)) (v : V) (A : List Addr), δ[j]? = some (Sl.ob c n fs) → σ[j]? = some (some v) → ObR K F H H0 v c n fs A → ∀ a ∈ as, a ∉ A) → Sok K F0 H0 F H (bindV is vs σ) (bindM is ss δ)
  | _, _, _, is, σ, δ, .nil, s, _, _ => by
    cases is with
    | nil => exact s
    | cons _ _ => exact s
  | _, _, _, [], σ, δ, .sh _ _, s, _, _ => s
  | _, _, _, [], σ, δ, .ow _ _ _ _ _, s, _, _ => s
  | _, _, _, i :: is, σ, δ, .sh r t, s, hn, ho' => by
    refine sok_bind h0 is t (s.setSh r) (fun j e h a ha => ?_) fun j c n' fs v A h h2 r2 a ha => ?_
    · by_cases n : i = j
      · subst n
        obtain ⟨q, _⟩ := get_set_eq h
        cases q
      · rw [List.getElem?_set_ne n]
        exact hn j e (get_set_ne h n) a ha
    · by_cases n : i = j
      · subst n
        obtain ⟨q, _⟩ := get_set_eq h
        cases q
      · rw [List.getElem?_set_ne n] at h2
        exact ho' j c n' fs v A (get_set_ne h n) h2 r2 a ha
  | _, _, _, i :: is, σ, δ, .ow (a := a) o nf ho na t, s, hn, ho' => by
    refine sok_bind h0 is t (s.setOw o nf (h0 a ho) (fun j e h _ => hn j e h a List.mem_cons_self) fun j c n' fs v A h h2 r2 => ho' j c n' fs v A h h2 r2 a List.mem_cons_self) (fun j e h b hb => ?_) fun j c n' fs v A h h2 r2 b hb => ?_
    · by_cases n : i = j
      · subst n
        obtain ⟨q, hi⟩ := get_set_eq h
        rw [List.getElem?_set_self (by rw [← s.len]; exact hi)]
        intro z
        cases z
        exact na hb
      · rw [List.getElem?_set_ne n]
        exact hn j e (get_set_ne h n) b (List.mem_cons_of_mem _ hb)
    · by_cases n : i = j
      · subst n
        obtain ⟨q, _⟩ := get_set_eq h
        cases q
      · rw [List.getElem?_set_ne n] at h2
        exact ho' j c n' fs v A (get_set_ne h n) h2 r2 b (List.mem_cons_of_mem _ hb)
def parS (is : List Nat) (fm : Dl → Re (List Sl)) (δ : Dl) : RS := toS (fm δ) fun ss => if ss.length = is.length then .nx (bindM is ss δ) else .no
theorem MR.length {K : PySem.W.Frag} {F : Addr → Prop} {H Hs : Hp} : ∀ {vs : List V} {ss : List Sl} {as : List Addr}, MR K F H Hs vs ss as → vs.length = ss.length
  | _, _, _, .nil => rfl
  | _, _, _, .sh _ t => congrArg (· + 1) t.length
  | _, _, _, .ow _ _ _ _ t => congrArg (· + 1) t.length
section
variable {X : Cx} {W : XW} {is : List Nat} {fm : Dl → Re (List Sl)} {pos : Pos} {K : PySem.W.Frag} {F0 : Addr → Prop} {H0 : Hp} {F : Addr → Prop} {H : Hp} {σ : L2.St} {δ : Dl} {D : Ends}
theorem SO.goM {r : Re (List Sl)} {k : List Sl → RS} {Q : List V → Hp → Prop} (s : Sok K F0 H0 F H σ δ) (h : SO K W F0 H0 F H D (toS r k))
    (q : ∀ ss vs as F1 H1, r = .ok ss → Grow F H F1 H1 → MR K F1 H1 H vs ss as → SO K W F0 H0 F1 H1 D (k ss) → Q vs H1) : ReW W F H r fun ss => ∀ vs as F' H', Grow F H F' H' → MR K F' H' H vs ss as → Q vs H' := by
  cases r with
  | ok ss => exact fun vs as F' H' g m => q ss vs as F' H' rfl g m (SO.stay h g.stay)
  | ex x => exact fun F' H' g => h F' H' g.stay (s.g.trans g)
  | no => exact h
theorem par_core {H1 : Hp} {F1 : Addr → Prop} {vs : List V} {ss : List Sl} {as : List Addr} (s : Sok K F0 H0 F H σ δ) (g : Grow F H F1 H1) (m : MR K F1 H1 H vs ss as) : Sok K F0 H0 F1 H1 (bindV is vs σ) (bindM is ss δ) :=
  sok_bind (fun a h => s.g.same.free h) is m (s.grow g) (fun j e h a ha z => by
    obtain ⟨b, eb, o, _⟩ := s.ow j e h
    rw [eb] at z
    cases z
    obtain ⟨u, hu, _⟩ := o.there
    rw [m.new _ ha] at hu
    cases hu) fun j c n fs w A ej es r a ha => by
    obtain ⟨w', A', e1, r', _⟩ := s.ob j c n fs ej
    rw [es] at e1
    cases e1
    exact r.notIn ⟨A', c, n, r'⟩ g.same (m.new a ha)
theorem vs_par2 {i j : Nat} {x y : Str} {a b : Expr} {px py pt : Pos} {kt k2 pt2} (hc : X.calm = true) (hN : X.N.Nodup) (hi : X.N[i]? = some x) (hj : X.N[j]? = some y) (hij : i ≠ j)
    (hx : X.env.scope.names.lookup x = some .local) (hy : X.env.scope.names.lookup y = some .local) (ha : VM X W [a, b] fm)
    (hw : swappedStores [.Tuple [.Name x px, .Name y py] kt pt] (.Tuple [a, b] k2 pt2) X.env = pure (some [x, y]))
    (hs : swapsWithSole [.Tuple [.Name x px, .Name y py] kt pt] (.Tuple [a, b] k2 pt2) pos.line X.env = pure false := by rfl) :
    VSt X W (.Assign [.Tuple [.Name x px, .Name y py] kt pt] (.Tuple [a, b] k2 pt2) pos) (parS [i, j] fm) := PS.imp (ps_par hc hN hi hj hij hx hy ha hw hs) fun D σ H ⟨F0, H0, F, δ, s, q⟩ =>
  ⟨F, δ, s.e, SO.goM s q fun ss vs as F1 H1 e g m h1 => by
    split at h1
    · rename_i hl
      have hv := m.length.trans hl
      have hvs : ∃ v w, vs = [v, w] := match vs, hv with
        | [v, w], _ => ⟨v, w, rfl⟩
      obtain ⟨v, w, ev⟩ := hvs
      subst ev
      exact ⟨v, w, rfl, h1 F1 H1 _ Stay.refl (par_core (is := [i, j]) s g m)⟩
    · exact h1.elim⟩
theorem vs_par3 {i j l : Nat} {x y z : Str} {a b c : Expr} {px py pz pt : Pos} {kt k2 pt2} (hc : X.calm = true) (hN : X.N.Nodup) (hi : X.N[i]? = some x) (hj : X.N[j]? = some y) (hl : X.N[l]? = some z) (hij : i ≠ j) (hil : i ≠ l) (hjl : j ≠ l)
    (hx : X.env.scope.names.lookup x = some .local) (hy : X.env.scope.names.lookup y = some .local) (hz : X.env.scope.names.lookup z = some .local) (ha : VM X W [a, b, c] fm)
    (hw : swappedStores [.Tuple [.Name x px, .Name y py, .Name z pz] kt pt] (.Tuple [a, b, c] k2 pt2) X.env = pure (some [x, y, z]))
    (hs : swapsWithSole [.Tuple [.Name x px, .Name y py, .Name z pz] kt pt] (.Tuple [a, b, c] k2 pt2) pos.line X.env = pure false := by rfl) :
    VSt X W (.Assign [.Tuple [.Name x px, .Name y py, .Name z pz] kt pt] (.Tuple [a, b, c] k2 pt2) pos) (parS [i, j, l] fm) := PS.imp (ps_par3 hc hN hi hj hl hij hil hjl hx hy hz ha hw hs) fun D σ H ⟨F0, H0, F, δ, s, q⟩ =>
  ⟨F, δ, s.e, SO.goM s q fun ss vs as F1 H1 e g m h1 => by
    split at h1
    · rename_i hl
      have hv := m.length.trans hl
      have hvs : ∃ u v w, vs = [u, v, w] := match vs, hv with
        | [u, v, w], _ => ⟨u, v, w, rfl⟩
      obtain ⟨u, v, w, ev⟩ := hvs
      subst ev
      exact ⟨u, v, w, rfl, h1 F1 H1 _ Stay.refl (par_core (is := [i, j, l]) s g m)⟩
    · exact h1.elim⟩
/-- several names, in order -/
def gNames : List Nat → TGs
  | [] => gNil
  | i :: is => gCons (gName i) (gNames is)
theorem gNames_run : ∀ (is : List Nat) (vs : List V) (σ : L2.St) (H : Hp) (Q : L2.St → Hp → Prop), vs.length = is.length → Q (bindV is vs σ) H → gNames is vs σ H Q
  | [], [], σ, H, Q, _, q => ⟨rfl, q⟩
  | i :: is, v :: vs, σ, H, Q, hl, q => ⟨v, vs, rfl, gNames_run is vs _ H Q (by simpa using hl) q⟩
  | [], _ :: _, _, _, _, hl, _ => by simp at hl
  | _ :: _, [], _, _, _, hl, _ => by simp at hl
theorem pgs_name {i : Nat} {x : Str} {p : Pos} {es : List Expr} (hN : X.N.Nodup) (hi : X.N[i]? = some x) (hx : Loc X.env.scope x) (hr : PGs X es (gNames is)) (hf : X.fn x = true ∨ X.env.scope.names.lookup x = some .local := by first | exact .inl rfl | exact .inr rfl)
    (hs : (assignEach (.Name x p :: es) X.env).map (·.2) = assign (.Name x p) X.env :: (assignEach es X.env).map (·.2) := by rfl) : PGs X (.Name x p :: es) (gNames (i :: is)) := pgs_cons (pg_name hN hi hx hf) hr hs
/-- .. by a tuple that is made and taken apart -/
theorem vs_parG {es ts : List Expr} {n : Nat} {kt k2 pt pt2} (hc : X.calm = true) (ha : VM X W es fm) (hg : PGs X ts (gNames is)) (hn : (assignEach ts X.env).length = n) (hst : (assignEach ts X.env).findIdx? (·.1) = none) (hl : is.length = n) (h8 : n ≤ sizeLine)
    (hs : swapsWithSole [.Tuple ts kt pt] (.Tuple es k2 pt2) pos.line X.env = pure false := by rfl) (hw : swappedStores [.Tuple ts kt pt] (.Tuple es k2 pt2) X.env = pure none := by rfl)
    (h1 : (assignEach [.Tuple ts kt pt] X.env).map (·.2) = [assign (.Tuple ts kt pt) X.env] := by rfl) : VSt X W (.Assign [.Tuple ts kt pt] (.Tuple es k2 pt2) pos) (parS is fm) := PS.imp (ps_asg (pe_tup ha) (pg_tup hc hg hn hst) hs hw h1) fun D σ H ⟨F0, H0, F, δ, s, q⟩ =>
  ⟨F, δ, s.e, SO.goM s q fun ss vs as F1 H1 e g m h1 => by
    split at h1
    · rename_i hl2
      have hv := m.length.trans hl2
      refine ⟨by omega, fun p hp => ⟨p, vs, rfl, .inl (.inl upd_same), by omega, gNames_run is vs σ _ _ hv ?_⟩⟩
      have g2 : Grow F1 H1 F1 (upd H1 p (.tup vs)) := Grow.upd0 hp
      have m2 : ∀ {vs : List V} {ss : List Sl} {as : List Addr}, MR X.K F1 H1 H vs ss as → ∀ o, MR X.K F1 (upd H1 p o) H vs ss as := fun {vs ss as} m o => by
        induction m with
        | nil => exact .nil
        | sh r t ih => exact .sh (r.mono (fun _ x => x) (Kept.of (same_upd hp))) ih
        | ow ro nf ho na t ih =>
          refine .ow (ro.kept (fun _ x => x) (Kept.of (same_upd hp)) (upd_ne fun z => ?_)) nf ho na ih
          exact ro.some (z ▸ hp)
      exact h1 _ _ _ g2.stay (par_core (is := is) s (g.trans g2) (m2 m _))
    · exact h1.elim⟩
/-- targets = e -/
def asgS (b : Bd) (f : Dl → Re PyData) (δ : Dl) : RS := toS (f δ) fun d => match b d δ with
  | some δ' => .nx δ'
  | none => .no
theorem vs_asg {tg e : Expr} {ts : List Nat} {b : Bd} {f : Dl → Re PyData} (he : VE X W e f) (hg : VG X tg ts b) (hs : swapsWithSole [tg] e pos.line X.env = pure false := by rfl) (hw : swappedStores [tg] e X.env = pure none := by rfl)
    (h1 : (assignEach [tg] X.env).map (·.2) = [assign tg X.env] := by rfl) : VSt X W (.Assign [tg] e pos) (asgS b f) := PS.imp (ps_asg he hg hs hw h1) fun D σ H ⟨F0, H0, F, δ, s, q⟩ =>
  ⟨F, δ, s.e, SO.go (P := pS X.K) s q fun d v F1 H1 e g r h1 => by
    cases eb : b d δ with
    | none => rw [eb] at h1; exact h1.elim
    | some δ' =>
      rw [eb] at h1
      exact ⟨F1, δ, d, δ', s.len, r, eb, fun σ' u => h1 F1 H1 σ' Stay.refl ((s.grow g).upd u)⟩⟩
end
end VS
end
section
namespace VS
open PySem PySem.Spec PyProof.Rows L2

/-! ### built-ins by their names -/
section
variable {X : Cx} {W : XW} {P : PP} {e e2 : Expr} {fs : Dl → Re (List D)} {pos p : Pos}
theorem ve_len (hg : Gl X "len") (hm : X.mg "len" = none) (ha : VA X W RpB [e] fs) (he : starEach [e] X.env = (false, eval e X.env) :: starEach [] X.env := by rfl) : VE X W (.Call (.Name "len" p) [e] [] pos) (dA fs lenD) := vp_callB pS_mon call_lenAll cg_len hg hm (by decide +kernel) ha (by decide) (by decide) he
theorem ve_all (hc : X.calm = true) (hg : Gl X "all") (hm : X.mg "all" = none) (ha : VA X W RpB [e] fs) (he : starEach [e] X.env = (false, eval e X.env) :: starEach [] X.env := by rfl) : VE X W (.Call (.Name "all" p) [e] [] pos) (dA fs allD) := vp_callB pS_mon (cr_all hc) cg_all hg hm (by decide +kernel) ha (by decide) (by decide) he
theorem ve_any (hc : X.calm = true) (hg : Gl X "any") (hm : X.mg "any" = none) (ha : VA X W RpB [e] fs) (he : starEach [e] X.env = (false, eval e X.env) :: starEach [] X.env := by rfl) : VE X W (.Call (.Name "any" p) [e] [] pos) (dA fs anyD) := vp_callB pS_mon (cr_any hc) cg_any hg hm (by decide +kernel) ha (by decide) (by decide) he
theorem ve_sum (hc : X.calm = true) (hg : Gl X "sum") (hm : X.mg "sum" = none) (ha : VA X W RpB [e] fs) (he : starEach [e] X.env = (false, eval e X.env) :: starEach [] X.env := by rfl) : VE X W (.Call (.Name "sum" p) [e] [] pos) (dA fs sumD) := vp_callB pS_mon (cr_sum hc) cg_sum hg hm (by decide +kernel) ha (by decide) (by decide) he
theorem ve_abs (hg : Gl X "abs") (hm : X.mg "abs" = none) (ha : VA X W RpB [e] fs) (he : starEach [e] X.env = (false, eval e X.env) :: starEach [] X.env := by rfl) : VE X W (.Call (.Name "abs" p) [e] [] pos) (dA fs absD) := vp_callB pS_mon call_abs cg_abs hg hm (by decide +kernel) ha (by decide) (by decide) he
theorem ve_intC (hg : Gl X "int") (hm : X.mg "int" = none) (ha : VA X W RpB [e] fs) (he : starEach [e] X.env = (false, eval e X.env) :: starEach [] X.env := by rfl) : VE X W (.Call (.Name "int" p) [e] [] pos) (dA fs intD) := vp_callTy pS_mon call_int1 cg_int hg hm (by decide +kernel) ha (by decide) (by decide) he
theorem ve_min2 (hc : X.calm = true) (hg : Gl X "min") (hm : X.mg "min" = none) (ha : VA X W RpB [e, e2] fs) (he : starEach (e :: [e2]) X.env = (false, eval e X.env) :: starEach [e2] X.env := by rfl) (hpl : (backTo pos (starEach [e2] X.env)).any (·.1) = false := by rfl) : VE X W (.Call (.Name "min" p) [e, e2] [] pos) (dA fs min2D) := vp_callB pS_mon (call_min2 hc) cg_min2 hg hm (by decide +kernel) ha (by decide) (by decide) he hpl
theorem ve_max2 (hc : X.calm = true) (hg : Gl X "max") (hm : X.mg "max" = none) (ha : VA X W RpB [e, e2] fs) (he : starEach (e :: [e2]) X.env = (false, eval e X.env) :: starEach [e2] X.env := by rfl) (hpl : (backTo pos (starEach [e2] X.env)).any (·.1) = false := by rfl) : VE X W (.Call (.Name "max" p) [e, e2] [] pos) (dA fs max2D) := vp_callB pS_mon (call_max2 hc) cg_max2 hg hm (by decide +kernel) ha (by decide) (by decide) he hpl
theorem ve_minL (hc : X.calm = true) (hu : X.A.units + 64 < cLine) (hg : Gl X "min") (hm : X.mg "min" = none) (ha : VA X W RpB [e] fs) (he : starEach [e] X.env = (false, eval e X.env) :: starEach [] X.env := by rfl) : VE X W (.Call (.Name "min" p) [e] [] pos) (dA fs minL) := vp_callB pS_mon (call_minP hc hu) cg_minL hg hm (by decide +kernel) ha (by decide) (by decide) he
theorem ve_maxL (hc : X.calm = true) (hu : X.A.units + 64 < cLine) (hg : Gl X "max") (hm : X.mg "max" = none) (ha : VA X W RpB [e] fs) (he : starEach [e] X.env = (false, eval e X.env) :: starEach [] X.env := by rfl) : VE X W (.Call (.Name "max" p) [e] [] pos) (dA fs maxL) := vp_callB pS_mon (call_maxP hc hu) cg_maxL hg hm (by decide +kernel) ha (by decide) (by decide) he
theorem vp_sorted (hP : PNew X.K P) (hu : X.A.units + 64 < cLine) (hg : Gl X "sorted") (hm : X.mg "sorted" = none) (ha : VA X W RpB [e] fs) (he : starEach [e] X.env = (false, eval e X.env) :: starEach [] X.env := by rfl) : VP X W P (.Call (.Name "sorted" p) [e] [] pos) (dA fs sortedD) := vp_callB hP.toPMon (call_sortV hu) (cg_sorted hP) hg hm (by decide +kernel) ha (by decide) (by decide) he
theorem vp_list (hP : PNew X.K P) (hg : Gl X "list") (hm : X.mg "list" = none) (ha : VA X W RpB [e] fs) (he : starEach [e] X.env = (false, eval e X.env) :: starEach [] X.env := by rfl) : VP X W P (.Call (.Name "list" p) [e] [] pos) (dA fs lstOfD) := vp_callTy hP.toPMon call_list_of (cg_list hP) hg hm (by decide +kernel) ha (by decide) (by decide) he
theorem ve_tupB (hg : Gl X "tuple") (hm : X.mg "tuple" = none) (ha : VA X W RpB [e] fs) (he : starEach [e] X.env = (false, eval e X.env) :: starEach [] X.env := by rfl) : VE X W (.Call (.Name "tuple" p) [e] [] pos) (dA fs tupOfD) := vp_callTy pS_mon call_tuple_of cg_tuple hg hm (by decide +kernel) ha (by decide) (by decide) he
theorem ve_tupA (hg : Gl X "tuple") (hm : X.mg "tuple" = none) (ha : VA X W Rp [e] fs) (he : starEach [e] X.env = (false, eval e X.env) :: starEach [] X.env := by rfl) : VE X W (.Call (.Name "tuple" p) [e] [] pos) (dA fs tupAnyD) := vp_callTy pS_mon call_tuple_of cg_tupAny hg hm (by decide +kernel) ha (by decide) (by decide) he
end
theorem va1 {X : Cx} {W : XW} {R : Rel} {e : Expr} {f : Dl → Re D} (kR : RKeep R) (h : VP X W (pp X.K R) e f) (hs : starEach [e] X.env = (false, eval e X.env) :: starEach [] X.env := by rfl) : VA X W R [e] (argsF [f]) := va_cons kR h va_nil hs
end VS
end
section
namespace VS
open PySem PySem.Spec PyProof.Rows L2

theorem hu1 {A : Around} (h : A.units + 64 < cLine) : A.units + 1 < cLine := by omega
/-! ### own exceptions by their facts -/
structure ExcF (K : PySem.W.Frag) (mg : Str → Option Value) (x : Str) : Prop where
  g : mg x = some (.ref (He.ga K x))
  e : PySem.W.excIn K (He.ga K x) He.veBase "ValueError.__new__" = true
  k : PySem.W.keepIn K (.ref (He.ga K x)) = true
  s : PySem.W.subIn K (.ref (He.ga K x)) (.type "BaseException") = some true
  t : PySem.W.typeIn K (.ref (He.ga K x)) = some (.type "type")
theorem excF_of {K : PySem.W.Frag} {mg : Str → Option Value} {x : Str} (g : mg x = some (.ref (He.ga K x)))
    (h : PySem.W.excIn K (He.ga K x) He.veBase "ValueError.__new__" = true ∧ PySem.W.keepIn K (.ref (He.ga K x)) = true ∧ PySem.W.subIn K (.ref (He.ga K x)) (.type "BaseException") = some true ∧ PySem.W.typeIn K (.ref (He.ga K x)) = some (.type "type")) : ExcF K mg x :=
  ⟨g, h.1, h.2.1, h.2.2.1, h.2.2.2⟩
theorem vs_raiseF {X : Cx} {W : XW} {x m : Str} {j : Nat} {p p2 pos pos' : Pos} (hc : X.calm = true) (tk : XOk X W) (h : ExcF X.K X.mg x) (hg : Gl X x) (hdb : (x == ("__debug__" : Str)) = false := by decide) :
    VSt X W (.Raise (some (.Call (.Name x p) [.Constant (.str m) j p2] [] pos')) none pos) (raiS x) := vs_raise hc tk F.excBase_ValueError h.e h.g h.k (raises_own h.s h.t) hg hdb
def HtOk (K : PySem.W.Frag) (mg : Str → Option Value) (c : Value) (t : List (Str × Bool)) : Prop := ∀ nm b, t.lookup nm = some b → ∀ cls, mg nm = some cls → PySem.W.exmOne K cls c = some b
theorem htOk_nil {K : PySem.W.Frag} {mg : Str → Option Value} {c : Value} : HtOk K mg c [] := fun nm b h => by cases h
theorem htOk_cons {K : PySem.W.Frag} {mg : Str → Option Value} {c : Value} {t : List (Str × Bool)} {x : Str} {b : Bool} (g : mg x = some (.ref (He.ga K x))) (e : PySem.W.exmOne K (.ref (He.ga K x)) c = some b) (r : HtOk K mg c t) : HtOk K mg c ((x, b) :: t) := fun nm b' h cls hm => by
  rw [List.lookup_cons] at h
  cases en : nm == x with
  | true =>
    rw [en] at h
    cases h
    have : nm = x := eq_of_beq en
    subst this
    rw [g] at hm
    cases hm
    exact e
  | false =>
    rw [en] at h
    exact r nm b' h cls hm

/-! ### the law -/
theorem scrR_of {K : PySem.W.Frag} {H : Hp} {a : Addr} {ns : List Int} (hO : Only H) (h : SqL K H a (ns.map V.int)) : ScrR K H a ns := by
  refine ⟨h, fun H' k => ?_⟩
  rcases h with h | h
  · rcases h with h | ⟨o, h⟩
    · rcases hO a with z | ⟨o, xs, z⟩
      · rw [h] at z; cases z
      · rw [h] at z; cases z
    · exact .inl (.inr ⟨o, k a _ h mut_frz⟩)
  · exact .inr h
theorem walk_law {l : PySem.W.OpenLaw} {k : Nat} {q : Program} {loose : List Str} {XP : (Str → Option Value) → Heap → Prop} {YP : World → Heap → Prop} {d : DefRec} {x : Str}
    (hn : l.most = some 63) (hdf : d.params.defaults = []) (hr : Room k callerA)
    (F : ∀ (w : World) (mg : Str → Option Value) (fa : Addr) (h : Heap), YP w h → h.Ns mainGlobals mg → mg d.name = some (.ref fa) →
      ∃ (K : PySem.W.Frag) (fd : FuncData) (g : List Sl → Re D), K.In h ∧ (∀ (s : Shared) (u : Value), BindsTo s fd ⟨[u], []⟩ [(x, u)]) ∧
        (∀ base : Heap, K.In base → base.Ns mainGlobals mg → FnOk l.prog w K mg base (L2.CX l.prog w) k fa fd [x] (SpG K mg 1 g)) ∧ ∀ ns : List Int, ns.length ≤ 63 → g [.br ns] = .ok (.bool true)) :
    PySem.W.WalkO q loose XP YP l.row.toRowW d [] (fun f vs => PySem.call f vs) := by
  refine Att.attach_call hn hdf fun w s₀ s₁ mg mb fa o pm cd doc a vs ns G Y ho hd hcd hmg hobj hints hlen hg => ?_
  obtain ⟨K, fd, g, KX, hb, hF, good⟩ := F w mg fa _ Y G.T.g hmg
  have hz : ns.length ≤ sizeLine := Nat.le_trans hlen (by rw [sizeLine_eq]; decide)
  refine law_call KX G.T.g G.T.b G.T.builtins G.T.nolimit hg hobj hints hz hr hF hb (fun H hO hS => ⟨rfl, fun _ => False, [.br ns], fun _ f => f.elim, .br (scrR_of hO hS) .nil, ?_⟩) fun H e s' h => ?_
  · rw [good ns hlen]
    exact fun v F' H' _ r => rp_bl (Rp.b r)
  · obtain ⟨_, _, _, _, _, _, _, _, _, _, _, _, z⟩ := h
    exact z
end VS
end
section
namespace VS
open PySem PySem.Spec PyProof.Rows L2

/-! ### is, is not of bools -/
def isBD : D → D → Re D
  | .bool a, .bool b => .ok (.bool (decide (a = b)))
  | _, _ => .no
def notBD : D → D → Re D
  | .bool a, .bool b => .ok (.bool (!decide (a = b)))
  | _, _ => .no
theorem og_isB {X : Cx} {W : XW} : OpG X W (pS X.K) rIsB isBD := by
  intro F H x y dx dy Q dm rx ry h
  unfold isBD at h
  split at h
  · exact ⟨_, _, rp_bl rx, rp_bl ry, h.val (.bl _)⟩
  · exact h.elim
theorem og_notB {X : Cx} {W : XW} : OpG X W (pS X.K) rNotB notBD := by
  intro F H x y dx dy Q dm rx ry h
  unfold notBD at h
  split at h
  · exact ⟨_, _, rp_bl rx, rp_bl ry, h.val (.bl _)⟩
  · exact h.elim
def c_isB {X : Cx} {W : XW} (hu : X.A.units + 64 < cLine) : CmpR X W .Is isBD := ⟨_, op_isBl, og_isB⟩
def c_notB {X : Cx} {W : XW} (hu : X.A.units + 64 < cLine) : CmpR X W .IsNot notBD := ⟨_, op_notBl, og_notB⟩
end VS
end
section
namespace VS
open PySem PySem.Spec PyProof.Rows L2

/-! ### [e for x in xs if .. for y in ys if ..] -/
theorem Upd.stay {K : PySem.W.Frag} {F F' : Addr → Prop} {H H' : Hp} {ts : List Nat} {σ σ' : L2.St} {δ δ' : Dl} (u : Upd K F H ts σ δ σ' δ') (s : Stay F H F' H') : Upd K F' H' ts σ δ σ' δ' := ⟨u.lσ, u.lδ, u.out, fun i h x e => by
  obtain ⟨d, v, e1, e2, r⟩ := u.into i h x e
  exact ⟨d, v, e1, e2, s.rp r⟩⟩
def lc1L (vs1 : List Nat) (fi1 : Dl → Re (List D)) (b1 : Bd) (t1 : Dl → Re Bool) (e : Dl → Re D) (δ1 : Dl) : Re (List D) := (nxR (fi1 δ1)).bnd fun es => lcL b1 t1 e (wipeD δ1 vs1) es
def lc2L (b : Bd) (t : Dl → Re Bool) (g : Dl → Re (List D)) (δ : Dl) : List D → Re (List D)
  | [] => .ok []
  | d :: ds => match b d δ with
    | none => .no
    | some δ1 => (nxR (t δ1)).bnd fun c => if c = true then (nxR (g δ1)).bnd fun y => (lc2L b t g δ ds).bnd fun ys => .ok (y ++ ys) else lc2L b t g δ ds
def lc2D (vs vs1 : List Nat) (fi : Dl → Re (List D)) (b : Bd) (t : Dl → Re Bool) (fi1 : Dl → Re (List D)) (b1 : Bd) (t1 : Dl → Re Bool) (e : Dl → Re D) (δ : Dl) : Re D :=
  (fi δ).bnd fun ds => (lc2L b t (lc1L vs1 fi1 b1 t1 e) (wipeD δ vs) ds).bnd fun ys => if ys.length ≤ sizeLine then .ok (.list ys) else .no
theorem lc2L_ok {b : Bd} {t : Dl → Re Bool} {g : Dl → Re (List D)} {δ : Dl} {d : D} {ds zs : List D} (h : lc2L b t g δ (d :: ds) = .ok zs) : ∃ δ1 c, b d δ = some δ1 ∧ t δ1 = .ok c ∧ ((c = true ∧ ∃ y ys, g δ1 = .ok y ∧ lc2L b t g δ ds = .ok ys ∧ zs = y ++ ys) ∨ (c = false ∧ lc2L b t g δ ds = .ok zs)) := by
  unfold lc2L at h
  cases eb : b d δ with
  | none => rw [eb] at h; cases h
  | some δ1 =>
    rw [eb] at h
    cases et : t δ1 with
    | ex x => simp only [et, nxR, bnd_no] at h; cases h
    | no => simp only [et, nxR, bnd_no] at h; cases h
    | ok c =>
      simp only [et, nxR, bnd_ok] at h
      refine ⟨δ1, c, rfl, et, ?_⟩
      cases c with
      | false => rw [if_neg Bool.false_ne_true] at h; exact .inr ⟨rfl, h⟩
      | true =>
        rw [if_pos rfl] at h
        cases ee : g δ1 with
        | ex x => simp only [ee, nxR, bnd_no] at h; cases h
        | no => simp only [ee, nxR, bnd_no] at h; cases h
        | ok y =>
          simp only [ee, nxR, bnd_ok] at h
          cases er : lc2L b t g δ ds with
          | ex x => rw [er] at h; cases h
          | no => rw [er] at h; cases h
          | ok ys => rw [er] at h; cases h; exact .inl ⟨rfl, y, ys, rfl, rfl, rfl⟩
theorem lc2L_ex {b : Bd} {t : Dl → Re Bool} {g : Dl → Re (List D)} {δ : Dl} {x : Xn} : ∀ ds : List D, lc2L b t g δ ds ≠ .ex x
  | [] => fun h => nomatch h
  | d :: ds => fun h => by
    unfold lc2L at h
    cases eb : b d δ with
    | none => rw [eb] at h; cases h
    | some δ1 =>
      rw [eb] at h
      cases et : t δ1 with
      | ex x => simp only [et, nxR, bnd_no] at h; cases h
      | no => simp only [et, nxR, bnd_no] at h; cases h
      | ok c =>
        simp only [et, nxR, bnd_ok] at h
        cases c with
        | false => rw [if_neg Bool.false_ne_true] at h; exact lc2L_ex ds h
        | true =>
          rw [if_pos rfl] at h
          cases ee : g δ1 with
          | ex x => simp only [ee, nxR, bnd_no] at h; cases h
          | no => simp only [ee, nxR, bnd_no] at h; cases h
          | ok y =>
            simp only [ee, nxR, bnd_ok] at h
            cases er : lc2L b t g δ ds with
            | ex x' => exact (lc2L_ex ds er).elim
            | no => rw [er] at h; cases h
            | ok ys => rw [er] at h; cases h
theorem lc1L_ok {vs1 : List Nat} {fi1 : Dl → Re (List D)} {b1 : Bd} {t1 : Dl → Re Bool} {e : Dl → Re D} {δ1 : Dl} {ys : List D} (h : lc1L vs1 fi1 b1 t1 e δ1 = .ok ys) : ∃ es, fi1 δ1 = .ok es ∧ lcL b1 t1 e (wipeD δ1 vs1) es = .ok ys := by
  unfold lc1L at h
  cases ef : fi1 δ1 with
  | no => rw [ef] at h; cases h
  | ex x => rw [ef] at h; cases h
  | ok es => rw [ef] at h; exact ⟨es, rfl, h⟩
section
variable {X : Cx} {W : XW} {P : PP} {pos : Pos}
theorem t_lc2 {ts ts1 vs vs1 : List Nat} {fi fi1 : Dl → Re (List D)} {b b1 : Bd} {t t1 : Dl → Re Bool} {e : Dl → Re D} {K : PySem.W.Frag} (hP : POwn K P) (hts : ∀ j ∈ ts, j ∈ vs) (hts1 : ∀ j ∈ ts1, j ∈ vs1) {σ : L2.St} {H : Hp} {Q : VK} (h : tP K W P (lc2D vs vs1 fi b t fi1 b1 t1 e) σ H Q) :
    tLc2 (tI K W fi) (tG K ts b) (tT K XW0 t) (tI K XW0 fi1) (tG K ts1 b1) (tT K XW0 t1) (tP K XW0 (pS K) e) vs vs1 σ H Q := by
  obtain ⟨F, δ, s, h⟩ := h
  refine ⟨F, δ, s, ?_⟩
  change ReW W F H ((fi δ).bnd _) _ at h
  cases ef : fi δ with
  | no => rw [ef] at h; exact h
  | ex x => rw [ef] at h; exact h
  | ok ds =>
    rw [ef] at h
    rw [bnd_ok] at h
    intro J F1 H1 g1 w D0 hD
    cases eall : lc2L b t (lc1L vs1 fi1 b1 t1 e) (wipeD δ vs) ds with
    | no => rw [eall] at h; exact h.elim
    | ex x => exact (lc2L_ex ds eall).elim
    | ok all =>
      rw [eall] at h
      rw [bnd_ok] at h
      split at h
      · rename_i hsz
        refine ⟨fun i m H' => m = ds.length - i ∧ i ≤ ds.length ∧ ∃ F' acc ys zs, Grow F1 H1 F' H' ∧ H' D0 = some (.lst acc) ∧ ¬ F' D0 ∧ RpA K F' H' acc ys ∧ lc2L b t (lc1L vs1 fi1 b1 t1 e) (wipeD δ vs) (ds.drop i) = .ok zs ∧ all = ys ++ zs, ⟨ds.length, by simp, Nat.zero_le _, F1, [], [], all, Grow.upd0 hD, upd_same, fun f => g1.dom s.dom _ f hD, .nil, by simpa using eall, rfl⟩, ?_⟩
        rintro i m H' ⟨rfl, hle, F', acc, ys, zs, g2, hacc, nf, ra, ez, ea⟩
        have s1 := ((s.grow g1).grow g2)
        by_cases hlt : i < ds.length
        · refine .inr ⟨w.go F' H' i g2.stay hlt, fun H3 => i + 1 ≤ ds.length ∧ ∃ F' acc ys zs, Grow F1 H1 F' H3 ∧ H3 D0 = some (.lst acc) ∧ ¬ F' D0 ∧ RpA K F' H3 acc ys ∧ lc2L b t (lc1L vs1 fi1 b1 t1 e) (wipeD δ vs) (ds.drop (i + 1)) = .ok zs ∧ all = ys ++ zs, fun H3 ⟨a, c⟩ => ⟨ds.length - (i + 1), by omega, rfl, a, c⟩, fun x H2 y => ?_⟩
          obtain ⟨F2, g3, rx⟩ := w.yld F' H' i x H2 ds[i] g2.stay s1.dom (List.getElem?_eq_getElem hlt) y
          rw [List.drop_eq_getElem_cons hlt] at ez
          obtain ⟨δ1, c, eb, et, rest⟩ := lc2L_ok ez
          have s2 := (s1.grow g3).wipe vs
          have nfD : ∀ {F3 H3}, Grow F' H' F3 H3 → ¬ F3 D0 := fun g => g.notF nf (by rw [hacc]; exact fun z => nomatch z)
          refine ⟨F2, wipeD δ vs, ds[i], δ1, s2.len, rx, eb, fun σ2 u2 => ⟨u2.wipe hts, ?_⟩⟩
          refine ⟨F2, δ1, s2.upd u2, ?_⟩
          rw [et]
          intro F3 H3 g4
          rcases rest with ⟨ec, yv, ys', ey, er, ezs⟩ | ⟨ec, er⟩
          · subst ec
            rw [if_pos rfl]
            obtain ⟨es, efi, eys⟩ := lc1L_ok ey
            refine ⟨F3, δ1, (s2.upd u2).grow g4, ?_⟩
            rw [efi]
            intro J1 F4 H4 g5 w1
            have gg := (g3.trans g4).trans g5
            have hacc4 : H4 D0 = some (.lst acc) := gg.same _ _ hacc
            refine ⟨fun j k H' => k = es.length - j ∧ j ≤ es.length ∧ ∃ F' acc ys ws, Grow F1 H1 F' H' ∧ Stay F4 H4 F' H' ∧ H' D0 = some (.lst acc) ∧ ¬ F' D0 ∧ RpA K F' H' acc ys ∧ lcL b1 t1 e (wipeD δ1 vs1) (es.drop j) = .ok ws ∧ all = ys ++ (ws ++ ys'), ⟨es.length, by simp, Nat.zero_le _, F4, acc, ys, yv, g2.trans gg, Stay.refl, hacc4, nfD gg, gg.rpA ra, by simpa using eys, by rw [ea, ezs]⟩, ?_⟩
            rintro j k H5 ⟨rfl, hjle, F5, acc5, ys5, ws, q2, st5, hacc5, nf5, ra5, ew, ea5⟩
            have sb5 := (((s.grow g1).grow q2).wipe vs).upd (u2.stay ((g4.trans g5).stay.trans st5))
            by_cases hjlt : j < es.length
            · refine .inr ⟨w1.go F5 H5 j st5 hjlt, fun H' => j + 1 ≤ es.length ∧ ∃ F' acc ys ws, Grow F1 H1 F' H' ∧ Stay F4 H4 F' H' ∧ H' D0 = some (.lst acc) ∧ ¬ F' D0 ∧ RpA K F' H' acc ys ∧ lcL b1 t1 e (wipeD δ1 vs1) (es.drop (j + 1)) = .ok ws ∧ all = ys ++ (ws ++ ys'), fun H3 ⟨a, c⟩ => ⟨es.length - (j + 1), by omega, rfl, a, c⟩, fun x1 H6 y1 => ?_⟩
              obtain ⟨F6, h3, rx1⟩ := w1.yld F5 H5 j x1 H6 es[j] st5 sb5.dom (List.getElem?_eq_getElem hjlt) y1
              rw [List.drop_eq_getElem_cons hjlt] at ew
              obtain ⟨δ3, c3, eb3, et3, rest3⟩ := lcL_ok ew
              have s6 := (sb5.grow h3).wipe vs1
              have nf6 : ∀ {F3 H3}, Grow F5 H5 F3 H3 → ¬ F3 D0 := fun g => g.notF nf5 (by rw [hacc5]; exact fun z => nomatch z)
              refine ⟨F6, wipeD δ1 vs1, es[j], δ3, s6.len, rx1, eb3, fun σ3 u3 => ⟨u3.wipe hts1, ?_⟩⟩
              refine ⟨F6, δ3, s6.upd u3, ?_⟩
              rw [et3]
              intro F7 H7 h4
              rcases rest3 with ⟨ec, v3, ws', ev3, er3, ews⟩ | ⟨ec, er3⟩
              · subst ec
                rw [if_pos rfl]
                refine ⟨F7, δ3, (s6.upd u3).grow h4, ?_⟩
                rw [ev3]
                intro v F8 H8 h5 rv
                have hh := (h3.trans h4).trans h5
                have hacc8 : H8 D0 = some (.lst acc5) := hh.same _ _ hacc5
                have kk : Kept F8 H8 (upd H8 D0 (.lst (acc5 ++ [v]))) := kept_upd (nf6 hh) hacc8 trivial
                have hlen : acc5.length < sizeLine := by
                  have l1 := ra5.length
                  have l2 := congrArg List.length ea5
                  rw [ews] at l2
                  simp at l2
                  omega
                refine ⟨acc5, hacc8, hlen, hjlt, F8, acc5 ++ [v], ys5 ++ [v3], ws', (q2.trans hh).wrote hD, (st5.trans hh.stay).trans ⟨fun _ x => x, kk⟩, upd_same, nf6 hh, ?_, er3, by rw [ea5, ews]; simp⟩
                exact ((hh.rpA ra5).append (.cons rv .nil)).mono (fun _ x => x) kk
              · subst ec
                rw [if_neg Bool.false_ne_true]
                have hh := h3.trans h4
                exact ⟨hjlt, F7, acc5, ys5, ws, q2.trans hh, st5.trans hh.stay, hh.same _ _ hacc5, nf6 hh, hh.rpA ra5, er3, ea5⟩
            · have ei : j = es.length := by omega
              subst ei
              rw [List.drop_length] at ew
              cases ew
              exact .inl ⟨w1.stop F5 H5 st5, hlt, F5, acc5, ys5, ys', q2, hacc5, nf5, ra5, er, ea5⟩
          · subst ec
            rw [if_neg Bool.false_ne_true]
            have gg := g3.trans g4
            exact ⟨hlt, F3, acc, ys, zs, g2.trans gg, gg.same _ _ hacc, nfD gg, gg.rpA ra, er, ea⟩
        · have ei : i = ds.length := by omega
          subst ei
          rw [List.drop_length] at ez
          cases ez
          rw [List.append_nil] at ea
          subst ea
          obtain ⟨F2, g3, p⟩ := hP.own (g1.trans g2) (by
            cases e0 : H D0 with
            | none => rfl
            | some o => have := g1.same _ _ e0; rw [hD] at this; cases this) nf (show RpO K F' H' D0 (.list all) from ⟨acc, hacc, ra⟩)
          exact .inl ⟨w.stop F' H' g2.stay, h _ _ _ g3 p⟩
      · exact h.elim
theorem vp_lc2 {elt tg iter tg1 iter1 : Expr} {ifs ifs1 : List Expr} {scope : Scope} {own : List (Str × Nat)} {ts ts1 vs1 : List Nat} {fi fi1 : Dl → Re (List D)} {b b1 : Bd} {t t1 : Dl → Re Bool} {e : Dl → Re D} (hP : POwn X.K P) (hc : X.calm = true) (hN : X.N.Nodup) (hi : VI X W tg iter fi) (ok : BlkOk X.N X.env.scope scope own) (hv : ∀ i ∈ vs1, i ∈ own.map (·.2))
    (hg : ∀ (s : Shared) (H : Hp) (C : Addr) (cl : List (Str × Addr)) (fp : List Addr), VG (X.blk s H scope (compEnvC scope cl C X.env) fp) tg ts b) (ht : ∀ (s : Shared) (H : Hp) (C : Addr) (cl : List (Str × Addr)) (fp : List Addr), VTs (X.blk s H scope (compEnvC scope cl C X.env) fp) ifs t)
    (hi1 : ∀ (s : Shared) (H : Hp) (C : Addr) (cl : List (Str × Addr)) (fp : List Addr), VI (X.blk s H scope (compEnvC scope cl C X.env) fp) XW0 tg1 iter1 fi1)
    (hg1 : ∀ (s : Shared) (H : Hp) (C : Addr) (cl : List (Str × Addr)) (fp : List Addr), VG (X.blk s H scope (compEnvC scope cl C X.env) fp) tg1 ts1 b1) (ht1 : ∀ (s : Shared) (H : Hp) (C : Addr) (cl : List (Str × Addr)) (fp : List Addr), VTs (X.blk s H scope (compEnvC scope cl C X.env) fp) ifs1 t1)
    (he : ∀ (s : Shared) (H : Hp) (C : Addr) (cl : List (Str × Addr)) (fp : List Addr), VE (X.blk s H scope (compEnvC scope cl C X.env) fp) XW0 elt e) (hts : ∀ j ∈ ts, j ∈ own.map (·.2)) (hts1 : ∀ j ∈ ts1, j ∈ vs1) (hs : ∀ x, foldedSetIterable iter X.env x = pure x := by intro _; rfl) (hs1 : ∀ env x, foldedSetIterable iter1 env x = pure x := by intro _ _; rfl) :
    VP X W P (.ListComp elt [⟨tg, iter, ifs, 0⟩, ⟨tg1, iter1, ifs1, 0⟩] scope pos) (lc2D (own.map (·.2)) vs1 fi b t fi1 b1 t1 e) := PE.imp (pe_lc2 hc hN hi ok hv hg ht hi1 hg1 ht1 he hs hs1) fun σ H Q h => t_lc2 hP hts hts1 h
theorem vs_setLc2 {i : Nat} {y : Str} {py spos : Pos} {elt tg iter tg1 iter1 : Expr} {ifs ifs1 : List Expr} {scope : Scope} {own : List (Str × Nat)} {ts ts1 vs1 : List Nat} {fi fi1 : Dl → Re (List D)} {b b1 : Bd} {t t1 : Dl → Re Bool} {e : Dl → Re D} (hc : X.calm = true) (hN : X.N.Nodup) (hy : X.N[i]? = some y) (hyl : X.env.scope.names.lookup y = some .local)
    (hsw : swapsWith (.ListComp elt [⟨tg, iter, ifs, 0⟩, ⟨tg1, iter1, ifs1, 0⟩] scope pos) (some (.Name y py)) spos.line X.env = pure true) (hi : VI X W tg iter fi) (ok : BlkOk X.N X.env.scope scope own) (hv : ∀ i ∈ vs1, i ∈ own.map (·.2))
    (hg : ∀ (s : Shared) (H : Hp) (C : Addr) (cl : List (Str × Addr)) (fp : List Addr), VG (X.blk s H scope (compEnvC scope cl C X.env) fp) tg ts b) (ht : ∀ (s : Shared) (H : Hp) (C : Addr) (cl : List (Str × Addr)) (fp : List Addr), VTs (X.blk s H scope (compEnvC scope cl C X.env) fp) ifs t)
    (hi1 : ∀ (s : Shared) (H : Hp) (C : Addr) (cl : List (Str × Addr)) (fp : List Addr), VI (X.blk s H scope (compEnvC scope cl C X.env) fp) XW0 tg1 iter1 fi1)
    (hg1 : ∀ (s : Shared) (H : Hp) (C : Addr) (cl : List (Str × Addr)) (fp : List Addr), VG (X.blk s H scope (compEnvC scope cl C X.env) fp) tg1 ts1 b1) (ht1 : ∀ (s : Shared) (H : Hp) (C : Addr) (cl : List (Str × Addr)) (fp : List Addr), VTs (X.blk s H scope (compEnvC scope cl C X.env) fp) ifs1 t1)
    (he : ∀ (s : Shared) (H : Hp) (C : Addr) (cl : List (Str × Addr)) (fp : List Addr), VE (X.blk s H scope (compEnvC scope cl C X.env) fp) XW0 elt e) (hts : ∀ j ∈ ts, j ∈ own.map (·.2)) (hts1 : ∀ j ∈ ts1, j ∈ vs1) (hs : ∀ x, foldedSetIterable iter X.env x = pure x := by intro _; rfl) (hs1 : ∀ env x, foldedSetIterable iter1 env x = pure x := by intro _ _; rfl) :
    VSt X W (.Assign [.Name y py] (.ListComp elt [⟨tg, iter, ifs, 0⟩, ⟨tg1, iter1, ifs1, 0⟩] scope pos) spos) (setS i (lc2D (own.map (·.2)) vs1 fi b t fi1 b1 t1 e)) := PS.imp (ps_setLc2 hc hN hy hyl hsw hi ok hv hg ht hi1 hg1 ht1 he hs hs1) fun D σ H h => t_lc2 pS_own hts hts1 (t_setS h)
theorem vs_setLc2O {i : Nat} {y : Str} {py spos : Pos} {elt tg iter tg1 iter1 : Expr} {ifs ifs1 : List Expr} {scope : Scope} {own : List (Str × Nat)} {ts ts1 vs1 : List Nat} {fi fi1 : Dl → Re (List D)} {b b1 : Bd} {t t1 : Dl → Re Bool} {e : Dl → Re D} (hc : X.calm = true) (hN : X.N.Nodup) (hy : X.N[i]? = some y) (hyl : X.env.scope.names.lookup y = some .local)
    (hsw : swapsWith (.ListComp elt [⟨tg, iter, ifs, 0⟩, ⟨tg1, iter1, ifs1, 0⟩] scope pos) (some (.Name y py)) spos.line X.env = pure true) (hi : VI X W tg iter fi) (ok : BlkOk X.N X.env.scope scope own) (hv : ∀ i ∈ vs1, i ∈ own.map (·.2))
    (hg : ∀ (s : Shared) (H : Hp) (C : Addr) (cl : List (Str × Addr)) (fp : List Addr), VG (X.blk s H scope (compEnvC scope cl C X.env) fp) tg ts b) (ht : ∀ (s : Shared) (H : Hp) (C : Addr) (cl : List (Str × Addr)) (fp : List Addr), VTs (X.blk s H scope (compEnvC scope cl C X.env) fp) ifs t)
    (hi1 : ∀ (s : Shared) (H : Hp) (C : Addr) (cl : List (Str × Addr)) (fp : List Addr), VI (X.blk s H scope (compEnvC scope cl C X.env) fp) XW0 tg1 iter1 fi1)
    (hg1 : ∀ (s : Shared) (H : Hp) (C : Addr) (cl : List (Str × Addr)) (fp : List Addr), VG (X.blk s H scope (compEnvC scope cl C X.env) fp) tg1 ts1 b1) (ht1 : ∀ (s : Shared) (H : Hp) (C : Addr) (cl : List (Str × Addr)) (fp : List Addr), VTs (X.blk s H scope (compEnvC scope cl C X.env) fp) ifs1 t1)
    (he : ∀ (s : Shared) (H : Hp) (C : Addr) (cl : List (Str × Addr)) (fp : List Addr), VE (X.blk s H scope (compEnvC scope cl C X.env) fp) XW0 elt e) (hts : ∀ j ∈ ts, j ∈ own.map (·.2)) (hts1 : ∀ j ∈ ts1, j ∈ vs1) (hs : ∀ x, foldedSetIterable iter X.env x = pure x := by intro _; rfl) (hs1 : ∀ env x, foldedSetIterable iter1 env x = pure x := by intro _ _; rfl) :
    VSt X W (.Assign [.Name y py] (.ListComp elt [⟨tg, iter, ifs, 0⟩, ⟨tg1, iter1, ifs1, 0⟩] scope pos) spos) (setO i (lc2D (own.map (·.2)) vs1 fi b t fi1 b1 t1 e)) := PS.imp (ps_setLc2 hc hN hy hyl hsw hi ok hv hg ht hi1 hg1 ht1 he hs hs1) fun D σ H h => t_lc2 pF_own hts hts1 (t_setO h)
end
end VS
end
section
namespace VS
open PySem PySem.Spec PyProof.Rows L2

/-! ### xs * k -/
def rRepR : R2 := fun x y H Q => ∃ l k xs, x = .ref l ∧ y = .int k ∧ Rd H l (.lst xs) ∧ -(2 ^ 63) ≤ k ∧ k < 2 ^ 63 ∧ xs.length * k.toNat ≤ sizeLine ∧
  ∀ p, H p = none → Q (.ref p) (upd H p (.lst (List.replicate k.toNat xs).flatten))
section
variable {X : Cx} {W : XW} {P : PP} {a b : Expr} {fa fb : Dl → Re D} {pos : Pos}
theorem op_repR : OpR X (binaryOp .Mult) rRepR := by
  intro pins s σ H x y v u Q I rx ry h
  obtain ⟨l, k, xs, rfl, rfl, hH, h1, h2, hz, q⟩ := h
  cases rx
  obtain ⟨t, rfl⟩ := ry
  obtain ⟨z, its, n, r, hl, e⟩ := lstR I hH
  have hlen : its.toArray.size * k.toNat ≤ sizeLine := by rw [List.size_toArray, ← hl]; exact hz
  have hcap : ¬ its.toArray.size * k.toNat > (2 ^ 63 - 1) / 8 := by
    have : (sizeLine : Nat) ≤ (2 ^ 63 - 1) / 8 := by decide
    omega
  have hfit : ¬ (!Builtin.List.listFitsIndex k) = true := by
    rw [fitsIndex_both h1 h2]
    exact Bool.false_ne_true
  have hlong : ¬ Builtin.List.listTooLong (its.toArray.size * k.toNat) = true := by
    rw [notLongL hlen]
    exact Bool.false_ne_true
  have hnew : List.foldl (fun x1 x2 => x1 ++ x2) #[] (List.replicate (if its.toArray.isEmpty = true then 0 else k.toNat) its.toArray) = (List.replicate k.toNat its).flatten.toArray := by
    have f0 : ∀ m : Nat, List.foldl (fun x1 x2 => x1 ++ x2) #[] (List.replicate m its.toArray) = (List.replicate m its).flatten.toArray := fun m => by
      have := foldl_rep its m []
      rw [List.nil_append] at this
      exact this
    rw [f0]
    cases its with
    | nil => simp
    | cons a r' => rw [if_neg (by simp)]
  refine wpAny_binaryOp_repeat_ref (T := "list") (U := "int") (by decide) ⟨_, e, rfl⟩ (fun s' => typeIs_int s' k t) noFill_list_mul F.fills_int_mul F.slot_int_rmul repeat_list F.slot_int_index.lookup
    (call_meets F.slot_int_rmul (typeIs_int s k t) F.entry_int_rmul (F.args_int_rmul_2 _ _) (int___rmul___int_list k t l its.toArray n)
      ⟨e, rfl, ⟨_, e, rfl⟩, call_meets F.slot_list_mul ⟨_, e, rfl⟩ F.entry_list_mul (F.args_list_mul_2 _ _) (AutoListH.list___mul___list_int_3 l its.toArray n k t hfit hcap hlong) ⟨e, ?_⟩⟩)
  rw [hnew]
  exact ⟨.ref _, _, I.lnew (t' := s.toks) (r.rep k.toNat) (by rw [PyProof.Rows.lm_len_rep_flat, Nat.mul_comm]; exact hz), rfl, q _ I.fresh⟩
theorem rpA_rep {K : PySem.W.Frag} {F : Addr → Prop} {H : Hp} {vs : List V} {ds : List D} (r : RpA K F H vs ds) : ∀ n : Nat, RpA K F H (List.replicate n vs).flatten (List.replicate n ds).flatten
  | 0 => .nil
  | n + 1 => by
    rw [List.replicate_succ, List.replicate_succ, List.flatten_cons, List.flatten_cons]
    exact r.append (rpA_rep r n)
theorem og_repL (hP : PNew X.K P) : OpG X W P rRepR repL := by
  intro F H x y dx dy Q dm rx ry h
  unfold repL at h
  split at h
  · split at h
    · rename_i xs k hz
      obtain ⟨p, us, rfl, hp, ru⟩ := rx
      have l1 := ru.length
      exact ⟨p, k, us, rfl, rp_int ry, hp, hz.1, hz.2.1, by rw [l1]; exact hz.2.2, fun z hn => h.newL hP dm hn (rpA_rep ru _)⟩
    · exact h.elim
  · exact h.elim
theorem vp_repL (hP : PNew X.K P) (ha : VB X W a fa) (hb : VB X W b fb) : VP X W P (.BinOp a .Mult b pos) (d2 repL fa fb) := vp_bin op_repR hP.toPMon (og_repL hP) ha hb
end
end VS
end
section
namespace VS
open PySem PySem.Spec PySem.Calls PyProof.Rows PyProof.V L2

/-! ### sorted of a tuple, of a dict's keys -/
section
variable {prog : Program} {w : World} {A : Around} {E : Value → Shared → Prop} {s : Shared} {β : Type}
theorem sorted_coll {x : Value} {Q : Value → Shared → Prop} {G : List Value → Prop} {bs : List β} {R : Value → β → Prop} {enc : β → PyData}
    (coll : ∀ (P : List Value → Shared → Prop), (∀ (h' : Heap) (tk : Nat) (vs : List Value), (∀ b o, s.heap.get? b = some o → h'.get? b = some o) → G vs → P vs { s with heap := h', toks := tk }) → wpAny (model prog w) A.in1 (collect x) P E s)
    (e : ∀ vs, G vs → PySem.W.EachIs R vs bs) (er : ∀ vs, G vs → PySem.W.EachIs (fun v b => ∃ as, Reads s.heap v (enc b) as) vs bs) (hal : PySem.W.AllAlike (bs.map enc)) (hk : PySem.W.Sortable (bs.map enc)) (hL : bs.length ≤ sizeLine)
    (hu : ∀ b, b ∈ bs → A.units + 2 + (enc b).depth < cLine)
    (h : ∀ (h1 h' : Heap) (tk : Nat) (D : Addr) (c : Nat) (out : List Value), (∀ b o, s.heap.get? b = some o → h1.get? b = some o) → (∀ b o, h1.get? b = some o → h'.get? b = some o) → h1.objs.size ≤ D → h'.get? D = some (PyProof.Rows.seqObj "list" out.toArray c) → PySem.W.EachIs R out (bs.mergeSort (PySem.W.dataLe false enc)) → Q (.ref D) { s with heap := h', toks := tk }) :
    wpAny (model prog w) A (call (.builtin "sorted") [x]) Q E s := by
  refine call_function_entry kind_sorted plain_sorted entry_sorted (args_sorted1 _) ?_
  unfold Builtin.«sorted»
  refine wpAny_bind (m := checkCount "sorted" 1 1 _) (wpAny_pure ?_)
  refine wpAny_bind (coll _ fun h' tk vs kp g => ?_)
  have hl := (e vs g).length
  refine wpAny_bind (wpAny_newList ?_ (by rw [hl]; exact hL))
  have ho : (h'.push { cls := .type "list", data := .seq vs.toArray }).get? h'.objs.size = some (PyProof.Rows.seqObj "list" vs.toArray 0) := Heap.get?_push_size _ rfl
  have kp' : ∀ b o, s.heap.get? b = some o → (h'.push { cls := .type "list", data := .seq vs.toArray }).get? b = some o := fun b o q => Heap.get?_push_of_some _ (kp b o q)
  have er' : PySem.W.EachIs (fun v b => ∃ as, Reads (h'.push { cls := .type "list", data := .seq vs.toArray }) v (enc b) as ∧ h'.objs.size ∉ as) vs bs := (er vs g).mono fun v b ⟨as, r⟩ => ⟨as, PyProof.Rows.Reads.keeps kp' r, fun m => by
    obtain ⟨o, ho⟩ := PyProof.On.reads_mem_get r _ m
    exact absurd (Heap.lt_size (kp _ _ ho)) (Nat.lt_irrefl _)⟩
  refine wpAny_bind (wpAny_holding (wpAny_mono (PySem.W.list_sort_data (A := A.in1) (s := { s with heap := h'.push { cls := .type "list", data := .seq vs.toArray }, toks := tk }) (a := h'.objs.size) (n := 0) (R := R) (enc := enc) (Q := fun v s' => v = .none ∧ Q (.ref h'.objs.size) s') ho (e vs g) er' hal hk hL (fun b hb => ?_) fun out ho' eo => ⟨rfl, ?_⟩) (fun v s' x => ?_) fun _ _ e => e))
  · have := hu b hb
    show A.in1.units + 1 + (enc b).depth < cLine
    have e1 : A.in1.units = A.units + 1 := rfl
    omega
  · obtain ⟨c, hc⟩ := PyProof.Rows.sortedHeap_at (vs := vs) (out := out.toArray) ho
    refine h h' _ tk h'.objs.size c out kp (fun b o q => ?_) (Nat.le_refl _) hc eo
    have hlt := Heap.lt_size q
    rw [PyProof.Rows.sortedHeap_old (Nat.ne_of_lt hlt) (Heap.lt_size (Heap.get?_push_of_some _ q))]
    exact Heap.get?_push_of_some _ q
  · obtain ⟨rfl, q⟩ := x
    exact wpAny_pure ⟨_, rfl, q⟩
end
/-- a key's value is a sort key -/
theorem dp_key {K : PySem.W.Frag} {H : Hp} (k : Key) : Dp K H (kV k) (kD k) := by
  cases k with
  | inl i => exact .int i
  | inr x => exact .str x
theorem dpA_keys {K : PySem.W.Frag} {H : Hp} : ∀ ks : List Key, DpAll K H (ks.map kV) (ks.map kD)
  | [] => .nil
  | k :: ks => .cons (dp_key k) (dpA_keys ks)
theorem each_rel : ∀ {bs : List (V × D)} {its : List Value}, Vals (bs.map (·.1)) its → PySem.W.EachIs (fun v b => RelV b.1 v) its bs
  | [], _, r => by cases r; exact .nil
  | b :: bs, _, r => by cases r with | cons r rr => exact .cons r (each_rel rr)
theorem rel_each : ∀ {bs : List (V × D)} {its : List Value}, PySem.W.EachIs (fun v b => RelV b.1 v) its bs → Vals (bs.map (·.1)) its
  | [], _, r => by cases r; exact .nil
  | b :: bs, _, r => by cases r with | cons r rr => exact .cons r (rel_each rr)
section
variable {X : Cx} {W : XW} {P : PP}
theorem sort_fin {pins : List (Addr × Obj)} {σ : L2.St} {H : Hp} {s : Shared} {E : Value → Shared → Prop} {x : Value} {Q : VK} (hu : X.A.units + 64 < cLine) (I : Inv X pins σ H s) (bs : List (V × D))
    (coll : ∀ (P : List Value → Shared → Prop), (∀ (h' : Heap) (tk : Nat) (vs : List Value), (∀ b o, s.heap.get? b = some o → h'.get? b = some o) → Vals (bs.map (·.1)) vs → P vs { s with heap := h', toks := tk }) → wpAny (model X.prog X.w) X.A.in1 (collect x) P E s)
    (hb : ∀ b ∈ bs, Dp X.K H b.1 b.2) (hk : sortOk (bs.map (·.2)) = true) (q : ∀ p, H p = none → Q (.ref p) (upd H p (.lst ((bs.mergeSort (PySem.W.dataLe false (·.2))).map (·.1))))) :
    wpAny (model X.prog X.w) X.A (call (.builtin "sorted") [x]) (fun v s' => ∃ y H', Inv X pins σ H' s' ∧ RelV y v ∧ Q y H') E s := by
  obtain ⟨k1, k2, k3, k4⟩ := sortOk_s hk
  have e2 : ∀ (bs : List (V × D)) (its : List Value), Vals (bs.map (·.1)) its → (∀ b ∈ bs, Dp X.K H b.1 b.2) → PySem.W.EachIs (fun v b => ∃ as, Reads s.heap v b.2 as) its bs := fun bs => by
    induction bs with
    | nil => intro its r _; cases r; exact .nil
    | cons b bs ih =>
      intro its r hb
      cases r with
      | cons r rr =>
        refine .cons ?_ (ih _ rr fun b hb' => hb b (List.mem_cons_of_mem _ hb'))
        exact Dp.reads I b.2 b.1 _ (hb b List.mem_cons_self) r
  refine sorted_coll (G := fun vs => Vals (bs.map (·.1)) vs) (R := fun (v : Value) (b : V × D) => RelV b.1 v) (enc := fun b : V × D => b.2) coll (fun vs g => each_rel g) (fun vs g => e2 bs vs g hb) k2 k3 (by rw [List.length_map] at k4; exact k4) (fun b hb' => ?_) fun h1 h' tk D c out kp1 kp2 hD e eo => ?_
  · have := (dn_plain b.2 60 (k1 b.2 (List.mem_map.mpr ⟨b, hb', rfl⟩))).2
    show X.A.units + 2 + b.2.depth < cLine
    omega
  · have hlen : ((bs.mergeSort (PySem.W.dataLe false (·.2))).map (·.1)).length ≤ sizeLine := by rw [List.length_map, List.length_mergeSort]; rw [List.length_map] at k4; exact k4
    have I2 : Inv X pins σ H { s with heap := h1, toks := tk } := I.kept kp1
    exact ⟨.ref D, upd H D (.lst _), I2.laid (t' := tk) kp2 hD ⟨hlen, out, c, rel_each eo, e⟩, rfl, q _ (I2.hok.fresh hD)⟩
def rSortT (K : PySem.W.Frag) : List V → Hp → VK → Prop := fun vs H Q => ∃ (a : Addr) (bs : List (V × D)), vs = [.ref a] ∧ SqT K H a (bs.map (·.1)) ∧ (∀ b ∈ bs, Dp K H b.1 b.2) ∧ sortOk (bs.map (·.2)) = true ∧
  ∀ p, H p = none → Q (.ref p) (upd H p (.lst ((bs.mergeSort (PySem.W.dataLe false (·.2))).map (·.1))))
theorem call_sortT (hu : X.A.units + 64 < cLine) : CallR X (.builtin "sorted") (rSortT X.K) := by
  intro pins s σ H vs us Q I r h
  obtain ⟨a, bs, rfl, hs, hb, hk, q⟩ := h
  obtain ⟨its, rv, ⟨o, ho, hc, n, hd⟩, hz⟩ := I.tuple hs
  rw [Vals.ref1 r]
  refine sort_fin hu I bs (fun P g => PySem.wpAny_collect_seq a (.inr rfl) ho hc hd (fun h' kp => ?_) (by rw [List.size_toArray, ← rv.length]; exact hz)) hb hk q
  have e : its.toArray.toList = its := by simp
  rw [e]
  exact g h' s.toks its kp rv
def rSortK : List V → Hp → VK → Prop := fun vs H Q => ∃ (a : Addr) (m : List (Key × V)), vs = [.ref a] ∧ Rd H a (.dK m) ∧ sortOk (m.map fun p => kD p.1) = true ∧
  ∀ p, H p = none → Q (.ref p) (upd H p (.lst (((m.map fun p => (kV p.1, kD p.1)).mergeSort (PySem.W.dataLe false (·.2))).map (·.1))))
theorem call_sortK (hcalm : X.calm = true) (hu : X.A.units + 64 < cLine) : CallR X (.builtin "sorted") rSortK := by
  intro pins s σ H vs us Q I r h
  obtain ⟨a, m, rfl, hm, hk, q⟩ := h
  rw [Vals.ref1 r]
  obtain ⟨z, lo, ys, rk, hd⟩ := dk_rd I.hok hm
  obtain ⟨ep, hat⟩ := hd.dictAt
  have hl : m.length = ys.length := Paired.length rk
  have e2 : (m.map fun p => (kV p.1, kD p.1)).map (·.2) = m.map fun p => kD p.1 := by rw [List.map_map]; rfl
  refine sort_fin hu I (m.map fun p => (kV p.1, kD p.1)) (fun P g => PySem.W.kdu_collect (A := X.A.in1) (PySem.W.kdl_dict (knd := mixKind X.prog X.w) (kvs := ys) (ep := ep) lo) (I.ok.hd hcalm) hat (by rw [← hl]; exact z) fun h' tk acc kp hacc => ?_) (fun b hb => ?_) (by rw [e2]; exact hk) q
  · refine g h' tk acc.toList kp ?_
    have el : acc.toList.length = acc.size := by simp
    refine vals_of_at (by rw [List.length_map, List.length_map, el, hacc.1, hl]) fun j x w h1 h2 => ?_
    obtain ⟨k, y, hky, hi⟩ := hacc.2 j w (by rw [← Array.getElem?_toList]; exact h2)
    have e1 : (m.map (·.1))[j]? = some k := by
      rw [KV.keys rk, List.getElem?_map, hky] <;> rfl
    have e3 : ((m.map fun p => (kV p.1, kD p.1)).map (·.1))[j]? = some (kV k) := by
      have e4 : (m.map fun p => (kV p.1, kD p.1)).map (·.1) = (m.map (·.1)).map kV := by rw [List.map_map, List.map_map] <;> rfl
      rw [e4, List.getElem?_map, e1] <;> rfl
    rw [e3] at h1
    cases h1
    exact keyIs_rel hi
  · obtain ⟨p, _, rfl⟩ := List.mem_map.mp hb
    exact dp_key p.1
/-- a dict with tuple keys -/
def bsT (m : List (List Key × V)) (as : List Addr) : List (V × D) := (as.zip m).map fun q => (V.ref q.1, PyData.tuple (q.2.1.map kD))
theorem isKeys_len {H : Hp} {m : List (List Key × V)} {as : List Addr} (h : IsKeys H m as) : m.length = as.length := Paired.length h
theorem bsT_1 : ∀ {H : Hp} {m : List (List Key × V)} {as : List Addr}, IsKeys H m as → (bsT m as).map (·.1) = as.map V.ref
  | _, _, _, .nil => rfl
  | _, _, _, .cons _ t => by
    have := bsT_1 t
    unfold bsT at this ⊢
    simp only [List.zip_cons_cons, List.map_cons, this]
theorem bsT_2 : ∀ {H : Hp} {m : List (List Key × V)} {as : List Addr}, IsKeys H m as → (bsT m as).map (·.2) = m.map fun p => PyData.tuple (p.1.map kD)
  | _, _, _, .nil => rfl
  | _, _, _, .cons _ t => by
    have := bsT_2 t
    unfold bsT at this ⊢
    simp only [List.zip_cons_cons, List.map_cons, this]
theorem bsT_mem : ∀ {H : Hp} {m : List (List Key × V)} {as : List Addr}, IsKeys H m as → ∀ b ∈ bsT m as, ∃ (a : Addr) (ks : List Key), b = (V.ref a, PyData.tuple (ks.map kD)) ∧ H a = some (.tup (ks.map kV))
  | _, _, _, .nil, b, h => nomatch h
  | _, _, _, .cons (a := p) (b := c) e t, b, h => by
    have h' : b ∈ (V.ref c, PyData.tuple (p.1.map kD)) :: bsT _ _ := h
    rcases List.mem_cons.mp h' with z | h'
    · exact ⟨c, p.1, z, e⟩
    · exact bsT_mem t b h'
def rSortKT : List V → Hp → VK → Prop := fun vs H Q => ∃ (a : Addr) (m : List (List Key × V)), vs = [.ref a] ∧ Rd H a (.dT m) ∧ sortOk (m.map fun p => PyData.tuple (p.1.map kD)) = true ∧
  ∀ p as, H p = none → IsKeys H m as → Q (.ref p) (upd H p (.lst (((bsT m as).mergeSort (PySem.W.dataLe false (·.2))).map (·.1))))
theorem call_sortKT (hcalm : X.calm = true) (hu : X.A.units + 64 < cLine) : CallR X (.builtin "sorted") rSortKT := by
  intro pins s σ H vs us Q I r h
  obtain ⟨a, m, rfl, hm, hkk, q⟩ := h
  rw [Vals.ref1 r]
  obtain ⟨z, hs, ks, pr, o, es, ep, ho, hx, hdt, he, hn⟩ := (show ObjOk X.prog X.w H s.heap a (.dT m) from rd_of I.hok hm)
  have l1 : es.size = ks.length := size_of_entries he
  have l2 : m.length = ks.length := Paired.length pr
  have hK := isKeys_of pr
  refine sort_fin hu I (bsT m (ks.map fun x => x.2.1)) (fun P g => PySem.W.kdu_collect (A := X.A.in1) (kdl_raw hs hx hdt) (I.ok.hd hcalm) ho (by omega) fun h' tk acc kp hacc => ?_) (fun b hb => ?_) (by rw [bsT_2 hK]; exact hkk) fun p hp => q p _ hp hK
  · refine g h' tk acc.toList kp ?_
    rw [bsT_1 hK]
    have ea : acc.toList = ks.map fun x => Value.ref x.2.1 := by
      have hl : acc.toList.length = ks.length := by rw [Array.length_toList, hacc.1]; exact l1
      apply List.ext_getElem?
      intro j
      rw [List.getElem?_map]
      cases hj : acc.toList[j]? with
      | none =>
        have h1 := List.getElem?_eq_none_iff.mp hj
        rw [List.getElem?_eq_none (by omega)]
        all_goals rfl
      | some v =>
        obtain ⟨en, hen, hv⟩ := hacc.2 j v (by rw [← Array.getElem?_toList]; exact hj)
        have qe := entry_at he j
        rw [hen] at qe
        cases hb : ks[j]? with
        | none =>
          rw [hb] at qe
          exact nomatch (show some en = none from qe)
        | some b =>
          rw [hb] at qe
          have e2 : en = entryOfKey (tupleKind (mixKind X.prog X.w)) b := Option.some.inj qe
          rw [hv, e2]
          all_goals rfl
    have eb : acc.toList = (ks.map fun x => x.2.1).map Value.ref := by rw [ea, List.map_map]; all_goals rfl
    rw [eb]
    exact vals_refs _
  · obtain ⟨c, kk, rfl, e⟩ := bsT_mem hK b hb
    exact .tup (.inl (.inl e)) (dpA_keys kk)
/-- sorted(x): a list, a tuple, a dict by its keys -/
def sortedA : List D → Re D
  | [.list xs] => sortedD [.list xs]
  | [.tuple xs] => if sortOk xs = true then .ok (.list (sortL xs)) else .no
  | [.dict kvs] => if sortOk (kvs.map (·.1)) = true then .ok (.list (sortL (kvs.map (·.1)))) else .no
  | _ => .no
theorem rp_kV {K : PySem.W.Frag} {F : Addr → Prop} {H : Hp} (k : Key) : Rp K F H (kV k) (kD k) := by
  cases k with
  | inl i => exact .int i
  | inr x => exact .str x
def rSortA (K : PySem.W.Frag) : List V → Hp → VK → Prop := fun vs H Q => rSortV K vs H Q ∨ rSortT K vs H Q ∨ rSortK vs H Q ∨ rSortKT vs H Q
theorem call_sortA (hcalm : X.calm = true) (hu : X.A.units + 64 < cLine) : CallR X (.builtin "sorted") (rSortA X.K) := CallR.or (call_sortV hu) (CallR.or (call_sortT hu) (CallR.or (call_sortK hcalm hu) (call_sortKT hcalm hu)))
theorem cg_sortedA (hP : PNew X.K P) : CallG X W P RpB (rSortA X.K) sortedA := by
  intro F H vs ds Q dm r h
  unfold sortedA at h
  split at h
  · exact .inl (cg_sorted hP F H vs _ Q dm r h)
  · refine .inr (.inl ?_)
    split at h
    · rename_i xs hk
      cases r with
      | cons r rr =>
        cases rr
        obtain ⟨a, ys, e, ha, t⟩ := r
        subst e
        obtain ⟨bs, e1, e2, rb⟩ := rpA_zip t
        subst e1 e2
        have k1 := (sortOk_s hk).1
        exact ⟨a, bs, rfl, ha, fun b hb => (rb b hb).dp (dn_plain _ 60 (k1 b.2 (List.mem_map.mpr ⟨b, hb, rfl⟩))).1, hk, fun p hn => h.newL hP dm hn (rp_sort rb)⟩
    · exact h.elim
  · split at h
    · rename_i kvs hk
      cases r with
      | cons r rr =>
        cases rr
        obtain ⟨a, kx, e, ha, t⟩ := r
        subst e
        have ek := rpK_keys t
        rcases ha with ⟨m, hm, e2⟩ | ⟨m, hm, e2⟩ | ⟨C, dx, fl, _, hm, e2⟩
        rotate_left 2
        · exfalso
          subst e2
          cases t with
          | cons h0 t0 =>
            unfold sortOk at hk
            simp [isTup1, notTN] at hk
        · subst e2
          have e3 : (kvs.map (·.1)) = m.map fun p => kD p.1 := by rw [← ek, List.map_map]; rfl
          rw [e3] at hk h
          have rb : ∀ b ∈ (m.map fun p => (kV p.1, kD p.1)), Rp X.K F H b.1 b.2 := fun b hb => by
            obtain ⟨p, _, rfl⟩ := List.mem_map.mp hb
            exact rp_kV p.1
          refine .inr (.inr (.inl ⟨a, m, rfl, hm, hk, fun p hn => h.newL hP dm hn ?_⟩))
          have := rp_sort rb
          rw [List.map_map] at this
          exact this
        · subst e2
          have e3 : (kvs.map (·.1)) = m.map fun p => PyData.tuple (p.1.map kD) := by rw [← ek, List.map_map]; rfl
          rw [e3] at hk h
          refine .inr (.inr (.inr ⟨a, m, rfl, hm, hk, fun p as hn hK => h.newL hP dm hn ?_⟩))
          have rb : ∀ b ∈ bsT m as, Rp X.K F H b.1 b.2 := fun b hb => by
            obtain ⟨c, ks, rfl, e⟩ := bsT_mem hK b hb
            exact .tup (.inl e) (rpA_ofK ks)
          have := rp_sort rb
          rw [bsT_2 hK] at this
          exact this
    · exact h.elim
  · exact h.elim
section
variable {e : Expr} {fs : Dl → Re (List D)} {pos p : Pos}
theorem vp_sortedA (hP : PNew X.K P) (hcalm : X.calm = true) (hu : X.A.units + 64 < cLine) (hg : Gl X "sorted") (hm : X.mg "sorted" = none) (ha : VA X W RpB [e] fs) (he : starEach [e] X.env = (false, eval e X.env) :: starEach [] X.env := by rfl) : VP X W P (.Call (.Name "sorted" p) [e] [] pos) (dA fs sortedA) := vp_callB hP.toPMon (call_sortA hcalm hu) (cg_sortedA hP) hg hm (by decide +kernel) ha (by decide) (by decide) he
end
end
@[simp] theorem ev_sortA_l (xs : List D) : sortedA [.list xs] = sortedD [.list xs] := Eq.trans rfl (Eq.refl _)
theorem ev_sortA_t (xs : List D) : sortedA [.tuple xs] = sortedD [.list xs] := Eq.trans rfl (Eq.refl _)
theorem ev_sortA_d (xs : List (D × D)) : sortedA [.dict xs] = sortedD [.list (xs.map (·.1))] := Eq.trans rfl (Eq.refl _)
end VS
end
section
namespace VS
open PySem L2

/-! ### o[k] = v: a list's place, or a dict's -/
def DSet (H : Hp) (a : Addr) (y v : V) (H' : Hp) : Prop :=
  (∃ k : Key, H a = some (.dT []) ∧ y = kV k ∧ H' = upd H a (.dK [(k, v)])) ∨
  (∃ (b : Addr) (ks : List Key), H a = some (.dK []) ∧ y = .ref b ∧ H b = some (.tup (ks.map kV)) ∧ H' = upd H a (.dT [(ks, v)]))
def rSetM : TSet := fun o i v H Q => ∃ a H', o = .ref a ∧ DSet H a i v H' ∧ Q H'
def rSetA : TSet := fun o i v H Q => rSetL o i v H Q ∨ rSetD o i v H Q ∨ rSetM o i v H Q
section
variable {X : Cx}
theorem set_mis (hu : X.A.units + 1 < cLine) : PSet X rSetM := by
  intro pins s σ H o i v ov iv u Q I ro ri rv h
  obtain ⟨a, H', eo, g, q⟩ := h
  subst eo
  cases (show ov = Value.ref a from ro)
  rcases g with ⟨k, e, ey, rfl⟩ | ⟨b, ks, e, ey, eb, rfl⟩
  · exact mis_set hu I rv ri (.inl ⟨k, e, ey, fun s' I' => ⟨_, I', q⟩⟩)
  · exact mis_set hu I rv ri (.inr ⟨b, ks, e, ey, eb, fun s' I' => ⟨_, I', q⟩⟩)
theorem set_all (hu : X.A.units + 1 < cLine) : PSet X rSetA := by
  intro pins s σ H o i v ov iv u Q I ro ri rv h
  rcases h with h | h | h
  · exact set_list pins s σ H o i v ov iv u Q I ro ri rv h
  · exact set_dict hu pins s σ H o i v ov iv u Q I ro ri rv h
  · exact set_mis hu pins s σ H o i v ov iv u Q I ro ri rv h
end
section
variable {K : PySem.W.Frag} {F : Addr → Prop} {H : Hp}
/-- what the store of a dict does -/
theorem put_of {a : Addr} {kvs : List (D × D)} {y v : V} {k d : D} (ho : RpO K F H a (.dict kvs)) (nf : ¬ F a) (ry : Rp K F H y k) (rv : Rp K F H v d) (hf : kfit kvs k = true) (hl : kvs.length < sizeLine) :
    ∃ o', (DPut H a y v (upd H a o') ∨ DSet H a y v (upd H a o')) ∧ RpO K F (upd H a o') a (.dict (putD kvs k d)) := by
  obtain ⟨b, hb⟩ := kfit_kind hf
  rcases ho with ⟨m, hH, rk⟩ | ⟨m, hH, rk⟩ | ⟨C, dx, fs, hH, rk⟩
  rotate_left 2
  · exfalso
    cases rk with
    | cons h t =>
      unfold kfit at hf
      rw [Bool.and_eq_true, hb] at hf
      exact absurd hf.2 (by cases b <;> decide)
  · have ml : m.length = kvs.length := by have := congrArg List.length (rpK_keys rk); simpa using this
    cases b with
    | false =>
      obtain ⟨k', rfl, rfl⟩ := key_K ry hb
      refine ⟨_, .inl (DPut.k hH (by omega)), .inl ⟨_, upd_same, ?_⟩⟩
      exact (rp_putK k' rk rv).mono (fun _ x => x) (kept_upd nf hH trivial)
    | true =>
      obtain ⟨c, ks, rfl, hc, rfl⟩ := key_T ry hb
      cases m with
      | nil =>
        cases rk
        refine ⟨_, .inr (.inr ⟨c, ks, hH, rfl, hc, rfl⟩), .inr (.inl ⟨[(ks, v)], upd_same, ?_⟩)⟩
        exact (RpK.cons (k := .tuple (ks.map kD)) rv .nil).mono (fun _ x => x) (kept_upd nf hH trivial)
      | cons p m =>
        exfalso
        cases rk with
        | cons h t =>
          unfold kfit at hf
          rw [Bool.and_eq_true, hb, kindK_K] at hf
          exact absurd hf.2 (by decide)
  · have ml : m.length = kvs.length := by have := congrArg List.length (rpK_keys rk); simpa using this
    cases b with
    | true =>
      obtain ⟨c, ks, rfl, hc, rfl⟩ := key_T ry hb
      refine ⟨_, .inl (DPut.t hH hc (by omega)), .inr (.inl ⟨_, upd_same, ?_⟩)⟩
      exact (rp_putT ks rk rv).mono (fun _ x => x) (kept_upd nf hH trivial)
    | false =>
      obtain ⟨k', rfl, rfl⟩ := key_K ry hb
      cases m with
      | nil =>
        cases rk
        refine ⟨_, .inr (.inl ⟨k', hH, rfl, rfl⟩), .inl ⟨[(k', v)], upd_same, ?_⟩⟩
        exact (RpK.cons (k := kD k') rv .nil).mono (fun _ x => x) (kept_upd nf hH trivial)
      | cons p m =>
        exfalso
        cases rk with
        | cons h t =>
          unfold kfit at hf
          rw [Bool.and_eq_true, hb] at hf
          exact kindK_notF _ (eq_of_beq hf.2)
end
section
variable {X : Cx} {W : XW} {pos py : Pos} {i : Nat} {y : Str} {e e2 : Expr} {fe fk : Dl → Re D}
/-- x[k] = e of an own list or dict -/
def stoS (i : Nat) (fk f : Dl → Re D) (δ : Dl) : RS := match δ[i]? with
  | some (.ow (.list xs)) => toS (f δ) fun d => toS (fk δ) fun k => match k with
    | .int j => (match ixN xs.length j with
      | some m => .nx (δ.set i (.ow (.list (xs.set m d))))
      | none => .no)
    | _ => .no
  | some (.ow (.dict kvs)) => toS (f δ) fun d => toS (fk δ) fun k => if kfit kvs k = true ∧ kvs.length < sizeLine then .nx (δ.set i (.ow (.dict (putD kvs k d)))) else .no
  | _ => .no
theorem vs_sto {spos : Pos} (hu : X.A.units + 1 < cLine) (hy : PE X (.Name y py) (tVar i)) (hk : VE X W e2 fk) (he : VE X W e fe)
    (ha : ∀ v, assign (.Subscript (.Name y py) e2 pos) X.env v = (do
      let ov ← holding [v] (eval (.Name y py) X.env)
      let iv ← holding [v, ov] (eval e2 X.env)
      standAt pos
      holding [v, ov, iv] (setItem ov iv v)
      release [v, ov, iv] []) := by intro _; rfl)
    (hs : swapsWithSole [.Subscript (.Name y py) e2 pos] e spos.line X.env = pure false := by rfl) (hw : swappedStores [.Subscript (.Name y py) e2 pos] e X.env = pure none := by rfl) (h1 : (assignEach [.Subscript (.Name y py) e2 pos] X.env).map (·.2) = [assign (.Subscript (.Name y py) e2 pos) X.env] := by rfl) :
    VSt X W (.Assign [.Subscript (.Name y py) e2 pos] e spos) (stoS i fk fe) :=
  PS.imp (ps_asg he (pg_sub hy hk (set_all hu) ha) hs hw h1) fun D σ H ⟨F0, H0, F, δ, s, q⟩ => by
    unfold stoS at q
    split at q
    · rename_i xs ei
      obtain ⟨a, ea, ⟨vs, hH, ra⟩, nf, n0⟩ := s.ow i _ ei
      refine ⟨F, δ, s.e, SO.go (P := pS X.K) s q fun d v F1 H1 e1 g1 r h2 => ?_⟩
      refine ⟨_, ea, F1, δ, (s.grow g1).e, SO.go (P := pS X.K) (s.grow g1) h2 fun k u F2 H2 e3 g2 ru h3 => ?_⟩
      cases k with
      | int j =>
        cases ru
        simp only at h3
        split at h3
        · rename_i m em
          have gg := g1.trans g2
          have ha2 := gg.same _ _ hH
          refine .inl ⟨a, vs, j, m, rfl, rfl, ha2, by rw [ra.length]; exact em, ?_⟩
          have nf2 : ¬ F2 a := gg.notF nf (by rw [hH]; exact fun z => nomatch z)
          have kk : Kept F2 H2 (upd H2 a (.lst (vs.set m v))) := kept_upd nf2 ha2 trivial
          obtain ⟨st, s2⟩ := sok_write (s.grow gg) (d' := .list (xs.set m d)) (o' := .lst (vs.set m v)) ei ea ⟨_, upd_same, ((gg.rpA ra).set m (g2.rp r)).mono (fun _ x => x) kk⟩
          exact h3 _ _ _ st s2
        · exact h3.elim
      | _ => exact h3.elim
    · rename_i kvs ei
      obtain ⟨a, ea, ho, nf, n0⟩ := s.ow i _ ei
      obtain ⟨u0, hu0, _⟩ := ho.there
      refine ⟨F, δ, s.e, SO.go (P := pS X.K) s q fun d v F1 H1 e1 g1 r h2 => ?_⟩
      refine ⟨_, ea, F1, δ, (s.grow g1).e, SO.go (P := pS X.K) (s.grow g1) h2 fun k u F2 H2 e3 g2 ru h3 => ?_⟩
      split at h3
      · rename_i hc
        have gg := g1.trans g2
        have nf2 : ¬ F2 a := gg.notF nf (by rw [hu0]; exact fun z => nomatch z)
        have ho2 : RpO X.K F2 H2 a (.dict kvs) := ho.kept gg.sub gg.kept ((gg.same _ _ hu0).trans hu0.symm)
        obtain ⟨o', hp, hn⟩ := put_of ho2 nf2 ru (g2.rp r) hc.1 hc.2
        obtain ⟨st, s2⟩ := sok_write (s.grow gg) (d' := .dict (putD kvs k d)) (o' := o') ei ea hn
        rcases hp with hp | hp
        · exact .inr (.inl ⟨a, _, rfl, hp, h3 _ _ _ st s2⟩)
        · exact .inr (.inr ⟨a, _, rfl, hp, h3 _ _ _ st s2⟩)
      · exact h3.elim
    · exact q.elim
end
end VS
end
section
namespace VS
open PySem L2

/-! ### a thing locked while it is walked -/
def plainO : HO → Prop
  | .frz _ _ => False
  | _ => True
def notIns : HO → Prop
  | .ins _ _ _ => False
  | _ => True
def Sw (H H' : Hp) : Prop := ∀ a, H' a = H a ∨ (∃ x u, (Mut (some u) ∧ notIns u) ∧ H a = some u ∧ H' a = some (.frz x u)) ∨ (∃ x u, H a = some (.frz x u) ∧ H' a = some u)
theorem Sw.rd {H H' : Hp} (s : Sw H H') {a : Addr} {u : HO} (hu : plainO u) (r : Rd H a u) : Rd H' a u := by
  rcases s a with e | ⟨x, w, _, e1, e2⟩ | ⟨x, w, e1, e2⟩
  · unfold Rd at r ⊢
    rw [e]
    exact r
  · rcases r with r | ⟨o, r⟩
    · rw [e1] at r
      cases r
      exact .inr ⟨x, e2⟩
    · rw [e1] at r
      cases r
      rename_i h
      exact (h.1 : False).elim
  · rcases r with r | ⟨o, r⟩
    · rw [e1] at r
      cases r
      exact (hu : False).elim
    · rw [e1] at r
      cases r
      exact .inl e2
theorem Sw.tup {H H' : Hp} (s : Sw H H') {a : Addr} {xs : List V} (r : H a = some (.tup xs)) : H' a = some (.tup xs) := by
  rcases s a with e | ⟨x, w, m, e1, e2⟩ | ⟨x, w, e1, e2⟩
  · rw [e]; exact r
  · rw [e1] at r
    cases r
    exact (m.1 : False).elim
  · rw [e1] at r
    cases r
theorem Sw.ins {H H' : Hp} (s : Sw H H') {a C dx : Addr} {fs : List (Str × V)} (r : H a = some (.ins C dx fs)) : H' a = some (.ins C dx fs) := by
  rcases s a with e | ⟨x, w, m, e1, e2⟩ | ⟨x, w, e1, e2⟩
  · rw [e]; exact r
  · rw [e1] at r
    cases r
    exact (m.2 : False).elim
  · rw [e1] at r
    cases r
theorem Sw.sqT {H H' : Hp} {K : PySem.W.Frag} (s : Sw H H') {a : Addr} {xs : List V} (r : SqT K H a xs) : SqT K H' a xs := r.imp (s.rd trivial) id
theorem Sw.sqL {H H' : Hp} {K : PySem.W.Frag} (s : Sw H H') {a : Addr} {xs : List V} (r : SqL K H a xs) : SqL K H' a xs := r.imp (s.rd trivial) id
theorem Sw.drd {H H' : Hp} (s : Sw H H') {a : Addr} {kvs : List (D × V)} (r : DRd H a kvs) : DRd H' a kvs := by
  rcases r with ⟨m, r, e⟩ | ⟨m, r, e⟩ | ⟨C, dx, fl, n, r, e⟩
  · exact .inl ⟨m, s.rd trivial r, e⟩
  · exact .inr (.inl ⟨m, s.rd trivial r, e⟩)
  · exact .inr (.inr ⟨C, dx, fl, n, s.ins r, e⟩)
section
variable {K : PySem.W.Frag} {F : Addr → Prop} {H H' : Hp}
mutual
theorem Sw.rp (s : Sw H H') : ∀ {v : V} {d : D}, Rp K F H v d → Rp K F H' v d
  | _, _, .non => .non
  | _, _, .bl b => .bl b
  | _, _, .int i => .int i
  | _, _, .str x => .str x
  | _, _, .lst r f t => .lst (s.rd trivial r) f (Sw.rpA s t)
  | _, _, .tup r t => .tup (r.imp s.tup fun e => ⟨e.1, s.sqT e.2⟩) (Sw.rpA s t)
  | _, _, .dic r f t => .dic (s.drd r) f (Sw.rpK s t)
theorem Sw.rpA (s : Sw H H') : ∀ {vs : List V} {ds : List D}, RpA K F H vs ds → RpA K F H' vs ds
  | _, _, .nil => .nil
  | _, _, .cons h t => .cons (Sw.rp s h) (Sw.rpA s t)
theorem Sw.rpK (s : Sw H H') : ∀ {vs : List (D × V)} {ds : List (D × D)}, RpK K F H vs ds → RpK K F H' vs ds
  | _, _, .nil => .nil
  | _, _, .cons h t => .cons (Sw.rp s h) (Sw.rpK s t)
end
theorem Sw.rpB (s : Sw H H') {v : V} : ∀ {d : D}, RpB K F H v d → RpB K F H' v d
  | .list _, ⟨a, xs, e, h, t⟩ => ⟨a, xs, e, s.rd trivial h, s.rpA t⟩
  | .dict _, ⟨a, xs, e, h, t⟩ => ⟨a, xs, e, s.drd h, s.rpK t⟩
  | .none, r => s.rp (show Rp K F H v .none from r)
  | .bool _, r => s.rp (show Rp K F H v (.bool _) from r)
  | .int _, r => s.rp (show Rp K F H v (.int _) from r)
  | .str _, r => s.rp (show Rp K F H v (.str _) from r)
  | .tuple _, ⟨a, xs, e, h, t⟩ => ⟨a, xs, e, s.sqT h, s.rpA t⟩
end
theorem sw_lock {H : Hp} {a : Addr} {x : Obj} {u : HO} (h : H a = some u) (m : Mut (some u) ∧ notIns u) : Sw H (upd H a (.frz x u)) := fun b => by
  by_cases e : b = a
  · subst e
    exact .inr (.inl ⟨x, u, m, h, upd_same⟩)
  · exact .inl (upd_ne e)
theorem sw_unlock {H : Hp} {a : Addr} {x : Obj} {u : HO} (h : H a = some (.frz x u)) : Sw H (upd H a u) := fun b => by
  by_cases e : b = a
  · subst e
    exact .inr (.inr ⟨x, u, h, upd_same⟩)
  · exact .inl (upd_ne e)
/-- the script is as it was -/
theorem scr_lock {K : PySem.W.Frag} {H : Hp} {a b : Addr} {x : Obj} {u : HO} {ns : List Int} (h : H a = some u) (m : Mut (some u)) (r : ScrR K H b ns) : ScrR K (upd H a (.frz x u)) b ns :=
  r.keep fun c o e mm => by
    by_cases ec : c = a
    · subst ec
      rw [h] at e
      cases e
      exact (mm m).elim
    · rw [upd_ne ec]
      exact e
theorem sokE_lock {K : PySem.W.Frag} {F : Addr → Prop} {H : Hp} {σ : L2.St} {δ : Dl} {a : Addr} {x : Obj} {u : HO} (s : SokE K F H σ δ) (h : H a = some u) (m : Mut (some u) ∧ notIns u) : SokE K F (upd H a (.frz x u)) σ δ where
  len := s.len
  dom := fun b f => by
    by_cases e : b = a
    · subst e
      rw [upd_same]
      exact fun z => nomatch z
    · rw [upd_ne e]
      exact s.dom b f
  sl := fun i y e => by
    have q := s.sl i y e
    cases y with
    | no => trivial
    | sh d => obtain ⟨v, e1, r⟩ := q; exact ⟨v, e1, (sw_lock h m).rp r⟩
    | ow d => obtain ⟨v, e1, r⟩ := q; exact ⟨v, e1, (sw_lock h m).rpB r⟩
    | br ns => obtain ⟨v, e1, r⟩ := q; exact ⟨v, e1, scr_lock h m.1 r⟩
    | ob c n fs => obtain ⟨b, C, dx, fv, e1, hH, ec, r⟩ := q; exact ⟨b, C, dx, fv, e1, (sw_lock h m).ins hH, ec, r.imp (fun z => (sw_lock h m).rp z) fun z => (sw_lock h m).rpB z⟩
/-- what grew while it was locked -/
theorem grow_unlock {F F' : Addr → Prop} {H H' : Hp} {a : Addr} {x : Obj} {u : HO} (h : H a = some u) (g : Grow F (upd H a (.frz x u)) F' H') : Grow F H F' (upd H' a u) where
  sub := g.sub
  new := fun b f => by
    rcases g.new b f with q | q
    · exact .inl q
    · by_cases e : b = a
      · subst e
        rw [upd_same] at q
        cases q
      · rw [upd_ne e] at q
        exact .inr q
  same := fun b o e => by
    by_cases eb : b = a
    · subst eb
      rw [h] at e
      cases e
      exact upd_same
    · rw [upd_ne eb]
      exact g.same b o (by rw [upd_ne eb]; exact e)
  dom := fun hd b f => by
    by_cases eb : b = a
    · subst eb
      rw [upd_same]
      exact fun z => nomatch z
    · rw [upd_ne eb]
      refine g.dom (fun c fc => ?_) b f
      by_cases ec : c = a
      · subst ec
        rw [upd_same]
        exact fun z => nomatch z
      · rw [upd_ne ec]
        exact hd c fc
/-- a result's property is as good unlocked -/
structure PUnl (K : PySem.W.Frag) (P : PP) : Prop where
  unl : ∀ {F H F' H' a x u v d}, H a = some u → H' a = some (.frz x u) → P F (upd H a (.frz x u)) F' H' v d → P F H F' (upd H' a u) v d
theorem pS_unl {K : PySem.W.Frag} : PUnl K (pS K) := ⟨fun h h' p => (sw_unlock h').rp p⟩
theorem pB_unl {K : PySem.W.Frag} : PUnl K (pB K) := ⟨fun h h' p => (sw_unlock h').rpB p⟩
theorem pF_unl {K : PySem.W.Frag} : PUnl K (pF K) := ⟨fun {F H F' H' a x u v d} h h' ⟨p, e, n, f, o⟩ => by
  have pa : p ≠ a := fun z => by
    subst z
    rw [upd_same] at n
    cases n
  rw [upd_ne pa] at n
  refine ⟨p, e, n, f, ?_⟩
  have s := sw_unlock h'
  have k : (upd H' a u) p = H' p := upd_ne pa
  cases d with
  | list ds => obtain ⟨xs, q, t⟩ := o; exact ⟨xs, k.trans q, s.rpA t⟩
  | dict ds =>
    rcases o with ⟨m, q, t⟩ | ⟨m, q, t⟩ | ⟨C, dx, fs, q, t⟩
    · exact .inl ⟨m, k.trans q, s.rpK t⟩
    · exact .inr (.inl ⟨m, k.trans q, s.rpK t⟩)
    · exact .inr (.inr ⟨C, dx, fs, k.trans q, s.rpK t⟩)
  | none => exact o.elim
  | bool _ => exact o.elim
  | int _ => exact o.elim
  | str _ => exact o.elim
  | tuple _ => exact o.elim⟩
theorem PE.or {X : Cx} {e : Expr} {t t' : TE} (h : PE X e t) (h' : PE X e t') : PE X e (fun σ H Q => t σ H Q ∨ t' σ H Q) := ⟨fun pins s σ H Q I q => q.elim (h.run pins s σ H Q I) (h'.run pins s σ H Q I)⟩
/-! ### the keys of a dict in a slot -/
def keysI (i : Nat) (δ : Dl) : Re (List D) := match δ[i]? with
  | some (.sh (.dict kvs)) => if isOb kvs = false then .ok (kvs.map (·.1)) else .no
  | some (.ow (.dict kvs)) => if isOb kvs = false then .ok (kvs.map (·.1)) else .no
  | _ => .no
theorem keysI_in {K : PySem.W.Frag} {F : Addr → Prop} {H : Hp} {σ : L2.St} {δ : Dl} {i : Nat} (s : SokE K F H σ δ) {ds : List D} (h : keysI i δ = .ok ds) :
    ∃ (a : Addr) (kvs : List (D × V)) (es : List (D × D)), σ[i]? = some (some (.ref a)) ∧ DRd H a kvs ∧ RpK K F H kvs es ∧ isOb kvs = false ∧ ds = es.map (·.1) := by
  unfold keysI at h
  split at h
  · rename_i es e
    split at h
    rotate_left
    · cases h
    rename_i ho
    cases h
    obtain ⟨v, ev, r⟩ := s.sl i _ e
    cases r with
    | dic r f t => exact ⟨_, _, es, ev, r, t, (isOb_rp t).trans ho, rfl⟩
  · rename_i es e
    split at h
    rotate_left
    · cases h
    rename_i ho
    cases h
    obtain ⟨v, ev, r⟩ := s.sl i _ e
    obtain ⟨a, kvs, rfl, r, t⟩ := r
    exact ⟨a, kvs, es, ev, r, t, (isOb_rp t).trans ho, rfl⟩
  · cases h
theorem keysI_ex {i : Nat} {δ : Dl} {x : Xn} : keysI i δ ≠ .ex x := by
  unfold keysI
  split
  · split <;> exact fun z => nomatch z
  · split <;> exact fun z => nomatch z
  · exact fun z => nomatch z
theorem rpK_keyAt {K : PySem.W.Frag} {F : Addr → Prop} {H : Hp} {m : List (D × V)} {es : List (D × D)} (r : RpK K F H m es) : m.map (·.1) = es.map (·.1) := rpK_keys r
section
variable {K : PySem.W.Frag} {F : Addr → Prop} {H : Hp}
theorem frz_stay {F' : Addr → Prop} {H' : Hp} {a : Addr} {o : HO} {x : Obj} (h : H a = some (.frz x o)) (st : Stay F H F' H') : H' a = some (.frz x o) := st.kept a _ h (.inr mut_frz)
theorem walk_keysK {a : Addr} {x : Obj} {m : List (Key × V)} {ds : List D} (h : H a = some (.frz x (.dK m))) (e : m.map (fun p => kD p.1) = ds) : Walk K F H (Itk a x m) ds where
  go := fun F' H' i st hi => ⟨frz_stay h st, by rw [← e, List.length_map] at hi; exact hi⟩
  stop := fun F' H' st => ⟨frz_stay h st, by rw [← e, List.length_map]; exact Nat.le_refl _⟩
  yld := fun F' H' i y H2 d st dm ed q => by
    obtain ⟨rfl, k, v, hk, rfl⟩ := q
    refine ⟨F', Grow.refl, ?_⟩
    rw [← e, List.getElem?_map, hk] at ed
    cases ed
    exact rp_kV k
theorem walk_keysT {a : Addr} {x : Obj} {m : List (List Key × V)} {ds : List D} (h : H a = some (.frz x (.dT m))) (e : m.map (fun p => PyData.tuple (p.1.map kD)) = ds) : Walk K F H (Itkt a x m) ds where
  go := fun F' H' i st hi => ⟨frz_stay h st, by rw [← e, List.length_map] at hi; exact hi⟩
  stop := fun F' H' st => ⟨frz_stay h st, by rw [← e, List.length_map]; exact Nat.le_refl _⟩
  yld := fun F' H' i y H2 d st dm ed q => by
    obtain ⟨rfl, k, v, b, hk, rfl, hb⟩ := q
    refine ⟨F', Grow.refl, ?_⟩
    rw [← e, List.getElem?_map, hk] at ed
    cases ed
    exact .tup (.inl hb) (rpA_ofK k)
end
/-- the dict in slot i is locked -/
def tIk (K : PySem.W.Frag) (W : XW) (i : Nat) : TI := fun σ H R => (∃ a x u, σ[i]? = some (some (.ref a)) ∧ H a = some (.frz x u)) ∧ tI K W (keysI i) σ H R
section
variable {X : Cx} {W : XW} {P : PP} {tg : Expr} {y : Str} {py pos : Pos} {i : Nat}
theorem pi_keysI (hy : PE X (.Name y py) (tVar i)) : PI X tg (.Name y py) (tIk X.K W i) := PI.imp (pi_keys hy) fun σ H R ⟨⟨a, x, u, ea, hf⟩, F, δ, s, q⟩ => by
  cases ek : keysI i δ with
  | no => rw [ek] at q; exact q.elim
  | ex z => exact (keysI_ex ek).elim
  | ok ds =>
    rw [ek] at q
    obtain ⟨a', kvs, es, ea', r, t, ho, rfl⟩ := keysI_in s ek
    rw [ea] at ea'
    cases ea'
    have ke := rpK_keys t
    have q : ∀ J F' H', Grow F H F' H' → Walk X.K F' H' J (es.map (·.1)) → R J H' := q
    rcases r.two ho with ⟨m, r, e⟩ | ⟨m, r, e⟩
    · rcases r with r | ⟨o, r⟩
      · rw [hf] at r
        cases r
      · refine ⟨_, ea, a, o, rfl, .inl ⟨m, r, q _ F H Grow.refl (walk_keysK r ?_)⟩⟩
        rw [← ke, e, List.map_map]
        rfl
    · rcases r with r | ⟨o, r⟩
      · rw [hf] at r
        cases r
      · refine ⟨_, ea, a, o, rfl, .inr ⟨m, r, q _ F H Grow.refl (walk_keysT r ?_)⟩⟩
        rw [← ke, e, List.map_map]
        rfl
theorem lcD_ex {vs : List Nat} {fi : Dl → Re (List D)} {b : Bd} {t : Dl → Re Bool} {e : Dl → Re D} {δ : Dl} {x : Xn} (hf : ∀ z, fi δ ≠ .ex z) : lcD vs fi b t e δ ≠ .ex x := by
  unfold lcD
  cases ef : fi δ with
  | no => exact fun z => nomatch z
  | ex z => exact (hf z ef).elim
  | ok ds =>
    rw [bnd_ok]
    split
    · cases el : lcL b t e (wipeD δ vs) ds with
      | no => exact fun z => nomatch z
      | ok ys => exact fun z => nomatch z
      | ex z => exact (lcL_ex ds el).elim
    · exact fun z => nomatch z
theorem lc_and {K : PySem.W.Frag} {i : Nat} {g : TG} {tt : TT} {te : TE} {vs : List Nat} {σ : L2.St} {H : Hp} {Q : VK} (h : ∃ a x u, σ[i]? = some (some (.ref a)) ∧ H a = some (.frz x u)) (h2 : tLc (tI K W (keysI i)) g tt te vs σ H Q) : tLc (tIk K W i) g tt te vs σ H Q := ⟨h, h2⟩
theorem t_lcK {K : PySem.W.Frag} {ts vs : List Nat} {i : Nat} {b : Bd} {t : Dl → Re Bool} {e : Dl → Re D} (hP : POwn K P) (hu : PUnl K P) (hts : ∀ j ∈ ts, j ∈ vs) {σ : L2.St} {H : Hp} {Q : VK} (h : tP K W P (lcD vs (keysI i) b t e) σ H Q) :
    tLc (tIk K W i) (tG K ts b) (tT K XW0 t) (tP K XW0 (pS K) e) vs σ H Q ∨ tLockE (tLc (tIk K W i) (tG K ts b) (tT K XW0 t) (tP K XW0 (pS K) e) vs) σ H Q := by
  obtain ⟨F, δ, s, q⟩ := h
  cases ek : keysI i δ with
  | no => unfold lcD at q; rw [ek] at q; exact q.elim
  | ex z => exact (keysI_ex ek).elim
  | ok ds =>
    obtain ⟨a, kvs, es, ea, r, tt, ho, rfl⟩ := keysI_in s ek
    have key : (∃ x u, H a = some (.frz x u)) ∨ ∃ u, H a = some u ∧ Mut (some u) ∧ notIns u := by
      rcases r.two ho with ⟨m, r, _⟩ | ⟨m, r, _⟩
      · rcases r with r | ⟨o, r⟩
        · exact .inr ⟨_, r, trivial, trivial⟩
        · exact .inl ⟨_, _, r⟩
      · rcases r with r | ⟨o, r⟩
        · exact .inr ⟨_, r, trivial, trivial⟩
        · exact .inl ⟨_, _, r⟩
    rcases key with ⟨x, u, hf⟩ | ⟨u, hf, mu⟩
    · exact .inl (lc_and ⟨a, x, u, ea, hf⟩ (t_lc hP hts ⟨F, δ, s, q⟩))
    · refine .inr ⟨a, u, hf, mu.1, fun x => lc_and ⟨a, x, u, ea, upd_same⟩ (t_lc (P := P) hP hts ?_)⟩
      refine ⟨F, δ, sokE_lock s hf mu, ?_⟩
      cases el : lcD vs (keysI i) b t e δ with
      | no => rw [el] at q; exact q.elim
      | ex z => exact (lcD_ex (fun z => keysI_ex) el).elim
      | ok d =>
        rw [el] at q
        intro v F' H' g p
        have hl : H' a = some (.frz x u) := g.same _ _ upd_same
        exact ⟨hl, q v F' (upd H' a u) (grow_unlock hf g) (hu.unl hf hl p)⟩
/-- [e for k in d if ..], d a dict in a slot -/
theorem vp_lcK {i : Nat} {elt : Expr} {ifs : List Expr} {scope : Scope} {own : List (Str × Nat)} {ts : List Nat} {b : Bd} {t : Dl → Re Bool} {e : Dl → Re D} (hP : POwn X.K P) (hu : PUnl X.K P) (hc : X.calm = true) (hN : X.N.Nodup) (hy : PE X (.Name y py) (tVar i)) (ok : BlkOk X.N X.env.scope scope own)
    (hg : ∀ (s : Shared) (H : Hp) (C : Addr) (cl : List (Str × Addr)) (fp : List Addr), VG (X.blk s H scope (compEnvC scope cl C X.env) fp) tg ts b) (ht : ∀ (s : Shared) (H : Hp) (C : Addr) (cl : List (Str × Addr)) (fp : List Addr), VTs (X.blk s H scope (compEnvC scope cl C X.env) fp) ifs t)
    (he : ∀ (s : Shared) (H : Hp) (C : Addr) (cl : List (Str × Addr)) (fp : List Addr), VE (X.blk s H scope (compEnvC scope cl C X.env) fp) XW0 elt e) (hts : ∀ j ∈ ts, j ∈ own.map (·.2)) (hs : ∀ x, foldedSetIterable (.Name y py) X.env x = pure x := by intro _; rfl) :
    VP X W P (.ListComp elt [⟨tg, .Name y py, ifs, 0⟩] scope pos) (lcD (own.map (·.2)) (keysI i) b t e) :=
  PE.imp (PE.or (pe_lc hc hN (pi_keysI (W := W) hy) ok hg ht he hs) (pe_lock (pe_lc hc hN (pi_keysI (W := W) hy) ok hg ht he hs))) fun σ H Q h => t_lcK hP hu hts h
end
end VS
end
section
namespace HT
open PySem PySem.Spec PyProof.Rows L2
section
variable {prog : Program} {w : World} {A : Around} {E : Value → Shared → Prop} {s : Shared}
theorem filt_some {α β : Type} {f : α → Option β} {g : α → β} : ∀ l : List α, (∀ m ∈ l, f m = some (g m)) → l.filterMap f = l.map g
  | [], _ => rfl
  | m :: r, h => by
    rw [List.filterMap_cons, h m List.mem_cons_self]
    simp only [List.map_cons]
    rw [filt_some r fun q hq => h q (List.mem_cons_of_mem _ hq)]
theorem filt_rev (n : Nat) (xs : List Value) (hn : xs.length = n) : (List.range n).filterMap (fun (m : Nat) => xs[((n : Int) - 1 + (m : Int) * (-1)).toNat]?) = xs.reverse := by
  have e : (List.range n).filterMap (fun (m : Nat) => xs[((n : Int) - 1 + (m : Int) * (-1)).toNat]?) = (List.range n).map (fun (m : Nat) => (xs[n - 1 - m]?).getD .none) := by
    refine filt_some _ fun m hm => ?_
    have hm' := List.mem_range.mp hm
    have : ((n : Int) - 1 + (m : Int) * (-1)).toNat = n - 1 - m := by omega
    rw [this, List.getElem?_eq_getElem (by omega)]
    rfl
  rw [e]
  refine List.ext_getElem? fun j => ?_
  by_cases hj : j < n
  · rw [List.getElem?_map, List.getElem?_range hj, List.getElem?_reverse (by omega), hn]
    show some ((xs[n - 1 - j]?).getD .none) = xs[n - 1 - j]?
    rw [List.getElem?_eq_getElem (by omega)]
    rfl
  · rw [List.getElem?_eq_none (by simp; omega), List.getElem?_eq_none (by simp; omega)]
theorem getItem_tuple_rev {t sl : Addr} {items : Array Value} {vl vu vs : Value} {Q : Value → Shared → Prop} (ht : IsTup s.heap t items) (hs : s.heap.IsSliceOf sl vl vu vs) (pl : IsPart vl none) (pu : IsPart vu none) (ps : IsPart vs (some (-1)))
    (h : Q (.ref s.heap.objs.size) { s with heap := s.heap.push { cls := .type "tuple", data := .seq items.toList.reverse.toArray } })
    (hsz : items.size ≤ sizeLine) : wpAny (model prog w) A (getItem (.ref t) (.ref sl)) Q E s := by
  have htake : sizeOk (.seq items.toList.reverse.toArray) := by
    show items.toList.reverse.toArray.size ≤ sizeLine
    rw [List.size_toArray, List.length_reverse, Array.length_toList]
    exact hsz
  obtain ⟨os, hos, hcs, hds⟩ := id hs
  have hTs : s.TypeIs (.ref sl) "slice" := ⟨os, hos, hcs⟩
  have hn : items.toList.length = items.size := Array.length_toList
  unfold getItem
  try with_reducible refine wpAny_holding ?_
  first | refine wpAny_bind (wpAny_pure ?_) | skip
  refine wpAny_bind (wpAny_sequenceKey ht.typeIs (by decide) ?_)
  refine wpAny_bind (wpAny_callSpecial?_slot (name := Str.ofString "__getitem__") ht.typeIs PyProof.Rows.slot_tuple_getitem
    (wpAny_call_entry PyProof.Rows.slot_tuple_getitem ht.typeIs entry_tuple_getitem ?_ (args_tuple_getitem _ _)))
  show wpAny _ _ (Builtin.Tuple.tupleItemsOf (.ref t) >>= _) _ _ s
  refine wpAny_bind (tupleItemsOf_ ht ?_)
  refine wpAny_bind (wpAny_typeOf hTs ?_)
  rw [if_pos (by decide)]
  have ap : ∀ {Q' : Int × Int × Nat → Shared → Prop} {E' : Value → Shared → Prop} {A' : Around}, Q' ((items.size : Int) - 1, -1, items.size) s → wpAny (model prog w) A' (Builtin.Slice.sliceApplied (.ref sl) (pure (items.size : Int))) Q' E' s := fun {Q' E' A'} q => by
    unfold Builtin.Slice.sliceApplied Builtin.Slice.sliceFields
    refine wpAny_bind (wpAny_bind (wpAny_field hos hds (x := vl) rfl (wpAny_bind (wpAny_field hos hds (x := vu) rfl (wpAny_bind (wpAny_field hos hds (x := vs) rfl (wpAny_pure ?_)))))))
    refine wpAny_bind (slicePart_ ps ?_)
    show wpAny _ _ (if ((-1 : Int) == 0) = true then _ else _) _ _ s
    rw [if_neg (by decide)]
    refine wpAny_bind (slicePart_ pl (wpAny_bind (slicePart_ pu (wpAny_bind (wpAny_pure ?_)))))
    have e : Builtin.Slice.slicePlaces ((items.size : Int) - 1) (-1) (-1) = items.size := by
      unfold Builtin.Slice.slicePlaces
      rw [if_neg (by decide)]
      by_cases h0 : (items.size : Int) - 1 > -1
      · rw [if_pos h0]
        have : -(-1 : Int) = 1 := rfl
        rw [this, Int.ediv_one]
        omega
      · rw [if_neg h0]
        omega
    show wpAny _ _ (pure ((items.size : Int) - 1, (-1 : Int), Builtin.Slice.slicePlaces ((items.size : Int) - 1) (-1) (-1))) _ _ s
    rw [e]
    exact wpAny_pure q
  refine wpAny_bind (ap ?_)
  have hno : ¬ ((((items.size : Int) - 1) == 0 && (-1 : Int) == 1 && items.size == items.size) = true) := by
    intro q
    rw [Bool.and_eq_true, Bool.and_eq_true] at q
    exact absurd q.1.2 (by decide)
  show wpAny _ _ (if (((items.size : Int) - 1) == 0 && (-1 : Int) == 1 && items.size == items.size) = true then _ else _) _ _ s
  rw [if_neg hno]
  have ep : ((List.range items.size).filterMap fun (m : Nat) => items[(((items.size : Int) - 1) + (m : Int) * (-1)).toNat]?).toArray = items.toList.reverse.toArray := by
    have := filt_rev items.size items.toList hn
    rw [← this]
    congr 2
    funext m
    rw [Array.getElem?_toList]
  rw [ep]
  first
    | exact wpAny_bind (m := Builtin.Tuple.tupleExact _) (wpAny_newObj_type (wpAny_pure ⟨_, rfl, wpAny_pure h⟩) htake)
    | exact wpAny_bind (m := Builtin.Tuple.tupleExact _) (wpAny_newObj_type (wpAny_bind (wpAny_pure (wpAny_pure ⟨_, rfl, wpAny_pure h⟩))) htake)
    | exact wpAny_bind (wpAny_bind (m := Builtin.Tuple.tupleExact _) (wpAny_newObj_type (wpAny_pure (wpAny_pure ⟨_, rfl, wpAny_pure h⟩)) htake))
    | exact wpAny_bind (wpAny_bind (m := Builtin.Tuple.tupleExact _) (wpAny_newObj_type (wpAny_pure ⟨_, rfl, wpAny_pure h⟩) htake))
end
end HT
namespace VS
open PySem L2
section
variable {X : Cx} {W : XW} {P : PP} {tg e : Expr} {fa : Dl → Re D} {pos p p2 : Pos}
/-! ### a tuple of anyone's, walked -/
def itemsT : D → Re (List D)
  | .tuple ds => .ok ds
  | _ => .no
theorem vi_tupB (h : VB X W e fa) : VI X W tg e (d1L itemsT fa) := PI.imp (pi_any h) fun σ H R ⟨F, δ, s, q⟩ => ⟨F, δ, s, ReW.bndL (N := fun ds F' H' => ∀ J, Walk X.K F' H' J ds → R J H') (q.imp fun ds _ n F' H' g J w => n J F' H' g w) fun d v F1 H1 _ g r n => by
  cases d with
  | tuple ds =>
    obtain ⟨a, xs, rfl, hq, t⟩ := r
    exact .inr (.inl ⟨_, _, rfl, hq, n _ _ Grow.refl _ (walk_tup hq t)⟩)
  | _ => exact n.elim⟩
/-! ### list(range(n)) -/
def lrngD : D → Re D
  | .int j => if -(2 ^ 62) ≤ j ∧ j < 2 ^ 62 ∧ j.toNat ≤ 2 ^ 24 then .ok (.list ((List.range j.toNat).map fun k => .int (0 + (k : Nat)))) else .no
  | _ => .no
theorem vp_lrng {p3 pos2 : Pos} (hP : PNew X.K P) (hc : X.calm = true) (hg : Gl X "list") (hm : X.mg "list" = none) (hg2 : Gl X "range") (hm2 : X.mg "range" = none) (he : VE X W e fa)
    (na : starEach [e] X.env = (false, eval e X.env) :: starEach [] X.env := by rfl) (nb : starEach [.Call (.Name "range" p2) [e] [] pos2] X.env = (false, eval (.Call (.Name "range" p2) [e] [] pos2) X.env) :: starEach [] X.env := by rfl) :
    VP X W P (.Call (.Name "list" p) [.Call (.Name "range" p2) [e] [] pos2] [] pos) (d1 lrngD fa) := PE.imp (pe_listRg hc hg hm (prg_1 hg2 hm2 he na) nb) fun σ H Q ⟨F, δ, s, h⟩ =>
  ⟨F, δ, s, Go.bnd hP.toPMon h fun d x F1 H1 e1 g1 px h1 => by
    unfold lrngD at h1
    split at h1
    · rename_i j
      cases px
      split at h1
      · rename_i hj
        refine ⟨j, rfl, ⟨by decide, by decide, hj.1, hj.2.1, by rw [Int.sub_zero]; exact hj.2.2⟩, fun q hn => ?_⟩
        have e : (List.range (j - 0).toNat).map (fun i => V.int (0 + (i : Nat))) = (List.range j.toNat).map fun i => V.int (0 + (i : Nat)) := by rw [Int.sub_zero]
        have t : RpA X.K F1 H1 (rgV 0 j) ((List.range j.toNat).map fun k => PyData.int (0 + (k : Nat))) := by
          unfold rgV
          rw [e]
          generalize List.range j.toNat = ks
          induction ks with
          | nil => exact .nil
          | cons k r ih => exact .cons (.int _) ih
        exact h1.newL hP (g1.dom s.dom) hn t
      · exact h1.elim
    · exact h1.elim⟩
/-! ### xs[::-1] of a tuple -/
def revT : D → Re D
  | .tuple xs => .ok (.tuple xs.reverse)
  | _ => .no
end
end VS
namespace VS
open PySem PySem.Spec PyProof.Rows L2
section
variable {X : Cx} {e : Expr} {pos p p2 : Pos}
def tRevT (K : PySem.W.Frag) (te : TE) : TE := fun σ H Q => te σ H fun x H1 => ∃ a xs, x = .ref a ∧ SqT K H1 a xs ∧ ∀ p, H1 p = none → Q (.ref p) (upd H1 p (.tup xs.reverse))
theorem pe_revT {te : TE} {k : Nat} {p1 p3 : Pos} (he : PE X e te) : PE X (.Subscript e (.Slice none none (some (.UnaryOp .USub (.Constant (.int 1) k p1) p2)) p3) pos) (tRevT X.K te) := by
  refine ⟨fun pins s σ H Q I h => ?_⟩
  refine Subscript_ (thn (he.run pins s σ H _ I h) fun v s1 ⟨x, H1, I1, r1, q1⟩ => ?_)
  obtain ⟨a, xs, ex, hx, q⟩ := q1
  subst ex
  cases r1
  have hst : PO X (some (.UnaryOp .USub (.Constant (.int 1) k p1) p2)) (tPart (tUn (rU fun i => .int (-i)) (tC (.int 1)))) := po_some (pe_un un_neg pe_int)
  refine wpAny_Slice (thn (po_none.run pins s1 σ H1 (fun o H2 => o = none ∧ H2 = H1) I1 ⟨rfl, rfl⟩) fun vl s2 ⟨l, H2, I2, pl, el, e2⟩ => ?_)
  subst el e2
  refine thn (po_none.run pins s2 σ H2 (fun o H3 => o = none ∧ H3 = H2) I2 ⟨rfl, rfl⟩) fun vu s3 ⟨u, H3, I3, pu, eu, e3⟩ => ?_
  subst eu e3
  refine thn (hst.run pins s3 σ H3 (fun o H4 => o = some (-1) ∧ H4 = H3) I3 ⟨1, rfl, -1, rfl, rfl, rfl⟩) fun vs s4 ⟨o, H4, I4, ps, eo, e4⟩ => ?_
  subst eo e4
  have I5 : Inv X pins σ H4 { s4 with heap := s4.heap.push { cls := .type "slice", data := .fields #[vl, vu, vs] } } := I4.kept (t' := s4.toks) fun b ob q => Heap.get?_push_of_some _ q
  obtain ⟨its, r, ht, hz⟩ := I5.tuple hx
  have hlen := r.length
  show wpAny (model X.prog X.w) X.A (subscriptTail e (.Slice none none (some (.UnaryOp .USub (.Constant (.int 1) k p1) p2)) p3) (.ref a) (.ref s4.heap.objs.size)) (EP X pins σ Q) X.xe { s4 with heap := s4.heap.push { cls := .type "slice", data := .fields #[vl, vu, vs] } }
  refine tail_any (ops := [.ref a, .ref s4.heap.objs.size]) ht.typeIs (PyProof.Rows.slot_tuple_getitem.lookup) ?_ (by with_unfolding_all rfl)
  refine HT.getItem_tuple_rev ht (PySem.Heap.IsSliceOf.new _ vl vu vs) pl pu ps ?_ (by rw [List.size_toArray]; omega)
  refine ⟨.ref _, _, I5.laid (t' := s4.toks) (o := .tup xs.reverse) (fun b ob q => PySem.Heap.get?_push_of_some _ q) (Nat.le_refl _) ?_, rfl, q _ (I5.hok.fresh (Nat.le_refl _))⟩
  exact ⟨by rw [List.length_reverse]; exact hz, _, r.reverse, IsTup.new _ _⟩
end
end VS
namespace VS
open PySem L2
section
variable {X : Cx} {W : XW} {P : PP} {tg e : Expr} {fa : Dl → Re D} {pos p p2 : Pos}
theorem rpA_rev {K : PySem.W.Frag} {F : Addr → Prop} {H : Hp} {vs : List V} {ds : List D} (t : RpA K F H vs ds) : RpA K F H vs.reverse ds.reverse := t.reverse
theorem ve_revT {k : Nat} {p1 p3 : Pos} (he : VE X W e fa) : VE X W (.Subscript e (.Slice none none (some (.UnaryOp .USub (.Constant (.int 1) k p1) p2)) p3) pos) (d1 revT fa) := PE.imp (pe_revT he) fun σ H Q ⟨F, δ, s, h⟩ =>
  ⟨F, δ, s, Go.bnd pS_mon h fun d x F1 H1 e1 g1 px h1 => by
    unfold revT at h1
    split at h1
    · cases px with
      | tup ha t => exact ⟨_, _, rfl, ha.sq, fun p hn => h1.newT hn t.reverse⟩
    · exact h1.elim⟩
end
end VS
end
section
namespace VS
open PySem L2
section
variable {X : Cx} {W : XW} {P : PP} {e o : Expr} {fa fb fe : Dl → Re D} {pos : Pos} {op : Operator} {r : R2} {g : D → D → Re D} {i : Nat} {x : Str} {pos' : Pos}
/-! ### x op= e of ints and texts -/
def augS (i : Nat) (g : D → D → Re D) (f : Dl → Re D) (δ : Dl) : RS := match δ[i]? with
  | some (.sh x) => toS (f δ) fun y => toS (g x y) fun z => .nx (δ.set i (.sh z))
  | _ => .no
theorem vs_aug (ho : OpR X (inplaceOp op) r) (og : OpGS X W (pS X.K) r g) (hN : X.N.Nodup) (hi : X.N[i]? = some x) (hx : Loc X.env.scope x) (he : VE X W e fe) (hf : X.fn x = true ∨ X.env.scope.names.lookup x = some .local := by first | exact .inl rfl | exact .inr rfl) :
    VSt X W (.AugAssign (.Name x pos') op e pos) (augS i g fe) := PS.imp (ps_aug hN hi hx he ho hf) fun D σ H ⟨F0, H0, F, δ, s, q⟩ => by
  unfold augS at q
  split at q
  · rename_i d0 ei
    obtain ⟨v, ev, rv⟩ := s.sh i _ ei
    refine ⟨v, ev, F, δ, s.e, SO.go (P := pS X.K) s q fun d y F1 H1 e1 g1 ry h2 => ?_⟩
    exact og F1 H1 v y d0 d _ (s.grow g1).dom (g1.rp rv) ry (SO.go (P := pS X.K) (s.grow g1) h2 fun z w F2 H2 _ g2 rw' h3 => h3 F2 H2 _ Stay.refl ((s.grow (g1.trans g2)).setSh rw'))
  · exact q.elim
def addN : D → D → Re D
  | .int i, .int j => .ok (.int (i + j))
  | .str x, .str y => if x.length + y.length ≤ sizeLine then .ok (.str (x ++ y)) else .no
  | _, _ => .no
theorem iop_addN' : OpR X (inplaceOp .Add) (fun x y H Q => (rI0 (fun i j => .int (i + j)) x y H Q) ∨ (∃ i j, x = .str i ∧ y = .str j ∧ i.length + j.length ≤ sizeLine ∧ Q (.str (i ++ j)) H)) := OpR.or iop_add iop_add_str
theorem og_addN : OpGS X W (pS X.K) (fun x y H Q => (rI0 (fun i j => .int (i + j)) x y H Q) ∨ (∃ i j, x = .str i ∧ y = .str j ∧ i.length + j.length ≤ sizeLine ∧ Q (.str (i ++ j)) H)) addN := by
  intro F H x y dx dy Q dm rx ry h
  unfold addN at h
  split at h
  · exact .inl ⟨_, _, rp_int (Rp.b rx), rp_int (Rp.b ry), h.val (.int _)⟩
  · split at h
    · rename_i hz
      exact .inr ⟨_, _, rp_str (Rp.b rx), rp_str (Rp.b ry), hz, h.val (.str _)⟩
    · exact h.elim
  · exact h.elim
theorem og_subN : OpGS X W (pS X.K) (rI0 fun i j => .int (i - j)) subD := by
  intro F H x y dx dy Q dm rx ry h
  unfold subD at h
  split at h
  · exact ⟨_, _, rp_int (Rp.b rx), rp_int (Rp.b ry), h.val (.int _)⟩
  · exact h.elim
def mulN : D → D → Re D
  | .int i, .int j => if CMul i j then .ok (.int (i * j)) else .no
  | _, _ => .no
theorem og_mulN : OpGS X W (pS X.K) (rI CMul fun i j => .int (i * j)) mulN := by
  intro F H x y dx dy Q dm rx ry h
  unfold mulN at h
  split at h
  · split at h
    · rename_i hc
      exact ⟨_, _, rp_int (Rp.b rx), rp_int (Rp.b ry), hc, h.val (.int _)⟩
    · exact h.elim
  · exact h.elim
theorem og_fdivN : OpGS X W (pS X.K) (rI CDiv fun i j => .int (i / j)) fdivI := by
  intro F H x y dx dy Q dm rx ry h
  unfold fdivI at h
  split at h
  · split at h
    · rename_i hc
      exact ⟨_, _, rp_int (Rp.b rx), rp_int (Rp.b ry), hc, h.val (.int _)⟩
    · exact h.elim
  · exact h.elim
/-! ### xs.index(e) of a list -/
def idxL : D → D → Re D
  | .list ds, d => if SeqAt.shaped (.list ds) = true ∧ SeqAt.shaped d = true ∧ PyData.plainAll ds = true ∧ d.plain = true then
      (match ds.findIdx? (fun z => PyData.eqv z d) with
      | some j => .ok (.int (j : Nat))
      | none => .no) else .no
  | _, _ => .no
def dIdx (fa fb : Dl → Re D) (δ : Dl) : Re D := (fa δ).bnd fun x => match x with
  | .list ds => (fb δ).bnd fun y => idxL (.list ds) y
  | _ => .no
theorem ve_idxL {apos cpos : Pos} (hu : X.A.units + 65 < cLine) (ho : VB X W o fa) (he : VE X W e fb)
    (hbase : attributeBase o "index" X.env (eval o X.env) = eval o X.env := by rfl)
    (hfew : ((backTo cpos (starEach [e] X.env)).all (fun x => !x.1) && (backToKw cpos (keywordEach [] X.env)).all (fun x => x.1.isSome)
      && decide (([e] : List Expr).length + ([] : List Keyword).length + (if ([] : List Keyword).isEmpty then 0 else 1) < 30)) = true := by rfl)
    (hline : (apos.endLine == cpos.line) = true := by rfl) (hst : starEach [e] X.env = (false, eval e X.env) :: starEach [] X.env := by rfl) (hplain : (backTo cpos (starEach [] X.env)).any (·.1) = false := by rfl) :
    VE X W (.Call (.Attribute o "index" apos) [e] [] cpos) (dIdx fa fb) :=
  PE.imp (pe_bm PySem.F.plainAttrs_list PySem.F.slot_list_index PySem.F.type_list_index (mt_indexD hu) ho (pa_cons he pa_nil hst) hbase hfew hline hst hplain) fun σ H Q ⟨F, δ, s, h⟩ => by
    refine ⟨F, δ, s, Go.bnd pS_mon h fun dx x F1 H1 ex g1 px h1 => ?_⟩
    cases dx with
    | list ds =>
      obtain ⟨a, xs, rfl, hd, t⟩ := px
      refine ⟨.inl ⟨rfl, xs, .inl hd⟩, F1, δ, s.grow g1, Go.bnd pS_mon h1 fun dy y F2 H2 ey g2 py h2 => ?_⟩
      unfold idxL at h2
      simp only at h2
      split at h2
      · rename_i c
        split at h2
        · rename_i j hj
          have hd2 : Rd H2 a (.lst xs) := same_rd g2.same hd
          obtain ⟨hj1, hj2, hj3⟩ := List.findIdx?_eq_some_iff_getElem.mp hj
          refine ⟨a, y, dy, ds, j, ds[j], rfl, rfl, .lst (sqL_rd hd2) ((g2.rpA t).dp c.2.2.1), py.dp c.2.2.2, c.1, c.2.1, List.getElem?_eq_getElem hj1, hj2, fun m z' hm hz => ?_, h2.val (.int _)⟩
          obtain ⟨hm1, hm2⟩ := List.getElem?_eq_some_iff.mp hz
          have := hj3 m hm
          rw [hm2] at this
          simpa using this
        · exact h2.elim
      · exact h2.elim
    | _ => exact h1.elim
end
end VS
end
section
namespace VS
open PySem PySem.Spec PyProof.Rows L2
/-! ### d.update(d2), keys ints and texts -/
def mergeK (m n : List (Key × V)) : List (Key × V) := n.foldl (fun acc p => putK acc p.1 p.2) m
theorem mergeK_len : ∀ (n m : List (Key × V)), (mergeK m n).length ≤ m.length + n.length
  | [], m => Nat.le_refl _
  | p :: n, m => by
    have a := mergeK_len n (putK m p.1 p.2)
    have b := length_putK m p.1 p.2
    show (mergeK (putK m p.1 p.2) n).length ≤ _
    rw [List.length_cons]
    omega
theorem KV_merge : ∀ {n : List (Key × V)} {ws : List (Key × Value)} {m : List (Key × V)} {vs : List (Key × Value)}, KV m vs → KV n ws → KV (mergeK m n) (merged vs ws)
  | [], _, m, vs, r, q => by
    cases q
    exact r
  | p :: n, _, m, vs, r, q => by
    cases q with
    | cons h t =>
      rename_i q0 ws'
      have r' := r.put p.1 h.2
      rw [h.1] at r'
      show KV (mergeK (putK m p.1 p.2) n) (merged (stored vs q0.1 q0.2) ws')
      rw [h.1]
      exact KV_merge r' t
section
variable {X : Cx} {pins : List (Addr × Obj)} {σ : L2.St} {H : Hp} {s : Shared} {a b : Addr} {A : Around} {E : Value → Shared → Prop}
theorem d_update {m n : List (Key × V)} {Q : Value → Shared → Prop} (I : Inv X pins σ H s) (ea : H a = some (.dK m) ∨ (m = [] ∧ H a = some (.dT []))) (eb : Rd H b (.dK n) ∨ (n = [] ∧ Rd H b (.dT []))) (ne : a ≠ b) (hl : m.length + n.length ≤ sizeLine)
    (h : ∀ s', Inv X pins σ (upd H a (.dK (mergeK m n))) s' → Q .none s') : wpAny (model X.prog X.w) A (call (.builtin "dict.update") [.ref a, .ref b]) Q E s := by
  have fa : (a == sysModules) = false ∧ ∃ vs, KV m vs ∧ s.heap.DictOf (mixKind X.prog X.w) a vs := by
    rcases ea with e | ⟨rfl, e⟩
    · obtain ⟨_, hd, vs, rel, dd⟩ := dk_of I.hok e
      exact ⟨hd, vs, rel, dd⟩
    · obtain ⟨hd, dd⟩ := emptyK I (.inl e)
      exact ⟨hd, [], .nil, dd⟩
  have fb : (b == sysModules) = false ∧ ∃ vs, KV n vs ∧ s.heap.DictOf (mixKind X.prog X.w) b vs := by
    rcases eb with e | ⟨rfl, e⟩
    · obtain ⟨_, hd, vs, rel, dd⟩ := dk_rd I.hok e
      exact ⟨hd, vs, rel, dd⟩
    · obtain ⟨hd, dd⟩ := emptyK I e
      exact ⟨hd, [], .nil, dd⟩
  obtain ⟨hda, vs, rel, dd⟩ := fa
  obtain ⟨hdb, ws, rel2, dd2⟩ := fb
  have mu : Mut (H a) := by
    rcases ea with e | ⟨_, e⟩ <;> rw [e] <;> trivial
  refine call_meetsIn PySem.F.slot_dict_update dd.typeIs PySem.F.entry_dict_update (PySem.F.args_dict_update_2 _ _) (meets_dict_update (mixKind X.prog X.w) a b ne hdb)
    ⟨vs, ws, dd, dd2, (by rw [← rel.length, ← rel2.length]; exact hl), fun h' hmm _ hs => h _ ?_⟩
  have he : ∃ q, h'.get? a = some q := let ⟨q, _, _, hq, _⟩ := hmm; ⟨q, hq⟩
  exact d_write (t' := s.toks) I mu hs he (dk_new (Nat.le_trans (mergeK_len n m) hl) hda (KV_merge rel rel2) hmm)
end
def rUpd : V → List V → Hp → VK → Prop := fun x xs H Q => ∃ (a b : Addr) (m n : List (Key × V)), x = .ref a ∧ xs = [.ref b] ∧ (H a = some (.dK m) ∨ (m = [] ∧ H a = some (.dT []))) ∧ (Rd H b (.dK n) ∨ (n = [] ∧ Rd H b (.dT []))) ∧ a ≠ b ∧ m.length + n.length ≤ sizeLine ∧ Q .non (upd H a (.dK (mergeK m n)))
theorem mt_upd {X : Cx} : MtR X "dict.update" rUpd := by
  intro pins s σ H x xs v us Q I rx rxs h
  obtain ⟨a, b, m, n, rfl, rfl, ea, eb, ne, hl, q⟩ := h
  cases (show v = Value.ref a from rx)
  cases rxs with
  | cons ry rt =>
    cases rt
    rename_i u
    cases (show u = Value.ref b from ry)
    exact d_update I ea eb ne hl fun s' I' => ⟨.non, _, I', rfl, q⟩
end VS
namespace VS
open PySem L2
def mergeD (m n : List (D × D)) : List (D × D) := n.foldl (fun acc p => putD acc p.1 p.2) m
def allKey (m : List (D × D)) : Bool := m.all fun p => kindK p.1 == some false
theorem rp_merge {K : PySem.W.Frag} {F : Addr → Prop} {H : Hp} : ∀ {n : List (Key × V)} {es : List (D × D)} {m : List (Key × V)} {ds : List (D × D)}, RpK K F H (m.map fun p => (kD p.1, p.2)) ds → RpK K F H (n.map fun p => (kD p.1, p.2)) es → RpK K F H ((mergeK m n).map fun p => (kD p.1, p.2)) (mergeD ds es)
  | [], _, m, ds, r, q => by
    cases q
    exact r
  | p :: n, es, m, ds, r, q => by
    cases q with
    | @cons _ _ _ d' ds' h t =>
      show RpK K F H ((mergeK (putK m p.1 p.2) n).map fun p => (kD p.1, p.2)) (mergeD (putD ds (kD p.1) d') ds')
      exact rp_merge (rp_putK p.1 r h) t
theorem mergeD_len {K : PySem.W.Frag} {F : Addr → Prop} {H : Hp} {n : List (D × V)} {es : List (D × D)} (r : RpK K F H n es) : n.length = es.length := by
  have := congrArg List.length (rpK_keys r)
  simpa using this
/-- keys that are ints and texts: the dict is of that sort, or empty -/
theorem drd_K {K : PySem.W.Frag} {F : Addr → Prop} {H : Hp} {a : Addr} {kvs : List (D × V)} {es : List (D × D)} (hd : DRd H a kvs) (r : RpK K F H kvs es) (hk : allKey es = true) :
    ∃ n : List (Key × V), (Rd H a (.dK n) ∨ (n = [] ∧ Rd H a (.dT []))) ∧ RpK K F H (n.map fun p => (kD p.1, p.2)) es := by
  have ho : isOb kvs = false := by
    rw [isOb_rp r]
    cases es with
    | nil => rfl
    | cons p q =>
      obtain ⟨k, d⟩ := p
      unfold allKey at hk
      rw [List.all_cons, Bool.and_eq_true] at hk
      have hk1 := eq_of_beq hk.1
      cases k with
      | none => cases hk1
      | _ => rfl
  rcases hd.two ho with ⟨n, h, rfl⟩ | ⟨n, h, rfl⟩
  · exact ⟨n, .inl h, r⟩
  · cases n with
    | nil => exact ⟨[], .inr ⟨rfl, h⟩, r⟩
    | cons p n =>
      exfalso
      cases r with
      | cons h t =>
        unfold allKey at hk
        rw [List.all_cons, Bool.and_eq_true] at hk
        exact kindK_notF _ (eq_of_beq hk.1)
section
variable {X : Cx} {W : XW} {pos apos cpos py : Pos} {i : Nat} {y : Str} {e : Expr} {fe : Dl → Re D}
def updS (i : Nat) (f : Dl → Re D) (δ : Dl) : RS := match δ[i]? with
  | some (.ow (.dict kvs)) => if isOb kvs = true then .no else toS (f δ) fun d => match d with
    | .dict es => if allKey kvs = true ∧ allKey es = true ∧ kvs.length + es.length ≤ sizeLine then .nx (δ.set i (.ow (.dict (mergeD kvs es)))) else .no
    | _ => .no
  | _ => .no
theorem vs_update (hy : PE X (.Name y py) (tVar i)) (he : VE X W e fe) (hs : swapsWith (.Call (.Attribute (.Name y py) "update" apos) [e] [] cpos) none pos.line X.env = pure false := by rfl)
    (hbase : attributeBase (.Name y py) "update" X.env (eval (.Name y py) X.env) = eval (.Name y py) X.env := by rfl)
    (hfew : ((backTo cpos (starEach [e] X.env)).all (fun x => !x.1) && (backToKw cpos (keywordEach [] X.env)).all (fun x => x.1.isSome)
      && decide (([e] : List Expr).length + ([] : List Keyword).length + (if ([] : List Keyword).isEmpty then 0 else 1) < 30)) = true := by rfl)
    (hline : (apos.endLine == cpos.line) = true := by rfl) (hst : starEach [e] X.env = (false, eval e X.env) :: starEach [] X.env := by rfl) (hplain : (backTo cpos (starEach [] X.env)).any (·.1) = false := by rfl) :
    VSt X W (.Expr (.Call (.Attribute (.Name y py) "update" apos) [e] [] cpos) pos) (updS i fe) :=
  PS.imp (ps_expr (pe_bm PySem.F.plainAttrs_dict PySem.F.slot_dict_update PySem.F.type_dict_update mt_upd hy (pa_cons he pa_nil hst) hbase hfew hline hst hplain) hs) fun D σ H ⟨F0, H0, F, δ, s, q⟩ => by
    unfold updS at q
    split at q
    · rename_i kvs ei
      split at q
      · exact q.elim
      rename_i nob
      obtain ⟨a, ea, ho, nf, n0⟩ := s.ow i _ ei
      obtain ⟨u0, hu0, mu0⟩ := ho.there
      have ty : tyV X.K "dict" (.ref a) H := by
        rcases ho with ⟨m, h, _⟩ | ⟨m, h, _⟩ | ⟨C, dx, fs, h, rk⟩
        rotate_left 2
        · exact absurd (by cases rk; rfl) nob
        · exact .inr (.inr (.inl ⟨rfl, .inl ⟨_, h⟩⟩))
        · exact .inr (.inr (.inl ⟨rfl, .inr ⟨_, h⟩⟩))
      refine ⟨_, ea, ty, F, δ, s.e, SO.go (P := pS X.K) s q fun d v F1 H1 e1 g1 r h1 => ?_⟩
      cases d with
      | dict es =>
        simp only at h1
        split at h1
        · rename_i hc
          cases r with
          | @dic b kv2 _ hd fb t =>
            have nf1 : ¬ F1 a := g1.notF nf (by rw [hu0]; exact fun z => nomatch z)
            have ne : a ≠ b := fun z => nf1 (z ▸ fb)
            have ho1 : RpO X.K F1 H1 a (.dict kvs) := ho.kept g1.sub g1.kept ((g1.same _ _ hu0).trans hu0.symm)
            obtain ⟨n, eb, tn⟩ := drd_K hd t hc.2.1
            obtain ⟨m, em, tm⟩ : ∃ m : List (Key × V), (H1 a = some (.dK m) ∨ (m = [] ∧ H1 a = some (.dT []))) ∧ RpK X.K F1 H1 (m.map fun p => (kD p.1, p.2)) kvs := by
              rcases ho1 with ⟨m, h, r⟩ | ⟨m, h, r⟩ | ⟨C, dx, fs, h, r⟩
              rotate_left 2
              · exfalso
                cases r with
                | cons h t =>
                  have hk := hc.1
                  unfold allKey at hk
                  rw [List.all_cons, Bool.and_eq_true] at hk
                  exact nomatch (show (none : Option Bool) = some false from eq_of_beq hk.1)
              · exact ⟨m, .inl h, r⟩
              · cases m with
                | nil => exact ⟨[], .inr ⟨rfl, h⟩, r⟩
                | cons p m =>
                  exfalso
                  cases r with
                  | cons h t =>
                    have hk := hc.1
                    unfold allKey at hk
                    rw [List.all_cons, Bool.and_eq_true] at hk
                    exact kindK_notF _ (eq_of_beq hk.1)
            have l1 := mergeD_len tm
            have l2 := mergeD_len tn
            rw [List.length_map] at l1 l2
            refine ⟨a, b, m, n, rfl, rfl, em, eb, ne, by omega, ?_⟩
            have hu1 : H1 a = some u0 := g1.same _ _ hu0
            have kk : Kept F1 H1 (upd H1 a (.dK (mergeK m n))) := kept_upd nf1 hu1 mu0
            obtain ⟨st, s2⟩ := sok_write (s.grow g1) (d' := .dict (mergeD kvs es)) (o' := .dK (mergeK m n)) ei ea (.inl ⟨_, upd_same, (rp_merge tm tn).mono (fun _ x => x) kk⟩)
            exact h1 _ _ _ st s2
        · exact h1.elim
      | _ => exact h1.elim
    · exact q.elim
end
end VS
end
section
namespace VS
open PySem L2
theorem mergeK_is (m n : List (Key × V)) : L2.mergeK m n = VS.mergeK m n := rfl
/-! ### dict(xs) of a list of pairs -/
def pairsOf : List D → Option (List (D × D))
  | [] => some []
  | .tuple [k, v] :: r => (pairsOf r).map ((k, v) :: ·)
  | _ => none
def dictPD : List D → Re D
  | [.list ds] => (match pairsOf ds with
    | some es => if allKey es = true then .ok (.dict (mergeD [] es)) else .no
    | none => .no)
  | _ => .no
theorem pairs_in {K : PySem.W.Frag} {F : Addr → Prop} {H : Hp} : ∀ {ds : List D} {xs : List V} {es : List (D × D)}, RpA K F H xs ds → pairsOf ds = some es → allKey es = true →
    ∃ (ps : List Addr) (kvs : List (Key × V)), xs = ps.map V.ref ∧ Paired (fun p kv => SqT K H p [kV kv.1, kv.2]) ps kvs ∧ RpK K F H (kvs.map fun p => (kD p.1, p.2)) es
  | [], xs, es, r, h, _ => by
    cases r
    have h' : some [] = some es := h
    cases h'
    exact ⟨[], [], rfl, .nil, .nil⟩
  | d :: ds, xs, es, r, h, hk => by
    cases r with
    | cons r0 t =>
      unfold pairsOf at h
      split at h
      · rename_i e1
        cases e1
      · rename_i k v rest e1
        cases e1
        cases ep : pairsOf ds with
        | none => rw [ep] at h; cases h
        | some es' =>
          rw [ep] at h
          cases h
          unfold allKey at hk
          rw [List.all_cons, Bool.and_eq_true] at hk
          obtain ⟨ps, kvs, rfl, hp, rk⟩ := pairs_in t ep hk.2
          cases r0 with
          | @tup a ws _ ta tr =>
            cases tr with
            | cons rk0 tr2 =>
              cases tr2 with
              | cons rv0 tr3 =>
                cases tr3
                obtain ⟨k', rfl, rfl⟩ := key_K rk0 (eq_of_beq hk.1)
                rename_i v0
                exact ⟨a :: ps, (k', v0) :: kvs, rfl, .cons ta.sq hp, .cons rv0 rk⟩
      · cases h
section
variable {X : Cx} {W : XW} {P : PP}
theorem cg_dictP (hP : PNew X.K P) : CallG X W P RpB (fun xs H Q => ∃ (a : Addr) (ps : List Addr) (kvs : List (Key × V)), xs = [.ref a] ∧ SqL X.K H a (ps.map V.ref) ∧ Paired (fun p kv => SqT X.K H p [kV kv.1, kv.2]) ps kvs ∧
    ∀ p, H p = none → Q (.ref p) (upd H p (.dK (L2.mergeK [] kvs)))) dictPD := by
  intro F H vs ds Q dm r h
  unfold dictPD at h
  split at h
  · rename_i ds
    split at h
    · rename_i es ep
      split at h
      · rename_i hk
        cases r with
        | cons r rr =>
          cases rr
          obtain ⟨a, ys, e, ha, t⟩ := r
          subst e
          obtain ⟨ps, kvs, rfl, hp, rk⟩ := pairs_in t ep hk
          refine ⟨a, ps, kvs, rfl, .inl ha, hp, fun p hn => ?_⟩
          obtain ⟨F', g, pp⟩ := hP.dK dm hn (rp_merge (m := []) (ds := []) .nil rk)
          exact h _ F' _ g pp
      · exact h.elim
    · exact h.elim
  · exact h.elim
variable {e : Expr} {fs : Dl → Re (List D)} {pos p : Pos}
theorem vp_dictP (hP : PNew X.K P) (hcalm : X.calm = true) (hg : Gl X "dict") (hm : X.mg "dict" = none) (ha : VA X W RpB [e] fs) (he : starEach [e] X.env = (false, eval e X.env) :: starEach [] X.env := by rfl) : VP X W P (.Call (.Name "dict" p) [e] [] pos) (dA fs dictPD) := vp_callTy hP.toPMon (call_dictP hcalm) (cg_dictP hP) hg hm (by decide +kernel) ha (by decide) (by decide) he
end
end VS
end
section
namespace VS
open PySem L2
theorem hu65 {k : Nat} {A : Around} (r : Room k A) : A.units + 65 < cLine := by have := r.un; omega
section
variable {X : Cx} {W : XW} {P : PP} {tg e : Expr} {fa : Dl → Re D} {pos p p2 : Pos}
/-! ### xs[::-1] of a list or a tuple -/
def revA : D → Re D
  | .list xs => .ok (.list xs.reverse)
  | .tuple xs => .ok (.tuple xs.reverse)
  | _ => .no
theorem ve_revA {k : Nat} {p1 p3 : Pos} (he : VE X W e fa) : VE X W (.Subscript e (.Slice none none (some (.UnaryOp .USub (.Constant (.int 1) k p1) p2)) p3) pos) (d1 revA fa) := PE.imp (PE.or (pe_revL he) (pe_revT he)) fun σ H Q ⟨F, δ, s, h⟩ => by
  cases ef : fa δ with
  | no => unfold d1 at h; rw [ef] at h; exact h.elim
  | ex x =>
    refine .inl ⟨F, δ, s, ?_⟩
    unfold d1 at h
    rw [ef] at h ⊢
    exact h
  | ok d =>
    unfold d1 at h
    rw [ef] at h
    cases d with
    | list xs =>
      refine .inl ⟨F, δ, s, ?_⟩
      rw [ef]
      intro v F1 H1 g r
      cases r with
      | lst ha f t => exact ⟨_, _, rfl, .inl ha, fun p hn => (Go.grow pS_mon h g).newL pS_new (g.dom s.dom) hn t.reverse⟩
    | tuple xs =>
      refine .inr ⟨F, δ, s, ?_⟩
      rw [ef]
      intro v F1 H1 g r
      cases r with
      | tup ha t => exact ⟨_, _, rfl, ha.sq, fun p hn => (Go.grow pS_mon h g).newT hn t.reverse⟩
    | _ => exact h.elim
end
/-! ### {k: v, ..} -/
def prsF : List ((Dl → Re D) × (Dl → Re D)) → Dl → Re (List (D × D))
  | [], _ => .ok []
  | (fk, fv) :: r, δ => (fk δ).bnd fun k => (fv δ).bnd fun v => (prsF r δ).bnd fun ps => .ok ((k, v) :: ps)
inductive RPs (K : PySem.W.Frag) (F : Addr → Prop) (H : Hp) : List (V × V) → List (D × D) → Prop
  | nil : RPs K F H [] []
  | cons {x y : V} {k v : D} {vs : List (V × V)} {ps : List (D × D)} : Rp K F H x k → Rp K F H y v → RPs K F H vs ps → RPs K F H ((x, y) :: vs) ((k, v) :: ps)
theorem ReW.bndG {α : Type} {W : XW} {K : PySem.W.Frag} {F : Addr → Prop} {H : Hp} {ra : Re D} {k : D → Re α} {N : α → (Addr → Prop) → Hp → Prop} {Q' : VK} (h : ReW W F H (ra.bnd k) fun ds => ∀ F' H', Grow F H F' H' → N ds F' H')
    (q : ∀ d v F1 H1, ra = .ok d → Grow F H F1 H1 → Rp K F1 H1 v d → ReW W F1 H1 (k d) (fun ds => ∀ F' H', Grow F1 H1 F' H' → N ds F' H') → Q' v H1) : Go W (pS K) F H ra Q' := by
  cases ra with
  | ok d => exact fun v F1 H1 g p => q d v F1 H1 rfl g p (ReW.grow h g fun ds n F' H' g' => n F' H' (g.trans g'))
  | ex x => exact h
  | no => exact h
theorem t_prs {K : PySem.W.Frag} {W : XW} : ∀ (kf : List ((Dl → Re D) × (Dl → Re D))) {σ : L2.St} {F : Addr → Prop} {H : Hp} {δ : Dl} {Q : List (V × V) → Hp → Prop}, SokE K F H σ δ →
    (ReW W F H (prsF kf δ) fun ps => ∀ F' H', Grow F H F' H' → ∀ vs, RPs K F' H' vs ps → Q vs H') → tPairs (kf.map fun p => (tP K W (pS K) p.1, tP K W (pS K) p.2)) σ H Q
  | [], σ, F, H, δ, Q, s, h => h F H Grow.refl [] .nil
  | (fk, fv) :: r, σ, F, H, δ, Q, s, h => by
    refine ⟨F, δ, s, ReW.bndG (K := K) (N := fun ps F' H' => ∀ vs, RPs K F' H' vs ps → Q vs H') h fun k x F1 H1 ek g1 rx h1 => ?_⟩
    refine ⟨F1, δ, s.grow g1, ReW.bndG (K := K) (N := fun ps F' H' => ∀ vs, RPs K F' H' vs ps → Q vs H') h1 fun v y F2 H2 ev g2 ry h2 => ?_⟩
    refine t_prs r ((s.grow g1).grow g2) ?_
    cases er : prsF r δ with
    | no => rw [er] at h2; exact h2
    | ex z => rw [er] at h2; exact h2
    | ok ps =>
      rw [er] at h2
      intro F' H' g vs rv
      exact h2 F' H' g _ (.cons (((g2.trans g)).rp rx) (g.rp ry) rv)
def dispD (kf : List ((Dl → Re D) × (Dl → Re D))) (δ : Dl) : Re D := (prsF kf δ).bnd fun ps => if allKey ps = true then .ok (.dict (mergeD [] ps)) else .no
theorem rps_len {K : PySem.W.Frag} {F : Addr → Prop} {H : Hp} : ∀ {vs : List (V × V)} {ps : List (D × D)}, RPs K F H vs ps → vs.length = ps.length
  | _, _, .nil => rfl
  | _, _, .cons _ _ t => congrArg (· + 1) (rps_len t)
theorem prsF_len : ∀ (kf : List ((Dl → Re D) × (Dl → Re D))) {δ : Dl} {ps : List (D × D)}, prsF kf δ = .ok ps → ps.length = kf.length
  | [], δ, ps, h => by
    have h' : Re.ok [] = Re.ok ps := h
    cases h'
    rfl
  | (fk, fv) :: r, δ, ps, h => by
    unfold prsF at h
    cases ek : fk δ with
    | no => rw [ek] at h; cases h
    | ex z => rw [ek] at h; cases h
    | ok k =>
      cases ev : fv δ with
      | no => rw [ek, bnd_ok, ev] at h; cases h
      | ex z => rw [ek, bnd_ok, ev] at h; cases h
      | ok v =>
        cases er : prsF r δ with
        | no => rw [ek, bnd_ok, ev, bnd_ok, er] at h; cases h
        | ex z => rw [ek, bnd_ok, ev, bnd_ok, er] at h; cases h
        | ok qs =>
          rw [ek, bnd_ok, ev, bnd_ok, er, bnd_ok] at h
          cases h
          rw [List.length_cons, List.length_cons, prsF_len r er]
theorem rps_keys {K : PySem.W.Frag} {F : Addr → Prop} {H : Hp} : ∀ {vs : List (V × V)} {ps : List (D × D)}, RPs K F H vs ps → allKey ps = true → ∃ kvs : List (Key × V), vs = kvs.map (fun kv => (kV kv.1, kv.2)) ∧ RpK K F H (kvs.map fun p => (kD p.1, p.2)) ps
  | _, _, .nil, _ => ⟨[], rfl, .nil⟩
  | _, _, .cons rk rv t, h => by
    unfold allKey at h
    rw [List.all_cons, Bool.and_eq_true] at h
    obtain ⟨k', rfl, rfl⟩ := key_K rk (eq_of_beq h.1)
    obtain ⟨kvs, e, r⟩ := rps_keys t h.2
    rename_i y v vs ps
    exact ⟨(k', y) :: kvs, by rw [e]; rfl, .cons rv r⟩
section
variable {X : Cx} {W : XW} {P : PP} {pos : Pos}
abbrev VPr (X : Cx) (W : XW) (pos : Pos) (ks : List (Option Expr)) (vs : List Expr) (kf : List ((Dl → Re D) × (Dl → Re D))) : Prop := PPs X pos ks vs (kf.map fun p => (tP X.K W (pS X.K) p.1, tP X.K W (pS X.K) p.2))
theorem vpr_nil : VPr X W pos [] [] [] := pps_nil
theorem vpr_cons {k v : Expr} {ks : List (Option Expr)} {vs : List Expr} {fk fv : Dl → Re D} {kf : List ((Dl → Re D) × (Dl → Re D))} (hk : VE X W k fk) (hv : VE X W v fv) (hr : VPr X W pos ks vs kf) : VPr X W pos (some k :: ks) (v :: vs) ((fk, fv) :: kf) := pps_cons hk hv hr
theorem vp_disp {ks : List (Option Expr)} {vs : List Expr} {kf : List ((Dl → Re D) × (Dl → Re D))} (hP : PNew X.K P) (h : VPr X W pos ks vs kf) (hall : ks.all (·.isSome) = true := by rfl) (hl : ks.length = vs.length := by rfl) (h0 : ks ≠ [] := by decide) (h15 : ks.length ≤ 15 := by decide) (hkf : kf.length = ks.length := by rfl) :
    VP X W P (.Dict ks vs pos) (dispD kf) := PE.imp (pe_disp h hall hl h0 h15) fun σ H Q ⟨F, δ, s, q⟩ p hn => by
  have g0 : Grow F H F (upd H p (.dK [])) := Grow.upd0 hn
  refine t_prs (W := W) kf (s.grow g0) ?_
  unfold dispD at q
  cases er : prsF kf δ with
  | no => rw [er] at q; exact q.elim
  | ex z =>
    rw [er] at q
    exact fun F' H' g => q F' H' (g0.trans g)
  | ok ps =>
    rw [er, bnd_ok] at q
    split at q
    · rename_i hk
      intro F' H' g vs rv
      have hp : H' p = some (.dK []) := g.same _ _ upd_same
      have nf : ¬ F' p := fun f => by
        rcases (g0.trans g).new p f with f0 | f0
        · exact s.dom p f0 hn
        · rcases g.new p f with f1 | f1
          · exact s.dom p f1 hn
          · rw [upd_same] at f1; cases f1
      obtain ⟨kvs, e, r⟩ := rps_keys rv hk
      refine ⟨hp, kvs, e, ?_, ?_⟩
      · have h1 := rps_len rv
        have h2 := prsF_len kf er
        rw [e, List.length_map] at h1
        omega
      · have gt := g0.trans g
        let Hm : Hp := fun b => if b = p then none else H' b
        have m0 : Hm p = none := if_pos rfl
        have m1 : ∀ b, b ≠ p → Hm b = H' b := fun b e => if_neg e
        have kk : Kept F' H' Hm := fun b o e c => by
          by_cases eb : b = p
          · subst eb
            rcases c with c | c
            · exact (nf c).elim
            · rw [hp] at e
              cases e
              exact (c trivial).elim
          · rw [m1 b eb]
            exact e
        have gm : Grow F H F' Hm := ⟨gt.sub, gt.new, fun b o e => by
          by_cases eb : b = p
          · subst eb
            rw [hn] at e
            cases e
          · rw [m1 b eb]
            refine g.same b o ?_
            rw [upd_ne eb]
            exact e, fun hd b f => by
          by_cases eb : b = p
          · subst eb
            exact (nf f).elim
          · rw [m1 b eb]
            exact gt.dom hd b f⟩
        obtain ⟨F2, g2, p2⟩ := hP.dK (gm.dom s.dom) m0 (rp_merge (m := []) (ds := []) .nil (r.mono (fun _ x => x) kk))
        have eu : upd Hm p (.dK (VS.mergeK [] kvs)) = upd H' p (.dK (L2.mergeK [] kvs)) := by
          funext b
          by_cases eb : b = p
          · subst eb
            rw [upd_same, upd_same]
            rfl
          · rw [upd_ne eb, upd_ne eb, m1 b eb]
        rw [eu] at g2 p2
        exact q _ F2 _ (gm.trans g2) (hP.mon gm p2)
    · exact q.elim
end
end VS
end
section
/-! set(xs) of ints and texts: the walk follows the kit's own for one text (HandS/Strs), with what was met so far in the place of a number -/
namespace VS
open PySem PySem.Spec PyProof.Rows L2
def inK (l : List Key) (k : Key) : Bool := l.any fun x => decide (x = k)
def met (l : List Key) (k : Key) : List Key := if inK l k = true then l else l ++ [k]
def dist (ks : List Key) : List Key := ks.foldl met []
theorem dist_snoc (ks : List Key) (k : Key) : dist (ks ++ [k]) = met (dist ks) k := by
  unfold dist
  rw [List.foldl_append]
  rfl
theorem met_in (l : List Key) (k j : Key) : inK (met l k) j = (inK l j || decide (j = k)) := by
  unfold met
  split
  · rename_i h
    by_cases e : j = k
    · subst e
      rw [h]
      rfl
    · rw [decide_eq_false e, Bool.or_false]
  · unfold inK
    rw [List.any_append]
    simp only [List.any_cons, List.any_nil, Bool.or_false]
    congr 1
    exact decide_eq_decide.mpr ⟨fun e => e.symm, fun e => e.symm⟩
theorem met_len (l : List Key) (k : Key) : (met l k).length = if inK l k = true then l.length else l.length + 1 := by
  unfold met
  split <;> simp
theorem setOf_eq {prog : Program} {w : World} {h : Heap} {a : Addr} {S S' : Key → Bool} {n n' : Nat} (hS : h.SetOf (mixKind prog w) a S n) (e : ∀ k, S k = S' k) (en : n = n') : h.SetOf (mixKind prog w) a S' n' := by
  have : S = S' := funext e
  subst this; subst en; exact hS
theorem dist_len : ∀ ks : List Key, (dist ks).length ≤ ks.length := by
  have : ∀ (ks l : List Key), (ks.foldl met l).length ≤ l.length + ks.length := by
    intro ks
    induction ks with
    | nil => intro l; exact Nat.le_refl _
    | cons k r ih =>
      intro l
      have a := ih (met l k)
      have b := met_len l k
      rw [List.foldl_cons, List.length_cons]
      split at b <;> omega
  intro ks
  have h := this ks []
  rw [List.length_nil, Nat.zero_add] at h
  exact h
theorem dist_take (ks : List Key) (i : Nat) (k : Key) (h : ks[i]? = some k) : dist (ks.take (i + 1)) = met (dist (ks.take i)) k := by
  rw [List.take_add_one, h]
  exact dist_snoc _ _
section
variable {prog : Program} {w : World} {A : Around} {R : Result → Shared → Prop} {I : Addr} {fp wr : List Addr} {G : Array GenState → Array GenState → Prop} {n : Nat} {P : Nat → Value → Prop} {St : Nat → Shared → Prop}
theorem set_loopK (W : WalksS prog w A.in1 I fp wr G n P St) (S : Addr) (hSf : S ∉ fp) (ks : List Key) (hsz : ks.length = n) (hn : n + 1 < scanBound)
    (hval : ∀ i v, P i v → ∃ k, ks[i]? = some k ∧ RelV (kV k) v) :
    ∀ (m i : Nat) (s : Shared), n - i = m → i ≤ n → St i s →
      s.heap.SetOf (mixKind prog w) S (inK (dist (ks.take i))) (dist (ks.take i)).length →
      (∀ s', Moved (S :: wr) G s s' → s'.heap.SetOf (mixKind prog w) S (inK (dist ks)) (dist ks).length → R (.ok (.ret .none)) s') →
      codeAny (model prog w) A (.builtin "set.update.loop" ⟨[.ref S, .ref I], []⟩) R s := by
  have hSw : S ∉ wr := fun h => hSf (W.sub _ h)
  have hsub : ∀ b ∈ wr, b ∈ S :: wr := fun b hb => List.mem_cons_of_mem _ hb
  intro m
  induction m with
  | zero =>
    intro i s hm hi hst hS hR
    have hin : i = n := by omega
    subst hin
    refine codeAny_builtin PyProof.Rows.F.entry_set_update_loop ?_
    rw [Around.under_plainId PyProof.Rows.F.plain_set_update_loop _]
    show wpAny _ A.in1 (pyNext (.ref I) >>= _) _ _ s
    refine wpAny_bind (W.done s _ _ hst fun s' hm => ?_)
    show wpAny _ A.in1 (ret Value.none) _ _ s'
    rw [← hsz, List.take_length] at hS
    exact wpAny_pure (hR s' (hm.mono hsub) (setOf_at hS fun o e => hm.heap S _ hSw e))
  | succ m ih =>
    intro i s hm hi hst hS hR
    have hlt : i < n := by omega
    refine codeAny_builtin PyProof.Rows.F.entry_set_update_loop ?_
    rw [Around.under_plainId PyProof.Rows.F.plain_set_update_loop _]
    show wpAny _ A.in1 (pyNext (.ref I) >>= _) _ _ s
    refine wpAny_bind (W.item i s _ _ hlt hst fun v s' hP hst' hmv => ?_)
    obtain ⟨k, hk, rk⟩ := hval i v hP
    have hS' := setOf_at (h' := s'.heap) hS fun o e => hmv.heap S _ hSw e
    have hlen : (dist (ks.take i)).length ≤ i := Nat.le_trans (dist_len _) (by rw [List.length_take]; omega)
    show wpAny _ A.in1 (holding [v] (setAdd S v) >>= _) _ _ s'
    refine wpAny_bind (wpAny_holding ?_)
    unfold setAdd
    refine wpAny_holding ?_
    refine wpAny_bind ((mixKind prog w).pyHash (k := k) (kV_is rk) ?_)
    refine wpAny_setAddHashed_of (knd := mixKind prog w) (s := { s' with toks := s'.toks + 1 }) (kV_is rk) (key_scan rk) hS' (by omega) fun h' hsb hS2 => ?_
    have ed := dist_take ks i k hk
    have hSi : h'.SetOf (mixKind prog w) S (inK (dist (ks.take (i + 1)))) (dist (ks.take (i + 1))).length := by
      rw [ed]
      exact setOf_eq hS2 (fun j => (met_in _ k j).symm) (met_len _ k).symm
    refine wpAny_pure ⟨plainId_quiet PyProof.Rows.F.plain_set_update_loop _, ih (i + 1) _ (by omega) hlt (W.frame _ s' _ _ hst' (Nat.le_succ _) fun b hb o e => ?_) hSi fun s'' hm'' hS'' => ?_⟩
    · rw [hsb.2 b (fun h : b = S => hSf (by rw [← h]; exact hb))]; exact e
    · refine hR s'' (Moved.trans W.gtrans ((hmv.mono hsub).then_heap (Nat.le_succ _) fun b o hb e => ?_) hm'') hS''
      rw [hsb.2 b (fun h : b = S => hb (by rw [h]; exact List.mem_cons_self))]; exact e
end
theorem vals_at : ∀ {ks : List Key} {us : List Value} {i : Nat} {v : Value}, Vals (ks.map kV) us → us[i]? = some v → ∃ k, ks[i]? = some k ∧ RelV (kV k) v
  | [], us, i, v, r, e => by
    rw [List.map_nil] at r
    cases r
    cases e
  | k :: ks, _, 0, v, r, e => by
    rw [List.map_cons] at r
    cases r with
    | cons h t => cases e; exact ⟨k, rfl, h⟩
  | k :: ks, _, i + 1, v, r, e => by
    rw [List.map_cons] at r
    cases r with
    | cons h t => exact vals_at (i := i) t (by simpa using e)
section
variable {prog : Program} {w : World} {A : Around} {E : Value → Shared → Prop} {s : Shared}
set_option maxHeartbeats 6400000 in
/-- set(l) -/
theorem call_setK {l : Addr} {items : Array Value} {ks : List Key} {Q : Value → Shared → Prop}
    (hh : A.handled = none) (hl : s.heap.IsList l items) (hi : Vals (ks.map kV) items.toList) (hn : ks.length + 1 < scanBound)
    (h : ∀ (h' : Heap) (tk : Nat), h'.SetOf (mixKind prog w) s.heap.objs.size (inK (dist ks)) (dist ks).length →
      (∀ b o, b < s.heap.objs.size → s.heap.get? b = some o → h'.get? b = some o) → Q (.ref s.heap.objs.size) { s with heap := h', toks := tk }) :
    wpAny (model prog w) A (call (.type "set") [.ref l]) Q E s := by
  obtain ⟨c, tl, hmro⟩ := PySem.F.called_set.mro
  have hmade := PySem.F.called_set.made
  have hsub := PySem.F.called_set.sub
  refine wpAny_call (codeAny_of_tree ?_)
  show wpAny _ _ (callAny (.type "set") _) _ _ _
  refine wpAny_pure ⟨Code.quiet_builtin _ (by decide +kernel), codeAny_builtin PySem.F.entry_type_call ?_⟩
  rw [Around.under_plain (weight_type_call_type "set" [.ref l] []) rfl]
  have h1 := PySem.F.called_set.notType
  have h2 := PySem.F.called_set.canCreate
  have hct := PySem.F.typeCall_set_1 (.ref l)
  repeat (any_goals (first | assumption | wp_step))
  refine codeAny_mono (code_set_new_1 (.ref l) (E := E) (Q₁ := fun obj s₁ => ∃ led : Bool, obj = .ref s.heap.objs.size ∧ s₁ = { s with heap := s.heap.push { cls := .type "set", dict := none, data := .set #[] 0 (.fresh 0 0 led) } }) fun led => ⟨led, rfl, rfl⟩) fun r s₁ hr => ?_
  cases r with
  | error e => exact hr
  | ok fl =>
    cases fl with
    | ret obj =>
      obtain ⟨led, rfl, rfl⟩ := hr
      have hS : (s.heap.push { cls := .type "set", dict := none, data := .set #[] 0 (.fresh 0 0 led) }).get? s.heap.objs.size = some { cls := .type "set", dict := none, data := .set #[] 0 (.fresh 0 0 led) } := Heap.get?_push_size _ rfl
      have hT : Shared.TypeIs { s with heap := s.heap.push { cls := .type "set", dict := none, data := .set #[] 0 (.fresh 0 0 led) } } (.ref s.heap.objs.size) "set" := ⟨_, hS, rfl⟩
      have hli := PySem.F.called_set.init.lookup
      have hbi := PySem.F.called_set.init.bind (.ref s.heap.objs.size)
      repeat (any_goals (first | assumption | wp_step))
      refine codeAny_mono (codeAny_call_builtin (R := wants (fun r s₂ => r = .none ∧ ∃ h' tk, s₂ = { s with heap := h', toks := tk } ∧
          h'.SetOf (mixKind prog w) s.heap.objs.size (inK (dist ks)) (dist ks).length ∧
          (∀ b o, b < s.heap.objs.size → s.heap.get? b = some o → h'.get? b = some o)) E) PySem.F.called_set.init.plain PySem.F.entry_set_init (check_set_init_1 hT ?_)) fun r₂ s₂ hr₂ => ?_
      · obtain ⟨ol, hol, hcl, nl, hdl⟩ := hl
        obtain ⟨ocls, odict, odata, oslots⟩ := ol
        simp only at hcl hdl
        subst hcl; subst hdl
        have hol' : (s.heap.push { cls := .type "set", dict := none, data := .set #[] 0 (.fresh 0 0 led) }).get? l = some { cls := .type "list", dict := odict, data := .seq items nl, slots := oslots } := Heap.get?_push_of_some _ hol
        have hsls := PySem.F.sub_list_set
        have hslf := PySem.F.sub_list_frozenset
        have hne : (Value.type "list" == Value.type "dict") = false := by decide
        have hl1 : (s.heap.push { cls := .type "set", dict := none, data := .set #[] 0 (.fresh 0 0 led) }).IsList l items := ⟨_, hol', rfl, nl, rfl⟩
        unfold Builtin.«set.__init__» noKeywords Builtin.Frozenset.updateFrom
        generalize hPI : pyIter = PI
        wp_walk
        subst hPI
        refine wpAny_pyIter_list hl1 ?_
        refine wpAny_bind (wpAny_runValue ?_)
        have hlS : l < s.heap.objs.size := Heap.lt_size hol
        have hh3 : A.in1.in1.in1.handled = none := by simp [hh]
        have hneI : l ≠ (s.heap.push { cls := .type "set", dict := none, data := .set #[] 0 (.fresh 0 0 led) }).objs.size := by
          rw [Heap.size_push]; exact Nat.ne_of_lt (Nat.lt_succ_of_lt hlS)
        have hSf : s.heap.objs.size ∉ [(s.heap.push { cls := .type "set", dict := none, data := .set #[] 0 (.fresh 0 0 led) }).objs.size, l] := by
          rw [Heap.size_push]; simp only [List.mem_cons, List.mem_singleton, List.not_mem_nil, or_false, not_or]
          exact ⟨Nat.ne_of_lt (Nat.lt_succ_self _), Nat.ne_of_gt hlS⟩
        have hsz : ks.length = items.size := by have := hi.length; rw [List.length_map, Array.length_toList] at this; exact this
        have hval : ∀ (i : Nat) (v : Value), items[i]? = some v → ∃ k, ks[i]? = some k ∧ RelV (kV k) v := fun i v hv => by
          exact vals_at hi (by rw [Array.getElem?_toList]; exact hv)
        refine set_loopK ((Walks.list hh3 _ l hneI items).toS) s.heap.objs.size
          hSf ks hsz (by rw [← hsz]; exact hn) hval (items.size - 0) 0 _ (by omega) (Nat.zero_le _)
          ⟨⟨_, Heap.get?_push_size _ rfl, rfl, rfl⟩, (hl1.push _)⟩ ?hS0 ?hR
        case hS0 =>
          have hget : ((s.heap.push { cls := .type "set", dict := none, data := .set #[] 0 (.fresh 0 0 led) }).push { cls := .type "list_iterator", data := .fields #[.ref l, .int 0 0] }).get? s.heap.objs.size
              = some { cls := .type "set", dict := none, data := .set #[] 0 (.fresh 0 0 led) } := Heap.get?_push_of_some _ hS
          exact ⟨_, #[], 0, _, hget, ⟨rfl, rfl, rfl⟩, rfl, (fun e he => by simp at he), (fun k => by simp [inK, dist]), (by decide), (by rfl), rfl⟩
        case hR =>
          intro s' hm hS'
          obtain ⟨h', g', d', tk', os'⟩ := s'
          have eg : g' = s.gens := hm.gens
          have ed : d' = s.drawn := hm.drawn
          have eo : os' = s.os := hm.os
          subst eg; subst ed; subst eo
          show wpAny _ _ _ _ _ _
          refine wpAny_pure ?_
          show wpAny _ _ (ret Value.none) _ _ _
          refine wpAny_pure ⟨rfl, h', tk', rfl, hS', fun b o hb e => ?_⟩
          have hb1 : b ≠ s.heap.objs.size := Nat.ne_of_lt hb
          have hb2 : b ≠ (s.heap.push { cls := .type "set", dict := none, data := .set #[] 0 (.fresh 0 0 led) }).objs.size := by
            rw [Heap.size_push]; exact Nat.ne_of_lt (Nat.lt_succ_of_lt hb)
          exact hm.heap b o (by simp only [List.mem_cons, List.mem_singleton, List.not_mem_nil, or_false, not_or]; exact ⟨hb1, hb2⟩) (Heap.get?_push_of_some _ (Heap.get?_push_of_some _ e))
      · cases r₂ with
        | error e => exact hr₂
        | ok fl₂ =>
          cases fl₂ with
          | ret r =>
            obtain ⟨rfl, h', tk, rfl, hS', hk'⟩ := hr₂
            repeat (any_goals (first | assumption | wp_step))
            exact h _ _ hS' hk'
          | _ => exact hr₂.elim
    | _ => exact hr.elim
end
section
variable {X : Cx} {a : Expr} {ta : TE} {p p2 q pos : Pos}
/-- len(set(xs)), xs a list of ints and texts -/
def tLenSetK (K : PySem.W.Frag) (ta : TE) : TE := fun σ H Q => ta σ H fun x H1 => ∃ (l : Addr) (ks : List Key), x = .ref l ∧ SqL K H1 l (ks.map kV) ∧ ks.length ≤ 4000 ∧ Q (.int ((dist ks).length : Nat)) H1
theorem pe_lenSetK (hg : Gl X "len") (hm : X.mg "len" = none) (hg2 : Gl X "set") (hm2 : X.mg "set" = none) (ha : PE X a ta) (hc : X.calm = true := by rfl)
    (na : starEach [a] X.env = (false, eval a X.env) :: starEach [] X.env := by rfl) : PE X (.Call (.Name "len" p) [.Call (.Name "set" p2) [a] [] q] [] pos) (tLenSetK X.K ta) := by
  refine ⟨fun pins s σ H Q I h => ?_⟩
  refine Call_ (ld_blt I hg hm boot_len ?_)
  refine PyProof.Rows.callWith_builtin1 (PyProof.Rows.args_cons ?_ rfl) rfl rfl
  refine Call_ (ld_blt I hg2 hm2 boot_set ?_)
  refine PyProof.Rows.callWith_type1 (PyProof.Rows.args_cons (thn (ha.run pins s σ H _ I h) fun v s1 ⟨x, H1, I1, r1, q1⟩ => PyProof.Rows.args_nil ?_) na) na rfl
  obtain ⟨l, ks, rfl, hq, hl, q1⟩ := q1
  cases r1
  obtain ⟨its, r, pl, hz⟩ := I1.list hq
  have dl := dist_len ks
  refine call_setK (I1.ok.hd hc) pl.isList (by simpa using r) (by unfold scanBound; omega) fun h' tk hS hk => ?_
  refine PyProof.Rows.args_nil ?_
  obtain ⟨o, es, ep, t, ho, hex, hd, _, _, _, hf, hn⟩ := hS
  have I2 : Inv X pins σ H1 { s1 with heap := h', toks := tk } := I1.kept fun b o e => hk b o (Heap.lt_size e) e
  exact call_len_set ho hex hd hf (by rw [hn] <;> omega) ⟨.int ((dist ks).length : Nat), H1, I2.tok _, ⟨_, by rw [hn]⟩, q1⟩
end
end VS
end
section
namespace VS
open PySem L2
def allK (ds : List D) : Bool := ds.all fun d => kindK d == some false
def metD (l : List D) (d : D) : List D := if (l.any fun x => PyData.eqv x d) = true then l else l ++ [d]
def dedD (ds : List D) : List D := ds.foldl metD []
def lsetD : D → Re D
  | .list ds => if allK ds = true ∧ ds.length ≤ 4000 then .ok (.int ((dedD ds).length : Nat)) else .no
  | _ => .no
theorem metD_k (l : List Key) (k : Key) : metD (l.map kD) (kD k) = (met l k).map kD := by
  unfold metD met inK
  have : ((l.map kD).any fun x => PyData.eqv x (kD k)) = l.any fun x => decide (x = k) := by
    rw [List.any_map]
    congr 1
    funext x
    exact eqv_kD x k
  rw [this]
  split
  · rfl
  · rw [List.map_append]
    rfl
theorem dedD_k (ks : List Key) : dedD (ks.map kD) = (dist ks).map kD := by
  have : ∀ (ks l : List Key), (ks.map kD).foldl metD (l.map kD) = (ks.foldl met l).map kD := by
    intro ks
    induction ks with
    | nil => intro l; rfl
    | cons k r ih =>
      intro l
      rw [List.map_cons, List.foldl_cons, List.foldl_cons, metD_k, ih]
  exact this ks []
theorem rpA_keys {K : PySem.W.Frag} {F : Addr → Prop} {H : Hp} : ∀ {vs : List V} {ds : List D}, RpA K F H vs ds → allK ds = true → ∃ ks : List Key, vs = ks.map kV ∧ ds = ks.map kD
  | _, _, .nil, _ => ⟨[], rfl, rfl⟩
  | _, _, .cons h t, e => by
    unfold allK at e
    rw [List.all_cons, Bool.and_eq_true] at e
    obtain ⟨k, rfl, rfl⟩ := key_K h (eq_of_beq e.1)
    obtain ⟨ks, rfl, rfl⟩ := rpA_keys t e.2
    exact ⟨k :: ks, rfl, rfl⟩
section
variable {X : Cx} {W : XW} {a : Expr} {fa : Dl → Re D} {p p2 q pos : Pos}
theorem ve_lenSet (hg : Gl X "len") (hm : X.mg "len" = none) (hg2 : Gl X "set") (hm2 : X.mg "set" = none) (ha : VB X W a fa) (hc : X.calm = true := by rfl)
    (na : starEach [a] X.env = (false, eval a X.env) :: starEach [] X.env := by rfl) : VE X W (.Call (.Name "len" p) [.Call (.Name "set" p2) [a] [] q] [] pos) (d1 lsetD fa) := PE.imp (pe_lenSetK hg hm hg2 hm2 ha hc na) fun σ H Q ⟨F, δ, s, h⟩ =>
  ⟨F, δ, s, Go.bnd pS_mon h fun d x F1 H1 e1 g1 px h1 => by
    unfold lsetD at h1
    split at h1
    · split at h1
      · rename_i hc
        obtain ⟨l, xs, rfl, hl, t⟩ := px
        obtain ⟨ks, rfl, rfl⟩ := rpA_keys t hc.1
        rw [dedD_k, List.length_map] at h1
        exact ⟨l, ks, rfl, .inl hl, by have := hc.2; rw [List.length_map] at this; exact this, h1.val (.int _)⟩
      · exact h1.elim
    · exact h1.elim⟩
end
end VS
end
section
namespace VS
open PySem PySem.Spec PyProof.Rows L2
theorem kv_zip : ∀ {ks : List Key} {ys : List V} {us : List Value}, Vals ys us → KV (ks.zip ys) (ks.zip us)
  | [], ys, us, r => by simp; exact .nil
  | k :: ks, [], us, r => by
    cases r
    simp
    exact .nil
  | k :: ks, y :: ys, _, r => by
    cases r with
    | cons h t =>
      rw [List.zip_cons_cons, List.zip_cons_cons]
      exact .cons ⟨rfl, h⟩ (kv_zip t)
section
variable {X : Cx} {e e2 : Expr} {ta : TA} {p p2 q pos : Pos}
/-- dict(zip(xs, ys)), lists; xs ints and texts -/
def tDZip (K : PySem.W.Frag) (ta : TA) : TE := fun σ H Q => ta σ H fun vs H1 => ∃ (a b : Addr) (ks : List Key) (ys : List V), vs = [.ref a, .ref b] ∧ SqL K H1 a (ks.map kV) ∧ SqL K H1 b ys ∧ ∀ d, H1 d = none → Q (.ref d) (upd H1 d (.dK (L2.mergeK [] (ks.zip ys))))
theorem pe_dictZip (hgd : Gl X "dict") (hmd : X.mg "dict" = none) (hg : Gl X "zip") (hm : X.mg "zip" = none) (ha : PA X [e, e2] ta) (hc : X.calm = true := by rfl)
    (hs : starEach [e, e2] X.env = (false, eval e X.env) :: starEach [e2] X.env := by rfl) (hpl : (backTo q (starEach [e2] X.env)).any (·.1) = false := by rfl)
    (na : starEach [.Call (.Name "zip" p2) [e, e2] [] q] X.env = (false, eval (.Call (.Name "zip" p2) [e, e2] [] q) X.env) :: starEach [] X.env := by rfl) :
    PE X (.Call (.Name "dict" p) [.Call (.Name "zip" p2) [e, e2] [] q] [] pos) (tDZip X.K ta) := by
  refine ⟨fun pins s σ H Q I h => ?_⟩
  refine Call_ (ld_blt I hgd hmd PyProof.Rows.boot_dict ?_)
  refine PyProof.Rows.callWith_type1 (PyProof.Rows.args_cons ?_ na) na rfl
  refine Call_ (ld_blt I hg hm PyProof.Rows.boot_zip ?_)
  refine PyProof.Rows.callWith_type1 (thn (ha.run q pins s σ H _ I h) fun us s1 ⟨vs, H1, I1, r1, q1⟩ => ?_) hs hpl
  obtain ⟨a, b, ks, ys, ex, hqx, hqy, q1⟩ := q1
  subst ex
  cases r1 with
  | cons r rr =>
    cases rr with
    | cons r' rr =>
      cases rr
      cases r
      cases r'
      obtain ⟨its, rv, p1, z1⟩ := I1.list hqx
      obtain ⟨its2, rv2, p2', z2⟩ := I1.list hqy
      refine call_zip_2 p1.isList p2'.isList fun h' hz hTI hTO h1 h2 hsz hk => ?_
      refine PyProof.Rows.args_nil ?_
      have l1 : ks.length = its.length := by have := rv.length; rw [List.length_map] at this; exact this
      have l2 : ys.length = its2.length := rv2.length
      rw [List.length_map] at z1
      have hmin : (ks.zip its2).length = min its.toArray.size its2.toArray.size := by rw [List.length_zip, List.size_toArray, List.size_toArray, l1]
      refine PySem.call_dict_pairs (knd := mixKind X.prog X.w) (kvs := ks.zip its2) (s := { s1 with heap := h' })
        (PairArg.zip _ _ _ _ _ a b (PySem.W.ktu_apart s1.heap.objs.size a b p1.lt p2'.lt) its.toArray its2.toArray) (I1.ok.hd hc)
        ⟨hz, hTI, ⟨_, _, hTO⟩, h1, h2, p1.isList.at fun o e => hk _ o e, p2'.isList.at fun o e => hk _ o e⟩ ⟨hmin, fun i key v hr => ?_⟩ (by rw [← hmin, List.length_zip]; omega) fun h'' tk hd hk2 => ?_
      · obtain ⟨e1, e3⟩ := hr
        have e1' : its[i]? = some key := by simpa using e1
        have e3' : its2[i]? = some v := by simpa using e3
        obtain ⟨k, hkk, rk⟩ := vals_at rv e1'
        refine ⟨k, ?_, kV_is rk⟩
        rw [List.getElem?_zip_eq_some]
        exact ⟨hkk, e3'⟩
      · have hd' : h''.DictOf (mixKind X.prog X.w) h'.objs.size (merged [] (ks.zip its2)) := hd
        have hle : s1.heap.objs.size ≤ h'.objs.size := by rw [hsz]; omega
        have keep : ∀ c o, s1.heap.get? c = some o → h''.get? c = some o := fun c o e => by
          have hlt := Heap.lt_size e
          refine hk2 c o (fun hm' => ?_) (hk c o e)
          simp only [List.mem_cons, List.not_mem_nil, or_false] at hm'
          rcases hm' with z | z | z | z
          · rw [z] at hlt; exact absurd hlt (Nat.not_lt.mpr (Nat.le_add_right _ _))
          · rw [z] at hlt; exact absurd hlt (Nat.not_lt.mpr (Nat.le_add_right _ _))
          · rw [z] at hlt; exact absurd hlt (Nat.lt_irrefl _)
          · rw [z] at hlt; exact absurd hlt (Nat.not_lt.mpr (Nat.le_add_right _ _))
        have hlen : (L2.mergeK [] (ks.zip ys)).length ≤ sizeLine := by
          refine Nat.le_trans (length_mergeK _ []) ?_
          rw [List.length_nil, List.length_zip]
          omega
        have hm' : (h'.objs.size == sysModules) = false := beq_eq_false_iff_ne.mpr (Nat.ne_of_gt (Nat.lt_of_lt_of_le I1.big hle))
        exact ⟨.ref h'.objs.size, upd H1 h'.objs.size (.dK (L2.mergeK [] (ks.zip ys))), I1.laid (t' := tk) keep hle (show ObjOk X.prog X.w _ _ _ (.dK (L2.mergeK [] (ks.zip ys))) from ⟨hlen, hm', merged [] (ks.zip its2), KV.merge (kv_zip rv2) .nil, hd'⟩), rfl, q1 _ (I1.hok.fresh hle)⟩
end
end VS
namespace VS
open PySem L2
def dzipD : List D → Re D
  | [.list xs, .list ys] => if allK xs = true then .ok (.dict (mergeD [] (xs.zip ys))) else .no
  | _ => .no
theorem rpK_zip {K : PySem.W.Frag} {F : Addr → Prop} {H : Hp} : ∀ {ks : List Key} {ys : List V} {ds : List D}, RpA K F H ys ds → RpK K F H ((ks.zip ys).map fun p => (kD p.1, p.2)) ((ks.map kD).zip ds)
  | [], _, _, r => by simp; exact .nil
  | k :: ks, _, _, .nil => by simp; exact .nil
  | k :: ks, _, _, .cons h t => by
    rw [List.zip_cons_cons, List.map_cons, List.map_cons, List.zip_cons_cons]
    exact .cons h (rpK_zip t)
section
variable {X : Cx} {W : XW} {P : PP} {e e2 : Expr} {fs : Dl → Re (List D)} {p p2 q pos : Pos}
theorem vp_dictZip (hP : PNew X.K P) (hgd : Gl X "dict") (hmd : X.mg "dict" = none) (hg : Gl X "zip") (hm : X.mg "zip" = none) (ha : VA X W RpB [e, e2] fs) (hc : X.calm = true := by rfl)
    (hs : starEach [e, e2] X.env = (false, eval e X.env) :: starEach [e2] X.env := by rfl) (hpl : (backTo q (starEach [e2] X.env)).any (·.1) = false := by rfl)
    (na : starEach [.Call (.Name "zip" p2) [e, e2] [] q] X.env = (false, eval (.Call (.Name "zip" p2) [e, e2] [] q) X.env) :: starEach [] X.env := by rfl) :
    VP X W P (.Call (.Name "dict" p) [.Call (.Name "zip" p2) [e, e2] [] q] [] pos) (dA fs dzipD) := PE.imp (pe_dictZip hgd hmd hg hm ha hc hs hpl na) fun σ H Q ⟨F, δ, s, h⟩ =>
  ⟨F, δ, s, GoA.bnd (X := X) hP.toPMon h fun ds vs F1 H1 ee g r h1 => by
    unfold dzipD at h1
    split at h1
    · split at h1
      · rename_i xs ys hk
        cases r with
        | cons r rr =>
          cases rr with
          | cons r' rr =>
            cases rr
            obtain ⟨a, us, rfl, ha1, t⟩ := r
            obtain ⟨b, ws, rfl, ha2, t2⟩ := r'
            obtain ⟨ks, rfl, rfl⟩ := rpA_keys t hk
            refine ⟨a, b, ks, ws, rfl, .inl ha1, .inl ha2, fun d hn => ?_⟩
            obtain ⟨F', g', pp⟩ := hP.dK (g.dom s.dom) hn (rp_merge (m := []) (ds := []) .nil (rpK_zip (ks := ks) t2))
            exact h1 _ F' _ g' pp
      · exact h1.elim
    · exact h1.elim⟩
end
end VS
end
section
namespace VS
open PySem L2
/-! ### objects, read -/
theorem lk_S {K : PySem.W.Frag} {F : Addr → Prop} {H : Hp} (f : Str) : ∀ {fs : List (Str × V)} {ds : List (D × D)}, RpK K F H (fs.map fun p => (PyData.str p.1, p.2)) ds → OptR K F H (fs.lookup f) (lkD ds (.str f))
  | [], ds, r => by
    cases r
    trivial
  | (g, v) :: fs, ds, r => by
    cases r with
    | cons h t =>
      unfold lkD
      rw [List.find?_cons, List.lookup_cons]
      have e : PyData.eqv (.str g) (.str f) = (f == g) := by
        rw [Bool.eq_iff_iff]
        simp only [PyData.eqv, beq_iff_eq]
        exact ⟨fun e => e.symm, fun e => e.symm⟩
      dsimp only
      rw [e]
      cases f == g with
      | true => exact h
      | false => exact lk_S f t
/-- what stands for an object of a class -/
theorem ob_in {K : PySem.W.Frag} {F : Addr → Prop} {H : Hp} {x : V} {c n : Int} {ds : List (D × D)} (r : RpB K F H x (.dict ((.none, .int c) :: (.none, .int n) :: ds))) :
    ∃ (a C dx : Addr) (fs : List (Str × V)), x = .ref a ∧ H a = some (.ins C dx fs) ∧ c = (C : Nat) ∧ RpK K F H (fs.map fun p => (PyData.str p.1, p.2)) ds := by
  obtain ⟨a, kvs, rfl, hd, t⟩ := r
  rcases hd with ⟨m, _, rfl⟩ | ⟨m, _, rfl⟩ | ⟨C, dx, fs, _, h, rfl⟩
  · cases m with
    | nil => cases t
    | cons p m =>
      exfalso
      have := rpK_keys t
      rw [List.map_cons, List.map_cons, List.map_cons] at this
      have h0 := (List.cons.inj this).1
      obtain ⟨k, v⟩ := p
      cases k <;> cases h0
  · cases m with
    | nil => cases t
    | cons p m =>
      exfalso
      have := rpK_keys t
      rw [List.map_cons, List.map_cons, List.map_cons] at this
      cases (List.cons.inj this).1
  · cases t with
    | cons h0 t0 =>
      cases h0
      cases t0 with
      | cons h1 t0 =>
      cases h1
      exact ⟨a, C, dx, fs, rfl, h, rfl, t0⟩
/-- o.f -/
def fldD (c : Int) (f : Str) : D → Re D
  | .dict ((.none, .int c') :: (.none, .int _) :: ds) => if c' = c then ofO (lkD ds (.str f)) else .no
  | _ => .no
section
variable {X : Cx} {W : XW} {P : PP} {e : Expr} {fa : Dl → Re D} {pos : Pos} {C : Addr} {f : Str}
theorem ve_fld (c : Cls X.K C) (n : NoAttr X.K C f) (he : VB X W e fa) (hb : attributeBase e f X.env (eval e X.env) = eval e X.env := by rfl) : VE X W (.Attribute e f pos) (d1 (fldD (C : Nat) f) fa) := PE.imp (pe_fld he hb) fun σ H Q ⟨F, δ, s, h⟩ =>
  ⟨F, δ, s, Go.bnd pS_mon h fun d x F1 H1 e1 g1 px h1 => by
    unfold fldD at h1
    split at h1
    · rename_i c' _ ds
      split at h1
      · rename_i hc
        obtain ⟨a, C', dx, fs, rfl, hH, hC, t⟩ := ob_in px
        have eC : C' = C := by
          rw [hC] at hc
          exact Int.ofNat_inj.mp hc
        subst eC
        have o := lk_S f t
        cases el : lkD ds (.str f) with
        | none => rw [el] at h1; exact h1.elim
        | some d =>
          rw [el] at h1 o
          cases ef : fs.lookup f with
          | none => rw [ef] at o; exact o.elim
          | some v =>
            rw [ef] at o
            exact ⟨a, C', dx, fs, v, rfl, hH, c, n, ef, h1.val o⟩
      · exact h1.elim
    · exact h1.elim⟩
end
/-! ### o.m(..) -/
def isC (c : Int) (m : Str) : D → Bool
  | .dict ((.none, .int c') :: (.none, .int _) :: ds) => decide (c' = c) && (lkD ds (.str m)).isNone
  | _ => false
theorem isC_in {K : PySem.W.Frag} {F : Addr → Prop} {H : Hp} {x : V} {d : D} {C : Addr} {m : Str} (h : isC (C : Nat) m d = true) (r : Rp K F H x d) : ∃ a dx fs, x = .ref a ∧ H a = some (.ins C dx fs) ∧ fs.lookup m = none := by
  unfold isC at h
  split at h
  · rename_i c' _ ds
    rw [Bool.and_eq_true, decide_eq_true_eq] at h
    obtain ⟨a, C', dx, fs, rfl, hH, hC, t⟩ := ob_in (Rp.b r)
    have eC : C' = C := by
      have := h.1
      rw [hC] at this
      exact Int.ofNat_inj.mp this
    subst eC
    have o := lk_S m t
    refine ⟨a, dx, fs, rfl, hH, ?_⟩
    cases ef : fs.lookup m with
    | none => rfl
    | some v =>
      cases el : lkD ds (.str m) with
      | none => rw [ef, el] at o; exact o.elim
      | some d => rw [el] at h; exact absurd h.2 (fun z => nomatch z)
  · cases h
structure MtE (P : Program) (w : World) (K : PySem.W.Frag) (mg : Str → Option Value) (base : Heap) (k : Nat) (C : Addr) (m : Str) (n : Nat) (g : List Sl → Re D) : Prop where
  ex : ∃ f fd ps, FnOk P w K mg base (L2.CX P w) k f fd ps (SpG K mg n g) ∧ Meth K C m f ∧ Binds K fd ps []
def dMth (c : Int) (m : Str) (fo : Dl → Re D) (fs : Dl → Re (List D)) (g : List Sl → Re D) (δ : Dl) : Re D := (fo δ).bnd fun o => if isC c m o = true then (fs δ).bnd fun ds => g ((o :: ds).map .sh) else .no
section
variable {X : Cx} {W : XW} {e o : Expr} {es : List Expr} {fo : Dl → Re D} {fl : List (Dl → Re D)} {g : List Sl → Re D} {pos apos : Pos} {C : Addr} {m : Str} {k : Nat}
theorem ve_meth {pl : Sem Bool} (c : Cls X.K C) (FN : MtE X.prog X.w X.K X.mg X.base k C m (fl.length + 1) g) (hr : Room k X.A) (tk : XOk X W) (ho : VE X W o fo) (ha : VA X W Rp (e :: es) (argsF fl))
    (hst : starEach (e :: es) X.env = (false, eval e X.env) :: starEach es X.env := by rfl) (hpl : (backTo pos (starEach es X.env)).any (·.1) = false := by rfl)
    (ht : eval (.Call (.Attribute o m apos) (e :: es) [] pos) X.env = (do
      let ov ← eval o X.env
      standAt apos.atName
      let (f, first) ← holding [ov] (getMethod ov m pl)
      callWith pos f first (backTo pos (starEach (e :: es) X.env)) (backToKw pos (keywordEach [] X.env))) := by rfl) :
    VE X W (.Call (.Attribute o m apos) (e :: es) [] pos) (dMth (C : Nat) m fo (argsF fl) g) := by
  obtain ⟨f, fd, ps, F, hm, hb⟩ := FN.ex
  refine PE.imp (pe_meth ho c hm F hr hb .nil (passesW tk) ha hst hpl ht) fun σ H Q ⟨F1, δ, s, h⟩ => ⟨F1, δ, s, Go.bnd pS_mon h fun d x F2 H2 e2 g2 px h1 => ?_⟩
  split at h1
  · rename_i hc
    obtain ⟨a, dx, fs, rfl, hH, hl⟩ := isC_in hc px
    refine ⟨a, dx, fs, rfl, hH, hl, F2, δ, s.grow g2, GoA.bnd (X := X) pS_mon h1 fun ds vs F3 H3 eq g3 r h2 => ?_⟩
    rw [List.append_nil]
    exact ⟨by rw [List.length_cons, r.a.length, argsF_len eq], F3, _, g3.dom (g2.dom s.dom), .sh (g3.rp px) (ArgsR.of r.a), Go.ewi h2⟩
  · exact h1.elim
end
end VS
end
section
namespace VS
open PySem PySem.Spec PyProof.Rows L2
/-! ### objects, made -/
/-- an attribute's new value -/
def putB (f : Str) (x : Bool × D) : List (Str × Bool × D) → List (Str × Bool × D)
  | [] => [(f, x)]
  | (g, y) :: r => if g = f then (g, x) :: r else (g, y) :: putB f x r
section
variable {K : PySem.W.Frag} {F F' : Addr → Prop} {H H' H0 : Hp}
theorem fldsR_len : ∀ {fv : List (Str × V)} {fs : List (Str × Bool × D)} {A : List Addr}, FldsR K F H H0 fv fs A → fv.length = fs.length
  | _, _, _, .nil => rfl
  | _, _, _, .sh _ t => congrArg (· + 1) (fldsR_len t)
  | _, _, _, .ow _ _ _ _ t => congrArg (· + 1) (fldsR_len t)
theorem fldsR_putS {f : Str} {v : V} {d : D} (r : Rp K F H v d) : ∀ {fv : List (Str × V)} {fs : List (Str × Bool × D)} {A : List Addr}, FldsR K F H H0 fv fs A → ∃ A', FldsR K F H H0 (putF f v fv) (putB f (false, d) fs) A' ∧ ∀ b ∈ A', b ∈ A
  | _, _, _, .nil => ⟨[], .sh r .nil, fun _ h => h⟩
  | _, _, _, .sh (f := g) r0 t => by
    unfold putF putB
    split
    · exact ⟨_, .sh r t, fun _ h => h⟩
    · obtain ⟨A', t', s⟩ := fldsR_putS r t
      exact ⟨A', .sh r0 t', s⟩
  | _, _, _, .ow (f := g) o nf n0 na t => by
    unfold putF putB
    split
    · exact ⟨_, .sh r t, fun _ h => List.mem_cons_of_mem _ h⟩
    · obtain ⟨A', t', s⟩ := fldsR_putS r t
      exact ⟨_, .ow o nf n0 (fun z => na (s _ z)) t', fun b h => (List.mem_cons.mp h).elim (fun e => e ▸ List.mem_cons_self) fun h => List.mem_cons_of_mem _ (s b h)⟩
theorem fldsR_putO {f : Str} {x : Addr} {d : D} (o : RpO K F H x d) (nx : ¬ F x) (x0 : H0 x = none) : ∀ {fv : List (Str × V)} {fs : List (Str × Bool × D)} {A : List Addr}, FldsR K F H H0 fv fs A → x ∉ A → ∃ A', FldsR K F H H0 (putF f (.ref x) fv) (putB f (true, d) fs) A' ∧ ∀ b ∈ A', b = x ∨ b ∈ A
  | _, _, _, .nil, _ => ⟨[x], .ow o nx x0 (fun z => nomatch z) .nil, fun b h => .inl (by simpa using h)⟩
  | _, _, _, .sh (f := g) r0 t, na => by
    unfold putF putB
    split
    · exact ⟨_, .ow o nx x0 na t, fun b h => (List.mem_cons.mp h).imp id id⟩
    · obtain ⟨A', t', s⟩ := fldsR_putO o nx x0 t na
      exact ⟨A', .sh r0 t', s⟩
  | _, _, _, .ow (f := g) (b := y) (A := A0) o' nf n0 ny t, na => by
    have na' : x ∉ A0 := fun z => na (List.mem_cons_of_mem _ z)
    unfold putF putB
    split
    · exact ⟨_, .ow o nx x0 na' t, fun b h => (List.mem_cons.mp h).imp id fun h => List.mem_cons_of_mem _ h⟩
    · obtain ⟨A', t', s⟩ := fldsR_putO o nx x0 t na'
      refine ⟨_, .ow o' nf n0 (fun z => (s _ z).elim (fun e => na (e ▸ List.mem_cons_self)) ny) t', fun b h => ?_⟩
      rcases List.mem_cons.mp h with e | h
      · exact .inr (e ▸ List.mem_cons_self)
      · exact (s b h).imp id fun h => List.mem_cons_of_mem _ h
/-- an own attribute is found -/
theorem fldsR_at {f : Str} {d : D} : ∀ {fv : List (Str × V)} {fs : List (Str × Bool × D)} {A : List Addr}, FldsR K F H H0 fv fs A → fs.lookup f = some (true, d) → ∃ b, fv.lookup f = some (.ref b) ∧ RpO K F H b d ∧ b ∈ A
  | _, _, _, .nil, h => nomatch h
  | _, _, _, .sh (f := g) r t, h => by
    rw [List.lookup_cons] at h ⊢
    cases e : f == g with
    | true => rw [e] at h; cases h
    | false =>
      rw [e] at h
      exact fldsR_at t h
  | _, _, _, .ow (f := g) (b := b) o nf n0 na t, h => by
    rw [List.lookup_cons] at h ⊢
    cases e : f == g with
    | true =>
      rw [e] at h
      cases h
      exact ⟨b, rfl, o, List.mem_cons_self⟩
    | false =>
      rw [e] at h
      obtain ⟨b', h1, h2, h3⟩ := fldsR_at t h
      exact ⟨b', h1, h2, List.mem_cons_of_mem _ h3⟩
/-- an own attribute's object is written -/
theorem fldsR_wr {f : Str} {d d' : D} {x : Addr} {o' : HO} (hx : RpO K F (upd H x o') x d') : ∀ {fv : List (Str × V)} {fs : List (Str × Bool × D)} {A : List Addr}, Kept F H (upd H x o') → FldsR K F H H0 fv fs A → fs.lookup f = some (true, d) → fv.lookup f = some (.ref x) →
    FldsR K F (upd H x o') H0 fv (putB f (true, d') fs) A
  | _, _, _, _, .nil, h, _ => nomatch h
  | _, _, _, k, .sh (f := g) r t, h, h2 => by
    rw [List.lookup_cons] at h h2
    unfold putB
    cases e : f == g with
    | true => rw [e] at h; cases h
    | false =>
      rw [e] at h h2
      have ne : ¬ g = f := fun z => by rw [z] at e; simp at e
      rw [if_neg ne]
      exact .sh (r.mono (fun _ z => z) k) (fldsR_wr hx k t h h2)
  | _, _, _, k, .ow (f := g) (b := b) (A := A0) o nf n0 na t, h, h2 => by
    rw [List.lookup_cons] at h h2
    unfold putB
    cases e : f == g with
    | true =>
      rw [e] at h h2
      cases h
      cases h2
      have eg : g = f := (eq_of_beq e).symm
      rw [if_pos eg]
      exact .ow hx nf n0 na (t.kept (fun _ z => z) k (fun b hb => by obtain ⟨_, _, _, nf', _⟩ := t.there b hb; exact nf') fun b hb => upd_ne fun z => na (z ▸ hb))
    | false =>
      rw [e] at h h2
      have ne : ¬ g = f := fun z => by rw [z] at e; simp at e
      rw [if_neg ne]
      have hin : x ∈ A0 := by
        obtain ⟨b', h1, _, h3⟩ := fldsR_at t h
        have h4 := h1.symm.trans h2
        cases h4
        exact h3
      have nb : b ≠ x := fun z => na (z ▸ hin)
      exact .ow (o.kept (fun _ z => z) k (upd_ne nb)) nf n0 na (fldsR_wr hx k t h h2)
/-- all is frozen -/
theorem fldsR_frz : ∀ {fv : List (Str × V)} {fs : List (Str × Bool × D)} {A : List Addr}, FldsR K F H H0 fv fs A → ∃ F', (∀ b, F' b → F b ∨ b ∈ A) ∧ (∀ b, F b → F' b) ∧ RpK K F' H (fv.map fun p => (PyData.str p.1, p.2)) (fs.map fun p => (PyData.str p.1, p.2.2))
  | _, _, _, .nil => ⟨F, fun _ h => .inl h, fun _ h => h, .nil⟩
  | _, _, _, .sh r t => by
    obtain ⟨F', h1, h2, k⟩ := fldsR_frz t
    exact ⟨F', h1, h2, .cons (r.mono h2 Kept.refl) k⟩
  | _, _, _, .ow (b := b) o nf n0 na t => by
    obtain ⟨F', h1, h2, k⟩ := fldsR_frz t
    have ob : RpO K F' H b _ := o.kept h2 Kept.refl rfl
    refine ⟨plus F' b, fun c hc => ?_, fun c hc => .inl (h2 c hc), .cons ob.froz (k.mono (fun _ z => .inl z) Kept.refl)⟩
    rcases hc with hc | hc
    · exact (h1 c hc).imp id fun z => List.mem_cons_of_mem _ z
    · exact .inr (hc ▸ List.mem_cons_self)
/-- the object's slot is written: at one of its own addresses -/
theorem sok_obw {F0 : Addr → Prop} {σ : L2.St} {δ : Dl} {i : Nat} {c n : Int} {fs fs' : List (Str × Bool × D)} {x : Addr} {o' : HO} {v : V} {A A' : List Addr} (s : Sok K F0 H0 F H σ δ) (ei : δ[i]? = some (.ob c n fs)) (ev : σ[i]? = some (some v)) (rA : ObR K F H H0 v c n fs A)
    (nb : ∀ (j : Nat) (d : D) (b : Addr), δ[j]? = some (Sl.ow d) → σ[j]? = some (some (.ref b)) → b ∉ A) (hx : x ∈ A) (hd : ObR K F (upd H x o') H0 v c n fs' A')
    (nb' : ∀ (j : Nat) (d : D) (b : Addr), δ[j]? = some (Sl.ow d) → σ[j]? = some (some (.ref b)) → b ∉ A') : Stay F H F (upd H x o') ∧ Sok K F0 H0 F (upd H x o') σ (δ.set i (.ob c n fs')) := by
  obtain ⟨u, hu, mu, nf, n0⟩ := rA.there x hx
  have kk : Kept F H (upd H x o') := kept_upd nf hu mu
  refine ⟨⟨fun _ x => x, kk⟩, ⟨by rw [List.length_set]; exact s.len, ⟨s.g.sub, s.g.new, fun b y e => ?_, fun dm b fb => ?_⟩, s.d0, fun b fb => ?_, fun j e h => ?_, fun j e h => ?_, fun j e h => ?_, fun j k e1 e2 b h1 h2 h3 h4 => ?_, fun j c2 n2 fs2 h => ?_, fun j k c2 n2 c3 n3 fs2 fs3 h1 h2 => ?_⟩⟩
  · rw [upd_ne (ne_of_none e n0)]; exact s.g.same b y e
  · by_cases e : b = x
    · subst e; exact upd_some
    · rw [upd_ne e]; exact s.dom b fb
  · by_cases e : b = x
    · subst e; exact upd_some
    · rw [upd_ne e]; exact s.dom b fb
  · by_cases m : i = j
    · subst m; obtain ⟨q, _⟩ := get_set_eq h; cases q
    · obtain ⟨w, ew, r⟩ := s.sh j e (get_set_ne h m)
      exact ⟨w, ew, r.mono (fun _ x => x) kk⟩
  · by_cases m : i = j
    · subst m; obtain ⟨q, _⟩ := get_set_eq h; cases q
    · obtain ⟨b, eb, ob, nb1, nb0⟩ := s.ow j e (get_set_ne h m)
      have ne : b ≠ x := fun z => nb j e b (get_set_ne h m) eb (z ▸ hx)
      exact ⟨b, eb, ob.kept (fun _ x => x) kk (upd_ne ne), nb1, nb0⟩
  · by_cases m : i = j
    · subst m; obtain ⟨q, _⟩ := get_set_eq h; cases q
    · obtain ⟨b, eb, r⟩ := s.br j e (get_set_ne h m)
      refine ⟨b, eb, r.keep fun c x' ec nm => ?_⟩
      have ne : c ≠ x := fun z => by
        subst z
        rw [hu] at ec; cases ec
        exact nm mu
      rw [upd_ne ne]; exact ec
  · by_cases m : i = j
    · subst m; obtain ⟨q, _⟩ := get_set_eq h1; cases q
    · by_cases m2 : i = k
      · subst m2; obtain ⟨q, _⟩ := get_set_eq h2; cases q
      · exact s.ne j k e1 e2 b (get_set_ne h1 m) (get_set_ne h2 m2) h3 h4
  · by_cases m : i = j
    · subst m
      obtain ⟨q, _⟩ := get_set_eq h
      cases q
      refine ⟨v, A', ev, hd, fun k d b h1 h2 => ?_⟩
      by_cases m2 : i = k
      · subst m2; obtain ⟨q, _⟩ := get_set_eq h1; cases q
      · exact nb' k d b (get_set_ne h1 m2) h2
    · exact (m (s.ob1 i j _ _ _ _ _ _ ei (get_set_ne h m))).elim
  · by_cases m : i = j
    · by_cases m2 : i = k
      · exact m.symm.trans m2
      · exact (m2 (s.ob1 i k _ _ _ _ _ _ ei (get_set_ne h2 m2))).elim
    · exact (m (s.ob1 i j _ _ _ _ _ _ ei (get_set_ne h1 m))).elim
end
/-- self.f = e -/
def fstS (i : Nat) (c : Int) (f : Str) (fe : Dl → Re D) (δ : Dl) : RS := match δ[i]? with
  | some (.ob c' n fs) => if c' = c ∧ fs.length < 1000 then toS (fe δ) fun d => .nx (δ.set i (.ob c' n (putB f (false, d) fs))) else .no
  | _ => .no
/-- self.f = e, a new list or dict that stays the object's own -/
def fstO (i : Nat) (c : Int) (f : Str) (fe : Dl → Re D) (δ : Dl) : RS := match δ[i]? with
  | some (.ob c' n fs) => if c' = c ∧ fs.length < 1000 then toS (fe δ) fun d => .nx (δ.set i (.ob c' n (putB f (true, d) fs))) else .no
  | _ => .no
section
variable {X : Cx} {W : XW} {e e2 : Expr} {fe fk : Dl → Re D} {pos pos' py : Pos} {C : Addr} {f y : Str} {i : Nat}
theorem vs_fld (hc : Cls X.K C) (hn : NoAttr X.K C f) (hy : PE X (.Name y py) (tVar i)) (he : VE X W e fe) (hs : swapsWith e (some (.Attribute (.Name y py) f pos')) pos.line X.env = pure false := by rfl) :
    VSt X W (.Assign [.Attribute (.Name y py) f pos'] e pos) (fstS i (C : Nat) f fe) :=
  PS.imp (ps_fld hy he hs) fun D σ H ⟨F0, H0, F, δ, s, q⟩ => by
    unfold fstS at q
    split at q
    · rename_i c' n fs ei
      split at q
      · rename_i hq
        obtain ⟨v0, A0, ea, ⟨a, C', dx, fv, A1, rfl, hH, eC, en, nfa, n0, t, na, rfl⟩, nb⟩ := s.ob i _ _ _ ei
        have eC' : C' = C := by
          have := hq.1
          rw [eC] at this
          exact Int.ofNat_inj.mp this
        subst eC'
        subst eC en
        refine ⟨F, δ, s.e, SO.go (P := pS X.K) s q fun d v F1 H1 e1 g1 r h1 => ?_⟩
        have ha := g1.same _ _ hH
        refine ⟨_, ea, a, C', dx, fv, rfl, ha, hc, hn, by rw [fldsR_len t]; exact hq.2, ?_⟩
        have r0 : ObR X.K F H H0 (.ref a) (C' : Nat) (a : Nat) fs (a :: A1) := ⟨a, C', dx, fv, A1, rfl, hH, rfl, rfl, nfa, n0, t, na, rfl⟩
        have r1 := r0.grown g1
        have nf1 : ¬ F1 a := g1.notF nfa (by rw [hH]; exact fun z => nomatch z)
        have kk : Kept F1 H1 (upd H1 a (.ins C' dx (putF f v fv))) := kept_upd nf1 ha trivial
        obtain ⟨a', _, _, _, A2, ev2, hH2, _, _, _, _, t1, na1, eA⟩ := r1
        cases ev2
        rw [ha] at hH2
        cases hH2
        cases eA
        obtain ⟨A', t2, sub⟩ := fldsR_putS (f := f) r t1
        have t3 := t2.kept (F' := F1) (H' := upd H1 a (.ins C' dx (putF f v fv))) (fun _ z => z) kk (fun b hb => by obtain ⟨_, _, _, nf', _⟩ := t1.there b (sub b hb); exact nf') fun b hb => upd_ne fun z => na1 (z ▸ sub b hb)
        obtain ⟨st, s2⟩ := sok_obw (s.grow g1) (o' := .ins C' dx (putF f v fv)) (fs' := putB f (false, d) fs) (A' := a :: A') ei ea (r0.grown g1) nb List.mem_cons_self
          ⟨a, C', dx, putF f v fv, A', rfl, upd_same, rfl, rfl, nf1, n0, t3, fun z => na1 (sub a z), rfl⟩ fun j d' b h1 h2 h3 => (List.mem_cons.mp h3).elim (fun z => nb j d' b h1 h2 (z ▸ List.mem_cons_self)) fun z => nb j d' b h1 h2 (List.mem_cons_of_mem _ (sub b z))
        exact h1 _ _ _ st s2
      · exact q.elim
    · exact q.elim
theorem vs_fldO (hc : Cls X.K C) (hn : NoAttr X.K C f) (hy : PE X (.Name y py) (tVar i)) (he : VF X W e fe) (hs : swapsWith e (some (.Attribute (.Name y py) f pos')) pos.line X.env = pure false := by rfl) :
    VSt X W (.Assign [.Attribute (.Name y py) f pos'] e pos) (fstO i (C : Nat) f fe) :=
  PS.imp (ps_fld hy he hs) fun D σ H ⟨F0, H0, F, δ, s, q⟩ => by
    unfold fstO at q
    split at q
    · rename_i c' n fs ei
      split at q
      · rename_i hq
        obtain ⟨v0, A0, ea, ⟨a, C', dx, fv, A1, rfl, hH, eC, en, nfa, n0, t, na, rfl⟩, nb⟩ := s.ob i _ _ _ ei
        have eC' : C' = C := by
          have := hq.1
          rw [eC] at this
          exact Int.ofNat_inj.mp this
        subst eC'
        subst eC en
        refine ⟨F, δ, s.e, SO.go (P := pF X.K) s q fun d v F1 H1 e1 g1 r h1 => ?_⟩
        obtain ⟨x, rfl, hxn, nfx, ox⟩ := r
        have ha := g1.same _ _ hH
        refine ⟨_, ea, a, C', dx, fv, rfl, ha, hc, hn, by rw [fldsR_len t]; exact hq.2, ?_⟩
        have r0 : ObR X.K F H H0 (.ref a) (C' : Nat) (a : Nat) fs (a :: A1) := ⟨a, C', dx, fv, A1, rfl, hH, rfl, rfl, nfa, n0, t, na, rfl⟩
        have r1 := r0.grown g1
        have nf1 : ¬ F1 a := g1.notF nfa (by rw [hH]; exact fun z => nomatch z)
        have kk : Kept F1 H1 (upd H1 a (.ins C' dx (putF f (.ref x) fv))) := kept_upd nf1 ha trivial
        have xa : ∀ b ∈ a :: A1, x ≠ b := fun b hb z => by
          obtain ⟨u, hu, _⟩ := r0.there b hb
          rw [← z, hxn] at hu
          cases hu
        obtain ⟨a', _, _, _, A2, ev2, hH2, _, _, _, _, t1, na1, eA⟩ := r1
        cases ev2
        rw [ha] at hH2
        cases hH2
        cases eA
        have x0 : H0 x = none := s.g.same.free hxn
        obtain ⟨A', t2, sub⟩ := fldsR_putO (f := f) ox nfx x0 t1 fun z => xa x (List.mem_cons_of_mem _ z) rfl
        have t3 := t2.kept (F' := F1) (H' := upd H1 a (.ins C' dx (putF f (.ref x) fv))) (fun _ z => z) kk (fun b hb => by
            rcases sub b hb with z | z
            · rw [z]; exact nfx
            · obtain ⟨_, _, _, nf', _⟩ := t1.there b z; exact nf') fun b hb => upd_ne fun z => by
            rcases sub b hb with z2 | z2
            · exact xa a List.mem_cons_self (z2.symm.trans z)
            · exact na1 (z ▸ z2)
        obtain ⟨st, s2⟩ := sok_obw (s.grow g1) (o' := .ins C' dx (putF f (.ref x) fv)) (fs' := putB f (true, d) fs) (A' := a :: A') ei ea (r0.grown g1) nb List.mem_cons_self
          ⟨a, C', dx, putF f (.ref x) fv, A', rfl, upd_same, rfl, rfl, nf1, n0, t3, fun z => (sub a z).elim (fun z => xa a List.mem_cons_self z.symm) na1, rfl⟩ fun j d' b h1 h2 h3 => by
            rcases List.mem_cons.mp h3 with z | z
            · exact nb j d' b h1 h2 (z ▸ List.mem_cons_self)
            · rcases sub b z with z | z
              · obtain ⟨b', e', ob', _⟩ := s.ow j d' h1
                rw [h2] at e'
                cases e'
                obtain ⟨u, hu, _⟩ := ob'.there
                rw [z, hxn] at hu
                cases hu
              · exact nb j d' b h1 h2 (List.mem_cons_of_mem _ z)
        exact h1 _ _ _ st s2
      · exact q.elim
    · exact q.elim
/-- self.f.append(e) -/
def fapS (i : Nat) (c : Int) (f : Str) (fe : Dl → Re D) (δ : Dl) : RS := match δ[i]? with
  | some (.ob c' n fs) => (match fs.lookup f with
    | some (true, .list xs) => if c' = c then toS (fe δ) fun d => if xs.length < sizeLine then .nx (δ.set i (.ob c' n (putB f (true, .list (xs ++ [d])) fs))) else .no else .no
    | _ => .no)
  | _ => .no
theorem vs_fapp {spos apos cpos fpos : Pos} (hc : Cls X.K C) (hn : NoAttr X.K C f) (hy : PE X (.Name y py) (tVar i)) (he : VE X W e fe)
    (hb : attributeBase (.Name y py) f X.env (eval (.Name y py) X.env) = eval (.Name y py) X.env := by rfl)
    (hs : swapsWith (.Call (.Attribute (.Attribute (.Name y py) f fpos) "append" apos) [e] [] cpos) none spos.line X.env = pure false := by rfl)
    (hbase : attributeBase (.Attribute (.Name y py) f fpos) "append" X.env (eval (.Attribute (.Name y py) f fpos) X.env) = eval (.Attribute (.Name y py) f fpos) X.env := by rfl)
    (hfew : ((backTo cpos (starEach [e] X.env)).all (fun x => !x.1) && (backToKw cpos (keywordEach [] X.env)).all (fun x => x.1.isSome)
      && decide (([e] : List Expr).length + ([] : List Keyword).length + (if ([] : List Keyword).isEmpty then 0 else 1) < 30)) = true := by rfl)
    (hline : (apos.endLine == cpos.line) = true := by rfl) (hst : starEach [e] X.env = (false, eval e X.env) :: starEach [] X.env := by rfl) (hplain : (backTo cpos (starEach [] X.env)).any (·.1) = false := by rfl) :
    VSt X W (.Expr (.Call (.Attribute (.Attribute (.Name y py) f fpos) "append" apos) [e] [] cpos) spos) (fapS i (C : Nat) f fe) :=
  PS.imp (ps_expr (pe_bm PySem.F.plainAttrs_list PySem.F.slot_list_append PySem.F.type_list_append mt_append (pe_fld hy hb) (pa_cons he pa_nil hst) hbase hfew hline hst hplain) hs) fun D σ H ⟨F0, H0, F, δ, s, q⟩ => by
    unfold fapS at q
    split at q
    · rename_i c' n fs ei
      split at q
      · rename_i xs el
        split at q
        · rename_i hq
          obtain ⟨v0, A0, ea, ⟨a, C', dx, fv, A1, rfl, hH, eC, en, nfa, n0, t, na, rfl⟩, nb⟩ := s.ob i _ _ _ ei
          have eC' : C' = C := by
            rw [eC] at hq
            exact Int.ofNat_inj.mp hq
          subst eC'
          subst eC en
          obtain ⟨b, elb, ⟨vs, hbH, ra⟩, hbA⟩ := fldsR_at t el
          refine ⟨_, ea, a, C', dx, fv, .ref b, rfl, hH, hc, hn, elb, .inl ⟨rfl, _, .inl (.inl hbH)⟩, F, δ, s.e, SO.go (P := pS X.K) s q fun d v F1 H1 e1 g1 r h1 => ?_⟩
          split at h1
          · rename_i hz
            have hb1 := g1.same _ _ hbH
            refine ⟨b, vs, v, rfl, rfl, hb1, by rw [ra.length]; exact hz, ?_⟩
            have r0 : ObR X.K F H H0 (.ref a) (C' : Nat) (a : Nat) fs (a :: A1) := ⟨a, C', dx, fv, A1, rfl, hH, rfl, rfl, nfa, n0, t, na, rfl⟩
            have r1 := r0.grown g1
            obtain ⟨_, _, _, nfb, _⟩ := r1.there b (List.mem_cons_of_mem _ hbA)
            have ha := g1.same _ _ hH
            have kk : Kept F1 H1 (upd H1 b (.lst (vs ++ [v]))) := kept_upd nfb hb1 trivial
            obtain ⟨a', _, _, _, A2, ev2, hH2, _, _, nf1, _, t1, na1, eA⟩ := r1
            cases ev2
            rw [ha] at hH2
            cases hH2
            cases eA
            have hx : RpO X.K F1 (upd H1 b (.lst (vs ++ [v]))) b (.list (xs ++ [d])) := ⟨_, upd_same, ((g1.rpA ra).append (.cons r .nil)).mono (fun _ x => x) kk⟩
            have t2 := fldsR_wr (f := f) hx kk t1 el elb
            have nab : a ≠ b := fun z => na (z ▸ hbA)
            obtain ⟨st, s2⟩ := sok_obw (s.grow g1) (o' := .lst (vs ++ [v])) (fs' := putB f (true, .list (xs ++ [d])) fs) (A' := a :: A1) ei ea (r0.grown g1) nb (List.mem_cons_of_mem _ hbA)
              ⟨a, C', dx, fv, A1, rfl, (upd_ne nab).trans ha, rfl, rfl, nf1, n0, t2, na, rfl⟩ nb
            exact h1 _ _ _ st s2
          · exact h1.elim
        · exact q.elim
      · exact q.elim
    · exact q.elim
/-- self.f[k] = e, a dict of the object's own -/
def fsoS (i : Nat) (c : Int) (f : Str) (fk fe : Dl → Re D) (δ : Dl) : RS := match δ[i]? with
  | some (.ob c' n fs) => (match fs.lookup f with
    | some (true, .dict kvs) => if c' = c then toS (fe δ) fun d => toS (fk δ) fun k => if kfit kvs k = true ∧ kvs.length < sizeLine then .nx (δ.set i (.ob c' n (putB f (true, .dict (putD kvs k d)) fs))) else .no else .no
    | _ => .no)
  | _ => .no
theorem vs_fsto {spos fpos : Pos} (hu : X.A.units + 1 < cLine) (hc : Cls X.K C) (hn : NoAttr X.K C f) (hy : PE X (.Name y py) (tVar i)) (hk : VE X W e2 fk) (he : VE X W e fe)
    (hb : attributeBase (.Name y py) f X.env (eval (.Name y py) X.env) = eval (.Name y py) X.env := by rfl)
    (ha : ∀ v, assign (.Subscript (.Attribute (.Name y py) f fpos) e2 pos) X.env v = (do
      let ov ← holding [v] (eval (.Attribute (.Name y py) f fpos) X.env)
      let iv ← holding [v, ov] (eval e2 X.env)
      standAt pos
      holding [v, ov, iv] (setItem ov iv v)
      release [v, ov, iv] []) := by intro _; rfl)
    (hs : swapsWithSole [.Subscript (.Attribute (.Name y py) f fpos) e2 pos] e spos.line X.env = pure false := by rfl) (hw : swappedStores [.Subscript (.Attribute (.Name y py) f fpos) e2 pos] e X.env = pure none := by rfl) (h1 : (assignEach [.Subscript (.Attribute (.Name y py) f fpos) e2 pos] X.env).map (·.2) = [assign (.Subscript (.Attribute (.Name y py) f fpos) e2 pos) X.env] := by rfl) :
    VSt X W (.Assign [.Subscript (.Attribute (.Name y py) f fpos) e2 pos] e spos) (fsoS i (C : Nat) f fk fe) :=
  PS.imp (ps_asg he (pg_sub (pe_fld hy hb) hk (set_all hu) ha) hs hw h1) fun D σ H ⟨F0, H0, F, δ, s, q⟩ => by
    unfold fsoS at q
    split at q
    · rename_i c' n fs ei
      split at q
      · rename_i kvs el
        split at q
        · rename_i hq
          obtain ⟨v0, A0, ea, ⟨a, C', dx, fv, A1, rfl, hH, eC, en, nfa, n0, t, na, rfl⟩, nb⟩ := s.ob i _ _ _ ei
          have eC' : C' = C := by
            rw [eC] at hq
            exact Int.ofNat_inj.mp hq
          subst eC'
          subst eC en
          obtain ⟨b, elb, ho, hbA⟩ := fldsR_at t el
          obtain ⟨u0, hu0, mu0⟩ := ho.there
          refine ⟨F, δ, s.e, SO.go (P := pS X.K) s q fun d v F1 H1 e1 g1 r h2 => ?_⟩
          have r0 : ObR X.K F H H0 (.ref a) (C' : Nat) (a : Nat) fs (a :: A1) := ⟨a, C', dx, fv, A1, rfl, hH, rfl, rfl, nfa, n0, t, na, rfl⟩
          refine ⟨_, ea, a, C', dx, fv, .ref b, rfl, g1.same _ _ hH, hc, hn, elb, F1, δ, (s.grow g1).e, SO.go (P := pS X.K) (s.grow g1) h2 fun k u F2 H2 e3 g2 ru h3 => ?_⟩
          split at h3
          · rename_i hcc
            have gg := g1.trans g2
            have r1 := r0.grown gg
            obtain ⟨_, _, _, nfb, _⟩ := r1.there b (List.mem_cons_of_mem _ hbA)
            have ha2 := gg.same _ _ hH
            have ho2 : RpO X.K F2 H2 b (.dict kvs) := ho.kept gg.sub gg.kept ((gg.same _ _ hu0).trans hu0.symm)
            obtain ⟨o', hp, hn'⟩ := put_of ho2 nfb ru (g2.rp r) hcc.1 hcc.2
            have kk : Kept F2 H2 (upd H2 b o') := kept_upd nfb (gg.same _ _ hu0) mu0
            obtain ⟨a', _, _, _, A2, ev2, hH2, _, _, nf1, _, t1, na1, eA⟩ := r1
            cases ev2
            rw [ha2] at hH2
            cases hH2
            cases eA
            have t2 := fldsR_wr (f := f) hn' kk t1 el elb
            have nab : a ≠ b := fun z => na (z ▸ hbA)
            obtain ⟨st, s2⟩ := sok_obw (s.grow gg) (o' := o') (fs' := putB f (true, .dict (putD kvs k d)) fs) (A' := a :: A1) ei ea (r0.grown gg) nb (List.mem_cons_of_mem _ hbA)
              ⟨a, C', dx, fv, A1, rfl, (upd_ne nab).trans ha2, rfl, rfl, nf1, n0, t2, na, rfl⟩ nb
            rcases hp with hp | hp
            · exact .inr (.inl ⟨b, _, rfl, hp, h3 _ _ _ st s2⟩)
            · exact .inr (.inr ⟨b, _, rfl, hp, h3 _ _ _ st s2⟩)
          · exact h3.elim
        · exact q.elim
      · exact q.elim
    · exact q.elim
/-! self.f read, while the object is made -/
theorem fldB_lk {K : PySem.W.Frag} {F : Addr → Prop} {H : Hp} {f : Str} {w : Bool} {d : D} : ∀ {fv : List (Str × V)} {fs : List (Str × Bool × D)}, FldB K F H fv fs → fs.lookup f = some (w, d) → ∃ v, fv.lookup f = some v ∧ RpB K F H v d ∧ (w = false → Rp K F H v d)
  | _, _, .nil, h => nomatch h
  | _, _, .sh (f := g) r t, h => by
    rw [List.lookup_cons] at h ⊢
    cases e : f == g with
    | true => rw [e] at h; cases h; exact ⟨_, rfl, Rp.b r, fun _ => r⟩
    | false => rw [e] at h; exact fldB_lk t h
  | _, _, .ow (f := g) r t, h => by
    rw [List.lookup_cons] at h ⊢
    cases e : f == g with
    | true => rw [e] at h; cases h; exact ⟨_, rfl, r, fun z => nomatch z⟩
    | false => rw [e] at h; exact fldB_lk t h
def fgB (i : Nat) (c : Int) (f : Str) (δ : Dl) : Re D := match δ[i]? with
  | some (.ob c' _ fs) => if c' = c then (match fs.lookup f with | some (_, d) => .ok d | none => .no) else .no
  | _ => .no
def fgS (i : Nat) (c : Int) (f : Str) (δ : Dl) : Re D := match δ[i]? with
  | some (.ob c' _ fs) => if c' = c then (match fs.lookup f with | some (false, d) => .ok d | _ => .no) else .no
  | _ => .no
theorem vb_sfld (hc : Cls X.K C) (hn : NoAttr X.K C f) (hy : PE X (.Name y py) (tVar i)) (hb : attributeBase (.Name y py) f X.env (eval (.Name y py) X.env) = eval (.Name y py) X.env := by rfl) : VB X W (.Attribute (.Name y py) f pos) (fgB i (C : Nat) f) :=
  PE.imp (pe_fld hy hb) fun σ H Q ⟨F, δ, s, h⟩ => by
    unfold fgB at h
    split at h
    · rename_i c' n fs ei
      split at h
      · rename_i hq
        split at h
        · rename_i w d el
          obtain ⟨a, C', dx, fv, ea, hH, eC, t⟩ := s.sl i _ ei
          have eC' : C' = C := by
            rw [eC] at hq
            exact Int.ofNat_inj.mp hq
          subst eC'
          obtain ⟨v, ev, r, _⟩ := fldB_lk t el
          exact ⟨_, ea, a, C', dx, fv, v, rfl, hH, hc, hn, ev, h v F H Grow.refl r⟩
        · exact h.elim
      · exact h.elim
    · exact h.elim
theorem ve_sfld (hc : Cls X.K C) (hn : NoAttr X.K C f) (hy : PE X (.Name y py) (tVar i)) (hb : attributeBase (.Name y py) f X.env (eval (.Name y py) X.env) = eval (.Name y py) X.env := by rfl) : VE X W (.Attribute (.Name y py) f pos) (fgS i (C : Nat) f) :=
  PE.imp (pe_fld hy hb) fun σ H Q ⟨F, δ, s, h⟩ => by
    unfold fgS at h
    split at h
    · rename_i c' n fs ei
      split at h
      · rename_i hq
        split at h
        · rename_i d el
          obtain ⟨a, C', dx, fv, ea, hH, eC, t⟩ := s.sl i _ ei
          have eC' : C' = C := by
            rw [eC] at hq
            exact Int.ofNat_inj.mp hq
          subst eC'
          obtain ⟨v, ev, _, r⟩ := fldB_lk t el
          exact ⟨_, ea, a, C', dx, fv, v, rfl, hH, hc, hn, ev, Go.val h (r rfl)⟩
        · exact h.elim
      · exact h.elim
    · exact h.elim
end
/-! ### __init__ -/
/-- what __init__ leaves: the object, its mark put out -/
def outI (a : Nat) : RS → Re D
  | .nx (.ob c n fs :: _) => if n = (a : Int) then .ok (.dict ((.none, .int c) :: (.none, .int 0) :: fs.map fun p => (PyData.str p.1, p.2.2))) else .no
  | .ex x => .ex x
  | _ => .no
def fnI (b : Dl → RS) (m : Nat) (c : Nat) (a : Nat) (δ : List Sl) : Re D := outI a (b (.ob c a [] :: (δ ++ List.replicate m .no)))
def SpI (K : PySem.W.Frag) (mg : Str → Option Value) (C : Addr) (n : Nat) (g : Nat → List Sl → Re D) : Sp := fun vs H Q E => vs.length = n + 1 ∧ ∃ (a dx : Addr) (vs' : List V) (F : Addr → Prop) (H1 : Hp) (δ : List Sl), vs = .ref a :: vs' ∧ Dom F H1 ∧
  H1 a = none ∧ H1 dx = none ∧ dx ≠ a ∧ H = upd (upd H1 dx (.own a)) a (.ins C dx []) ∧ ArgsR K F H vs' δ ∧ Go (EWI mg E) (pS K) F H1 (g a δ) fun v H' => v = .ref a → Q .non H'
theorem sok_cons {K : PySem.W.Frag} {F : Addr → Prop} {H H1 : Hp} {σ : L2.St} {δ : Dl} {a C dx : Addr} (s : Sok K F H F H σ δ) (no : ∀ (i : Nat) (e : D), δ[i]? ≠ some (.ow e)) (no2 : ∀ (i : Nat) (c n : Int) (fs : List (Str × Bool × D)), δ[i]? ≠ some (.ob c n fs)) (g : Grow F H1 F H) (d0 : Dom F H1) (hH : H a = some (.ins C dx [])) (nf : ¬ F a) (n0 : H1 a = none) :
    Sok K F H1 F H (some (.ref a) :: σ) (.ob (C : Nat) (a : Nat) [] :: δ) := by
  refine ⟨congrArg (· + 1) s.len, g, d0, s.dom, fun i e h => ?_, fun i e h => ?_, fun i ns h => ?_, fun i j e e' b h1 h2 _ _ => ?_, fun i c n fs h => ?_, fun i j c n c' n' fs fs' h1 h2 => ?_⟩
  · cases i with
    | zero => cases h
    | succ i => exact s.sh i e h
  · cases i with
    | zero => cases h
    | succ i => exact (no i e h).elim
  · cases i with
    | zero => cases h
    | succ i => exact s.br i ns h
  · cases i with
    | zero => cases h1
    | succ i => exact (no i e h1).elim
  · cases i with
    | zero =>
      cases h
      refine ⟨.ref a, [a], rfl, ⟨a, C, dx, [], [], rfl, hH, rfl, rfl, nf, n0, .nil, (fun z => nomatch z), rfl⟩, fun j d b h1 h2 => ?_⟩
      cases j with
      | zero => cases h1
      | succ j => exact (no j d h1).elim
    | succ i => exact (no2 i c n fs h).elim
  · cases i with
    | zero =>
      cases j with
      | zero => rfl
      | succ j => exact (no2 j _ _ _ h2).elim
    | succ i => exact (no2 i _ _ _ h1).elim
section
variable {P : Program} {w : World} {K : PySem.W.Frag} {mg : Str → Option Value} {base : Heap} {x qual : Str} {params : Arguments} {body : List Stmt} {scope : Scope} {f C : Addr} {fd : FuncData} {N ps : List Str} {k m : Nat} {b : Dl → RS}
theorem fn_init {y : Str} {N' : List Str} (F : FunD K x qual params body scope [] [] f fd) (S : FnScope N (y :: ps) scope) (hN : N = y :: N') (hm : N'.length = ps.length + m)
    (hb : ∀ (cdv : Value) (A : Around) (outer : List Env) (s : Shared) (H : Hp) (E : XK) (W : XW), Room k (A.deeper (envOfC qual scope s.heap.objs.size f cdv)) → XOk (cxOf (L2.CX P w) P w K mg base N qual scope f cdv A outer s H E) W →
      VSs (cxOf (L2.CX P w) P w K mg base N qual scope f cdv A outer s H E) W body b) :
    FnOk P w K mg base (L2.CX P w) (k + 1) f fd (y :: ps) (SpI K mg C ps.length (fnI b m C)) := by
  refine F.ok S (fun vs H Q E h => h.1) fun cdv A outer s H vs Q E hr h => ?_
  have tk : XOk (cxOf (L2.CX P w) P w K mg base N qual scope f cdv A outer s H E) (EWI mg E) :=
    (takes_of (X := cxOf (L2.CX P w) P w K mg base N qual scope f cdv A outer s H E) rfl rfl rfl rfl).imp fun cls d _ H' ⟨ed, nm, em, q⟩ => by
      subst ed
      exact q rfl cls em
  refine ⟨_, hb cdv A outer s H E _ hr tk, ?_⟩
  obtain ⟨hl, a, dx, vs', F1, H1, δ, rfl, dm, na, nd, ne, rfl, r, g⟩ := h
  have g0 : Grow F1 H1 F1 (upd (upd H1 dx (.own a)) a (.ins C dx [])) := (Grow.upd0 nd).trans (Grow.upd0 (by rw [upd_ne (Ne.symm ne)]; exact na))
  have hl' : vs'.length = ps.length := Nat.succ.inj hl
  have s0 := start_sok (N := N') (m := m) (g0.dom dm) r hl' hm
  have no0 : ∀ (i : Nat) (z : Sl), (δ ++ List.replicate m Sl.no)[i]? = some z → z = .no ∨ (∃ d, z = .sh d) ∨ ∃ ns, z = .br ns := fun i z h => by
    by_cases hi : i < δ.length
    · rw [List.getElem?_append_left hi] at h
      obtain ⟨v, _, q⟩ := r.at i _ h
      rcases q with ⟨d', z, _⟩ | ⟨ns, _, z, _⟩
      · exact .inr (.inl ⟨d', z⟩)
      · exact .inr (.inr ⟨ns, z⟩)
    · rw [List.getElem?_append_right (by omega), List.getElem?_replicate] at h
      split at h
      · cases h; exact .inl rfl
      · cases h
  have no : ∀ (i : Nat) (e : D), (δ ++ List.replicate m Sl.no)[i]? ≠ some (.ow e) := fun i e h => by
    rcases no0 i _ h with z | ⟨_, z⟩ | ⟨_, z⟩ <;> cases z
  have no2 : ∀ (i : Nat) (c n : Int) (fs : List (Str × Bool × D)), (δ ++ List.replicate m Sl.no)[i]? ≠ some (.ob c n fs) := fun i c n fs h => by
    rcases no0 i _ h with z | ⟨_, z⟩ | ⟨_, z⟩ <;> cases z
  have sk := sok_cons (C := C) (dx := dx) s0 no no2 g0 dm upd_same (fun fa => dm a fa na) na
  have st : L2.start N (.ref a :: vs') = some (.ref a) :: L2.start N' vs' := by
    rw [hN]
    unfold L2.start
    rw [List.map_cons, List.cons_append, List.length_cons, List.length_cons, Nat.add_sub_add_right]
  refine ⟨F1, H1, F1, _, st ▸ sk, ?_⟩
  unfold fnI at g
  generalize b (Sl.ob (C : Nat) (a : Nat) [] :: (δ ++ List.replicate m .no)) = o at g ⊢
  unfold outI at g
  split at g
  · rename_i c n fs rest
    split at g
    · rename_i hn
      subst hn
      intro F' H' σ' _ s
      obtain ⟨v0, A0, ea', ⟨a', C', dx', fv, A1, rfl, hH, eC, en, nfa, n0, t, na', rfl⟩, nb⟩ := s.ob 0 _ _ _ rfl
      have ea : a = a' := Int.ofNat_inj.mp en
      subst ea
      subst eC
      obtain ⟨F2, h1, h2, kk⟩ := fldsR_frz t
      have g2 : Grow F1 H1 (plus F2 a) H' := by
        refine ⟨fun b hb => .inl (h2 b (s.g.sub b hb)), fun b hb => ?_, s.g.same, fun dm b hb => ?_⟩
        · rcases hb with hb | hb
          · rcases h1 b hb with z | z
            · exact s.g.new b z
            · obtain ⟨_, _, _, _, z0⟩ := t.there b z
              exact .inr z0
          · exact .inr (hb ▸ na)
        · rcases hb with hb | hb
          · rcases h1 b hb with z | z
            · exact s.dom b z
            · obtain ⟨u, hu, _⟩ := t.there b z
              rw [hu]
              exact fun z => nomatch z
          · rw [hb, hH]
            exact fun z => nomatch z
      exact g (.ref a) (plus F2 a) H' g2
        (.dic (.inr (.inr ⟨C', dx', fv, 0, hH, rfl⟩)) (.inr rfl) (.cons (.int _) (.cons (.int _) (kk.mono (fun _ x => .inl x) Kept.refl)))) rfl
    · exact g.elim
  · exact fun F' H' _ g' => g F' H' g'
  · exact g.elim
end
end VS
end
section
namespace VS
open PySem PySem.Spec PyProof.Rows L2
/-! ### C(..) -/
structure MkE (P : Program) (w : World) (K : PySem.W.Frag) (mg : Str → Option Value) (base : Heap) (k : Nat) (x : Str) (C : Addr) (n : Nat) (g : Nat → List Sl → Re D) : Prop where
  ex : ∃ f fd ps, FnOk P w K mg base (L2.CX P w) k f fd ps (SpI K mg C n g) ∧ Mk K C f ∧ mg x = some (.ref C) ∧ Binds K fd ps []
open Classical in
noncomputable def mkD (g : Nat → List Sl → Re D) (ds : List D) : Re D := if h : ∃ r, ∀ a, g a (ds.map .sh) = r then Classical.choose h else .no
theorem mkD_of {g : Nat → List Sl → Re D} {ds : List D} {r : Re D} (h : ∀ a, g a (ds.map .sh) = r) : mkD g ds = r := by
  have hx : ∃ r, ∀ a, g a (ds.map .sh) = r := ⟨r, h⟩
  unfold mkD
  rw [dif_pos hx]
  exact (Classical.choose_spec hx 0).symm.trans (h 0)
theorem mkD_all {g : Nat → List Sl → Re D} {ds : List D} (h : mkD g ds ≠ .no) (a : Nat) : g a (ds.map .sh) = mkD g ds := by
  unfold mkD at h ⊢
  split
  · rename_i hx
    exact Classical.choose_spec hx a
  · rename_i hx
    rw [dif_neg hx] at h
    exact (h rfl).elim
section
variable {X : Cx} {W : XW} {e : Expr} {es : List Expr} {fl : List (Dl → Re D)} {g : Nat → List Sl → Re D} {pos p : Pos} {C : Addr} {x : Str} {k : Nat}
theorem ve_make (FN : MkE X.prog X.w X.K X.mg X.base k x C fl.length g) (hr : Room (k + 1) X.A) (tk : XOk X W) (hg : Gl X x) (ha : VA X W Rp (e :: es) (argsF fl))
    (hdb : (x == ("__debug__" : Str)) = false := by decide) (he : starEach (e :: es) X.env = (false, eval e X.env) :: starEach es X.env := by rfl) (hpl : (backTo pos (starEach es X.env)).any (·.1) = false := by rfl) :
    VE X W (.Call (.Name x p) (e :: es) [] pos) (dA (argsF fl) (mkD g)) := by
  obtain ⟨f, fd, ps, F, M, hm, hb⟩ := FN.ex
  refine PE.imp (pe_make M F hr hg hm hb .nil (passesW tk) ha hdb he hpl) fun σ H Q ⟨F1, δ, s, h⟩ => ⟨F1, δ, s, GoA.bnd (X := X) pS_mon h fun ds vs F2 H2 eq g2 r h1 => fun a dx na nd ne => ?_⟩
  rw [List.append_nil]
  have nn : mkD g ds ≠ .no := fun z => by rw [z] at h1; exact h1.elim
  have g0 : Grow F2 H2 F2 (upd (upd H2 dx (.own a)) a (.ins C dx [])) := (Grow.upd0 nd).trans (Grow.upd0 (by rw [upd_ne (Ne.symm ne)]; exact na))
  refine ⟨by rw [List.length_cons, r.a.length, argsF_len eq], a, dx, vs, F2, H2, _, rfl, g2.dom s.dom, na, nd, ne, rfl, ArgsR.of (g0.rpA r.a), ?_⟩
  rw [mkD_all nn a]
  have h2 := Go.ewi (mg := X.mg) h1
  revert h2
  generalize mkD g ds = o
  intro h2
  cases o with
  | ok d => exact fun v F' H' gg rr ev => ⟨rfl, by rw [← ev]; exact h2 v F' H' gg rr⟩
  | ex x => exact h2
  | no => exact h2
end
end VS
end
section
namespace VS
open PySem PySem.Spec PyProof.Rows L2
/-! ### a dict of the module, texts to ints and texts -/
def vD : D → V
  | .int i => .int i
  | .str x => .str x
  | .bool b => .bl b
  | _ => .non
def flD : D → Bool
  | .int _ => true
  | .str _ => true
  | .bool _ => true
  | _ => false
theorem rp_vD {K : PySem.W.Frag} {F : Addr → Prop} {H : Hp} {d : D} (h : flD d = true) : Rp K F H (vD d) d := by
  cases d with
  | int i => exact .int i
  | str x => exact .str x
  | bool b => exact .bl b
  | _ => cases h
/-- the values that are there -/
def gdB (K : PySem.W.Frag) (a : Addr) (ps : List (Str × D)) : Bool := ps.all fun q => flD q.2 && (match PySem.W.nsIn K a q.1 with
  | some (some u) => He.relB (vD q.2) u
  | _ => false)
structure GD (K : PySem.W.Frag) (w : World) (mg : Str → Option Value) (x : Str) (ps : List (Str × D)) : Prop where
  ex : ∃ a es n, mg x = some (.ref a) ∧ KDict K w a es n ∧ (∀ q ∈ ps, flD q.2 = true ∧ ∃ u, PySem.W.nsIn K a q.1 = some (some u) ∧ RelV (vD q.2) u) ∧
    ∀ z, ps.lookup z = none → PySem.W.nsIn K a z = some none
theorem fnd_none {P : Params} {z : Str} : ∀ {l : List DictEntry} {ks : List Str}, l.map He.keyOf = He.keysIn P ks → z ∉ ks → (l.find? fun e => e.key.isStr z) = none ∧ (l.any fun e => e.refKey) = false
  | [], _, _, _ => ⟨rfl, rfl⟩
  | e :: r, [], h, _ => by cases h
  | e :: r, k :: ks, h, hz => by
    have h1 : He.keyOf e :: r.map He.keyOf = some (k, PyData.keyHash P k) :: He.keysIn P ks := h
    injection h1 with h2 h3
    obtain ⟨i1, i2⟩ := fnd_none h3 fun m => hz (List.mem_cons_of_mem _ m)
    unfold He.keyOf at h2
    split at h2
    · rename_i x t q
      have h4 := Option.some.inj h2
      obtain ⟨h5, h6⟩ := Prod.mk.inj h4
      have ne : ¬ z = k := fun e => hz (e ▸ List.mem_cons_self)
      have e1 : e.key.isStr z = false := by
        rw [q, h5]
        simpa [Value.isStr] using fun z' => ne (by first | exact z' | exact z'.symm)
      have e2 : e.refKey = false := by
        unfold DictEntry.refKey
        rw [q]
      rw [List.find?_cons, e1, List.any_cons, e2]
      exact ⟨i1, i2⟩
    · cases h2
theorem gd_of {K : PySem.W.Frag} {w : World} {mg : Str → Option Value} {x : Str} {a : Addr} {ps : List (Str × D)} (hm : mg x = some (.ref a)) (hd : He.dicW K a = some (He.keysIn w.params (ps.map (·.1)))) (hv : gdB K a ps = true) : GD K w mg x ps := by
  obtain ⟨es, n, kd⟩ := He.dicW_ok hd
  refine ⟨a, es, n, hm, kd, fun q hq => ?_, fun z hz => ?_⟩
  · have h2 := List.all_eq_true.mp hv q hq
    obtain ⟨h3, h4⟩ := He.ba h2
    refine ⟨h3, ?_⟩
    cases e : PySem.W.nsIn K a q.1 with
    | none => rw [e] at h4; cases h4
    | some r =>
      rw [e] at h4
      cases r with
      | none => cases h4
      | some u => exact ⟨u, rfl, He.relB_ok h4⟩
  · have e : es.toList.map He.keyOf = He.keysIn w.params (ps.map (·.1)) := by
      have h := hd
      unfold He.dicW at h
      rw [kd.at_] at h
      dsimp only at h
      split at h
      · exact Option.some.inj h
      · cases h
    have nz : z ∉ ps.map (·.1) := fun m => by
      obtain ⟨q, hq, rfl⟩ := List.mem_map.mp m
      rw [List.lookup_eq_none_iff] at hz
      have := hz q hq
      simp at this
    obtain ⟨f1, f2⟩ := fnd_none e nz
    unfold PySem.W.nsIn
    rw [kd.at_]
    dsimp only
    rw [f1]
    dsimp only
    rw [f2]
    rfl
def gdI (ps : List (Str × D)) : D → Re D
  | .str z => ofO (ps.lookup z)
  | _ => .no
def gdN (ps : List (Str × D)) : D → Re D
  | .str z => .ok (.bool (ps.lookup z).isSome)
  | _ => .no
def gdNN (ps : List (Str × D)) : D → Re D
  | .str z => .ok (.bool !(ps.lookup z).isSome)
  | _ => .no
theorem lookup_mem {z : Str} {d : D} : ∀ {ps : List (Str × D)}, ps.lookup z = some d → (z, d) ∈ ps
  | [], h => by cases h
  | (k, v) :: ps, h => by
    rw [List.lookup_cons] at h
    cases e : z == k with
    | true =>
      rw [e] at h
      cases h
      rw [eq_of_beq e]
      exact List.mem_cons_self
    | false =>
      rw [e] at h
      exact List.mem_cons_of_mem _ (lookup_mem h)
section
variable {X : Cx} {W : XW} {e : Expr} {fe : Dl → Re D} {pos p : Pos} {x : Str} {ps : List (Str × D)}
theorem ve_gdi (g : GD X.K X.w X.mg x ps) (hg : Gl X x) (he : VE X W e fe) (hs : PlainIx e) (hd : (x == ("__debug__" : Str)) = false := by decide) : VE X W (.Subscript (.Name x p) e pos) (d1 (gdI ps) fe) := by
  obtain ⟨a, es, n, hm, kd, hv, _⟩ := g.ex
  refine PE.imp (pe_ix ix_kdict (pe_glob (v := .ref a) hg hm rfl hd) he hs) fun σ H Q ⟨F, δ, s, h⟩ => ?_
  refine ⟨F, δ, s, Go.bnd pS_mon h fun d v F1 H1 e1 g1 r h1 => ?_⟩
  unfold gdI at h1
  split at h1
  · rename_i z
    cases r
    cases el : ps.lookup z with
    | none => rw [el] at h1; exact h1.elim
    | some d =>
      rw [el] at h1
      obtain ⟨hf, u, hu, hr⟩ := hv _ (lookup_mem el)
      exact ⟨a, z, vD d, rfl, rfl, ⟨es, n, u, kd.at_, kd.lit, hu, hr⟩, h1.val (rp_vD hf)⟩
  · exact h1.elim
theorem gd_find {K : PySem.W.Frag} {a : Addr} (hv : ∀ q ∈ ps, flD q.2 = true ∧ ∃ u, PySem.W.nsIn K a q.1 = some (some u) ∧ RelV (vD q.2) u) (ha : ∀ z, ps.lookup z = none → PySem.W.nsIn K a z = some none) (z : Str) :
    ∃ r, PySem.W.nsIn K a z = some r ∧ r.isSome = (ps.lookup z).isSome := by
  cases el : ps.lookup z with
  | none => exact ⟨none, ha z el, rfl⟩
  | some d =>
    obtain ⟨_, u, hu, _⟩ := hv _ (lookup_mem el)
    exact ⟨some u, hu, rfl⟩
theorem ve_gdn (g : GD X.K X.w X.mg x ps) (hg : Gl X x) (he : VE X W e fe) (hm2 : behindInMarks .In (.Name x p) = false := by rfl) (hd : (x == ("__debug__" : Str)) = false := by decide) : VE X W (.Compare e [.In] [.Name x p] pos) (d1 (gdN ps) fe) := by
  obtain ⟨a, es, n, hm, kd, hv, ha⟩ := g.ex
  refine PE.imp (pe_cmpR (op_in_kd kd) he (pe_glob (v := .ref a) hg hm rfl hd) hm2) fun σ H Q ⟨F, δ, s, h⟩ => ?_
  refine ⟨F, δ, s, Go.bnd pS_mon h fun d v F1 H1 e1 g1 r h1 => ?_⟩
  unfold gdN at h1
  split at h1
  · rename_i z
    cases r
    obtain ⟨r, hr, hs⟩ := gd_find hv ha z
    exact ⟨z, r, rfl, rfl, hr, by rw [hs]; exact h1.val (.bl _)⟩
  · exact h1.elim
theorem ve_gdnn (g : GD X.K X.w X.mg x ps) (hg : Gl X x) (he : VE X W e fe) (hm2 : behindInMarks .NotIn (.Name x p) = false := by rfl) (hd : (x == ("__debug__" : Str)) = false := by decide) : VE X W (.Compare e [.NotIn] [.Name x p] pos) (d1 (gdNN ps) fe) := by
  obtain ⟨a, es, n, hm, kd, hv, ha⟩ := g.ex
  refine PE.imp (pe_cmpR (op_notIn_kd kd) he (pe_glob (v := .ref a) hg hm rfl hd) hm2) fun σ H Q ⟨F, δ, s, h⟩ => ?_
  refine ⟨F, δ, s, Go.bnd pS_mon h fun d v F1 H1 e1 g1 r h1 => ?_⟩
  unfold gdNN at h1
  split at h1
  · rename_i z
    cases r
    obtain ⟨r, hr, hs⟩ := gd_find hv ha z
    exact ⟨z, r, rfl, rfl, hr, by rw [hs]; exact h1.val (.bl _)⟩
  · exact h1.elim
theorem vt_gdn (g : GD X.K X.w X.mg x ps) (hg : Gl X x) (he : VE X W e fe) (hm2 : behindInMarks .In (.Name x p) = false := by rfl) (hd : (x == ("__debug__" : Str)) = false := by decide) : VT X W (.Compare e [.In] [.Name x p] pos) (tB1 (d1 (gdN ps) fe)) := by
  obtain ⟨a, es, n, hm, kd, hv, ha⟩ := g.ex
  refine PT.imp (pt_cmpR (op_in_kd kd) he (pe_glob (v := .ref a) hg hm rfl hd) hm2) fun σ H Q ⟨F, δ, s, h⟩ => ?_
  refine ⟨F, δ, s, Go.bndT (k := fun d => (gdN ps d).bnd asB) (by unfold tB1 d1 at h; cases e : fe δ <;> rw [e] at h <;> exact h) fun d v F1 H1 e1 g1 r h1 => ?_⟩
  unfold gdN at h1
  split at h1
  · rename_i z
    cases r
    obtain ⟨r, hr, hs⟩ := gd_find hv ha z
    exact ⟨z, r, rfl, rfl, hr, by rw [hs]; exact ⟨_, rfl, h1.at rfl Grow.refl⟩⟩
  · exact h1.elim
theorem vt_gdnn (g : GD X.K X.w X.mg x ps) (hg : Gl X x) (he : VE X W e fe) (hm2 : behindInMarks .NotIn (.Name x p) = false := by rfl) (hd : (x == ("__debug__" : Str)) = false := by decide) : VT X W (.Compare e [.NotIn] [.Name x p] pos) (tB1 (d1 (gdNN ps) fe)) := by
  obtain ⟨a, es, n, hm, kd, hv, ha⟩ := g.ex
  refine PT.imp (pt_cmpR (op_notIn_kd kd) he (pe_glob (v := .ref a) hg hm rfl hd) hm2) fun σ H Q ⟨F, δ, s, h⟩ => ?_
  refine ⟨F, δ, s, Go.bndT (k := fun d => (gdNN ps d).bnd asB) (by unfold tB1 d1 at h; cases e : fe δ <;> rw [e] at h <;> exact h) fun d v F1 H1 e1 g1 r h1 => ?_⟩
  unfold gdNN at h1
  split at h1
  · rename_i z
    cases r
    obtain ⟨r, hr, hs⟩ := gd_find hv ha z
    exact ⟨z, r, rfl, rfl, hr, by rw [hs]; exact ⟨_, rfl, h1.at rfl Grow.refl⟩⟩
  · exact h1.elim
end
end VS
end
section
namespace VS
open PySem PySem.Spec PyProof.Rows L2
/-! ### a tuple of the module -/
def relL : List V → List Value → Bool
  | [], [] => true
  | v :: vs, u :: us => He.relB v u && relL vs us
  | _, _ => false
theorem relL_ok : ∀ {vs : List V} {us : List Value}, relL vs us = true → Vals vs us
  | [], [], _ => .nil
  | v :: vs, u :: us, h => by
    obtain ⟨h1, h2⟩ := He.ba (show (He.relB v u && relL vs us) = true from h)
    exact .cons (He.relB_ok h1) (relL_ok h2)
  | [], _ :: _, h => by cases h
  | _ :: _, [], h => by cases h
def gtB (K : PySem.W.Frag) (a : Addr) (ds : List D) : Bool := match K.lookup a with
  | some ⟨.type c, _, .seq its _, _⟩ => decide (c = "tuple") && (decide (ds.length ≤ 100) && (ds.all flD && relL (ds.map vD) its.toList))
  | _ => false
theorem rpA_vD {K : PySem.W.Frag} {F : Addr → Prop} {H : Hp} : ∀ {ds : List D}, ds.all flD = true → RpA K F H (ds.map vD) ds
  | [], _ => .nil
  | d :: ds, h => by
    rw [List.all_cons] at h
    obtain ⟨h1, h2⟩ := He.ba h
    exact .cons (rp_vD h1) (rpA_vD h2)
theorem gt_ok {K : PySem.W.Frag} {a : Addr} {ds : List D} (h : gtB K a ds = true) : (∀ H, SqT K H a (ds.map vD)) ∧ ∀ F H, RpA K F H (ds.map vD) ds := by
  unfold gtB at h
  split at h
  · rename_i c od its n sl e
    obtain ⟨h1, h2⟩ := He.ba h
    obtain ⟨h3, h4⟩ := He.ba h2
    obtain ⟨h5, h6⟩ := He.ba h4
    have ec : c = "tuple" := of_decide_eq_true h1
    have hl : ds.length ≤ 100 := of_decide_eq_true h3
    have vs := relL_ok h6
    have l := vs.length
    rw [List.length_map] at l
    have l2 : its.toList.length = its.size := rfl
    subst ec
    refine ⟨fun H => .inr ⟨_, its, n, e, rfl, rfl, ?_, vs⟩, fun F H => rpA_vD h5⟩
    exact Nat.le_trans (by omega : its.size ≤ 100) (by rw [sizeLine_eq]; decide)
  · cases h
/-- what is looked at beside the facts: the tables' values, the tuples -/
structure Ex where
  tabs : List (Str × List (Str × D))
  tups : List (Str × List D)
def Ex.b (x : Ex) (K : PySem.W.Frag) : Bool := (x.tabs.all fun t => gdB K (He.ga K t.1) t.2) && x.tups.all fun t => gtB K (He.ga K t.1) t.2
def Ex.ts (x : Ex) : List He.Tab := x.tabs.map fun t => (fun K => He.ga K t.1, t.2.map (·.1))
section
variable {fa : List He.Fa} {fn : List He.DefD} {x : Ex} {w : World} {h : Heap} {K : PySem.W.Frag} {mg : Str → Option Value}
theorem Ex.gd (c : He.SaysX fa fn x.ts [] x.b w h K) (i : Nat) {t : Str × List (Str × D)} (hi : x.tabs[i]? = some t) (hm : mg t.1 = some (.ref (He.ga K t.1))) : GD K w mg t.1 t.2 := by
  have e : x.ts.map (fun t => He.dicW K (t.1 K)) = x.ts.map fun t => some (He.keysIn w.params t.2) := congrArg (fun z : He.AlT => z.2) c.t
  have e2 : (x.ts.map fun t => He.dicW K (t.1 K))[i]? = (x.ts.map fun t => some (He.keysIn w.params t.2))[i]? := by rw [e]
  unfold Ex.ts at e2
  rw [List.getElem?_map, List.getElem?_map, List.getElem?_map, List.getElem?_map, hi] at e2
  refine gd_of hm (Option.some.inj e2) ?_
  obtain ⟨h1, _⟩ := He.ba c.more
  exact List.all_eq_true.mp h1 t (List.mem_of_getElem? hi)
theorem Ex.gt (c : He.SaysX fa fn x.ts [] x.b w h K) (i : Nat) {t : Str × List D} (hi : x.tups[i]? = some t) : gtB K (He.ga K t.1) t.2 = true := by
  obtain ⟨_, h1⟩ := He.ba c.more
  exact List.all_eq_true.mp h1 t (List.mem_of_getElem? hi)
end
end VS
end
section
namespace VS
open PySem PySem.Spec PyProof.Rows L2
/-! ### range(i, j, -1) -/
def rng3D : List D → Re (List D)
  | [.int i, .int j, .int c] => if c = -1 ∧ -(2 ^ 62) ≤ i ∧ i < 2 ^ 62 ∧ -(2 ^ 62) ≤ j ∧ j < 2 ^ 62 then .ok ((List.range (i - j).toNat).map fun k => .int (i - (k : Nat))) else .no
  | _ => .no
theorem walk_rangeC {K : PySem.W.Frag} {F : Addr → Prop} {H : Hp} (lo : Int) (n : Nat) : Walk K F H (Itc lo (-1) n) ((List.range n).map fun k => PyData.int (lo - (k : Nat))) where
  go := fun F' H' i st hi => by show i < n; simpa using hi
  stop := fun F' H' st => by show n ≤ _; simp
  yld := fun F' H' i x H2 d st _ e y => by
    obtain ⟨e1, ex⟩ := y
    subst e1 ex
    refine ⟨F', Grow.refl, ?_⟩
    rw [List.getElem?_map] at e
    by_cases hi : i < n
    · rw [List.getElem?_range hi] at e
      cases e
      have : lo + (i : Int) * -1 = lo - i := by omega
      rw [this]
      exact .int _
    · rw [List.getElem?_eq_none (by simpa using hi)] at e
      cases e
section
variable {X : Cx} {W : XW} {tg e e2 e3 : Expr} {fs : Dl → Re (List D)} {p pos : Pos}
theorem vi_rng3 (hg : Gl X "range") (hm : X.mg "range" = none) (ha : VA X W Rp [e, e2, e3] fs) (hs : starEach [e, e2, e3] X.env = (false, eval e X.env) :: starEach [e2, e3] X.env := by rfl) (hpl : (backTo pos (starEach [e2, e3] X.env)).any (·.1) = false := by rfl) :
    VI X W tg (.Call (.Name "range" p) [e, e2, e3] [] pos) (dAL fs rng3D) := PI.imp (pi_range3 hg hm ha hs hpl) fun σ H R ⟨F, δ, s, q⟩ => ⟨F, δ, s, ReW.bndA (N := fun ds F' H' => ∀ J, Walk X.K F' H' J ds → R J H') (q.imp fun ds _ n F' H' g J w => n J F' H' g w) fun d v F1 H1 _ g r n => by
  unfold rng3D at n
  split at n
  · rename_i i j c _
    split at n
    · rename_i hc
      obtain ⟨rfl, h1, h2, h3, h4⟩ := hc
      cases r with
      | cons r rr =>
        cases rr with
        | cons r' rr =>
          cases rr with
          | cons r'' rr =>
            cases rr
            cases r
            cases r'
            cases r''
            exact ⟨i, j, -1, _, rfl, RgC.neg h1 h2 h3 h4, n _ _ Grow.refl _ (walk_rangeC i _)⟩
    · exact n.elim
  · exact n.elim⟩
end
end VS
end
section
namespace VS
open PySem PySem.Spec PyProof.Rows L2
/-! ### a world by its answer to one row: for tops that hash a text -/
def wB (w : World) (b : Bool) : World := { w with params := { w.params with followText := fun s => if s = "special-get-raises" then b else w.params.followText s } }
theorem wB_eq (w : World) : w = wB w (w.params.followText "special-get-raises") := by
  obtain ⟨⟩ := w
  unfold wB
  congr 1
  rename_i p _
  have : ∀ p : Params, p = { p with followText := fun s => if s = "special-get-raises" then p.followText "special-get-raises" else p.followText s } := fun p => by
    obtain ⟨⟩ := p
    congr 1
    funext s
    dsimp only
    split
    · rename_i e; rw [e]
    · rfl
  exact this _
end VS
end
section
namespace VS
open PySem PySem.Spec PyProof.Rows L2
/-! ### sorted(set(xs)), xs a list of ints -/
section
variable {prog : Program} {w : World} {A : Around} {E : Value → Shared → Prop} {s : Shared}
set_option maxHeartbeats 6400000 in
theorem call_setL {l : Addr} {items : Array Value} (ns : List Int) {Q : Value → Shared → Prop} (hh : A.handled = none) (hl : s.heap.IsList l items) (hit : IntsAre items.toList ns) (hb : ns.length + 1 < scanBound)
    (h : ∀ (h' : Heap) (tk c : Nat), SetR w h' s.heap.objs.size (fun j => decide (j ∈ ns)) c → c ≤ ns.length → (∀ b o, s.heap.get? b = some o → h'.get? b = some o) → Q (.ref s.heap.objs.size) { s with heap := h', toks := tk }) :
    wpAny (model prog w) A (call (.type "set") [.ref l]) Q E s := by
  have hisz : items.size = ns.length := by
    have q := IntsAre.length hit
    rw [Array.length_toList] at q
    exact q
  obtain ⟨c, tl, hmro⟩ := PySem.F.called_set.mro
  have hmade := PySem.F.called_set.made
  have hsub := PySem.F.called_set.sub
  refine wpAny_call (codeAny_of_tree ?_)
  show wpAny _ _ (callAny (.type "set") _) _ _ _
  refine wpAny_pure ⟨Code.quiet_builtin _ (by decide +kernel), codeAny_builtin PySem.F.entry_type_call ?_⟩
  rw [Around.under_plain (weight_type_call_type "set" [.ref l] []) rfl]
  have h1 := PySem.F.called_set.notType
  have h2 := PySem.F.called_set.canCreate
  have hct := PySem.F.typeCall_set_1 (.ref l)
  repeat (any_goals (first | assumption | wp_step))
  refine codeAny_mono (code_set_led1 (.ref l) (E := E) (Q₁ := fun obj s₁ => obj = .ref s.heap.objs.size ∧ s₁ = { s with heap := s.heap.push ({ cls := .type "set", dict := none, data := .set #[] 0 (.fresh 0 0 (!w.params.followText "set-order")) } : Obj) }) ⟨rfl, rfl⟩) fun r s₁ hr => ?_
  cases r with
  | error e => exact hr
  | ok fl =>
    cases fl with
    | ret obj =>
      obtain ⟨rfl, rfl⟩ := hr
      have hS : (s.heap.push ({ cls := .type "set", dict := none, data := .set #[] 0 (.fresh 0 0 (!w.params.followText "set-order")) } : Obj)).get? s.heap.objs.size = some ({ cls := .type "set", dict := none, data := .set #[] 0 (.fresh 0 0 (!w.params.followText "set-order")) } : Obj) := Heap.get?_push_size _ rfl
      have hT : Shared.TypeIs { s with heap := s.heap.push ({ cls := .type "set", dict := none, data := .set #[] 0 (.fresh 0 0 (!w.params.followText "set-order")) } : Obj) } (.ref s.heap.objs.size) "set" := ⟨_, hS, rfl⟩
      have hli := PySem.F.called_set.init.lookup
      have hbi := PySem.F.called_set.init.bind (.ref s.heap.objs.size)
      repeat (any_goals (first | assumption | wp_step))
      refine codeAny_mono (codeAny_call_builtin (R := wants (fun r s₂ => r = .none ∧ ∃ h' tk c, s₂ = { s with heap := h', toks := tk } ∧ SetR w h' s.heap.objs.size (fun j => decide (j ∈ ns)) c ∧ c ≤ ns.length ∧
          (∀ b o, s.heap.get? b = some o → h'.get? b = some o)) E) PySem.F.called_set.init.plain PySem.F.entry_set_init (check_set_init_1 hT ?_)) fun r₂ s₂ hr₂ => ?_
      · obtain ⟨ol, hol, hcl, nl, hdl⟩ := hl
        obtain ⟨ocls, odict, odata, oslots⟩ := ol
        simp only at hcl hdl
        subst hcl; subst hdl
        have hol' : (s.heap.push ({ cls := .type "set", dict := none, data := .set #[] 0 (.fresh 0 0 (!w.params.followText "set-order")) } : Obj)).get? l = some { cls := .type "list", dict := odict, data := .seq items nl, slots := oslots } := Heap.get?_push_of_some _ hol
        have hsls := PySem.F.sub_list_set
        have hslf := PySem.F.sub_list_frozenset
        have hne : (Value.type "list" == Value.type "dict") = false := by decide
        have hl1 : (s.heap.push ({ cls := .type "set", dict := none, data := .set #[] 0 (.fresh 0 0 (!w.params.followText "set-order")) } : Obj)).IsList l items := ⟨_, hol', rfl, nl, rfl⟩
        unfold Builtin.«set.__init__» noKeywords Builtin.Frozenset.updateFrom
        generalize hPI : pyIter = PI
        wp_walk
        subst hPI
        refine wpAny_pyIter_list hl1 ?_
        refine wpAny_bind (wpAny_runValue ?_)
        have hlS : l < s.heap.objs.size := Heap.lt_size hol
        have hh3 : A.in1.in1.in1.handled = none := by simp [hh]
        have hneI : l ≠ (s.heap.push ({ cls := .type "set", dict := none, data := .set #[] 0 (.fresh 0 0 (!w.params.followText "set-order")) } : Obj)).objs.size := by
          rw [Heap.size_push]; exact Nat.ne_of_lt (Nat.lt_succ_of_lt hlS)
        have hSf : s.heap.objs.size ∉ [(s.heap.push ({ cls := .type "set", dict := none, data := .set #[] 0 (.fresh 0 0 (!w.params.followText "set-order")) } : Obj)).objs.size, l] := by
          rw [Heap.size_push]; simp only [List.mem_cons, List.mem_singleton, List.not_mem_nil, or_false, not_or]
          exact ⟨Nat.ne_of_lt (Nat.lt_succ_self _), Nat.ne_of_gt hlS⟩
        have hval : ∀ (i : Nat) (v : Value), items[i]? = some v → ∃ k t, ns[i]? = some k ∧ v = .int k t := fun i v hv => by
          have hi : i < ns.length := by rw [← hisz]; exact (Array.getElem?_eq_some_iff.mp hv).1
          obtain ⟨t, e⟩ := PyProof.Rows.IntsAre.int_at hit i v (by rw [Array.getElem?_toList]; exact hv)
          refine ⟨ns[i], t, List.getElem?_eq_getElem hi, ?_⟩
          rw [e, List.getD_eq_getElem?_getD, List.getElem?_eq_getElem hi] <;> rfl
        refine set_update_ints ((Walks.list hh3 _ l hneI items).toS) s.heap.objs.size
          hSf ns hisz hb hval (items.size - 0) 0 _ (by omega) (Nat.zero_le _)
          ⟨⟨_, Heap.get?_push_size _ rfl, rfl, rfl⟩, (hl1.push _)⟩ ?hS0 ?hR
        case hS0 =>
          have hget : ((s.heap.push ({ cls := .type "set", dict := none, data := .set #[] 0 (.fresh 0 0 (!w.params.followText "set-order")) } : Obj)).push { cls := .type "list_iterator", data := .fields #[.ref l, .int 0 0] }).get? s.heap.objs.size
              = some ({ cls := .type "set", dict := none, data := .set #[] 0 (.fresh 0 0 (!w.params.followText "set-order")) } : Obj) := Heap.get?_push_of_some _ hS
          exact ⟨0, Nat.le_refl 0, setR_new_at hget⟩
        case hR =>
          intro s' c' hm hc' hS'
          obtain ⟨h', g2, d', tk', os'⟩ := s'
          have eg : g2 = s.gens := hm.gens
          have ed : d' = s.drawn := hm.drawn
          have eo : os' = s.os := hm.os
          subst eg; subst ed; subst eo
          show wpAny _ _ _ _ _ _
          refine wpAny_pure ?_
          show wpAny _ _ (ret Value.none) _ _ _
          rw [hisz] at hc'
          refine wpAny_pure ⟨rfl, h', tk', c', rfl, hS', hc', fun b o e => ?_⟩
          have hb0 : b < s.heap.objs.size := Heap.lt_size e
          have hb1 : b ≠ s.heap.objs.size := Nat.ne_of_lt hb0
          have hb2 : b ≠ (s.heap.push ({ cls := .type "set", dict := none, data := .set #[] 0 (.fresh 0 0 (!w.params.followText "set-order")) } : Obj)).objs.size := by
            rw [Heap.size_push]; exact Nat.ne_of_lt (Nat.lt_succ_of_lt hb0)
          exact hm.heap b o (by simp only [List.mem_cons, List.mem_singleton, List.not_mem_nil, or_false, not_or]; exact ⟨hb1, hb2⟩) (Heap.get?_push_of_some _ (Heap.get?_push_of_some _ e))
      · cases r₂ with
        | error e => exact hr₂
        | ok fl₂ =>
          cases fl₂ with
          | ret r =>
            obtain ⟨rfl, h', tk, c, rfl, hS', hc', hk'⟩ := hr₂
            repeat (any_goals (first | assumption | wp_step))
            exact h _ _ _ hS' hc' hk'
          | _ => exact hr₂.elim
    | _ => exact hr.elim
end
/-- put in order, each once -/
def insI (k : Int) : List Int → List Int
  | [] => [k]
  | x :: r => if k < x then k :: x :: r else if k = x then x :: r else x :: insI k r
def setI (ns : List Int) : List Int := ns.foldr insI []
theorem mem_insI {k j : Int} : ∀ {l : List Int}, j ∈ insI k l ↔ j = k ∨ j ∈ l
  | [] => by simp [insI]
  | x :: r => by
    unfold insI
    split
    · simp
    · split
      · rename_i h
        subst h
        simp
      · simp only [List.mem_cons, mem_insI (l := r)]
        constructor
        · rintro (h | h | h)
          · exact .inr (.inl h)
          · exact .inl h
          · exact .inr (.inr h)
        · rintro (h | h | h)
          · exact .inr (.inl h)
          · exact .inl h
          · exact .inr (.inr h)
theorem insI_pw {k : Int} : ∀ {l : List Int}, l.Pairwise (· < ·) → (insI k l).Pairwise (· < ·)
  | [], _ => List.pairwise_singleton _ _
  | x :: r, h => by
    unfold insI
    have h' := List.pairwise_cons.mp h
    split
    · rename_i hk
      refine List.pairwise_cons.mpr ⟨fun y hy => ?_, h⟩
      rcases List.mem_cons.mp hy with e | hy
      · omega
      · have := h'.1 y hy
        omega
    · split
      · exact h
      · refine List.pairwise_cons.mpr ⟨fun y hy => ?_, insI_pw h'.2⟩
        rcases mem_insI.mp hy with e | hy
        · omega
        · exact h'.1 y hy
theorem mem_setI {j : Int} : ∀ {ns : List Int}, j ∈ setI ns ↔ j ∈ ns
  | [] => Iff.rfl
  | k :: r => by
    show j ∈ insI k (setI r) ↔ _
    rw [mem_insI, mem_setI (ns := r), List.mem_cons]
theorem setI_pw : ∀ ns : List Int, (setI ns).Pairwise (· < ·)
  | [] => List.Pairwise.nil
  | k :: r => insI_pw (setI_pw r)
theorem pw_ext : ∀ {l m : List Int}, l.Pairwise (· < ·) → m.Pairwise (· < ·) → (∀ j, j ∈ l ↔ j ∈ m) → l = m
  | [], [], _, _, _ => rfl
  | [], y :: m, _, _, e => nomatch (e y).mpr List.mem_cons_self
  | x :: l, [], _, _, e => nomatch (e x).mp List.mem_cons_self
  | x :: l, y :: m, h1, h2, e => by
    have a := List.pairwise_cons.mp h1
    have b := List.pairwise_cons.mp h2
    have exy : x = y := by
      rcases List.mem_cons.mp ((e x).mp List.mem_cons_self) with z | z
      · exact z
      · rcases List.mem_cons.mp ((e y).mpr List.mem_cons_self) with q | q
        · exact q.symm
        · have := a.1 y q
          have := b.1 x z
          omega
    subst exy
    refine congrArg (x :: ·) (pw_ext a.2 b.2 fun j => ⟨fun hj => ?_, fun hj => ?_⟩)
    · rcases List.mem_cons.mp ((e j).mp (List.mem_cons_of_mem _ hj)) with z | z
      · have := a.1 j hj
        omega
      · exact z
    · rcases List.mem_cons.mp ((e j).mpr (List.mem_cons_of_mem _ hj)) with z | z
      · have := b.1 j hj
        omega
      · exact z
section
variable {X : Cx} {a : Expr} {ta : TE} {p p2 q pos : Pos}
def tSortSet (K : PySem.W.Frag) (ta : TE) : TE := fun σ H Q => ta σ H fun x H1 => ∃ (l : Addr) (ns : List Int), x = .ref l ∧ SqL K H1 l (ns.map V.int) ∧ ns.length < 60 ∧ ∀ p, H1 p = none → Q (.ref p) (upd H1 p (.lst ((setI ns).map V.int)))
theorem vals_intsAre : ∀ {ns : List Int} {us : List Value}, Vals (ns.map V.int) us → IntsAre us ns
  | [], _, r => by
    cases r
    exact .nil
  | k :: ns, _, r => by
    rw [List.map_cons] at r
    cases r with
    | cons h t =>
      obtain ⟨tk, rfl⟩ := h
      exact .cons k tk (vals_intsAre t)
theorem pe_sortSet (hg : Gl X "sorted") (hm : X.mg "sorted" = none) (hg2 : Gl X "set") (hm2 : X.mg "set" = none) (ha : PE X a ta) (hc : X.calm = true := by rfl)
    (na : starEach [a] X.env = (false, eval a X.env) :: starEach [] X.env := by rfl)
    (nb : starEach [.Call (.Name "set" p2) [a] [] q] X.env = (false, eval (.Call (.Name "set" p2) [a] [] q) X.env) :: starEach [] X.env := by rfl) :
    PE X (.Call (.Name "sorted" p) [.Call (.Name "set" p2) [a] [] q] [] pos) (tSortSet X.K ta) := by
  refine ⟨fun pins s σ H Q I h => ?_⟩
  refine Call_ (ld_blt I hg hm boot_sorted ?_)
  refine PyProof.Rows.callWith_builtin1 (PyProof.Rows.args_cons ?_ nb) nb rfl
  refine Call_ (ld_blt I hg2 hm2 boot_set ?_)
  refine PyProof.Rows.callWith_type1 (PyProof.Rows.args_cons (thn (ha.run pins s σ H _ I h) fun v s1 ⟨x, H1, I1, r1, q1⟩ => PyProof.Rows.args_nil ?_) na) na rfl
  obtain ⟨l, ns, rfl, hq, hl, q1⟩ := q1
  cases r1
  obtain ⟨its, r, pl, hz⟩ := I1.list hq
  refine call_setL (A := X.A) ns (I1.ok.hd hc) pl.isList (by simpa using vals_intsAre r) (by unfold scanBound; omega) fun h' tk c R hcn hk => ?_
  refine PyProof.Rows.args_nil ?_
  have I2 : Inv X pins σ H1 { s1 with heap := h', toks := tk } := I1.kept hk
  obtain ⟨s2, hs2⟩ : ∃ s2 : Shared, s2 = { s1 with heap := h', toks := tk } := ⟨_, rfl⟩
  have R2 : SetR X.w s2.heap s1.heap.objs.size (fun j => decide (j ∈ ns)) c := by rw [hs2]; exact R
  rw [← hs2] at I2 ⊢
  refine sorted_set R2 (I2.ok.hd hc) (by omega) fun s' p out c2 ns' k g o hp hg' hi hs hmm hl' => ?_
  have e0 : ns' = setI ns := pw_ext hs (setI_pw ns) fun j => by rw [hmm j, mem_setI]; exact decide_eq_true_iff
  subst e0
  have hlen : ((setI ns).map V.int).length ≤ sizeLine := by rw [List.length_map, hl', sizeLine_eq]; omega
  have hn : H1 p = none := I2.hok.fresh hp
  have J : Inv X pins σ (upd H1 p (.lst ((setI ns).map V.int))) { s2 with heap := s'.heap, gens := s'.gens, drawn := s'.drawn, toks := s'.toks } :=
    I2.call (ch := []) (Un.laid k hp hn) (I2.hok.laid k hp ⟨hlen, out.toList, c2, vals_of_ints hi, hg'⟩) (by rw [g]; exact I2.bare) (fun _ z => nomatch z)
  have e : s' = { s2 with heap := s'.heap, gens := s'.gens, drawn := s'.drawn, toks := s'.toks } := by
    clear I2 R2 J hs2
    cases s'
    cases s2
    cases o
    rfl
  rw [e]
  exact ⟨.ref p, _, J, rfl, q1 p hn⟩
end
end VS
namespace VS
open PySem L2
def isIn : D → Option Int
  | .int i => some i
  | _ => none
def allI : List D → Option (List Int)
  | [] => some []
  | .int i :: r => (allI r).map (i :: ·)
  | _ => none
def sortSetD : D → Re D
  | .list ds => match allI ds with
    | some ns => if ns.length < 60 then .ok (.list ((setI ns).map PyData.int)) else .no
    | none => .no
  | _ => .no
theorem rpA_ints {K : PySem.W.Frag} {F : Addr → Prop} {H : Hp} : ∀ {vs : List V} {ds : List D} {ns : List Int}, RpA K F H vs ds → allI ds = some ns → vs = ns.map V.int
  | _, _, _, .nil, e => by cases e; rfl
  | _, _, _, .cons (d := d) h t, e => by
    cases d with
    | int i =>
      unfold allI at e
      cases er : allI _ with
      | none => rw [er] at e; cases e
      | some r =>
        rw [er] at e
        cases e
        cases h
        rw [rpA_ints t er]
        rfl
    | _ => cases e
theorem rpA_intD {K : PySem.W.Frag} {F : Addr → Prop} {H : Hp} : ∀ ns : List Int, RpA K F H (ns.map V.int) (ns.map PyData.int)
  | [] => .nil
  | k :: r => .cons (.int k) (rpA_intD r)
section
variable {X : Cx} {W : XW} {P : PP} {a : Expr} {fa : Dl → Re D} {p p2 q pos : Pos}
theorem vp_sortSet (hP : PNew X.K P) (hg : Gl X "sorted") (hm : X.mg "sorted" = none) (hg2 : Gl X "set") (hm2 : X.mg "set" = none) (ha : VB X W a fa) (hc : X.calm = true := by rfl)
    (na : starEach [a] X.env = (false, eval a X.env) :: starEach [] X.env := by rfl)
    (nb : starEach [.Call (.Name "set" p2) [a] [] q] X.env = (false, eval (.Call (.Name "set" p2) [a] [] q) X.env) :: starEach [] X.env := by rfl) :
    VP X W P (.Call (.Name "sorted" p) [.Call (.Name "set" p2) [a] [] q] [] pos) (d1 sortSetD fa) := PE.imp (pe_sortSet hg hm hg2 hm2 ha hc na nb) fun σ H Q ⟨F, δ, s, h⟩ =>
  ⟨F, δ, s, Go.bnd hP.toPMon h fun d x F1 H1 e1 g1 px h1 => by
    unfold sortSetD at h1
    split at h1
    · split at h1
      · rename_i ns en
        split at h1
        · rename_i hl
          obtain ⟨l, xs, rfl, hl', t⟩ := px
          have e := rpA_ints t en
          subst e
          exact ⟨l, ns, rfl, .inl hl', hl, fun q hn => h1.newL hP (g1.dom s.dom) hn (rpA_intD _)⟩
        · exact h1.elim
      · exact h1.elim
    · exact h1.elim⟩
end
@[simp] theorem allI_map : ∀ ns : List Int, allI (ns.map PyData.int) = some ns
  | [] => rfl
  | k :: r => by
    show (allI (r.map PyData.int)).map (k :: ·) = some (k :: r)
    rw [allI_map r]
    rfl
theorem ev_sortSet (ns : List Int) (h : ns.length < 60) : sortSetD (.list (ns.map PyData.int)) = .ok (.list ((setI ns).map PyData.int)) := by
  show (match allI (ns.map PyData.int) with | some ns => if ns.length < 60 then Re.ok (PyData.list ((setI ns).map PyData.int)) else .no | none => .no) = _
  rw [allI_map]
  exact if_pos h
end VS
end
section
namespace VS
open PySem PySem.Spec PyProof.Rows L2
/-! ### d.update(d2), keys cells: pairs of small whole numbers -/
abbrev cellH (w : World) (P : Program) (k : List Key) : Int := (tupleKind (mixKind P w)).hash k
def cellHI (c r : Nat) : Int := reduceHash (Builtin.Tuple.tupleHashOf [hashInt c, hashInt r])
theorem cellH_eq (w : World) (P : Program) (c r : Nat) : cellH w P [.inl (c : Int), .inl (r : Int)] = cellHI c r := rfl
def gridN : List (Nat × Nat) := (List.range 16).flatMap fun c => (List.range 16).map fun r => (c, r)
def gridHs : List Int := [-8458139203682520985, -1950498447580522560, 7204814214171964562, -4734289103435588629, 1773351652666409796, -3119722376306286570, -1010439003188656273, -5903513032161352639, 604127723940645786, -4288946305032050580, -2179662931914420283, 4327977824187578142, -565096204785118224, 5942544551316880201, 1049470522344183835, 3158753895461814132, -5164621852614943976, 8389048192121911274, -3550055125485641917, -1440771752368011620, -6333845781340707986, 173794974761290439, -4719279054211405927, -2609995681093775630, 3897645075008222795, -995428953964473571, 5512211802137524854, -3779219609819539640, 2728421146282458785, -2164652882690237581, 4342987873411760844, 6452271246529391141, 4685526799349444076, 6794810172467074373, 1901736143494378007, 8409376899596376432, 3516302870623680066, -8422800446983873125, -6313517073866242828, 7240152970870612422, -4698950346736940769, 8854719697999914481, -7482741002592006838, 6070929042144848412, -5868174275462704779, 639466480639293646, -8651964931317770848, -2144324175215772423, 2248468952609198383, 8756109708711196808, 3863035679738500442, 5972319052856130739, 1079245023883434373, 7586885779985432798, -4352217537622120393, 4803095124130366729, -7136008193477186462, 6417661851259668788, -5521441466347884403, 3633871195404602719, -8305232122202950472, -1797591366100952047, -6690665395073648413, -4581382021956018116, -6348126469135965181, 159514286966033244, -9131917124991031250, -2624276368889032825, 3883364387212965600, -1009709641759730766, 1099573731357899531, -3793500297614796835, 2714140458487201590, -2178933570485494776, -69650197367864479, 6437990558734133946, 1544916529761437580, 8052557285863436005, -1238874126093628489, 5268766630008369936, -3054609118068388172, 3453031638033610253, -5838399773923454241, 669240982178544184, -4223833046794152182, 2283807709307846243, -7007623702649218251, -499982946547219826, 6007657809554778599, 1114583780582082233, 7622224536684080658, -1669206875272983836, 4838433880829014589, -54640148143681777, 6453000607958316648, 8562283981075946945, -5491666964808633865, 8062003079928221385, -3877100237679331806, 2630540518422666619, -6660890893534397875, -153250137432399450, -5046324166405095816, 1461316589696902609, 3570599962814532906, -1322474066158163460, 5185166689943834965, 292092660971138599, 2401376034088768896, -2491697994883927470, 4015942761218070955, -7923160556389482236, 4358481687155754187, -7580621630451799004, 5973048414285056246, 8082331787402686543, 3189257758429990177, -8749845559177563014, -2242204803075564589, 6913107858676922533, -5025995458930630658, 8527674585806224592, -3411428731801328599, 5743883929951158523, -6195219387656394668, 312421368445603757, -4580652660527092609, -2471369287409462312, 1921423840415508494, 8429064596517506919, 3535990567544810553, -8403112750062742638, 752199911689744484, 7259840667791742909, -4679262649815810282, 8874407394921044968, -7463053305670876351, 6090616739065978899, -5848486578541574292, 7705183466195280958, -8632277234396640361, -2124636478294641936, -7017710507267338302, -510069751165339877, -6675171581329655070, -167530825227656645, -5060604854200353011, -2951321481082722714, 3556319275019275711, -1336754753953420655, 5170886002148577770, -4120545409808486724, 2387095346293511701, -2505978682679184665, 4001662073422813760, 6110945446540444057, 1217871417567747691, 7725512173669746116, 2832438144697049750, -9106665172910503441, -3381654230262078061, 3125986525839920364, -1767087503132776002, 342195869984854295, -4550878158987842071, 1956762597114156354, -2936311431858540012, 3571329324243458413, 5680612697361088710, 787538668388392344, 7295179424490390769, 2402105395517694403, 4511388768635324700, -381685260337371666, 6125955495764626759, -5813147821842926432, 6468494421702309991, -5470608895905243200, 3684703765847243922, -8254399551760309269, 5299270492976545981, -6639832824631007210, -132192068529008785, 9023120593223478337, -2915982724384074854, -7809056753356771220, -1301415997254772795, 807867375862857502, -4085206653109838864, 2422434102992159561, -2470639925980536805, -361356552862906508, 4031436574962064298, -7907666742645488893, 5646003302091366357, -6293100015516186834, 2862212646236300288, -9076890671371252903, -2569249915269254478, -7462323944241950844, -5353040571124320547, 8200629473612534703, -3738473843995018488, -8631547872967714854, -6522264499850084557, -14623743748086132, -4907697772720782498, 1599942983381215927, 5992736111206186733, 8102019484323817030, 3208945455351120664, -8730157862256432527, 4823512182480422723, 6932795555598053020, -5006307762009500171, 8547362282727355079, -3391741034880198112, 5763571626872289010, -6175531690735264181, 7378138354001591069, -4560964963605962122, 1946675792496036303, -7344755619461028191, -837114863359029766, -1271641495715522257, 5235999260386476168, 342925231413779802, 2452208604531410099, -2440865424441286267, 4066775331660712158, -826298697311984208, 1282984675805646089, 7790625431907644514, 2897551402934948148, -9041551914672605043, 4512118130064250207, 6621401503181880504, -5317701814425672687, 8235968230311182563, -3703135087296370628, -3708699342455767950, 2798941413646230475, -2094132615326465891, 4413508140775532534, -479565888197163832, 1629717484920466465, -3263356544052229901, 3244284212049768524, -8694819105557784667, 460493556194702455, 6968134312296700880, 2075060283324004514, 8582701039426002939, -708730372531061555, 5798910383570936870, -6140192934036616321]
theorem gridHs_eq : gridN.map (fun p => cellHI p.1 p.2) = gridHs := by decide +kernel
theorem gridHs_nd : gridHs.Nodup := by decide +kernel
theorem cellHI_inj {c r c' r' : Nat} (h1 : c < 16) (h2 : r < 16) (h3 : c' < 16) (h4 : r' < 16) (e : cellHI c r = cellHI c' r') : c = c' ∧ r = r' := by
  have nd := gridHs_nd
  rw [← gridHs_eq] at nd
  have m1 : (c, r) ∈ gridN := List.mem_flatMap.mpr ⟨c, List.mem_range.mpr h1, List.mem_map.mpr ⟨r, List.mem_range.mpr h2, rfl⟩⟩
  have m2 : (c', r') ∈ gridN := List.mem_flatMap.mpr ⟨c', List.mem_range.mpr h3, List.mem_map.mpr ⟨r', List.mem_range.mpr h4, rfl⟩⟩
  have inj : ∀ (l : List (Nat × Nat)), (l.map (fun p => cellHI p.1 p.2)).Nodup → ∀ p ∈ l, ∀ q ∈ l, cellHI p.1 p.2 = cellHI q.1 q.2 → p = q := by
    intro l
    induction l with
    | nil => intro _ p hp; exact nomatch hp
    | cons x l ih =>
      intro nd p hp q hq e
      rw [List.map_cons, List.nodup_cons] at nd
      rcases List.mem_cons.mp hp with z1 | hp2 <;> rcases List.mem_cons.mp hq with z2 | hq2
      · rw [z1, z2]
      · exact absurd (List.mem_map.mpr ⟨q, hq2, by rw [← z1]; exact e.symm⟩) nd.1
      · exact absurd (List.mem_map.mpr ⟨p, hp2, by rw [← z2]; exact e⟩) nd.1
      · exact ih nd.2 p hp2 q hq2 e
  have := inj gridN nd _ m1 _ m2 e
  exact ⟨congrArg Prod.fst this, congrArg Prod.snd this⟩
def cellK : List Key → Bool
  | [.inl c, .inl r] => decide (0 ≤ c ∧ c < 16 ∧ 0 ≤ r ∧ r < 16)
  | _ => false
theorem cellK_of {k : List Key} (h : cellK k = true) : ∃ c r : Nat, c < 16 ∧ r < 16 ∧ k = [.inl (c : Int), .inl (r : Int)] := by
  unfold cellK at h
  split at h
  · rename_i c r
    have h := of_decide_eq_true h
    refine ⟨c.toNat, r.toNat, by omega, by omega, ?_⟩
    rw [Int.toNat_of_nonneg h.1, Int.toNat_of_nonneg h.2.2.1]
  · cases h
theorem cells_nd (w : World) (P : Program) : ∀ {ks : List (List Key)}, ks.Nodup → (∀ k ∈ ks, cellK k = true) → (ks.map (cellH w P)).Nodup
  | [], _, _ => List.nodup_nil
  | k :: ks, nd, h => by
    rw [List.nodup_cons] at nd
    rw [List.map_cons, List.nodup_cons]
    refine ⟨fun m => ?_, cells_nd w P nd.2 fun q hq => h q (List.mem_cons_of_mem _ hq)⟩
    obtain ⟨q, hq, e⟩ := List.mem_map.mp m
    obtain ⟨c, r, h1, h2, rfl⟩ := cellK_of (h k List.mem_cons_self)
    obtain ⟨c', r', h3, h4, rfl⟩ := cellK_of (h q (List.mem_cons_of_mem _ hq))
    rw [cellH_eq, cellH_eq] at e
    obtain ⟨rfl, rfl⟩ := cellHI_inj h3 h4 h1 h2 e
    exact nd.1 hq
def mergeT (m n : List (List Key × V)) : List (List Key × V) := n.foldl (fun acc p => putK acc p.1 p.2) m
theorem mergeT_len : ∀ (n m : List (List Key × V)), (mergeT m n).length ≤ m.length + n.length
  | [], m => Nat.le_refl _
  | p :: n, m => by
    have a := mergeT_len n (putK m p.1 p.2)
    have b := length_putK m p.1 p.2
    show (mergeT (putK m p.1 p.2) n).length ≤ _
    rw [List.length_cons]
    omega
theorem KT_merge {H : Hp} : ∀ {n : List (List Key × V)} {ws : List (List Key × Addr × Value)} {m : List (List Key × V)} {vs : List (List Key × Addr × Value)}, KT H m vs → KT H n ws → KT H (mergeT m n) (storedAllH vs ws)
  | [], _, m, vs, r, q => by
    cases q
    exact r
  | p :: n, _, m, vs, r, q => by
    cases q with
    | cons h t =>
      rename_i q0 ws'
      have r' := r.put p.1 (b := q0.2.1) h.2.1 h.2.2
      rw [show storedH vs p.1 q0.2.1 q0.2.2 = storedH vs q0.1 q0.2.1 q0.2.2 from by rw [h.1]] at r'
      show KT H (mergeT (putK m p.1 p.2) n) (storedAllH (storedH vs q0.1 q0.2.1 q0.2.2) ws')
      exact KT_merge r' t
theorem KT_keys {H : Hp} : ∀ {n : List (List Key × V)} {ws : List (List Key × Addr × Value)}, KT H n ws → n.map (·.1) = ws.map (·.1)
  | _, _, .nil => rfl
  | _, _, .cons h t => by rw [List.map_cons, List.map_cons, h.1, KT_keys t]
section
variable {X : Cx} {pins : List (Addr × Obj)} {σ : L2.St} {H : Hp} {s : Shared} {a b : Addr} {A : Around} {E : Value → Shared → Prop}
theorem d_updateT {m n : List (List Key × V)} {Q : Value → Shared → Prop} (hu : A.units + 1 < cLine) (I : Inv X pins σ H s) (ea : H a = some (.dT m) ∨ (m = [] ∧ H a = some (.dK []))) (eb : Rd H b (.dT n)) (ne : a ≠ b) (hl : m.length + n.length ≤ sizeLine)
    (hc : m ≠ [] ∨ ∀ p ∈ n, cellK p.1 = true)
    (h : ∀ s', Inv X pins σ (upd H a (.dT (mergeT m n))) s' → Q .none s') : wpAny (model X.prog X.w) A (call (.builtin "dict.update") [.ref a, .ref b]) Q E s := by
  have fa : (a == sysModules) = false ∧ ∃ vs, KT H m vs ∧ s.heap.DictOfH (tupleKind (mixKind X.prog X.w)) a vs := by
    rcases ea with e | ⟨rfl, e⟩
    · obtain ⟨_, hd, vs, rel, dd⟩ := dt_of I.hok e
      exact ⟨hd, vs, rel, dd⟩
    · obtain ⟨hd, dd⟩ := emptyT I (.inl e)
      exact ⟨hd, [], .nil, dd⟩
  obtain ⟨_, hdb, ws, rel2, dd2⟩ := dt_rd I.hok eb
  obtain ⟨hda, vs, rel, dd⟩ := fa
  have mu : Mut (H a) := by
    rcases ea with e | ⟨_, e⟩ <;> rw [e] <;> trivial
  have hnt : ∀ c xs, H c = some (.tup xs) → c ≠ a := fun c xs ec z => by
    subst z
    rcases ea with e | ⟨_, e⟩ <;> (rw [e] at ec; cases ec)
  have kk : n.map (·.1) = ws.map (·.1) := KT_keys rel2
  have hap : vs ≠ [] ∨ ((∀ x ∈ ws, s.TypeIs (.ref x.2.1) "tuple") ∧ (ws.map fun x => (tupleKind (mixKind X.prog X.w)).hash x.1).Nodup) := by
    by_cases hv : vs = []
    · refine .inr ⟨fun x hx => ?_, ?_⟩
      · obtain ⟨_, _, _, _, _, _, _, his, _⟩ := dd2
        obtain ⟨o, its, k, h1, h2, h3, _⟩ := his x hx
        exact ⟨o, h1, h2⟩
      · have nd : (ws.map (·.1)).Nodup := by
          obtain ⟨_, _, _, _, _, _, _, _, nd⟩ := dd2
          exact nd
        have := cells_nd X.w X.prog nd fun k hk => by
          rw [← kk] at hk
          obtain ⟨p, hp, rfl⟩ := List.mem_map.mp hk
          rcases hc with q | q
          · exfalso
            have l := Paired.length rel
            rw [hv] at l
            exact q (List.length_eq_zero_iff.mp l)
          · exact q p hp
        rw [List.map_map] at this
        exact this
    · exact .inl hv
  have l1 := Paired.length rel
  have l2 := Paired.length rel2
  refine call_update_dictH (tupleKind_room_in1 hu) ne hdb dd dd2 hap (by omega) fun h' dd' _ hs => h _ ?_
  obtain ⟨q, es, ep, hq, h2, h3, h4, _, h5⟩ := dd'
  exact d_write (t' := s.toks) I mu hs ⟨q, hq⟩ ⟨Nat.le_trans (mergeT_len n m) hl, hda, _, (KT_merge rel rel2).keeps fun c ys ec => by rw [upd_ne (hnt c ys ec)]; exact ec, q, es, ep, hq, h2, h3, h4, h5⟩
end
def rUpdT : V → List V → Hp → VK → Prop := fun x xs H Q => ∃ (a b : Addr) (m n : List (List Key × V)), x = .ref a ∧ xs = [.ref b] ∧ (H a = some (.dT m) ∨ (m = [] ∧ H a = some (.dK []))) ∧ Rd H b (.dT n) ∧ a ≠ b ∧ m.length + n.length ≤ sizeLine ∧ (m ≠ [] ∨ ∀ p ∈ n, cellK p.1 = true) ∧ Q .non (upd H a (.dT (mergeT m n)))
theorem mt_updT {X : Cx} (hu : X.A.units + 1 < cLine) : MtR X "dict.update" rUpdT := by
  intro pins s σ H x xs v us Q I rx rxs h
  obtain ⟨a, b, m, n, rfl, rfl, ea, eb, ne, hl, hc, q⟩ := h
  cases (show v = Value.ref a from rx)
  cases rxs with
  | cons ry rt =>
    cases rt
    rename_i u
    cases (show u = Value.ref b from ry)
    exact d_updateT hu I ea eb ne hl hc fun s' I' => ⟨.non, _, I', rfl, q⟩
end VS
namespace VS
open PySem L2
def allT (m : List (D × D)) : Bool := m.all fun p => kindK p.1 == some true
def cellD : D → Bool
  | .tuple [.int c, .int r] => decide (0 ≤ c ∧ c < 16 ∧ 0 ≤ r ∧ r < 16)
  | _ => false
theorem cellD_k {k : List Key} (h : cellD (.tuple (k.map kD)) = true) : cellK k = true := by
  match k, h with
  | [.inl c, .inl r], h => exact h
  | [.inl c, .inr r], h => cases h
  | [.inr c, .inl r], h => cases h
  | [.inr c, .inr r], h => cases h
  | [], h => cases h
  | [.inl _], h => cases h
  | [.inr _], h => cases h
  | .inl _ :: .inl _ :: _ :: _, h => cases h
  | .inl _ :: .inr _ :: _ :: _, h => cases h
  | .inr _ :: .inl _ :: _ :: _, h => cases h
  | .inr _ :: .inr _ :: _ :: _, h => cases h
theorem rp_mergeT {K : PySem.W.Frag} {F : Addr → Prop} {H : Hp} : ∀ {n : List (List Key × V)} {es : List (D × D)} {m : List (List Key × V)} {ds : List (D × D)}, RpK K F H (m.map fun p => (PyData.tuple (p.1.map kD), p.2)) ds → RpK K F H (n.map fun p => (PyData.tuple (p.1.map kD), p.2)) es → RpK K F H ((mergeT m n).map fun p => (PyData.tuple (p.1.map kD), p.2)) (mergeD ds es)
  | [], _, m, ds, r, q => by
    cases q
    exact r
  | p :: n, es, m, ds, r, q => by
    cases q with
    | @cons _ _ _ d' ds' h t =>
      show RpK K F H ((mergeT (putK m p.1 p.2) n).map fun p => (PyData.tuple (p.1.map kD), p.2)) (mergeD (putD ds (.tuple (p.1.map kD)) d') ds')
      exact rp_mergeT (rp_putT p.1 r h) t
/-- keys that are tuples: the dict is of that sort, or empty -/
theorem drd_T {K : PySem.W.Frag} {F : Addr → Prop} {H : Hp} {a : Addr} {kvs : List (D × V)} {es : List (D × D)} (hd : DRd H a kvs) (r : RpK K F H kvs es) (hk : allT es = true) (hne : es ≠ []) :
    ∃ n : List (List Key × V), Rd H a (.dT n) ∧ RpK K F H (n.map fun p => (PyData.tuple (p.1.map kD), p.2)) es := by
  have ho : isOb kvs = false := by
    rw [isOb_rp r]
    cases es with
    | nil => rfl
    | cons p q =>
      obtain ⟨k, d⟩ := p
      unfold allT at hk
      rw [List.all_cons, Bool.and_eq_true] at hk
      have hk1 := eq_of_beq hk.1
      cases k with
      | none => cases hk1
      | _ => rfl
  rcases hd.two ho with ⟨n, h, rfl⟩ | ⟨n, h, rfl⟩
  · cases n with
    | nil =>
      cases r
      exact absurd rfl hne
    | cons p n =>
      exfalso
      cases r with
      | cons h t =>
        unfold allT at hk
        rw [List.all_cons, Bool.and_eq_true] at hk
        have := eq_of_beq hk.1
        rw [kindK_K] at this
        cases this
  · exact ⟨n, h, r⟩
section
variable {X : Cx} {W : XW} {pos apos cpos py : Pos} {i : Nat} {y : Str} {e : Expr} {fe : Dl → Re D}
def updA (i : Nat) (f : Dl → Re D) (δ : Dl) : RS := match δ[i]? with
  | some (.ow (.dict kvs)) => if isOb kvs = true then .no else toS (f δ) fun d => match d with
    | .dict es => if allKey kvs = true ∧ allKey es = true ∧ kvs.length + es.length ≤ sizeLine then .nx (δ.set i (.ow (.dict (mergeD kvs es))))
      else if allT kvs = true ∧ allT es = true ∧ es ≠ [] ∧ kvs.length + es.length ≤ sizeLine ∧ (kvs ≠ [] ∨ (es.all fun p => cellD p.1) = true) then .nx (δ.set i (.ow (.dict (mergeD kvs es)))) else .no
    | _ => .no
  | _ => .no
theorem vs_updateA (hu : X.A.units + 1 < cLine) (hy : PE X (.Name y py) (tVar i)) (he : VE X W e fe) (hs : swapsWith (.Call (.Attribute (.Name y py) "update" apos) [e] [] cpos) none pos.line X.env = pure false := by rfl)
    (hbase : attributeBase (.Name y py) "update" X.env (eval (.Name y py) X.env) = eval (.Name y py) X.env := by rfl)
    (hfew : ((backTo cpos (starEach [e] X.env)).all (fun x => !x.1) && (backToKw cpos (keywordEach [] X.env)).all (fun x => x.1.isSome)
      && decide (([e] : List Expr).length + ([] : List Keyword).length + (if ([] : List Keyword).isEmpty then 0 else 1) < 30)) = true := by rfl)
    (hline : (apos.endLine == cpos.line) = true := by rfl) (hst : starEach [e] X.env = (false, eval e X.env) :: starEach [] X.env := by rfl) (hplain : (backTo cpos (starEach [] X.env)).any (·.1) = false := by rfl) :
    VSt X W (.Expr (.Call (.Attribute (.Name y py) "update" apos) [e] [] cpos) pos) (updA i fe) :=
  PS.imp (ps_expr (pe_bm PySem.F.plainAttrs_dict PySem.F.slot_dict_update PySem.F.type_dict_update (MtR.or mt_upd (mt_updT hu)) hy (pa_cons he pa_nil hst) hbase hfew hline hst hplain) hs) fun D σ H ⟨F0, H0, F, δ, s, q⟩ => by
    unfold updA at q
    split at q
    · rename_i kvs ei
      split at q
      · exact q.elim
      rename_i nob
      obtain ⟨a, ea, ho, nf, n0⟩ := s.ow i _ ei
      obtain ⟨u0, hu0, mu0⟩ := ho.there
      have ty : tyV X.K "dict" (.ref a) H := by
        rcases ho with ⟨m, h, _⟩ | ⟨m, h, _⟩ | ⟨C, dx, fs, h, rk⟩
        rotate_left 2
        · exact absurd (by cases rk; rfl) nob
        · exact .inr (.inr (.inl ⟨rfl, .inl ⟨_, h⟩⟩))
        · exact .inr (.inr (.inl ⟨rfl, .inr ⟨_, h⟩⟩))
      refine ⟨_, ea, ty, F, δ, s.e, SO.go (P := pS X.K) s q fun d v F1 H1 e1 g1 r h1 => ?_⟩
      cases d with
      | dict es =>
        simp only at h1
        have nf1 : ¬ F1 a := g1.notF nf (by rw [hu0]; exact fun z => nomatch z)
        have hu1 : H1 a = some u0 := g1.same _ _ hu0
        cases r with
        | @dic b kv2 _ hd fb t =>
        have ne : a ≠ b := fun z => nf1 (z ▸ fb)
        have ho1 : RpO X.K F1 H1 a (.dict kvs) := ho.kept g1.sub g1.kept ((g1.same _ _ hu0).trans hu0.symm)
        split at h1
        · rename_i hc
          obtain ⟨n, eb, tn⟩ := drd_K hd t hc.2.1
          obtain ⟨m, em, tm⟩ : ∃ m : List (Key × V), (H1 a = some (.dK m) ∨ (m = [] ∧ H1 a = some (.dT []))) ∧ RpK X.K F1 H1 (m.map fun p => (kD p.1, p.2)) kvs := by
            rcases ho1 with ⟨m, h, r⟩ | ⟨m, h, r⟩ | ⟨C, dx, fs, h, r⟩
            rotate_left 2
            · exact absurd (by cases r; rfl) nob
            · exact ⟨m, .inl h, r⟩
            · cases m with
              | nil => exact ⟨[], .inr ⟨rfl, h⟩, r⟩
              | cons p m =>
                exfalso
                cases r with
                | cons h t =>
                  have hk := hc.1
                  unfold allKey at hk
                  rw [List.all_cons, Bool.and_eq_true] at hk
                  exact kindK_notF _ (eq_of_beq hk.1)
          have l1 := mergeD_len tm
          have l2 := mergeD_len tn
          rw [List.length_map] at l1 l2
          refine .inl ⟨a, b, m, n, rfl, rfl, em, eb, ne, by omega, ?_⟩
          have kk : Kept F1 H1 (upd H1 a (.dK (mergeK m n))) := kept_upd nf1 hu1 mu0
          obtain ⟨st, s2⟩ := sok_write (s.grow g1) (d' := .dict (mergeD kvs es)) (o' := .dK (mergeK m n)) ei ea (.inl ⟨_, upd_same, (rp_merge tm tn).mono (fun _ x => x) kk⟩)
          exact h1 _ _ _ st s2
        · split at h1
          · rename_i hc
            obtain ⟨n, eb, tn⟩ := drd_T hd t hc.2.1 hc.2.2.1
            obtain ⟨m, em, tm⟩ : ∃ m : List (List Key × V), (H1 a = some (.dT m) ∨ (m = [] ∧ H1 a = some (.dK []))) ∧ RpK X.K F1 H1 (m.map fun p => (PyData.tuple (p.1.map kD), p.2)) kvs := by
              rcases ho1 with ⟨m, h, r⟩ | ⟨m, h, r⟩ | ⟨C, dx, fs, h, r⟩
              rotate_left 2
              · exact absurd (by cases r; rfl) nob
              · cases m with
                | nil => exact ⟨[], .inr ⟨rfl, h⟩, r⟩
                | cons p m =>
                  exfalso
                  cases r with
                  | cons h t =>
                    have hk := hc.1
                    unfold allT at hk
                    rw [List.all_cons, Bool.and_eq_true, kindK_K] at hk
                    exact absurd hk.1 (by decide)
              · exact ⟨m, .inl h, r⟩
            have l1 := mergeD_len tm
            have l2 := mergeD_len tn
            rw [List.length_map] at l1 l2
            have hcc : m ≠ [] ∨ ∀ p ∈ n, cellK p.1 = true := by
              rcases hc.2.2.2.2 with q | q
              · exact .inl fun z => by
                  subst z
                  cases tm
                  exact q rfl
              · refine .inr fun p hp => ?_
                have ek := rpK_keys tn
                rw [List.map_map] at ek
                have : PyData.tuple (p.1.map kD) ∈ es.map (·.1) := by
                  rw [← ek]
                  exact List.mem_map.mpr ⟨p, hp, rfl⟩
                obtain ⟨x, hx, ex⟩ := List.mem_map.mp this
                have := List.all_eq_true.mp q x hx
                rw [ex] at this
                exact cellD_k this
            refine .inr ⟨a, b, m, n, rfl, rfl, em, eb, ne, by omega, hcc, ?_⟩
            have kk : Kept F1 H1 (upd H1 a (.dT (mergeT m n))) := kept_upd nf1 hu1 mu0
            obtain ⟨st, s2⟩ := sok_write (s.grow g1) (d' := .dict (mergeD kvs es)) (o' := .dT (mergeT m n)) ei ea (.inr (.inl ⟨_, upd_same, (rp_mergeT tm tn).mono (fun _ x => x) kk⟩))
            exact h1 _ _ _ st s2
          · exact h1.elim
      | _ => exact h1.elim
    · exact q.elim
end
end VS
end
section
namespace VS
open PySem PySem.Spec PyProof.Rows L2
/-! ### sum of a tuple of ints -/
def rSumT (K : PySem.W.Frag) : List V → Hp → VK → Prop := fun vs H Q => ∃ (a : Addr) (ns : List Int), vs = [V.ref a] ∧ SqT K H a (ns.map V.int) ∧ Q (.int ns.sum) H
theorem cr_sumT {X : Cx} (hc : X.calm = true) : CallR X (.builtin "sum") (rSumT X.K) := by
  intro pins s σ H vs us Q I r h
  obtain ⟨a, ns, rfl, hs, q⟩ := h
  obtain ⟨its, rv, ht, _⟩ := I.tuple hs
  rw [Vals.ref1 r]
  have hi : IntsAre its ns := rv.ints
  obtain ⟨xs, e⟩ := hi.allInts.items
  have hn : numsOf (intItems xs).toList = ns := by rw [← e]; exact hi.numsOf
  rw [nums_intItems] at hn
  obtain ⟨o, ho, hcl, n, hd⟩ := id ht
  have ht2 : s.heap.IsTuple a (intItems xs) := by
    rw [← e]
    exact ⟨o, ho, hcl, n, hd⟩
  refine PySem.W.ktm_sumG (I.ok.hd hc) ht2 fun h' tk t' hk => ?_
  rw [preSum_eq, List.take_of_length_le (by simp), hn]
  exact ⟨.int _, H, I.kept hk, ⟨_, rfl⟩, q⟩
/-! ### {k: v for ..}, the keys tuples: the walk follows the kit's own for ints and texts (HandS/DictComp) -/
theorem d_dictSetT {X : Cx} {pins : List (Addr × Obj)} {σ : L2.St} {H : Hp} {s : Shared} {E : Value → Shared → Prop} {D b : Addr} {kvs : List (List Key × V)} {k : List Key} {v : V} {r : Value} {Q : Unit → Shared → Prop} (hu : X.A.units < cLine) (I : Inv X pins σ H s) (hD : H D = some (.dT kvs)) (hz : kvs.length < sizeLine)
    (eb : H b = some (.tup (k.map kV))) (rv : RelV v r) (h : ∀ s', Inv X pins σ (upd H D (.dT (putK kvs k v))) s' → Q () s') : wpAny (model X.prog X.w) X.A (dictSet D (.ref b) r) Q E s := by
  obtain ⟨z, hd, xs, rel, dd⟩ := dt_of I.hok hD
  have hzx : xs.length ≤ sizeLine := by rw [← Paired.length rel]; exact z
  have hl : (putK kvs k v).length ≤ sizeLine := by have := length_putK kvs k v; omega
  refine wpAny_dictSet_heap (hsz := hzx) hu (key_of I.hok eb) dd fun h' dd' hs => h _ ?_
  obtain ⟨q, es, ep, hq, h2, h3, h4, _, h5⟩ := dd'
  refine d_write I (by rw [hD]; exact True.intro) hs ⟨q, hq⟩ ⟨hl, hd, _, (rel.put k eb rv).keeps fun c ys ec => ?_, q, es, ep, hq, h2, h3, h4, h5⟩
  have ne : c ≠ D := fun z => by
    subst z
    rw [hD] at ec
    cases ec
  rw [upd_ne ne]
  exact ec
section
variable {X : Cx}
def tDcT (wi : TI) (g : TG) (tt : TT) (tk tv : TE) (vs : List Nat) : TE := fun σ H Q => wi σ H fun J H1 => ∀ D, H1 D = none → ∃ W : Nat → Nat → Hp → Prop, (∃ m, W 0 m (upd H1 D (.dT []))) ∧ ∀ i m H, W i m H →
  (J.stop i H ∧ Q (.ref D) H) ∨ (J.go i H ∧ ∃ Nx : Hp → Prop, (∀ H', Nx H' → ∃ m', m' < m ∧ W (i + 1) m' H') ∧ ∀ x H', J.yld i H x H' → g x (wipe σ vs) H' fun σ2 H2 => wipe σ2 vs = wipe σ vs ∧ tt σ2 H2 fun b H3 =>
    if b = true then tk σ2 H3 fun y H4 => tv σ2 H4 fun z H5 => ∃ kvs k c, y = .ref c ∧ H5 c = some (.tup (k.map kV)) ∧ H5 D = some (.dT kvs) ∧ kvs.length < sizeLine ∧ Nx (upd H5 D (.dT (putK kvs k z))) else Nx H3)
theorem pe_dcT {kx vx tg iter : Expr} {ifs : List Expr} {scope : Scope} {own : List (Str × Nat)} {pos : Pos} {wi : TI} {g : TG} {tt : TT} {tk tv : TE} (hu : X.A.units < cLine) (hc : X.calm = true) (hN : X.N.Nodup) (hi : PI X tg iter wi) (ok : BlkOk X.N X.env.scope scope own)
    (hg : ∀ (s : Shared) (H : Hp) (C : Addr) (cl : List (Str × Addr)) (fp : List Addr), PG (X.blk s H scope (compEnvC scope cl C X.env) fp) tg g) (ht : ∀ (s : Shared) (H : Hp) (C : Addr) (cl : List (Str × Addr)) (fp : List Addr), PTs (X.blk s H scope (compEnvC scope cl C X.env) fp) ifs tt)
    (hk : ∀ (s : Shared) (H : Hp) (C : Addr) (cl : List (Str × Addr)) (fp : List Addr), PE (X.blk s H scope (compEnvC scope cl C X.env) fp) kx tk)
    (he : ∀ (s : Shared) (H : Hp) (C : Addr) (cl : List (Str × Addr)) (fp : List Addr), PE (X.blk s H scope (compEnvC scope cl C X.env) fp) vx tv) (hs : ∀ x, foldedSetIterable iter X.env x = pure x := by intro _; rfl) :
    PE X (.DictComp kx vx [⟨tg, iter, ifs, 0⟩] scope pos) (tDcT wi g tt tk tv (own.map (·.2))) := by
  refine ⟨fun pins s σ H Q I h => ?_⟩
  rw [arm_eval_DictComp]
  have hRR : ∀ D C s' m H', Inv X pins σ H' s' → Q (.ref D) H' → s'.heap.Ns C m → FpOk X pins H' C → compPost (model X.prog X.w) X.A X.xe none (EP X pins σ Q) (.ref D) C (.ok .next) s' := fun D C s' m H' I' q hn f => ⟨m, hn, fun h'' sb => by
    obtain ⟨f0, f1, f2, f3, f4, f5⟩ := f
    exact ⟨.ref D, H', I'.turned (t' := s'.toks) (fun b o hb e => (sb.2 b hb).trans e) f0 f1 f3 f4 f5, rfl, q⟩⟩
  have hfree : ∀ y ∈ scope.names, y.2 = .free → ∃ c, X.env.cells.lookup y.1 = some c := fun y hy e => by
    rcases ok.free y hy e with k | k
    · exact I.ok.has _ (.inl k)
    · exact I.ok.has _ (.inr k)
  refine wpAny_comprehension_free rfl hs (closure_ok hfree) ok.kind (fun y hy e => by rw [ok.uniq y hy, e])
    (thn (hi.run pins s σ H _ I h) fun xv s1 hx => thn hx fun itv s2 h2 => ?_)
  obtain ⟨it, fp, tn, J, H2, e, I2, T, st2, f2, q⟩ := h2
  subst e
  refine wpAny_newObj_type (newEnv_comp ?_)
  generalize hD : s2.heap.objs.size = D
  have hDn : H2 D = none := I2.hok.fresh (Nat.le_of_eq hD)
  obtain ⟨W, ⟨m0, w0⟩, turn⟩ := q D hDn
  generalize hs3 : ({ s2 with heap := s2.heap.push { cls := .type "dict", data := .dict #[] } } : Shared) = s3
  have I3 : Inv X pins σ (upd H2 D (.dT [])) s3 := by
    rw [← hs3]
    refine I2.laid (t' := s2.toks) (fun b o e => Heap.get?_push_of_some _ e) (Nat.le_of_eq hD) ?_
    rw [← hD]
    exact dt_empty s2.heap I2.big
  have h3 : s3.heap = s2.heap.push { cls := .type "dict", data := .dict #[] } := by rw [← hs3]
  have sz : ∀ b ∈ fp, b < s2.heap.objs.size := fun b hb => by
    obtain ⟨o, e, _⟩ := T.obj _ _ st2 b hb
    exact Heap.lt_size e
  have f3 : ∀ b ∈ fp, FpOk X pins (upd H2 D (.dT [])) b ∧ b < s3.heap.objs.size := fun b hb => by
    have hlt := sz b hb
    refine ⟨⟨?_, (f2 b hb).2⟩, by rw [h3, Heap.size_push]; exact Nat.lt_succ_of_lt hlt⟩
    rw [upd_ne (by rw [← hD]; exact Nat.ne_of_lt hlt)]
    exact (f2 b hb).1
  have st3 : tn 0 s3.heap := T.keep _ _ _ st2 fun b _ o e => by rw [h3]; exact Heap.get?_push_of_some _ e
  have I4 := block_start I3 ok hN f3
  have pg := hg s3 (upd H2 D (.dT [])) s3.heap.objs.size (cellsFrom (s3.heap.objs.size + 1) scope.names (cloFrom X.env.cells scope.names [])) fp
  have pt := ht s3 (upd H2 D (.dT [])) s3.heap.objs.size (cellsFrom (s3.heap.objs.size + 1) scope.names (cloFrom X.env.cells scope.names [])) fp
  have pk := hk s3 (upd H2 D (.dT [])) s3.heap.objs.size (cellsFrom (s3.heap.objs.size + 1) scope.names (cloFrom X.env.cells scope.names [])) fp
  have pe := he s3 (upd H2 D (.dT [])) s3.heap.objs.size (cellsFrom (s3.heap.objs.size + 1) scope.names (cloFrom X.env.cells scope.names [])) fp
  show codeAny _ _ (.compStart (.DictComp kx vx [⟨tg, iter, ifs, 0⟩] scope pos) 0 (.ref it) (.ref D) (compEnvC scope (cellsFrom (s3.heap.objs.size + 1) scope.names (cloFrom X.env.cells scope.names [])) s3.heap.objs.size X.env)) (compPost (model X.prog X.w) X.A X.xe none (EP X pins σ Q) (.ref D) s3.heap.objs.size) { s3 with heap := pushCells (s3.heap.push { cls := .type "dict", data := .dict #[] }) scope.names }
  have nfp : ∀ b ∈ fp, (upd H2 D (.dT [])) b = none := fun b hb => (f3 b hb).1.1
  generalize hce : compEnvC scope (cellsFrom (s3.heap.objs.size + 1) scope.names (cloFrom X.env.cells scope.names [])) s3.heap.objs.size X.env = ce at I4 pg pt pk pe ⊢
  have cL : ce.locals = s3.heap.objs.size := by subst hce; rfl
  generalize hH3 : upd H2 D (.dT []) = H3 at I3 I4 pg pt pk pe w0 nfp f3
  generalize hs4 : ({ s3 with heap := pushCells (s3.heap.push { cls := .type "dict", data := .dict #[] }) scope.names } : Shared) = s4 at I4 ⊢
  have st4 : tn 0 s4.heap := T.keep _ _ _ st3 fun b _ o e => by rw [← hs4]; exact pushCells_keeps _ _ _ _ (Heap.get?_push_of_some _ e)
  have stat : ∀ {σ' : L2.St} {H' : Hp} {s' : Shared}, Inv (X.blk s3 H3 scope ce fp) [] σ' H' s' → (∀ b ∈ fp, H' b = none) → ∀ b ∈ fp, FpOk (X.blk s3 H3 scope ce fp) [] H' b := fun {σ' H' s'} I' hn b hb =>
    ⟨hn b hb, (I'.ok.exf b hb).1, I'.ok.exfs b hb, .inl hb, fun x c e => (I'.ok.exf b hb).2 x c e, fun p hp => absurd (show p ∈ ([] : List (Addr × Obj)) ++ [] from hp) (by simp)⟩
  have loop : codeAny (model X.prog X.w) X.A (.compLoop (.DictComp kx vx [⟨tg, iter, ifs, 0⟩] scope pos) 0 (.ref it) (.ref D) ce) (compPost (model X.prog X.w) X.A X.xe none (EP X pins σ Q) (.ref D) s3.heap.objs.size) s4 := by
    refine compLoop_anyD (fun n s' => ∃ i H', Inv (X.blk s3 H3 scope ce fp) [] (wipe σ (own.map (·.2))) H' s' ∧ tn i s'.heap ∧ (∀ b ∈ fp, H' b = none) ∧ W i n H') ?_ m0 ⟨0, H3, I4, st4, nfp, w0⟩
    rintro n s5 ⟨i, H5, I5, st5, n5, w5⟩
    rcases turn i n H5 w5 with ⟨stop, qq⟩ | ⟨go, Nx, hNx, step⟩
    · have td := T.done (X.blk s3 H3 scope ce fp) rfl rfl rfl hc i [] s5 _ H5 (fun _ _ => False) I5 (stat I5 n5) st5 stop
      refine thnF td fun r s6 ⟨hr, I6⟩ => ?_
      subst hr
      have I7 : Inv X pins σ H5 s6 := I3.call' (ch := fp) I6.os I6.base I6.hok I6.bare fun b hb => ⟨(f3 b hb).1.2.2.2.1, (f3 b hb).1.2.1, (f3 b hb).1.2.2.2.2.1, (f3 b hb).1.2.2.2.2.2⟩
      have nC : H5 s3.heap.objs.size = none := by
        have z : H5 ce.locals = none := I6.free
        rw [cL] at z
        exact z
      obtain ⟨m, hn, _⟩ := I6.loc
      have hn : s6.heap.Ns ce.locals m := hn
      rw [cL] at hn
      exact hRR D s3.heap.objs.size s6 m H5 I7 qq hn (I3.fpOk (Nat.le_refl _) nC)
    · have ti := T.item (X.blk s3 H3 scope ce fp) rfl rfl rfl hc i [] s5 _ H5 (fun _ _ => False) I5 (stat I5 n5) st5 go
      refine thnF ti fun r s6 ⟨u, hr, h6⟩ => ?_
      subst hr
      refine thnF h6 fun _ s7 ⟨x, H7, I7, r7, y7, st7, n7⟩ => ?_
      have I7' := I7.pinned (stat I7 n7) (T.obj _ _ st7)
      refine thnF (pg.run _ s7 _ H7 x u _ I7' r7 (step x H7 y7)) fun _ s8 ⟨σ8, H8, I8, hw8, q8⟩ => ?_
      refine thnF (pt.run _ s8 σ8 H8 _ I8 q8) fun b s9 ⟨H9, I9, q9⟩ => ?_
      have fin : ∀ {s' : Shared} {H' : Hp}, Inv (X.blk s3 H3 scope ce fp) ([] ++ pinsAt fp s7.heap) σ8 H' s' → Nx H' → ∃ m, m < n ∧ ∃ i H', Inv (X.blk s3 H3 scope ce fp) [] (wipe σ (own.map (·.2))) H' s' ∧ tn i s'.heap ∧ (∀ b ∈ fp, H' b = none) ∧ W i m H' := fun {s' H'} I' nx => by
        obtain ⟨m', hm, w'⟩ := hNx H' nx
        have pin' : ∀ b ∈ fp, ∀ o, s7.heap.get? b = some o → s'.heap.get? b = some o ∧ H' b = none := fun b hb o e =>
          let z := I'.pin (b, o) (List.mem_append_right _ (List.mem_append_right _ (mem_pinsAt hb e)))
          ⟨z.1, z.2.1⟩
        have hl : (wipe σ (own.map (·.2))).length = σ8.length := by rw [← hw8, wipe_length]
        refine ⟨m', hm, i + 1, H', (I'.unpinned (pins := [])).weak hl (fun j v e => ?_), T.keep _ _ _ st7 fun b hb o e => (pin' b hb o e).1, fun b hb => ?_, w'⟩
        · rw [← hw8] at e
          exact (wipe_some e).1
        · obtain ⟨o, e, _⟩ := T.obj _ _ st7 b hb
          exact (pin' b hb o e).2
      cases b with
      | false =>
        simp only [Bool.false_eq_true, if_false] at q9 ⊢
        exact fin I9 q9
      | true =>
        simp only [if_true] at q9 ⊢
        refine thnF (pk.run _ s9 σ8 H9 _ I9 q9) fun z s10 ⟨yk, H10, I10, r10, q10⟩ => ?_
        refine thnF (pe.run _ s10 σ8 H10 _ I10 q10) fun z2 s11 ⟨yv, H11, I11, r11, kvs, k, c, ek, hc11, hD11, hz11, nx⟩ => ?_
        subst ek
        cases (show z = Value.ref c from r10)
        exact d_dictSetT (X := X.blk s3 H3 scope ce fp) hu I11 hD11 hz11 hc11 r11 fun s12 I12 => fin I12 nx
  exact codeAny_compStart_dict loop (T.self X.A 0 _ _ _ st4 loop)
end
end VS
namespace VS
open PySem L2
def sumA : List D → Re D
  | [.list xs] => sumD [.list xs]
  | [.tuple xs] => (ofO (intsOf xs)).bnd fun bs => .ok (.int bs.sum)
  | _ => .no
section
variable {X : Cx} {W : XW} {P : PP} {e : Expr} {fs : Dl → Re (List D)} {pos p : Pos}
theorem cg_sumA : CallG X W (pS X.K) RpB (fun vs H Q => rSum X.K vs H Q ∨ rSumT X.K vs H Q) sumA := by
  intro F H vs ds Q dm r h
  unfold sumA at h
  split at h
  · exact .inl (cg_sum F H vs _ Q dm r h)
  · rename_i xs
    refine .inr ?_
    cases r with
    | cons r rr =>
      cases rr
      obtain ⟨a, ys, rfl, ha, t⟩ := r
      cases e : intsOf xs with
      | none => rw [e] at h; exact h.elim
      | some bs =>
        rw [e] at h
        rw [intsOf_map e] at t
        refine ⟨a, bs, rfl, ?_, Go.val h (.int _)⟩
        rw [← t.ints]
        exact ha
  · exact h.elim
theorem ve_sumA (hc : X.calm = true) (hg : Gl X "sum") (hm : X.mg "sum" = none) (ha : VA X W RpB [e] fs) (he : starEach [e] X.env = (false, eval e X.env) :: starEach [] X.env := by rfl) : VE X W (.Call (.Name "sum" p) [e] [] pos) (dA fs sumA) := vp_callB pS_mon (CallR.or (cr_sum hc) (cr_sumT hc)) cg_sumA hg hm (by decide +kernel) ha (by decide) (by decide) he
end
/-! the comprehension, by values -/
def dcTL (b : Bd) (t : Dl → Re Bool) (fk fv : Dl → Re D) (δ : Dl) : List D → List (D × D) → Re (List (D × D))
  | [], acc => .ok acc
  | d :: ds, acc => match b d δ with
    | none => .no
    | some δ1 => (nxR (t δ1)).bnd fun c => if c = true then (nxR (fk δ1)).bnd fun k => (nxR (fv δ1)).bnd fun v => if kindK k = some true then dcTL b t fk fv δ ds (putD acc k v) else .no else dcTL b t fk fv δ ds acc
def dcTD (vs : List Nat) (items : Dl → Re (List D)) (b : Bd) (t : Dl → Re Bool) (fk fv : Dl → Re D) (δ : Dl) : Re D :=
  (items δ).bnd fun ds => if ds.length ≤ sizeLine then (dcTL b t fk fv (wipeD δ vs) ds []).bnd fun m => .ok (.dict m) else .no
theorem dcTL_ok {b : Bd} {t : Dl → Re Bool} {fk fv : Dl → Re D} {δ : Dl} {d : D} {ds : List D} {acc : List (D × D)} {r : Re (List (D × D))} (h : dcTL b t fk fv δ (d :: ds) acc = r) (nn : r ≠ .no) : ∃ δ1 c, b d δ = some δ1 ∧ t δ1 = .ok c ∧
    ((c = true ∧ ∃ k v, fk δ1 = .ok k ∧ fv δ1 = .ok v ∧ kindK k = some true ∧ dcTL b t fk fv δ ds (putD acc k v) = r) ∨ (c = false ∧ dcTL b t fk fv δ ds acc = r)) := by
  unfold dcTL at h
  cases eb : b d δ with
  | none => rw [eb] at h; exact (nn h.symm).elim
  | some δ1 =>
    rw [eb] at h
    cases et : t δ1 with
    | ex x => simp only [et, nxR, bnd_no] at h; exact (nn h.symm).elim
    | no => simp only [et, nxR, bnd_no] at h; exact (nn h.symm).elim
    | ok c =>
      simp only [et, nxR, bnd_ok] at h
      refine ⟨δ1, c, rfl, et, ?_⟩
      cases c with
      | false => rw [if_neg Bool.false_ne_true] at h; exact .inr ⟨rfl, h⟩
      | true =>
        rw [if_pos rfl] at h
        cases ek : fk δ1 with
        | ex x => simp only [ek, nxR, bnd_no] at h; exact (nn h.symm).elim
        | no => simp only [ek, nxR, bnd_no] at h; exact (nn h.symm).elim
        | ok k =>
          simp only [ek, nxR, bnd_ok] at h
          cases ev : fv δ1 with
          | ex x => simp only [ev, nxR, bnd_no] at h; exact (nn h.symm).elim
          | no => simp only [ev, nxR, bnd_no] at h; exact (nn h.symm).elim
          | ok v =>
            simp only [ev, nxR, bnd_ok] at h
            split at h
            · rename_i kk
              exact .inl ⟨rfl, k, v, rfl, rfl, kk, h⟩
            · exact (nn h.symm).elim
theorem dcTL_ex {b : Bd} {t : Dl → Re Bool} {fk fv : Dl → Re D} {δ : Dl} {x : Xn} : ∀ (ds : List D) (acc : List (D × D)), dcTL b t fk fv δ ds acc ≠ .ex x
  | [], acc => fun h => nomatch h
  | d :: ds, acc => fun h => by
    obtain ⟨δ1, c, _, _, q⟩ := dcTL_ok h (fun z => nomatch z)
    rcases q with ⟨_, k, v, _, _, _, q⟩ | ⟨_, q⟩
    · exact dcTL_ex ds _ q
    · exact dcTL_ex ds _ q
section
variable {X : Cx} {W : XW} {P : PP} {pos : Pos}
theorem t_dcT {ts vs : List Nat} {fi : Dl → Re (List D)} {b : Bd} {t : Dl → Re Bool} {fk fv : Dl → Re D} {K : PySem.W.Frag} (hP : POwn K P) (hts : ∀ j ∈ ts, j ∈ vs) {σ : L2.St} {H : Hp} {Q : VK} (h : tP K W P (dcTD vs fi b t fk fv) σ H Q) :
    tDcT (tI K W fi) (tG K ts b) (tT K XW0 t) (tP K XW0 (pS K) fk) (tP K XW0 (pS K) fv) vs σ H Q := by
  obtain ⟨F, δ, s, h⟩ := h
  refine ⟨F, δ, s, ?_⟩
  change ReW W F H ((fi δ).bnd _) _ at h
  cases ef : fi δ with
  | no => rw [ef] at h; exact h
  | ex x => rw [ef] at h; exact h
  | ok ds =>
    rw [ef] at h
    rw [bnd_ok] at h
    intro J F1 H1 g1 w D0 hD
    split at h
    · rename_i hsz
      cases eall : dcTL b t fk fv (wipeD δ vs) ds [] with
      | no => rw [eall] at h; exact h.elim
      | ex x => exact (dcTL_ex ds [] eall).elim
      | ok all =>
        rw [eall] at h
        rw [bnd_ok] at h
        refine ⟨fun i m H' => m = ds.length - i ∧ i ≤ ds.length ∧ ∃ F' acc ys, Grow F1 H1 F' H' ∧ H' D0 = some (.dT acc) ∧ ¬ F' D0 ∧ RpK K F' H' (acc.map fun p => (PyData.tuple (p.1.map kD), p.2)) ys ∧ acc.length ≤ i ∧ dcTL b t fk fv (wipeD δ vs) (ds.drop i) ys = .ok all, ⟨ds.length, by simp, Nat.zero_le _, F1, [], [], Grow.upd0 hD, upd_same, fun f => g1.dom s.dom _ f hD, .nil, Nat.le_refl _, by simpa using eall⟩, ?_⟩
        rintro i m H' ⟨rfl, hle, F', acc, ys, g2, hacc, nf, ra, hl, ez⟩
        have s1 := ((s.grow g1).grow g2)
        by_cases hlt : i < ds.length
        · refine .inr ⟨w.go F' H' i g2.stay hlt, fun H3 => i + 1 ≤ ds.length ∧ ∃ F' acc ys, Grow F1 H1 F' H3 ∧ H3 D0 = some (.dT acc) ∧ ¬ F' D0 ∧ RpK K F' H3 (acc.map fun p => (PyData.tuple (p.1.map kD), p.2)) ys ∧ acc.length ≤ i + 1 ∧ dcTL b t fk fv (wipeD δ vs) (ds.drop (i + 1)) ys = .ok all, fun H3 ⟨a, c⟩ => ⟨ds.length - (i + 1), by omega, rfl, a, c⟩, fun x H2 y => ?_⟩
          obtain ⟨F2, g3, rx⟩ := w.yld F' H' i x H2 ds[i] g2.stay s1.dom (List.getElem?_eq_getElem hlt) y
          rw [List.drop_eq_getElem_cons hlt] at ez
          obtain ⟨δ1, c, eb, et, rest⟩ := dcTL_ok ez (fun z => nomatch z)
          have s2 := (s1.grow g3).wipe vs
          have nfD : ∀ {F3 H3}, Grow F' H' F3 H3 → ¬ F3 D0 := fun g => g.notF nf (by rw [hacc]; exact fun z => nomatch z)
          refine ⟨F2, wipeD δ vs, ds[i], δ1, s2.len, rx, eb, fun σ2 u2 => ⟨u2.wipe hts, ?_⟩⟩
          refine ⟨F2, δ1, s2.upd u2, ?_⟩
          rw [et]
          intro F3 H3 g4
          rcases rest with ⟨ec, kx, vx, ek, ev, kk, er⟩ | ⟨ec, er⟩
          · subst ec
            rw [if_pos rfl]
            refine ⟨F3, δ1, (s2.upd u2).grow g4, ?_⟩
            rw [ek]
            intro ku F4 H4 g5 rk
            refine ⟨F4, δ1, ((s2.upd u2).grow g4).grow g5, ?_⟩
            rw [ev]
            intro vu F5 H5 g6 rv
            have gg := ((g3.trans g4).trans g5).trans g6
            have hacc5 : H5 D0 = some (.dT acc) := gg.same _ _ hacc
            obtain ⟨cc, k', eku, hcc, ekx⟩ := key_T rk kk
            subst ekx
            refine ⟨acc, k', cc, eku, g6.same _ _ hcc, hacc5, by omega, hlt, F5, putK acc k' vu, putD ys (.tuple (k'.map kD)) vx, (g2.trans gg).wrote hD, upd_same, nfD gg, ?_, Nat.le_trans (length_putK acc k' vu) (Nat.succ_le_succ hl), er⟩
            have ku' : Kept F5 H5 (upd H5 D0 (.dT (putK acc k' vu))) := kept_upd (nfD gg) hacc5 trivial
            exact (rp_putT k' (gg.rpK ra) rv).mono (fun _ x => x) ku'
          · subst ec
            rw [if_neg Bool.false_ne_true]
            have gg := g3.trans g4
            exact ⟨hlt, F3, acc, ys, g2.trans gg, gg.same _ _ hacc, nfD gg, gg.rpK ra, by omega, er⟩
        · have ei : i = ds.length := by omega
          subst ei
          rw [List.drop_length] at ez
          cases ez
          obtain ⟨F2, g3, p⟩ := hP.own (g1.trans g2) (by
            cases e0 : H D0 with
            | none => rfl
            | some o => have := g1.same _ _ e0; rw [hD] at this; cases this) nf (show RpO K F' H' D0 (.dict all) from Or.inr (Or.inl ⟨acc, hacc, ra⟩))
          exact .inl ⟨w.stop F' H' g2.stay, h _ _ _ g3 p⟩
    · exact h.elim
/-- keys of either sort -/
def dcAD (vs : List Nat) (items : Dl → Re (List D)) (b : Bd) (t : Dl → Re Bool) (fk fv : Dl → Re D) (δ : Dl) : Re D := match dcD vs items b t fk fv δ with
  | .no => dcTD vs items b t fk fv δ
  | r => r
theorem dcA_T {vs : List Nat} {items : Dl → Re (List D)} {b : Bd} {t : Dl → Re Bool} {fk fv : Dl → Re D} {δ : Dl} (h : dcD vs items b t fk fv δ = .no) : dcAD vs items b t fk fv δ = dcTD vs items b t fk fv δ := by unfold dcAD; rw [h]
theorem dcA_K {vs : List Nat} {items : Dl → Re (List D)} {b : Bd} {t : Dl → Re Bool} {fk fv : Dl → Re D} {δ : Dl} {d : D} (h : dcD vs items b t fk fv δ = .ok d) : dcAD vs items b t fk fv δ = .ok d := by unfold dcAD; rw [h]
theorem vp_dcA {kx vx tg iter : Expr} {ifs : List Expr} {scope : Scope} {own : List (Str × Nat)} {ts : List Nat} {fi : Dl → Re (List D)} {b : Bd} {t : Dl → Re Bool} {fk fv : Dl → Re D} (hP : POwn X.K P) (hu : X.A.units + 1 < cLine) (hc : X.calm = true) (hN : X.N.Nodup) (hi : VI X W tg iter fi) (ok : BlkOk X.N X.env.scope scope own)
    (hg : ∀ (s : Shared) (H : Hp) (C : Addr) (cl : List (Str × Addr)) (fp : List Addr), VG (X.blk s H scope (compEnvC scope cl C X.env) fp) tg ts b) (ht : ∀ (s : Shared) (H : Hp) (C : Addr) (cl : List (Str × Addr)) (fp : List Addr), VTs (X.blk s H scope (compEnvC scope cl C X.env) fp) ifs t)
    (hk : ∀ (s : Shared) (H : Hp) (C : Addr) (cl : List (Str × Addr)) (fp : List Addr), VE (X.blk s H scope (compEnvC scope cl C X.env) fp) XW0 kx fk)
    (he : ∀ (s : Shared) (H : Hp) (C : Addr) (cl : List (Str × Addr)) (fp : List Addr), VE (X.blk s H scope (compEnvC scope cl C X.env) fp) XW0 vx fv) (hts : ∀ j ∈ ts, j ∈ own.map (·.2)) (hs : ∀ x, foldedSetIterable iter X.env x = pure x := by intro _; rfl) :
    VP X W P (.DictComp kx vx [⟨tg, iter, ifs, 0⟩] scope pos) (dcAD (own.map (·.2)) fi b t fk fv) := PE.imp (PE.or (pe_dc hc hN hi ok hg ht hk he hs) (pe_dcT (Nat.lt_of_succ_lt hu) hc hN hi ok hg ht hk he hs)) fun σ H Q h => by
  obtain ⟨F, δ, s, h⟩ := h
  cases e : dcD (own.map (·.2)) fi b t fk fv δ with
  | no =>
    rw [dcA_T e] at h
    exact .inr (t_dcT hP hts ⟨F, δ, s, h⟩)
  | ok d =>
    unfold dcAD at h
    rw [e] at h
    exact .inl (t_dc hP hts ⟨F, δ, s, by rw [e]; exact h⟩)
  | ex x =>
    unfold dcAD at h
    rw [e] at h
    exact .inl (t_dc hP hts ⟨F, δ, s, by rw [e]; exact h⟩)
end
@[simp] theorem ev_dcT (vs : List Nat) (items : Dl → Re (List D)) (b : Bd) (t : Dl → Re Bool) (fk fv : Dl → Re D) (δ : Dl) : dcTD vs items b t fk fv δ =
  (items δ).bnd fun ds => if ds.length ≤ sizeLine then (dcTL b t fk fv (wipeD δ vs) ds []).bnd fun m => .ok (.dict m) else .no := Eq.trans rfl (Eq.refl _)
end VS
end
section
namespace VS
open PySem PySem.Spec PyProof.Rows L2
/-! ### classes, for the printed texts -/
/-- where the classes stand -/
class Cl where
  f : Str → Nat
/-- a class's body -/
def clsB (s : Stmt) : List Stmt := match s with
  | .ClassDef _ _ _ b _ _ _ _ _ _ _ => b
  | _ => []
/-- __init__, its mark as the first slot -/
def fnIe (b : Dl → RS) (m : Nat) (c : Nat) (δ : List Sl) : Re D := match δ with
  | .sh (.int a) :: r => fnI b m c a.toNat r
  | _ => .no
noncomputable def mkC (h : List Sl → Re D) : List D → Re D := mkD fun a δ => h (.sh (.int (a : Nat)) :: δ)
theorem mkC_of {h : List Sl → Re D} {ds : List D} {r : Re D} (e : ∀ a : Nat, h (.sh (.int (a : Nat)) :: ds.map .sh) = r) : mkC h ds = r := mkD_of e
section
variable {P : Program} {w : World} {K : PySem.W.Frag} {mg : Str → Option Value} {base : Heap}
theorem fn_zeroI {k : Nat} {ps : List Str} {f C : Addr} {fd : FuncData} (n : Nat) (hn : ∀ vs : List V, vs.length = n + 1 → vs.length = ps.length) : FnOk P w K mg base (L2.CX P w) k f fd ps (SpI K mg C n fun _ _ => .no) :=
  ⟨fun vs H Q E h => hn vs h.1, fun A outer s H args us vs Q E _ _ _ _ h => by obtain ⟨_, _, _, _, _, _, _, _, _, _, _, _, _, _, z⟩ := h; exact z.elim⟩
end
/-! an attribute is frozen -/
section
variable {K : PySem.W.Frag} {F : Addr → Prop} {H H0 : Hp}
theorem fldsR_frz1 {f : Str} {d : D} : ∀ {fv : List (Str × V)} {fs : List (Str × Bool × D)} {A : List Addr}, FldsR K F H H0 fv fs A → fs.lookup f = some (true, d) → ∃ b A', b ∈ A ∧ FldsR K (plus F b) H H0 fv (putB f (false, d) fs) A' ∧ ∀ x ∈ A', x ∈ A ∧ x ≠ b
  | _, _, _, .nil, h => nomatch h
  | _, _, _, .sh (f := g) r t, h => by
    rw [List.lookup_cons] at h
    unfold putB
    cases e : f == g with
    | true => rw [e] at h; cases h
    | false =>
      rw [e] at h
      have ne : ¬ g = f := fun z => by rw [z] at e; simp at e
      rw [if_neg ne]
      obtain ⟨b, A', hb, t', s⟩ := fldsR_frz1 t h
      exact ⟨b, A', hb, .sh (r.mono (fun _ x => .inl x) Kept.refl) t', s⟩
  | _, _, _, .ow (f := g) (b := y) (A := A0) o nf n0 na t, h => by
    rw [List.lookup_cons] at h
    unfold putB
    cases e : f == g with
    | true =>
      rw [e] at h
      cases h
      have eg : g = f := (eq_of_beq e).symm
      rw [if_pos eg]
      refine ⟨y, A0, List.mem_cons_self, .sh o.froz (t.kept (fun _ z => .inl z) Kept.refl (fun b hb z => ?_) fun _ _ => rfl), fun x hx => ⟨List.mem_cons_of_mem _ hx, fun z => na (z ▸ hx)⟩⟩
      rcases z with z | z
      · obtain ⟨_, _, _, nf', _⟩ := t.there b hb
        exact nf' z
      · exact na (z ▸ hb)
    | false =>
      rw [e] at h
      have ne : ¬ g = f := fun z => by rw [z] at e; simp at e
      rw [if_neg ne]
      obtain ⟨b, A', hb, t', s⟩ := fldsR_frz1 t h
      have yb : y ≠ b := fun z => na (z ▸ hb)
      refine ⟨b, y :: A', List.mem_cons_of_mem _ hb, .ow (o.kept (fun _ z => .inl z) Kept.refl rfl) (fun z => z.elim nf yb) n0 (fun z => na (s y z).1) t', fun x hx => ?_⟩
      rcases List.mem_cons.mp hx with z | z
      · rw [z]
        exact ⟨List.mem_cons_self, yb⟩
      · exact ⟨List.mem_cons_of_mem _ (s x z).1, (s x z).2⟩
def frzF (i : Nat) (f : Str) (δ : Dl) : Dl := match δ[i]? with
  | some (.ob c n fs) => (match fs.lookup f with
    | some (true, d) => δ.set i (.ob c n (putB f (false, d) fs))
    | _ => δ)
  | _ => δ
theorem Sok.frzF {F0 : Addr → Prop} {σ : L2.St} {δ : Dl} (i : Nat) (f : Str) (s : Sok K F0 H0 F H σ δ) : ∃ F', Stay F H F' H ∧ Sok K F0 H0 F' H σ (VS.frzF i f δ) := by
  unfold VS.frzF
  split
  · rename_i c n fs ei
    split
    · rename_i d el
      obtain ⟨v0, A0, ea, ⟨a, C, dx, fv, A1, rfl, hH, eC, en, nfa, n0, t, na, rfl⟩, nb⟩ := s.ob i _ _ _ ei
      obtain ⟨b, A', hb, t', sb⟩ := fldsR_frz1 t el
      obtain ⟨u, hu, mu, nfb, b0⟩ := t.there b hb
      have ab : a ≠ b := fun z => na (z ▸ hb)
      have g : Grow F0 H0 (plus F b) H := s.g.freeze b0 (by rw [hu]; exact fun z => nomatch z)
      refine ⟨plus F b, ⟨fun _ h => .inl h, Kept.refl⟩, ⟨by rw [List.length_set]; exact s.len, g, s.d0, fun x hx => ?_, fun j e' h => ?_, fun j e' h => ?_, fun j e' h => ?_, fun j k d1 e1 b' h1 h2 h3 h4 => ?_, fun j c' n' fs' h => ?_, fun j k c' n' c'' n'' fs' fs'' h1 h2 => ?_⟩⟩
      · rcases hx with hx | hx
        · exact s.dom x hx
        · rw [hx, hu]; exact fun z => nomatch z
      · by_cases m : i = j
        · subst m; obtain ⟨q, _⟩ := get_set_eq h; cases q
        · obtain ⟨v, e1, r⟩ := s.sh j e' (get_set_ne h m)
          exact ⟨v, e1, r.mono (fun _ x => .inl x) Kept.refl⟩
      · by_cases m : i = j
        · subst m; obtain ⟨q, _⟩ := get_set_eq h; cases q
        · obtain ⟨x, e1, ob, nx, nx0⟩ := s.ow j e' (get_set_ne h m)
          refine ⟨x, e1, ob.kept (fun _ x => .inl x) Kept.refl rfl, fun z => ?_, nx0⟩
          rcases z with z | z
          · exact nx z
          · exact nb j e' x (get_set_ne h m) e1 (z ▸ List.mem_cons_of_mem _ hb)
      · by_cases m : i = j
        · subst m; obtain ⟨q, _⟩ := get_set_eq h; cases q
        · exact s.br j e' (get_set_ne h m)
      · by_cases m : i = j
        · subst m; obtain ⟨q, _⟩ := get_set_eq h1; cases q
        · by_cases m2 : i = k
          · subst m2; obtain ⟨q, _⟩ := get_set_eq h2; cases q
          · exact s.ne j k d1 e1 b' (get_set_ne h1 m) (get_set_ne h2 m2) h3 h4
      · by_cases m : i = j
        · subst m
          obtain ⟨q, _⟩ := get_set_eq h
          cases q
          refine ⟨.ref a, a :: A', ea, ⟨a, C, dx, fv, A', rfl, hH, eC, en, fun z => z.elim nfa ab, n0, t', fun z => na (sb a z).1, rfl⟩, fun k d' x h1 h2 h3 => ?_⟩
          by_cases m2 : i = k
          · subst m2; obtain ⟨q, _⟩ := get_set_eq h1; cases q
          · refine nb k d' x (get_set_ne h1 m2) h2 ?_
            rcases List.mem_cons.mp h3 with z | z
            · exact z ▸ List.mem_cons_self
            · exact List.mem_cons_of_mem _ (sb x z).1
        · exact (m (s.ob1 i j _ _ _ _ _ _ ei (get_set_ne h m))).elim
      · by_cases m : i = j
        · by_cases m2 : i = k
          · exact m.symm.trans m2
          · exact (m2 (s.ob1 i k _ _ _ _ _ _ ei (get_set_ne h2 m2))).elim
        · exact (m (s.ob1 i j _ _ _ _ _ _ ei (get_set_ne h1 m))).elim
    · exact ⟨F, Stay.refl, s⟩
  · exact ⟨F, Stay.refl, s⟩
end
section
variable {X : Cx} {W : XW} {st : Stmt} {f : Dl → RS}
theorem vs_frzF (i : Nat) (x : Str) (h : VSt X W st f) : VSt X W st (fun δ => f (frzF i x δ)) := PS.imp h fun D σ H ⟨F0, H0, F, δ, s, q⟩ => by
  obtain ⟨F', g, s'⟩ := s.frzF i x
  exact ⟨F0, H0, F', _, s', q.stay g⟩
end
end VS
end
section
namespace VS
open PySem L2
/-! ### [e for x in xs ..], xs a list of one's own, the results atoms: xs is not frozen -/
def atomD : D → Bool
  | .none => true
  | .bool _ => true
  | .int _ => true
  | .str _ => true
  | _ => false
def atomsL : D → Bool
  | .list ds => ds.all atomD
  | _ => false
theorem atom_any {K : PySem.W.Frag} {F F' : Addr → Prop} {H H' : Hp} {v : V} : ∀ {d : D}, atomD d = true → Rp K F H v d → Rp K F' H' v d
  | _, _, .non => .non
  | _, _, .bl b => .bl b
  | _, _, .int i => .int i
  | _, _, .str x => .str x
  | _, h, .lst _ _ _ => nomatch h
  | _, h, .tup _ _ => nomatch h
  | _, h, .dic _ _ _ => nomatch h
theorem atoms_any {K : PySem.W.Frag} {F F' : Addr → Prop} {H H' : Hp} : ∀ {vs : List V} {ds : List D}, ds.all atomD = true → RpA K F H vs ds → RpA K F' H' vs ds
  | _, _, _, .nil => .nil
  | _, _, h, .cons r t => by
    rw [List.all_cons, Bool.and_eq_true] at h
    exact .cons (atom_any h.1 r) (atoms_any h.2 t)
def lcOB (i : Nat) (f : Dl → Re D) (δ : Dl) : Re D := match δ[i]? with
  | some (.ow (.list _)) => (f (frzD i δ)).bnd fun d => if atomsL d = true then .ok d else .no
  | some (.sh _) => f δ
  | _ => .no
theorem rpB_sub {K : PySem.W.Frag} {F F' : Addr → Prop} {H : Hp} (hF : ∀ x, F x → F' x) {v : V} : ∀ {d : D}, RpB K F H v d → RpB K F' H v d
  | .list _, ⟨a, xs, e, h, t⟩ => ⟨a, xs, e, h, t.mono hF Kept.refl⟩
  | .dict _, ⟨a, xs, e, h, t⟩ => ⟨a, xs, e, h, t.mono hF Kept.refl⟩
  | .none, r => (show Rp K F H v .none from r).mono hF Kept.refl
  | .bool _, r => (show Rp K F H v (.bool _) from r).mono hF Kept.refl
  | .int _, r => (show Rp K F H v (.int _) from r).mono hF Kept.refl
  | .str _, r => (show Rp K F H v (.str _) from r).mono hF Kept.refl
  | .tuple _, ⟨a, xs, e, h, t⟩ => ⟨a, xs, e, h, t.mono hF Kept.refl⟩
theorem grow_back {F F1 : Addr → Prop} {H H1 : Hp} {a : Addr} (ha : H a ≠ none) (g : Grow (plus F a) H F1 H1) : Grow F H (fun b => F b ∨ (F1 b ∧ b ≠ a)) H1 where
  sub := fun b hb => .inl hb
  new := fun b hb => by
    rcases hb with hb | ⟨hb, n⟩
    · exact .inl hb
    · rcases g.new b hb with z | z
      · rcases z with z | z
        · exact .inl z
        · exact (n z).elim
      · exact .inr z
  same := g.same
  dom := fun dm b hb => g.dom (fun x hx => hx.elim (dm x) fun z => z ▸ ha) b (hb.elim (fun z => g.sub b (.inl z)) fun z => z.1)
section
variable {X : Cx} {W : XW} {e : Expr} {f : Dl → Re D} {i : Nat}
theorem vb_lcO (h : VB X W e f) : VB X W e (lcOB i f) := PE.imp h fun σ H Q ⟨F, δ, s, q⟩ => by
  unfold lcOB at q
  split at q
  · rename_i ds ei
    obtain ⟨v, ev, a, xs, rfl, hr, t⟩ := s.sl i _ ei
    have ha : H a ≠ none := by
      rcases hr with hr | ⟨o, hr⟩ <;> (rw [hr]; exact fun z => nomatch z)
    have s' : SokE X.K (plus F a) H σ (frzD i δ) := by
      have ef : frzD i δ = δ.set i (.sh (.list ds)) := by unfold frzD; rw [ei]
      rw [ef]
      refine ⟨by rw [List.length_set]; exact s.len, fun b hb => hb.elim (s.dom b) fun z => z ▸ ha, fun j y e => ?_⟩
      by_cases n : i = j
      · subst n
        obtain ⟨z, _⟩ := get_set_eq e
        subst z
        exact ⟨_, ev, .lst hr (.inr rfl) (t.mono (fun _ x => .inl x) Kept.refl)⟩
      · have r := s.sl j y (get_set_ne e n)
        cases y with
        | no => trivial
        | sh d => obtain ⟨v, e1, r⟩ := r; exact ⟨v, e1, r.mono (fun _ x => .inl x) Kept.refl⟩
        | ow d => obtain ⟨v, e1, r⟩ := r; exact ⟨v, e1, rpB_sub (fun _ x => .inl x) r⟩
        | br ns => exact r
        | ob c n fs => obtain ⟨b, C, dx, fv, e1, hH, ec, r⟩ := r; exact ⟨b, C, dx, fv, e1, hH, ec, r.imp (fun z => z.mono (fun _ x => .inl x) Kept.refl) fun z => rpB_sub (fun _ x => .inl x) z⟩
    refine ⟨plus F a, frzD i δ, s', ?_⟩
    cases er : f (frzD i δ) with
    | no => rw [er] at q; exact q.elim
    | ex x => rw [er] at q; exact fun F1 H1 g => q _ H1 (grow_back ha g)
    | ok d =>
      rw [er, bnd_ok] at q
      split at q
      · rename_i hat
        intro v F1 H1 g p
        refine q v _ H1 (grow_back ha g) ?_
        unfold atomsL at hat
        split at hat
        · obtain ⟨b, ys, e1, r1, t1⟩ := p
          exact ⟨b, ys, e1, r1, atoms_any hat t1⟩
        · cases hat
      · exact q.elim
  · exact ⟨F, δ, s, q⟩
  · exact q.elim
end
end VS
end
section
open PySem PySem.Spec PyProof.Rows L2 VS
namespace KL
/-- the turns that a while is given -/
def fuel : Nat := 1000000
abbrev I_is_whole : Nat := 0
abbrev I_is_screen : Nat := 1
abbrev I_lies_on : Nat := 2
abbrev I_check_lying : Nat := 3
abbrev I_check_own : Nat := 4
abbrev I_lines_by : Nat := 5
abbrev I_Cells___init__ : Nat := 6
abbrev I_Cells_is_one : Nat := 7
abbrev I_Cells_many : Nat := 8
abbrev I_Cells_all_boxes : Nat := 9
abbrev I__is_in : Nat := 10
abbrev I_covered_cells : Nat := 11
abbrev I__check_sides : Nat := 12
abbrev I__begins : Nat := 13
abbrev I_least_cover : Nat := 14
abbrev I__bars : Nat := 15
abbrev I__has : Nat := 16
abbrev I__last_in : Nat := 17
abbrev I_place_for : Nat := 18
abbrev I__law_draws : Nat := 19
abbrev I__law_screen : Nat := 20
abbrev I__law_cells : Nat := 21
abbrev I__law_all : Nat := 22
abbrev I__law_in : Nat := 23
abbrev I_law : Nat := 24
/-- is_whole -/
def b_0 (c : Nat → List Sl → Re PyData) : Dl → RS := (retS (dAnd (d1 (isiD .tInt) (gS 0)) (dAnd (d1 dNot (d1 (isiD .tBool) (gS 0))) (chn leD leD (gS 1) (gS 0) (gS 2)))))
/-- is_screen -/
def b_1 (c : Nat → List Sl → Re PyData) : Dl → RS := (retS (dAnd (d1 (isiD .tTuple) (gS 0)) (dAnd (d2 eqD (dA (argsF [(gS 0)]) lenD) (kC (.int 2))) (dA (argsF [(lcD ([1]) (d1L itemsD (gS 0)) (bN 1) yesT (dA (argsF [(gS 1), (kC (.int 1)), (kC (.int 40))]) (cD (c I_is_whole))))]) allD))))
/-- lies_on -/
def b_2 (c : Nat → List Sl → Re PyData) : Dl → RS := (seqS (ifS (tOr2 (tNot1 (tB1 (d1 (isiD .tTuple) (gS 1)))) (tOr2 (tB1 (d2 neD (dA (argsF [(gS 1)]) lenD) (kC (.int 4)))) (tNot1 (tB1 (dA (argsF [(lcD ([3]) (d1L itemsD (gS 1)) (bN 3) yesT (dA (argsF [(gS 3), (kC (.int 0)), (kC (.int 40))]) (cD (c I_is_whole))))]) allD))))) (retS (kC (.bool false))) nxS) (retS (dA (argsF [(lcD ([2]) (d1L itemsT (kC (.tuple [(.int 0), (.int 1)]))) (bN 2) yesT (dAnd (d2 gtD (d2 ixD (gS 1) (d2 addD (gS 2) (kC (.int 2)))) (kC (.int 0))) (d2 leD (d2 addD (d2 ixD (gS 1) (gS 2)) (d2 ixD (gS 1) (d2 addD (gS 2) (kC (.int 2))))) (d2 ixD (gS 0) (gS 2)))))]) allD)))
/-- check_lying -/
def b_3 (c : Nat → List Sl → Re PyData) : Dl → RS := (seqS (ifS (tNot1 (tB1 (dA (argsF [(gS 0)]) (cD (c I_is_screen))))) (raiS "BadScreen") nxS) (ifS (tOr2 (tNot1 (tB1 (d1 (isiD .tTuple) (gS 1)))) (tOr2 (tB1 (d2 gtD (dA (argsF [(gS 1)]) lenD) (kC (.int 6)))) (tNot1 (tB1 (dA (argsF [(lcD ([2]) (d1L itemsD (gS 1)) (bN 2) yesT (dA (argsF [(gS 0), (gS 2)]) (cD (c I_lies_on))))]) allD))))) (raiS "BadLying") nxS))
/-- check_own -/
def b_4 (c : Nat → List Sl → Re PyData) : Dl → RS := (seqS (dropS (dA (argsF [(gS 0), (gS 1)]) (cD (c I_check_lying)))) (ifS (tNot1 (tB1 (dA (argsF [(gS 0), (gS 2)]) (cD (c I_lies_on))))) (raiS "BadBox") nxS))
/-- lines_by -/
def b_5 (c : Nat → List Sl → Re PyData) : Dl → RS := (seqS (setO 3 (dispD [((kC (.int 0)), (kC (.bool true))), ((d2 ixD (gS 0) (gS 2)), (kC (.bool true)))])) (seqS (forS (d1L itemsD (gS 1)) (bN 4) (seqS (stoS 3 (d2 ixD (gS 4) (gS 2)) (kC (.bool true))) (stoS 3 (d2 addD (d2 ixD (gS 4) (gS 2)) (d2 ixD (gS 4) (d2 addD (gS 2) (kC (.int 2))))) (kC (.bool true))))) (retS (dA (argsF [(gB 3)]) sortedA))))
/-- Cells___init__ -/
def b_6 (cl : Str → Nat) (c : Nat → List Sl → Re PyData) : Dl → RS := (seqS (fstS 0 ((cl "Cells" : Nat) : Int) "screen" (gS 1)) (seqS (fstO 0 ((cl "Cells" : Nat) : Int) "_rows" (dA (argsF []) lstD)) (seqS (forS (dAL (argsF [(d2 ixD (gS 1) (kC (.int 1)))]) rng1D) (bN 3) (fapS 0 ((cl "Cells" : Nat) : Int) "_rows" (lcD ([6]) (dAL (argsF [(d2 ixD (gS 1) (kC (.int 0)))]) rng1D) (bN 6) yesT (dA (argsF [(gS 2), (gS 6), (gS 3)]) (cD (c I__is_in)))))) (seqS (fstO 0 ((cl "Cells" : Nat) : Int) "_sums" (dA (argsF [(d2 repL (dA (argsF [(kC (.int 0))]) lstD) (d2 addD (d2 ixD (gS 1) (kC (.int 0))) (kC (.int 1))))]) lstD)) (fun δ => (forS (d1L itemsD (fgS 0 ((cl "Cells" : Nat) : Int) "_rows")) (bN 4) (seqS (setO 5 (dA (argsF [(kC (.int 0))]) lstD)) (seqS (forS (dAL (argsF [(gS 4)]) enumD) (bT 2 (bCons (bN 6) (bCons (bN 7) bNil))) (appS 5 (d2 addD (d2 ixD (gB 5) (gS 6)) (dIf (tB1 (gS 7)) (kC (.int 1)) (kC (.int 0)))))) (fun δ => (fapS 0 ((cl "Cells" : Nat) : Int) "_sums" (lcD ([8, 9]) (dAL (argsF [(d2 ixD (fgB 0 ((cl "Cells" : Nat) : Int) "_sums") (d1 negI (kC (.int 1)))), (gS 5)]) zipD) (bT 2 (bCons (bN 8) (bCons (bN 9) bNil))) yesT (d2 addD (gS 8) (gS 9)))) (frzD 5 δ))))) (frzF 0 "_rows" δ))))))
/-- Cells_is_one -/
def b_7 (cl : Str → Nat) (c : Nat → List Sl → Re PyData) : Dl → RS := (retS (d2 ixD (d2 ixD (d1 (fldD ((cl "Cells" : Nat) : Int) "_rows") (gS 0)) (d2 ixD (gS 1) (kC (.int 1)))) (d2 ixD (gS 1) (kC (.int 0)))))
/-- Cells_many -/
def b_8 (cl : Str → Nat) (c : Nat → List Sl → Re PyData) : Dl → RS := (seqS (parS [2, 3, 4, 5] (argsM [(false, (d2 ixD (gS 1) (kC (.int 0)))), (false, (d2 ixD (gS 1) (kC (.int 1)))), (false, (d2 addD (d2 ixD (gS 1) (kC (.int 0))) (d2 ixD (gS 1) (kC (.int 2))))), (false, (d2 addD (d2 ixD (gS 1) (kC (.int 1))) (d2 ixD (gS 1) (kC (.int 3)))))])) (seqS (parS [6, 7] (argsM [(false, (d2 ixD (d1 (fldD ((cl "Cells" : Nat) : Int) "_sums") (gS 0)) (gS 3))), (false, (d2 ixD (d1 (fldD ((cl "Cells" : Nat) : Int) "_sums") (gS 0)) (gS 5)))])) (retS (d2 addD (d2 subD (d2 subD (d2 ixD (gS 7) (gS 4)) (d2 ixD (gS 7) (gS 2))) (d2 ixD (gS 6) (gS 4))) (d2 ixD (gS 6) (gS 2))))))
/-- Cells_all_boxes -/
def b_9 (cl : Str → Nat) (c : Nat → List Sl → Re PyData) : Dl → RS := (seqS (setO 3 (dA (argsF []) lstD)) (seqS (forS (dAL (argsF [(d2 addD (d2 subD (d2 ixD (d1 (fldD ((cl "Cells" : Nat) : Int) "screen") (gS 0)) (kC (.int 1))) (gS 2)) (kC (.int 1)))]) rng1D) (bN 4) (extS 3 (lcD ([5]) (dAL (argsF [(d2 addD (d2 subD (d2 ixD (d1 (fldD ((cl "Cells" : Nat) : Int) "screen") (gS 0)) (kC (.int 0))) (gS 1)) (kC (.int 1)))]) rng1D) (bN 5) yesT (dA (argsF [(gS 5), (gS 4), (gS 1), (gS 2)]) tupD)))) (fun δ => (retS (gS 3)) (frzD 3 δ))))
/-- _is_in -/
def b_10 (c : Nat → List Sl → Re PyData) : Dl → RS := (seqS (forS (d1L itemsD (gS 0)) (bN 3) (ifS (tAnd2 (tB1 (chn leD ltD (d2 ixD (gS 3) (kC (.int 0))) (gS 1) (d2 addD (d2 ixD (gS 3) (kC (.int 0))) (d2 ixD (gS 3) (kC (.int 2)))))) (tB1 (chn leD ltD (d2 ixD (gS 3) (kC (.int 1))) (gS 2) (d2 addD (d2 ixD (gS 3) (kC (.int 1))) (d2 ixD (gS 3) (kC (.int 3))))))) (retS (kC (.bool true))) nxS)) (retS (kC (.bool false))))
/-- covered_cells -/
noncomputable def b_11 (cl : Str → Nat) (c : Nat → List Sl → Re PyData) (c2 : Nat → List Sl → Re PyData) : Dl → RS := (seqS (dropS (dA (argsF [(gS 0), (gS 1), (gS 2)]) (cD (c I_check_own)))) (retS (dMth ((cl "Cells" : Nat) : Int) "many" (dA (argsF [(gS 0), (gS 1)]) (mkC (c2 I_Cells___init__))) (argsF [(gS 2)]) (c I_Cells_many))))
/-- _check_sides -/
def b_12 (c : Nat → List Sl → Re PyData) : Dl → RS := (seqS (dropS (dA (argsF [(gS 0), (gS 1)]) (cD (c I_check_lying)))) (ifS (tOr2 (tNot1 (tB1 (dA (argsF [(gS 2), (kC (.int 1)), (d2 ixD (gS 0) (kC (.int 0)))]) (cD (c I_is_whole))))) (tNot1 (tB1 (dA (argsF [(gS 3), (kC (.int 1)), (d2 ixD (gS 0) (kC (.int 1)))]) (cD (c I_is_whole)))))) (raiS "BadSides") nxS))
/-- _begins -/
def b_13 (c : Nat → List Sl → Re PyData) : Dl → RS := (seqS (setO 4 (kC (.dict []))) (seqS (forS (d1L itemsD (dA (argsF [(gS 0), (gS 1), (gS 2)]) (cD (c I_lines_by)))) (bN 5) (updA 4 (dcAD ([6]) (d1L itemsD (dA (argsF [(gS 5), (d2 subD (gS 5) (gS 3))]) tupD)) (bN 6) (tB1 (chn leD leD (kC (.int 0)) (gS 6) (d2 subD (d2 ixD (gS 0) (gS 2)) (gS 3)))) (gS 6) (kC (.bool true))))) (retS (dA (argsF [(gB 4)]) sortedA))))
/-- least_cover -/
noncomputable def b_14 (cl : Str → Nat) (c : Nat → List Sl → Re PyData) (c2 : Nat → List Sl → Re PyData) : Dl → RS := (seqS (dropS (dA (argsF [(gS 0), (gS 1), (gS 2), (gS 3)]) (cD (c I__check_sides)))) (seqS (setS 4 (dA (argsF [(gS 0), (gS 1)]) (mkC (c2 I_Cells___init__)))) (seqS (setS 5 (dA (argsF [(gS 0), (gS 1), (kC (.int 0)), (gS 2)]) (cD (c I__begins)))) (seqS (setO 6 (dA (argsF []) lstD)) (seqS (forS (d1L itemsD (dA (argsF [(gS 0), (gS 1), (kC (.int 1)), (gS 3)]) (cD (c I__begins)))) (bN 7) (extS 6 (lcD ([9]) (d1L itemsD (gS 5)) (bN 9) yesT (dA (argsF [(dMth ((cl "Cells" : Nat) : Int) "many" (gS 4) (argsF [(dA (argsF [(gS 9), (gS 7), (gS 2), (gS 3)]) tupD)]) (c I_Cells_many)), (gS 7), (gS 9)]) tupD)))) (seqS (asgS (bT 3 (bCons (bN 8) (bCons (bN 7) (bCons (bN 9) bNil)))) (dA (argsF [(gB 6)]) minL)) (retS (dA (argsF [(gS 8), (dA (argsF [(gS 9), (gS 7), (gS 2), (gS 3)]) tupD)]) tupD))))))))
/-- _bars -/
def b_15 (cl : Str → Nat) (c : Nat → List Sl → Re PyData) : Dl → RS := (seqS (setS 3 (dMth ((cl "Cells" : Nat) : Int) "all_boxes" (gS 0) (argsF [(gS 1), (gS 2)]) (c I_Cells_all_boxes))) (seqS (setO 4 (dA (argsF []) lstD)) (seqS (forS (d1L itemsD (gS 3)) (bN 5) (ifS (tNot1 (tB1 (dA (argsF [(lcOB 4 (lcD ([6]) (d1L itemsD (gS 4)) (bN 6) yesT (dA (argsF [(gS 5), (gS 6)]) (cD (c I__has)))))]) anyD))) (appS 4 (dA (argsF [(gS 0), (gS 5)]) (cD (c I__last_in)))) nxS)) (seqS (forS (d1L itemsD (dA (argsF [(gB 4)]) lstOfD)) (bN 6) (seqS (fun δ => (setS 7 (lcD ([8]) (d1L itemsD (gS 4)) (bN 8) (tB1 (d2 neD (gS 8) (gS 6))) (gS 8))) (frzD 4 δ)) (ifS (tB1 (dA (argsF [(lcD ([5]) (d1L itemsD (gS 3)) (bN 5) yesT (dA (argsF [(lcD ([8]) (d1L itemsD (gS 7)) (bN 8) yesT (dA (argsF [(gS 5), (gS 8)]) (cD (c I__has))))]) anyD))]) allD)) (setS 4 (gS 7)) nxS))) (retS (dA (argsF [(gB 4)]) sortedA))))))
/-- _has -/
def b_16 (c : Nat → List Sl → Re PyData) : Dl → RS := (retS (dAnd (chn leD ltD (d2 ixD (gS 0) (kC (.int 0))) (d2 ixD (gS 1) (kC (.int 0))) (d2 addD (d2 ixD (gS 0) (kC (.int 0))) (d2 ixD (gS 0) (kC (.int 2))))) (chn leD ltD (d2 ixD (gS 0) (kC (.int 1))) (d2 ixD (gS 1) (kC (.int 1))) (d2 addD (d2 ixD (gS 0) (kC (.int 1))) (d2 ixD (gS 0) (kC (.int 3)))))))
/-- _last_in -/
def b_17 (cl : Str → Nat) (c : Nat → List Sl → Re PyData) : Dl → RS := (seqS (forS (dAL (argsF [(d2 subD (d2 addD (d2 ixD (gS 1) (kC (.int 1))) (d2 ixD (gS 1) (kC (.int 3)))) (kC (.int 1))), (d2 subD (d2 ixD (gS 1) (kC (.int 1))) (kC (.int 1))), (d1 negI (kC (.int 1)))]) rng3D) (bN 2) (forS (dAL (argsF [(d2 subD (d2 addD (d2 ixD (gS 1) (kC (.int 0))) (d2 ixD (gS 1) (kC (.int 2)))) (kC (.int 1))), (d2 subD (d2 ixD (gS 1) (kC (.int 0))) (kC (.int 1))), (d1 negI (kC (.int 1)))]) rng3D) (bN 3) (ifS (tB1 (dMth ((cl "Cells" : Nat) : Int) "is_one" (gS 0) (argsF [(dA (argsF [(gS 3), (gS 2)]) tupD)]) (c I_Cells_is_one))) (retS (dA (argsF [(gS 3), (gS 2)]) tupD)) nxS))) (retS (kC .none)))
/-- place_for -/
noncomputable def b_18 (cl : Str → Nat) (c : Nat → List Sl → Re PyData) (c2 : Nat → List Sl → Re PyData) : Dl → RS := (seqS (dropS (dA (argsF [(gS 0), (gS 1), (gS 2), (gS 3)]) (cD (c I__check_sides)))) (seqS (setS 4 (dA (argsF [(gS 0), (gS 1)]) (mkC (c2 I_Cells___init__)))) (seqS (forS (d1L itemsD (dMth ((cl "Cells" : Nat) : Int) "all_boxes" (gS 4) (argsF [(gS 2), (gS 3)]) (c I_Cells_all_boxes))) (bN 5) (ifS (tB1 (d2 eqD (dMth ((cl "Cells" : Nat) : Int) "many" (gS 4) (argsF [(gS 5)]) (c I_Cells_many)) (kC (.int 0)))) (retS (dA (argsF [(kC (.str "free")), (gS 5)]) tupD)) nxS)) (retS (dA (argsF [(kC (.str "barred")), (dA (argsF [(dA (argsF [(gS 4), (gS 2), (gS 3)]) (cD (c I__bars)))]) tupAnyD)]) tupD)))))
/-- _law_draws -/
def b_19 (c : Nat → List Sl → Re PyData) : Dl → RS := (seqS (setO 2 (dA (argsF []) lstD)) (seqS (setS 3 (kC (.int 7))) (seqS (forS (d1L itemsD (dScrSl 0 63)) (bN 4) (seqS (setS 5 (dA (argsF [(gS 4)]) absD)) (seqS (setS 3 (d2 modI (dA (argsF [(d2 addD (d2 addD (d2 mulI (gS 3) (kC (.int 48271))) (gS 5)) (kC (.int 11)))]) intD) (kC (.int 2147483647)))) (ifS (tB1 (d2 geD (gS 5) (d2 powI (kC (.int 10)) (kC (.int 18))))) (forS (dAL (argsF [(kC (.int 60))]) rng1D) (bN 6) (ifS (tB1 (d2 gtD (gS 5) (kC (.int 0)))) (seqS (appS 2 (d2 modI (dA (argsF [(gS 5)]) intD) (kC (.int 1009)))) (setS 5 (d2 fdivI (gS 5) (kC (.int 1009))))) nxS)) (appS 2 (d2 modI (d2 fdivI (dA (argsF [(d2 addD (d2 mulI (gS 3) (kC (.int 16807))) (kC (.int 5)))]) intD) (kC (.int 3))) (kC (.int 65521)))))))) (seqS (forS (dAL (argsF [(gS 1)]) rng1D) (bN 6) (ifS (tB1 (d2 ltD (dA (argsF [(gB 2)]) lenD) (gS 1))) (seqS (setS 3 (d2 modI (dA (argsF [(d2 addD (d2 addD (d2 mulI (gS 3) (kC (.int 69621))) (gS 6)) (kC (.int 1)))]) intD) (kC (.int 2147483647)))) (appS 2 (d2 modI (d2 fdivI (dA (argsF [(gS 3)]) intD) (kC (.int 7))) (kC (.int 65521))))) nxS)) (retS (dSl slL (gB 2) noP (someP (gS 1))))))))
/-- _law_screen -/
def b_20 (c : Nat → List Sl → Re PyData) : Dl → RS := (seqS (parS [2, 3] (argsM [(false, (dA (argsF [(d2 addD (kC (.int 1)) (d2 modI (dA (argsF [(d2 ixD (gS 0) (kC (.int 0)))]) intD) (kC (.int 12)))), (d2 addD (kC (.int 1)) (d2 modI (dA (argsF [(d2 ixD (gS 0) (kC (.int 1)))]) intD) (kC (.int 10))))]) tupD)), (true, (dA (argsF []) lstD))])) (seqS (forS (dAL (argsF [(d2 modI (dA (argsF [(d2 ixD (gS 0) (kC (.int 2)))]) intD) (d2 addD (gS 1) (kC (.int 1))))]) rng1D) (bN 4) (seqS (parS [5, 6] (argsM [(false, (d2 modI (dA (argsF [(d2 ixD (gS 0) (d2 addD (kC (.int 3)) (d2 mulI (kC (.int 2)) (gS 4))))]) intD) (d2 ixD (gS 2) (kC (.int 0))))), (false, (d2 modI (dA (argsF [(d2 ixD (gS 0) (d2 addD (kC (.int 4)) (d2 mulI (kC (.int 2)) (gS 4))))]) intD) (d2 ixD (gS 2) (kC (.int 1)))))])) (seqS (parS [7, 8] (argsM [(false, (d2 addD (kC (.int 1)) (d2 modI (d2 fdivI (dA (argsF [(d2 ixD (gS 0) (d2 addD (kC (.int 3)) (d2 mulI (kC (.int 2)) (gS 4))))]) intD) (kC (.int 16))) (d2 ixD (dA (argsF [(kC (.int 4)), (kC (.int 9))]) lstD) (d2 modI (gS 4) (kC (.int 2))))))), (false, (d2 addD (kC (.int 1)) (d2 modI (d2 fdivI (dA (argsF [(d2 ixD (gS 0) (d2 addD (kC (.int 4)) (d2 mulI (kC (.int 2)) (gS 4))))]) intD) (kC (.int 16))) (d2 ixD (dA (argsF [(kC (.int 4)), (kC (.int 9))]) lstD) (d2 modI (d2 fdivI (gS 4) (kC (.int 2))) (kC (.int 2)))))))])) (appS 3 (dA (argsF [(gS 5), (gS 6), (dA (argsF [(gS 7), (d2 subD (d2 ixD (gS 2) (kC (.int 0))) (gS 5))]) min2D), (dA (argsF [(gS 8), (d2 subD (d2 ixD (gS 2) (kC (.int 1))) (gS 6))]) min2D)]) tupD))))) (retS (dA (argsF [(gS 2), (dA (argsF [(gB 3)]) tupOfD)]) tupD))))
/-- _law_cells -/
def b_21 (c : Nat → List Sl → Re PyData) : Dl → RS := (seqS (setO 1 (kC (.dict []))) (seqS (forS (dAL (argsF [(dA (argsF [(gS 0)]) lenD)]) rng1D) (bN 2) (seqS (asgS (bT 4 (bCons (bN 3) (bCons (bN 4) (bCons (bN 5) (bCons (bN 6) bNil))))) (d2 ixD (gS 0) (gS 2))) (forS (dAL (argsF [(gS 3), (d2 addD (gS 3) (gS 5))]) rng2D) (bN 7) (forS (dAL (argsF [(gS 4), (d2 addD (gS 4) (gS 6))]) rng2D) (bN 8) (stoS 1 (dA (argsF [(gS 7), (gS 8)]) tupD) (d2 addD (dGet2 (gB 1) (dA (argsF [(gS 7), (gS 8)]) tupD) (dA (argsF []) lstD)) (dA (argsF [(gS 2)]) lstD))))))) (fun δ => (retS (gS 1)) (frzD 1 δ))))
/-- _law_all -/
def b_22 (c : Nat → List Sl → Re PyData) : Dl → RS := (seqS (setS 3 (dA (argsF []) lstD)) (seqS (forS (dAL (argsF [(d2 addD (d2 subD (d2 ixD (gS 0) (kC (.int 1))) (gS 2)) (kC (.int 1)))]) rng1D) (bN 4) (setS 3 (d2 addD (gS 3) (lcD ([5]) (dAL (argsF [(d2 addD (d2 subD (d2 ixD (gS 0) (kC (.int 0))) (gS 1)) (kC (.int 1)))]) rng1D) (bN 5) yesT (dA (argsF [(gS 5), (gS 4), (gS 1), (gS 2)]) tupD))))) (retS (gS 3))))
/-- _law_in -/
def b_23 (c : Nat → List Sl → Re PyData) : Dl → RS := (seqS (setS 1 (dA (argsF []) lstD)) (seqS (forS (dAL (argsF [(d2 ixD (gS 0) (kC (.int 0))), (d2 addD (d2 ixD (gS 0) (kC (.int 0))) (d2 ixD (gS 0) (kC (.int 2))))]) rng2D) (bN 2) (setS 1 (d2 addD (gS 1) (lcD ([3]) (dAL (argsF [(d2 ixD (gS 0) (kC (.int 1))), (d2 addD (d2 ixD (gS 0) (kC (.int 1))) (d2 ixD (gS 0) (kC (.int 3))))]) rng2D) (bN 3) yesT (dA (argsF [(gS 2), (gS 3)]) tupD))))) (retS (gS 1))))
/-- law -/
def b_24 (c : Nat → List Sl → Re PyData) : Dl → RS := (seqS (setS 1 (dScr 0 (kC (.int 60)) (c I__law_draws))) (seqS (forS (dAL (argsF [(kC (.int 5))]) rng1D) (bN 2) (seqS (asgS (bT 2 (bCons (bN 3) (bCons (bN 4) bNil))) (dA (argsF [(d2 addD (dSl slA (gS 1) (someP (d2 mulI (kC (.int 9)) (gS 2))) noP) (dSl slA (gS 1) noP (someP (d2 mulI (kC (.int 9)) (gS 2))))), (kC (.int 6))]) (cD (c I__law_screen)))) (seqS (setS 5 (dA (argsF [(gS 4)]) (cD (c I__law_cells)))) (forS (dAL (argsF [(kC (.int 5))]) rng1D) (bN 6) (seqS (parS [7, 8] (argsM [(false, (d2 addD (kC (.int 1)) (d2 modI (dA (argsF [(d2 ixD (gS 1) (d2 addD (kC (.int 40)) (gS 6)))]) intD) (d2 ixD (gS 3) (kC (.int 0)))))), (false, (d2 addD (kC (.int 1)) (d2 modI (dA (argsF [(d2 ixD (gS 1) (d2 addD (kC (.int 45)) (gS 6)))]) intD) (d2 ixD (gS 3) (kC (.int 1))))))])) (seqS (setO 9 (dA (argsF []) lstD)) (seqS (forS (d1L itemsD (dA (argsF [(gS 3), (gS 7), (gS 8)]) (cD (c I__law_all)))) (bN 10) (seqS (setS 11 (dA (argsF [(lcD ([15]) (d1L itemsD (dA (argsF [(gS 10)]) (cD (c I__law_in)))) (bN 15) (tB1 (d2 inD (gS 15) (gS 5))) (gS 15))]) lenD)) (seqS (appS 9 (dA (argsF [(gS 11), (d2 ixD (gS 10) (kC (.int 1))), (d2 ixD (gS 10) (kC (.int 0)))]) tupD)) (ifS (tAnd2 (tB1 (d2 eqD (d2 modI (dA (argsF [(d2 addD (d2 addD (d2 ixD (gS 1) (d2 addD (kC (.int 50)) (gS 6))) (d2 ixD (gS 10) (kC (.int 0)))) (d2 mulI (kC (.int 3)) (d2 ixD (gS 10) (kC (.int 1)))))]) intD) (kC (.int 7))) (kC (.int 0)))) (tB1 (d2 neD (dA (argsF [(gS 3), (gS 4), (gS 10)]) (cD (c I_covered_cells))) (gS 11)))) (retS (kC (.bool false))) nxS)))) (seqS (asgS (bT 3 (bCons (bN 11) (bCons (bN 12) (bCons (bN 13) bNil)))) (dA (argsF [(gB 9)]) minL)) (seqS (setS 14 (dA (argsF [(gS 3), (gS 4), (gS 7), (gS 8)]) (cD (c I_least_cover)))) (seqS (ifS (tOr2 (tB1 (d2 neD (gS 14) (dA (argsF [(gS 11), (dA (argsF [(gS 13), (gS 12), (gS 7), (gS 8)]) tupD)]) tupD))) (tOr2 (tB1 (d1 (isiD .tBool) (d2 ixD (gS 14) (kC (.int 0))))) (tB1 (d2 neD (dA (argsF [(gS 3), (gS 4), (d2 ixD (gS 14) (kC (.int 1)))]) (cD (c I_covered_cells))) (gS 11))))) (retS (kC (.bool false))) nxS) (ifS (tB1 (d2 neD (d2 eqD (gS 11) (kC (.int 0))) (d2 eqD (d2 ixD (dA (argsF [(gS 3), (gS 4), (gS 7), (gS 8)]) (cD (c I_place_for))) (kC (.int 0))) (kC (.str "free"))))) (retS (kC (.bool false))) nxS))))))))))) (retS (dAnd (d2 eqD (dA (argsF [(dA (argsF [(kC (.int 4)), (kC (.int 4))]) tupD), (dA (argsF [(dA (argsF [(kC (.int 0)), (kC (.int 0)), (kC (.int 2)), (kC (.int 4))]) tupD)]) tupD), (kC (.int 2)), (kC (.int 2))]) (cD (c I_least_cover))) (dA (argsF [(kC (.int 0)), (dA (argsF [(kC (.int 2)), (kC (.int 0)), (kC (.int 2)), (kC (.int 2))]) tupD)]) tupD)) (d2 eqD (dA (argsF [(dA (argsF [(kC (.int 2)), (kC (.int 2))]) tupD), (dA (argsF [(dA (argsF [(kC (.int 0)), (kC (.int 0)), (kC (.int 2)), (kC (.int 2))]) tupD)]) tupD), (kC (.int 2)), (kC (.int 1))]) (cD (c I_least_cover))) (dA (argsF [(kC (.int 2)), (dA (argsF [(kC (.int 0)), (kC (.int 0)), (kC (.int 2)), (kC (.int 1))]) tupD)]) tupD))))))
/-- the defs, by their places; by the room that is left for calls; cl: where the classes stand -/
noncomputable def dnn (cl : Str → Nat) : Nat → Nat → List Sl → Re PyData
  | 0, _ => fun _ => .no
  | 1, _ => fun _ => .no
  | k + 2, i => match i with
    | 0 => fnR (b_0 (dnn cl (k + 1))) 0
    | 1 => fnR (b_1 (dnn cl (k + 1))) 1
    | 2 => fnR (b_2 (dnn cl (k + 1))) 2
    | 3 => fnR (b_3 (dnn cl (k + 1))) 1
    | 4 => fnR (b_4 (dnn cl (k + 1))) 0
    | 5 => fnR (b_5 (dnn cl (k + 1))) 2
    | 6 => fnIe (b_6 cl (dnn cl (k + 1))) 7 (cl "Cells")
    | 7 => fnR (b_7 cl (dnn cl (k + 1))) 0
    | 8 => fnR (b_8 cl (dnn cl (k + 1))) 6
    | 9 => fnR (b_9 cl (dnn cl (k + 1))) 3
    | 10 => fnR (b_10 (dnn cl (k + 1))) 1
    | 11 => fnR (b_11 cl (dnn cl (k + 1)) (dnn cl k)) 0
    | 12 => fnR (b_12 (dnn cl (k + 1))) 0
    | 13 => fnR (b_13 (dnn cl (k + 1))) 3
    | 14 => fnR (b_14 cl (dnn cl (k + 1)) (dnn cl k)) 6
    | 15 => fnR (b_15 cl (dnn cl (k + 1))) 6
    | 16 => fnR (b_16 (dnn cl (k + 1))) 0
    | 17 => fnR (b_17 cl (dnn cl (k + 1))) 2
    | 18 => fnR (b_18 cl (dnn cl (k + 1)) (dnn cl k)) 2
    | 19 => fnR (b_19 (dnn cl (k + 1))) 5
    | 20 => fnR (b_20 (dnn cl (k + 1))) 7
    | 21 => fnR (b_21 (dnn cl (k + 1))) 8
    | 22 => fnR (b_22 (dnn cl (k + 1))) 3
    | 23 => fnR (b_23 (dnn cl (k + 1))) 3
    | 24 => fnR (b_24 (dnn cl (k + 1))) 15
    | _ => fun _ => .no
noncomputable def den [VS.Cl] (k : Nat) : Nat → List Sl → Re PyData := dnn VS.Cl.f (k + 1)
theorem den_is_whole [VS.Cl] (k : Nat) (δ : List Sl) : den (k + 1) I_is_whole δ = outR (b_0 (den k) (δ ++ List.replicate 0 .no)) := rfl
theorem den_is_screen [VS.Cl] (k : Nat) (δ : List Sl) : den (k + 1) I_is_screen δ = outR (b_1 (den k) (δ ++ List.replicate 1 .no)) := rfl
theorem den_lies_on [VS.Cl] (k : Nat) (δ : List Sl) : den (k + 1) I_lies_on δ = outR (b_2 (den k) (δ ++ List.replicate 2 .no)) := rfl
theorem den_check_lying [VS.Cl] (k : Nat) (δ : List Sl) : den (k + 1) I_check_lying δ = outR (b_3 (den k) (δ ++ List.replicate 1 .no)) := rfl
theorem den_check_own [VS.Cl] (k : Nat) (δ : List Sl) : den (k + 1) I_check_own δ = outR (b_4 (den k) (δ ++ List.replicate 0 .no)) := rfl
theorem den_lines_by [VS.Cl] (k : Nat) (δ : List Sl) : den (k + 1) I_lines_by δ = outR (b_5 (den k) (δ ++ List.replicate 2 .no)) := rfl
theorem den_Cells___init__ [VS.Cl] (k a : Nat) (δ : List Sl) : den (k + 1) I_Cells___init__ (.sh (.int (a : Nat)) :: δ) = outI a (b_6 VS.Cl.f (den k) (.ob (VS.Cl.f "Cells" : Nat) a [] :: (δ ++ List.replicate 7 .no))) := rfl
theorem den_Cells_is_one [VS.Cl] (k : Nat) (δ : List Sl) : den (k + 1) I_Cells_is_one δ = outR (b_7 VS.Cl.f (den k) (δ ++ List.replicate 0 .no)) := rfl
theorem den_Cells_many [VS.Cl] (k : Nat) (δ : List Sl) : den (k + 1) I_Cells_many δ = outR (b_8 VS.Cl.f (den k) (δ ++ List.replicate 6 .no)) := rfl
theorem den_Cells_all_boxes [VS.Cl] (k : Nat) (δ : List Sl) : den (k + 1) I_Cells_all_boxes δ = outR (b_9 VS.Cl.f (den k) (δ ++ List.replicate 3 .no)) := rfl
theorem den__is_in [VS.Cl] (k : Nat) (δ : List Sl) : den (k + 1) I__is_in δ = outR (b_10 (den k) (δ ++ List.replicate 1 .no)) := rfl
theorem den_covered_cells [VS.Cl] (k : Nat) (δ : List Sl) : den (k + 1) I_covered_cells δ = outR (b_11 VS.Cl.f (den k) (dnn VS.Cl.f k) (δ ++ List.replicate 0 .no)) := rfl
theorem den__check_sides [VS.Cl] (k : Nat) (δ : List Sl) : den (k + 1) I__check_sides δ = outR (b_12 (den k) (δ ++ List.replicate 0 .no)) := rfl
theorem den__begins [VS.Cl] (k : Nat) (δ : List Sl) : den (k + 1) I__begins δ = outR (b_13 (den k) (δ ++ List.replicate 3 .no)) := rfl
theorem den_least_cover [VS.Cl] (k : Nat) (δ : List Sl) : den (k + 1) I_least_cover δ = outR (b_14 VS.Cl.f (den k) (dnn VS.Cl.f k) (δ ++ List.replicate 6 .no)) := rfl
theorem den__bars [VS.Cl] (k : Nat) (δ : List Sl) : den (k + 1) I__bars δ = outR (b_15 VS.Cl.f (den k) (δ ++ List.replicate 6 .no)) := rfl
theorem den__has [VS.Cl] (k : Nat) (δ : List Sl) : den (k + 1) I__has δ = outR (b_16 (den k) (δ ++ List.replicate 0 .no)) := rfl
theorem den__last_in [VS.Cl] (k : Nat) (δ : List Sl) : den (k + 1) I__last_in δ = outR (b_17 VS.Cl.f (den k) (δ ++ List.replicate 2 .no)) := rfl
theorem den_place_for [VS.Cl] (k : Nat) (δ : List Sl) : den (k + 1) I_place_for δ = outR (b_18 VS.Cl.f (den k) (dnn VS.Cl.f k) (δ ++ List.replicate 2 .no)) := rfl
theorem den__law_draws [VS.Cl] (k : Nat) (δ : List Sl) : den (k + 1) I__law_draws δ = outR (b_19 (den k) (δ ++ List.replicate 5 .no)) := rfl
theorem den__law_screen [VS.Cl] (k : Nat) (δ : List Sl) : den (k + 1) I__law_screen δ = outR (b_20 (den k) (δ ++ List.replicate 7 .no)) := rfl
theorem den__law_cells [VS.Cl] (k : Nat) (δ : List Sl) : den (k + 1) I__law_cells δ = outR (b_21 (den k) (δ ++ List.replicate 8 .no)) := rfl
theorem den__law_all [VS.Cl] (k : Nat) (δ : List Sl) : den (k + 1) I__law_all δ = outR (b_22 (den k) (δ ++ List.replicate 3 .no)) := rfl
theorem den__law_in [VS.Cl] (k : Nat) (δ : List Sl) : den (k + 1) I__law_in δ = outR (b_23 (den k) (δ ++ List.replicate 3 .no)) := rfl
theorem den_law [VS.Cl] (k : Nat) (δ : List Sl) : den (k + 1) I_law δ = outR (b_24 (den k) (δ ++ List.replicate 15 .no)) := rfl
end KL
end
section
open PySem PySem.Spec PyProof.Rows L2 VS
namespace KL
/-- what the written part says -/
def exx : VS.Ex := ⟨[], [("AXES", [(.int 0), (.int 1)])]⟩
structure Fx (K : PySem.W.Frag) (w : World) (mg : Str → Option Value) : Prop where
  b_abs : mg "abs" = none
  b_all : mg "all" = none
  b_any : mg "any" = none
  b_bool : mg "bool" = none
  b_enumerate : mg "enumerate" = none
  b_int : mg "int" = none
  b_isinstance : mg "isinstance" = none
  b_len : mg "len" = none
  b_list : mg "list" = none
  b_min : mg "min" = none
  b_range : mg "range" = none
  b_sorted : mg "sorted" = none
  b_tuple : mg "tuple" = none
  b_zip : mg "zip" = none
  g_AXES : mg "AXES" = some (.ref (He.ga K "AXES"))
  t_AXES : ∀ H, SqT K H (He.ga K "AXES") (([(.int 0), (.int 1)] : List PyData).map vD)
  r_AXES : ∀ F H, RpA K F H (([(.int 0), (.int 1)] : List PyData).map vD) ([(.int 0), (.int 1)] : List PyData)
  i_MOST_LYING : ∃ t, mg "MOST_LYING" = some (.int 6 t)
  i_MOST_SCREEN : ∃ t, mg "MOST_SCREEN" = some (.int 40 t)
  g_BadBox : mg "BadBox" = some (.ref (He.ga K "BadBox"))
  g_BadLying : mg "BadLying" = some (.ref (He.ga K "BadLying"))
  g_BadScreen : mg "BadScreen" = some (.ref (He.ga K "BadScreen"))
  g_BadSides : mg "BadSides" = some (.ref (He.ga K "BadSides"))
  e_BadBox : ExcF K mg "BadBox"
  e_BadLying : ExcF K mg "BadLying"
  e_BadScreen : ExcF K mg "BadScreen"
  e_BadSides : ExcF K mg "BadSides"
  c_Cells : Cls K (He.ga K "Cells")
  n_Cells__rows : NoAttr K (He.ga K "Cells") "_rows"
  n_Cells__sums : NoAttr K (He.ga K "Cells") "_sums"
  n_Cells_screen : NoAttr K (He.ga K "Cells") "screen"
/-- the defs that are called -/
structure En (P : Program) (w : World) (K : PySem.W.Frag) (mg : Str → Option Value) (base : Heap) (k : Nat) (c : Nat → List Sl → Re PyData) (c2 : Nat → List Sl → Re PyData) : Prop where
  f__bars : FnE P w K mg base (k + 1) "_bars" 3 (c 15)
  f__begins : FnE P w K mg base (k + 1) "_begins" 4 (c 13)
  f__check_sides : FnE P w K mg base (k + 1) "_check_sides" 4 (c 12)
  f__has : FnE P w K mg base (k + 1) "_has" 2 (c 16)
  f__is_in : FnE P w K mg base (k + 1) "_is_in" 3 (c 10)
  f__last_in : FnE P w K mg base (k + 1) "_last_in" 2 (c 17)
  f__law_all : FnE P w K mg base (k + 1) "_law_all" 3 (c 22)
  f__law_cells : FnE P w K mg base (k + 1) "_law_cells" 1 (c 21)
  f__law_draws : FnE P w K mg base (k + 1) "_law_draws" 2 (c 19)
  f__law_in : FnE P w K mg base (k + 1) "_law_in" 1 (c 23)
  f__law_screen : FnE P w K mg base (k + 1) "_law_screen" 2 (c 20)
  f_check_lying : FnE P w K mg base (k + 1) "check_lying" 2 (c 3)
  f_check_own : FnE P w K mg base (k + 1) "check_own" 3 (c 4)
  f_covered_cells : FnE P w K mg base (k + 1) "covered_cells" 3 (c 11)
  f_is_screen : FnE P w K mg base (k + 1) "is_screen" 1 (c 1)
  f_is_whole : FnE P w K mg base (k + 1) "is_whole" 3 (c 0)
  f_least_cover : FnE P w K mg base (k + 1) "least_cover" 4 (c 14)
  f_lies_on : FnE P w K mg base (k + 1) "lies_on" 2 (c 2)
  f_lines_by : FnE P w K mg base (k + 1) "lines_by" 3 (c 5)
  f_place_for : FnE P w K mg base (k + 1) "place_for" 4 (c 18)
  t_Cells_all_boxes : MtE P w K mg base (k + 1) (He.ga K "Cells") "all_boxes" 3 (c 9)
  t_Cells_is_one : MtE P w K mg base (k + 1) (He.ga K "Cells") "is_one" 2 (c 7)
  t_Cells_many : MtE P w K mg base (k + 1) (He.ga K "Cells") "many" 2 (c 8)
  k_Cells : MkE P w K mg base k "Cells" (He.ga K "Cells") 2 (fun a δ => c2 6 (.sh (.int (a : Nat)) :: δ))
abbrev mth (i j : Nat) : Stmt := (VS.clsB (PySem.Challenge.pw_windowwright_k36_whole_least_cover.main.body.getD i (.Pass ⟨0, 0, 0, 0⟩))).getD j (.Pass ⟨0, 0, 0, 0⟩)
abbrev top (i : Nat) : Stmt := PySem.Challenge.pw_windowwright_k36_whole_least_cover.main.body.getD i (.Pass ⟨0, 0, 0, 0⟩)
section
variable {P : Program} {w : World} {K : PySem.W.Frag} {mg : Str → Option Value} {base : Heap} {k : Nat} {c c2 : Nat → List Sl → Re PyData}
theorem sc_0 : FnScope ["value", "least", "most"] ["value", "least", "most"] (defScope (top 7)) := ⟨rfl, rfl, rfl, by decide +kernel, rfl, by decide +kernel, by decide +kernel⟩
theorem w_0 (fx : Fx K w mg) (E : En P w K mg base k c c2) (f : Addr) (cdv : Value) (A : Around) (outer : List Env) (s : Shared) (H : Hp) (Ex : XK) (W : XW) (hr : Room (k + 1) (A.deeper (envOfC "is_whole" (defScope (top 7)) s.heap.objs.size f cdv)))
    (tk : XOk (cxOf (L2.CX P w) P w K mg base ["value", "least", "most"] "is_whole" (defScope (top 7)) f cdv A outer s H Ex) W) : VSs (cxOf (L2.CX P w) P w K mg base ["value", "least", "most"] "is_whole" (defScope (top 7)) f cdv A outer s H Ex) W (defBody (top 7)) (b_0 c) := by
  have hu : (A.deeper (envOfC "is_whole" (defScope (top 7)) s.heap.objs.size f cdv)).units + 64 < cLine := hr.units
  have nd : (["value", "least", "most"] : List Str).Nodup := sc_0.nd
  exact (vss_one (vs_ret (ve_and (ve_isi .tInt (VE.b (ve_var 0 (pv 0))) rfl fx.b_isinstance rfl fx.b_int (by decide +kernel)) (ve_and (ve_not (ve_isi .tBool (VE.b (ve_var 0 (pv 0))) rfl fx.b_isinstance rfl fx.b_bool (by decide +kernel))) (ve_one (ve_chain (c_le hu) (c_le hu) (VE.b (ve_var 1 (pv 1))) (VE.b (ve_var 0 (pv 0))) (VE.b (ve_var 2 (pv 2)))))))))
theorem sc_1 : FnScope ["value", "one"] ["value"] (defScope (top 12)) := ⟨rfl, rfl, rfl, by decide +kernel, rfl, by decide +kernel, by decide +kernel⟩
theorem w_1 (fx : Fx K w mg) (E : En P w K mg base k c c2) (f : Addr) (cdv : Value) (A : Around) (outer : List Env) (s : Shared) (H : Hp) (Ex : XK) (W : XW) (hr : Room (k + 1) (A.deeper (envOfC "is_screen" (defScope (top 12)) s.heap.objs.size f cdv)))
    (tk : XOk (cxOf (L2.CX P w) P w K mg base ["value", "one"] "is_screen" (defScope (top 12)) f cdv A outer s H Ex) W) : VSs (cxOf (L2.CX P w) P w K mg base ["value", "one"] "is_screen" (defScope (top 12)) f cdv A outer s H Ex) W (defBody (top 12)) (b_1 c) := by
  have hu : (A.deeper (envOfC "is_screen" (defScope (top 12)) s.heap.objs.size f cdv)).units + 64 < cLine := hr.units
  have nd : (["value", "one"] : List Str).Nodup := sc_1.nd
  exact (vss_one (vs_ret (ve_and (ve_isi .tTuple (VE.b (ve_var 0 (pv 0))) rfl fx.b_isinstance rfl fx.b_tuple (by decide +kernel)) (ve_and (ve_cmp (c_eq hu) (VE.b (ve_len  rfl fx.b_len (va_cons kB (VE.b (ve_var 0 (pv 0))) va_nil))) (VE.b ve_int) rfl) (ve_one (ve_all rfl rfl fx.b_all (va_cons kB (vp_lc (own := [("one", 1)]) pB_own rfl nd (vi_any (ve_var 0 (pv 0))) (blkOk_by (by kernel_rfl)) (fun _ _ _ _ _ => (vg_name nd rfl (by first | exact .inl rfl | exact .inr rfl))) (fun _ _ _ _ _ => vts_nil) (fun _ _ _ _ _ => (ve_call E.f_is_whole hr xok0 rfl (va_cons kS (ve_var 1 (pv 1)) (va_cons kS ve_int (va_cons kS (ve_gint rfl fx.i_MOST_SCREEN) va_nil))))) (by decide)) va_nil)))))))
theorem sc_2 : FnScope ["screen", "value", "axis", "one"] ["screen", "value"] (defScope (top 13)) := ⟨rfl, rfl, rfl, by decide +kernel, rfl, by decide +kernel, by decide +kernel⟩
theorem w_2 (fx : Fx K w mg) (E : En P w K mg base k c c2) (f : Addr) (cdv : Value) (A : Around) (outer : List Env) (s : Shared) (H : Hp) (Ex : XK) (W : XW) (hr : Room (k + 1) (A.deeper (envOfC "lies_on" (defScope (top 13)) s.heap.objs.size f cdv)))
    (tk : XOk (cxOf (L2.CX P w) P w K mg base ["screen", "value", "axis", "one"] "lies_on" (defScope (top 13)) f cdv A outer s H Ex) W) : VSs (cxOf (L2.CX P w) P w K mg base ["screen", "value", "axis", "one"] "lies_on" (defScope (top 13)) f cdv A outer s H Ex) W (defBody (top 13)) (b_2 c) := by
  have hu : (A.deeper (envOfC "lies_on" (defScope (top 13)) s.heap.objs.size f cdv)).units + 64 < cLine := hr.units
  have nd : (["screen", "value", "axis", "one"] : List Str).Nodup := sc_2.nd
  exact (vss_cons (vs_if (vt_w (vw_or (vt_not (vt_val (ve_isi .tTuple (VE.b (ve_var 1 (pv 1))) rfl fx.b_isinstance rfl fx.b_tuple (by decide +kernel)) (by intro _; rfl))) (vw_or (vt_cmp (c_ne hu) (VE.b (ve_len  rfl fx.b_len (va_cons kB (VE.b (ve_var 1 (pv 1))) va_nil))) (VE.b ve_int) rfl) (vw_or1 (vt_not (vt_val (ve_all rfl rfl fx.b_all (va_cons kB (vp_lc (own := [("one", 3)]) pB_own rfl nd (vi_any (ve_var 1 (pv 1))) (blkOk_by (by kernel_rfl)) (fun _ _ _ _ _ => (vg_name nd rfl (by first | exact .inl rfl | exact .inr rfl))) (fun _ _ _ _ _ => vts_nil) (fun _ _ _ _ _ => (ve_call E.f_is_whole hr xok0 rfl (va_cons kS (ve_var 3 (pv 3)) (va_cons kS ve_int (va_cons kS (ve_gint rfl fx.i_MOST_SCREEN) va_nil))))) (by decide)) va_nil)) (by intro _; rfl))))))) (vss_one (vs_ret ve_bl)) vss_nil) (vss_one (vs_ret (ve_all rfl rfl fx.b_all (va_cons kB (vp_lc (own := [("axis", 2)]) pB_own rfl nd (vi_tupB (vb_gtup rfl fx.g_AXES fx.t_AXES fx.r_AXES)) (blkOk_by (by kernel_rfl)) (fun _ _ _ _ _ => (vg_name nd rfl (by first | exact .inl rfl | exact .inr rfl))) (fun _ _ _ _ _ => vts_nil) (fun _ _ _ _ _ => (ve_and (ve_cmp (c_gt hu) (VE.b (ve_ix (hu1 hu) (VE.b (ve_var 1 (pv 1))) (ve_add (ve_var 2 (pv 2)) ve_int) (fun _ _ => rfl))) (VE.b ve_int) rfl) (ve_one (ve_cmp (c_le hu) (VE.b (ve_add (ve_ix (hu1 hu) (VE.b (ve_var 1 (pv 1))) (ve_var 2 (pv 2)) (fun _ _ => rfl)) (ve_ix (hu1 hu) (VE.b (ve_var 1 (pv 1))) (ve_add (ve_var 2 (pv 2)) ve_int) (fun _ _ => rfl)))) (VE.b (ve_ix (hu1 hu) (VE.b (ve_var 0 (pv 0))) (ve_var 2 (pv 2)) (fun _ _ => rfl))) rfl)))) (by decide)) va_nil)))))
theorem sc_3 : FnScope ["screen", "lying", "one"] ["screen", "lying"] (defScope (top 14)) := ⟨rfl, rfl, rfl, by decide +kernel, rfl, by decide +kernel, by decide +kernel⟩
theorem w_3 (fx : Fx K w mg) (E : En P w K mg base k c c2) (f : Addr) (cdv : Value) (A : Around) (outer : List Env) (s : Shared) (H : Hp) (Ex : XK) (W : XW) (hr : Room (k + 1) (A.deeper (envOfC "check_lying" (defScope (top 14)) s.heap.objs.size f cdv)))
    (tk : XOk (cxOf (L2.CX P w) P w K mg base ["screen", "lying", "one"] "check_lying" (defScope (top 14)) f cdv A outer s H Ex) W) : VSs (cxOf (L2.CX P w) P w K mg base ["screen", "lying", "one"] "check_lying" (defScope (top 14)) f cdv A outer s H Ex) W (defBody (top 14)) (b_3 c) := by
  have hu : (A.deeper (envOfC "check_lying" (defScope (top 14)) s.heap.objs.size f cdv)).units + 64 < cLine := hr.units
  have nd : (["screen", "lying", "one"] : List Str).Nodup := sc_3.nd
  exact (vss_cons (vs_if (vt_not (vt_val (ve_call E.f_is_screen hr tk rfl (va_cons kS (ve_var 0 (pv 0)) va_nil)) (by intro _; rfl))) (vss_one (vs_raiseF rfl tk fx.e_BadScreen rfl)) vss_nil) (vss_one (vs_if (vt_w (vw_or (vt_not (vt_val (ve_isi .tTuple (VE.b (ve_var 1 (pv 1))) rfl fx.b_isinstance rfl fx.b_tuple (by decide +kernel)) (by intro _; rfl))) (vw_or (vt_cmp (c_gt hu) (VE.b (ve_len  rfl fx.b_len (va_cons kB (VE.b (ve_var 1 (pv 1))) va_nil))) (VE.b (ve_gint rfl fx.i_MOST_LYING)) rfl) (vw_or1 (vt_not (vt_val (ve_all rfl rfl fx.b_all (va_cons kB (vp_lc (own := [("one", 2)]) pB_own rfl nd (vi_any (ve_var 1 (pv 1))) (blkOk_by (by kernel_rfl)) (fun _ _ _ _ _ => (vg_name nd rfl (by first | exact .inl rfl | exact .inr rfl))) (fun _ _ _ _ _ => vts_nil) (fun _ _ _ _ _ => (ve_call E.f_lies_on hr xok0 rfl (va_cons kS (ve_var 0 (pv 0)) (va_cons kS (ve_var 2 (pv 2)) va_nil)))) (by decide)) va_nil)) (by intro _; rfl))))))) (vss_one (vs_raiseF rfl tk fx.e_BadLying rfl)) vss_nil)))
theorem sc_4 : FnScope ["screen", "lying", "box"] ["screen", "lying", "box"] (defScope (top 15)) := ⟨rfl, rfl, rfl, by decide +kernel, rfl, by decide +kernel, by decide +kernel⟩
theorem w_4 (fx : Fx K w mg) (E : En P w K mg base k c c2) (f : Addr) (cdv : Value) (A : Around) (outer : List Env) (s : Shared) (H : Hp) (Ex : XK) (W : XW) (hr : Room (k + 1) (A.deeper (envOfC "check_own" (defScope (top 15)) s.heap.objs.size f cdv)))
    (tk : XOk (cxOf (L2.CX P w) P w K mg base ["screen", "lying", "box"] "check_own" (defScope (top 15)) f cdv A outer s H Ex) W) : VSs (cxOf (L2.CX P w) P w K mg base ["screen", "lying", "box"] "check_own" (defScope (top 15)) f cdv A outer s H Ex) W (defBody (top 15)) (b_4 c) := by
  have hu : (A.deeper (envOfC "check_own" (defScope (top 15)) s.heap.objs.size f cdv)).units + 64 < cLine := hr.units
  have nd : (["screen", "lying", "box"] : List Str).Nodup := sc_4.nd
  exact (vss_cons (vs_expr (P := pS _) (ve_call E.f_check_lying hr tk rfl (va_cons kS (ve_var 0 (pv 0)) (va_cons kS (ve_var 1 (pv 1)) va_nil)))) (vss_one (vs_if (vt_not (vt_val (ve_call E.f_lies_on hr tk rfl (va_cons kS (ve_var 0 (pv 0)) (va_cons kS (ve_var 2 (pv 2)) va_nil))) (by intro _; rfl))) (vss_one (vs_raiseF rfl tk fx.e_BadBox rfl)) vss_nil)))
theorem sc_5 : FnScope ["screen", "lying", "axis", "found", "box"] ["screen", "lying", "axis"] (defScope (top 16)) := ⟨rfl, rfl, rfl, by decide +kernel, rfl, by decide +kernel, by decide +kernel⟩
theorem w_5 (fx : Fx K w mg) (E : En P w K mg base k c c2) (f : Addr) (cdv : Value) (A : Around) (outer : List Env) (s : Shared) (H : Hp) (Ex : XK) (W : XW) (hr : Room (k + 1) (A.deeper (envOfC "lines_by" (defScope (top 16)) s.heap.objs.size f cdv)))
    (tk : XOk (cxOf (L2.CX P w) P w K mg base ["screen", "lying", "axis", "found", "box"] "lines_by" (defScope (top 16)) f cdv A outer s H Ex) W) : VSs (cxOf (L2.CX P w) P w K mg base ["screen", "lying", "axis", "found", "box"] "lines_by" (defScope (top 16)) f cdv A outer s H Ex) W (defBody (top 16)) (b_5 c) := by
  have hu : (A.deeper (envOfC "lines_by" (defScope (top 16)) s.heap.objs.size f cdv)).units + 64 < cLine := hr.units
  have nd : (["screen", "lying", "axis", "found", "box"] : List Str).Nodup := sc_5.nd
  have hp : PassesOwn (model P w) (A.deeper (envOfC "lines_by" (defScope (top 16)) s.heap.objs.size f cdv)) (envOfC "lines_by" (defScope (top 16)) s.heap.objs.size f cdv) (cxOf (L2.CX P w) P w K mg base ["screen", "lying", "axis", "found", "box"] "lines_by" (defScope (top 16)) f cdv A outer s H Ex).xe := passes_of (X := (cxOf (L2.CX P w) P w K mg base ["screen", "lying", "axis", "found", "box"] "lines_by" (defScope (top 16)) f cdv A outer s H Ex)) rfl
  exact (vss_cons (vs_setO nd rfl (.inl rfl) (vp_disp pF_new (vpr_cons ve_int ve_bl (vpr_cons (ve_ix (hu1 hu) (VE.b (ve_var 0 (pv 0))) (ve_var 2 (pv 2)) (fun _ _ => rfl)) ve_bl vpr_nil)))) (vss_cons (vs_for hp rfl (vi_any (ve_var 1 (pv 1))) (vg_name nd rfl (by first | exact .inl rfl | exact .inr rfl)) (vss_cons (vs_sto (hu1 hu) (pv 3) (ve_ix (hu1 hu) (VE.b (ve_var 4 (pv 4))) (ve_var 2 (pv 2)) (fun _ _ => rfl)) ve_bl) (vss_one (vs_sto (hu1 hu) (pv 3) (ve_add (ve_ix (hu1 hu) (VE.b (ve_var 4 (pv 4))) (ve_var 2 (pv 2)) (fun _ _ => rfl)) (ve_ix (hu1 hu) (VE.b (ve_var 4 (pv 4))) (ve_add (ve_var 2 (pv 2)) ve_int) (fun _ _ => rfl))) ve_bl)))) (vss_one (vs_ret (vp_sortedA pS_new rfl hu rfl fx.b_sorted (va_cons kB (vb_var 3 (pv 3)) va_nil))))))
theorem sc_6 : FnScope ["self", "screen", "lying", "top", "row", "line", "left", "is_one", "above", "own"] ["self", "screen", "lying"] (defScope (mth 18 0)) := ⟨rfl, rfl, rfl, by decide +kernel, rfl, by decide +kernel, by decide +kernel⟩
theorem w_6 (fx : Fx K w mg) (E : En P w K mg base k c c2) (f : Addr) (cdv : Value) (A : Around) (outer : List Env) (s : Shared) (H : Hp) (Ex : XK) (W : XW) (hr : Room (k + 1) (A.deeper (envOfC "Cells.__init__" (defScope (mth 18 0)) s.heap.objs.size f cdv)))
    (tk : XOk (cxOf (L2.CX P w) P w K mg base ["self", "screen", "lying", "top", "row", "line", "left", "is_one", "above", "own"] "Cells.__init__" (defScope (mth 18 0)) f cdv A outer s H Ex) W) : VSs (cxOf (L2.CX P w) P w K mg base ["self", "screen", "lying", "top", "row", "line", "left", "is_one", "above", "own"] "Cells.__init__" (defScope (mth 18 0)) f cdv A outer s H Ex) W (defBody (mth 18 0)) (b_6 (fun x => He.ga K x) c) := by
  have hu : (A.deeper (envOfC "Cells.__init__" (defScope (mth 18 0)) s.heap.objs.size f cdv)).units + 64 < cLine := hr.units
  have nd : (["self", "screen", "lying", "top", "row", "line", "left", "is_one", "above", "own"] : List Str).Nodup := sc_6.nd
  have hp : PassesOwn (model P w) (A.deeper (envOfC "Cells.__init__" (defScope (mth 18 0)) s.heap.objs.size f cdv)) (envOfC "Cells.__init__" (defScope (mth 18 0)) s.heap.objs.size f cdv) (cxOf (L2.CX P w) P w K mg base ["self", "screen", "lying", "top", "row", "line", "left", "is_one", "above", "own"] "Cells.__init__" (defScope (mth 18 0)) f cdv A outer s H Ex).xe := passes_of (X := (cxOf (L2.CX P w) P w K mg base ["self", "screen", "lying", "top", "row", "line", "left", "is_one", "above", "own"] "Cells.__init__" (defScope (mth 18 0)) f cdv A outer s H Ex)) rfl
  exact (vss_cons (vs_fld fx.c_Cells fx.n_Cells_screen (pv 0) (ve_var 1 (pv 1))) (vss_cons (vs_fldO fx.c_Cells fx.n_Cells__rows (pv 0) (vp_lst pF_new va_nil)) (vss_cons (vs_for hp rfl (vi_rng1 rfl fx.b_range (va_cons kS (ve_ix (hu1 hu) (VE.b (ve_var 1 (pv 1))) ve_int (fun _ _ => rfl)) va_nil)) (vg_name nd rfl (by first | exact .inl rfl | exact .inr rfl)) (vss_one (vs_fapp fx.c_Cells fx.n_Cells__rows (pv 0) (vp_lc (own := [("left", 6)]) pS_own rfl nd (vi_rng1 rfl fx.b_range (va_cons kS (ve_ix (hu1 hu) (VE.b (ve_var 1 (pv 1))) ve_int (fun _ _ => rfl)) va_nil)) (blkOk_by (by kernel_rfl)) (fun _ _ _ _ _ => (vg_name nd rfl (by first | exact .inl rfl | exact .inr rfl))) (fun _ _ _ _ _ => vts_nil) (fun _ _ _ _ _ => (ve_call E.f__is_in hr xok0 rfl (va_cons kS (ve_var 2 (pv 2)) (va_cons kS (ve_var 6 (pv 6)) (va_cons kS (ve_var 3 (pv 3)) va_nil))))) (by decide))))) (vss_cons (vs_fldO fx.c_Cells fx.n_Cells__sums (pv 0) (vp_lst pF_new (va_cons kS (vp_repL pS_new (vp_lst pB_new (va_cons kS ve_int va_nil)) (VE.b (ve_add (ve_ix (hu1 hu) (VE.b (ve_var 1 (pv 1))) ve_int (fun _ _ => rfl)) ve_int))) va_nil))) (vss_one (vs_frzF 0 "_rows" (vs_for hp rfl (vi_any (ve_sfld fx.c_Cells fx.n_Cells__rows (pv 0))) (vg_name nd rfl (by first | exact .inl rfl | exact .inr rfl)) (vss_cons (vs_setO nd rfl (.inl rfl) (vp_lst pF_new (va_cons kS ve_int va_nil))) (vss_cons (vs_for hp rfl (vi_enum rfl fx.b_enumerate (va_cons kS (ve_var 4 (pv 4)) va_nil)) (vg_tup rfl (vgs_cons (vg_name nd rfl (by first | exact .inl rfl | exact .inr rfl)) (vgs_cons (vg_name nd rfl (by first | exact .inl rfl | exact .inr rfl)) vgs_nil))) (vss_one (vs_append (pv 5) (ve_add (ve_ix (hu1 hu) (vb_var 5 (pv 5)) (ve_var 6 (pv 6)) (fun _ _ => rfl)) (vp_if pS_mon (vt_val (ve_var 7 (pv 7)) (by intro _; rfl)) ve_int ve_int))))) (vss_one (vs_frz 5 (vs_fapp fx.c_Cells fx.n_Cells__sums (pv 0) (vp_lc (own := [("above", 8), ("own", 9)]) pS_own rfl nd (vi_zip rfl fx.b_zip (va_cons kS (ve_ix (hu1 hu) (vb_sfld fx.c_Cells fx.n_Cells__sums (pv 0)) (ve_neg (VE.b ve_int)) (fun _ _ => rfl)) (va_cons kS (ve_var 5 (pv 5)) va_nil))) (blkOk_by (by kernel_rfl)) (fun _ _ _ _ _ => (vg_tup rfl (vgs_cons (vg_name nd rfl (by first | exact .inl rfl | exact .inr rfl)) (vgs_cons (vg_name nd rfl (by first | exact .inl rfl | exact .inr rfl)) vgs_nil)))) (fun _ _ _ _ _ => vts_nil) (fun _ _ _ _ _ => (ve_add (ve_var 8 (pv 8)) (ve_var 9 (pv 9)))) (by decide))))))))))))))
theorem sc_7 : FnScope ["self", "cell"] ["self", "cell"] (defScope (mth 18 1)) := ⟨rfl, rfl, rfl, by decide +kernel, rfl, by decide +kernel, by decide +kernel⟩
theorem w_7 (fx : Fx K w mg) (E : En P w K mg base k c c2) (f : Addr) (cdv : Value) (A : Around) (outer : List Env) (s : Shared) (H : Hp) (Ex : XK) (W : XW) (hr : Room (k + 1) (A.deeper (envOfC "Cells.is_one" (defScope (mth 18 1)) s.heap.objs.size f cdv)))
    (tk : XOk (cxOf (L2.CX P w) P w K mg base ["self", "cell"] "Cells.is_one" (defScope (mth 18 1)) f cdv A outer s H Ex) W) : VSs (cxOf (L2.CX P w) P w K mg base ["self", "cell"] "Cells.is_one" (defScope (mth 18 1)) f cdv A outer s H Ex) W (defBody (mth 18 1)) (b_7 (fun x => He.ga K x) c) := by
  have hu : (A.deeper (envOfC "Cells.is_one" (defScope (mth 18 1)) s.heap.objs.size f cdv)).units + 64 < cLine := hr.units
  have nd : (["self", "cell"] : List Str).Nodup := sc_7.nd
  exact (vss_one (vs_ret (ve_ix (hu1 hu) (VE.b (ve_ix (hu1 hu) (VE.b (ve_fld fx.c_Cells fx.n_Cells__rows (VE.b (ve_var 0 (pv 0))))) (ve_ix (hu1 hu) (VE.b (ve_var 1 (pv 1))) ve_int (fun _ _ => rfl)) (fun _ _ => rfl))) (ve_ix (hu1 hu) (VE.b (ve_var 1 (pv 1))) ve_int (fun _ _ => rfl)) (fun _ _ => rfl))))
theorem sc_8 : FnScope ["self", "box", "left", "top", "right", "bottom", "above", "below"] ["self", "box"] (defScope (mth 18 2)) := ⟨rfl, rfl, rfl, by decide +kernel, rfl, by decide +kernel, by decide +kernel⟩
theorem w_8 (fx : Fx K w mg) (E : En P w K mg base k c c2) (f : Addr) (cdv : Value) (A : Around) (outer : List Env) (s : Shared) (H : Hp) (Ex : XK) (W : XW) (hr : Room (k + 1) (A.deeper (envOfC "Cells.many" (defScope (mth 18 2)) s.heap.objs.size f cdv)))
    (tk : XOk (cxOf (L2.CX P w) P w K mg base ["self", "box", "left", "top", "right", "bottom", "above", "below"] "Cells.many" (defScope (mth 18 2)) f cdv A outer s H Ex) W) : VSs (cxOf (L2.CX P w) P w K mg base ["self", "box", "left", "top", "right", "bottom", "above", "below"] "Cells.many" (defScope (mth 18 2)) f cdv A outer s H Ex) W (defBody (mth 18 2)) (b_8 (fun x => He.ga K x) c) := by
  have hu : (A.deeper (envOfC "Cells.many" (defScope (mth 18 2)) s.heap.objs.size f cdv)).units + 64 < cLine := hr.units
  have nd : (["self", "box", "left", "top", "right", "bottom", "above", "below"] : List Str).Nodup := sc_8.nd
  exact (vss_cons (vs_parG (n := 4) rfl (vm_sh (ve_ix (hu1 hu) (VE.b (ve_var 1 (pv 1))) ve_int (fun _ _ => rfl)) (vm_sh (ve_ix (hu1 hu) (VE.b (ve_var 1 (pv 1))) ve_int (fun _ _ => rfl)) (vm_sh (ve_add (ve_ix (hu1 hu) (VE.b (ve_var 1 (pv 1))) ve_int (fun _ _ => rfl)) (ve_ix (hu1 hu) (VE.b (ve_var 1 (pv 1))) ve_int (fun _ _ => rfl))) (vm_sh (ve_add (ve_ix (hu1 hu) (VE.b (ve_var 1 (pv 1))) ve_int (fun _ _ => rfl)) (ve_ix (hu1 hu) (VE.b (ve_var 1 (pv 1))) ve_int (fun _ _ => rfl))) vm_nil)))) (pgs_name nd rfl (.inl rfl) (pgs_name nd rfl (.inl rfl) (pgs_name nd rfl (.inl rfl) (pgs_name nd rfl (.inl rfl) pgs_nil)))) rfl rfl rfl (by decide)) (vss_cons (vs_par2 rfl nd rfl rfl (by decide) rfl rfl (vm_sh (ve_ix (hu1 hu) (VE.b (ve_fld fx.c_Cells fx.n_Cells__sums (VE.b (ve_var 0 (pv 0))))) (ve_var 3 (pv 3)) (fun _ _ => rfl)) (vm_sh (ve_ix (hu1 hu) (VE.b (ve_fld fx.c_Cells fx.n_Cells__sums (VE.b (ve_var 0 (pv 0))))) (ve_var 5 (pv 5)) (fun _ _ => rfl)) vm_nil)) rfl) (vss_one (vs_ret (ve_add (ve_sub (VE.b (ve_sub (VE.b (ve_ix (hu1 hu) (VE.b (ve_var 7 (pv 7))) (ve_var 4 (pv 4)) (fun _ _ => rfl))) (VE.b (ve_ix (hu1 hu) (VE.b (ve_var 7 (pv 7))) (ve_var 2 (pv 2)) (fun _ _ => rfl))))) (VE.b (ve_ix (hu1 hu) (VE.b (ve_var 6 (pv 6))) (ve_var 4 (pv 4)) (fun _ _ => rfl)))) (ve_ix (hu1 hu) (VE.b (ve_var 6 (pv 6))) (ve_var 2 (pv 2)) (fun _ _ => rfl)))))))
theorem sc_9 : FnScope ["self", "width", "height", "found", "top", "left"] ["self", "width", "height"] (defScope (mth 18 3)) := ⟨rfl, rfl, rfl, by decide +kernel, rfl, by decide +kernel, by decide +kernel⟩
theorem w_9 (fx : Fx K w mg) (E : En P w K mg base k c c2) (f : Addr) (cdv : Value) (A : Around) (outer : List Env) (s : Shared) (H : Hp) (Ex : XK) (W : XW) (hr : Room (k + 1) (A.deeper (envOfC "Cells.all_boxes" (defScope (mth 18 3)) s.heap.objs.size f cdv)))
    (tk : XOk (cxOf (L2.CX P w) P w K mg base ["self", "width", "height", "found", "top", "left"] "Cells.all_boxes" (defScope (mth 18 3)) f cdv A outer s H Ex) W) : VSs (cxOf (L2.CX P w) P w K mg base ["self", "width", "height", "found", "top", "left"] "Cells.all_boxes" (defScope (mth 18 3)) f cdv A outer s H Ex) W (defBody (mth 18 3)) (b_9 (fun x => He.ga K x) c) := by
  have hu : (A.deeper (envOfC "Cells.all_boxes" (defScope (mth 18 3)) s.heap.objs.size f cdv)).units + 64 < cLine := hr.units
  have nd : (["self", "width", "height", "found", "top", "left"] : List Str).Nodup := sc_9.nd
  have hp : PassesOwn (model P w) (A.deeper (envOfC "Cells.all_boxes" (defScope (mth 18 3)) s.heap.objs.size f cdv)) (envOfC "Cells.all_boxes" (defScope (mth 18 3)) s.heap.objs.size f cdv) (cxOf (L2.CX P w) P w K mg base ["self", "width", "height", "found", "top", "left"] "Cells.all_boxes" (defScope (mth 18 3)) f cdv A outer s H Ex).xe := passes_of (X := (cxOf (L2.CX P w) P w K mg base ["self", "width", "height", "found", "top", "left"] "Cells.all_boxes" (defScope (mth 18 3)) f cdv A outer s H Ex)) rfl
  exact (vss_cons (vs_setO nd rfl (.inl rfl) (vp_lst pF_new va_nil)) (vss_cons (vs_for hp rfl (vi_rng1 rfl fx.b_range (va_cons kS (ve_add (ve_sub (VE.b (ve_ix (hu1 hu) (VE.b (ve_fld fx.c_Cells fx.n_Cells_screen (VE.b (ve_var 0 (pv 0))))) ve_int (fun _ _ => rfl))) (VE.b (ve_var 2 (pv 2)))) ve_int) va_nil)) (vg_name nd rfl (by first | exact .inl rfl | exact .inr rfl)) (vss_one (vs_extend (pv 3) (vp_lc (own := [("left", 5)]) pS_own rfl nd (vi_rng1 rfl fx.b_range (va_cons kS (ve_add (ve_sub (VE.b (ve_ix (hu1 hu) (VE.b (ve_fld fx.c_Cells fx.n_Cells_screen (VE.b (ve_var 0 (pv 0))))) ve_int (fun _ _ => rfl))) (VE.b (ve_var 1 (pv 1)))) ve_int) va_nil)) (blkOk_by (by kernel_rfl)) (fun _ _ _ _ _ => (vg_name nd rfl (by first | exact .inl rfl | exact .inr rfl))) (fun _ _ _ _ _ => vts_nil) (fun _ _ _ _ _ => (ve_tup (va_cons kS (ve_var 5 (pv 5)) (va_cons kS (ve_var 4 (pv 4)) (va_cons kS (ve_var 1 (pv 1)) (va_cons kS (ve_var 2 (pv 2)) va_nil)))))) (by decide))))) (vss_one (vs_frz 3 (vs_ret (ve_var 3 (pv 3)))))))
theorem sc_10 : FnScope ["lying", "left", "top", "box"] ["lying", "left", "top"] (defScope (top 19)) := ⟨rfl, rfl, rfl, by decide +kernel, rfl, by decide +kernel, by decide +kernel⟩
theorem w_10 (fx : Fx K w mg) (E : En P w K mg base k c c2) (f : Addr) (cdv : Value) (A : Around) (outer : List Env) (s : Shared) (H : Hp) (Ex : XK) (W : XW) (hr : Room (k + 1) (A.deeper (envOfC "_is_in" (defScope (top 19)) s.heap.objs.size f cdv)))
    (tk : XOk (cxOf (L2.CX P w) P w K mg base ["lying", "left", "top", "box"] "_is_in" (defScope (top 19)) f cdv A outer s H Ex) W) : VSs (cxOf (L2.CX P w) P w K mg base ["lying", "left", "top", "box"] "_is_in" (defScope (top 19)) f cdv A outer s H Ex) W (defBody (top 19)) (b_10 c) := by
  have hu : (A.deeper (envOfC "_is_in" (defScope (top 19)) s.heap.objs.size f cdv)).units + 64 < cLine := hr.units
  have nd : (["lying", "left", "top", "box"] : List Str).Nodup := sc_10.nd
  have hp : PassesOwn (model P w) (A.deeper (envOfC "_is_in" (defScope (top 19)) s.heap.objs.size f cdv)) (envOfC "_is_in" (defScope (top 19)) s.heap.objs.size f cdv) (cxOf (L2.CX P w) P w K mg base ["lying", "left", "top", "box"] "_is_in" (defScope (top 19)) f cdv A outer s H Ex).xe := passes_of (X := (cxOf (L2.CX P w) P w K mg base ["lying", "left", "top", "box"] "_is_in" (defScope (top 19)) f cdv A outer s H Ex)) rfl
  exact (vss_cons (vs_for hp rfl (vi_any (ve_var 0 (pv 0))) (vg_name nd rfl (by first | exact .inl rfl | exact .inr rfl)) (vss_one (vs_if (vt_w (vw_and (vt_chain (c_le hu) (c_lt hu) (VE.b (ve_ix (hu1 hu) (VE.b (ve_var 3 (pv 3))) ve_int (fun _ _ => rfl))) (VE.b (ve_var 1 (pv 1))) (VE.b (ve_add (ve_ix (hu1 hu) (VE.b (ve_var 3 (pv 3))) ve_int (fun _ _ => rfl)) (ve_ix (hu1 hu) (VE.b (ve_var 3 (pv 3))) ve_int (fun _ _ => rfl))))) (vw_and1 (vt_chain (c_le hu) (c_lt hu) (VE.b (ve_ix (hu1 hu) (VE.b (ve_var 3 (pv 3))) ve_int (fun _ _ => rfl))) (VE.b (ve_var 2 (pv 2))) (VE.b (ve_add (ve_ix (hu1 hu) (VE.b (ve_var 3 (pv 3))) ve_int (fun _ _ => rfl)) (ve_ix (hu1 hu) (VE.b (ve_var 3 (pv 3))) ve_int (fun _ _ => rfl)))))))) (vss_one (vs_ret ve_bl)) vss_nil))) (vss_one (vs_ret ve_bl)))
theorem sc_11 : FnScope ["screen", "lying", "box"] ["screen", "lying", "box"] (defScope (top 20)) := ⟨rfl, rfl, rfl, by decide +kernel, rfl, by decide +kernel, by decide +kernel⟩
theorem w_11 (fx : Fx K w mg) (E : En P w K mg base k c c2) (f : Addr) (cdv : Value) (A : Around) (outer : List Env) (s : Shared) (H : Hp) (Ex : XK) (W : XW) (hr : Room (k + 1) (A.deeper (envOfC "covered_cells" (defScope (top 20)) s.heap.objs.size f cdv)))
    (tk : XOk (cxOf (L2.CX P w) P w K mg base ["screen", "lying", "box"] "covered_cells" (defScope (top 20)) f cdv A outer s H Ex) W) : VSs (cxOf (L2.CX P w) P w K mg base ["screen", "lying", "box"] "covered_cells" (defScope (top 20)) f cdv A outer s H Ex) W (defBody (top 20)) (b_11 (fun x => He.ga K x) c c2) := by
  have hu : (A.deeper (envOfC "covered_cells" (defScope (top 20)) s.heap.objs.size f cdv)).units + 64 < cLine := hr.units
  have nd : (["screen", "lying", "box"] : List Str).Nodup := sc_11.nd
  exact (vss_cons (vs_expr (P := pS _) (ve_call E.f_check_own hr tk rfl (va_cons kS (ve_var 0 (pv 0)) (va_cons kS (ve_var 1 (pv 1)) (va_cons kS (ve_var 2 (pv 2)) va_nil))))) (vss_one (vs_ret (ve_meth fx.c_Cells E.t_Cells_many hr tk (ve_make E.k_Cells hr tk rfl (va_cons kS (ve_var 0 (pv 0)) (va_cons kS (ve_var 1 (pv 1)) va_nil))) (va_cons kS (ve_var 2 (pv 2)) va_nil)))))
theorem sc_12 : FnScope ["screen", "lying", "width", "height"] ["screen", "lying", "width", "height"] (defScope (top 21)) := ⟨rfl, rfl, rfl, by decide +kernel, rfl, by decide +kernel, by decide +kernel⟩
theorem w_12 (fx : Fx K w mg) (E : En P w K mg base k c c2) (f : Addr) (cdv : Value) (A : Around) (outer : List Env) (s : Shared) (H : Hp) (Ex : XK) (W : XW) (hr : Room (k + 1) (A.deeper (envOfC "_check_sides" (defScope (top 21)) s.heap.objs.size f cdv)))
    (tk : XOk (cxOf (L2.CX P w) P w K mg base ["screen", "lying", "width", "height"] "_check_sides" (defScope (top 21)) f cdv A outer s H Ex) W) : VSs (cxOf (L2.CX P w) P w K mg base ["screen", "lying", "width", "height"] "_check_sides" (defScope (top 21)) f cdv A outer s H Ex) W (defBody (top 21)) (b_12 c) := by
  have hu : (A.deeper (envOfC "_check_sides" (defScope (top 21)) s.heap.objs.size f cdv)).units + 64 < cLine := hr.units
  have nd : (["screen", "lying", "width", "height"] : List Str).Nodup := sc_12.nd
  exact (vss_cons (vs_expr (P := pS _) (ve_call E.f_check_lying hr tk rfl (va_cons kS (ve_var 0 (pv 0)) (va_cons kS (ve_var 1 (pv 1)) va_nil)))) (vss_one (vs_if (vt_w (vw_or (vt_not (vt_val (ve_call E.f_is_whole hr tk rfl (va_cons kS (ve_var 2 (pv 2)) (va_cons kS ve_int (va_cons kS (ve_ix (hu1 hu) (VE.b (ve_var 0 (pv 0))) ve_int (fun _ _ => rfl)) va_nil)))) (by intro _; rfl))) (vw_or1 (vt_not (vt_val (ve_call E.f_is_whole hr tk rfl (va_cons kS (ve_var 3 (pv 3)) (va_cons kS ve_int (va_cons kS (ve_ix (hu1 hu) (VE.b (ve_var 0 (pv 0))) ve_int (fun _ _ => rfl)) va_nil)))) (by intro _; rfl)))))) (vss_one (vs_raiseF rfl tk fx.e_BadSides rfl)) vss_nil)))
theorem sc_13 : FnScope ["screen", "lying", "axis", "size", "found", "line", "begin"] ["screen", "lying", "axis", "size"] (defScope (top 22)) := ⟨rfl, rfl, rfl, by decide +kernel, rfl, by decide +kernel, by decide +kernel⟩
theorem w_13 (fx : Fx K w mg) (E : En P w K mg base k c c2) (f : Addr) (cdv : Value) (A : Around) (outer : List Env) (s : Shared) (H : Hp) (Ex : XK) (W : XW) (hr : Room (k + 1) (A.deeper (envOfC "_begins" (defScope (top 22)) s.heap.objs.size f cdv)))
    (tk : XOk (cxOf (L2.CX P w) P w K mg base ["screen", "lying", "axis", "size", "found", "line", "begin"] "_begins" (defScope (top 22)) f cdv A outer s H Ex) W) : VSs (cxOf (L2.CX P w) P w K mg base ["screen", "lying", "axis", "size", "found", "line", "begin"] "_begins" (defScope (top 22)) f cdv A outer s H Ex) W (defBody (top 22)) (b_13 c) := by
  have hu : (A.deeper (envOfC "_begins" (defScope (top 22)) s.heap.objs.size f cdv)).units + 64 < cLine := hr.units
  have nd : (["screen", "lying", "axis", "size", "found", "line", "begin"] : List Str).Nodup := sc_13.nd
  have hp : PassesOwn (model P w) (A.deeper (envOfC "_begins" (defScope (top 22)) s.heap.objs.size f cdv)) (envOfC "_begins" (defScope (top 22)) s.heap.objs.size f cdv) (cxOf (L2.CX P w) P w K mg base ["screen", "lying", "axis", "size", "found", "line", "begin"] "_begins" (defScope (top 22)) f cdv A outer s H Ex).xe := passes_of (X := (cxOf (L2.CX P w) P w K mg base ["screen", "lying", "axis", "size", "found", "line", "begin"] "_begins" (defScope (top 22)) f cdv A outer s H Ex)) rfl
  exact (vss_cons (vs_setO nd rfl (.inl rfl) (vp_dict pF_new)) (vss_cons (vs_for hp rfl (vi_any (ve_call E.f_lines_by hr tk rfl (va_cons kS (ve_var 0 (pv 0)) (va_cons kS (ve_var 1 (pv 1)) (va_cons kS (ve_var 2 (pv 2)) va_nil))))) (vg_name nd rfl (by first | exact .inl rfl | exact .inr rfl)) (vss_one (vs_updateA (hu1 hu) (pv 4) (vp_dcA (own := [("begin", 6)]) pS_own (hu1 hu) rfl nd (vi_any (ve_tup (va_cons kS (ve_var 5 (pv 5)) (va_cons kS (ve_sub (VE.b (ve_var 5 (pv 5))) (VE.b (ve_var 3 (pv 3)))) va_nil)))) (blkOk_by (by kernel_rfl)) (fun _ _ _ _ _ => (vg_name nd rfl (by first | exact .inl rfl | exact .inr rfl))) (fun _ _ _ _ _ => (vts_one (vt_chain (c_le hu) (c_le hu) (VE.b ve_int) (VE.b (ve_var 6 (pv 6))) (VE.b (ve_sub (VE.b (ve_ix (hu1 hu) (VE.b (ve_var 0 (pv 0))) (ve_var 2 (pv 2)) (fun _ _ => rfl))) (VE.b (ve_var 3 (pv 3)))))))) (fun _ _ _ _ _ => (ve_var 6 (pv 6))) (fun _ _ _ _ _ => ve_bl) (by decide))))) (vss_one (vs_ret (vp_sortedA pS_new rfl hu rfl fx.b_sorted (va_cons kB (vb_var 4 (pv 4)) va_nil))))))
theorem sc_14 : FnScope ["screen", "lying", "width", "height", "cells", "lefts", "rows", "top", "many", "left"] ["screen", "lying", "width", "height"] (defScope (top 23)) := ⟨rfl, rfl, rfl, by decide +kernel, rfl, by decide +kernel, by decide +kernel⟩
theorem w_14 (fx : Fx K w mg) (E : En P w K mg base k c c2) (f : Addr) (cdv : Value) (A : Around) (outer : List Env) (s : Shared) (H : Hp) (Ex : XK) (W : XW) (hr : Room (k + 1) (A.deeper (envOfC "least_cover" (defScope (top 23)) s.heap.objs.size f cdv)))
    (tk : XOk (cxOf (L2.CX P w) P w K mg base ["screen", "lying", "width", "height", "cells", "lefts", "rows", "top", "many", "left"] "least_cover" (defScope (top 23)) f cdv A outer s H Ex) W) : VSs (cxOf (L2.CX P w) P w K mg base ["screen", "lying", "width", "height", "cells", "lefts", "rows", "top", "many", "left"] "least_cover" (defScope (top 23)) f cdv A outer s H Ex) W (defBody (top 23)) (b_14 (fun x => He.ga K x) c c2) := by
  have hu : (A.deeper (envOfC "least_cover" (defScope (top 23)) s.heap.objs.size f cdv)).units + 64 < cLine := hr.units
  have nd : (["screen", "lying", "width", "height", "cells", "lefts", "rows", "top", "many", "left"] : List Str).Nodup := sc_14.nd
  have hp : PassesOwn (model P w) (A.deeper (envOfC "least_cover" (defScope (top 23)) s.heap.objs.size f cdv)) (envOfC "least_cover" (defScope (top 23)) s.heap.objs.size f cdv) (cxOf (L2.CX P w) P w K mg base ["screen", "lying", "width", "height", "cells", "lefts", "rows", "top", "many", "left"] "least_cover" (defScope (top 23)) f cdv A outer s H Ex).xe := passes_of (X := (cxOf (L2.CX P w) P w K mg base ["screen", "lying", "width", "height", "cells", "lefts", "rows", "top", "many", "left"] "least_cover" (defScope (top 23)) f cdv A outer s H Ex)) rfl
  exact (vss_cons (vs_expr (P := pS _) (ve_call E.f__check_sides hr tk rfl (va_cons kS (ve_var 0 (pv 0)) (va_cons kS (ve_var 1 (pv 1)) (va_cons kS (ve_var 2 (pv 2)) (va_cons kS (ve_var 3 (pv 3)) va_nil)))))) (vss_cons (vs_set nd rfl (.inr rfl) (ve_make E.k_Cells hr tk rfl (va_cons kS (ve_var 0 (pv 0)) (va_cons kS (ve_var 1 (pv 1)) va_nil)))) (vss_cons (vs_set nd rfl (.inl rfl) (ve_call E.f__begins hr tk rfl (va_cons kS (ve_var 0 (pv 0)) (va_cons kS (ve_var 1 (pv 1)) (va_cons kS ve_int (va_cons kS (ve_var 2 (pv 2)) va_nil)))))) (vss_cons (vs_setO nd rfl (.inl rfl) (vp_lst pF_new va_nil)) (vss_cons (vs_for hp rfl (vi_any (ve_call E.f__begins hr tk rfl (va_cons kS (ve_var 0 (pv 0)) (va_cons kS (ve_var 1 (pv 1)) (va_cons kS ve_int (va_cons kS (ve_var 3 (pv 3)) va_nil)))))) (vg_name nd rfl (by first | exact .inl rfl | exact .inr rfl)) (vss_one (vs_extend (pv 6) (vp_lc (own := [("left", 9)]) pS_own rfl nd (vi_any (ve_var 5 (pv 5))) (blkOk_by (by kernel_rfl)) (fun _ _ _ _ _ => (vg_name nd rfl (by first | exact .inl rfl | exact .inr rfl))) (fun _ _ _ _ _ => vts_nil) (fun _ _ _ _ _ => (ve_tup (va_cons kS (ve_meth fx.c_Cells E.t_Cells_many hr xok0 (ve_var 4 (pv 4)) (va_cons kS (ve_tup (va_cons kS (ve_var 9 (pv 9)) (va_cons kS (ve_var 7 (pv 7)) (va_cons kS (ve_var 2 (pv 2)) (va_cons kS (ve_var 3 (pv 3)) va_nil))))) va_nil)) (va_cons kS (ve_var 7 (pv 7)) (va_cons kS (ve_var 9 (pv 9)) va_nil))))) (by decide))))) (vss_cons (vs_asg (ve_minL rfl hu rfl fx.b_min (va_cons kB (vb_var 6 (pv 6)) va_nil)) (vg_tup rfl (vgs_cons (vg_name nd rfl (by first | exact .inl rfl | exact .inr rfl)) (vgs_cons (vg_name nd rfl (by first | exact .inl rfl | exact .inr rfl)) (vgs_cons (vg_name nd rfl (by first | exact .inl rfl | exact .inr rfl)) vgs_nil))))) (vss_one (vs_ret (ve_tup (va_cons kS (ve_var 8 (pv 8)) (va_cons kS (ve_tup (va_cons kS (ve_var 9 (pv 9)) (va_cons kS (ve_var 7 (pv 7)) (va_cons kS (ve_var 2 (pv 2)) (va_cons kS (ve_var 3 (pv 3)) va_nil))))) va_nil)))))))))))
theorem sc_15 : FnScope ["cells", "width", "height", "boxes", "found", "box", "cell", "rest", "one"] ["cells", "width", "height"] (defScope (top 24)) := ⟨rfl, rfl, rfl, by decide +kernel, rfl, by decide +kernel, by decide +kernel⟩
theorem w_15 (fx : Fx K w mg) (E : En P w K mg base k c c2) (f : Addr) (cdv : Value) (A : Around) (outer : List Env) (s : Shared) (H : Hp) (Ex : XK) (W : XW) (hr : Room (k + 1) (A.deeper (envOfC "_bars" (defScope (top 24)) s.heap.objs.size f cdv)))
    (tk : XOk (cxOf (L2.CX P w) P w K mg base ["cells", "width", "height", "boxes", "found", "box", "cell", "rest", "one"] "_bars" (defScope (top 24)) f cdv A outer s H Ex) W) : VSs (cxOf (L2.CX P w) P w K mg base ["cells", "width", "height", "boxes", "found", "box", "cell", "rest", "one"] "_bars" (defScope (top 24)) f cdv A outer s H Ex) W (defBody (top 24)) (b_15 (fun x => He.ga K x) c) := by
  have hu : (A.deeper (envOfC "_bars" (defScope (top 24)) s.heap.objs.size f cdv)).units + 64 < cLine := hr.units
  have nd : (["cells", "width", "height", "boxes", "found", "box", "cell", "rest", "one"] : List Str).Nodup := sc_15.nd
  have hp : PassesOwn (model P w) (A.deeper (envOfC "_bars" (defScope (top 24)) s.heap.objs.size f cdv)) (envOfC "_bars" (defScope (top 24)) s.heap.objs.size f cdv) (cxOf (L2.CX P w) P w K mg base ["cells", "width", "height", "boxes", "found", "box", "cell", "rest", "one"] "_bars" (defScope (top 24)) f cdv A outer s H Ex).xe := passes_of (X := (cxOf (L2.CX P w) P w K mg base ["cells", "width", "height", "boxes", "found", "box", "cell", "rest", "one"] "_bars" (defScope (top 24)) f cdv A outer s H Ex)) rfl
  exact (vss_cons (vs_set nd rfl (.inl rfl) (ve_meth fx.c_Cells E.t_Cells_all_boxes hr tk (ve_var 0 (pv 0)) (va_cons kS (ve_var 1 (pv 1)) (va_cons kS (ve_var 2 (pv 2)) va_nil)))) (vss_cons (vs_setO nd rfl (.inl rfl) (vp_lst pF_new va_nil)) (vss_cons (vs_for hp rfl (vi_any (ve_var 3 (pv 3))) (vg_name nd rfl (by first | exact .inl rfl | exact .inr rfl)) (vss_one (vs_if (vt_not (vt_val (ve_any rfl rfl fx.b_any (va_cons kB (vb_lcO (vp_lc (own := [("cell", 6)]) pB_own rfl nd (vi_any (ve_var 4 (pv 4))) (blkOk_by (by kernel_rfl)) (fun _ _ _ _ _ => (vg_name nd rfl (by first | exact .inl rfl | exact .inr rfl))) (fun _ _ _ _ _ => vts_nil) (fun _ _ _ _ _ => (ve_call E.f__has hr xok0 rfl (va_cons kS (ve_var 5 (pv 5)) (va_cons kS (ve_var 6 (pv 6)) va_nil)))) (by decide))) va_nil)) (by intro _; rfl))) (vss_one (vs_append (pv 4) (ve_call E.f__last_in hr tk rfl (va_cons kS (ve_var 0 (pv 0)) (va_cons kS (ve_var 5 (pv 5)) va_nil))))) vss_nil))) (vss_cons (vs_for hp rfl (vi_any (vp_list pS_new rfl fx.b_list (va_cons kB (vb_var 4 (pv 4)) va_nil))) (vg_name nd rfl (by first | exact .inl rfl | exact .inr rfl)) (vss_cons (vs_frz 4 (vs_set nd rfl (.inr rfl) (vp_lc (own := [("one", 8)]) pS_own rfl nd (vi_any (ve_var 4 (pv 4))) (blkOk_by (by kernel_rfl)) (fun _ _ _ _ _ => (vg_name nd rfl (by first | exact .inl rfl | exact .inr rfl))) (fun _ _ _ _ _ => (vts_one (vt_cmp (c_ne hu) (VE.b (ve_var 8 (pv 8))) (VE.b (ve_var 6 (pv 6))) rfl))) (fun _ _ _ _ _ => (ve_var 8 (pv 8))) (by decide)))) (vss_one (vs_if (vt_val (ve_all rfl rfl fx.b_all (va_cons kB (vp_lc (own := [("box", 5)]) pB_own rfl nd (vi_any (ve_var 3 (pv 3))) (blkOk_by (by kernel_rfl)) (fun _ _ _ _ _ => (vg_name nd rfl (by first | exact .inl rfl | exact .inr rfl))) (fun _ _ _ _ _ => vts_nil) (fun _ _ _ _ _ => (ve_any rfl rfl fx.b_any (va_cons kB (vp_lc (own := [("one", 8)]) pB_own rfl nd (vi_any (ve_var 7 (pv 7))) (blkOk_by (by kernel_rfl)) (fun _ _ _ _ _ => (vg_name nd rfl (by first | exact .inl rfl | exact .inr rfl))) (fun _ _ _ _ _ => vts_nil) (fun _ _ _ _ _ => (ve_call E.f__has hr xok0 rfl (va_cons kS (ve_var 5 (pv 5)) (va_cons kS (ve_var 8 (pv 8)) va_nil)))) (by decide)) va_nil))) (by decide)) va_nil)) (by intro _; rfl)) (vss_one (vs_set nd rfl (.inl rfl) (ve_var 7 (pv 7)))) vss_nil)))) (vss_one (vs_ret (vp_sortedA pS_new rfl hu rfl fx.b_sorted (va_cons kB (vb_var 4 (pv 4)) va_nil))))))))
theorem sc_16 : FnScope ["box", "cell"] ["box", "cell"] (defScope (top 25)) := ⟨rfl, rfl, rfl, by decide +kernel, rfl, by decide +kernel, by decide +kernel⟩
theorem w_16 (fx : Fx K w mg) (E : En P w K mg base k c c2) (f : Addr) (cdv : Value) (A : Around) (outer : List Env) (s : Shared) (H : Hp) (Ex : XK) (W : XW) (hr : Room (k + 1) (A.deeper (envOfC "_has" (defScope (top 25)) s.heap.objs.size f cdv)))
    (tk : XOk (cxOf (L2.CX P w) P w K mg base ["box", "cell"] "_has" (defScope (top 25)) f cdv A outer s H Ex) W) : VSs (cxOf (L2.CX P w) P w K mg base ["box", "cell"] "_has" (defScope (top 25)) f cdv A outer s H Ex) W (defBody (top 25)) (b_16 c) := by
  have hu : (A.deeper (envOfC "_has" (defScope (top 25)) s.heap.objs.size f cdv)).units + 64 < cLine := hr.units
  have nd : (["box", "cell"] : List Str).Nodup := sc_16.nd
  exact (vss_one (vs_ret (ve_and (ve_chain (c_le hu) (c_lt hu) (VE.b (ve_ix (hu1 hu) (VE.b (ve_var 0 (pv 0))) ve_int (fun _ _ => rfl))) (VE.b (ve_ix (hu1 hu) (VE.b (ve_var 1 (pv 1))) ve_int (fun _ _ => rfl))) (VE.b (ve_add (ve_ix (hu1 hu) (VE.b (ve_var 0 (pv 0))) ve_int (fun _ _ => rfl)) (ve_ix (hu1 hu) (VE.b (ve_var 0 (pv 0))) ve_int (fun _ _ => rfl))))) (ve_one (ve_chain (c_le hu) (c_lt hu) (VE.b (ve_ix (hu1 hu) (VE.b (ve_var 0 (pv 0))) ve_int (fun _ _ => rfl))) (VE.b (ve_ix (hu1 hu) (VE.b (ve_var 1 (pv 1))) ve_int (fun _ _ => rfl))) (VE.b (ve_add (ve_ix (hu1 hu) (VE.b (ve_var 0 (pv 0))) ve_int (fun _ _ => rfl)) (ve_ix (hu1 hu) (VE.b (ve_var 0 (pv 0))) ve_int (fun _ _ => rfl)))))))))
theorem sc_17 : FnScope ["cells", "box", "top", "left"] ["cells", "box"] (defScope (top 26)) := ⟨rfl, rfl, rfl, by decide +kernel, rfl, by decide +kernel, by decide +kernel⟩
theorem w_17 (fx : Fx K w mg) (E : En P w K mg base k c c2) (f : Addr) (cdv : Value) (A : Around) (outer : List Env) (s : Shared) (H : Hp) (Ex : XK) (W : XW) (hr : Room (k + 1) (A.deeper (envOfC "_last_in" (defScope (top 26)) s.heap.objs.size f cdv)))
    (tk : XOk (cxOf (L2.CX P w) P w K mg base ["cells", "box", "top", "left"] "_last_in" (defScope (top 26)) f cdv A outer s H Ex) W) : VSs (cxOf (L2.CX P w) P w K mg base ["cells", "box", "top", "left"] "_last_in" (defScope (top 26)) f cdv A outer s H Ex) W (defBody (top 26)) (b_17 (fun x => He.ga K x) c) := by
  have hu : (A.deeper (envOfC "_last_in" (defScope (top 26)) s.heap.objs.size f cdv)).units + 64 < cLine := hr.units
  have nd : (["cells", "box", "top", "left"] : List Str).Nodup := sc_17.nd
  have hp : PassesOwn (model P w) (A.deeper (envOfC "_last_in" (defScope (top 26)) s.heap.objs.size f cdv)) (envOfC "_last_in" (defScope (top 26)) s.heap.objs.size f cdv) (cxOf (L2.CX P w) P w K mg base ["cells", "box", "top", "left"] "_last_in" (defScope (top 26)) f cdv A outer s H Ex).xe := passes_of (X := (cxOf (L2.CX P w) P w K mg base ["cells", "box", "top", "left"] "_last_in" (defScope (top 26)) f cdv A outer s H Ex)) rfl
  exact (vss_cons (vs_for hp rfl (vi_rng3 rfl fx.b_range (va_cons kS (ve_sub (VE.b (ve_add (ve_ix (hu1 hu) (VE.b (ve_var 1 (pv 1))) ve_int (fun _ _ => rfl)) (ve_ix (hu1 hu) (VE.b (ve_var 1 (pv 1))) ve_int (fun _ _ => rfl)))) (VE.b ve_int)) (va_cons kS (ve_sub (VE.b (ve_ix (hu1 hu) (VE.b (ve_var 1 (pv 1))) ve_int (fun _ _ => rfl))) (VE.b ve_int)) (va_cons kS (ve_neg (VE.b ve_int)) va_nil)))) (vg_name nd rfl (by first | exact .inl rfl | exact .inr rfl)) (vss_one (vs_for hp rfl (vi_rng3 rfl fx.b_range (va_cons kS (ve_sub (VE.b (ve_add (ve_ix (hu1 hu) (VE.b (ve_var 1 (pv 1))) ve_int (fun _ _ => rfl)) (ve_ix (hu1 hu) (VE.b (ve_var 1 (pv 1))) ve_int (fun _ _ => rfl)))) (VE.b ve_int)) (va_cons kS (ve_sub (VE.b (ve_ix (hu1 hu) (VE.b (ve_var 1 (pv 1))) ve_int (fun _ _ => rfl))) (VE.b ve_int)) (va_cons kS (ve_neg (VE.b ve_int)) va_nil)))) (vg_name nd rfl (by first | exact .inl rfl | exact .inr rfl)) (vss_one (vs_if (vt_val (ve_meth fx.c_Cells E.t_Cells_is_one hr tk (ve_var 0 (pv 0)) (va_cons kS (ve_tup (va_cons kS (ve_var 3 (pv 3)) (va_cons kS (ve_var 2 (pv 2)) va_nil))) va_nil)) (by intro _; rfl)) (vss_one (vs_ret (ve_tup (va_cons kS (ve_var 3 (pv 3)) (va_cons kS (ve_var 2 (pv 2)) va_nil))))) vss_nil))))) (vss_one (vs_ret ve_non)))
theorem sc_18 : FnScope ["screen", "lying", "width", "height", "cells", "box"] ["screen", "lying", "width", "height"] (defScope (top 27)) := ⟨rfl, rfl, rfl, by decide +kernel, rfl, by decide +kernel, by decide +kernel⟩
theorem w_18 (fx : Fx K w mg) (E : En P w K mg base k c c2) (f : Addr) (cdv : Value) (A : Around) (outer : List Env) (s : Shared) (H : Hp) (Ex : XK) (W : XW) (hr : Room (k + 1) (A.deeper (envOfC "place_for" (defScope (top 27)) s.heap.objs.size f cdv)))
    (tk : XOk (cxOf (L2.CX P w) P w K mg base ["screen", "lying", "width", "height", "cells", "box"] "place_for" (defScope (top 27)) f cdv A outer s H Ex) W) : VSs (cxOf (L2.CX P w) P w K mg base ["screen", "lying", "width", "height", "cells", "box"] "place_for" (defScope (top 27)) f cdv A outer s H Ex) W (defBody (top 27)) (b_18 (fun x => He.ga K x) c c2) := by
  have hu : (A.deeper (envOfC "place_for" (defScope (top 27)) s.heap.objs.size f cdv)).units + 64 < cLine := hr.units
  have nd : (["screen", "lying", "width", "height", "cells", "box"] : List Str).Nodup := sc_18.nd
  have hp : PassesOwn (model P w) (A.deeper (envOfC "place_for" (defScope (top 27)) s.heap.objs.size f cdv)) (envOfC "place_for" (defScope (top 27)) s.heap.objs.size f cdv) (cxOf (L2.CX P w) P w K mg base ["screen", "lying", "width", "height", "cells", "box"] "place_for" (defScope (top 27)) f cdv A outer s H Ex).xe := passes_of (X := (cxOf (L2.CX P w) P w K mg base ["screen", "lying", "width", "height", "cells", "box"] "place_for" (defScope (top 27)) f cdv A outer s H Ex)) rfl
  exact (vss_cons (vs_expr (P := pS _) (ve_call E.f__check_sides hr tk rfl (va_cons kS (ve_var 0 (pv 0)) (va_cons kS (ve_var 1 (pv 1)) (va_cons kS (ve_var 2 (pv 2)) (va_cons kS (ve_var 3 (pv 3)) va_nil)))))) (vss_cons (vs_set nd rfl (.inl rfl) (ve_make E.k_Cells hr tk rfl (va_cons kS (ve_var 0 (pv 0)) (va_cons kS (ve_var 1 (pv 1)) va_nil)))) (vss_cons (vs_for hp rfl (vi_any (ve_meth fx.c_Cells E.t_Cells_all_boxes hr tk (ve_var 4 (pv 4)) (va_cons kS (ve_var 2 (pv 2)) (va_cons kS (ve_var 3 (pv 3)) va_nil)))) (vg_name nd rfl (by first | exact .inl rfl | exact .inr rfl)) (vss_one (vs_if (vt_cmp (c_eq hu) (VE.b (ve_meth fx.c_Cells E.t_Cells_many hr tk (ve_var 4 (pv 4)) (va_cons kS (ve_var 5 (pv 5)) va_nil))) (VE.b ve_int) rfl) (vss_one (vs_ret (ve_tup (va_cons kS ve_str (va_cons kS (ve_var 5 (pv 5)) va_nil))))) vss_nil))) (vss_one (vs_ret (ve_tup (va_cons kS ve_str (va_cons kS (ve_tupA rfl fx.b_tuple (va_cons kS (ve_call E.f__bars hr tk rfl (va_cons kS (ve_var 4 (pv 4)) (va_cons kS (ve_var 2 (pv 2)) (va_cons kS (ve_var 3 (pv 3)) va_nil)))) va_nil)) va_nil))))))))
theorem sc_19 : FnScope ["script", "many", "draws", "seed", "cell", "number", "k"] ["script", "many"] (defScope (top 29)) := ⟨rfl, rfl, rfl, by decide +kernel, rfl, by decide +kernel, by decide +kernel⟩
theorem w_19 (fx : Fx K w mg) (E : En P w K mg base k c c2) (f : Addr) (cdv : Value) (A : Around) (outer : List Env) (s : Shared) (H : Hp) (Ex : XK) (W : XW) (hr : Room (k + 1) (A.deeper (envOfC "_law_draws" (defScope (top 29)) s.heap.objs.size f cdv)))
    (tk : XOk (cxOf (L2.CX P w) P w K mg base ["script", "many", "draws", "seed", "cell", "number", "k"] "_law_draws" (defScope (top 29)) f cdv A outer s H Ex) W) : VSs (cxOf (L2.CX P w) P w K mg base ["script", "many", "draws", "seed", "cell", "number", "k"] "_law_draws" (defScope (top 29)) f cdv A outer s H Ex) W (defBody (top 29)) (b_19 c) := by
  have hu : (A.deeper (envOfC "_law_draws" (defScope (top 29)) s.heap.objs.size f cdv)).units + 64 < cLine := hr.units
  have nd : (["script", "many", "draws", "seed", "cell", "number", "k"] : List Str).Nodup := sc_19.nd
  have hp : PassesOwn (model P w) (A.deeper (envOfC "_law_draws" (defScope (top 29)) s.heap.objs.size f cdv)) (envOfC "_law_draws" (defScope (top 29)) s.heap.objs.size f cdv) (cxOf (L2.CX P w) P w K mg base ["script", "many", "draws", "seed", "cell", "number", "k"] "_law_draws" (defScope (top 29)) f cdv A outer s H Ex).xe := passes_of (X := (cxOf (L2.CX P w) P w K mg base ["script", "many", "draws", "seed", "cell", "number", "k"] "_law_draws" (defScope (top 29)) f cdv A outer s H Ex)) rfl
  exact (vss_cons (vs_setO nd rfl (.inl rfl) (vp_lst pF_new va_nil)) (vss_cons (vs_set nd rfl (.inl rfl) ve_int) (vss_cons (vs_for hp rfl (vi_any (vp_scrSl pS_new (pv 0))) (vg_name nd rfl (by first | exact .inl rfl | exact .inr rfl)) (vss_cons (vs_set nd rfl (.inl rfl) (ve_abs  rfl fx.b_abs (va_cons kB (VE.b (ve_var 4 (pv 4))) va_nil))) (vss_cons (vs_set nd rfl (.inl rfl) (ve_mod (VE.b (ve_intC  rfl fx.b_int (va_cons kB (VE.b (ve_add (ve_add (ve_mul (VE.b (ve_var 3 (pv 3))) (VE.b ve_int)) (ve_var 5 (pv 5))) ve_int)) va_nil))) (VE.b ve_int))) (vss_one (vs_if (vt_cmp (c_ge hu) (VE.b (ve_var 5 (pv 5))) (VE.b (ve_pow (VE.b ve_int) (VE.b ve_int))) rfl) (vss_one (vs_for hp rfl (vi_rng1 rfl fx.b_range (va_cons kS ve_int va_nil)) (vg_name nd rfl (by first | exact .inl rfl | exact .inr rfl)) (vss_one (vs_if (vt_cmp (c_gt hu) (VE.b (ve_var 5 (pv 5))) (VE.b ve_int) rfl) (vss_cons (vs_append (pv 2) (ve_mod (VE.b (ve_intC  rfl fx.b_int (va_cons kB (VE.b (ve_var 5 (pv 5))) va_nil))) (VE.b ve_int))) (vss_one (vs_set nd rfl (.inl rfl) (ve_fdiv (VE.b (ve_var 5 (pv 5))) (VE.b ve_int))))) vss_nil)))) (vss_one (vs_append (pv 2) (ve_mod (VE.b (ve_fdiv (VE.b (ve_intC  rfl fx.b_int (va_cons kB (VE.b (ve_add (ve_mul (VE.b (ve_var 3 (pv 3))) (VE.b ve_int)) ve_int)) va_nil))) (VE.b ve_int))) (VE.b ve_int))))))))) (vss_cons (vs_for hp rfl (vi_rng1 rfl fx.b_range (va_cons kS (ve_var 1 (pv 1)) va_nil)) (vg_name nd rfl (by first | exact .inl rfl | exact .inr rfl)) (vss_one (vs_if (vt_cmp (c_lt hu) (VE.b (ve_len  rfl fx.b_len (va_cons kB (vb_var 2 (pv 2)) va_nil))) (VE.b (ve_var 1 (pv 1))) rfl) (vss_cons (vs_set nd rfl (.inl rfl) (ve_mod (VE.b (ve_intC  rfl fx.b_int (va_cons kB (VE.b (ve_add (ve_add (ve_mul (VE.b (ve_var 3 (pv 3))) (VE.b ve_int)) (ve_var 6 (pv 6))) ve_int)) va_nil))) (VE.b ve_int))) (vss_one (vs_append (pv 2) (ve_mod (VE.b (ve_fdiv (VE.b (ve_intC  rfl fx.b_int (va_cons kB (VE.b (ve_var 3 (pv 3))) va_nil))) (VE.b ve_int))) (VE.b ve_int))))) vss_nil))) (vss_one (vs_ret (vp_slL pS_new (vb_var 2 (pv 2)) vpt_no (vpt_some (ve_var 1 (pv 1))))))))))
theorem sc_20 : FnScope ["draws", "many", "screen", "lying", "k", "left", "top", "width", "height"] ["draws", "many"] (defScope (top 30)) := ⟨rfl, rfl, rfl, by decide +kernel, rfl, by decide +kernel, by decide +kernel⟩
theorem w_20 (fx : Fx K w mg) (E : En P w K mg base k c c2) (f : Addr) (cdv : Value) (A : Around) (outer : List Env) (s : Shared) (H : Hp) (Ex : XK) (W : XW) (hr : Room (k + 1) (A.deeper (envOfC "_law_screen" (defScope (top 30)) s.heap.objs.size f cdv)))
    (tk : XOk (cxOf (L2.CX P w) P w K mg base ["draws", "many", "screen", "lying", "k", "left", "top", "width", "height"] "_law_screen" (defScope (top 30)) f cdv A outer s H Ex) W) : VSs (cxOf (L2.CX P w) P w K mg base ["draws", "many", "screen", "lying", "k", "left", "top", "width", "height"] "_law_screen" (defScope (top 30)) f cdv A outer s H Ex) W (defBody (top 30)) (b_20 c) := by
  have hu : (A.deeper (envOfC "_law_screen" (defScope (top 30)) s.heap.objs.size f cdv)).units + 64 < cLine := hr.units
  have nd : (["draws", "many", "screen", "lying", "k", "left", "top", "width", "height"] : List Str).Nodup := sc_20.nd
  have hp : PassesOwn (model P w) (A.deeper (envOfC "_law_screen" (defScope (top 30)) s.heap.objs.size f cdv)) (envOfC "_law_screen" (defScope (top 30)) s.heap.objs.size f cdv) (cxOf (L2.CX P w) P w K mg base ["draws", "many", "screen", "lying", "k", "left", "top", "width", "height"] "_law_screen" (defScope (top 30)) f cdv A outer s H Ex).xe := passes_of (X := (cxOf (L2.CX P w) P w K mg base ["draws", "many", "screen", "lying", "k", "left", "top", "width", "height"] "_law_screen" (defScope (top 30)) f cdv A outer s H Ex)) rfl
  exact (vss_cons (vs_par2 rfl nd rfl rfl (by decide) rfl rfl (vm_sh (ve_tup (va_cons kS (ve_add ve_int (ve_mod (VE.b (ve_intC  rfl fx.b_int (va_cons kB (VE.b (ve_ix (hu1 hu) (VE.b (ve_var 0 (pv 0))) ve_int (fun _ _ => rfl))) va_nil))) (VE.b ve_int))) (va_cons kS (ve_add ve_int (ve_mod (VE.b (ve_intC  rfl fx.b_int (va_cons kB (VE.b (ve_ix (hu1 hu) (VE.b (ve_var 0 (pv 0))) ve_int (fun _ _ => rfl))) va_nil))) (VE.b ve_int))) va_nil))) (vm_ow (vp_lst pF_new va_nil) vm_nil)) rfl) (vss_cons (vs_for hp rfl (vi_rng1 rfl fx.b_range (va_cons kS (ve_mod (VE.b (ve_intC  rfl fx.b_int (va_cons kB (VE.b (ve_ix (hu1 hu) (VE.b (ve_var 0 (pv 0))) ve_int (fun _ _ => rfl))) va_nil))) (VE.b (ve_add (ve_var 1 (pv 1)) ve_int))) va_nil)) (vg_name nd rfl (by first | exact .inl rfl | exact .inr rfl)) (vss_cons (vs_par2 rfl nd rfl rfl (by decide) rfl rfl (vm_sh (ve_mod (VE.b (ve_intC  rfl fx.b_int (va_cons kB (VE.b (ve_ix (hu1 hu) (VE.b (ve_var 0 (pv 0))) (ve_add ve_int (ve_mul (VE.b ve_int) (VE.b (ve_var 4 (pv 4))))) (fun _ _ => rfl))) va_nil))) (VE.b (ve_ix (hu1 hu) (VE.b (ve_var 2 (pv 2))) ve_int (fun _ _ => rfl)))) (vm_sh (ve_mod (VE.b (ve_intC  rfl fx.b_int (va_cons kB (VE.b (ve_ix (hu1 hu) (VE.b (ve_var 0 (pv 0))) (ve_add ve_int (ve_mul (VE.b ve_int) (VE.b (ve_var 4 (pv 4))))) (fun _ _ => rfl))) va_nil))) (VE.b (ve_ix (hu1 hu) (VE.b (ve_var 2 (pv 2))) ve_int (fun _ _ => rfl)))) vm_nil)) rfl) (vss_cons (vs_par2 rfl nd rfl rfl (by decide) rfl rfl (vm_sh (ve_add ve_int (ve_mod (VE.b (ve_fdiv (VE.b (ve_intC  rfl fx.b_int (va_cons kB (VE.b (ve_ix (hu1 hu) (VE.b (ve_var 0 (pv 0))) (ve_add ve_int (ve_mul (VE.b ve_int) (VE.b (ve_var 4 (pv 4))))) (fun _ _ => rfl))) va_nil))) (VE.b ve_int))) (VE.b (ve_ix (hu1 hu) (vp_lst pB_new (va_cons kS ve_int (va_cons kS ve_int va_nil))) (ve_mod (VE.b (ve_var 4 (pv 4))) (VE.b ve_int)) (fun _ _ => rfl))))) (vm_sh (ve_add ve_int (ve_mod (VE.b (ve_fdiv (VE.b (ve_intC  rfl fx.b_int (va_cons kB (VE.b (ve_ix (hu1 hu) (VE.b (ve_var 0 (pv 0))) (ve_add ve_int (ve_mul (VE.b ve_int) (VE.b (ve_var 4 (pv 4))))) (fun _ _ => rfl))) va_nil))) (VE.b ve_int))) (VE.b (ve_ix (hu1 hu) (vp_lst pB_new (va_cons kS ve_int (va_cons kS ve_int va_nil))) (ve_mod (VE.b (ve_fdiv (VE.b (ve_var 4 (pv 4))) (VE.b ve_int))) (VE.b ve_int)) (fun _ _ => rfl))))) vm_nil)) rfl) (vss_one (vs_append (pv 3) (ve_tup (va_cons kS (ve_var 5 (pv 5)) (va_cons kS (ve_var 6 (pv 6)) (va_cons kS (ve_min2 rfl rfl fx.b_min (va_cons kB (VE.b (ve_var 7 (pv 7))) (va_cons kB (VE.b (ve_sub (VE.b (ve_ix (hu1 hu) (VE.b (ve_var 2 (pv 2))) ve_int (fun _ _ => rfl))) (VE.b (ve_var 5 (pv 5))))) va_nil))) (va_cons kS (ve_min2 rfl rfl fx.b_min (va_cons kB (VE.b (ve_var 8 (pv 8))) (va_cons kB (VE.b (ve_sub (VE.b (ve_ix (hu1 hu) (VE.b (ve_var 2 (pv 2))) ve_int (fun _ _ => rfl))) (VE.b (ve_var 6 (pv 6))))) va_nil))) va_nil)))))))))) (vss_one (vs_ret (ve_tup (va_cons kS (ve_var 2 (pv 2)) (va_cons kS (ve_tupB rfl fx.b_tuple (va_cons kB (vb_var 3 (pv 3)) va_nil)) va_nil)))))))
theorem sc_21 : FnScope ["lying", "found", "k", "left", "top", "width", "height", "column", "row"] ["lying"] (defScope (top 31)) := ⟨rfl, rfl, rfl, by decide +kernel, rfl, by decide +kernel, by decide +kernel⟩
theorem w_21 (fx : Fx K w mg) (E : En P w K mg base k c c2) (f : Addr) (cdv : Value) (A : Around) (outer : List Env) (s : Shared) (H : Hp) (Ex : XK) (W : XW) (hr : Room (k + 1) (A.deeper (envOfC "_law_cells" (defScope (top 31)) s.heap.objs.size f cdv)))
    (tk : XOk (cxOf (L2.CX P w) P w K mg base ["lying", "found", "k", "left", "top", "width", "height", "column", "row"] "_law_cells" (defScope (top 31)) f cdv A outer s H Ex) W) : VSs (cxOf (L2.CX P w) P w K mg base ["lying", "found", "k", "left", "top", "width", "height", "column", "row"] "_law_cells" (defScope (top 31)) f cdv A outer s H Ex) W (defBody (top 31)) (b_21 c) := by
  have hu : (A.deeper (envOfC "_law_cells" (defScope (top 31)) s.heap.objs.size f cdv)).units + 64 < cLine := hr.units
  have nd : (["lying", "found", "k", "left", "top", "width", "height", "column", "row"] : List Str).Nodup := sc_21.nd
  have hp : PassesOwn (model P w) (A.deeper (envOfC "_law_cells" (defScope (top 31)) s.heap.objs.size f cdv)) (envOfC "_law_cells" (defScope (top 31)) s.heap.objs.size f cdv) (cxOf (L2.CX P w) P w K mg base ["lying", "found", "k", "left", "top", "width", "height", "column", "row"] "_law_cells" (defScope (top 31)) f cdv A outer s H Ex).xe := passes_of (X := (cxOf (L2.CX P w) P w K mg base ["lying", "found", "k", "left", "top", "width", "height", "column", "row"] "_law_cells" (defScope (top 31)) f cdv A outer s H Ex)) rfl
  exact (vss_cons (vs_setO nd rfl (.inl rfl) (vp_dict pF_new)) (vss_cons (vs_for hp rfl (vi_rng1 rfl fx.b_range (va_cons kS (ve_len  rfl fx.b_len (va_cons kB (VE.b (ve_var 0 (pv 0))) va_nil)) va_nil)) (vg_name nd rfl (by first | exact .inl rfl | exact .inr rfl)) (vss_cons (vs_asg (ve_ix (hu1 hu) (VE.b (ve_var 0 (pv 0))) (ve_var 2 (pv 2)) (fun _ _ => rfl)) (vg_tup rfl (vgs_cons (vg_name nd rfl (by first | exact .inl rfl | exact .inr rfl)) (vgs_cons (vg_name nd rfl (by first | exact .inl rfl | exact .inr rfl)) (vgs_cons (vg_name nd rfl (by first | exact .inl rfl | exact .inr rfl)) (vgs_cons (vg_name nd rfl (by first | exact .inl rfl | exact .inr rfl)) vgs_nil)))))) (vss_one (vs_for hp rfl (vi_rng2 rfl fx.b_range (va_cons kS (ve_var 3 (pv 3)) (va_cons kS (ve_add (ve_var 3 (pv 3)) (ve_var 5 (pv 5))) va_nil))) (vg_name nd rfl (by first | exact .inl rfl | exact .inr rfl)) (vss_one (vs_for hp rfl (vi_rng2 rfl fx.b_range (va_cons kS (ve_var 4 (pv 4)) (va_cons kS (ve_add (ve_var 4 (pv 4)) (ve_var 6 (pv 6))) va_nil))) (vg_name nd rfl (by first | exact .inl rfl | exact .inr rfl)) (vss_one (vs_sto (hu1 hu) (pv 1) (ve_tup (va_cons kS (ve_var 7 (pv 7)) (va_cons kS (ve_var 8 (pv 8)) va_nil))) (ve_add (ve_get2 (hu1 hu) (vb_var 1 (pv 1)) (ve_tup (va_cons kS (ve_var 7 (pv 7)) (va_cons kS (ve_var 8 (pv 8)) va_nil))) (vp_lst pS_new va_nil) ⟨rfl, rfl, rfl, rfl⟩) (vp_lst pS_new (va_cons kS (ve_var 2 (pv 2)) va_nil))))))))))) (vss_one (vs_frz 1 (vs_ret (ve_var 1 (pv 1)))))))
theorem sc_22 : FnScope ["screen", "width", "height", "found", "top", "left"] ["screen", "width", "height"] (defScope (top 32)) := ⟨rfl, rfl, rfl, by decide +kernel, rfl, by decide +kernel, by decide +kernel⟩
theorem w_22 (fx : Fx K w mg) (E : En P w K mg base k c c2) (f : Addr) (cdv : Value) (A : Around) (outer : List Env) (s : Shared) (H : Hp) (Ex : XK) (W : XW) (hr : Room (k + 1) (A.deeper (envOfC "_law_all" (defScope (top 32)) s.heap.objs.size f cdv)))
    (tk : XOk (cxOf (L2.CX P w) P w K mg base ["screen", "width", "height", "found", "top", "left"] "_law_all" (defScope (top 32)) f cdv A outer s H Ex) W) : VSs (cxOf (L2.CX P w) P w K mg base ["screen", "width", "height", "found", "top", "left"] "_law_all" (defScope (top 32)) f cdv A outer s H Ex) W (defBody (top 32)) (b_22 c) := by
  have hu : (A.deeper (envOfC "_law_all" (defScope (top 32)) s.heap.objs.size f cdv)).units + 64 < cLine := hr.units
  have nd : (["screen", "width", "height", "found", "top", "left"] : List Str).Nodup := sc_22.nd
  have hp : PassesOwn (model P w) (A.deeper (envOfC "_law_all" (defScope (top 32)) s.heap.objs.size f cdv)) (envOfC "_law_all" (defScope (top 32)) s.heap.objs.size f cdv) (cxOf (L2.CX P w) P w K mg base ["screen", "width", "height", "found", "top", "left"] "_law_all" (defScope (top 32)) f cdv A outer s H Ex).xe := passes_of (X := (cxOf (L2.CX P w) P w K mg base ["screen", "width", "height", "found", "top", "left"] "_law_all" (defScope (top 32)) f cdv A outer s H Ex)) rfl
  exact (vss_cons (vs_set nd rfl (.inl rfl) (vp_lst pS_new va_nil)) (vss_cons (vs_for hp rfl (vi_rng1 rfl fx.b_range (va_cons kS (ve_add (ve_sub (VE.b (ve_ix (hu1 hu) (VE.b (ve_var 0 (pv 0))) ve_int (fun _ _ => rfl))) (VE.b (ve_var 2 (pv 2)))) ve_int) va_nil)) (vg_name nd rfl (by first | exact .inl rfl | exact .inr rfl)) (vss_one (vs_set nd rfl (.inl rfl) (ve_add (ve_var 3 (pv 3)) (vp_lc (own := [("left", 5)]) pS_own rfl nd (vi_rng1 rfl fx.b_range (va_cons kS (ve_add (ve_sub (VE.b (ve_ix (hu1 hu) (VE.b (ve_var 0 (pv 0))) ve_int (fun _ _ => rfl))) (VE.b (ve_var 1 (pv 1)))) ve_int) va_nil)) (blkOk_by (by kernel_rfl)) (fun _ _ _ _ _ => (vg_name nd rfl (by first | exact .inl rfl | exact .inr rfl))) (fun _ _ _ _ _ => vts_nil) (fun _ _ _ _ _ => (ve_tup (va_cons kS (ve_var 5 (pv 5)) (va_cons kS (ve_var 4 (pv 4)) (va_cons kS (ve_var 1 (pv 1)) (va_cons kS (ve_var 2 (pv 2)) va_nil)))))) (by decide)))))) (vss_one (vs_ret (ve_var 3 (pv 3))))))
theorem sc_23 : FnScope ["box", "found", "left", "top"] ["box"] (defScope (top 33)) := ⟨rfl, rfl, rfl, by decide +kernel, rfl, by decide +kernel, by decide +kernel⟩
theorem w_23 (fx : Fx K w mg) (E : En P w K mg base k c c2) (f : Addr) (cdv : Value) (A : Around) (outer : List Env) (s : Shared) (H : Hp) (Ex : XK) (W : XW) (hr : Room (k + 1) (A.deeper (envOfC "_law_in" (defScope (top 33)) s.heap.objs.size f cdv)))
    (tk : XOk (cxOf (L2.CX P w) P w K mg base ["box", "found", "left", "top"] "_law_in" (defScope (top 33)) f cdv A outer s H Ex) W) : VSs (cxOf (L2.CX P w) P w K mg base ["box", "found", "left", "top"] "_law_in" (defScope (top 33)) f cdv A outer s H Ex) W (defBody (top 33)) (b_23 c) := by
  have hu : (A.deeper (envOfC "_law_in" (defScope (top 33)) s.heap.objs.size f cdv)).units + 64 < cLine := hr.units
  have nd : (["box", "found", "left", "top"] : List Str).Nodup := sc_23.nd
  have hp : PassesOwn (model P w) (A.deeper (envOfC "_law_in" (defScope (top 33)) s.heap.objs.size f cdv)) (envOfC "_law_in" (defScope (top 33)) s.heap.objs.size f cdv) (cxOf (L2.CX P w) P w K mg base ["box", "found", "left", "top"] "_law_in" (defScope (top 33)) f cdv A outer s H Ex).xe := passes_of (X := (cxOf (L2.CX P w) P w K mg base ["box", "found", "left", "top"] "_law_in" (defScope (top 33)) f cdv A outer s H Ex)) rfl
  exact (vss_cons (vs_set nd rfl (.inl rfl) (vp_lst pS_new va_nil)) (vss_cons (vs_for hp rfl (vi_rng2 rfl fx.b_range (va_cons kS (ve_ix (hu1 hu) (VE.b (ve_var 0 (pv 0))) ve_int (fun _ _ => rfl)) (va_cons kS (ve_add (ve_ix (hu1 hu) (VE.b (ve_var 0 (pv 0))) ve_int (fun _ _ => rfl)) (ve_ix (hu1 hu) (VE.b (ve_var 0 (pv 0))) ve_int (fun _ _ => rfl))) va_nil))) (vg_name nd rfl (by first | exact .inl rfl | exact .inr rfl)) (vss_one (vs_set nd rfl (.inl rfl) (ve_add (ve_var 1 (pv 1)) (vp_lc (own := [("top", 3)]) pS_own rfl nd (vi_rng2 rfl fx.b_range (va_cons kS (ve_ix (hu1 hu) (VE.b (ve_var 0 (pv 0))) ve_int (fun _ _ => rfl)) (va_cons kS (ve_add (ve_ix (hu1 hu) (VE.b (ve_var 0 (pv 0))) ve_int (fun _ _ => rfl)) (ve_ix (hu1 hu) (VE.b (ve_var 0 (pv 0))) ve_int (fun _ _ => rfl))) va_nil))) (blkOk_by (by kernel_rfl)) (fun _ _ _ _ _ => (vg_name nd rfl (by first | exact .inl rfl | exact .inr rfl))) (fun _ _ _ _ _ => vts_nil) (fun _ _ _ _ _ => (ve_tup (va_cons kS (ve_var 2 (pv 2)) (va_cons kS (ve_var 3 (pv 3)) va_nil)))) (by decide)))))) (vss_one (vs_ret (ve_var 1 (pv 1))))))
theorem sc_24 : FnScope ["script", "draws", "turn", "screen", "lying", "cells", "k", "width", "height", "rows", "box", "many", "top", "left", "told", "cell"] ["script"] (defScope (top 34)) := ⟨rfl, rfl, rfl, by decide +kernel, rfl, by decide +kernel, by decide +kernel⟩
theorem w_24 (fx : Fx K w mg) (E : En P w K mg base k c c2) (f : Addr) (cdv : Value) (A : Around) (outer : List Env) (s : Shared) (H : Hp) (Ex : XK) (W : XW) (hr : Room (k + 1) (A.deeper (envOfC "law" (defScope (top 34)) s.heap.objs.size f cdv)))
    (tk : XOk (cxOf (L2.CX P w) P w K mg base ["script", "draws", "turn", "screen", "lying", "cells", "k", "width", "height", "rows", "box", "many", "top", "left", "told", "cell"] "law" (defScope (top 34)) f cdv A outer s H Ex) W) : VSs (cxOf (L2.CX P w) P w K mg base ["script", "draws", "turn", "screen", "lying", "cells", "k", "width", "height", "rows", "box", "many", "top", "left", "told", "cell"] "law" (defScope (top 34)) f cdv A outer s H Ex) W (defBody (top 34)) (b_24 c) := by
  have hu : (A.deeper (envOfC "law" (defScope (top 34)) s.heap.objs.size f cdv)).units + 64 < cLine := hr.units
  have nd : (["script", "draws", "turn", "screen", "lying", "cells", "k", "width", "height", "rows", "box", "many", "top", "left", "told", "cell"] : List Str).Nodup := sc_24.nd
  have hp : PassesOwn (model P w) (A.deeper (envOfC "law" (defScope (top 34)) s.heap.objs.size f cdv)) (envOfC "law" (defScope (top 34)) s.heap.objs.size f cdv) (cxOf (L2.CX P w) P w K mg base ["script", "draws", "turn", "screen", "lying", "cells", "k", "width", "height", "rows", "box", "many", "top", "left", "told", "cell"] "law" (defScope (top 34)) f cdv A outer s H Ex).xe := passes_of (X := (cxOf (L2.CX P w) P w K mg base ["script", "draws", "turn", "screen", "lying", "cells", "k", "width", "height", "rows", "box", "many", "top", "left", "told", "cell"] "law" (defScope (top 34)) f cdv A outer s H Ex)) rfl
  exact (vss_cons (vs_set nd rfl (.inl rfl) (ve_callScr E.f__law_draws hr tk rfl (pv 0) ve_int)) (vss_cons (vs_for hp rfl (vi_rng1 rfl fx.b_range (va_cons kS ve_int va_nil)) (vg_name nd rfl (by first | exact .inl rfl | exact .inr rfl)) (vss_cons (vs_asg (ve_call E.f__law_screen hr tk rfl (va_cons kS (ve_add (ve_sl (ve_var 1 (pv 1)) (vpt_some (ve_mul (VE.b ve_int) (VE.b (ve_var 2 (pv 2))))) vpt_no) (ve_sl (ve_var 1 (pv 1)) vpt_no (vpt_some (ve_mul (VE.b ve_int) (VE.b (ve_var 2 (pv 2))))))) (va_cons kS ve_int va_nil))) (vg_tup rfl (vgs_cons (vg_name nd rfl (by first | exact .inl rfl | exact .inr rfl)) (vgs_cons (vg_name nd rfl (by first | exact .inl rfl | exact .inr rfl)) vgs_nil)))) (vss_cons (vs_set nd rfl (.inr rfl) (ve_call E.f__law_cells hr tk rfl (va_cons kS (ve_var 4 (pv 4)) va_nil))) (vss_one (vs_for hp rfl (vi_rng1 rfl fx.b_range (va_cons kS ve_int va_nil)) (vg_name nd rfl (by first | exact .inl rfl | exact .inr rfl)) (vss_cons (vs_par2 rfl nd rfl rfl (by decide) rfl rfl (vm_sh (ve_add ve_int (ve_mod (VE.b (ve_intC  rfl fx.b_int (va_cons kB (VE.b (ve_ix (hu1 hu) (VE.b (ve_var 1 (pv 1))) (ve_add ve_int (ve_var 6 (pv 6))) (fun _ _ => rfl))) va_nil))) (VE.b (ve_ix (hu1 hu) (VE.b (ve_var 3 (pv 3))) ve_int (fun _ _ => rfl))))) (vm_sh (ve_add ve_int (ve_mod (VE.b (ve_intC  rfl fx.b_int (va_cons kB (VE.b (ve_ix (hu1 hu) (VE.b (ve_var 1 (pv 1))) (ve_add ve_int (ve_var 6 (pv 6))) (fun _ _ => rfl))) va_nil))) (VE.b (ve_ix (hu1 hu) (VE.b (ve_var 3 (pv 3))) ve_int (fun _ _ => rfl))))) vm_nil)) rfl) (vss_cons (vs_setO nd rfl (.inl rfl) (vp_lst pF_new va_nil)) (vss_cons (vs_for hp rfl (vi_any (ve_call E.f__law_all hr tk rfl (va_cons kS (ve_var 3 (pv 3)) (va_cons kS (ve_var 7 (pv 7)) (va_cons kS (ve_var 8 (pv 8)) va_nil))))) (vg_name nd rfl (by first | exact .inl rfl | exact .inr rfl)) (vss_cons (vs_set nd rfl (.inl rfl) (ve_len  rfl fx.b_len (va_cons kB (vp_lc (own := [("cell", 15)]) pB_own rfl nd (vi_any (ve_call E.f__law_in hr tk rfl (va_cons kS (ve_var 10 (pv 10)) va_nil))) (blkOk_by (by kernel_rfl)) (fun _ _ _ _ _ => (vg_name nd rfl (by first | exact .inl rfl | exact .inr rfl))) (fun _ _ _ _ _ => (vts_one (vt_in hu (ve_var 15 (pv 15)) (VE.b (ve_var 5 (pv 5))) rfl))) (fun _ _ _ _ _ => (ve_var 15 (pv 15))) (by decide)) va_nil))) (vss_cons (vs_append (pv 9) (ve_tup (va_cons kS (ve_var 11 (pv 11)) (va_cons kS (ve_ix (hu1 hu) (VE.b (ve_var 10 (pv 10))) ve_int (fun _ _ => rfl)) (va_cons kS (ve_ix (hu1 hu) (VE.b (ve_var 10 (pv 10))) ve_int (fun _ _ => rfl)) va_nil))))) (vss_one (vs_if (vt_w (vw_and (vt_cmp (c_eq hu) (VE.b (ve_mod (VE.b (ve_intC  rfl fx.b_int (va_cons kB (VE.b (ve_add (ve_add (ve_ix (hu1 hu) (VE.b (ve_var 1 (pv 1))) (ve_add ve_int (ve_var 6 (pv 6))) (fun _ _ => rfl)) (ve_ix (hu1 hu) (VE.b (ve_var 10 (pv 10))) ve_int (fun _ _ => rfl))) (ve_mul (VE.b ve_int) (VE.b (ve_ix (hu1 hu) (VE.b (ve_var 10 (pv 10))) ve_int (fun _ _ => rfl)))))) va_nil))) (VE.b ve_int))) (VE.b ve_int) rfl) (vw_and1 (vt_cmp (c_ne hu) (VE.b (ve_call E.f_covered_cells hr tk rfl (va_cons kS (ve_var 3 (pv 3)) (va_cons kS (ve_var 4 (pv 4)) (va_cons kS (ve_var 10 (pv 10)) va_nil))))) (VE.b (ve_var 11 (pv 11))) rfl)))) (vss_one (vs_ret ve_bl)) vss_nil))))) (vss_cons (vs_asg (ve_minL rfl hu rfl fx.b_min (va_cons kB (vb_var 9 (pv 9)) va_nil)) (vg_tup rfl (vgs_cons (vg_name nd rfl (by first | exact .inl rfl | exact .inr rfl)) (vgs_cons (vg_name nd rfl (by first | exact .inl rfl | exact .inr rfl)) (vgs_cons (vg_name nd rfl (by first | exact .inl rfl | exact .inr rfl)) vgs_nil))))) (vss_cons (vs_set nd rfl (.inl rfl) (ve_call E.f_least_cover hr tk rfl (va_cons kS (ve_var 3 (pv 3)) (va_cons kS (ve_var 4 (pv 4)) (va_cons kS (ve_var 7 (pv 7)) (va_cons kS (ve_var 8 (pv 8)) va_nil)))))) (vss_cons (vs_if (vt_w (vw_or (vt_cmp (c_ne hu) (VE.b (ve_var 14 (pv 14))) (VE.b (ve_tup (va_cons kS (ve_var 11 (pv 11)) (va_cons kS (ve_tup (va_cons kS (ve_var 13 (pv 13)) (va_cons kS (ve_var 12 (pv 12)) (va_cons kS (ve_var 7 (pv 7)) (va_cons kS (ve_var 8 (pv 8)) va_nil))))) va_nil)))) rfl) (vw_or (vt_val (ve_isi .tBool (VE.b (ve_ix (hu1 hu) (VE.b (ve_var 14 (pv 14))) ve_int (fun _ _ => rfl))) rfl fx.b_isinstance rfl fx.b_bool (by decide +kernel)) (by intro _; rfl)) (vw_or1 (vt_cmp (c_ne hu) (VE.b (ve_call E.f_covered_cells hr tk rfl (va_cons kS (ve_var 3 (pv 3)) (va_cons kS (ve_var 4 (pv 4)) (va_cons kS (ve_ix (hu1 hu) (VE.b (ve_var 14 (pv 14))) ve_int (fun _ _ => rfl)) va_nil))))) (VE.b (ve_var 11 (pv 11))) rfl))))) (vss_one (vs_ret ve_bl)) vss_nil) (vss_one (vs_if (vt_cmp (c_ne hu) (VE.b (ve_cmp (c_eq hu) (VE.b (ve_var 11 (pv 11))) (VE.b ve_int) rfl)) (VE.b (ve_cmp (c_eq hu) (VE.b (ve_ix (hu1 hu) (VE.b (ve_call E.f_place_for hr tk rfl (va_cons kS (ve_var 3 (pv 3)) (va_cons kS (ve_var 4 (pv 4)) (va_cons kS (ve_var 7 (pv 7)) (va_cons kS (ve_var 8 (pv 8)) va_nil)))))) ve_int (fun _ _ => rfl))) (VE.b ve_str) rfl)) rfl) (vss_one (vs_ret ve_bl)) vss_nil))))))))))))) (vss_one (vs_ret (ve_and (ve_cmp (c_eq hu) (VE.b (ve_call E.f_least_cover hr tk rfl (va_cons kS (ve_tup (va_cons kS ve_int (va_cons kS ve_int va_nil))) (va_cons kS (ve_tup (va_cons kS (ve_tup (va_cons kS ve_int (va_cons kS ve_int (va_cons kS ve_int (va_cons kS ve_int va_nil))))) va_nil)) (va_cons kS ve_int (va_cons kS ve_int va_nil)))))) (VE.b (ve_tup (va_cons kS ve_int (va_cons kS (ve_tup (va_cons kS ve_int (va_cons kS ve_int (va_cons kS ve_int (va_cons kS ve_int va_nil))))) va_nil)))) rfl) (ve_one (ve_cmp (c_eq hu) (VE.b (ve_call E.f_least_cover hr tk rfl (va_cons kS (ve_tup (va_cons kS ve_int (va_cons kS ve_int va_nil))) (va_cons kS (ve_tup (va_cons kS (ve_tup (va_cons kS ve_int (va_cons kS ve_int (va_cons kS ve_int (va_cons kS ve_int va_nil))))) va_nil)) (va_cons kS ve_int (va_cons kS ve_int va_nil)))))) (VE.b (ve_tup (va_cons kS ve_int (va_cons kS (ve_tup (va_cons kS ve_int (va_cons kS ve_int (va_cons kS ve_int (va_cons kS ve_int va_nil))))) va_nil)))) rfl)))))))
end
end KL
end
section
open PySem PySem.Spec PyProof.Rows L2 VS
namespace KL
def d__bars : He.DefD := ⟨("_bars", none), "_bars", "_bars", defArgs (top 24), defBody (top 24), defScope (top 24), [], []⟩
def d__begins : He.DefD := ⟨("_begins", none), "_begins", "_begins", defArgs (top 22), defBody (top 22), defScope (top 22), [], []⟩
def d__check_sides : He.DefD := ⟨("_check_sides", none), "_check_sides", "_check_sides", defArgs (top 21), defBody (top 21), defScope (top 21), [], []⟩
def d__has : He.DefD := ⟨("_has", none), "_has", "_has", defArgs (top 25), defBody (top 25), defScope (top 25), [], []⟩
def d__is_in : He.DefD := ⟨("_is_in", none), "_is_in", "_is_in", defArgs (top 19), defBody (top 19), defScope (top 19), [], []⟩
def d__last_in : He.DefD := ⟨("_last_in", none), "_last_in", "_last_in", defArgs (top 26), defBody (top 26), defScope (top 26), [], []⟩
def d__law_all : He.DefD := ⟨("_law_all", none), "_law_all", "_law_all", defArgs (top 32), defBody (top 32), defScope (top 32), [], []⟩
def d__law_cells : He.DefD := ⟨("_law_cells", none), "_law_cells", "_law_cells", defArgs (top 31), defBody (top 31), defScope (top 31), [], []⟩
def d__law_draws : He.DefD := ⟨("_law_draws", none), "_law_draws", "_law_draws", defArgs (top 29), defBody (top 29), defScope (top 29), [], []⟩
def d__law_in : He.DefD := ⟨("_law_in", none), "_law_in", "_law_in", defArgs (top 33), defBody (top 33), defScope (top 33), [], []⟩
def d__law_screen : He.DefD := ⟨("_law_screen", none), "_law_screen", "_law_screen", defArgs (top 30), defBody (top 30), defScope (top 30), [], []⟩
def d_check_lying : He.DefD := ⟨("check_lying", none), "check_lying", "check_lying", defArgs (top 14), defBody (top 14), defScope (top 14), [], []⟩
def d_check_own : He.DefD := ⟨("check_own", none), "check_own", "check_own", defArgs (top 15), defBody (top 15), defScope (top 15), [], []⟩
def d_covered_cells : He.DefD := ⟨("covered_cells", none), "covered_cells", "covered_cells", defArgs (top 20), defBody (top 20), defScope (top 20), [], []⟩
def d_is_screen : He.DefD := ⟨("is_screen", none), "is_screen", "is_screen", defArgs (top 12), defBody (top 12), defScope (top 12), [], []⟩
def d_is_whole : He.DefD := ⟨("is_whole", none), "is_whole", "is_whole", defArgs (top 7), defBody (top 7), defScope (top 7), [], []⟩
def d_law : He.DefD := ⟨("law", none), "law", "law", defArgs (top 34), defBody (top 34), defScope (top 34), [], []⟩
def d_least_cover : He.DefD := ⟨("least_cover", none), "least_cover", "least_cover", defArgs (top 23), defBody (top 23), defScope (top 23), [], []⟩
def d_lies_on : He.DefD := ⟨("lies_on", none), "lies_on", "lies_on", defArgs (top 13), defBody (top 13), defScope (top 13), [], []⟩
def d_lines_by : He.DefD := ⟨("lines_by", none), "lines_by", "lines_by", defArgs (top 16), defBody (top 16), defScope (top 16), [], []⟩
def d_place_for : He.DefD := ⟨("place_for", none), "place_for", "place_for", defArgs (top 27), defBody (top 27), defScope (top 27), [], []⟩
def d_Cells_all_boxes : He.DefD := ⟨("Cells", some "all_boxes"), "all_boxes", "Cells.all_boxes", defArgs (mth 18 3), defBody (mth 18 3), defScope (mth 18 3), [], []⟩
def d_Cells_is_one : He.DefD := ⟨("Cells", some "is_one"), "is_one", "Cells.is_one", defArgs (mth 18 1), defBody (mth 18 1), defScope (mth 18 1), [], []⟩
def d_Cells_many : He.DefD := ⟨("Cells", some "many"), "many", "Cells.many", defArgs (mth 18 2), defBody (mth 18 2), defScope (mth 18 2), [], []⟩
def d_Cells___init__ : He.DefD := ⟨("Cells", some "__init__"), "__init__", "Cells.__init__", defArgs (mth 18 0), defBody (mth 18 0), defScope (mth 18 0), [], []⟩
def fn : List He.DefD := [d__bars, d__begins, d__check_sides, d__has, d__is_in, d__last_in, d__law_all, d__law_cells, d__law_draws, d__law_in, d__law_screen, d_check_lying, d_check_own, d_covered_cells, d_is_screen, d_is_whole, d_law, d_least_cover, d_lies_on, d_lines_by, d_place_for, d_Cells_all_boxes, d_Cells_is_one, d_Cells_many, d_Cells___init__]
def fa : List He.Fa := [.free "abs", .free "all", .free "any", .free "bool", .free "enumerate", .free "int", .free "isinstance", .free "len", .free "list", .free "min", .free "range", .free "sorted", .free "tuple", .free "zip", .glo "AXES", .int "MOST_LYING" 6, .int "MOST_SCREEN" 40, .glo "BadBox", .glo "BadLying", .glo "BadScreen", .glo "BadSides", .exc "BadBox", .exc "BadLying", .exc "BadScreen", .exc "BadSides", .cls "Cells", .noat "Cells" "_rows", .noat "Cells" "_sums", .noat "Cells" "screen", .meth "Cells" "all_boxes", .meth "Cells" "is_one", .meth "Cells" "many", .mkr "Cells", .glo "Cells", .glo "_bars", .glo "_begins", .glo "_check_sides", .glo "_has", .glo "_is_in", .glo "_last_in", .glo "_law_all", .glo "_law_cells", .glo "_law_draws", .glo "_law_in", .glo "_law_screen", .glo "check_lying", .glo "check_own", .glo "covered_cells", .glo "is_screen", .glo "is_whole", .glo "law", .glo "least_cover", .glo "lies_on", .glo "lines_by", .glo "place_for"]
theorem fx_of {w : World} {K : PySem.W.Frag} {h : Heap} {mg : Str → Option Value} (X : K.In h) (G : h.Ns mainGlobals mg) (c : He.SaysX fa fn exx.ts [] exx.b w h K) : Fx K w mg :=
  ⟨He.free_ok X G (c.t.d.fact 0 (f := .free "abs") rfl), He.free_ok X G (c.t.d.fact 1 (f := .free "all") rfl), He.free_ok X G (c.t.d.fact 2 (f := .free "any") rfl), He.free_ok X G (c.t.d.fact 3 (f := .free "bool") rfl), He.free_ok X G (c.t.d.fact 4 (f := .free "enumerate") rfl), He.free_ok X G (c.t.d.fact 5 (f := .free "int") rfl), He.free_ok X G (c.t.d.fact 6 (f := .free "isinstance") rfl), He.free_ok X G (c.t.d.fact 7 (f := .free "len") rfl), He.free_ok X G (c.t.d.fact 8 (f := .free "list") rfl), He.free_ok X G (c.t.d.fact 9 (f := .free "min") rfl), He.free_ok X G (c.t.d.fact 10 (f := .free "range") rfl), He.free_ok X G (c.t.d.fact 11 (f := .free "sorted") rfl), He.free_ok X G (c.t.d.fact 12 (f := .free "tuple") rfl), He.free_ok X G (c.t.d.fact 13 (f := .free "zip") rfl), He.glo_ok X G (c.t.d.fact 14 (f := .glo "AXES") rfl), (gt_ok (VS.Ex.gt c 0 rfl)).1, (gt_ok (VS.Ex.gt c 0 rfl)).2, He.int_ok X G (c.t.d.fact 15 (f := .int "MOST_LYING" 6) rfl), He.int_ok X G (c.t.d.fact 16 (f := .int "MOST_SCREEN" 40) rfl), He.glo_ok X G (c.t.d.fact 17 (f := .glo "BadBox") rfl), He.glo_ok X G (c.t.d.fact 18 (f := .glo "BadLying") rfl), He.glo_ok X G (c.t.d.fact 19 (f := .glo "BadScreen") rfl), He.glo_ok X G (c.t.d.fact 20 (f := .glo "BadSides") rfl), excF_of (He.glo_ok X G (c.t.d.fact 17 (f := .glo "BadBox") rfl)) (He.exc_ok (c.t.d.fact 21 (f := .exc "BadBox") rfl)), excF_of (He.glo_ok X G (c.t.d.fact 18 (f := .glo "BadLying") rfl)) (He.exc_ok (c.t.d.fact 22 (f := .exc "BadLying") rfl)), excF_of (He.glo_ok X G (c.t.d.fact 19 (f := .glo "BadScreen") rfl)) (He.exc_ok (c.t.d.fact 23 (f := .exc "BadScreen") rfl)), excF_of (He.glo_ok X G (c.t.d.fact 20 (f := .glo "BadSides") rfl)) (He.exc_ok (c.t.d.fact 24 (f := .exc "BadSides") rfl)), He.cls_ok (c.t.d.fact 25 (f := .cls "Cells") rfl), He.noat_ok (c.t.d.fact 26 (f := .noat "Cells" "_rows") rfl), He.noat_ok (c.t.d.fact 27 (f := .noat "Cells" "_sums") rfl), He.noat_ok (c.t.d.fact 28 (f := .noat "Cells" "screen") rfl)⟩
/-- every def at every level -/
structure All (P : Program) (w : World) (K : PySem.W.Frag) (mg : Str → Option Value) (base : Heap) (k : Nat) : Prop where
  a__bars : FnE P w K mg base k "_bars" 3 (dnn (fun x => He.ga K x) k 15)
  a__begins : FnE P w K mg base k "_begins" 4 (dnn (fun x => He.ga K x) k 13)
  a__check_sides : FnE P w K mg base k "_check_sides" 4 (dnn (fun x => He.ga K x) k 12)
  a__has : FnE P w K mg base k "_has" 2 (dnn (fun x => He.ga K x) k 16)
  a__is_in : FnE P w K mg base k "_is_in" 3 (dnn (fun x => He.ga K x) k 10)
  a__last_in : FnE P w K mg base k "_last_in" 2 (dnn (fun x => He.ga K x) k 17)
  a__law_all : FnE P w K mg base k "_law_all" 3 (dnn (fun x => He.ga K x) k 22)
  a__law_cells : FnE P w K mg base k "_law_cells" 1 (dnn (fun x => He.ga K x) k 21)
  a__law_draws : FnE P w K mg base k "_law_draws" 2 (dnn (fun x => He.ga K x) k 19)
  a__law_in : FnE P w K mg base k "_law_in" 1 (dnn (fun x => He.ga K x) k 23)
  a__law_screen : FnE P w K mg base k "_law_screen" 2 (dnn (fun x => He.ga K x) k 20)
  a_check_lying : FnE P w K mg base k "check_lying" 2 (dnn (fun x => He.ga K x) k 3)
  a_check_own : FnE P w K mg base k "check_own" 3 (dnn (fun x => He.ga K x) k 4)
  a_covered_cells : FnE P w K mg base k "covered_cells" 3 (dnn (fun x => He.ga K x) k 11)
  a_is_screen : FnE P w K mg base k "is_screen" 1 (dnn (fun x => He.ga K x) k 1)
  a_is_whole : FnE P w K mg base k "is_whole" 3 (dnn (fun x => He.ga K x) k 0)
  a_law : FnE P w K mg base k "law" 1 (dnn (fun x => He.ga K x) k 24)
  a_least_cover : FnE P w K mg base k "least_cover" 4 (dnn (fun x => He.ga K x) k 14)
  a_lies_on : FnE P w K mg base k "lies_on" 2 (dnn (fun x => He.ga K x) k 2)
  a_lines_by : FnE P w K mg base k "lines_by" 3 (dnn (fun x => He.ga K x) k 5)
  a_place_for : FnE P w K mg base k "place_for" 4 (dnn (fun x => He.ga K x) k 18)
  t_Cells_all_boxes : MtE P w K mg base k (He.ga K "Cells") "all_boxes" 3 (dnn (fun x => He.ga K x) k 9)
  t_Cells_is_one : MtE P w K mg base k (He.ga K "Cells") "is_one" 2 (dnn (fun x => He.ga K x) k 7)
  t_Cells_many : MtE P w K mg base k (He.ga K "Cells") "many" 2 (dnn (fun x => He.ga K x) k 8)
  k_Cells : MkE P w K mg base k "Cells" (He.ga K "Cells") 2 (fun a δ => dnn (fun x => He.ga K x) k 6 (.sh (.int (a : Nat)) :: δ))
theorem all {P : Program} {w : World} {K : PySem.W.Frag} {h : Heap} {mg : Str → Option Value} (X : K.In h) (G : h.Ns mainGlobals mg) (c : He.SaysX fa fn exx.ts [] exx.b w h K) (base : Heap) : ∀ k, All P w K mg base k ∧ All P w K mg base (k + 1) := by
  have fx := fx_of X G c
  obtain ⟨fd__bars, F__bars⟩ := c.t.d.def_ 0 (d := d__bars) rfl
  have B__bars : Binds K fd__bars ["cells", "width", "height"] [] := FunD.bindsN F__bars fun _ _ _ _ _ _ us hl => match us, hl with | [_, _, _], _ => rfl
  have g__bars := He.glo_ok X G (c.t.d.fact 34 (f := .glo "_bars") rfl)
  obtain ⟨fd__begins, F__begins⟩ := c.t.d.def_ 1 (d := d__begins) rfl
  have B__begins : Binds K fd__begins ["screen", "lying", "axis", "size"] [] := FunD.bindsN F__begins fun _ _ _ _ _ _ us hl => match us, hl with | [_, _, _, _], _ => rfl
  have g__begins := He.glo_ok X G (c.t.d.fact 35 (f := .glo "_begins") rfl)
  obtain ⟨fd__check_sides, F__check_sides⟩ := c.t.d.def_ 2 (d := d__check_sides) rfl
  have B__check_sides : Binds K fd__check_sides ["screen", "lying", "width", "height"] [] := FunD.bindsN F__check_sides fun _ _ _ _ _ _ us hl => match us, hl with | [_, _, _, _], _ => rfl
  have g__check_sides := He.glo_ok X G (c.t.d.fact 36 (f := .glo "_check_sides") rfl)
  obtain ⟨fd__has, F__has⟩ := c.t.d.def_ 3 (d := d__has) rfl
  have B__has : Binds K fd__has ["box", "cell"] [] := FunD.bindsN F__has fun _ _ _ _ _ _ us hl => match us, hl with | [_, _], _ => rfl
  have g__has := He.glo_ok X G (c.t.d.fact 37 (f := .glo "_has") rfl)
  obtain ⟨fd__is_in, F__is_in⟩ := c.t.d.def_ 4 (d := d__is_in) rfl
  have B__is_in : Binds K fd__is_in ["lying", "left", "top"] [] := FunD.bindsN F__is_in fun _ _ _ _ _ _ us hl => match us, hl with | [_, _, _], _ => rfl
  have g__is_in := He.glo_ok X G (c.t.d.fact 38 (f := .glo "_is_in") rfl)
  obtain ⟨fd__last_in, F__last_in⟩ := c.t.d.def_ 5 (d := d__last_in) rfl
  have B__last_in : Binds K fd__last_in ["cells", "box"] [] := FunD.bindsN F__last_in fun _ _ _ _ _ _ us hl => match us, hl with | [_, _], _ => rfl
  have g__last_in := He.glo_ok X G (c.t.d.fact 39 (f := .glo "_last_in") rfl)
  obtain ⟨fd__law_all, F__law_all⟩ := c.t.d.def_ 6 (d := d__law_all) rfl
  have B__law_all : Binds K fd__law_all ["screen", "width", "height"] [] := FunD.bindsN F__law_all fun _ _ _ _ _ _ us hl => match us, hl with | [_, _, _], _ => rfl
  have g__law_all := He.glo_ok X G (c.t.d.fact 40 (f := .glo "_law_all") rfl)
  obtain ⟨fd__law_cells, F__law_cells⟩ := c.t.d.def_ 7 (d := d__law_cells) rfl
  have B__law_cells : Binds K fd__law_cells ["lying"] [] := FunD.bindsN F__law_cells fun _ _ _ _ _ _ us hl => match us, hl with | [_], _ => rfl
  have g__law_cells := He.glo_ok X G (c.t.d.fact 41 (f := .glo "_law_cells") rfl)
  obtain ⟨fd__law_draws, F__law_draws⟩ := c.t.d.def_ 8 (d := d__law_draws) rfl
  have B__law_draws : Binds K fd__law_draws ["script", "many"] [] := FunD.bindsN F__law_draws fun _ _ _ _ _ _ us hl => match us, hl with | [_, _], _ => rfl
  have g__law_draws := He.glo_ok X G (c.t.d.fact 42 (f := .glo "_law_draws") rfl)
  obtain ⟨fd__law_in, F__law_in⟩ := c.t.d.def_ 9 (d := d__law_in) rfl
  have B__law_in : Binds K fd__law_in ["box"] [] := FunD.bindsN F__law_in fun _ _ _ _ _ _ us hl => match us, hl with | [_], _ => rfl
  have g__law_in := He.glo_ok X G (c.t.d.fact 43 (f := .glo "_law_in") rfl)
  obtain ⟨fd__law_screen, F__law_screen⟩ := c.t.d.def_ 10 (d := d__law_screen) rfl
  have B__law_screen : Binds K fd__law_screen ["draws", "many"] [] := FunD.bindsN F__law_screen fun _ _ _ _ _ _ us hl => match us, hl with | [_, _], _ => rfl
  have g__law_screen := He.glo_ok X G (c.t.d.fact 44 (f := .glo "_law_screen") rfl)
  obtain ⟨fd_check_lying, F_check_lying⟩ := c.t.d.def_ 11 (d := d_check_lying) rfl
  have B_check_lying : Binds K fd_check_lying ["screen", "lying"] [] := FunD.bindsN F_check_lying fun _ _ _ _ _ _ us hl => match us, hl with | [_, _], _ => rfl
  have g_check_lying := He.glo_ok X G (c.t.d.fact 45 (f := .glo "check_lying") rfl)
  obtain ⟨fd_check_own, F_check_own⟩ := c.t.d.def_ 12 (d := d_check_own) rfl
  have B_check_own : Binds K fd_check_own ["screen", "lying", "box"] [] := FunD.bindsN F_check_own fun _ _ _ _ _ _ us hl => match us, hl with | [_, _, _], _ => rfl
  have g_check_own := He.glo_ok X G (c.t.d.fact 46 (f := .glo "check_own") rfl)
  obtain ⟨fd_covered_cells, F_covered_cells⟩ := c.t.d.def_ 13 (d := d_covered_cells) rfl
  have B_covered_cells : Binds K fd_covered_cells ["screen", "lying", "box"] [] := FunD.bindsN F_covered_cells fun _ _ _ _ _ _ us hl => match us, hl with | [_, _, _], _ => rfl
  have g_covered_cells := He.glo_ok X G (c.t.d.fact 47 (f := .glo "covered_cells") rfl)
  obtain ⟨fd_is_screen, F_is_screen⟩ := c.t.d.def_ 14 (d := d_is_screen) rfl
  have B_is_screen : Binds K fd_is_screen ["value"] [] := FunD.bindsN F_is_screen fun _ _ _ _ _ _ us hl => match us, hl with | [_], _ => rfl
  have g_is_screen := He.glo_ok X G (c.t.d.fact 48 (f := .glo "is_screen") rfl)
  obtain ⟨fd_is_whole, F_is_whole⟩ := c.t.d.def_ 15 (d := d_is_whole) rfl
  have B_is_whole : Binds K fd_is_whole ["value", "least", "most"] [] := FunD.bindsN F_is_whole fun _ _ _ _ _ _ us hl => match us, hl with | [_, _, _], _ => rfl
  have g_is_whole := He.glo_ok X G (c.t.d.fact 49 (f := .glo "is_whole") rfl)
  obtain ⟨fd_law, F_law⟩ := c.t.d.def_ 16 (d := d_law) rfl
  have B_law : Binds K fd_law ["script"] [] := FunD.bindsN F_law fun _ _ _ _ _ _ us hl => match us, hl with | [_], _ => rfl
  have g_law := He.glo_ok X G (c.t.d.fact 50 (f := .glo "law") rfl)
  obtain ⟨fd_least_cover, F_least_cover⟩ := c.t.d.def_ 17 (d := d_least_cover) rfl
  have B_least_cover : Binds K fd_least_cover ["screen", "lying", "width", "height"] [] := FunD.bindsN F_least_cover fun _ _ _ _ _ _ us hl => match us, hl with | [_, _, _, _], _ => rfl
  have g_least_cover := He.glo_ok X G (c.t.d.fact 51 (f := .glo "least_cover") rfl)
  obtain ⟨fd_lies_on, F_lies_on⟩ := c.t.d.def_ 18 (d := d_lies_on) rfl
  have B_lies_on : Binds K fd_lies_on ["screen", "value"] [] := FunD.bindsN F_lies_on fun _ _ _ _ _ _ us hl => match us, hl with | [_, _], _ => rfl
  have g_lies_on := He.glo_ok X G (c.t.d.fact 52 (f := .glo "lies_on") rfl)
  obtain ⟨fd_lines_by, F_lines_by⟩ := c.t.d.def_ 19 (d := d_lines_by) rfl
  have B_lines_by : Binds K fd_lines_by ["screen", "lying", "axis"] [] := FunD.bindsN F_lines_by fun _ _ _ _ _ _ us hl => match us, hl with | [_, _, _], _ => rfl
  have g_lines_by := He.glo_ok X G (c.t.d.fact 53 (f := .glo "lines_by") rfl)
  obtain ⟨fd_place_for, F_place_for⟩ := c.t.d.def_ 20 (d := d_place_for) rfl
  have B_place_for : Binds K fd_place_for ["screen", "lying", "width", "height"] [] := FunD.bindsN F_place_for fun _ _ _ _ _ _ us hl => match us, hl with | [_, _, _, _], _ => rfl
  have g_place_for := He.glo_ok X G (c.t.d.fact 54 (f := .glo "place_for") rfl)
  obtain ⟨fd_Cells_all_boxes, F_Cells_all_boxes⟩ := c.t.d.def_ 21 (d := d_Cells_all_boxes) rfl
  have B_Cells_all_boxes : Binds K fd_Cells_all_boxes ["self", "width", "height"] [] := FunD.bindsN F_Cells_all_boxes fun _ _ _ _ _ _ us hl => match us, hl with | [_, _, _], _ => rfl
  obtain ⟨fd_Cells_is_one, F_Cells_is_one⟩ := c.t.d.def_ 22 (d := d_Cells_is_one) rfl
  have B_Cells_is_one : Binds K fd_Cells_is_one ["self", "cell"] [] := FunD.bindsN F_Cells_is_one fun _ _ _ _ _ _ us hl => match us, hl with | [_, _], _ => rfl
  obtain ⟨fd_Cells_many, F_Cells_many⟩ := c.t.d.def_ 23 (d := d_Cells_many) rfl
  have B_Cells_many : Binds K fd_Cells_many ["self", "box"] [] := FunD.bindsN F_Cells_many fun _ _ _ _ _ _ us hl => match us, hl with | [_, _], _ => rfl
  obtain ⟨fd_Cells___init__, F_Cells___init__⟩ := c.t.d.def_ 24 (d := d_Cells___init__) rfl
  have B_Cells___init__ : Binds K fd_Cells___init__ ["self", "screen", "lying"] [] := FunD.bindsN F_Cells___init__ fun _ _ _ _ _ _ us hl => match us, hl with | [_, _, _], _ => rfl
  have M_Cells_all_boxes := He.meth_ok (c.t.d.fact 29 (f := .meth "Cells" "all_boxes") rfl)
  have M_Cells_is_one := He.meth_ok (c.t.d.fact 30 (f := .meth "Cells" "is_one") rfl)
  have M_Cells_many := He.meth_ok (c.t.d.fact 31 (f := .meth "Cells" "many") rfl)
  have M_Cells___init__ := He.mkr_ok (c.t.d.fact 32 (f := .mkr "Cells") rfl)
  have g_Cells := He.glo_ok X G (c.t.d.fact 33 (f := .glo "Cells") rfl)
  intro k
  induction k with
  | zero => exact ⟨⟨⟨_, fd__bars, ["cells", "width", "height"], fn_zero 3 (fun _ h => h), g__bars, F__bars.kp, B__bars⟩, ⟨_, fd__begins, ["screen", "lying", "axis", "size"], fn_zero 4 (fun _ h => h), g__begins, F__begins.kp, B__begins⟩, ⟨_, fd__check_sides, ["screen", "lying", "width", "height"], fn_zero 4 (fun _ h => h), g__check_sides, F__check_sides.kp, B__check_sides⟩, ⟨_, fd__has, ["box", "cell"], fn_zero 2 (fun _ h => h), g__has, F__has.kp, B__has⟩, ⟨_, fd__is_in, ["lying", "left", "top"], fn_zero 3 (fun _ h => h), g__is_in, F__is_in.kp, B__is_in⟩, ⟨_, fd__last_in, ["cells", "box"], fn_zero 2 (fun _ h => h), g__last_in, F__last_in.kp, B__last_in⟩, ⟨_, fd__law_all, ["screen", "width", "height"], fn_zero 3 (fun _ h => h), g__law_all, F__law_all.kp, B__law_all⟩, ⟨_, fd__law_cells, ["lying"], fn_zero 1 (fun _ h => h), g__law_cells, F__law_cells.kp, B__law_cells⟩, ⟨_, fd__law_draws, ["script", "many"], fn_zero 2 (fun _ h => h), g__law_draws, F__law_draws.kp, B__law_draws⟩, ⟨_, fd__law_in, ["box"], fn_zero 1 (fun _ h => h), g__law_in, F__law_in.kp, B__law_in⟩, ⟨_, fd__law_screen, ["draws", "many"], fn_zero 2 (fun _ h => h), g__law_screen, F__law_screen.kp, B__law_screen⟩, ⟨_, fd_check_lying, ["screen", "lying"], fn_zero 2 (fun _ h => h), g_check_lying, F_check_lying.kp, B_check_lying⟩, ⟨_, fd_check_own, ["screen", "lying", "box"], fn_zero 3 (fun _ h => h), g_check_own, F_check_own.kp, B_check_own⟩, ⟨_, fd_covered_cells, ["screen", "lying", "box"], fn_zero 3 (fun _ h => h), g_covered_cells, F_covered_cells.kp, B_covered_cells⟩, ⟨_, fd_is_screen, ["value"], fn_zero 1 (fun _ h => h), g_is_screen, F_is_screen.kp, B_is_screen⟩, ⟨_, fd_is_whole, ["value", "least", "most"], fn_zero 3 (fun _ h => h), g_is_whole, F_is_whole.kp, B_is_whole⟩, ⟨_, fd_law, ["script"], fn_zero 1 (fun _ h => h), g_law, F_law.kp, B_law⟩, ⟨_, fd_least_cover, ["screen", "lying", "width", "height"], fn_zero 4 (fun _ h => h), g_least_cover, F_least_cover.kp, B_least_cover⟩, ⟨_, fd_lies_on, ["screen", "value"], fn_zero 2 (fun _ h => h), g_lies_on, F_lies_on.kp, B_lies_on⟩, ⟨_, fd_lines_by, ["screen", "lying", "axis"], fn_zero 3 (fun _ h => h), g_lines_by, F_lines_by.kp, B_lines_by⟩, ⟨_, fd_place_for, ["screen", "lying", "width", "height"], fn_zero 4 (fun _ h => h), g_place_for, F_place_for.kp, B_place_for⟩, ⟨⟨_, fd_Cells_all_boxes, ["self", "width", "height"], fn_zero 3 (fun _ h => h), M_Cells_all_boxes, B_Cells_all_boxes⟩⟩, ⟨⟨_, fd_Cells_is_one, ["self", "cell"], fn_zero 2 (fun _ h => h), M_Cells_is_one, B_Cells_is_one⟩⟩, ⟨⟨_, fd_Cells_many, ["self", "box"], fn_zero 2 (fun _ h => h), M_Cells_many, B_Cells_many⟩⟩, ⟨⟨_, fd_Cells___init__, ["self", "screen", "lying"], fn_zeroI 2 (fun _ h => h), M_Cells___init__, g_Cells, B_Cells___init__⟩⟩⟩, ⟨⟨_, fd__bars, ["cells", "width", "height"], fn_zero 3 (fun _ h => h), g__bars, F__bars.kp, B__bars⟩, ⟨_, fd__begins, ["screen", "lying", "axis", "size"], fn_zero 4 (fun _ h => h), g__begins, F__begins.kp, B__begins⟩, ⟨_, fd__check_sides, ["screen", "lying", "width", "height"], fn_zero 4 (fun _ h => h), g__check_sides, F__check_sides.kp, B__check_sides⟩, ⟨_, fd__has, ["box", "cell"], fn_zero 2 (fun _ h => h), g__has, F__has.kp, B__has⟩, ⟨_, fd__is_in, ["lying", "left", "top"], fn_zero 3 (fun _ h => h), g__is_in, F__is_in.kp, B__is_in⟩, ⟨_, fd__last_in, ["cells", "box"], fn_zero 2 (fun _ h => h), g__last_in, F__last_in.kp, B__last_in⟩, ⟨_, fd__law_all, ["screen", "width", "height"], fn_zero 3 (fun _ h => h), g__law_all, F__law_all.kp, B__law_all⟩, ⟨_, fd__law_cells, ["lying"], fn_zero 1 (fun _ h => h), g__law_cells, F__law_cells.kp, B__law_cells⟩, ⟨_, fd__law_draws, ["script", "many"], fn_zero 2 (fun _ h => h), g__law_draws, F__law_draws.kp, B__law_draws⟩, ⟨_, fd__law_in, ["box"], fn_zero 1 (fun _ h => h), g__law_in, F__law_in.kp, B__law_in⟩, ⟨_, fd__law_screen, ["draws", "many"], fn_zero 2 (fun _ h => h), g__law_screen, F__law_screen.kp, B__law_screen⟩, ⟨_, fd_check_lying, ["screen", "lying"], fn_zero 2 (fun _ h => h), g_check_lying, F_check_lying.kp, B_check_lying⟩, ⟨_, fd_check_own, ["screen", "lying", "box"], fn_zero 3 (fun _ h => h), g_check_own, F_check_own.kp, B_check_own⟩, ⟨_, fd_covered_cells, ["screen", "lying", "box"], fn_zero 3 (fun _ h => h), g_covered_cells, F_covered_cells.kp, B_covered_cells⟩, ⟨_, fd_is_screen, ["value"], fn_zero 1 (fun _ h => h), g_is_screen, F_is_screen.kp, B_is_screen⟩, ⟨_, fd_is_whole, ["value", "least", "most"], fn_zero 3 (fun _ h => h), g_is_whole, F_is_whole.kp, B_is_whole⟩, ⟨_, fd_law, ["script"], fn_zero 1 (fun _ h => h), g_law, F_law.kp, B_law⟩, ⟨_, fd_least_cover, ["screen", "lying", "width", "height"], fn_zero 4 (fun _ h => h), g_least_cover, F_least_cover.kp, B_least_cover⟩, ⟨_, fd_lies_on, ["screen", "value"], fn_zero 2 (fun _ h => h), g_lies_on, F_lies_on.kp, B_lies_on⟩, ⟨_, fd_lines_by, ["screen", "lying", "axis"], fn_zero 3 (fun _ h => h), g_lines_by, F_lines_by.kp, B_lines_by⟩, ⟨_, fd_place_for, ["screen", "lying", "width", "height"], fn_zero 4 (fun _ h => h), g_place_for, F_place_for.kp, B_place_for⟩, ⟨⟨_, fd_Cells_all_boxes, ["self", "width", "height"], fn_zero 3 (fun _ h => h), M_Cells_all_boxes, B_Cells_all_boxes⟩⟩, ⟨⟨_, fd_Cells_is_one, ["self", "cell"], fn_zero 2 (fun _ h => h), M_Cells_is_one, B_Cells_is_one⟩⟩, ⟨⟨_, fd_Cells_many, ["self", "box"], fn_zero 2 (fun _ h => h), M_Cells_many, B_Cells_many⟩⟩, ⟨⟨_, fd_Cells___init__, ["self", "screen", "lying"], fn_zeroI 2 (fun _ h => h), M_Cells___init__, g_Cells, B_Cells___init__⟩⟩⟩⟩
  | succ k ih =>
    have E : En P w K mg base k (dnn (fun x => He.ga K x) (k + 1)) (dnn (fun x => He.ga K x) k) := ⟨ih.2.a__bars, ih.2.a__begins, ih.2.a__check_sides, ih.2.a__has, ih.2.a__is_in, ih.2.a__last_in, ih.2.a__law_all, ih.2.a__law_cells, ih.2.a__law_draws, ih.2.a__law_in, ih.2.a__law_screen, ih.2.a_check_lying, ih.2.a_check_own, ih.2.a_covered_cells, ih.2.a_is_screen, ih.2.a_is_whole, ih.2.a_least_cover, ih.2.a_lies_on, ih.2.a_lines_by, ih.2.a_place_for, ih.2.t_Cells_all_boxes, ih.2.t_Cells_is_one, ih.2.t_Cells_many, ih.1.k_Cells⟩
    exact ⟨ih.2, ⟨⟨_, fd__bars, _, fn_vs F__bars sc_15 rfl (fun cdv A outer s H Ex W hr tk => w_15 fx E _ cdv A outer s H Ex W hr tk), g__bars, F__bars.kp, B__bars⟩, ⟨_, fd__begins, _, fn_vs F__begins sc_13 rfl (fun cdv A outer s H Ex W hr tk => w_13 fx E _ cdv A outer s H Ex W hr tk), g__begins, F__begins.kp, B__begins⟩, ⟨_, fd__check_sides, _, fn_vs F__check_sides sc_12 rfl (fun cdv A outer s H Ex W hr tk => w_12 fx E _ cdv A outer s H Ex W hr tk), g__check_sides, F__check_sides.kp, B__check_sides⟩, ⟨_, fd__has, _, fn_vs F__has sc_16 rfl (fun cdv A outer s H Ex W hr tk => w_16 fx E _ cdv A outer s H Ex W hr tk), g__has, F__has.kp, B__has⟩, ⟨_, fd__is_in, _, fn_vs F__is_in sc_10 rfl (fun cdv A outer s H Ex W hr tk => w_10 fx E _ cdv A outer s H Ex W hr tk), g__is_in, F__is_in.kp, B__is_in⟩, ⟨_, fd__last_in, _, fn_vs F__last_in sc_17 rfl (fun cdv A outer s H Ex W hr tk => w_17 fx E _ cdv A outer s H Ex W hr tk), g__last_in, F__last_in.kp, B__last_in⟩, ⟨_, fd__law_all, _, fn_vs F__law_all sc_22 rfl (fun cdv A outer s H Ex W hr tk => w_22 fx E _ cdv A outer s H Ex W hr tk), g__law_all, F__law_all.kp, B__law_all⟩, ⟨_, fd__law_cells, _, fn_vs F__law_cells sc_21 rfl (fun cdv A outer s H Ex W hr tk => w_21 fx E _ cdv A outer s H Ex W hr tk), g__law_cells, F__law_cells.kp, B__law_cells⟩, ⟨_, fd__law_draws, _, fn_vs F__law_draws sc_19 rfl (fun cdv A outer s H Ex W hr tk => w_19 fx E _ cdv A outer s H Ex W hr tk), g__law_draws, F__law_draws.kp, B__law_draws⟩, ⟨_, fd__law_in, _, fn_vs F__law_in sc_23 rfl (fun cdv A outer s H Ex W hr tk => w_23 fx E _ cdv A outer s H Ex W hr tk), g__law_in, F__law_in.kp, B__law_in⟩, ⟨_, fd__law_screen, _, fn_vs F__law_screen sc_20 rfl (fun cdv A outer s H Ex W hr tk => w_20 fx E _ cdv A outer s H Ex W hr tk), g__law_screen, F__law_screen.kp, B__law_screen⟩, ⟨_, fd_check_lying, _, fn_vs F_check_lying sc_3 rfl (fun cdv A outer s H Ex W hr tk => w_3 fx E _ cdv A outer s H Ex W hr tk), g_check_lying, F_check_lying.kp, B_check_lying⟩, ⟨_, fd_check_own, _, fn_vs F_check_own sc_4 rfl (fun cdv A outer s H Ex W hr tk => w_4 fx E _ cdv A outer s H Ex W hr tk), g_check_own, F_check_own.kp, B_check_own⟩, ⟨_, fd_covered_cells, _, fn_vs F_covered_cells sc_11 rfl (fun cdv A outer s H Ex W hr tk => w_11 fx E _ cdv A outer s H Ex W hr tk), g_covered_cells, F_covered_cells.kp, B_covered_cells⟩, ⟨_, fd_is_screen, _, fn_vs F_is_screen sc_1 rfl (fun cdv A outer s H Ex W hr tk => w_1 fx E _ cdv A outer s H Ex W hr tk), g_is_screen, F_is_screen.kp, B_is_screen⟩, ⟨_, fd_is_whole, _, fn_vs F_is_whole sc_0 rfl (fun cdv A outer s H Ex W hr tk => w_0 fx E _ cdv A outer s H Ex W hr tk), g_is_whole, F_is_whole.kp, B_is_whole⟩, ⟨_, fd_law, _, fn_vs F_law sc_24 rfl (fun cdv A outer s H Ex W hr tk => w_24 fx E _ cdv A outer s H Ex W hr tk), g_law, F_law.kp, B_law⟩, ⟨_, fd_least_cover, _, fn_vs F_least_cover sc_14 rfl (fun cdv A outer s H Ex W hr tk => w_14 fx E _ cdv A outer s H Ex W hr tk), g_least_cover, F_least_cover.kp, B_least_cover⟩, ⟨_, fd_lies_on, _, fn_vs F_lies_on sc_2 rfl (fun cdv A outer s H Ex W hr tk => w_2 fx E _ cdv A outer s H Ex W hr tk), g_lies_on, F_lies_on.kp, B_lies_on⟩, ⟨_, fd_lines_by, _, fn_vs F_lines_by sc_5 rfl (fun cdv A outer s H Ex W hr tk => w_5 fx E _ cdv A outer s H Ex W hr tk), g_lines_by, F_lines_by.kp, B_lines_by⟩, ⟨_, fd_place_for, _, fn_vs F_place_for sc_18 rfl (fun cdv A outer s H Ex W hr tk => w_18 fx E _ cdv A outer s H Ex W hr tk), g_place_for, F_place_for.kp, B_place_for⟩, ⟨⟨_, fd_Cells_all_boxes, _, fn_vs F_Cells_all_boxes sc_9 rfl (fun cdv A outer s H Ex W hr tk => w_9 fx E _ cdv A outer s H Ex W hr tk), M_Cells_all_boxes, B_Cells_all_boxes⟩⟩, ⟨⟨_, fd_Cells_is_one, _, fn_vs F_Cells_is_one sc_7 rfl (fun cdv A outer s H Ex W hr tk => w_7 fx E _ cdv A outer s H Ex W hr tk), M_Cells_is_one, B_Cells_is_one⟩⟩, ⟨⟨_, fd_Cells_many, _, fn_vs F_Cells_many sc_8 rfl (fun cdv A outer s H Ex W hr tk => w_8 fx E _ cdv A outer s H Ex W hr tk), M_Cells_many, B_Cells_many⟩⟩, ⟨⟨_, fd_Cells___init__, _, fn_init F_Cells___init__ sc_6 rfl rfl (fun cdv A outer s H Ex W hr tk => w_6 fx E _ cdv A outer s H Ex W hr tk), M_Cells___init__, g_Cells, B_Cells___init__⟩⟩⟩⟩
theorem law_fn {P : Program} {w : World} {K : PySem.W.Frag} {h : Heap} {mg : Str → Option Value} {f : Addr} (X : K.In h) (G : h.Ns mainGlobals mg) (hfa : mg ("law" : Str) = some (.ref f)) (c : He.SaysX fa fn exx.ts [] exx.b w h K) :
    ∃ fd : FuncData, (∀ (s : Shared) (v : Value), BindsTo s fd ⟨[v], []⟩ [("script", v)]) ∧ ∀ base : Heap, L2.FnOk P w K mg base (L2.CX P w) 61 f fd ["script"] (VS.SpG K mg 1 (dnn (fun x => He.ga K x) 61 24)) := by
  have fx := fx_of X G c
  obtain ⟨fd, Fl⟩ := c.t.d.def_ 16 (d := d_law) rfl
  have gl := He.glo_ok X G (c.t.d.fact 50 (f := .glo "law") rfl)
  have e := hfa.symm.trans gl
  cases e
  have b := FunD.bindsA (ps := ["script"]) Fl fun _ _ _ _ _ _ us hl => match us, hl with | [_], _ => rfl
  refine ⟨fd, fun s v => b s [v] rfl, fun base => ?_⟩
  have ih := all (P := P) (w := w) X G c base 59
  have E : En P w K mg base 59 (dnn (fun x => He.ga K x) 60) (dnn (fun x => He.ga K x) 59) := ⟨ih.2.a__bars, ih.2.a__begins, ih.2.a__check_sides, ih.2.a__has, ih.2.a__is_in, ih.2.a__last_in, ih.2.a__law_all, ih.2.a__law_cells, ih.2.a__law_draws, ih.2.a__law_in, ih.2.a__law_screen, ih.2.a_check_lying, ih.2.a_check_own, ih.2.a_covered_cells, ih.2.a_is_screen, ih.2.a_is_whole, ih.2.a_least_cover, ih.2.a_lies_on, ih.2.a_lines_by, ih.2.a_place_for, ih.2.t_Cells_all_boxes, ih.2.t_Cells_is_one, ih.2.t_Cells_many, ih.1.k_Cells⟩
  exact fn_vs Fl sc_24 rfl (fun cdv A outer s H Ex W hr tk => w_24 fx E _ cdv A outer s H Ex W hr tk)
abbrev R : PySem.W.OpenRow := PySem.W.OpenLaw.row PySem.Challenge.rw_windowwright_k36_whole_least_cover
abbrev hk : PySem.W.Hook := He.hookX 6 fa fn exx.ts [] exx.b
def ob (s : PySem.W.SharedT) : He.AlX := He.obsX 6 fa fn exx.ts [] exx.b (HandSHeadRun.getT s)
theorem ob_eq (s : PySem.W.SharedT) : ob s = hk.obs s.abs := He.obsX_eq (HandSHeadRun.getT_eq s)
def loose : List Str := [("WindowError" : Str), ("BadBox" : Str), ("BadScreen" : Str), ("BadLying" : Str), ("BadSides" : Str), ("is_whole" : Str), ("MOST_SCREEN" : Str), ("MOST_LYING" : Str), ("AXES" : Str), ("is_screen" : Str), ("lies_on" : Str), ("check_lying" : Str), ("check_own" : Str), ("lines_by" : Str), ("Cells" : Str), ("_is_in" : Str), ("covered_cells" : Str), ("_check_sides" : Str), ("_begins" : Str), ("least_cover" : Str)] ++ [("_bars" : Str), ("_has" : Str), ("_last_in" : Str), ("place_for" : Str), ("_law_draws" : Str), ("_law_screen" : Str), ("_law_cells" : Str), ("_law_all" : Str), ("_law_in" : Str)]
theorem run (w : World) : HandSHeadRun.RunEq R (PySem.W.view R.prog [34]) hk ob 6000 loose w := by
  intro os
  kernel_rfl
end KL
open PySem PySem.W PySem.Calls PyProof.Rows
theorem KL.holds (good : ∀ [VS.Cl] (ns : List Int), ns.length ≤ 63 → KL.den 60 24 [.br ns] = .ok (.bool true)) : PySem.Challenge.rw_windowwright_k36_whole_least_cover.Holds := by
  w_on; o_law
  refine HandSHeadRun.head_any (r := OpenLaw.row PySem.Challenge.rw_windowwright_k36_whole_least_cover) (q := view (OpenLaw.row PySem.Challenge.rw_windowwright_k36_whole_least_cover).prog [34]) (H := KL.hk) (ob := KL.ob) (M := 6000) (loose := KL.loose) (d := HandSHeadRun.topDef (OpenLaw.row PySem.Challenge.rw_windowwright_k36_whole_least_cover).prog 34) (kwd := []) KL.ob_eq
    (by kernel_rfl) (fun s => by kernel_rfl) KL.run (by kernel_rfl) (by kernel_rfl) (by kernel_rfl) (by rfl) (by first | assumption | decide +kernel) (by decide +kernel) ⟨rfl, rfl, rfl, rfl, rfl, by decide +kernel⟩ ?hw ?hc
  case hw => w_witness2
  case hc =>
    refine VS.walk_law (l := PySem.Challenge.rw_windowwright_k36_whole_least_cover) (k := 61) (x := "script") rfl (by kernel_rfl) ⟨rfl, by decide, by decide⟩ ?F
    intro w mg fa h Y G hmg0
    obtain ⟨K, KX, c⟩ := Y
    have hmg : mg ("law" : PySem.Str) = some (.ref fa) := by
      have e : (HandSHeadRun.topDef (OpenLaw.row PySem.Challenge.rw_windowwright_k36_whole_least_cover).prog 34).name = ("law" : PySem.Str) := by kernel_rfl
      rw [← e]
      exact hmg0
    obtain ⟨fd, b, F⟩ : ∃ fd, (∀ (s : Shared) (v : Value), BindsTo s fd ⟨[v], []⟩ [("script", v)]) ∧ ∀ base : Heap, L2.FnOk PySem.Challenge.pw_windowwright_k36_whole_least_cover w K mg base (L2.CX PySem.Challenge.pw_windowwright_k36_whole_least_cover w) 61 fa fd ["script"] (VS.SpG K mg 1 (KL.dnn (fun x => He.ga K x) 61 24)) := KL.law_fn KX G hmg c
    exact ⟨K, fd, _, KX, b, fun base _ _ => F base, fun ns hl => @good ⟨fun x => He.ga K x⟩ ns hl⟩
end
section
namespace VS
open PySem PySem.Spec PyProof.Rows L2

/-! ### evaluation by simp -/
@[simp] theorem ev_seq (f g : Dl → RS) (δ : Dl) : seqS f g δ = (f δ).bnd g := Eq.trans rfl (Eq.refl _)
@[simp] theorem ev_nx (δ : Dl) : nxS δ = .nx δ := Eq.trans rfl (Eq.refl _)
@[simp] theorem ev_bk (δ : Dl) : bkS δ = .bk δ := Eq.trans rfl (Eq.refl _)
@[simp] theorem ev_ct (δ : Dl) : ctS δ = .ct δ := Eq.trans rfl (Eq.refl _)
@[simp] theorem ev_ret (f : Dl → Re D) (δ : Dl) : retS f δ = toS (f δ) .rt := Eq.trans rfl (Eq.refl _)
@[simp] theorem ev_retN (δ : Dl) : retN δ = .rt .none := Eq.trans rfl (Eq.refl _)
@[simp] theorem ev_if (t : Dl → Re Bool) (f g : Dl → RS) (δ : Dl) : ifS t f g δ = toS (t δ) fun b => if b = true then f δ else g δ := Eq.trans rfl (Eq.refl _)
@[simp] theorem ev_set (i : Nat) (f : Dl → Re D) (δ : Dl) : setS i f δ = toS (f δ) fun d => .nx (δ.set i (.sh d)) := Eq.trans rfl (Eq.refl _)
@[simp] theorem ev_setO (i : Nat) (f : Dl → Re D) (δ : Dl) : setO i f δ = toS (f δ) fun d => .nx (δ.set i (.ow d)) := Eq.trans rfl (Eq.refl _)
@[simp] theorem ev_asg (b : Bd) (f : Dl → Re D) (δ : Dl) : asgS b f δ = toS (f δ) fun d => match b d δ with | some δ' => .nx δ' | none => .no := Eq.trans rfl (Eq.refl _)
@[simp] theorem ev_for (items : Dl → Re (List D)) (b : Bd) (body : Dl → RS) (δ : Dl) : forS items b body δ = toS (items δ) fun ds => goS b body ds δ := Eq.trans rfl (Eq.refl _)
@[simp] theorem ev_drop (f : Dl → Re D) (δ : Dl) : dropS f δ = toS (f δ) fun _ => .nx δ := Eq.trans rfl (Eq.refl _)
@[simp] theorem ev_rai (nm : Str) (δ : Dl) : raiS nm δ = .ex (.mk nm []) := Eq.trans rfl (Eq.refl _)
@[simp] theorem gS_zero (d : D) (r : Dl) : gS 0 (.sh d :: r) = .ok d := Eq.trans rfl (Eq.refl _)
@[simp] theorem gS_succ (i : Nat) (s : Sl) (r : Dl) : gS (i + 1) (s :: r) = gS i r := Eq.trans rfl (Eq.refl _)
@[simp] theorem gB_zero (d : D) (r : Dl) : gB 0 (.sh d :: r) = .ok d := Eq.trans rfl (Eq.refl _)
@[simp] theorem gB_zero' (d : D) (r : Dl) : gB 0 (.ow d :: r) = .ok d := Eq.trans rfl (Eq.refl _)
@[simp] theorem gB_succ (i : Nat) (s : Sl) (r : Dl) : gB (i + 1) (s :: r) = gB i r := Eq.trans rfl (Eq.refl _)
@[simp] theorem ev_k (d : D) (δ : Dl) : kC d δ = .ok d := Eq.trans rfl (Eq.refl _)
@[simp] theorem ev_d2 (g : D → D → Re D) (fa fb : Dl → Re D) (δ : Dl) : d2 g fa fb δ = (fa δ).bnd fun x => (fb δ).bnd fun y => g x y := Eq.trans rfl (Eq.refl _)
@[simp] theorem ev_d1 (g : D → Re D) (fa : Dl → Re D) (δ : Dl) : d1 g fa δ = (fa δ).bnd g := Eq.trans rfl (Eq.refl _)
@[simp] theorem ev_dA (fs : Dl → Re (List D)) (g : List D → Re D) (δ : Dl) : dA fs g δ = (fs δ).bnd g := Eq.trans rfl (Eq.refl _)
@[simp] theorem ev_dAL (fs : Dl → Re (List D)) (g : List D → Re (List D)) (δ : Dl) : dAL fs g δ = (fs δ).bnd g := Eq.trans rfl (Eq.refl _)
@[simp] theorem ev_d1L (g : D → Re (List D)) (fa : Dl → Re D) (δ : Dl) : d1L g fa δ = (fa δ).bnd g := Eq.trans rfl (Eq.refl _)
@[simp] theorem ev_args0 (δ : Dl) : argsF [] δ = .ok [] := Eq.trans rfl (Eq.refl _)
@[simp] theorem ev_args (f : Dl → Re D) (fs : List (Dl → Re D)) (δ : Dl) : argsF (f :: fs) δ = (f δ).bnd fun d => (argsF fs δ).bnd fun ds => .ok (d :: ds) := Eq.trans rfl (Eq.refl _)
@[simp] theorem ev_argsM0 (δ : Dl) : argsM [] δ = .ok [] := Eq.trans rfl (Eq.refl _)
@[simp] theorem ev_argsMf (f : Dl → Re D) (fs : List (Bool × (Dl → Re D))) (δ : Dl) : argsM ((false, f) :: fs) δ = (f δ).bnd fun d => (argsM fs δ).bnd fun ss => .ok (.sh d :: ss) := Eq.trans rfl (Eq.refl _)
@[simp] theorem ev_argsMt (f : Dl → Re D) (fs : List (Bool × (Dl → Re D))) (δ : Dl) : argsM ((true, f) :: fs) δ = (f δ).bnd fun d => (argsM fs δ).bnd fun ss => .ok (.ow d :: ss) := Eq.trans rfl (Eq.refl _)
@[simp] theorem ev_par (is : List Nat) (fm : Dl → Re (List Sl)) (δ : Dl) : parS is fm δ = toS (fm δ) fun ss => if ss.length = is.length then .nx (bindM is ss δ) else .no := Eq.trans rfl (Eq.refl _)
@[simp] theorem ev_bindM (i : Nat) (is : List Nat) (s : Sl) (ss : List Sl) (δ : Dl) : bindM (i :: is) (s :: ss) δ = bindM is ss (δ.set i s) := Eq.trans rfl (Eq.refl _)
@[simp] theorem ev_bindM0 (ss : List Sl) (δ : Dl) : bindM [] ss δ = δ := by cases ss <;> rfl
@[simp] theorem ev_cD (g : List Sl → Re D) (ds : List D) : cD g ds = g (ds.map .sh) := Eq.trans rfl (Eq.refl _)
@[simp] theorem ev_and (fa fb : Dl → Re D) (δ : Dl) : dAnd fa fb δ = (fa δ).bnd fun x => (asB x).bnd fun b => if b = true then fb δ else .ok (.bool false) := Eq.trans rfl (Eq.refl _)
@[simp] theorem ev_or (fa fb : Dl → Re D) (δ : Dl) : dOr fa fb δ = (fa δ).bnd fun x => (asB x).bnd fun b => if b = true then .ok (.bool true) else fb δ := Eq.trans rfl (Eq.refl _)
@[simp] theorem ev_asB (b : Bool) : asB (.bool b) = .ok b := Eq.trans rfl (Eq.refl _)
@[simp] theorem ev_dNot (b : Bool) : dNot (.bool b) = .ok (.bool (!b)) := Eq.trans rfl (Eq.refl _)
@[simp] theorem ev_dIf (f : Dl → Re Bool) (fa fb : Dl → Re D) (δ : Dl) : dIf f fa fb δ = (f δ).bnd fun b => if b = true then fa δ else fb δ := Eq.trans rfl (Eq.refl _)
@[simp] theorem ev_tB1 (fa : Dl → Re D) (δ : Dl) : tB1 fa δ = (fa δ).bnd asB := Eq.trans rfl (Eq.refl _)
@[simp] theorem ev_tAnd (f g : Dl → Re Bool) (δ : Dl) : tAnd2 f g δ = (f δ).bnd fun b => if b = true then g δ else .ok false := Eq.trans rfl (Eq.refl _)
@[simp] theorem ev_tOr (f g : Dl → Re Bool) (δ : Dl) : tOr2 f g δ = (f δ).bnd fun b => if b = true then .ok true else g δ := Eq.trans rfl (Eq.refl _)
@[simp] theorem ev_tNot (f : Dl → Re Bool) (δ : Dl) : tNot1 f δ = (f δ).bnd fun b => .ok (!b) := Eq.trans rfl (Eq.refl _)
@[simp] theorem ev_chn (g g' : D → D → Re D) (fa fb fc : Dl → Re D) (δ : Dl) : chn g g' fa fb fc δ = (fa δ).bnd fun x => (fb δ).bnd fun y => (g x y).bnd fun z => (asB z).bnd fun b => if b = true then (fc δ).bnd fun w => g' y w else .ok (.bool false) := by
  unfold chn
  cases fa δ <;> simp
  cases fb δ <;> simp
  rename_i x y
  cases g x y <;> simp
  rename_i z
  cases z <;> simp [asB]
  rename_i b
  cases b <;> simp
theorem ev_isi (T : Ty) (d : D) (h : okT d = true) : isiD T d = .ok (.bool (isT T d)) := by unfold isiD; rw [if_pos h]
@[simp] theorem ev_isi_i (T : Ty) (d : Int) : isiD T (.int d) = .ok (.bool (isT T (.int d))) := ev_isi _ _ rfl
@[simp] theorem ev_isi_b (T : Ty) (d : Bool) : isiD T (.bool d) = .ok (.bool (isT T (.bool d))) := ev_isi _ _ rfl
@[simp] theorem ev_isi_s (T : Ty) (d : Str) : isiD T (.str d) = .ok (.bool (isT T (.str d))) := ev_isi _ _ rfl
@[simp] theorem ev_isi_t (T : Ty) (d : List D) : isiD T (.tuple d) = .ok (.bool (isT T (.tuple d))) := ev_isi _ _ rfl
@[simp] theorem ev_isi_l (T : Ty) (d : List D) : isiD T (.list d) = .ok (.bool (isT T (.list d))) := ev_isi _ _ rfl
@[simp] theorem ev_isi_n (T : Ty) : isiD T .none = .ok (.bool (isT T .none)) := ev_isi _ _ rfl
@[simp] theorem ev_yes (δ : Dl) : yesT δ = .ok true := Eq.trans rfl (Eq.refl _)
@[simp] theorem ev_bN (i : Nat) (d : D) (δ : Dl) : bN i d δ = some (δ.set i (.sh d)) := Eq.trans rfl (Eq.refl _)
@[simp] theorem ev_go0 (b : Bd) (body : Dl → RS) (δ : Dl) : goS b body [] δ = .nx δ := Eq.trans rfl (Eq.refl _)
@[simp] theorem ev_items_l (ds : List D) : itemsD (.list ds) = .ok ds := Eq.trans rfl (Eq.refl _)
@[simp] theorem ev_items_t (ds : List D) : itemsD (.tuple ds) = .ok ds := Eq.trans rfl (Eq.refl _)
@[simp] theorem ev_items_s (z : Str) : itemsD (.str z) = .ok (signs z) := Eq.trans rfl (Eq.refl _)
@[simp] theorem ev_lc (vs : List Nat) (items : Dl → Re (List D)) (b : Bd) (t : Dl → Re Bool) (e : Dl → Re D) (δ : Dl) : lcD vs items b t e δ =
  (items δ).bnd fun ds => if ds.length ≤ sizeLine then (lcL b t e (wipeD δ vs) ds).bnd fun ys => .ok (.list ys) else .no := Eq.trans rfl (Eq.refl _)
@[simp] theorem ev_lcL0 (b : Bd) (t : Dl → Re Bool) (e : Dl → Re D) (δ : Dl) : lcL b t e δ [] = .ok [] := Eq.trans rfl (Eq.refl _)
@[simp] theorem ev_wipe0 (δ : Dl) : wipeD δ [] = δ := Eq.trans rfl (Eq.refl _)
@[simp] theorem ev_wipe (δ : Dl) (v : Nat) (vs : List Nat) : wipeD δ (v :: vs) = (wipeD δ vs).set v .no := Eq.trans rfl (Eq.refl _)
/-! ### values -/
@[simp] theorem ev_lenL (xs : List D) : lenD [.list xs] = .ok (.int xs.length) := Eq.trans rfl (Eq.refl _)
@[simp] theorem ev_lenT (xs : List D) : lenD [.tuple xs] = .ok (.int xs.length) := Eq.trans rfl (Eq.refl _)
theorem ev_lenD (xs : List (D × D)) (h : isOb xs = false) : lenD [.dict xs] = .ok (.int xs.length) := by unfold lenD; simp only; rw [if_pos h]
theorem sz_line : sizeLine = 16777216 := sizeLine_eq
@[simp] theorem ev_ltI (i j : Int) : ltD (.int i) (.int j) = .ok (.bool (decide (i < j))) := by
  unfold ltD ltOk
  simp [PySem.W.alike, isN, PySem.W.dataLt_int]
@[simp] theorem ev_gtI (i j : Int) : gtD (.int i) (.int j) = .ok (.bool (decide (j < i))) := by
  unfold gtD ltOk
  simp [PySem.W.alike, isN, PySem.W.dataLt_int]
@[simp] theorem ev_leI (i j : Int) : leD (.int i) (.int j) = .ok (.bool (decide (i ≤ j))) := by
  unfold leD ltOk
  simp [PySem.W.alike, isN, PySem.W.dataLt_int]
  rw [← decide_not]
  congr 1
  simp
@[simp] theorem ev_geI (i j : Int) : geD (.int i) (.int j) = .ok (.bool (decide (j ≤ i))) := by
  unfold geD ltOk
  simp [PySem.W.alike, isN, PySem.W.dataLt_int]
  rw [← decide_not]
  congr 1
  simp
end VS
namespace VS
open PySem PySem.Spec PyProof.Rows L2
theorem eqD_of {x y : D} (h : dn 60 x = true) (h' : dn 60 y = true) : eqD x y = .ok (.bool (PyData.eqv x y)) := by unfold eqD; rw [if_pos ⟨h, h'⟩]
theorem neD_of {x y : D} (h : dn 60 x = true) (h' : dn 60 y = true) : neD x y = .ok (.bool (!PyData.eqv x y)) := by unfold neD; rw [if_pos ⟨h, h'⟩]
theorem str_beq (a b : Str) : (a == b) = decide (a = b) := by rw [Bool.eq_iff_iff]; simp
@[simp] theorem ev_eqI (i j : Int) : eqD (.int i) (.int j) = .ok (.bool (decide (i = j))) := by rw [eqD_of (by simp) (by simp)]; simp [PyData.eqv]; rw [Bool.eq_iff_iff]; simp
@[simp] theorem ev_neI (i j : Int) : neD (.int i) (.int j) = .ok (.bool (!decide (i = j))) := by rw [neD_of (by simp) (by simp)]; simp [PyData.eqv]; rw [Bool.eq_iff_iff]; simp
@[simp] theorem ev_eqS (i j : Str) : eqD (.str i) (.str j) = .ok (.bool (decide (i = j))) := by rw [eqD_of (by simp) (by simp)]; simp [PyData.eqv, str_beq]
@[simp] theorem ev_neS (i j : Str) : neD (.str i) (.str j) = .ok (.bool (!decide (i = j))) := by rw [neD_of (by simp) (by simp)]; simp [PyData.eqv, str_beq]
@[simp] theorem ev_addI (i j : Int) : addD (.int i) (.int j) = .ok (.int (i + j)) := Eq.trans rfl (Eq.refl _)
@[simp] theorem ev_subI (i j : Int) : subD (.int i) (.int j) = .ok (.int (i - j)) := Eq.trans rfl (Eq.refl _)
@[simp] theorem ev_intI (i : Int) : intD [.int i] = .ok (.int i) := Eq.trans rfl (Eq.refl _)
@[simp] theorem ev_absI (i : Int) : absD [.int i] = .ok (.int (if i < 0 then -i else i)) := Eq.trans rfl (Eq.refl _)
theorem ev_tup {ds : List D} (h : ds.length ≤ sizeLine) : tupD ds = .ok (.tuple ds) := by unfold tupD; rw [if_pos h]
theorem ev_lst {ds : List D} (h : ds.length ≤ sizeLine) : lstD ds = .ok (.list ds) := by unfold lstD; rw [if_pos h]
@[simp] theorem ev_tup0 : tupD [] = .ok (.tuple []) := ev_tup (by rw [sz_line]; simp)
@[simp] theorem ev_tup1 (a : D) : tupD [a] = .ok (.tuple [a]) := ev_tup (by rw [sz_line]; simp)
@[simp] theorem ev_tup2 (a b : D) : tupD [a, b] = .ok (.tuple [a, b]) := ev_tup (by rw [sz_line]; simp)
@[simp] theorem ev_tup3 (a b c : D) : tupD [a, b, c] = .ok (.tuple [a, b, c]) := ev_tup (by rw [sz_line]; simp)
@[simp] theorem ev_tup4 (a b c d : D) : tupD [a, b, c, d] = .ok (.tuple [a, b, c, d]) := ev_tup (by rw [sz_line]; simp)
@[simp] theorem ev_lst0 : lstD [] = .ok (.list []) := ev_lst (by rw [sz_line]; simp)
@[simp] theorem ev_lst1 (a : D) : lstD [a] = .ok (.list [a]) := ev_lst (by rw [sz_line]; simp)
@[simp] theorem ev_lst2 (a b : D) : lstD [a, b] = .ok (.list [a, b]) := ev_lst (by rw [sz_line]; simp)
@[simp] theorem ev_lst3 (a b c : D) : lstD [a, b, c] = .ok (.list [a, b, c]) := ev_lst (by rw [sz_line]; simp)
@[simp] theorem ix_t (xs : List D) (i : Int) : ixD (.tuple xs) (.int i) = ofO (atI xs i) := Eq.trans rfl (Eq.refl _)
@[simp] theorem ix_l (xs : List D) (i : Int) : ixD (.list xs) (.int i) = ofO (atI xs i) := Eq.trans rfl (Eq.refl _)
@[simp] theorem at_0 (x : D) (xs : List D) : atI (x :: xs) 0 = some x := atI_nat (j := 0) rfl
@[simp] theorem at_1 (x y : D) (xs : List D) : atI (x :: y :: xs) 1 = some y := atI_nat (j := 1) rfl
@[simp] theorem at_2 (x y z : D) (xs : List D) : atI (x :: y :: z :: xs) 2 = some z := atI_nat (j := 2) rfl
@[simp] theorem at_3 (x y z w : D) (xs : List D) : atI (x :: y :: z :: w :: xs) 3 = some w := atI_nat (j := 3) rfl
theorem at_nat {xs : List D} {i : Nat} {x : D} (h : xs[i]? = some x) : atI xs (i : Int) = some x := atI_nat h
end VS
namespace VS
open PySem PySem.Spec PyProof.Rows L2
theorem ev_mul {i j : Int} (h : (-(2 ^ 64) < i ∧ i < 2 ^ 64) ∨ (-(2 ^ 64) < j ∧ j < 2 ^ 64)) : mulI (.int i) (.int j) = .ok (.int (i * j)) := by unfold mulI; simp only; rw [if_pos (.inl h)]
theorem ev_fdiv {i j : Int} (h : 0 < j ∧ j < 1073741824) : fdivI (.int i) (.int j) = .ok (.int (i / j)) := by unfold fdivI; simp only; rw [if_pos (show CDiv i j from h)]
theorem ev_mod {i j : Int} (h : 0 < j) : modI (.int i) (.int j) = .ok (.int (i % j)) := by unfold modI; simp only; rw [if_pos h]
theorem ev_app {i : Nat} {f : Dl → Re PyData} {δ : Dl} {xs : List PyData} {d : PyData} (h : δ[i]? = some (.ow (.list xs))) (hf : f δ = .ok d) (hz : xs.length < sizeLine) : appS i f δ = .nx (δ.set i (.ow (.list (xs ++ [d])))) := by
  unfold appS
  rw [h]
  simp [hf, hz]
theorem ev_ext {i : Nat} {f : Dl → Re PyData} {δ : Dl} {xs ds : List PyData} {d : PyData} (h : δ[i]? = some (.ow (.list xs))) (hf : f δ = .ok d) (hd : d = .list ds ∨ d = .tuple ds) (hz : xs.length + ds.length ≤ sizeLine) : extS i f δ = .nx (δ.set i (.ow (.list (xs ++ ds)))) := by
  unfold extS
  rw [h]
  rcases hd with e | e <;> subst e <;> simp [hf, hz, seqD]
end VS
namespace VS
open PySem PySem.Spec PyProof.Rows L2
@[simp] theorem ev_bT (n : Nat) (bs : Bds) (ds : List D) (δ : Dl) : bT n bs (.tuple ds) δ = if ds.length = n then bs ds δ else none := Eq.trans rfl (Eq.refl _)
@[simp] theorem ev_bTl (n : Nat) (bs : Bds) (ds : List D) (δ : Dl) : bT n bs (.list ds) δ = if ds.length = n then bs ds δ else none := Eq.trans rfl (Eq.refl _)
@[simp] theorem ev_bCons (b : Bd) (bs : Bds) (d : D) (ds : List D) (δ : Dl) : bCons b bs (d :: ds) δ = (b d δ).bind (bs ds) := Eq.trans rfl (Eq.refl _)
@[simp] theorem ev_bNil (δ : Dl) : bNil [] δ = some δ := Eq.trans rfl (Eq.refl _)
@[simp] theorem ev_isN (d : D) : isND d = .ok (.bool (isN d)) := Eq.trans rfl (Eq.refl _)
@[simp] theorem ev_notN (d : D) : notND d = .ok (.bool (!isN d)) := Eq.trans rfl (Eq.refl _)
@[simp] theorem isN_none : isN .none = true := Eq.trans rfl (Eq.refl _)
@[simp] theorem isN_tup (ds : List D) : isN (.tuple ds) = false := Eq.trans rfl (Eq.refl _)
@[simp] theorem isN_lst (ds : List D) : isN (.list ds) = false := Eq.trans rfl (Eq.refl _)
@[simp] theorem isN_int (ds : Int) : isN (.int ds) = false := Eq.trans rfl (Eq.refl _)
@[simp] theorem isN_str (ds : Str) : isN (.str ds) = false := Eq.trans rfl (Eq.refl _)
@[simp] theorem isN_bool (ds : Bool) : isN (.bool ds) = false := Eq.trans rfl (Eq.refl _)
@[simp] theorem ev_dc (vs : List Nat) (items : Dl → Re (List D)) (b : Bd) (t : Dl → Re Bool) (fk fv : Dl → Re D) (δ : Dl) : dcD vs items b t fk fv δ =
  (items δ).bnd fun ds => if ds.length ≤ sizeLine then (dcL b t fk fv (wipeD δ vs) ds []).bnd fun m => .ok (.dict m) else .no := Eq.trans rfl (Eq.refl _)
@[simp] theorem ev_tupOf (ds : List D) : tupOfD [.list ds] = .ok (.tuple ds) := Eq.trans rfl (Eq.refl _)
@[simp] theorem ev_tupAny (ds : List D) : tupAnyD [.list ds] = .ok (.tuple ds) := Eq.trans rfl (Eq.refl _)
@[simp] theorem ev_tupAny' (ds : List D) : tupAnyD [.tuple ds] = .ok (.tuple ds) := Eq.trans rfl (Eq.refl _)
@[simp] theorem ev_lstOf (ds : List D) : lstOfD [.list ds] = .ok (.list ds) := Eq.trans rfl (Eq.refl _)
@[simp] theorem ev_lstOf' (ds : List D) : lstOfD [.tuple ds] = .ok (.list ds) := Eq.trans rfl (Eq.refl _)
@[simp] theorem ev_enumT (ds : List D) : enumD [.tuple ds] = .ok (pairUp 0 ds) := Eq.trans rfl (Eq.refl _)
@[simp] theorem ev_enumL (ds : List D) : enumD [.list ds] = .ok (pairUp 0 ds) := Eq.trans rfl (Eq.refl _)
/-- a dict comprehension with new keys each time -/
theorem dcL_new {b : Bd} {fk fv : Dl → Re D} {δ : Dl} (f : D → D) : ∀ (xs ys : List Str), (∀ s ∈ xs, ∃ δ1, b (.str s) δ = some δ1 ∧ fk δ1 = .ok (.str s) ∧ fv δ1 = .ok (f (.str s))) → (ys ++ xs).Nodup →
    dcL b yesT fk fv δ (xs.map .str) (ys.map fun s => (PyData.str s, f (.str s))) = .ok ((ys ++ xs).map fun s => (PyData.str s, f (.str s)))
  | [], ys, _, _ => by simp [dcL]
  | x :: xs, ys, h, nd => by
    obtain ⟨δ1, e1, e2, e3⟩ := h x List.mem_cons_self
    have nx : x ∉ ys := fun m => by
      have := List.nodup_append.mp nd
      exact this.2.2 x m x List.mem_cons_self rfl
    have ep : putD (ys.map fun s => (PyData.str s, f (.str s))) (.str x) (f (.str x)) = (ys ++ [x]).map fun s => (PyData.str s, f (.str s)) := by
      unfold putD
      have : ((ys.map fun s => (PyData.str s, f (.str s))).any fun p => PyData.eqv p.1 (.str x)) = false := by
        rw [List.any_map, List.any_eq_false]
        intro y hy
        simp only [Function.comp, PyData.eqv, str_beq, decide_eq_true_eq]
        intro e
        exact nx (e ▸ hy)
      rw [this, if_neg Bool.false_ne_true, List.map_append]
      rfl
    have ih := dcL_new f xs (ys ++ [x]) (fun s hs => h s (List.mem_cons_of_mem _ hs)) (by simpa using nd)
    rw [List.map_cons]
    unfold dcL
    simp only [e1, ev_yes, nxR_ok, bnd_ok, if_true, e2, e3]
    rw [if_pos (by rfl), ep, ih]
    simp
end VS
end
section
namespace VS
open PySem PySem.Spec PyProof.Rows L2
/-- a loop by its invariant -/
theorem goS_inv {b : Bd} {body : Dl → RS} (P : Nat → Dl → Prop) : ∀ (ds : List D) (i : Nat) (δ : Dl), P i δ → (∀ (j : Nat) (d : D) (δ : Dl), ds[j]? = some d → P (i + j) δ → ∃ δ1 δ2, b d δ = some δ1 ∧ (body δ1 = .nx δ2 ∨ body δ1 = .ct δ2) ∧ P (i + j + 1) δ2) →
    ∃ δ', goS b body ds δ = .nx δ' ∧ P (i + ds.length) δ'
  | [], i, δ, h, _ => ⟨δ, rfl, h⟩
  | d :: ds, i, δ, h, st => by
    obtain ⟨δ1, δ2, e1, e2, h2⟩ := st 0 d δ rfl h
    obtain ⟨δ', e3, h3⟩ := goS_inv P ds (i + 1) δ2 (by simpa using h2) fun j d' δ hj hp => by
      have := st (j + 1) d' δ (by simpa using hj) (by rw [show i + (j + 1) = i + 1 + j by omega]; exact hp)
      rw [show i + 1 + j + 1 = i + (j + 1) + 1 by omega]
      exact this
    refine ⟨δ', ?_, by rw [List.length_cons, show i + (ds.length + 1) = i + 1 + ds.length by omega]; exact h3⟩
    unfold goS
    rw [e1]
    rcases e2 with e2 | e2 <;> simp only [e2, e3]
theorem goS_inv0 {b : Bd} {body : Dl → RS} (P : Nat → Dl → Prop) {ds : List D} {δ : Dl} (h : P 0 δ) (st : ∀ (j : Nat) (d : D) (δ : Dl), ds[j]? = some d → P j δ → ∃ δ1 δ2, b d δ = some δ1 ∧ (body δ1 = .nx δ2 ∨ body δ1 = .ct δ2) ∧ P (j + 1) δ2) :
    ∃ δ', goS b body ds δ = .nx δ' ∧ P ds.length δ' := by
  have := goS_inv P ds 0 δ h fun j d δ hj hp => by
    have := st j d δ hj (by simpa using hp)
    simpa using this
  simpa using this
/-- items of a range -/
theorem rng_at {n j : Nat} {d : D} (h : ((List.range n).map fun k => (PyData.int (0 + (k : Nat)) : D))[j]? = some d) : j < n ∧ d = .int (j : Nat) := by
  by_cases hl : j < n
  · rw [List.getElem?_map, List.getElem?_eq_getElem (by simpa using hl)] at h
    simp at h
    exact ⟨hl, h.symm⟩
  · rw [List.getElem?_eq_none (by simp; omega)] at h
    cases h
/-! ### texts in order -/
abbrev sLt (a b : Str) : Prop := a.cps.toList < b.cps.toList
@[simp] theorem ev_ltS (i j : Str) : ltD (.str i) (.str j) = .ok (.bool (decide (sLt i j))) := by
  unfold ltD ltOk
  simp [PySem.W.alike, isN, PySem.W.dataLt_str]
theorem str_ext {a b : Str} (h : a.cps.toList = b.cps.toList) : a = b := by
  cases a; cases b
  congr 1
  exact Array.toList_inj.mp h
def sLe (a b : Str) : Bool := decide (a.cps.toList ≤ b.cps.toList)
def sortS (xs : List Str) : List Str := xs.mergeSort sLe
theorem sortS_perm (xs : List Str) : (sortS xs).Perm xs := List.mergeSort_perm _ _
theorem sLe_iff {a b : Str} : sLe a b = true ↔ ¬ sLt b a := by
  unfold sLe sLt
  rw [decide_eq_true_eq]
  exact Iff.rfl
theorem lst_antisymm {a b : List Nat} (h1 : ¬ a < b) (h2 : ¬ b < a) : a = b := List.le_antisymm (fun h => h2 h) (fun h => h1 h)
theorem sLt_of {a b : Str} (h : sLe a b = true) (n : a ≠ b) : sLt a b := by
  rw [sLe_iff] at h
  rcases Classical.em (sLt a b) with q | q
  · exact q
  · exact (n (str_ext (lst_antisymm q h))).elim
theorem sortS_pw (xs : List Str) : (sortS xs).Pairwise fun a b => sLe a b = true := by
  refine List.pairwise_mergeSort (le := sLe) (fun a b c => ?_) (fun a b => ?_) xs
  · unfold sLe
    simp only [decide_eq_true_eq]
    exact fun h1 h2 => List.le_trans h1 h2
  · unfold sLe
    rw [Bool.or_eq_true, decide_eq_true_eq, decide_eq_true_eq]
    exact List.le_total _ _
theorem sortL_str (xs : List Str) : sortL (xs.map .str) = (sortS xs).map .str := by
  unfold sortL sortS
  have := List.map_mergeSort (r := sLe) (s := PySem.W.dataLe false id) (f := fun s : Str => (PyData.str s : PyData)) (l := xs) fun a _ b _ => by
    have e := congrFun (congrFun (PySem.W.dataLe_str (fun s : Str => s)) a) b
    exact e.symm
  exact this.symm
theorem sortOk_str (xs : List Str) (h : xs.length ≤ sizeLine) : sortOk (xs.map .str) = true := by
  unfold sortOk
  simp [h, PySem.W.alike, notTN]
theorem ev_sortS (xs : List Str) (h : xs.length ≤ sizeLine) : sortedD [.list (xs.map .str)] = .ok (.list ((sortS xs).map .str)) := by
  unfold sortedD
  simp only
  rw [if_pos (sortOk_str xs h), sortL_str]
/-- two sorted rows of the same texts are one -/
theorem sortS_eq {xs ys : List Str} (p : ys.Perm xs) (s : ys.Pairwise fun a b => sLe a b = true) : sortS xs = ys := by
  refine List.Perm.eq_of_pairwise (le := fun a b => sLe a b = true) (fun a b _ _ h1 h2 => ?_) (sortS_pw xs) s ((sortS_perm xs).trans p.symm)
  rw [sLe_iff] at h1 h2
  exact str_ext (lst_antisymm h2 h1)
/-! ### a value is itself -/
mutual
theorem eqv_dn : ∀ (d : PyData) (n : Nat), dn n d = true → PyData.eqv d d = true
  | .none, _, _ => by simp [PyData.eqv]
  | .bool _, _, _ => by simp [PyData.eqv]
  | .int _, _, _ => by simp [PyData.eqv]
  | .str _, _, _ => by simp [PyData.eqv]
  | .dict _, n, h => by cases n <;> simp [dn] at h
  | .list xs, 0, h => by simp [dn] at h
  | .tuple xs, 0, h => by simp [dn] at h
  | .list xs, n + 1, h => by
    have h' : dnA n xs = true := by simpa [dn] using h
    have := eqvA_dn xs n h'
    simp [PyData.eqv, this]
  | .tuple xs, n + 1, h => by
    have h' : dnA n xs = true := by simpa [dn] using h
    have := eqvA_dn xs n h'
    simp [PyData.eqv, this]
theorem eqvA_dn : ∀ (ds : List PyData) (n : Nat), dnA n ds = true → PyData.eqvAll ds ds = true
  | [], _, _ => by simp [PyData.eqvAll]
  | d :: ds, n, h => by
    rw [dnA, Bool.and_eq_true] at h
    simp [PyData.eqvAll, eqv_dn d n h.1, eqvA_dn ds n h.2]
end
theorem ne_self {d : PyData} (h : dn 60 d = true) : neD d d = .ok (.bool false) := by rw [neD_of h h, eqv_dn d 60 h]; rfl
theorem eq_self {d : PyData} (h : dn 60 d = true) : eqD d d = .ok (.bool true) := by rw [eqD_of h h, eqv_dn d 60 h]
theorem dn_strs (ns : List Str) : dn 60 (.list (ns.map .str)) = true := by simp
theorem dn_strsT (ns : List Str) : dn 60 (.tuple (ns.map .str)) = true := by simp
end VS
end
section
namespace VS
open PySem PySem.Spec PyProof.Rows L2
/-- a comprehension over values that are made of others -/
theorem lcL_on {α : Type} {b : Bd} {t : Dl → Re Bool} {e : Dl → Re PyData} {δ : Dl} (g : α → PyData) (p : α → Bool) (f : α → PyData) : ∀ xs : List α, (∀ a ∈ xs, ∃ δ1, b (g a) δ = some δ1 ∧ t δ1 = .ok (p a) ∧ (p a = true → e δ1 = .ok (f a))) → lcL b t e δ (xs.map g) = .ok ((xs.filter p).map f)
  | [], _ => by simp
  | a :: xs, h => by
    obtain ⟨δ1, e1, e2, e3⟩ := h a List.mem_cons_self
    have ih := lcL_on g p f xs fun a' ha' => h a' (List.mem_cons_of_mem _ ha')
    rw [List.map_cons]
    unfold lcL
    simp only [e1, e2, nxR_ok, bnd_ok, ih]
    by_cases hp : p a = true
    · simp [hp, e3 hp]
    · simp [hp]
theorem lcL_all {α : Type} {b : Bd} {e : Dl → Re PyData} {δ : Dl} (g : α → PyData) (f : α → PyData) (xs : List α) (h : ∀ a ∈ xs, ∃ δ1, b (g a) δ = some δ1 ∧ e δ1 = .ok (f a)) : lcL b yesT e δ (xs.map g) = .ok (xs.map f) := by
  rw [lcL_on g (fun _ => true) f xs fun a ha => by
    obtain ⟨δ1, e1, e2⟩ := h a ha
    exact ⟨δ1, e1, rfl, fun _ => e2⟩]
  rw [List.filter_eq_self.mpr (fun _ _ => rfl)]
/-- a range's items, as numbers -/
def nums (n : Nat) : List PyData := (List.range n).map fun k => .int (0 + (k : Nat))
theorem rng1_n (m : Nat) (hm : m ≤ 100000) : rng1D [PyData.int (m : Nat)] = .ok (nums m) := by
  have h : -(2 ^ 62) ≤ ((m : Nat) : Int) ∧ ((m : Nat) : Int) < 2 ^ 62 := by omega
  unfold rng1D nums
  simp only
  rw [if_pos h, Int.toNat_natCast]
theorem nums_len (n : Nat) : (nums n).length = n := by simp [nums]
theorem nums_at {n j : Nat} {d : D} (h : (nums n)[j]? = some d) : j < n ∧ d = .int (j : Nat) := rng_at h
theorem in_strL (s : Str) (xs : List Str) : inD (.str s) (.list (xs.map .str)) = .ok (.bool (decide (s ∈ xs))) := by
  show (if dn 60 (.str s) = true ∧ dnA 60 (xs.map .str) = true then Re.ok (PyData.bool ((xs.map .str).any fun y => PyData.eqv y (.str s))) else .no) = _
  rw [if_pos (by simp [dnA_all])]
  congr 2
  rw [Bool.eq_iff_iff]
  simp [PyData.eqv, str_beq]
theorem in_strT (s : Str) (xs : List Str) : inD (.str s) (.tuple (xs.map .str)) = .ok (.bool (decide (s ∈ xs))) := by
  have := in_strL s xs
  exact this
theorem ev_addL {xs ys : List PyData} (h : xs.length + ys.length ≤ sizeLine) : addD (.list xs) (.list ys) = .ok (.list (xs ++ ys)) := by unfold addD; simp only; rw [if_pos h]
theorem ev_addT {xs ys : List PyData} (h : xs.length + ys.length ≤ sizeLine) : addD (.tuple xs) (.tuple ys) = .ok (.tuple (xs ++ ys)) := by unfold addD; simp only; rw [if_pos h]
end VS
end
section
open PySem PySem.Spec PyProof.Rows L2 VS
namespace KL
variable [VS.Cl]
def wholeB : PyData → Int → Int → Bool
  | .int i, a, b => decide (a ≤ i) && decide (i ≤ b)
  | _, _, _ => false
theorem s_is_whole (k : Nat) (v : PyData) (a b : Int) (hv : okT v = true) : den (k + 1) I_is_whole [.sh v, .sh (.int a), .sh (.int b)] = .ok (.bool (wholeB v a b)) := by
  rw [den_is_whole]
  have e1 := ev_isi .tInt v hv
  have e2 := ev_isi .tBool v hv
  cases v <;> simp [b_0, isT, wholeB, e1, e2]
  split <;> simp [*]
/-! ### the draws -/
def okDr (ds : List Int) : Prop := ∀ d ∈ ds, 0 ≤ d ∧ d < 65521
abbrev I2 (ds : List Int) : PyData := .list (ds.map .int)
theorem okDr_app {ds : List Int} {d : Int} (h : okDr ds) (h0 : 0 ≤ d) (h1 : d < 65521) : okDr (ds ++ [d]) := fun x hx => by
  rcases List.mem_append.mp hx with hx | hx
  · exact h x hx
  · have : x = d := by simpa using hx
    subst this; exact ⟨h0, h1⟩
def inner60 : Dl → RS := (ifS (tB1 (d2 gtD (gS 5) (kC (.int 0)))) (seqS (appS 2 (d2 modI (dA (argsF [(gS 5)]) intD) (kC (.int 1009)))) (setS 5 (d2 fdivI (gS 5) (kC (.int 1009))))) nxS)
theorem inner60_go : ∀ (js : List PyData) (x0 x1 s3 s4 s6 : Sl) (ds : List Int) (num : Int), okDr ds → 0 ≤ num → ds.length + js.length < sizeLine →
    ∃ ds' num' s6', goS (bN 6) inner60 js [x0, x1, .ow (I2 ds), s3, s4, .sh (.int num), s6] = .nx [x0, x1, .ow (I2 ds'), s3, s4, .sh (.int num'), s6'] ∧ okDr ds' ∧ ds'.length ≤ ds.length + js.length
  | [], x0, x1, s3, s4, s6, ds, num, ok, _, _ => ⟨ds, num, s6, rfl, ok, Nat.le_refl _⟩
  | j :: js, x0, x1, s3, s4, s6, ds, num, ok, h0, hz => by
    have hz' : ds.length + 1 + js.length < sizeLine := by simpa [Nat.add_assoc, Nat.add_comm, Nat.add_left_comm] using hz
    unfold goS
    simp only [ev_bN]
    by_cases hp : 0 < num
    · have e1 : inner60 [x0, x1, .ow (I2 ds), s3, s4, .sh (.int num), .sh j] = .nx [x0, x1, .ow (I2 (ds ++ [num % 1009])), s3, s4, .sh (.int (num / 1009)), .sh j] := by
        unfold inner60
        simp [hp, ev_fdiv]
        rw [ev_app (xs := ds.map .int) (d := .int (num % 1009)) rfl (by simp [ev_mod]) (by rw [List.length_map]; omega)]
        simp [ev_fdiv]
      simp only [List.set_cons_succ, List.set_cons_zero]
      rw [e1]
      obtain ⟨ds', num', s6', e, ok', hl⟩ := inner60_go js x0 x1 s3 s4 (.sh j) (ds ++ [num % 1009]) (num / 1009) (okDr_app ok (by omega) (by omega)) (by omega) (by simp; omega)
      exact ⟨ds', num', s6', e, ok', by simp at hl ⊢; omega⟩
    · have e1 : inner60 [x0, x1, .ow (I2 ds), s3, s4, .sh (.int num), .sh j] = .nx [x0, x1, .ow (I2 ds), s3, s4, .sh (.int num), .sh j] := by
        unfold inner60
        simp [hp]
      simp only [List.set_cons_succ, List.set_cons_zero]
      rw [e1]
      obtain ⟨ds', num', s6', e, ok', hl⟩ := inner60_go js x0 x1 s3 s4 (.sh j) ds num ok h0 (by omega)
      exact ⟨ds', num', s6', e, ok', by simp; omega⟩

def bodyCell : Dl → RS := (seqS (setS 5 (dA (argsF [(gS 4)]) absD)) (seqS (setS 3 (d2 modI (dA (argsF [(d2 addD (d2 addD (d2 mulI (gS 3) (kC (.int 48271))) (gS 5)) (kC (.int 11)))]) intD) (kC (.int 2147483647)))) (ifS (tB1 (d2 geD (gS 5) (d2 powI (kC (.int 10)) (kC (.int 18))))) (forS (dAL (argsF [(kC (.int 60))]) rng1D) (bN 6) inner60) (appS 2 (d2 modI (d2 fdivI (dA (argsF [(d2 addD (d2 mulI (gS 3) (kC (.int 16807))) (kC (.int 5)))]) intD) (kC (.int 3))) (kC (.int 65521)))))))
theorem pow18 : powI (.int 10) (.int 18) = .ok (.int (10 ^ 18)) := by
  unfold powI
  simp only
  rw [if_pos (by unfold CPow; decide)]
  rfl
theorem cell_go : ∀ (cs : List Int) (x0 x1 s4 s5 s6 : Sl) (ds : List Int) (seed : Int), okDr ds → 0 ≤ seed → seed < 2147483647 → ds.length + 60 * cs.length < sizeLine →
    ∃ ds' seed' s4' s5' s6', goS (bN 4) bodyCell (cs.map .int) [x0, x1, .ow (I2 ds), .sh (.int seed), s4, s5, s6] = .nx [x0, x1, .ow (I2 ds'), .sh (.int seed'), s4', s5', s6'] ∧ okDr ds' ∧ ds'.length ≤ ds.length + 60 * cs.length ∧ 0 ≤ seed' ∧ seed' < 2147483647
  | [], x0, x1, s4, s5, s6, ds, seed, ok, h0, h1, _ => ⟨ds, seed, s4, s5, s6, rfl, ok, by simp, h0, h1⟩
  | c :: cs, x0, x1, s4, s5, s6, ds, seed, ok, h0, h1, hz => by
    rw [List.length_cons] at hz
    have hz' : ds.length + 60 + 60 * cs.length < sizeLine := by omega
    have step : ∃ ds1 seed1 s5' s6', bodyCell [x0, x1, .ow (I2 ds), .sh (.int seed), .sh (.int c), s5, s6] = .nx [x0, x1, .ow (I2 ds1), .sh (.int seed1), .sh (.int c), s5', s6'] ∧ okDr ds1 ∧ ds1.length ≤ ds.length + 60 ∧ 0 ≤ seed1 ∧ seed1 < 2147483647 := by
      generalize hn : (if c < 0 then -c else c) = num
      have hnum : 0 ≤ num := by split at hn <;> omega
      have e0 : (seed * 48271 + num + 11) % 2147483647 < 2147483647 := Int.emod_lt_of_pos _ (by decide)
      have e1 : 0 ≤ (seed * 48271 + num + 11) % 2147483647 := Int.emod_nonneg _ (by decide)
      unfold bodyCell
      simp only [ev_seq, ev_set, ev_dA, ev_args, ev_args0, gS_succ, gS_zero, bnd_ok, ev_absI, toS_ok, rsb_nx, List.set_cons_succ, List.set_cons_zero, hn, ev_d2, ev_k, ev_mul (.inl (show -(2 ^ 64) < seed ∧ seed < 2 ^ 64 by omega)), ev_addI, ev_intI, ev_mod (show (0 : Int) < 2147483647 by decide), ev_if, ev_tB1, pow18, ev_geI, ev_asB]
      generalize (seed * 48271 + num + 11) % 2147483647 = seed1 at e0 e1 ⊢
      by_cases hb : (10 : Int) ^ 18 ≤ num
      · rw [decide_eq_true hb, if_pos rfl]
        have er : rng1D [PyData.int 60] = .ok ((List.range 60).map fun k => .int (0 + (k : Nat))) := by
          unfold rng1D
          simp
        simp only [ev_for, ev_dAL, ev_args, ev_args0, ev_k, bnd_ok, er, toS_ok]
        obtain ⟨ds', num', s6', e, ok', hl⟩ := inner60_go ((List.range 60).map fun k => .int (0 + (k : Nat))) x0 x1 (.sh (.int seed1)) (.sh (.int c)) s6 ds num ok hnum (by simp; omega)
        exact ⟨ds', seed1, _, s6', e, ok', by simpa using hl, e1, e0⟩
      · rw [decide_eq_false hb, if_neg Bool.false_ne_true]
        rw [ev_app (xs := ds.map .int) (d := .int ((seed1 * 16807 + 5) / 3 % 65521)) rfl (by simp [ev_mul (.inl (show -(2 ^ 64) < seed1 ∧ seed1 < 2 ^ 64 by omega)), ev_fdiv, ev_mod]) (by rw [List.length_map]; omega)]
        refine ⟨ds ++ [(seed1 * 16807 + 5) / 3 % 65521], seed1, .sh (.int num), s6, ?_, okDr_app ok (Int.emod_nonneg _ (by decide)) (Int.emod_lt_of_pos _ (by decide)), by simp, e1, e0⟩
        simp
    obtain ⟨ds1, seed1, s5', s6', e, ok1, l1, h2, h3⟩ := step
    rw [List.map_cons]
    unfold goS
    simp only [ev_bN, List.set_cons_succ, List.set_cons_zero]
    rw [e]
    obtain ⟨ds', seed', t4, t5, t6, e', ok', hl, h4, h5⟩ := cell_go cs x0 x1 (.sh (.int c)) s5' s6' ds1 seed1 ok1 h2 h3 (by omega)
    exact ⟨ds', seed', t4, t5, t6, e', ok', by rw [List.length_cons]; omega, h4, h5⟩
def bodyMany : Dl → RS := (ifS (tB1 (d2 ltD (dA (argsF [(gB 2)]) lenD) (gS 1))) (seqS (setS 3 (d2 modI (dA (argsF [(d2 addD (d2 addD (d2 mulI (gS 3) (kC (.int 69621))) (gS 6)) (kC (.int 1)))]) intD) (kC (.int 2147483647)))) (appS 2 (d2 modI (d2 fdivI (dA (argsF [(gS 3)]) intD) (kC (.int 7))) (kC (.int 65521))))) nxS)
theorem many_go (m : Nat) : ∀ (js : List Nat) (x0 s4 s5 s6 : Sl) (ds : List Int) (seed : Int), okDr ds → 0 ≤ seed → seed < 2147483647 → ds.length + js.length < sizeLine →
    ∃ ds' seed' s6', goS (bN 6) bodyMany (js.map fun k => .int (0 + (k : Nat))) [x0, .sh (.int (m : Nat)), .ow (I2 ds), .sh (.int seed), s4, s5, s6] = .nx [x0, .sh (.int (m : Nat)), .ow (I2 ds'), .sh (.int seed'), s4, s5, s6'] ∧ okDr ds' ∧ min m (ds.length + js.length) ≤ ds'.length ∧ ds'.length ≤ ds.length + js.length
  | [], x0, s4, s5, s6, ds, seed, ok, h0, h1, _ => ⟨ds, seed, s6, rfl, ok, by simp; omega, by simp⟩
  | j :: js, x0, s4, s5, s6, ds, seed, ok, h0, h1, hz => by
    rw [List.length_cons] at hz
    rw [List.map_cons]
    unfold goS
    simp only [ev_bN, List.set_cons_succ, List.set_cons_zero]
    by_cases hl : (ds.length : Int) < (m : Nat)
    · have e0 : (seed * 69621 + (0 + (j : Nat)) + 1) % 2147483647 < 2147483647 := Int.emod_lt_of_pos _ (by decide)
      have e1 : 0 ≤ (seed * 69621 + (0 + (j : Nat)) + 1) % 2147483647 := Int.emod_nonneg _ (by decide)
      have e : bodyMany [x0, .sh (.int (m : Nat)), .ow (I2 ds), .sh (.int seed), s4, s5, .sh (.int (0 + (j : Nat)))] = .nx [x0, .sh (.int (m : Nat)), .ow (I2 (ds ++ [(seed * 69621 + (0 + (j : Nat)) + 1) % 2147483647 / 7 % 65521])), .sh (.int ((seed * 69621 + (0 + (j : Nat)) + 1) % 2147483647)), s4, s5, .sh (.int (0 + (j : Nat)))] := by
        unfold bodyMany
        simp only [ev_if, ev_tB1, ev_d2, ev_dA, ev_args, ev_args0, gB_succ, gB_zero', gS_succ, gS_zero, bnd_ok, ev_lenL, List.length_map, ev_ltI, ev_asB, toS_ok, decide_eq_true hl, if_true]
        simp only [ev_seq, ev_set, ev_dA, ev_args, ev_args0, gS_succ, gS_zero, bnd_ok, toS_ok, rsb_nx, List.set_cons_succ, List.set_cons_zero, ev_d2, ev_k, ev_mul (.inl (show -(2 ^ 64) < seed ∧ seed < 2 ^ 64 by omega)), ev_addI, ev_intI, ev_mod (show (0 : Int) < 2147483647 by decide)]
        generalize (seed * 69621 + (0 + (j : Nat)) + 1) % 2147483647 = seed1 at e0 e1 ⊢
        rw [ev_app (xs := ds.map .int) (d := .int (seed1 / 7 % 65521)) rfl (by simp [ev_fdiv, ev_mod]) (by rw [List.length_map]; omega)]
        simp
      rw [e]
      obtain ⟨ds', seed', s6', e', ok', l1, l2⟩ := many_go m js x0 s4 s5 (.sh (.int (0 + (j : Nat)))) _ _ (okDr_app ok (Int.emod_nonneg _ (by decide)) (Int.emod_lt_of_pos _ (by decide))) e1 e0 (by simp; omega)
      exact ⟨ds', seed', s6', e', ok', by simp at l1 ⊢; omega, by simp at l2 ⊢; omega⟩
    · have e : bodyMany [x0, .sh (.int (m : Nat)), .ow (I2 ds), .sh (.int seed), s4, s5, .sh (.int (0 + (j : Nat)))] = .nx [x0, .sh (.int (m : Nat)), .ow (I2 ds), .sh (.int seed), s4, s5, .sh (.int (0 + (j : Nat)))] := by
        unfold bodyMany
        simp only [ev_if, ev_tB1, ev_d2, ev_dA, ev_args, ev_args0, gB_succ, gB_zero', gS_succ, gS_zero, bnd_ok, ev_lenL, List.length_map, ev_ltI, ev_asB, toS_ok, decide_eq_false hl, if_neg Bool.false_ne_true, ev_nx]
      rw [e]
      obtain ⟨ds', seed', s6', e', ok', l1, l2⟩ := many_go m js x0 s4 s5 (.sh (.int (0 + (j : Nat)))) ds seed ok h0 h1 (by omega)
      exact ⟨ds', seed', s6', e', ok', by simp; omega, by simp; omega⟩
theorem cut_len (xs : List PyData) (n : Nat) : cutD xs none (some (n : Int)) = xs.take n := by
  unfold VS.cutD
  rw [HT.sIx_none, HT.sIx_nat, List.drop_zero, Nat.sub_zero, List.take_eq_take_iff]
  omega
theorem rng1_ok (m : Nat) (hm : m ≤ 100000) : rng1D [PyData.int (m : Nat)] = .ok ((List.range m).map fun k => .int (0 + (k : Nat))) := by
  have h : -(2 ^ 62) ≤ ((m : Nat) : Int) ∧ ((m : Nat) : Int) < 2 ^ 62 := by omega
  unfold rng1D
  simp only
  rw [if_pos h, Int.toNat_natCast]
theorem cut63 (ns : List Int) : VS.cutD (ns.map .int) none (some 63) = (ns.take 63).map .int := by
  have := cut_len (ns.map .int) 63
  rw [← List.map_take] at this
  exact this
theorem draws_body (c : Nat → List Sl → Re PyData) : b_19 c = (seqS (setO 2 (dA (argsF []) lstD)) (seqS (setS 3 (kC (.int 7))) (seqS (forS (d1L itemsD (dScrSl 0 63)) (bN 4) bodyCell) (seqS (forS (dAL (argsF [(gS 1)]) rng1D) (bN 6) bodyMany) (retS (dSl slL (gB 2) noP (someP (gS 1)))))))) := rfl
theorem draws_ret (m : Nat) (ds2 : List Int) (a b c d e : Sl) : outR (retS (dSl slL (gB 2) noP (someP (gS 1))) [a, .sh (.int (m : Nat)), .ow (I2 ds2), b, c, d, e]) = .ok (.list ((ds2.take m).map .int)) := by
  simp only [ev_ret]
  unfold dSl
  simp only [gB_succ, gB_zero', bnd_ok, noP, someP, gS_succ, gS_zero, asI]
  unfold slL
  simp only [bnd_ok, toS_ok, outR_rt, cut_len, List.map_take]
theorem s_draws (k : Nat) (ns : List Int) (m : Nat) (hm : m ≤ 100000) : ∃ ds : List Int, den (k + 1) I__law_draws [.br ns, .sh (.int (m : Nat))] = .ok (.list (ds.map .int)) ∧ ds.length = m ∧ okDr ds := by
  have hs : sizeLine = 16777216 := sz_line
  have lt := List.length_take_le 63 ns
  obtain ⟨ds1, seed1, t4, t5, t6, e1, ok1, l1, h1, h2⟩ := cell_go (ns.take 63) (.br ns) (.sh (.int (m : Nat))) .no .no .no [] 7 (fun _ h => nomatch h) (by decide) (by decide) (by rw [List.length_nil]; omega)
  have l1' : ds1.length ≤ 60 * 63 := by rw [List.length_nil] at l1; omega
  have lr : (List.range m).length = m := List.length_range
  obtain ⟨ds2, seed2, t6', e2, ok2, l2, l3⟩ := many_go m (List.range m) (.br ns) t4 t5 t6 ds1 seed1 ok1 h1 h2 (by omega)
  refine ⟨ds2.take m, ?_, by rw [List.length_take]; omega, fun d hd => ok2 d (List.mem_of_mem_take hd)⟩
  rw [den__law_draws, draws_body]
  have es : dScrSl 0 63 [Sl.br ns, .sh (.int (m : Nat)), .ow (.list []), .sh (.int 7), .no, .no, .no] = .ok (.list (VS.cutD (ns.map .int) none (some 63))) := rfl
  have e3 : forS (dAL (argsF [(gS 1)]) rng1D) (bN 6) bodyMany [Sl.br ns, .sh (.int (m : Nat)), .ow (I2 ds1), .sh (.int seed1), t4, t5, t6] = .nx [Sl.br ns, .sh (.int (m : Nat)), .ow (I2 ds2), .sh (.int seed2), t4, t5, t6'] := by
    simp only [ev_for, ev_dAL, ev_args, ev_args0, gS_succ, gS_zero, bnd_ok, rng1_ok m hm, toS_ok]
    exact e2
  have e4 : forS (d1L itemsD (dScrSl 0 63)) (bN 4) bodyCell [Sl.br ns, .sh (.int (m : Nat)), .ow (.list []), .sh (.int 7), .no, .no, .no] = .nx [Sl.br ns, .sh (.int (m : Nat)), .ow (I2 ds1), .sh (.int seed1), t4, t5, t6] := by
    simp only [ev_for, ev_d1L, es, cut63, bnd_ok, ev_items_l, toS_ok]
    exact e1
  have st : [Sl.br ns, Sl.sh (.int (m : Nat))] ++ List.replicate 5 Sl.no = [Sl.br ns, .sh (.int (m : Nat)), .no, .no, .no, .no, .no] := rfl
  rw [st]
  simp only [ev_seq, ev_setO, ev_set, ev_dA, ev_args0, bnd_ok, ev_lst0, toS_ok, rsb_nx, List.set_cons_succ, List.set_cons_zero, ev_k, e4, e3]
  exact draws_ret m ds2 _ _ _ _ _
end KL
end
section
open PySem PySem.Spec PyProof.Rows L2 VS
namespace KL
theorem all_b {α : Type} (f : α → Bool) (ds : List α) : allD [.list (ds.map fun a => PyData.bool (f a))] = .ok (.bool (ds.all f)) := by
  have e := blsOf_fn f ds
  show (ofO (blsOf (ds.map fun a => PyData.bool (f a)))).bnd _ = _
  rw [e]
  simp [List.all_map]
theorem any_b {α : Type} (f : α → Bool) (ds : List α) : anyD [.list (ds.map fun a => PyData.bool (f a))] = .ok (.bool (ds.any f)) := by
  have e := blsOf_fn f ds
  show (ofO (blsOf (ds.map fun a => PyData.bool (f a)))).bnd _ = _
  rw [e]
  simp [List.any_map]
theorem cut_from (xs : List PyData) (n : Nat) (h : n ≤ xs.length) : cutD xs (some (n : Int)) none = xs.drop n := by
  unfold VS.cutD
  rw [HT.sIx_nat, Nat.min_eq_left h]
  refine List.take_of_length_le ?_
  rw [List.length_drop]
  show xs.length - n ≤ HT.sIx xs.length xs.length none - n
  simp [HT.sIx]
theorem cut_from1 (xs : List PyData) : cutD xs (some 1) none = xs.drop 1 := by
  cases xs with
  | nil => rfl
  | cons a r => exact cut_from (a :: r) 1 (by simp)
/-! ### boxes -/
abbrev Bx := Int × Int × Int × Int
def bxD (b : Bx) : PyData := .tuple [.int b.1, .int b.2.1, .int b.2.2.1, .int b.2.2.2]
def okB (b : Bx) : Prop := (0 ≤ b.1 ∧ b.1 ≤ 1000) ∧ (0 ≤ b.2.1 ∧ b.2.1 ≤ 1000) ∧ (0 ≤ b.2.2.1 ∧ b.2.2.1 ≤ 1000) ∧ (0 ≤ b.2.2.2 ∧ b.2.2.2 ≤ 1000)
@[simp] theorem ev_max2 (i j : Int) : max2D [.int i, .int j] = .ok (.int (max i j)) := by
  show Re.ok (PyData.int (if j > i then j else i)) = _
  congr 2
  split <;> omega
@[simp] theorem ev_min2 (i j : Int) : min2D [.int i, .int j] = .ok (.int (min i j)) := by
  show Re.ok (PyData.int (if j < i then j else i)) = _
  congr 2
  split <;> omega
/-! ### dicts of encoded keys -/
section
variable {α β : Type} [DecidableEq α]
def putG (m : List (α × β)) (k : α) (v : β) : List (α × β) :=
  if (m.any fun p => decide (p.1 = k)) = true then m.map (fun p => if p.1 = k then (p.1, v) else p) else m ++ [(k, v)]
def lkG (m : List (α × β)) (k : α) : Option β := (m.find? fun p => decide (p.1 = k)).map (·.2)
def eKV (ke : α → PyData) (ve : β → PyData) (m : List (α × β)) : List (PyData × PyData) := m.map fun p => (ke p.1, ve p.2)
theorem putD_enc {ke : α → PyData} {ve : β → PyData} (hk : ∀ a b, PyData.eqv (ke a) (ke b) = decide (a = b)) (m : List (α × β)) (k : α) (v : β) : putD (eKV ke ve m) (ke k) (ve v) = eKV ke ve (putG m k v) := by
  unfold putD putG eKV
  have ea : ((m.map fun p => (ke p.1, ve p.2)).any fun p => PyData.eqv p.1 (ke k)) = m.any fun p => decide (p.1 = k) := by
    rw [List.any_map]
    congr 1
    funext p
    exact hk p.1 k
  rw [ea]
  split
  · rw [List.map_map, List.map_map]
    congr 1
    funext p
    simp only [Function.comp, hk]
    by_cases e : p.1 = k <;> simp [e]
  · simp
theorem lkD_enc {ke : α → PyData} {ve : β → PyData} (hk : ∀ a b, PyData.eqv (ke a) (ke b) = decide (a = b)) (m : List (α × β)) (k : α) : lkD (eKV ke ve m) (ke k) = (lkG m k).map ve := by
  unfold lkD lkG eKV
  rw [List.find?_map]
  have : ((fun p : PyData × PyData => PyData.eqv p.1 (ke k)) ∘ fun p : α × β => (ke p.1, ve p.2)) = fun p => decide (p.1 = k) := by
    funext p
    exact hk p.1 k
  rw [this, Option.map_map, Option.map_map]
  rfl
theorem kfit_enc {ke : α → PyData} {ve : β → PyData} {b : Bool} (hb : ∀ a, kindK (ke a) = some b) (m : List (α × β)) (k : α) : kfit (eKV ke ve m) (ke k) = true := by
  unfold kfit eKV
  cases m with
  | nil => simp [hb]
  | cons p r => simp [hb]
theorem lkG_put (m : List (α × β)) (k : α) (v : β) (j : α) : lkG (putG m k v) j = if j = k then some v else lkG m j := by
  unfold putG
  split
  · rename_i h
    unfold lkG
    induction m with
    | nil => simp at h
    | cons p r ih =>
      rw [List.map_cons]
      by_cases e : p.1 = k
      · rw [if_pos e]
        by_cases ej : j = k
        · subst ej
          simp [e]
        · have e' : ¬ p.1 = j := fun z => ej (z.symm.trans e)
          rw [List.find?_cons, List.find?_cons]
          simp only [decide_eq_false e', if_neg ej]
          by_cases h' : (r.any fun p => decide (p.1 = k)) = true
          · rw [ih h', if_neg ej]
          · have : r.map (fun p => if p.1 = k then (p.1, v) else p) = r := by
              rw [Bool.not_eq_true, List.any_eq_false] at h'
              conv => rhs; rw [← List.map_id r]
              refine List.map_congr_left fun q hq => ?_
              have := h' q hq
              simp at this
              simp [this]
            rw [this]
      · rw [if_neg e]
        rw [List.any_cons, decide_eq_false e, Bool.false_or] at h
        rw [List.find?_cons, List.find?_cons]
        by_cases ej : p.1 = j
        · simp only [decide_eq_true ej]
          have : ¬ j = k := fun z => e (ej.trans z)
          rw [if_neg this]
        · simp only [decide_eq_false ej]
          exact ih h
  · rename_i h
    unfold lkG
    rw [List.find?_append]
    rw [Bool.not_eq_true, List.any_eq_false] at h
    by_cases ej : j = k
    · subst ej
      have : m.find? (fun p => decide (p.1 = j)) = none := by
        rw [List.find?_eq_none]
        exact h
      rw [this, if_pos rfl]
      simp
    · rw [if_neg ej]
      have : ¬ k = j := fun z => ej z.symm
      simp [this]
theorem putG_len (m : List (α × β)) (k : α) (v : β) : (putG m k v).length ≤ m.length + 1 := by
  unfold putG
  split <;> simp
theorem lkG_some {m : List (α × β)} {k : α} : (lkG m k).isSome = true ↔ k ∈ m.map (·.1) := by
  unfold lkG
  simp only [Option.isSome_map, List.find?_isSome, decide_eq_true_eq, List.mem_map]
theorem putG_nodup {m : List (α × β)} (k : α) (v : β) (h : (m.map (·.1)).Nodup) : ((putG m k v).map (·.1)).Nodup := by
  unfold putG
  split
  · have : (m.map fun p => if p.1 = k then (p.1, v) else p).map (·.1) = m.map (·.1) := by
      rw [List.map_map]
      refine List.map_congr_left fun p _ => ?_
      simp only [Function.comp]
      split <;> rfl
    rw [this]; exact h
  · rename_i hn
    rw [Bool.not_eq_true, List.any_eq_false] at hn
    rw [List.map_append, List.nodup_append]
    refine ⟨h, by simp, ?_⟩
    intro a ha b hb e
    have : b = k := by simpa using hb
    subst this
    subst e
    obtain ⟨p, hp, e⟩ := List.mem_map.mp ha
    have := hn p hp
    simp [e] at this
end
/-- x[k] = v of a dict -/
theorem ev_sto {i : Nat} {fk f : Dl → Re PyData} {δ : Dl} {kvs : List (PyData × PyData)} {k v : PyData} (h : δ[i]? = some (.ow (.dict kvs))) (hf : f δ = .ok v) (hk : fk δ = .ok k) (hc : kfit kvs k = true) (hz : kvs.length < sizeLine) :
    stoS i fk f δ = .nx (δ.set i (.ow (.dict (putD kvs k v)))) := by
  unfold stoS
  rw [h]
  simp [hf, hk, hc, hz]
/-! ### ranges, cells -/
def rngI (i : Int) (n : Nat) : List Int := (List.range n).map fun k => i + (k : Nat)
theorem rng2_ev (i j : Int) (h : (-(2 ^ 62) ≤ i ∧ i < 2 ^ 62) ∧ -(2 ^ 62) ≤ j ∧ j < 2 ^ 62) : rng2D [.int i, .int j] = .ok ((rngI i (j - i).toNat).map .int) := by
  unfold rng2D rngI
  simp only
  rw [if_pos ⟨h.1.1, h.1.2, h.2.1, h.2.2⟩, List.map_map]
  rfl
theorem rngI_len (i : Int) (n : Nat) : (rngI i n).length = n := by simp [rngI]
theorem rngI_succ (i : Int) (n : Nat) : rngI i (n + 1) = rngI i n ++ [i + (n : Nat)] := by
  unfold rngI
  rw [List.range_succ, List.map_append]
  rfl
theorem rngI_mem {i x : Int} {n : Nat} : x ∈ rngI i n ↔ i ≤ x ∧ x < i + (n : Nat) := by
  unfold rngI
  rw [List.mem_map]
  constructor
  · rintro ⟨k, hk, rfl⟩
    have := List.mem_range.mp hk
    omega
  · rintro ⟨h1, h2⟩
    exact ⟨(x - i).toNat, List.mem_range.mpr (by omega), by omega⟩
theorem rngI_at {i : Int} {n j : Nat} {d : PyData} (h : ((rngI i n).map PyData.int)[j]? = some d) : j < n ∧ d = .int (i + (j : Nat)) := by
  by_cases hl : j < n
  · rw [List.getElem?_map, rngI, List.getElem?_map, List.getElem?_eq_getElem (by simpa using hl)] at h
    simp at h
    exact ⟨hl, h.symm⟩
  · rw [List.getElem?_eq_none (by simp [rngI]; omega)] at h
    cases h
abbrev Ce := Int × Int
def ceD (c : Ce) : PyData := .tuple [.int c.1, .int c.2]
theorem ce_eqv (a b : Ce) : PyData.eqv (ceD a) (ceD b) = decide (a = b) := by
  obtain ⟨x, y⟩ := a
  obtain ⟨x', y'⟩ := b
  rw [Bool.eq_iff_iff]
  simp [ceD, PyData.eqv, PyData.eqvAll]
theorem ce_kind (a : Ce) : kindK (ceD a) = some true := by
  unfold ceD
  rw [kindK_tup, if_pos ⟨by simp [keysOf, VS.keyOf], by simp [esc]⟩]
theorem str_eqv (a b : Str) : PyData.eqv (.str a) (.str b) = decide (a = b) := by simp [PyData.eqv, str_beq]
theorem str_kind (a : Str) : kindK (.str a) = some false := rfl
theorem in_ceL (c : Ce) (xs : List Ce) : inD (ceD c) (.list (xs.map ceD)) = .ok (.bool (decide (c ∈ xs))) := by
  show (if dn 60 (ceD c) = true ∧ dnA 60 (xs.map ceD) = true then Re.ok (PyData.bool ((xs.map ceD).any fun y => PyData.eqv y (ceD c))) else .no) = _
  have hd : ∀ a : Ce, dn 60 (ceD a) = true := fun a => by unfold ceD; simp
  rw [if_pos ⟨hd c, by rw [dnA_all]; simp [hd]⟩]
  congr 2
  rw [Bool.eq_iff_iff]
  simp [ce_eqv]
/-- a box's cells, w columns -/
def colsB (l t : Int) (w h : Nat) : List Ce := (rngI l w).flatMap fun x => (rngI t h).map fun y => (x, y)
def inB (b : Bx) (c : Ce) : Bool := decide (b.1 ≤ c.1) && decide (c.1 < b.1 + b.2.2.1) && decide (b.2.1 ≤ c.2) && decide (c.2 < b.2.1 + b.2.2.2)
theorem inB_iff {b : Bx} {c : Ce} : inB b c = true ↔ (b.1 ≤ c.1 ∧ c.1 < b.1 + b.2.2.1) ∧ b.2.1 ≤ c.2 ∧ c.2 < b.2.1 + b.2.2.2 := by
  unfold inB
  simp only [Bool.and_eq_true, decide_eq_true_eq]
  constructor
  · rintro ⟨⟨⟨a, b⟩, c⟩, d⟩; exact ⟨⟨a, b⟩, c, d⟩
  · rintro ⟨⟨a, b⟩, c, d⟩; exact ⟨⟨⟨a, b⟩, c⟩, d⟩
theorem cols_mem {l t : Int} {w h : Nat} {c : Ce} : c ∈ colsB l t w h ↔ (l ≤ c.1 ∧ c.1 < l + (w : Nat)) ∧ t ≤ c.2 ∧ c.2 < t + (h : Nat) := by
  unfold colsB
  rw [List.mem_flatMap]
  constructor
  · rintro ⟨x, hx, hc⟩
    obtain ⟨y, hy, rfl⟩ := List.mem_map.mp hc
    exact ⟨rngI_mem.mp hx, rngI_mem.mp hy⟩
  · rintro ⟨h1, h2⟩
    exact ⟨c.1, rngI_mem.mpr h1, List.mem_map.mpr ⟨c.2, rngI_mem.mpr h2, rfl⟩⟩
theorem cols_succ (l t : Int) (w h : Nat) : colsB l t (w + 1) h = colsB l t w h ++ (rngI t h).map fun y => (l + (w : Nat), y) := by
  unfold colsB
  rw [rngI_succ, List.flatMap_append]
  simp
theorem cols_len (l t : Int) (h : Nat) : ∀ w : Nat, (colsB l t w h).length = w * h
  | 0 => by simp [colsB, rngI]
  | w + 1 => by
    rw [cols_succ, List.length_append, cols_len l t h w, List.length_map, rngI_len, Nat.succ_mul]
/-! ### the greatest of numbers -/
def mxI : List Int → Int
  | [] => 0
  | x :: xs => xs.foldl max x
theorem okMM_ints (xs : List Int) : okMM (xs.map .int) = true := by
  unfold okMM
  simp [PySem.W.alike, isN]
theorem ev_maxI {xs : List Int} (h : xs ≠ []) : maxL [.list (xs.map .int)] = .ok (.int (mxI xs)) := by
  match xs, h with
  | x :: xs, _ =>
    show maxS ((x :: xs).map .int) = _
    have ok := okMM_ints (x :: xs)
    rw [List.map_cons] at ok ⊢
    show (if okMM (PyData.int x :: xs.map .int) = true then Re.ok (PySem.W.maxD (.int x) (xs.map .int)) else .no) = _
    rw [if_pos ok, PySem.W.maxD_ints]
    rfl
theorem foldl_max : ∀ (xs : List Int) (x : Int), (xs.foldl max x = x ∨ xs.foldl max x ∈ xs) ∧ x ≤ xs.foldl max x ∧ ∀ y ∈ xs, y ≤ xs.foldl max x
  | [], x => ⟨.inl rfl, Int.le_refl _, fun _ h => nomatch h⟩
  | y :: ys, x => by
    obtain ⟨a, b, c⟩ := foldl_max ys (max x y)
    refine ⟨?_, ?_, ?_⟩
    · rw [List.foldl_cons]
      rcases a with a | a
      · rw [a]
        by_cases h : x ≤ y
        · exact .inr (by rw [Int.max_eq_right h]; exact List.mem_cons_self)
        · exact .inl (by omega)
      · exact .inr (List.mem_cons_of_mem _ a)
    · rw [List.foldl_cons]; omega
    · intro z hz
      rw [List.foldl_cons]
      rcases List.mem_cons.mp hz with e | hz
      · subst e; omega
      · exact c z hz
theorem mxI_mem {xs : List Int} (h : xs ≠ []) : mxI xs ∈ xs := by
  match xs, h with
  | x :: xs, _ =>
    rcases (foldl_max xs x).1 with a | a
    · show xs.foldl max x ∈ _
      rw [a]; exact List.mem_cons_self
    · exact List.mem_cons_of_mem _ a
theorem mxI_le {xs : List Int} {y : Int} (h : y ∈ xs) : y ≤ mxI xs := by
  match xs, h with
  | x :: xs, h =>
    rcases List.mem_cons.mp h with e | h
    · subst e; exact (foldl_max xs y).2.1
    · exact (foldl_max xs x).2.2 y h
end KL
end
section
open PySem PySem.Spec PyProof.Rows L2 VS
namespace KL
variable [VS.Cl]

/-! ### screens and lying windows -/
def scrD (W H : Int) : PyData := .tuple [.int W, .int H]
def lyD (bs : List Bx) : PyData := .tuple (bs.map bxD)
structure OkB (W H : Int) (b : Bx) : Prop where
  l : 0 ≤ b.1
  t : 0 ≤ b.2.1
  w : 1 ≤ b.2.2.1
  h : 1 ≤ b.2.2.2
  r : b.1 + b.2.2.1 ≤ W
  d : b.2.1 + b.2.2.2 ≤ H
structure OkL (W H : Int) (bs : List Bx) : Prop where
  w1 : 1 ≤ W
  w2 : W ≤ 12
  h1 : 1 ≤ H
  h2 : H ≤ 10
  len : bs.length ≤ 6
  ok : ∀ b ∈ bs, OkB W H b
theorem bx_0 (b : Bx) : ixD (bxD b) (.int 0) = .ok (.int b.1) := by unfold bxD; simp
theorem bx_1 (b : Bx) : ixD (bxD b) (.int 1) = .ok (.int b.2.1) := by unfold bxD; simp
theorem bx_2 (b : Bx) : ixD (bxD b) (.int 2) = .ok (.int b.2.2.1) := by unfold bxD; simp
theorem bx_3 (b : Bx) : ixD (bxD b) (.int 3) = .ok (.int b.2.2.2) := by unfold bxD; simp
theorem scr_0 (W H : Int) : ixD (scrD W H) (.int 0) = .ok (.int W) := by unfold scrD; simp
theorem scr_1 (W H : Int) : ixD (scrD W H) (.int 1) = .ok (.int H) := by unfold scrD; simp
theorem s_is_screen (k : Nat) {W H : Int} (hw : 1 ≤ W ∧ W ≤ 12) (hh : 1 ≤ H ∧ H ≤ 12) : den (k + 2) I_is_screen [.sh (scrD W H)] = .ok (.bool true) := by
  have hs : sizeLine = 16777216 := sz_line
  have e0 : den (k + 1 + 1) I_is_screen [.sh (scrD W H)] = outR (b_1 (den (k + 1)) [.sh (scrD W H), .no]) := den_is_screen _ _
  show den (k + 1 + 1) I_is_screen _ = _
  rw [e0]
  unfold scrD
  have e1 : lcL (bN 1) yesT (dA (argsF [(gS 1), (kC (.int 1)), (kC (.int 40))]) (cD (den (k + 1) I_is_whole))) [.sh (.tuple [.int W, .int H]), .no] ([W, H].map PyData.int) = .ok ([W, H].map fun i => .bool (wholeB (.int i) 1 40)) := lcL_all _ _ _ fun i hi => by
    have e := s_is_whole k (.int i) 1 40 rfl
    exact ⟨_, rfl, by simp [e]⟩
  have e2 := all_b (fun i => wholeB (.int i) 1 40) [W, H]
  have e3 : ([W, H].all fun i => wholeB (.int i) 1 40) = true := by
    simp [wholeB]
    omega
  rw [e3] at e2
  simp only [List.map_cons, List.map_nil] at e1 e2
  simp [b_1, isT, hs, e1, e2]
theorem s_lies_on (k : Nat) {W H : Int} {b : Bx} (hW : W ≤ 40) (hH : H ≤ 40) (o : OkB W H b) : den (k + 2) I_lies_on [.sh (scrD W H), .sh (bxD b)] = .ok (.bool true) := by
  have hs : sizeLine = 16777216 := sz_line
  obtain ⟨l, t, w, h⟩ := b
  obtain ⟨o1, o2, o3, o4, o5, o6⟩ := o
  simp only at o1 o2 o3 o4 o5 o6
  have e0 : den (k + 1 + 1) I_lies_on [.sh (scrD W H), .sh (bxD (l, t, w, h))] = outR (b_2 (den (k + 1)) [.sh (scrD W H), .sh (bxD (l, t, w, h)), .no, .no]) := den_lies_on _ _
  show den (k + 1 + 1) I_lies_on _ = _
  rw [e0]
  unfold scrD bxD
  have e1 : lcL (bN 3) yesT (dA (argsF [(gS 3), (kC (.int 0)), (kC (.int 40))]) (cD (den (k + 1) I_is_whole))) [.sh (.tuple [.int W, .int H]), .sh (.tuple [.int l, .int t, .int w, .int h]), .no, .no] ([l, t, w, h].map PyData.int) = .ok ([l, t, w, h].map fun i => .bool (wholeB (.int i) 0 40)) := lcL_all _ _ _ fun i hi => by
    have e := s_is_whole k (.int i) 0 40 rfl
    exact ⟨_, rfl, by simp [e]⟩
  have e2 := all_b (fun i => wholeB (.int i) 0 40) [l, t, w, h]
  have e3 : ([l, t, w, h].all fun i => wholeB (.int i) 0 40) = true := by
    simp [wholeB]
    omega
  rw [e3] at e2
  simp only [List.map_cons, List.map_nil] at e1 e2
  have e4 : lcL (bN 2) yesT (dAnd (d2 gtD (d2 ixD (gS 1) (d2 addD (gS 2) (kC (.int 2)))) (kC (.int 0))) (d2 leD (d2 addD (d2 ixD (gS 1) (gS 2)) (d2 ixD (gS 1) (d2 addD (gS 2) (kC (.int 2))))) (d2 ixD (gS 0) (gS 2)))) [.sh (.tuple [.int W, .int H]), .sh (.tuple [.int l, .int t, .int w, .int h]), .no, .no] ([(0 : Int), 1].map PyData.int) = .ok ([(0 : Int), 1].map fun _ => .bool true) := lcL_all _ _ _ fun i hi => by
    have : i = 0 ∨ i = 1 := by simpa using hi
    rcases this with rfl | rfl
    · refine ⟨_, rfl, ?_⟩
      simp [show 0 < w by omega, show l + w ≤ W by omega]
    · refine ⟨_, rfl, ?_⟩
      simp [show 0 < h by omega, show t + h ≤ H by omega]
  have e5 := all_b (fun _ : Int => true) [(0 : Int), 1]
  simp only [List.map_cons, List.map_nil] at e4 e5
  have ei : itemsT (.tuple [.int 0, .int 1]) = .ok [.int 0, .int 1] := rfl
  simp [b_2, isT, hs, e1, e2, ei, e4, e5]
theorem s_check (k : Nat) {W H : Int} {bs : List Bx} (o : OkL W H bs) : den (k + 4) I_check_lying [.sh (scrD W H), .sh (lyD bs)] = .ok .none := by
  have hs : sizeLine = 16777216 := sz_line
  have hl := o.len
  have e0 : den (k + 3 + 1) I_check_lying [.sh (scrD W H), .sh (lyD bs)] = outR (b_3 (den (k + 3)) [.sh (scrD W H), .sh (lyD bs), .no]) := den_check_lying _ _
  show den (k + 3 + 1) I_check_lying _ = _
  rw [e0]
  unfold lyD
  have e1 := s_is_screen (k + 1) (W := W) (H := H) ⟨o.w1, o.w2⟩ ⟨o.h1, by have := o.h2; omega⟩
  have e2 : lcL (bN 2) yesT (dA (argsF [(gS 0), (gS 2)]) (cD (den (k + 3) I_lies_on))) [.sh (scrD W H), .sh (.tuple (bs.map bxD)), .no] (bs.map bxD) = .ok (bs.map fun _ => .bool true) := lcL_all _ _ _ fun b hb => by
    have e := s_lies_on (k + 1) (by have := o.w2; omega) (by have := o.h2; omega) (o.ok b hb)
    exact ⟨_, rfl, by simp [e]⟩
  have e3 := all_b (fun _ : Bx => true) bs
  have e4 : (bs.all fun _ => true) = true := by simp
  rw [e4] at e3
  have hl' : ¬ ((6 : Int) < (bs.length : Nat)) := by omega
  have hl2 : bs.length ≤ sizeLine := by omega
  simp only [b_3, ev_seq, ev_if, ev_tNot, ev_tB1, ev_dA, ev_args, ev_args0, gS_zero, gS_succ, bnd_ok, ev_cD, List.map_cons, List.map_nil, e1, ev_asB, Bool.not_true, toS_ok, if_neg Bool.false_ne_true, ev_nx, rsb_nx, ev_tOr, ev_d1, ev_isi_t, isT, ev_d2, ev_lenT, List.length_map, ev_k, ev_gtI, decide_eq_false hl', ev_lc, ev_d1L, ev_items_t, if_pos hl2, ev_wipe, ev_wipe0, List.set_cons_succ, List.set_cons_zero, e2, e3, outR_nx]
/-! ### the law's screen -/
def q1 : Dl → RS := (parS [5, 6] (argsM [(false, (d2 modI (dA (argsF [(d2 ixD (gS 0) (d2 addD (kC (.int 3)) (d2 mulI (kC (.int 2)) (gS 4))))]) intD) (d2 ixD (gS 2) (kC (.int 0))))), (false, (d2 modI (dA (argsF [(d2 ixD (gS 0) (d2 addD (kC (.int 4)) (d2 mulI (kC (.int 2)) (gS 4))))]) intD) (d2 ixD (gS 2) (kC (.int 1)))))]))
def q2 : Dl → RS := (parS [7, 8] (argsM [(false, (d2 addD (kC (.int 1)) (d2 modI (d2 fdivI (dA (argsF [(d2 ixD (gS 0) (d2 addD (kC (.int 3)) (d2 mulI (kC (.int 2)) (gS 4))))]) intD) (kC (.int 16))) (d2 ixD (dA (argsF [(kC (.int 4)), (kC (.int 9))]) lstD) (d2 modI (gS 4) (kC (.int 2))))))), (false, (d2 addD (kC (.int 1)) (d2 modI (d2 fdivI (dA (argsF [(d2 ixD (gS 0) (d2 addD (kC (.int 4)) (d2 mulI (kC (.int 2)) (gS 4))))]) intD) (kC (.int 16))) (d2 ixD (dA (argsF [(kC (.int 4)), (kC (.int 9))]) lstD) (d2 modI (d2 fdivI (gS 4) (kC (.int 2))) (kC (.int 2)))))))]))
def q3 : Dl → RS := (appS 3 (dA (argsF [(gS 5), (gS 6), (dA (argsF [(gS 7), (d2 subD (d2 ixD (gS 2) (kC (.int 0))) (gS 5))]) min2D), (dA (argsF [(gS 8), (d2 subD (d2 ixD (gS 2) (kC (.int 1))) (gS 6))]) min2D)]) tupD))
abbrev LS (ds : List Int) (W H : Int) (bs : List Bx) (s4 s5 s6 s7 s8 : Sl) : Dl := [.sh (I2 ds), .sh (.int 6), .sh (scrD W H), .ow (.list (bs.map bxD)), s4, s5, s6, s7, s8]
theorem pick_ev (i : Int) : ∃ m : Int, 0 < m ∧ atI [PyData.int 4, .int 9] (i % 2) = some (.int m) := by
  have : i % 2 = 0 ∨ i % 2 = 1 := by omega
  rcases this with e | e
  · exact ⟨4, by decide, by rw [e]; exact at_0 _ _⟩
  · exact ⟨9, by decide, by rw [e]; exact at_1 _ _ _⟩
theorem q_ev (ds : List Int) {W H : Int} (hW : 1 ≤ W) (hH : 1 ≤ H) (bs : List Bx) (j : Nat) (d e : Int) (hd : ds[3 + 2 * j]? = some d) (he : ds[4 + 2 * j]? = some e) (hj : j < 100) (hb : bs.length < 1000) (s5 s6 s7 s8 : Sl) :
    ∃ b t5 t6 t7 t8, (seqS q1 (seqS q2 q3)) (LS ds W H bs (.sh (.int (j : Nat))) s5 s6 s7 s8) = .nx (LS ds W H (bs ++ [b]) (.sh (.int (j : Nat))) t5 t6 t7 t8) ∧ OkB W H b := by
  have hs : sizeLine = 16777216 := sz_line
  have ei : atI (ds.map PyData.int) (3 + 2 * (j : Int)) = some (.int d) := by
    have : (3 + 2 * (j : Int)) = ((3 + 2 * j : Nat) : Int) := by omega
    rw [this]
    exact at_nat (by rw [List.getElem?_map, hd]; rfl)
  have ei2 : atI (ds.map PyData.int) (4 + 2 * (j : Int)) = some (.int e) := by
    have : (4 + 2 * (j : Int)) = ((4 + 2 * j : Nat) : Int) := by omega
    rw [this]
    exact at_nat (by rw [List.getElem?_map, he]; rfl)
  have em : mulI (.int 2) (.int (j : Nat)) = .ok (.int (2 * (j : Int))) := ev_mul (.inl (by omega))
  obtain ⟨m, hm, em1⟩ := pick_ev (j : Int)
  obtain ⟨n, hn, en1⟩ := pick_ev ((j : Int) / 2)
  have r1 := Int.emod_nonneg d (show W ≠ 0 by omega)
  have r2 := Int.emod_lt_of_pos d (show 0 < W by omega)
  have r3 := Int.emod_nonneg e (show H ≠ 0 by omega)
  have r4 := Int.emod_lt_of_pos e (show 0 < H by omega)
  have r5 := Int.emod_nonneg (d / 16) (show m ≠ 0 by omega)
  have r6 := Int.emod_nonneg (e / 16) (show n ≠ 0 by omega)
  have e1 : q1 (LS ds W H bs (.sh (.int (j : Nat))) s5 s6 s7 s8) = .nx (LS ds W H bs (.sh (.int (j : Nat))) (.sh (.int (d % W))) (.sh (.int (e % H))) s7 s8) := by
    unfold q1 LS
    simp only [ev_par, ev_argsMf, ev_argsM0, ev_d2, ev_dA, ev_args, ev_args0, gS_zero, gS_succ, ev_k, bnd_ok, em, ev_addI, ix_l, ei, ei2, ofO_some, ev_intI, scr_0, scr_1, ev_mod (show 0 < W by omega), ev_mod (show 0 < H by omega), toS_ok, List.length_cons, List.length_nil, if_true, ev_bindM, ev_bindM0, List.set_cons_succ, List.set_cons_zero]
  have e2 : q2 (LS ds W H bs (.sh (.int (j : Nat))) (.sh (.int (d % W))) (.sh (.int (e % H))) s7 s8) = .nx (LS ds W H bs (.sh (.int (j : Nat))) (.sh (.int (d % W))) (.sh (.int (e % H))) (.sh (.int (1 + d / 16 % m))) (.sh (.int (1 + e / 16 % n)))) := by
    unfold q2 LS
    simp only [ev_par, ev_argsMf, ev_argsM0, ev_d2, ev_dA, ev_args, ev_args0, gS_zero, gS_succ, ev_k, bnd_ok, em, ev_addI, ix_l, ei, ei2, ofO_some, ev_intI, ev_lst2, em1, en1, ev_mod (show (0 : Int) < 2 by decide), ev_fdiv (show (0 : Int) < 2 ∧ (2 : Int) < 1073741824 by decide), ev_fdiv (show (0 : Int) < 16 ∧ (16 : Int) < 1073741824 by decide), ev_mod hm, ev_mod hn, toS_ok, List.length_cons, List.length_nil, if_true, ev_bindM, ev_bindM0, List.set_cons_succ, List.set_cons_zero]
  refine ⟨(d % W, e % H, min (1 + d / 16 % m) (W - d % W), min (1 + e / 16 % n) (H - e % H)), .sh (.int (d % W)), .sh (.int (e % H)), .sh (.int (1 + d / 16 % m)), .sh (.int (1 + e / 16 % n)), ?_, ?_⟩
  · have e3 : q3 (LS ds W H bs (.sh (.int (j : Nat))) (.sh (.int (d % W))) (.sh (.int (e % H))) (.sh (.int (1 + d / 16 % m))) (.sh (.int (1 + e / 16 % n)))) = .nx (LS ds W H (bs ++ [(d % W, e % H, min (1 + d / 16 % m) (W - d % W), min (1 + e / 16 % n) (H - e % H))]) (.sh (.int (j : Nat))) (.sh (.int (d % W))) (.sh (.int (e % H))) (.sh (.int (1 + d / 16 % m))) (.sh (.int (1 + e / 16 % n)))) := by
      unfold q3
      rw [ev_app (xs := bs.map bxD) (d := bxD (d % W, e % H, min (1 + d / 16 % m) (W - d % W), min (1 + e / 16 % n) (H - e % H))) rfl ?_ (by rw [List.length_map]; omega)]
      · unfold LS
        rw [List.map_append]
        rfl
      · unfold LS
        simp only [ev_d2, ev_dA, ev_args, ev_args0, gS_zero, gS_succ, ev_k, bnd_ok, scr_0, scr_1, ev_subI, ev_min2, ev_tup4]
        rfl
    rw [ev_seq, e1, rsb_nx, ev_seq, e2, rsb_nx, e3]
  · exact ⟨r1, r3, by simp only; omega, by simp only; omega, by simp only; omega, by simp only; omega⟩
theorem s_lscreen (k : Nat) (ds : List Int) (ok : okDr ds) (hl : ds.length = 60) : ∃ W H bs, den (k + 1) I__law_screen [.sh (I2 ds), .sh (.int 6)] = .ok (.tuple [scrD W H, lyD bs]) ∧ OkL W H bs := by
  have at' : ∀ i : Nat, i < 60 → ∃ d, ds[i]? = some d ∧ 0 ≤ d := fun i hi => ⟨ds[i]'(by omega), List.getElem?_eq_getElem _, (ok _ (List.getElem_mem _)).1⟩
  obtain ⟨d0, h0, p0⟩ := at' 0 (by omega)
  obtain ⟨d1, h1, p1⟩ := at' 1 (by omega)
  obtain ⟨d2', h2, p2⟩ := at' 2 (by omega)
  obtain ⟨n, hn⟩ : ∃ n : Nat, d2' % 7 = (n : Nat) := ⟨(d2' % 7).toNat, by omega⟩
  have hn6 : n ≤ 6 := by omega
  have hW : 1 ≤ 1 + d0 % 12 := by omega
  have hH : 1 ≤ 1 + d1 % 10 := by omega
  have e0 : den (k + 1) I__law_screen [.sh (I2 ds), .sh (.int 6)] = outR (b_20 (den k) [.sh (I2 ds), .sh (.int 6), .no, .no, .no, .no, .no, .no, .no]) := den__law_screen _ _
  obtain ⟨δ', e, bs, t4, t5, t6, t7, t8, rfl, bl, bo⟩ := goS_inv0 (b := bN 4) (body := seqS q1 (seqS q2 q3)) (ds := nums n) (δ := LS ds (1 + d0 % 12) (1 + d1 % 10) [] .no .no .no .no .no)
    (fun j δ => ∃ bs t4 t5 t6 t7 t8, δ = LS ds (1 + d0 % 12) (1 + d1 % 10) bs t4 t5 t6 t7 t8 ∧ bs.length = j ∧ ∀ b ∈ bs, OkB (1 + d0 % 12) (1 + d1 % 10) b) ⟨[], .no, .no, .no, .no, .no, rfl, rfl, fun _ h => nomatch h⟩ (by
    rintro j d δ hj ⟨bs, t4, t5, t6, t7, t8, rfl, bl, bo⟩
    obtain ⟨hjn, rfl⟩ := nums_at hj
    obtain ⟨x, hx, _⟩ := at' (3 + 2 * j) (by omega)
    obtain ⟨y, hy, _⟩ := at' (4 + 2 * j) (by omega)
    obtain ⟨b, u5, u6, u7, u8, e, ob⟩ := q_ev ds hW hH bs j x y hx hy (by omega) (by omega) t5 t6 t7 t8
    refine ⟨_, _, rfl, .inl e, bs ++ [b], _, u5, u6, u7, u8, rfl, by simp [bl], fun c hc => ?_⟩
    rcases List.mem_append.mp hc with hc | hc
    · exact bo c hc
    · have : c = b := by simpa using hc
      rw [this]
      exact ob)
  rw [nums_len] at bl
  refine ⟨1 + d0 % 12, 1 + d1 % 10, bs, ?_, ⟨hW, by omega, hH, by omega, by omega, bo⟩⟩
  have a0 : atI (ds.map PyData.int) 0 = some (.int d0) := at_nat (i := 0) (by rw [List.getElem?_map, h0]; rfl)
  have a1 : atI (ds.map PyData.int) 1 = some (.int d1) := at_nat (i := 1) (by rw [List.getElem?_map, h1]; rfl)
  have a2 : atI (ds.map PyData.int) 2 = some (.int d2') := at_nat (i := 2) (by rw [List.getElem?_map, h2]; rfl)
  have er := rng1_n n (by omega)
  have eb : b_20 (den k) = (seqS (parS [2, 3] (argsM [(false, (dA (argsF [(d2 addD (kC (.int 1)) (d2 modI (dA (argsF [(d2 ixD (gS 0) (kC (.int 0)))]) intD) (kC (.int 12)))), (d2 addD (kC (.int 1)) (d2 modI (dA (argsF [(d2 ixD (gS 0) (kC (.int 1)))]) intD) (kC (.int 10))))]) tupD)), (true, (dA (argsF []) lstD))])) (seqS (forS (dAL (argsF [(d2 modI (dA (argsF [(d2 ixD (gS 0) (kC (.int 2)))]) intD) (d2 addD (gS 1) (kC (.int 1))))]) rng1D) (bN 4) (seqS q1 (seqS q2 q3))) (retS (dA (argsF [(gS 2), (dA (argsF [(gB 3)]) tupOfD)]) tupD)))) := rfl
  have e' : goS (bN 4) (seqS q1 (seqS q2 q3)) (nums n) [.sh (I2 ds), .sh (.int 6), .sh (.tuple [.int (1 + d0 % 12), .int (1 + d1 % 10)]), .ow (.list []), .no, .no, .no, .no, .no] = .nx (LS ds (1 + d0 % 12) (1 + d1 % 10) bs t4 t5 t6 t7 t8) := e
  have e67 : (6 : Int) + 1 = 7 := rfl
  rw [e0, eb, ev_seq]
  generalize seqS q1 (seqS q2 q3) = body at e' ⊢
  simp only [ev_par, ev_argsMf, ev_argsMt, ev_argsM0, ev_dA, ev_args, ev_args0, ev_d2, ev_k, gS_zero, gS_succ, bnd_ok, ix_l, a0, a1, a2, ofO_some, ev_intI, ev_mod (show (0 : Int) < 12 by decide), ev_mod (show (0 : Int) < 10 by decide), ev_mod (show (0 : Int) < 7 by decide), ev_addI, ev_tup2, ev_lst0, toS_ok, List.length_cons, List.length_nil, if_true, ev_bindM, ev_bindM0, List.set_cons_succ, List.set_cons_zero, rsb_nx, ev_seq, ev_for, ev_dAL, e67, hn, er, e', ev_ret, gB_succ, gB_zero', ev_tupOf, outR_rt]
  rfl
end KL
end
section
open PySem PySem.Spec PyProof.Rows L2 VS
namespace KL
variable [VS.Cl]
/-! ### the cells of a box -/
abbrev boxC (b : Bx) : List Ce := colsB b.1 b.2.1 b.2.2.1.toNat b.2.2.2.toNat
theorem boxC_mem {W H : Int} {b : Bx} (o : OkB W H b) {c : Ce} : c ∈ boxC b ↔ inB b c = true := by
  have := o.w
  have := o.h
  rw [cols_mem, inB_iff]
  omega
theorem boxC_len {W H : Int} (hW : W ≤ 12) (hH : H ≤ 10) {b : Bx} (o : OkB W H b) : (boxC b).length ≤ 120 := by
  have h1 := o.l; have h2 := o.t; have h3 := o.r; have h4 := o.d
  have := cols_len b.1 b.2.1 b.2.2.2.toNat b.2.2.1.toNat
  have lz : b.2.2.1.toNat * b.2.2.2.toNat ≤ 12 * 10 := Nat.mul_le_mul (by omega) (by omega)
  show (colsB b.1 b.2.1 b.2.2.1.toNat b.2.2.2.toNat).length ≤ 120
  omega
theorem rngI_nodup (i : Int) (n : Nat) : (rngI i n).Nodup := by
  unfold rngI
  refine List.Pairwise.map _ (R := fun a b => a ≠ b) (fun a b h e => h (by omega)) List.nodup_range
theorem cols_nodup (l t : Int) (h : Nat) : ∀ w : Nat, (colsB l t w h).Nodup
  | 0 => List.nodup_nil
  | w + 1 => by
    rw [cols_succ, List.nodup_append]
    refine ⟨cols_nodup l t h w, ?_, fun a ha b hb e => ?_⟩
    · refine List.Pairwise.map _ (R := fun a b => a ≠ b) (fun a b h e => h (congrArg Prod.snd e)) (rngI_nodup t h)
    · obtain ⟨y, _, rfl⟩ := List.mem_map.mp hb
      subst e
      have := (cols_mem.mp ha).1
      simp only at this
      omega
theorem boxC_nodup (b : Bx) : (boxC b).Nodup := cols_nodup _ _ _ _
def row1 (x : Int) (b : Bx) : List Ce := (rngI b.2.1 b.2.2.2.toNat).map fun y => (x, y)
/-- the columns' cells, one after the other -/
def lcRow : Dl → Re PyData := lcD ([3]) (dAL (argsF [(d2 ixD (gS 0) (kC (.int 1))), (d2 addD (d2 ixD (gS 0) (kC (.int 1))) (d2 ixD (gS 0) (kC (.int 3))))]) rng2D) (bN 3) yesT (dA (argsF [(gS 2), (gS 3)]) tupD)
theorem lcRow_ev {W H : Int} (hW : W ≤ 12) (hH : H ≤ 10) {b : Bx} (o : OkB W H b) (x : Int) (s1 s3 : Sl) : lcRow [.sh (bxD b), s1, .sh (.int x), s3] = .ok (.list ((row1 x b).map ceD)) := by
  have hs : sizeLine = 16777216 := sz_line
  have h1 := o.l; have h2 := o.t; have h3 := o.r; have h4 := o.d; have h5 := o.w; have h6 := o.h
  have r2 : rng2D [.int b.2.1, .int (b.2.1 + b.2.2.2)] = .ok ((rngI b.2.1 b.2.2.2.toNat).map .int) := by
    rw [rng2_ev _ _ (by omega), show b.2.1 + b.2.2.2 - b.2.1 = b.2.2.2 by omega]
  have e1 : lcL (bN 3) yesT (dA (argsF [(gS 2), (gS 3)]) tupD) [.sh (bxD b), s1, .sh (.int x), .no] ((rngI b.2.1 b.2.2.2.toNat).map .int) = .ok ((row1 x b).map ceD) := by
    unfold row1
    rw [List.map_map]
    exact lcL_all PyData.int (fun y => ceD (x, y)) _ fun y hy => ⟨_, rfl, by simp [ceD]⟩
  have l : ((rngI b.2.1 b.2.2.2.toNat).map PyData.int).length ≤ sizeLine := by rw [List.length_map, rngI_len]; omega
  simp only [lcRow, ev_lc, ev_dAL, ev_args, ev_args0, ev_d2, gS_zero, gS_succ, ev_k, bnd_ok, bx_1, bx_3, ev_addI, r2, if_pos l, ev_wipe, ev_wipe0, List.set_cons_succ, List.set_cons_zero, e1]
theorem s_law_in (k : Nat) {W H : Int} (hW : W ≤ 12) (hH : H ≤ 10) {b : Bx} (o : OkB W H b) : den (k + 1) I__law_in [.sh (bxD b)] = .ok (.list ((boxC b).map ceD)) := by
  have hs : sizeLine = 16777216 := sz_line
  have h1 := o.l; have h2 := o.t; have h3 := o.r; have h4 := o.d; have h5 := o.w; have h6 := o.h
  have e0 : den (k + 1) I__law_in [.sh (bxD b)] = outR (b_23 (den k) [.sh (bxD b), .no, .no, .no]) := den__law_in _ _
  have r2 : rng2D [.int b.1, .int (b.1 + b.2.2.1)] = .ok ((rngI b.1 b.2.2.1.toNat).map .int) := by
    rw [rng2_ev _ _ (by omega), show b.1 + b.2.2.1 - b.1 = b.2.2.1 by omega]
  obtain ⟨δ', e, s2, s3, rfl⟩ := goS_inv0 (b := bN 2) (body := setS 1 (d2 addD (gS 1) lcRow)) (ds := (rngI b.1 b.2.2.1.toNat).map .int) (δ := [.sh (bxD b), .sh (.list []), .no, .no])
    (fun j δ => ∃ s2 s3, δ = [.sh (bxD b), .sh (.list ((colsB b.1 b.2.1 j b.2.2.2.toNat).map ceD)), s2, s3]) ⟨.no, .no, rfl⟩ (by
    rintro j d δ hj ⟨s2, s3, rfl⟩
    obtain ⟨hjw, rfl⟩ := rngI_at hj
    refine ⟨_, _, rfl, .inl ?_, .sh (.int (b.1 + (j : Nat))), s3, rfl⟩
    have lz := cols_len b.1 b.2.1 b.2.2.2.toNat j
    have lz2 : j * b.2.2.2.toNat ≤ 12 * 10 := Nat.mul_le_mul (by omega) (by omega)
    have e2 : addD (.list ((colsB b.1 b.2.1 j b.2.2.2.toNat).map ceD)) (.list ((row1 (b.1 + (j : Nat)) b).map ceD)) = .ok (.list ((colsB b.1 b.2.1 (j + 1) b.2.2.2.toNat).map ceD)) := by
      rw [ev_addL (by simp only [row1, List.length_map, rngI_len]; omega), cols_succ, List.map_append]
      rfl
    have er := lcRow_ev hW hH o (b.1 + (j : Nat)) (.sh (.list ((colsB b.1 b.2.1 j b.2.2.2.toNat).map ceD))) s3
    simp only [ev_set, ev_d2, List.set_cons_succ, List.set_cons_zero, gS_zero, gS_succ, bnd_ok, er, e2, toS_ok])
  rw [List.length_map, rngI_len] at e
  have eb : b_23 (den k) = (seqS (setS 1 (dA (argsF []) lstD)) (seqS (forS (dAL (argsF [(d2 ixD (gS 0) (kC (.int 0))), (d2 addD (d2 ixD (gS 0) (kC (.int 0))) (d2 ixD (gS 0) (kC (.int 2))))]) rng2D) (bN 2) (setS 1 (d2 addD (gS 1) lcRow))) (retS (gS 1)))) := rfl
  rw [e0, eb]
  generalize setS 1 (d2 addD (gS 1) lcRow) = body at e ⊢
  simp only [ev_seq, ev_set, ev_dA, ev_args0, bnd_ok, ev_lst0, toS_ok, List.set_cons_succ, List.set_cons_zero, rsb_nx, ev_for, ev_dAL, ev_args, ev_d2, gS_zero, gS_succ, ev_k, bx_0, bx_2, ev_addI, r2, e, ev_ret, outR_rt]
def nI (i : Nat) : PyData := .int (i : Int)
def liN (g : List Nat) : PyData := .list (g.map nI)
theorem bx_at {bs : List Bx} {i : Nat} {b : Bx} (h : bs[i]? = some b) : ixD (lyD bs) (.int (i : Int)) = .ok (bxD b) := by
  unfold lyD
  rw [ix_t, at_nat (i := i) (x := bxD b) (by rw [List.getElem?_map, h]; rfl)]
  rfl
theorem len_ly (bs : List Bx) : lenD [lyD bs] = .ok (.int (bs.length : Nat)) := by
  unfold lyD
  rw [ev_lenT, List.length_map]
/-! ### the law's cells -/
def inK (bs : List Bx) (k : Nat) (c : Ce) : Bool := match bs[k]? with
  | some b => inB b c
  | none => false
def cont (bs : List Bx) (j : Nat) (c : Ce) : List Nat := (List.range j).filter fun k => inK bs k c
def cv (l : List Nat) : Option (List Nat) := if l = [] then none else some l
theorem cv_get (l : List Nat) : (cv l).getD [] = l := by
  unfold cv
  split
  · rename_i h
    rw [h]
    rfl
  · rfl
theorem cont_succ (bs : List Bx) (j : Nat) (c : Ce) : cont bs (j + 1) c = if inK bs j c = true then cont bs j c ++ [j] else cont bs j c := by
  unfold cont
  rw [List.range_succ, List.filter_append]
  split
  · rename_i h
    simp [h]
  · rename_i h
    simp [h]
theorem cont_len (bs : List Bx) (j : Nat) (c : Ce) : (cont bs j c).length ≤ j := by
  unfold cont
  have := List.length_filter_le (fun k => inK bs k c) (List.range j)
  rw [List.length_range] at this
  exact this
abbrev lctD (m : List (Ce × List Nat)) : List (PyData × PyData) := eKV ceD liN m
theorem lt_isOb (m : List (Ce × List Nat)) : isOb (lctD m) = false := by
  cases m with
  | nil => rfl
  | cons p r => rfl
abbrev LL (bs : List Bx) (m : List (Ce × List Nat)) (s2 s3 s4 s5 s6 s7 s8 : Sl) : Dl := [.sh (lyD bs), .ow (.dict (lctD m)), s2, s3, s4, s5, s6, s7, s8]
def c1 : Dl → RS := (stoS 1 (dA (argsF [(gS 7), (gS 8)]) tupD) (d2 addD (dGet2 (gB 1) (dA (argsF [(gS 7), (gS 8)]) tupD) (dA (argsF []) lstD)) (dA (argsF [(gS 2)]) lstD)))
theorem c1_ev (bs : List Bx) (m : List (Ce × List Nat)) (k : Nat) (x y : Int) (hm : m.length < 100000) (hz : ((lkG m (x, y)).getD []).length ≤ 1001) (s3 s4 s5 s6 : Sl) :
    c1 (LL bs m (.sh (nI k)) s3 s4 s5 s6 (.sh (.int x)) (.sh (.int y))) = .nx (LL bs (putG m (x, y) ((lkG m (x, y)).getD [] ++ [k])) (.sh (nI k)) s3 s4 s5 s6 (.sh (.int x)) (.sh (.int y))) := by
  have hs : sizeLine = 16777216 := sz_line
  have e1 : dGet2 (gB 1) (dA (argsF [(gS 7), (gS 8)]) tupD) (dA (argsF []) lstD) (LL bs m (.sh (nI k)) s3 s4 s5 s6 (.sh (.int x)) (.sh (.int y))) = .ok (liN ((lkG m (x, y)).getD [])) := by
    unfold dGet2
    have hg : gB 1 (LL bs m (.sh (nI k)) s3 s4 s5 s6 (.sh (.int x)) (.sh (.int y))) = .ok (.dict (lctD m)) := rfl
    have hk : dA (argsF [(gS 7), (gS 8)]) tupD (LL bs m (.sh (nI k)) s3 s4 s5 s6 (.sh (.int x)) (.sh (.int y))) = .ok (ceD (x, y)) := by
      simp only [LL, ev_dA, ev_args, ev_args0, gS_succ, gS_zero, bnd_ok, ev_tup2]
      rfl
    have hl : dA (argsF []) lstD (LL bs m (.sh (nI k)) s3 s4 s5 s6 (.sh (.int x)) (.sh (.int y))) = .ok (.list []) := by
      simp only [ev_dA, ev_args0, bnd_ok, ev_lst0]
    rw [hg, bnd_ok]
    simp only [lt_isOb, if_true, hk, hl, bnd_ok]
    rw [if_pos (kfit_enc ce_kind m (x, y)), lkD_enc ce_eqv]
    cases lkG m (x, y) <;> rfl
  have e2 : addD (liN ((lkG m (x, y)).getD [])) (.list [nI k]) = .ok (liN ((lkG m (x, y)).getD [] ++ [k])) := by
    unfold liN
    rw [ev_addL (by simp; omega), List.map_append]
    rfl
  unfold c1
  rw [ev_sto (kvs := lctD m) (k := ceD (x, y)) (v := liN ((lkG m (x, y)).getD [] ++ [k])) rfl ?_ ?_ (kfit_enc ce_kind m _) (by unfold lctD eKV; rw [List.length_map]; omega)]
  · rw [putD_enc ce_eqv]
    rfl
  · have e3 : dA (argsF [(gS 2)]) lstD (LL bs m (.sh (nI k)) s3 s4 s5 s6 (.sh (.int x)) (.sh (.int y))) = .ok (.list [nI k]) := by
      simp only [LL, ev_dA, ev_args, ev_args0, gS_succ, gS_zero, bnd_ok, ev_lst1]
    rw [ev_d2, e1, bnd_ok, e3, bnd_ok, e2]
  · simp only [LL, ev_dA, ev_args, ev_args0, gS_succ, gS_zero, bnd_ok, ev_tup2]
    rfl
def more (f : Ce → Option (List Nat)) (k : Nat) (c : Ce) : Option (List Nat) := some ((f c).getD [] ++ [k])
theorem rowsC (bs : List Bx) (m : List (Ce × List Nat)) (k : Nat) (x t : Int) (h : Nat) (f : Ce → Option (List Nat)) (hf : ∀ c, lkG m c = f c) (hz : ∀ c, ((f c).getD []).length ≤ 1001) (N : Nat) (hm : m.length ≤ N) (hN : N + h < 100000) (nd : (m.map (·.1)).Nodup) (s3 s4 s5 s6 s8 : Sl) :
    ∃ m' s8', goS (bN 8) c1 ((rngI t h).map .int) (LL bs m (.sh (nI k)) s3 s4 s5 s6 (.sh (.int x)) s8) = .nx (LL bs m' (.sh (nI k)) s3 s4 s5 s6 (.sh (.int x)) s8') ∧ m'.length ≤ N + h ∧ (m'.map (·.1)).Nodup ∧
      ∀ c, lkG m' c = if c.1 = x ∧ t ≤ c.2 ∧ c.2 < t + (h : Nat) then more f k c else f c := by
  obtain ⟨δ', e, m', s8', rfl, l, nd', g⟩ := goS_inv0 (b := bN 8) (body := c1) (ds := (rngI t h).map .int) (δ := LL bs m (.sh (nI k)) s3 s4 s5 s6 (.sh (.int x)) s8)
    (fun j δ => ∃ m' s8', δ = LL bs m' (.sh (nI k)) s3 s4 s5 s6 (.sh (.int x)) s8' ∧ m'.length ≤ N + j ∧ (m'.map (·.1)).Nodup ∧ ∀ c, lkG m' c = if c.1 = x ∧ t ≤ c.2 ∧ c.2 < t + (j : Nat) then more f k c else f c)
    ⟨m, s8, rfl, hm, nd, fun c => by rw [if_neg (by omega)]; exact hf c⟩ (by
    rintro j d δ hj ⟨m', s8', rfl, l, nd', g⟩
    obtain ⟨hjn, rfl⟩ := rngI_at hj
    have e0 : lkG m' (x, t + (j : Nat)) = f (x, t + (j : Nat)) := by
      rw [g, if_neg (by simp only; omega)]
    refine ⟨_, _, rfl, .inl (c1_ev bs m' k x (t + (j : Nat)) (by omega) (by rw [e0]; exact hz _) s3 s4 s5 s6), _, _, rfl, ?_, putG_nodup _ _ nd', fun c => ?_⟩
    · have := putG_len m' (x, t + (j : Nat)) ((lkG m' (x, t + (j : Nat))).getD [] ++ [k])
      omega
    · rw [lkG_put, g c, e0]
      obtain ⟨c1, c2⟩ := c
      by_cases e : (c1, c2) = (x, t + (j : Nat))
      · rw [if_pos e]
        cases e
        rw [if_pos ⟨rfl, by omega, by omega⟩]
        rfl
      · rw [if_neg e]
        have e' : ¬ (c1 = x ∧ c2 = t + (j : Nat)) := fun z => e (by rw [z.1, z.2])
        by_cases q : c1 = x ∧ t ≤ c2 ∧ c2 < t + (j : Nat)
        · rw [if_pos q, if_pos (by simp only; omega)]
        · rw [if_neg q, if_neg (by simp only; omega)])
  rw [List.length_map, rngI_len] at l g
  exact ⟨m', s8', e, l, nd', g⟩
def colC : Dl → RS := (forS (dAL (argsF [(gS 4), (d2 addD (gS 4) (gS 6))]) rng2D) (bN 8) c1)
theorem colsC (bs : List Bx) {W H : Int} (hW : W ≤ 12) (hH : H ≤ 10) {b : Bx} (o : OkB W H b) (m : List (Ce × List Nat)) (k : Nat) (f : Ce → Option (List Nat)) (hf : ∀ c, lkG m c = f c) (hz : ∀ c, ((f c).getD []).length ≤ 1000) (N : Nat) (hm : m.length ≤ N) (hN : N + 120 < 100000) (nd : (m.map (·.1)).Nodup) (s7 s8 : Sl) :
    ∃ m' s7' s8', goS (bN 7) colC ((rngI b.1 b.2.2.1.toNat).map .int) (LL bs m (.sh (nI k)) (.sh (.int b.1)) (.sh (.int b.2.1)) (.sh (.int b.2.2.1)) (.sh (.int b.2.2.2)) s7 s8) = .nx (LL bs m' (.sh (nI k)) (.sh (.int b.1)) (.sh (.int b.2.1)) (.sh (.int b.2.2.1)) (.sh (.int b.2.2.2)) s7' s8') ∧ m'.length ≤ N + 120 ∧ (m'.map (·.1)).Nodup ∧
      ∀ c, lkG m' c = if inB b c = true then more f k c else f c := by
  have h1 := o.l; have h2 := o.t; have h3 := o.r; have h4 := o.d; have h5 := o.w; have h6 := o.h
  have r2 : rng2D [.int b.2.1, .int (b.2.1 + b.2.2.2)] = .ok ((rngI b.2.1 b.2.2.2.toNat).map .int) := by
    rw [rng2_ev _ _ (by omega), show b.2.1 + b.2.2.2 - b.2.1 = b.2.2.2 by omega]
  have hq : ∀ j : Nat, j ≤ 12 → j * b.2.2.2.toNat ≤ 12 * 10 := fun j hj => Nat.mul_le_mul hj (by omega)
  obtain ⟨δ', e, m', s7', s8', rfl, l, nd', g⟩ := goS_inv0 (b := bN 7) (body := colC) (ds := (rngI b.1 b.2.2.1.toNat).map .int) (δ := LL bs m (.sh (nI k)) (.sh (.int b.1)) (.sh (.int b.2.1)) (.sh (.int b.2.2.1)) (.sh (.int b.2.2.2)) s7 s8)
    (fun j δ => ∃ m' s7' s8', δ = LL bs m' (.sh (nI k)) (.sh (.int b.1)) (.sh (.int b.2.1)) (.sh (.int b.2.2.1)) (.sh (.int b.2.2.2)) s7' s8' ∧ m'.length ≤ N + j * b.2.2.2.toNat ∧ (m'.map (·.1)).Nodup ∧ ∀ c, lkG m' c = if (b.1 ≤ c.1 ∧ c.1 < b.1 + (j : Nat)) ∧ b.2.1 ≤ c.2 ∧ c.2 < b.2.1 + b.2.2.2 then more f k c else f c)
    ⟨m, s7, s8, rfl, by omega, nd, fun c => by rw [if_neg (by omega)]; exact hf c⟩ (by
    rintro j d δ hj ⟨m', s7', s8', rfl, l, nd', g⟩
    obtain ⟨hjn, rfl⟩ := rngI_at hj
    have hj1 := hq (j + 1) (by omega)
    have hsm : (j + 1) * b.2.2.2.toNat = j * b.2.2.2.toNat + b.2.2.2.toNat := Nat.succ_mul _ _
    let f' : Ce → Option (List Nat) := fun c => if (b.1 ≤ c.1 ∧ c.1 < b.1 + (j : Nat)) ∧ b.2.1 ≤ c.2 ∧ c.2 < b.2.1 + b.2.2.2 then more f k c else f c
    have hz' : ∀ c, ((f' c).getD []).length ≤ 1001 := fun c => by
      show ((if (b.1 ≤ c.1 ∧ c.1 < b.1 + (j : Nat)) ∧ b.2.1 ≤ c.2 ∧ c.2 < b.2.1 + b.2.2.2 then more f k c else f c).getD []).length ≤ 1001
      have := hz c
      split
      · show ((f c).getD [] ++ [k]).length ≤ 1001
        rw [List.length_append, List.length_singleton]
        omega
      · omega
    obtain ⟨m2, s8b, e2, l2, nd2, g2⟩ := rowsC bs m' k (b.1 + (j : Nat)) b.2.1 b.2.2.2.toNat f' g hz' (N + j * b.2.2.2.toNat) l (by omega) nd' (.sh (.int b.1)) (.sh (.int b.2.1)) (.sh (.int b.2.2.1)) (.sh (.int b.2.2.2)) s8'
    refine ⟨_, _, rfl, .inl ?_, m2, .sh (.int (b.1 + (j : Nat))), s8b, rfl, by omega, nd2, fun c => ?_⟩
    · simp only [LL, List.set_cons_succ, List.set_cons_zero] at e2 ⊢
      unfold colC
      simp only [ev_for, ev_dAL, ev_args, ev_args0, ev_d2, gS_zero, gS_succ, bnd_ok, ev_addI, r2, toS_ok, e2]
    · rw [g2 c]
      by_cases q : c.1 = b.1 + (j : Nat) ∧ b.2.1 ≤ c.2 ∧ c.2 < b.2.1 + (b.2.2.2.toNat : Nat)
      · rw [if_pos q, if_pos (by omega)]
        have ef : f' c = f c := if_neg (by omega)
        unfold more
        rw [ef]
      · rw [if_neg q]
        by_cases q2 : (b.1 ≤ c.1 ∧ c.1 < b.1 + (j : Nat)) ∧ b.2.1 ≤ c.2 ∧ c.2 < b.2.1 + b.2.2.2
        · rw [if_pos (by omega)]
          exact if_pos q2
        · rw [if_neg (by omega)]
          exact if_neg q2)
  rw [List.length_map, rngI_len] at l g
  have := hq b.2.2.1.toNat (by omega)
  refine ⟨m', s7', s8', e, by omega, nd', fun c => ?_⟩
  rw [g c]
  by_cases q : inB b c = true
  · rw [if_pos q]
    rw [inB_iff] at q
    rw [if_pos (by omega)]
  · rw [if_neg q]
    rw [inB_iff] at q
    rw [if_neg (by omega)]
def c3 : Dl → RS := (seqS (asgS (bT 4 (bCons (bN 3) (bCons (bN 4) (bCons (bN 5) (bCons (bN 6) bNil))))) (d2 ixD (gS 0) (gS 2))) (forS (dAL (argsF [(gS 3), (d2 addD (gS 3) (gS 5))]) rng2D) (bN 7) colC))
theorem s_lcells (k : Nat) {W H : Int} {bs : List Bx} (o : OkL W H bs) : ∃ m, den (k + 1) I__law_cells [.sh (lyD bs)] = .ok (.dict (lctD m)) ∧ (∀ c, lkG m c = cv (cont bs bs.length c)) ∧ (m.map (·.1)).Nodup ∧ m.length ≤ 720 := by
  have hl6 := o.len
  have e0 : den (k + 1) I__law_cells [.sh (lyD bs)] = outR (b_21 (den k) [.sh (lyD bs), .no, .no, .no, .no, .no, .no, .no, .no]) := den__law_cells _ _
  obtain ⟨δ', e, m, s2, s3, s4, s5, s6, s7, s8, rfl, l, nd, g⟩ := goS_inv0 (b := bN 2) (body := c3) (ds := nums bs.length) (δ := LL bs [] .no .no .no .no .no .no .no)
    (fun j δ => ∃ m s2 s3 s4 s5 s6 s7 s8, δ = LL bs m s2 s3 s4 s5 s6 s7 s8 ∧ m.length ≤ j * 120 ∧ (m.map (·.1)).Nodup ∧ ∀ c, lkG m c = cv (cont bs j c))
    ⟨[], .no, .no, .no, .no, .no, .no, .no, rfl, by simp, by simp, fun c => rfl⟩ (by
    rintro j d δ hj ⟨m, s2, s3, s4, s5, s6, s7, s8, rfl, l, nd, g⟩
    obtain ⟨hjn, rfl⟩ := nums_at hj
    obtain ⟨b, hb⟩ : ∃ b, bs[j]? = some b := ⟨_, List.getElem?_eq_getElem hjn⟩
    have ob := o.ok b (List.mem_of_getElem? hb)
    have ib := bx_at hb
    obtain ⟨m', s7', s8', e, l', nd', g'⟩ := colsC bs o.w2 o.h2 ob m j _ g (fun c => by
      rw [cv_get]
      have := cont_len bs j c
      omega) (j * 120) l (by omega) nd s7 s8
    have h1 := ob.l; have h2 := ob.t; have h3 := ob.r; have h4 := ob.d; have h5 := ob.w; have h6 := ob.h
    have w2 := o.w2
    have r2 : rng2D [.int b.1, .int (b.1 + b.2.2.1)] = .ok ((rngI b.1 b.2.2.1.toNat).map .int) := by
      rw [rng2_ev _ _ (by omega), show b.1 + b.2.2.1 - b.1 = b.2.2.1 by omega]
    refine ⟨_, LL bs m' (.sh (nI j)) (.sh (.int b.1)) (.sh (.int b.2.1)) (.sh (.int b.2.2.1)) (.sh (.int b.2.2.2)) s7' s8', rfl, .inl ?_, m', _, _, _, _, _, s7', s8', rfl, by omega, nd', fun c => ?_⟩
    · have ebx : bT 4 (bCons (bN 3) (bCons (bN 4) (bCons (bN 5) (bCons (bN 6) bNil)))) (bxD b) [.sh (lyD bs), .ow (.dict (lctD m)), .sh (.int (j : Nat)), s3, s4, s5, s6, s7, s8] = some [.sh (lyD bs), .ow (.dict (lctD m)), .sh (.int (j : Nat)), .sh (.int b.1), .sh (.int b.2.1), .sh (.int b.2.2.1), .sh (.int b.2.2.2), s7, s8] := rfl
      simp only [LL, nI] at e
      simp only [c3, LL, nI, List.set_cons_succ, List.set_cons_zero, ev_seq, ev_asg, ev_d2, gS_succ, gS_zero, bnd_ok, ib, toS_ok, ebx, rsb_nx, ev_for, ev_dAL, ev_args, ev_args0, ev_addI, r2, e]
    · rw [g' c, cont_succ]
      have ei : inK bs j c = inB b c := by unfold inK; rw [hb]
      rw [ei]
      by_cases q : inB b c = true
      · rw [if_pos q, if_pos q]
        unfold more
        rw [cv_get]
        unfold cv
        rw [if_neg (by simp)]
      · rw [if_neg q, if_neg q])
  rw [nums_len] at l g
  refine ⟨m, ?_, g, nd, by omega⟩
  have er := rng1_n bs.length (by omega)
  have eb : b_21 (den k) = (seqS (setO 1 (kC (.dict []))) (seqS (forS (dAL (argsF [(dA (argsF [(gS 0)]) lenD)]) rng1D) (bN 2) c3) (fun δ => (retS (gS 1)) (frzD 1 δ)))) := rfl
  rw [e0, eb]
  generalize c3 = body at e ⊢
  have e' : goS (bN 2) body (nums bs.length) [.sh (lyD bs), .ow (.dict []), .no, .no, .no, .no, .no, .no, .no] = .nx (LL bs m s2 s3 s4 s5 s6 s7 s8) := e
  simp only [ev_seq, ev_setO, ev_k, toS_ok, List.set_cons_succ, List.set_cons_zero, rsb_nx, ev_for, ev_dAL, ev_dA, ev_args, ev_args0, gS_zero, bnd_ok, len_ly, er, e']
  rfl
end KL
end
section
open PySem PySem.Spec PyProof.Rows L2 VS
namespace KL
variable [VS.Cl]

/-! ### what is covered -/
def covN (bs : List Bx) (x y : Int) : Bool := bs.any fun b => inB b (x, y)
def iBody : Dl → RS := (ifS (tAnd2 (tB1 (chn leD ltD (d2 ixD (gS 3) (kC (.int 0))) (gS 1) (d2 addD (d2 ixD (gS 3) (kC (.int 0))) (d2 ixD (gS 3) (kC (.int 2)))))) (tB1 (chn leD ltD (d2 ixD (gS 3) (kC (.int 1))) (gS 2) (d2 addD (d2 ixD (gS 3) (kC (.int 1))) (d2 ixD (gS 3) (kC (.int 3))))))) (retS (kC (.bool true))) nxS)
theorem iBody_ev (s0 : Sl) (x y : Int) (b : Bx) : iBody [s0, .sh (.int x), .sh (.int y), .sh (bxD b)] = if inB b (x, y) = true then .rt (.bool true) else .nx [s0, .sh (.int x), .sh (.int y), .sh (bxD b)] := by
  unfold iBody
  simp only [ev_if, ev_tAnd, ev_tB1, ev_chn, ev_d2, gS_succ, gS_zero, ev_k, bnd_ok, bx_0, bx_1, bx_2, bx_3, ev_leI, ev_addI, ev_ltI, ev_asB]
  unfold inB
  by_cases h1 : b.1 ≤ x
  · by_cases h2 : x < b.1 + b.2.2.1
    · by_cases h3 : b.2.1 ≤ y
      · by_cases h4 : y < b.2.1 + b.2.2.2
        · simp [h1, h2, h3, h4]
        · simp [h1, h2, h3, h4]
      · simp [h1, h2, h3]
    · simp [h1, h2]
  · simp [h1]
theorem iGo (s0 : Sl) (x y : Int) : ∀ (cs : List Bx) (s3 : Sl), ∃ t3, goS (bN 3) iBody (cs.map bxD) [s0, .sh (.int x), .sh (.int y), s3] = if (cs.any fun b => inB b (x, y)) = true then .rt (.bool true) else .nx [s0, .sh (.int x), .sh (.int y), t3]
  | [], s3 => ⟨s3, rfl⟩
  | c :: cs, s3 => by
    obtain ⟨t3, ih⟩ := iGo s0 x y cs (.sh (bxD c))
    refine ⟨t3, ?_⟩
    rw [List.map_cons, List.any_cons]
    unfold goS
    have eb : bN 3 (bxD c) [s0, .sh (.int x), .sh (.int y), s3] = some [s0, .sh (.int x), .sh (.int y), .sh (bxD c)] := rfl
    simp only [eb, iBody_ev]
    cases h : inB c (x, y)
    · simp only [if_neg Bool.false_ne_true, Bool.false_or]
      exact ih
    · simp only [if_true, Bool.true_or]
theorem s_is_in (k : Nat) (bs : List Bx) (x y : Int) : den (k + 1) I__is_in [.sh (lyD bs), .sh (.int x), .sh (.int y)] = .ok (.bool (covN bs x y)) := by
  have e0 : den (k + 1) I__is_in [.sh (lyD bs), .sh (.int x), .sh (.int y)] = outR (b_10 (den k) [.sh (lyD bs), .sh (.int x), .sh (.int y), .no]) := den__is_in _ _
  obtain ⟨t3, e⟩ := iGo (.sh (lyD bs)) x y bs .no
  have eb : b_10 (den k) = (seqS (forS (d1L itemsD (gS 0)) (bN 3) iBody) (retS (kC (.bool false)))) := rfl
  have ei : itemsD (lyD bs) = .ok (bs.map bxD) := rfl
  rw [e0, eb]
  generalize iBody = body at e ⊢
  simp only [ev_seq, ev_for, ev_d1L, gS_zero, bnd_ok, ei, toS_ok, e]
  unfold covN
  cases (bs.any fun b => inB b (x, y)) <;> rfl
/-! ### sums -/
def bI (b : Bool) : Int := if b = true then 1 else 0
def RS1 (bs : List Bx) (j : Nat) : Nat → Int
  | 0 => 0
  | x + 1 => RS1 bs j x + bI (covN bs x j)
def SS (bs : List Bx) (x : Nat) : Nat → Int
  | 0 => 0
  | y + 1 => SS bs x y + RS1 bs y x
def CS (bs : List Bx) (x : Nat) : Nat → Int
  | 0 => 0
  | y + 1 => CS bs x y + bI (covN bs x y)
theorem SS_x (bs : List Bx) (x : Nat) : ∀ y : Nat, SS bs (x + 1) y = SS bs x y + CS bs x y
  | 0 => rfl
  | y + 1 => by
    show SS bs (x + 1) y + (RS1 bs y x + bI (covN bs x y)) = SS bs x y + RS1 bs y x + (CS bs x y + bI (covN bs x y))
    rw [SS_x bs x y]
    omega
/-- how many cells of a box are covered -/
def cnt (bs : List Bx) (l t : Nat) (w h : Nat) : Nat := ((colsB (l : Int) (t : Int) w h).filter fun c => covN bs c.1 c.2).length
theorem col_cnt (bs : List Bx) (x t : Nat) : ∀ h : Nat, ((((rngI (t : Int) h).map fun y => ((x : Int), y)).filter fun c => covN bs c.1 c.2).length : Int) = CS bs x (t + h) - CS bs x t
  | 0 => by
    have e : ((rngI (t : Int) 0).map fun y => ((x : Int), y)) = [] := rfl
    rw [e]
    simp
  | h + 1 => by
    have ih := col_cnt bs x t h
    rw [rngI_succ, List.map_append, List.filter_append, List.length_append, Int.natCast_add, ih]
    have e : CS bs x (t + (h + 1)) = CS bs x (t + h) + bI (covN bs x ((t + h : Nat) : Int)) := rfl
    rw [e]
    have e2 : ((t + h : Nat) : Int) = (t : Int) + (h : Nat) := by omega
    rw [e2]
    unfold bI
    simp only [List.map_cons, List.map_nil]
    cases hc : covN bs (x : Int) ((t : Int) + (h : Nat))
    · rw [List.filter_cons_of_neg (by simp [hc])]
      simp
    · rw [List.filter_cons_of_pos (by simp [hc])]
      simp
      omega
theorem cnt_eq (bs : List Bx) (l t h : Nat) : ∀ w : Nat, (cnt bs l t w h : Int) = SS bs (l + w) (t + h) - SS bs l (t + h) - SS bs (l + w) t + SS bs l t
  | 0 => by
    have e : cnt bs l t 0 h = 0 := rfl
    rw [e]
    simp
    omega
  | w + 1 => by
    have ih := cnt_eq bs l t h w
    unfold cnt at ih ⊢
    have e2 : (l : Int) + (w : Nat) = ((l + w : Nat) : Int) := by omega
    rw [cols_succ, List.filter_append, List.length_append, Int.natCast_add, ih, e2, col_cnt bs (l + w) t h]
    have e3 : l + (w + 1) = (l + w) + 1 := rfl
    rw [e3, SS_x, SS_x]
    omega
/-! ### the object -/
def rowV (bs : List Bx) (w j : Nat) : PyData := .list ((List.range w).map fun i => .bool (covN bs (i : Nat) (j : Nat)))
def sumV (bs : List Bx) (w y : Nat) : PyData := .list ((List.range (w + 1)).map fun x => .int (SS bs x y))
def f1 (scr : PyData) (r : List PyData) : List (Str × Bool × PyData) := [(("screen" : Str), false, scr), (("_rows" : Str), true, .list r)]
def f2 (scr : PyData) (r s : List PyData) : List (Str × Bool × PyData) := [(("screen" : Str), false, scr), (("_rows" : Str), true, .list r), (("_sums" : Str), true, .list s)]
def f3 (scr : PyData) (r s : List PyData) : List (Str × Bool × PyData) := [(("screen" : Str), false, scr), (("_rows" : Str), false, .list r), (("_sums" : Str), true, .list s)]
theorem p0 (scr : PyData) : putB ("screen" : Str) (false, scr) [] = [(("screen" : Str), false, scr)] := rfl
theorem p1 (scr : PyData) : putB ("_rows" : Str) (true, .list []) [(("screen" : Str), false, scr)] = f1 scr [] := rfl
theorem p1a (scr : PyData) (r r' : List PyData) : putB ("_rows" : Str) (true, .list r') (f1 scr r) = f1 scr r' := rfl
theorem p2 (scr : PyData) (r s : List PyData) : putB ("_sums" : Str) (true, .list s) (f1 scr r) = f2 scr r s := rfl
theorem p3 (scr : PyData) (r s : List PyData) : putB ("_rows" : Str) (false, .list r) (f2 scr r s) = f3 scr r s := rfl
theorem p3a (scr : PyData) (r s s' : List PyData) : putB ("_sums" : Str) (true, .list s') (f3 scr r s) = f3 scr r s' := rfl
theorem l1 (scr : PyData) (r : List PyData) : (f1 scr r).lookup ("_rows" : Str) = some (true, .list r) := rfl
theorem l2 (scr : PyData) (r s : List PyData) : (f2 scr r s).lookup ("_rows" : Str) = some (true, .list r) := rfl
theorem l3 (scr : PyData) (r s : List PyData) : (f3 scr r s).lookup ("_rows" : Str) = some (false, .list r) := rfl
theorem l3s (scr : PyData) (r s : List PyData) : (f3 scr r s).lookup ("_sums" : Str) = some (true, .list s) := rfl
theorem ev_fstS {c n : Int} {fs : List (Str × Bool × PyData)} {f : Str} {fe : Dl → Re PyData} {r : Dl} {d : PyData} (hl : fs.length < 1000) (hf : fe (.ob c n fs :: r) = .ok d) : fstS 0 c f fe (.ob c n fs :: r) = .nx (.ob c n (putB f (false, d) fs) :: r) := by
  unfold fstS
  simp [hf, hl]
theorem ev_fstO {c n : Int} {fs : List (Str × Bool × PyData)} {f : Str} {fe : Dl → Re PyData} {r : Dl} {d : PyData} (hl : fs.length < 1000) (hf : fe (.ob c n fs :: r) = .ok d) : fstO 0 c f fe (.ob c n fs :: r) = .nx (.ob c n (putB f (true, d) fs) :: r) := by
  unfold fstO
  simp [hf, hl]
theorem ev_fap {c n : Int} {fs : List (Str × Bool × PyData)} {f : Str} {fe : Dl → Re PyData} {r : Dl} {d : PyData} {xs : List PyData} (hl : fs.lookup f = some (true, .list xs)) (hf : fe (.ob c n fs :: r) = .ok d) (hz : xs.length < sizeLine) : fapS 0 c f fe (.ob c n fs :: r) = .nx (.ob c n (putB f (true, .list (xs ++ [d])) fs) :: r) := by
  unfold fapS
  simp [hl, hf, hz]
theorem ev_fgS {c n : Int} {fs : List (Str × Bool × PyData)} {f : Str} {r : Dl} {d : PyData} (hl : fs.lookup f = some (false, d)) : fgS 0 c f (.ob c n fs :: r) = .ok d := by
  unfold fgS
  simp [hl]
theorem ev_fgB {c n : Int} {fs : List (Str × Bool × PyData)} {f : Str} {r : Dl} {d : PyData} {b : Bool} (hl : fs.lookup f = some (b, d)) : fgB 0 c f (.ob c n fs :: r) = .ok d := by
  unfold fgB
  simp [hl]
theorem ev_frzF {c n : Int} {fs : List (Str × Bool × PyData)} {f : Str} {r : Dl} {d : PyData} (hl : fs.lookup f = some (true, d)) : frzF 0 f (.ob c n fs :: r) = .ob c n (putB f (false, d) fs) :: r := by
  unfold frzF
  simp [hl]
theorem atI_last (xs : List PyData) (x : PyData) : atI (xs ++ [x]) (-1) = some x := by
  have h : ixN (xs ++ [x]).length (-1) = some xs.length := by
    unfold ixN
    rw [List.length_append, List.length_singleton]
    have h1 : ¬ ((0 : Int) ≤ -1) := by omega
    simp
    try omega
  unfold atI
  rw [h]
  simp
theorem zipUp_map {α : Type} (f g : α → PyData) : ∀ xs : List α, zipUp (xs.map f) (xs.map g) = xs.map fun x => .tuple [f x, g x]
  | [] => rfl
  | x :: xs => by
    rw [List.map_cons, List.map_cons, List.map_cons, ← zipUp_map f g xs]
    rfl
def obD (c : Nat) (bs : List Bx) (w h : Nat) : PyData := .dict [(.none, .int (c : Nat)), (.none, .int 0), (.str "screen", scrD w h), (.str "_rows", .list ((List.range h).map (rowV bs w))), (.str "_sums", .list ((List.range (h + 1)).map (sumV bs w)))]
abbrev LI (a : Nat) (fs : List (Str × Bool × PyData)) (w h : Nat) (bs : List Bx) (s3 s4 s5 s6 s7 s8 s9 : Sl) : Dl := [.ob (VS.Cl.f "Cells" : Nat) (a : Nat) fs, .sh (scrD w h), .sh (lyD bs), s3, s4, s5, s6, s7, s8, s9]
noncomputable def i1 (k : Nat) : Dl → RS := (fapS 0 ((VS.Cl.f "Cells" : Nat) : Int) "_rows" (lcD ([6]) (dAL (argsF [(d2 ixD (gS 1) (kC (.int 0)))]) rng1D) (bN 6) yesT (dA (argsF [(gS 2), (gS 6), (gS 3)]) (cD (den k I__is_in)))))
theorem i1_ev (k a w h : Nat) (hw : w ≤ 100) (bs : List Bx) (r : List PyData) (hr : r.length ≤ 1000) (j : Nat) (s4 s5 s6 s7 s8 s9 : Sl) :
    i1 (k + 1) (LI a (f1 (scrD w h) r) w h bs (.sh (.int (j : Nat))) s4 s5 s6 s7 s8 s9) = .nx (LI a (f1 (scrD w h) (r ++ [rowV bs w j])) w h bs (.sh (.int (j : Nat))) s4 s5 s6 s7 s8 s9) := by
  have hs : sizeLine = 16777216 := sz_line
  have er := rng1_n w (by omega)
  have e1 : lcL (bN 6) yesT (dA (argsF [(gS 2), (gS 6), (gS 3)]) (cD (den (k + 1) I__is_in))) (LI a (f1 (scrD w h) r) w h bs (.sh (.int (j : Nat))) s4 s5 .no s7 s8 s9) (nums w) = .ok ((List.range w).map fun i => .bool (covN bs (i : Nat) (j : Nat))) := by
    refine lcL_all (fun i : Nat => PyData.int (0 + (i : Nat))) _ _ fun i hi => ⟨_, rfl, ?_⟩
    have e := s_is_in k bs (i : Nat) (j : Nat)
    simp only [LI, ev_dA, ev_args, ev_args0, List.set_cons_succ, List.set_cons_zero, gS_succ, gS_zero, bnd_ok, ev_cD, List.map_cons, List.map_nil, Int.zero_add, e]
  have ln : (nums w).length ≤ sizeLine := by rw [nums_len]; omega
  unfold i1
  rw [ev_fap (xs := r) (d := rowV bs w j) (l1 _ _) ?_ (by omega)]
  · rfl
  · simp only [LI] at e1
    simp only [ev_lc, ev_dAL, ev_args, ev_args0, ev_d2, gS_succ, gS_zero, ev_k, bnd_ok, scr_0, er, if_pos ln, ev_wipe, ev_wipe0, List.set_cons_succ, List.set_cons_zero, e1]
    rfl
def i2 : Dl → RS := (appS 5 (d2 addD (d2 ixD (gB 5) (gS 6)) (dIf (tB1 (gS 7)) (kC (.int 1)) (kC (.int 0)))))
def lnV (bs : List Bx) (j x : Nat) : List PyData := (List.range (x + 1)).map fun i => .int (RS1 bs j i)
theorem i2_ev (a w h : Nat) (bs : List Bx) (fs : List (Str × Bool × PyData)) (j x : Nat) (hx : x ≤ 1000) (s3 s4 s8 s9 : Sl) :
    i2 (LI a fs w h bs s3 s4 (.ow (.list (lnV bs j x))) (.sh (.int (x : Nat))) (.sh (.bool (covN bs (x : Nat) (j : Nat)))) s8 s9) = .nx (LI a fs w h bs s3 s4 (.ow (.list (lnV bs j (x + 1)))) (.sh (.int (x : Nat))) (.sh (.bool (covN bs (x : Nat) (j : Nat)))) s8 s9) := by
  have hs : sizeLine = 16777216 := sz_line
  have ea : atI (lnV bs j x) (x : Int) = some (.int (RS1 bs j x)) := at_nat (by unfold lnV; rw [List.getElem?_map, List.getElem?_range (by omega)]; rfl)
  unfold i2
  rw [ev_app (xs := lnV bs j x) (d := .int (RS1 bs j (x + 1))) rfl ?_ (by unfold lnV; simp; omega)]
  · simp only [LI, List.set_cons_succ, List.set_cons_zero]
    have : lnV bs j (x + 1) = lnV bs j x ++ [.int (RS1 bs j (x + 1))] := by
      unfold lnV
      rw [List.range_succ (n := x + 1), List.map_append]
      rfl
    rw [this]
  · simp only [LI, ev_d2, gB_succ, gB_zero', gS_succ, gS_zero, bnd_ok, ix_l, ea, ofO_some, ev_dIf, ev_tB1, ev_asB, ev_k]
    have : RS1 bs j (x + 1) = RS1 bs j x + bI (covN bs (x : Nat) (j : Nat)) := rfl
    rw [this]
    unfold bI
    cases covN bs (x : Nat) (j : Nat) <;> simp
def i3 : Dl → RS := (fun δ => (fapS 0 ((VS.Cl.f "Cells" : Nat) : Int) "_sums" (lcD ([8, 9]) (dAL (argsF [(d2 ixD (fgB 0 ((VS.Cl.f "Cells" : Nat) : Int) "_sums") (d1 negI (kC (.int 1)))), (gS 5)]) zipD) (bT 2 (bCons (bN 8) (bCons (bN 9) bNil))) yesT (d2 addD (gS 8) (gS 9)))) (frzD 5 δ))
def i4 : Dl → RS := (seqS (setO 5 (dA (argsF [(kC (.int 0))]) lstD)) (seqS (forS (dAL (argsF [(gS 4)]) enumD) (bT 2 (bCons (bN 6) (bCons (bN 7) bNil))) i2) i3))
theorem pairUp_rng (f : Nat → PyData) (n : Nat) : pairUp 0 ((List.range n).map f) = (List.range n).map fun i => .tuple [.int ((i : Nat) : Int), f i] := by
  refine List.ext_getElem? fun i => ?_
  rw [pairUp_get, List.getElem?_map, List.getElem?_map, Nat.zero_add]
  by_cases h : i < n
  · rw [List.getElem?_range h]
    rfl
  · rw [List.getElem?_eq_none (by simp; omega)]
    rfl
theorem i4_ev (a w h : Nat) (hw : w ≤ 100) (bs : List Bx) (r s : List PyData) (hs1 : s.length ≤ 1000) (j : Nat) (s3 s5 s6 s7 s8 s9 : Sl) :
    ∃ t5 t6 t7, i4 (LI a (f3 (scrD w h) r (s ++ [sumV bs w j])) w h bs s3 (.sh (rowV bs w j)) s5 s6 s7 s8 s9) = .nx (LI a (f3 (scrD w h) r (s ++ [sumV bs w j] ++ [sumV bs w (j + 1)])) w h bs s3 (.sh (rowV bs w j)) t5 t6 t7 s8 s9) := by
  have hs : sizeLine = 16777216 := sz_line
  obtain ⟨δ', e, t6, t7, rfl⟩ := goS_inv0 (b := bT 2 (bCons (bN 6) (bCons (bN 7) bNil))) (body := i2) (ds := pairUp 0 ((List.range w).map fun i => PyData.bool (covN bs (i : Nat) (j : Nat)))) (δ := LI a (f3 (scrD w h) r (s ++ [sumV bs w j])) w h bs s3 (.sh (rowV bs w j)) (.ow (.list (lnV bs j 0))) s6 s7 s8 s9)
    (fun x δ => ∃ t6 t7, δ = LI a (f3 (scrD w h) r (s ++ [sumV bs w j])) w h bs s3 (.sh (rowV bs w j)) (.ow (.list (lnV bs j x))) t6 t7 s8 s9) ⟨s6, s7, rfl⟩ (by
    rintro x d δ hx ⟨t6, t7, rfl⟩
    rw [pairUp_rng, List.getElem?_map] at hx
    obtain ⟨i, hi, rfl⟩ := Option.map_eq_some_iff.mp hx
    obtain ⟨h1, h2⟩ := List.getElem?_eq_some_iff.mp hi
    rw [List.length_range] at h1
    rw [List.getElem_range] at h2
    subst h2
    exact ⟨_, _, rfl, .inl (i2_ev a w h bs _ j x (by omega) s3 _ s8 s9), _, _, rfl⟩)
  rw [pairUp_len, List.length_map, List.length_range] at e
  refine ⟨.sh (.list (lnV bs j w)), t6, t7, ?_⟩
  have ei3 : i3 (LI a (f3 (scrD w h) r (s ++ [sumV bs w j])) w h bs s3 (.sh (rowV bs w j)) (.ow (.list (lnV bs j w))) t6 t7 s8 s9) = .nx (LI a (f3 (scrD w h) r (s ++ [sumV bs w j] ++ [sumV bs w (j + 1)])) w h bs s3 (.sh (rowV bs w j)) (.sh (.list (lnV bs j w))) t6 t7 s8 s9) := by
    have ez : zipD [sumV bs w j, .list (lnV bs j w)] = .ok ((List.range (w + 1)).map fun x => .tuple [.int (SS bs x j), .int (RS1 bs j x)]) := by
      have : zipD [sumV bs w j, .list (lnV bs j w)] = .ok (zipUp ((List.range (w + 1)).map fun x => .int (SS bs x j)) ((List.range (w + 1)).map fun x => .int (RS1 bs j x))) := rfl
      rw [this, zipUp_map]
    have ec : lcL (bT 2 (bCons (bN 8) (bCons (bN 9) bNil))) yesT (d2 addD (gS 8) (gS 9)) (LI a (f3 (scrD w h) r (s ++ [sumV bs w j])) w h bs s3 (.sh (rowV bs w j)) (.sh (.list (lnV bs j w))) t6 t7 .no .no) ((List.range (w + 1)).map fun x => .tuple [.int (SS bs x j), .int (RS1 bs j x)]) = .ok ((List.range (w + 1)).map fun x => .int (SS bs x (j + 1))) := lcL_all _ _ _ fun x hx => ⟨_, rfl, by simp [SS]⟩
    have ln : ((List.range (w + 1)).map fun x => PyData.tuple [.int (SS bs x j), .int (RS1 bs j x)]).length ≤ sizeLine := by simp; omega
    have ef : frzD 5 (LI a (f3 (scrD w h) r (s ++ [sumV bs w j])) w h bs s3 (.sh (rowV bs w j)) (.ow (.list (lnV bs j w))) t6 t7 s8 s9) = LI a (f3 (scrD w h) r (s ++ [sumV bs w j])) w h bs s3 (.sh (rowV bs w j)) (.sh (.list (lnV bs j w))) t6 t7 s8 s9 := rfl
    unfold i3
    simp only [ef]
    rw [ev_fap (xs := s ++ [sumV bs w j]) (d := sumV bs w (j + 1)) (l3s _ _ _) ?_ (by simp; omega)]
    · rw [p3a]
    · have eg := ev_fgB (c := ((VS.Cl.f "Cells" : Nat) : Int)) (n := (a : Int)) (f := "_sums") (r := [.sh (scrD w h), .sh (lyD bs), s3, .sh (rowV bs w j), .sh (.list (lnV bs j w)), t6, t7, s8, s9]) (l3s (scrD w h) r (s ++ [sumV bs w j]))
      have en : negI (.int 1) = .ok (.int (-1)) := rfl
      simp only [LI] at ec
      simp only [ev_lc, ev_dAL, ev_args, ev_args0, ev_d2, ev_d1, ev_k, bnd_ok, eg, en, ix_l, atI_last, ofO_some, gS_succ, gS_zero, ez, if_pos ln, ev_wipe, ev_wipe0, List.set_cons_succ, List.set_cons_zero, ec]
      rfl
  have e0 : (setO 5 (dA (argsF [(kC (.int 0))]) lstD)) (LI a (f3 (scrD w h) r (s ++ [sumV bs w j])) w h bs s3 (.sh (rowV bs w j)) s5 s6 s7 s8 s9) = .nx (LI a (f3 (scrD w h) r (s ++ [sumV bs w j])) w h bs s3 (.sh (rowV bs w j)) (.ow (.list (lnV bs j 0))) s6 s7 s8 s9) := by
    simp only [LI, ev_setO, ev_dA, ev_args, ev_args0, ev_k, bnd_ok, ev_lst1, toS_ok, List.set_cons_succ, List.set_cons_zero]
    rfl
  have en : enumD [rowV bs w j] = .ok (pairUp 0 ((List.range w).map fun i => PyData.bool (covN bs (i : Nat) (j : Nat)))) := rfl
  unfold i4
  rw [ev_seq, e0, rsb_nx, ev_seq]
  generalize i3 = body3 at ei3 ⊢
  generalize i2 = body2 at e ⊢
  simp only [LI] at e ei3 ⊢
  simp only [ev_for, ev_dAL, ev_args, ev_args0, gS_succ, gS_zero, bnd_ok, en, toS_ok, e, rsb_nx, ei3]
theorem s_init (k a : Nat) {w h : Nat} {bs : List Bx} (hw : w ≤ 100) (hh : h ≤ 100) : den (k + 2) I_Cells___init__ [.sh (.int (a : Nat)), .sh (scrD w h), .sh (lyD bs)] = .ok (obD (VS.Cl.f "Cells") bs w h) := by
  have hs : sizeLine = 16777216 := sz_line
  have e0 : den (k + 1 + 1) I_Cells___init__ [.sh (.int (a : Nat)), .sh (scrD w h), .sh (lyD bs)] = outI a (b_6 VS.Cl.f (den (k + 1)) (LI a [] w h bs .no .no .no .no .no .no .no)) := den_Cells___init__ _ _ _
  show den (k + 1 + 1) I_Cells___init__ _ = _
  have eb : b_6 VS.Cl.f (den (k + 1)) = (seqS (fstS 0 ((VS.Cl.f "Cells" : Nat) : Int) "screen" (gS 1)) (seqS (fstO 0 ((VS.Cl.f "Cells" : Nat) : Int) "_rows" (dA (argsF []) lstD)) (seqS (forS (dAL (argsF [(d2 ixD (gS 1) (kC (.int 1)))]) rng1D) (bN 3) (i1 (k + 1))) (seqS (fstO 0 ((VS.Cl.f "Cells" : Nat) : Int) "_sums" (dA (argsF [(d2 repL (dA (argsF [(kC (.int 0))]) lstD) (d2 addD (d2 ixD (gS 1) (kC (.int 0))) (kC (.int 1))))]) lstD)) (fun δ => (forS (d1L itemsD (fgS 0 ((VS.Cl.f "Cells" : Nat) : Int) "_rows")) (bN 4) i4) (frzF 0 "_rows" δ)))))) := rfl
  -- the rows
  obtain ⟨δ1, er, t3, rfl⟩ := goS_inv0 (b := bN 3) (body := i1 (k + 1)) (ds := nums h) (δ := LI a (f1 (scrD w h) []) w h bs .no .no .no .no .no .no .no)
    (fun j δ => ∃ t3, δ = LI a (f1 (scrD w h) ((List.range j).map (rowV bs w))) w h bs t3 .no .no .no .no .no .no) ⟨.no, rfl⟩ (by
    rintro j d δ hj ⟨t3, rfl⟩
    obtain ⟨hjn, rfl⟩ := nums_at hj
    refine ⟨_, _, rfl, .inl (i1_ev k a w h hw bs _ (by simp; omega) j .no .no .no .no .no .no), .sh (.int (j : Nat)), ?_⟩
    rw [List.range_succ, List.map_append]
    rfl)
  rw [nums_len] at er
  -- the sums
  obtain ⟨δ2, es, t4, t5, t6, t7, rfl⟩ := goS_inv0 (b := bN 4) (body := i4) (ds := (List.range h).map (rowV bs w)) (δ := LI a (f3 (scrD w h) ((List.range h).map (rowV bs w)) ([] ++ [sumV bs w 0])) w h bs t3 .no .no .no .no .no .no)
    (fun j δ => ∃ t4 t5 t6 t7, δ = LI a (f3 (scrD w h) ((List.range h).map (rowV bs w)) ((List.range j).map (sumV bs w) ++ [sumV bs w j])) w h bs t3 t4 t5 t6 t7 .no .no) ⟨.no, .no, .no, .no, rfl⟩ (by
    rintro j d δ hj ⟨t4, t5, t6, t7, rfl⟩
    rw [List.getElem?_map] at hj
    obtain ⟨i, hi, rfl⟩ := Option.map_eq_some_iff.mp hj
    obtain ⟨h1, h2⟩ := List.getElem?_eq_some_iff.mp hi
    rw [List.length_range] at h1
    rw [List.getElem_range] at h2
    subst h2
    obtain ⟨u5, u6, u7, e⟩ := i4_ev a w h hw bs ((List.range h).map (rowV bs w)) ((List.range j).map (sumV bs w)) (by simp; omega) j t3 t5 t6 t7 .no .no
    refine ⟨_, _, rfl, .inl e, .sh (rowV bs w j), u5, u6, u7, ?_⟩
    rw [List.range_succ, List.map_append]
    rfl)
  rw [List.length_map, List.length_range] at es
  have g0 : fstS 0 ((VS.Cl.f "Cells" : Nat) : Int) "screen" (gS 1) (LI a [] w h bs .no .no .no .no .no .no .no) = .nx (LI a [(("screen" : Str), false, scrD w h)] w h bs .no .no .no .no .no .no .no) := by
    rw [ev_fstS (d := scrD w h) (by simp) rfl, p0]
  have g1 : fstO 0 ((VS.Cl.f "Cells" : Nat) : Int) "_rows" (dA (argsF []) lstD) (LI a [(("screen" : Str), false, scrD w h)] w h bs .no .no .no .no .no .no .no) = .nx (LI a (f1 (scrD w h) []) w h bs .no .no .no .no .no .no .no) := by
    rw [ev_fstO (d := .list []) (by simp) (by simp only [ev_dA, ev_args0, bnd_ok, ev_lst0]), p1]
  have esum0 : repL (.list [.int 0]) (.int ((w : Int) + 1)) = .ok (sumV bs w 0) := by
    have hc : -(2 ^ 63) ≤ ((w : Int) + 1) ∧ ((w : Int) + 1) < 2 ^ 63 ∧ ([PyData.int 0].length) * ((w : Int) + 1).toNat ≤ sizeLine := by
      simp only [List.length_cons, List.length_nil]
      omega
    unfold repL
    simp only
    rw [if_pos hc]
    have hn : ((w : Int) + 1).toNat = w + 1 := by omega
    rw [hn]
    have hz : (List.replicate (w + 1) [PyData.int 0]).flatten = (List.range (w + 1)).map fun x => PyData.int (SS bs x 0) := by
      have h1 : ((List.range (w + 1)).map fun x => PyData.int (SS bs x 0)) = (List.range (w + 1)).map fun _ => PyData.int 0 := rfl
      rw [h1]
      have h2 : ∀ n : Nat, (List.replicate n [PyData.int 0]).flatten = (List.range n).map fun _ => PyData.int 0 := fun n => by
        induction n with
        | zero => rfl
        | succ n ih =>
          rw [List.replicate_succ', List.flatten_append, ih, List.range_succ, List.map_append]
          rfl
      exact h2 (w + 1)
    rw [hz]
    rfl
  have g2 : fstO 0 ((VS.Cl.f "Cells" : Nat) : Int) "_sums" (dA (argsF [(d2 repL (dA (argsF [(kC (.int 0))]) lstD) (d2 addD (d2 ixD (gS 1) (kC (.int 0))) (kC (.int 1))))]) lstD) (LI a (f1 (scrD w h) ((List.range h).map (rowV bs w))) w h bs t3 .no .no .no .no .no .no) = .nx (LI a (f2 (scrD w h) ((List.range h).map (rowV bs w)) [sumV bs w 0]) w h bs t3 .no .no .no .no .no .no) := by
    rw [ev_fstO (d := .list [sumV bs w 0]) (by simp [f1]) (by simp only [ev_dA, ev_args, ev_args0, ev_d2, ev_k, bnd_ok, ev_lst1, gS_succ, gS_zero, scr_0, ev_addI, esum0]), p2]
  have g3 : frzF 0 "_rows" (LI a (f2 (scrD w h) ((List.range h).map (rowV bs w)) [sumV bs w 0]) w h bs t3 .no .no .no .no .no .no) = LI a (f3 (scrD w h) ((List.range h).map (rowV bs w)) ([] ++ [sumV bs w 0])) w h bs t3 .no .no .no .no .no .no := by
    rw [ev_frzF (l2 _ _ _), p3]
    rfl
  have hr := rng1_n h (by omega)
  have gr : (forS (dAL (argsF [(d2 ixD (gS 1) (kC (.int 1)))]) rng1D) (bN 3) (i1 (k + 1))) (LI a (f1 (scrD w h) []) w h bs .no .no .no .no .no .no .no) = .nx (LI a (f1 (scrD w h) ((List.range h).map (rowV bs w))) w h bs t3 .no .no .no .no .no .no) := by
    simp only [LI] at er ⊢
    simp only [ev_for, ev_dAL, ev_args, ev_args0, ev_d2, gS_succ, gS_zero, ev_k, bnd_ok, scr_1, hr, toS_ok, er]
  have gs : (forS (d1L itemsD (fgS 0 ((VS.Cl.f "Cells" : Nat) : Int) "_rows")) (bN 4) i4) (LI a (f3 (scrD w h) ((List.range h).map (rowV bs w)) ([] ++ [sumV bs w 0])) w h bs t3 .no .no .no .no .no .no) = .nx (LI a (f3 (scrD w h) ((List.range h).map (rowV bs w)) ((List.range h).map (sumV bs w) ++ [sumV bs w h])) w h bs t3 t4 t5 t6 t7 .no .no) := by
    have eg := ev_fgS (c := ((VS.Cl.f "Cells" : Nat) : Int)) (n := (a : Int)) (f := "_rows") (r := [.sh (scrD w h), .sh (lyD bs), t3, .no, .no, .no, .no, .no, .no]) (l3 (scrD w h) ((List.range h).map (rowV bs w)) ([] ++ [sumV bs w 0]))
    simp only [LI] at es ⊢
    simp only [ev_for, ev_d1L, eg, bnd_ok, ev_items_l, toS_ok, es]
  rw [e0, eb, ev_seq, g0, rsb_nx, ev_seq, g1, rsb_nx, ev_seq, gr, rsb_nx, ev_seq, g2, rsb_nx]
  simp only [g3, gs]
  show (if ((a : Nat) : Int) = (a : Int) then Re.ok (PyData.dict ((.none, .int (VS.Cl.f "Cells" : Nat)) :: (.none, .int 0) :: (f3 (scrD w h) ((List.range h).map (rowV bs w)) ((List.range h).map (sumV bs w) ++ [sumV bs w h])).map fun p => (PyData.str p.1, p.2.2))) else .no) = _
  rw [if_pos rfl]
  unfold obD
  rw [List.range_succ, List.map_append]
  rfl
theorem s_mk (k : Nat) {w h : Nat} {bs : List Bx} (hw : w ≤ 100) (hh : h ≤ 100) : mkC (dnn VS.Cl.f (k + 3) I_Cells___init__) [scrD w h, lyD bs] = .ok (obD (VS.Cl.f "Cells") bs w h) := mkC_of fun a => s_init k a hw hh
end KL
end
section
open PySem PySem.Spec PyProof.Rows L2 VS
namespace KL
variable [VS.Cl]

/-! ### rows by numbers -/
theorem ix_rng (f : Nat → PyData) (n x : Nat) (h : x < n) : ixD (.list ((List.range n).map f)) (.int (x : Nat)) = .ok (f x) := by
  have : atI ((List.range n).map f) (x : Int) = some (f x) := at_nat (by rw [List.getElem?_map, List.getElem?_range h]; rfl)
  rw [ix_l, this]
  rfl
/-! ### the object's attributes -/
theorem ob_fld (c : Nat) (bs : List Bx) (w h : Nat) : fldD (c : Int) "screen" (obD c bs w h) = .ok (scrD w h) ∧ fldD (c : Int) "_rows" (obD c bs w h) = .ok (.list ((List.range h).map (rowV bs w))) ∧ fldD (c : Int) "_sums" (obD c bs w h) = .ok (.list ((List.range (h + 1)).map (sumV bs w))) := by
  refine ⟨?_, ?_, ?_⟩ <;> (unfold fldD obD; simp only [if_pos]; rfl)
theorem ob_is (c : Nat) (m : Str) (bs : List Bx) (w h : Nat) (hm : lkD [(.str "screen", scrD w h), (.str "_rows", .list ((List.range h).map (rowV bs w))), (.str "_sums", .list ((List.range (h + 1)).map (sumV bs w)))] (.str m) = none) : isC (c : Int) m (obD c bs w h) = true := by
  unfold isC obD
  simp only [hm, decide_true, Option.isNone_none, Bool.and_true]
theorem ob_many (c : Nat) (bs : List Bx) (w h : Nat) : isC (c : Int) "many" (obD c bs w h) = true := ob_is c _ bs w h rfl
theorem ob_all (c : Nat) (bs : List Bx) (w h : Nat) : isC (c : Int) "all_boxes" (obD c bs w h) = true := ob_is c _ bs w h rfl
theorem ob_one (c : Nat) (bs : List Bx) (w h : Nat) : isC (c : Int) "is_one" (obD c bs w h) = true := ob_is c _ bs w h rfl
abbrev obC (bs : List Bx) (w h : Nat) : PyData := obD (VS.Cl.f "Cells") bs w h
theorem ev_mth {c : Int} {m : Str} {fo : Dl → Re PyData} {fs : Dl → Re (List PyData)} {g : List Sl → Re PyData} {δ : Dl} {o : PyData} {ds : List PyData} (h1 : fo δ = .ok o) (h2 : isC c m o = true) (h3 : fs δ = .ok ds) : dMth c m fo fs g δ = g ((o :: ds).map .sh) := by
  unfold dMth
  rw [h1, bnd_ok, if_pos h2, h3, bnd_ok]
/-- a box of naturals -/
abbrev nB (l t w h : Nat) : Bx := ((l : Int), (t : Int), (w : Int), (h : Int))
theorem s_many (k : Nat) (bs : List Bx) {W H l t w h : Nat} (hl : l + w ≤ W) (ht : t + h ≤ H) : den (k + 1) I_Cells_many [.sh (obC bs W H), .sh (bxD (nB l t w h))] = .ok (.int (cnt bs l t w h : Nat)) := by
  have e0 : den (k + 1) I_Cells_many [.sh (obC bs W H), .sh (bxD (nB l t w h))] = outR (b_8 VS.Cl.f (den k) [.sh (obC bs W H), .sh (bxD (nB l t w h)), .no, .no, .no, .no, .no, .no]) := den_Cells_many _ _
  obtain ⟨_, _, h3⟩ := ob_fld (VS.Cl.f "Cells") bs W H
  have a1 : (l : Int) + (w : Nat) = ((l + w : Nat) : Int) := by omega
  have a2 : (t : Int) + (h : Nat) = ((t + h : Nat) : Int) := by omega
  have r1 := ix_rng (sumV bs W) (H + 1) t (by omega)
  have r2 := ix_rng (sumV bs W) (H + 1) (t + h) (by omega)
  have c1 : ∀ y x : Nat, x ≤ W → ixD (sumV bs W y) (.int (x : Nat)) = .ok (.int (SS bs x y)) := fun y x hx => ix_rng (fun x => .int (SS bs x y)) (W + 1) x (by omega)
  have q1 := c1 t l (by omega)
  have q2 := c1 t (l + w) hl
  have q3 := c1 (t + h) l (by omega)
  have q4 := c1 (t + h) (l + w) hl
  have ce := cnt_eq bs l t h w
  rw [e0]
  simp only [b_8, ev_seq, ev_par, ev_argsMf, ev_argsM0, ev_d2, ev_d1, gS_zero, gS_succ, ev_k, bnd_ok, bx_0, bx_1, bx_2, bx_3, ev_addI, a1, a2, toS_ok, List.length_cons, List.length_nil, if_true, ev_bindM, ev_bindM0, List.set_cons_succ, List.set_cons_zero, rsb_nx, h3, r1, r2, ev_ret, q1, q2, q3, q4, ev_subI, outR_rt]
  rw [ce]
/-! ### all boxes so wide and so high -/
def rowB (W w h t : Nat) : List Bx := (List.range (W - w + 1)).map fun l => nB l t w h
def allB (W w h : Nat) : Nat → List Bx
  | 0 => []
  | t + 1 => allB W w h t ++ rowB W w h t
theorem allB_mem {W w h : Nat} (hw : w ≤ W) {b : Bx} : ∀ n : Nat, b ∈ allB W w h n ↔ ∃ l t : Nat, l + w ≤ W ∧ t < n ∧ b = nB l t w h
  | 0 => by
    constructor
    · intro m
      cases m
    · rintro ⟨_, _, _, h, _⟩
      omega
  | n + 1 => by
    unfold allB
    rw [List.mem_append, allB_mem hw n]
    unfold rowB
    rw [List.mem_map]
    constructor
    · rintro (⟨l, t, h1, h2, h3⟩ | ⟨l, hl, e⟩)
      · exact ⟨l, t, h1, by omega, h3⟩
      · rw [List.mem_range] at hl
        exact ⟨l, n, by omega, by omega, e.symm⟩
    · rintro ⟨l, t, h1, h2, h3⟩
      by_cases e : t = n
      · subst e
        exact .inr ⟨l, List.mem_range.mpr (by omega), h3.symm⟩
      · exact .inl ⟨l, t, h1, by omega, h3⟩
theorem rowB_len (W w h t : Nat) : (rowB W w h t).length = W - w + 1 := by simp [rowB]
theorem allB_len (W w h : Nat) : ∀ n : Nat, (allB W w h n).length = n * (W - w + 1)
  | 0 => by simp [allB]
  | n + 1 => by
    unfold allB
    rw [List.length_append, allB_len W w h n, rowB_len, Nat.succ_mul]
theorem allB_len' {W w h n : Nat} (hW : W ≤ 12) (hn : n ≤ 10) (hw : 1 ≤ w) : (allB W w h n).length ≤ 120 := by
  rw [allB_len]
  have : n * (W - w + 1) ≤ 10 * 12 := Nat.mul_le_mul hn (by omega)
  omega
def rowL : Dl → Re PyData := (lcD ([5]) (dAL (argsF [(d2 addD (d2 subD (d2 ixD (gS 0) (kC (.int 0))) (gS 1)) (kC (.int 1)))]) rng1D) (bN 5) yesT (dA (argsF [(gS 5), (gS 4), (gS 1), (gS 2)]) tupD))
theorem rowL_ev {W H w : Nat} (h t : Nat) (hW : W ≤ 12) (hw : w ≤ W) (s3 s5 : Sl) : rowL [.sh (scrD W H), .sh (.int (w : Nat)), .sh (.int (h : Nat)), s3, .sh (.int (t : Nat)), s5] = .ok (.list ((rowB W w h t).map bxD)) := by
  have hs : sizeLine = 16777216 := sz_line
  have er := rng1_n (W - w + 1) (by omega)
  have ei : (W : Int) - (w : Nat) + 1 = ((W - w + 1 : Nat) : Int) := by omega
  have ln : (nums (W - w + 1)).length ≤ sizeLine := by rw [nums_len]; omega
  have e1 : lcL (bN 5) yesT (dA (argsF [(gS 5), (gS 4), (gS 1), (gS 2)]) tupD) [.sh (scrD W H), .sh (.int (w : Nat)), .sh (.int (h : Nat)), s3, .sh (.int (t : Nat)), .no] (nums (W - w + 1)) = .ok ((rowB W w h t).map bxD) := by
    unfold rowB
    rw [List.map_map]
    exact lcL_all (fun i : Nat => PyData.int (0 + (i : Nat))) (fun l : Nat => bxD (nB l t w h)) _ fun i hi => ⟨_, rfl, by simp [bxD]⟩
  simp only [rowL, ev_lc, ev_dAL, ev_args, ev_args0, ev_d2, gS_zero, gS_succ, ev_k, bnd_ok, scr_0, ev_subI, ev_addI, ei, er, if_pos ln, ev_wipe, ev_wipe0, List.set_cons_succ, List.set_cons_zero, e1]
theorem s_law_all (k : Nat) {W H w h : Nat} (hW : W ≤ 12) (hH : H ≤ 10) (hw : 1 ≤ w ∧ w ≤ W) (hh : 1 ≤ h ∧ h ≤ H) : den (k + 1) I__law_all [.sh (scrD W H), .sh (.int (w : Nat)), .sh (.int (h : Nat))] = .ok (.list ((allB W w h (H - h + 1)).map bxD)) := by
  have hs : sizeLine = 16777216 := sz_line
  have e0 : den (k + 1) I__law_all [.sh (scrD W H), .sh (.int (w : Nat)), .sh (.int (h : Nat))] = outR (b_22 (den k) [.sh (scrD W H), .sh (.int (w : Nat)), .sh (.int (h : Nat)), .no, .no, .no]) := den__law_all _ _
  have er := rng1_n (H - h + 1) (by omega)
  have ei : (H : Int) - (h : Nat) + 1 = ((H - h + 1 : Nat) : Int) := by omega
  obtain ⟨δ', e, s4, s5, rfl⟩ := goS_inv0 (b := bN 4) (body := setS 3 (d2 addD (gS 3) rowL)) (ds := nums (H - h + 1)) (δ := [.sh (scrD W H), .sh (.int (w : Nat)), .sh (.int (h : Nat)), .sh (.list []), .no, .no])
    (fun j δ => ∃ s4 s5, δ = [.sh (scrD W H), .sh (.int (w : Nat)), .sh (.int (h : Nat)), .sh (.list ((allB W w h j).map bxD)), s4, s5]) ⟨.no, .no, rfl⟩ (by
    rintro j d δ hj ⟨s4, s5, rfl⟩
    obtain ⟨hjw, rfl⟩ := nums_at hj
    refine ⟨_, _, rfl, .inl ?_, .sh (.int (j : Nat)), s5, rfl⟩
    have lz := allB_len' (h := h) hW (show j ≤ 10 by omega) hw.1
    have lr := rowB_len W w h j
    have e2 : addD (.list ((allB W w h j).map bxD)) (.list ((rowB W w h j).map bxD)) = .ok (.list ((allB W w h (j + 1)).map bxD)) := by
      rw [ev_addL (by simp only [List.length_map]; omega), ← List.map_append]
      rfl
    have er := rowL_ev (H := H) h j hW hw.2 (.sh (.list ((allB W w h j).map bxD))) s5
    simp only [ev_set, ev_d2, List.set_cons_succ, List.set_cons_zero, gS_zero, gS_succ, bnd_ok, er, e2, toS_ok])
  rw [nums_len] at e
  have eb : b_22 (den k) = (seqS (setS 3 (dA (argsF []) lstD)) (seqS (forS (dAL (argsF [(d2 addD (d2 subD (d2 ixD (gS 0) (kC (.int 1))) (gS 2)) (kC (.int 1)))]) rng1D) (bN 4) (setS 3 (d2 addD (gS 3) rowL))) (retS (gS 3)))) := rfl
  rw [e0, eb]
  generalize setS 3 (d2 addD (gS 3) rowL) = body at e ⊢
  simp only [ev_seq, ev_set, ev_dA, ev_args0, bnd_ok, ev_lst0, toS_ok, List.set_cons_succ, List.set_cons_zero, rsb_nx, ev_for, ev_dAL, ev_args, ev_d2, gS_zero, gS_succ, ev_k, scr_1, ev_subI, ev_addI, ei, er, e, ev_ret, outR_rt]
def rowM : Dl → Re PyData := (lcD ([5]) (dAL (argsF [(d2 addD (d2 subD (d2 ixD (d1 (fldD ((VS.Cl.f "Cells" : Nat) : Int) "screen") (gS 0)) (kC (.int 0))) (gS 1)) (kC (.int 1)))]) rng1D) (bN 5) yesT (dA (argsF [(gS 5), (gS 4), (gS 1), (gS 2)]) tupD))
theorem rowM_ev (bs : List Bx) {W H w : Nat} (h t : Nat) (hW : W ≤ 12) (hw : w ≤ W) (s3 s5 : Sl) : rowM [.sh (obC bs W H), .sh (.int (w : Nat)), .sh (.int (h : Nat)), s3, .sh (.int (t : Nat)), s5] = .ok (.list ((rowB W w h t).map bxD)) := by
  have hs : sizeLine = 16777216 := sz_line
  obtain ⟨h1, _, _⟩ := ob_fld (VS.Cl.f "Cells") bs W H
  have er := rng1_n (W - w + 1) (by omega)
  have ei : (W : Int) - (w : Nat) + 1 = ((W - w + 1 : Nat) : Int) := by omega
  have ln : (nums (W - w + 1)).length ≤ sizeLine := by rw [nums_len]; omega
  have e1 : lcL (bN 5) yesT (dA (argsF [(gS 5), (gS 4), (gS 1), (gS 2)]) tupD) [.sh (obC bs W H), .sh (.int (w : Nat)), .sh (.int (h : Nat)), s3, .sh (.int (t : Nat)), .no] (nums (W - w + 1)) = .ok ((rowB W w h t).map bxD) := by
    unfold rowB
    rw [List.map_map]
    exact lcL_all (fun i : Nat => PyData.int (0 + (i : Nat))) (fun l : Nat => bxD (nB l t w h)) _ fun i hi => ⟨_, rfl, by simp [bxD]⟩
  simp only [rowM, ev_lc, ev_dAL, ev_args, ev_args0, ev_d2, ev_d1, gS_zero, gS_succ, ev_k, bnd_ok, h1, scr_0, ev_subI, ev_addI, ei, er, if_pos ln, ev_wipe, ev_wipe0, List.set_cons_succ, List.set_cons_zero, e1]
theorem s_all_boxes (k : Nat) (bs : List Bx) {W H w h : Nat} (hW : W ≤ 12) (hH : H ≤ 10) (hw : 1 ≤ w ∧ w ≤ W) (hh : 1 ≤ h ∧ h ≤ H) : den (k + 1) I_Cells_all_boxes [.sh (obC bs W H), .sh (.int (w : Nat)), .sh (.int (h : Nat))] = .ok (.list ((allB W w h (H - h + 1)).map bxD)) := by
  have hs : sizeLine = 16777216 := sz_line
  obtain ⟨h1, _, _⟩ := ob_fld (VS.Cl.f "Cells") bs W H
  have e0 : den (k + 1) I_Cells_all_boxes [.sh (obC bs W H), .sh (.int (w : Nat)), .sh (.int (h : Nat))] = outR (b_9 VS.Cl.f (den k) [.sh (obC bs W H), .sh (.int (w : Nat)), .sh (.int (h : Nat)), .no, .no, .no]) := den_Cells_all_boxes _ _
  have er := rng1_n (H - h + 1) (by omega)
  have ei : (H : Int) - (h : Nat) + 1 = ((H - h + 1 : Nat) : Int) := by omega
  obtain ⟨δ', e, s4, s5, rfl⟩ := goS_inv0 (b := bN 4) (body := extS 3 rowM) (ds := nums (H - h + 1)) (δ := [.sh (obC bs W H), .sh (.int (w : Nat)), .sh (.int (h : Nat)), .ow (.list []), .no, .no])
    (fun j δ => ∃ s4 s5, δ = [.sh (obC bs W H), .sh (.int (w : Nat)), .sh (.int (h : Nat)), .ow (.list ((allB W w h j).map bxD)), s4, s5]) ⟨.no, .no, rfl⟩ (by
    rintro j d δ hj ⟨s4, s5, rfl⟩
    obtain ⟨hjw, rfl⟩ := nums_at hj
    refine ⟨_, _, rfl, .inl ?_, .sh (.int (j : Nat)), s5, rfl⟩
    have lz := allB_len' (h := h) hW (show j ≤ 10 by omega) hw.1
    have lr := rowB_len W w h j
    have er := rowM_ev bs (H := H) h j hW hw.2 (.ow (.list ((allB W w h j).map bxD))) s5
    simp only [List.set_cons_succ, List.set_cons_zero]
    rw [ev_ext (xs := (allB W w h j).map bxD) (ds := (rowB W w h j).map bxD) (d := .list ((rowB W w h j).map bxD)) rfl er (.inl rfl) (by simp only [List.length_map]; omega), ← List.map_append]
    rfl)
  rw [nums_len] at e
  have eb : b_9 VS.Cl.f (den k) = (seqS (setO 3 (dA (argsF []) lstD)) (seqS (forS (dAL (argsF [(d2 addD (d2 subD (d2 ixD (d1 (fldD ((VS.Cl.f "Cells" : Nat) : Int) "screen") (gS 0)) (kC (.int 1))) (gS 2)) (kC (.int 1)))]) rng1D) (bN 4) (extS 3 rowM)) (fun δ => (retS (gS 3)) (frzD 3 δ)))) := rfl
  have ef : ∀ xs : PyData, frzD 3 [.sh (obC bs W H), .sh (.int (w : Nat)), .sh (.int (h : Nat)), .ow xs, s4, s5] = [.sh (obC bs W H), .sh (.int (w : Nat)), .sh (.int (h : Nat)), .sh xs, s4, s5] := fun _ => rfl
  rw [e0, eb]
  generalize extS 3 rowM = body at e ⊢
  simp only [ev_seq, ev_setO, ev_dA, ev_args0, bnd_ok, ev_lst0, toS_ok, List.set_cons_succ, List.set_cons_zero, rsb_nx, ev_for, ev_dAL, ev_args, ev_d2, ev_d1, gS_zero, gS_succ, ev_k, h1, scr_1, ev_subI, ev_addI, ei, er, e, ef, ev_ret, outR_rt]
/-! ### covered cells -/
theorem nB_ok {W H l t w h : Nat} (hl : l + w ≤ W) (ht : t + h ≤ H) (hw : 1 ≤ w) (hh : 1 ≤ h) : OkB W H (nB l t w h) := by
  constructor <;> simp only <;> omega
theorem s_own (k : Nat) {W H : Nat} {bs : List Bx} (o : OkL W H bs) {l t w h : Nat} (hl : l + w ≤ W) (ht : t + h ≤ H) (hw : 1 ≤ w) (hh : 1 ≤ h) : den (k + 5) I_check_own [.sh (scrD W H), .sh (lyD bs), .sh (bxD (nB l t w h))] = .ok .none := by
  have e0 : den (k + 4 + 1) I_check_own [.sh (scrD W H), .sh (lyD bs), .sh (bxD (nB l t w h))] = outR (b_4 (den (k + 4)) [.sh (scrD W H), .sh (lyD bs), .sh (bxD (nB l t w h))]) := den_check_own _ _
  have e1 := s_check k o
  have e2 := s_lies_on (k + 2) (by have := o.w2; omega) (by have := o.h2; omega) (nB_ok hl ht hw hh)
  show den (k + 4 + 1) I_check_own _ = _
  rw [e0]
  simp only [b_4, ev_seq, ev_drop, ev_dA, ev_args, ev_args0, gS_zero, gS_succ, bnd_ok, ev_cD, List.map_cons, List.map_nil, e1, toS_ok, rsb_nx, ev_if, ev_tNot, ev_tB1, e2, ev_asB, Bool.not_true, if_neg Bool.false_ne_true, ev_nx, outR_nx]
theorem s_covered (k : Nat) {W H : Nat} {bs : List Bx} (o : OkL W H bs) {l t w h : Nat} (hl : l + w ≤ W) (ht : t + h ≤ H) (hw : 1 ≤ w) (hh : 1 ≤ h) : den (k + 6) I_covered_cells [.sh (scrD W H), .sh (lyD bs), .sh (bxD (nB l t w h))] = .ok (.int (cnt bs l t w h : Nat)) := by
  have e0 : den (k + 5 + 1) I_covered_cells [.sh (scrD W H), .sh (lyD bs), .sh (bxD (nB l t w h))] = outR (b_11 VS.Cl.f (den (k + 5)) (dnn VS.Cl.f (k + 5)) [.sh (scrD W H), .sh (lyD bs), .sh (bxD (nB l t w h))]) := den_covered_cells _ _
  have e1 := s_own k o hl ht hw hh
  have e2 := s_mk (k + 2) (w := W) (h := H) (bs := bs) (by have := o.w2; omega) (by have := o.h2; omega)
  have e3 := s_many (k + 4) bs (W := W) (H := H) hl ht
  show den (k + 5 + 1) I_covered_cells _ = _
  have em : dMth ((VS.Cl.f "Cells" : Nat) : Int) "many" (dA (argsF [(gS 0), (gS 1)]) (mkC (dnn VS.Cl.f (k + 5) I_Cells___init__))) (argsF [(gS 2)]) (den (k + 5) I_Cells_many) [.sh (scrD W H), .sh (lyD bs), .sh (bxD (nB l t w h))] = .ok (.int (cnt bs l t w h : Nat)) := by
    rw [ev_mth (o := obC bs W H) (ds := [bxD (nB l t w h)]) ?_ (ob_many _ _ _ _) rfl]
    · exact e3
    · simp only [ev_dA, ev_args, ev_args0, gS_zero, gS_succ, bnd_ok]
      exact e2
  rw [e0]
  simp only [b_11, ev_seq, ev_drop, ev_dA, ev_args, ev_args0, gS_zero, gS_succ, bnd_ok, ev_cD, List.map_cons, List.map_nil, e1, toS_ok, rsb_nx, ev_ret, em, outR_rt]
end KL
end
section
open PySem PySem.Spec PyProof.Rows L2 VS
namespace KL

/-! ### numbers in order -/
def sortI (xs : List Int) : List Int := xs.mergeSort fun a b => decide (a ≤ b)
theorem sortI_perm (xs : List Int) : (sortI xs).Perm xs := List.mergeSort_perm _ _
theorem sortI_mem {xs : List Int} {x : Int} : x ∈ sortI xs ↔ x ∈ xs := (sortI_perm xs).mem_iff
theorem sortI_len (xs : List Int) : (sortI xs).length = xs.length := (sortI_perm xs).length_eq
theorem sortI_pw (xs : List Int) : (sortI xs).Pairwise (· ≤ ·) := by
  have := List.pairwise_mergeSort (le := fun a b : Int => decide (a ≤ b)) (fun a b c => by simp only [decide_eq_true_eq]; omega) (fun a b => by simp only [Bool.or_eq_true, decide_eq_true_eq]; omega) xs
  exact this.imp fun h => by simpa using h
theorem sortI_lt {xs : List Int} (nd : xs.Nodup) : (sortI xs).Pairwise (· < ·) := by
  have h1 := sortI_pw xs
  have h2 : (sortI xs).Pairwise (· ≠ ·) := (sortI_perm xs).nodup_iff.mpr nd
  exact (h1.and h2).imp fun ⟨a, b⟩ => by omega
theorem sortI_eq {xs ys : List Int} (s : ys.Pairwise (· < ·)) (nd : xs.Nodup) (m : ∀ x, x ∈ ys ↔ x ∈ xs) : sortI xs = ys := by
  have nd2 : ys.Nodup := s.imp fun h => by omega
  have p : ys.Perm xs := (List.perm_ext_iff_of_nodup nd2 nd).mpr m
  refine List.Perm.eq_of_pairwise (le := fun a b : Int => a ≤ b) (fun a b _ _ h1 h2 => by omega) (sortI_pw xs) (s.imp fun h => by omega) ((sortI_perm xs).trans p.symm)
theorem sortL_int (xs : List Int) : sortL (xs.map .int) = (sortI xs).map .int := by
  unfold sortL sortI
  have := List.map_mergeSort (r := fun a b : Int => decide (a ≤ b)) (s := PySem.W.dataLe false id) (f := fun i : Int => (PyData.int i : PyData)) (l := xs) fun a _ b _ => by
    have e := congrFun (congrFun (PySem.W.dataLe_int (fun s : Int => s)) a) b
    exact e.symm
  exact this.symm
theorem sortOk_int (xs : List Int) (h : xs.length ≤ sizeLine) : sortOk (xs.map .int) = true := by
  unfold sortOk
  simp [h, PySem.W.alike, notTN]
theorem ev_sortI (xs : List Int) (h : xs.length ≤ sizeLine) : sortedD [.list (xs.map .int)] = .ok (.list ((sortI xs).map .int)) := by
  unfold sortedD
  simp only
  rw [if_pos (sortOk_int xs h), sortL_int]
/-! ### sets of numbers as the keys of a dict -/
def insI (ks : List Int) (k : Int) : List Int := if k ∈ ks then ks else ks ++ [k]
def unI (ks es : List Int) : List Int := es.foldl insI ks
theorem insI_mem {ks : List Int} {k x : Int} : x ∈ insI ks k ↔ x ∈ ks ∨ x = k := by
  unfold insI
  split
  · rename_i h
    constructor
    · exact .inl
    · rintro (m | rfl)
      · exact m
      · exact h
  · rw [List.mem_append, List.mem_singleton]
theorem insI_nodup {ks : List Int} (k : Int) (h : ks.Nodup) : (insI ks k).Nodup := by
  unfold insI
  split
  · exact h
  · rename_i n
    rw [List.nodup_append]
    refine ⟨h, by simp, fun a ha b hb e => ?_⟩
    rw [List.mem_singleton] at hb
    subst hb
    subst e
    exact n ha
theorem insI_len (ks : List Int) (k : Int) : (insI ks k).length ≤ ks.length + 1 := by
  unfold insI
  split <;> simp
theorem unI_mem {x : Int} : ∀ {es ks : List Int}, x ∈ unI ks es ↔ x ∈ ks ∨ x ∈ es
  | [], ks => by simp [unI]
  | e :: es, ks => by
    show x ∈ unI (insI ks e) es ↔ _
    rw [unI_mem, insI_mem, List.mem_cons, or_assoc]
theorem unI_nodup : ∀ (es : List Int) {ks : List Int}, ks.Nodup → (unI ks es).Nodup
  | [], ks, h => h
  | e :: es, ks, h => unI_nodup es (insI_nodup e h)
theorem unI_len : ∀ (es ks : List Int), (unI ks es).length ≤ ks.length + es.length
  | [], ks => by simp [unI]
  | e :: es, ks => by
    have h1 := unI_len es (insI ks e)
    have h2 := insI_len ks e
    show (unI (insI ks e) es).length ≤ _
    rw [List.length_cons]
    omega
def dkI (ks : List Int) : List (PyData × PyData) := ks.map fun i => (.int i, .bool true)
theorem dk_len (ks : List Int) : (dkI ks).length = ks.length := by simp [dkI]
theorem dk_isOb (ks : List Int) : isOb (dkI ks) = false := by cases ks <;> rfl
theorem dk_key (ks : List Int) : allKey (dkI ks) = true := by
  unfold allKey dkI
  rw [List.all_map, List.all_eq_true]
  intro x _
  rfl
theorem int_eqv (a b : Int) : PyData.eqv (.int a) (.int b) = decide (a = b) := by simp [PyData.eqv]; rw [Bool.eq_iff_iff]; simp
theorem put_dk (ks : List Int) (k : Int) : putD (dkI ks) (.int k) (.bool true) = dkI (insI ks k) := by
  unfold putD insI dkI
  have ea : ((ks.map fun i => ((PyData.int i : PyData), (PyData.bool true : PyData))).any fun p => PyData.eqv p.1 (.int k)) = decide (k ∈ ks) := by
    rw [List.any_map, Bool.eq_iff_iff, List.any_eq_true, decide_eq_true_eq]
    simp [int_eqv]
  rw [ea]
  by_cases h : k ∈ ks
  · rw [if_pos h, if_pos (decide_eq_true h), List.map_map]
    refine List.map_congr_left fun x hx => ?_
    simp only [Function.comp, int_eqv, decide_eq_true_eq]
    split
    · rename_i e
      rw [e]
    · rfl
  · rw [if_neg h, if_neg (by simpa using h), List.map_append]
    rfl
theorem merge_dk : ∀ (es ks : List Int), mergeD (dkI ks) (dkI es) = dkI (unI ks es)
  | [], ks => rfl
  | e :: es, ks => by
    show mergeD (putD (dkI ks) (.int e) (.bool true)) (dkI es) = dkI (unI (insI ks e) es)
    rw [put_dk, merge_dk]
theorem kfit_dk (ks : List Int) (k : Int) : kfit (dkI ks) (.int k) = true := by
  have := kfit_enc (α := Int) (β := Unit) (ke := .int) (ve := fun _ => .bool true) (b := false) (fun _ => rfl) (ks.map fun i => (i, ())) k
  have e : eKV (α := Int) (β := Unit) .int (fun _ => .bool true) (ks.map fun i => (i, ())) = dkI ks := by
    unfold eKV dkI
    rw [List.map_map]
    rfl
  rw [e] at this
  exact this
theorem sto_dk {i : Nat} {fk f : Dl → Re PyData} {δ : Dl} {ks : List Int} {k : Int} (h : δ[i]? = some (.ow (.dict (dkI ks)))) (hf : f δ = .ok (.bool true)) (hk : fk δ = .ok (.int k)) (hz : ks.length < sizeLine) :
    stoS i fk f δ = .nx (δ.set i (.ow (.dict (dkI (insI ks k))))) := by
  rw [ev_sto h hf hk (kfit_dk ks k) (by rw [dk_len]; exact hz), put_dk]
theorem upd_dk {i : Nat} {f : Dl → Re PyData} {δ : Dl} {ks es : List Int} (h : δ[i]? = some (.ow (.dict (dkI ks)))) (hf : f δ = .ok (.dict (dkI es))) (hz : ks.length + es.length ≤ sizeLine) :
    updA i f δ = .nx (δ.set i (.ow (.dict (dkI (unI ks es))))) := by
  unfold updA
  rw [h]
  simp only [dk_isOb, if_neg Bool.false_ne_true, hf, toS_ok]
  rw [if_pos ⟨dk_key _, dk_key _, by rw [dk_len, dk_len]; exact hz⟩, merge_dk]
theorem dcL_dk {b : Bd} {t : Dl → Re Bool} {fk fv : Dl → Re D} {δ : Dl} (p : Int → Bool) : ∀ (xs ks : List Int), (∀ x ∈ xs, ∃ δ1, b (.int x) δ = some δ1 ∧ t δ1 = .ok (p x) ∧ (p x = true → fk δ1 = .ok (.int x) ∧ fv δ1 = .ok (.bool true))) →
    dcL b t fk fv δ (xs.map .int) (dkI ks) = .ok (dkI (unI ks (xs.filter p)))
  | [], ks, _ => rfl
  | x :: xs, ks, h => by
    obtain ⟨δ1, e1, e2, e3⟩ := h x List.mem_cons_self
    have ih := fun ks => dcL_dk p xs ks fun y hy => h y (List.mem_cons_of_mem _ hy)
    rw [List.map_cons]
    unfold dcL
    simp only [e1, e2]
    cases hp : p x
    · have hn : nxR (Re.ok false) = Re.ok false := rfl
      rw [List.filter_cons_of_neg (by simp [hp]), hn, bnd_ok, if_neg Bool.false_ne_true]
      exact ih ks
    · obtain ⟨e4, e5⟩ := e3 hp
      have hn : nxR (Re.ok true) = Re.ok true := rfl
      have hn1 : nxR (Re.ok (PyData.int x)) = Re.ok (PyData.int x) := rfl
      have hn2 : nxR (Re.ok (PyData.bool true)) = Re.ok (PyData.bool true) := rfl
      have hk : kindK (PyData.int x) = some false := rfl
      rw [List.filter_cons_of_pos hp, hn, bnd_ok, if_pos rfl, e4, e5, hn1, bnd_ok, hn2, bnd_ok, if_pos hk, put_dk]
      exact ih (insI ks x)
theorem sort_dk (ks : List Int) (h : ks.length ≤ sizeLine) : sortedA [.dict (dkI ks)] = .ok (.list ((sortI ks).map .int)) := by
  have e : (dkI ks).map (·.1) = ks.map .int := by
    unfold dkI
    rw [List.map_map]
    rfl
  unfold sortedA
  simp only [e]
  rw [if_pos (sortOk_int ks h), sortL_int]
theorem disp_dk2 (f g : Dl → Re PyData) (δ : Dl) (a b : Int) (h1 : f δ = .ok (.int a)) (h2 : g δ = .ok (.int b)) : dispD [(f, kC (.bool true)), (g, kC (.bool true))] δ = .ok (.dict (dkI (unI [] [a, b]))) := by
  have e : prsF [(f, kC (.bool true)), (g, kC (.bool true))] δ = .ok (dkI [a, b]) := by
    simp [prsF, h1, h2, dkI]
  unfold dispD
  rw [e, bnd_ok, if_pos (dk_key _)]
  have := merge_dk [a, b] []
  rw [← this]
  rfl
end KL
end
section
open PySem PySem.Spec PyProof.Rows L2 VS
namespace KL
variable [VS.Cl]

/-! ### the lines by an axis -/
def bAx (a : Nat) (b : Bx) : Int := if a = 0 then b.1 else b.2.1
def bSz (a : Nat) (b : Bx) : Int := if a = 0 then b.2.2.1 else b.2.2.2
def scA (a : Nat) (W H : Int) : Int := if a = 0 then W else H
theorem ax2 {a : Nat} (h : a < 2) : a = 0 ∨ a = 1 := by omega
theorem bx_a {a : Nat} (h : a < 2) (b : Bx) : ixD (bxD b) (.int (a : Nat)) = .ok (.int (bAx a b)) := by
  rcases ax2 h with rfl | rfl
  · exact bx_0 b
  · exact bx_1 b
theorem bx_z {a : Nat} (h : a < 2) (b : Bx) : ixD (bxD b) (.int ((a : Nat) + 2)) = .ok (.int (bSz a b)) := by
  rcases ax2 h with rfl | rfl
  · exact bx_2 b
  · exact bx_3 b
theorem scr_a {a : Nat} (h : a < 2) (W H : Int) : ixD (scrD W H) (.int (a : Nat)) = .ok (.int (scA a W H)) := by
  rcases ax2 h with rfl | rfl
  · exact scr_0 W H
  · exact scr_1 W H
def isLine (a : Nat) (M : Int) (bs : List Bx) (x : Int) : Prop := x = 0 ∨ x = M ∨ ∃ b ∈ bs, x = bAx a b ∨ x = bAx a b + bSz a b
theorem isLine_app {a : Nat} {M : Int} {bs : List Bx} {b : Bx} {x : Int} : isLine a M (bs ++ [b]) x ↔ (isLine a M bs x ∨ x = bAx a b) ∨ x = bAx a b + bSz a b := by
  unfold isLine
  constructor
  · rintro (h | h | ⟨c, hc, h⟩)
    · exact .inl (.inl (.inl h))
    · exact .inl (.inl (.inr (.inl h)))
    · rw [List.mem_append, List.mem_singleton] at hc
      rcases hc with hc | rfl
      · exact .inl (.inl (.inr (.inr ⟨c, hc, h⟩)))
      · rcases h with h | h
        · exact .inl (.inr h)
        · exact .inr h
  · rintro (((h | h | ⟨c, hc, h⟩) | h) | h)
    · exact .inl h
    · exact .inr (.inl h)
    · exact .inr (.inr ⟨c, List.mem_append_left _ hc, h⟩)
    · exact .inr (.inr ⟨b, by simp, .inl h⟩)
    · exact .inr (.inr ⟨b, by simp, .inr h⟩)
def lnB : Dl → RS := (seqS (stoS 3 (d2 ixD (gS 4) (gS 2)) (kC (.bool true))) (stoS 3 (d2 addD (d2 ixD (gS 4) (gS 2)) (d2 ixD (gS 4) (d2 addD (gS 2) (kC (.int 2))))) (kC (.bool true))))
theorem lnB_ev {a : Nat} (ha : a < 2) (W H : Int) (bs : List Bx) (ks : List Int) (hk : ks.length ≤ 1000) (b : Bx) : lnB [.sh (scrD W H), .sh (lyD bs), .sh (.int (a : Nat)), .ow (.dict (dkI ks)), .sh (bxD b)] =
    .nx [.sh (scrD W H), .sh (lyD bs), .sh (.int (a : Nat)), .ow (.dict (dkI (insI (insI ks (bAx a b)) (bAx a b + bSz a b)))), .sh (bxD b)] := by
  have hs : sizeLine = 16777216 := sz_line
  have hl := insI_len ks (bAx a b)
  unfold lnB
  rw [ev_seq, sto_dk (i := 3) (ks := ks) (k := bAx a b) rfl rfl (by simp only [ev_d2, gS_succ, gS_zero, bnd_ok, bx_a ha]) (by omega)]
  simp only [rsb_nx, List.set_cons_succ, List.set_cons_zero]
  rw [sto_dk (i := 3) (ks := insI ks (bAx a b)) (k := bAx a b + bSz a b) rfl rfl (by simp only [ev_d2, gS_succ, gS_zero, bnd_ok, bx_a ha, ev_k, ev_addI, bx_z ha]) (by omega)]
  rfl
theorem s_lines (k : Nat) {W H : Int} {bs : List Bx} (hb : bs.length ≤ 6) {a : Nat} (ha : a < 2) : ∃ ks : List Int, ks.Nodup ∧ ks.length ≤ 14 ∧ (∀ x, x ∈ ks ↔ isLine a (scA a W H) bs x) ∧ den (k + 1) I_lines_by [.sh (scrD W H), .sh (lyD bs), .sh (.int (a : Nat))] = .ok (.list ((sortI ks).map .int)) := by
  have hs : sizeLine = 16777216 := sz_line
  have e0 : den (k + 1) I_lines_by [.sh (scrD W H), .sh (lyD bs), .sh (.int (a : Nat))] = outR (b_5 (den k) [.sh (scrD W H), .sh (lyD bs), .sh (.int (a : Nat)), .no, .no]) := den_lines_by _ _
  obtain ⟨δ', e, ks, s4, rfl, hn, hl, hm⟩ := goS_inv0 (b := bN 4) (body := lnB) (ds := bs.map bxD) (δ := [.sh (scrD W H), .sh (lyD bs), .sh (.int (a : Nat)), .ow (.dict (dkI (unI [] [0, scA a W H]))), .no])
    (fun j δ => ∃ ks s4, δ = [.sh (scrD W H), .sh (lyD bs), .sh (.int (a : Nat)), .ow (.dict (dkI ks)), s4] ∧ ks.Nodup ∧ ks.length ≤ 2 + 2 * j ∧ ∀ x, x ∈ ks ↔ isLine a (scA a W H) (bs.take j) x)
    ⟨_, .no, rfl, unI_nodup _ List.nodup_nil, by have := unI_len [0, scA a W H] []; simpa using this, fun x => by
      rw [unI_mem]
      simp [isLine]⟩ (by
    rintro j d δ hj ⟨ks, s4, rfl, hn, hl, hm⟩
    rw [List.getElem?_map] at hj
    obtain ⟨b, hb', rfl⟩ := Option.map_eq_some_iff.mp hj
    obtain ⟨hlt, _⟩ := List.getElem?_eq_some_iff.mp hb'
    have et : bs.take (j + 1) = bs.take j ++ [b] := by rw [List.take_add_one, hb']; rfl
    refine ⟨_, _, rfl, .inl (lnB_ev ha W H bs ks (by omega) b), _, _, rfl, insI_nodup _ (insI_nodup _ hn), ?_, fun x => ?_⟩
    · have h1 := insI_len ks (bAx a b)
      have h2 := insI_len (insI ks (bAx a b)) (bAx a b + bSz a b)
      omega
    · rw [insI_mem, insI_mem, hm x, et, isLine_app])
  rw [List.length_map] at hl hm
  rw [List.take_length] at hm
  refine ⟨ks, hn, by omega, hm, ?_⟩
  have eb : b_5 (den k) = (seqS (setO 3 (dispD [((kC (.int 0)), (kC (.bool true))), ((d2 ixD (gS 0) (gS 2)), (kC (.bool true)))])) (seqS (forS (d1L itemsD (gS 1)) (bN 4) lnB) (retS (dA (argsF [(gB 3)]) sortedA)))) := rfl
  have ed := disp_dk2 (kC (.int 0)) (d2 ixD (gS 0) (gS 2)) [.sh (scrD W H), .sh (lyD bs), .sh (.int (a : Nat)), .no, .no] 0 (scA a W H) rfl (by simp only [ev_d2, gS_succ, gS_zero, bnd_ok, scr_a ha])
  have ei : itemsD (lyD bs) = .ok (bs.map bxD) := rfl
  rw [e0, eb]
  generalize lnB = body at e ⊢
  simp only [ev_seq, ev_setO, ed, toS_ok, List.set_cons_succ, List.set_cons_zero, rsb_nx, ev_for, ev_d1L, gS_succ, gS_zero, bnd_ok, ei, e, ev_ret, ev_dA, ev_args, ev_args0, gB_succ, gB_zero', sort_dk ks (by omega), outR_rt]
/-! ### where a box can begin -/
def inR (M z x : Int) : Bool := decide (0 ≤ x) && decide (x ≤ M - z)
def bgB : Dl → RS := (updA 4 (dcAD ([6]) (d1L itemsD (dA (argsF [(gS 5), (d2 subD (gS 5) (gS 3))]) tupD)) (bN 6) (tB1 (chn leD leD (kC (.int 0)) (gS 6) (d2 subD (d2 ixD (gS 0) (gS 2)) (gS 3)))) (gS 6) (kC (.bool true))))
theorem bgB_ev {a : Nat} (ha : a < 2) (W H : Int) (bs : List Bx) (z : Int) (ks : List Int) (hk : ks.length ≤ 1000) (l : Int) (s6 : Sl) : bgB [.sh (scrD W H), .sh (lyD bs), .sh (.int (a : Nat)), .sh (.int z), .ow (.dict (dkI ks)), .sh (.int l), s6] =
    .nx [.sh (scrD W H), .sh (lyD bs), .sh (.int (a : Nat)), .sh (.int z), .ow (.dict (dkI (unI ks (unI [] ([l, l - z].filter (inR (scA a W H) z)))))), .sh (.int l), s6] := by
  have hs : sizeLine = 16777216 := sz_line
  have ec := dcL_dk (b := bN 6) (t := (tB1 (chn leD leD (kC (.int 0)) (gS 6) (d2 subD (d2 ixD (gS 0) (gS 2)) (gS 3))))) (fk := gS 6) (fv := kC (.bool true)) (δ := [.sh (scrD W H), .sh (lyD bs), .sh (.int (a : Nat)), .sh (.int z), .ow (.dict (dkI ks)), .sh (.int l), .no]) (inR (scA a W H) z) [l, l - z] [] fun x hx => by
    refine ⟨_, rfl, ?_, fun _ => ⟨rfl, rfl⟩⟩
    simp only [ev_tB1, ev_chn, ev_d2, ev_k, List.set_cons_succ, List.set_cons_zero, gS_succ, gS_zero, bnd_ok, ev_leI, ev_asB, scr_a ha, ev_subI]
    unfold inR
    cases decide (0 ≤ x) <;> simp
  have hl : (unI [] ([l, l - z].filter (inR (scA a W H) z))).length ≤ 2 := by
    have h1 := unI_len ([l, l - z].filter (inR (scA a W H) z)) []
    have h2 := List.length_filter_le (inR (scA a W H) z) [l, l - z]
    simp only [List.length_cons, List.length_nil] at h1 h2
    omega
  have l2 : ([PyData.int l, .int (l - z)]).length ≤ sizeLine := by simp only [List.length_cons, List.length_nil]; omega
  have ed : dcAD ([6]) (d1L itemsD (dA (argsF [(gS 5), (d2 subD (gS 5) (gS 3))]) tupD)) (bN 6) (tB1 (chn leD leD (kC (.int 0)) (gS 6) (d2 subD (d2 ixD (gS 0) (gS 2)) (gS 3)))) (gS 6) (kC (.bool true)) [.sh (scrD W H), .sh (lyD bs), .sh (.int (a : Nat)), .sh (.int z), .ow (.dict (dkI ks)), .sh (.int l), s6] = .ok (.dict (dkI (unI [] ([l, l - z].filter (inR (scA a W H) z))))) := by
    refine dcA_K ?_
    have e0 : dkI [] = [] := rfl
    simp only [List.map_cons, List.map_nil, e0] at ec
    simp only [ev_dc, ev_d1L, ev_dA, ev_args, ev_args0, ev_d2, gS_succ, gS_zero, bnd_ok, ev_subI, ev_tup2, ev_items_t, if_pos l2, ev_wipe, ev_wipe0, List.set_cons_succ, List.set_cons_zero, ec]
  unfold bgB
  rw [upd_dk (i := 4) (ks := ks) (es := unI [] ([l, l - z].filter (inR (scA a W H) z))) rfl ed (by omega)]
  rfl
theorem s_begins (k : Nat) {W H : Int} {bs : List Bx} (hb : bs.length ≤ 6) {a : Nat} (ha : a < 2) (z : Int) : ∃ ks : List Int, ks.length ≤ 28 ∧ (∀ x, x ∈ ks ↔ (0 ≤ x ∧ x ≤ scA a W H - z) ∧ (isLine a (scA a W H) bs x ∨ isLine a (scA a W H) bs (x + z))) ∧ den (k + 2) I__begins [.sh (scrD W H), .sh (lyD bs), .sh (.int (a : Nat)), .sh (.int z)] = .ok (.list (ks.map .int)) := by
  have hs : sizeLine = 16777216 := sz_line
  obtain ⟨ls, _, ll, lm, el⟩ := s_lines k (W := W) (H := H) hb ha
  have e0 : den (k + 1 + 1) I__begins [.sh (scrD W H), .sh (lyD bs), .sh (.int (a : Nat)), .sh (.int z)] = outR (b_13 (den (k + 1)) [.sh (scrD W H), .sh (lyD bs), .sh (.int (a : Nat)), .sh (.int z), .no, .no, .no]) := den__begins _ _
  have llen := sortI_len ls
  obtain ⟨δ', e, ks, s5, s6, rfl, hl, hm⟩ := goS_inv0 (b := bN 5) (body := bgB) (ds := (sortI ls).map .int) (δ := [.sh (scrD W H), .sh (lyD bs), .sh (.int (a : Nat)), .sh (.int z), .ow (.dict (dkI [])), .no, .no])
    (fun j δ => ∃ ks s5 s6, δ = [.sh (scrD W H), .sh (lyD bs), .sh (.int (a : Nat)), .sh (.int z), .ow (.dict (dkI ks)), s5, s6] ∧ ks.length ≤ 2 * j ∧ ∀ x, x ∈ ks ↔ (0 ≤ x ∧ x ≤ scA a W H - z) ∧ ∃ l ∈ (sortI ls).take j, x = l ∨ x = l - z)
    ⟨[], .no, .no, rfl, by simp, fun x => by simp⟩ (by
    rintro j d δ hj ⟨ks, s5, s6, rfl, hl, hm⟩
    rw [List.getElem?_map] at hj
    obtain ⟨l, hl', rfl⟩ := Option.map_eq_some_iff.mp hj
    obtain ⟨hlt, _⟩ := List.getElem?_eq_some_iff.mp hl'
    have et : (sortI ls).take (j + 1) = (sortI ls).take j ++ [l] := by rw [List.take_add_one, hl']; rfl
    refine ⟨_, _, rfl, .inl (bgB_ev ha W H bs z ks (by omega) l s6), _, _, _, rfl, ?_, fun x => ?_⟩
    · have h1 := unI_len ([l, l - z].filter (inR (scA a W H) z)) []
      have h2 := List.length_filter_le (inR (scA a W H) z) [l, l - z]
      have h3 := unI_len (unI [] ([l, l - z].filter (inR (scA a W H) z))) ks
      simp only [List.length_cons, List.length_nil] at h1 h2
      omega
    · rw [unI_mem, unI_mem, hm x, et, List.mem_filter]
      have hp : inR (scA a W H) z x = true ↔ 0 ≤ x ∧ x ≤ scA a W H - z := by unfold inR; simp
      rw [hp]
      constructor
      · rintro (⟨h1, l', hl', h2⟩ | h | ⟨h1, h2⟩)
        · exact ⟨h1, l', List.mem_append_left _ hl', h2⟩
        · cases h
        · exact ⟨h2, l, by simp, by simpa using h1⟩
      · rintro ⟨h1, l', hl', h2⟩
        rw [List.mem_append, List.mem_singleton] at hl'
        rcases hl' with hl' | rfl
        · exact .inl ⟨h1, l', hl', h2⟩
        · exact .inr (.inr ⟨by simpa using h2, h1⟩))
  rw [List.length_map] at hl hm
  rw [List.take_length] at hm
  refine ⟨sortI ks, by rw [sortI_len]; omega, fun x => ?_, ?_⟩
  · rw [sortI_mem, hm x]
    constructor
    · rintro ⟨h1, l, hl, h2⟩
      rw [sortI_mem, lm l] at hl
      rcases h2 with rfl | rfl
      · exact ⟨h1, .inl hl⟩
      · exact ⟨h1, .inr (by rw [show l - z + z = l by omega]; exact hl)⟩
    · rintro ⟨h1, h2 | h2⟩
      · exact ⟨h1, x, by rw [sortI_mem, lm x]; exact h2, .inl rfl⟩
      · exact ⟨h1, x + z, by rw [sortI_mem, lm (x + z)]; exact h2, .inr (by omega)⟩
  · have eb : b_13 (den (k + 1)) = (seqS (setO 4 (kC (.dict []))) (seqS (forS (d1L itemsD (dA (argsF [(gS 0), (gS 1), (gS 2)]) (cD (den (k + 1) I_lines_by)))) (bN 5) bgB) (retS (dA (argsF [(gB 4)]) sortedA)))) := rfl
    have ed : dkI [] = [] := rfl
    rw [ed] at e
    show den (k + 1 + 1) I__begins _ = _
    rw [e0, eb]
    generalize bgB = body at e ⊢
    simp only [ev_seq, ev_setO, ev_k, toS_ok, List.set_cons_succ, List.set_cons_zero, rsb_nx, ev_for, ev_d1L, ev_dA, ev_args, ev_args0, gS_succ, gS_zero, bnd_ok, ev_cD, List.map_cons, List.map_nil, el, ev_items_l, e, ev_ret, gB_succ, gB_zero', sort_dk ks (by omega), outR_rt]
end KL
end
section
open PySem PySem.Spec PyProof.Rows L2 VS
namespace KL
variable [VS.Cl]

/-! ### the least lies at lines -/
def ltQ (c t l c' t' l' : Nat) : Prop := c < c' ∨ (c = c' ∧ (t < t' ∨ (t = t' ∧ l < l')))
structure IsL (bs : List Bx) (W H w h l t : Nat) : Prop where
  r : l + w ≤ W
  d : t + h ≤ H
  mn : ∀ l' t', l' + w ≤ W → t' + h ≤ H → ¬ ltQ (cnt bs l' t' w h) t' l' (cnt bs l t w h) t l
theorem IsL.uniq {bs : List Bx} {W H w h l t l' t' : Nat} (a : IsL bs W H w h l t) (b : IsL bs W H w h l' t') : l = l' ∧ t = t' := by
  have h1 := a.mn l' t' b.r b.d
  have h2 := b.mn l t a.r a.d
  unfold ltQ at h1 h2
  omega
theorem cov_x {bs : List Bx} {M : Int} {a : Nat} (h : ¬ isLine 0 M bs ((a + 1 : Nat) : Int)) (y : Int) : covN bs (a : Nat) y = covN bs ((a + 1 : Nat) : Int) y := by
  unfold covN
  rw [Bool.eq_iff_iff, List.any_eq_true, List.any_eq_true]
  refine exists_congr fun b => and_congr_right fun hb => ?_
  have h1 : ¬ (((a + 1 : Nat) : Int) = b.1) := fun e => h (.inr (.inr ⟨b, hb, .inl e⟩))
  have h2 : ¬ (((a + 1 : Nat) : Int) = b.1 + b.2.2.1) := fun e => h (.inr (.inr ⟨b, hb, .inr e⟩))
  rw [inB_iff, inB_iff]
  omega
theorem cov_y {bs : List Bx} {M : Int} {a : Nat} (h : ¬ isLine 1 M bs ((a + 1 : Nat) : Int)) (x : Int) : covN bs x (a : Nat) = covN bs x ((a + 1 : Nat) : Int) := by
  unfold covN
  rw [Bool.eq_iff_iff, List.any_eq_true, List.any_eq_true]
  refine exists_congr fun b => and_congr_right fun hb => ?_
  have h1 : ¬ (((a + 1 : Nat) : Int) = b.2.1) := fun e => h (.inr (.inr ⟨b, hb, .inl e⟩))
  have h2 : ¬ (((a + 1 : Nat) : Int) = b.2.1 + b.2.2.2) := fun e => h (.inr (.inr ⟨b, hb, .inr e⟩))
  rw [inB_iff, inB_iff]
  omega
theorem CS_x {bs : List Bx} {M : Int} {a : Nat} (h : ¬ isLine 0 M bs ((a + 1 : Nat) : Int)) : ∀ y : Nat, CS bs a y = CS bs (a + 1) y
  | 0 => rfl
  | y + 1 => by
    show CS bs a y + bI (covN bs (a : Nat) (y : Nat)) = CS bs (a + 1) y + bI (covN bs ((a + 1 : Nat) : Int) (y : Nat))
    rw [CS_x h y, cov_x h]
theorem RS_y {bs : List Bx} {M : Int} {a : Nat} (h : ¬ isLine 1 M bs ((a + 1 : Nat) : Int)) : ∀ x : Nat, RS1 bs a x = RS1 bs (a + 1) x
  | 0 => rfl
  | x + 1 => by
    show RS1 bs a x + bI (covN bs (x : Nat) (a : Nat)) = RS1 bs (a + 1) x + bI (covN bs (x : Nat) ((a + 1 : Nat) : Int))
    rw [RS_y h x, cov_y h]
theorem SS_x2 {bs : List Bx} {M : Int} {a : Nat} (h : ¬ isLine 0 M bs ((a + 1 : Nat) : Int)) (y : Nat) : SS bs (a + 2) y + SS bs a y = 2 * SS bs (a + 1) y := by
  have h1 := SS_x bs a y
  have h2 := SS_x bs (a + 1) y
  have h3 := CS_x h y
  have e : a + 1 + 1 = a + 2 := rfl
  rw [e] at h2
  omega
theorem SS_y2 {bs : List Bx} {M : Int} {a : Nat} (h : ¬ isLine 1 M bs ((a + 1 : Nat) : Int)) (x : Nat) : SS bs x (a + 2) + SS bs x a = 2 * SS bs x (a + 1) := by
  have h1 : SS bs x (a + 1) = SS bs x a + RS1 bs a x := rfl
  have h2 : SS bs x (a + 2) = SS bs x (a + 1) + RS1 bs (a + 1) x := rfl
  have h3 := RS_y h x
  omega
theorem IsL.x {bs : List Bx} {W H w h l t : Nat} (q : IsL bs W H w h l t) : isLine 0 W bs (l : Nat) ∨ isLine 0 W bs ((l : Int) + (w : Nat)) := by
  refine Classical.byContradiction fun no => ?_
  have n1 : ¬ isLine 0 W bs (l : Nat) := fun h => no (.inl h)
  have n2 : ¬ isLine 0 W bs ((l + w : Nat) : Int) := fun h => no (.inr (by rw [Int.natCast_add] at h; exact h))
  have hr := q.r
  have hl : 1 ≤ l := by
    by_cases e : l = 0
    · exact (n1 (.inl (by omega))).elim
    · omega
  have hw : l + w < W := by
    by_cases e : l + w = W
    · exact (n2 (.inr (.inl (by omega)))).elim
    · omega
  obtain ⟨a, rfl⟩ : ∃ a, l = a + 1 := ⟨l - 1, by omega⟩
  have e1 := SS_x2 n1
  have ew : a + 1 + w = (a + w) + 1 := by omega
  have e2 := SS_x2 (a := a + w) (by rw [ew] at n2; exact n2)
  have c0 := cnt_eq bs a t h w
  have c1 := cnt_eq bs (a + 1) t h w
  have c2 := cnt_eq bs (a + 2) t h w
  have ew2 : a + 2 + w = (a + w) + 2 := by omega
  rw [ew] at c1
  rw [ew2] at c2
  have f1 := e1 t
  have f2 := e1 (t + h)
  have f3 := e2 t
  have f4 := e2 (t + h)
  have m0 := q.mn a t (by omega) q.d
  have m2 := q.mn (a + 2) t (by omega) q.d
  unfold ltQ at m0 m2
  omega
theorem IsL.y {bs : List Bx} {W H w h l t : Nat} (q : IsL bs W H w h l t) : isLine 1 H bs (t : Nat) ∨ isLine 1 H bs ((t : Int) + (h : Nat)) := by
  refine Classical.byContradiction fun no => ?_
  have n1 : ¬ isLine 1 H bs (t : Nat) := fun h => no (.inl h)
  have n2 : ¬ isLine 1 H bs ((t + h : Nat) : Int) := fun h => no (.inr (by rw [Int.natCast_add] at h; exact h))
  have hr := q.d
  have hl : 1 ≤ t := by
    by_cases e : t = 0
    · exact (n1 (.inl (by omega))).elim
    · omega
  have hw : t + h < H := by
    by_cases e : t + h = H
    · exact (n2 (.inr (.inl (by omega)))).elim
    · omega
  obtain ⟨a, rfl⟩ : ∃ a, t = a + 1 := ⟨t - 1, by omega⟩
  have e1 := SS_y2 n1
  have ew : a + 1 + h = (a + h) + 1 := by omega
  have e2 := SS_y2 (a := a + h) (by rw [ew] at n2; exact n2)
  have c0 := cnt_eq bs l a h w
  have c1 := cnt_eq bs l (a + 1) h w
  have c2 := cnt_eq bs l (a + 2) h w
  have ew2 : a + 2 + h = (a + h) + 2 := by omega
  rw [ew] at c1
  rw [ew2] at c2
  have f1 := e1 l
  have f2 := e1 (l + w)
  have f3 := e2 l
  have f4 := e2 (l + w)
  have m0 := q.mn l a q.r (by omega)
  have m2 := q.mn l (a + 2) q.r (by omega)
  unfold ltQ at m0 m2
  omega
/-! ### the least of rows -/
theorem minD_key {α : Type} (enc : α → PyData) (key : α → List Int) (h : ∀ a b, PySem.W.dataLt (enc a) (enc b) = decide (key a < key b)) : ∀ (xs : List α) (x : α),
    ∃ m ∈ x :: xs, PySem.W.minD (enc x) (xs.map enc) = enc m ∧ ∀ a ∈ x :: xs, ¬ key a < key m
  | [], x => ⟨x, List.mem_cons_self, rfl, fun a ha => by
    have : a = x := by simpa using ha
    subst this
    exact List.lt_irrefl _⟩
  | y :: ys, x => by
    by_cases c : key y < key x
    · obtain ⟨m, hm, e, hl⟩ := minD_key enc key h ys y
      refine ⟨m, List.mem_cons_of_mem _ hm, ?_, fun a ha => ?_⟩
      · unfold PySem.W.minD at e ⊢
        rw [List.map_cons, List.foldl_cons, h y x, decide_eq_true c, if_pos rfl]
        exact e
      · rcases List.mem_cons.mp ha with e1 | ha
        · subst e1
          intro z
          exact hl y List.mem_cons_self (List.lt_trans c z)
        · exact hl a ha
    · obtain ⟨m, hm, e, hl⟩ := minD_key enc key h ys x
      refine ⟨m, ?_, ?_, fun a ha => ?_⟩
      · rcases List.mem_cons.mp hm with e1 | hm
        · subst e1; exact List.mem_cons_self
        · exact List.mem_cons_of_mem _ (List.mem_cons_of_mem _ hm)
      · unfold PySem.W.minD at e ⊢
        rw [List.map_cons, List.foldl_cons, h y x, decide_eq_false c, if_neg Bool.false_ne_true]
        exact e
      · rcases List.mem_cons.mp ha with e1 | ha
        · subst e1; exact hl a List.mem_cons_self
        · rcases List.mem_cons.mp ha with e1 | ha
          · subst e1
            intro z
            have c1 : key x ≤ key a := c
            exact hl x List.mem_cons_self (List.lt_of_le_of_lt c1 z)
          · exact hl a (List.mem_cons_of_mem _ ha)
abbrev Q3 := Nat × Nat × Nat
def q3D (q : Q3) : PyData := .tuple [.int (q.1 : Nat), .int (q.2.1 : Nat), .int (q.2.2 : Nat)]
def q3K (q : Q3) : List Int := [(q.1 : Nat), (q.2.1 : Nat), (q.2.2 : Nat)]
theorem q3_lt (q r : Q3) : PySem.W.dataLt (q3D q) (q3D r) = decide (q3K q < q3K r) := by
  unfold q3D q3K
  rw [PySem.W.dataLt_tuple]
  exact PySem.W.dataLt_ints [(q.1 : Nat), (q.2.1 : Nat), (q.2.2 : Nat)] [(r.1 : Nat), (r.2.1 : Nat), (r.2.2 : Nat)]
theorem q3_iff (q r : Q3) : q3K q < q3K r ↔ ltQ q.1 q.2.1 q.2.2 r.1 r.2.1 r.2.2 := by
  unfold q3K ltQ
  simp [List.cons_lt_cons_iff]
  omega
theorem q3_ok (l : List Q3) : okMM (l.map q3D) = true := by
  unfold okMM
  simp only [Bool.and_eq_true, List.all_eq_true]
  refine ⟨⟨?_, ?_⟩, ?_⟩
  · intro a ha b hb
    obtain ⟨x, _, rfl⟩ := List.mem_map.mp ha
    obtain ⟨y, _, rfl⟩ := List.mem_map.mp hb
    simp [q3D, PySem.W.alike, PySem.W.alikeAll]
  · intro a ha
    obtain ⟨x, _, rfl⟩ := List.mem_map.mp ha
    rfl
  · intro a ha
    obtain ⟨x, _, rfl⟩ := List.mem_map.mp ha
    simp [q3D]
theorem ev_min3 (l : List Q3) (h : l ≠ []) : ∃ m ∈ l, minL [.list (l.map q3D)] = .ok (q3D m) ∧ ∀ a ∈ l, ¬ ltQ a.1 a.2.1 a.2.2 m.1 m.2.1 m.2.2 := by
  match l, h with
  | x :: xs, _ =>
    obtain ⟨m, hm, e, hl⟩ := minD_key q3D q3K q3_lt xs x
    refine ⟨m, hm, ?_, fun a ha z => hl a ha ((q3_iff a m).mpr z)⟩
    have ok := q3_ok (x :: xs)
    rw [List.map_cons] at ok ⊢
    show (if okMM (q3D x :: xs.map q3D) = true then Re.ok (PySem.W.minD (q3D x) (xs.map q3D)) else .no) = _
    rw [if_pos ok, e]
/-- the row of a place -/
abbrev rowQ (bs : List Bx) (w h l t : Nat) : Q3 := (cnt bs l t w h, t, l)
theorem isL_of {bs : List Bx} {W H w h : Nat} {rows : List Q3} {m : Q3} (sub : ∀ q ∈ rows, ∃ l t : Nat, l + w ≤ W ∧ t + h ≤ H ∧ q = rowQ bs w h l t) (all : ∀ l t : Nat, l + w ≤ W → t + h ≤ H → rowQ bs w h l t ∈ rows)
    (hm : m ∈ rows) (hl : ∀ a ∈ rows, ¬ ltQ a.1 a.2.1 a.2.2 m.1 m.2.1 m.2.2) : ∃ l t, IsL bs W H w h l t ∧ m = rowQ bs w h l t := by
  obtain ⟨l, t, h1, h2, rfl⟩ := sub m hm
  exact ⟨l, t, ⟨h1, h2, fun l' t' h3 h4 => hl _ (all l' t' h3 h4)⟩, rfl⟩
/-- there is a least place -/
theorem isL_ex (bs : List Bx) {W H w h : Nat} (hw : w ≤ W) (hh : h ≤ H) : ∃ l t, IsL bs W H w h l t := by
  let rows : List Q3 := (List.range (H - h + 1)).flatMap fun t => (List.range (W - w + 1)).map fun l => rowQ bs w h l t
  have all : ∀ l t : Nat, l + w ≤ W → t + h ≤ H → rowQ bs w h l t ∈ rows := fun l t h1 h2 => by
    rw [List.mem_flatMap]
    exact ⟨t, List.mem_range.mpr (by omega), List.mem_map.mpr ⟨l, List.mem_range.mpr (by omega), rfl⟩⟩
  have sub : ∀ q ∈ rows, ∃ l t : Nat, l + w ≤ W ∧ t + h ≤ H ∧ q = rowQ bs w h l t := fun q hq => by
    rw [List.mem_flatMap] at hq
    obtain ⟨t, ht, hq⟩ := hq
    obtain ⟨l, hl, rfl⟩ := List.mem_map.mp hq
    rw [List.mem_range] at ht hl
    exact ⟨l, t, by omega, by omega, rfl⟩
  obtain ⟨m, hm, _, hl⟩ := ev_min3 rows (List.ne_nil_of_mem (all 0 0 (by omega) (by omega)))
  obtain ⟨l, t, q, _⟩ := isL_of sub all hm hl
  exact ⟨l, t, q⟩
/-- rows at lines hold the least -/
theorem isL_lines {bs : List Bx} {W H w h : Nat} (hw : w ≤ W) (hh : h ≤ H) {rows : List Q3} {m : Q3} (sub : ∀ q ∈ rows, ∃ l t : Nat, l + w ≤ W ∧ t + h ≤ H ∧ q = rowQ bs w h l t)
    (all : ∀ l t : Nat, l + w ≤ W → t + h ≤ H → (isLine 0 W bs (l : Nat) ∨ isLine 0 W bs ((l : Int) + (w : Nat))) → (isLine 1 H bs (t : Nat) ∨ isLine 1 H bs ((t : Int) + (h : Nat))) → rowQ bs w h l t ∈ rows)
    (hm : m ∈ rows) (hl : ∀ a ∈ rows, ¬ ltQ a.1 a.2.1 a.2.2 m.1 m.2.1 m.2.2) : ∃ l t, IsL bs W H w h l t ∧ m = rowQ bs w h l t := by
  obtain ⟨l0, t0, q0⟩ := isL_ex bs hw hh
  obtain ⟨l, t, h1, h2, rfl⟩ := sub m hm
  have hm0 := hl _ (all l0 t0 q0.r q0.d q0.x q0.y)
  have hm1 := q0.mn l t h1 h2
  unfold rowQ at hm0
  simp only at hm0
  refine ⟨l, t, ⟨h1, h2, fun l' t' h3 h4 => ?_⟩, rfl⟩
  have hm2 := q0.mn l' t' h3 h4
  unfold ltQ at hm0 hm1 hm2 ⊢
  omega
end KL
end
section
open PySem PySem.Spec PyProof.Rows L2 VS
namespace KL
variable [VS.Cl]

/-! ### the least cover -/
theorem s_sides (k : Nat) {W H : Nat} {bs : List Bx} (o : OkL W H bs) {w h : Nat} (hw : 1 ≤ w ∧ w ≤ W) (hh : 1 ≤ h ∧ h ≤ H) : den (k + 5) I__check_sides [.sh (scrD W H), .sh (lyD bs), .sh (.int (w : Nat)), .sh (.int (h : Nat))] = .ok .none := by
  have e0 : den (k + 4 + 1) I__check_sides [.sh (scrD W H), .sh (lyD bs), .sh (.int (w : Nat)), .sh (.int (h : Nat))] = outR (b_12 (den (k + 4)) [.sh (scrD W H), .sh (lyD bs), .sh (.int (w : Nat)), .sh (.int (h : Nat))]) := den__check_sides _ _
  have e1 := s_check k o
  have e2 := s_is_whole (k + 3) (.int (w : Nat)) 1 W rfl
  have e3 := s_is_whole (k + 3) (.int (h : Nat)) 1 H rfl
  have w2 : wholeB (.int (w : Nat)) 1 W = true := by simp [wholeB]; omega
  have w3 : wholeB (.int (h : Nat)) 1 H = true := by simp [wholeB]; omega
  rw [w2] at e2
  rw [w3] at e3
  show den (k + 4 + 1) I__check_sides _ = _
  rw [e0]
  simp only [b_12, ev_seq, ev_drop, ev_dA, ev_args, ev_args0, gS_zero, gS_succ, bnd_ok, ev_cD, List.map_cons, List.map_nil, e1, toS_ok, rsb_nx, ev_if, ev_tOr, ev_tNot, ev_tB1, ev_k, ev_d2, scr_0, scr_1, e2, e3, ev_asB, Bool.not_true, if_neg Bool.false_ne_true, ev_nx, outR_nx]
noncomputable def lcRows (k : Nat) : Dl → RS := (extS 6 (lcD ([9]) (d1L itemsD (gS 5)) (bN 9) yesT (dA (argsF [(dMth ((VS.Cl.f "Cells" : Nat) : Int) "many" (gS 4) (argsF [(dA (argsF [(gS 9), (gS 7), (gS 2), (gS 3)]) tupD)]) (den k I_Cells_many)), (gS 7), (gS 9)]) tupD)))
abbrev LC (W H : Nat) (bs : List Bx) (w h : Nat) (ls : List Nat) (rows : List Q3) (s7 s8 s9 : Sl) : Dl := [.sh (scrD W H), .sh (lyD bs), .sh (.int (w : Nat)), .sh (.int (h : Nat)), .sh (obC bs W H), .sh (.list (ls.map fun l => .int (l : Nat))), .ow (.list (rows.map q3D)), s7, s8, s9]
theorem lcol_ev (k : Nat) {W H : Nat} (bs : List Bx) {w h t : Nat} {ls : List Nat} (hl : ∀ l ∈ ls, l + w ≤ W) (hn : ls.length ≤ 1000) (ht : t + h ≤ H) (rows : List Q3) (s8 s9 : Sl) :
    (lcD ([9]) (d1L itemsD (gS 5)) (bN 9) yesT (dA (argsF [(dMth ((VS.Cl.f "Cells" : Nat) : Int) "many" (gS 4) (argsF [(dA (argsF [(gS 9), (gS 7), (gS 2), (gS 3)]) tupD)]) (den (k + 1) I_Cells_many)), (gS 7), (gS 9)]) tupD)) (LC W H bs w h ls rows (.sh (.int (t : Nat))) s8 s9) = .ok (.list ((ls.map fun l => rowQ bs w h l t).map q3D)) := by
  have hs : sizeLine = 16777216 := sz_line
  have e1 : lcL (bN 9) yesT (dA (argsF [(dMth ((VS.Cl.f "Cells" : Nat) : Int) "many" (gS 4) (argsF [(dA (argsF [(gS 9), (gS 7), (gS 2), (gS 3)]) tupD)]) (den (k + 1) I_Cells_many)), (gS 7), (gS 9)]) tupD) (LC W H bs w h ls rows (.sh (.int (t : Nat))) s8 .no) (ls.map fun l => .int (l : Nat)) = .ok ((ls.map fun l => rowQ bs w h l t).map q3D) := by
    rw [List.map_map]
    refine lcL_all (fun l : Nat => PyData.int (l : Nat)) (fun l : Nat => q3D (rowQ bs w h l t)) _ fun l hl' => ⟨_, rfl, ?_⟩
    have e := s_many k bs (W := W) (H := H) (hl l hl') ht
    have em : dMth ((VS.Cl.f "Cells" : Nat) : Int) "many" (gS 4) (argsF [(dA (argsF [(gS 9), (gS 7), (gS 2), (gS 3)]) tupD)]) (den (k + 1) I_Cells_many) ((LC W H bs w h ls rows (.sh (.int (t : Nat))) s8 .no).set 9 (.sh (.int (l : Nat)))) = .ok (.int (cnt bs l t w h : Nat)) := by
      rw [ev_mth (o := obC bs W H) (ds := [bxD (nB l t w h)]) rfl (ob_many _ _ _ _) ?_]
      · exact e
      · simp only [LC, List.set_cons_succ, List.set_cons_zero, ev_dA, ev_args, ev_args0, gS_zero, gS_succ, bnd_ok, ev_tup4, bxD]
    simp only [LC, List.set_cons_succ, List.set_cons_zero] at em
    simp only [ev_dA, ev_args, ev_args0, em, bnd_ok, gS_zero, gS_succ, List.set_cons_succ, List.set_cons_zero, ev_tup3, q3D]
  have ln : (ls.map fun l => PyData.int (l : Nat)).length ≤ sizeLine := by rw [List.length_map]; omega
  simp only [LC] at e1 ⊢
  simp only [ev_lc, ev_d1L, gS_zero, gS_succ, bnd_ok, ev_items_l, if_pos ln, ev_wipe, ev_wipe0, List.set_cons_succ, List.set_cons_zero, e1]
theorem nats_of {ks : List Int} (h : ∀ x ∈ ks, 0 ≤ x) : ∃ ls : List Nat, ks = ls.map fun l : Nat => (l : Int) := by
  refine ⟨ks.map Int.toNat, ?_⟩
  rw [List.map_map]
  conv => lhs; rw [← List.map_id ks]
  refine List.map_congr_left fun x hx => ?_
  have := h x hx
  simp only [id, Function.comp]
  omega
theorem s_begin2 (k : Nat) {W H : Int} {bs : List Bx} (hb : bs.length ≤ 6) {a : Nat} (ha : a < 2) (z : Nat) : ∃ ls : List Nat, ls.length ≤ 28 ∧ (∀ l : Nat, l ∈ ls ↔ (l : Int) + (z : Nat) ≤ scA a W H ∧ (isLine a (scA a W H) bs (l : Nat) ∨ isLine a (scA a W H) bs ((l : Int) + (z : Nat)))) ∧ den (k + 2) I__begins [.sh (scrD W H), .sh (lyD bs), .sh (.int (a : Nat)), .sh (.int (z : Nat))] = .ok (.list (ls.map fun l => .int (l : Nat))) := by
  obtain ⟨ks, hl, hm, e⟩ := s_begins k (W := W) (H := H) hb ha z
  obtain ⟨ls, rfl⟩ := nats_of fun x hx => ((hm x).mp hx).1.1
  refine ⟨ls, by simpa using hl, fun l => ?_, by rw [e, List.map_map]; rfl⟩
  have h1 : (l : Int) ∈ ls.map (fun l : Nat => (l : Int)) ↔ l ∈ ls := by
    rw [List.mem_map]
    constructor
    · rintro ⟨l', h, e⟩
      have : l' = l := by omega
      exact this ▸ h
    · exact fun h => ⟨l, h, rfl⟩
  rw [← h1, hm]
  refine and_congr_left fun _ => ?_
  omega
theorem s_least (k : Nat) {W H : Nat} {bs : List Bx} (o : OkL W H bs) {w h : Nat} (hw : 1 ≤ w ∧ w ≤ W) (hh : 1 ≤ h ∧ h ≤ H) : ∃ l t, IsL bs W H w h l t ∧ den (k + 6) I_least_cover [.sh (scrD W H), .sh (lyD bs), .sh (.int (w : Nat)), .sh (.int (h : Nat))] = .ok (.tuple [.int (cnt bs l t w h : Nat), bxD (nB l t w h)]) := by
  have hs : sizeLine = 16777216 := sz_line
  have hb := o.len
  have hW := o.w2
  have hH := o.h2
  obtain ⟨ls, ll, lm, el⟩ := s_begin2 (k + 3) (W := W) (H := H) hb (a := 0) (by omega) w
  obtain ⟨ts, tl, tm, et⟩ := s_begin2 (k + 3) (W := W) (H := H) hb (a := 1) (by omega) h
  have hsc0 : scA 0 (W : Int) (H : Int) = W := rfl
  have hsc1 : scA 1 (W : Int) (H : Int) = H := rfl
  rw [hsc0] at lm
  rw [hsc1] at tm
  have hlr : ∀ l ∈ ls, l + w ≤ W := fun l hl => by have := ((lm l).mp hl).1; omega
  have htr : ∀ t ∈ ts, t + h ≤ H := fun t ht => by have := ((tm t).mp ht).1; omega
  let rows : List Nat → List Q3 := fun ts => ts.flatMap fun t => ls.map fun l => rowQ bs w h l t
  have rl : ∀ ts : List Nat, (rows ts).length = ts.length * ls.length := fun ts => by
    induction ts with
    | nil => simp [rows]
    | cons t ts ih =>
      show ((ls.map fun l => rowQ bs w h l t) ++ rows ts).length = _
      rw [List.length_append, ih, List.length_map, List.length_cons, Nat.succ_mul]
      omega
  obtain ⟨δ', e, s7, s8, s9, rfl⟩ := goS_inv0 (b := bN 7) (body := lcRows (k + 5)) (ds := ts.map fun t => PyData.int (t : Nat)) (δ := LC W H bs w h ls (rows []) .no .no .no)
    (fun j δ => ∃ s7 s8 s9, δ = LC W H bs w h ls (rows (ts.take j)) s7 s8 s9) ⟨.no, .no, .no, rfl⟩ (by
    rintro j d δ hj ⟨s7, s8, s9, rfl⟩
    rw [List.getElem?_map] at hj
    obtain ⟨t, ht, rfl⟩ := Option.map_eq_some_iff.mp hj
    obtain ⟨hlt, _⟩ := List.getElem?_eq_some_iff.mp ht
    have e2 : ts.take (j + 1) = ts.take j ++ [t] := by rw [List.take_add_one, ht]; rfl
    have e3 : rows (ts.take (j + 1)) = rows (ts.take j) ++ ls.map fun l => rowQ bs w h l t := by
      show (ts.take (j + 1)).flatMap _ = _
      rw [e2, List.flatMap_append]
      simp [rows]
    have lz := rl (ts.take j)
    have lz2 : (ts.take j).length * ls.length ≤ 28 * 28 := Nat.mul_le_mul (by rw [List.length_take]; omega) ll
    refine ⟨_, _, rfl, .inl ?_, .sh (.int (t : Nat)), s8, s9, rfl⟩
    have er := lcol_ev (k + 4) (W := W) (H := H) bs (h := h) hlr (by omega) (htr t (List.mem_of_getElem? ht)) (rows (ts.take j)) s8 s9
    unfold lcRows
    simp only [LC, List.set_cons_succ, List.set_cons_zero] at er ⊢
    rw [ev_ext (xs := (rows (ts.take j)).map q3D) (ds := (ls.map fun l => rowQ bs w h l t).map q3D) (d := .list ((ls.map fun l => rowQ bs w h l t).map q3D)) rfl er (.inl rfl) (by simp only [List.length_map]; omega), ← List.map_append, ← e3]
    rfl)
  rw [List.length_map, List.take_length] at e
  have sub : ∀ q ∈ rows ts, ∃ l t : Nat, l + w ≤ W ∧ t + h ≤ H ∧ q = rowQ bs w h l t := fun q hq => by
    rw [List.mem_flatMap] at hq
    obtain ⟨t, ht, hq⟩ := hq
    obtain ⟨l, hl, rfl⟩ := List.mem_map.mp hq
    exact ⟨l, t, hlr l hl, htr t ht, rfl⟩
  have all : ∀ l t : Nat, l + w ≤ W → t + h ≤ H → (isLine 0 W bs (l : Nat) ∨ isLine 0 W bs ((l : Int) + (w : Nat))) → (isLine 1 H bs (t : Nat) ∨ isLine 1 H bs ((t : Int) + (h : Nat))) → rowQ bs w h l t ∈ rows ts := fun l t h1 h2 h3 h4 => by
    rw [List.mem_flatMap]
    exact ⟨t, (tm t).mpr ⟨by omega, h4⟩, List.mem_map.mpr ⟨l, (lm l).mpr ⟨by omega, h3⟩, rfl⟩⟩
  obtain ⟨m, hm, em, hl⟩ := ev_min3 (rows ts) (List.ne_nil_of_mem (all 0 0 (by omega) (by omega) (.inl (.inl rfl)) (.inl (.inl rfl))))
  obtain ⟨l, t, q, rfl⟩ := isL_lines hw.2 hh.2 sub all hm hl
  refine ⟨l, t, q, ?_⟩
  have e0 : den (k + 5 + 1) I_least_cover [.sh (scrD W H), .sh (lyD bs), .sh (.int (w : Nat)), .sh (.int (h : Nat))] = outR (b_14 VS.Cl.f (den (k + 5)) (dnn VS.Cl.f (k + 5)) [.sh (scrD W H), .sh (lyD bs), .sh (.int (w : Nat)), .sh (.int (h : Nat)), .no, .no, .no, .no, .no, .no]) := den_least_cover _ _
  have es := s_sides k o hw hh
  have ek := s_mk (k + 2) (w := W) (h := H) (bs := bs) (by omega) (by omega)
  have eb : b_14 VS.Cl.f (den (k + 5)) (dnn VS.Cl.f (k + 5)) = (seqS (dropS (dA (argsF [(gS 0), (gS 1), (gS 2), (gS 3)]) (cD (den (k + 5) I__check_sides)))) (seqS (setS 4 (dA (argsF [(gS 0), (gS 1)]) (mkC (dnn VS.Cl.f (k + 5) I_Cells___init__)))) (seqS (setS 5 (dA (argsF [(gS 0), (gS 1), (kC (.int 0)), (gS 2)]) (cD (den (k + 5) I__begins)))) (seqS (setO 6 (dA (argsF []) lstD)) (seqS (forS (d1L itemsD (dA (argsF [(gS 0), (gS 1), (kC (.int 1)), (gS 3)]) (cD (den (k + 5) I__begins)))) (bN 7) (lcRows (k + 5))) (seqS (asgS (bT 3 (bCons (bN 8) (bCons (bN 7) (bCons (bN 9) bNil)))) (dA (argsF [(gB 6)]) minL)) (retS (dA (argsF [(gS 8), (dA (argsF [(gS 9), (gS 7), (gS 2), (gS 3)]) tupD)]) tupD)))))))) := rfl
  have h00 : ((0 : Nat) : Int) = 0 := rfl
  have h11 : ((1 : Nat) : Int) = 1 := rfl
  rw [h00] at el
  rw [h11] at et
  have ebd : bT 3 (bCons (bN 8) (bCons (bN 7) (bCons (bN 9) bNil))) (q3D (rowQ bs w h l t)) (LC W H bs w h ls (rows ts) s7 s8 s9) = some (LC W H bs w h ls (rows ts) (.sh (.int (t : Nat))) (.sh (.int (cnt bs l t w h : Nat))) (.sh (.int (l : Nat)))) := rfl
  show den (k + 5 + 1) I_least_cover _ = _
  rw [e0, eb]
  have hr0 : rows [] = [] := rfl
  rw [hr0] at e
  generalize lcRows (k + 5) = body at e ⊢
  simp only [LC, List.map_nil] at e ebd
  have ek' : mkC (dnn VS.Cl.f (k + 5) I_Cells___init__) [scrD W H, lyD bs] = .ok (obC bs W H) := ek
  simp only [ev_seq, ev_drop, ev_dA, ev_args, ev_args0, gS_zero, gS_succ, bnd_ok, ev_cD, List.map_cons, List.map_nil, es, toS_ok, rsb_nx, ev_set, ek', List.set_cons_succ, List.set_cons_zero, ev_k, el, ev_setO, ev_lst0, ev_for, ev_d1L, et, ev_items_l, e, ev_asg, gB_succ, gB_zero', em, ebd, ev_ret, ev_tup4, ev_tup2, outR_rt, bxD]
end KL
end
section
open PySem PySem.Spec PyProof.Rows L2 VS
namespace KL
variable [VS.Cl]

/-! ### cells that bar -/
theorem ce_0 (c : Ce) : ixD (ceD c) (.int 0) = .ok (.int c.1) := by unfold ceD; simp
theorem ce_1 (c : Ce) : ixD (ceD c) (.int 1) = .ok (.int c.2) := by unfold ceD; simp
theorem s_has (k : Nat) (b : Bx) (c : Ce) : den (k + 1) I__has [.sh (bxD b), .sh (ceD c)] = .ok (.bool (inB b c)) := by
  have e0 : den (k + 1) I__has [.sh (bxD b), .sh (ceD c)] = outR (b_16 (den k) [.sh (bxD b), .sh (ceD c)]) := den__has _ _
  rw [e0]
  simp only [b_16, ev_ret, ev_and, ev_chn, ev_d2, ev_k, gS_zero, gS_succ, bnd_ok, bx_0, bx_1, bx_2, bx_3, ce_0, ce_1, ev_leI, ev_ltI, ev_addI, ev_asB]
  unfold inB
  cases decide (b.1 ≤ c.1) <;> cases decide (c.1 < b.1 + b.2.2.1) <;> cases decide (b.2.1 ≤ c.2) <;> simp
theorem s_is_one (k : Nat) (bs : List Bx) {W H x y : Nat} (hx : x < W) (hy : y < H) : den (k + 1) I_Cells_is_one [.sh (obC bs W H), .sh (.tuple [.int (x : Nat), .int (y : Nat)])] = .ok (.bool (covN bs (x : Nat) (y : Nat))) := by
  have e0 : den (k + 1) I_Cells_is_one [.sh (obC bs W H), .sh (.tuple [.int (x : Nat), .int (y : Nat)])] = outR (b_7 VS.Cl.f (den k) [.sh (obC bs W H), .sh (.tuple [.int (x : Nat), .int (y : Nat)])]) := den_Cells_is_one _ _
  obtain ⟨_, h2, _⟩ := ob_fld (VS.Cl.f "Cells") bs W H
  have r1 := ix_rng (rowV bs W) H y hy
  have r2 : ixD (rowV bs W y) (.int (x : Nat)) = .ok (.bool (covN bs (x : Nat) (y : Nat))) := ix_rng (fun i => .bool (covN bs (i : Nat) (y : Nat))) W x hx
  have t0 : ixD (.tuple [.int (x : Nat), .int (y : Nat)]) (.int 0) = .ok (.int (x : Nat)) := by simp
  have t1 : ixD (.tuple [.int (x : Nat), .int (y : Nat)]) (.int 1) = .ok (.int (y : Nat)) := by simp
  rw [e0]
  simp only [b_7, ev_ret, ev_d2, ev_d1, gS_zero, gS_succ, bnd_ok, h2, ev_k, t0, t1, r1, r2, toS_ok, outR_rt]
/-! the last cell of a box -/
noncomputable def lt1 (k : Nat) : Dl → RS := (ifS (tB1 (dMth ((VS.Cl.f "Cells" : Nat) : Int) "is_one" (gS 0) (argsF [(dA (argsF [(gS 3), (gS 2)]) tupD)]) (den k I_Cells_is_one))) (retS (dA (argsF [(gS 3), (gS 2)]) tupD)) nxS)
theorem lt1_ev (k : Nat) (bs : List Bx) {W H x y : Nat} (hx : x < W) (hy : y < H) (s1 : Sl) : lt1 (k + 1) [.sh (obC bs W H), s1, .sh (.int (y : Nat)), .sh (.int (x : Nat))] = if covN bs (x : Nat) (y : Nat) = true then .rt (ceD ((x : Int), (y : Int))) else .nx [.sh (obC bs W H), s1, .sh (.int (y : Nat)), .sh (.int (x : Nat))] := by
  have e := s_is_one k bs hx hy
  have em : dMth ((VS.Cl.f "Cells" : Nat) : Int) "is_one" (gS 0) (argsF [(dA (argsF [(gS 3), (gS 2)]) tupD)]) (den (k + 1) I_Cells_is_one) [.sh (obC bs W H), s1, .sh (.int (y : Nat)), .sh (.int (x : Nat))] = .ok (.bool (covN bs (x : Nat) (y : Nat))) := by
    rw [ev_mth (o := obC bs W H) (ds := [.tuple [.int (x : Nat), .int (y : Nat)]]) rfl (ob_one _ _ _ _) ?_]
    · exact e
    · simp only [ev_dA, ev_args, ev_args0, gS_zero, gS_succ, bnd_ok, ev_tup2]
  unfold lt1
  simp only [ev_if, ev_tB1, em, bnd_ok, ev_asB, toS_ok]
  cases covN bs (x : Nat) (y : Nat)
  · rfl
  · simp only [if_true, ev_ret, ev_dA, ev_args, ev_args0, gS_zero, gS_succ, bnd_ok, ev_tup2, toS_ok, ceD]
theorem lt1_go (k : Nat) (bs : List Bx) {W H y : Nat} (hy : y < H) (s1 : Sl) : ∀ (xs : List Nat) (s3 : Sl), (∀ x ∈ xs, x < W) →
    (∃ c, goS (bN 3) (lt1 (k + 1)) (xs.map fun x => .int (x : Nat)) [.sh (obC bs W H), s1, .sh (.int (y : Nat)), s3] = .rt (ceD c)) ∨
    ((∀ x ∈ xs, covN bs (x : Nat) (y : Nat) = false) ∧ ∃ s3', goS (bN 3) (lt1 (k + 1)) (xs.map fun x => .int (x : Nat)) [.sh (obC bs W H), s1, .sh (.int (y : Nat)), s3] = .nx [.sh (obC bs W H), s1, .sh (.int (y : Nat)), s3'])
  | [], s3, _ => .inr ⟨(fun _ h => nomatch h), s3, rfl⟩
  | x :: xs, s3, h => by
    have eb : bN 3 (.int (x : Nat)) [.sh (obC bs W H), s1, .sh (.int (y : Nat)), s3] = some [.sh (obC bs W H), s1, .sh (.int (y : Nat)), .sh (.int (x : Nat))] := rfl
    have e1 := lt1_ev k bs (h x List.mem_cons_self) hy s1
    rw [List.map_cons]
    cases hc : covN bs (x : Nat) (y : Nat)
    · rw [hc, if_neg Bool.false_ne_true] at e1
      have eg : goS (bN 3) (lt1 (k + 1)) (.int (x : Nat) :: xs.map fun x => .int (x : Nat)) [.sh (obC bs W H), s1, .sh (.int (y : Nat)), s3] = goS (bN 3) (lt1 (k + 1)) (xs.map fun x => .int (x : Nat)) [.sh (obC bs W H), s1, .sh (.int (y : Nat)), .sh (.int (x : Nat))] := by
        conv => lhs; unfold goS
        simp only [eb, e1]
      rw [eg]
      rcases lt1_go k bs hy s1 xs (.sh (.int (x : Nat))) (fun x hx => h x (List.mem_cons_of_mem _ hx)) with h1 | ⟨h1, h2⟩
      · exact .inl h1
      · refine .inr ⟨fun z hz => ?_, h2⟩
        rcases List.mem_cons.mp hz with rfl | hz
        · exact hc
        · exact h1 z hz
    · rw [hc, if_pos rfl] at e1
      refine .inl ⟨((x : Int), (y : Int)), ?_⟩
      unfold goS
      simp only [eb, e1]
noncomputable def lt2 (k : Nat) : Dl → RS := (forS (dAL (argsF [(d2 subD (d2 addD (d2 ixD (gS 1) (kC (.int 0))) (d2 ixD (gS 1) (kC (.int 2)))) (kC (.int 1))), (d2 subD (d2 ixD (gS 1) (kC (.int 0))) (kC (.int 1))), (d1 negI (kC (.int 1)))]) rng3D) (bN 3) (lt1 k))
/-- the numbers from a + n - 1 down to a -/
def downN (a n : Nat) : List Nat := (List.range n).map fun i => a + n - 1 - i
theorem downN_mem {a n x : Nat} : x ∈ downN a n ↔ a ≤ x ∧ x < a + n := by
  unfold downN
  rw [List.mem_map]
  constructor
  · rintro ⟨i, hi, rfl⟩
    rw [List.mem_range] at hi
    omega
  · rintro ⟨h1, h2⟩
    exact ⟨a + n - 1 - x, List.mem_range.mpr (by omega), by omega⟩
theorem down_ev (a n : Nat) (h : a + n ≤ 1000) : rng3D [.int ((a : Int) + (n : Nat) - 1), .int ((a : Int) - 1), .int (-1)] = .ok ((downN a n).map fun x => .int (x : Nat)) := by
  unfold rng3D
  simp only
  have c : True ∧ -(2 ^ 62) ≤ (a : Int) + (n : Nat) - 1 ∧ (a : Int) + (n : Nat) - 1 < 2 ^ 62 ∧ -(2 ^ 62) ≤ (a : Int) - 1 ∧ (a : Int) - 1 < 2 ^ 62 := ⟨trivial, by omega⟩
  rw [if_pos c]
  have e : ((a : Int) + (n : Nat) - 1 - ((a : Int) - 1)).toNat = n := by omega
  rw [e]
  unfold downN
  rw [List.map_map]
  congr 1
  refine List.map_congr_left fun i hi => ?_
  rw [List.mem_range] at hi
  simp only [Function.comp]
  have : (a : Int) + (n : Nat) - 1 - (i : Nat) = ((a + n - 1 - i : Nat) : Int) := by omega
  rw [this]
theorem neg1 : negI (.int 1) = .ok (.int (-1)) := rfl
theorem lt2_go (k : Nat) (bs : List Bx) {W H l t w h : Nat} (hl : l + w ≤ W) (hW : W ≤ 100) : ∀ (ys : List Nat) (s2 s3 : Sl), (∀ y ∈ ys, y < H) →
    (∃ c, goS (bN 2) (lt2 (k + 1)) (ys.map fun x => .int (x : Nat)) [.sh (obC bs W H), .sh (bxD (nB l t w h)), s2, s3] = .rt (ceD c)) ∨
    ((∀ y ∈ ys, ∀ x ∈ downN l w, covN bs (x : Nat) (y : Nat) = false) ∧ ∃ s2' s3', goS (bN 2) (lt2 (k + 1)) (ys.map fun x => .int (x : Nat)) [.sh (obC bs W H), .sh (bxD (nB l t w h)), s2, s3] = .nx [.sh (obC bs W H), .sh (bxD (nB l t w h)), s2', s3'])
  | [], s2, s3, _ => .inr ⟨(fun _ h => nomatch h), s2, s3, rfl⟩
  | y :: ys, s2, s3, h' => by
    have eb : bN 2 (.int (y : Nat)) [.sh (obC bs W H), .sh (bxD (nB l t w h)), s2, s3] = some [.sh (obC bs W H), .sh (bxD (nB l t w h)), .sh (.int (y : Nat)), s3] := rfl
    have ed := down_ev l w (by omega)
    have e2 : lt2 (k + 1) [.sh (obC bs W H), .sh (bxD (nB l t w h)), .sh (.int (y : Nat)), s3] = goS (bN 3) (lt1 (k + 1)) ((downN l w).map fun x => .int (x : Nat)) [.sh (obC bs W H), .sh (bxD (nB l t w h)), .sh (.int (y : Nat)), s3] := by
      unfold lt2
      simp only [ev_for, ev_dAL, ev_args, ev_args0, ev_d2, ev_d1, gS_zero, gS_succ, bnd_ok, ev_k, bx_0, bx_2, ev_addI, ev_subI, neg1, ed, toS_ok]
    rw [List.map_cons]
    rcases lt1_go k bs (W := W) (h' y List.mem_cons_self) (.sh (bxD (nB l t w h))) (downN l w) s3 (fun x hx => by have := downN_mem.mp hx; omega) with ⟨c, h1⟩ | ⟨h1, s3', h2⟩
    · refine .inl ⟨c, ?_⟩
      unfold goS
      simp only [eb, e2, h1]
    · rw [h2] at e2
      have eg : goS (bN 2) (lt2 (k + 1)) (.int (y : Nat) :: ys.map fun x => .int (x : Nat)) [.sh (obC bs W H), .sh (bxD (nB l t w h)), s2, s3] = goS (bN 2) (lt2 (k + 1)) (ys.map fun x => .int (x : Nat)) [.sh (obC bs W H), .sh (bxD (nB l t w h)), .sh (.int (y : Nat)), s3'] := by
        conv => lhs; unfold goS
        simp only [eb, e2]
      rw [eg]
      rcases lt2_go k bs hl hW ys (.sh (.int (y : Nat))) s3' (fun x hx => h' x (List.mem_cons_of_mem _ hx)) with h3 | ⟨h3, h4⟩
      · exact .inl h3
      · refine .inr ⟨fun z hz => ?_, h4⟩
        rcases List.mem_cons.mp hz with rfl | hz
        · exact h1
        · exact h3 z hz
theorem s_last_in (k : Nat) (bs : List Bx) {W H l t w h : Nat} (hl : l + w ≤ W) (hW : W ≤ 100) (ht : t + h ≤ H) (hH : H ≤ 100) (hc : cnt bs l t w h ≠ 0) : ∃ c, den (k + 2) I__last_in [.sh (obC bs W H), .sh (bxD (nB l t w h))] = .ok (ceD c) := by
  have e0 : den (k + 1 + 1) I__last_in [.sh (obC bs W H), .sh (bxD (nB l t w h))] = outR (b_17 VS.Cl.f (den (k + 1)) [.sh (obC bs W H), .sh (bxD (nB l t w h)), .no, .no]) := den__last_in _ _
  have eb : b_17 VS.Cl.f (den (k + 1)) = (seqS (forS (dAL (argsF [(d2 subD (d2 addD (d2 ixD (gS 1) (kC (.int 1))) (d2 ixD (gS 1) (kC (.int 3)))) (kC (.int 1))), (d2 subD (d2 ixD (gS 1) (kC (.int 1))) (kC (.int 1))), (d1 negI (kC (.int 1)))]) rng3D) (bN 2) (lt2 (k + 1))) (retS (kC .none))) := rfl
  have ed := down_ev t h (by omega)
  have eo : outR (b_17 VS.Cl.f (den (k + 1)) [.sh (obC bs W H), .sh (bxD (nB l t w h)), .no, .no]) = outR ((goS (bN 2) (lt2 (k + 1)) ((downN t h).map fun x => .int (x : Nat)) [.sh (obC bs W H), .sh (bxD (nB l t w h)), .no, .no]).bnd (retS (kC .none))) := by
    rw [eb]
    generalize lt2 (k + 1) = body
    simp only [ev_seq, ev_for, ev_dAL, ev_args, ev_args0, ev_d2, ev_d1, gS_zero, gS_succ, bnd_ok, ev_k, bx_1, bx_3, ev_addI, ev_subI, neg1, ed, toS_ok]
  show ∃ c, den (k + 1 + 1) I__last_in _ = _
  rw [e0, eo]
  rcases lt2_go k bs (H := H) (t := t) (h := h) hl hW (downN t h) .no .no (fun y hy => by have := downN_mem.mp hy; omega) with ⟨c, e⟩ | ⟨no, _⟩
  · exact ⟨c, by rw [e]; rfl⟩
  · refine (hc ?_).elim
    unfold cnt
    rw [List.length_eq_zero_iff, List.filter_eq_nil_iff]
    rintro ⟨x, y⟩ hxy
    have hm := cols_mem.mp hxy
    simp only at hm
    have := no y.toNat (downN_mem.mpr (by omega)) x.toNat (downN_mem.mpr (by omega))
    have ex : ((x.toNat : Nat) : Int) = x := by omega
    have ey : ((y.toNat : Nat) : Int) = y := by omega
    rw [ex, ey] at this
    simp [this]
/-! the cells that bar -/
abbrev LB (W H : Nat) (bs : List Bx) (w h : Nat) (xs : List Bx) (s4 s5 s6 s7 s8 : Sl) : Dl := [.sh (obC bs W H), .sh (.int (w : Nat)), .sh (.int (h : Nat)), .sh (.list (xs.map bxD)), s4, s5, s6, s7, s8]
noncomputable def br1 (k : Nat) : Dl → RS := (ifS (tNot1 (tB1 (dA (argsF [(lcOB 4 (lcD ([6]) (d1L itemsD (gS 4)) (bN 6) yesT (dA (argsF [(gS 5), (gS 6)]) (cD (den k I__has)))))]) anyD))) (appS 4 (dA (argsF [(gS 0), (gS 5)]) (cD (den k I__last_in)))) nxS)
theorem atoms_b {α : Type} (f : α → Bool) (ds : List α) : atomsL (.list (ds.map fun a => PyData.bool (f a))) = true := by
  unfold atomsL
  simp [atomD]
theorem br1_ev (k : Nat) {W H : Nat} (bs : List Bx) {w h l t : Nat} (hl : l + w ≤ W) (hW : W ≤ 100) (ht : t + h ≤ H) (hH : H ≤ 100) (hc : cnt bs l t w h ≠ 0) (xs : List Bx) (fs : List Ce) (hf : fs.length ≤ 1000) (s6 s7 s8 : Sl) :
    ∃ gs : List Ce, gs.length ≤ fs.length + 1 ∧ br1 (k + 2) (LB W H bs w h xs (.ow (.list (fs.map ceD))) (.sh (bxD (nB l t w h))) s6 s7 s8) = .nx (LB W H bs w h xs (.ow (.list (gs.map ceD))) (.sh (bxD (nB l t w h))) s6 s7 s8) := by
  have hs : sizeLine = 16777216 := sz_line
  have e1 : lcL (bN 6) yesT (dA (argsF [(gS 5), (gS 6)]) (cD (den (k + 2) I__has))) (LB W H bs w h xs (.sh (.list (fs.map ceD))) (.sh (bxD (nB l t w h))) .no s7 s8) (fs.map ceD) = .ok (fs.map fun c => .bool (inB (nB l t w h) c)) := lcL_all _ _ _ fun c hc => by
    have e := s_has (k + 1) (nB l t w h) c
    exact ⟨_, rfl, by simp only [ev_dA, ev_args, ev_args0, List.set_cons_succ, List.set_cons_zero, gS_succ, gS_zero, bnd_ok, ev_cD, List.map_cons, List.map_nil, e]⟩
  have ln : (fs.map ceD).length ≤ sizeLine := by rw [List.length_map]; omega
  have e2 : lcOB 4 (lcD ([6]) (d1L itemsD (gS 4)) (bN 6) yesT (dA (argsF [(gS 5), (gS 6)]) (cD (den (k + 2) I__has)))) (LB W H bs w h xs (.ow (.list (fs.map ceD))) (.sh (bxD (nB l t w h))) s6 s7 s8) = .ok (.list (fs.map fun c => .bool (inB (nB l t w h) c))) := by
    show (lcD ([6]) (d1L itemsD (gS 4)) (bN 6) yesT (dA (argsF [(gS 5), (gS 6)]) (cD (den (k + 2) I__has))) (LB W H bs w h xs (.sh (.list (fs.map ceD))) (.sh (bxD (nB l t w h))) s6 s7 s8)).bnd (fun d => if atomsL d = true then .ok d else .no) = _
    simp only [LB] at e1 ⊢
    simp only [ev_lc, ev_d1L, gS_zero, gS_succ, bnd_ok, ev_items_l, if_pos ln, ev_wipe, ev_wipe0, List.set_cons_succ, List.set_cons_zero, e1]
    rw [if_pos (atoms_b _ _)]
  have e3 := any_b (fun c => inB (nB l t w h) c) fs
  unfold br1
  simp only [LB] at e2 ⊢
  cases ha : fs.any fun c => inB (nB l t w h) c
  · obtain ⟨c, el⟩ := s_last_in k bs hl hW ht hH hc
    refine ⟨fs ++ [c], by simp, ?_⟩
    rw [ha] at e3
    simp only [ev_if, ev_tNot, ev_tB1, ev_dA, ev_args, ev_args0, e2, bnd_ok, e3, ev_asB, Bool.not_false, toS_ok, if_true]
    rw [ev_app (xs := fs.map ceD) (d := ceD c) rfl (by simp only [ev_dA, ev_args, ev_args0, gS_zero, gS_succ, bnd_ok, ev_cD, List.map_cons, List.map_nil, el]) (by rw [List.length_map]; omega)]
    rw [List.map_append]
    rfl
  · refine ⟨fs, by omega, ?_⟩
    rw [ha] at e3
    simp only [ev_if, ev_tNot, ev_tB1, ev_dA, ev_args, ev_args0, e2, bnd_ok, e3, ev_asB, Bool.not_true, toS_ok, if_neg Bool.false_ne_true, ev_nx]
noncomputable def br2 (k : Nat) : Dl → RS := (seqS (fun δ => (setS 7 (lcD ([8]) (d1L itemsD (gS 4)) (bN 8) (tB1 (d2 neD (gS 8) (gS 6))) (gS 8))) (frzD 4 δ)) (ifS (tB1 (dA (argsF [(lcD ([5]) (d1L itemsD (gS 3)) (bN 5) yesT (dA (argsF [(lcD ([8]) (d1L itemsD (gS 7)) (bN 8) yesT (dA (argsF [(gS 5), (gS 8)]) (cD (den k I__has))))]) anyD))]) allD)) (setS 4 (gS 7)) nxS))
def own4 (s : Sl) (fs : List Ce) : Prop := s = .ow (.list (fs.map ceD)) ∨ s = .sh (.list (fs.map ceD))
theorem ce_ne (a b : Ce) : neD (ceD a) (ceD b) = .ok (.bool (!decide (a = b))) := by
  have hd : ∀ a : Ce, dn 60 (ceD a) = true := fun a => by unfold ceD; simp
  rw [neD_of (hd a) (hd b), ce_eqv]
theorem br2_ev (k : Nat) {W H : Nat} (bs : List Bx) (w h : Nat) (xs : List Bx) (hx : xs.length ≤ 1000) (fs : List Ce) (hf : fs.length ≤ 1000) (s4 s5 s7 s8 : Sl) (h4 : own4 s4 fs) (c : Ce) :
    ∃ gs t4 t7, gs.length ≤ fs.length ∧ own4 t4 gs ∧ br2 (k + 2) (LB W H bs w h xs s4 s5 (.sh (ceD c)) s7 s8) = .nx (LB W H bs w h xs t4 s5 (.sh (ceD c)) t7 s8) := by
  have hs : sizeLine = 16777216 := sz_line
  have ef : frzD 4 (LB W H bs w h xs s4 s5 (.sh (ceD c)) s7 s8) = LB W H bs w h xs (.sh (.list (fs.map ceD))) s5 (.sh (ceD c)) s7 s8 := by
    rcases h4 with rfl | rfl <;> rfl
  let rs : List Ce := fs.filter fun a => !decide (a = c)
  have e1 : lcL (bN 8) (tB1 (d2 neD (gS 8) (gS 6))) (gS 8) (LB W H bs w h xs (.sh (.list (fs.map ceD))) s5 (.sh (ceD c)) s7 .no) (fs.map ceD) = .ok (rs.map ceD) := lcL_on _ (fun a => !decide (a = c)) _ _ fun a ha => by
    refine ⟨_, rfl, ?_, fun _ => ?_⟩
    · simp only [ev_tB1, ev_d2, List.set_cons_succ, List.set_cons_zero, gS_succ, gS_zero, bnd_ok, ce_ne, ev_asB]
    · simp only [List.set_cons_succ, List.set_cons_zero, gS_succ, gS_zero]
  have ln : (fs.map ceD).length ≤ sizeLine := by rw [List.length_map]; omega
  have lr : rs.length ≤ fs.length := List.length_filter_le _ _
  have lnr : (rs.map ceD).length ≤ sizeLine := by rw [List.length_map]; omega
  have lnx : (xs.map bxD).length ≤ sizeLine := by rw [List.length_map]; omega
  have e2 : lcL (bN 5) yesT (dA (argsF [(lcD ([8]) (d1L itemsD (gS 7)) (bN 8) yesT (dA (argsF [(gS 5), (gS 8)]) (cD (den (k + 2) I__has))))]) anyD) (LB W H bs w h xs (.sh (.list (fs.map ceD))) .no (.sh (ceD c)) (.sh (.list (rs.map ceD))) s8) (xs.map bxD) = .ok (xs.map fun b => .bool (rs.any fun a => inB b a)) := lcL_all _ _ _ fun b hb => by
    have e3 : lcL (bN 8) yesT (dA (argsF [(gS 5), (gS 8)]) (cD (den (k + 2) I__has))) (LB W H bs w h xs (.sh (.list (fs.map ceD))) (.sh (bxD b)) (.sh (ceD c)) (.sh (.list (rs.map ceD))) .no) (rs.map ceD) = .ok (rs.map fun a => .bool (inB b a)) := lcL_all _ _ _ fun a ha => by
      have e := s_has (k + 1) b a
      exact ⟨_, rfl, by simp only [ev_dA, ev_args, ev_args0, List.set_cons_succ, List.set_cons_zero, gS_succ, gS_zero, bnd_ok, ev_cD, List.map_cons, List.map_nil, e]⟩
    have e4 := any_b (fun a => inB b a) rs
    refine ⟨_, rfl, ?_⟩
    simp only [LB] at e3 ⊢
    simp only [ev_dA, ev_args, ev_args0, ev_lc, ev_d1L, List.set_cons_succ, List.set_cons_zero, gS_succ, gS_zero, bnd_ok, ev_items_l, if_pos lnr, ev_wipe, ev_wipe0, e3, e4]
  have e5 := all_b (fun b => rs.any fun a => inB b a) xs
  have step : br2 (k + 2) (LB W H bs w h xs s4 s5 (.sh (ceD c)) s7 s8) = if (xs.all fun b => rs.any fun a => inB b a) = true then .nx (LB W H bs w h xs (.sh (.list (rs.map ceD))) s5 (.sh (ceD c)) (.sh (.list (rs.map ceD))) s8) else .nx (LB W H bs w h xs (.sh (.list (fs.map ceD))) s5 (.sh (ceD c)) (.sh (.list (rs.map ceD))) s8) := by
    unfold br2
    rw [ev_seq, ef]
    simp only [LB] at e1 e2 ⊢
    simp only [ev_set, ev_lc, ev_d1L, gS_succ, gS_zero, bnd_ok, ev_items_l, if_pos ln, ev_wipe, ev_wipe0, List.set_cons_succ, List.set_cons_zero, e1, toS_ok, rsb_nx, ev_if, ev_tB1, ev_dA, ev_args, ev_args0, if_pos lnx, e2, e5, ev_asB, ev_nx]
  rw [step]
  cases (xs.all fun b => rs.any fun a => inB b a)
  · exact ⟨fs, _, _, Nat.le_refl _, .inr rfl, rfl⟩
  · exact ⟨rs, _, _, lr, .inr rfl, rfl⟩
theorem sortOk_ce (fs : List Ce) (h : fs.length ≤ sizeLine) : sortOk (fs.map ceD) = true := by
  unfold sortOk
  simp [h, PySem.W.alike, PySem.W.alikeAll, notTN, ceD, isTup1]
theorem s_bars (k : Nat) {W H : Nat} (bs : List Bx) {w h : Nat} (hW : W ≤ 12) (hH : H ≤ 10) (hw : 1 ≤ w ∧ w ≤ W) (hh : 1 ≤ h ∧ h ≤ H) (hc : ∀ l t : Nat, l + w ≤ W → t + h ≤ H → cnt bs l t w h ≠ 0) : ∃ ds, den (k + 3) I__bars [.sh (obC bs W H), .sh (.int (w : Nat)), .sh (.int (h : Nat))] = .ok (.list ds) := by
  have hs : sizeLine = 16777216 := sz_line
  let xs := allB W w h (H - h + 1)
  have lx : xs.length ≤ 120 := allB_len' (h := h) hW (by omega) hw.1
  have e0 : den (k + 2 + 1) I__bars [.sh (obC bs W H), .sh (.int (w : Nat)), .sh (.int (h : Nat))] = outR (b_15 VS.Cl.f (den (k + 2)) [.sh (obC bs W H), .sh (.int (w : Nat)), .sh (.int (h : Nat)), .no, .no, .no, .no, .no, .no]) := den__bars _ _
  have eall := s_all_boxes (k + 1) bs hW hH hw hh
  obtain ⟨δ1, e1, fs, s5, hf, rfl⟩ := goS_inv0 (b := bN 5) (body := br1 (k + 2)) (ds := xs.map bxD) (δ := LB W H bs w h xs (.ow (.list ([].map ceD))) .no .no .no .no)
    (fun j δ => ∃ (fs : List Ce) (s5 : Sl), fs.length ≤ j ∧ δ = LB W H bs w h xs (.ow (.list (fs.map ceD))) s5 .no .no .no) ⟨[], .no, by simp, rfl⟩ (by
    rintro j d δ hj ⟨fs, s5, hf, rfl⟩
    rw [List.getElem?_map] at hj
    obtain ⟨b, hb, rfl⟩ := Option.map_eq_some_iff.mp hj
    obtain ⟨hlt, _⟩ := List.getElem?_eq_some_iff.mp hb
    obtain ⟨l, t, h1, h2, rfl⟩ := (allB_mem hw.2 _).mp (List.mem_of_getElem? hb)
    obtain ⟨gs, hg, e⟩ := br1_ev k bs (w := w) (h := h) h1 (by omega) (show t + h ≤ H by omega) (by omega) (hc l t h1 (by omega)) xs fs (by omega) .no .no .no
    exact ⟨_, _, rfl, .inl e, gs, _, by omega, rfl⟩)
  rw [List.length_map] at hf
  obtain ⟨δ2, e2, gs, s4, s6, s7, hg, h4, rfl⟩ := goS_inv0 (b := bN 6) (body := br2 (k + 2)) (ds := fs.map ceD) (δ := LB W H bs w h xs (.ow (.list (fs.map ceD))) s5 .no .no .no)
    (fun j δ => ∃ (gs : List Ce) (s4 s6 s7 : Sl), gs.length ≤ fs.length ∧ own4 s4 gs ∧ δ = LB W H bs w h xs s4 s5 s6 s7 .no) ⟨fs, _, .no, .no, Nat.le_refl _, .inl rfl, rfl⟩ (by
    rintro j d δ hj ⟨gs, s4, s6, s7, hg, h4, rfl⟩
    rw [List.getElem?_map] at hj
    obtain ⟨c, hb, rfl⟩ := Option.map_eq_some_iff.mp hj
    obtain ⟨gs', t4, t7, hg', h4', e⟩ := br2_ev k (W := W) (H := H) bs w h xs (by omega) gs (by omega) s4 s5 s7 .no h4 c
    exact ⟨_, _, rfl, .inl e, gs', t4, _, t7, by omega, h4', rfl⟩)
  have eb : b_15 VS.Cl.f (den (k + 2)) = (seqS (setS 3 (dMth ((VS.Cl.f "Cells" : Nat) : Int) "all_boxes" (gS 0) (argsF [(gS 1), (gS 2)]) (den (k + 2) I_Cells_all_boxes))) (seqS (setO 4 (dA (argsF []) lstD)) (seqS (forS (d1L itemsD (gS 3)) (bN 5) (br1 (k + 2))) (seqS (forS (d1L itemsD (dA (argsF [(gB 4)]) lstOfD)) (bN 6) (br2 (k + 2))) (retS (dA (argsF [(gB 4)]) sortedA)))))) := rfl
  have em : dMth ((VS.Cl.f "Cells" : Nat) : Int) "all_boxes" (gS 0) (argsF [(gS 1), (gS 2)]) (den (k + 2) I_Cells_all_boxes) [.sh (obC bs W H), .sh (.int (w : Nat)), .sh (.int (h : Nat)), .no, .no, .no, .no, .no, .no] = .ok (.list (xs.map bxD)) := by
    rw [ev_mth (o := obC bs W H) (ds := [.int (w : Nat), .int (h : Nat)]) rfl (ob_all _ _ _ _) rfl]
    exact eall
  have es : sortedA [.list (gs.map ceD)] = .ok (.list (sortL (gs.map ceD))) := by
    show (if sortOk (gs.map ceD) = true then _ else _) = _
    rw [if_pos (sortOk_ce gs (by omega))]
  have eg4 : gB 4 (LB W H bs w h xs s4 s5 s6 s7 .no) = .ok (.list (gs.map ceD)) := by
    rcases h4 with rfl | rfl <;> rfl
  refine ⟨sortL (gs.map ceD), ?_⟩
  · show den (k + 2 + 1) I__bars _ = _
    rw [e0, eb]
    generalize br1 (k + 2) = body1 at e1 ⊢
    generalize br2 (k + 2) = body2 at e2 ⊢
    simp only [LB, List.map_nil] at e1 e2 eg4
    simp only [ev_seq, ev_set, em, toS_ok, rsb_nx, List.set_cons_succ, List.set_cons_zero, ev_setO, ev_dA, ev_args, ev_args0, bnd_ok, ev_lst0, ev_for, ev_d1L, gS_succ, gS_zero, ev_items_l, e1, gB_succ, gB_zero', ev_lstOf, e2, ev_ret]
    simp only [gB_succ] at eg4
    simp only [eg4, bnd_ok, es, toS_ok, outR_rt]
end KL
end
section
open PySem PySem.Spec PyProof.Rows L2 VS
namespace KL
variable [VS.Cl]

/-! ### a free place -/
noncomputable def pfB (k : Nat) : Dl → RS := (ifS (tB1 (d2 eqD (dMth ((VS.Cl.f "Cells" : Nat) : Int) "many" (gS 4) (argsF [(gS 5)]) (den k I_Cells_many)) (kC (.int 0)))) (retS (dA (argsF [(kC (.str "free")), (gS 5)]) tupD)) nxS)
abbrev LP (W H : Nat) (bs : List Bx) (w h : Nat) (s5 : Sl) : Dl := [.sh (scrD W H), .sh (lyD bs), .sh (.int (w : Nat)), .sh (.int (h : Nat)), .sh (obC bs W H), s5]
theorem pfB_ev (k : Nat) {W H : Nat} (bs : List Bx) {w h l t : Nat} (hl : l + w ≤ W) (ht : t + h ≤ H) : pfB (k + 1) (LP W H bs w h (.sh (bxD (nB l t w h)))) = if cnt bs l t w h = 0 then .rt (.tuple [.str "free", bxD (nB l t w h)]) else .nx (LP W H bs w h (.sh (bxD (nB l t w h)))) := by
  have e := s_many k bs (W := W) (H := H) hl ht
  have em : dMth ((VS.Cl.f "Cells" : Nat) : Int) "many" (gS 4) (argsF [(gS 5)]) (den (k + 1) I_Cells_many) (LP W H bs w h (.sh (bxD (nB l t w h)))) = .ok (.int (cnt bs l t w h : Nat)) := by
    rw [ev_mth (o := obC bs W H) (ds := [bxD (nB l t w h)]) rfl (ob_many _ _ _ _) rfl]
    exact e
  have eqd : decide (((cnt bs l t w h : Nat) : Int) = 0) = decide (cnt bs l t w h = 0) := by
    rw [Bool.eq_iff_iff, decide_eq_true_eq, decide_eq_true_eq]
    omega
  unfold pfB
  simp only [LP] at em ⊢
  simp only [ev_if, ev_tB1, ev_d2, em, bnd_ok, ev_k, ev_eqI, ev_asB, toS_ok, eqd]
  by_cases c : cnt bs l t w h = 0
  · rw [if_pos (decide_eq_true c), if_pos c]
    simp only [ev_ret, ev_dA, ev_args, ev_args0, ev_k, gS_succ, gS_zero, bnd_ok, ev_tup2, toS_ok]
  · rw [if_neg (by simpa using c), if_neg c]
    rfl
theorem pf_go (k : Nat) {W H : Nat} (bs : List Bx) {w h : Nat} : ∀ (xs : List Bx) (s5 : Sl), (∀ b ∈ xs, ∃ l t : Nat, l + w ≤ W ∧ t + h ≤ H ∧ b = nB l t w h) →
    (∃ l t : Nat, l + w ≤ W ∧ t + h ≤ H ∧ cnt bs l t w h = 0 ∧ goS (bN 5) (pfB (k + 1)) (xs.map bxD) (LP W H bs w h s5) = .rt (.tuple [.str "free", bxD (nB l t w h)])) ∨
    ((∀ l t : Nat, nB l t w h ∈ xs → cnt bs l t w h ≠ 0) ∧ ∃ s5', goS (bN 5) (pfB (k + 1)) (xs.map bxD) (LP W H bs w h s5) = .nx (LP W H bs w h s5'))
  | [], s5, _ => .inr ⟨(fun _ _ h => nomatch h), s5, rfl⟩
  | b :: xs, s5, hb => by
    obtain ⟨l, t, hl, ht, rfl⟩ := hb b List.mem_cons_self
    have eb : bN 5 (bxD (nB l t w h)) (LP W H bs w h s5) = some (LP W H bs w h (.sh (bxD (nB l t w h)))) := rfl
    have e1 := pfB_ev k bs hl ht
    rw [List.map_cons]
    by_cases hc : cnt bs l t w h = 0
    · rw [if_pos hc] at e1
      refine .inl ⟨l, t, hl, ht, hc, ?_⟩
      unfold goS
      simp only [eb, e1]
    · rw [if_neg hc] at e1
      have eg : goS (bN 5) (pfB (k + 1)) (bxD (nB l t w h) :: xs.map bxD) (LP W H bs w h s5) = goS (bN 5) (pfB (k + 1)) (xs.map bxD) (LP W H bs w h (.sh (bxD (nB l t w h)))) := by
        conv => lhs; unfold goS
        simp only [eb, e1]
      rw [eg]
      rcases pf_go k bs xs (.sh (bxD (nB l t w h))) (fun x hx => hb x (List.mem_cons_of_mem _ hx)) with h1 | ⟨h1, h2⟩
      · exact .inl h1
      · refine .inr ⟨fun l' t' hz => ?_, h2⟩
        rcases List.mem_cons.mp hz with e | hz
        · simp only [nB, Prod.mk.injEq] at e
          obtain ⟨ea, ec, _, _⟩ := e
          have ea' : l' = l := by omega
          have ec' : t' = t := by omega
          subst ea'
          subst ec'
          exact hc
        · exact h1 l' t' hz
theorem s_place (k : Nat) {W H : Nat} {bs : List Bx} (o : OkL W H bs) {w h : Nat} (hw : 1 ≤ w ∧ w ≤ W) (hh : 1 ≤ h ∧ h ≤ H) :
    (∃ l t : Nat, l + w ≤ W ∧ t + h ≤ H ∧ cnt bs l t w h = 0 ∧ den (k + 6) I_place_for [.sh (scrD W H), .sh (lyD bs), .sh (.int (w : Nat)), .sh (.int (h : Nat))] = .ok (.tuple [.str "free", bxD (nB l t w h)])) ∨
    ((∀ l t : Nat, l + w ≤ W → t + h ≤ H → cnt bs l t w h ≠ 0) ∧ ∃ v, den (k + 6) I_place_for [.sh (scrD W H), .sh (lyD bs), .sh (.int (w : Nat)), .sh (.int (h : Nat))] = .ok (.tuple [.str "barred", v])) := by
  have hs : sizeLine = 16777216 := sz_line
  have hW := o.w2
  have hH := o.h2
  let xs := allB W w h (H - h + 1)
  have e0 : den (k + 5 + 1) I_place_for [.sh (scrD W H), .sh (lyD bs), .sh (.int (w : Nat)), .sh (.int (h : Nat))] = outR (b_18 VS.Cl.f (den (k + 5)) (dnn VS.Cl.f (k + 5)) [.sh (scrD W H), .sh (lyD bs), .sh (.int (w : Nat)), .sh (.int (h : Nat)), .no, .no]) := den_place_for _ _
  have eb : b_18 VS.Cl.f (den (k + 5)) (dnn VS.Cl.f (k + 5)) = (seqS (dropS (dA (argsF [(gS 0), (gS 1), (gS 2), (gS 3)]) (cD (den (k + 5) I__check_sides)))) (seqS (setS 4 (dA (argsF [(gS 0), (gS 1)]) (mkC (dnn VS.Cl.f (k + 5) I_Cells___init__)))) (seqS (forS (d1L itemsD (dMth ((VS.Cl.f "Cells" : Nat) : Int) "all_boxes" (gS 4) (argsF [(gS 2), (gS 3)]) (den (k + 5) I_Cells_all_boxes))) (bN 5) (pfB (k + 5))) (retS (dA (argsF [(kC (.str "barred")), (dA (argsF [(dA (argsF [(gS 4), (gS 2), (gS 3)]) (cD (den (k + 5) I__bars)))]) tupAnyD)]) tupD))))) := rfl
  have es := s_sides k o hw hh
  have ek : mkC (dnn VS.Cl.f (k + 5) I_Cells___init__) [scrD W H, lyD bs] = .ok (obC bs W H) := s_mk (k + 2) (w := W) (h := H) (bs := bs) (by omega) (by omega)
  have ea := s_all_boxes (k + 4) bs (W := W) (H := H) (w := w) (h := h) (by omega) (by omega) hw hh
  have em : dMth ((VS.Cl.f "Cells" : Nat) : Int) "all_boxes" (gS 4) (argsF [(gS 2), (gS 3)]) (den (k + 5) I_Cells_all_boxes) (LP W H bs w h .no) = .ok (.list (xs.map bxD)) := by
    rw [ev_mth (o := obC bs W H) (ds := [.int (w : Nat), .int (h : Nat)]) rfl (ob_all _ _ _ _) rfl]
    exact ea
  have red : b_18 VS.Cl.f (den (k + 5)) (dnn VS.Cl.f (k + 5)) [.sh (scrD W H), .sh (lyD bs), .sh (.int (w : Nat)), .sh (.int (h : Nat)), .no, .no] = (goS (bN 5) (pfB (k + 5)) (xs.map bxD) (LP W H bs w h .no)).bnd (retS (dA (argsF [(kC (.str "barred")), (dA (argsF [(dA (argsF [(gS 4), (gS 2), (gS 3)]) (cD (den (k + 5) I__bars)))]) tupAnyD)]) tupD)) := by
    rw [eb]
    generalize pfB (k + 5) = body
    simp only [LP] at em ⊢
    simp only [ev_seq, ev_drop, ev_dA, ev_args, ev_args0, gS_zero, gS_succ, bnd_ok, ev_cD, List.map_cons, List.map_nil, es, toS_ok, rsb_nx, ev_set, ek, List.set_cons_succ, List.set_cons_zero, ev_for, ev_d1L, em, ev_items_l]
  have all : ∀ b ∈ xs, ∃ l t : Nat, l + w ≤ W ∧ t + h ≤ H ∧ b = nB l t w h := fun b hb => by
    obtain ⟨l, t, h1, h2, h3⟩ := (allB_mem hw.2 _).mp hb
    exact ⟨l, t, h1, by omega, h3⟩
  have into : ∀ l t : Nat, l + w ≤ W → t + h ≤ H → nB l t w h ∈ xs := fun l t h1 h2 => (allB_mem hw.2 _).mpr ⟨l, t, h1, by omega, rfl⟩
  rcases pf_go (k + 4) bs xs .no all with ⟨l, t, h1, h2, h3, e⟩ | ⟨no, s5', e⟩
  · refine .inl ⟨l, t, h1, h2, h3, ?_⟩
    show den (k + 5 + 1) I_place_for _ = _
    rw [e0, red, e]
    rfl
  · have hc : ∀ l t : Nat, l + w ≤ W → t + h ≤ H → cnt bs l t w h ≠ 0 := fun l t h1 h2 => no l t (into l t h1 h2)
    refine .inr ⟨hc, ?_⟩
    obtain ⟨ds, eds⟩ := s_bars (k + 2) bs (W := W) (H := H) (by omega) (by omega) hw hh hc
    refine ⟨.tuple ds, ?_⟩
    show den (k + 5 + 1) I_place_for _ = _
    rw [e0, red, e]
    simp only [LP, rsb_nx, ev_ret, ev_dA, ev_args, ev_args0, ev_k, gS_zero, gS_succ, bnd_ok, ev_cD, List.map_cons, List.map_nil, eds, ev_tupAny, ev_tup2, toS_ok, outR_rt]
end KL
end
section
open PySem PySem.Spec PyProof.Rows L2 VS
namespace KL
variable [VS.Cl]

/-! ### the law -/
abbrev LW (ns ds : List Int) (tn : Nat) (W H : Nat) (bs : List Bx) (m : List (Ce × List Nat)) (kn : Nat) (s7 s8 s9 s10 s11 s12 s13 s14 s15 : Sl) : Dl := [.br ns, .sh (I2 ds), .sh (.int (tn : Nat)), .sh (scrD W H), .sh (lyD bs), .sh (.dict (lctD m)), .sh (.int (kn : Nat)), s7, s8, s9, s10, s11, s12, s13, s14, s15]
theorem cov_of {bs : List Bx} {c : Ce} : (cv (cont bs bs.length c)).isSome = covN bs c.1 c.2 := by
  rw [Bool.eq_iff_iff]
  unfold cv covN
  constructor
  · intro h
    split at h
    · cases h
    · rename_i hne
      obtain ⟨i, hi⟩ := List.exists_mem_of_ne_nil _ hne
      unfold cont at hi
      rw [List.mem_filter, List.mem_range] at hi
      obtain ⟨h1, h2⟩ := hi
      unfold inK at h2
      rw [List.getElem?_eq_getElem h1] at h2
      rw [List.any_eq_true]
      exact ⟨bs[i], List.getElem_mem _, h2⟩
  · intro h
    rw [List.any_eq_true] at h
    obtain ⟨b, hb, h⟩ := h
    obtain ⟨i, hi⟩ := List.mem_iff_getElem?.mp hb
    have hm : i ∈ cont bs bs.length c := by
      unfold cont
      rw [List.mem_filter, List.mem_range]
      refine ⟨(List.getElem?_eq_some_iff.mp hi).1, ?_⟩
      unfold inK
      rw [hi]
      exact h
    rw [if_neg (List.ne_nil_of_mem hm)]
    rfl
theorem in_cells {bs : List Bx} {m : List (Ce × List Nat)} (g : ∀ c, lkG m c = cv (cont bs bs.length c)) (c : Ce) : inD (ceD c) (.dict (lctD m)) = .ok (.bool (covN bs c.1 c.2)) := by
  have : inD (ceD c) (.dict (lctD m)) = (if kfit (lctD m) (ceD c) = true then .ok (.bool (lkD (lctD m) (ceD c)).isSome) else .no) := rfl
  rw [this, if_pos (kfit_enc ce_kind m c), lkD_enc ce_eqv, Option.isSome_map, g, cov_of]
def qB (bs : List Bx) (w h : Nat) (b : Bx) : Q3 := rowQ bs w h b.1.toNat b.2.1.toNat
theorem qB_n (bs : List Bx) (w h l t : Nat) : qB bs w h (nB l t w h) = rowQ bs w h l t := by
  unfold qB nB
  simp
noncomputable def kp3 (k : Nat) : Dl → RS := (seqS (setS 11 (dA (argsF [(lcD ([15]) (d1L itemsD (dA (argsF [(gS 10)]) (cD (den k I__law_in)))) (bN 15) (tB1 (d2 inD (gS 15) (gS 5))) (gS 15))]) lenD)) (seqS (appS 9 (dA (argsF [(gS 11), (d2 ixD (gS 10) (kC (.int 1))), (d2 ixD (gS 10) (kC (.int 0)))]) tupD)) (ifS (tAnd2 (tB1 (d2 eqD (d2 modI (dA (argsF [(d2 addD (d2 addD (d2 ixD (gS 1) (d2 addD (kC (.int 50)) (gS 6))) (d2 ixD (gS 10) (kC (.int 0)))) (d2 mulI (kC (.int 3)) (d2 ixD (gS 10) (kC (.int 1)))))]) intD) (kC (.int 7))) (kC (.int 0)))) (tB1 (d2 neD (dA (argsF [(gS 3), (gS 4), (gS 10)]) (cD (den k I_covered_cells))) (gS 11)))) (retS (kC (.bool false))) nxS)))
theorem p3_ev (k : Nat) (ns ds : List Int) (tn : Nat) {W H : Nat} {bs : List Bx} (o : OkL W H bs) {m : List (Ce × List Nat)} (g : ∀ c, lkG m c = cv (cont bs bs.length c)) {kn : Nat} {w h l t : Nat} (hl : l + w ≤ W) (ht : t + h ≤ H) (hw : 1 ≤ w) (hh : 1 ≤ h) {d : Int} (hd : ds[50 + kn]? = some d) (rows : List Q3) (hr : rows.length ≤ 1000) (s11 s12 s13 s14 s15 : Sl) :
    ∃ t11, kp3 (k + 6) (LW ns ds tn W H bs m kn (.sh (.int (w : Nat))) (.sh (.int (h : Nat))) (.ow (.list (rows.map q3D))) (.sh (bxD (nB l t w h))) s11 s12 s13 s14 s15) =
      .nx (LW ns ds tn W H bs m kn (.sh (.int (w : Nat))) (.sh (.int (h : Nat))) (.ow (.list ((rows ++ [rowQ bs w h l t]).map q3D))) (.sh (bxD (nB l t w h))) t11 s12 s13 s14 s15) := by
  have hs : sizeLine = 16777216 := sz_line
  have ob := nB_ok (w := w) (h := h) hl ht hw hh
  have ei := s_law_in (k + 5) (W := W) (H := H) o.w2 o.h2 ob
  have hlen := boxC_len o.w2 o.h2 ob
  have e1 : lcL (bN 15) (tB1 (d2 inD (gS 15) (gS 5))) (gS 15) (LW ns ds tn W H bs m kn (.sh (.int (w : Nat))) (.sh (.int (h : Nat))) (.ow (.list (rows.map q3D))) (.sh (bxD (nB l t w h))) s11 s12 s13 s14 .no) ((boxC (nB l t w h)).map ceD) = .ok (((boxC (nB l t w h)).filter fun c => covN bs c.1 c.2).map ceD) := by
    refine lcL_on ceD (fun c => covN bs c.1 c.2) ceD _ fun c hc => ⟨_, rfl, ?_, fun _ => ?_⟩
    · simp only [ev_tB1, ev_d2, List.set_cons_succ, List.set_cons_zero, gS_succ, gS_zero, bnd_ok, in_cells g, ev_asB]
    · simp only [List.set_cons_succ, List.set_cons_zero, gS_succ, gS_zero]
  have ln : ((boxC (nB l t w h)).map ceD).length ≤ sizeLine := by rw [List.length_map]; omega
  have ec : ((((boxC (nB l t w h)).filter fun c => covN bs c.1 c.2).map ceD).length : Int) = (cnt bs l t w h : Nat) := by
    rw [List.length_map]
    rfl
  have ed : atI (ds.map PyData.int) (50 + (kn : Int)) = some (.int d) := by
    have : (50 : Int) + (kn : Nat) = ((50 + kn : Nat) : Int) := by omega
    rw [this]
    exact at_nat (by rw [List.getElem?_map, hd]; rfl)
  have ev := s_covered k o hl ht hw hh
  have em : mulI (.int 3) (.int (t : Nat)) = .ok (.int (3 * (t : Nat))) := ev_mul (.inl (by omega))
  have ene : neD (.int (cnt bs l t w h : Nat)) (.int (cnt bs l t w h : Nat)) = .ok (.bool false) := by simp
  refine ⟨.sh (.int (cnt bs l t w h : Nat)), ?_⟩
  have ecount : (setS 11 (dA (argsF [(lcD ([15]) (d1L itemsD (dA (argsF [(gS 10)]) (cD (den (k + 6) I__law_in)))) (bN 15) (tB1 (d2 inD (gS 15) (gS 5))) (gS 15))]) lenD)) (LW ns ds tn W H bs m kn (.sh (.int (w : Nat))) (.sh (.int (h : Nat))) (.ow (.list (rows.map q3D))) (.sh (bxD (nB l t w h))) s11 s12 s13 s14 s15) = .nx (LW ns ds tn W H bs m kn (.sh (.int (w : Nat))) (.sh (.int (h : Nat))) (.ow (.list (rows.map q3D))) (.sh (bxD (nB l t w h))) (.sh (.int (cnt bs l t w h : Nat))) s12 s13 s14 s15) := by
    simp only [LW] at e1 ⊢
    simp only [ev_set, ev_dA, ev_args, ev_args0, ev_lc, ev_d1L, gS_succ, gS_zero, bnd_ok, ev_cD, List.map_cons, List.map_nil, ei, ev_items_l, if_pos ln, ev_wipe, ev_wipe0, List.set_cons_succ, List.set_cons_zero, e1, ev_lenL, ec, toS_ok]
  have eapp : (appS 9 (dA (argsF [(gS 11), (d2 ixD (gS 10) (kC (.int 1))), (d2 ixD (gS 10) (kC (.int 0)))]) tupD)) (LW ns ds tn W H bs m kn (.sh (.int (w : Nat))) (.sh (.int (h : Nat))) (.ow (.list (rows.map q3D))) (.sh (bxD (nB l t w h))) (.sh (.int (cnt bs l t w h : Nat))) s12 s13 s14 s15) = .nx (LW ns ds tn W H bs m kn (.sh (.int (w : Nat))) (.sh (.int (h : Nat))) (.ow (.list ((rows ++ [rowQ bs w h l t]).map q3D))) (.sh (bxD (nB l t w h))) (.sh (.int (cnt bs l t w h : Nat))) s12 s13 s14 s15) := by
    rw [ev_app (xs := rows.map q3D) (d := q3D (rowQ bs w h l t)) rfl ?_ (by rw [List.length_map]; omega)]
    · rw [List.map_append]
      rfl
    · simp only [LW, ev_dA, ev_args, ev_args0, ev_d2, gS_succ, gS_zero, bnd_ok, ev_k, bx_0, bx_1, ev_tup3, q3D]
  unfold kp3
  rw [ev_seq, ecount, rsb_nx, ev_seq, eapp, rsb_nx]
  simp only [LW, ev_if, ev_tAnd, ev_tB1, ev_d2, ev_dA, ev_args, ev_args0, gS_succ, gS_zero, bnd_ok, ev_k, ev_addI, ix_l, I2, ed, ofO_some, bx_0, bx_1, em, ev_intI, ev_mod (show (0 : Int) < 7 by decide), ev_eqI, ev_asB, ev_cD, List.map_cons, List.map_nil, ev, ene]
  split <;> rfl
/-! one width and height -/
noncomputable def kp1 : Dl → RS := (parS [7, 8] (argsM [(false, (d2 addD (kC (.int 1)) (d2 modI (dA (argsF [(d2 ixD (gS 1) (d2 addD (kC (.int 40)) (gS 6)))]) intD) (d2 ixD (gS 3) (kC (.int 0)))))), (false, (d2 addD (kC (.int 1)) (d2 modI (dA (argsF [(d2 ixD (gS 1) (d2 addD (kC (.int 45)) (gS 6)))]) intD) (d2 ixD (gS 3) (kC (.int 1))))))]))
noncomputable def kp7 (k : Nat) : Dl → RS := (ifS (tB1 (d2 neD (d2 eqD (gS 11) (kC (.int 0))) (d2 eqD (d2 ixD (dA (argsF [(gS 3), (gS 4), (gS 7), (gS 8)]) (cD (den k I_place_for))) (kC (.int 0))) (kC (.str "free"))))) (retS (kC (.bool false))) nxS)
noncomputable def kp6 (k : Nat) : Dl → RS := (ifS (tOr2 (tB1 (d2 neD (gS 14) (dA (argsF [(gS 11), (dA (argsF [(gS 13), (gS 12), (gS 7), (gS 8)]) tupD)]) tupD))) (tOr2 (tB1 (d1 (isiD .tBool) (d2 ixD (gS 14) (kC (.int 0))))) (tB1 (d2 neD (dA (argsF [(gS 3), (gS 4), (d2 ixD (gS 14) (kC (.int 1)))]) (cD (den k I_covered_cells))) (gS 11))))) (retS (kC (.bool false))) nxS)
theorem p1_ev (ns ds : List Int) (tn : Nat) {W H : Nat} {bs : List Bx} {m : List (Ce × List Nat)} {kn : Nat} (hW : 1 ≤ W) (hH : 1 ≤ H) (ok : okDr ds) (hl : ds.length = 60) (hk : kn < 5) (s7 s8 s9 s10 s11 s12 s13 s14 s15 : Sl) :
    ∃ w h : Nat, (1 ≤ w ∧ w ≤ W) ∧ (1 ≤ h ∧ h ≤ H) ∧ kp1 (LW ns ds tn W H bs m kn s7 s8 s9 s10 s11 s12 s13 s14 s15) = .nx (LW ns ds tn W H bs m kn (.sh (.int (w : Nat))) (.sh (.int (h : Nat))) s9 s10 s11 s12 s13 s14 s15) := by
  have at' : ∀ i : Nat, i < 60 → ∃ d, ds[i]? = some d ∧ 0 ≤ d := fun i hi => ⟨ds[i]'(by omega), List.getElem?_eq_getElem _, (ok _ (List.getElem_mem _)).1⟩
  obtain ⟨d, hd, pd⟩ := at' (40 + kn) (by omega)
  obtain ⟨e, he, pe⟩ := at' (45 + kn) (by omega)
  have ad : atI (ds.map PyData.int) (40 + (kn : Int)) = some (.int d) := by
    have : (40 : Int) + (kn : Nat) = ((40 + kn : Nat) : Int) := by omega
    rw [this]
    exact at_nat (by rw [List.getElem?_map, hd]; rfl)
  have ae : atI (ds.map PyData.int) (45 + (kn : Int)) = some (.int e) := by
    have : (45 : Int) + (kn : Nat) = ((45 + kn : Nat) : Int) := by omega
    rw [this]
    exact at_nat (by rw [List.getElem?_map, he]; rfl)
  have r1 := Int.emod_nonneg d (show (W : Int) ≠ 0 by omega)
  have r2 := Int.emod_lt_of_pos d (show 0 < (W : Int) by omega)
  have r3 := Int.emod_nonneg e (show (H : Int) ≠ 0 by omega)
  have r4 := Int.emod_lt_of_pos e (show 0 < (H : Int) by omega)
  obtain ⟨w, ew⟩ : ∃ w : Nat, 1 + d % (W : Int) = (w : Nat) := ⟨(1 + d % (W : Int)).toNat, by omega⟩
  obtain ⟨h, eh⟩ : ∃ h : Nat, 1 + e % (H : Int) = (h : Nat) := ⟨(1 + e % (H : Int)).toNat, by omega⟩
  refine ⟨w, h, by omega, by omega, ?_⟩
  simp only [kp1, LW, ev_par, ev_argsMf, ev_argsM0, ev_d2, ev_dA, ev_args, ev_args0, gS_zero, gS_succ, ev_k, bnd_ok, ev_addI, ix_l, I2, ad, ae, ofO_some, ev_intI, scr_0, scr_1, ev_mod (show (0 : Int) < W by omega), ev_mod (show (0 : Int) < H by omega), ew, eh, toS_ok, List.length_cons, List.length_nil, if_true, ev_bindM, ev_bindM0, List.set_cons_succ, List.set_cons_zero]
theorem ev_neB (a b : Bool) : neD (.bool a) (.bool b) = .ok (.bool (!(a == b))) := by rw [neD_of (by simp) (by simp)]; simp [PyData.eqv]
noncomputable def turnK (k : Nat) : Dl → RS := (seqS kp1 (seqS (setO 9 (dA (argsF []) lstD)) (seqS (forS (d1L itemsD (dA (argsF [(gS 3), (gS 7), (gS 8)]) (cD (den k I__law_all)))) (bN 10) (kp3 k)) (seqS (asgS (bT 3 (bCons (bN 11) (bCons (bN 12) (bCons (bN 13) bNil)))) (dA (argsF [(gB 9)]) minL)) (seqS (setS 14 (dA (argsF [(gS 3), (gS 4), (gS 7), (gS 8)]) (cD (den k I_least_cover)))) (seqS (kp6 k) (kp7 k)))))))
theorem turnK_ev (k : Nat) (ns ds : List Int) (tn : Nat) {W H : Nat} {bs : List Bx} (o : OkL W H bs) {m : List (Ce × List Nat)} (g : ∀ c, lkG m c = cv (cont bs bs.length c)) {kn : Nat} (ok : okDr ds) (hl : ds.length = 60) (hk : kn < 5) (s7 s8 s9 s10 s11 s12 s13 s14 s15 : Sl) :
    ∃ t7 t8 t9 t10 t11 t12 t13 t14, turnK (k + 6) (LW ns ds tn W H bs m kn s7 s8 s9 s10 s11 s12 s13 s14 s15) = .nx (LW ns ds tn W H bs m kn t7 t8 t9 t10 t11 t12 t13 t14 s15) := by
  have hs : sizeLine = 16777216 := sz_line
  have hW := o.w2
  have hH := o.h2
  have hW1 := o.w1
  have hH1 := o.h1
  obtain ⟨w, h, hw, hh, e1⟩ := p1_ev ns ds tn (bs := bs) (m := m) (W := W) (H := H) (by omega) (by omega) ok hl hk s7 s8 s9 s10 s11 s12 s13 s14 s15
  obtain ⟨d, hd⟩ : ∃ d, ds[50 + kn]? = some d := ⟨ds[50 + kn]'(by omega), List.getElem?_eq_getElem _⟩
  let xs := allB W w h (H - h + 1)
  have lx : xs.length ≤ 120 := allB_len' (h := h) (by omega) (by omega) hw.1
  have el : den (k + 6) I__law_all [.sh (scrD W H), .sh (.int (w : Nat)), .sh (.int (h : Nat))] = .ok (.list (xs.map bxD)) := s_law_all (k + 5) (W := W) (H := H) (by omega) (by omega) hw hh
  obtain ⟨δ', e, t10, t11, rfl⟩ := goS_inv0 (b := bN 10) (body := kp3 (k + 6)) (ds := xs.map bxD) (δ := LW ns ds tn W H bs m kn (.sh (.int (w : Nat))) (.sh (.int (h : Nat))) (.ow (.list [])) s10 s11 s12 s13 s14 s15)
    (fun j δ => ∃ t10 t11, δ = LW ns ds tn W H bs m kn (.sh (.int (w : Nat))) (.sh (.int (h : Nat))) (.ow (.list (((xs.take j).map (qB bs w h)).map q3D))) t10 t11 s12 s13 s14 s15) ⟨s10, s11, rfl⟩ (by
    rintro j d' δ hj ⟨t10, t11, rfl⟩
    rw [List.getElem?_map] at hj
    obtain ⟨b, hb, rfl⟩ := Option.map_eq_some_iff.mp hj
    obtain ⟨hlt, _⟩ := List.getElem?_eq_some_iff.mp hb
    have et : xs.take (j + 1) = xs.take j ++ [b] := by rw [List.take_add_one, hb]; rfl
    obtain ⟨l, t, h1, h2, rfl⟩ := (allB_mem hw.2 _).mp (List.mem_of_getElem? hb)
    obtain ⟨u11, e⟩ := p3_ev k ns ds tn o g (kn := kn) h1 (show t + h ≤ H by omega) hw.1 hh.1 hd ((xs.take j).map (qB bs w h)) (by simp only [List.length_map, List.length_take]; omega) t11 s12 s13 s14 s15
    refine ⟨_, _, rfl, .inl e, .sh (bxD (nB l t w h)), u11, ?_⟩
    have eq1 : (xs.take (j + 1)).map (qB bs w h) = (xs.take j).map (qB bs w h) ++ [rowQ bs w h l t] := by
      rw [et, List.map_append, List.map_singleton, qB_n]
    rw [eq1])
  rw [List.length_map, List.take_length] at e
  have sub : ∀ q ∈ xs.map (qB bs w h), ∃ l t : Nat, l + w ≤ W ∧ t + h ≤ H ∧ q = rowQ bs w h l t := fun q hq => by
    obtain ⟨b, hb, rfl⟩ := List.mem_map.mp hq
    obtain ⟨l, t, h1, h2, rfl⟩ := (allB_mem hw.2 _).mp hb
    exact ⟨l, t, h1, by omega, qB_n _ _ _ _ _⟩
  have all : ∀ l t : Nat, l + w ≤ W → t + h ≤ H → rowQ bs w h l t ∈ xs.map (qB bs w h) := fun l t h1 h2 =>
    List.mem_map.mpr ⟨nB l t w h, (allB_mem hw.2 _).mpr ⟨l, t, h1, by omega, rfl⟩, qB_n _ _ _ _ _⟩
  obtain ⟨q, hq, em, hlq⟩ := ev_min3 (xs.map (qB bs w h)) (List.ne_nil_of_mem (all 0 0 (by omega) (by omega)))
  obtain ⟨l, t, il, rfl⟩ := isL_of sub all hq hlq
  obtain ⟨l', t', il', ec⟩ := s_least k o hw hh
  obtain ⟨rfl, rfl⟩ := il.uniq il'
  have ecv := s_covered k o il.r il.d hw.1 hh.1
  have d1 : dn 60 (.tuple [.int (cnt bs l t w h : Nat), .tuple [.int (l : Nat), .int (t : Nat), .int (w : Nat), .int (h : Nat)]]) = true := by simp
  have q1 := ne_self d1
  have q2 : neD (.int (cnt bs l t w h : Nat)) (.int (cnt bs l t w h : Nat)) = .ok (.bool false) := by simp
  have ebd : bT 3 (bCons (bN 11) (bCons (bN 12) (bCons (bN 13) bNil))) (q3D (rowQ bs w h l t)) (LW ns ds tn W H bs m kn (.sh (.int (w : Nat))) (.sh (.int (h : Nat))) (.ow (.list ((xs.map (qB bs w h)).map q3D))) t10 t11 s12 s13 s14 s15) = some (LW ns ds tn W H bs m kn (.sh (.int (w : Nat))) (.sh (.int (h : Nat))) (.ow (.list ((xs.map (qB bs w h)).map q3D))) t10 (.sh (.int (cnt bs l t w h : Nat))) (.sh (.int (t : Nat))) (.sh (.int (l : Nat))) s14 s15) := rfl
  have x0 : ixD (.tuple [.int (cnt bs l t w h : Nat), bxD (nB l t w h)]) (.int 0) = .ok (.int (cnt bs l t w h : Nat)) := by simp
  have x1 : ixD (.tuple [.int (cnt bs l t w h : Nat), bxD (nB l t w h)]) (.int 1) = .ok (bxD (nB l t w h)) := by simp
  have hb6 : kp6 (k + 6) (LW ns ds tn W H bs m kn (.sh (.int (w : Nat))) (.sh (.int (h : Nat))) (.ow (.list ((xs.map (qB bs w h)).map q3D))) t10 (.sh (.int (cnt bs l t w h : Nat))) (.sh (.int (t : Nat))) (.sh (.int (l : Nat))) (.sh (.tuple [.int (cnt bs l t w h : Nat), bxD (nB l t w h)])) s15) = .nx (LW ns ds tn W H bs m kn (.sh (.int (w : Nat))) (.sh (.int (h : Nat))) (.ow (.list ((xs.map (qB bs w h)).map q3D))) t10 (.sh (.int (cnt bs l t w h : Nat))) (.sh (.int (t : Nat))) (.sh (.int (l : Nat))) (.sh (.tuple [.int (cnt bs l t w h : Nat), bxD (nB l t w h)])) s15) := by
    have q1' : neD (.tuple [.int (cnt bs l t w h : Nat), bxD (nB l t w h)]) (.tuple [.int (cnt bs l t w h : Nat), .tuple [.int (l : Nat), .int (t : Nat), .int (w : Nat), .int (h : Nat)]]) = .ok (.bool false) := q1
    simp only [kp6, LW, ev_if, ev_tOr, ev_tB1, ev_d2, ev_d1, ev_dA, ev_args, ev_args0, gS_succ, gS_zero, bnd_ok, ev_k, ev_tup4, ev_tup2, q1', ev_asB, if_neg Bool.false_ne_true, x0, x1, ev_isi_i, isT, ev_cD, List.map_cons, List.map_nil, ecv, q2, toS_ok, ev_nx]
  have hb7 : kp7 (k + 6) (LW ns ds tn W H bs m kn (.sh (.int (w : Nat))) (.sh (.int (h : Nat))) (.ow (.list ((xs.map (qB bs w h)).map q3D))) t10 (.sh (.int (cnt bs l t w h : Nat))) (.sh (.int (t : Nat))) (.sh (.int (l : Nat))) (.sh (.tuple [.int (cnt bs l t w h : Nat), bxD (nB l t w h)])) s15) = .nx (LW ns ds tn W H bs m kn (.sh (.int (w : Nat))) (.sh (.int (h : Nat))) (.ow (.list ((xs.map (qB bs w h)).map q3D))) t10 (.sh (.int (cnt bs l t w h : Nat))) (.sh (.int (t : Nat))) (.sh (.int (l : Nat))) (.sh (.tuple [.int (cnt bs l t w h : Nat), bxD (nB l t w h)])) s15) := by
    rcases s_place k o hw hh with ⟨l', t', h1, h2, h3, ep⟩ | ⟨no, v, ep⟩
    · have z : ((cnt bs l t w h : Nat) : Int) = 0 := by
        have := il.mn l' t' h1 h2
        unfold ltQ at this
        omega
      have x2 : ixD (.tuple [.str "free", bxD (nB l' t' w h)]) (.int 0) = .ok (.str "free") := by simp
      simp only [kp7, LW, ev_if, ev_tB1, ev_d2, ev_dA, ev_args, ev_args0, gS_succ, gS_zero, bnd_ok, ev_k, ev_eqI, decide_eq_true z, ev_cD, List.map_cons, List.map_nil, ep, x2, ev_eqS, decide_true, ev_neB, ev_asB, toS_ok]
      rfl
    · have z : ¬ ((cnt bs l t w h : Nat) : Int) = 0 := by
        have := no l t il.r il.d
        omega
      have x2 : ixD (.tuple [.str "barred", v]) (.int 0) = .ok (.str "barred") := by simp
      have nb : decide (("barred" : Str) = "free") = false := by decide
      simp only [kp7, LW, ev_if, ev_tB1, ev_d2, ev_dA, ev_args, ev_args0, gS_succ, gS_zero, bnd_ok, ev_k, ev_eqI, decide_eq_false z, ev_cD, List.map_cons, List.map_nil, ep, x2, ev_eqS, nb, ev_neB, ev_asB, toS_ok]
      rfl
  refine ⟨.sh (.int (w : Nat)), .sh (.int (h : Nat)), .ow (.list ((xs.map (qB bs w h)).map q3D)), t10, .sh (.int (cnt bs l t w h : Nat)), .sh (.int (t : Nat)), .sh (.int (l : Nat)), .sh (.tuple [.int (cnt bs l t w h : Nat), bxD (nB l t w h)]), ?_⟩
  unfold turnK
  rw [ev_seq, e1, rsb_nx]
  generalize kp3 (k + 6) = body3 at e ⊢
  generalize kp6 (k + 6) = body6 at hb6 ⊢
  generalize kp7 (k + 6) = body7 at hb7 ⊢
  simp only [LW] at e ebd hb6 hb7
  simp only [LW, ev_seq, ev_setO, ev_dA, ev_args, ev_args0, bnd_ok, ev_lst0, toS_ok, List.set_cons_succ, List.set_cons_zero, rsb_nx, ev_for, ev_d1L, gS_succ, gS_zero, ev_cD, List.map_cons, List.map_nil, el, ev_items_l, e, ev_asg, gB_succ, gB_zero', em, ebd, ev_set, ec, hb6, hb7]
end KL
end
section
open PySem PySem.Spec PyProof.Rows L2 VS
namespace KL
variable [VS.Cl]

/-! ### one turn -/
abbrev L0 (ns ds : List Int) (s2 s3 s4 s5 s6 s7 s8 s9 s10 s11 s12 s13 s14 s15 : Sl) : Dl := [.br ns, .sh (I2 ds), s2, s3, s4, s5, s6, s7, s8, s9, s10, s11, s12, s13, s14, s15]
noncomputable def v0 (k : Nat) : Dl → RS := (asgS (bT 2 (bCons (bN 3) (bCons (bN 4) bNil))) (dA (argsF [(d2 addD (dSl slA (gS 1) (someP (d2 mulI (kC (.int 9)) (gS 2))) noP) (dSl slA (gS 1) noP (someP (d2 mulI (kC (.int 9)) (gS 2))))), (kC (.int 6))]) (cD (den k I__law_screen))))
theorem v0_ev (k : Nat) (ns ds : List Int) (ok : okDr ds) (hl : ds.length = 60) (j : Nat) (hj : j < 6) (s3 s4 s5 s6 s7 s8 s9 s10 s11 s12 s13 s14 s15 : Sl) :
    ∃ (W H : Nat) (bs : List Bx), v0 (k + 1) (L0 ns ds (.sh (.int (j : Nat))) s3 s4 s5 s6 s7 s8 s9 s10 s11 s12 s13 s14 s15) = .nx (L0 ns ds (.sh (.int (j : Nat))) (.sh (scrD W H)) (.sh (lyD bs)) s5 s6 s7 s8 s9 s10 s11 s12 s13 s14 s15) ∧ OkL W H bs := by
  have hs : sizeLine = 16777216 := sz_line
  have em : mulI (.int 9) (.int (j : Nat)) = .ok (.int ((9 * j : Nat) : Int)) := by
    rw [ev_mul (.inl (by omega))]
    congr 2
  have l1 : (ds.drop (9 * j) ++ ds.take (9 * j)).length = 60 := by
    rw [List.length_append, List.length_drop, List.length_take]
    omega
  obtain ⟨W, H, bs, e, o⟩ := s_lscreen k (ds.drop (9 * j) ++ ds.take (9 * j)) (fun d hd => by
    rcases List.mem_append.mp hd with h | h
    · exact ok d (List.mem_of_mem_drop h)
    · exact ok d (List.mem_of_mem_take h)) l1
  have hW := o.w1
  have hH := o.h1
  obtain ⟨W', eW⟩ : ∃ n : Nat, W = n := ⟨W.toNat, by omega⟩
  obtain ⟨H', eH⟩ : ∃ n : Nat, H = n := ⟨H.toNat, by omega⟩
  subst eW
  subst eH
  refine ⟨W', H', bs, ?_, o⟩
  have c1 : cutD (ds.map .int) (some ((9 * j : Nat) : Int)) none = (ds.drop (9 * j)).map .int := by
    rw [cut_from _ _ (by rw [List.length_map]; omega), List.map_drop]
  have c2 : cutD (ds.map .int) none (some ((9 * j : Nat) : Int)) = (ds.take (9 * j)).map .int := by
    rw [cut_len, List.map_take]
  have ea : addD (.list ((ds.drop (9 * j)).map .int)) (.list ((ds.take (9 * j)).map .int)) = .ok (I2 (ds.drop (9 * j) ++ ds.take (9 * j))) := by
    rw [ev_addL (by simp; omega)]
    unfold I2
    rw [List.map_append]
  have eb : bT 2 (bCons (bN 3) (bCons (bN 4) bNil)) (.tuple [scrD W' H', lyD bs]) (L0 ns ds (.sh (.int (j : Nat))) s3 s4 s5 s6 s7 s8 s9 s10 s11 s12 s13 s14 s15) = some (L0 ns ds (.sh (.int (j : Nat))) (.sh (scrD W' H')) (.sh (lyD bs)) s5 s6 s7 s8 s9 s10 s11 s12 s13 s14 s15) := rfl
  simp only [L0] at eb
  simp only [v0, L0, ev_asg, ev_dA, ev_args, ev_args0, ev_d2, dSl, gS_succ, gS_zero, bnd_ok, someP, noP, ev_k, em, asI, slA, I2, c1, c2]
  simp only [I2] at ea e
  simp only [ea, bnd_ok, ev_cD, List.map_cons, List.map_nil, e, toS_ok]
  rw [eb]
noncomputable def turnB (k : Nat) : Dl → RS := (seqS (v0 k) (seqS (setS 5 (dA (argsF [(gS 4)]) (cD (den k I__law_cells)))) (forS (dAL (argsF [(kC (.int 5))]) rng1D) (bN 6) (turnK k))))
theorem turn_ev (k : Nat) (ns ds : List Int) (ok : okDr ds) (hl : ds.length = 60) (j : Nat) (hj : j < 6) (s3 s4 s5 s6 s7 s8 s9 s10 s11 s12 s13 s14 s15 : Sl) :
    ∃ t3 t4 t5 t6 t7 t8 t9 t10 t11 t12 t13 t14 t15, turnB (k + 6) (L0 ns ds (.sh (.int (j : Nat))) s3 s4 s5 s6 s7 s8 s9 s10 s11 s12 s13 s14 s15) = .nx (L0 ns ds (.sh (.int (j : Nat))) t3 t4 t5 t6 t7 t8 t9 t10 t11 t12 t13 t14 t15) := by
  obtain ⟨W, H, bs, e0, o⟩ := v0_ev (k + 5) ns ds ok hl j hj s3 s4 s5 s6 s7 s8 s9 s10 s11 s12 s13 s14 s15
  obtain ⟨m, em, g, nd, hm⟩ := s_lcells (k + 5) o
  obtain ⟨δ', e, t6, t7, t8, t9, t10, t11, t12, t13, t14, t15, rfl⟩ := goS_inv0 (b := bN 6) (body := turnK (k + 6)) (ds := nums 5) (δ := L0 ns ds (.sh (.int (j : Nat))) (.sh (scrD W H)) (.sh (lyD bs)) (.sh (.dict (lctD m))) s6 s7 s8 s9 s10 s11 s12 s13 s14 s15)
    (fun _ δ => ∃ t6 t7 t8 t9 t10 t11 t12 t13 t14 t15, δ = L0 ns ds (.sh (.int (j : Nat))) (.sh (scrD W H)) (.sh (lyD bs)) (.sh (.dict (lctD m))) t6 t7 t8 t9 t10 t11 t12 t13 t14 t15) ⟨s6, s7, s8, s9, s10, s11, s12, s13, s14, s15, rfl⟩ (by
    rintro i d δ hi ⟨t6, t7, t8, t9, t10, t11, t12, t13, t14, t15, rfl⟩
    obtain ⟨hin, rfl⟩ := nums_at hi
    obtain ⟨u7, u8, u9, u10, u11, u12, u13, u14, e⟩ := turnK_ev k ns ds j o g ok hl hin t7 t8 t9 t10 t11 t12 t13 t14 t15
    exact ⟨_, _, rfl, .inl e, _, u7, u8, u9, u10, u11, u12, u13, u14, _, rfl⟩)
  refine ⟨.sh (scrD W H), .sh (lyD bs), .sh (.dict (lctD m)), t6, t7, t8, t9, t10, t11, t12, t13, t14, t15, ?_⟩
  have er : rng1D [PyData.int 5] = .ok (nums 5) := rng1_n 5 (by decide)
  unfold turnB
  rw [ev_seq, e0, rsb_nx]
  generalize turnK (k + 6) = body at e ⊢
  simp only [L0] at e
  simp only [L0, ev_seq, ev_set, ev_dA, ev_args, ev_args0, gS_succ, gS_zero, bnd_ok, ev_cD, List.map_cons, List.map_nil, em, toS_ok, List.set_cons_succ, List.set_cons_zero, rsb_nx, ev_for, ev_dAL, ev_k, er, e]
theorem o_one : OkL (4 : Nat) (4 : Nat) [nB 0 0 2 4] := ⟨by decide, by decide, by decide, by decide, by decide, fun b hb => by
  have : b = nB 0 0 2 4 := by simpa using hb
  subst this
  exact ⟨by decide, by decide, by decide, by decide, by decide, by decide⟩⟩
theorem o_two : OkL (2 : Nat) (2 : Nat) [nB 0 0 2 2] := ⟨by decide, by decide, by decide, by decide, by decide, fun b hb => by
  have : b = nB 0 0 2 2 := by simpa using hb
  subst this
  exact ⟨by decide, by decide, by decide, by decide, by decide, by decide⟩⟩
theorem l_one : IsL [nB 0 0 2 4] 4 4 2 2 2 0 := ⟨by decide, by decide, fun l t hl ht => by
  have c0 : cnt [nB 0 0 2 4] 2 0 2 2 = 0 := by decide
  have c1 : cnt [nB 0 0 2 4] 0 0 2 2 = 4 := by decide
  have c2 : cnt [nB 0 0 2 4] 1 0 2 2 = 2 := by decide
  unfold ltQ
  rw [c0]
  rintro (h | ⟨h1, h2 | ⟨h2, h3⟩⟩)
  · omega
  · omega
  · subst h2
    have : l = 0 ∨ l = 1 := by omega
    rcases this with rfl | rfl <;> omega⟩
theorem l_two : IsL [nB 0 0 2 2] 2 2 2 1 0 0 := ⟨by decide, by decide, fun l t hl ht => by
  have c0 : cnt [nB 0 0 2 2] 0 0 2 1 = 2 := by decide
  have c1 : cnt [nB 0 0 2 2] 0 1 2 1 = 2 := by decide
  have hl0 : l = 0 := by omega
  subst hl0
  unfold ltQ
  have : t = 0 ∨ t = 1 := by omega
  rcases this with rfl | rfl <;> omega⟩
theorem good (ns : List Int) (_ : ns.length ≤ 63) : den 60 I_law [.br ns] = .ok (.bool true) := by
  have hs : sizeLine = 16777216 := sz_line
  obtain ⟨ds, e1, hl, ok⟩ := s_draws 58 ns 60 (by decide)
  have e0 : den (59 + 1) I_law [.br ns] = outR (b_24 (den 59) [.br ns, .no, .no, .no, .no, .no, .no, .no, .no, .no, .no, .no, .no, .no, .no, .no]) := den_law _ _
  show den (59 + 1) I_law _ = _
  obtain ⟨δ', e, t2, t3, t4, t5, t6, t7, t8, t9, t10, t11, t12, t13, t14, t15, rfl⟩ := goS_inv0 (b := bN 2) (body := turnB 59) (ds := nums 5) (δ := L0 ns ds .no .no .no .no .no .no .no .no .no .no .no .no .no .no)
    (fun _ δ => ∃ t2 t3 t4 t5 t6 t7 t8 t9 t10 t11 t12 t13 t14 t15, δ = L0 ns ds t2 t3 t4 t5 t6 t7 t8 t9 t10 t11 t12 t13 t14 t15) ⟨.no, .no, .no, .no, .no, .no, .no, .no, .no, .no, .no, .no, .no, .no, rfl⟩ (by
    rintro j d δ hj ⟨t2, t3, t4, t5, t6, t7, t8, t9, t10, t11, t12, t13, t14, t15, rfl⟩
    obtain ⟨hjn, rfl⟩ := nums_at hj
    obtain ⟨u3, u4, u5, u6, u7, u8, u9, u10, u11, u12, u13, u14, u15, e⟩ := turn_ev 53 ns ds ok hl j (by omega) t3 t4 t5 t6 t7 t8 t9 t10 t11 t12 t13 t14 t15
    exact ⟨_, _, rfl, .inl e, _, _, _, _, _, _, _, _, _, _, _, _, _, _, rfl⟩)
  obtain ⟨l1, t1, i1, g1⟩ := s_least 53 o_one (w := 2) (h := 2) (by decide) (by decide)
  obtain ⟨rfl, rfl⟩ := l_one.uniq i1
  obtain ⟨l2, u2, i2, g2⟩ := s_least 53 o_two (w := 2) (h := 1) (by decide) (by decide)
  obtain ⟨rfl, rfl⟩ := l_two.uniq i2
  have c1 : cnt [nB 0 0 2 4] 2 0 2 2 = 0 := by decide
  have c2 : cnt [nB 0 0 2 2] 0 0 2 1 = 2 := by decide
  rw [c1] at g1
  rw [c2] at g2
  have g1' : den 59 I_least_cover [.sh (.tuple [.int 4, .int 4]), .sh (.tuple [.tuple [.int 0, .int 0, .int 2, .int 4]]), .sh (.int 2), .sh (.int 2)] = .ok (.tuple [.int 0, .tuple [.int 2, .int 0, .int 2, .int 2]]) := g1
  have g2' : den 59 I_least_cover [.sh (.tuple [.int 2, .int 2]), .sh (.tuple [.tuple [.int 0, .int 0, .int 2, .int 2]]), .sh (.int 2), .sh (.int 1)] = .ok (.tuple [.int 2, .tuple [.int 0, .int 0, .int 2, .int 1]]) := g2
  have q1 := eq_self (d := .tuple [.int 0, .tuple [.int 2, .int 0, .int 2, .int 2]]) (by decide)
  have q2 := eq_self (d := .tuple [.int 2, .tuple [.int 0, .int 0, .int 2, .int 1]]) (by decide)
  have er : rng1D [PyData.int 5] = .ok (nums 5) := rng1_n 5 (by decide)
  have esc : dScr 0 (kC (.int 60)) (den 59 I__law_draws) [.br ns, .no, .no, .no, .no, .no, .no, .no, .no, .no, .no, .no, .no, .no, .no, .no] = .ok (.list (ds.map .int)) := by
    have : dScr 0 (kC (.int 60)) (den 59 I__law_draws) [.br ns, .no, .no, .no, .no, .no, .no, .no, .no, .no, .no, .no, .no, .no, .no, .no] = den 59 I__law_draws [.br ns, .sh (.int 60)] := rfl
    rw [this]
    exact e1
  have eb : b_24 (den 59) = (seqS (setS 1 (dScr 0 (kC (.int 60)) (den 59 I__law_draws))) (seqS (forS (dAL (argsF [(kC (.int 5))]) rng1D) (bN 2) (turnB 59)) (retS (dAnd (d2 eqD (dA (argsF [(dA (argsF [(kC (.int 4)), (kC (.int 4))]) tupD), (dA (argsF [(dA (argsF [(kC (.int 0)), (kC (.int 0)), (kC (.int 2)), (kC (.int 4))]) tupD)]) tupD), (kC (.int 2)), (kC (.int 2))]) (cD (den 59 I_least_cover))) (dA (argsF [(kC (.int 0)), (dA (argsF [(kC (.int 2)), (kC (.int 0)), (kC (.int 2)), (kC (.int 2))]) tupD)]) tupD)) (d2 eqD (dA (argsF [(dA (argsF [(kC (.int 2)), (kC (.int 2))]) tupD), (dA (argsF [(dA (argsF [(kC (.int 0)), (kC (.int 0)), (kC (.int 2)), (kC (.int 2))]) tupD)]) tupD), (kC (.int 2)), (kC (.int 1))]) (cD (den 59 I_least_cover))) (dA (argsF [(kC (.int 2)), (dA (argsF [(kC (.int 0)), (kC (.int 0)), (kC (.int 2)), (kC (.int 1))]) tupD)]) tupD)))))) := rfl
  rw [e0, eb]
  generalize turnB 59 = body at e ⊢
  simp only [L0, I2] at e
  simp only [ev_seq, ev_set, esc, toS_ok, List.set_cons_succ, List.set_cons_zero, rsb_nx, ev_for, ev_dAL, ev_args, ev_args0, ev_k, bnd_ok, er, e]
  simp only [ev_ret, ev_and, ev_d2, ev_dA, ev_args, ev_args0, ev_k, bnd_ok, ev_tup1, ev_tup2, ev_tup4, ev_cD, List.map_cons, List.map_nil, g1', g2', q1, q2, ev_asB, if_true, toS_ok, outR_rt]
end KL
end
theorem PySem.Challenge.cw_windowwright_k36_whole_least_cover_holds : PySem.Challenge.rw_windowwright_k36_whole_least_cover.Holds := by
  exact KL.holds KL.good
